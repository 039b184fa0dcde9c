import PyProof.Rows.All
import Wide.All
import OpenK.AllK
import Wide.FinOn
import HandS.ForMost
import HandS.Set
import HandS.SetFor
import HandS.SetTxt0
import HandS.Strs
import HandS.More
import HandS.ExcSuper
import HandS.ExcInit
import HandS.ExcCtx
import HandS.ExcOwn
import KE.KExcSuper
import HandS.HeadHook2
import HandS.ExcIs
import HandS.ExcField
import HandS.IsInst
import HandS.Wide
import HandS.TupAny
import KE.DataCmp
import KE.DataEq
import HandS.Defaults
import HandS.HeadHook1
import KE.KRevSl
import KE.GoesMore
import PyProof.Draws
import PyProof.EnumMake
import KE.DataMinMax
import HandS.TupSets
import HandS.Text
import HandS.Dict
import HandS.WordsExc
import HandS.Small
import HandS.Iter
import PyProof.Rows.StrRev
import PyProof.Rows.StrStep
import HandS.Zip0
import KE.GoesEnum
import PyProof.StrOps2
import HandS.WordsDict
import HandS.ListItems
import HandS.DictComp
import HandS.NoneIn
import HandS.SortOrd
import HandS.SortRule
import HandS.Style
import HandS.TryOnly
import PyProof.InstNe
import HandS.OwnEq
import KE.LtData
import KE.SortData
import HandS.Zip
import HandS.DictEq
import HandS.Deep
import HandS.DeepEq
import PyProof.SeqIndex
import PyProof.Rows.SortWalk
import HandS.ExcValue
import KE.DataFind
import HandS.RaiseMore
import PySem.Challenge.RW_lockwright_k00_errors_of_the_package
import KE.KStateDown
import Lean
import HandS.HeadEnd
import HandS.Head2
import PyProof.StrLawsFirst
theorem Mq {α : Type _} {a b : α} {l : List α} (h : List.Mem a l) : List.Mem a (b :: l) := List.Mem.tail b h
set_option Elab.async false
set_option linter.all false
set_option maxRecDepth 100000
/-! S1: sets of texts. -/
namespace Sx
open PySem PySem.Spec PyProof.Rows L2 PySem.Froz
/-- the set at a holds the texts l -/
def SxR (P : Program) (w : World) (h : Heap) (a : Addr) (l : List Str) : Prop := ∃ es ep t, h.get? a = some (sObj "set" (es, ep, t)) ∧ TxOk P w (es, ep, t) l ∧ Ris t.place.toList ∧ (w.params.followText "set-order" = true ∨ t.led = true)
def put1 (l : List Str) (k : Str) : List Str := if k ∈ l then l else k :: l
section
variable {P : Program} {w : World} {A : Around} {E : Value → Shared → Prop} {s : Shared} {a : Addr} {l : List Str}
theorem SxR.at {h h' : Heap} (R : SxR P w h a l) (k : ∀ o, h.get? a = some o → h'.get? a = some o) : SxR P w h' a l := by
  obtain ⟨es, ep, t, e, r⟩ := R
  exact ⟨es, ep, t, k _ e, r⟩
def GotS (xs : List Str) (i : Nat) (l : List Str) : Prop := l.Nodup ∧ (∀ x, x ∈ l ↔ x ∈ xs.take i) ∧ l.length ≤ i
theorem GotS.step {xs : List Str} {i : Nat} {x : Str} (g : GotS xs i l) (h : xs[i]? = some x) : GotS xs (i + 1) (put1 l x) := by
  obtain ⟨g1, g2, g3⟩ := g
  have et : xs.take (i + 1) = xs.take i ++ [x] := by
    rw [List.take_add_one, h]
    rfl
  have hm : ∀ y, y ∈ put1 l x ↔ y ∈ xs.take (i + 1) := fun y => by
    rw [et, List.mem_append, List.mem_singleton, ← g2 y]
    unfold put1
    by_cases c : x ∈ l
    · rw [if_pos c]
      exact ⟨.inl, fun z => z.elim id fun e => e ▸ c⟩
    · rw [if_neg c, List.mem_cons]
      exact Or.comm
  refine ⟨?_, hm, ?_⟩
  · unfold put1
    by_cases c : x ∈ l
    · rw [if_pos c]; exact g1
    · rw [if_neg c]; exact List.nodup_cons.mpr ⟨c, g1⟩
  · unfold put1
    split
    · omega
    · rw [List.length_cons]; omega
section
variable {I : Addr} {fp wr : List Addr} {G : Array GenState → Array GenState → Prop} {n : Nat} {Pv : Nat → Value → Prop} {St : Nat → Shared → Prop} {R : Result → Shared → Prop}
end
end
end Sx

set_option Elab.async false
set_option linter.all false
set_option maxRecDepth 100000
/-! S2: set(xs) of texts. -/
namespace Sx
open PySem PySem.Spec PyProof.Rows L2 PySem.Froz
abbrev fr (w : World) : Obj := { cls := .type "set", dict := none, data := .set #[] 0 (.fresh 0 0 (!w.params.followText "set-order")) }
section
variable {P : Program} {w : World} {A : Around} {E : Value → Shared → Prop} {s : Shared}
set_option maxHeartbeats 3200000 in
set_option maxHeartbeats 3200000 in
end
end Sx

set_option Elab.async false
set_option linter.all false
set_option maxRecDepth 100000
set_option maxHeartbeats 1000000
/-! S3: sorted(set) of texts. -/
namespace Sx
open PySem PySem.Spec PyProof.Rows L2 PySem.Froz
section
variable {P : Program} {w : World} {A : Around} {E : Value → Shared → Prop} {s : Shared} {a : Addr} {L : List Str}
end
end Sx

set_option Elab.async false
set_option linter.all false
set_option maxRecDepth 100000
set_option maxHeartbeats 4000000
/-! E1: an own exception of one field whose __init__ says super().__init__(f); self.f = f: the machine's words. -/
namespace PySem
namespace Er
open PySem.W PySem.Calls PyProof.Rows PySem.HandSPX
def iA (f : Str) (p1 p2 : Pos) : Arguments := { posonlyargs := [], args := [{ arg := "self", annotation := none, pos := p1 }, { arg := f, annotation := none, pos := p2 }], vararg := none, kwonlyargs := [], kw_defaults := [], kwarg := none, defaults := [] }
def sB (f : Str) (q0 q1 q2 q3 q4 : Pos) : Expr := .Call (.Attribute (.Call (.Name "super" q0) [] [] q1) "__init__" q2) [.Name f q3] [] q4
def iB (f : Str) (q0 q1 q2 q3 q4 q5 q6 q7 q8 q9 : Pos) : List Stmt := [.Expr (sB f q0 q1 q2 q3 q4) q5, .Assign [.Attribute (.Name "self" q6) f q7] (.Name f q8) q9]
def iS (f : Str) : Scope := { kind := .function, names := [(PySem.Str.ofString "self", .local), (f, .local), (PySem.Str.ofString "__class__", .free), (PySem.Str.ofString "super", .globalImplicit)], isGenerator := false, isCoroutine := false, more := [] }
/-- a field's name that is none of the others -/
structure FOk (f : Str) : Prop where
  l : (iS f).names.lookup f = some .local
  c : (iS f).names.lookup ("__class__" : Str) = some .free
  s : (iS f).names.lookup ("super" : Str) = some .globalImplicit
  i : (iS f).names.lookup ("self" : Str) = some .local
  d : (f == ("__debug__" : Str)) = false
  nc : ∀ x ∈ (iS f).names, x.2 ≠ .cell
  ns : f ≠ ("self" : Str)
  bnd : ∀ (qual : Str) (body : List Stmt) (doc pm cdv ct x v : Value) (an : Option Addr) (cc : Addr) (p1 p2 : Pos), bindArgs (ksFn "__init__" qual (iA f p1 p2) body (iS f) .none .none doc pm an cdv ct cc) ⟨[x, v], []⟩ = pure [(("self" : Str), x), (f, v)]
/-- of the program: its text -/
structure Pg (P : Program) (file : Str) : Prop where
  file : (P.main.file : Str) = file
  nos : (P.main.scope.names.lookup ("super" : Str)).isSome = false
/-- what the written part says of the class x at C -/
structure ErrTxt (K : Frag) (file f : Str) (C : Addr) : Prop where
  ok : FOk f
  cls : ∃ nm q N bs bm sn sub ab col dd k0 k1 k2 k3 k5, K.lookup C = some (excClassObj nm q C N bs bm true sn sub ab col dd k0 k1 k2 k3 k5 "ValueError.__new__") ∧ refsVE bm = true
  sa : findIn K (.ref C) "__setattr__" = some (some (.builtin "object.__setattr__"))
  noN : findIn K (.ref C) f = some none
  sup : ks_superIn K C C "__init__" = some (some (.builtin "ValueError.__init__"))
  exV : subIn K (.ref C) (.type "ValueError") = some true
  any : nsIn K cStatics "thirdparty.any" = some none
  gs : nsIn K mainGlobals "super" = some none
  kC : keepIn K (.ref C) = true
  exC : subIn K (.ref C) (.type "BaseException") = some true
  tyC : typeIn K (.ref C) = some (.type "type")
  fn : ∃ (fI cc cda : Addr) (oc ccl cl : Value) (od cdd cld : Option Addr) (vs : Array Value) (tf : Tok) (osl ccs csl : Array (Option Value)) (qual : Str) (doc pm ct : Value) (an : Option Addr) (p1 p2 q0 q1 q2 q3 q4 q5 q6 q7 q8 q9 : Pos),
    findIn K (.ref C) "__init__" = some (some (.ref fI)) ∧ typeIn K (.ref fI) = some (.type "function") ∧
    K.lookup fI = some ⟨oc, od, .func (ksFn "__init__" qual (iA f p1 p2) (iB f q0 q1 q2 q3 q4 q5 q6 q7 q8 q9) (iS f) .none .none doc pm an (.ref cda) ct cc), osl⟩ ∧ codeIn K (.ref cda) qual = true ∧
    K.lookup cda = some ⟨ccl, cdd, .fields vs, ccs⟩ ∧ vs[2]? = some (.str file tf) ∧ (q2.endLine == q4.line) = true ∧ K.lookup cc = some ⟨cl, cld, .cell (some (.ref C)), csl⟩
theorem one_size (v : Value) : [v].length ≤ sizeLine := by
  rw [sizeLine_eq]
  exact (by decide : 1 ≤ 16777216)
structure InitEnd (f : Str) (h h' : Heap) (x C dx t1 : Addr) (v : Value) : Prop where
  keep : ∀ b o, b ≠ x → h.get? b = some o → h'.get? b = some o
  obj : h'.get? x = some { cls := .ref C, dict := some dx, data := .fields #[.ref t1, .none, .none, .none, .bool false, .none] }
  dbig : h.objs.size ≤ dx
  dne : dx ≠ x
  ns : h'.Ns1 dx (fun y => if y = f then some v else none)
structure OwnMade (f : Str) (h h' : Heap) (e C d : Addr) (v : Value) : Prop where
  keep : ∀ b o, h.get? b = some o → h'.get? b = some o
  new : h.objs.size ≤ e
  obj : ∃ oe vs, h'.get? e = some oe ∧ oe.cls = .ref C ∧ oe.dict = some d ∧ oe.data = .fields vs ∧ vs[1]? = some .none ∧ vs[2]? = some .none
  dbig : h.objs.size ≤ d
  dne : d ≠ e
  ns : h'.Ns1 d (fun y => if y = f then some v else none)
section
variable {prog : Program} {w : World} {A : Around} {E : Value → Shared → Prop} {R : Result → Shared → Prop} {s : Shared} {K : Frag} {C : Addr} {file f : Str}
/-- the wrapper of ValueError.__init__ bound to the object, called -/
theorem call_mw {bm : List Value} {nm q : Str} {N : Addr} {bs : List Value} {hdct : Bool} {sn : List Str} {sub : List Value} {ab : Bool} {col : Option Bool} {dd : Option Addr} {k0 k1 k2 k3 k5 : Option Value} {h : Heap} {g : Array GenState} {d : Drawn} {t : Nat} {os : OsState}
    {u e t0 : Addr} {rest : List Value} {Q : Value → Shared → Prop}
    (hC : h.get? C = some (excClassObj nm q C N bs bm hdct sn sub ab col dd k0 k1 k2 k3 k5 "ValueError.__new__")) (he : h.get? e = some (excO C t0)) (hu : h.get? u = some (kxs_mw "ValueError.__init__" e)) (hrest : rest.length ≤ sizeLine)
    (hq : ∀ h' t1, (∀ b o, b ≠ e → h.get? b = some o → h'.get? b = some o) → h'.get? e = some (excO C t1) → Q .none ⟨h', g, d, t, os⟩) :
    wpAny (model prog w) A (call (.ref u) rest) Q E ⟨h, g, d, t, os⟩ := by
  refine wpAny_call (codeAny_of_tree ?_)
  show wpAny _ A.in1 (callAny (.ref u) ⟨rest, []⟩) _ _ _
  simp only [callAny]
  refine wpAny_bind (wpAny_load hu ?_)
  simp only [kxs_mw, show (Value.type "method-wrapper" == Value.type "method" || Value.type "method-wrapper" == Value.type "builtin_function_or_method" || Value.type "method-wrapper" == Value.type "method-wrapper") = true by decide, if_true]
  refine W.KFB.if_so (by decide) ?_
  refine wpAny_bind (check_bound_init F.excBase_ValueError.toExcCallFacts hC he rfl ?_)
  refine wpAny_bind (wpAny_pure (wpAny_pure ?_))
  refine ⟨plainId_quiet F.excBase_ValueError.init.plain _, codeAny_builtin F.excBase_ValueError.initEntry ?_⟩
  rw [Around.under_plainId F.excBase_ValueError.init.plain _]
  wp_walk
  refine hq _ h.objs.size (fun b o hb ho => ?_) ?_
  · rw [Heap.get?_update_other _ _ (Ne.symm hb)]
    exact Heap.get?_push_of_some _ ho
  · rw [Heap.get?_update_self _ (Heap.get?_push_of_some _ he) rfl]
    rfl
end
end Er
end PySem

set_option Elab.async false
set_option linter.all false
set_option maxRecDepth 100000
set_option maxHeartbeats 4000000
namespace PySem
namespace Er
open PySem.W PySem.Calls PyProof.Rows PySem.HandSPX
section
variable {prog : Program} {w : World} {A : Around} {E : Value → Shared → Prop} {R : Result → Shared → Prop} {s : Shared} {K : Frag} {C : Addr} {file f : Str} {mg mb : Str → Option Value}
theorem mro_self {cd : ClassData} {bm : List Value} (hcd : clsIn K C = some cd) (hm : cd.mro = .ref C :: bm) : mroIn K C (.ref C) = some true := by
  unfold mroIn
  rw [hcd, Option.bind_some, hm, if_neg (show ¬ (List.isEmpty (Value.ref C :: bm) = true) from Bool.false_ne_true)]
  simp
theorem sup_eq {f : Str} {q0 q1 q2 q3 q4 : Pos} {env : Env} (h : (q2.endLine == q4.line) = true) : ∃ pl : Sem Bool, eval (sB f q0 q1 q2 q3 q4) env = (do
      let ov ← attributeBase (.Call (.Name "super" q0) [] [] q1) "__init__" env (eval (.Call (.Name "super" q0) [] [] q1) env)
      standAt q2.atName
      let (f', first) ← holding [ov] (getMethod ov "__init__" pl)
      callWith q4 f' first (backTo q4 (starEach [.Name f q3] env)) []) := by
  refine ⟨(do return (← importBound (.Call (.Name "super" q0) [] [] q1) env).getD true), ?_⟩
  show (do
      let ov ← attributeBase (.Call (.Name "super" q0) [] [] q1) "__init__" env (eval (.Call (.Name "super" q0) [] [] q1) env)
      standAt q2.atName
      methodCall (.Call (.Name "super" q0) [] [] q1) "__init__" q2 q4 env ov 1 (backTo q4 (starEach [.Name f q3] env)) (backToKw q4 (keywordEach [] env))) = _
  have hp : methodCallPos (methodCallForm 1 (backTo q4 (starEach [.Name f q3] env)) (backToKw q4 (keywordEach [] env))) (.Call (.Name "super" q0) [] [] q1) env q2 q4 = pure q4 := by
    unfold methodCallPos
    rw [h, Bool.or_true]
    rfl
  unfold methodCall
  rw [hp]
  simp only [pure_bind]
  rfl
theorem err_init (T : ErrTxt K file f C) (PG : Pg prog file) {fI cc cda : Addr} {oc ccl cl : Value} {od cdd cld : Option Addr} {vs : Array Value} {tf : Tok} {osl ccs csl : Array (Option Value)} {qual : Str} {doc pm ct : Value} {an : Option Addr} {p1 p2 q0 q1 q2 q3 q4 q5 q6 q7 q8 q9 : Pos}
    (ho : K.lookup fI = some ⟨oc, od, .func (ksFn "__init__" qual (iA f p1 p2) (iB f q0 q1 q2 q3 q4 q5 q6 q7 q8 q9) (iS f) .none .none doc pm an (.ref cda) ct cc), osl⟩) (hcd : codeIn K (.ref cda) qual = true)
    (hcda : K.lookup cda = some ⟨ccl, cdd, .fields vs, ccs⟩) (hvs : vs[2]? = some (.str file tf)) (hps : (q2.endLine == q4.line) = true) (hcc : K.lookup cc = some ⟨cl, cld, .cell (some (.ref C)), csl⟩)
    {x t0 : Addr} {v : Value} (X : K.In s.heap) (hlim : s.heap.NoLimit) (hG : s.heap.Ns mainGlobals mg) (hms : mg "super" = none) (hB : s.heap.Ns builtinsNs mb) (hbs : mb "super" = some (.type "super")) (hx : s.heap.get? x = some (excO C t0)) (hnx : K.lookup x = none) (hxC : x ≠ C) (hroom : A.depth < recursionLimit)
    (hq : ∀ h' tk dx t1, InitEnd f s.heap h' x C dx t1 v → R (.ok (.ret .none)) { s with heap := h', toks := tk }) :
    codeAny (model prog w) A (.call (.ref fI) ⟨[.ref x, v], []⟩) R s := by
  obtain ⟨nm, q, N, bs, bm, sn, sub, ab, col, dd, k0, k1, k2, k3, k5, hC, hbm⟩ := T.cls
  have hcl : clsIn K C = some { name := nm, bases := bs, mro := .ref C :: bm, ns := N, qualname := q, hasDict := true, slotNames := sn, subclasses := sub, abstract := ab, collection := col, hasDel := false } := by unfold clsIn; rw [hC] <;> rfl
  obtain ⟨h, g, d, t, os⟩ := s
  refine ks_codeAny_call_defAt (fd := ksFn "__init__" qual (iA f p1 p2) (iB f q0 q1 q2 q3 q4 q5 q6 q7 q8 q9) (iS f) .none .none doc pm an (.ref cda) ct cc) (body := iB f q0 q1 q2 q3 q4 q5 q6 q7 q8 q9) (binds := [("self", .ref x), (f, v)]) hroom (X _ _ ho) rfl hlim (codeRec_of X hcd) rfl
    (BindsTo.of_eq (T.ok.bnd _ _ _ _ _ _ _ _ _ _ _ _)) T.ok.nc (fun y hy => ?_) (fun h₁ hns kk => ?_) rfl rfl rfl
  · rcases List.mem_cons.mp hy with e | e
    · rw [e]; exact T.ok.i
    · rw [List.mem_singleton.mp e]; exact T.ok.l
  have X₁ : K.In h₁ := X.keeps kk
  have hx₁ := kk _ _ hx
  have hC₁ := X₁ _ _ hC
  have hself : (fun y => ([(("self" : Str), Value.ref x), (f, v)] : List (Str × Value)).reverse.lookup y) ("self" : Str) = some (.ref x) := by
    show ([(f, v), (("self" : Str), Value.ref x)] : List (Str × Value)).lookup ("self" : Str) = _
    have e : (("self" : Str) == f) = false := by
      rw [beq_eq_false_iff_ne]
      exact fun z => T.ok.ns z.symm
    simp only [List.lookup, e, beq_self_eq_true]
  have hfv : (fun y => ([(("self" : Str), Value.ref x), (f, v)] : List (Str × Value)).reverse.lookup y) f = some v := by
    show ([(f, v), (("self" : Str), Value.ref x)] : List (Str × Value)).lookup f = _
    simp only [List.lookup, beq_self_eq_true]
  have hxL : h.objs.size ≠ x := Nat.ne_of_gt (Heap.lt_size hx)
  have lim1 : h.objs.size < h₁.objs.size := hns.lt
  show _root_.PySem.wpAt _ _ _ (execs (.Expr (sB f q0 q1 q2 q3 q4) q5 :: _) _) _ _ _
  obtain ⟨pl, hev⟩ := sup_eq (f := f) (q0 := q0) (q1 := q1) (q2 := q2) (q3 := q3) (q4 := q4) (env := callEnv (ksFn "__init__" qual (iA f p1 p2) (iB f q0 q1 q2 q3 q4 q5 q6 q7 q8 q9) (iS f) .none .none doc pm an (.ref cda) ct cc) h.objs.size fI) hps
  refine ks_wpAt_execs_cons (ks_wpAt_Expr_any (ks_wpAt_MethodCall (pl := pl) ?_ hev))
  refine ks_wpAt_super_base T.ok.s T.ok.c (by decide +kernel) rfl (X₁ _ _ ho) rfl rfl rfl (X₁ _ _ hcda) rfl hvs (by rw [PG.file]; exact beq_self_eq_true _) PG.nos ?_
  refine ks_loadName_global rfl T.ok.s (loadGlobal_builtin (hG.keeps kk) hms (hB.keeps kk) hbs ⟨rfl, ?_⟩)
  refine wpAny_loadName_free rfl T.ok.c rfl ⟨_, X₁ _ _ hcc, rfl⟩ ?_
  refine wpAny_loadName_local rfl T.ok.i hns hself ?_
  refine ks_wpAny_isType_cls hC₁ rfl ⟨rfl, ?_⟩
  refine ks_wpAny_call_super hC₁ rfl hx₁ rfl (fun c e => by cases e) (looks_mroIn X₁ (mro_self hcl rfl)) (fun h₂ eso k2' => ?_)
  have X₂ : K.In h₂ := X₁.keeps k2'
  have hx₂ := k2' _ _ hx₁
  have I₂ : W.InstAt h₂ x (excO C t0) C none := ⟨hx₂, rfl, rfl, trivial⟩
  have hsup := T.sup
  unfold ks_superIn at hsup
  rw [hcl] at hsup
  refine kxs_getMethod kxs_ValueError eso (looks_opaque X₂ T.any) (l₀ := .ref C :: bm) (fun A Q E s k q => wpAny_bind ((looks_clsIn X₂ hcl) A _ E s k (wpAny_pure q))) rfl X₂ hsup (I₂.type.andThen (looks_subIn X₂ T.exV)) hxC rfl ?_
  have k3 : ∀ b o, h₂.get? b = some o → (h₂.push (kxs_mw "ValueError.__init__" x)).get? b = some o := fun b o e => Heap.get?_push_of_some _ e
  have hu : (h₂.push (kxs_mw "ValueError.__init__" x)).get? h₂.objs.size = some (kxs_mw "ValueError.__init__" x) := Heap.get?_push_at rfl rfl
  have ns3 := (hns.keeps k2').keeps k3
  refine kxs_callWith (i := "ValueError.__init__") (x := x) (by rfl) (evalArgs_plain ?_)
  refine Calls.spliced_cons (wpAny_Name (wpAny_loadName_local rfl T.ok.l ns3 hfv ?_) T.ok.d)
  refine Calls.spliced_nil ⟨hu, ?_⟩
  refine call_mw (k3 _ _ (X₂ _ _ hC)) (k3 _ _ hx₂) hu (one_size v) fun h₄ t1 k4 e4 => ?_
  have k14 : ∀ b o, b ≠ x → h₁.get? b = some o → h₄.get? b = some o := fun b o hb e => k4 b o hb (k3 _ _ (k2' _ _ e))
  have X₄ : K.In h₄ := fun a o e => k14 a o (fun z => by rw [z, hnx] at e; cases e) (X₁ a o e)
  have ns4 : h₄.Ns h.objs.size (fun y => ([(("self" : Str), Value.ref x), (f, v)] : List (Str × Value)).reverse.lookup y) := by
    obtain ⟨oL, es, ep, hL, r⟩ := hns
    exact ⟨oL, es, ep, k14 _ _ hxL hL, r⟩
  show _root_.PySem.wpAt _ _ _ (execs _ _) _ _ _
  refine wpAt_of_wpAny (wpAny_execs_cons (plainObj_wpAny_Assign_Attribute ?_))
  refine wpAny_Name (wpAny_loadName_local rfl T.ok.l ns4 hfv ?_) T.ok.d
  refine wpAny_Name (wpAny_loadName_local rfl T.ok.i ns4 hself ?_) (by decide +kernel)
  refine set_plain X₄ (ox := excO C t1) (od := none) ⟨e4, rfl, rfl, trivial⟩ T.sa ?_
  refine exc_osa X₄ e4 hcl (show refsVE (.ref C :: bm) = true from hbm) rfl T.noN (fun h₅ tk₅ dx k₅ dn dne hx₅ hn₅ => ?_)
  refine wpAny_execs_nil ?_
  have z : h.objs.size ≤ h₄.objs.size := by
    obtain ⟨oL, es, ep, hL, r⟩ := ns4
    exact Nat.le_of_lt (Heap.lt_size hL)
  exact hq h₅ tk₅ dx t1 ⟨fun b o hb e => k₅ b o hb (k14 b o hb (kk b o e)), hx₅, Nat.le_trans z dn, dne, hn₅⟩
end
end Er
end PySem

set_option Elab.async false
set_option linter.all false
set_option maxRecDepth 100000
set_option maxHeartbeats 4000000
namespace PySem
namespace Er
open PySem.W PySem.Calls PyProof.Rows PySem.HandSPX
section
variable {prog : Program} {w : World} {A : Around} {E : Value → Shared → Prop} {R : Result → Shared → Prop} {s : Shared} {K : Frag} {C : Addr} {file f : Str} {mg mb : Str → Option Value}
theorem err_made (T : ErrTxt K file f C) (PG : Pg prog file) {v : Value} (X : K.In s.heap) (hlim : s.heap.NoLimit) (hG : s.heap.Ns mainGlobals mg) (hms : mg "super" = none) (hB : s.heap.Ns builtinsNs mb) (hbs : mb "super" = some (.type "super")) (hroom : A.depth + 1 < recursionLimit)
    (hq : ∀ h' tk e d, OwnMade f s.heap h' e C d v → R (.ok (.ret (.ref e))) { s with heap := h', toks := tk }) :
    codeAny (model prog w) A (.call (.ref C) ⟨[v], []⟩) R s := by
  obtain ⟨nm, q, N, bs, bm, sn, sub, ab, col, dd, k0, k1, k2, k3, k5, hC, hbm⟩ := T.cls
  obtain ⟨fI, cc, cda, oc, ccl, cl, od, cdd, cld, vs, tf, osl, ccs, csl, qual, doc, pm, ct, an, p1, p2, q0, q1, q2, q3, q4, q5, q6, q7, q8, q9, iC, tI, ho, hcd, hcda, hvs, hps, hcc⟩ := T.fn
  obtain ⟨hp, g, dr, tk, os⟩ := s
  have k : ∀ b o, hp.get? b = some o → ((hp.push (kdv_tup [v])).push (excO C hp.objs.size)).get? b = some o := fun b o e => Heap.get?_push_of_some _ (Heap.get?_push_of_some _ e)
  have hget : ((hp.push (kdv_tup [v])).push (excO C hp.objs.size)).get? (hp.objs.size + 1) = some (excO C hp.objs.size) := by heap_get
  have hnx : K.lookup (hp.objs.size + 1) = none := by
    cases e : K.lookup (hp.objs.size + 1) with
    | none => rfl
    | some o =>
      have z : hp.get? (hp.objs.size + 1) = some o := X _ _ e
      exact absurd (Nat.lt_of_succ_lt (Heap.lt_size z)) (Nat.lt_irrefl _)
  have hxC : hp.objs.size + 1 ≠ C := fun z => by
    have e := Heap.lt_size (X _ _ hC)
    rw [← z] at e
    have e' : hp.objs.size + 1 < hp.objs.size := e
    exact absurd (Nat.lt_of_succ_lt e') (Nat.lt_irrefl _)
  refine call_own F.excBase_ValueError (fun X => refsVE_contains X bm hbm) (X _ _ hC) (looks_findIn X iC) (fun self => bind_fn X self tI) (one_size v) ?_
  refine err_init (s := ⟨(hp.push (kdv_tup [v])).push (excO C hp.objs.size), g, dr, tk, os⟩) T PG ho hcd hcda hvs hps hcc (X.keeps k) (hlim.keeps k) (hG.keeps k) hms (hB.keeps k) hbs hget hnx hxC ?_ fun h' tk' dx t1 ⟨k', hx, dn, dne, hns⟩ => ?_
  · show A.depth + 1 < recursionLimit
    exact hroom
  · have old : ∀ b o, hp.get? b = some o → h'.get? b = some o := fun b o e => k' b o (Nat.ne_of_lt (Nat.lt_succ_of_lt (Heap.lt_size e))) (k b o e)
    have z : hp.objs.size + 1 + 1 ≤ dx := by
      first
        | (simpa only [Heap.size_push] using dn)
        | exact dn
        | (have q := dn; rw [Heap.size_push, Heap.size_push] at q; exact q)
    exact ⟨rfl, hq h' tk' (hp.objs.size + 1) dx ⟨old, Nat.le_succ _, ⟨_, _, hx, rfl, rfl, rfl, rfl, rfl⟩, Nat.le_trans (Nat.le_trans (Nat.le_succ _) (Nat.le_succ _)) z, dne, hns⟩⟩
end
end Er
end PySem
namespace L2
open PySem PySem.Spec PyProof.Rows
theorem relO_err {f : Str} {v : V} {v' : Value} (r : RelV v v') (g : Str) : RelO (List.lookup g [(f, v)]) (if g = f then some v' else none) := by
  by_cases hw : g = f
  · subst hw
    rw [if_pos rfl]
    have q : List.lookup g [(g, v)] = some v := by simp [List.lookup]
    rw [q]
    exact r
  · rw [if_neg hw]
    have qw : (g == f) = false := by simpa using hw
    have q2 : List.lookup g [(f, v)] = none := by simp [List.lookup, qw]
    rw [q2]
    trivial
section
variable {X : Cx} {C : Addr} {file f : Str}
/-- X(e) -/
def tMkErr (C : Addr) (f : Str) (te : TE) : St → Hp → XK → Prop := fun σ H Q => te σ H fun v H1 => ∀ d, H1 d = none → Q (.ref C) (some d) (upd H1 d (.xd [(f, v)]))
theorem pmk_err {x : Str} {a : Expr} {te : TE} {p pos : Pos} {k : Nat} (T : PySem.Er.ErrTxt X.K file f C) (PG : PySem.Er.Pg X.prog file) (gC : X.mg x = some (.ref C)) (hr : Room k X.A) (he : PE X a te) (hg : Gl X x)
    (hs : starEach [a] X.env = (false, eval a X.env) :: starEach [] X.env := by rfl) (hpl : (backTo pos (starEach [] X.env)).any (·.1) = false := by rfl) (hdb : (x == ("__debug__" : Str)) = false := by decide) :
    PMk X (.Call (.Name x p) [a] [] pos) (tMkErr C f te) := by
  intro pins s σ H Q I h
  refine wpAny_Call_Name_kw (ld_glob I hg gC ?_ hdb)
  refine PySem.W.callWith_K (h₀ := X.base) I.ok.mod.kin T.kC ?_ hs hpl
  rw [hs]
  show wpAny _ _ (spliced ((false, eval a X.env) :: backTo pos (starEach [] X.env))) _ _ s
  refine Calls.spliced_cons (thn (he.run pins s σ H _ I h) fun u s1 ⟨v, H1, I1, rv, q1⟩ => ?_)
  refine Calls.spliced_nil ⟨I1.kIn, ?_⟩
  show wpAny _ _ (call (.ref C) [u]) _ _ _
  have hlim := I1.nolimit
  obtain ⟨mb, b1, b2⟩ := I1.mod.blt
  have hG := I1.mod.glob.keeps I1.bk
  have hB := b1.keeps I1.bk
  obtain ⟨hp, g, dr, tk, os⟩ := s1
  refine wpAny_call (PySem.Er.err_made T PG I1.kIn hlim hG (PySem.W.mg_none_of I1.kIn hG T.gs) hB ((b2 _ (by decide)).trans (by decide +kernel)) (by have := hr.dp; omega) fun h' tk' e d M => ?_)
  show MkP X pins σ Q (.ref e) ⟨h', g, dr, tk', os⟩
  obtain ⟨oe, fv, hoe, hc, hd, hdat, h1, h2⟩ := M.obj
  have hns := M.ns
  obtain ⟨G', g1, g2⟩ := restrict h' fun b => decide (b ≠ e)
  have gk : ∀ b, b ≠ e → G'.get? b = h'.get? b := fun b hb => g1 b (decide_eq_true hb)
  have ge : G'.get? e = none := g2 e (by simp)
  have old : ∀ b o, hp.get? b = some o → G'.get? b = some o := fun b o q => (gk b (Nat.ne_of_lt (Nat.lt_of_lt_of_le (Heap.lt_size q) M.new))).trans (M.keep b o q)
  have ob : ObjOk X.prog X.w (upd H1 d (.xd [(f, v)])) G' d (.xd [(f, v)]) :=
    ⟨_, hns.at (fun o q => (gk d M.dne).trans q), fun g => relO_err rv g⟩
  have J : Inv X pins σ (upd H1 d (.xd [(f, v)])) ⟨G', g, dr, tk', os⟩ := I1.laid (t' := tk') old M.dbig ob
  refine ⟨e, oe, fv, ⟨G', g, dr, tk', os⟩, _, .ref C, some d, rfl, J, fun b o q => ?_, ge, hoe, ⟨hc, hd⟩, hdat, h1, ?_, rfl, I1.bare, raises_own T.exC T.tyC, q1 d (I1.hok.fresh M.dbig)⟩
  · by_cases hb : b = e
    · have q' : G'.get? b = some o := q
      rw [hb, ge] at q'; cases q'
    · exact (gk b hb).symm.trans q
  · rw [upd_ne (Ne.symm M.dne)]
    exact I1.hok.fresh M.new
end
end L2

set_option Elab.async false
set_option linter.all false
set_option maxRecDepth 100000
set_option maxHeartbeats 4000000
/-! E4: isinstance of a caught error that has a dict. -/
namespace PySem.W
open PySem PySem.Spec PySem.Calls PyProof.Rows
section
variable {prog : Program} {w : World} {A : Around} {E : Value → Shared → Prop} {s : Shared} {K : Frag} {x D : Addr} {ox : Obj}
theorem ekin_class {od : Obj} {Q : Option Value → Shared → Prop} (C : L2.ExcC K D)
    (X : K.In s.heap) (I : InstAt s.heap x ox D (some od)) (h : Q (some (.ref D)) { s with toks := s.toks + 1 }) : wpAny (model prog w) A (getAttr? (.ref x) "__class__") Q E s := by
  have hf : findObj K D (some od) "__class__" = some (.bind (.builtin "getset_descriptor.__get__") (.builtin "object.__class__")) := findObj_data (by obtain ⟨cd, hc, _⟩ := any_some C.hd; rw [hc]; rfl) C.ha C.hn C.ht
  obtain ⟨hp, g, d, t, os⟩ := s
  have L0 := I.type (M := model prog w)
  have L1 := looks_findIn (M := model prog w) X C.hg
  have L2 := looks_findIn (M := model prog w) X C.hk
  have L3 := looks_find (M := model prog w) X I hf
  have sub : Looks (model prog w) hp (isInstance (.ref x) (.type "BaseException")) true := L0.andThen (looks_subIn X C.hs)
  have hx0 : (false && onTheHeap (Value.builtin "BaseException.__getattribute__")) = false := rfl
  have hx2 : (Value.builtin "BaseException.__getattribute__" == Value.builtin "object.__getattribute__") = false := by decide +kernel
  have hx1 : (onTheHeap (Value.ref D) && Value.builtin "BaseException.__getattribute__" == Value.builtin "object.__getattribute__") = false := by rw [hx2]; rfl
  unfold getAttr? getAttrBy? getAttrBy
  refine wpAny_bind (wpAny_mkText (wpAny_bind (wpAny_attempt (wpAny_holding (wpAny_bind (L0.at (wpAny_bind (L1.at ?_))))))))
  show wpAny _ _ (if (onTheHeap (Value.ref D) && Value.builtin "BaseException.__getattribute__" == Value.builtin "object.__getattribute__") = true then _ else _) _ _ _
  rw [hx1, if_neg Bool.false_ne_true]
  unfold getAttrByItsOwn hookBefore
  refine wpAny_bind ?_
  rw [if_pos (show onTheHeap (Value.ref D) = true from rfl)]
  refine L2.at ?_
  refine wpAny_bind (wpAny_attempt (wpAny_holding ?_))
  unfold callGetattribute
  rw [hx0, if_neg Bool.false_ne_true]
  unfold boundAndCalled
  rw [PySem.F.excAttr_ValueError.ga.bind (.ref x)]
  refine wpAny_bind (wpAny_pure ?_)
  show wpAny _ _ (call (.builtin "BaseException.__getattribute__") [.ref x, .str "__class__" t]) _ _ _
  refine wpAny_call (codeAny_call_builtin PySem.F.excAttr_ValueError.ga.plain PySem.F.entry_bexc_ga ?_)
  refine @check_slot (model prog w) _ _ ⟨hp, g, d, t + 1, os⟩ "BaseException.__getattribute__" "BaseException" "__getattribute__" (.ref x) [.str "__class__" t] [] _ (by decide +kernel) (by decide +kernel) sub (PySem.F.args_bexc_ga (.ref x) (.str "__class__" t)) ?_
  unfold Builtin.«object.__getattribute__»
  refine wpAny_bind (wpAny_of_eq (a := ((Value.ref x : Value), [Value.str "__class__" t])) (by first | rfl | (simp only [slotArgs]; rfl)) ?_)
  refine wpAny_bind (wpAny_pure (wpAny_bind (L0.at (wpAny_bind (L3.at ?_)))))
  show wpAny _ _ (holding [Value.builtin "object.__class__"] (call (.builtin "getset_descriptor.__get__") [.builtin "object.__class__", .ref x, .ref D]) >>= ret) _ _ _
  refine wpAny_bind (wpAny_holding (wpAny_call (class_get (s := ⟨hp, g, d, t + 1, os⟩) (ox := ox) (od := some od) X I C.hm ?_)))
  refine wpAny_pure ?_
  show wpAny _ _ (handedOut (.ref D)) _ _ _
  rw [handedOut_of (v := .ref D) rfl]
  first
    | exact wpAny_pure (wpAny_pure h)
    | exact wpAny_pure h
    | exact wpAny_pure (wpAny_bind (wpAny_pure (wpAny_pure h)))
theorem ekitx (C : L2.ExcC K D) : KitX K (.ref x) (.ref D) (fun h => ∃ od, InstAt h x ox D (some od)) where
  ty := fun _ _ _ ⟨_, I⟩ => I.type
  it := fun _ _ X _ => by
    obtain ⟨cdD, hcD, _⟩ := any_some C.hd
    unfold clsIn at hcD
    split at hcD
    · rename_i c' d' cd' sl' ho
      intro A' Q' E' s' k q
      unfold isType loadHead
      exact wpAny_bind (wpAny_loadPart (k _ _ (X _ _ ho)) (wpAny_pure q))
    · cases hcD
  ne := fun h tp dd its n sl X htp => by
    obtain ⟨cdD, hcD, _⟩ := any_some C.hd
    refine Bool.eq_false_iff.mpr fun q => ?_
    have e : D = tp := Value.ref.inj (beq_iff_eq.mp q)
    subst e
    unfold clsIn at hcD
    split at hcD
    · rename_i c' d' cd' sl' ho
      have z := (X _ _ ho).symm.trans htp
      cases z
    · cases hcD
  ca := fun X ⟨_, I⟩ k => ekin_class C X I k
end
end PySem.W
namespace L2
open PySem PySem.Spec PyProof.Rows
/-- isinstance(e, c), e the exception that the suite holds, with or without a dict (its dict as a thing of exceptions' dicts) -/
def rIsD (K : PySem.W.Frag) (D a : Addr) (d : Option Addr) : List V → Hp → VK → Prop := fun xs H Q => ∃ (c : V) (cv : Value) (b : Bool), xs = [.ref a, c] ∧ (∀ u, RelV c u → u = cv) ∧ PySem.W.kitOne K (.ref D) cv = some b ∧ (∀ dd, d = some dd → ∃ fs, H dd = some (.xd fs)) ∧ Q (.bl b) H
theorem call_isD {X : Cx} {a D : Addr} {oe : Obj} {d : Option Addr} {pn : List (Addr × Obj)} (C : ExcC X.K D) (hz : Zc (.ref D) d oe) (hf : ∃ vs, oe.data = .fields vs) : CallR (X.suite a ((a, oe) :: pn)) (.builtin "isinstance") (rIsD X.K D a d) := by
  intro pins s σ H xs us Q I r h
  obtain ⟨c, cv, b, rfl, hcv, e, hd, q⟩ := h
  cases r with
  | cons rx rr =>
    cases rr with
    | cons rt rr =>
      cases rr
      cases rx
      have ec := hcv _ rt
      subst ec
      obtain ⟨hget, _⟩ := I.pin (a, oe) (List.mem_append.mpr (.inl List.mem_cons_self))
      obtain ⟨vs, hv⟩ := hf
      cases d with
      | none =>
        have J : PySem.W.InstAt s.heap a oe D none := by
          obtain ⟨oc, od, oda, osl⟩ := oe
          obtain ⟨h1, h2⟩ := hz
          dsimp only at h1 h2 hv
          subst h1 h2 hv
          exact ⟨hget, rfl, rfl, trivial⟩
        exact PySem.W.kia_one (PySem.W.handS_kitx_exc C.hg C.hk C.hs C.hd C.ha C.hn C.ht C.hm) I.kIn J e (fun z => nomatch z) fun tk => ⟨.bl b, H, I.kept (t' := tk) fun _ _ z => z, rfl, q⟩
      | some dd =>
        obtain ⟨fs, ea⟩ := hd dd rfl
        have hx : ObjOk X.prog X.w H s.heap dd (.xd fs) := I.hok dd _ ea
        obtain ⟨mA, hns, hr⟩ := hx
        obtain ⟨od', ho, hl⟩ := lookIn_ns hns
        have J : ∃ od, PySem.W.InstAt s.heap a oe D (some od) := by
          refine ⟨od', ?_⟩
          obtain ⟨oc, od, oda, osl⟩ := oe
          obtain ⟨h1, h2⟩ := hz
          dsimp only at h1 h2 hv
          subst h1 h2 hv
          exact ⟨hget, rfl, rfl, ho⟩
        exact PySem.W.kia_one (PySem.W.ekitx C) I.kIn J e (fun z => nomatch z) fun tk => ⟨.bl b, H, I.kept (t' := tk) fun _ _ z => z, rfl, q⟩
end L2

set_option Elab.async false
set_option linter.all false
set_option maxRecDepth 100000
set_option maxHeartbeats 4000000
/-! D1: data, how the heap bears it, what a step leaves as it was. -/
namespace Dl
open PySem
open L2

/-- what a program of ours computes with: immutable things by value, lists and dicts as they stand -/
inductive D where
  | non | bl (b : Bool) | int (i : Int) | str (x : Str)
  | tup (xs : List D) | lst (xs : List D) | dct (ks : List Key) (xs : List D) | hnd
  | exn (c f : Str) (xs : List D) | ins (c : Str) (ks : List Str) (xs : List D)
  /-- the k-th thing that changes -/
  | obj (k : Nat)
  /-- a tuple whose object is known -/
  | ftp (xs : List D)
  /-- an error held as a thing: its class, its field -/
  | err (c f : Str) (xs : List D)

/-- what stays as it is, and where the things stand that change -/
structure Fz where
  h : Hp
  al : List Addr
instance : CoeFun Fz (fun _ => Addr → Option HO) := ⟨Fz.h⟩
instance : Coe Fz Hp := ⟨Fz.h⟩
/-- nothing is told of -/
def Fz0 : Fz := ⟨fun _ => none, []⟩
def upF (F : Fz) (p : Addr) (u : HO) : Fz := ⟨upd F.h p u, F.al⟩
structure Sm (F F' : Fz) : Prop where
  hs : Same F.h F'.h
  al : F.al <+: F'.al
instance {F F' : Fz} : CoeFun (Sm F F') (fun _ => ∀ (a : Addr) (u : HO), F.h a = some u → F'.h a = some u) := ⟨fun e => e.hs⟩
instance {F F' : Fz} : Coe (Sm F F') (Same F.h F'.h) := ⟨Sm.hs⟩
theorem Sm.trans {F F' : Fz} {H : Hp} (e : Sm F F') (k : Same F'.h H) : Same F.h H := fun p u h => k p u (e.hs p u h)
theorem Sm.tr {F F' F2 : Fz} (e : Sm F F') (k : Sm F' F2) : Sm F F2 := ⟨fun p u h => k.hs p u (e.hs p u h), e.al.trans k.al⟩
theorem Sm.rfl {F : Fz} : Sm F F := ⟨fun _ _ h => h, List.prefix_refl _⟩
/-- what all data is told over -/
structure Pt where
  hA : Addr
  /-- the error that an except suite holds: where it stands, its class, its dict -/
  ex : Option (Addr × Value × Option Addr) := none
  /-- may dicts be locked (while they are walked)? -/
  lk : Prop := False

/-- a dict that stays -/
def RdL (B : Pt) (F : Hp) (a : Addr) (kvs : List (Key × V)) : Prop := F a = some (.dK kvs) ∨ (B.lk ∧ ∃ o, F a = some (.frz o (.dK kvs)))

/-- an error of the class cls that is not in the air, its dict at d -/
def ErrO (cls : Value) (d : Option Addr) (a : Addr) : HO := .ext fun h => ∃ (oe : Obj) (vs : Array Value), h.get? a = some oe ∧ Zc cls d oe ∧ oe.data = .fields vs
mutual
/-- the value v is the data d, as the still heap F bears it -/
def Dv (K : PySem.W.Frag) (B : Pt) (F : Fz) : D → V → Prop
  | .non, v => v = .non
  | .bl b, v => v = .bl b
  | .int i, v => v = .int i
  | .str x, v => v = .str x
  | .tup ds, v => ∃ a vs, v = .ref a ∧ SqT K F a vs ∧ DvL K B F ds vs
  | .lst ds, v => ∃ a vs, v = .ref a ∧ F a = some (.lst vs) ∧ DvL K B F ds vs
  | .dct ks ds, v => ∃ a kvs, v = .ref a ∧ RdL B F a kvs ∧ kvs.map (·.1) = ks ∧ DvL K B F ds (kvs.map (·.2))
  | .hnd, v => v = .ref B.hA
  | .exn c f ds, v => ∃ a d ws, B.ex = some (a, .ref (He.ga K c), d) ∧ v = .ref a ∧ ((d = none ∧ ws = []) ∨ ∃ dd w, d = some dd ∧ F dd = some (.xd [(f, w)]) ∧ ws = [w]) ∧ DvL K B F ds ws
  | .err c f ds, v => ∃ a d ws, v = .ref a ∧ F a = some (ErrO (.ref (He.ga K c)) d a) ∧ ((d = none ∧ ws = []) ∨ ∃ dd w, d = some dd ∧ F dd = some (.xd [(f, w)]) ∧ ws = [w]) ∧ DvL K B F ds ws
  | .obj k, v => ∃ a, F.al[k]? = some a ∧ v = .ref a
  | .ftp ds, v => ∃ a o vs, v = .ref a ∧ F a = some (.frz o (.tup vs)) ∧ o.cls = .type "tuple" ∧ o.dict = none ∧ DvL K B F ds vs
  | .ins c ks ds, v => ∃ a dx fs, v = .ref a ∧ F a = some (.ins (He.ga K c) dx fs) ∧ F dx = some (.own a) ∧ fs.map (·.1) = ks ∧ DvL K B F ds (fs.map (·.2))
def DvL (K : PySem.W.Frag) (B : Pt) (F : Fz) : List D → List V → Prop
  | [], vs => vs = []
  | d :: ds, vs => ∃ v r, vs = v :: r ∧ Dv K B F d v ∧ DvL K B F ds r
end

theorem rd_ext {F F' : Hp} {a : Addr} {u : HO} (e : Same F F') (h : Rd F a u) : Rd F' a u := by
  rcases h with h | ⟨o, h⟩
  · exact .inl (e a _ h)
  · exact .inr ⟨o, e a _ h⟩
theorem rdl_ext {B : Pt} {F F' : Hp} {a : Addr} {kvs : List (Key × V)} (e : Same F F') (h : RdL B F a kvs) : RdL B F' a kvs := h.imp (fun h => e a _ h) fun ⟨l, o, h⟩ => ⟨l, o, e a _ h⟩
theorem RdL.rd {B : Pt} {F : Hp} {a : Addr} {kvs : List (Key × V)} (h : RdL B F a kvs) : Rd F a (.dK kvs) := h.imp id fun h => h.2
theorem sqT_ext {K : PySem.W.Frag} {F F' : Hp} {a : Addr} {vs : List V} (e : Same F F') (h : SqT K F a vs) : SqT K F' a vs := by
  rcases h with h | h
  · exact .inl (rd_ext e h)
  · exact .inr h

section
variable {K : PySem.W.Frag} {B : Pt} {F F' : Fz}
mutual
theorem Dv.ext (e : Sm F F') : ∀ {d : D} {v : V}, Dv K B F d v → Dv K B F' d v
  | .non, _, h => h
  | .bl _, _, h => h
  | .int _, _, h => h
  | .str _, _, h => h
  | .hnd, _, h => h
  | .tup _, _, ⟨a, vs, h1, h2, h3⟩ => ⟨a, vs, h1, sqT_ext e h2, DvL.ext e h3⟩
  | .lst _, _, ⟨a, vs, h1, h2, h3⟩ => ⟨a, vs, h1, e a _ h2, DvL.ext e h3⟩
  | .dct _ _, _, ⟨a, kvs, h1, h2, h3, h4⟩ => ⟨a, kvs, h1, rdl_ext e h2, h3, DvL.ext e h4⟩
  | .exn _ _ _, _, ⟨a, d, ws, h1, h2, h3, h4⟩ => ⟨a, d, ws, h1, h2, h3.imp id fun ⟨dd, w, k1, k2, k3⟩ => ⟨dd, w, k1, e dd _ k2, k3⟩, DvL.ext e h4⟩
  | .ftp _, _, ⟨a, o, vs, h1, h2, h3, h4, h5⟩ => ⟨a, o, vs, h1, e a _ h2, h3, h4, DvL.ext e h5⟩
  | .err _ _ _, _, ⟨a, d, ws, h1, h2, h3, h4⟩ => ⟨a, d, ws, h1, e a _ h2, h3.imp id fun ⟨dd, w, k1, k2, k3⟩ => ⟨dd, w, k1, e dd _ k2, k3⟩, DvL.ext e h4⟩
  | .obj k, _, ⟨a, h1, h2⟩ => ⟨a, by
    obtain ⟨t, ht⟩ := e.al
    rw [← ht, List.getElem?_append_left (List.getElem?_eq_some_iff.mp h1).1]
    exact h1, h2⟩
  | .ins _ _ _, _, ⟨a, dx, fs, h1, h2, h3, h4, h5⟩ => ⟨a, dx, fs, h1, e a _ h2, e dx _ h3, h4, DvL.ext e h5⟩
theorem DvL.ext (e : Sm F F') : ∀ {ds : List D} {vs : List V}, DvL K B F ds vs → DvL K B F' ds vs
  | [], _, h => h
  | _ :: _, _, ⟨v, r, h1, h2, h3⟩ => ⟨v, r, h1, Dv.ext e h2, DvL.ext e h3⟩
end
theorem DvL.len : ∀ {ds : List D} {vs : List V}, DvL K B F ds vs → vs.length = ds.length
  | [], _, h => by
    cases h
    rfl
  | _ :: _, _, ⟨v, r, h1, _, h3⟩ => by
    subst h1
    rw [List.length_cons, List.length_cons, DvL.len h3]
theorem DvL.get : ∀ {ds : List D} {vs : List V} {i : Nat} {d : D}, DvL K B F ds vs → ds[i]? = some d → ∃ v, vs[i]? = some v ∧ Dv K B F d v
  | [], _, _, _, _, e => by simp at e
  | d0 :: ds, _, 0, d, ⟨v, r, h1, h2, h3⟩, e => by
    subst h1
    simp at e
    subst e
    exact ⟨v, by simp, h2⟩
  | d0 :: ds, _, i + 1, d, ⟨v, r, h1, h2, h3⟩, e => by
    subst h1
    obtain ⟨w, e1, e2⟩ := DvL.get (i := i) (d := d) h3 (by simpa using e)
    exact ⟨w, by simpa using e1, e2⟩
theorem DvL.getV : ∀ {ds : List D} {vs : List V} {i : Nat} {v : V}, DvL K B F ds vs → vs[i]? = some v → ∃ d, ds[i]? = some d ∧ Dv K B F d v
  | [], _, i, _, h, e => by
    cases h
    simp at e
  | d0 :: ds, _, 0, v, ⟨v', r, h1, h2, h3⟩, e => by
    subst h1
    simp at e
    subst e
    exact ⟨d0, by simp, h2⟩
  | d0 :: ds, _, i + 1, v, ⟨v', r, h1, h2, h3⟩, e => by
    subst h1
    obtain ⟨w, e1, e2⟩ := DvL.getV (i := i) (v := v) h3 (by simpa using e)
    exact ⟨w, by simpa using e1, e2⟩
theorem DvL.app : ∀ {ds es : List D} {vs us : List V}, DvL K B F ds vs → DvL K B F es us → DvL K B F (ds ++ es) (vs ++ us)
  | [], _, _, _, h, k => by
    cases h
    exact k
  | _ :: _, _, _, _, ⟨v, r, h1, h2, h3⟩, k => by
    subst h1
    exact ⟨v, _, rfl, h2, DvL.app h3 k⟩
theorem DvL.one {d : D} {v : V} (h : Dv K B F d v) : DvL K B F [d] [v] := ⟨v, [], rfl, h, rfl⟩
theorem DvL.take : ∀ {ds : List D} {vs : List V} (n : Nat), DvL K B F ds vs → DvL K B F (ds.take n) (vs.take n)
  | _, _, 0, _ => by
    rw [List.take_zero, List.take_zero]
    exact rfl
  | [], _, n + 1, h => by
    cases h
    exact rfl
  | _ :: _, _, n + 1, ⟨v, r, h1, h2, h3⟩ => by
    subst h1
    exact ⟨v, _, rfl, h2, DvL.take n h3⟩
theorem DvL.drop : ∀ {ds : List D} {vs : List V} (n : Nat), DvL K B F ds vs → DvL K B F (ds.drop n) (vs.drop n)
  | _, _, 0, h => h
  | [], _, n + 1, h => by
    cases h
    exact rfl
  | _ :: _, _, n + 1, ⟨v, r, h1, h2, h3⟩ => by
    subst h1
    exact DvL.drop n h3
theorem DvL.set : ∀ {ds : List D} {vs : List V} {d : D} {v : V} (n : Nat), DvL K B F ds vs → Dv K B F d v → DvL K B F (ds.set n d) (vs.set n v)
  | [], _, _, _, n, h, _ => by
    cases h
    exact rfl
  | _ :: _, _, d, v, 0, ⟨v', r, h1, h2, h3⟩, k => by
    subst h1
    exact ⟨v, _, rfl, k, h3⟩
  | _ :: _, _, d, v, n + 1, ⟨v', r, h1, h2, h3⟩, k => by
    subst h1
    exact ⟨v', _, rfl, h2, DvL.set n h3 k⟩
theorem DvL.ints : ∀ {ns : List Int} {vs : List V}, DvL K B F (ns.map D.int) vs → vs = ns.map V.int
  | [], _, h => h
  | n :: ns, _, ⟨v, r, h1, h2, h3⟩ => by
    subst h1
    rw [List.map_cons, DvL.ints h3]
    have e : v = V.int n := h2
    rw [e]
theorem DvL.bls : ∀ {ns : List Bool} {vs : List V}, DvL K B F (ns.map D.bl) vs → vs = ns.map V.bl
  | [], _, h => h
  | n :: ns, _, ⟨v, r, h1, h2, h3⟩ => by
    subst h1
    rw [List.map_cons, DvL.bls h3]
    have e : v = V.bl n := h2
    rw [e]
theorem DvL.of_ints : ∀ {ns : List Int}, DvL K B F (ns.map D.int) (ns.map V.int)
  | [] => rfl
  | n :: ns => ⟨_, _, rfl, rfl, DvL.of_ints⟩
end

/-- what F tells F' tells -/
def Tl (l : Prop) (F F' : Fz) : Prop := ∀ (K : PySem.W.Frag) (B : Pt), (l → B.lk) → ∀ (d : D) (v : V), Dv K B F d v → Dv K B F' d v
theorem Tl.rfl {l : Prop} {F : Fz} : Tl l F F := fun _ _ _ _ _ h => h
theorem Sm.tl {l : Prop} {F F' : Fz} (e : Sm F F') : Tl l F F' := fun _ _ _ _ _ h => h.ext e
theorem Tl.all {l : Prop} {F F' : Fz} (e : Tl l F F') {K : PySem.W.Frag} {B : Pt} (hl : l → B.lk) : ∀ {ds : List D} {vs : List V}, DvL K B F ds vs → DvL K B F' ds vs
  | [], _, h => h
  | _ :: _, _, ⟨v, r, h1, h2, h3⟩ => ⟨v, r, h1, e K B hl _ _ h2, e.all hl h3⟩

/-! ### states -/
/-- the one thing that changes under everybody's hands -/
structure Amb (S : Type) extends Pt where
  at' : S → Fz → Hp → Prop
  own : Addr → Prop
  /-- is it told what the things hold that change? -/
  sto : Prop := False
  there : ∀ s F H p, at' s F H → own p → H p ≠ none
  stay : ∀ s F F' H H', at' s F H → Tl lk F F' → (sto → F'.al = F.al) → (∀ p o, (own p ∨ (sto ∧ p ∈ F.al)) → H p = some o → H' p = some o) → at' s F' H'
instance {S : Type} : CoeOut (Amb S) Pt := ⟨Amb.toPt⟩
/-- what may change under everybody's hands -/
def OwZ {S : Type} (B : Amb S) (F : Fz) (p : Addr) : Prop := B.own p ∨ (B.sto ∧ p ∈ F.al)
structure Ok {S : Type} (B : Amb S) (F : Fz) (H : Hp) (s : S) : Prop where
  sub : Same F.h H
  ap : ∀ p, OwZ B F p → F p = none
  am : B.at' s F H
  alt : ∀ p ∈ F.al, H p ≠ none
structure Ev {S : Type} (B : Amb S) (F : Fz) (H : Hp) (F' : Fz) (H' : Hp) (s' : S) : Prop where
  fs : ∀ p, H p ≠ none → F' p = F p
  hs : ∀ p o, H p = some o → ¬ OwZ B F p → H' p = some o
  ok : Ok B F' H' s'
  al : F.al <+: F'.al
  nw : ∀ p ∈ F'.al, p ∈ F.al ∨ H p = none
  sal : B.sto ∨ F'.al = F.al
section
variable {S : Type} {B : Amb S} {F F1 F2 : Fz} {H H1 H2 : Hp} {s s1 s2 : S}
theorem Ok.refl (o : Ok B F H s) : Ev B F H F H s := ⟨fun _ _ => rfl, fun _ _ h _ => h, o, List.prefix_refl _, fun _ h => .inl h, .inr rfl⟩
theorem Ev.sameF (o : Ok B F H s) (e : Ev B F H F1 H1 s1) : Sm F F1 := ⟨fun p u h => by
  rw [e.fs p (by rw [o.sub p u h]; exact fun z => nomatch z)]
  exact h, e.al⟩
theorem Ev.dom (e : Ev B F H F1 H1 s1) {p : Addr} (h : H p ≠ none) : H1 p ≠ none := by
  by_cases hp : OwZ B F p
  · rcases hp with hp | hp
    · exact B.there s1 F1 H1 p e.ok.am hp
    · exact e.ok.alt p (e.al.subset hp.2)
  · cases q : H p with
    | none => exact absurd q h
    | some o =>
      rw [e.hs p o q hp]
      exact fun z => nomatch z
theorem Ev.free (e : Ev B F H F1 H1 s1) {p : Addr} (h : H1 p = none) : H p = none := by
  cases q : H p with
  | none => rfl
  | some o => exact absurd h (e.dom (by rw [q]; exact fun z => nomatch z))
theorem Ev.nown (e : Ev B F H F1 H1 s1) {p : Addr} {u : HO} (h : H p = some u) (hp : ¬ OwZ B F p) : ¬ OwZ B F1 p := fun q => by
  rcases q with q | q
  · exact hp (.inl q)
  · rcases e.nw p q.2 with r | r
    · exact hp (.inr ⟨q.1, r⟩)
    · rw [h] at r; cases r
theorem sal_trans {l : Prop} {a b c : List Addr} (h : l ∨ b = a) (k : l ∨ c = b) : l ∨ c = a := by
  rcases h with h | h
  · exact .inl h
  · rcases k with k | k
    · exact .inl k
    · exact .inr (k.trans h)
theorem Ev.trans (e1 : Ev B F H F1 H1 s1) (e2 : Ev B F1 H1 F2 H2 s2) : Ev B F H F2 H2 s2 :=
  ⟨fun p h => (e2.fs p (e1.dom h)).trans (e1.fs p h), fun p o h hp => e2.hs p o (e1.hs p o h hp) (e1.nown h hp), e2.ok, e1.al.trans e2.al, fun p h => by
    rcases e2.nw p h with q | q
    · exact e1.nw p q
    · exact .inr (e1.free q), sal_trans e1.sal e2.sal⟩
theorem ne_own (o : Ok B F H s) {p : Addr} (h : H p = none) : ¬ OwZ B F p := fun z => by
  rcases z with z | z
  · exact B.there s F H p o.am z h
  · exact o.alt p z.2 h
/-- a new thing that stays as it is -/
theorem Ev.new (o : Ok B F H s) {p : Addr} (u : HO) (h : H p = none) : Ev B F H (upF F p u) (upd H p u) s := by
  have hf : F p = none := by
    cases q : F p with
    | none => rfl
    | some x =>
      rw [o.sub p x q] at h
      cases h
  have hl : ∀ q x, H q = some x → (upd H p u) q = some x := fun q x hx => by
    rw [upd_ne (ne_of_none hx h)]
    exact hx
  refine ⟨fun q hq => upd_ne fun z => hq (z ▸ h), fun q x hx _ => hl q x hx, ⟨fun q x hx => ?_, fun q hq => ?_, B.stay s F _ H _ o.am (Sm.tl ⟨fun q x hx => ?_, List.prefix_refl _⟩) (fun _ => rfl) fun q x _ hx => hl q x hx, fun q hq => ?_⟩, List.prefix_refl _, fun q hq => .inl hq, .inr rfl⟩
  · have hx : (upd F.h p u) q = some x := hx
    by_cases hb : q = p
    · subst hb
      rw [upd_same] at hx ⊢
      exact hx
    · rw [upd_ne hb] at hx ⊢
      exact o.sub q x hx
  · have z : q ≠ p := fun z => ne_own o h (z ▸ hq)
    show (upd F.h p u) q = none
    rw [upd_ne z]
    exact o.ap q hq
  · show (upd F.h p u) q = some x
    rw [upd_ne (fun z => by subst z; rw [show F.h q = none from hf] at hx; cases hx)]
    exact hx
  · have := o.alt q hq
    cases e : H q with
    | none => exact absurd e this
    | some x =>
      rw [hl q x e]
      exact fun z => nomatch z
/-- a new thing of one's own: it may change -/
theorem Ev.newO (o : Ok B F H s) {p : Addr} (u : HO) (h : H p = none) : Ev B F H F (upd H p u) s := by
  have hl : ∀ q x, H q = some x → (upd H p u) q = some x := fun q x hx => by
    rw [upd_ne (ne_of_none hx h)]
    exact hx
  refine ⟨fun _ _ => rfl, fun q x hx _ => hl q x hx, ⟨fun q x hx => hl q x (o.sub q x hx), o.ap, B.stay s F F H _ o.am Tl.rfl (fun _ => rfl) fun q x _ hx => hl q x hx, fun q hq => ?_⟩, List.prefix_refl _, fun q hq => .inl hq, .inr rfl⟩
  have := o.alt q hq
  cases e : H q with
  | none => exact absurd e this
  | some x =>
    rw [hl q x e]
    exact fun z => nomatch z
end
end Dl

set_option Elab.async false
set_option linter.all false
set_option maxRecDepth 100000
set_option maxHeartbeats 4000000
/-! D2: a frame's names, expressions. -/
namespace Dl
open PySem
open L2

inductive Slot where
  | dat (d : D) | own (xs : List D) | ownK (ks : List Key) (ds : List D)
/-- a thing of the frame's own -/
def Slot.isO : Slot → Bool
  | .dat _ => false
  | .own _ => true
  | .ownK _ _ => true
abbrev DE := List (Option Slot)

structure EnvOk (K : PySem.W.Frag) {S : Type} (B : Amb S) (F : Fz) (H : Hp) (σ : L2.St) (env : DE) : Prop where
  len : σ.length = env.length
  dat : ∀ (i : Nat) (d : D), env[i]? = some (some (.dat d)) → ∃ v, σ[i]? = some (some v) ∧ Dv K B F d v
  own : ∀ (i : Nat) (xs : List D), env[i]? = some (some (.own xs)) → ∃ a vs, σ[i]? = some (some (.ref a)) ∧ F a = none ∧ ¬ OwZ B F a ∧ H a = some (.lst vs) ∧ DvL K B F xs vs
  ownK : ∀ (i : Nat) (ks : List Key) (ds : List D), env[i]? = some (some (.ownK ks ds)) → ∃ a kvs, σ[i]? = some (some (.ref a)) ∧ F a = none ∧ ¬ OwZ B F a ∧ H a = some (.dK kvs) ∧ kvs.map (·.1) = ks ∧ DvL K B F ds (kvs.map (·.2))
  inj : ∀ (i j : Nat) (x y : Slot) (a : Addr), env[i]? = some (some x) → env[j]? = some (some y) → x.isO = true → y.isO = true → σ[i]? = some (some (.ref a)) → σ[j]? = some (some (.ref a)) → i = j
section
variable {K : PySem.W.Frag} {S : Type} {B : Amb S} {F F1 : Fz} {H H1 : Hp} {s s1 : S} {σ : L2.St} {env : DE}
theorem EnvOk.step (E : EnvOk K B F H σ env) (o : Ok B F H s) (e : Ev B F H F1 H1 s1) : EnvOk K B F1 H1 σ env := by
  refine ⟨E.len, fun i d h => ?_, fun i xs h => ?_, fun i ks ds h => ?_, E.inj⟩
  · obtain ⟨v, h1, h2⟩ := E.dat i d h
    exact ⟨v, h1, h2.ext (e.sameF o)⟩
  · obtain ⟨a, vs, h1, h2, h3, h4, h5⟩ := E.own i xs h
    exact ⟨a, vs, h1, (e.fs a (by rw [h4]; exact fun z => nomatch z)).trans h2, e.nown h4 h3, e.hs a _ h4 h3, h5.ext (e.sameF o)⟩
  · obtain ⟨a, vs, h1, h2, h3, h4, h5, h6⟩ := E.ownK i ks ds h
    exact ⟨a, vs, h1, (e.fs a (by rw [h4]; exact fun z => nomatch z)).trans h2, e.nown h4 h3, e.hs a _ h4 h3, h5, h6.ext (e.sameF o)⟩
end

abbrev ME (S : Type) := DE → S → Option (D × S)
abbrev MT (S : Type) := DE → S → Option (Bool × S)
abbrev ML (S : Type) := DE → S → Option (List D × S)
abbrev MO (S : Type) := DE → S → Option (Option Int × S)
def tD (K : PySem.W.Frag) {S : Type} (B : Amb S) (m : ME S) : TE := fun σ H Q => ∃ env F s d s', EnvOk K B F H σ env ∧ Ok B F H s ∧ m env s = some (d, s') ∧ ∀ v F' H', Ev B F H F' H' s' → Dv K B F' d v → Q v H'
def tT (K : PySem.W.Frag) {S : Type} (B : Amb S) (m : MT S) : TT := fun σ H Q => ∃ env F s b s', EnvOk K B F H σ env ∧ Ok B F H s ∧ m env s = some (b, s') ∧ ∀ F' H', Ev B F H F' H' s' → Q b H'
def tL (K : PySem.W.Frag) {S : Type} (B : Amb S) (m : ML S) : TA := fun σ H Q => ∃ env F s ds s', EnvOk K B F H σ env ∧ Ok B F H s ∧ m env s = some (ds, s') ∧ ∀ vs F' H', Ev B F H F' H' s' → DvL K B F' ds vs → Q vs H'
section
variable {X : Cx} {e : Expr}
theorem pe_w {t t' : TE} (h : PE X e t) (hi : ∀ σ H Q, t' σ H Q → t σ H Q) : PE X e t' := ⟨fun pins s σ H Q I hw => h.run pins s σ H Q I (hi σ H Q hw)⟩
theorem pt_w {t t' : TT} (h : PT X e t) (hi : ∀ σ H Q, t' σ H Q → t σ H Q) : PT X e t' := ⟨fun pins s σ H Q I hw => h.run pins s σ H Q I (hi σ H Q hw)⟩
theorem pw_w {t t' : TT} (h : PW X e t) (hi : ∀ σ H Q, t' σ H Q → t σ H Q) : PW X e t' := ⟨fun wh pins s σ H Q I hw => h.run wh pins s σ H Q I (hi σ H Q hw)⟩
theorem pa_w {es : List Expr} {t t' : TA} (h : PA X es t) (hi : ∀ σ H Q, t' σ H Q → t σ H Q) : PA X es t' := ⟨fun pos pins s σ H Q I hw => h.run pos pins s σ H Q I (hi σ H Q hw)⟩
end

/-! ### the words of a mirror -/
section
variable {S : Type} {B : Amb S}
def mVar (i : Nat) : ME S := fun env s => match env[i]? with
  | some (some (.dat d)) => some (d, s)
  | _ => none
def mC (d : D) : ME S := fun _ s => some (d, s)
def mU (f : D → Option D) (a : ME S) : ME S := fun env s => (a env s).bind fun p => (f p.1).map fun z => (z, p.2)
def mB (f : D → D → Option D) (a b : ME S) : ME S := fun env s => (a env s).bind fun p => (b env p.2).bind fun q => (f p.1 q.1).map fun z => (z, q.2)
def mNil : ML S := fun _ s => some ([], s)
def mCons (a : ME S) (l : ML S) : ML S := fun env s => (a env s).bind fun p => (l env p.2).map fun q => (p.1 :: q.1, q.2)
def mF (f : List D → Option D) (l : ML S) : ME S := fun env s => (l env s).bind fun p => (f p.1).map fun z => (z, p.2)
def blD : D → Option Bool
  | .bl b => some b
  | _ => none
def mIsT (a : ME S) : MT S := fun env s => (a env s).bind fun p => (blD p.1).map fun b => (b, p.2)
def mAndT (a b : MT S) : MT S := fun env s => (a env s).bind fun p => if p.1 = true then b env p.2 else some (false, p.2)
def mOrT (a b : MT S) : MT S := fun env s => (a env s).bind fun p => if p.1 = true then some (true, p.2) else b env p.2
def mNotT (a : MT S) : MT S := fun env s => (a env s).map fun p => (!p.1, p.2)
def mAnd (a b : ME S) : ME S := fun env s => (a env s).bind fun p => (blD p.1).bind fun c => if c = true then b env p.2 else some (.bl false, p.2)
def mOr (a b : ME S) : ME S := fun env s => (a env s).bind fun p => (blD p.1).bind fun c => if c = true then some (.bl true, p.2) else b env p.2
def mNot (a : ME S) : ME S := fun env s => (a env s).bind fun p => (blD p.1).map fun c => (.bl (!c), p.2)
def mIf (t : MT S) (a b : ME S) : ME S := fun env s => (t env s).bind fun p => if p.1 = true then a env p.2 else b env p.2
/-- two comparisons in a row -/
def mChain (f g : D → D → Option D) (a b c : ME S) : ME S := fun env s => (a env s).bind fun p => (b env p.2).bind fun q => (f p.1 q.1).bind fun z => (blD z).bind fun k =>
  if k = true then (c env q.2).bind fun r => (g q.1 r.1).map fun z => (z, r.2) else some (.bl false, q.2)
def mPart (a : ME S) : MO S := fun env s => (a env s).bind fun p => match p.1 with
  | .int i => some (some i, p.2)
  | _ => none
def mNoPart : MO S := fun _ s => some (none, s)
def mSl (f : D → Option Int → Option Int → Option D) (a : ME S) (l u : MO S) : ME S := fun env s => (a env s).bind fun p => (l env p.2).bind fun q => (u env q.2).bind fun r => (f p.1 q.1 r.1).map fun z => (z, r.2)
end

/-! ### what a rule by values is worth over data -/
def OpD (K : PySem.W.Frag) {S : Type} (B : Amb S) (r : R2) (f : D → D → Option D) : Prop := ∀ (F : Fz) (H : Hp) (s : S) (dx dy dz : D) (x y : V) (Q : VK), Ok B F H s → Dv K B F dx x → Dv K B F dy y → f dx dy = some dz →
  (∀ v F' H', Ev B F H F' H' s → Dv K B F' dz v → Q v H') → r x y H Q
def UnD (K : PySem.W.Frag) {S : Type} (B : Amb S) (r : V → Hp → VK → Prop) (f : D → Option D) : Prop := ∀ (F : Fz) (H : Hp) (s : S) (dx dz : D) (x : V) (Q : VK), Ok B F H s → Dv K B F dx x → f dx = some dz →
  (∀ v F' H', Ev B F H F' H' s → Dv K B F' dz v → Q v H') → r x H Q
def CallD (K : PySem.W.Frag) {S : Type} (B : Amb S) (r : List V → Hp → VK → Prop) (f : List D → Option D) : Prop := ∀ (F : Fz) (H : Hp) (s : S) (ds : List D) (dz : D) (vs : List V) (Q : VK), Ok B F H s → DvL K B F ds vs → f ds = some dz →
  (∀ v F' H', Ev B F H F' H' s → Dv K B F' dz v → Q v H') → r vs H Q

section
variable {X : Cx} {S : Type} {B : Amb S} {a b c : Expr} {es : List Expr} {pos : Pos} {ma mb mc : ME S} {ml : ML S}
theorem d_var {i : Nat} (h : PE X a (tVar i)) : PE X a (tD X.K B (mVar i)) := pe_w h fun σ H Q ⟨env, F, s, d, s', E, o, hm, hq⟩ => by
  unfold mVar at hm
  split at hm
  · rename_i d' hd
    cases hm
    obtain ⟨v, h1, h2⟩ := E.dat i d hd
    exact ⟨v, h1, hq v F H o.refl h2⟩
  · cases hm
theorem d_c {v : V} {d : D} (h : PE X a (tC v)) (hd : ∀ F, Dv X.K B F d v) : PE X a (tD X.K B (mC d)) := pe_w h fun σ H Q ⟨env, F, s, d', s', E, o, hm, hq⟩ => by
  have e : (d, s) = (d', s') := Option.some.inj hm
  cases e
  exact hq v F H o.refl (hd F)
theorem bin_un {f : D → D → Option D} {env : DE} {s s' : S} {d : D} (h : mB f ma mb env s = some (d, s')) : ∃ x s1 y, ma env s = some (x, s1) ∧ mb env s1 = some (y, s') ∧ f x y = some d := by
  unfold mB at h
  cases e1 : ma env s with
  | none => simp [e1] at h
  | some p =>
    cases e2 : mb env p.2 with
    | none => simp [e1, e2] at h
    | some q =>
      cases e3 : f p.1 q.1 with
      | none => simp [e1, e2, e3] at h
      | some z =>
        simp [e1, e2, e3] at h
        obtain ⟨h1, h2⟩ := h
        subst h1 h2
        exact ⟨p.1, p.2, q.1, rfl, e2, e3⟩
theorem un_un {f : D → Option D} {env : DE} {s s' : S} {d : D} (h : mU f ma env s = some (d, s')) : ∃ x, ma env s = some (x, s') ∧ f x = some d := by
  unfold mU at h
  cases e1 : ma env s with
  | none => simp [e1] at h
  | some p =>
    cases e3 : f p.1 with
    | none => simp [e1, e3] at h
    | some z =>
      simp [e1, e3] at h
      obtain ⟨h1, h2⟩ := h
      subst h1 h2
      exact ⟨p.1, rfl, e3⟩
theorem f_un {f : List D → Option D} {env : DE} {s s' : S} {d : D} (h : mF f ml env s = some (d, s')) : ∃ x, ml env s = some (x, s') ∧ f x = some d := by
  unfold mF at h
  cases e1 : ml env s with
  | none => simp [e1] at h
  | some p =>
    cases e3 : f p.1 with
    | none => simp [e1, e3] at h
    | some z =>
      simp [e1, e3] at h
      obtain ⟨h1, h2⟩ := h
      subst h1 h2
      exact ⟨p.1, rfl, e3⟩
/-- two parts, one behind the other, then a rule by values -/
theorem two_D {r : R2} {f : D → D → Option D} (hd : OpD X.K B r f) {σ : L2.St} {H : Hp} {Q : VK} (h : tD X.K B (mB f ma mb) σ H Q) : tOp r (tD X.K B ma) (tD X.K B mb) σ H Q := by
  obtain ⟨env, F, s, d, s', E, o, hm, hq⟩ := h
  obtain ⟨x, s1, y, e1, e2, e3⟩ := bin_un hm
  refine ⟨env, F, s, x, s1, E, o, e1, fun v F1 H1 v1 hx => ?_⟩
  refine ⟨env, F1, s1, y, s', E.step o v1, v1.ok, e2, fun u F2 H2 v2 hy => ?_⟩
  exact hd F2 H2 s' x y d v u Q v2.ok (hx.ext (v2.sameF v1.ok)) hy e3 fun z F3 H3 v3 hz => hq z F3 H3 ((v1.trans v2).trans v3) hz
theorem d_op {op : Operator} {r : R2} {f : D → D → Option D} (ho : OpR X (binaryOp op) r) (hd : OpD X.K B r f) (ha : PE X a (tD X.K B ma)) (hb : PE X b (tD X.K B mb)) : PE X (.BinOp a op b pos) (tD X.K B (mB f ma mb)) :=
  pe_w (pe_op ho ha hb) fun _ _ _ h => two_D hd h
theorem d_cmp {op : CmpOp} {r : R2} {f : D → D → Option D} (ho : OpR X (compareOp op) r) (hd : OpD X.K B r f) (ha : PE X a (tD X.K B ma)) (hb : PE X b (tD X.K B mb)) (hm : behindInMarks op b = false := by first | exact nomark _ | rfl) :
    PE X (.Compare a [op] [b] pos) (tD X.K B (mB f ma mb)) := pe_w (pe_cmpR ho ha hb hm) fun _ _ _ h => two_D hd h
theorem d_ix {r : R2} {f : D → D → Option D} (ho : IxR X r) (hd : OpD X.K B r f) (ha : PE X a (tD X.K B ma)) (hb : PE X b (tD X.K B mb)) (hs : PlainIx b := by exact fun _ _ => rfl) : PE X (.Subscript a b pos) (tD X.K B (mB f ma mb)) :=
  pe_w (pe_ix ho ha hb hs) fun _ _ _ h => two_D hd h
theorem d_un {op : UnaryOp} {r : V → Hp → VK → Prop} {f : D → Option D} (ho : UnR X (unaryOp op) r) (hd : UnD X.K B r f) (ha : PE X a (tD X.K B ma)) : PE X (.UnaryOp op a pos) (tD X.K B (mU f ma)) :=
  pe_w (pe_un ho ha) fun σ H Q ⟨env, F, s, d, s', E, o, hm, hq⟩ => by
    obtain ⟨x, e1, e3⟩ := un_un hm
    exact ⟨env, F, s, x, s', E, o, e1, fun v F1 H1 v1 hx => hd F1 H1 s' x d v Q v1.ok hx e3 fun z F3 H3 v3 hz => hq z F3 H3 (v1.trans v3) hz⟩

/-! argument lists, displays -/
theorem l_nil : PA X [] (tL X.K B mNil) := pa_w pa_nil fun σ H Q ⟨env, F, s, d, s', E, o, hm, hq⟩ => by
  have e : ([], s) = (d, s') := Option.some.inj hm
  cases e
  exact hq [] F H o.refl rfl
theorem l_cons (ha : PE X a (tD X.K B ma)) (hl : PA X es (tL X.K B ml)) (hs : starEach (a :: es) X.env = (false, eval a X.env) :: starEach es X.env := by rfl) : PA X (a :: es) (tL X.K B (mCons ma ml)) :=
  pa_w (pa_cons ha hl hs) fun σ H Q ⟨env, F, s, d, s', E, o, hm, hq⟩ => by
    unfold mCons at hm
    cases e1 : ma env s with
    | none => simp [e1] at hm
    | some p =>
      cases e2 : ml env p.2 with
      | none => simp [e1, e2] at hm
      | some q =>
        simp [e1, e2] at hm
        obtain ⟨h1, h2⟩ := hm
        subst h1 h2
        exact ⟨env, F, s, p.1, p.2, E, o, e1, fun v F1 H1 v1 hx => ⟨env, F1, p.2, q.1, q.2, E.step o v1, v1.ok, e2, fun vs F2 H2 v2 hy =>
          hq _ F2 H2 (v1.trans v2) ⟨v, vs, rfl, hx.ext (v2.sameF v1.ok), hy⟩⟩⟩
def tupD : List D → Option D := fun ds => if ds.length ≤ sizeLine then some (.tup ds) else none
def lstD : List D → Option D := fun ds => if ds.length ≤ sizeLine then some (.lst ds) else none
theorem new_tup {K : PySem.W.Frag} {F : Fz} {H : Hp} {s : S} {ds : List D} {vs : List V} {p : Addr} (o : Ok B F H s) (hp : H p = none) (h : DvL K B F ds vs) : Dv K B (upF F p (.tup vs)) (.tup ds) (.ref p) :=
  ⟨p, vs, rfl, SqT.of upd_same, h.ext ((Ev.new o (.tup vs) hp).sameF o)⟩
theorem new_lst {K : PySem.W.Frag} {F : Fz} {H : Hp} {s : S} {ds : List D} {vs : List V} {p : Addr} (o : Ok B F H s) (hp : H p = none) (h : DvL K B F ds vs) : Dv K B (upF F p (.lst vs)) (.lst ds) (.ref p) :=
  ⟨p, vs, rfl, upd_same, h.ext ((Ev.new o (.lst vs) hp).sameF o)⟩
theorem d_tup {x1} (hl : PA X es (tL X.K B ml)) : PE X (.Tuple es x1 pos) (tD X.K B (mF tupD ml)) := pe_w (pe_tup hl) fun σ H Q ⟨env, F, s, d, s', E, o, hm, hq⟩ => by
  obtain ⟨ds, e1, e2⟩ := f_un hm
  unfold tupD at e2
  split at e2
  · rename_i hz
    cases e2
    refine ⟨env, F, s, ds, s', E, o, e1, fun vs F1 H1 v1 hv => ⟨by rw [hv.len]; exact hz, fun p hp => ?_⟩⟩
    exact hq _ _ _ (v1.trans (Ev.new v1.ok _ hp)) (new_tup v1.ok hp hv)
  · cases e2
theorem d_lst (hl : PA X es (tL X.K B ml)) : PE X (.List es pos) (tD X.K B (mF lstD ml)) := pe_w (pe_lst hl) fun σ H Q ⟨env, F, s, d, s', E, o, hm, hq⟩ => by
  obtain ⟨ds, e1, e2⟩ := f_un hm
  unfold lstD at e2
  split at e2
  · rename_i hz
    cases e2
    refine ⟨env, F, s, ds, s', E, o, e1, fun vs F1 H1 v1 hv => ⟨by rw [hv.len]; exact hz, fun p hp => ?_⟩⟩
    exact hq _ _ _ (v1.trans (Ev.new v1.ok _ hp)) (new_lst v1.ok hp hv)
  · cases e2
/-- a built-in function, a built-in class, by their rules -/
theorem call_D {r : List V → Hp → VK → Prop} {f : List D → Option D} (hd : CallD X.K B r f) {σ : L2.St} {H : Hp} {Q : VK} (h : tD X.K B (mF f ml) σ H Q) : tCB r (tL X.K B ml) σ H Q := by
  obtain ⟨env, F, s, d, s', E, o, hm, hq⟩ := h
  obtain ⟨ds, e1, e2⟩ := f_un hm
  exact ⟨env, F, s, ds, s', E, o, e1, fun vs F1 H1 v1 hv => hd F1 H1 s' ds d vs Q v1.ok hv e2 fun z F3 H3 v3 hz => hq z F3 H3 (v1.trans v3) hz⟩
theorem d_callB {x : Str} {p : Pos} {id : String} {r : List V → Hp → VK → Prop} {f : List D → Option D} (hc : CallR X (.builtin id) r) (hd : CallD X.K B r f) (hm : X.mg x = none) (hv : bootBuiltins x = some (.builtin id)) (ha : PA X (a :: es) (tL X.K B ml))
    (hg : Gl X x := by rfl) (hn : x ≠ "__name__" := by decide) (hdb : (x == ("__debug__" : Str)) = false := by decide)
    (he : starEach (a :: es) X.env = (false, eval a X.env) :: starEach es X.env := by rfl) (hpl : (backTo pos (starEach es X.env)).any (·.1) = false := by rfl) : PE X (.Call (.Name x p) (a :: es) [] pos) (tD X.K B (mF f ml)) :=
  pe_w (pe_callB hc hg hm hv ha hn hdb he hpl) fun _ _ _ h => call_D hd h
theorem d_callTy {x : Str} {p : Pos} {T : String} {r : List V → Hp → VK → Prop} {f : List D → Option D} (hc : CallR X (.type T) r) (hd : CallD X.K B r f) (hm : X.mg x = none) (hv : bootBuiltins x = some (.type T)) (ha : PA X (a :: es) (tL X.K B ml))
    (hg : Gl X x := by rfl) (hn : x ≠ "__name__" := by decide) (hdb : (x == ("__debug__" : Str)) = false := by decide)
    (he : starEach (a :: es) X.env = (false, eval a X.env) :: starEach es X.env := by rfl) (hpl : (backTo pos (starEach es X.env)).any (·.1) = false := by rfl) : PE X (.Call (.Name x p) (a :: es) [] pos) (tD X.K B (mF f ml)) :=
  pe_w (pe_callTy hc hg hm hv ha hn hdb he hpl) fun _ _ _ h => call_D hd h

/-! tests -/
theorem dt_val (h : PE X a (tD X.K B ma)) (he : ∀ whole, isTrue a X.env whole = (do let v ← whole; standAt a.pos; holding [v] (truthy v)) := by intro _; rfl) : PT X a (tT X.K B (mIsT ma)) := pt_w (pt_val h he) fun σ H Q ⟨env, F, s, d, s', E, o, hm, hq⟩ => by
  unfold mIsT at hm
  cases e1 : ma env s with
  | none => simp [e1] at hm
  | some p =>
    cases e2 : blD p.1 with
    | none => simp [e1, e2] at hm
    | some k =>
      simp [e1, e2] at hm
      obtain ⟨h1, h2⟩ := hm
      subst h1 h2
      obtain ⟨d, s1⟩ := p
      cases d with
      | bl c =>
        cases e2
        exact ⟨env, F, s, .bl k, s1, E, o, e1, fun v F1 H1 v1 hx => ⟨k, hx, hq F1 H1 v1⟩⟩
      | _ => cases e2
theorem dt_cmp {op : CmpOp} {r : R2} {f : D → D → Option D} (ho : OpR X (compareOp op) r) (hd : OpD X.K B r f) (ha : PE X a (tD X.K B ma)) (hb : PE X b (tD X.K B mb)) (hm : behindInMarks op b = false := by first | exact nomark _ | rfl) :
    PT X (.Compare a [op] [b] pos) (tT X.K B (mIsT (mB f ma mb))) := pt_w (pt_cmpR ho ha hb hm) fun σ H Q ⟨env, F, s, d, s', E, o, hm, hq⟩ => by
  unfold mIsT at hm
  cases e1 : mB f ma mb env s with
  | none => simp [e1] at hm
  | some p =>
    cases e2 : blD p.1 with
    | none => simp [e1, e2] at hm
    | some k =>
      simp [e1, e2] at hm
      obtain ⟨h1, h2⟩ := hm
      subst h1 h2
      obtain ⟨d, s1⟩ := p
      cases d with
      | bl c =>
        cases e2
        exact two_D hd ⟨env, F, s, .bl k, s1, E, o, e1, fun v F1 H1 v1 hx => ⟨k, hx, hq F1 H1 v1⟩⟩
      | _ => cases e2
variable {ta tb : MT S} {rest : List Expr}
theorem dw_and1 (h : PT X a (tT X.K B ta)) : PW X (.BoolOp .And [a] pos) (tT X.K B ta) := pw_and1 h
theorem dw_or1 (h : PT X a (tT X.K B ta)) : PW X (.BoolOp .Or [a] pos) (tT X.K B ta) := pw_or1 h
theorem dw_and (ha : PT X a (tT X.K B ta)) (hb : PW X (.BoolOp .And (b :: rest) pos) (tT X.K B tb)) : PW X (.BoolOp .And (a :: b :: rest) pos) (tT X.K B (mAndT ta tb)) := pw_w (pw_and ha hb) fun σ H Q ⟨env, F, s, d, s', E, o, hm, hq⟩ => by
  unfold mAndT at hm
  cases e1 : ta env s with
  | none => simp [e1] at hm
  | some p =>
    obtain ⟨k, s1⟩ := p
    simp only [e1, Option.bind_some] at hm
    refine ⟨env, F, s, k, s1, E, o, e1, fun F1 H1 v1 => ?_⟩
    cases k with
    | true => exact ⟨env, F1, s1, d, s', E.step o v1, v1.ok, hm, fun F2 H2 v2 => hq F2 H2 (v1.trans v2)⟩
    | false =>
      cases hm
      exact hq F1 H1 v1
theorem dw_or (ha : PT X a (tT X.K B ta)) (hb : PW X (.BoolOp .Or (b :: rest) pos) (tT X.K B tb)) : PW X (.BoolOp .Or (a :: b :: rest) pos) (tT X.K B (mOrT ta tb)) := pw_w (pw_or ha hb) fun σ H Q ⟨env, F, s, d, s', E, o, hm, hq⟩ => by
  unfold mOrT at hm
  cases e1 : ta env s with
  | none => simp [e1] at hm
  | some p =>
    obtain ⟨k, s1⟩ := p
    simp only [e1, Option.bind_some] at hm
    refine ⟨env, F, s, k, s1, E, o, e1, fun F1 H1 v1 => ?_⟩
    cases k with
    | false => exact ⟨env, F1, s1, d, s', E.step o v1, v1.ok, hm, fun F2 H2 v2 => hq F2 H2 (v1.trans v2)⟩
    | true =>
      cases hm
      exact hq F1 H1 v1
theorem dt_w (h : PW X a (tT X.K B ta)) : PT X a (tT X.K B ta) := h.pt
theorem dt_not (h : PT X a (tT X.K B ta)) : PT X (.UnaryOp .Not a pos) (tT X.K B (mNotT ta)) := pt_w (pt_not h) fun σ H Q ⟨env, F, s, d, s', E, o, hm, hq⟩ => by
  unfold mNotT at hm
  cases e1 : ta env s with
  | none => simp [e1] at hm
  | some p =>
    obtain ⟨k, s1⟩ := p
    simp only [e1, Option.map_some, Option.some.injEq, Prod.mk.injEq] at hm
    obtain ⟨rfl, rfl⟩ := hm
    exact ⟨env, F, s, k, s1, E, o, e1, fun F1 H1 v1 => hq F1 H1 v1⟩
/-! and, or, not, if as values -/
theorem d_one {op} (h : PE X a (tD X.K B ma)) : PE X (.BoolOp op [a] pos) (tD X.K B ma) := pe_one h
theorem d_and (ha : PE X a (tD X.K B ma)) (hb : PE X (.BoolOp .And (b :: rest) pos) (tD X.K B mb)) : PE X (.BoolOp .And (a :: b :: rest) pos) (tD X.K B (mAnd ma mb)) := pe_w (pe_and ha hb) fun σ H Q ⟨env, F, s, d, s', E, o, hm, hq⟩ => by
  unfold mAnd at hm
  cases e1 : ma env s with
  | none => simp [e1] at hm
  | some p =>
    obtain ⟨dk, s1⟩ := p
    cases dk with
    | bl k =>
      simp only [e1, Option.bind_some, blD] at hm
      refine ⟨env, F, s, .bl k, s1, E, o, e1, fun v F1 H1 v1 hx => ⟨k, hx, ?_⟩⟩
      cases k with
      | true => exact ⟨env, F1, s1, d, s', E.step o v1, v1.ok, hm, fun v F2 H2 v2 hz => hq v F2 H2 (v1.trans v2) hz⟩
      | false =>
        cases hm
        exact hq _ F1 H1 v1 rfl
    | _ => simp [e1, blD] at hm
theorem d_or (ha : PE X a (tD X.K B ma)) (hb : PE X (.BoolOp .Or (b :: rest) pos) (tD X.K B mb)) : PE X (.BoolOp .Or (a :: b :: rest) pos) (tD X.K B (mOr ma mb)) := pe_w (pe_or ha hb) fun σ H Q ⟨env, F, s, d, s', E, o, hm, hq⟩ => by
  unfold mOr at hm
  cases e1 : ma env s with
  | none => simp [e1] at hm
  | some p =>
    obtain ⟨dk, s1⟩ := p
    cases dk with
    | bl k =>
      simp only [e1, Option.bind_some, blD] at hm
      refine ⟨env, F, s, .bl k, s1, E, o, e1, fun v F1 H1 v1 hx => ⟨k, hx, ?_⟩⟩
      cases k with
      | false => exact ⟨env, F1, s1, d, s', E.step o v1, v1.ok, hm, fun v F2 H2 v2 hz => hq v F2 H2 (v1.trans v2) hz⟩
      | true =>
        cases hm
        exact hq _ F1 H1 v1 rfl
    | _ => simp [e1, blD] at hm
theorem d_if {t : MT S} (hc : PT X c (tT X.K B t)) (ha : PE X a (tD X.K B ma)) (hb : PE X b (tD X.K B mb)) : PE X (.IfExp c a b pos) (tD X.K B (mIf t ma mb)) := pe_w (pe_ifExp hc ha hb) fun σ H Q ⟨env, F, s, d, s', E, o, hm, hq⟩ => by
  unfold mIf at hm
  cases e1 : t env s with
  | none => simp [e1] at hm
  | some p =>
    obtain ⟨k, s1⟩ := p
    simp only [e1, Option.bind_some] at hm
    refine ⟨env, F, s, k, s1, E, o, e1, fun F1 H1 v1 => ?_⟩
    cases k with
    | true => exact ⟨env, F1, s1, d, s', E.step o v1, v1.ok, hm, fun v F2 H2 v2 hz => hq v F2 H2 (v1.trans v2) hz⟩
    | false => exact ⟨env, F1, s1, d, s', E.step o v1, v1.ok, hm, fun v F2 H2 v2 hz => hq v F2 H2 (v1.trans v2) hz⟩
/-! parts of a slice -/
end
end Dl

set_option Elab.async false
set_option linter.all false
set_option maxRecDepth 100000
set_option maxHeartbeats 4000000
/-! D3: operators over data. -/
namespace Dl
open PySem
open L2
open PySem.W (alike dataLt)

mutual
def toPy : D → Option PyData
  | .non => some .none
  | .bl b => some (.bool b)
  | .int i => some (.int i)
  | .str x => some (.str x)
  | .tup ds => (toPyL ds).map .tuple
  | .lst ds => (toPyL ds).map .list
  | .dct _ _ => none
  | .hnd => none
  | .exn _ _ _ => none
  | .err _ _ _ => none
  | .ins _ _ _ => none
  | .obj _ => none
  | .ftp _ => none
def toPyL : List D → Option (List PyData)
  | [] => some []
  | d :: ds => match toPy d, toPyL ds with
    | some p, some ps => some (p :: ps)
    | _, _ => none
end

section
variable {K : PySem.W.Frag} {S : Type} {B : Amb S} {F : Fz} {H : Hp}
mutual
theorem dp_of (e : Same F H) : ∀ {d : D} {v : V} {p : PyData}, toPy d = some p → Dv K B F d v → Dp K H v p
  | .non, _, _, h, k => by
    cases h
    cases (show _ = V.non from k)
    exact .non
  | .bl b, _, _, h, k => by
    cases h
    cases (show _ = V.bl b from k)
    exact .bl b
  | .int i, _, _, h, k => by
    cases h
    cases (show _ = V.int i from k)
    exact .int i
  | .str x, _, _, h, k => by
    cases h
    cases (show _ = V.str x from k)
    exact .str x
  | .tup ds, _, p, h, ⟨a, vs, h1, h2, h3⟩ => by
    subst h1
    unfold toPy at h
    cases q : toPyL ds with
    | none => simp [q] at h
    | some ps =>
      simp [q] at h
      subst h
      exact .tup (sqT_ext e h2) (dpL_of e q h3)
  | .lst ds, _, p, h, ⟨a, vs, h1, h2, h3⟩ => by
    subst h1
    unfold toPy at h
    cases q : toPyL ds with
    | none => simp [q] at h
    | some ps =>
      simp [q] at h
      subst h
      exact .lst (SqL.of (e a _ h2)) (dpL_of e q h3)
  | .dct _ _, _, _, h, _ => by cases h
  | .hnd, _, _, h, _ => by cases h
  | .exn _ _ _, _, _, h, _ => by cases h
  | .err _ _ _, _, _, h, _ => by cases h
  | .ins _ _ _, _, _, h, _ => by cases h
  | .obj _, _, _, h, _ => by cases h
  | .ftp _, _, _, h, _ => by cases h
theorem dpL_of (e : Same F H) : ∀ {ds : List D} {vs : List V} {ps : List PyData}, toPyL ds = some ps → DvL K B F ds vs → DpAll K H vs ps
  | [], _, _, h, k => by
    cases h
    cases (show _ = [] from k)
    exact .nil
  | d :: ds, _, _, h, ⟨v, r, h1, h2, h3⟩ => by
    subst h1
    unfold toPyL at h
    cases q1 : toPy d with
    | none => simp [q1] at h
    | some p1 =>
      cases q2 : toPyL ds with
      | none => simp [q1, q2] at h
      | some ps =>
        simp [q1, q2] at h
        subst h
        exact .cons (dp_of e q1 h2) (dpL_of e q2 h3)
end
end

/-! ### relations -/
def rRel (K : PySem.W.Frag) (f : PyData → PyData → Option Bool) : R2 := fun x y H Q => ∃ d e b, Dp K H x d ∧ Dp K H y e ∧ f d e = some b ∧ Q (.bl b) H
def relD (f : PyData → PyData → Option Bool) (x y : D) : Option D := match toPy x, toPy y with
  | some a, some b => (f a b).map D.bl
  | _, _ => none
theorem relD_ok {K : PySem.W.Frag} {S : Type} {B : Amb S} (f : PyData → PyData → Option Bool) : OpD K B (rRel K f) (relD f) := fun F H s dx dy dz x y Q o hx hy hf hq => by
  unfold relD at hf
  cases e1 : toPy dx with
  | none => simp [e1] at hf
  | some a =>
    cases e2 : toPy dy with
    | none => simp [e1, e2] at hf
    | some b =>
      cases e3 : f a b with
      | none => simp [e1, e2, e3] at hf
      | some k =>
        simp [e1, e2, e3] at hf
        subst hf
        exact ⟨a, b, k, dp_of o.sub e1 hx, dp_of o.sub e2 hy, e3, hq _ F H o.refl rfl⟩
def isNone : PyData → Bool
  | .none => true
  | _ => false
def eqP (d e : PyData) : Option Bool := if d.plain = true ∧ e.plain = true ∧ min d.depth e.depth ≤ 64 then some (PyData.eqv d e) else none
def neP (d e : PyData) : Option Bool := if d.plain = true ∧ e.plain = true ∧ min d.depth e.depth ≤ 64 then some (!PyData.eqv d e) else none
def ltP (d e : PyData) : Option Bool := if alike d e = true ∧ isNone d = false ∧ min d.depth e.depth ≤ 64 then some (dataLt d e) else none
def gtP (d e : PyData) : Option Bool := if alike d e = true ∧ isNone d = false ∧ min d.depth e.depth ≤ 64 then some (dataLt e d) else none
def leP (d e : PyData) : Option Bool := if alike d e = true ∧ isNone d = false ∧ min d.depth e.depth ≤ 64 then some (!dataLt e d) else none
def geP (d e : PyData) : Option Bool := if alike d e = true ∧ isNone d = false ∧ min d.depth e.depth ≤ 64 then some (!dataLt d e) else none
theorem notNone {d : PyData} (h : isNone d = false) : d ≠ .none := fun e => by
  subst e
  cases h
section
variable {X : Cx}
theorem op_eqP (hu : X.A.units + 64 < cLine) : OpR X (compareOp .Eq) (rRel X.K eqP) := by
  intro pins s σ H x y v u Q I rx ry h
  obtain ⟨d, e, b, hd, he, hf, q⟩ := h
  unfold eqP at hf
  split at hf
  · rename_i c
    cases hf
    obtain ⟨as, r1⟩ := Dp.reads I d x v hd rx
    obtain ⟨bs, r2⟩ := Dp.reads I e y u he ry
    exact PySem.SeqAt.eq_plain r1 r2 c.1 c.2.1 (by have := c.2.2; omega) ⟨.bl _, H, I, rfl, q⟩
  · cases hf
theorem op_neP (hu : X.A.units + 64 < cLine) : OpR X (compareOp .NotEq) (rRel X.K neP) := by
  intro pins s σ H x y v u Q I rx ry h
  obtain ⟨d, e, b, hd, he, hf, q⟩ := h
  unfold neP at hf
  split at hf
  · rename_i c
    cases hf
    obtain ⟨as, r1⟩ := Dp.reads I d x v hd rx
    obtain ⟨bs, r2⟩ := Dp.reads I e y u he ry
    exact PySem.SeqAt.ne_plain r1 r2 c.1 c.2.1 (by have := c.2.2; omega) ⟨.bl _, H, I, rfl, q⟩
  · cases hf
theorem op_ltP (hu : X.A.units + 64 < cLine) : OpR X (compareOp .Lt) (rRel X.K ltP) := by
  intro pins s σ H x y v u Q I rx ry h
  obtain ⟨d, e, b, hd, he, hf, q⟩ := h
  unfold ltP at hf
  split at hf
  · rename_i c
    cases hf
    obtain ⟨as, r1⟩ := Dp.reads I d x v hd rx
    obtain ⟨bs, r2⟩ := Dp.reads I e y u he ry
    exact PySem.W.lt_data r1 r2 c.1 (notNone c.2.1) (by have := c.2.2; omega) ⟨.bl _, H, I, rfl, q⟩
  · cases hf
theorem op_gtP (hu : X.A.units + 64 < cLine) : OpR X (compareOp .Gt) (rRel X.K gtP) := by
  intro pins s σ H x y v u Q I rx ry h
  obtain ⟨d, e, b, hd, he, hf, q⟩ := h
  unfold gtP at hf
  split at hf
  · rename_i c
    cases hf
    obtain ⟨as, r1⟩ := Dp.reads I d x v hd rx
    obtain ⟨bs, r2⟩ := Dp.reads I e y u he ry
    exact PySem.W.gt_data r1 r2 c.1 (notNone c.2.1) (by have := c.2.2; omega) ⟨.bl _, H, I, rfl, q⟩
  · cases hf
theorem op_geP (hu : X.A.units + 64 < cLine) : OpR X (compareOp .GtE) (rRel X.K geP) := by
  intro pins s σ H x y v u Q I rx ry h
  obtain ⟨d, e, b, hd, he, hf, q⟩ := h
  unfold geP at hf
  split at hf
  · rename_i c
    cases hf
    obtain ⟨as, r1⟩ := Dp.reads I d x v hd rx
    obtain ⟨bs, r2⟩ := Dp.reads I e y u he ry
    exact PySem.W.ge_data r1 r2 c.1 (notNone c.2.1) (by have := c.2.2; omega) ⟨.bl _, H, I, rfl, q⟩
  · cases hf
end

/-! ### +, -, *, //, % -/
section
variable {K : PySem.W.Frag} {S : Type} {B : Amb S}
def addD : D → D → Option D
  | .int i, .int j => some (.int (i + j))
  | .str x, .str y => if x.length + y.length ≤ sizeLine then some (.str (x ++ y)) else none
  | .tup xs, .tup ys => if xs.length + ys.length ≤ sizeLine then some (.tup (xs ++ ys)) else none
  | .lst xs, .lst ys => if xs.length + ys.length ≤ sizeLine then some (.lst (xs ++ ys)) else none
  | _, _ => none
def rAddA (K : PySem.W.Frag) : R2 := fun x y H Q => rI0 (fun i j => .int (i + j)) x y H Q ∨ (∃ i j, x = .str i ∧ y = .str j ∧ i.length + j.length ≤ sizeLine ∧ Q (.str (i ++ j)) H) ∨ rCatA K x y H Q ∨ rCat x y H Q
theorem op_addA {X : Cx} : OpR X (binaryOp .Add) (rAddA X.K) := op_add.or (op_add_str.or (op_catA.or op_cat))
theorem addD_ok : OpD K B (rAddA K) addD := fun F H s dx dy dz x y Q o hx hy hf hq => by
  unfold addD at hf
  split at hf
  · rename_i i j
    cases hf
    exact .inl ⟨i, j, hx, hy, hq _ F H o.refl rfl⟩
  · rename_i i j
    split at hf
    · rename_i c
      cases hf
      exact .inr (.inl ⟨i, j, hx, hy, c, hq _ F H o.refl rfl⟩)
    · cases hf
  · rename_i ds es
    split at hf
    · rename_i c
      cases hf
      obtain ⟨a, vs, ea, h2, h3⟩ := hx
      obtain ⟨b, us, eb, k2, k3⟩ := hy
      refine .inr (.inr (.inl ⟨a, b, vs, us, ea, eb, sqT_ext o.sub h2, sqT_ext o.sub k2, by rw [h3.len, k3.len]; exact c, fun e => ?_, fun _ e => ?_, fun _ _ p hp => ?_⟩))
      · subst e
        have l0 := h3.len
        have e0 : ds = [] := List.eq_nil_of_length_eq_zero l0.symm
        subst e0
        exact hq _ F H o.refl ⟨b, us, rfl, k2, k3⟩
      · subst e
        have l0 := k3.len
        have e0 : es = [] := List.eq_nil_of_length_eq_zero l0.symm
        subst e0
        refine hq _ F H o.refl ⟨a, vs, rfl, h2, ?_⟩
        rw [List.append_nil]
        exact h3
      · exact hq _ _ _ (Ev.new o _ hp) (new_tup o hp (h3.app k3))
    · cases hf
  · rename_i ds es
    split at hf
    · rename_i c
      cases hf
      obtain ⟨a, vs, ea, h2, h3⟩ := hx
      obtain ⟨b, us, eb, k2, k3⟩ := hy
      exact .inr (.inr (.inr ⟨a, b, vs, us, ea, eb, o.sub a _ h2, o.sub b _ k2, by rw [h3.len, k3.len]; exact c, fun p hp => hq _ _ _ (Ev.new o _ hp) (new_lst o hp (h3.app k3))⟩))
    · cases hf
  · cases hf
def intD (f : Int → Int → Option Int) : D → D → Option D
  | .int i, .int j => (f i j).map D.int
  | _, _ => none
theorem intD_ok {C : Int → Int → Prop} {g : Int → Int → Int} {f : Int → Int → Option Int} (h : ∀ i j k, f i j = some k → C i j ∧ k = g i j) : OpD K B (rI C fun i j => .int (g i j)) (intD f) := fun F H s dx dy dz x y Q o hx hy hf hq => by
  unfold intD at hf
  split at hf
  · rename_i i j
    cases e : f i j with
    | none => simp [e] at hf
    | some k =>
      simp [e] at hf
      subst hf
      obtain ⟨c, e2⟩ := h i j k e
      subst e2
      exact ⟨i, j, hx, hy, c, hq _ F H o.refl rfl⟩
  · cases hf
def subD : D → D → Option D := intD fun i j => some (i - j)
theorem op_subA {X : Cx} : OpR X (binaryOp .Sub) (rI (fun _ _ => True) fun i j => .int (i - j)) := fun pins s σ H x y v u Q I rx ry ⟨i, j, e1, e2, _, q⟩ => op_sub pins s σ H x y v u Q I rx ry ⟨i, j, e1, e2, q⟩
theorem subD_ok : OpD K B (rI (fun _ _ => True) fun i j => .int (i - j)) subD := intD_ok fun _ _ _ e => ⟨trivial, (Option.some.inj e).symm⟩
def CMulA (i j : Int) : Prop := CMulW i j ∨ CMul i j
theorem op_mulA {X : Cx} : OpR X (binaryOp .Mult) (rI CMulA fun i j => .int (i * j)) := fun pins s σ H x y v u Q I rx ry ⟨i, j, e1, e2, c, q⟩ => by
  rcases c with c | c
  · exact op_mulW pins s σ H x y v u Q I rx ry ⟨i, j, e1, e2, c, q⟩
  · exact op_mul pins s σ H x y v u Q I rx ry ⟨i, j, e1, e2, c, q⟩
def mulI (i j : Int) : Option Int := if i.natAbs.log2 + j.natAbs.log2 < 1000000 ∨ (-(2 ^ 64) < i ∧ i < 2 ^ 64) ∨ (-(2 ^ 64) < j ∧ j < 2 ^ 64) then some (i * j) else none
def mulD : D → D → Option D := intD mulI
theorem mulD_ok : OpD K B (rI CMulA fun i j => .int (i * j)) mulD := intD_ok fun i j k e => by
  unfold mulI at e
  split at e
  · rename_i c
    cases e
    exact ⟨c, rfl⟩
  · cases e
def divI (i j : Int) : Option Int := if 0 < j ∧ j.natAbs.log2 < 9000 then some (i / j) else none
def divD : D → D → Option D := intD divI
theorem divD_ok : OpD K B (rI CDivW fun i j => .int (i / j)) divD := intD_ok fun i j k e => by
  unfold divI at e
  split at e
  · rename_i c
    cases e
    exact ⟨c, rfl⟩
  · cases e
def modI (i j : Int) : Option Int := if 0 < j then some (i % j) else none
def modD : D → D → Option D := intD modI
theorem modD_ok : OpD K B (rI (fun _ j => 0 < j) fun i j => .int (i % j)) modD := intD_ok fun i j k e => by
  unfold modI at e
  split at e
  · rename_i c
    cases e
    exact ⟨c, rfl⟩
  · cases e
def powI (i j : Int) : Option Int := if 0 ≤ j ∧ j ≤ 1000000 ∧ i.natAbs < 2 ^ 64 then some (i ^ j.toNat) else none
def powD : D → D → Option D := intD powI
theorem powD_ok : OpD K B (rI CPow fun i j => .int (i ^ j.toNat)) powD := intD_ok fun i j k e => by
  unfold powI at e
  split at e
  · rename_i c
    cases e
    exact ⟨c, rfl⟩
  · cases e
def negD : D → Option D
  | .int i => some (.int (-i))
  | _ => none
theorem negD_ok : UnD K B (rU fun i => .int (-i)) negD := fun F H s dx dz x Q o hx hf hq => by
  unfold negD at hf
  split at hf
  · rename_i i
    cases hf
    exact ⟨i, hx, hq _ F H o.refl rfl⟩
  · cases hf

/-! is None -/
def isNonD : D → Bool
  | .non => true
  | _ => false
def isND : D → D → Option D
  | x, .non => some (.bl (isNonD x))
  | _, _ => none
def notND : D → D → Option D
  | x, .non => some (.bl (!isNonD x))
  | _, _ => none
/-! ### items, slices, lengths -/
def ixD : D → D → Option D
  | .tup ds, .int i => atI ds i
  | .lst ds, .int i => atI ds i
  | .str x, .int i => if x.length ≤ sizeLine then (atI x.cps.toList i).map fun c => .str ⟨#[c]⟩ else none
  | _, _ => none
theorem atI_dv {F : Fz} {ds : List D} {vs : List V} {i : Int} {d : D} (h : DvL K B F ds vs) (e : atI ds i = some d) : ∃ v, atI vs i = some v ∧ Dv K B F d v := by
  unfold atI at e ⊢
  rw [h.len]
  cases q : ixN ds.length i with
  | none => rw [q] at e; cases e
  | some j =>
    rw [q] at e
    exact h.get e
theorem ixD_ok : OpD K B (rIx K) ixD := fun F H s dx dy dz x y Q o hx hy hf hq => by
  unfold ixD at hf
  split at hf
  · rename_i ds i
    obtain ⟨a, vs, ea, h2, h3⟩ := hx
    obtain ⟨v, e1, e2⟩ := atI_dv h3 hf
    exact .inr (.inl ⟨a, vs, i, v, ea, hy, sqT_ext o.sub h2, e1, hq _ F H o.refl e2⟩)
  · rename_i ds i
    obtain ⟨a, vs, ea, h2, h3⟩ := hx
    obtain ⟨v, e1, e2⟩ := atI_dv h3 hf
    exact .inl ⟨a, vs, i, v, ea, hy, SqL.of (o.sub a _ h2), e1, hq _ F H o.refl e2⟩
  · rename_i z i
    split at hf
    · rename_i c
      cases e : atI z.cps.toList i with
      | none => simp [e] at hf
      | some k =>
        simp [e] at hf
        subst hf
        exact .inr (.inr ⟨z, i, k, hx, hy, c, e, hq _ F H o.refl rfl⟩)
    · cases hf
  · cases hf
def cutD (ds : List D) (lo hi : Option Int) : List D := (ds.drop (HT.sIx ds.length 0 lo)).take (HT.sIx ds.length ds.length hi - HT.sIx ds.length 0 lo)
theorem cut_dv {F : Fz} {ds : List D} {vs : List V} (h : DvL K B F ds vs) (lo hi : Option Int) : DvL K B F (cutD ds lo hi) (cutV vs lo hi) := by
  unfold cutD cutV
  rw [h.len]
  exact (h.drop _).take _
def lenD : List D → Option D
  | [.tup ds] => some (.int ds.length)
  | [.lst ds] => some (.int ds.length)
  | [.str x] => if x.length ≤ sizeLine then some (.int x.length) else none
  | _ => none
theorem lenD_ok : CallD K B (fun xs H Q => ∃ x n, xs = [x] ∧ LenV K x H n ∧ Q (.int n) H) lenD := fun F H s ds dz vs Q o hv hf hq => by
  unfold lenD at hf
  split at hf
  · rename_i ds
    cases hf
    obtain ⟨v, r, e, hx, hr⟩ := hv
    have hr' : r = [] := hr
    subst e hr'
    obtain ⟨a, us, ea, h2, h3⟩ := hx
    refine ⟨v, us.length, rfl, ?_, ?_⟩
    · rw [ea]
      exact .inr ⟨us, sqT_ext o.sub h2, rfl⟩
    · rw [h3.len]
      exact hq _ F H o.refl rfl
  · rename_i ds
    cases hf
    obtain ⟨v, r, e, hx, hr⟩ := hv
    have hr' : r = [] := hr
    subst e hr'
    obtain ⟨a, us, ea, h2, h3⟩ := hx
    refine ⟨v, us.length, rfl, ?_, ?_⟩
    · rw [ea]
      exact .inl ⟨us, SqL.of (o.sub a _ h2), rfl⟩
    · rw [h3.len]
      exact hq _ F H o.refl rfl
  · rename_i x
    split at hf
    · rename_i c
      cases hf
      obtain ⟨v, r, e, hx, hr⟩ := hv
      have hr' : r = [] := hr
      subst e hr'
      have ea : v = V.str x := hx
      refine ⟨v, x.length, rfl, ?_, hq _ F H o.refl rfl⟩
      rw [ea]
      exact ⟨c, rfl⟩
    · cases hf
  · cases hf
theorem one_of {F : Fz} {d : D} {vs : List V} (h : DvL K B F [d] vs) : ∃ v, vs = [v] ∧ Dv K B F d v := by
  obtain ⟨v, r, e, hx, hr⟩ := h
  have hr' : r = [] := hr
  subst hr'
  exact ⟨v, e, hx⟩
def absD : List D → Option D
  | [.int i] => some (.int (if i < 0 then -i else i))
  | _ => none
theorem absD_ok : CallD K B (fun xs H Q => ∃ i, xs = [.int i] ∧ Q (.int (if i < 0 then -i else i)) H) absD := fun F H s ds dz vs Q o hv hf hq => by
  unfold absD at hf
  split at hf
  · rename_i i
    cases hf
    obtain ⟨v, e, hx⟩ := one_of hv
    have ev : v = V.int i := hx
    subst e ev
    exact ⟨i, rfl, hq _ F H o.refl rfl⟩
  · cases hf
def intCD : List D → Option D
  | [.int i] => some (.int i)
  | [.bl k] => some (.int (if k then 1 else 0))
  | _ => none
theorem intCD_ok : CallD K B (fun xs H Q => (∃ i, xs = [.int i] ∧ Q (.int i) H) ∨ ∃ k, xs = [.bl k] ∧ Q (.int (if k then 1 else 0)) H) intCD := fun F H s ds dz vs Q o hv hf hq => by
  unfold intCD at hf
  split at hf
  · rename_i i
    cases hf
    obtain ⟨v, e, hx⟩ := one_of hv
    have ev : v = V.int i := hx
    subst e ev
    exact .inl ⟨i, rfl, hq _ F H o.refl rfl⟩
  · rename_i k
    cases hf
    obtain ⟨v, e, hx⟩ := one_of hv
    have ev : v = V.bl k := hx
    subst e ev
    exact .inr ⟨k, rfl, hq _ F H o.refl rfl⟩
  · cases hf
def blsD : List D → Option (List Bool)
  | [] => some []
  | .bl b :: ds => (blsD ds).map fun bs => b :: bs
  | _ => none
theorem blsD_eq : ∀ {ds : List D} {bs : List Bool}, blsD ds = some bs → ds = bs.map D.bl
  | [], _, h => by
    cases h
    rfl
  | d :: ds, bs, h => by
    cases d with
    | bl b =>
      unfold blsD at h
      cases q : blsD ds with
      | none => simp [q] at h
      | some cs =>
        simp [q] at h
        subst h
        rw [blsD_eq q]
        rfl
    | _ => simp [blsD] at h
def allD : List D → Option D
  | [.lst ds] => (blsD ds).map fun bs => .bl (bs.all id)
  | _ => none
theorem allD_ok : CallD K B (rAll K) allD := fun F H s ds dz vs Q o hv hf hq => by
  unfold allD at hf
  split at hf
  · rename_i ds
    cases q : blsD ds with
    | none => simp [q] at hf
    | some bs =>
      simp [q] at hf
      subst hf
      obtain ⟨v, e, hx⟩ := one_of hv
      obtain ⟨a, us, ea, h2, h3⟩ := hx
      subst e
      have eq := blsD_eq q
      subst eq
      have eu := h3.bls
      subst eu
      exact ⟨a, bs, by rw [ea], SqL.of (o.sub a _ h2), hq _ F H o.refl rfl⟩
  · cases hf
end
end Dl

set_option Elab.async false
set_option linter.all false
set_option maxRecDepth 100000
set_option maxHeartbeats 4000000
/-! D4: isinstance, what a loop walks, comprehensions, calls. -/
namespace Dl
open PySem
open L2

/-! ### isinstance -/
inductive Ty where
  | tInt | tBool | tStr | tTuple | tList | tDict | tBytes
def tyN : Ty → String
  | .tInt => "int" | .tBool => "bool" | .tStr => "str" | .tTuple => "tuple" | .tList => "list" | .tDict => "dict" | .tBytes => "bytes"
/-- the class of a thing -/
def nmD : D → Option String
  | .non => some "NoneType" | .bl _ => some "bool" | .int _ => some "int" | .str _ => some "str" | .tup _ => some "tuple" | .lst _ => some "list" | .dct _ _ => some "dict" | .hnd => none | .exn _ _ _ => none | .err _ _ _ => none | .ins _ _ _ => none | .obj _ => none | .ftp _ => none
def isI : Ty → D → Bool
  | .tInt, .int _ => true | .tInt, .bl _ => true | .tBool, .bl _ => true | .tStr, .str _ => true | .tTuple, .tup _ => true | .tList, .lst _ => true | .tDict, .dct _ _ => true | _, _ => false
def isiD (T : Ty) : D → Option D
  | .hnd => none
  | .exn _ _ _ => none
  | .err _ _ _ => none
  | .ins _ _ _ => none
  | .obj _ => none
  | .ftp _ => none
  | d => some (.bl (isI T d))
def isiTD (Ts : List Ty) : D → Option D
  | .hnd => none
  | .exn _ _ _ => none
  | .err _ _ _ => none
  | .ins _ _ _ => none
  | .obj _ => none
  | .ftp _ => none
  | d => some (.bl (Ts.any fun T => isI T d))
theorem kit_table : ∀ (T : Ty) (d : D) (n : String), nmD d = some n → kitB n (tyN T) = some (isI T d) := by
  intro T d n h
  cases T <;> cases d <;> first | cases h | skip
  all_goals first
    | (show _ = some true; decide +kernel)
    | (show _ = some false; decide +kernel)
section
variable {K : PySem.W.Frag} {S : Type} {B : Amb S} {F : Fz} {H : Hp}
theorem tyX_of (e : Same F H) {d : D} {v : V} {n : String} (hn : nmD d = some n) (h : Dv K B F d v) : TyX K H v (.type n) := by
  cases d with
  | non => cases hn; rw [show v = V.non from h]; exact .base .non
  | bl b => cases hn; rw [show v = V.bl b from h]; exact .base (.bl b)
  | int i => cases hn; rw [show v = V.int i from h]; exact .base (.int i)
  | str x => cases hn; rw [show v = V.str x from h]; exact .base (.str x)
  | hnd => cases hn
  | exn _ _ _ => cases hn
  | err _ _ _ => cases hn
  | ins _ _ _ => cases hn
  | obj _ => cases hn
  | ftp _ => cases hn
  | tup ds =>
    cases hn
    obtain ⟨a, vs, ea, h2, _⟩ := h
    rw [ea]
    rcases h2 with (h2 | ⟨o, h2⟩) | ⟨o, its, m, hk, hc, _⟩
    · exact .base (.tup (e a _ h2))
    · exact .fTuple (e a _ h2)
    · exact .kTuple hk hc
  | lst ds =>
    cases hn
    obtain ⟨a, vs, ea, h2, _⟩ := h
    rw [ea]
    exact .base (.lst (e a _ h2))
  | dct ks ds =>
    cases hn
    obtain ⟨a, vs, ea, h2, _⟩ := h
    rw [ea]
    rcases h2 with h2 | ⟨_, o, h2⟩
    · exact .base (.dK (e a _ h2))
    · exact .fDict (e a _ h2)
theorem isiD_nm {T : Ty} {d z : D} (h : isiD T d = some z) : (∃ n, nmD d = some n) ∧ z = .bl (isI T d) := by
  cases d with
  | hnd => cases h
  | exn _ _ _ => cases h
  | err _ _ _ => cases h
  | ins _ _ _ => cases h
  | obj _ => cases h
  | ftp _ => cases h
  | _ => cases h; exact ⟨⟨_, rfl⟩, rfl⟩
theorem isiTD_nm {Ts : List Ty} {d z : D} (h : isiTD Ts d = some z) : (∃ n, nmD d = some n) ∧ z = .bl (Ts.any fun T => isI T d) := by
  cases d with
  | hnd => cases h
  | exn _ _ _ => cases h
  | err _ _ _ => cases h
  | ins _ _ _ => cases h
  | obj _ => cases h
  | ftp _ => cases h
  | _ => cases h; exact ⟨⟨_, rfl⟩, rfl⟩
theorem any_table {d : D} {n : String} (hn : nmD d = some n) : ∀ Ts : List Ty, PySem.W.kitAny K (.type n) (Ts.map fun T => Value.type (tyN T)) = some (Ts.any fun T => isI T d)
  | [] => rfl
  | T :: Ts => by
    rw [List.map_cons, List.any_cons]
    have h1 : PySem.W.kitOne K (.type n) (.type (tyN T)) = some (isI T d) := kit_ty (kit_table T d n hn)
    cases q : isI T d with
    | true =>
      rw [q] at h1
      exact kitAny_cons h1 (fun z => nomatch z) fun _ => rfl
    | false =>
      rw [q] at h1
      exact kitAny_cons h1 (fun _ => any_table hn Ts) fun z => nomatch z
/-- a row of class names -/
def tTys (Ts : List Ty) : TA := fun _ H Q => Q (Ts.map fun T => V.ty (tyN T)) H
end
section
variable {X : Cx} {S : Type} {B : Amb S} {a b : Expr} {es : List Expr} {pos : Pos} {ma : ME S}
theorem pe_ty {x : Str} {p : Pos} (T : Ty) (hm : X.mg x = none) (hv : bootBuiltins x = some (.type (tyN T))) (hg : Gl X x := by rfl) (hn : x ≠ "__name__" := by decide) (hd : (x == ("__debug__" : Str)) = false := by decide) :
    PE X (.Name x p) (tC (.ty (tyN T))) := pe_bltn hg hm hv rfl hn hd
theorem tys_nil : PA X [] (tTys []) := pa_w pa_nil fun _ _ _ h => h
theorem tys_cons {T : Ty} {Ts : List Ty} (hb : PE X b (tC (.ty (tyN T)))) (hl : PA X es (tTys Ts)) (hs : starEach (b :: es) X.env = (false, eval b X.env) :: starEach es X.env := by rfl) : PA X (b :: es) (tTys (T :: Ts)) :=
  pa_w (pa_cons hb hl hs) fun _ _ _ h => h
theorem d_isi {p : Pos} {T : Ty} (hm : X.mg "isinstance" = none) (ha : PE X a (tD X.K B ma)) (hb : PE X b (tC (.ty (tyN T)))) (hv : bootBuiltins "isinstance" = some (.builtin "isinstance") := by decide +kernel) (hg : Gl X "isinstance" := by rfl)
    (hs1 : starEach [b] X.env = (false, eval b X.env) :: starEach [] X.env := by rfl)
    (he : starEach (a :: [b]) X.env = (false, eval a X.env) :: starEach [b] X.env := by rfl) (hpl : (backTo pos (starEach [b] X.env)).any (·.1) = false := by rfl) :
    PE X (.Call (.Name "isinstance" p) [a, b] [] pos) (tD X.K B (mU (isiD T) ma)) :=
  pe_w (pe_callB call_isi hg hm hv (pa_cons ha (pa_cons hb pa_nil hs1) he) (by decide) (by decide) he hpl) fun σ H Q ⟨env, F, s, d, s', E, o, hm, hq⟩ => by
    obtain ⟨x, e1, e2⟩ := un_un hm
    obtain ⟨⟨n, hn⟩, ez⟩ := isiD_nm e2
    subst ez
    exact ⟨env, F, s, x, s', E, o, e1, fun v F1 H1 v1 hx => ⟨v, .ty (tyN T), .type n, .type (tyN T), _, rfl, .ty _, tyX_of v1.ok.sub hn hx, kit_ty (kit_table T x n hn), hq _ F1 H1 v1 rfl⟩⟩
theorem paired_ty : ∀ Ts : List Ty, Paired ClsV (Ts.map fun T => V.ty (tyN T)) (Ts.map fun T => Value.type (tyN T))
  | [] => .nil
  | T :: Ts => .cons (.ty _) (paired_ty Ts)
theorem d_isiT {p p2 : Pos} {x1} {Ts : List Ty} (hm : X.mg "isinstance" = none) (ha : PE X a (tD X.K B ma)) (hb : PA X es (tTys Ts)) (hv : bootBuiltins "isinstance" = some (.builtin "isinstance") := by decide +kernel) (hg : Gl X "isinstance" := by rfl)
    (hz : Ts.length ≤ sizeLine := by decide)
    (hs1 : starEach [Expr.Tuple es x1 p2] X.env = (false, eval (Expr.Tuple es x1 p2) X.env) :: starEach [] X.env := by rfl)
    (he : starEach (a :: [Expr.Tuple es x1 p2]) X.env = (false, eval a X.env) :: starEach [Expr.Tuple es x1 p2] X.env := by rfl) (hpl : (backTo pos (starEach [Expr.Tuple es x1 p2] X.env)).any (·.1) = false := by rfl) :
    PE X (.Call (.Name "isinstance" p) [a, Expr.Tuple es x1 p2] [] pos) (tD X.K B (mU (isiTD Ts) ma)) :=
  pe_w (pe_callB call_isiT hg hm hv (pa_cons ha (pa_cons (pe_tup hb) pa_nil hs1) he) (by decide) (by decide) he hpl) fun σ H Q ⟨env, F, s, d, s', E, o, hm, hq⟩ => by
    obtain ⟨x, e1, e2⟩ := un_un hm
    obtain ⟨⟨n, hn⟩, ez⟩ := isiTD_nm e2
    subst ez
    refine ⟨env, F, s, x, s', E, o, e1, fun v F1 H1 v1 hx => ⟨by rw [List.length_map]; exact hz, fun p hp => ?_⟩⟩
    have v2 := v1.trans (Ev.new v1.ok (.tup (Ts.map fun T => V.ty (tyN T))) hp)
    exact ⟨v, p, _, .type n, _, _, rfl, upd_same, paired_ty Ts, tyX_of v2.ok.sub hn (hx.ext ((Ev.new v1.ok (.tup (Ts.map fun T => V.ty (tyN T))) hp).sameF v1.ok)), any_table hn Ts, hq _ _ _ v2 rfl⟩
end

/-! ### calls of the program's own defs -/
/-- a def's promise: over data it is f -/
def spD (K : PySem.W.Frag) {S : Type} (B : Amb S) (n : Nat) (f : List D → S → Option (D × S)) : Sp := fun vs H Q _ => vs.length = n ∧ ∃ F s ds d s', DvL K B F ds vs ∧ Ok B F H s ∧ f ds s = some (d, s') ∧ ∀ v F' H', Ev B F H F' H' s' → Dv K B F' d v → Q v H'
def mCall {S : Type} (f : List D → S → Option (D × S)) (l : ML S) : ME S := fun env s => (l env s).bind fun p => f p.1 p.2
section
variable {X : Cx} {S : Type} {B : Amb S} {a b e : Expr} {es : List Expr} {pos p : Pos} {ma : ME S} {ml : ML S} {k : Nat} {f : Addr} {fd : FuncData} {ps : List Str} {x : Str} {g : List D → S → Option (D × S)}
theorem d_call {CX : CXT} {E : XK} (G : FnOk X.prog X.w X.K X.mg X.base CX k f fd ps (spD X.K B ps.length g)) (hr : Room k X.A) (hm : X.mg x = some (.ref f)) (hk : PySem.W.keepIn X.K (.ref f) = true) (hb : Binds X.K fd ps []) (hx : Passes CX X E) (ha : PA X (e :: es) (tL X.K B ml))
    (hl : ∀ env s ds s', ml env s = some (ds, s') → ds.length = ps.length)
    (hg : Gl X x := by rfl) (hdb : (x == ("__debug__" : Str)) = false := by decide) (he : starEach (e :: es) X.env = (false, eval e X.env) :: starEach es X.env := by rfl) (hpl : (backTo pos (starEach es X.env)).any (·.1) = false := by rfl) :
    PE X (.Call (.Name x p) (e :: es) [] pos) (tD X.K B (mCall g ml)) :=
  pe_w (pe_call G hr hg hm hk hb .nil hx ha hdb he hpl) fun σ H Q ⟨env, F, s, d, s', E, o, hm, hq⟩ => by
    unfold mCall at hm
    cases e1 : ml env s with
    | none => simp [e1] at hm
    | some q =>
      obtain ⟨ds, s1⟩ := q
      simp only [e1, Option.bind_some] at hm
      refine ⟨env, F, s, ds, s1, E, o, e1, fun vs F1 H1 v1 hv => ?_⟩
      show spD X.K B ps.length g (vs ++ []) H1 Q _
      rw [List.append_nil]
      exact ⟨by rw [hv.len]; exact hl _ _ _ _ e1, F1, s1, ds, d, s', hv, v1.ok, hm, fun v F2 H2 v2 hz => hq v F2 H2 (v1.trans v2) hz⟩
end
theorem len_nil {S : Type} : ∀ env s ds s', (mNil : ML S) env s = some (ds, s') → ds.length = 0 := fun env s ds s' h => by
  cases h
  rfl
theorem len_cons {S : Type} {ma : ME S} {ml : ML S} {n : Nat} (h : ∀ env s ds s', ml env s = some (ds, s') → ds.length = n) : ∀ env s ds s', mCons ma ml env s = some (ds, s') → ds.length = n + 1 := fun env s ds s' hm => by
  unfold mCons at hm
  cases e1 : ma env s with
  | none => simp [e1] at hm
  | some p =>
    cases e2 : ml env p.2 with
    | none => simp [e1, e2] at hm
    | some q =>
      simp [e1, e2] at hm
      obtain ⟨h1, h2⟩ := hm
      subst h1 h2
      rw [List.length_cons, h env p.2 q.1 q.2 e2]
end Dl

set_option Elab.async false
set_option linter.all false
set_option maxRecDepth 100000
set_option maxHeartbeats 4000000
/-! D5: targets, what is walked, comprehensions. -/
namespace Dl
open PySem
open L2

/-- p is a list of this frame's own -/
def Own (σ : L2.St) (env : DE) (p : Addr) : Prop := ∃ (i : Nat) (x : Slot), env[i]? = some (some x) ∧ x.isO = true ∧ σ[i]? = some (some (.ref p))

section
variable {K : PySem.W.Frag} {S : Type} {B : Amb S} {F F1 : Fz} {H H1 : Hp} {s : S}
theorem upd_alive {H : Hp} {p q : Addr} {u : HO} (h : H q ≠ none) : (upd H p u) q ≠ none := by
  by_cases z : q = p
  · subst z
    rw [upd_same]
    exact fun z => nomatch z
  · rw [upd_ne z]
    exact h
theorem Ok.mut (o : Ok B F H s) {p : Addr} {u : HO} (hf : F p = none) (hn : ¬ OwZ B F p) : Ok B F (upd H p u) s := by
  refine ⟨fun q x hq => ?_, o.ap, B.stay s F F H _ o.am Tl.rfl (fun _ => rfl) fun q x ho hq => ?_, fun q hq => upd_alive (o.alt q hq)⟩
  · have z : q ≠ p := ne_of_none hq hf
    rw [upd_ne z]
    exact o.sub q x hq
  · have z : q ≠ p := fun e => hn (e ▸ ho)
    rw [upd_ne z]
    exact hq
theorem Ok.frz (o : Ok B F H s) {p : Addr} {u : HO} (hp : H p = some u) (hn : ¬ OwZ B F p) : Ok B (upF F p u) H s := by
  refine ⟨fun q x hq => ?_, fun q ho => ?_, B.stay s F _ H H o.am (Sm.tl ⟨fun q x hq => ?_, List.prefix_refl _⟩) (fun _ => rfl) (fun _ _ _ h => h), o.alt⟩
  · have hq : (upd F.h p u) q = some x := hq
    by_cases z : q = p
    · subst z
      rw [upd_same] at hq
      cases hq
      exact hp
    · rw [upd_ne z] at hq
      exact o.sub q x hq
  · have z : q ≠ p := fun e => hn (e ▸ ho)
    show (upd F.h p u) q = none
    rw [upd_ne z]
    exact o.ap q ho
  · show (upd F.h p u) q = some x
    by_cases z : q = p
    · subst z
      rw [upd_same]
      rw [o.sub q x hq] at hp
      exact hp.symm
    · rw [upd_ne z]
      exact hq
theorem sm_upF {p : Addr} {u : HO} (h : F p = none) : Sm F (upF F p u) := ⟨fun q x hq => by
  have z : q ≠ p := ne_of_none hq h
  show (upd F.h p u) q = some x
  rw [upd_ne z]
  exact hq, List.prefix_refl _⟩
theorem Ev.mutE {F' : Fz} {H' : Hp} {s' : S} (v : Ev B F H F' H' s') {p : Addr} {u : HO} (h : H p = none) (hf : F' p = none) (hn : ¬ OwZ B F' p) : Ev B F H F' (upd H' p u) s' := ⟨v.fs, fun q x hq ho => by
  have z : q ≠ p := ne_of_none hq h
  rw [upd_ne z]
  exact v.hs q x hq ho, v.ok.mut hf hn, v.al, v.nw, v.sal⟩
theorem Ev.frzE {F' : Fz} {H' : Hp} {s' : S} (v : Ev B F H F' H' s') {p : Addr} {u : HO} (h : H p = none) (hp : H' p = some u) (hn : ¬ OwZ B F' p) : Ev B F H (upF F' p u) H' s' := ⟨fun q hq => by
  have z : q ≠ p := fun e => hq (by rw [e]; exact h)
  show (upd F'.h p u) q = F q
  rw [upd_ne z]
  exact v.fs q hq, v.hs, v.ok.frz hp hn, v.al, v.nw, v.sal⟩
/-- what may change changes -/
theorem Ev.mutOwn (o : Ok B F H s) {p : Addr} {u : HO} {s' : S} (hp : OwZ B F p) (h : B.at' s' F (upd H p u)) : Ev B F H F (upd H p u) s' := by
  refine ⟨fun _ _ => rfl, fun q x hx hn => ?_, ⟨fun q x hx => ?_, o.ap, h, fun q hq => upd_alive (o.alt q hq)⟩, List.prefix_refl _, fun _ h => .inl h, .inr rfl⟩
  · rw [upd_ne (fun z => hn (by rw [z]; exact hp))]
    exact hx
  · have hq : q ≠ p := fun z => by
      subst z
      rw [o.ap q hp] at hx
      cases hx
    rw [upd_ne hq]
    exact o.sub q x hx
end

/-! ### targets -/
theorem wipe_set {σ : L2.St} {x : Option V} : ∀ {vs : List Nat} {i : Nat}, i ∈ vs → wipe (σ.set i x) vs = wipe σ vs
  | [], i, h => by cases h
  | v :: vs, i, h => by
    show (wipe (σ.set i x) vs).set v none = (wipe σ vs).set v none
    by_cases hi : i ∈ vs
    · rw [wipe_set hi]
    · have e : i = v := by
        rcases List.mem_cons.mp h with z | z
        · exact z
        · exact absurd z hi
      subst e
      have e2 : ∀ ws : List Nat, i ∉ ws → wipe (σ.set i x) ws = (wipe σ ws).set i x := by
        intro ws
        induction ws with
        | nil => intro _; rfl
        | cons w ws ih =>
          intro hw
          have hw1 : i ≠ w := fun z => hw (by rw [z]; exact List.mem_cons_self)
          have hw2 : i ∉ ws := fun z => hw (List.mem_cons_of_mem _ z)
          show (wipe (σ.set i x) ws).set w none = ((wipe σ ws).set w none).set i x
          rw [ih hw2, List.set_comm _ _ hw1]
      rw [e2 vs hi, List.set_set]
def wipeE (env : DE) : List Nat → DE
  | [] => env
  | v :: vs => (wipeE env vs).set v none
def GD (K : PySem.W.Frag) {S : Type} (B : Amb S) (is : List Nat) (g : TG) (gd : D → DE → Option DE) : Prop := ∀ (d : D) (v : V) (F : Fz) (H : Hp) (s : S) (σ : L2.St) (env env' : DE) (Q : L2.St → Hp → Prop), EnvOk K B F H σ env → Ok B F H s → Dv K B F d v → gd d env = some env' →
  (∀ σ', EnvOk K B F H σ' env' → (∀ p, Own σ' env' p → Own σ env p) → (∀ vs : List Nat, (∀ i ∈ is, i ∈ vs) → wipe σ' vs = wipe σ vs) → Q σ' H) → g v σ H Q
def GDs (K : PySem.W.Frag) {S : Type} (B : Amb S) (is : List Nat) (g : TGs) (gd : List D → DE → Option DE) : Prop := ∀ (ds : List D) (vs : List V) (F : Fz) (H : Hp) (s : S) (σ : L2.St) (env env' : DE) (Q : L2.St → Hp → Prop), EnvOk K B F H σ env → Ok B F H s → DvL K B F ds vs → gd ds env = some env' →
  (∀ σ', EnvOk K B F H σ' env' → (∀ p, Own σ' env' p → Own σ env p) → (∀ ws : List Nat, (∀ i ∈ is, i ∈ ws) → wipe σ' ws = wipe σ ws) → Q σ' H) → g vs σ H Q
def gdName (i : Nat) : D → DE → Option DE := fun d env => some (env.set i (some (.dat d)))
def gdNil : List D → DE → Option DE
  | [], env => some env
  | _ :: _, _ => none
def gdCons (g : D → DE → Option DE) (gs : List D → DE → Option DE) : List D → DE → Option DE
  | [], _ => none
  | d :: ds, env => (g d env).bind fun e => gs ds e
def gdTup (n : Nat) (gs : List D → DE → Option DE) : D → DE → Option DE
  | .tup ds, env => if ds.length = n then gs ds env else none
  | _, _ => none
section
variable {K : PySem.W.Frag} {S : Type} {B : Amb S} {F : Fz} {H : Hp} {σ : L2.St} {env : DE}
theorem set_get {α : Type} {l : List α} {i j : Nat} {x y : α} (h : (l.set i x)[j]? = some y) : (j = i ∧ x = y ∧ i < l.length) ∨ (j ≠ i ∧ l[j]? = some y) := by
  by_cases e : i = j
  · subst e
    by_cases hl : i < l.length
    · rw [List.getElem?_set_self hl] at h
      exact .inl ⟨rfl, Option.some.inj h, hl⟩
    · rw [List.getElem?_eq_none (by simpa using hl)] at h
      cases h
  · rw [List.getElem?_set_ne e] at h
    exact .inr ⟨fun z => e z.symm, h⟩
/-- a name is given data -/
theorem EnvOk.put (E : EnvOk K B F H σ env) {i : Nat} {d : D} {v : V} (h : Dv K B F d v) : EnvOk K B F H (σ.set i (some v)) (env.set i (some (.dat d))) ∧ ∀ p, Own (σ.set i (some v)) (env.set i (some (.dat d))) p → Own σ env p := by
  have other : ∀ {j : Nat} {x : Slot}, (env.set i (some (.dat d)))[j]? = some (some x) → x.isO = true → j ≠ i ∧ env[j]? = some (some x) := fun {j x} q hx => by
    rcases set_get q with ⟨_, z, _⟩ | z
    · cases z
      cases hx
    · exact z
  have back : ∀ {j : Nat} {x : Option V}, j ≠ i → (σ.set i (some v))[j]? = some x → σ[j]? = some x := fun {j x} hj q => by
    rcases set_get q with ⟨z, _⟩ | z
    · exact absurd z hj
    · exact z.2
  refine ⟨⟨by rw [List.length_set, List.length_set]; exact E.len, fun j e q => ?_, fun j xs q => ?_, fun j ks ds q => ?_, fun j k x y a q1 q2 o1 o2 r1 r2 => ?_⟩, fun p ⟨j, x, q, ho, r⟩ => ?_⟩
  · rcases set_get q with ⟨z, z2, z3⟩ | ⟨z, z2⟩
    · subst z
      cases z2
      exact ⟨v, List.getElem?_set_self (by rw [E.len]; exact z3), h⟩
    · obtain ⟨u, h1, h2⟩ := E.dat j e z2
      exact ⟨u, by rw [List.getElem?_set_ne (Ne.symm z)]; exact h1, h2⟩
  · obtain ⟨hj, q'⟩ := other q rfl
    obtain ⟨a, vs, h1, h2⟩ := E.own j xs q'
    exact ⟨a, vs, by rw [List.getElem?_set_ne (Ne.symm hj)]; exact h1, h2⟩
  · obtain ⟨hj, q'⟩ := other q rfl
    obtain ⟨a, vs, h1, h2⟩ := E.ownK j ks ds q'
    exact ⟨a, vs, by rw [List.getElem?_set_ne (Ne.symm hj)]; exact h1, h2⟩
  · obtain ⟨hj, q1'⟩ := other q1 o1
    obtain ⟨hk, q2'⟩ := other q2 o2
    exact E.inj j k x y a q1' q2' o1 o2 (back hj r1) (back hk r2)
  · obtain ⟨hj, q'⟩ := other q ho
    exact ⟨j, x, q', ho, back hj r⟩
/-- names forgotten -/
theorem EnvOk.wipe (E : EnvOk K B F H σ env) : ∀ vs : List Nat, EnvOk K B F H (wipe σ vs) (wipeE env vs)
  | [] => E
  | v :: vs => by
    have E1 := EnvOk.wipe E vs
    show EnvOk K B F H ((L2.wipe σ vs).set v none) ((wipeE env vs).set v none)
    have back : ∀ {j : Nat} {x : V}, ((L2.wipe σ vs).set v none)[j]? = some (some x) → j ≠ v ∧ (L2.wipe σ vs)[j]? = some (some x) := fun {j x} q => by
      rcases set_get q with ⟨_, z, _⟩ | z
      · cases z
      · exact z
    have bak2 : ∀ {j : Nat} {x : Slot}, ((wipeE env vs).set v none)[j]? = some (some x) → j ≠ v ∧ (wipeE env vs)[j]? = some (some x) := fun {j x} q => by
      rcases set_get q with ⟨_, z, _⟩ | z
      · cases z
      · exact z
    refine ⟨by rw [List.length_set, List.length_set]; exact E1.len, fun j e q => ?_, fun j xs q => ?_, fun j ks ds q => ?_, fun j k xs ys a q1 q2 o1 o2 r1 r2 => E1.inj j k xs ys a (bak2 q1).2 (bak2 q2).2 o1 o2 (back r1).2 (back r2).2⟩
    · obtain ⟨hj, q'⟩ := bak2 q
      obtain ⟨u, h1, h2⟩ := E1.dat j e q'
      exact ⟨u, by rw [List.getElem?_set_ne (Ne.symm hj)]; exact h1, h2⟩
    · obtain ⟨hj, q'⟩ := bak2 q
      obtain ⟨a, us, h1, h2⟩ := E1.own j xs q'
      exact ⟨a, us, by rw [List.getElem?_set_ne (Ne.symm hj)]; exact h1, h2⟩
    · obtain ⟨hj, q'⟩ := bak2 q
      obtain ⟨a, us, h1, h2⟩ := E1.ownK j ks ds q'
      exact ⟨a, us, by rw [List.getElem?_set_ne (Ne.symm hj)]; exact h1, h2⟩
theorem g_name (i : Nat) : GD K B [i] (gName i) (gdName i) := fun d v F H s σ env env' Q E o h hg hq => by
  cases hg
  obtain ⟨E1, ho⟩ := E.put (i := i) h
  exact hq _ E1 ho fun vs hv => wipe_set (hv i List.mem_cons_self)
theorem g_nil : GDs K B [] gNil gdNil := fun ds vs F H s σ env env' Q E o h hg hq => by
  cases ds with
  | nil =>
    cases hg
    exact ⟨h, hq σ E (fun p z => z) fun _ _ => rfl⟩
  | cons d ds => cases hg
theorem g_cons {is js : List Nat} {g : TG} {gs : TGs} {gd : D → DE → Option DE} {gds : List D → DE → Option DE} (h1 : GD K B is g gd) (h2 : GDs K B js gs gds) : GDs K B (is ++ js) (gCons g gs) (gdCons gd gds) := fun ds vs F H s σ env env' Q E o h hg hq => by
  cases ds with
  | nil => cases hg
  | cons d ds =>
    obtain ⟨v, r, e, hd, hr⟩ := h
    cases q : gd d env with
    | none => simp [gdCons, q] at hg
    | some e1 =>
      simp only [gdCons, q, Option.bind_some] at hg
      refine ⟨v, r, e, h1 d v F H s σ env e1 _ E o hd q fun σ1 E1 o1 w1 => ?_⟩
      refine h2 ds r F H s σ1 e1 env' _ E1 o hr hg fun σ2 E2 o2 w2 => hq σ2 E2 (fun p z => o1 p (o2 p z)) fun ws hw => ?_
      rw [w2 ws fun i hi => hw i (List.mem_append_right _ hi), w1 ws fun i hi => hw i (List.mem_append_left _ hi)]
theorem g_tup {is : List Nat} {n : Nat} {gs : TGs} {gds : List D → DE → Option DE} (h : GDs K B is gs gds) : GD K B is (gTup K n gs) (gdTup n gds) := fun d v F H s σ env env' Q E o hd hg hq => by
  cases d with
  | tup ds =>
    obtain ⟨a, vs, ea, h2, h3⟩ := hd
    have hg' : (if ds.length = n then gds ds env else none) = some env' := hg
    by_cases c : ds.length = n
    · rw [if_pos c] at hg'
      exact ⟨a, vs, ea, sqT_ext o.sub h2, by rw [h3.len]; exact c, h ds vs F H s σ env env' Q E o h3 hg' hq⟩
    · rw [if_neg c] at hg'
      cases hg'
  | _ => cases hg
end

/-! ### what is walked -/
structure JD (K : PySem.W.Frag) {S : Type} (B : Amb S) (J : It) (xs : List D) (F1 : Fz) : Prop where
  go : ∀ (i : Nat) (F : Fz) (H : Hp) (s : S), Sm F1 F → Ok B F H s → i < xs.length → J.go i H
  yld : ∀ (i : Nat) (F : Fz) (H : Hp) (s : S) (x : V) (H' : Hp) (d : D), Sm F1 F → Ok B F H s → J.yld i H x H' → xs[i]? = some d → ∃ F', Ev B F H F' H' s ∧ Dv K B F' d x
  stop : ∀ (i : Nat) (F : Fz) (H : Hp) (s : S), Sm F1 F → Ok B F H s → xs.length ≤ i → J.stop i H
def tI (K : PySem.W.Frag) {S : Type} (B : Amb S) (m : ML S) : TI := fun σ H R => ∃ env F s xs s', EnvOk K B F H σ env ∧ Ok B F H s ∧ m env s = some (xs, s') ∧ ∀ J F1 H1, Ev B F H F1 H1 s' → JD K B J xs F1 → xs.length ≤ sizeLine → R J H1
section
variable {X : Cx} {S : Type} {B : Amb S} {tg a b : Expr} {es : List Expr} {pos p : Pos} {ma : ME S} {ml : ML S}
theorem pi_w {it : Expr} {wi wi' : TI} (h : PI X tg it wi) (hi : ∀ σ H R, wi' σ H R → wi σ H R) : PI X tg it wi' := ⟨fun pins s σ H R I hw => h.run pins s σ H R I (hi σ H R hw)⟩
theorem pi_bd {it : Expr} {wi : TI} (h : PI X tg it wi) : PI X tg it (fun σ H R => wi σ H fun J H1 => (∀ a vs, SqT X.K H1 a vs → vs.length ≤ sizeLine) → (∀ a vs, SqL X.K H1 a vs → vs.length ≤ sizeLine) → R J H1) :=
  ⟨fun pins s σ H R I h' => thn (h.run pins s σ H _ I h') fun v s1 h1 => thn h1 fun itv s2 ⟨it, fp, tn, J, H', e, I2, T, t0, f, r⟩ => ⟨it, fp, tn, J, H', e, I2, T, t0, f, r (fun a vs q => by
    obtain ⟨_, _, _, z⟩ := I2.tuple q
    exact z) (fun a vs q => by
    obtain ⟨_, _, _, z⟩ := I2.list q
    exact z)⟩⟩
def tupItems : D → Option (List D)
  | .tup ds => some ds
  | _ => none
def lstItems : D → Option (List D)
  | .lst ds => some ds
  | _ => none
def mIt (f : D → Option (List D)) (a : ME S) : ML S := fun env s => (a env s).bind fun p => (f p.1).map fun xs => (xs, p.2)
theorem it_un {f : D → Option (List D)} {env : DE} {s s' : S} {xs : List D} (h : mIt f ma env s = some (xs, s')) : ∃ x, ma env s = some (x, s') ∧ f x = some xs := by
  unfold mIt at h
  cases e1 : ma env s with
  | none => simp [e1] at h
  | some p =>
    cases e3 : f p.1 with
    | none => simp [e1, e3] at h
    | some z =>
      simp [e1, e3] at h
      obtain ⟨h1, h2⟩ := h
      subst h1 h2
      exact ⟨p.1, rfl, e3⟩
theorem i_lst (ha : PE X a (tD X.K B ma)) : PI X tg a (tI X.K B (mIt lstItems ma)) := pi_w (pi_bd (pi_list ha)) fun σ H R ⟨env, F, s, xs, s', E, o, hm, hq⟩ => by
  obtain ⟨x, e1, e2⟩ := it_un hm
  cases x with
  | lst ds =>
    cases e2
    refine ⟨env, F, s, .lst xs, s', E, o, e1, fun v F1 H1 v1 hx => ?_⟩
    obtain ⟨a, vs, ea, h2, h3⟩ := hx
    refine ⟨a, ea, ⟨vs, SqL.of (v1.ok.sub a _ h2)⟩, fun b1 b2 => hq _ F1 H1 v1 ⟨fun i F2 H2 s2 h4 o2 hi => ?_, fun i F2 H2 s2 y H3 d h4 o2 hy hd => ?_, fun i F2 H2 s2 h4 o2 hi => ?_⟩ (by rw [← h3.len]; exact b2 a vs (SqL.of (v1.ok.sub a _ h2)))⟩
    · have hi' : i < vs.length := by rw [h3.len]; exact hi
      exact ⟨vs, vs[i], SqL.of (o2.sub a _ (h4 a _ h2)), by simp [hi']⟩
    · obtain ⟨e, q⟩ := hy
      subst e
      have q' := q vs (SqL.of (o2.sub a _ (h4 a _ h2)))
      obtain ⟨d', hd', hv⟩ := h3.getV q'
      rw [hd] at hd'
      cases hd'
      exact ⟨F2, o2.refl, hv.ext h4⟩
    · exact ⟨vs, SqL.of (o2.sub a _ (h4 a _ h2)), by rw [h3.len]; exact hi⟩
  | _ => cases e2
/-- range(n), range(a, b) -/
def rngOf (lo : Int) (n : Nat) : List D := (List.range n).map fun (i : Nat) => .int (lo + i)
theorem jd_rng {K : PySem.W.Frag} {lo : Int} {n : Nat} {F1 : Fz} : JD K B (Itr lo n) (rngOf lo n) F1 := by
  refine ⟨fun i F H s _ _ hi => ?_, fun i F H s x H' d _ o hy hd => ?_, fun i F H s _ _ hi => ?_⟩
  · show i < n
    simpa [rngOf] using hi
  · obtain ⟨e1, e2⟩ := hy
    subst e1 e2
    have e : (.int (lo + i) : D) = d := by
      unfold rngOf at hd
      rw [List.getElem?_map] at hd
      cases q : (List.range n)[i]? with
      | none => simp [q] at hd
      | some j =>
        rw [q] at hd
        have hj : i = j := by
          have z := (List.getElem?_eq_some_iff.mp q).2
          rw [List.getElem_range] at z
          exact z
        subst hj
        exact Option.some.inj hd
    subst e
    exact ⟨F, o.refl, rfl⟩
  · show n ≤ i
    simpa [rngOf] using hi
def rng1D : List D → Option (List D)
  | [.int n] => if -(2 ^ 62) ≤ n ∧ n < 2 ^ 62 ∧ n.toNat ≤ sizeLine then some (rngOf 0 n.toNat) else none
  | _ => none
def mRng (f : List D → Option (List D)) (l : ML S) : ML S := fun env s => (l env s).bind fun p => (f p.1).map fun xs => (xs, p.2)
theorem rng_un {f : List D → Option (List D)} {env : DE} {s s' : S} {xs : List D} (h : mRng f ml env s = some (xs, s')) : ∃ x, ml env s = some (x, s') ∧ f x = some xs := by
  unfold mRng at h
  cases e1 : ml env s with
  | none => simp [e1] at h
  | some p =>
    cases e3 : f p.1 with
    | none => simp [e1, e3] at h
    | some z =>
      simp [e1, e3] at h
      obtain ⟨h1, h2⟩ := h
      subst h1 h2
      exact ⟨p.1, rfl, e3⟩
theorem rng_len {lo : Int} {n : Nat} : (rngOf lo n).length = n := by simp [rngOf]
theorem i_rng1 (hm : X.mg "range" = none) (ha : PA X [a] (tL X.K B ml)) (hg : Gl X "range" := by rfl) (hs : starEach [a] X.env = [(false, eval a X.env)] := by rfl) : PI X tg (.Call (.Name "range" p) [a] [] pos) (tI X.K B (mRng rng1D ml)) :=
  pi_w (pi_range1 hg hm ha hs) fun σ H R ⟨env, F, s, xs, s', E, o, hm, hq⟩ => by
    obtain ⟨x, e1, e2⟩ := rng_un hm
    unfold rng1D at e2
    split at e2
    · rename_i n
      split at e2
      · rename_i c
        cases e2
        refine ⟨env, F, s, _, s', E, o, e1, fun vs F1 H1 v1 hv => ?_⟩
        obtain ⟨v, ev, hx⟩ := one_of hv
        have ei : v = V.int n := hx
        subst ev ei
        exact ⟨n, rfl, c.1, c.2.1, hq _ F1 H1 v1 jd_rng (by rw [rng_len]; exact c.2.2)⟩
      · cases e2
    · cases e2
end

/-! ### comprehensions -/
def compL {S : Type} (g : D → DE → Option DE) (c : MT S) (e : ME S) (env : DE) : List D → S → Option (List D × S)
  | [], s => some ([], s)
  | x :: xs, s => (g x env).bind fun env1 => (c env1 s).bind fun p => if p.1 = true then (e env1 p.2).bind fun q => (compL g c e env xs q.2).map fun r => (q.1 :: r.1, r.2) else compL g c e env xs p.2
def mComp {S : Type} (src : ML S) (g : D → DE → Option DE) (c : MT S) (e : ME S) (vs : List Nat) : ME S := fun env s => (src env s).bind fun p => (compL g c e (wipeE env vs) p.1 p.2).map fun r => (.lst r.1, r.2)
def mYes {S : Type} : MT S := fun _ s => some (true, s)
section
variable {X : Cx} {S : Type} {B : Amb S}
theorem pts_w {ifs : List Expr} {t t' : TT} (h : PTs X ifs t) (hi : ∀ σ H Q, t' σ H Q → t σ H Q) : PTs X ifs t' := ⟨fun pins s σ H Q I hw => h.run pins s σ H Q I (hi σ H Q hw)⟩
theorem dts_nil : PTs X [] (tT X.K B mYes) := pts_w pts_nil fun σ H Q ⟨env, F, s, b, s', E, o, hm, hq⟩ => by
  cases hm
  exact hq F H o.refl
theorem comp_D {K : PySem.W.Frag} {src : ML S} {g : TG} {gd : D → DE → Option DE} {is vs : List Nat} {c : MT S} {e : ME S} (hg : GD K B is g gd) (his : ∀ i ∈ is, i ∈ vs) {σ : L2.St} {H : Hp} {Q : VK} (h : tD K B (mComp src gd c e vs) σ H Q) :
    tLc (tI K B src) g (tT K B c) (tD K B e) vs σ H Q := by
  obtain ⟨env, F, s, d, s', E, o, hm, hq⟩ := h
  unfold mComp at hm
  cases e1 : src env s with
  | none => simp [e1] at hm
  | some p =>
    obtain ⟨xs, s1⟩ := p
    simp only [e1, Option.bind_some] at hm
    cases e2 : compL gd c e (wipeE env vs) xs s1 with
    | none => simp [e2] at hm
    | some r =>
      obtain ⟨rs, s2⟩ := r
      simp only [e2, Option.map_some, Option.some.injEq, Prod.mk.injEq] at hm
      obtain ⟨rfl, rfl⟩ := hm
      refine ⟨env, F, s, xs, s1, E, o, e1, fun J F1 H1 v1 jd hz L hL => ?_⟩
      have nL1 : ¬ OwZ B F1 L := ne_own v1.ok hL
      refine ⟨fun i m H2 => m = xs.length - i ∧ i ≤ xs.length ∧ ∃ F2 t2 acc accv ys, Ev B F1 H1 F2 H2 t2 ∧ (F2 L = none ∧ ¬ OwZ B F2 L) ∧ H2 L = some (.lst accv) ∧ DvL K B F2 acc accv ∧ acc.length ≤ i ∧ compL gd c e (wipeE env vs) (xs.drop i) t2 = some (ys, s2) ∧ acc ++ ys = rs,
        ⟨xs.length, by simp, Nat.zero_le _, F1, s1, [], [], rs, ?_, ⟨?_, nL1⟩, upd_same, rfl, Nat.le_refl _, e2, rfl⟩, ?_⟩
      · exact Ev.newO v1.ok _ hL
      · cases q : F1 L with
        | none => rfl
        | some u => rw [v1.ok.sub L u q] at hL; cases hL
      · rintro i m H2 ⟨rfl, hi, F2, t2, acc, accv, ys, v2, ⟨hF, nL⟩, hH, hv, hl, hc, he⟩
        have E2 : EnvOk K B F2 H2 (L2.wipe σ vs) (wipeE env vs) := (E.step o (v1.trans v2)).wipe vs
        by_cases hlt : i < xs.length
        · refine .inr ⟨jd.go i F2 H2 t2 (v2.sameF v1.ok) v2.ok hlt, fun H' => i + 1 ≤ xs.length ∧ ∃ F2 t2 acc accv ys, Ev B F1 H1 F2 H' t2 ∧ (F2 L = none ∧ ¬ OwZ B F2 L) ∧ H' L = some (.lst accv) ∧ DvL K B F2 acc accv ∧ acc.length ≤ i + 1 ∧ compL gd c e (wipeE env vs) (xs.drop (i + 1)) t2 = some (ys, s2) ∧ acc ++ ys = rs,
            fun H' p' => ⟨xs.length - (i + 1), by omega, rfl, p'⟩, fun x H3 hy => ?_⟩
          obtain ⟨F3, v3, hx⟩ := jd.yld i F2 H2 t2 x H3 xs[i] (v2.sameF v1.ok) v2.ok hy (by simp [hlt])
          rw [List.drop_eq_getElem_cons hlt] at hc
          unfold compL at hc
          cases q1 : gd xs[i] (wipeE env vs) with
          | none => simp [q1] at hc
          | some env1 =>
            simp only [q1, Option.bind_some] at hc
            cases q2 : c env1 t2 with
            | none => simp [q2] at hc
            | some w =>
              obtain ⟨k, t3⟩ := w
              simp only [q2, Option.bind_some] at hc
              have hF3 : F3 L = none := (v3.fs L (by rw [hH]; exact fun z => nomatch z)).trans hF
              refine hg xs[i] x F3 H3 t2 (L2.wipe σ vs) (wipeE env vs) env1 _ (E2.step v2.ok v3) v3.ok hx q1 fun σ2 E3 _ w3 => ⟨?_, ?_⟩
              · rw [w3 vs his]
                have ww : ∀ (ws us : List Nat), (∀ i ∈ us, i ∈ ws) → L2.wipe (L2.wipe σ ws) us = L2.wipe σ ws := by
                  intro ws us
                  induction us with
                  | nil => intro _; rfl
                  | cons u us ih =>
                    intro hu
                    show (L2.wipe (L2.wipe σ ws) us).set u none = L2.wipe σ ws
                    rw [ih fun i hi => hu i (List.mem_cons_of_mem _ hi)]
                    have hm : u ∈ ws := hu u List.mem_cons_self
                    apply List.ext_getElem?
                    intro j
                    by_cases hj : u = j
                    · subst hj
                      by_cases hl2 : u < (L2.wipe σ ws).length
                      · rw [List.getElem?_set_self hl2]
                        cases qq : (L2.wipe σ ws)[u]? with
                        | none => exact absurd (List.getElem?_eq_none_iff.mp qq) (by omega)
                        | some y =>
                          cases y with
                          | none => rfl
                          | some y => exact absurd hm (wipe_some qq).2
                      · rw [List.getElem?_eq_none (by simpa using hl2), List.getElem?_eq_none (by simpa using hl2)]
                    · rw [List.getElem?_set_ne hj]
                exact ww vs vs fun i hi => hi
              · refine ⟨env1, F3, t2, k, t3, E3, v3.ok, q2, fun F4 H4 v4 => ?_⟩
                have hF4 : F4 L = none := (v4.fs L (v3.dom (by rw [hH]; exact fun z => nomatch z))).trans hF3
                have hH3 : H3 L = some (.lst accv) := v3.hs L _ hH nL
                have nL3 := v3.nown hH nL
                have nL4 := v4.nown hH3 nL3
                have hH4 : H4 L = some (.lst accv) := v4.hs L _ hH3 nL3
                have v14 := (v2.trans v3).trans v4
                have hv4 := hv.ext ((v3.sameF v2.ok).tr (v4.sameF v3.ok))
                cases k with
                | false =>
                  dsimp only at hc ⊢
                  rw [if_neg Bool.false_ne_true] at hc ⊢
                  exact ⟨hlt, F4, t3, acc, accv, ys, v14, ⟨hF4, nL4⟩, hH4, hv4, Nat.le_succ_of_le hl, hc, he⟩
                | true =>
                  dsimp only at hc ⊢
                  rw [if_pos rfl] at hc ⊢
                  cases q3 : e env1 t3 with
                  | none => simp [q3] at hc
                  | some w =>
                    obtain ⟨y, t4⟩ := w
                    simp only [q3, Option.bind_some] at hc
                    cases q4 : compL gd c e (wipeE env vs) (xs.drop (i + 1)) t4 with
                    | none => simp [q4] at hc
                    | some w =>
                      obtain ⟨zs, t5⟩ := w
                      simp only [q4, Option.map_some, Option.some.injEq, Prod.mk.injEq] at hc
                      obtain ⟨rfl, rfl⟩ := hc
                      refine ⟨env1, F4, t3, y, t4, E3.step v3.ok v4, v4.ok, q3, fun v F5 H5 v5 hyv => ?_⟩
                      have hF5 : F5 L = none := (v5.fs L (by rw [hH4]; exact fun z => nomatch z)).trans hF4
                      have hH5 : H5 L = some (.lst accv) := v5.hs L _ hH4 nL4
                      have nL5 := v5.nown hH4 nL4
                      have v15 := v14.trans v5
                      exact ⟨accv, hH5, by rw [hv.len]; omega, hlt, F5, t4, acc ++ [y], accv ++ [v], zs, v15.mutE hL hF5 nL5, ⟨hF5, nL5⟩, upd_same, (hv4.ext (v5.sameF v4.ok)).app (DvL.one hyv), by rw [List.length_append]; simp; exact hl, q4, by rw [← he]; simp⟩
        · have hi2 : xs.length ≤ i := Nat.le_of_not_lt hlt
          refine .inl ⟨jd.stop i F2 H2 t2 (v2.sameF v1.ok) v2.ok hi2, ?_⟩
          rw [List.drop_of_length_le hi2] at hc
          cases hc
          rw [List.append_nil] at he
          subst he
          have vv := v1.trans v2
          exact hq _ (upF F2 L (.lst accv)) H2 (vv.frzE (v1.free hL) hH nL) ⟨L, accv, rfl, upd_same, hv.ext (sm_upF hF)⟩
theorem d_lc {elt tg iter : Expr} {ifs : List Expr} {scope : Scope} {own : List (Str × Nat)} {pos : Pos} {src : ML S} {g : TG} {gd : D → DE → Option DE} {is : List Nat} {c : MT S} {e : ME S} (hc : X.calm = true) (hN : X.N.Nodup) (hi : PI X tg iter (tI X.K B src)) (ok : BlkOk X.N X.env.scope scope own)
    (hg : ∀ (s : Shared) (H : Hp) (C : Addr) (cl : List (Str × Addr)) (fp : List Addr), PG (X.blk s H scope (compEnvC scope cl C X.env) fp) tg g) (hgd : GD X.K B is g gd)
    (ht : ∀ (s : Shared) (H : Hp) (C : Addr) (cl : List (Str × Addr)) (fp : List Addr), PTs (X.blk s H scope (compEnvC scope cl C X.env) fp) ifs (tT X.K B c))
    (he : ∀ (s : Shared) (H : Hp) (C : Addr) (cl : List (Str × Addr)) (fp : List Addr), PE (X.blk s H scope (compEnvC scope cl C X.env) fp) elt (tD X.K B e))
    (his : ∀ i ∈ is, i ∈ own.map (·.2) := by decide) (hs : ∀ x, foldedSetIterable iter X.env x = pure x := by intro _; rfl) :
    PE X (.ListComp elt [⟨tg, iter, ifs, 0⟩] scope pos) (tD X.K B (mComp src gd c e (own.map (·.2)))) := pe_w (pe_lc hc hN hi ok hg ht he hs) fun _ _ _ h => comp_D hgd his h
end
end Dl

set_option Elab.async false
set_option linter.all false
set_option maxRecDepth 100000
set_option maxHeartbeats 4000000
/-! D6: statements, defs. -/
namespace Dl
open PySem
open L2

inductive OutS (S : Type) where
  | nx (env : DE) (s : S) | rt (d : D) (s : S) | bk (env : DE) (s : S) | ct (env : DE) (s : S)
abbrev MS (S : Type) := DE → S → Option (OutS S)
structure Sv {S : Type} (B : Amb S) (F : Fz) (H : Hp) (own : Addr → Prop) (F' : Fz) (H' : Hp) (own' : Addr → Prop) (s' : S) : Prop where
  fs : ∀ p, H p ≠ none → ¬ own p → F' p = F p
  hs : ∀ p o, H p = some o → ¬ OwZ B F p → ¬ own p → H' p = some o
  os : ∀ p, own' p → own p ∨ H p = none
  th : ∀ p, own p → H' p ≠ none
  ok : Ok B F' H' s'
  al : F.al <+: F'.al
  nw : ∀ p ∈ F'.al, p ∈ F.al ∨ H p = none
  sal : B.sto ∨ F'.al = F.al
section
variable {K : PySem.W.Frag} {S : Type} {B : Amb S} {F F1 F2 : Fz} {H H1 H2 : Hp} {o o1 o2 : Addr → Prop} {s s1 s2 : S} {σ : L2.St} {env : DE}
theorem Own.at (E : EnvOk K B F H σ env) {p : Addr} (h : Own σ env p) : F p = none ∧ ¬ OwZ B F p ∧ ∃ u, H p = some u := by
  obtain ⟨i, x, h1, ho, h2⟩ := h
  cases x with
  | dat d => cases ho
  | own xs =>
    obtain ⟨a, vs, e1, e2, e3, e4, e5⟩ := E.own i xs h1
    rw [h2] at e1
    cases e1
    exact ⟨e2, e3, _, e4⟩
  | ownK ks ds =>
    obtain ⟨a, vs, e1, e2, e3, e4, e5⟩ := E.ownK i ks ds h1
    rw [h2] at e1
    cases e1
    exact ⟨e2, e3, _, e4⟩
theorem Sv.dom (e : Sv B F H o F1 H1 o1 s1) {p : Addr} (h : H p ≠ none) : H1 p ≠ none := by
  by_cases hp : OwZ B F p
  · rcases hp with hp | hp
    · exact B.there s1 F1 H1 p e.ok.am hp
    · exact e.ok.alt p (e.al.subset hp.2)
  · by_cases ho : o p
    · exact e.th p ho
    · cases q : H p with
      | none => exact absurd q h
      | some u =>
        rw [e.hs p u q hp ho]
        exact fun z => nomatch z
theorem Sv.nown (e : Sv B F H o F1 H1 o1 s1) {p : Addr} {u : HO} (h : H p = some u) (hp : ¬ OwZ B F p) : ¬ OwZ B F1 p := fun q => by
  rcases q with q | q
  · exact hp (.inl q)
  · rcases e.nw p q.2 with r | r
    · exact hp (.inr ⟨q.1, r⟩)
    · rw [h] at r; cases r
theorem Sv.free (e : Sv B F H o F1 H1 o1 s1) {p : Addr} (h : H1 p = none) : H p = none := by
  cases q : H p with
  | none => rfl
  | some u => exact absurd h (e.dom (by rw [q]; exact fun z => nomatch z))
theorem Sv.trans (a : Sv B F H o F1 H1 o1 s1) (b : Sv B F1 H1 o1 F2 H2 o2 s2) : Sv B F H o F2 H2 o2 s2 := by
  have no : ∀ p, H p ≠ none → ¬ o p → ¬ o1 p := fun p h n z => by
    rcases a.os p z with q | q
    · exact n q
    · exact h q
  refine ⟨fun p h n => (b.fs p (a.dom h) (no p h n)).trans (a.fs p h n), fun p u h hb n => ?_, fun p h => ?_, fun p h => ?_, b.ok, a.al.trans b.al, fun p h => ?_, sal_trans a.sal b.sal⟩
  · exact b.hs p u (a.hs p u h hb n) (a.nown h hb) (no p (by rw [h]; exact fun z => nomatch z) n)
  · rcases b.os p h with q | q
    · exact a.os p q
    · cases r : H p with
      | none => exact .inr rfl
      | some u => exact absurd q (a.dom (by rw [r]; exact fun z => nomatch z))
  · exact b.dom (a.th p h)
  · rcases b.nw p h with q | q
    · exact a.nw p q
    · exact .inr (a.free q)
theorem Sv.of (E : EnvOk K B F H σ env) (e : Ev B F H F1 H1 s1) : Sv B F H (Own σ env) F1 H1 (Own σ env) s1 :=
  ⟨fun p h _ => e.fs p h, fun p u h hb _ => e.hs p u h hb, fun p h => .inl h, fun p h => by
    obtain ⟨_, _, _, e4⟩ := Own.at E h
    exact e.dom (by rw [e4]; exact fun z => nomatch z), e.ok, e.al, e.nw, e.sal⟩
theorem Sv.refl (E : EnvOk K B F H σ env) (k : Ok B F H s) : Sv B F H (Own σ env) F H (Own σ env) s := Sv.of E k.refl
theorem Sv.less (e : Sv B F H o F1 H1 o1 s1) (h : ∀ p, o2 p → o1 p) : Sv B F H o F1 H1 o2 s1 := ⟨e.fs, e.hs, fun p q => e.os p (h p q), e.th, e.ok, e.al, e.nw, e.sal⟩
theorem Sv.sameF (E : EnvOk K B F H σ env) (k : Ok B F H s) (e : Sv B F H (Own σ env) F1 H1 o1 s1) : Sm F F1 := ⟨fun p u h => by
  have hh := k.sub p u h
  have n : ¬ Own σ env p := fun z => by
    have q := (Own.at E z).1
    rw [h] at q
    cases q
  rw [e.fs p (by rw [hh]; exact fun z => nomatch z) n]
  exact h, e.al⟩
/-- from a def's own start -/
theorem Sv.ev (e : Sv B F H o F1 H1 o1 s1) (h : ∀ p, ¬ o p) : Ev B F H F1 H1 s1 := ⟨fun p q => e.fs p q (h p), fun p u q hb => e.hs p u q hb (h p), e.ok, e.al, e.nw, e.sal⟩
end
def OutOk (K : PySem.W.Frag) {S : Type} (B : Amb S) (F : Fz) (H : Hp) (own : Addr → Prop) (Dn : Ends) : OutS S → Prop
  | .nx env' s' => ∀ σ' F' H', EnvOk K B F' H' σ' env' → Sv B F H own F' H' (Own σ' env') s' → Dn.nx σ' H'
  | .rt d s' => ∀ v F' H' own', Sv B F H own F' H' own' s' → Dv K B F' d v → Dn.rt v H'
  | .bk env' s' => ∀ σ' F' H', EnvOk K B F' H' σ' env' → Sv B F H own F' H' (Own σ' env') s' → Dn.bk σ' H'
  | .ct env' s' => ∀ σ' F' H', EnvOk K B F' H' σ' env' → Sv B F H own F' H' (Own σ' env') s' → Dn.ct σ' H'
theorem OutOk.back {K : PySem.W.Frag} {S : Type} {B : Amb S} {F F1 : Fz} {H H1 : Hp} {o o1 : Addr → Prop} {s1 : S} {Dn : Ends} (e : Sv B F H o F1 H1 o1 s1) : ∀ {out : OutS S}, OutOk K B F H o Dn out → OutOk K B F1 H1 o1 Dn out
  | .nx _ _, h => fun σ' F' H' E v => h σ' F' H' E (e.trans v)
  | .rt _ _, h => fun v F' H' own' w d => h v F' H' own' (e.trans w) d
  | .bk _ _, h => fun σ' F' H' E v => h σ' F' H' E (e.trans v)
  | .ct _ _, h => fun σ' F' H' E v => h σ' F' H' E (e.trans v)
def tS (K : PySem.W.Frag) {S : Type} (B : Amb S) (m : MS S) : TS := fun Dn σ H => ∃ env F s out, EnvOk K B F H σ env ∧ Ok B F H s ∧ m env s = some out ∧ OutOk K B F H (Own σ env) Dn out

section
variable {S : Type} {B : Amb S}
def sNil : MS S := fun env s => some (.nx env s)
def thenS (o : OutS S) (b : MS S) : Option (OutS S) := match o with
  | .nx env s => b env s
  | o => some o
def sSeq (a b : MS S) : MS S := fun env s => (a env s).bind fun o => thenS o b
def sAsg (gd : D → DE → Option DE) (e : ME S) : MS S := fun env s => (e env s).bind fun p => (gd p.1 env).map fun env' => .nx env' p.2
def sIf (t : MT S) (a b : MS S) : MS S := fun env s => (t env s).bind fun p => if p.1 = true then a env p.2 else b env p.2
def sRet (e : ME S) : MS S := fun env s => (e env s).map fun p => .rt p.1 p.2
def sRetN : MS S := fun _ s => some (.rt .non s)
def sDrop (e : ME S) : MS S := fun env s => (e env s).map fun p => .nx env p.2
def sBrk : MS S := fun env s => some (.bk env s)
def sCnt : MS S := fun env s => some (.ct env s)
def loopS (gd : D → DE → Option DE) (body : MS S) : List D → DE → S → Option (OutS S)
  | [], env, s => some (.nx env s)
  | x :: xs, env, s => (gd x env).bind fun env1 => (body env1 s).bind fun o => match o with
    | .nx e2 s2 => loopS gd body xs e2 s2
    | .ct e2 s2 => loopS gd body xs e2 s2
    | .bk e2 s2 => some (.nx e2 s2)
    | .rt d s2 => some (.rt d s2)
def sFor (src : ML S) (gd : D → DE → Option DE) (body : MS S) : MS S := fun env s => (src env s).bind fun p => loopS gd body p.1 env p.2
/-- a list of this frame's own, as it is made -/
def sOwn (i : Nat) (l : ML S) : MS S := fun env s => (l env s).bind fun p => if p.1.length ≤ sizeLine then some (.nx (env.set i (some (.own p.1))) p.2) else none
def ownAt (env : DE) (i : Nat) : Option (List D) := match env[i]? with
  | some (some (.own xs)) => some xs
  | _ => none
def intOf : D → Option Int
  | .int z => some z
  | _ => none
def sApp (i : Nat) (e : ME S) : MS S := fun env s => (e env s).bind fun p => (ownAt env i).bind fun xs => if xs.length < sizeLine then some (.nx (env.set i (some (.own (xs ++ [p.1])))) p.2) else none
def sExt (i : Nat) (e : ME S) : MS S := fun env s => (e env s).bind fun p => (ownAt env i).bind fun xs => (lstItems p.1).bind fun ys => if xs.length + ys.length ≤ sizeLine then some (.nx (env.set i (some (.own (xs ++ ys)))) p.2) else none
/-- xs[k] = v: v first, then k -/
def sPut (i : Nat) (k v : ME S) : MS S := fun env s => (v env s).bind fun p => (k env p.2).bind fun q => (ownAt env i).bind fun xs => (intOf q.1).bind fun z => (ixN xs.length z).map fun j => .nx (env.set i (some (.own (xs.set j p.1)))) q.2
/-- from here on it stays as it is -/
def sFrz (i : Nat) (m : MS S) : MS S := fun env s => (ownAt env i).bind fun xs => m (env.set i (some (.dat (.lst xs)))) s
def sPar (i j : Nat) (a b : ME S) : MS S := fun env s => (a env s).bind fun p => (b env p.2).map fun q => .nx ((env.set i (some (.dat p.1))).set j (some (.dat q.1))) q.2
/-! reading one's own list -/
def mIxO (i : Nat) (k : ME S) : ME S := fun env s => (ownAt env i).bind fun xs => (k env s).bind fun p => (intOf p.1).bind fun z => (atI xs z).map fun d => (d, p.2)
def mLenO (i : Nat) : ME S := fun env s => (ownAt env i).map fun xs => (.int xs.length, s)
def mTupO (i : Nat) : ME S := fun env s => (ownAt env i).map fun xs => (.tup xs, s)
theorem ownAt_eq {env : DE} {i : Nat} {xs : List D} (h : ownAt env i = some xs) : env[i]? = some (some (.own xs)) := by
  unfold ownAt at h
  split at h
  · rename_i q
    cases h
    exact q
  · cases h
theorem intOf_eq {d : D} {z : Int} (h : intOf d = some z) : d = .int z := by
  cases d <;> first | cases h | skip
  rfl
end

section
variable {X : Cx} {S : Type} {B : Amb S} {a b c : Expr} {es : List Expr} {st : Stmt} {sts : List Stmt} {pos p : Pos} {ma mb mc : ME S} {ml : ML S} {m m' : MS S}
theorem ps_w {t t' : TS} (h : PS X st t) (hi : ∀ Dn σ H, t' Dn σ H → t Dn σ H) : PS X st t' := ⟨fun pins s σ H Dn I hw => h.run pins s σ H Dn I (hi Dn σ H hw)⟩
theorem pss_w {t t' : TS} (h : PSs X sts t) (hi : ∀ Dn σ H, t' Dn σ H → t Dn σ H) : PSs X sts t' := ⟨fun pins s σ H Dn I hw => h.run pins s σ H Dn I (hi Dn σ H hw)⟩
theorem s_nil : PSs X [] (tS X.K B sNil) := pss_w pss_nil fun Dn σ H ⟨env, F, s, out, E, o, hm, hq⟩ => by
  cases hm
  exact hq σ F H E (Sv.refl E o)
theorem seq_D {K : PySem.W.Frag} {Dn : Ends} {σ : L2.St} {H : Hp} (h : tS K B (sSeq m m') Dn σ H) : tSeq (tS K B m) (tS K B m') Dn σ H := by
  obtain ⟨env, F, s, out, E, o, hm, hq⟩ := h
  unfold sSeq at hm
  cases e1 : m env s with
  | none => simp [e1] at hm
  | some o1 =>
    simp only [e1, Option.bind_some] at hm
    refine ⟨env, F, s, o1, E, o, e1, ?_⟩
    cases o1 with
    | nx env' s' => exact fun σ' F' H' E' v => ⟨env', F', s', out, E', v.ok, hm, hq.back v⟩
    | rt d s' => cases hm; exact hq
    | bk env' s' => cases hm; exact hq
    | ct env' s' => cases hm; exact hq
theorem s_cons (h1 : PS X st (tS X.K B m)) (h2 : PSs X sts (tS X.K B m')) : PSs X (st :: sts) (tS X.K B (sSeq m m')) := pss_w (pss_cons h1 h2) fun _ _ _ h => seq_D h
theorem s_one (h1 : PS X st (tS X.K B m)) : PSs X [st] (tS X.K B m) := pss_one h1
theorem asg_D {K : PySem.W.Frag} {is : List Nat} {g : TG} {gd : D → DE → Option DE} (hg : GD K B is g gd) {Dn : Ends} {σ : L2.St} {H : Hp} (h : tS K B (sAsg gd ma) Dn σ H) : tAsg (tD K B ma) g Dn σ H := by
  obtain ⟨env, F, s, out, E, o, hm, hq⟩ := h
  unfold sAsg at hm
  cases e1 : ma env s with
  | none => simp [e1] at hm
  | some w =>
    obtain ⟨d, s1⟩ := w
    simp only [e1, Option.bind_some] at hm
    cases e2 : gd d env with
    | none => simp [e2] at hm
    | some env' =>
      simp only [e2, Option.map_some, Option.some.injEq] at hm
      subst hm
      refine ⟨env, F, s, d, s1, E, o, e1, fun v F1 H1 v1 hx => ?_⟩
      refine hg d v F1 H1 s1 σ env env' _ (E.step o v1) v1.ok hx e2 fun σ' E' ho _ => ?_
      exact hq σ' F1 H1 E' ((Sv.of E v1).less ho)
theorem s_set {i : Nat} {x : Str} {p' : Pos} (hN : X.N.Nodup) (he : PE X a (tD X.K B ma)) (hi : X.N[i]? = some x := by rfl) (hx : Loc X.env.scope x := by first | exact Or.inl rfl | exact Or.inr rfl) (hs : swapsWith a (some (.Name x p')) pos.line X.env = pure false := by rfl)
    (hf : X.fn x = true ∨ X.env.scope.names.lookup x = some .local := by first | exact .inl rfl | exact .inr rfl) : PS X (.Assign [.Name x p'] a pos) (tS X.K B (sAsg (gdName i) ma)) :=
  ps_w (ps_set (i := i) hN hi hx he hs hf) fun _ _ _ h => asg_D (g_name i) h
theorem s_if {t : MT S} {stt sff : List Stmt} (hc : PT X c (tT X.K B t)) (ha : PSs X stt (tS X.K B m)) (hb : PSs X sff (tS X.K B m')) : PS X (.If c stt sff pos) (tS X.K B (sIf t m m')) := ps_w (ps_if hc ha hb) fun Dn σ H ⟨env, F, s, out, E, o, hm, hq⟩ => by
  unfold sIf at hm
  cases e1 : t env s with
  | none => simp [e1] at hm
  | some w =>
    obtain ⟨k, s1⟩ := w
    simp only [e1, Option.bind_some] at hm
    refine ⟨env, F, s, k, s1, E, o, e1, fun F1 H1 v1 => ?_⟩
    cases k with
    | true => exact ⟨env, F1, s1, out, E.step o v1, v1.ok, hm, hq.back (Sv.of E v1)⟩
    | false => exact ⟨env, F1, s1, out, E.step o v1, v1.ok, hm, hq.back (Sv.of E v1)⟩
theorem s_ret (he : PE X a (tD X.K B ma)) : PS X (.Return (some a) pos) (tS X.K B (sRet ma)) := ps_w (ps_ret he) fun Dn σ H ⟨env, F, s, out, E, o, hm, hq⟩ => by
  unfold sRet at hm
  cases e1 : ma env s with
  | none => simp [e1] at hm
  | some w =>
    obtain ⟨d, s1⟩ := w
    simp only [e1, Option.map_some, Option.some.injEq] at hm
    subst hm
    exact ⟨env, F, s, d, s1, E, o, e1, fun v F1 H1 v1 hx => hq v F1 H1 _ (Sv.of E v1) hx⟩
theorem for_D {K : PySem.W.Frag} {src : ML S} {is : List Nat} {g : TG} {gd : D → DE → Option DE} (hg : GD K B is g gd) {Dn : Ends} {σ : L2.St} {H : Hp} (h : tS K B (sFor src gd m) Dn σ H) : tFor (tI K B src) g (tS K B m) Dn σ H := by
  obtain ⟨env, F, s, out, E, o, hm, hq⟩ := h
  unfold sFor at hm
  cases e1 : src env s with
  | none => simp [e1] at hm
  | some w =>
    obtain ⟨xs, s1⟩ := w
    simp only [e1, Option.bind_some] at hm
    refine ⟨env, F, s, xs, s1, E, o, e1, fun J F1 H1 v1 jd hz => ?_⟩
    have E1 : EnvOk K B F1 H1 σ env := E.step o v1
    have hq1 : OutOk K B F1 H1 (Own σ env) Dn out := hq.back (Sv.of E v1)
    refine ⟨fun i n σ2 H2 => n = xs.length - i ∧ i ≤ xs.length ∧ ∃ env2 F2 s2, EnvOk K B F2 H2 σ2 env2 ∧ Sv B F1 H1 (Own σ env) F2 H2 (Own σ2 env2) s2 ∧ loopS gd m (xs.drop i) env2 s2 = some out,
      ⟨xs.length, by simp, Nat.zero_le _, env, F1, s1, E1, Sv.refl E1 v1.ok, hm⟩, ?_⟩
    rintro i n σ2 H2 ⟨rfl, hi, env2, F2, s2, E2, v2, hl⟩
    have sF := v2.sameF E1 v1.ok
    by_cases hlt : i < xs.length
    · refine .inr ⟨jd.go i F2 H2 s2 sF v2.ok hlt, fun σ' H' => i + 1 ≤ xs.length ∧ ∃ env2 F2 s2, EnvOk K B F2 H' σ' env2 ∧ Sv B F1 H1 (Own σ env) F2 H' (Own σ' env2) s2 ∧ loopS gd m (xs.drop (i + 1)) env2 s2 = some out,
        fun σ' H' p' => ⟨xs.length - (i + 1), by omega, rfl, p'⟩, fun x H3 hy => ?_⟩
      obtain ⟨F3, v3, hx⟩ := jd.yld i F2 H2 s2 x H3 xs[i] sF v2.ok hy (by simp [hlt])
      rw [List.drop_eq_getElem_cons hlt] at hl
      unfold loopS at hl
      cases q1 : gd xs[i] env2 with
      | none => simp [q1] at hl
      | some env3 =>
        simp only [q1, Option.bind_some] at hl
        cases q2 : m env3 s2 with
        | none => simp [q2] at hl
        | some ob =>
          simp only [q2, Option.bind_some] at hl
          refine hg xs[i] x F3 H3 s2 σ2 env2 env3 _ (E2.step v2.ok v3) v3.ok hx q1 fun σ3 E3 ho _ => ?_
          have v23 : Sv B F1 H1 (Own σ env) F3 H3 (Own σ3 env3) s2 := v2.trans ((Sv.of E2 v3).less ho)
          refine ⟨env3, F3, s2, ob, E3, v3.ok, q2, ?_⟩
          have hq3 := hq1.back v23
          cases ob with
          | nx e4 s4 => exact fun σ4 F4 H4 E4 v4 => ⟨hlt, e4, F4, s4, E4, v23.trans v4, hl⟩
          | ct e4 s4 => exact fun σ4 F4 H4 E4 v4 => ⟨hlt, e4, F4, s4, E4, v23.trans v4, hl⟩
          | bk e4 s4 =>
            cases hl
            exact hq3
          | rt d s4 =>
            cases hl
            exact hq3
    · have hi2 : xs.length ≤ i := Nat.le_of_not_lt hlt
      refine .inl ⟨jd.stop i F2 H2 s2 sF v2.ok hi2, ?_⟩
      rw [List.drop_of_length_le hi2] at hl
      cases hl
      exact hq1 σ2 F2 H2 E2 v2
theorem s_for {tg iter : Expr} {body : List Stmt} {src : ML S} {is : List Nat} {g : TG} {gd : D → DE → Option DE} (hp : PassesOwn (model X.prog X.w) X.A X.env X.xe) (hc : X.calm = true) (hi : PI X tg iter (tI X.K B src)) (hg : PG X tg g) (hgd : GD X.K B is g gd) (hb : PSs X body (tS X.K B m))
    (hs : ∀ x, foldedSetIterable iter X.env x = pure x := by intro _; rfl) : PS X (.For tg iter body [] pos) (tS X.K B (sFor src gd m)) := ps_w (ps_for hp hc hi hg hb hs) fun _ _ _ h => for_D hgd h

/-! ### a list of one's own -/
/-- a name is given a thing of one's own -/
theorem EnvOk.putA {K : PySem.W.Frag} {F : Fz} {H : Hp} {σ : L2.St} {env : DE} (E : EnvOk K B F H σ env) {i : Nat} {x : Slot} {q : Addr} (hx : x.isO = true) (hF : F q = none) (hB : ¬ OwZ B F q)
    (h1 : ∀ xs, x = .own xs → ∃ vs, H q = some (.lst vs) ∧ DvL K B F xs vs) (h2 : ∀ ks ds, x = .ownK ks ds → ∃ kvs, H q = some (.dK kvs) ∧ kvs.map (·.1) = ks ∧ DvL K B F ds (kvs.map (·.2))) (hn : ∀ j y, j ≠ i → env[j]? = some (some y) → y.isO = true → σ[j]? ≠ some (some (.ref q))) :
    EnvOk K B F H (σ.set i (some (.ref q))) (env.set i (some x)) ∧ ∀ p, Own (σ.set i (some (.ref q))) (env.set i (some x)) p → p = q ∨ Own σ env p := by
  have back : ∀ {j : Nat} {x : Option V}, j ≠ i → (σ.set i (some (.ref q)))[j]? = some x → σ[j]? = some x := fun {j x} hj e => by
    rcases set_get e with ⟨z, _⟩ | z
    · exact absurd z hj
    · exact z.2
  refine ⟨⟨by rw [List.length_set, List.length_set]; exact E.len, fun j d e => ?_, fun j ys e => ?_, fun j ks ds e => ?_, fun j k y z a q1 q2 o1 o2 r1 r2 => ?_⟩, fun p ⟨j, y, e, ho, r⟩ => ?_⟩
  · rcases set_get e with ⟨_, z, _⟩ | ⟨z, z2⟩
    · cases z
      cases hx
    · obtain ⟨u, h1, h2⟩ := E.dat j d z2
      exact ⟨u, by rw [List.getElem?_set_ne (Ne.symm z)]; exact h1, h2⟩
  · rcases set_get e with ⟨z, z2, z3⟩ | ⟨z, z2⟩
    · subst z
      obtain ⟨vs, g1, g2⟩ := h1 ys (Option.some.inj z2)
      exact ⟨q, vs, List.getElem?_set_self (by rw [E.len]; exact z3), hF, hB, g1, g2⟩
    · obtain ⟨a, us, h1, h2⟩ := E.own j ys z2
      exact ⟨a, us, by rw [List.getElem?_set_ne (Ne.symm z)]; exact h1, h2⟩
  · rcases set_get e with ⟨z, z2, z3⟩ | ⟨z, z2⟩
    · subst z
      obtain ⟨vs, g1, g2⟩ := h2 ks ds (Option.some.inj z2)
      exact ⟨q, vs, List.getElem?_set_self (by rw [E.len]; exact z3), hF, hB, g1, g2⟩
    · obtain ⟨a, us, h1, h2⟩ := E.ownK j ks ds z2
      exact ⟨a, us, by rw [List.getElem?_set_ne (Ne.symm z)]; exact h1, h2⟩
  · by_cases hj : j = i
    · by_cases hk : k = i
      · rw [hj, hk]
      · subst hj
        have ea : a = q := by
          rcases set_get r1 with ⟨_, z, _⟩ | z
          · cases z
            rfl
          · exact absurd rfl z.1
        subst ea
        rcases set_get q2 with ⟨z, _⟩ | z
        · exact absurd z hk
        · exact absurd (back hk r2) (hn k _ hk z.2 o2)
    · rcases set_get q1 with ⟨z, _⟩ | z1
      · exact absurd z hj
      · by_cases hk : k = i
        · subst hk
          have ea : a = q := by
            rcases set_get r2 with ⟨_, z, _⟩ | z
            · cases z
              rfl
            · exact absurd rfl z.1
          subst ea
          exact absurd (back hj r1) (hn j _ hj z1.2 o1)
        · rcases set_get q2 with ⟨z, _⟩ | z2
          · exact absurd z hk
          · exact E.inj j k _ _ a z1.2 z2.2 o1 o2 (back hj r1) (back hk r2)
  · rcases set_get e with ⟨z, _, z3⟩ | ⟨z, z2⟩
    · subst z
      rw [List.getElem?_set_self (by rw [E.len]; exact z3)] at r
      cases r
      exact .inl rfl
    · exact .inr ⟨j, y, z2, ho, back z r⟩
/-- a thing of one's own stands at no fresh place -/
theorem EnvOk.none_at {K : PySem.W.Frag} {F : Fz} {H : Hp} {σ : L2.St} {env : DE} (E : EnvOk K B F H σ env) {q : Addr} (hq : H q = none) {j : Nat} {y : Slot} (h : env[j]? = some (some y)) (ho : y.isO = true) : σ[j]? ≠ some (some (.ref q)) := fun r => by
  obtain ⟨_, _, u, hu⟩ := Own.at E ⟨j, y, h, ho, r⟩
  rw [hq] at hu
  cases hu
theorem EnvOk.putO {K : PySem.W.Frag} {F : Fz} {H : Hp} {σ : L2.St} {env : DE} (E : EnvOk K B F H σ env) {i : Nat} {xs : List D} {vs : List V} {q : Addr} (hF : F q = none) (hB : ¬ OwZ B F q) (hH : H q = some (.lst vs)) (hv : DvL K B F xs vs) (hn : ∀ j y, j ≠ i → env[j]? = some (some y) → y.isO = true → σ[j]? ≠ some (some (.ref q))) :
    EnvOk K B F H (σ.set i (some (.ref q))) (env.set i (some (.own xs))) ∧ ∀ p, Own (σ.set i (some (.ref q))) (env.set i (some (.own xs))) p → p = q ∨ Own σ env p :=
  E.putA (x := .own xs) rfl hF hB (fun ys e => ⟨vs, hH, by cases e; exact hv⟩) (fun ks ds e => by cases e) hn
theorem EnvOk.putK {K : PySem.W.Frag} {F : Fz} {H : Hp} {σ : L2.St} {env : DE} (E : EnvOk K B F H σ env) {i : Nat} {ks : List Key} {ds : List D} {kvs : List (Key × V)} {q : Addr} (hF : F q = none) (hB : ¬ OwZ B F q) (hH : H q = some (.dK kvs)) (hk : kvs.map (·.1) = ks) (hv : DvL K B F ds (kvs.map (·.2))) (hn : ∀ j y, j ≠ i → env[j]? = some (some y) → y.isO = true → σ[j]? ≠ some (some (.ref q))) :
    EnvOk K B F H (σ.set i (some (.ref q))) (env.set i (some (.ownK ks ds))) ∧ ∀ p, Own (σ.set i (some (.ref q))) (env.set i (some (.ownK ks ds))) p → p = q ∨ Own σ env p :=
  E.putA (x := .ownK ks ds) rfl hF hB (fun ys e => by cases e) (fun k d e => ⟨kvs, hH, by cases e; exact hk, by cases e; exact hv⟩) hn
theorem s_own {i : Nat} {x : Str} {p' p2 : Pos} (hN : X.N.Nodup) (hl : PA X es (tL X.K B ml)) (hi : X.N[i]? = some x := by rfl) (hx : Loc X.env.scope x := by first | exact Or.inl rfl | exact Or.inr rfl) (hs : swapsWith (.List es p2) (some (.Name x p')) pos.line X.env = pure false := by rfl)
    (hf : X.fn x = true ∨ X.env.scope.names.lookup x = some .local := by first | exact .inl rfl | exact .inr rfl) : PS X (.Assign [.Name x p'] (.List es p2) pos) (tS X.K B (sOwn i ml)) :=
  ps_w (ps_set (i := i) hN hi hx (pe_lst hl) hs hf) fun Dn σ H ⟨env, F, s, out, E, o, hm, hq⟩ => by
    unfold sOwn at hm
    cases e1 : ml env s with
    | none => simp [e1] at hm
    | some w =>
      obtain ⟨ds, s1⟩ := w
      simp only [e1, Option.bind_some] at hm
      split at hm
      · rename_i c
        cases hm
        refine ⟨env, F, s, ds, s1, E, o, e1, fun vs F1 H1 v1 hv => ⟨by rw [hv.len]; exact c, fun q hq' => ?_⟩⟩
        have v2 : Ev B F1 H1 F1 (upd H1 q (.lst vs)) s1 := Ev.newO v1.ok _ hq'
        have E2 := E.step o (v1.trans v2)
        have hF1 : F1 q = none := by
          cases r : F1 q with
          | none => rfl
          | some u => rw [v1.ok.sub q u r] at hq'; cases hq'
        obtain ⟨E3, ho⟩ := E2.putO (i := i) (xs := ds) hF1 (ne_own v1.ok hq') upd_same hv fun j y _ q1 oo => (E.step o v1).none_at hq' q1 oo
        refine hq _ F1 _ E3 ?_
        have w := Sv.of E (v1.trans v2)
        exact ⟨w.fs, w.hs, fun p hp => by
          rcases ho p hp with z | z
          · exact .inr (by rw [z]; exact v1.free hq')
          · exact .inl z, w.th, w.ok, w.al, w.nw, w.sal⟩
      · cases hm
end
end Dl

set_option Elab.async false
set_option linter.all false
set_option maxRecDepth 100000
set_option maxHeartbeats 4000000
/-! D7: lists of a frame's own, defs. -/
namespace Dl
open PySem
open L2

section
variable {K : PySem.W.Frag} {S : Type} {B : Amb S} {F : Fz} {H : Hp} {σ : L2.St} {env : DE} {s : S}
/-- a thing of one's own changes -/
theorem EnvOk.mutA (E : EnvOk K B F H σ env) (o : Ok B F H s) {i : Nat} {x y : Slot} {u : HO} {a : Addr} (he : env[i]? = some (some x)) (hx : x.isO = true) (hy : y.isO = true) (hσ : σ[i]? = some (some (.ref a)))
    (h1 : ∀ xs, y = .own xs → ∃ vs, u = .lst vs ∧ DvL K B F xs vs) (h2 : ∀ ks ds, y = .ownK ks ds → ∃ kvs, u = .dK kvs ∧ kvs.map (·.1) = ks ∧ DvL K B F ds (kvs.map (·.2))) :
    EnvOk K B F (upd H a u) σ (env.set i (some y)) ∧ Sv B F H (Own σ env) F (upd H a u) (Own σ (env.set i (some y))) s := by
  obtain ⟨k2, k3, w, k4⟩ := Own.at E ⟨i, x, he, hx, hσ⟩
  have ow : ∀ p, Own σ (env.set i (some y)) p → Own σ env p := fun p ⟨j, z, q, oz, r⟩ => by
    rcases set_get q with ⟨e, _, _⟩ | ⟨e, e2⟩
    · exact ⟨i, x, he, hx, e ▸ r⟩
    · exact ⟨j, z, e2, oz, r⟩
  have nb : ∀ {j : Nat} {z : Slot} {b : Addr}, j ≠ i → env[j]? = some (some z) → z.isO = true → σ[j]? = some (some (.ref b)) → b ≠ a := fun {j z b} hj q oz r e => hj (E.inj j i z x a q he oz hx (e ▸ r) hσ)
  refine ⟨⟨by rw [List.length_set]; exact E.len, fun j d q => ?_, fun j zs q => ?_, fun j ks ds q => ?_, fun j k y1 y2 b q1 q2 o1 o2 r1 r2 => ?_⟩, ⟨fun _ _ _ => rfl, fun p w hp hb hn => ?_, fun p hp => .inl (ow p hp), fun p hp => ?_, o.mut k2 k3, List.prefix_refl _, fun _ h => .inl h, .inr rfl⟩⟩
  · rcases set_get q with ⟨_, z, _⟩ | ⟨z, z2⟩
    · cases z
      cases hy
    · exact E.dat j d z2
  · rcases set_get q with ⟨z, z2, _⟩ | ⟨z, z2⟩
    · subst z
      obtain ⟨us, g1, g2⟩ := h1 zs (Option.some.inj z2)
      exact ⟨a, us, hσ, k2, k3, by rw [upd_same, g1], g2⟩
    · obtain ⟨b, ws, q1, q2, q3, q4, q5⟩ := E.own j zs z2
      exact ⟨b, ws, q1, q2, q3, by rw [upd_ne (nb z z2 rfl q1)]; exact q4, q5⟩
  · rcases set_get q with ⟨z, z2, _⟩ | ⟨z, z2⟩
    · subst z
      obtain ⟨us, g1, g2, g3⟩ := h2 ks ds (Option.some.inj z2)
      exact ⟨a, us, hσ, k2, k3, by rw [upd_same, g1], g2, g3⟩
    · obtain ⟨b, ws, q1, q2, q3, q4, q5⟩ := E.ownK j ks ds z2
      exact ⟨b, ws, q1, q2, q3, by rw [upd_ne (nb z z2 rfl q1)]; exact q4, q5⟩
  · have g : ∀ {j : Nat} {z : Slot}, (env.set i (some y))[j]? = some (some z) → z.isO = true → ∃ z', env[j]? = some (some z') ∧ z'.isO = true := fun {j z} q oz => by
      rcases set_get q with ⟨e, _, _⟩ | ⟨e, e2⟩
      · exact ⟨x, by rw [e]; exact he, hx⟩
      · exact ⟨z, e2, oz⟩
    obtain ⟨z1, g1, g1'⟩ := g q1 o1
    obtain ⟨z2, g2, g2'⟩ := g q2 o2
    exact E.inj j k z1 z2 b g1 g2 g1' g2' r1 r2
  · have z : p ≠ a := fun e => hn ⟨i, x, he, hx, e ▸ hσ⟩
    rw [upd_ne z]
    exact hp
  · by_cases z : p = a
    · rw [z, upd_same]
      exact fun q => nomatch q
    · rw [upd_ne z]
      obtain ⟨_, _, w, k4⟩ := Own.at E hp
      rw [k4]
      exact fun q => nomatch q
theorem EnvOk.mut (E : EnvOk K B F H σ env) (o : Ok B F H s) {i : Nat} {xs ys : List D} {us : List V} {a : Addr} (he : env[i]? = some (some (.own xs))) (hσ : σ[i]? = some (some (.ref a))) (hv : DvL K B F ys us) :
    EnvOk K B F (upd H a (.lst us)) σ (env.set i (some (.own ys))) ∧ Sv B F H (Own σ env) F (upd H a (.lst us)) (Own σ (env.set i (some (.own ys)))) s :=
  E.mutA o (y := .own ys) he rfl rfl hσ (fun zs e => ⟨us, rfl, by cases e; exact hv⟩) fun ks ds e => by cases e
/-- it is to stay -/
theorem EnvOk.frzA (E : EnvOk K B F H σ env) (o : Ok B F H s) {i : Nat} {x : Slot} {d : D} {u : HO} {a : Addr} (he : env[i]? = some (some x)) (hx : x.isO = true) (hσ : σ[i]? = some (some (.ref a))) (h4 : H a = some u) (hd : Dv K B (upF F a u) d (.ref a)) :
    EnvOk K B (upF F a u) H σ (env.set i (some (.dat d))) ∧ Sv B F H (Own σ env) (upF F a u) H (Own σ (env.set i (some (.dat d)))) s := by
  obtain ⟨h2, h3, _⟩ := Own.at E ⟨i, x, he, hx, hσ⟩
  have sF : Sm F (upF F a u) := sm_upF h2
  have bk : ∀ {j : Nat} {y : Slot}, (env.set i (some (.dat d)))[j]? = some (some y) → y.isO = true → j ≠ i ∧ env[j]? = some (some y) := fun {j y} q oy => by
    rcases set_get q with ⟨_, z, _⟩ | z
    · cases z
      cases oy
    · exact z
  have nb : ∀ {j : Nat} {z : Slot} {b : Addr}, j ≠ i → env[j]? = some (some z) → z.isO = true → σ[j]? = some (some (.ref b)) → b ≠ a := fun {j z b} hj q oz r e => hj (E.inj j i z x a q he oz hx (e ▸ r) hσ)
  refine ⟨⟨by rw [List.length_set]; exact E.len, fun j e q => ?_, fun j zs q => ?_, fun j ks ds q => ?_, fun j k y1 y2 b q1 q2 o1 o2 r1 r2 => E.inj j k y1 y2 b (bk q1 o1).2 (bk q2 o2).2 o1 o2 r1 r2⟩, ⟨fun p hp hn => ?_, fun p w hp _ _ => hp, fun p ⟨j, y, q, oy, r⟩ => .inl ⟨j, y, (bk q oy).2, oy, r⟩, fun p hp => ?_, o.frz h4 h3, List.prefix_refl _, fun _ h => .inl h, .inr rfl⟩⟩
  · rcases set_get q with ⟨z, z2, _⟩ | ⟨z, z2⟩
    · subst z
      cases z2
      exact ⟨.ref a, hσ, hd⟩
    · obtain ⟨w, k1, k2⟩ := E.dat j e z2
      exact ⟨w, k1, k2.ext sF⟩
  · obtain ⟨hj, q'⟩ := bk q rfl
    obtain ⟨b, ws, k1, k2, k3, k4, k5⟩ := E.own j zs q'
    exact ⟨b, ws, k1, (upd_ne (nb hj q' rfl k1)).trans k2, k3, k4, k5.ext sF⟩
  · obtain ⟨hj, q'⟩ := bk q rfl
    obtain ⟨b, ws, k1, k2, k3, k4, k5, k6⟩ := E.ownK j ks ds q'
    exact ⟨b, ws, k1, (upd_ne (nb hj q' rfl k1)).trans k2, k3, k4, k5, k6.ext sF⟩
  · have z : p ≠ a := fun e => hn ⟨i, x, he, hx, e ▸ hσ⟩
    exact upd_ne z
  · obtain ⟨_, _, w, k4⟩ := Own.at E hp
    rw [k4]
    exact fun q => nomatch q
theorem EnvOk.frz (E : EnvOk K B F H σ env) (o : Ok B F H s) {i : Nat} {xs : List D} {a : Addr} {vs : List V} (he : env[i]? = some (some (.own xs))) (hσ : σ[i]? = some (some (.ref a))) (h4 : H a = some (.lst vs)) (h2 : F a = none) (h3 : ¬ OwZ B F a) (hv : DvL K B F xs vs) :
    EnvOk K B (upF F a (.lst vs)) H σ (env.set i (some (.dat (.lst xs)))) ∧ Sv B F H (Own σ env) (upF F a (.lst vs)) H (Own σ (env.set i (some (.dat (.lst xs))))) s :=
  E.frzA o he rfl hσ h4 ⟨a, vs, rfl, upd_same, hv.ext (sm_upF h2)⟩
end

section
variable {X : Cx} {S : Type} {B : Amb S} {a b c e : Expr} {es : List Expr} {st : Stmt} {sts : List Stmt} {pos p : Pos} {ma mb mc : ME S} {ml : ML S} {m m' : MS S}
theorem s_app {i : Nat} {o : Expr} {apos cpos : Pos} (ho : PE X o (tVar i)) (he : PE X e (tD X.K B ma)) (hs1 : starEach (e :: []) X.env = (false, eval e X.env) :: starEach [] X.env := by rfl)
    (hbase : attributeBase o "append" X.env (eval o X.env) = eval o X.env := by rfl)
    (hfew : ((backTo cpos (starEach (e :: []) X.env)).all (fun x => !x.1) && (backToKw cpos (keywordEach [] X.env)).all (fun x => x.1.isSome)
      && decide ((e :: []).length + ([] : List Keyword).length + (if ([] : List Keyword).isEmpty then 0 else 1) < 30)) = true := by rfl)
    (hline : (apos.endLine == cpos.line) = true := by rfl) (hplain : (backTo cpos (starEach [] X.env)).any (·.1) = false := by rfl)
    (hs : swapsWith (.Call (.Attribute o "append" apos) [e] [] cpos) none pos.line X.env = pure false := by rfl) :
    PS X (.Expr (.Call (.Attribute o "append" apos) [e] [] cpos) pos) (tS X.K B (sApp i ma)) :=
  ps_w (ps_expr (pe_bm PySem.F.plainAttrs_list PySem.F.slot_list_append PySem.F.type_list_append mt_append ho (l_cons he l_nil hs1) hbase hfew hline hs1 hplain) hs) fun Dn σ H ⟨env, F, s, out, E, o, hm, hq⟩ => by
    unfold sApp at hm
    cases e1 : ma env s with
    | none => simp [e1] at hm
    | some w =>
      obtain ⟨d, s1⟩ := w
      simp only [e1, Option.bind_some] at hm
      cases e2 : ownAt env i with
      | none => simp [e2] at hm
      | some xs =>
        have hx := ownAt_eq e2
        simp only [e2, Option.bind_some] at hm
        split at hm
        · rename_i c
          cases hm
          obtain ⟨q, vs, h1, h2, h3, h4, h5⟩ := E.own i xs hx
          refine ⟨.ref q, h1, .inl ⟨rfl, vs, SqL.of h4⟩, env, F, s, [d], s1, E, o, ?_, fun us F1 H1 v1 hv => ?_⟩
          · show mCons ma mNil env s = some ([d], s1)
            simp [mCons, e1, mNil]
          · obtain ⟨v, ev, hd⟩ := one_of hv
            have h4' := v1.hs q _ h4 h3
            refine ⟨q, vs, v, rfl, ev, h4', by rw [h5.len]; exact c, ?_⟩
            obtain ⟨E2, w2⟩ := (E.step o v1).mut v1.ok hx h1 ((h5.ext (v1.sameF o)).app (DvL.one hd))
            exact hq σ F1 _ E2 ((Sv.of E v1).trans w2)
        · cases hm
/-- a ghost: the list of slot i stays as it is from here on -/
theorem s_frz (i : Nat) (h : PSs X sts (tS X.K B m)) : PSs X sts (tS X.K B (sFrz i m)) := pss_w h fun Dn σ H ⟨env, F, s, out, E, o, hm, hq⟩ => by
  unfold sFrz at hm
  cases e2 : ownAt env i with
  | none => simp [e2] at hm
  | some xs =>
    have hx := ownAt_eq e2
    simp only [e2, Option.bind_some] at hm
    obtain ⟨q, vs, h1, h2, h3, h4, h5⟩ := E.own i xs hx
    obtain ⟨E2, w2⟩ := E.frz o hx h1 h4 h2 h3 h5
    exact ⟨_, _, s, out, E2, w2.ok, hm, hq.back w2⟩
/-! reading -/
end

/-! ### a def -/
def startE (n : Nat) (ds : List D) : DE := ds.map (fun d => some (.dat d)) ++ List.replicate (n - ds.length) none
def mDef {S : Type} (n : Nat) (m : MS S) : List D → S → Option (D × S) := fun ds s => (m (startE n ds) s).bind fun o => match o with
  | .nx _ s' => some (.non, s')
  | .rt d s' => some (d, s')
  | _ => none
theorem startE_get {n : Nat} {ds : List D} {i : Nat} {x : Slot} (h : (startE n ds)[i]? = some (some x)) : ∃ d, ds[i]? = some d ∧ x = .dat d := by
  unfold startE at h
  by_cases hi : i < ds.length
  · rw [List.getElem?_append_left (by simpa using hi), List.getElem?_map] at h
    cases q : ds[i]? with
    | none => rw [q] at h; cases h
    | some d =>
      rw [q] at h
      cases h
      exact ⟨d, rfl, rfl⟩
  · rw [List.getElem?_append_right (by simp; omega)] at h
    rw [List.getElem?_replicate] at h
    split at h
    · cases h
    · cases h
theorem start_ok {K : PySem.W.Frag} {S : Type} {B : Amb S} {F : Fz} {H : Hp} {N : List Str} {ds : List D} {vs : List V} (h : DvL K B F ds vs) : EnvOk K B F H (L2.start N vs) (startE N.length ds) ∧ ∀ p, ¬ Own (L2.start N vs) (startE N.length ds) p := by
  refine ⟨⟨?_, fun i d q => ?_, fun i xs q => ?_, fun i ks xs q => ?_, fun i j xs ys a q _ ho _ _ _ => ?_⟩, fun p ⟨i, xs, q, ho, _⟩ => ?_⟩
  · unfold L2.start startE
    simp [h.len]
  · obtain ⟨d', h1, h2⟩ := startE_get q
    cases h2
    obtain ⟨v, h3, h4⟩ := h.get h1
    refine ⟨v, ?_, h4⟩
    unfold L2.start
    have hi : i < vs.length := (List.getElem?_eq_some_iff.mp h3).1
    rw [List.getElem?_append_left (by simpa using hi), List.getElem?_map, h3]
    rfl
  · obtain ⟨d', _, h2⟩ := startE_get q
    cases h2
  · obtain ⟨d', _, h2⟩ := startE_get q
    cases h2
  · obtain ⟨d', _, h2⟩ := startE_get q
    cases h2
    cases ho
  · obtain ⟨d', _, h2⟩ := startE_get q
    cases h2
    cases ho
theorem def_D {K : PySem.W.Frag} {S : Type} {B : Amb S} {N : List Str} {n : Nat} {m : MS S} {vs : List V} {H : Hp} {Q : VK} {E : XK} (h : spD K B n (mDef N.length m) vs H Q E) : tS K B m { nx := fun _ H' => Q .non H', rt := Q } (L2.start N vs) H := by
  obtain ⟨_, F, s, ds, d, s', hv, o, hm, hq⟩ := h
  unfold mDef at hm
  obtain ⟨E0, o0⟩ := start_ok (H := H) (N := N) hv
  cases e1 : m (startE N.length ds) s with
  | none => simp [e1] at hm
  | some out =>
    simp only [e1, Option.bind_some] at hm
    refine ⟨_, F, s, out, E0, o, e1, ?_⟩
    cases out with
    | nx env' s1 =>
      cases hm
      exact fun σ' F' H' _ v => hq .non F' H' (v.ev o0) rfl
    | rt d1 s1 =>
      cases hm
      exact fun v F' H' own' w hd => hq v F' H' (w.ev o0) hd
    | bk env' s1 => cases hm
    | ct env' s1 => cases hm
section
variable {P : Program} {w : World} {K : PySem.W.Frag} {mg : Str → Option Value} {base : Heap} {S : Type} {B : Amb S}
end
end Dl

set_option Elab.async false
set_option linter.all false
set_option maxRecDepth 100000
set_option maxHeartbeats 4000000
/-! D8: a text's defs by name, its constants, the Hook that tells them. -/
namespace Dl
open PySem
open L2

/-- x is a def that keeps the promise over data -/
def DOk (P : Program) (w : World) (K : PySem.W.Frag) (mg : Str → Option Value) (base : Heap) {S : Type} (B : Amb S) (x : Str) (k : Nat) (ps : List Str) (g : List D → S → Option (D × S)) : Prop :=
  ∃ f fd, mg x = some (.ref f) ∧ PySem.W.keepIn K (.ref f) = true ∧ Binds K fd ps [] ∧ FnOk P w K mg base CX0 k f fd ps (spD K B ps.length g)
section
variable {X : Cx} {S : Type} {B : Amb S} {e : Expr} {es : List Expr} {pos p : Pos} {ml : ML S} {k : Nat} {ps : List Str} {x : Str} {g : List D → S → Option (D × S)}
theorem d_callO {j : Nat} (G : DOk X.prog X.w X.K X.mg X.base B x k ps g) (hr : Room j X.A) (ha : PA X (e :: es) (tL X.K B ml)) (hj : k ≤ j := by decide)
    (hl : ∀ env s ds s', ml env s = some (ds, s') → ds.length = ps.length := by exact len_cons (by first | exact len_nil | exact len_cons (by first | exact len_nil | exact len_cons (by first | exact len_nil | exact len_cons (by first | exact len_nil | exact len_cons (by first | exact len_nil | exact len_cons len_nil))))))
    (hg : Gl X x := by rfl) (hdb : (x == ("__debug__" : Str)) = false := by decide) (he : starEach (e :: es) X.env = (false, eval e X.env) :: starEach es X.env := by rfl) (hpl : (backTo pos (starEach es X.env)).any (·.1) = false := by rfl) :
    PE X (.Call (.Name x p) (e :: es) [] pos) (tD X.K B (mCall g ml)) := by
  obtain ⟨f, fd, h1, h2, h3, h4⟩ := G
  exact d_call h4 (hr.mono hj) h1 h2 h3 pass0 ha hl hg hdb he hpl
end
section
variable {P : Program} {w : World} {K : PySem.W.Frag} {mg : Str → Option Value} {base : Heap} {S : Type} {B : Amb S}
theorem d_defD {x qual : Str} {st : Stmt} {f : Addr} {fd : FuncData} {N ps : List Str} {k : Nat} {m : MS S} (Fn : FunD K x qual (defArgs st) (defBody st) (defScope st) [] [] f fd) (hm : mg x = some (.ref f)) (S : FnScope N ps (defScope st))
    (bi : ∀ (kV doc pm : Value) (an : Option Addr) (cdv ct : Value) (us : List Value), us.length = ps.length → bindArgs (PySem.W.fnOf x qual (defArgs st) (defBody st) (defScope st) .none kV doc pm an cdv ct) ⟨us, []⟩ = pure (ps.zip us))
    (hb : ∀ (cdv : Value) (A : Around) (outer : List Env) (s : Shared) (H : Hp) (E : XK), Room k (A.deeper (PyProof.Rows.envOfC qual (defScope st) s.heap.objs.size f cdv)) →
      PSs (cxOf CX0 P w K mg base N qual (defScope st) f cdv A outer s H E).nox (defBody st) (tS K B m)) : DOk P w K mg base B x (k + 1) ps (mDef N.length m) :=
  ⟨f, fd, hm, Fn.kp, Fn.bindsN bi, Fn.ok S (fun vs H Q E h => h.1) fun cdv A outer s H vs Q E hr h => ⟨_, (hb cdv A outer s H E hr).nox, def_D h⟩⟩
end

/-! ### constants that lie in the kept part -/
mutual
def dvB (K : PySem.W.Frag) : D → Value → Bool
  | .non, .none => true
  | .bl b, .bool c => b == c
  | .int i, .int j _ => decide (i = j)
  | .str x, .str y _ => decide (x = y)
  | .tup ds, .ref a => match K.lookup a with
    | some ⟨.type c, _, .seq its _, _⟩ => decide (c = "tuple") && (decide (its.size ≤ sizeLine) && dvBL K ds its.toList)
    | _ => false
  | _, _ => false
def dvBL (K : PySem.W.Frag) : List D → List Value → Bool
  | [], [] => true
  | d :: ds, v :: vs => dvB K d v && dvBL K ds vs
  | _, _ => false
end
mutual
theorem dvB_ok {K : PySem.W.Frag} : ∀ {d : D} {u : Value}, dvB K d u = true → ∃ v, RelV v u ∧ ∀ {S : Type} (B : Amb S) (F : Fz), Dv K B F d v
  | .non, .none, _ => ⟨.non, rfl, fun _ _ => rfl⟩
  | .bl b, .bool c, h => by
    have e : b = c := by simpa [dvB] using h
    subst e
    exact ⟨.bl b, rfl, fun _ _ => rfl⟩
  | .int i, .int j t, h => by
    have e : i = j := by simpa [dvB] using h
    subst e
    exact ⟨.int i, ⟨t, rfl⟩, fun _ _ => rfl⟩
  | .str i, .str j t, h => by
    have e : i = j := by simpa [dvB] using h
    subst e
    exact ⟨.str i, ⟨t, rfl⟩, fun _ _ => rfl⟩
  | .tup ds, .ref a, h => by
    unfold dvB at h
    split at h
    · rename_i c dd its n sl e
      simp only [Bool.and_eq_true, decide_eq_true_eq] at h
      obtain ⟨h1, h2, h3⟩ := h
      obtain ⟨vs, r, hv⟩ := dvBL_ok h3
      subst h1
      exact ⟨.ref a, rfl, fun B F => ⟨a, vs, rfl, .inr ⟨_, its, n, e, rfl, rfl, h2, r⟩, hv B F⟩⟩
    · cases h
theorem dvBL_ok {K : PySem.W.Frag} : ∀ {ds : List D} {us : List Value}, dvBL K ds us = true → ∃ vs, Vals vs us ∧ ∀ {S : Type} (B : Amb S) (F : Fz), DvL K B F ds vs
  | [], [], _ => ⟨[], .nil, fun _ _ => rfl⟩
  | [], _ :: _, h => by cases h
  | _ :: _, [], h => by cases h
  | d :: ds, u :: us, h => by
    unfold dvBL at h
    rw [Bool.and_eq_true] at h
    obtain ⟨v, r, hv⟩ := dvB_ok h.1
    obtain ⟨vs, rs, hvs⟩ := dvBL_ok h.2
    exact ⟨v :: vs, .cons r rs, fun B F => ⟨v, vs, rfl, hv B F, hvs B F⟩⟩
end
/-! ### a text's facts -/
/-- what the text's top leaves: its defs, its constants, built-in names as they were -/
structure Tx (fn : List He.DefD) (gs fr : List Str) (is : List (Str × Int)) (ss : List (Str × Str)) (ts : List (Str × D)) (K : PySem.W.Frag) (mg : Str → Option Value) : Prop where
  fns : ∀ d ∈ fn, ∃ fd, FunD K d.name d.qual d.params d.body d.scope (d.dvs K) (d.kws K) (He.fAd K d.at_) fd
  glo : ∀ x ∈ gs, mg x = some (.ref (He.ga K x))
  free : ∀ x ∈ fr, mg x = none
  gint : ∀ p ∈ is, ∃ t, mg p.1 = some (.int p.2 t)
  gstr : ∀ p ∈ ss, ∃ t, mg p.1 = some (.str p.2 t)
  gtup : ∀ p ∈ ts, ∃ a, mg p.1 = some (.ref a) ∧ ∀ {S : Type} (B : Amb S) (F : Fz), Dv K B F p.2 (.ref a)
def faOf (gs fr : List Str) (is : List (Str × Int)) (ss : List (Str × Str)) (ts : List (Str × D)) : List He.Fa :=
  gs.map He.Fa.glo ++ (fr.map He.Fa.free ++ (is.map (fun p => He.Fa.int p.1 p.2) ++ (ss.map (fun p => He.Fa.str p.1 p.2) ++ ts.map fun p => He.Fa.glo p.1)))
def exOf (ts : List (Str × D)) (K : PySem.W.Frag) : Bool := ts.all fun p => dvB K p.2 (.ref (He.ga K p.1))
def SaysY (fa : List He.Fa) (fn : List He.DefD) (ts : List (Str × D)) (K : PySem.W.Frag) : Prop := He.SaysD fa fn K ∧ exOf ts K = true
theorem fact_in {fa : List He.Fa} {fn : List He.DefD} {K : PySem.W.Frag} (c : He.SaysD fa fn K) {f : He.Fa} (h : f ∈ fa) : f.ok K = true := by
  have c1 := (He.ba (show ((fa.all fun f => f.ok K) && fn.all fun d => d.ok K) = true from congrArg (fun z : He.AlD => z.1) c)).1
  exact List.all_eq_true.mp c1 f h
theorem def_in {fa : List He.Fa} {fn : List He.DefD} {K : PySem.W.Frag} (c : He.SaysD fa fn K) {d : He.DefD} (h : d ∈ fn) : ∃ fd, FunD K d.name d.qual d.params d.body d.scope (d.dvs K) (d.kws K) (He.fAd K d.at_) fd := by
  obtain ⟨i, hi⟩ := List.getElem?_of_mem h
  exact c.def_ i hi
theorem tx_of {fn : List He.DefD} {gs fr : List Str} {is : List (Str × Int)} {ss : List (Str × Str)} {ts : List (Str × D)} {K : PySem.W.Frag} {h : Heap} {mg : Str → Option Value} (X : K.In h) (G : h.Ns mainGlobals mg)
    (c : SaysY (faOf gs fr is ss ts) fn ts K) : Tx fn gs fr is ss ts K mg := by
  have m1 : ∀ {f : He.Fa}, f ∈ gs.map He.Fa.glo → f ∈ faOf gs fr is ss ts := fun h => List.mem_append_left _ h
  have m2 : ∀ {f : He.Fa}, f ∈ fr.map He.Fa.free → f ∈ faOf gs fr is ss ts := fun h => List.mem_append_right _ (List.mem_append_left _ h)
  have m3 : ∀ {f : He.Fa}, f ∈ is.map (fun p => He.Fa.int p.1 p.2) → f ∈ faOf gs fr is ss ts := fun h => List.mem_append_right _ (List.mem_append_right _ (List.mem_append_left _ h))
  have m4 : ∀ {f : He.Fa}, f ∈ ss.map (fun p => He.Fa.str p.1 p.2) → f ∈ faOf gs fr is ss ts := fun h => List.mem_append_right _ (List.mem_append_right _ (List.mem_append_right _ (List.mem_append_left _ h)))
  have m5 : ∀ {f : He.Fa}, f ∈ ts.map (fun p => He.Fa.glo p.1) → f ∈ faOf gs fr is ss ts := fun h => List.mem_append_right _ (List.mem_append_right _ (List.mem_append_right _ (List.mem_append_right _ h)))
  refine ⟨fun d hd => def_in c.1 hd, fun x hx => He.glo_ok X G (fact_in c.1 (m1 (List.mem_map_of_mem hx))), fun x hx => He.free_ok X G (fact_in c.1 (m2 (List.mem_map_of_mem hx))),
    fun p hp => He.int_ok X G (fact_in c.1 (m3 (List.mem_map_of_mem hp))), fun p hp => He.str_ok X G (fact_in c.1 (m4 (List.mem_map_of_mem hp))), fun p hp => ⟨_, He.glo_ok X G (fact_in c.1 (m5 (List.mem_map_of_mem hp))), fun {S} B F => ?_⟩⟩
  have e := List.all_eq_true.mp c.2 p hp
  obtain ⟨v, r, hv⟩ := dvB_ok e
  have ev : v = V.ref (He.ga K p.1) := by
    cases v with
    | ref a =>
      have r' : Value.ref (He.ga K p.1) = Value.ref a := r
      cases r'
      rfl
    | non => cases r
    | bl b => cases r
    | int i => obtain ⟨_, r⟩ := r; cases r
    | str i => obtain ⟨_, r⟩ := r; cases r
    | byt i => obtain ⟨_, r⟩ := r; cases r
    | flt i => obtain ⟨_, r⟩ := r; cases r
    | ty n => cases r
  rw [← ev]
  exact hv B F
section
variable {X : Cx} {S : Type} {B : Amb S} {pos : Pos} {x : Str}
theorem d_gint {i : Int} (h : ∃ t, X.mg x = some (.int i t)) (hg : Gl X x := by rfl) (hd : (x == ("__debug__" : Str)) = false := by decide) : PE X (.Name x pos) (tD X.K B (mC (.int i))) := by
  obtain ⟨t, h⟩ := h
  exact d_c (pe_glob (v := .int i) hg h ⟨t, rfl⟩ hd) fun _ => rfl
end
/-! constants, small words -/
section
variable {X : Cx} {S : Type} {B : Amb S} {pos : Pos} {a b : Expr} {ma mb : ME S} {ml : ML S} {es : List Expr}
theorem d_int {i : Int} {j} : PE X (.Constant (.int i) j pos) (tD X.K B (mC (.int i))) := d_c pe_int fun _ => rfl
theorem d_bl {i : Bool} {j} : PE X (.Constant (.bool i) j pos) (tD X.K B (mC (.bl i))) := d_c pe_bl fun _ => rfl
theorem d_non {j} : PE X (.Constant .none j pos) (tD X.K B (mC .non)) := d_c pe_non fun _ => rfl
theorem d_str {i : Str} {j} : PE X (.Constant (.str i) j pos) (tD X.K B (mC (.str i))) := d_c pe_str fun _ => rfl
end
end Dl

set_option Elab.async false
set_option linter.all false
set_option maxRecDepth 100000
set_option maxHeartbeats 4000000
/-! D9: the hand of five places; further rules. -/
namespace Dl
open PySem
open L2
/-- [cells, the next one's place, what is left of a great one, the seed, the turn] -/
structure Hand where
  cells : List Int
  pos : Nat
  great : Int
  seed : Int
  turn : Int
def handL (c : Addr) (h : Hand) : List V := [.ref c, .int h.pos, .int h.great, .int h.seed, .int h.turn]
def HandB (p c : Addr) : Amb Hand where
  at' := fun h _ H => p ≠ c ∧ H p = some (.lst (handL c h)) ∧ H c = some (.lst (h.cells.map V.int))
  own := fun q => q = p ∨ q = c
  hA := p
  lk := True
  there := fun s _ H q h ho => by
    rcases ho with e | e
    · subst e; rw [h.2.1]; exact fun z => nomatch z
    · subst e; rw [h.2.2]; exact fun z => nomatch z
  stay := fun s _ _ H H' h _ _ k => ⟨h.1, k p _ (.inl (.inl rfl)) h.2.1, k c _ (.inl (.inr rfl)) h.2.2⟩
end Dl

set_option Elab.async false
set_option linter.all false
set_option maxRecDepth 100000
set_option maxHeartbeats 4000000
/-! D10: a tuple turned about. -/
namespace Dl
open PySem
open L2
open PyProof.Rows
section
variable {prog : Program} {w : World} {A : Around} {E : Value → Shared → Prop} {s : Shared}
end
section
variable {X : Cx}
end
section
variable {X : Cx} {S : Type} {B : Amb S} {ma : ME S}
end
end Dl

set_option Elab.async false
set_option linter.all false
set_option maxRecDepth 100000
set_option maxHeartbeats 4000000
/-! D11: enumerate over a tuple, over a list. -/
namespace Dl
open PySem
open L2
open AutoSeq1 (wpAny_loadPart')
theorem meets_enumT (l : Addr) (items : Array Value) (n : Nat) (dct : Option Addr) (sl : Array (Option Value)) :
    Meets (Builtin.«enumerate.__new__» ⟨[.type "enumerate", .ref l], []⟩) (fun _ R s => s.heap.get? l = some { cls := .type "tuple", dict := dct, data := .seq items n, slots := sl } ∧
      R (.ok (.ret (.ref (s.heap.push { cls := .type "tuple_iterator", data := .fields #[.ref l, .int 0 0] }).objs.size)))
        { s with heap := (s.heap.push { cls := .type "tuple_iterator", data := .fields #[.ref l, .int 0 0] }).push { cls := .type "enumerate", data := .fields #[.none, .bool false, .ref s.heap.objs.size, rawInt 0, .none, .none] } }) :=
  .of_wp fun prog w A R s h => by
    obtain ⟨hp, g, d, tk, os⟩ := s
    obtain ⟨hl, h⟩ := h
    have hsub := sub_enumerate
    have hL : Heap.IsTuple (Shared.heap ⟨hp, g, d, tk, os⟩) l items := ⟨_, hl, rfl, n, rfl⟩
    wp_walk using wpAny_loadPart' hl
    refine wpAny_stack_any fun st => wpAny_pure ?_
    split
    · rename_i c _ _ _ _ _
      cases (c == Value.type "enumerate")
      · wp_walk using wpAny_loadPart' hl, wpAny_pyIter_tuple hL
        exact ⟨_, rfl, h⟩
      · wp_walk using wpAny_loadPart' hl, wpAny_pyIter_tuple hL
        exact ⟨_, rfl, h⟩
    · wp_walk using wpAny_loadPart' hl, wpAny_pyIter_tuple hL
      exact ⟨_, rfl, h⟩
theorem call_enumT {prog : Program} {w : World} {A : Around} {E : Value → Shared → Prop} {s : Shared} {l : Addr} {items : Array Value} {Q : Value → Shared → Prop} (hL : PyProof.Rows.IsTup s.heap l items)
    (h : ∀ h', IsEnum h' (s.heap.objs.size + 1) s.heap.objs.size 0 .none → h'.IsTupleIter s.heap.objs.size l 0 → (∀ b o, s.heap.get? b = some o → h'.get? b = some o) → Q (.ref (s.heap.objs.size + 1)) { s with heap := h' }) :
    wpAny (model prog w) A (call (.type "enumerate") [.ref l]) Q E s := by
  obtain ⟨⟨c, dct, dt, sl⟩, hl, hc, n, hd⟩ := hL
  have hc' : c = .type "tuple" := hc
  have hd' : dt = .seq items n := hd
  subst hc' hd'
  refine callType_new F.called_enumerate (by decide) (F.typeCall_enumerate_1 _) (F.newCall_enumerate_1 _) (fun obj => F.args_object_init_2 obj _) F.entry_enumerate_new (meets_enumT l items n dct sl) ⟨hl, ?_⟩
  have hz : (s.heap.push { cls := .type "tuple_iterator", data := .fields #[.ref l, .int 0 0] }).objs.size = s.heap.objs.size + 1 := Heap.size_push ..
  show _ ∧ _
  rw [hz]
  have he : IsEnum ((s.heap.push { cls := .type "tuple_iterator", data := .fields #[.ref l, .int 0 0] }).push { cls := .type "enumerate", data := .fields #[.none, .bool false, .ref s.heap.objs.size, rawInt 0, .none, .none] }) (s.heap.objs.size + 1) s.heap.objs.size 0 .none := by
    have z := Heap.get?_push_size (s.heap.push { cls := .type "tuple_iterator", data := .fields #[.ref l, .int 0 0] }) (o := { cls := .type "enumerate", data := .fields #[.none, .bool false, .ref s.heap.objs.size, rawInt 0, .none, .none] }) rfl
    rw [hz] at z
    exact z
  exact ⟨⟨_, he, rfl⟩, h _ he ⟨_, Heap.get?_push_of_some _ (Heap.get?_push_size _ rfl), rfl, rfl⟩ fun b o x => Heap.get?_push_of_some _ (Heap.get?_push_of_some _ x)⟩
/-- (i, the i-th item) of the tuple at a -/
def IteT (K : PySem.W.Frag) (a : Addr) : It :=
  ⟨fun i H => ∃ (xs : List V) (x : V), SqT K H a xs ∧ xs[i]? = some x, fun i H v H' => ∃ T x, v = .ref T ∧ H T = none ∧ H' = upd H T (.tup [.int (i : Nat), x]) ∧ ∀ xs, SqT K H a xs → xs[i]? = some x, fun i H => ∃ xs : List V, SqT K H a xs ∧ xs.length ≤ i⟩
theorem turn_enumT {P : Program} {w : World} {K : PySem.W.Frag} {elts : List Expr} {kk : Nat} {tpos : Pos} (a e it : Addr) :
    Turn P w K (.Tuple elts kk tpos) (IteT K a) [e, it] e (fun i h => (∃ old, IsEnum h e it ((i : Nat) : Int) old) ∧ h.IsTupleIter it a i ∧ e ≠ it) where
  mem := by simp
  obj := fun i h st b hb => by
    obtain ⟨⟨old, he⟩, ⟨o, ho, hc, hd⟩, _⟩ := st
    have e' : b = e ∨ b = it := by simpa using hb
    rcases e' with z | z
    · rw [z]
      exact ⟨_, he, fun v q => nomatch q⟩
    · rw [z]
      exact ⟨o, ho, fun v q => by rw [hd] at q; cases q⟩
  keep := fun i h h' st k => by
    obtain ⟨⟨old, he⟩, hi, hne⟩ := st
    exact ⟨⟨old, k e (by simp) _ he⟩, hi.at fun o q => k it (by simp) o q, hne⟩
  item := by
    intro X hP hw hK hc i pins s σ H E I hf st hg
    subst hP hw hK
    obtain ⟨⟨old, he⟩, hit, hne⟩ := st
    obtain ⟨xs, x, hq, hx⟩ := hg
    obtain ⟨its, rv, tp, hz⟩ := I.tuple hq
    obtain ⟨u, hu, ru⟩ := rv.get hx
    have hel : e < s.heap.objs.size := Heap.lt_size he
    have hil : it < s.heap.objs.size := by
      obtain ⟨_, q, _⟩ := hit
      exact Heap.lt_size q
    have hai : a ≠ it := by
      rintro rfl
      obtain ⟨o1, h1, c1, _⟩ := tp
      obtain ⟨o2, h2, c2, _⟩ := hit
      rw [h1] at h2
      cases h2
      rw [c1] at c2
      exact absurd c2 (by decide)
    have hae : a ≠ e := by
      rintro rfl
      obtain ⟨o1, h1, c1, _⟩ := tp
      rw [show s.heap.get? a = _ from he] at h1
      cases h1
      exact absurd (show Value.type "enumerate" = Value.type "tuple" from c1) (by decide)
    have hef : e ∉ [it, a] := by
      intro z
      rcases List.mem_cons.mp z with z | z
      · exact hne z
      · exact hae (List.mem_singleton.mp z).symm
    have hsz : i < its.toArray.size := by
      have q := (List.getElem?_eq_some_iff.mp hu).1
      simpa using q
    refine wpAny_pyNext_enum_itemD (Draws.tuple (A := X.A.in1) (I.ok.hd hc) it a hai its.toArray) he ⟨hit, tp⟩ hsz hne hef fun y h' tk hy ho hit' hT hsz' hk => ?_
    have ey : y = u := by
      have q : its.toArray[i]? = some y := hy
      have q2 : its.toArray[i]? = some u := by simpa using hu
      rw [q2] at q
      exact (Option.some.inj q).symm
    subst ey
    refine ⟨_, rfl, wpAny_letOwnedTupleGo_enum (s := { s with heap := h', toks := tk + 1 }) ho fun h'' he' sb => ?_⟩
    have hT2 : h''.get? s.heap.objs.size = some { cls := .type "tuple", data := .seq #[.int i tk, y] } := (sb.2 _ (Nat.ne_of_gt hel)).trans hT
    have new : ObjOk X.prog X.w (upd H s.heap.objs.size (.tup [.int (i : Nat), x])) h'' s.heap.objs.size (.tup [.int (i : Nat), x]) :=
      ⟨by show 2 ≤ sizeLine; decide, [.int i tk, y], .cons ⟨_, rfl⟩ (.cons ru .nil), ⟨_, hT2, rfl, _, rfl⟩⟩
    have I1 : Inv X pins σ (upd H s.heap.objs.size (.tup [.int (i : Nat), x])) { s with heap := h'', toks := tk + 1 } :=
      I.turnedNew (ch := [e, it]) (fun b ob hb q => (sb.2 b (fun z => hb (by simp [z]))).trans (hk b ob (fun z => hb (by simp [z])) (fun z => hb (by simp [z])) q)) hf (Nat.le_refl _) new
    refine ⟨.ref s.heap.objs.size, _, I1, rfl, ⟨_, x, rfl, I.hok.fresh (Nat.le_refl _), rfl, fun ys hy => by rw [I.tuple_inj hy hq]; exact hx⟩, ⟨⟨y, ?_⟩, hit'.1.at fun o q => (sb.2 it (Ne.symm hne)).trans q, hne⟩, fun b hb => ?_⟩
    · have e1 : ((i + 1 : Nat) : Int) = (i : Int) + 1 := by omega
      rw [e1]
      exact he'
    · have hb' : b < s.heap.objs.size := by
        have e' : b = e ∨ b = it := by simpa using hb
        rcases e' with z | z
        · rw [z]; exact hel
        · rw [z]; exact hil
      rw [upd_ne (Nat.ne_of_lt hb')]
      exact (hf b hb).1
  done := by
    intro X hP hw hK hc i pins s σ H E I hf st hg
    subst hP hw hK
    obtain ⟨⟨old, he⟩, hit, hne⟩ := st
    obtain ⟨xs, hq, hx⟩ := hg
    obtain ⟨its, rv, tp, hz⟩ := I.tuple hq
    obtain ⟨f0, f1, f2, f3, f4, f5⟩ := hf it (by simp)
    have hl := rv.length
    have hT : s.TypeIs (.ref e) "enumerate" := ⟨_, he, rfl⟩
    unfold pyNext
    refine wpAny_bind (wpAny_attempt (wpAny_callSpecial?_slot (name := Str.ofString "__next__") hT F.slot_enumerate_next (wpAny_call_entry F.slot_enumerate_next hT F.entry_enumerate_next ?_ (F.args_enumerate_next_1 _))))
    show wpAny _ _ (field (.ref e) 2 >>= _) _ _ _
    refine wpAny_bind (wpAny_field he rfl (x := .ref it) rfl ?_)
    refine wpAny_bind (wpAny_nextOf_tuple_end (I.ok.hd hc) hit tp (by simp; omega) fun h' x he' hx' => ?_)
    obtain ⟨o, ho, hc'⟩ := hx'
    refine wpAny_bind (wpAny_isInstance (T := "StopIteration") (b := true) ⟨o, ho, hc'⟩ isSubtype_stop ?_)
    exact wpAny_pure ⟨rfl, I.turned (t' := s.toks) (fun b o hb q => he' b o hb q) f0 f1 f3 f4 f5⟩
  self := fun A i s Q E st h => let ⟨⟨_, he⟩, _⟩ := st; wpAny_pyIter_enum he h
def iEnumT (K : PySem.W.Frag) (ta : TA) : TI := fun σ H R => ta σ H fun vs H1 => ∃ a xs, vs = [.ref a] ∧ SqT K H1 a xs ∧ R (IteT K a) H1
theorem pi_enumT {X : Cx} {e : Expr} {ta : TA} {p pos tpos : Pos} {elts : List Expr} {kk : Nat} (hg : Gl X "enumerate") (hm : X.mg "enumerate" = none) (ha : PA X [e] ta) (hs1 : starEach [e] X.env = [(false, eval e X.env)] := by rfl) :
    PI X (.Tuple elts kk tpos) (.Call (.Name "enumerate" p) [e] [] pos) (iEnumT X.K ta) := by
  refine ⟨fun pins s σ H R I h => ?_⟩
  refine PyProof.Rows.Call_ (ld_blt I hg hm PyProof.Rows.boot_enumerate (PyProof.Rows.callWith_type1 (thn (ha.run pos pins s σ H _ I h) fun us s1 ⟨vs, H1, I1, r1, q1⟩ => ?_) hs1 rfl))
  obtain ⟨a, xs, ex, hq, q⟩ := q1
  subst ex
  obtain ⟨u, rfl, ru⟩ := vals1 r1
  cases ru
  obtain ⟨its, rv, tp, hz⟩ := I1.tuple hq
  refine call_enumT tp fun h' he' hit hk => wpAny_pyIter_enum he' ?_
  have I2 : Inv X pins σ H1 { s1 with heap := h' } := I1.kept (t' := s1.toks) hk
  refine ⟨s1.heap.objs.size + 1, [s1.heap.objs.size + 1, s1.heap.objs.size], _, _, H1, rfl, I2, turn_enumT a (s1.heap.objs.size + 1) s1.heap.objs.size, ⟨⟨.none, he'⟩, hit, Nat.succ_ne_self _⟩, fun b hb => ?_, q⟩
  have hle : s1.heap.objs.size ≤ b := by
    rcases List.mem_cons.mp hb with z | z
    · rw [z]
      exact Nat.le_add_right _ _
    · rw [List.mem_singleton.mp z]
      exact Nat.le_refl _
  exact I1.fpOk hle (I1.hok.fresh hle)
/-! over data -/
section
variable {X : Cx} {S : Type} {B : Amb S} {a : Expr} {ma : ME S} {elts : List Expr} {kk : Nat} {tpos pos p : Pos}
end
end Dl

set_option Elab.async false
set_option linter.all false
set_option maxRecDepth 100000
set_option maxHeartbeats 4000000
/-! D12: max, min of two; products; a comprehension given to a name. -/
namespace Dl
open PySem
open L2
section
variable {X : Cx} {S : Type} {B : Amb S}
theorem s_setLc {i : Nat} {y : Str} {py : Pos} {elt tg iter : Expr} {ifs : List Expr} {scope : Scope} {own : List (Str × Nat)} {pos spos : Pos} {src : ML S} {g : TG} {gd : D → DE → Option DE} {is : List Nat} {c : MT S} {e : ME S} (hc : X.calm = true) (hN : X.N.Nodup) (hy : X.N[i]? = some y)
    (hyl : X.env.scope.names.lookup y = some .local) (hsw : swapsWith (.ListComp elt [⟨tg, iter, ifs, 0⟩] scope pos) (some (.Name y py)) spos.line X.env = pure true) (hi : PI X tg iter (tI X.K B src)) (ok : BlkOk X.N X.env.scope scope own)
    (hg : ∀ (s : Shared) (H : Hp) (C : Addr) (cl : List (Str × Addr)) (fp : List Addr), PG (X.blk s H scope (compEnvC scope cl C X.env) fp) tg g) (hgd : GD X.K B is g gd)
    (ht : ∀ (s : Shared) (H : Hp) (C : Addr) (cl : List (Str × Addr)) (fp : List Addr), PTs (X.blk s H scope (compEnvC scope cl C X.env) fp) ifs (tT X.K B c))
    (he : ∀ (s : Shared) (H : Hp) (C : Addr) (cl : List (Str × Addr)) (fp : List Addr), PE (X.blk s H scope (compEnvC scope cl C X.env) fp) elt (tD X.K B e))
    (his : ∀ i ∈ is, i ∈ own.map (·.2) := by decide) (hs : ∀ x, foldedSetIterable iter X.env x = pure x := by intro _; rfl) :
    PS X (.Assign [.Name y py] (.ListComp elt [⟨tg, iter, ifs, 0⟩] scope pos) spos) (tS X.K B (sAsg (gdName i) (mComp src gd c e (own.map (·.2))))) := ps_w (ps_setLc hc hN hy hyl hsw hi ok hg ht he hs) fun Dn σ H h => by
  have h2 := asg_D (g_name i) h
  exact comp_D hgd his h2
end
end Dl

set_option Elab.async false
set_option linter.all false
set_option maxRecDepth 100000
set_option maxHeartbeats 4000000
/-! D13: sorted(set(a list of rows of whole numbers)). -/
namespace Dl
open PySem
open L2
section
variable {K : PySem.W.Frag} {S : Type} {B : Amb S} {F : Fz}
end
section
variable {X : Cx} {S : Type} {B : Amb S} {a : Expr} {ml : ML S} {pos pos2 p1 p2 : Pos}
end
end Dl

set_option Elab.async false
set_option linter.all false
set_option maxRecDepth 100000
set_option maxHeartbeats 4000000
/-! D14: the words of the hand; the script. -/
namespace Dl
open PySem
open L2
def isH (env : DE) (i : Nat) : Bool := match env[i]? with
  | some (some (.dat .hnd)) => true
  | _ => false
theorem isH_eq {env : DE} {i : Nat} (h : isH env i = true) : env[i]? = some (some (.dat .hnd)) := by
  unfold isH at h
  split at h
  · assumption
  · cases h
def hget (h : Hand) : Int → Option Int
  | 1 => some h.pos
  | 2 => some h.great
  | 3 => some h.seed
  | 4 => some h.turn
  | _ => none
def hset (h : Hand) (k z : Int) : Option Hand :=
  if k = 1 then (if 0 ≤ z then some { h with pos := z.toNat } else none)
  else if k = 2 then some { h with great := z }
  else if k = 3 then some { h with seed := z }
  else if k = 4 then some { h with turn := z }
  else none
def mHx (i : Nat) (k : Int) : ME Hand := fun env h => if isH env i = true then (hget h k).map fun z => (.int z, h) else none
def mHlen (i : Nat) : ME Hand := fun env h => if isH env i = true then some (.int h.cells.length, h) else none
def mHcell (i : Nat) (e : ME Hand) : ME Hand := fun env h => if isH env i = true then (e env h).bind fun p => (intOf p.1).bind fun z => (atI p.2.cells z).map fun n => (.int n, p.2) else none
def sHput (i : Nat) (k : Int) (e : ME Hand) : MS Hand := fun env h => if isH env i = true then (e env h).bind fun p => (intOf p.1).bind fun z => (hset p.2 k z).map fun h' => .nx env h' else none
section
variable {p c : Addr} {F : Fz} {H : Hp} {h h' : Hand} {k z : Int}
theorem hset_at (e : hset h k z = some h') : ∃ j, ixN 5 k = some j ∧ handL c h' = (handL c h).set j (.int z) := by
  unfold hset at e
  split at e
  · rename_i e1
    subst e1
    split at e
    · rename_i h0
      cases e
      refine ⟨1, by decide, ?_⟩
      show [V.ref c, V.int ((z.toNat : Nat) : Int), V.int h.great, V.int h.seed, V.int h.turn] = [V.ref c, V.int z, V.int h.great, V.int h.seed, V.int h.turn]
      rw [show ((z.toNat : Nat) : Int) = z by omega]
    · cases e
  · split at e
    · rename_i e1
      subst e1
      cases e
      exact ⟨2, by decide, rfl⟩
    · split at e
      · rename_i e1
        subst e1
        cases e
        exact ⟨3, by decide, rfl⟩
      · split at e
        · rename_i e1
          subst e1
          cases e
          exact ⟨4, by decide, rfl⟩
        · cases e
theorem hset_cells (e : hset h k z = some h') : h'.cells = h.cells := by
  unfold hset at e
  repeat' split at e
  all_goals first
    | (cases e; rfl)
    | cases e
theorem hand_put (o : Ok (HandB p c) F H h) {j : Nat} (e : hset h k z = some h') (ej : handL c h' = (handL c h).set j (.int z)) : Ev (HandB p c) F H F (upd H p (.lst ((handL c h).set j (.int z)))) h' := by
  refine Ev.mutOwn o (.inl (.inl rfl)) ?_
  obtain ⟨a1, a2, a3⟩ := o.am
  refine ⟨a1, ?_, ?_⟩
  · rw [upd_same, ej]
  · rw [upd_ne (fun z => a1 z.symm), hset_cells e]
    exact a3
theorem hget_at (e : hget h k = some z) : atI (handL c h) k = some (.int z) := by
  unfold hget at e
  split at e
  · cases e; rfl
  · cases e; rfl
  · cases e; rfl
  · cases e; rfl
  · cases e
theorem atI_ints {l : List Int} {n : Int} (e : atI l z = some n) : atI (l.map V.int) z = some (.int n) := by
  unfold atI at e ⊢
  rw [List.length_map]
  revert e
  generalize ixN l.length z = q
  intro e
  cases q with
  | none => cases e
  | some j =>
    have e' : l[j]? = some n := e
    show (l.map V.int)[j]? = some (V.int n)
    rw [List.getElem?_map, e']
    rfl
end
section
variable {X : Cx} {p c : Addr} {a b e : Expr} {pos p1 p2 pos2 : Pos} {i : Nat} {mb : ME Hand}
theorem hnd_at {K : PySem.W.Frag} {F : Fz} {H : Hp} {σ : L2.St} {env : DE} (E : EnvOk K (HandB p c) F H σ env) (h : isH env i = true) : σ[i]? = some (some (.ref p)) := by
  obtain ⟨v, h1, h2⟩ := E.dat i _ (isH_eq h)
  rw [show v = V.ref p from h2] at h1
  exact h1
theorem d_hx {k : Int} {j} (ho : PE X a (tVar i)) (hs : PlainIx (.Constant (.int k) j p1) := by exact fun _ _ => rfl) : PE X (.Subscript a (.Constant (.int k) j p1) pos) (tD X.K (HandB p c) (mHx i k)) := pe_w (pe_ix ix_list ho pe_int hs) fun σ H Q ⟨env, F, s, d, s', E, o, hm, hq⟩ => by
  unfold mHx at hm
  split at hm
  · rename_i hh
    cases e1 : hget s k with
    | none => rw [e1] at hm; cases hm
    | some z =>
      rw [e1] at hm
      cases hm
      exact ⟨.ref p, hnd_at E hh, p, _, k, .int z, rfl, rfl, SqL.of o.am.2.1, hget_at e1, hq _ F H o.refl rfl⟩
  · cases hm
theorem d_hlen {j} (hm : X.mg "len" = none) (ho : PE X a (tVar i)) (hs : PlainIx (.Constant (.int 0) j p1) := by exact fun _ _ => rfl) (hv : bootBuiltins "len" = some (.builtin "len") := by decide +kernel) (hg : Gl X "len" := by rfl)
    (he : starEach (Expr.Subscript a (.Constant (.int 0) j p1) p2 :: []) X.env = (false, eval (Expr.Subscript a (.Constant (.int 0) j p1) p2) X.env) :: starEach [] X.env := by rfl) (hpl : (backTo pos (starEach [] X.env)).any (·.1) = false := by rfl) :
    PE X (.Call (.Name "len" pos2) [.Subscript a (.Constant (.int 0) j p1) p2] [] pos) (tD X.K (HandB p c) (mHlen i)) :=
  pe_w (pe_callB call_len hg hm hv (pa_cons (pe_ix ix_list ho pe_int hs) pa_nil he) (by decide) (by decide) he hpl) fun σ H Q ⟨env, F, s, d, s', E, o, hm, hq⟩ => by
    unfold mHlen at hm
    split at hm
    · rename_i hh
      cases hm
      refine ⟨.ref p, hnd_at E hh, p, _, 0, .ref c, rfl, rfl, SqL.of o.am.2.1, rfl, .ref c, _, rfl, .inl ⟨_, SqL.of o.am.2.2, rfl⟩, ?_⟩
      rw [List.length_map]
      exact hq _ F H o.refl rfl
    · cases hm
theorem d_hcell {j} (ho : PE X a (tVar i)) (hb : PE X b (tD X.K (HandB p c) mb)) (hs : PlainIx (.Constant (.int 0) j p1) := by exact fun _ _ => rfl) (hs2 : PlainIx b := by exact fun _ _ => rfl) :
    PE X (.Subscript (.Subscript a (.Constant (.int 0) j p1) p2) b pos) (tD X.K (HandB p c) (mHcell i mb)) :=
  pe_w (pe_ix ix_list (pe_ix ix_list ho pe_int hs) hb hs2) fun σ H Q ⟨env, F, s, d, s', E, o, hm, hq⟩ => by
    unfold mHcell at hm
    split at hm
    · rename_i hh
      cases e1 : mb env s with
      | none => simp [e1] at hm
      | some w =>
        obtain ⟨dk, s1⟩ := w
        simp only [e1, Option.bind_some] at hm
        cases e5 : intOf dk with
        | none => simp [e5] at hm
        | some z =>
          have hz := intOf_eq e5
          subst hz
          simp only [e5, Option.bind_some] at hm
          cases e6 : atI s1.cells z with
          | none => simp [e6] at hm
          | some n =>
            simp only [e6, Option.map_some, Option.some.injEq, Prod.mk.injEq] at hm
            obtain ⟨rfl, rfl⟩ := hm
            refine ⟨.ref p, hnd_at E hh, p, _, 0, .ref c, rfl, rfl, SqL.of o.am.2.1, rfl, env, F, s, _, s1, E, o, e1, fun v F1 H1 v1 hv => ?_⟩
            exact ⟨c, _, z, .int n, rfl, hv, SqL.of v1.ok.am.2.2, atI_ints e6, hq _ F1 H1 v1 rfl⟩
    · cases hm
theorem s_hput {o v : Expr} {k : Int} {j} {mv : ME Hand} (ho : PE X o (tVar i)) (hv : PE X v (tD X.K (HandB p c) mv))
    (hg : ∀ {to ti : TE}, PE X o to → PE X (.Constant (.int k) j p1) ti → PG X (.Subscript o (.Constant (.int k) j p1) p2) (gSub to ti rSetL)) (hs : swapsWithSole [.Subscript o (.Constant (.int k) j p1) p2] v pos.line X.env = pure false := by rfl)
    (hw : swappedStores [.Subscript o (.Constant (.int k) j p1) p2] v X.env = pure none := by rfl)
    (h1 : (assignEach [.Subscript o (.Constant (.int k) j p1) p2] X.env).map (·.2) = [assign (.Subscript o (.Constant (.int k) j p1) p2) X.env] := by rfl) : PS X (.Assign [.Subscript o (.Constant (.int k) j p1) p2] v pos) (tS X.K (HandB p c) (sHput i k mv)) :=
  ps_w (ps_asg hv (hg ho pe_int) hs hw h1) fun Dn σ H ⟨env, F, s, out, E, o, hm, hq⟩ => by
    unfold sHput at hm
    split at hm
    · rename_i hh
      cases e1 : mv env s with
      | none => simp [e1] at hm
      | some w =>
        obtain ⟨dk, s1⟩ := w
        simp only [e1, Option.bind_some] at hm
        cases e5 : intOf dk with
        | none => simp [e5] at hm
        | some z =>
          have hz := intOf_eq e5
          subst hz
          simp only [e5, Option.bind_some] at hm
          cases e6 : hset s1 k z with
          | none => simp [e6] at hm
          | some h' =>
            simp only [e6, Option.map_some, Option.some.injEq] at hm
            subst hm
            refine ⟨env, F, s, _, s1, E, o, e1, fun vv F1 H1 v1 hd => ?_⟩
            obtain ⟨jj, k1, k2⟩ := hset_at (c := c) e6
            refine ⟨.ref p, hnd_at E hh, p, handL c s1, k, jj, rfl, rfl, v1.ok.am.2.1, k1, ?_⟩
            have v2 := hand_put v1.ok e6 k2
            rw [show vv = V.int z from hd]
            exact hq σ F1 _ (E.step o (v1.trans v2)) (Sv.of E (v1.trans v2))
    · cases hm
end
/-! the script -/
def ScrB (K : PySem.W.Frag) (a : Addr) (b : Prop) : Amb (List Int) where
  at' := fun l _ H => (b ∧ Rd H a (.lst (l.map V.int))) ∨ (¬ b ∧ ∀ H', SqL K H' a (l.map V.int))
  own := fun q => q = a ∧ b
  hA := a
  there := fun s _ H q h ho => by
    rcases h with h | h
    · rw [ho.1]
      rcases h.2 with h | ⟨o, h⟩
      · rw [h]; exact fun z => nomatch z
      · rw [h]; exact fun z => nomatch z
    · exact absurd ho.2 h.1
  stay := fun s _ _ H H' h _ _ k => by
    rcases h with h | h
    · refine .inl ⟨h.1, ?_⟩
      rcases h.2 with q | ⟨o, q⟩
      · exact .inl (k a _ (.inl ⟨rfl, h.1⟩) q)
      · exact .inr ⟨o, k a _ (.inl ⟨rfl, h.1⟩) q⟩
    · exact .inr h
theorem scr_at {K : PySem.W.Frag} {a : Addr} {b : Prop} {l : List Int} {F : Fz} {H : Hp} (h : (ScrB K a b).at' l F H) : SqL K H a (l.map V.int) := by
  rcases h with h | h
  · exact .inl h.2
  · exact h.2 H
theorem scr_of {K : PySem.W.Frag} {a : Addr} {l : List Int} {F : Fz} {H : Hp} (h : SqL K H a (l.map V.int)) : ∃ b, (ScrB K a b).at' l F H := by
  rcases h with h | h
  · exact ⟨True, .inl ⟨trivial, h⟩⟩
  · exact ⟨False, .inr ⟨fun z => z, fun H' => .inr h⟩⟩
def mScr (i : Nat) (n : Nat) : ME (List Int) := fun env s => if isH env i = true then some (.lst (cutD (s.map .int) none (some (n : Int))), s) else none
section
variable {X : Cx} {a : Addr} {bp : Prop} {e : Expr} {pos p1 p2 : Pos} {i : Nat}
theorem d_scr {n : Nat} {j} (ho : PE X e (tVar i)) : PE X (.Subscript e (.Slice none (some (.Constant (.int n) j p1)) none p2) pos) (tD X.K (ScrB X.K a bp) (mScr i n)) :=
  pe_w (pe_slice sl_list ho po_none (po_some pe_int)) fun σ H Q ⟨env, F, s, d, s', E, o, hm, hq⟩ => by
    unfold mScr at hm
    split at hm
    · rename_i hh
      cases hm
      obtain ⟨v, h1, h2⟩ := E.dat i _ (isH_eq hh)
      rw [show v = V.ref a from h2] at h1
      refine ⟨.ref a, h1, n, rfl, a, _, rfl, scr_at o.am, fun q hp => ?_⟩
      exact hq _ _ _ (Ev.new o _ hp) (new_lst o hp (cut_dv DvL.of_ints none (some (n : Int))))
    · cases hm
end
end Dl

set_option Elab.async false
set_option linter.all false
set_option maxRecDepth 100000
set_option maxHeartbeats 4000000
/-! D15: the law's entry. -/
namespace Dl
open PySem
open L2
def spLaw (K : PySem.W.Frag) : Sp := fun vs H Q _ => ∃ (a : Addr) (ns : List Int), vs = [V.ref a] ∧ SqL K H a (ns.map V.int) ∧ ns.length ≤ 63 ∧ ∀ H', Q (.bl true) H'
def handD (cells : List Int) (k : Int) : D := .lst [.lst (cells.map .int), .int 0, .int 0, .int k, .int 0]
def hand0 (cells : List Int) (k : Int) : Hand := ⟨cells, 0, 0, k, 0⟩
def startH (n i : Nat) : DE := (List.replicate n none).set i (some (.dat .hnd))
def LawOk (n i : Nat) (m : MS Hand) (fh : List D → List Int → Option (D × List Int)) : Prop :=
  ∀ ns : List Int, ns.length ≤ 63 → ∃ cells k s', fh [.hnd] ns = some (handD cells k, ns) ∧ m (startH n i) (hand0 cells k) = some (.rt (.bl true) s')
theorem startH_get {n i j : Nat} {d : Slot} (h : (startH n i)[j]? = some (some d)) : j = i ∧ d = .dat .hnd := by
  unfold startH at h
  by_cases e : i = j
  · subst e
    by_cases hl : i < n
    · rw [List.getElem?_set_self (by simpa using hl)] at h
      cases h
      exact ⟨rfl, rfl⟩
    · rw [List.getElem?_eq_none (by simpa using Nat.le_of_not_lt hl)] at h
      cases h
  · rw [List.getElem?_set_ne e, List.getElem?_replicate] at h
    split at h
    · cases h
    · cases h
/-- what the hand's list shows -/
theorem hand_dv {K : PySem.W.Frag} {S : Type} {B : Amb S} {F : Fz} {cells : List Int} {k : Int} {v : V} (h : Dv K B F (handD cells k) v) : ∃ p c, v = .ref p ∧ p ≠ c ∧ F p = some (.lst (handL c (hand0 cells k))) ∧ F c = some (.lst (cells.map V.int)) := by
  obtain ⟨p, vs, rfl, h1, v0, r0, rfl, h2, h3⟩ := h
  obtain ⟨c, us, rfl, h4, h5⟩ := h2
  have h3' : DvL K B F ([0, 0, k, 0].map D.int) r0 := h3
  rw [DvL.ints h3'] at h1
  rw [DvL.ints h5] at h4
  refine ⟨p, c, rfl, fun e => ?_, h1, h4⟩
  subst e
  rw [h1] at h4
  have e := congrArg (fun o => match o with
    | some (HO.lst (x :: _)) => some x
    | _ => none) h4
  cases cells with
  | nil => cases e
  | cons n ns => cases e
theorem pss_ex {X : Cx} {sts : List Stmt} {t : Addr → Addr → TS} (h : ∀ p c, PSs X sts (t p c)) : PSs X sts (fun Dn σ H => ∃ p c, t p c Dn σ H) := ⟨fun pins s σ H Dn I ⟨p, c, hw⟩ => (h p c).run pins s σ H Dn I hw⟩
section
variable {P : Program} {w : World} {K : PySem.W.Frag} {mg : Str → Option Value} {base : Heap}
theorem law_fn {x qual : Str} {st : Stmt} {f : Addr} {fd : FuncData} {N : List Str} {y : Str} {k : Nat} {i : Nat} {m : MS Hand} {fh : List D → List Int → Option (D × List Int)} {st1 : Stmt} {rest : List Stmt} (Fn : FunD K x qual (defArgs st) (defBody st) (defScope st) [] [] f fd)
    (S : FnScope N [y] (defScope st)) (hi : i < N.length) (h0 : 0 < i) (hl : LawOk N.length i m fh) (hB : defBody st = st1 :: rest)
    (h1 : ∀ (a : Addr) (bp : Prop) (cdv : Value) (A : Around) (outer : List Env) (s : Shared) (H : Hp) (E : XK), Room k (A.deeper (PyProof.Rows.envOfC qual (defScope st) s.heap.objs.size f cdv)) →
      PS (cxOf CX0 P w K mg base N qual (defScope st) f cdv A outer s H E).nox st1 (tS K (ScrB K a bp) (sAsg (gdName i) (mCall fh (mCons (mVar 0) mNil)))))
    (h2 : ∀ (p c : Addr) (cdv : Value) (A : Around) (outer : List Env) (s : Shared) (H : Hp) (E : XK), Room k (A.deeper (PyProof.Rows.envOfC qual (defScope st) s.heap.objs.size f cdv)) →
      PSs (cxOf CX0 P w K mg base N qual (defScope st) f cdv A outer s H E).nox rest (tS K (HandB p c) m)) : FnOk P w K mg base CX0 (k + 1) f fd [y] (spLaw K) := by
  refine Fn.ok S (fun vs H Q E ⟨a, ns, e, _⟩ => by rw [e]; rfl) fun cdv A outer s H vs Q E hr ⟨a, ns, e, hs, hz, hq⟩ => ?_
  subst e
  obtain ⟨bp, hb⟩ := scr_of (F := Fz0) hs
  refine ⟨_, by rw [hB]; exact PSs.nox (pss_cons (h1 a bp cdv A outer s H E hr) (pss_ex fun p c => h2 p c cdv A outer s H E hr)), ?_⟩
  obtain ⟨cells, kk, s', e1, e2⟩ := hl ns hz
  have hv : DvL K (ScrB K a bp) Fz0 [D.hnd] [V.ref a] := DvL.one rfl
  obtain ⟨E0, o0⟩ := start_ok (H := H) (N := N) hv
  have O : Ok (ScrB K a bp) Fz0 H ns := ⟨(fun _ _ h => by cases h), fun _ _ => rfl, hb, fun _ h => by cases h⟩
  have hn : 0 < N.length := Nat.lt_of_le_of_lt (Nat.zero_le _) hi
  have hst : (startE N.length [D.hnd])[0]? = some (some (.dat .hnd)) := by
    unfold startE
    rfl
  have hm1 : sAsg (gdName i) (mCall fh (mCons (mVar 0) mNil)) (startE N.length [D.hnd]) ns = some (.nx ((startE N.length [D.hnd]).set i (some (.dat (handD cells kk)))) ns) := by
    have a1 : mCons (mVar 0) mNil (startE N.length [D.hnd]) ns = some ([D.hnd], ns) := by
      simp [mCons, mVar, mNil, hst]
    have a2 : mCall fh (mCons (mVar 0) mNil) (startE N.length [D.hnd]) ns = some (handD cells kk, ns) := by
      unfold mCall
      rw [a1]
      exact e1
    unfold sAsg
    rw [a2]
    rfl
  refine ⟨_, _, ns, _, E0, O, hm1, fun σ' F' H' E' v => ?_⟩
  have hli : i < (startE N.length [D.hnd]).length := by
    have : (startE N.length [D.hnd]).length = N.length := by
      unfold startE
      simp
      omega
    omega
  obtain ⟨u, g1, g2⟩ := E'.dat i (handD cells kk) (List.getElem?_set_self hli)
  obtain ⟨p, c, rfl, g3, g4, g5⟩ := hand_dv g2
  refine ⟨p, c, startH N.length i, Fz0, hand0 cells kk, _, ⟨?_, fun j d q => ?_, fun j xs q => ?_, fun j ks xs q => ?_, fun j j2 xs ys b q _ ho _ _ _ => ?_⟩, ⟨(fun _ _ h => by cases h), fun _ _ => rfl, ⟨g3, v.ok.sub _ _ g4, v.ok.sub _ _ g5⟩, fun _ h => by cases h⟩, e2, fun u F2 H2 own' w2 hd => ?_⟩
  · rw [E'.len, List.length_set]
    unfold startH startE
    simp
    omega
  · obtain ⟨e, e'⟩ := startH_get q
    subst e
    cases e'
    exact ⟨_, g1, rfl⟩
  · obtain ⟨e, e'⟩ := startH_get q
    cases e'
  · obtain ⟨e, e'⟩ := startH_get q
    cases e'
  · obtain ⟨e, e'⟩ := startH_get q
    cases e'
    cases ho
  · rw [show u = V.bl true from hd]
    exact hq H2
end
end Dl

set_option Elab.async false
set_option linter.all false
set_option maxRecDepth 100000
set_option maxHeartbeats 4000000
/-! D16: texts; in. -/
namespace Dl
open PySem
open L2
section
variable {K : PySem.W.Frag} {S : Type} {B : Amb S}
end
section
variable {X : Cx} {S : Type} {B : Amb S} {a e o tg : Expr} {ma me : ME S} {pos p apos : Pos} {m : MS S}
/-! methods of a text -/
end
end Dl
namespace Dl
open PySem
open L2
/-! in -/
mutual
theorem py_pl : ∀ {d : D} {p : PyData}, toPy d = some p → p.plain = true
  | .non, _, h => by cases h; rfl
  | .bl _, _, h => by cases h; rfl
  | .int _, _, h => by cases h; rfl
  | .str _, _, h => by cases h; rfl
  | .hnd, _, h => by cases h
  | .dct _ _, _, h => by cases h
  | .tup ds, p, h => by
    have h' : (toPyL ds).map PyData.tuple = some p := h
    cases e : toPyL ds with
    | none => rw [e] at h'; cases h'
    | some ps =>
      rw [e] at h'
      cases h'
      exact py_plL e
  | .lst ds, p, h => by
    have h' : (toPyL ds).map PyData.list = some p := h
    cases e : toPyL ds with
    | none => rw [e] at h'; cases h'
    | some ps =>
      rw [e] at h'
      cases h'
      exact py_plL e
theorem py_plL : ∀ {ds : List D} {ps : List PyData}, toPyL ds = some ps → PyData.plainAll ps = true
  | [], _, h => by cases h; rfl
  | d :: ds, ps, h => by
    have h' : (match toPy d, toPyL ds with | some p, some ps => some (p :: ps) | _, _ => none) = some ps := h
    cases e : toPy d with
    | none => rw [e] at h'; cases h'
    | some q =>
      cases e2 : toPyL ds with
      | none => rw [e, e2] at h'; cases h'
      | some qs =>
        rw [e, e2] at h'
        cases h'
        show (q.plain && PyData.plainAll qs) = true
        rw [py_pl e, py_plL e2]
        rfl
end
def inP (neg : Bool) (d e : PyData) : Option Bool := match e with
  | .tuple ds => if min (PyData.depthAll ds) d.depth ≤ 62 then some (neg != ds.any fun y => PyData.eqv y d) else none
  | .list ds => if min (PyData.depthAll ds) d.depth ≤ 62 then some (neg != ds.any fun y => PyData.eqv y d) else none
  | _ => none
def rInP (K : PySem.W.Frag) (neg : Bool) : R2 := fun x y H Q => ∃ d e b, Dp K H x d ∧ Dp K H y e ∧ d.plain = true ∧ e.plain = true ∧ inP neg d e = some b ∧ Q (.bl b) H
section
variable {X : Cx}
theorem op_inP (hu : X.A.units + 64 < cLine) : OpR X (compareOp .In) (rInP X.K false) := by
  intro pins s σ H x y v u Q I rx ry h
  obtain ⟨d, e, b, hd, he, p1, p2, hf, q⟩ := h
  obtain ⟨as, r1⟩ := Dp.reads I d x v hd rx
  obtain ⟨bs, r2⟩ := Dp.reads I e y u he ry
  unfold inP at hf
  split at hf
  · rename_i ds
    split at hf
    · rename_i c
      cases hf
      exact PySem.SeqAt.in_tuple_data r2 r1 p2 p1 (by omega) ⟨.bl _, H, I, rfl, by rw [Bool.false_bne] at q; exact q⟩
    · cases hf
  · rename_i ds
    split at hf
    · rename_i c
      cases hf
      exact PySem.SeqAt.in_list_data r2 r1 p2 p1 (by omega) ⟨.bl _, H, I, rfl, by rw [Bool.false_bne] at q; exact q⟩
    · cases hf
  · cases hf
def rSignIn (neg : Bool) : R2 := fun x y H Q => ∃ (c : Nat) (z : Str), x = .str ⟨#[c]⟩ ∧ y = .str z ∧ Q (.bl (neg != decide (c ∈ z.cps.toList))) H
theorem op_inA (hu : X.A.units + 64 < cLine) : OpR X (compareOp .In) (fun x y H Q => rSignIn false x y H Q ∨ rInP X.K false x y H Q) :=
  OpR.or (fun pins s σ H x y v u Q I rx ry ⟨c, z, e1, e2, q⟩ => op_in_sign pins s σ H x y v u Q I rx ry ⟨c, z, e1, e2, by rw [Bool.false_bne] at q; exact q⟩) (op_inP hu)
end
def signIn (neg : Bool) : D → D → Option D
  | .str w, .str z => match w.cps.toList with
    | [c] => some (.bl (neg != decide (c ∈ z.cps.toList)))
    | _ => none
  | _, _ => none
def inN (neg : Bool) (x y : D) : Option D := match y with
  | .str _ => signIn neg x y
  | _ => relD (inP neg) x y
def inD := inN false
theorem inN_ok {K : PySem.W.Frag} {S : Type} {B : Amb S} (neg : Bool) : OpD K B (fun x y H Q => rSignIn neg x y H Q ∨ rInP K neg x y H Q) (inN neg) := fun F H s dx dy dz x y Q o hx hy hf hq => by
  have data : relD (inP neg) dx dy = some dz → (rSignIn neg x y H Q ∨ rInP K neg x y H Q) := fun hf => by
    unfold relD at hf
    cases e1 : toPy dx with
    | none => rw [e1] at hf; cases hf
    | some a =>
      cases e2 : toPy dy with
      | none => rw [e1, e2] at hf; cases hf
      | some b =>
        rw [e1, e2] at hf
        cases e3 : inP neg a b with
        | none => simp [e3] at hf
        | some k =>
          simp [e3] at hf
          subst hf
          exact .inr ⟨a, b, k, dp_of o.sub e1 hx, dp_of o.sub e2 hy, py_pl e1, py_pl e2, e3, hq _ F H o.refl rfl⟩
  cases dy with
  | str z =>
    have hf' : signIn neg dx (.str z) = some dz := hf
    cases dx with
    | str w =>
      have hf2 : (match w.cps.toList with | [c] => some (D.bl (neg != decide (c ∈ z.cps.toList))) | _ => none) = some dz := hf'
      split at hf2
      · rename_i c e
        cases hf2
        refine .inl ⟨c, z, ?_, hy, hq _ F H o.refl rfl⟩
        have ew : w = ⟨#[c]⟩ := by
          cases w with
          | mk cps =>
            have e' : cps.toList = [c] := e
            have : cps = #[c] := by
              rw [← Array.toList_inj, e']
            rw [this]
        rw [← ew]
        exact hx
      · cases hf2
    | _ => cases hf'
  | _ => exact data hf
theorem inD_ok {K : PySem.W.Frag} {S : Type} {B : Amb S} : OpD K B (fun x y H Q => rSignIn false x y H Q ∨ rInP K false x y H Q) inD := inN_ok false
/-! str(), int() of a text -/
/-! join -/
def seqItems : D → Option (List D)
  | .tup ds => some ds
  | .lst ds => some ds
  | _ => none
section
variable {X : Cx} {S : Type} {B : Amb S} {e o : Expr} {ma me : ME S} {pos p apos : Pos}
end
end Dl

set_option Elab.async false
set_option linter.all false
set_option maxRecDepth 100000
set_option maxHeartbeats 4000000
/-! D17: what is never reached; x op= e; max of a tuple. -/
namespace Dl
open PySem
open L2
def sNone {S : Type} : MS S := fun _ _ => none
section
variable {X : Cx} {S : Type} {B : Amb S} {e a : Expr} {me : ME S} {pos p : Pos} {st : Stmt} {sts : List Stmt} {ml : ML S}
theorem ss_none : PSs X sts (tS X.K B sNone) := ⟨fun pins s σ H Dn I ⟨env, F, s', out, E, o, hm, hq⟩ => by cases hm⟩
def datAt (env : DE) (i : Nat) : Option D := match env[i]? with
  | some (some (.dat d)) => some d
  | _ => none
theorem datAt_eq {env : DE} {i : Nat} {d : D} (h : datAt env i = some d) : env[i]? = some (some (.dat d)) := by
  unfold datAt at h
  split at h
  · cases h; assumption
  · cases h
/-! max of a tuple of whole numbers -/
end
end Dl

set_option Elab.async false
set_option linter.all false
set_option maxRecDepth 100000
set_option maxHeartbeats 4000000
/-! D18: dicts with texts for keys: displays, reading. -/
namespace Dl
open PySem
open L2
theorem putK_new {kvs : List (Key × V)} {k : Key} {v : V} (h : k ∉ kvs.map (·.1)) : putK kvs k v = kvs ++ [(k, v)] := by
  unfold putK
  rw [if_neg]
  intro c
  obtain ⟨p, hp, e⟩ := List.any_eq_true.mp c
  exact h (List.mem_map.mpr ⟨p, hp, by simpa using e⟩)
theorem mergeK_new : ∀ {more kvs : List (Key × V)}, ((kvs ++ more).map (·.1)).Nodup → mergeK kvs more = kvs ++ more
  | [], kvs, _ => (List.append_nil _).symm
  | p :: more, kvs, h => by
    have hp : p.1 ∉ kvs.map (·.1) := by
      rw [List.map_append, List.map_cons] at h
      intro hm
      exact (List.nodup_append.mp h).2.2 _ hm _ (List.mem_cons_self ..) rfl
    show mergeK (putK kvs p.1 p.2) more = _
    rw [putK_new hp, mergeK_new (by rw [List.append_assoc]; exact h), List.append_assoc]
    rfl
def mDisp {S : Type} (ks : List Str) (l : ML S) : ME S := fun env s => (l env s).bind fun p => if p.1.length = ks.length ∧ (ks.map (Sum.inr : Str → Key)).Nodup then some (.dct (ks.map Sum.inr) p.1, p.2) else none
section
variable {X : Cx} {S : Type} {B : Amb S} {a b v : Expr} {ma mb : ME S} {ml : ML S} {pos p : Pos}
/-- a display's pairs -/
structure PD (X : Cx) (B : Amb S) (pos : Pos) (keys : List (Option Expr)) (values : List Expr) (ks : List Str) (ml : ML S) : Prop where
  ex : ∃ trs, PPs X pos keys values trs ∧ keys.all (·.isSome) = true ∧ keys.length = values.length ∧ keys.length = ks.length ∧
    ∀ (σ : L2.St) (H : Hp) (Q : List (V × V) → Hp → Prop), (∃ env F s ds s', EnvOk X.K B F H σ env ∧ Ok B F H s ∧ ml env s = some (ds, s') ∧ ∀ vs F' H', Ev B F H F' H' s' → DvL X.K B F' ds vs → Q ((ks.zip vs).map fun p => (V.str p.1, p.2)) H') → tPairs trs σ H Q
theorem pd_nil : PD X B pos [] [] [] mNil := ⟨[], pps_nil, rfl, rfl, rfl, fun σ H Q ⟨env, F, s, ds, s', E, o, hm, hq⟩ => by
  have e : ([], s) = (ds, s') := Option.some.inj hm
  cases e
  exact hq [] F H o.refl rfl⟩
theorem pd_cons {k : Str} {j} {kp : Pos} {keys : List (Option Expr)} {values : List Expr} {ks : List Str} (hv : PE X v (tD X.K B ma)) (hr : PD X B pos keys values ks ml) : PD X B pos (some (.Constant (.str k) j kp) :: keys) (v :: values) (k :: ks) (mCons ma ml) := by
  obtain ⟨trs, h1, h2, h3, h4, h5⟩ := hr.ex
  refine ⟨_, pps_cons pe_str hv h1, by rw [List.all_cons, h2]; rfl, by rw [List.length_cons, List.length_cons, h3], by rw [List.length_cons, List.length_cons, h4], fun σ H Q ⟨env, F, s, ds, s', E, o, hm, hq⟩ => ?_⟩
  unfold mCons at hm
  cases e1 : ma env s with
  | none => simp [e1] at hm
  | some w =>
    obtain ⟨d, s1⟩ := w
    cases e2 : ml env s1 with
    | none => simp [e1, e2] at hm
    | some w =>
      obtain ⟨es, s2⟩ := w
      simp [e1, e2] at hm
      obtain ⟨m1, m2⟩ := hm
      subst m1 m2
      show tD X.K B ma σ H fun y H2 => tPairs trs σ H2 fun ps H3 => Q ((V.str k, y) :: ps) H3
      refine ⟨env, F, s, d, s1, E, o, e1, fun u F1 H1 v1 hu => ?_⟩
      refine h5 σ H1 _ ⟨env, F1, s1, es, s2, E.step o v1, v1.ok, e2, fun vs F2 H2 v2 hvs => ?_⟩
      exact hq (u :: vs) F2 H2 (v1.trans v2) ⟨u, vs, rfl, hu.ext (v2.sameF v1.ok), hvs⟩
theorem d_disp {keys : List (Option Expr)} {values : List Expr} {ks : List Str} (h : PD X B pos keys values ks ml) (h0 : keys ≠ []) (h15 : keys.length ≤ 15 := by decide) : PE X (.Dict keys values pos) (tD X.K B (mDisp ks ml)) := by
  obtain ⟨trs, h1, h2, h3, h4, h5⟩ := h.ex
  refine pe_w (pe_disp h1 h2 h3 h0 h15) fun σ H Q ⟨env, F, s, d, s', E, o, hm, hq⟩ => ?_
  unfold mDisp at hm
  cases e1 : ml env s with
  | none => simp [e1] at hm
  | some w =>
    obtain ⟨ds, s1⟩ := w
    simp only [e1, Option.bind_some] at hm
    split at hm
    · rename_i c
      cases hm
      intro p hp
      have v0 := Ev.newO o (.dK []) hp
      refine h5 σ _ _ ⟨env, F, s, ds, _, E.step o v0, v0.ok, e1, fun vs F1 H1 v1 hvs => ?_⟩
      have hpo : ¬ OwZ B F p := ne_own o hp
      have hp1 : H1 p = some (.dK []) := v1.hs p _ upd_same hpo
      have hf0 : F p = none := by
        cases q : F p with
        | none => rfl
        | some x => rw [o.sub p x q] at hp; cases hp
      have hf1 : F1 p = none := by
        have := v1.fs p (by rw [upd_same]; exact fun z => nomatch z)
        rw [this]
        exact hf0
      have hl : vs.length = ks.length := by rw [hvs.len]; exact c.1
      have hz1 : ((ks.zip vs).map fun q => ((Sum.inr q.1 : Key), q.2)).map (·.1) = ks.map Sum.inr := by
        rw [List.map_map]
        have : ((fun x : Key × V => x.1) ∘ fun q : Str × V => ((Sum.inr q.1 : Key), q.2)) = (Sum.inr : Str → Key) ∘ Prod.fst := rfl
        rw [this, ← List.map_map, List.map_fst_zip (by omega)]
      have hz2 : ((ks.zip vs).map fun q => ((Sum.inr q.1 : Key), q.2)).map (·.2) = vs := by
        rw [List.map_map]
        have : ((fun x : Key × V => x.2) ∘ fun q : Str × V => ((Sum.inr q.1 : Key), q.2)) = Prod.snd := rfl
        rw [this, List.map_snd_zip (by omega)]
      refine ⟨hp1, (ks.zip vs).map fun q => (Sum.inr q.1, q.2), ?_, ?_, ?_⟩
      · rw [List.map_map]
        rfl
      · rw [List.length_map, List.length_zip]
        omega
      · rw [mergeK_new (by rw [List.nil_append, hz1]; exact c.2), List.nil_append]
        have v2 : Ev B F H (upF F1 p (.dK ((ks.zip vs).map fun q => (Sum.inr q.1, q.2)))) (upd H1 p (.dK ((ks.zip vs).map fun q => (Sum.inr q.1, q.2)))) s' := by
          have n1 := v1.nown upd_same hpo
          exact ((v0.trans v1).mutE hp hf1 n1).frzE hp upd_same n1
        refine hq _ _ _ v2 ⟨p, _, rfl, .inl upd_same, hz1, ?_⟩
        rw [hz2]
        exact hvs.ext (sm_upF hf1)
    · cases hm
/-! d[k] -/
def lookD : List Key → List D → Key → Option D
  | k :: ks, d :: ds, x => if k = x then some d else lookD ks ds x
  | _, _, _ => none
def dgetD (x y : D) : Option D := match x, y with
  | .dct ks ds, .str z => lookD ks ds (.inr z)
  | .dct ks ds, .int z => lookD ks ds (.inl z)
  | _, _ => none
theorem look_dv {K : PySem.W.Frag} {F : Fz} : ∀ {kvs : List (Key × V)} {ds : List D} {k : Key} {d : D}, DvL K B F ds (kvs.map (·.2)) → lookD (kvs.map (·.1)) ds k = some d → ∃ v, valV kvs k = some v ∧ Dv K B F d v
  | [], ds, k, d, _, e => by
    cases ds <;> cases e
  | p :: kvs, [], k, d, h, e => by cases e
  | p :: kvs, d0 :: ds, k, d, h, e => by
    obtain ⟨v, r, e1, h1, h2⟩ := h
    rw [List.map_cons, List.cons.injEq] at e1
    obtain ⟨e1, e2⟩ := e1
    have e' : (if p.1 = k then some d0 else lookD (kvs.map (·.1)) ds k) = some d := e
    by_cases c : p.1 = k
    · rw [if_pos c] at e'
      cases e'
      exact ⟨p.2, valV_pos c, by rw [e1]; exact h1⟩
    · rw [if_neg c] at e'
      rw [← e2] at h2
      obtain ⟨u, g1, g2⟩ := look_dv h2 e'
      refine ⟨u, ?_, g2⟩
      rw [← g1]
      simp [valV, List.find?_cons, c]
theorem d_dget (hu : X.A.units + 64 < cLine) (ha : PE X a (tD X.K B ma)) (hb : PE X b (tD X.K B mb)) (hs : NoSl b := by exact fun _ _ => rfl) : PE X (.Subscript a b pos) (tD X.K B (mB dgetD ma mb)) :=
  pe_w (pe_dget (by omega) ha hb hs) fun σ H Q ⟨env, F, s, d, s', E, o, hm, hq⟩ => by
    obtain ⟨x, s1, y, e1, e2, e3⟩ := bin_un hm
    refine ⟨env, F, s, x, s1, E, o, e1, fun u F1 H1 v1 hx => ⟨env, F1, s1, y, s', E.step o v1, v1.ok, e2, fun w F2 H2 v2 hy => ?_⟩⟩
    unfold dgetD at e3
    split at e3
    · rename_i ks ds z
      obtain ⟨p, kvs, rfl, g1, g2, g3⟩ := hx
      subst g2
      obtain ⟨r, k1, k2⟩ := look_dv g3 e3
      refine ⟨p, r, rfl, .inl ⟨kvs, .inr z, rd_ext v2.ok.sub (rd_ext (v2.sameF v1.ok) g1.rd), hy, k1.symm⟩, hq r F2 H2 (v1.trans v2) (k2.ext (v2.sameF v1.ok))⟩
    · rename_i ks ds z
      obtain ⟨p, kvs, rfl, g1, g2, g3⟩ := hx
      subst g2
      obtain ⟨r, k1, k2⟩ := look_dv g3 e3
      refine ⟨p, r, rfl, .inl ⟨kvs, .inl z, rd_ext v2.ok.sub (rd_ext (v2.sameF v1.ok) g1.rd), hy, k1.symm⟩, hq r F2 H2 (v1.trans v2) (k2.ext (v2.sameF v1.ok))⟩
    · cases e3
end
end Dl

set_option Elab.async false
set_option linter.all false
set_option maxRecDepth 100000
set_option maxHeartbeats 4000000
/-! D19: x, y = e, [..] with y a list of one's own. -/
namespace Dl
open PySem
open L2
section
variable {X : Cx} {S : Type} {B : Amb S} {a : Expr} {es : List Expr} {ma : ME S} {ml : ML S} {pos : Pos}
end
end Dl
namespace Dl
open PySem
open L2
theorem DOk.mono {P : Program} {w : World} {K : PySem.W.Frag} {mg : Str → Option Value} {base : Heap} {S : Type} {B : Amb S} {x : Str} {j k : Nat} {ps : List Str} {g : List D → S → Option (D × S)} (h : DOk P w K mg base B x j ps g) (hj : j ≤ k) : DOk P w K mg base B x k ps g := by
  obtain ⟨f, fd, h1, h2, h3, h4⟩ := h
  exact ⟨f, fd, h1, h2, h3, h4.mono hj⟩
end Dl

set_option Elab.async false
set_option linter.all false
set_option maxRecDepth 100000
set_option maxHeartbeats 4000000
/-! D20: what raises: expressions, calls, statements. -/
namespace Dl
open PySem
open L2
/-- what comes of a thing that may raise: a value, or an error of the class c with its field f (or none) -/
inductive RX (S : Type) where
  | val (d : D) (s : S) | exc (c f : Str) (ds : List D) (s : S)
abbrev MX (S : Type) := DE → S → Option (RX S)
inductive RL (S : Type) where
  | val (ds : List D) (s : S) | exc (c f : Str) (ds : List D) (s : S)
abbrev MLX (S : Type) := DE → S → Option (RL S)
/-- the dict of a raised error shows its field -/
def ExD (K : PySem.W.Frag) {S : Type} (B : Amb S) (F : Fz) (f : Str) (ds : List D) (dd : Option Addr) : Prop := ∃ ws, ((dd = none ∧ ws = []) ∨ ∃ a w, dd = some a ∧ F a = some (.xd [(f, w)]) ∧ ws = [w]) ∧ DvL K B F ds ws
def RxOk (K : PySem.W.Frag) {S : Type} (B : Amb S) (F : Fz) (H : Hp) (Q : VK) (E : XK) : RX S → Prop
  | .val d s' => ∀ v F' H', Ev B F H F' H' s' → Dv K B F' d v → Q v H'
  | .exc c f ds s' => ∀ F' H' dd, Ev B F H F' H' s' → ExD K B F' f ds dd → E (.ref (He.ga K c)) dd H'
def spX (K : PySem.W.Frag) {S : Type} (B : Amb S) (n : Nat) (g : List D → S → Option (RX S)) : Sp := fun vs H Q E => vs.length = n ∧ ∃ F s ds out, DvL K B F ds vs ∧ Ok B F H s ∧ g ds s = some out ∧ RxOk K B F H Q E out
def DOkX (P : Program) (w : World) (K : PySem.W.Frag) (mg : Str → Option Value) (base : Heap) {S : Type} (B : Amb S) (x : Str) (k : Nat) (ps : List Str) (g : List D → S → Option (RX S)) : Prop :=
  ∃ f fd, mg x = some (.ref f) ∧ PySem.W.keepIn K (.ref f) = true ∧ Binds K fd ps [] ∧ FnOk P w K mg base (L2.CX P w) k f fd ps (spX K B ps.length g)
theorem DOkX.mono {P : Program} {w : World} {K : PySem.W.Frag} {mg : Str → Option Value} {base : Heap} {S : Type} {B : Amb S} {x : Str} {j k : Nat} {ps : List Str} {g : List D → S → Option (RX S)} (h : DOkX P w K mg base B x j ps g) (hj : j ≤ k) : DOkX P w K mg base B x k ps g := by
  obtain ⟨f, fd, h1, h2, h3, h4⟩ := h
  exact ⟨f, fd, h1, h2, h3, h4.mono hj⟩
section
variable {X : Cx} {S : Type} {B : Amb S} {W : WX} {a b e : Expr} {es : List Expr} {pos p : Pos} {ma : ME S} {ml : ML S} {mx : MX S} {mlx : MLX S} {k : Nat} {ps : List Str} {x : Str} {g : List D → S → Option (RX S)}
end
/-! ### statements -/
inductive OutX (S : Type) where
  | ok (o : OutS S) | ex (c f : Str) (ds : List D) (env : DE) (s : S)
abbrev MSX (S : Type) := DE → S → Option (OutX S)
def OutOkX (K : PySem.W.Frag) {S : Type} (B : Amb S) (F : Fz) (H : Hp) (own : Addr → Prop) (Dn : Ends) (W : WX) : OutX S → Prop
  | .ok o => OutOk K B F H own Dn o
  | .ex c f ds env' s' => ∀ σ' F' H' dd, EnvOk K B F' H' σ' env' → Sv B F H own F' H' (Own σ' env') s' → ExD K B F' f ds dd → W (.ref (He.ga K c)) dd σ' H'
theorem OutOkX.back {K : PySem.W.Frag} {S : Type} {B : Amb S} {F F1 : Fz} {H H1 : Hp} {o o1 : Addr → Prop} {s1 : S} {Dn : Ends} {W : WX} (e : Sv B F H o F1 H1 o1 s1) : ∀ {out : OutX S}, OutOkX K B F H o Dn W out → OutOkX K B F1 H1 o1 Dn W out
  | .ok _, h => OutOk.back e h
  | .ex _ _ _ _ _, h => fun σ' F' H' dd E v k => h σ' F' H' dd E (e.trans v) k
def tSX (K : PySem.W.Frag) {S : Type} (B : Amb S) (W : WX) (m : MSX S) : TS := fun Dn σ H => ∃ env F s out, EnvOk K B F H σ env ∧ Ok B F H s ∧ m env s = some out ∧ OutOkX K B F H (Own σ env) Dn W out
def xS {S : Type} (m : MS S) : MSX S := fun env s => (m env s).map .ok
def xSeq {S : Type} (a b : MSX S) : MSX S := fun env s => (a env s).bind fun o => match o with
  | .ok (.nx env' s') => b env' s'
  | o => some o
def xIf {S : Type} (t : MT S) (a b : MSX S) : MSX S := fun env s => (t env s).bind fun p => if p.1 = true then a env p.2 else b env p.2
def xRaise {S : Type} (c f : Str) (e : ME S) : MSX S := fun env s => (e env s).map fun p => .ex c f [p.1] env p.2
def loopX {S : Type} (gd : D → DE → Option DE) (body : MSX S) : List D → DE → S → Option (OutX S)
  | [], env, s => some (.ok (.nx env s))
  | x :: xs, env, s => (gd x env).bind fun env1 => (body env1 s).bind fun o => match o with
    | .ok (.nx e s) => loopX gd body xs e s
    | .ok (.ct e s) => loopX gd body xs e s
    | .ok (.bk e s) => some (.ok (.nx e s))
    | .ok (.rt d s) => some (.ok (.rt d s))
    | .ex c f ds e s => some (.ex c f ds e s)
def xFor {S : Type} (src : ML S) (gd : D → DE → Option DE) (body : MSX S) : MSX S := fun env s => (src env s).bind fun p => loopX gd body p.1 env p.2
section
variable {X : Cx} {S : Type} {B : Amb S} {W : WX} {st : Stmt} {sts : List Stmt} {m m' : MSX S} {ms : MS S} {a e : Expr} {pos p : Pos} {ma : ME S} {mx : MX S} {src : ML S}
theorem x_ss (h : PSs X sts (tS X.K B ms)) : PSs X sts (tSX X.K B W (xS ms)) := pss_w h fun Dn σ H ⟨env, F, s, out, E, o, hm, hq⟩ => by
  unfold xS at hm
  cases e1 : ms env s with
  | none => simp [e1] at hm
  | some o1 =>
    simp only [e1, Option.map_some, Option.some.injEq] at hm
    subst hm
    exact ⟨env, F, s, o1, E, o, e1, hq⟩
theorem x_cons (h1 : PS X st (tSX X.K B W m)) (h2 : PSs X sts (tSX X.K B W m')) : PSs X (st :: sts) (tSX X.K B W (xSeq m m')) := pss_w (pss_cons h1 h2) fun Dn σ H ⟨env, F, s, out, E, o, hm, hq⟩ => by
  unfold xSeq at hm
  cases e1 : m env s with
  | none => simp [e1] at hm
  | some o1 =>
    simp only [e1, Option.bind_some] at hm
    refine ⟨env, F, s, o1, E, o, e1, ?_⟩
    cases o1 with
    | ex c f ds env' s' => cases hm; exact hq
    | ok o1 =>
      cases o1 with
      | nx env' s' => exact fun σ' F' H' E' v => ⟨env', F', s', out, E', v.ok, hm, hq.back v⟩
      | rt d s' => cases hm; exact hq
      | bk env' s' => cases hm; exact hq
      | ct env' s' => cases hm; exact hq
theorem x_one (h1 : PS X st (tSX X.K B W m)) : PSs X [st] (tSX X.K B W m) := pss_one h1
theorem x_if {c : Expr} {t : MT S} {stt sff : List Stmt} (hc : PT X c (tT X.K B t)) (ha : PSs X stt (tSX X.K B W m)) (hb : PSs X sff (tSX X.K B W m')) : PS X (.If c stt sff pos) (tSX X.K B W (xIf t m m')) := ps_w (ps_if hc ha hb) fun Dn σ H ⟨env, F, s, out, E, o, hm, hq⟩ => by
  unfold xIf at hm
  cases e1 : t env s with
  | none => simp [e1] at hm
  | some w =>
    obtain ⟨b, s1⟩ := w
    simp only [e1, Option.bind_some] at hm
    refine ⟨env, F, s, b, s1, E, o, e1, fun F1 H1 v1 => ?_⟩
    have hq1 := hq.back (Sv.of E v1)
    cases b with
    | true => exact ⟨env, F1, s1, out, E.step o v1, v1.ok, hm, hq1⟩
    | false => exact ⟨env, F1, s1, out, E.step o v1, v1.ok, hm, hq1⟩
theorem x_raise {x file f : Str} {pos2 : Pos} {k : Nat} (hc : X.calm = true) (tk : Takes X W) (T : PySem.Er.ErrTxt X.K file f (He.ga X.K x)) (PG : PySem.Er.Pg X.prog file) (gC : X.mg x = some (.ref (He.ga X.K x))) (hr : Room k X.A) (he : PE X a (tD X.K B ma)) (hg : Gl X x := by rfl)
    (hs : starEach [a] X.env = (false, eval a X.env) :: starEach [] X.env := by rfl) (hpl : (backTo pos (starEach [] X.env)).any (·.1) = false := by rfl) (hdb : (x == ("__debug__" : Str)) = false := by decide) :
    PS X (.Raise (some (.Call (.Name x p) [a] [] pos)) none pos2) (tSX X.K B W (xRaise x f ma)) := ps_w (ps_raise hc tk (pmk_err T PG gC hr he hg hs hpl hdb)) fun Dn σ H ⟨env, F, s, out, E, o, hm, hq⟩ => by
  unfold xRaise at hm
  cases e1 : ma env s with
  | none => simp [e1] at hm
  | some w =>
    obtain ⟨d, s1⟩ := w
    simp only [e1, Option.map_some, Option.some.injEq] at hm
    subst hm
    refine ⟨env, F, s, d, s1, E, o, e1, fun v F1 H1 v1 hx dd hd => ?_⟩
    have v2 := Ev.new v1.ok (.xd [(f, v)]) hd
    exact hq σ _ _ (some dd) (E.step o (v1.trans v2)) (Sv.of E (v1.trans v2)) ⟨[v], .inr ⟨dd, v, rfl, upd_same, rfl⟩, DvL.one (hx.ext (v2.sameF v1.ok))⟩
theorem x_for {tg iter : Expr} {body : List Stmt} {is : List Nat} {g : TG} {gd : D → DE → Option DE} (hp : PassesOwn (model X.prog X.w) X.A X.env X.xe) (hc : X.calm = true) (hi : PI X tg iter (tI X.K B src)) (hg' : PG X tg g) (hg : GD X.K B is g gd) (hb : PSs X body (tSX X.K B W m))
    (hs : ∀ x, foldedSetIterable iter X.env x = pure x := by intro _; rfl) : PS X (.For tg iter body [] pos) (tSX X.K B W (xFor src gd m)) := ps_w (ps_for hp hc hi hg' hb hs) fun Dn σ H h => by
  obtain ⟨env, F, s, out, E, o, hm, hq⟩ := h
  unfold xFor at hm
  cases e1 : src env s with
  | none => simp [e1] at hm
  | some w =>
    obtain ⟨xs, s1⟩ := w
    simp only [e1, Option.bind_some] at hm
    refine ⟨env, F, s, xs, s1, E, o, e1, fun J F1 H1 v1 jd hz => ?_⟩
    have E1 : EnvOk X.K B F1 H1 σ env := E.step o v1
    have hq1 : OutOkX X.K B F1 H1 (Own σ env) Dn W out := hq.back (Sv.of E v1)
    refine ⟨fun i n σ2 H2 => n = xs.length - i ∧ i ≤ xs.length ∧ ∃ env2 F2 s2, EnvOk X.K B F2 H2 σ2 env2 ∧ Sv B F1 H1 (Own σ env) F2 H2 (Own σ2 env2) s2 ∧ loopX gd m (xs.drop i) env2 s2 = some out,
      ⟨xs.length, by simp, Nat.zero_le _, env, F1, s1, E1, Sv.refl E1 v1.ok, hm⟩, ?_⟩
    rintro i n σ2 H2 ⟨rfl, hi, env2, F2, s2, E2, v2, hl⟩
    have sF := v2.sameF E1 v1.ok
    by_cases hlt : i < xs.length
    · refine .inr ⟨jd.go i F2 H2 s2 sF v2.ok hlt, fun σ' H' => i + 1 ≤ xs.length ∧ ∃ env2 F2 s2, EnvOk X.K B F2 H' σ' env2 ∧ Sv B F1 H1 (Own σ env) F2 H' (Own σ' env2) s2 ∧ loopX gd m (xs.drop (i + 1)) env2 s2 = some out,
        fun σ' H' p' => ⟨xs.length - (i + 1), by omega, rfl, p'⟩, fun x H3 hy => ?_⟩
      obtain ⟨F3, v3, hx⟩ := jd.yld i F2 H2 s2 x H3 xs[i] sF v2.ok hy (by simp [hlt])
      rw [List.drop_eq_getElem_cons hlt] at hl
      unfold loopX at hl
      cases q1 : gd xs[i] env2 with
      | none => simp [q1] at hl
      | some env3 =>
        simp only [q1, Option.bind_some] at hl
        cases q2 : m env3 s2 with
        | none => simp [q2] at hl
        | some ob =>
          simp only [q2, Option.bind_some] at hl
          refine hg xs[i] x F3 H3 s2 σ2 env2 env3 _ (E2.step v2.ok v3) v3.ok hx q1 fun σ3 E3 ho _ => ?_
          have v23 : Sv B F1 H1 (Own σ env) F3 H3 (Own σ3 env3) s2 := v2.trans ((Sv.of E2 v3).less ho)
          refine ⟨env3, F3, s2, ob, E3, v3.ok, q2, ?_⟩
          have hq3 := hq1.back v23
          cases ob with
          | ex c f ds e4 s4 =>
            cases hl
            exact hq3
          | ok ob =>
            cases ob with
            | nx e4 s4 => exact fun σ4 F4 H4 E4 v4 => ⟨hlt, e4, F4, s4, E4, v23.trans v4, hl⟩
            | ct e4 s4 => exact fun σ4 F4 H4 E4 v4 => ⟨hlt, e4, F4, s4, E4, v23.trans v4, hl⟩
            | bk e4 s4 =>
              cases hl
              exact hq3
            | rt d s4 =>
              cases hl
              exact hq3
    · have hi2 : xs.length ≤ i := Nat.le_of_not_lt hlt
      refine .inl ⟨jd.stop i F2 H2 s2 sF v2.ok hi2, ?_⟩
      rw [List.drop_of_length_le hi2] at hl
      cases hl
      exact hq1 σ2 F2 H2 E2 v2
end
/-! ### a def that may raise -/
section
variable {P : Program} {w : World} {K : PySem.W.Frag} {mg : Str → Option Value} {base : Heap} {S : Type} {B : Amb S}
end
end Dl

set_option Elab.async false
set_option linter.all false
set_option maxRecDepth 100000
set_option maxHeartbeats 4000000
/-! D21: try .. except X as e. -/
namespace Dl
open PySem
open L2
def withE {S : Type} (B : Amb S) (e : Addr × Value × Option Addr) : Amb S := { B with ex := some e }
mutual
/-- no caught error within -/
def noE : D → Bool
  | .exn _ _ _ => false
  | .err _ _ ds => noEL ds
  | .tup ds => noEL ds
  | .lst ds => noEL ds
  | .dct _ ds => noEL ds
  | .ins _ _ ds => noEL ds
  | .ftp ds => noEL ds
  | .non => true
  | .obj _ => true
  | .bl _ => true
  | .int _ => true
  | .str _ => true
  | .hnd => true
def noEL : List D → Bool
  | [] => true
  | d :: ds => noE d && noEL ds
end
section
variable {K : PySem.W.Frag} {S : Type} {B : Amb S} {F : Fz} {H : Hp} {e : Addr × Value × Option Addr}
mutual
theorem dv_up (hB : B.ex = none) : ∀ {d : D} {v : V}, Dv K B F d v → Dv K (withE B e) F d v
  | .obj _, _, h => h
  | .non, _, h => h
  | .bl _, _, h => h
  | .int _, _, h => h
  | .str _, _, h => h
  | .hnd, _, h => h
  | .tup _, _, ⟨a, vs, h1, h2, h3⟩ => ⟨a, vs, h1, h2, dvl_up hB h3⟩
  | .lst _, _, ⟨a, vs, h1, h2, h3⟩ => ⟨a, vs, h1, h2, dvl_up hB h3⟩
  | .dct _ _, _, ⟨a, kvs, h1, h2, h3, h4⟩ => ⟨a, kvs, h1, h2, h3, dvl_up hB h4⟩
  | .exn _ _ _, _, ⟨a, d, ws, h1, _⟩ => by
    rw [hB] at h1
    cases h1
  | .err _ _ _, _, ⟨a, d, ws, h1, h2, h3, h4⟩ => ⟨a, d, ws, h1, h2, h3, dvl_up hB h4⟩
  | .ins _ _ _, _, ⟨a, dx, fs, h1, h2, h3, h4, h5⟩ => ⟨a, dx, fs, h1, h2, h3, h4, dvl_up hB h5⟩
  | .ftp _, _, ⟨a, o, vs, h1, h2, h3, h4, h5⟩ => ⟨a, o, vs, h1, h2, h3, h4, dvl_up hB h5⟩
theorem dvl_up (hB : B.ex = none) : ∀ {ds : List D} {vs : List V}, DvL K B F ds vs → DvL K (withE B e) F ds vs
  | [], _, h => h
  | _ :: _, _, ⟨v, r, h1, h2, h3⟩ => ⟨v, r, h1, dv_up hB h2, dvl_up hB h3⟩
end
mutual
theorem dv_down : ∀ {d : D} {v : V}, noE d = true → Dv K (withE B e) F d v → Dv K B F d v
  | .obj _, _, _, h => h
  | .non, _, _, h => h
  | .bl _, _, _, h => h
  | .int _, _, _, h => h
  | .str _, _, _, h => h
  | .hnd, _, _, h => h
  | .tup _, _, n, ⟨a, vs, h1, h2, h3⟩ => ⟨a, vs, h1, h2, dvl_down n h3⟩
  | .lst _, _, n, ⟨a, vs, h1, h2, h3⟩ => ⟨a, vs, h1, h2, dvl_down n h3⟩
  | .dct _ _, _, n, ⟨a, kvs, h1, h2, h3, h4⟩ => ⟨a, kvs, h1, h2, h3, dvl_down n h4⟩
  | .exn _ _ _, _, n, _ => by cases n
  | .err _ _ _, _, n, ⟨a, d, ws, h1, h2, h3, h4⟩ => ⟨a, d, ws, h1, h2, h3, dvl_down n h4⟩
  | .ins _ _ _, _, n, ⟨a, dx, fs, h1, h2, h3, h4, h5⟩ => ⟨a, dx, fs, h1, h2, h3, h4, dvl_down n h5⟩
  | .ftp _, _, n, ⟨a, o, vs, h1, h2, h3, h4, h5⟩ => ⟨a, o, vs, h1, h2, h3, h4, dvl_down n h5⟩
theorem dvl_down : ∀ {ds : List D} {vs : List V}, noEL ds = true → DvL K (withE B e) F ds vs → DvL K B F ds vs
  | [], _, _, h => h
  | d :: ds, _, n, ⟨v, r, h1, h2, h3⟩ => by
    have n' : (noE d && noEL ds) = true := n
    rw [Bool.and_eq_true] at n'
    exact ⟨v, r, h1, dv_down n'.1 h2, dvl_down n'.2 h3⟩
end
def noEO : Option Slot → Bool
  | none => true
  | some (.dat d) => noE d
  | some (.own xs) => noEL xs
  | some (.ownK _ ds) => noEL ds
theorem env_up (hB : B.ex = none) {σ : L2.St} {env : DE} (E : EnvOk K B F H σ env) : EnvOk K (withE B e) F H σ env :=
  ⟨E.len, fun i d h => by
    obtain ⟨v, h1, h2⟩ := E.dat i d h
    exact ⟨v, h1, dv_up hB h2⟩, fun i xs h => by
    obtain ⟨a, vs, h1, h2, h3, h4, h5⟩ := E.own i xs h
    exact ⟨a, vs, h1, h2, h3, h4, dvl_up hB h5⟩, fun i ks ds h => by
    obtain ⟨a, vs, h1, h2, h3, h4, h5, h6⟩ := E.ownK i ks ds h
    exact ⟨a, vs, h1, h2, h3, h4, h5, dvl_up hB h6⟩, E.inj⟩
theorem env_down {σ : L2.St} {env : DE} (n : env.all noEO = true) (E : EnvOk K (withE B e) F H σ env) : EnvOk K B F H σ env := by
  have nn : ∀ {i : Nat} {x : Option Slot}, env[i]? = some x → noEO x = true := fun h => List.all_eq_true.mp n _ (List.mem_of_getElem? h)
  exact ⟨E.len, fun i d h => by
    obtain ⟨v, h1, h2⟩ := E.dat i d h
    exact ⟨v, h1, dv_down (nn h) h2⟩, fun i xs h => by
    obtain ⟨a, vs, h1, h2, h3, h4, h5⟩ := E.own i xs h
    exact ⟨a, vs, h1, h2, h3, h4, dvl_down (nn h) h5⟩, fun i ks ds h => by
    obtain ⟨a, vs, h1, h2, h3, h4, h5, h6⟩ := E.ownK i ks ds h
    exact ⟨a, vs, h1, h2, h3, h4, h5, dvl_down (nn h) h6⟩, E.inj⟩
theorem ok_up {s : S} (o : Ok B F H s) : Ok (withE B e) F H s := ⟨o.sub, o.ap, o.am, o.alt⟩
theorem ok_down {s : S} (o : Ok (withE B e) F H s) : Ok B F H s := ⟨o.sub, o.ap, o.am, o.alt⟩
theorem sv_down {o o' : Addr → Prop} {F' : Fz} {H' : Hp} {s : S} (v : Sv (withE B e) F H o F' H' o' s) : Sv B F H o F' H' o' s := ⟨v.fs, v.hs, v.os, v.th, ok_down v.ok, v.al, v.nw, v.sal⟩
/-- a slot forgotten -/
theorem env_drop {σ : L2.St} {env : DE} (E : EnvOk K B F H σ env) (i : Nat) (x : Option V) : EnvOk K B F H (σ.set i x) (env.set i none) := by
  have g : ∀ {j : Nat} {y : Slot}, (env.set i none)[j]? = some (some y) → j ≠ i ∧ env[j]? = some (some y) := fun {j y} h => by
    rcases set_get h with ⟨_, h2, _⟩ | h
    · cases h2
    · exact h
  have gs : ∀ {j : Nat} {y : Option V}, j ≠ i → σ[j]? = some y → (σ.set i x)[j]? = some y := fun hj h => by
    rw [List.getElem?_set_ne (Ne.symm hj)]
    exact h
  have gs' : ∀ {j : Nat} {y : Option V}, j ≠ i → (σ.set i x)[j]? = some y → σ[j]? = some y := fun hj h => by
    rw [List.getElem?_set_ne (Ne.symm hj)] at h
    exact h
  refine ⟨by rw [List.length_set, List.length_set]; exact E.len, fun j d h => ?_, fun j xs h => ?_, fun j ks xs h => ?_, fun j k xs ys a h1 h2 o1 o2 h3 h4 => ?_⟩
  · obtain ⟨n, h'⟩ := g h
    obtain ⟨v, k1, k2⟩ := E.dat j d h'
    exact ⟨v, gs n k1, k2⟩
  · obtain ⟨n, h'⟩ := g h
    obtain ⟨a, vs, k1, k2⟩ := E.own j xs h'
    exact ⟨a, vs, gs n k1, k2⟩
  · obtain ⟨n, h'⟩ := g h
    obtain ⟨a, vs, k1, k2⟩ := E.ownK j ks xs h'
    exact ⟨a, vs, gs n k1, k2⟩
  · obtain ⟨n1, h1'⟩ := g h1
    obtain ⟨n2, h2'⟩ := g h2
    exact E.inj j k xs ys a h1' h2' o1 o2 (gs' n1 h3) (gs' n2 h4)
theorem own_drop {σ : L2.St} {env : DE} {i : Nat} {x : Option V} {p : Addr} (h : Own (σ.set i x) (env.set i none) p) : Own σ env p := by
  obtain ⟨j, xs, h1, ho, h2⟩ := h
  rcases set_get h1 with ⟨_, h3, _⟩ | ⟨n, h3⟩
  · cases h3
  · rw [List.getElem?_set_ne (Ne.symm n)] at h2
    exact ⟨j, xs, h3, ho, h2⟩
end
theorem lookup_mem {α β : Type} [BEq α] [LawfulBEq α] {c : α} {b : β} : ∀ {l : List (α × β)}, l.lookup c = some b → (c, b) ∈ l
  | [], h => by cases h
  | (c', b') :: l, h => by
    unfold List.lookup at h
    split at h
    · rename_i hc
      have hc' : c = c' := by simpa using hc
      cases h
      rw [hc']
      exact List.mem_cons_self ..
    · exact List.mem_cons_of_mem _ (lookup_mem h)
/-- behind the suite: the name is gone, no error is left in any name -/
def cleanX {S : Type} (i : Nat) : OutS S → Option (OutX S)
  | .nx env s => if (env.set i none).all noEO = true then some (.ok (.nx (env.set i none) s)) else none
  | .bk env s => if (env.set i none).all noEO = true then some (.ok (.bk (env.set i none) s)) else none
  | .ct env s => if (env.set i none).all noEO = true then some (.ok (.ct (env.set i none) s)) else none
  | .rt d s => if noE d = true then some (.ok (.rt d s)) else none
/-- try: m except (the classes of which isS says so) as i: su -/
def xTry {S : Type} (i : Nat) (isS : List (Str × Bool)) (m : MSX S) (su : MS S) : MSX S := fun env s => (m env s).bind fun o => match o with
  | .ok o => some (.ok o)
  | .ex c f ds env' s' => (isS.lookup c).bind fun b => if b = true then (su (env'.set i (some (.dat (.exn c f ds)))) s').bind (cleanX i) else some (.ex c f ds env' s')
section
variable {X : Cx} {S : Type} {B : Amb S} {W : WX} {m : MSX S} {su : MS S} {body suite : List Stmt} {b₀ : Stmt} {x n : Str} {np pos pos' : Pos}
theorem x_try {i : Nat} {isS : List (Str × Bool)} (hB : B.ex = none) (hs : X.stack = X.env :: X.outer) (hf : X.env.frame = some X.env.locals) (hN : X.N.Nodup) (hi : X.N[i]? = some n) (hln : X.env.kindOf n = some .local) (gC : X.mg x = some (.ref (He.ga X.K x))) (hg : Gl X x) (hdb : (x == ("__debug__" : Str)) = false) (tk : Takes X W)
    (hx : ∀ q ∈ isS, PySem.W.exmOne X.K (.ref (He.ga X.K q.1)) (.ref (He.ga X.K x)) = some q.2)
    (hb : ∀ (W : WX) (pn : List (Addr × Obj)) (xe : Value → Shared → Prop), Takes (X.tr pn xe) W → PassesOwn (model X.prog X.w) X.A X.env xe → PSs (X.tr pn xe) body (tSX X.K B W m))
    (hsu : ∀ (a : Addr) (oe : Obj) (cls : Value) (d : Option Addr) (pn : List (Addr × Obj)), Zc cls d oe → (∃ vs, oe.data = .fields vs) → PSs (X.suite a ((a, oe) :: pn)) (b₀ :: suite) (tS X.K (withE B (a, cls, d)) su)) :
    PS X (.Try body [.ExceptHandler (some (.Name x np)) (some n) (b₀ :: suite) pos'] [] [] pos) (tSX X.K B W (xTry i isS m su)) :=
  ps_w (ps_try_as (c := .ref (He.ga X.K x)) (ts := fun a cls d => tS X.K (withE B (a, cls, d)) su) (tb := fun W => tSX X.K B W m) hs hf hN hi hln ⟨hg, hdb, .inl gC⟩ tk hb hsu) fun Dn σ H ⟨env, F, s, out, E, o, hm, hq⟩ => by
    unfold xTry at hm
    cases e1 : m env s with
    | none => simp [e1] at hm
    | some o1 =>
      simp only [e1, Option.bind_some] at hm
      refine ⟨env, F, s, o1, E, o, e1, ?_⟩
      cases o1 with
      | ok o1 =>
        cases hm
        exact hq
      | ex c f ds env' s' =>
        dsimp only at hm
        cases e2 : isS.lookup c with
        | none => simp [e2] at hm
        | some b =>
          simp only [e2, Option.bind_some] at hm
          have hmem : (c, b) ∈ isS := lookup_mem e2
          intro σ' F' H' dd E' v' hd
          refine ⟨b, hx _ hmem, fun hb' a ha => ?_, fun hb' => ?_⟩
          · subst hb'
            rw [if_pos rfl] at hm
            cases e3 : su (env'.set i (some (.dat (.exn c f ds)))) s' with
            | none => simp [e3] at hm
            | some o3 =>
              simp only [e3, Option.bind_some] at hm
              have hdv : Dv X.K (withE B (a, .ref (He.ga X.K c), dd)) F' (.exn c f ds) (.ref a) := by
                obtain ⟨ws, h1, h2⟩ := hd
                exact ⟨a, dd, ws, rfl, rfl, h1, dvl_up hB h2⟩
              have Eu := env_up (e := (a, .ref (He.ga X.K c), dd)) hB E'
              obtain ⟨Ep, op⟩ := Eu.put (i := i) hdv
              refine ⟨_, F', s', o3, Ep, ok_up v'.ok, e3, ?_⟩
              have back : ∀ {σ2 : L2.St} {env2 : DE} {F2 : Fz} {H2 : Hp} {s2 : S} {x2 : Option V}, Sv (withE B (a, .ref (He.ga X.K c), dd)) F' H' (Own (σ'.set i (some (.ref a))) (env'.set i (some (.dat (.exn c f ds))))) F2 H2 (Own σ2 env2) s2 → Sv B F H (Own σ env) F2 H2 (Own (σ2.set i x2) (env2.set i none)) s2 := fun v2 => by
                have v3 := sv_down v2
                have v4 : Sv B F' H' (Own σ' env') _ _ _ _ := ⟨fun p hp hn => v3.fs p hp (fun z => hn (op p z)), fun p u hp hb hn => v3.hs p u hp hb (fun z => hn (op p z)), fun p hp => (v3.os p hp).imp (op p) id, fun p hp => ?_, v3.ok, v3.al, fun p hp => v3.nw p hp, v3.sal⟩
                · exact v'.trans (v4.less fun p hp => own_drop hp)
                · have hh : H' p ≠ none := by
                    obtain ⟨_, _, _, h4⟩ := Own.at E' hp
                    rw [h4]
                    exact fun z => nomatch z
                  exact v3.dom hh
              cases o3 with
              | nx env2 s2 =>
                change (if (env2.set i none).all noEO = true then some (OutX.ok (.nx (env2.set i none) s2)) else none) = some out at hm
                split at hm
                · rename_i hn
                  cases hm
                  exact fun σ2 F2 H2 E2 v2 => hq (σ2.set i none) F2 H2 (env_down hn (env_drop E2 i none)) (back v2)
                · cases hm
              | bk env2 s2 =>
                change (if (env2.set i none).all noEO = true then some (OutX.ok (.bk (env2.set i none) s2)) else none) = some out at hm
                split at hm
                · rename_i hn
                  cases hm
                  exact fun σ2 F2 H2 E2 v2 => hq (σ2.set i none) F2 H2 (env_down hn (env_drop E2 i none)) (back v2)
                · cases hm
              | ct env2 s2 =>
                change (if (env2.set i none).all noEO = true then some (OutX.ok (.ct (env2.set i none) s2)) else none) = some out at hm
                split at hm
                · rename_i hn
                  cases hm
                  exact fun σ2 F2 H2 E2 v2 => hq (σ2.set i none) F2 H2 (env_down hn (env_drop E2 i none)) (back v2)
                · cases hm
              | rt d2 s2 =>
                change (if noE d2 = true then some (OutX.ok (.rt d2 s2)) else none) = some out at hm
                split at hm
                · rename_i hn
                  cases hm
                  intro v F2 H2 own' w hdv2
                  have w3 := sv_down w
                  have w4 : Sv B F' H' (Own σ' env') F2 H2 own' s2 := ⟨fun p hp hn => w3.fs p hp (fun z => hn (op p z)), fun p u hp hb hn => w3.hs p u hp hb (fun z => hn (op p z)), fun p hp => (w3.os p hp).imp (op p) id, fun p hp => by
                    have hh : H' p ≠ none := by
                      obtain ⟨_, _, _, h4⟩ := Own.at E' hp
                      rw [h4]
                      exact fun z => nomatch z
                    exact w3.dom hh, w3.ok, w3.al, fun p hp => w3.nw p hp, w3.sal⟩
                  exact hq v F2 H2 own' (v'.trans w4) (dv_down hn hdv2)
                · cases hm
          · subst hb'
            rw [if_neg Bool.false_ne_true] at hm
            cases hm
            exact hq σ' F' H' dd E' v' hd
end
/-! ### in a suite: the error's field, isinstance of it -/
def mXfld {S : Type} (errs : List (Str × Str)) (i : Nat) (f : Str) : ME S := fun env s => match env[i]? with
  | some (some (.dat (.exn c g [d]))) => if (c, f) ∈ errs ∧ g = f then some (d, s) else none
  | _ => none
def mXis {S : Type} (tbl : List (Str × Bool)) (i : Nat) : ME S := fun env s => match env[i]? with
  | some (some (.dat (.exn c _ _))) => (tbl.lookup c).map fun b => (.bl b, s)
  | _ => none
section
variable {X : Cx} {S : Type} {B : Amb S} {a : Addr} {oe : Obj} {cls : Value} {d : Option Addr} {pn : List (Addr × Obj)} {p1 p2 pos : Pos} {nm : Str}
theorem d_xfld {errs : List (Str × Str)} {i : Nat} {f : Str} (hT : ∀ q ∈ errs, XfC X.K (He.ga X.K q.1) ∧ PySem.W.findIn X.K (.ref (He.ga X.K q.1)) q.2 = some none) (hz : Zc cls d oe) (hf : ∃ vs, oe.data = .fields vs) (ho : PE (X.suite a ((a, oe) :: pn)) (.Name nm p1) (tVar i))
    (hb : attributeBase (.Name nm p1) f X.env (eval (.Name nm p1) X.env) = eval (.Name nm p1) X.env := by rfl) :
    PE (X.suite a ((a, oe) :: pn)) (.Attribute (.Name nm p1) f pos) (tD X.K (withE B (a, cls, d)) (mXfld errs i f)) := by
  refine ⟨fun pins s σ H Q I h => ?_⟩
  obtain ⟨env, F, st, d0, st', E, o, hm, hq⟩ := h
  unfold mXfld at hm
  split at hm
  · rename_i c g d1 he
    split at hm
    · rename_i hc
      obtain ⟨hc1, hc2⟩ := hc
      subst hc2
      cases hm
      obtain ⟨v, hσ, a', d', ws, k1, k2, k3, k4⟩ := E.dat i _ he
      have k1' : some (a, cls, d) = some (a', Value.ref (He.ga X.K c), d') := k1
      cases k1'
      obtain ⟨T1, T2⟩ := hT _ hc1
      obtain ⟨w, r, rfl, hw, hr⟩ := k4
      cases (show r = [] from hr)
      rcases k3 with ⟨_, z⟩ | ⟨dd, w', e1, e2, e3⟩
      · cases z
      · cases e3
        refine (pe_xf T1 T2 hz hf ho hb).run pins s σ H Q I ?_
        exact ⟨v, hσ, k2, rfl, dd, _, w, e1, o.sub _ _ e2, by simp [List.lookup], hq w F H o.refl hw⟩
    · cases hm
  · cases hm
theorem d_xis {tbl : List (Str × Bool)} {i : Nat} {e2 : Expr} {cv : Value} {cV : V} (hz : Zc cls d oe) (hf : ∃ vs, oe.data = .fields vs) (hc2 : ∀ u, RelV cV u → u = cv) (hT : ∀ q ∈ tbl, ExcC X.K (He.ga X.K q.1) ∧ PySem.W.kitOne X.K (.ref (He.ga X.K q.1)) cv = some q.2)
    (ho : PE (X.suite a ((a, oe) :: pn)) (.Name nm p1) (tVar i)) (h2 : PE (X.suite a ((a, oe) :: pn)) e2 (tC cV)) (hm : X.mg "isinstance" = none) (hg : Gl (X.suite a ((a, oe) :: pn)) "isinstance" := by rfl)
    (hs1 : starEach [e2] X.env = (false, eval e2 X.env) :: starEach [] X.env := by rfl) (hs2 : starEach (.Name nm p1 :: [e2]) X.env = (false, eval (.Name nm p1) X.env) :: starEach [e2] X.env := by rfl) (hpl : (backTo pos (starEach [e2] X.env)).any (·.1) = false := by rfl) :
    PE (X.suite a ((a, oe) :: pn)) (.Call (.Name "isinstance" p2) [.Name nm p1, e2] [] pos) (tD X.K (withE B (a, cls, d)) (mXis tbl i)) := by
  refine ⟨fun pins s σ H Q I h => ?_⟩
  obtain ⟨env, F, st, d0, st', E, o, hmm, hq⟩ := h
  unfold mXis at hmm
  split at hmm
  · rename_i c g ds he
    cases e5 : tbl.lookup c with
    | none => rw [e5] at hmm; cases hmm
    | some b =>
      rw [e5] at hmm
      cases hmm
      obtain ⟨v, hσ, a', d', ws, k1, k2, k3, k4⟩ := E.dat i _ he
      have k1' : some (a, cls, d) = some (a', Value.ref (He.ga X.K c), d') := k1
      cases k1'
      obtain ⟨T1, T2⟩ := hT _ (lookup_mem e5)
      subst k2
      refine (pe_callB (call_isD T1 hz hf) hg hm (by decide +kernel) (pa_cons ho (pa_cons h2 pa_nil hs1) hs2) (by decide) (by decide) hs2 hpl).run pins s σ H Q I ?_
      refine ⟨_, hσ, cV, cv, b, rfl, hc2, T2, fun dd e => ?_, hq _ F H o.refl rfl⟩
      rcases k3 with ⟨z, _⟩ | ⟨dd', w', e1, e2', e3⟩
      · rw [z] at e; cases e
      · rw [e1] at e
        cases e
        exact ⟨_, o.sub _ _ e2'⟩
  · cases hmm
end
end Dl

set_option Elab.async false
set_option linter.all false
set_option maxRecDepth 100000
set_option maxHeartbeats 4000000
/-! D22: the facts of own errors; what catches all; raising defs called where nothing is raised. -/
namespace Dl
open PySem
open L2
/-! ### a body that lets nothing out -/
def toS {S : Type} (m : MSX S) : MS S := fun env s => (m env s).bind fun o => match o with
  | .ok o => some o
  | .ex _ _ _ _ _ => none
section
variable {X : Cx} {S : Type} {B : Amb S} {sts : List Stmt} {st : Stmt} {m : MSX S} {e : Expr} {es : List Expr} {pos p : Pos} {ml : ML S} {k : Nat} {ps : List Str} {x : Str} {g : List D → S → Option (RX S)}
abbrev W0 : WX := fun _ _ _ _ => False
theorem s_toS (h : PS X st (tSX X.K B W0 m)) : PS X st (tS X.K B (toS m)) := ps_w h fun Dn σ H ⟨env, F, s, out, E, o, hm, hq⟩ => by
  unfold toS at hm
  cases e1 : m env s with
  | none => simp [e1] at hm
  | some o1 =>
    simp only [e1, Option.bind_some] at hm
    cases o1 with
    | ok o1 =>
      cases hm
      exact ⟨env, F, s, _, E, o, e1, hq⟩
    | ex c f ds env' s' => cases hm
end
/-! ### facts -/
structure ErrD where
  x : Str
  f : Str
  qual : Str
  params : Arguments
  body : List Stmt
  scope : Scope
structure ErrSide (d : ErrD) : Prop where
  ok : PySem.Er.FOk d.f
  a : ∃ p1 p2, d.params = PySem.Er.iA d.f p1 p2
  b : ∃ q0 q1 q2 q3 q4 q5 q6 q7 q8 q9, d.body = PySem.Er.iB d.f q0 q1 q2 q3 q4 q5 q6 q7 q8 q9 ∧ (q2.endLine == q4.line) = true
  s : d.scope = PySem.Er.iS d.f
abbrev FnE : Type := Option (Str × Str × Arguments × FuncBody × Scope × Addr × List Str × Value × Value × Addr)
def fnE (K : PySem.W.Frag) (x : Str) : FnE := match K.lookup (He.ma K (He.ga K x) "__init__") with
  | some ⟨_, _, .func fd, _⟩ => some (fd.name, fd.qualname, fd.params, fd.body, fd.scope, fd.globals, fd.closure.map (·.1), fd.defaults, fd.kwdefaults, fd.builtins)
  | _ => none
def ErrD.val (d : ErrD) : FnE := some (("__init__" : Str), d.qual, d.params, .stmts d.body, d.scope, mainGlobals, [("__class__" : Str)], .none, .none, builtinsNs)
def errC (K : PySem.W.Frag) (C : Addr) : Bool := match K.lookup C with
  | some ⟨.type "type", _, .cls cd, sl⟩ => (match cd.mro, sl.toList with
    | .ref C' :: bm, [_, _, _, _, some (.builtin n), _] => C' == C && n == "ValueError.__new__" && !cd.hasDel && cd.hasDict && PySem.HandSPX.refsVE bm
    | _, _ => false)
  | _ => false
theorem errC_ok {K : PySem.W.Frag} {C : Addr} (q : errC K C = true) : ∃ nm qn N bs bm sn sub ab col dd k0 k1 k2 k3 k5, K.lookup C = some (excClassObj nm qn C N bs bm true sn sub ab col dd k0 k1 k2 k3 k5 "ValueError.__new__") ∧ PySem.HandSPX.refsVE bm = true := by
  unfold errC at q
  split at q
  · rename_i dd cd sl ho
    split at q
    · rename_i C' bm k0 k1 k2 k3 n k5 hm hs
      simp only [Bool.and_eq_true, beq_iff_eq, Bool.not_eq_true'] at q
      obtain ⟨⟨⟨⟨rfl, rfl⟩, hdel⟩, hd⟩, ht⟩ := q
      obtain ⟨nm, bs, mro, ns, qn, hd', sn, sub, ab, col, del⟩ := cd
      dsimp only at hm hdel hd
      subst hm hdel hd
      have hsl : sl = #[k0, k1, k2, k3, some (.builtin "ValueError.__new__"), k5] := by
        obtain ⟨l⟩ := sl
        simp only at hs
        subst hs
        rfl
      subst hsl
      exact ⟨_, _, _, _, _, _, _, _, _, _, _, _, _, _, _, ho, ht⟩
    · cases q
  · cases q
def errCell (K : PySem.W.Frag) (C cc : Addr) : Bool := match K.lookup cc with
  | some ⟨_, _, .cell (some (.ref D)), _⟩ => D == C
  | _ => false
def errCode (K : PySem.W.Frag) (file : Str) (cda : Addr) : Bool := match K.lookup cda with
  | some ⟨_, _, .fields vs, _⟩ => (match (vs[2]? : Option Value) with
    | some (.str z _) => decide (z = file)
    | _ => false)
  | _ => false
def errClo (K : PySem.W.Frag) (C : Addr) (file : Str) : List (Str × Addr) → Value → Bool
  | [(_, cc)], .ref cda => errCell K C cc && errCode K file cda
  | _, _ => false
def errF (K : PySem.W.Frag) (C fI : Addr) (file : Str) : Bool := match K.lookup fI with
  | some ⟨_, _, .func fd, _⟩ => PySem.W.codeIn K fd.code fd.qualname && errClo K C file fd.closure fd.code
  | _ => false
theorem errCell_ok {K : PySem.W.Frag} {C cc : Addr} (h : errCell K C cc = true) : ∃ cl cld csl, K.lookup cc = some ⟨cl, cld, .cell (some (.ref C)), csl⟩ := by
  unfold errCell at h
  split at h
  · rename_i cl cld D csl hcc
    have e : D = C := by simpa using h
    subst e
    exact ⟨_, _, _, hcc⟩
  · cases h
theorem errCode_ok {K : PySem.W.Frag} {file : Str} {cda : Addr} (h : errCode K file cda = true) : ∃ ccl cdd vs ccs tf, K.lookup cda = some ⟨ccl, cdd, .fields vs, ccs⟩ ∧ vs[2]? = some (.str file tf) := by
  unfold errCode at h
  split at h
  · rename_i ccl cdd vs ccs hcda
    split at h
    · rename_i z tf hvs
      have ez : z = file := of_decide_eq_true h
      subst ez
      exact ⟨_, _, _, _, _, hcda, hvs⟩
    · cases h
  · cases h
theorem errClo_ok {K : PySem.W.Frag} {C : Addr} {file : Str} {cl : List (Str × Addr)} {v : Value} (h : errClo K C file cl v = true) : ∃ nm cc cda, cl = [(nm, cc)] ∧ v = .ref cda ∧ errCell K C cc = true ∧ errCode K file cda = true := by
  unfold errClo at h
  split at h
  · rename_i nm cc cda
    obtain ⟨h1, h2⟩ := He.ba h
    exact ⟨nm, cc, cda, rfl, rfl, h1, h2⟩
  · cases h
def excCB (K : PySem.W.Frag) (D : Addr) : Bool := decide (PySem.W.findIn K (.ref D) "__getattribute__" = some (some (.builtin "BaseException.__getattribute__"))) && (decide (PySem.W.findIn K (.ref D) "__getattr__" = some none) && (decide (PySem.W.subIn K (.ref D) (.type "BaseException") = some true) && (PySem.W.hasDictIn K D &&
  (decide (PySem.W.findIn K (.ref D) "__class__" = some (some (.builtin "object.__class__"))) && (decide (PySem.W.specialIn K (.builtin "object.__class__") "__get__" = some (some (.builtin "getset_descriptor.__get__"))) && (decide (PySem.W.takesIn K (.builtin "object.__class__") = some true) && decide (PySem.W.mroIn K D (.type "object") = some true)))))))
theorem excCB_ok {K : PySem.W.Frag} {D : Addr} (h : excCB K D = true) : ExcC K D := by
  unfold excCB at h
  simp only [Bool.and_eq_true, decide_eq_true_eq] at h
  obtain ⟨h1, h2, h3, h4, h5, h6, h7, h8⟩ := h
  exact ⟨h1, h2, h3, h4, h5, h6, h7, h8⟩
def errB (K : PySem.W.Frag) (file x f : Str) : Bool := errC K (He.ga K x) && (decide (PySem.W.findIn K (.ref (He.ga K x)) "__setattr__" = some (some (.builtin "object.__setattr__"))) && (decide (PySem.W.findIn K (.ref (He.ga K x)) f = some none) &&
  (decide (PySem.W.ks_superIn K (He.ga K x) (He.ga K x) "__init__" = some (some (.builtin "ValueError.__init__"))) && (decide (PySem.W.subIn K (.ref (He.ga K x)) (.type "ValueError") = some true) && (decide (PySem.W.nsIn K PySem.cStatics "thirdparty.any" = some none) && (decide (PySem.W.nsIn K mainGlobals "super" = some none) &&
  (PySem.W.keepIn K (.ref (He.ga K x)) && (decide (PySem.W.subIn K (.ref (He.ga K x)) (.type "BaseException") = some true) && (decide (PySem.W.typeIn K (.ref (He.ga K x)) = some (.type "type")) && (decide (PySem.W.findIn K (.ref (He.ga K x)) "__init__" = some (some (.ref (He.ma K (He.ga K x) "__init__")))) &&
  (decide (PySem.W.typeIn K (.ref (He.ma K (He.ga K x) "__init__")) = some (.type "function")) && (errF K (He.ga K x) (He.ma K (He.ga K x) "__init__") file && (xfB K (He.ga K x) && excCB K (He.ga K x))))))))))))))
theorem err_ok {K : PySem.W.Frag} {file : Str} {d : ErrD} (sd : ErrSide d) (e : fnE K d.x = d.val) (h : errB K file d.x d.f = true) : PySem.Er.ErrTxt K file d.f (He.ga K d.x) ∧ XfC K (He.ga K d.x) ∧ ExcC K (He.ga K d.x) := by
  unfold errB at h
  simp only [Bool.and_eq_true, decide_eq_true_eq] at h
  obtain ⟨h1, h2, h3, h4, h5, h6, h7, h8, h9, h10, h11, h12, h13, h14, h15⟩ := h
  refine ⟨⟨sd.ok, errC_ok h1, h2, h3, h4, h5, h6, h7, h8, h9, h10, ?_⟩, xfB_ok h14, excCB_ok h15⟩
  obtain ⟨p1, p2, ea⟩ := sd.a
  obtain ⟨q0, q1, q2, q3, q4, q5, q6, q7, q8, q9, eb, eps⟩ := sd.b
  generalize hf : He.ma K (He.ga K d.x) "__init__" = fI at h11 h12 h13
  unfold fnE at e
  rw [hf] at e
  unfold errF at h13
  cases q : K.lookup fI with
  | none =>
    rw [q] at h13
    cases h13
  | some o =>
    obtain ⟨oc, od, dt, osl⟩ := o
    rw [q] at h13 e
    cases dt with
    | func fd =>
      obtain ⟨n1, n2, n3, n4, n5, n6, n7, n8, n9, n10, n11, n12, n13, n14, n15⟩ := fd
      have e2 : (some (n1, n2, n3, n4, n5, n6, n7.map (·.1), n8, n9, n15) : FnE) = some (("__init__" : Str), d.qual, d.params, .stmts d.body, d.scope, mainGlobals, [("__class__" : Str)], .none, .none, builtinsNs) := e
      simp only [Option.some.injEq, Prod.mk.injEq] at e2
      obtain ⟨g1, g2, g3, g4, g5, g6, g7, g8, g9, g10⟩ := e2
      obtain ⟨k1, k2⟩ := He.ba (show (PySem.W.codeIn K n13 n2 && errClo K (He.ga K d.x) file n7 n13) = true from h13)
      obtain ⟨nm, cc, cda, rfl, rfl, k3, k4⟩ := errClo_ok k2
      obtain ⟨cl, cld, csl, hcc⟩ := errCell_ok k3
      obtain ⟨ccl, cdd, vs, ccs, tf, hcda, hvs⟩ := errCode_ok k4
      have en : nm = ("__class__" : Str) := by
        have := g7
        simpa using this
      subst en
      subst g1 g2 g3 g4 g5 g6 g8 g9 g10
      rw [ea, eb, sd.s] at q
      exact ⟨fI, cc, cda, oc, ccl, cl, od, cdd, cld, vs, tf, osl, ccs, csl, d.qual, n10, n11, n14, n12, p1, p2, q0, q1, q2, q3, q4, q5, q6, q7, q8, q9, h11, h12, q, k1, hcda, hvs, eps, hcc⟩
    | _ => cases h13
end Dl
namespace Dl
open PySem
open L2
/-! ### a text's facts, with its own errors -/
/-- what isinstance asks of an own class -/
def clB (K : PySem.W.Frag) (C : Addr) : Bool := decide (PySem.W.findIn K (.ref C) "__class__" = some (some (.builtin "object.__class__"))) && (decide (PySem.W.specialIn K (.builtin "object.__class__") "__get__" = some (some (.builtin "getset_descriptor.__get__"))) && (decide (PySem.W.takesIn K (.builtin "object.__class__") = some true) && decide (PySem.W.mroIn K C (.type "object") = some true)))
/-- != of an own class without an own one -/
def neB (K : PySem.W.Frag) (q : Str × String × Bool) : Bool := !decide (q.2.1 = "str") || decide (PySem.W.findIn K (.ref (He.ga K q.1)) "__ne__" = some (some (.builtin "object.__ne__")))
/-- an own class of errors without own __init__ -/
def er0B (K : PySem.W.Frag) (C : Addr) : Bool := PySem.W.excIn K C [.type "ValueError", .type "Exception", .type "BaseException", .type "object"] "ValueError.__new__" && (PySem.W.keepIn K (.ref C) && (decide (PySem.W.subIn K (.ref C) (.type "BaseException") = some true) && (decide (PySem.W.typeIn K (.ref C) = some (.type "type")) && excCB K C)))
structure Er0 (K : PySem.W.Frag) (C : Addr) : Prop where
  ex : PySem.W.excIn K C [.type "ValueError", .type "Exception", .type "BaseException", .type "object"] "ValueError.__new__" = true
  kp : PySem.W.keepIn K (.ref C) = true
  sub : PySem.W.subIn K (.ref C) (.type "BaseException") = some true
  ty : PySem.W.typeIn K (.ref C) = some (.type "type")
  is : ExcC K C
theorem er0B_ok {K : PySem.W.Frag} {C : Addr} (h : er0B K C = true) : Er0 K C := by
  unfold er0B at h
  simp only [Bool.and_eq_true, decide_eq_true_eq] at h
  obtain ⟨h1, h2, h3, h4, h5⟩ := h
  exact ⟨h1, h2, h3, h4, excCB_ok h5⟩
def noErr (errs : List ErrD) (x : Str) : Bool := errs.all fun d => !decide (d.x = x)
structure TxE (fn : List He.DefD) (gs fr : List Str) (is : List (Str × Int)) (ss : List (Str × Str)) (ts : List (Str × D)) (file : Str) (errs : List ErrD) (exms kits : List (Str × Str × Bool)) (kitb : List (Str × String × Bool)) (K : PySem.W.Frag) (mg : Str → Option Value) : Prop where
  tx : Tx fn gs fr is ss ts K mg
  err : ∀ d ∈ errs, PySem.Er.ErrTxt K file d.f (He.ga K d.x) ∧ XfC K (He.ga K d.x) ∧ ExcC K (He.ga K d.x)
  exm : ∀ q ∈ exms, PySem.W.exmOne K (.ref (He.ga K q.1)) (.ref (He.ga K q.2.1)) = some q.2.2
  kit : ∀ q ∈ kits, PySem.W.kitOne K (.ref (He.ga K q.1)) (.ref (He.ga K q.2.1)) = some q.2.2
  kib : ∀ q ∈ kitb, PySem.W.kitOne K (.ref (He.ga K q.1)) (.type q.2.1) = some q.2.2
  kcl : ∀ q ∈ kitb, clB K (He.ga K q.1) = true
  kne : ∀ q ∈ kitb, neB K q = true
  er0 : ∀ q ∈ exms, noErr errs q.1 = true → Er0 K (He.ga K q.1)
def exB (K : PySem.W.Frag) (file : Str) (errs : List ErrD) (exms kits : List (Str × Str × Bool)) (kitb : List (Str × String × Bool)) : Bool := (errs.all fun d => errB K file d.x d.f) && ((exms.all fun q => decide (PySem.W.exmOne K (.ref (He.ga K q.1)) (.ref (He.ga K q.2.1)) = some q.2.2)) &&
  ((kits.all fun q => decide (PySem.W.kitOne K (.ref (He.ga K q.1)) (.ref (He.ga K q.2.1)) = some q.2.2)) && ((kitb.all fun q => decide (PySem.W.kitOne K (.ref (He.ga K q.1)) (.type q.2.1) = some q.2.2)) && ((kitb.all fun q => clB K (He.ga K q.1)) && ((kitb.all fun q => neB K q) && exms.all fun q => !noErr errs q.1 || er0B K (He.ga K q.1))))))
abbrev AlZ : Type := (He.AlD × Bool) × Bool × List FnE
def SaysZ (fa : List He.Fa) (fn : List He.DefD) (ts : List (Str × D)) (file : Str) (errs : List ErrD) (exms kits : List (Str × Str × Bool)) (kitb : List (Str × String × Bool)) (K : PySem.W.Frag) : Prop := SaysY fa fn ts K ∧ exB K file errs exms kits kitb = true ∧ (errs.map fun d => fnE K d.x) = errs.map ErrD.val
theorem map_eq_mem {α β : Type} {f g : α → β} : ∀ {l : List α}, l.map f = l.map g → ∀ x ∈ l, f x = g x
  | [], _, _, h => by cases h
  | a :: l, e, x, h => by
    rw [List.map_cons, List.map_cons, List.cons.injEq] at e
    rcases List.mem_cons.mp h with z | z
    · rw [z]; exact e.1
    · exact map_eq_mem e.2 x z
theorem txE_of {fn : List He.DefD} {gs fr : List Str} {is : List (Str × Int)} {ss : List (Str × Str)} {ts : List (Str × D)} {file : Str} {errs : List ErrD} {exms kits : List (Str × Str × Bool)} {kitb : List (Str × String × Bool)} {K : PySem.W.Frag} {h : Heap} {mg : Str → Option Value} (X : K.In h) (G : h.Ns mainGlobals mg)
    (c : SaysZ (faOf gs fr is ss ts) fn ts file errs exms kits kitb K) (sd : ∀ d ∈ errs, ErrSide d) : TxE fn gs fr is ss ts file errs exms kits kitb K mg := by
  obtain ⟨c1, c2, c3⟩ := c
  unfold exB at c2
  simp only [Bool.and_eq_true, List.all_eq_true, decide_eq_true_eq] at c2
  obtain ⟨h1, h2, h3, h4, h5, h6, h7⟩ := c2
  exact ⟨tx_of X G c1, fun d hd => err_ok (sd d hd) (map_eq_mem c3 d hd) (h1 d hd), h2, h3, h4, h5, h6, fun q hq hn => er0B_ok (by have z := h7 q hq; rw [hn] at z; simpa using z)⟩
end Dl

set_option Elab.async false
set_option linter.all false
set_option maxRecDepth 100000
set_option maxHeartbeats 4000000
/-! D23: further words. -/
namespace Dl
open PySem
open L2
/-- the statements of a class -/
def clsBody : Stmt → List Stmt
  | .ClassDef (body := b) .. => b
  | _ => []
section
variable {X : Cx} {S : Type} {B : Amb S} {W : WX} {sts : List Stmt} {m : MSX S} {o e : Expr} {ma me : ME S} {apos pos : Pos}
end
end Dl

set_option Elab.async false
set_option linter.all false
set_option maxRecDepth 100000
set_option maxHeartbeats 4000000
/-! D24: the hand that is a dict. -/
namespace Dl
open PySem
open L2
def handK (c : Addr) (h : Hand) : List (Key × V) := [(.inr "cells", .ref c), (.inr "at", .int h.pos), (.inr "great", .int h.great), (.inr "seed", .int h.seed), (.inr "turn", .int h.turn)]
def HandK (p c : Addr) : Amb Hand where
  at' := fun h _ H => p ≠ c ∧ H p = some (.dK (handK c h)) ∧ H c = some (.lst (h.cells.map V.int))
  own := fun q => q = p ∨ q = c
  hA := p
  lk := True
  there := fun s _ H q h ho => by
    rcases ho with e | e
    · subst e; rw [h.2.1]; exact fun z => nomatch z
    · subst e; rw [h.2.2]; exact fun z => nomatch z
  stay := fun s _ _ H H' h _ _ k => ⟨h.1, k p _ (.inl (.inl rfl)) h.2.1, k c _ (.inl (.inr rfl)) h.2.2⟩
section
variable {p c : Addr} {F : Fz} {H : Hp} {h h' : Hand} {k z : Int} {x : Str}
end
section
variable {X : Cx} {p c : Addr} {a b e : Expr} {pos p1 p2 pos2 : Pos} {i : Nat} {mb : ME Hand} {j : Option Str}
end
end Dl

set_option Elab.async false
set_option linter.all false
set_option maxRecDepth 100000
set_option maxHeartbeats 4000000
/-! D25: the law's entry, the hand a dict. -/
namespace Dl
open PySem
open L2
section
variable {P : Program} {w : World} {K : PySem.W.Frag} {mg : Str → Option Value} {base : Heap}
end
end Dl

set_option Elab.async false
set_option linter.all false
set_option maxRecDepth 100000
set_option maxHeartbeats 1000000
/-! S4: sorted(set(xs)) of texts. -/
namespace Dl
open PySem PySem.Spec PyProof.Rows L2 Sx
/-! ### the texts' order -/
theorem lc_irr : ∀ a : List Nat, ltCps a a = false
  | [] => rfl
  | x :: a => by
    unfold ltCps
    rw [lc_irr a]
    simp
def ltS (x y : Str) : Bool := ltCps x.cps.toList y.cps.toList
theorem ltS_irr (x : Str) : ltS x x = false := lc_irr _
def UpS (l : List Str) : Prop := l.Pairwise fun a b => ltS a b = true
/-! ### the calls -/
section
variable {X : Cx}
end
section
variable {X : Cx} {S : Type} {B : Amb S} {a : Expr} {ml : ML S} {pos pos2 p1 p2 : Pos}
end
end Dl

set_option Elab.async false
set_option linter.all false
set_option maxRecDepth 100000
set_option maxHeartbeats 2000000
/-! S5: enumerate(text, 1). -/
namespace Sx
open PySem PySem.Spec PyProof.Rows L2
end Sx

set_option Elab.async false
set_option linter.all false
set_option maxRecDepth 100000
set_option maxHeartbeats 1000000
/-! S6: the walk over enumerate(text, 1). -/
namespace Sx
open PySem PySem.Spec PyProof.Rows L2
section
variable {prog : Program} {w : World} {A : Around} {E : Value → Shared → Prop} {s : Shared}
end
end Sx

set_option Elab.async false
set_option linter.all false
set_option maxRecDepth 100000
set_option maxHeartbeats 1000000
/-! S7: enumerate over data; sum, ord. -/
namespace Dl
open PySem PySem.Spec PyProof.Rows L2 Sx
/-- items with their places from k -/
def enumD : Int → List D → List D
  | _, [] => []
  | k, d :: ds => .tup [.int k, d] :: enumD (k + 1) ds
theorem enumD_len : ∀ (ds : List D) (k : Int), (enumD k ds).length = ds.length
  | [], _ => rfl
  | d :: ds, k => by
    show (enumD (k + 1) ds).length + 1 = ds.length + 1
    rw [enumD_len ds]
theorem enumD_get : ∀ (ds : List D) (k : Int) (i : Nat), (enumD k ds)[i]? = ds[i]?.map fun d => .tup [.int (k + i), d]
  | [], _, _ => rfl
  | d :: ds, k, 0 => by
    show some (D.tup [.int k, d]) = some (D.tup [.int (k + (0 : Nat)), d])
    rw [show k + ((0 : Nat) : Int) = k by omega]
  | d :: ds, k, i + 1 => by
    show (enumD (k + 1) ds)[i]? = ds[i]?.map _
    rw [enumD_get ds (k + 1) i, show k + 1 + (i : Int) = k + ((i + 1 : Nat) : Int) by omega]
def enumLItems : List D → Option (List D)
  | [.lst ds] => some (enumD 0 ds)
  | _ => none
def mIt2 {S : Type} (f : List D → Option (List D)) (l : ML S) : ML S := fun env s => (l env s).bind fun p => (f p.1).map fun xs => (xs, p.2)
section
variable {X : Cx} {S : Type} {B : Amb S} {F F1 : Fz} {H : Hp} {s : S}
theorem pair_new (o : Ok B F H s) {T : Addr} (hT : H T = none) {k : Int} {d : D} {v : V} (hd : Dv X.K B F d v) : ∃ F', Ev B F H F' (upd H T (.tup [.int k, v])) s ∧ Dv X.K B F' (.tup [.int k, d]) (.ref T) := by
  have e := Ev.new o (.tup [.int k, v]) hT
  exact ⟨_, e, T, _, rfl, .inl (.inl upd_same), _, _, rfl, rfl, DvL.one (hd.ext (e.sameF o))⟩
theorem jd_enumL {a : Addr} {ds : List D} {vs : List V} (h : F1 a = some (.lst vs)) (hv : DvL X.K B F1 ds vs) : JD X.K B (Ite X.K a) (enumD 0 ds) F1 where
  go := fun i F H s sf o hi => by
    rw [enumD_len] at hi
    have hi' : i < vs.length := by rw [hv.len]; exact hi
    exact ⟨vs, vs[i], SqL.of (o.sub _ _ (sf _ _ h)), by simp [hi']⟩
  yld := fun i F H s v H' d sf o ⟨T, y, e1, e2, e3, e4⟩ hd => by
    subst e1 e3
    have q := e4 vs (SqL.of (o.sub _ _ (sf _ _ h)))
    obtain ⟨d', hd', hy⟩ := hv.getV q
    rw [enumD_get, hd'] at hd
    cases hd
    rw [show (0 : Int) + (i : Int) = (i : Int) by omega]
    exact pair_new (X := X) o e2 (hy.ext sf)
  stop := fun i F H s sf o hi => by
    rw [enumD_len] at hi
    exact ⟨vs, SqL.of (o.sub _ _ (sf _ _ h)), by rw [hv.len]; exact hi⟩
end
section
variable {X : Cx} {S : Type} {B : Amb S} {e e2 : Expr} {ml : ML S} {p pos tpos : Pos} {elts : List Expr} {kk : Nat}
theorem it2_un {f : List D → Option (List D)} {env : DE} {s s' : S} {xs : List D} (h : mIt2 f ml env s = some (xs, s')) : ∃ x, ml env s = some (x, s') ∧ f x = some xs := by
  unfold mIt2 at h
  cases e1 : ml env s with
  | none => simp [e1] at h
  | some p =>
    cases e3 : f p.1 with
    | none => simp [e1, e3] at h
    | some z =>
      simp [e1, e3] at h
      obtain ⟨h1, h2⟩ := h
      exact ⟨p.1, by rw [← h2], by rw [e3, h1]⟩
theorem i_enumL (hm : X.mg "enumerate" = none) (ha : PA X [e] (tL X.K B ml)) (hg : Gl X "enumerate" := by rfl) (hs : starEach [e] X.env = [(false, eval e X.env)] := by rfl) :
    PI X (.Tuple elts kk tpos) (.Call (.Name "enumerate" p) [e] [] pos) (tI X.K B (mIt2 enumLItems ml)) := pi_w (pi_bd (pi_enum hg hm ha hs)) fun σ H R ⟨env, F, s, xs, s', E, o, hm, hq⟩ => by
  obtain ⟨ds, e1, e2⟩ := it2_un hm
  unfold enumLItems at e2
  split at e2
  · rename_i ys
    cases e2
    refine ⟨env, F, s, _, s', E, o, e1, fun vs F1 H1 v1 hv => ?_⟩
    obtain ⟨v, rfl, a, us, rfl, hl, hv2⟩ := one_of hv
    refine ⟨a, us, rfl, SqL.of (v1.ok.sub _ _ hl), fun _ b2 => hq _ F1 H1 v1 (jd_enumL hl hv2) ?_⟩
    rw [enumD_len, ← hv2.len]
    exact b2 a us (SqL.of (v1.ok.sub _ _ hl))
  · cases e2
end
/-! sum, ord -/
section
variable {S : Type} {B : Amb S} {K : PySem.W.Frag}
end
end Dl

set_option Elab.async false
set_option linter.all false
set_option maxRecDepth 100000
set_option maxHeartbeats 1000000
/-! S8: text[::-1]. -/
namespace Dl
open PySem PyProof.Rows L2
section
variable {X : Cx}
end
section
variable {X : Cx} {S : Type} {B : Amb S} {ma : ME S}
end
end Dl

set_option Elab.async false
set_option linter.all false
set_option maxRecDepth 100000
set_option maxHeartbeats 1000000
/-! D26: making an instance: __init__ with checks ahead and the fields last. -/
namespace Dl
open PySem L2
mutual
/-- nothing that hangs on who holds the hand -/
def noS : D → Bool
  | .hnd => false
  | .exn _ _ _ => false
  | .err _ _ _ => false
  | .tup ds => noSL ds
  | .lst ds => noSL ds
  | .dct _ _ => false
  | .ins _ _ ds => noSL ds
  | .ftp ds => noSL ds
  | .non => true
  | .obj _ => true
  | .bl _ => true
  | .int _ => true
  | .str _ => true
def noSL : List D → Bool
  | [] => true
  | d :: ds => noS d && noSL ds
end
section
variable {K : PySem.W.Frag} {S S' : Type} {B : Amb S} {B' : Amb S'} {F : Fz}
mutual
theorem dv_any : ∀ {d : D} {v : V}, noS d = true → Dv K B F d v → Dv K B' F d v
  | .obj _, _, _, h => h
  | .non, _, _, h => h
  | .bl _, _, _, h => h
  | .int _, _, _, h => h
  | .str _, _, _, h => h
  | .hnd, _, n, _ => by cases n
  | .exn _ _ _, _, n, _ => by cases n
  | .err _ _ _, _, n, _ => by cases n
  | .tup _, _, n, ⟨a, vs, h1, h2, h3⟩ => ⟨a, vs, h1, h2, dvl_any n h3⟩
  | .lst _, _, n, ⟨a, vs, h1, h2, h3⟩ => ⟨a, vs, h1, h2, dvl_any n h3⟩
  | .dct _ _, _, n, _ => by cases n
  | .ins _ _ _, _, n, ⟨a, dx, fs, h1, h2, h3, h4, h5⟩ => ⟨a, dx, fs, h1, h2, h3, h4, dvl_any n h5⟩
  | .ftp _, _, n, ⟨a, o, vs, h1, h2, h3, h4, h5⟩ => ⟨a, o, vs, h1, h2, h3, h4, dvl_any n h5⟩
theorem dvl_any : ∀ {ds : List D} {vs : List V}, noSL ds = true → DvL K B F ds vs → DvL K B' F ds vs
  | [], _, _, h => h
  | d :: ds, _, n, ⟨v, r, h1, h2, h3⟩ => by
    have n' : (noS d && noSL ds) = true := n
    rw [Bool.and_eq_true] at n'
    exact ⟨v, r, h1, dv_any n'.1 h2, dvl_any n'.2 h3⟩
end
end
/-- the world within __init__: self is what is held -/
def InB {S : Type} (B : Amb S) (C x dx : Addr) : Amb S where
  at' := fun s F H => B.at' s F H ∧ ¬ OwZ B F x ∧ ¬ OwZ B F dx ∧ x ≠ dx ∧ H x = some (.ins C dx []) ∧ H dx = some (.own x)
  own := fun q => B.own q ∨ q = x ∨ q = dx
  hA := x
  there := fun s F H q h ho => by
    obtain ⟨h1, _, _, _, h5, h6⟩ := h
    rcases ho with e | e | e
    · exact B.there s F H q h1 e
    · rw [e, h5]; exact fun z => nomatch z
    · rw [e, h6]; exact fun z => nomatch z
  stay := fun s F F' H H' ⟨h1, h2, h3, h4, h5, h6⟩ e ea k => ⟨B.stay s F F' H H' h1 e ea fun p o hp => k p o (hp.imp .inl id), fun z => h2 (z.imp id fun (z : B.sto ∧ x ∈ F'.al) => ⟨z.1, by have h := z.2; rw [ea z.1] at h; exact h⟩), fun z => h3 (z.imp id fun (z : B.sto ∧ dx ∈ F'.al) => ⟨z.1, by have h := z.2; rw [ea z.1] at h; exact h⟩), h4, k x _ (.inl (.inr (.inl rfl))) h5, k dx _ (.inl (.inr (.inr rfl))) h6⟩
  ex := B.ex
  lk := B.lk
  sto := B.sto
section
variable {K : PySem.W.Frag} {S : Type} {B : Amb S} {F : Fz} {H1 : Hp} {s : S} {C x dx : Addr}
/-- into __init__ -/
theorem in_ok (o : Ok B F H1 s) (hx : H1 x = none) (hd : H1 dx = none) (hne : dx ≠ x) : Ok (InB B C x dx) F (upd (upd H1 dx (.own x)) x (.ins C dx [])) s := by
  have fx : F x = none := by
    cases e : F x with
    | none => rfl
    | some u => rw [o.sub x u e] at hx; cases hx
  have fd : F dx = none := by
    cases e : F dx with
    | none => rfl
    | some u => rw [o.sub dx u e] at hd; cases hd
  have nx : ¬ OwZ B F x := ne_own o hx
  have nd : ¬ OwZ B F dx := ne_own o hd
  have old : ∀ q u, H1 q = some u → upd (upd H1 dx (.own x)) x (.ins C dx []) q = some u := fun q u e => by
    rw [upd_ne (fun z => by rw [z, hx] at e; cases e), upd_ne (fun z => by rw [z, hd] at e; cases e)]
    exact e
  refine ⟨fun q u e => old q u (o.sub q u e), fun q hq => ?_, ⟨B.stay s F F H1 _ o.am Tl.rfl (fun _ => rfl) fun q u hq e => old q u e, nx, nd, fun z => hne z.symm, upd_same, ?_⟩, fun q hq => upd_alive (upd_alive (o.alt q hq))⟩
  · rcases hq with (z | z | z) | z
    · exact o.ap q (.inl z)
    · rw [z]; exact fx
    · rw [z]; exact fd
    · exact o.ap q (.inr z)
  · rw [upd_ne hne]
    exact upd_same
/-- out of it: the instance is frozen with its fields -/
theorem in_out (o : Ok B F H1 s) (hx : H1 x = none) (hd : H1 dx = none) (hne : dx ≠ x) {F' : Fz} {H' : Hp} {own' : Addr → Prop} {s' : S} {c : Str} (eC : C = He.ga K c) {no : Addr → Prop} (hno : ∀ p, ¬ no p)
    (v : Sv (InB B C x dx) F (upd (upd H1 dx (.own x)) x (.ins C dx [])) no F' H' own' s') {fvs : List (Str × V)} {ds : List D} (hn : noSL ds = true) (hv : DvL K (InB B C x dx) F' ds (fvs.map (·.2))) :
    Ev B F H1 (upF (upF F' dx (.own x)) x (.ins C dx fvs)) (upd H' x (.ins C dx fvs)) s' ∧ Dv K B (upF (upF F' dx (.own x)) x (.ins C dx fvs)) (.ins c (fvs.map (·.1)) ds) (.ref x) := by
  obtain ⟨a1, a2, a3, a4, a5, a6⟩ := v.ok.am
  have fx : F' x = none := v.ok.ap x (.inl (.inr (.inl rfl)))
  have fd : F' dx = none := v.ok.ap dx (.inl (.inr (.inr rfl)))
  have old : ∀ q u, H1 q = some u → upd (upd H1 dx (.own x)) x (.ins C dx []) q = some u := fun q u e => by
    rw [upd_ne (fun z => by rw [z, hx] at e; cases e), upd_ne (fun z => by rw [z, hd] at e; cases e)]
    exact e
  have fx2 : (upF F' dx (.own x)) x = none := by
    show (upd F'.h dx (.own x)) x = none
    rw [upd_ne (fun z => hne z.symm)]
    exact fx
  have same : Sm F' (upF (upF F' dx (.own x)) x (.ins C dx fvs)) := (sm_upF fd).tr (sm_upF fx2)
  have off : ∀ p, p ≠ x → p ≠ dx → (upF (upF F' dx (.own x)) x (.ins C dx fvs)) p = F' p := fun p px pd => (upd_ne px).trans (upd_ne pd)
  refine ⟨⟨fun p hp => ?_, fun p u e hb => ?_, ⟨fun q u e => ?_, fun q hq => ?_, B.stay s' F' _ H' _ a1 same.tl (fun _ => rfl) fun q u hq e => ?_, fun q hq => upd_alive (v.ok.alt q hq)⟩, v.al, fun p hp => ?_, v.sal⟩, ?_⟩
  · obtain ⟨u, e⟩ := Option.ne_none_iff_exists'.mp hp
    have px : p ≠ x := fun z => hp (by rw [z]; exact hx)
    have pd : p ≠ dx := fun z => hp (by rw [z]; exact hd)
    rw [off p px pd]
    exact v.fs p (by rw [old p u e]; exact fun z => nomatch z) (hno p)
  · have px : p ≠ x := fun z => by rw [z, hx] at e; cases e
    have pd : p ≠ dx := fun z => by rw [z, hd] at e; cases e
    rw [upd_ne px]
    exact v.hs p u (old p u e) (fun z => z.elim (fun z => z.elim (fun z => hb (.inl z)) fun z => z.elim px pd) fun z => hb (.inr z)) (hno p)
  · by_cases px : q = x
    · subst px
      have e' : (upd (upF F' dx (.own q)).h q (.ins C dx fvs)) q = some u := e
      rw [upd_same] at e' ⊢
      exact e'
    · rw [upd_ne px]
      by_cases pd : q = dx
      · subst pd
        have e' : (upd (upd F'.h q (.own x)) x (.ins C q fvs)) q = some u := e
        rw [upd_ne px, upd_same] at e'
        cases e'
        exact a6
      · rw [off q px pd] at e
        exact v.ok.sub q u e
  · rw [off q (fun z => a2 (by rw [← z]; exact hq)) (fun z => a3 (by rw [← z]; exact hq))]
    exact v.ok.ap q (hq.imp .inl id)
  · rw [upd_ne (fun z => a2 (by rw [← z]; exact hq))]
    exact e
  · rcases v.nw p hp with q | q
    · exact .inl q
    · right
      cases e : H1 p with
      | none => rfl
      | some u => rw [old p u e] at q; cases q
  · refine ⟨x, dx, fvs, rfl, by rw [← eC]; exact upd_same, (upd_ne hne).trans upd_same, rfl, ?_⟩
    exact (dvl_any (B' := B) hn hv).ext same
end
end Dl

set_option Elab.async false
set_option linter.all false
set_option maxRecDepth 100000
set_option maxHeartbeats 1000000
/-! D27: the fields last; the def that makes. -/
namespace Dl
open PySem L2
/-- self.a = the value of slot i, one after another -/
def fldT (K : PySem.W.Frag) : List (Str × Nat) → TS
  | [] => fun Dn σ H => Dn.nx σ H
  | (a, i) :: r => tSeq (sFld K (tVar 0) (tVar i) a) (fldT K r)
section
variable {X : Cx} {st : Stmt} {sts : List Stmt} {a : Str} {i : Nat} {r : List (Str × Nat)}
theorem flds_nil : PSs X [] (fldT X.K []) := pss_w pss_nil fun _ _ _ h => h
theorem flds_cons (h1 : PS X st (sFld X.K (tVar 0) (tVar i) a)) (h2 : PSs X sts (fldT X.K r)) : PSs X (st :: sts) (fldT X.K ((a, i) :: r)) := pss_cons h1 h2
end
theorem putF_new {f : Str} {v : V} : ∀ {fs : List (Str × V)}, f ∉ fs.map (·.1) → putF f v fs = fs ++ [(f, v)]
  | [], _ => rfl
  | (g, x) :: r, h => by
    rw [List.map_cons, List.mem_cons, not_or] at h
    show (if g = f then _ else (g, x) :: putF f v r) = _
    rw [if_neg (fun z => h.1 z.symm), putF_new h.2]
    rfl
theorem upd_upd {H : Hp} {x : Addr} {A B : HO} : upd (upd H x A) x B = upd H x B := by
  funext q
  by_cases e : q = x
  · rw [e, upd_same, upd_same]
  · rw [upd_ne e, upd_ne e, upd_ne e]
theorem upd_self {H : Hp} {x : Addr} {A : HO} (h : H x = some A) : upd H x A = H := by
  funext q
  by_cases e : q = x
  · rw [e, upd_same, h]
  · rw [upd_ne e]
theorem fld_run {K : PySem.W.Frag} {C x dx : Addr} (c : Cls K C) {Dn : Ends} {σ : L2.St} (h0 : σ[0]? = some (some (.ref x))) : ∀ (fs : List (Str × Nat)) (done : List (Str × V)) (vs : List V) (H : Hp),
    (∀ q ∈ fs, NoAttr K C q.1) → (done.map (·.1) ++ fs.map (·.1)).Nodup → done.length + fs.length < 1000 → fs.map (fun q => σ[q.2]?) = vs.map (fun v => some (some v)) → H x = some (.ins C dx done) →
    Dn.nx σ (upd H x (.ins C dx (done ++ (fs.map (·.1)).zip vs))) → fldT K fs Dn σ H
  | [], done, vs, H, _, _, _, _, hx, q => by
    have e : upd H x (.ins C dx (done ++ (([] : List (Str × Nat)).map (·.1)).zip vs)) = H := by
      rw [List.map_nil, List.zip_nil_left, List.append_nil]
      exact upd_self hx
    rw [e] at q
    exact q
  | (a, i) :: r, done, vs, H, na, nd, hl, hv, hx, q => by
    match vs, hv with
    | v :: vs, hv =>
      rw [List.map_cons, List.map_cons, List.cons.injEq] at hv
      rw [List.map_cons] at nd
      have hn : a ∉ done.map (·.1) := fun z => by
        have := (List.nodup_append.mp nd).2.2 a z a (List.mem_cons_self ..)
        exact this rfl
      rw [List.length_cons] at hl
      refine ⟨v, hv.1, .ref x, h0, x, C, dx, done, rfl, hx, c, na _ (List.mem_cons_self ..), by omega, ?_⟩
      refine fld_run c h0 r (done ++ [(a, v)]) vs _ (fun p hp => na p (List.mem_cons_of_mem _ hp)) ?_ (by rw [List.length_append, List.length_singleton]; omega) hv.2 (by rw [upd_same, putF_new hn]) ?_
      · rw [List.map_append, List.append_assoc]
        exact nd
      · rw [upd_upd, List.append_assoc]
        exact q
/-! ### the body: what may raise first, then the fields -/
def iniT (K : PySem.W.Frag) {S : Type} (B : Amb S) (W : WX) (m : MSX S) (fs : List (Str × Nat)) : TS := tSeq (tSX K B W m) (fldT K fs)
section
variable {X : Cx} {S : Type} {B : Amb S} {W : WX} {m m' : MSX S} {st : Stmt} {sts : List Stmt} {fs : List (Str × Nat)}
theorem ini_nil (h : PSs X sts (fldT X.K fs)) : PSs X sts (iniT X.K B W (xS sNil) fs) := pss_w h fun Dn σ H ⟨env, F, s, out, E, o, hm, hq⟩ => by
  cases hm
  exact hq σ F H E (Sv.refl E o)
theorem ini_cons (h1 : PS X st (tSX X.K B W m)) (h2 : PSs X sts (iniT X.K B W m' fs)) : PSs X (st :: sts) (iniT X.K B W (xSeq m m') fs) := pss_w (pss_cons h1 h2) fun Dn σ H ⟨env, F, s, out, E, o, hm, hq⟩ => by
  unfold xSeq at hm
  cases e1 : m env s with
  | none => simp [e1] at hm
  | some o1 =>
    simp only [e1, Option.bind_some] at hm
    refine ⟨env, F, s, o1, E, o, e1, ?_⟩
    cases o1 with
    | ex c f ds env' s' => cases hm; exact hq
    | ok o1 =>
      cases o1 with
      | nx env' s' => exact fun σ' F' H' E' v => ⟨env', F', s', out, E', v.ok, hm, hq.back v⟩
      | rt d s' => cases hm; exact hq
      | bk env' s' => cases hm; exact hq
      | ct env' s' => cases hm; exact hq
end
def datsAt (env : DE) : List (Str × Nat) → Option (List D)
  | [] => some []
  | (_, i) :: r => (datAt env i).bind fun d => (datsAt env r).map (d :: ·)
/-- what comes of C(ds): an instance, or an error -/
def mMk {S : Type} (n : Nat) (c : Str) (m : MSX S) (fs : List (Str × Nat)) : List D → S → Option (RX S) := fun ds s => if noSL ds = true then (m (startE n (.hnd :: ds)) s).bind fun o => match o with
  | .ok (.nx env s') => (datsAt env fs).bind fun vals => if noSL vals = true ∧ isH env 0 = true then some (.val (.ins c (fs.map (·.1)) vals) s') else none
  | .ex c f ds _ s' => if noSL ds = true then some (.exc c f ds s') else none
  | _ => none
  else none
end Dl

set_option Elab.async false
set_option linter.all false
set_option maxRecDepth 100000
set_option maxHeartbeats 1000000
/-! D28: the def __init__, and C(..). -/
namespace Dl
open PySem L2
def spMk (K : PySem.W.Frag) {S : Type} (B : Amb S) (C : Addr) (n : Nat) (g : List D → S → Option (RX S)) : Sp := fun vs H Q E => ∃ x dx us H1 F s ds out, vs = V.ref x :: us ∧ us.length = n ∧ H1 x = none ∧ H1 dx = none ∧ dx ≠ x ∧ H = upd (upd H1 dx (.own x)) x (.ins C dx []) ∧
  DvL K B F ds us ∧ Ok B F H1 s ∧ g ds s = some out ∧ (match out with
  | .val d s' => ∀ F' H', Ev B F H1 F' H' s' → Dv K B F' d (.ref x) → Q .non H'
  | .exc c f ds s' => ∀ F' H' dd, Ev B F H1 F' H' s' → ExD K B F' f ds dd → E (.ref (He.ga K c)) dd H')
theorem dats_at {K : PySem.W.Frag} {S : Type} {B : Amb S} {F : Fz} {H : Hp} {σ : L2.St} {env : DE} (E : EnvOk K B F H σ env) : ∀ {fs : List (Str × Nat)} {vals : List D}, datsAt env fs = some vals → ∃ vs : List V, fs.map (fun q => σ[q.2]?) = vs.map (fun v => some (some v)) ∧ DvL K B F vals vs ∧ vs.length = fs.length
  | [], vals, h => by
    cases h
    exact ⟨[], rfl, rfl, rfl⟩
  | (a, i) :: r, vals, h => by
    unfold datsAt at h
    cases e1 : datAt env i with
    | none => rw [e1] at h; cases h
    | some d =>
      rw [e1, Option.bind_some] at h
      cases e2 : datsAt env r with
      | none => rw [e2] at h; cases h
      | some ds =>
        rw [e2] at h
        cases h
        obtain ⟨vs, v1, v2, v3⟩ := dats_at E e2
        obtain ⟨v, h1, h2⟩ := E.dat i d (datAt_eq e1)
        exact ⟨v :: vs, by rw [List.map_cons, List.map_cons, v1, h1], ⟨v, vs, rfl, h2, v2⟩, by rw [List.length_cons, List.length_cons, v3]⟩
theorem zip_fst {α β : Type} : ∀ {a : List α} {b : List β}, b.length = a.length → (a.zip b).map (·.1) = a ∧ (a.zip b).map (·.2) = b
  | [], [], _ => ⟨rfl, rfl⟩
  | [], _ :: _, h => by cases h
  | _ :: _, [], h => by cases h
  | x :: a, y :: b, h => by
    obtain ⟨h1, h2⟩ := zip_fst (a := a) (b := b) (by simpa using h)
    rw [List.zip_cons_cons, List.map_cons, List.map_cons, h1, h2]
    exact ⟨rfl, rfl⟩
theorem def_Mk {K : PySem.W.Frag} {S : Type} {B : Amb S} {C : Addr} {cn : Str} {N : List Str} {n : Nat} {m : MSX S} {fs : List (Str × Nat)} (c : Cls K C) (eC : C = He.ga K cn) (na : ∀ q ∈ fs, NoAttr K C q.1) (nd : (fs.map (·.1)).Nodup) (hz : fs.length < 1000)
    {vs : List V} {H : Hp} {Q : VK} {E : XK} (h : spMk K B C n (mMk N.length cn m fs) vs H Q E) : ∃ x dx, iniT K (InB B C x dx) (fun cls d _ H => E cls d H) m fs { nx := fun _ H' => Q .non H', rt := Q } (L2.start N vs) H := by
  obtain ⟨x, dx, us, H1, F, s, ds, out0, rfl, hl, hx, hd, hne, rfl, hv, o, hm, hq⟩ := h
  refine ⟨x, dx, ?_⟩
  unfold mMk at hm
  split at hm
  · rename_i hn
    have hvs : DvL K (InB B C x dx) F (.hnd :: ds) (V.ref x :: us) := ⟨_, _, rfl, rfl, dvl_any hn hv⟩
    obtain ⟨E0, o0⟩ := start_ok (H := upd (upd H1 dx (.own x)) x (.ins C dx [])) (N := N) hvs
    cases e1 : m (startE N.length (.hnd :: ds)) s with
    | none => rw [e1] at hm; cases hm
    | some out =>
      rw [e1, Option.bind_some] at hm
      refine ⟨_, F, s, out, E0, in_ok o hx hd hne, e1, ?_⟩
      cases out with
      | ex c' f xs env' s1 =>
        dsimp only at hm
        split at hm
        · rename_i hxs
          cases hm
          refine fun σ' F' H' dd _ v ⟨ws, hw, hv2⟩ => ?_
          obtain ⟨a1, a2, a3, a4, a5, a6⟩ := v.ok.am
          have r := in_out o hx hd hne eC o0 v (fvs := []) (ds := []) rfl rfl
          have r1 := r.1
          rw [upd_self a5] at r1
          have fx : F' x = none := v.ok.ap x (.inl (.inr (.inl rfl)))
          have fd : F' dx = none := v.ok.ap dx (.inl (.inr (.inr rfl)))
          have same : Sm F' (upF (upF F' dx (.own x)) x (.ins C dx [])) := (sm_upF fd).tr (sm_upF ((upd_ne (fun z => hne z.symm)).trans fx))
          exact hq _ _ dd r1 ⟨ws, hw.imp id fun ⟨a, w, k1, k2, k3⟩ => ⟨a, w, k1, same a _ k2, k3⟩, (dvl_any (B' := B) hxs hv2).ext same⟩
        · cases hm
      | ok out =>
        cases out with
        | nx env' s1 =>
          dsimp only at hm
          cases e2 : datsAt env' fs with
          | none => rw [e2] at hm; cases hm
          | some vals =>
            rw [e2, Option.bind_some] at hm
            split at hm
            · rename_i hc
              cases hm
              refine fun σ' F' H' E' v => ?_
              obtain ⟨a1, a2, a3, a4, a5, a6⟩ := v.ok.am
              obtain ⟨ws, w1, w2, w3⟩ := dats_at E' e2
              obtain ⟨z1, z2⟩ := zip_fst (a := fs.map (·.1)) (b := ws) (by rw [w3, List.length_map])
              have h0 : σ'[0]? = some (some (.ref x)) := by
                obtain ⟨u, u1, u2⟩ := E'.dat 0 _ (isH_eq hc.2)
                rw [show u = V.ref x from u2] at u1
                exact u1
              have r := in_out o hx hd hne eC o0 v (fvs := (fs.map (·.1)).zip ws) (ds := vals) hc.1 (by rw [z2]; exact w2)
              rw [z1] at r
              exact fld_run c h0 fs [] ws H' na (by rw [List.map_nil, List.nil_append]; exact nd) (by rw [List.length_nil]; omega) w1 a5 (by
                rw [List.nil_append]
                exact hq _ _ r.1 r.2)
            · cases hm
        | rt d s1 => cases hm
        | bk env' s1 => cases hm
        | ct env' s1 => cases hm
  · cases hm
/-- C(..) where nothing is raised -/
def mMake {S : Type} (g : List D → S → Option (RX S)) (l : ML S) : ME S := fun env s => (l env s).bind fun p => (g p.1 p.2).bind fun r => match r with
  | .val d s' => some (d, s')
  | .exc _ _ _ _ => none
def DMk (P : Program) (w : World) (K : PySem.W.Frag) (mg : Str → Option Value) (base : Heap) {S : Type} (B : Amb S) (x : Str) (k : Nat) (ps : List Str) (g : List D → S → Option (RX S)) : Prop :=
  ∃ C f fd, mg x = some (.ref C) ∧ Mk K C f ∧ Binds K fd ("self" :: ps) [] ∧ FnOk P w K mg base (L2.CX P w) k f fd ("self" :: ps) (spMk K B C ps.length g)
section
variable {X : Cx} {S : Type} {B : Amb S} {e : Expr} {es : List Expr} {pos p : Pos} {ml : ML S} {k : Nat} {ps : List Str} {x : Str} {g : List D → S → Option (RX S)}
theorem passes0 : Passes (L2.CX X.prog X.w) X (fun _ _ _ => False) := fun pins σ H s e s' I c => passAt (W := W0) takes0 σ pins H s e s' I c
theorem d_make {j : Nat} (G : DMk X.prog X.w X.K X.mg X.base B x k ps g) (hr : Room j X.A) (ha : PA X (e :: es) (tL X.K B ml)) (hl : ∀ env s ds s', ml env s = some (ds, s') → ds.length = ps.length) (hj : k + 1 ≤ j := by decide)
    (hg : Gl X x := by rfl) (hdb : (x == ("__debug__" : Str)) = false := by decide) (he : starEach (e :: es) X.env = (false, eval e X.env) :: starEach es X.env := by rfl) (hpl : (backTo pos (starEach es X.env)).any (·.1) = false := by rfl) :
    PE X (.Call (.Name x p) (e :: es) [] pos) (tD X.K B (mMake g ml)) := by
  obtain ⟨C, f, fd, h1, M, h3, h4⟩ := G
  refine pe_w (pe_make (E := fun _ _ _ => False) M h4 (hr.mono hj) hg h1 h3 (.nil) passes0 ha hdb he hpl) fun σ H Q ⟨env, F, s, d, s', E, o, hm, hq⟩ => ?_
  unfold mMake at hm
  cases e1 : ml env s with
  | none => rw [e1] at hm; cases hm
  | some q =>
    obtain ⟨ds, s1⟩ := q
    rw [e1, Option.bind_some] at hm
    refine ⟨env, F, s, ds, s1, E, o, e1, fun vs F1 H1 v1 hv => fun y dy hy hdy hne => ?_⟩
    dsimp only at hm
    cases e2 : g ds s1 with
    | none => rw [e2] at hm; cases hm
    | some r =>
      rw [e2, Option.bind_some] at hm
      cases r with
      | val d1 s2 =>
        cases hm
        refine ⟨y, dy, vs ++ [], H1, F1, s1, ds, .val d s', rfl, by rw [List.append_nil, hv.len]; exact hl _ _ _ _ e1, hy, hdy, hne, rfl, by rw [List.append_nil]; exact hv, v1.ok, e2, fun F2 H2 v2 hd => ⟨rfl, hq _ F2 H2 (v1.trans v2) hd⟩⟩
      | exc c f ds s2 => cases hm
end
end Dl

set_option Elab.async false
set_option linter.all false
set_option maxRecDepth 100000
set_option maxHeartbeats 1000000
/-! D29: a class of our own: its facts, its __init__, its fields. -/
namespace Dl
open PySem L2
theorem says_split {fa fx : List He.Fa} {fn : List He.DefD} {K : PySem.W.Frag} (c : He.SaysD (fa ++ fx) fn K) : He.SaysD fa fn K ∧ ∀ q ∈ fx, q.ok K = true := by
  have c' : (((fa ++ fx).all fun f => f.ok K) && fn.all fun d => d.ok K, fn.map fun d => He.fnW K d.at_) = He.valD fn := c
  have c1 := congrArg (fun z : He.AlD => z.1) c'
  have c2 := congrArg (fun z : He.AlD => z.2) c'
  have c3 : (((fa ++ fx).all fun f => f.ok K) && fn.all fun d => d.ok K) = true := c1
  rw [List.all_append, Bool.and_eq_true, Bool.and_eq_true] at c3
  obtain ⟨⟨h1, h2⟩, h3⟩ := c3
  refine ⟨?_, List.all_eq_true.mp h2⟩
  show ((fa.all fun f => f.ok K) && fn.all fun d => d.ok K, fn.map fun d => He.fnW K d.at_) = He.valD fn
  rw [h1, h3]
  exact congrArg (fun z => (true, z)) c2
structure TxI (fn : List He.DefD) (gs fr : List Str) (is : List (Str × Int)) (ss : List (Str × Str)) (ts : List (Str × D)) (file : Str) (errs : List ErrD) (exms kits : List (Str × Str × Bool)) (kitb : List (Str × String × Bool)) (fx : List He.Fa) (K : PySem.W.Frag) (mg : Str → Option Value) : Prop where
  tx : TxE fn gs fr is ss ts file errs exms kits kitb K mg
  fx : ∀ q ∈ fx, q.ok K = true
theorem txI_of {fn : List He.DefD} {gs fr : List Str} {is : List (Str × Int)} {ss : List (Str × Str)} {ts : List (Str × D)} {file : Str} {errs : List ErrD} {exms kits : List (Str × Str × Bool)} {kitb : List (Str × String × Bool)} {fx : List He.Fa} {K : PySem.W.Frag} {h : Heap} {mg : Str → Option Value} (X : K.In h) (G : h.Ns mainGlobals mg)
    (c : SaysZ (faOf gs fr is ss ts ++ fx) fn ts file errs exms kits kitb K) (sd : ∀ d ∈ errs, ErrSide d) : TxI fn gs fr is ss ts file errs exms kits kitb fx K mg := by
  obtain ⟨⟨c1, c2⟩, c3⟩ := c
  obtain ⟨d1, d2⟩ := says_split c1
  exact ⟨txE_of X G ⟨⟨d1, c2⟩, c3⟩ sd, d2⟩
/-- the facts of a class with these fields -/
def clsFx (x : Str) (fields : List Str) : List He.Fa := .cls x :: .mkr x :: fields.map (.noat x)
section
variable {P : Program} {w : World} {K : PySem.W.Frag} {mg : Str → Option Value} {base : Heap} {S : Type} {B : Amb S}
theorem d_defMk {x qual : Str} {st : Stmt} {fd : FuncData} {N ps : List Str} {k : Nat} {m : MSX S} {fs : List (Str × Nat)} (Fn : FunD K "__init__" qual (defArgs st) (defBody st) (defScope st) [] [] (He.ma K (He.ga K x) "__init__") fd) (hm : mg x = some (.ref (He.ga K x)))
    (fx : ∀ q ∈ clsFx x (fs.map (·.1)), q.ok K = true) (nd : (fs.map (·.1)).Nodup) (hz : fs.length < 1000) (Sc : FnScope N ("self" :: ps) (defScope st))
    (bi : ∀ (kV doc pm : Value) (an : Option Addr) (cdv ct : Value) (us : List Value), us.length = (("self" : Str) :: ps).length → bindArgs (PySem.W.fnOf "__init__" qual (defArgs st) (defBody st) (defScope st) .none kV doc pm an cdv ct) ⟨us, []⟩ = pure ((("self" : Str) :: ps).zip us))
    (hb : ∀ (y dy : Addr) (cdv : Value) (A : Around) (outer : List Env) (s : Shared) (H : Hp) (E : XK), Room k (A.deeper (PyProof.Rows.envOfC qual (defScope st) s.heap.objs.size (He.ma K (He.ga K x) "__init__") cdv)) →
      Takes (cxOf (L2.CX P w) P w K mg base N qual (defScope st) (He.ma K (He.ga K x) "__init__") cdv A outer s H E) (fun cls d _ H => E cls d H) → PassesOwn (model P w) (A.deeper (PyProof.Rows.envOfC qual (defScope st) s.heap.objs.size (He.ma K (He.ga K x) "__init__") cdv)) (PyProof.Rows.envOfC qual (defScope st) s.heap.objs.size (He.ma K (He.ga K x) "__init__") cdv) (cxOf (L2.CX P w) P w K mg base N qual (defScope st) (He.ma K (He.ga K x) "__init__") cdv A outer s H E).xe →
      PSs (cxOf (L2.CX P w) P w K mg base N qual (defScope st) (He.ma K (He.ga K x) "__init__") cdv A outer s H E) (defBody st) (iniT K (InB B (He.ga K x) y dy) (fun cls d _ H => E cls d H) m fs)) : DMk P w K mg base B x (k + 1) ps (mMk N.length x m fs) := by
  have c : Cls K (He.ga K x) := He.cls_ok (fx _ (List.mem_cons_self ..))
  have M : Mk K (He.ga K x) (He.ma K (He.ga K x) "__init__") := He.mkr_ok (fx _ (List.mem_cons_of_mem _ (List.mem_cons_self ..)))
  have na : ∀ q ∈ fs, NoAttr K (He.ga K x) q.1 := fun q hq => He.noat_ok (fx _ (List.mem_cons_of_mem _ (List.mem_cons_of_mem _ (List.mem_map_of_mem (List.mem_map_of_mem hq)))))
  refine ⟨He.ga K x, _, fd, hm, M, Fn.bindsN bi, Fn.ok Sc (fun vs H Q E h => ?_) fun cdv A outer s H vs Q E hr h => ?_⟩
  · obtain ⟨y, dy, us, _, _, _, _, _, e, hl, _⟩ := h
    rw [e, List.length_cons, List.length_cons, hl]
  · obtain ⟨y, dy, t⟩ := def_Mk c rfl na nd hz h
    exact ⟨_, hb y dy cdv A outer s H E hr (takes_of rfl rfl rfl rfl) (passes_of rfl), t⟩
end
/-! fields of an instance -/
theorem look_ins {K : PySem.W.Frag} {S : Type} {B : Amb S} {F : Fz} {f : Str} {d : D} : ∀ {fs : List (Str × V)} {ds : List D}, DvL K B F ds (fs.map (·.2)) → ((fs.map (·.1)).zip ds).lookup f = some d → ∃ v, fs.lookup f = some v ∧ Dv K B F d v
  | [], ds, _, e => by cases ds <;> cases e
  | p :: fs, [], h, e => by cases e
  | p :: fs, d0 :: ds, ⟨v, r, e1, h1, h2⟩, e => by
    rw [List.map_cons, List.cons.injEq] at e1
    obtain ⟨g, u⟩ := p
    obtain ⟨rfl, rfl⟩ := e1
    rw [List.map_cons, List.zip_cons_cons, List.lookup_cons] at e
    rw [List.lookup_cons]
    cases c : f == g with
    | true =>
      rw [c] at e
      cases e
      exact ⟨_, rfl, h1⟩
    | false =>
      rw [c] at e
      exact look_ins h2 e
def mFldI {S : Type} (tbl : List (Str × Str)) (f : Str) (m : ME S) : ME S := fun env s => (m env s).bind fun p => match p.1 with
  | .ins c ks ds => if (c, f) ∈ tbl then ((ks.zip ds).lookup f).map fun d => (d, p.2) else none
  | _ => none
section
variable {X : Cx} {S : Type} {B : Amb S} {e : Expr} {pos : Pos} {ma : ME S} {f : Str}
theorem d_fldI {tbl : List (Str × Str)} (hT : ∀ q ∈ tbl, Cls X.K (He.ga X.K q.1) ∧ NoAttr X.K (He.ga X.K q.1) q.2) (he : PE X e (tD X.K B ma)) (hb : attributeBase e f X.env (eval e X.env) = eval e X.env := by rfl) : PE X (.Attribute e f pos) (tD X.K B (mFldI tbl f ma)) :=
  pe_w (pe_fld he hb) fun σ H Q ⟨env, F, s, d, s', E, o, hm, hq⟩ => by
    unfold mFldI at hm
    cases e1 : ma env s with
    | none => rw [e1] at hm; cases hm
    | some p =>
      obtain ⟨d1, s1⟩ := p
      rw [e1, Option.bind_some] at hm
      cases d1 with
      | ins c ks ds =>
        dsimp only at hm
        split at hm
        · rename_i ht
          cases e2 : (ks.zip ds).lookup f with
          | none => rw [e2] at hm; cases hm
          | some d2 =>
            rw [e2] at hm
            cases hm
            obtain ⟨t1, t2⟩ := hT _ ht
            refine ⟨env, F, s, _, s', E, o, e1, fun u F1 H1 v1 hx => ?_⟩
            obtain ⟨a, dx, fs, rfl, g1, g2, rfl, g3⟩ := hx
            obtain ⟨v, l1, l2⟩ := look_ins g3 e2
            exact ⟨a, _, dx, fs, v, rfl, v1.ok.sub _ _ g1, t1, t2, l1, hq v F1 H1 v1 l2⟩
        · cases hm
      | _ => cases hm
end
end Dl

set_option Elab.async false
set_option linter.all false
set_option maxRecDepth 100000
set_option maxHeartbeats 2000000
/-! S9: enumerate of a tuple. -/
namespace Sx
open PySem PySem.Spec PyProof.Rows L2
theorem meets_enumB {v : Value} {o : Obj} {H : Heap → Prop} (B : Begins v o H) :
    Meets (Builtin.«enumerate.__new__» ⟨[.type "enumerate", v], []⟩) (fun _ R s => H s.heap ∧
      R (.ok (.ret (.ref (s.heap.push o).objs.size))) { s with heap := (s.heap.push o).push { cls := .type "enumerate", data := .fields #[.none, .bool false, .ref s.heap.objs.size, rawInt 0, .none, .none] } }) :=
  .of_wp fun prog w A R s h => by
    obtain ⟨hp, g, d, tk, os⟩ := s
    obtain ⟨h1, h⟩ := h
    have hsub := sub_enumerate
    have it1 : ∀ {A' : Around} {E : Value → Shared → Prop} {Q : Value → Shared → Prop}, Q (.ref hp.objs.size) ⟨hp.push o, g, d, tk, os⟩ → wpAny (model prog w) A' (pyIter v) Q E ⟨hp, g, d, tk, os⟩ := fun q => B.iter prog w _ _ ⟨hp, g, d, tk, os⟩ _ h1 q
    wp_walk
    refine wpAny_stack_any fun st => wpAny_pure ?_
    split
    · rename_i c _ _ _ _ _
      cases (c == Value.type "enumerate")
      · wp_walk using it1
        exact ⟨_, rfl, h⟩
      · wp_walk using it1
        exact ⟨_, rfl, h⟩
    · wp_walk using it1
      exact ⟨_, rfl, h⟩
section
variable {prog : Program} {w : World} {A : Around} {E : Value → Shared → Prop} {s : Shared}
theorem call_enumT {l : Addr} {items : Array Value} {Q : Value → Shared → Prop} (hl : s.heap.IsTuple l items)
    (h : ∀ h', IsEnum h' (s.heap.objs.size + 1) s.heap.objs.size 0 .none → h'.IsTupleIter s.heap.objs.size l 0 → (∀ b o, s.heap.get? b = some o → h'.get? b = some o) → Q (.ref (s.heap.objs.size + 1)) { s with heap := h' }) :
    wpAny (model prog w) A (call (.type "enumerate") [.ref l]) Q E s := by
  have hz : (s.heap.push { cls := .type "tuple_iterator", data := .fields #[.ref l, .int 0 0] }).objs.size = s.heap.objs.size + 1 := Heap.size_push ..
  refine callType_new F.called_enumerate (by decide) (F.typeCall_enumerate_1 _) (F.newCall_enumerate_1 _) (fun obj => F.args_object_init_2 obj _) F.entry_enumerate_new (meets_enumB (begins_tuple l items)) ⟨hl, ?_⟩
  have he := Heap.get?_push_size (s.heap.push { cls := .type "tuple_iterator", data := .fields #[.ref l, .int 0 0] }) (o := { cls := .type "enumerate", data := .fields #[.none, .bool false, .ref s.heap.objs.size, rawInt 0, .none, .none] }) rfl
  rw [hz] at he
  show _ ∧ _
  rw [hz]
  exact ⟨⟨_, he, rfl⟩, h _ he ⟨_, Heap.get?_push_of_some _ (Heap.get?_push_size _ rfl), rfl, rfl⟩ fun b o y => Heap.get?_push_of_some _ (Heap.get?_push_of_some _ y)⟩
theorem draws_tup (hh : A.handled = none) (it l : Addr) (hne : l ≠ it) (items : Array Value) :
    Draws prog w A it [it, l] items.size (fun i v => items[i]? = some v) (fun i h => h.IsTupleIter it l i ∧ h.IsTuple l items) where
  live := fun _ _ ⟨⟨o, ho, _⟩, _⟩ => ⟨o, ho⟩
  frame := fun _ _ _ ⟨⟨o, ho, r⟩, ⟨o2, ho2, r2⟩⟩ hk => ⟨⟨o, hk it (by simp) o ho, r⟩, ⟨o2, hk l (by simp) o2 ho2, r2⟩⟩
  item := fun i s Q E hi ⟨h1, h2⟩ hQ => RZ.nextOf_tuple_item h1 h2 (x := items[i]) (by simp [hi]) fun h' hit' hs' => hQ _ h' s.toks (by simp [hi]) ⟨hit', by
    obtain ⟨o2, ho2, r2⟩ := h2
    exact ⟨o2, (hs'.2 l hne).trans ho2, r2⟩⟩ hs'
  done := fun s Q E ⟨h1, h2⟩ hE => RZ.nextOf_tuple_end hh h1 h2 (by simp) hE
end
end Sx

set_option Elab.async false
set_option linter.all false
set_option maxRecDepth 100000
set_option maxHeartbeats 1000000
/-! S10: the walk over enumerate(tuple). -/
namespace Sx
open PySem PySem.Spec PyProof.Rows L2
def Iett (K : PySem.W.Frag) (a : Addr) : It :=
  ⟨fun i H => ∃ (xs : List V) (x : V), SqT K H a xs ∧ xs[i]? = some x, fun i H v H' => ∃ T x, v = .ref T ∧ H T = none ∧ H' = upd H T (.tup [.int (i : Nat), x]) ∧ ∀ xs, SqT K H a xs → xs[i]? = some x, fun i H => ∃ xs : List V, SqT K H a xs ∧ xs.length ≤ i⟩
theorem turn_enumT {P : Program} {w : World} {K : PySem.W.Frag} {elts : List Expr} {kk : Nat} {tpos : Pos} (a e it : Addr) :
    Turn P w K (.Tuple elts kk tpos) (Iett K a) [e, it] e (fun i h => (∃ old, IsEnum h e it ((i : Nat) : Int) old) ∧ h.IsTupleIter it a i ∧ e ≠ it) where
  mem := List.mem_cons_self ..
  obj := fun i h ⟨⟨old, he⟩, ⟨o, ho, hc, hd⟩, _⟩ b hb => by
    rcases List.mem_cons.mp hb with z | z
    · rw [z]; exact ⟨_, he, fun v q => nomatch q⟩
    · rw [List.mem_singleton.mp z]; exact ⟨o, ho, fun v q => by rw [hd] at q; cases q⟩
  keep := fun i h h' ⟨⟨old, he⟩, ⟨o, ho, r⟩, hne⟩ k => ⟨⟨old, k e (by simp) _ he⟩, ⟨o, k it (by simp) o ho, r⟩, hne⟩
  item := fun X hP hw hK hc i pins s σ H E I hf ⟨⟨old, he⟩, hst, hne⟩ ⟨xs, x, hq, hx⟩ => by
    subst hP hw hK
    obtain ⟨its, rv, ht, hz⟩ := I.tuple hq
    obtain ⟨u, hu, ru⟩ := rv.get hx
    have ht' : s.heap.IsTuple a its.toArray := ht
    have nit : a ≠ it := fun z => by
      obtain ⟨o, o1, o2, _⟩ := hst
      obtain ⟨o', p1, p2, _⟩ := ht'
      rw [z, o1] at p1
      cases p1
      rw [o2] at p2
      injection p2 with z2
      exact absurd z2 (by decide)
    have nie : a ≠ e := fun z => by
      obtain ⟨o', p1, p2, _⟩ := ht'
      rw [z, show s.heap.get? e = _ from he] at p1
      cases p1
      injection p2 with z2
      exact absurd z2 (by decide)
    have D := draws_tup (prog := X.prog) (w := X.w) (A := X.A.in1) (I.ok.hd hc) it a nit its.toArray
    have hel : e < s.heap.objs.size := Heap.lt_size he
    have hil : it < s.heap.objs.size := Heap.lt_size hst.choose_spec.1
    have hi : i < its.toArray.size := by
      rw [List.size_toArray]
      exact (List.getElem?_eq_some_iff.mp hu).1
    refine wpAny_pyNext_enum_itemD D he ⟨hst, ht'⟩ hi hne (by simp [hne, nie.symm]) fun v h' tk hv ho ⟨hst2, _⟩ hT hsz hk => ?_
    have ev : v = u := by
      have q : its[i]? = some v := by simpa using hv
      rw [hu] at q
      exact (Option.some.inj q).symm
    subst ev
    refine ⟨_, rfl, wpAny_letOwnedTupleGo_enum (s := { s with heap := h', toks := tk + 1 }) ho fun h'' he' sb => ?_⟩
    have hT2 := (sb.2 _ (Nat.ne_of_gt hel)).trans hT
    have new : ObjOk X.prog X.w (upd H s.heap.objs.size (.tup [.int (i : Nat), x])) h'' s.heap.objs.size (.tup [.int (i : Nat), x]) :=
      ⟨by show 2 ≤ sizeLine; decide, [.int (i : Int) tk, v], .cons ⟨_, rfl⟩ (.cons ru .nil), ⟨_, hT2, rfl, _, rfl⟩⟩
    have I1 : Inv X pins σ (upd H s.heap.objs.size (.tup [.int (i : Nat), x])) { s with heap := h'', toks := tk + 1 } :=
      I.turnedNew (ch := [e, it]) (fun b ob hb q => (sb.2 b fun z => hb (z ▸ List.mem_cons_self)).trans (hk b ob (fun z => hb (z ▸ List.mem_cons_self)) (fun z => hb (z ▸ List.mem_cons_of_mem _ List.mem_cons_self)) q)) hf (Nat.le_refl _) new
    refine ⟨.ref s.heap.objs.size, _, I1, rfl, ⟨_, x, rfl, I.hok.fresh (Nat.le_refl _), rfl, fun ys hy => by rw [I.tuple_inj hy hq]; exact hx⟩, ⟨⟨v, ?_⟩, ?_, hne⟩, fun b hb => ?_⟩
    · rw [show ((i + 1 : Nat) : Int) = (i : Int) + 1 by omega]
      exact he'
    · obtain ⟨o, o1, o2⟩ := hst2
      exact ⟨o, (sb.2 it (Ne.symm hne)).trans o1, o2⟩
    · have hb' : b < s.heap.objs.size := by
        rcases List.mem_cons.mp hb with z | z
        · rw [z]; exact hel
        · rw [List.mem_singleton.mp z]; exact hil
      rw [upd_ne (Nat.ne_of_lt hb')]
      exact (hf b hb).1
  done := fun X hP hw hK hc i pins s σ H E I hf ⟨⟨old, he⟩, hst, hne⟩ ⟨xs, hq, hx⟩ => by
    subst hP hw hK
    obtain ⟨its, rv, ht, hz⟩ := I.tuple hq
    have ht' : s.heap.IsTuple a its.toArray := ht
    have nit : a ≠ it := fun z => by
      obtain ⟨o, o1, o2, _⟩ := hst
      obtain ⟨o', p1, p2, _⟩ := ht'
      rw [z, o1] at p1
      cases p1
      rw [o2] at p2
      injection p2 with z2
      exact absurd z2 (by decide)
    have hl := rv.length
    obtain ⟨f0, f1, f2, f3, f4, f5⟩ := hf it (by simp)
    -- the walk ends where no item stands: the iterator's own rule
    have D : Draws X.prog X.w X.A.in1 it [it, a] 0 (fun _ _ => True) (fun _ h => h.IsTupleIter it a i ∧ h.IsTuple a its.toArray) := {
      live := fun _ _ ⟨⟨o, ho, _⟩, _⟩ => ⟨o, ho⟩
      frame := fun _ _ _ ⟨⟨o, ho, r⟩, ⟨o2, ho2, r2⟩⟩ hk => ⟨⟨o, hk it (by simp) o ho, r⟩, ⟨o2, hk a (by simp) o2 ho2, r2⟩⟩
      item := fun j s Q E hj st hQ => absurd hj (Nat.not_lt_zero _)
      done := fun s Q E ⟨h1, h2⟩ hE => RZ.nextOf_tuple_end (I.ok.hd hc) h1 h2 (by simp; omega) hE }
    exact wpAny_pyNext_enum_endD D he ⟨hst, ht'⟩ fun h' eb => ⟨rfl, I.turned (t' := s.toks) (fun b o hb q => eb b o hb q) f0 f1 f3 f4 f5⟩
  self := fun A i s Q E ⟨⟨_, he⟩, _⟩ h => wpAny_pyIter_enum he h
def iEnumT (K : PySem.W.Frag) (ta : TA) : TI := fun σ H R => ta σ H fun vs H1 => ∃ a xs, vs = [.ref a] ∧ SqT K H1 a xs ∧ R (Iett K a) H1
theorem pi_enumT {X : Cx} {e : Expr} {ta : TA} {p pos tpos : Pos} {elts : List Expr} {kk : Nat} (hg : Gl X "enumerate") (hm : X.mg "enumerate" = none) (ha : PA X [e] ta) (hs : starEach [e] X.env = [(false, eval e X.env)] := by rfl) :
    PI X (.Tuple elts kk tpos) (.Call (.Name "enumerate" p) [e] [] pos) (iEnumT X.K ta) := ⟨fun pins s σ H R I h => by
  refine Call_ (ld_blt I hg hm boot_enumerate (callWith_type1 (thn (ha.run pos pins s σ H _ I h) fun us s1 ⟨vs, H1, I1, r1, a, xs, ex, hq, q⟩ => ?_) hs rfl))
  subst ex
  obtain rfl : us = [.ref a] := by
    cases r1 with
    | cons r rr =>
      cases rr
      cases r
      rfl
  obtain ⟨its, rv, ht, hz⟩ := I1.tuple hq
  have ht' : s1.heap.IsTuple a its.toArray := ht
  refine call_enumT ht' fun h' he hit hk => wpAny_pyIter_enum he ?_
  have I2 : Inv X pins σ H1 { s1 with heap := h' } := I1.kept (t' := s1.toks) hk
  refine ⟨s1.heap.objs.size + 1, [s1.heap.objs.size + 1, s1.heap.objs.size], _, _, H1, rfl, I2, turn_enumT a (s1.heap.objs.size + 1) s1.heap.objs.size, ⟨⟨.none, he⟩, hit, Nat.succ_ne_self _⟩, fun b hb => ?_, q⟩
  have hle : s1.heap.objs.size ≤ b := by
    rcases List.mem_cons.mp hb with z | z
    · rw [z]; exact Nat.le_succ _
    · rw [List.mem_singleton.mp z]; exact Nat.le_refl _
  exact I1.fpOk hle (I1.hok.fresh hle)⟩
end Sx
namespace Dl
open PySem L2 Sx
def enumTItems : List D → Option (List D)
  | [.tup ds] => some (enumD 0 ds)
  | _ => none
section
variable {X : Cx} {S : Type} {B : Amb S} {F1 : Fz}
theorem jd_enumT {a : Addr} {ds : List D} {vs : List V} (h : SqT X.K F1 a vs) (hv : DvL X.K B F1 ds vs) : JD X.K B (Iett X.K a) (enumD 0 ds) F1 where
  go := fun i F H s sf o hi => by
    rw [enumD_len] at hi
    have hi' : i < vs.length := by rw [hv.len]; exact hi
    exact ⟨vs, vs[i], sqT_ext (sf.trans o.sub) h, by simp [hi']⟩
  yld := fun i F H s v H' d sf o ⟨T, y, e1, e2, e3, e4⟩ hd => by
    subst e1 e3
    have q := e4 vs (sqT_ext (sf.trans o.sub) h)
    obtain ⟨d', hd', hy⟩ := hv.getV q
    rw [enumD_get, hd'] at hd
    cases hd
    rw [show (0 : Int) + (i : Int) = (i : Int) by omega]
    exact pair_new (X := X) o e2 (hy.ext sf)
  stop := fun i F H s sf o hi => by
    rw [enumD_len] at hi
    exact ⟨vs, sqT_ext (sf.trans o.sub) h, by rw [hv.len]; exact hi⟩
variable {e : Expr} {ml : ML S} {p pos tpos : Pos} {elts : List Expr} {kk : Nat}
theorem i_enumT (hm : X.mg "enumerate" = none) (ha : PA X [e] (tL X.K B ml)) (hg : Gl X "enumerate" := by rfl) (hs : starEach [e] X.env = [(false, eval e X.env)] := by rfl) :
    PI X (.Tuple elts kk tpos) (.Call (.Name "enumerate" p) [e] [] pos) (tI X.K B (mIt2 enumTItems ml)) := pi_w (pi_bd (pi_enumT hg hm ha hs)) fun σ H R ⟨env, F, s, xs, s', E, o, hm, hq⟩ => by
  obtain ⟨ds, e1, e2⟩ := it2_un hm
  unfold enumTItems at e2
  split at e2
  · rename_i ys
    cases e2
    refine ⟨env, F, s, _, s', E, o, e1, fun vs F1 H1 v1 hv => ?_⟩
    obtain ⟨v, rfl, a, us, rfl, hl, hv2⟩ := one_of hv
    have hl1 := sqT_ext v1.ok.sub hl
    refine ⟨a, us, rfl, hl1, fun b1 _ => hq _ F1 H1 v1 (jd_enumT hl hv2) ?_⟩
    rw [enumD_len, ← hv2.len]
    exact b1 a us hl1
  · cases e2
end
end Dl

set_option Elab.async false
/-! D30: all of the layer. -/

set_option Elab.async false
set_option linter.all false
set_option maxRecDepth 100000
set_option maxHeartbeats 4000000
/-! D31: x, y = [..], e with x a list of one's own; str.find, str.upper. -/
namespace Dl
open PySem
open L2
section
variable {X : Cx} {S : Type} {B : Amb S} {a o e : Expr} {es : List Expr} {ma me : ME S} {ml : ML S} {apos pos : Pos}
end
end Dl

set_option Elab.async false
set_option linter.all false
set_option maxRecDepth 100000
set_option maxHeartbeats 4000000
/-! D32: min of two whole numbers. -/
namespace Dl
open PySem
open L2
section
variable {S : Type} {B : Amb S}
end
end Dl

set_option Elab.async false
set_option linter.all false
set_option maxRecDepth 100000
set_option maxHeartbeats 4000000
/-! D33: a text some times over; isinstance of an instance of an own class. -/
namespace Dl
open PySem
open L2
def repOk (a : Str) (n : Int) : Prop := 2 ≤ n ∧ n ≤ 1000 ∧ 1 ≤ a.length ∧ a.length ≤ 10000
instance (a : Str) (n : Int) : Decidable (repOk a n) := by unfold repOk; infer_instance
section
variable {X : Cx}
end
/-! instances -/
section
variable {X : Cx} {S : Type} {B : Amb S} {a b : Expr} {es : List Expr} {pos : Pos} {ma : ME S}
end
end Dl

set_option Elab.async false
set_option linter.all false
set_option maxRecDepth 100000
set_option maxHeartbeats 4000000
/-! D34: a comprehension with two fors. -/
namespace Dl
open PySem
open L2
section
variable {X : Cx} {S : Type} {B : Amb S}
end
end Dl

set_option Elab.async false
set_option linter.all false
set_option maxRecDepth 100000
set_option maxHeartbeats 4000000
/-! D35: dicts of one's own. -/
namespace Dl
open PySem
open L2
def keyD : Key → D
  | .inr z => .str z
  | .inl z => .int z
theorem keyD_dv {K : PySem.W.Frag} {S : Type} {B : Amb S} {F : Fz} {k : Key} : Dv K B F (keyD k) (kV k) := by
  cases k <;> exact rfl
section
variable {K : PySem.W.Frag} {S : Type} {B : Amb S} {F : Fz}
theorem look_none : ∀ {kvs : List (Key × V)} {ds : List D} {k : Key}, DvL K B F ds (kvs.map (·.2)) → lookD (kvs.map (·.1)) ds k = none → valV kvs k = none
  | [], ds, k, _, e => rfl
  | p :: kvs, [], k, h, e => by cases h
  | p :: kvs, d0 :: ds, k, ⟨u, r, e1, h1, h2⟩, e => by
    rw [List.map_cons, List.cons.injEq] at e1
    obtain ⟨e1, e2⟩ := e1
    have e' : (if p.1 = k then some d0 else lookD (kvs.map (·.1)) ds k) = none := e
    by_cases c : p.1 = k
    · rw [if_pos c] at e'
      cases e'
    · rw [if_neg c] at e'
      rw [← e2] at h2
      rw [valV_neg c]
      exact look_none h2 e'
end
/-! the words -/
section
variable {S : Type}
end
section
variable {X : Cx} {S : Type} {B : Amb S} {a b c e k v : Expr} {es : List Expr} {st : Stmt} {sts : List Stmt} {pos p : Pos} {ma mb mk mv : ME S} {m m' : MS S}
end
end Dl

set_option Elab.async false
set_option linter.all false
set_option maxRecDepth 100000
set_option maxHeartbeats 4000000
/-! D36: dicts that stay: get, list(d), walks, comprehensions. -/
namespace Dl
open PySem
open L2
/-! d.get(k, x) -/
section
variable {X : Cx} {S : Type} {B : Amb S} {a b c e tg : Expr} {es : List Expr} {pos p : Pos} {ma mk mv : ME S} {ml : ML S} {m : MS S}
/-! list(d) -/
/-! for k in d -/
def dctAt (env : DE) (i : Nat) : Option (List Key) := match env[i]? with
  | some (some (.dat (.dct ks _))) => some ks
  | _ => none
theorem dctAt_eq {env : DE} {i : Nat} {ks : List Key} (h : dctAt env i = some ks) : ∃ ds, env[i]? = some (some (.dat (.dct ks ds))) := by
  unfold dctAt at h
  split at h
  · rename_i k ds e
    cases h
    exact ⟨ds, e⟩
  · cases h
/-- the same dicts, one of them locked -/
structure Lk (B : Pt) (F F' : Fz) (d : Addr) (kvs : List (Key × V)) : Prop where
  at' : RdL B F' d kvs
  was : F d = some (.dK kvs) ∨ ∃ o, F d = some (.frz o (.dK kvs))
  off : ∀ p, p ≠ d → F' p = F p
  al : F'.al = F.al
mutual
theorem lk_dv {K : PySem.W.Frag} {B : Pt} {F F' : Fz} {q : Addr} {kvs : List (Key × V)} (l : Lk B F F' q kvs) : ∀ {d : D} {v : V}, Dv K B F d v → Dv K B F' d v
  | .non, _, h => h
  | .bl _, _, h => h
  | .int _, _, h => h
  | .str _, _, h => h
  | .hnd, _, h => h
  | .ftp _, _, ⟨a, o, vs, h1, h2, h3, h4, h5⟩ => by
    have z : a ≠ q := fun e => by subst e; rcases l.was with w | ⟨o, w⟩ <;> (rw [w] at h2; cases h2)
    exact ⟨a, o, vs, h1, by rw [l.off a z]; exact h2, h3, h4, lk_dvl l h5⟩
  | .obj _, _, ⟨a, h1, h2⟩ => ⟨a, by rw [l.al]; exact h1, h2⟩
  | .tup _, _, ⟨a, vs, h1, h2, h3⟩ => by
    refine ⟨a, vs, h1, ?_, lk_dvl l h3⟩
    rcases h2 with (h2 | ⟨o, h2⟩) | h2
    · have z : a ≠ q := fun e => by subst e; rcases l.was with w | ⟨o, w⟩ <;> (rw [w] at h2; cases h2)
      exact .inl (.inl (by rw [l.off a z]; exact h2))
    · have z : a ≠ q := fun e => by subst e; rcases l.was with w | ⟨o, w⟩ <;> (rw [w] at h2; cases h2)
      exact .inl (.inr ⟨o, by rw [l.off a z]; exact h2⟩)
    · exact .inr h2
  | .lst _, _, ⟨a, vs, h1, h2, h3⟩ => by
    have z : a ≠ q := fun e => by subst e; rcases l.was with w | ⟨o, w⟩ <;> (rw [w] at h2; cases h2)
    exact ⟨a, vs, h1, by rw [l.off a z]; exact h2, lk_dvl l h3⟩
  | .dct _ _, _, ⟨a, kvs', h1, h2, h3, h4⟩ => by
    refine ⟨a, kvs', h1, ?_, h3, lk_dvl l h4⟩
    by_cases z : a = q
    · subst z
      have e : kvs' = kvs := by
        rcases l.was with w | ⟨o, w⟩ <;> rcases h2 with h2 | ⟨_, o', h2⟩ <;> (rw [w] at h2; cases h2; try rfl)
      rw [e]
      exact l.at'
    · unfold RdL
      rw [l.off a z]
      exact h2
  | .exn _ _ _, _, ⟨a, d, ws, h1, h2, h3, h4⟩ => by
    refine ⟨a, d, ws, h1, h2, h3.imp id fun ⟨dd, w, k1, k2, k3⟩ => ⟨dd, w, k1, ?_, k3⟩, lk_dvl l h4⟩
    have z : dd ≠ q := fun e => by subst e; rcases l.was with w | ⟨o, w⟩ <;> (rw [w] at k2; cases k2)
    rw [l.off dd z]
    exact k2
  | .err _ _ _, _, ⟨a, d, ws, h1, h2, h3, h4⟩ => by
    have z1 : a ≠ q := fun e => by subst e; rcases l.was with w | ⟨o, w⟩ <;> (rw [w] at h2; cases h2)
    refine ⟨a, d, ws, h1, by rw [l.off a z1]; exact h2, h3.imp id fun ⟨dd, w, k1, k2, k3⟩ => ⟨dd, w, k1, ?_, k3⟩, lk_dvl l h4⟩
    have z : dd ≠ q := fun e => by subst e; rcases l.was with w | ⟨o, w⟩ <;> (rw [w] at k2; cases k2)
    rw [l.off dd z]
    exact k2
  | .ins _ _ _, _, ⟨a, dx, fs, h1, h2, h3, h4, h5⟩ => by
    have z : a ≠ q := fun e => by subst e; rcases l.was with w | ⟨o, w⟩ <;> (rw [w] at h2; cases h2)
    have z2 : dx ≠ q := fun e => by subst e; rcases l.was with w | ⟨o, w⟩ <;> (rw [w] at h3; cases h3)
    exact ⟨a, dx, fs, h1, by rw [l.off a z]; exact h2, by rw [l.off dx z2]; exact h3, h4, lk_dvl l h5⟩
theorem lk_dvl {K : PySem.W.Frag} {B : Pt} {F F' : Fz} {q : Addr} {kvs : List (Key × V)} (l : Lk B F F' q kvs) : ∀ {ds : List D} {vs : List V}, DvL K B F ds vs → DvL K B F' ds vs
  | [], _, h => h
  | _ :: _, _, ⟨v, r, h1, h2, h3⟩ => ⟨v, r, h1, lk_dv l h2, lk_dvl l h3⟩
end
theorem lk_tl {F F' : Fz} {q : Addr} {kvs : List (Key × V)} (l : Lk B F F' q kvs) : Tl B.lk F F' := fun _ B' hl _ _ h => lk_dv (B := B') ⟨l.at'.imp id fun z => ⟨hl z.1, z.2⟩, l.was, l.off, l.al⟩ h
theorem lk_env {K : PySem.W.Frag} {F F' : Fz} {H H' : Hp} {q : Addr} {kvs : List (Key × V)} {σ : L2.St} {env : DE} (l : Lk B F F' q kvs) (hH : ∀ p, p ≠ q → H' p = H p) (E : EnvOk K B F H σ env) : EnvOk K B F' H' σ env := by
  have ne : ∀ {a : Addr}, F a = none → a ≠ q := fun {a} h e => by
    subst e
    rcases l.was with w | ⟨o, w⟩ <;> (rw [w] at h; cases h)
  have ow : ∀ {p}, ¬ OwZ B F p → ¬ OwZ B F' p := fun h z => h (z.imp id fun z => ⟨z.1, l.al ▸ z.2⟩)
  refine ⟨E.len, fun i d h => ?_, fun i xs h => ?_, fun i ks ds h => ?_, E.inj⟩
  · obtain ⟨v, h1, h2⟩ := E.dat i d h
    exact ⟨v, h1, lk_dv l h2⟩
  · obtain ⟨a, vs, h1, h2, h3, h4, h5⟩ := E.own i xs h
    exact ⟨a, vs, h1, by rw [l.off a (ne h2)]; exact h2, ow h3, by rw [hH a (ne h2)]; exact h4, lk_dvl l h5⟩
  · obtain ⟨a, vs, h1, h2, h3, h4, h5, h6⟩ := E.ownK i ks ds h
    exact ⟨a, vs, h1, by rw [l.off a (ne h2)]; exact h2, ow h3, by rw [hH a (ne h2)]; exact h4, h5, lk_dvl l h6⟩
/-- a walk over a dict that is locked -/
def tIK (K : PySem.W.Frag) (B : Amb S) (i : Nat) : TI := fun σ H R => ∃ env F s ks ds d od kvs, EnvOk K B F H σ env ∧ Ok B F H s ∧ env[i]? = some (some (.dat (.dct ks ds))) ∧ σ[i]? = some (some (.ref d)) ∧ F d = some (.frz od (.dK kvs)) ∧ kvs.map (·.1) = ks ∧ ∀ J, JD K B J (ks.map keyD) F → R J H
theorem i_keys {i : Nat} (ho : PE X a (tVar i)) : PI X tg a (tIK X.K B i) := pi_w (pi_keys ho) fun σ H R ⟨env, F, s, ks, ds, d, od, kvs, E, o, h1, h3, h4, h5, hq⟩ => by
  refine ⟨.ref d, h3, d, od, rfl, .inl ⟨kvs, o.sub d _ h4, hq _ ⟨fun i F2 H2 s2 k1 o2 hi => ?_, fun i F2 H2 s2 y H3 z k1 o2 hy hd => ?_, fun i F2 H2 s2 k1 o2 hi => ?_⟩⟩⟩
  · rw [List.length_map, ← h5, List.length_map] at hi
    exact ⟨o2.sub d _ (k1 d _ h4), hi⟩
  · obtain ⟨rfl, k, v, e1, rfl⟩ := hy
    rw [← h5, List.map_map, List.getElem?_map, e1] at hd
    cases hd
    exact ⟨F2, o2.refl, keyD_dv⟩
  · rw [List.length_map, ← h5, List.length_map] at hi
    exact ⟨o2.sub d _ (k1 d _ h4), hi⟩
/-! {k: v for ..} -/
/-! a, b, .. = a list -/
end
end Dl

set_option Elab.async false
set_option linter.all false
set_option maxRecDepth 100000
set_option maxHeartbeats 4000000
/-! D37: tuples += tuples, insert, extend by a tuple, in a list of one's own. -/
namespace Dl
open PySem PySem.Spec PyProof.Rows HT
open L2
section
variable {prog : Program} {w : World} {A : Around} {E : Value → Shared → Prop} {s : Shared}
open PySem.AutoSeq1 in
end
section
variable {X : Cx} {S : Type} {B : Amb S} {a b c e k v o : Expr} {es : List Expr} {pos p : Pos} {ma mb mk mv : ME S} {ml : ML S} {m : MS S}
/-! xs.insert(i, y) -/
/-! xs.extend(t), t a tuple -/
/-! y in xs, xs a list of one's own -/
/-! x, y = {}, [] -/
/-! x, y = [], [] -/
/-! isinstance(x, C), x an instance of the text's own -/
def isOwnD (tbl : List (Str × Bool)) : D → Option D
  | .ins c _ _ => (tbl.lookup c).map D.bl
  | _ => none
theorem d_isOwn {p : Pos} {C : Addr} {tbl : List (Str × Bool)} (hT : ∀ q ∈ tbl, Cls X.K (He.ga X.K q.1) ∧ clB X.K (He.ga X.K q.1) = true ∧ PySem.W.kitOne X.K (.ref (He.ga X.K q.1)) (.ref C) = some q.2) (hm : X.mg "isinstance" = none) (ha : PE X a (tD X.K B ma)) (hb : PE X b (tC (.ref C))) (hv : bootBuiltins "isinstance" = some (.builtin "isinstance") := by decide +kernel) (hg : Gl X "isinstance" := by rfl)
    (hs1 : starEach [b] X.env = (false, eval b X.env) :: starEach [] X.env := by rfl)
    (he : starEach (a :: [b]) X.env = (false, eval a X.env) :: starEach [b] X.env := by rfl) (hpl : (backTo pos (starEach [b] X.env)).any (·.1) = false := by rfl) :
    PE X (.Call (.Name "isinstance" p) [a, b] [] pos) (tD X.K B (mU (isOwnD tbl) ma)) :=
  pe_w (pe_callB call_isi hg hm hv (pa_cons ha (pa_cons hb pa_nil hs1) he) (by decide) (by decide) he hpl) fun σ H Q ⟨env, F, s, d, s', E, o, hm, hq⟩ => by
    obtain ⟨x, e1, e2⟩ := un_un hm
    unfold isOwnD at e2
    split at e2
    · rename_i c ks ds
      cases e5 : tbl.lookup c with
      | none => rw [e5] at e2; cases e2
      | some r =>
        rw [e5] at e2
        cases e2
        obtain ⟨t1, t2, t3⟩ := hT _ (lookup_mem e5)
        unfold clB at t2
        simp only [Bool.and_eq_true, decide_eq_true_eq] at t2
        obtain ⟨c1, c2, c3, c4⟩ := t2
        refine ⟨env, F, s, _, s', E, o, e1, fun v F1 H1 v1 hx => ?_⟩
        obtain ⟨ad, dx, fs, rfl, g1, g2, rfl, g3⟩ := hx
        exact ⟨.ref ad, .ref C, .ref (He.ga X.K c), .ref C, _, rfl, .own C, .base (.ins (v1.ok.sub _ _ g1) t1 c1 c2 c3 c4), t3, hq _ F1 H1 v1 rfl⟩
    · cases e2
end
end Dl

set_option Elab.async false
set_option linter.all false
set_option maxRecDepth 100000
set_option maxHeartbeats 4000000
/-! S11: sorted of tuples that begin with unlike texts, any number of them. -/
namespace SrtT
open PySem PySem.Builtin PyProof.Rows Srt SrtO Dl
section
variable {prog : Program} {w : World} {A : Around} {E : Value → Shared → Prop} {s : Shared}
/-! ### the order of the first texts -/
def firstTx (h : Heap) (v : Value) : Str := match v with
  | .ref a => match h.get? a with
    | some o => match o.data with
      | .seq xs _ => match xs.toList with
        | .str x _ :: _ => x
        | _ => Str.empty
      | _ => Str.empty
    | none => Str.empty
  | _ => Str.empty
/-- a tuple that begins with the text x -/
def Beg (h : Heap) (v : Value) (x : Str) : Prop := ∃ (a : Addr) (o : Obj) (t : Tok) (r : List Value) (n : Nat), v = .ref a ∧ h.get? a = some o ∧ o.cls = .type "tuple" ∧ o.data = .seq (.str x t :: r).toArray n
theorem Beg.tx {h : Heap} {v : Value} {x : Str} (b : Beg h v x) : firstTx h v = x := by
  obtain ⟨a, o, t, r, n, rfl, h1, h2, h3⟩ := b
  unfold firstTx
  simp only [h1, h3]
theorem Beg.keeps {h h' : Heap} {v : Value} {x : Str} (p : Beg h v x) (k : ∀ b o, h.get? b = some o → o.cls = .type "tuple" → h'.get? b = some o) : Beg h' v x := by
  obtain ⟨a, o, t, r, n, e, ho, hc, hd⟩ := p
  exact ⟨a, o, t, r, n, e, k a o ho hc, hc, hd⟩
end
end SrtT
namespace Dl
open PySem PySem.Spec PyProof.Rows L2 SrtT
/-! ### sorted by a key, by insertion -/
/-! ### the call -/
section
variable {X : Cx}
end
/-! ### over data -/
section
variable {K : PySem.W.Frag} {S : Type} {B : Amb S} {F : Fz}
end
end Dl

set_option Elab.async false
set_option linter.all false
set_option maxRecDepth 100000
set_option maxHeartbeats 4000000
/-! D38: lists some times over, partition, three at once, a list of one's own from a comprehension, except without a name. -/
namespace Dl
open PySem
open L2
section
variable {K : PySem.W.Frag} {S : Type} {B : Amb S} {F : Fz}
end
section
variable {X : Cx} {S : Type} {B : Amb S} {a b o e : Expr} {es : List Expr} {ma me : ME S} {ml : ML S} {apos pos : Pos}
/-! x = [.. for ..], x a list of one's own -/
/-! except without a name -/
end
end Dl

set_option Elab.async false
set_option linter.all false
set_option maxRecDepth 100000
set_option maxHeartbeats 4000000
/-! D39: x, y, z = [], [], [] and e, [], []. -/
namespace Dl
open PySem
open L2
def FreeA (σ : L2.St) (env : DE) (q : Addr) : Prop := ∀ (j : Nat) (y : Slot), env[j]? = some (some y) → y.isO = true → σ[j]? ≠ some (some (.ref q))
section
variable {K : PySem.W.Frag} {S : Type} {B : Amb S} {F : Fz} {H : Hp} {σ : L2.St} {env : DE} {s : S} {q q1 : Addr} {i : Nat}
theorem FreeA.set {x : Option Slot} (h : FreeA σ env q) (hne : q1 ≠ q) : FreeA (σ.set i (some (.ref q1))) (env.set i x) q := fun j y hj ho z => by
  rcases set_get hj with ⟨e, _, _⟩ | ⟨e, e2⟩
  · subst e
    have hl : j < σ.length := by
      have := (List.getElem?_eq_some_iff.mp z).1
      rw [List.length_set] at this
      exact this
    rw [List.getElem?_set_self hl] at z
    cases z
    exact hne rfl
  · rw [List.getElem?_set_ne (fun w => e w.symm)] at z
    exact h j y e2 ho z
theorem FreeA.put {v : V} {d : D} (h : FreeA σ env q) : FreeA (σ.set i (some v)) (env.set i (some (.dat d))) q := fun j y hj ho z => by
  rcases set_get hj with ⟨e, e2, _⟩ | ⟨e, e2⟩
  · cases e2
    cases ho
  · rw [List.getElem?_set_ne (fun w => e w.symm)] at z
    exact h j y e2 ho z
end
section
variable {X : Cx} {S : Type} {B : Amb S} {a : Expr} {ma : ME S} {pos : Pos}
end
end Dl

set_option Elab.async false
set_option linter.all false
set_option maxRecDepth 100000
set_option maxHeartbeats 4000000
/-! D40: == and != by the text's own __eq__: True and False. -/
namespace Dl
open PySem PySem.W
section
variable {prog : Program} {w : World} {A : Around} {E : Value → Shared → Prop} {s : Shared} {K : Frag} {x C L f : Addr} {h₀ : Heap} {m : Str → Option Value} {ox : Obj} {od : Option Obj} {b : Value}
theorem ne_bind (self : Value) : bindSpecial (.builtin "object.__ne__") self = pure (.builtin "object.__ne__", [self]) := PySem.F.cmp_object.ne.bind self
theorem ifBoundB {M : Model} {args : List Value} {Q : Option Value → Shared → Prop} (X : K.In s.heap) (I : InstAt s.heap x ox C od) (hs : findIn K (.ref C) "__ne__" = some (some (.builtin "object.__ne__")))
    (h : wpAny M A (call (.builtin "object.__ne__") (.ref x :: args)) (fun v => Q (some v)) E s) : wpAny M A (callSpecialIfBound? (.ref x) "__ne__" args) Q E s := by
  simp only [callSpecialIfBound?, bindSpecialIfBound?]
  refine wpAny_holding (wpAny_bind (wpAny_bind (wpAny_bind (I.type.here ((looks_findIn X hs).here ?_)))))
  simp only [ne_bind]
  refine wpAny_bind (wpAny_askSetting (wpAny_ite ?_))
  have fin : wpAny M A (call (.builtin "object.__ne__") ([.ref x] ++ args) >>= fun v => pure (some v)) Q E s := wpAny_bind (wpAny_mono h (fun v s' h' => wpAny_pure h') fun _ _ h' => h')
  split
  · exact wpAny_bind (wpAny_pure (wpAny_pure fin))
  · exact wpAny_tryCatch (wpAny_bind (wpAny_pure (wpAny_pure fin)))
theorem objNe_K {M : Model} {Q : Fin → Shared → Prop} (X : K.In s.heap) (I : InstAt s.heap x ox C od) (hu : A.units < cLine) (hs : findIn K (.ref C) "__eq__" = some (some (.ref f))) (hf : isFn K (.ref f) = true)
    (hcall : wpAny M A (call (.ref f) [.ref x, b]) (fun v s' => ∃ r, v = .bool r ∧ Q (.done (.ret (.bool (!r)))) s') E s) : wpAny M A (Builtin.«object.__ne__» ⟨[.ref x, b], []⟩) Q E s := by
  obtain ⟨h, g, d, t, os⟩ := s
  unfold Builtin.«object.__ne__»
  repeat (first
    | with_reducible refine wpAny_cRoomFor hu ?_
    | (refine wpAny_bind (m := callSpecialIfBound? (.ref x) (Str.ofString "__eq__") [b])
        (ifBound_K X I hs hf (wpAny_mono hcall (fun r s' hr => by
          obtain ⟨b, rfl, hq⟩ := hr
          repeat (first | exact hq | exact wpAny_pure hq | exact wpAny_truthy_bool hq | (refine wpAny_bind (m := truthy (.bool _)) (wpAny_truthy_bool ?_)) | wp_step)) fun _ _ e => e)))
    | wp_step)
theorem ne_K {Q : Value → Shared → Prop} (hu : A.units + 1 < cLine) (X : K.In s.heap) (I : InstAt s.heap x ox C od) (hb : Looks (model prog w) s.heap (typeOf b) (.ref C))
    (hne : findIn K (.ref C) "__ne__" = some (some (.builtin "object.__ne__"))) (hm : mroIn K C (.type "object") = some true) (hs : findIn K (.ref C) "__eq__" = some (some (.ref f))) (hf : isFn K (.ref f) = true)
    (h : wpAny (model prog w) A.in1 (call (.ref f) [.ref x, b]) (fun v s' => ∃ r, v = .bool r ∧ Q (.bool (!r)) s') E s) : wpAny (model prog w) A (richCompare .NotEq (.ref x) b) Q E s := by
  have t2 : Looks (model prog w) s.heap (isInstance (.ref x) (.type "object")) true := I.type.andThen (looks_mroIn X hm)
  have one : wpAny (model prog w) A (tryCompare (.ref x) "__ne__" b) (fun r s' => ∃ v, r = some v ∧ Q v s') E s := by
    simp only [tryCompare]
    refine wpAny_bind (ifBoundB X I hne (wpAny_call (codeAny_call_builtin PySem.F.cmp_object.ne.plain PySem.F.cmpEntry_ne
      (check_slot PySem.F.cmpKind_ne PySem.F.cmpSplit_ne t2 (PySem.F.cmpArgs_ne _ _) (objNe_K (A := A.in1) X I hu hs hf (wpAny_mono h (fun v s' hv => ?_) fun _ _ e => e))))))
    obtain ⟨r, rfl, hq⟩ := hv
    first | exact ⟨r, rfl, wpAny_pure ⟨_, rfl, hq⟩⟩ | exact ⟨r, rfl, ⟨_, rfl, hq⟩⟩
  unfold richCompare
  simp only [oneThing_ref]
  refine wpAny_holding (wpAny_bind (wpAny_cRoomFor (Nat.lt_of_succ_lt hu) ?_))
  rw [cmpInfo_NotEq]
  dsimp only
  refine wpAny_bind (I.type.here (wpAny_bind (hb.here ?_)))
  rw [show (Value.ref C != Value.ref C) = false from by simp]
  simp only [Bool.false_eq_true, if_false]
  refine wpAny_bind (wpAny_pure ?_)
  simp only [Bool.false_eq_true, if_false]
  refine wpAny_bind (wpAny_mono one (fun r s' z => ?_) fun _ _ e => e)
  obtain ⟨v, rfl, hq⟩ := z
  exact wpAny_pure hq
end
end Dl
namespace Dl
open PySem L2
section
variable {X : Cx} {S : Type} {B : Amb S}
/-- what an own == promises of two instances of the class at C -/
def rIns (C : Addr) (neg : Bool) (sp : Sp) : R2 := fun x y H Q => ∃ a b dx dy fs gs, x = .ref a ∧ y = .ref b ∧ H a = some (.ins C dx fs) ∧ H b = some (.ins C dy gs) ∧ sp [.ref a, .ref b] H (fun v H' => ∃ r, v = .bl r ∧ Q (.bl (r != neg)) H') (fun _ _ _ => False)
theorem call_eq {f : Addr} {fd : FuncData} {ps : List Str} {n : Nat} {sp : Sp} (F : FnOk X.prog X.w X.K X.mg X.base CX0 n f fd ps sp) (hb : Binds X.K fd ps []) {A : Around} (hr : Room n A) (hfr : A.frames = X.A.frames)
    {pins : List (Addr × Obj)} {σ : L2.St} {H : Hp} {s : Shared} {a b : Addr} {Q : VK} (I : Inv X pins σ H s) (hsp : sp [.ref a, .ref b] H Q (fun _ _ _ => False)) : wpAny (model X.prog X.w) A (call (.ref f) [.ref a, .ref b]) (EP X pins σ Q) X.xe s := by
  have e0 : Env0 X.prog X.w X.K X.mg X.base A X.stack s H := by
    have e := I.env0
    exact ⟨by rw [hfr]; exact e.frames, e.mod, e.bs, e.bsz, e.funs, e.frf, e.hok, e.bare⟩
  have hl := F.len _ _ _ _ hsp
  have r2 : Vals [V.ref a, V.ref b] [Value.ref a, Value.ref b] := .cons rfl (.cons rfl .nil)
  refine wpAny_call (codeAny_mono (F.run A X.stack s H ⟨[.ref a, .ref b], []⟩ [.ref a, .ref b] [.ref a, .ref b] _ _ hr e0 (by
    have := hb s [.ref a, .ref b] I.kIn (by simpa using hl)
    simpa using this) r2 hsp) fun r s' hq => ?_)
  cases r with
  | error e => exact pass0 pins σ H s e s' I hq
  | ok fl =>
    cases fl with
    | ret w => exact I.after hq
    | next => exact False.elim hq
    | brk => exact False.elim hq
    | cont => exact False.elim hq
theorem op_insEq {C f : Addr} {fd : FuncData} {ps : List Str} {n j : Nat} {sp : Sp} (F : FnOk X.prog X.w X.K X.mg X.base CX0 n f fd ps sp) (hs : PySem.W.findIn X.K (.ref C) "__eq__" = some (some (.ref f))) (hf : PySem.W.isFn X.K (.ref f) = true) (hb : Binds X.K fd ps []) (hr : Room j X.A) (hj : n + 1 ≤ j) : OpR X (compareOp .Eq) (rIns C false sp) := by
  intro pins s σ H x y v u Q I rx ry h
  obtain ⟨a, b, dx, dy, fs, gs, rfl, rfl, ha, hb', hsp⟩ := h
  cases rx
  cases ry
  obtain ⟨mA, J, _⟩ := ins_get I.hok ha
  obtain ⟨mB, J', _⟩ := ins_get I.hok hb'
  obtain ⟨od, J, _⟩ := J.look
  obtain ⟨od', J', _⟩ := J'.look
  obtain ⟨m, hF⟩ := I.fr
  show wpAny (model X.prog X.w) X.A (richCompare .Eq (.ref a) (.ref b)) (EP X pins σ Q) X.xe s
  refine PySem.W.cmp_K (op := .Eq) (tb := .ref C) hr.units0 hF I.ok.mod.kin J J'.type (by simp [PySem.W.notFirst]) hs hf ?_
  refine wpAny_mono (call_eq F hb (hr.mono (by omega)) rfl I hsp) (fun r s' q => ?_) fun _ _ e => e
  obtain ⟨z, H', I', rz, r, ez, q⟩ := q
  subst ez
  cases rz
  refine ⟨.bl r, H', I', rfl, ?_⟩
  cases r <;> exact q
theorem op_insNe {C f : Addr} {fd : FuncData} {ps : List Str} {n j : Nat} {sp : Sp} (F : FnOk X.prog X.w X.K X.mg X.base CX0 n f fd ps sp) (hs : PySem.W.findIn X.K (.ref C) "__eq__" = some (some (.ref f))) (hne : PySem.W.findIn X.K (.ref C) "__ne__" = some (some (.builtin "object.__ne__"))) (hm : PySem.W.mroIn X.K C (.type "object") = some true)
    (hf : PySem.W.isFn X.K (.ref f) = true) (hb : Binds X.K fd ps []) (hr : Room j X.A) (hj : n + 1 ≤ j) : OpR X (compareOp .NotEq) (rIns C true sp) := by
  intro pins s σ H x y v u Q I rx ry h
  obtain ⟨a, b, dx, dy, fs, gs, rfl, rfl, ha, hb', hsp⟩ := h
  cases rx
  cases ry
  obtain ⟨mA, J, _⟩ := ins_get I.hok ha
  obtain ⟨mB, J', _⟩ := ins_get I.hok hb'
  obtain ⟨od, J, _⟩ := J.look
  obtain ⟨od', J', _⟩ := J'.look
  have hr1 := hr.mono hj
  show wpAny (model X.prog X.w) X.A (richCompare .NotEq (.ref a) (.ref b)) (EP X pins σ Q) X.xe s
  refine ne_K (by have := hr1.units; omega) I.kIn J J'.type hne hm hs hf ?_
  refine wpAny_mono (call_eq F hb hr1.in1 rfl I hsp) (fun r s' q => ?_) fun _ _ e => e
  obtain ⟨z, H', I', rz, r, ez, q⟩ := q
  subst ez
  cases rz
  refine ⟨r, rfl, .bl (!r), H', I', rfl, ?_⟩
  cases r <;> exact q
end
end Dl

set_option Elab.async false
set_option linter.all false
set_option maxRecDepth 100000
set_option maxHeartbeats 4000000
/-! D41: the def __eq__ of an own class; x == y and x != y of two instances of it. -/
namespace Dl
open PySem L2
def isIns (c : Str) : D → Bool
  | .ins c' _ _ => decide (c' = c)
  | _ => false
theorem isIns_eq {c : Str} {d : D} (h : isIns c d = true) : ∃ ks ds, d = .ins c ks ds := by
  unfold isIns at h
  split at h
  · rename_i c' ks ds
    exact ⟨ks, ds, by rw [of_decide_eq_true h]⟩
  · cases h
def mCmpI {S : Type} (neg : Bool) (c : Str) (g : List D → S → Option (D × S)) (a b : ME S) : ME S := fun env s => (a env s).bind fun p => (b env p.2).bind fun q => if isIns c p.1 = true ∧ isIns c q.1 = true then (g [p.1, q.1] q.2).bind fun r => (blD r.1).map fun k => (.bl (k != neg), r.2) else none
def DEq (P : Program) (w : World) (K : PySem.W.Frag) (mg : Str → Option Value) (base : Heap) {S : Type} (B : Amb S) (c : Str) (k : Nat) (g : List D → S → Option (D × S)) : Prop :=
  ∃ f fd ps, PySem.W.findIn K (.ref (He.ga K c)) "__eq__" = some (some (.ref f)) ∧ PySem.W.isFn K (.ref f) = true ∧ Binds K fd ps [] ∧ ps.length = 2 ∧ FnOk P w K mg base CX0 k f fd ps (spD K B 2 g)
section
variable {P : Program} {w : World} {K : PySem.W.Frag} {mg : Str → Option Value} {base : Heap} {S : Type} {B : Amb S}
theorem d_defEq {c qual : Str} {st : Stmt} {fd : FuncData} {N ps : List Str} {k : Nat} {m : MS S} (Fn : FunD K "__eq__" qual (defArgs st) (defBody st) (defScope st) [] [] (He.ma K (He.ga K c) "__eq__") fd) (fx : (He.Fa.meth c "__eq__").ok K = true) (Sc : FnScope N ps (defScope st)) (hp : ps.length = 2)
    (bi : ∀ (kV doc pm : Value) (an : Option Addr) (cdv ct : Value) (us : List Value), us.length = ps.length → bindArgs (PySem.W.fnOf "__eq__" qual (defArgs st) (defBody st) (defScope st) .none kV doc pm an cdv ct) ⟨us, []⟩ = pure (ps.zip us))
    (hb : ∀ (cdv : Value) (A : Around) (outer : List Env) (s : Shared) (H : Hp) (E : XK), Room k (A.deeper (PyProof.Rows.envOfC qual (defScope st) s.heap.objs.size (He.ma K (He.ga K c) "__eq__") cdv)) →
      PSs (cxOf CX0 P w K mg base N qual (defScope st) (He.ma K (He.ga K c) "__eq__") cdv A outer s H E).nox (defBody st) (tS K B m)) : DEq P w K mg base B c (k + 1) (mDef N.length m) := by
  obtain ⟨m1, m2, m3⟩ := He.meth_ok fx
  refine ⟨_, fd, ps, m1, m2, Fn.bindsN bi, hp, ?_⟩
  have F := Fn.ok (sp := spD K B ps.length (mDef N.length m)) Sc (fun vs H Q E h => h.1) fun cdv A outer s H vs Q E hr h => ⟨_, (hb cdv A outer s H E hr).nox, def_D h⟩
  rw [hp] at F
  exact F
end
section
variable {X : Cx} {S : Type} {B : Amb S} {a b : Expr} {ma mb : ME S} {pos : Pos} {c : Str} {k j : Nat} {g : List D → S → Option (D × S)} {neg : Bool}
theorem DEq.eq (G : DEq X.prog X.w X.K X.mg X.base B c k g) (hr : Room j X.A) (hj : k + 1 ≤ j := by decide) : OpR X (compareOp .Eq) (rIns (He.ga X.K c) false (spD X.K B 2 g)) := by
  obtain ⟨f, fd, ps, h1, h2, h3, h4, h5⟩ := G
  exact op_insEq h5 h1 h2 h3 hr hj
theorem DEq.ne (G : DEq X.prog X.w X.K X.mg X.base B c k g) (hr : Room j X.A) (hc : clB X.K (He.ga X.K c) = true) (hn : neB X.K (c, "str", false) = true) (hj : k + 1 ≤ j := by decide) : OpR X (compareOp .NotEq) (rIns (He.ga X.K c) true (spD X.K B 2 g)) := by
  obtain ⟨f, fd, ps, h1, h2, h3, h4, h5⟩ := G
  unfold clB at hc
  simp only [Bool.and_eq_true, decide_eq_true_eq] at hc
  have hn2 : PySem.W.findIn X.K (.ref (He.ga X.K c)) "__ne__" = some (some (.builtin "object.__ne__")) := by
    unfold neB at hn
    simpa using hn
  exact op_insNe h5 h1 hn2 hc.2.2.2 h2 h3 hr hj
theorem cmpI_D {σ : L2.St} {H : Hp} {Q : VK} (h : tD X.K B (mCmpI neg c g ma mb) σ H Q) : tOp (rIns (He.ga X.K c) neg (spD X.K B 2 g)) (tD X.K B ma) (tD X.K B mb) σ H Q := by
  obtain ⟨env, F, s, d, s', E, o, hm, hq⟩ := h
  unfold mCmpI at hm
  cases e1 : ma env s with
  | none => rw [e1] at hm; cases hm
  | some p =>
    obtain ⟨x, s1⟩ := p
    rw [e1, Option.bind_some] at hm
    dsimp only at hm
    cases e2 : mb env s1 with
    | none => rw [e2] at hm; cases hm
    | some q =>
      obtain ⟨y, s2⟩ := q
      rw [e2, Option.bind_some] at hm
      dsimp only at hm
      split at hm
      · rename_i hc
        obtain ⟨kx, dx, rfl⟩ := isIns_eq hc.1
        obtain ⟨ky, dy, rfl⟩ := isIns_eq hc.2
        cases e3 : g [.ins c kx dx, .ins c ky dy] s2 with
        | none => rw [e3] at hm; cases hm
        | some r =>
          obtain ⟨z, s3⟩ := r
          rw [e3, Option.bind_some] at hm
          cases z with
          | bl t =>
            cases hm
            refine ⟨env, F, s, _, s1, E, o, e1, fun v F1 H1 v1 hx => ⟨env, F1, s1, _, s2, E.step o v1, v1.ok, e2, fun u F2 H2 v2 hy => ?_⟩⟩
            have hx2 := hx.ext (v2.sameF v1.ok)
            obtain ⟨xa, xd, xf, rfl, g1, g2, g3, g4⟩ := id hx2
            obtain ⟨ya, yd, yf, rfl, k1, k2, k3, k4⟩ := id hy
            refine ⟨xa, ya, xd, yd, xf, yf, rfl, rfl, v2.ok.sub _ _ g1, v2.ok.sub _ _ k1, rfl, F2, s2, [.ins c kx dx, .ins c ky dy], .bl t, _, ⟨_, _, rfl, hx2, _, _, rfl, hy, rfl⟩, v2.ok, e3, fun v F3 H3 v3 hd => ⟨t, hd, ?_⟩⟩
            exact hq _ F3 H3 ((v1.trans v2).trans v3) rfl
          | _ => cases hm
      · cases hm
theorem d_cmpI {op : CmpOp} (ho : OpR X (compareOp op) (rIns (He.ga X.K c) neg (spD X.K B 2 g))) (ha : PE X a (tD X.K B ma)) (hb : PE X b (tD X.K B mb)) (hm : behindInMarks op b = false := by first | exact nomark _ | rfl) :
    PE X (.Compare a [op] [b] pos) (tD X.K B (mCmpI neg c g ma mb)) := pe_w (pe_cmpR ho ha hb hm) fun _ _ _ h => cmpI_D h
end
end Dl

set_option Elab.async false
set_option linter.all false
set_option maxRecDepth 100000
set_option maxHeartbeats 4000000
/-! D42: while; x = xs.pop() of one's own list. -/
namespace Dl
open PySem L2
section
variable {X : Cx} {S : Type} {B : Amb S} {a b c e : Expr} {body : List Stmt} {st : Stmt} {pos p : Pos} {m : MS S} {t : MT S}
end
end Dl

set_option Elab.async false
set_option linter.all false
set_option maxRecDepth 100000
set_option maxHeartbeats 4000000
/-! D43: == of two tuples of instances with an own __eq__, both outcomes. -/
namespace GQ
open PySem PySem.SeqAt
open AutoSeq1 (wpAny_loadPart')
open MeetsSeq MeetsSeq2 MeetsSeq3 SeqRoads2
section
variable {prog : Program} {w : World} {A : Around} {R : Result → Shared → Prop}
theorem tuple_eqB (l b : Addr) (items items2 : Array Value) (n n2 : Nat) (dd dd2 : Option Addr) (sl sl2 : Array (Option Value)) (I : Nat → Shared → Prop)
    (turn : ∀ i (h1 : i < items.size) (h2 : i < items2.size) s, I i s → wpAny (model prog w) A.in1 (eqBool items[i] items2[i]) (fun r s' => (r = true → I (i + 1) s') ∧ (r = false → R (.ok (.ret (.bool false))) s')) (fun e s' => R (.error e) s') s)
    (fin : ∀ s, I (min items.size items2.size) s → R (.ok (.ret (.bool (items.size == items2.size)))) s) {s : Shared} (hl1 : s.heap.get? l = some { cls := .type "tuple", dict := dd, data := .seq items n, slots := sl }) (hb1 : s.heap.get? b = some { cls := .type "tuple", dict := dd2, data := .seq items2 n2, slots := sl2 }) (h : I 0 s) :
    wpAny (model prog w) A.in1 (Builtin.«tuple.__eq__» ⟨[.ref l, .ref b], []⟩) (FinOf prog w A R) (fun e s' => R (.error e) s') s := by
  have f2 := AutoSeq1.sub_tuple_tuple
  have hZ : (items.toList.zip items2.toList).length = min items.size items2.size := by simp
  have h0 := h
  obtain ⟨hp, g, d, tk, os⟩ := s
  wp_walk using wpAny_loadPart' hl1, wpAny_loadPart' hb1, wpAny_forIn_list _ (fun rest b s' => b.1 = none ∧ ∃ i, rest = (items.toList.zip items2.toList).drop i ∧ i ≤ min items.size items2.size ∧ I i s') _
  case turn =>
    rintro ⟨y, x⟩ rest b s' ⟨hb', i, hz, hi, hI⟩
    have hlt : i < (items.toList.zip items2.toList).length := by
      rcases Nat.lt_or_ge i (items.toList.zip items2.toList).length with h' | h'
      · exact h'
      · rw [List.drop_of_length_le h'] at hz; cases hz
    have h1 : i < items.size := by omega
    have h2 : i < items2.size := by omega
    rw [List.drop_eq_getElem_cons hlt] at hz
    injection hz with hyx hrest
    have hy : y = items[i] := by have := congrArg Prod.fst hyx; simpa using this
    have hx : x = items2[i] := by have := congrArg Prod.snd hyx; simpa using this
    subst hy hx
    refine wpAny_bind (wpAny_mono (turn i h1 h2 s' hI) (fun r s2 q2 => ?_) fun _ _ x => x)
    cases r with
    | true =>
      wp_walk
      exact ⟨rfl, i + 1, hrest, by omega, q2.1 rfl⟩
    | false =>
      have q3 := q2.2 rfl
      wp_walk
      exact q3
  case fin =>
    rintro ⟨b1, b2⟩ s' ⟨hb', i, hz, hi, hI⟩
    simp only at hb'
    subst hb'
    have hge : min items.size items2.size ≤ i := by
      rcases Nat.lt_or_ge i (items.toList.zip items2.toList).length with h' | h'
      · rw [List.drop_eq_getElem_cons h'] at hz; cases hz
      · exact hZ ▸ h'
    have hi' : i = min items.size items2.size := by omega
    have hR : R (.ok (.ret (.bool (items.size == items2.size)))) s' := fin s' (hi' ▸ hI)
    wp_walk
    simpa [Builtin.Tuple.tupleCompareSizes] using hR
  case h =>
    exact ⟨rfl, 0, rfl, Nat.zero_le _, h0⟩
end
section
variable {prog : Program} {w : World} {A : Around} {E : Value → Shared → Prop} {s : Shared}
theorem rc_tupB {l b : Addr} {items items2 : Array Value} {Q : Value → Shared → Prop} (hu : A.units < cLine) (I : Nat → Shared → Prop)
    (hl : s.heap.IsTuple l items) (hb : s.heap.IsTuple b items2)
    (turn : ∀ i (h1 : i < items.size) (h2 : i < items2.size) s, I i s → wpAny (model prog w) A.in1 (eqBool items[i] items2[i]) (fun r s' => (r = true → I (i + 1) s') ∧ (r = false → Q (.bool false) s')) E s)
    (fin : ∀ s, I (min items.size items2.size) s → Q (.bool (items.size == items2.size)) s) (h : I 0 s) : wpAny (model prog w) A (richCompare .Eq (.ref l) (.ref b)) Q E s := by
  obtain ⟨⟨cls, dd, data, sl⟩, ho, hc, n, hd⟩ := id hl
  obtain ⟨⟨cls2, dd2, data2, sl2⟩, ho2, hc2, n2, hd2⟩ := id hb
  simp only at hc hd hc2 hd2
  subst hc hd hc2 hd2
  refine wpAny_richCompare_same_room (op := .Eq) ⟨_, ho, rfl⟩ ⟨_, ho2, rfl⟩ F.slot_tuple_eq (call_here F.slot_tuple_eq ⟨_, ho, rfl⟩ F.entry_tuple_eq (F.args_tuple_eq_2 _ _) ?_) hu
  exact tuple_eqB (R := wants (fun v s' => v ≠ .notImplemented ∧ Q v s') E) l b items items2 n n2 dd dd2 sl sl2 I (fun i h1 h2 s hI => wpAny_mono (turn i h1 h2 s hI) (fun r s' q => ⟨q.1, fun hr => ⟨(fun x => nomatch x), q.2 hr⟩⟩) fun _ _ x => x) (fun s' q => ⟨(fun x => nomatch x), fin s' q⟩) ho ho2 h
end
end GQ
namespace Dl
open PySem L2
mutual
/-- data that its value tells -/
def plD : D → Bool
  | .non => true
  | .bl _ => true
  | .int _ => true
  | .str _ => true
  | .tup ds => plL ds
  | _ => false
def plL : List D → Bool
  | [] => true
  | d :: ds => plD d && plL ds
end
section
variable {X : Cx} {S : Type} {B : Amb S} {pins : List (Addr × Obj)} {σ : L2.St} {H : Hp} {al : List Addr} {s : Shared}
mutual
theorem dv_uniq (I : Inv X pins σ H s) : ∀ {d e : D} {v : V}, plD d = true → plD e = true → Dv X.K B ⟨H, al⟩ d v → Dv X.K B ⟨H, al⟩ e v → d = e
  | .non, e, v, _, he, h, k => by
    cases (show v = .non from h)
    cases e <;> first | rfl | cases he | skip
    all_goals first | (cases (show V.non = _ from k)) | (obtain ⟨a, vs, q, _⟩ := k; cases q)
  | .bl b, e, v, _, he, h, k => by
    cases (show v = .bl b from h)
    cases e <;> first | cases he | skip
    all_goals first | (cases (show V.bl b = _ from k) <;> rfl) | (obtain ⟨a, vs, q, _⟩ := k; cases q)
  | .int b, e, v, _, he, h, k => by
    cases (show v = .int b from h)
    cases e <;> first | cases he | skip
    all_goals first | (cases (show V.int b = _ from k) <;> rfl) | (obtain ⟨a, vs, q, _⟩ := k; cases q)
  | .str b, e, v, _, he, h, k => by
    cases (show v = .str b from h)
    cases e <;> first | cases he | skip
    all_goals first | (cases (show V.str b = _ from k) <;> rfl) | (obtain ⟨a, vs, q, _⟩ := k; cases q)
  | .tup ds, e, v, hd, he, h, k => by
    obtain ⟨a, vs, rfl, h2, h3⟩ := h
    cases e with
    | tup es =>
      obtain ⟨a', vs', q, k2, k3⟩ := k
      cases q
      have := I.tuple_inj h2 k2
      subst this
      rw [dvl_uniq I hd he h3 k3]
    | non => cases (show V.ref a = .non from k)
    | bl b => cases (show V.ref a = .bl b from k)
    | int b => cases (show V.ref a = .int b from k)
    | str b => cases (show V.ref a = .str b from k)
    | _ => cases he
  | .lst _, _, _, hd, _, _, _ => by cases hd
  | .dct _ _, _, _, hd, _, _, _ => by cases hd
  | .hnd, _, _, hd, _, _, _ => by cases hd
  | .exn _ _ _, _, _, hd, _, _, _ => by cases hd
  | .err _ _ _, _, _, hd, _, _, _ => by cases hd
  | .ins _ _ _, _, _, hd, _, _, _ => by cases hd
  | .obj _, _, _, hd, _, _, _ => by cases hd
  | .ftp _, _, _, hd, _, _, _ => by cases hd
theorem dvl_uniq (I : Inv X pins σ H s) : ∀ {ds es : List D} {vs : List V}, plL ds = true → plL es = true → DvL X.K B ⟨H, al⟩ ds vs → DvL X.K B ⟨H, al⟩ es vs → ds = es
  | [], [], _, _, _, _, _ => rfl
  | [], e :: es, vs, _, _, h, k => by
    cases (show vs = [] from h)
    obtain ⟨v, r, q, _⟩ := k
    cases q
  | d :: ds, [], vs, _, _, h, k => by
    cases (show vs = [] from k)
    obtain ⟨v, r, q, _⟩ := h
    cases q
  | d :: ds, e :: es, vs, hd, he, h, k => by
    obtain ⟨v, r, rfl, h1, h2⟩ := h
    obtain ⟨v', r', q, k1, k2⟩ := k
    cases q
    obtain ⟨p1, p2⟩ := Bool.and_eq_true_iff.mp (show (plD d && plL ds) = true from hd)
    obtain ⟨q1, q2⟩ := Bool.and_eq_true_iff.mp (show (plD e && plL es) = true from he)
    rw [dv_uniq I p1 q1 h1 k1, dvl_uniq I p2 q2 h2 k2]
end
end
/-- an instance of the class, its fields plain -/
def plI (c : Str) : D → Bool
  | .ins c' _ ds => decide (c' = c) && plL ds
  | _ => false
theorem plI_eq {c : Str} {d : D} (h : plI c d = true) : ∃ ks ds, d = .ins c ks ds ∧ plL ds = true := by
  unfold plI at h
  split at h
  · rename_i c' ks ds
    obtain ⟨h1, h2⟩ := Bool.and_eq_true_iff.mp h
    rw [of_decide_eq_true h1]
    exact ⟨ks, ds, rfl, h2⟩
  · cases h
open Classical in
noncomputable def eqLm {S : Type} (c : Str) (g : List D → S → Option (D × S)) : List D → List D → S → Option (Bool × S)
  | d :: ds, e :: es, s => if plI c d = true ∧ plI c e = true ∧ (d = e → g [d, e] s = some (.bl true, s)) then (g [d, e] s).bind fun r => (blD r.1).bind fun b => if b = true then eqLm c g ds es r.2 else some (false, r.2) else none
  | [], [], s => some (true, s)
  | [], _ :: _, s => some (false, s)
  | _ :: _, [], s => some (false, s)
noncomputable def mEqTI {S : Type} (c : Str) (g : List D → S → Option (D × S)) (a b : ME S) : ME S := fun env s => (a env s).bind fun p => (b env p.2).bind fun q => match p.1, q.1 with
  | .tup ds, .tup es => (eqLm c g ds es q.2).map fun r => (.bl r.1, r.2)
  | _, _ => none
def EqLs (U : Hp → Prop) (C : Addr) (sp : Sp) : List V → List V → Hp → (Bool → Hp → Prop) → Prop
  | x :: xs, y :: ys, H, Q => (∃ a, x = .ref a ∧ y = .ref a ∧ (U H → EqLs U C sp xs ys H Q)) ∨ ∃ a b dx dy fs gs, a ≠ b ∧ x = .ref a ∧ y = .ref b ∧ H a = some (.ins C dx fs) ∧ H b = some (.ins C dy gs) ∧ sp [.ref a, .ref b] H (fun v H' => ∃ r, v = .bl r ∧ (if r = true then EqLs U C sp xs ys H' Q else Q false H')) (fun _ _ _ => False)
  | [], [], H, Q => Q true H
  | [], _ :: _, H, Q => Q false H
  | _ :: _, [], H, Q => Q false H
/-- plain data is told by its value -/
def Uq (K : PySem.W.Frag) {S : Type} (B : Amb S) (H : Hp) : Prop := ∀ (al : List Addr) (d e : D) (v : V), plD d = true → plD e = true → Dv K B ⟨H, al⟩ d v → Dv K B ⟨H, al⟩ e v → d = e
def rEqTI (K : PySem.W.Frag) {S : Type} (B : Amb S) (C : Addr) (sp : Sp) : R2 := fun x y H Q => ∃ a b xs ys, x = .ref a ∧ y = .ref b ∧ SqT K H a xs ∧ SqT K H b ys ∧ EqLs (Uq K B) C sp xs ys H fun r H' => Q (.bl r) H'
section
variable {X : Cx} {S : Type} {B : Amb S}
theorem rc_insB {C f : Addr} {fd : FuncData} {ps : List Str} {n : Nat} {sp : Sp} (F : FnOk X.prog X.w X.K X.mg X.base CX0 n f fd ps sp) (hs : PySem.W.findIn X.K (.ref C) "__eq__" = some (some (.ref f))) (hf : PySem.W.isFn X.K (.ref f) = true) (hb : Binds X.K fd ps []) {A : Around} (hr : Room n A) (hfr : A.frames = X.A.frames)
    {pins : List (Addr × Obj)} {σ : L2.St} {H : Hp} {s : Shared} {a b dx dy : Addr} {fs gs : List (Str × V)} {Q : Bool → Hp → Prop} (I : Inv X pins σ H s) (ha : H a = some (.ins C dx fs)) (hb' : H b = some (.ins C dy gs)) (hsp : sp [.ref a, .ref b] H (fun v H' => ∃ r, v = .bl r ∧ Q r H') (fun _ _ _ => False)) :
    wpAny (model X.prog X.w) A (richCompare .Eq (.ref a) (.ref b)) (fun v s' => ∃ r, v = .bool r ∧ ∃ H', Inv X pins σ H' s' ∧ Q r H') X.xe s := by
  obtain ⟨mA, J, _⟩ := ins_get I.hok ha
  obtain ⟨mB, J', _⟩ := ins_get I.hok hb'
  obtain ⟨od, J, _⟩ := J.look
  obtain ⟨od', J', _⟩ := J'.look
  obtain ⟨m, hF⟩ := I.fr
  refine PySem.W.cmp_K (op := .Eq) (tb := .ref C) hr.units0 hF I.ok.mod.kin J J'.type (by simp [PySem.W.notFirst]) hs hf ?_
  refine wpAny_mono (call_eq F hb hr hfr I hsp) (fun r s' q => ?_) fun _ _ e => e
  obtain ⟨z, H', I', rz, r, ez, q⟩ := q
  subst ez
  cases rz
  exact ⟨r, rfl, H', I', q⟩
theorem op_eqTI {C f : Addr} {fd : FuncData} {ps : List Str} {n j : Nat} {sp : Sp} (F : FnOk X.prog X.w X.K X.mg X.base CX0 n f fd ps sp) (hs : PySem.W.findIn X.K (.ref C) "__eq__" = some (some (.ref f))) (hf : PySem.W.isFn X.K (.ref f) = true) (hb : Binds X.K fd ps []) (hr : Room j X.A) (hj : n + 1 ≤ j) : OpR X (compareOp .Eq) (rEqTI X.K B C sp) := by
  intro pins s σ H x y v u Q I rx ry h
  obtain ⟨a, b, xs, ys, rfl, rfl, ha, hb', hq⟩ := h
  cases rx
  cases ry
  have hr1 := hr.mono hj
  obtain ⟨its, r, e, z⟩ := I.tuple ha
  obtain ⟨its2, r2, e2, z2⟩ := I.tuple hb'
  have l1 := r.length
  have l2 := r2.length
  show wpAny (model X.prog X.w) X.A (richCompare .Eq (.ref a) (.ref b)) (EP X pins σ Q) X.xe s
  refine GQ.rc_tupB hr.units0 (fun i s' => ∃ H', Inv X pins σ H' s' ∧ EqLs (Uq X.K B) C sp (xs.drop i) (ys.drop i) H' fun r H' => Q (.bl r) H') e e2 (fun i h1 h2 s' hI => ?_) (fun s' hI => ?_) ⟨H, I, hq⟩
  · obtain ⟨H1, I1, el⟩ := hI
    have h1' : i < its.length := by simpa using h1
    have h2' : i < its2.length := by simpa using h2
    have k1 : i < xs.length := by omega
    have k2 : i < ys.length := by omega
    rw [List.drop_eq_getElem_cons k1, List.drop_eq_getElem_cons k2] at el
    have g1 : its[i]? = some its.toArray[i] := by rw [List.getElem?_eq_getElem h1'] <;> simp
    have g2 : its2[i]? = some its2.toArray[i] := by rw [List.getElem?_eq_getElem h2'] <;> simp
    obtain ⟨u, hu, ru⟩ := r.get (List.getElem?_eq_getElem k1)
    obtain ⟨w, hw, rw'⟩ := r2.get (List.getElem?_eq_getElem k2)
    rw [g1] at hu
    rw [g2] at hw
    rw [Option.some.inj hu, Option.some.inj hw]
    rcases el with ⟨c, ex, ey, el⟩ | ⟨c, d, dx, dy, fs, gs, hne, ex, ey, hc, hd, hsp⟩
    · rw [ex] at ru
      rw [ey] at rw'
      cases ru
      cases rw'
      exact SeqAt.EqAt.same (A := X.A.in1) (s := s') (.ref c) X.prog X.w X.xe _ ⟨fun _ => ⟨H1, I1, el fun al d e v => dv_uniq I1⟩, fun h => by cases h⟩
    · rw [ex] at ru
      rw [ey] at rw'
      cases ru
      cases rw'
      refine GQ.eqBool_refG hne (wpAny_mono (rc_insB F hs hf hb hr1.in1 rfl I1 hc hd hsp) (fun v s2 q => ?_) fun _ _ x => x)
      obtain ⟨t, rfl, H2, I2, q⟩ := q
      refine ⟨t, rfl, fun ht => ?_, fun ht => ?_⟩
      · subst ht
        exact ⟨H2, I2, q⟩
      · subst ht
        exact ⟨.bl false, H2, I2, rfl, q⟩
  · obtain ⟨H1, I1, el⟩ := hI
    have es1 : its.toArray.size = xs.length := by rw [List.size_toArray]; omega
    have es2 : its2.toArray.size = ys.length := by rw [List.size_toArray]; omega
    rw [es1, es2] at el ⊢
    rcases Nat.lt_trichotomy xs.length ys.length with hlt | heq | hgt
    · rw [Nat.min_eq_left (by omega), List.drop_length, List.drop_eq_getElem_cons hlt] at el
      rw [show (xs.length == ys.length) = false from beq_eq_false_iff_ne.mpr (by omega)]
      exact ⟨.bl false, H1, I1, rfl, el⟩
    · rw [heq, Nat.min_self, List.drop_length, ← heq, List.drop_length] at el
      rw [heq, beq_self_eq_true]
      exact ⟨.bl true, H1, I1, rfl, el⟩
    · rw [Nat.min_eq_right (by omega), List.drop_length, List.drop_eq_getElem_cons hgt] at el
      rw [show (xs.length == ys.length) = false from beq_eq_false_iff_ne.mpr (by omega)]
      exact ⟨.bl false, H1, I1, rfl, el⟩
theorem uq_list {K : PySem.W.Frag} {H : Hp} {al : List Addr} (U : Uq K B H) : ∀ {ds es : List D} {vs : List V}, plL ds = true → plL es = true → DvL K B ⟨H, al⟩ ds vs → DvL K B ⟨H, al⟩ es vs → ds = es
  | [], [], _, _, _, _, _ => rfl
  | [], e :: es, vs, _, _, h, k => by
    cases (show vs = [] from h)
    obtain ⟨v, r, q, _⟩ := k
    cases q
  | d :: ds, [], vs, _, _, h, k => by
    cases (show vs = [] from k)
    obtain ⟨v, r, q, _⟩ := h
    cases q
  | d :: ds, e :: es, vs, hd, he, h, k => by
    obtain ⟨v, r, rfl, h1, h2⟩ := h
    obtain ⟨v', r', q, k1, k2⟩ := k
    cases q
    obtain ⟨p1, p2⟩ := Bool.and_eq_true_iff.mp (show (plD d && plL ds) = true from hd)
    obtain ⟨q1, q2⟩ := Bool.and_eq_true_iff.mp (show (plD e && plL es) = true from he)
    rw [U al d e v p1 q1 h1 k1, uq_list U p2 q2 h2 k2]
theorem eqls_D {K : PySem.W.Frag} {c : Str} {g : List D → S → Option (D × S)} : ∀ (ds es : List D) (xs ys : List V) (F : Fz) (H : Hp) (s s' : S) (t : Bool) (Q : Bool → Hp → Prop), Ok B F H s → DvL K B F ds xs → DvL K B F es ys → eqLm c g ds es s = some (t, s') →
    (∀ F' H', Ev B F H F' H' s' → Q t H') → EqLs (Uq K B) (He.ga K c) (spD K B 2 g) xs ys H Q
  | [], [], xs, ys, F, H, s, s', t, Q, o, hx, hy, hm, hq => by
    cases (show xs = [] from hx)
    cases (show ys = [] from hy)
    cases (show some (true, s) = some (t, s') from hm)
    exact hq F H (Ok.refl o)
  | [], e :: es, xs, ys, F, H, s, s', t, Q, o, hx, hy, hm, hq => by
    cases (show xs = [] from hx)
    obtain ⟨v, r, rfl, _⟩ := hy
    cases (show some (false, s) = some (t, s') from hm)
    exact hq F H (Ok.refl o)
  | d :: ds, [], xs, ys, F, H, s, s', t, Q, o, hx, hy, hm, hq => by
    cases (show ys = [] from hy)
    obtain ⟨v, r, rfl, _⟩ := hx
    cases (show some (false, s) = some (t, s') from hm)
    exact hq F H (Ok.refl o)
  | d :: ds, e :: es, xs, ys, F, H, s, s', t, Q, o, hx, hy, hm, hq => by
    obtain ⟨x, xr, rfl, x1, x2⟩ := hx
    obtain ⟨y, yr, rfl, y1, y2⟩ := hy
    unfold eqLm at hm
    split at hm
    · rename_i hc
      obtain ⟨c1, c2, c3⟩ := hc
      obtain ⟨kd, dd, ed, pd⟩ := plI_eq c1
      obtain ⟨ke, de, ee, pe⟩ := plI_eq c2
      cases e3 : g [d, e] s with
      | none => rw [e3] at hm; cases hm
      | some r =>
        obtain ⟨z, s3⟩ := r
        rw [e3, Option.bind_some] at hm
        cases z with
        | bl b =>
          have hm2 : (if b = true then eqLm c g ds es s3 else some (false, s3)) = some (t, s') := hm
          have x1' := x1
          have y1' := y1
          rw [ed] at x1'
          rw [ee] at y1'
          obtain ⟨xa, xd, xf, rfl, g1, g2, g3, g4⟩ := x1'
          obtain ⟨ya, yd, yf, rfl, k1, k2, k3, k4⟩ := y1'
          by_cases hab : xa = ya
          · subst hab
            refine .inl ⟨xa, rfl, rfl, fun U => ?_⟩
            rw [g1] at k1
            cases k1
            have hde : d = e := by
              rw [ed, ee, ← g3, ← k3]
              congr 1
              have sm : Sm F ⟨H, F.al⟩ := ⟨o.sub, List.prefix_refl _⟩
              exact uq_list U pd pe (DvL.ext sm g4) (DvL.ext sm k4)
            have h3 := c3 hde
            rw [h3] at e3
            cases e3
            rw [if_pos rfl] at hm2
            exact eqls_D ds es xr yr F H s s' t Q o x2 y2 hm2 hq
          · refine .inr ⟨xa, ya, xd, yd, xf, yf, hab, rfl, rfl, o.sub _ _ g1, o.sub _ _ k1, rfl, F, s, [d, e], .bl b, s3, ⟨_, _, rfl, x1, _, _, rfl, y1, rfl⟩, o, e3, fun v F3 H3 v3 hd => ⟨b, hd, ?_⟩⟩
            cases b with
            | true =>
              rw [if_pos rfl] at hm2 ⊢
              exact eqls_D ds es xr yr F3 H3 s3 s' t Q v3.ok (x2.ext (v3.sameF o)) (y2.ext (v3.sameF o)) hm2 fun F' H' v' => hq F' H' (v3.trans v')
            | false =>
              rw [if_neg Bool.false_ne_true] at hm2 ⊢
              cases hm2
              exact hq F3 H3 v3
        | _ => cases hm
    · cases hm
section
variable {a b : Expr} {ma mb : ME S} {pos : Pos} {c : Str} {k j : Nat} {g : List D → S → Option (D × S)}
theorem DEq.eqT (G : DEq X.prog X.w X.K X.mg X.base B c k g) (hr : Room j X.A) (hj : k + 1 ≤ j := by decide) : OpR X (compareOp .Eq) (rEqTI X.K B (He.ga X.K c) (spD X.K B 2 g)) := by
  obtain ⟨f, fd, ps, h1, h2, h3, h4, h5⟩ := G
  exact op_eqTI h5 h1 h2 h3 hr hj
theorem eqTI_D {σ : L2.St} {H : Hp} {Q : VK} (h : tD X.K B (mEqTI c g ma mb) σ H Q) : tOp (rEqTI X.K B (He.ga X.K c) (spD X.K B 2 g)) (tD X.K B ma) (tD X.K B mb) σ H Q := by
  obtain ⟨env, F, s, d, s', E, o, hm, hq⟩ := h
  unfold mEqTI at hm
  cases e1 : ma env s with
  | none => rw [e1] at hm; cases hm
  | some p =>
    obtain ⟨x, s1⟩ := p
    rw [e1, Option.bind_some] at hm
    dsimp only at hm
    cases e2 : mb env s1 with
    | none => rw [e2] at hm; cases hm
    | some q =>
      obtain ⟨y, s2⟩ := q
      rw [e2, Option.bind_some] at hm
      dsimp only at hm
      split at hm
      · rename_i ds es
        cases e3 : eqLm c g ds es s2 with
        | none => rw [e3] at hm; cases hm
        | some r =>
          obtain ⟨t, s3⟩ := r
          rw [e3] at hm
          cases hm
          refine ⟨env, F, s, _, s1, E, o, e1, fun v F1 H1 v1 hx => ⟨env, F1, s1, _, s2, E.step o v1, v1.ok, e2, fun u F2 H2 v2 hy => ?_⟩⟩
          have hx2 := hx.ext (v2.sameF v1.ok)
          obtain ⟨xa, xs, rfl, g2, g3⟩ := hx2
          obtain ⟨ya, ys, rfl, k2, k3⟩ := hy
          refine ⟨xa, ya, xs, ys, rfl, rfl, sqT_ext v2.ok.sub g2, sqT_ext v2.ok.sub k2, ?_⟩
          exact eqls_D ds es xs ys F2 H2 s2 _ t _ v2.ok g3 k3 e3 fun F' H' v' => hq _ F' H' ((v1.trans v2).trans v') rfl
      · cases hm
theorem d_eqTI (ho : OpR X (compareOp .Eq) (rEqTI X.K B (He.ga X.K c) (spD X.K B 2 g))) (ha : PE X a (tD X.K B ma)) (hb : PE X b (tD X.K B mb)) (hm : behindInMarks .Eq b = false := by first | exact nomark _ | rfl) :
    PE X (.Compare a [.Eq] [b] pos) (tD X.K B (mEqTI c g ma mb)) := pe_w (pe_cmpR ho ha hb hm) fun _ _ _ h => eqTI_D h
end
end
end Dl

set_option Elab.async false
set_option linter.all false
set_option maxRecDepth 100000
set_option maxHeartbeats 4000000
/-! D44: sorted(xs) of a list of unlike texts. -/
namespace Dl
open PySem PySem.Spec PyProof.Rows L2
section
variable {X : Cx} {S : Type} {B : Amb S} {a : Expr} {ml : ML S} {pos p1 : Pos}
end
end Dl

set_option Elab.async false
set_option linter.all false
set_option maxRecDepth 100000
set_option maxHeartbeats 4000000
/-! D45: x = list(e), x a list of one's own. -/
namespace Dl
open PySem L2
section
variable {X : Cx} {S : Type} {B : Amb S} {a : Expr} {ml : ML S} {pos p1 : Pos}
end
end Dl

set_option Elab.async false
set_option linter.all false
set_option maxRecDepth 100000
set_option maxHeartbeats 4000000
/-! D46: dict(xs) of a list of pairs of unlike keys. -/
namespace Dl
open PySem L2
section
variable {K : PySem.W.Frag} {S : Type} {B : Amb S}
end
end Dl

set_option Elab.async false
set_option linter.all false
set_option maxRecDepth 100000
set_option maxHeartbeats 4000000
/-! S12: sorted of tuples that begin with a text and a datum, the pairs of these unlike. -/
namespace SrtK
open PySem PySem.Builtin PyProof.Rows Srt SrtO Dl SrtT
open PySem.W
def kD (z : Str × PyData) : PyData := .tuple [.str z.1, z.2]
def ltK (z y : Str × PyData) : Bool := dataLt (kD z) (kD y)
/-- a tuple that begins with the text and what reads as the datum -/
def BegD (h : Heap) (v : Value) (z : Str × PyData) : Prop := ∃ (a : Addr) (o : Obj) (t : Tok) (y : Value) (r : List Value) (n : Nat) (as : List Addr), v = .ref a ∧ h.get? a = some o ∧ o.cls = .type "tuple" ∧ o.data = .seq (.str z.1 t :: y :: r).toArray n ∧ Reads h y z.2 as
theorem BegD.keeps {h h' : Heap} {v : Value} {z : Str × PyData} (p : BegD h v z) (k : ∀ b o, h.get? b = some o → h'.get? b = some o) : BegD h' v z := by
  obtain ⟨a, o, t, y, r, n, as, e, ho, hc, hd, rd⟩ := p
  exact ⟨a, o, t, y, r, n, as, e, k a o ho, hc, hd, PyProof.Rows.Reads.keeps k rd⟩
section
variable {prog : Program} {w : World} {A : Around} {E : Value → Shared → Prop} {s : Shared}
end
end SrtK

set_option Elab.async false
set_option linter.all false
set_option maxRecDepth 100000
set_option maxHeartbeats 4000000
/-! S13: the call, and over data. -/
namespace Dl
open PySem PySem.Spec PyProof.Rows L2 SrtT SrtK
open PySem.W (alike)
/-! ### by insertion, for any order -/
/-! ### the call -/
def KsOk (ks : List (Str × PyData)) : Prop := (∀ z ∈ ks, ∀ y ∈ ks, alike z.2 y.2 = true) ∧ (∀ z ∈ ks, z.2.depth ≤ 62) ∧ ks.Pairwise fun z y => ltK z y = true ∨ ltK y z = true
section
variable {X : Cx}
end
end Dl
namespace Dl
open PySem PySem.Spec PyProof.Rows L2 SrtT SrtK
open PySem.W (alike)
instance (ks : List (Str × PyData)) : Decidable (KsOk ks) := by unfold KsOk; exact inferInstance
section
variable {K : PySem.W.Frag} {S : Type} {B : Amb S} {F : Fz}
end
end Dl

set_option Elab.async false
set_option linter.all false
set_option maxRecDepth 100000
set_option maxHeartbeats 4000000
/-! D47: the hook with a shorter list of objects: what modules, code objects and the like name is not followed. -/
namespace Dl
open PySem L2
def follow (o : Obj) : Bool := match o.cls with
  | .type c => decide (c = "dict") || (decide (c = "function") || (decide (c = "type") || (decide (c = "tuple") || decide (c = "cell"))))
  | .ref _ => true
  | _ => false
def growS (g : Addr → Option Obj) (new : List Addr) : List Addr := (new.flatMap fun a => match g a with
  | some o => if follow o = true then He.refsD o else []
  | none => []).eraseDups
/-- the objects that are reached, those that came last ahead -/
def asS (g : Addr → Option Obj) : Nat → List Addr × List Addr
  | 0 => ([mainGlobals], [mainGlobals])
  | n + 1 => let q := asS g n
    let r := (growS g q.2).filter fun a => !q.1.contains a
    (q.1 ++ r, r)
def frS (n : Nat) (g : Addr → Option Obj) : PySem.W.Frag := He.frG g ((asS g n).1 ++ [PySem.cStatics])
def obsS (n : Nat) (fa : List He.Fa) (fn : List He.DefD) (ts : List (Str × D)) (file : Str) (errs : List ErrD) (exms kits : List (Str × Str × Bool)) (kitb : List (Str × String × Bool)) (g : Addr → Option Obj) : AlZ :=
  ((He.obsD fa fn (frS n g), exOf ts (frS n g)), exB (frS n g) file errs exms kits kitb, errs.map fun d => fnE (frS n g) d.x)
def hookS (n : Nat) (fa : List He.Fa) (fn : List He.DefD) (ts : List (Str × D)) (file : Str) (errs : List ErrD) (exms kits : List (Str × Str × Bool)) (kitb : List (Str × String × Bool)) : PySem.W.Hook where
  α := AlZ
  obs := fun s => obsS n fa fn ts file errs exms kits kitb s.heap.get?
  val := fun _ => ((He.valD fn, true), true, errs.map ErrD.val)
  says := fun _ h => ∃ K : PySem.W.Frag, K.In h ∧ SaysZ fa fn ts file errs exms kits kitb K
  of := fun _ _ e => ⟨_, He.frG_in, ⟨congrArg (fun z : AlZ => z.1.1) e, congrArg (fun z : AlZ => z.1.2) e⟩, congrArg (fun z : AlZ => z.2.1) e, congrArg (fun z : AlZ => z.2.2) e⟩
  keeps := fun _ _ _ ⟨K, hK, c⟩ k => ⟨K, PySem.W.Frag.In.keeps hK k, c⟩
theorem obsS_eq {n : Nat} {fa : List He.Fa} {fn : List He.DefD} {ts : List (Str × D)} {file : Str} {errs : List ErrD} {exms kits : List (Str × Str × Bool)} {kitb : List (Str × String × Bool)} {g : Addr → Option Obj} {s : Shared} (h : ∀ a, g a = s.heap.get? a) : obsS n fa fn ts file errs exms kits kitb g = (hookS n fa fn ts file errs exms kits kitb).obs s := by
  have e : g = s.heap.get? := funext h
  rw [e]
  rfl
end Dl

set_option Elab.async false
set_option linter.all false
set_option maxRecDepth 100000
set_option maxHeartbeats 4000000
/-! D48: zip of two sequences, each a tuple or a list. -/
namespace Gz
open PySem PySem.Spec PyProof.Rows L2
/-- a walk: what it stands on, what it yields, when it is at its end -/
structure Dr (prog : Program) (w : World) (A : Around) (it : Addr) (fp : List Addr) (n : Nat) (Pv : Nat → Value → Prop) (St : Nat → Heap → Prop) : Prop where
  frame : ∀ i h h', St i h → (∀ b ∈ fp, ∀ o, h.get? b = some o → h'.get? b = some o) → St i h'
  item : ∀ i (s : Shared) (Q E : Value → Shared → Prop), i < n → St i s.heap → (∀ x h' tk, Pv i x → St (i + 1) h' → Heap.SameBut it s.heap h' → Q x { s with heap := h', toks := tk }) → wpAny (model prog w) A (Builtin.SmallTypes.nextOf (.ref it)) Q E s
  done : ∀ i (s : Shared) (Q E : Value → Shared → Prop), n ≤ i → St i s.heap → (∀ h' e, Heap.ExtBut it s.heap h' → (∃ o, h'.get? e = some o ∧ o.cls = .type "StopIteration") → E (.ref e) { s with heap := h' }) → wpAny (model prog w) A (Builtin.SmallTypes.nextOf (.ref it)) Q E s
section
variable {prog : Program} {w : World} {A : Around} {E : Value → Shared → Prop} {s : Shared}
variable {z TI TO i1 i2 : Addr} {f1 f2 : List Addr} {n1 n2 : Nat} {P1 P2 : Nat → Value → Prop} {S1 S2 : Nat → Heap → Prop} {a b : Value}
theorem up {it c : Addr} {fp : List Addr} {n i : Nat} {Pv : Nat → Value → Prop} {St : Nat → Heap → Prop} {h h' : Heap} (D : Dr prog w A it fp n Pv St) (sb : Heap.SameBut c h h') (hc : c ∉ fp) (st : St i h) : St i h' :=
  D.frame _ _ _ st fun b hb o e => sb.extBut _ _ (fun q => hc (q ▸ hb)) e
end
end Gz

set_option Elab.async false
set_option linter.all false
set_option maxRecDepth 100000
set_option maxHeartbeats 4000000
/-! D49: zip of two sequences made, walked. -/
namespace Gz
open PySem PySem.Spec PyProof.Rows L2
/-- k: is it a list? -/
def itN (k : Bool) : String := if k then "list_iterator" else "tuple_iterator"
def IsS (k : Bool) (h : Heap) (l : Addr) (xs : Array Value) : Prop := if k then h.IsList l xs else h.IsTuple l xs
def IsI (k : Bool) (h : Heap) (it l : Addr) (i : Nat) : Prop := if k then h.IsListIter it l i else h.IsTupleIter it l i
theorem IsS.lt {k : Bool} {h : Heap} {l : Addr} {xs : Array Value} (e : IsS k h l xs) : l < h.objs.size := by
  cases k with
  | true => obtain ⟨_, q, _⟩ := (show h.IsList l xs from e); exact Heap.lt_size q
  | false => obtain ⟨_, q, _⟩ := (show h.IsTuple l xs from e); exact Heap.lt_size q
theorem IsS.at {k : Bool} {h h' : Heap} {l : Addr} {xs : Array Value} (e : IsS k h l xs) (hk : ∀ o, h.get? l = some o → h'.get? l = some o) : IsS k h' l xs := by
  cases k with
  | true => exact Heap.IsList.at (show h.IsList l xs from e) hk
  | false => obtain ⟨o, q, r⟩ := (show h.IsTuple l xs from e); exact (show h'.IsTuple l xs from ⟨o, hk o q, r⟩)
theorem IsI.obj {k : Bool} {h : Heap} {it l : Addr} {i : Nat} (e : IsI k h it l i) : ∃ o, h.get? it = some o ∧ ∀ v, o.data ≠ .cell v := by
  cases k with
  | true => obtain ⟨o, q, _, d⟩ := (show h.IsListIter it l i from e); exact ⟨o, q, fun v z => by rw [d] at z; cases z⟩
  | false => obtain ⟨o, q, _, d⟩ := (show h.IsTupleIter it l i from e); exact ⟨o, q, fun v z => by rw [d] at z; cases z⟩
theorem IsI.at {k : Bool} {h h' : Heap} {it l : Addr} {i : Nat} (e : IsI k h it l i) (hk : ∀ o, h.get? it = some o → h'.get? it = some o) : IsI k h' it l i := by
  cases k with
  | true => exact Heap.IsListIter.at (show h.IsListIter it l i from e) hk
  | false => exact Heap.IsTupleIter.at (show h.IsTupleIter it l i from e) hk
theorem IsI.new (k : Bool) {h : Heap} {it l : Addr} (q : h.get? it = some { cls := .type (itN k), data := .fields #[.ref l, .int 0 0] }) : IsI k h it l 0 := by
  cases k with
  | true => exact (show h.IsListIter it l 0 from ⟨_, q, rfl, rfl⟩)
  | false => exact (show h.IsTupleIter it l 0 from ⟨_, q, rfl, rfl⟩)
section
variable {prog : Program} {w : World} {A : Around} {E : Value → Shared → Prop} {s : Shared}
end
/-- a tuple or a list of the walked heap -/
def Sq (K : PySem.W.Frag) (k : Bool) (H : Hp) (a : Addr) (xs : List V) : Prop := if k then SqL K H a xs else SqT K H a xs
theorem Sq.vals {X : Cx} {k : Bool} {pins : List (Addr × PySem.Obj)} {σ : L2.St} {H : Hp} {s : Shared} {a : Addr} {xs : List V} (I : Inv X pins σ H s) (h : Sq X.K k H a xs) : ∃ us, Vals xs us ∧ IsS k s.heap a us.toArray := by
  cases k with
  | true => obtain ⟨us, r, p, _⟩ := I.list (show SqL X.K H a xs from h); exact ⟨us, r, p.isList⟩
  | false => obtain ⟨us, r, p, _⟩ := I.tuple (show SqT X.K H a xs from h); exact ⟨us, r, p⟩
theorem Sq.inj {X : Cx} {k : Bool} {pins : List (Addr × PySem.Obj)} {σ : L2.St} {H : Hp} {s : Shared} {a : Addr} {xs ys : List V} (I : Inv X pins σ H s) (h : Sq X.K k H a xs) (h' : Sq X.K k H a ys) : xs = ys := by
  cases k with
  | true => exact I.list_inj (show SqL X.K H a xs from h) (show SqL X.K H a ys from h')
  | false => exact I.tuple_inj (show SqT X.K H a xs from h) (show SqT X.K H a ys from h')
end Gz
namespace Dl
open PySem L2
section
variable {X : Cx} {S : Type} {B : Amb S} {F1 : Fz} {e e2 : Expr} {ml : ML S} {p pos tpos : Pos} {elts : List Expr} {kk : Nat}
end
end Dl

set_option Elab.async false
set_option linter.all false
set_option maxRecDepth 100000
set_option maxHeartbeats 4000000
/-! D50: an own __eq__ asked of a thing of another kind; isinstance of an own class, of any data. -/
namespace Dl
open PySem L2
theorem ty_first (n : String) (hn : n = "NoneType" ∨ n = "bool" ∨ n = "int" ∨ n = "str" ∨ n = "tuple" ∨ n = "list" ∨ n = "dict") {K : PySem.W.Frag} {C : Addr} : PySem.W.subIn K (.type n) (.ref C) = some false := by
  unfold PySem.W.subIn
  rcases hn with h | h | h | h | h | h | h <;> subst h <;> rfl
theorem nm_of {d : D} {n : String} (h : nmD d = some n) : n = "NoneType" ∨ n = "bool" ∨ n = "int" ∨ n = "str" ∨ n = "tuple" ∨ n = "list" ∨ n = "dict" := by
  cases d <;> cases h <;> simp
/-- a built-in type and an own class: told by what another own class is -/
theorem ty_own {d : D} {n : String} (h : nmD d = some n) {K : PySem.W.Frag} {C C' : Addr} (e : PySem.W.kitOne K (.ref C') (.ref C) = some false) : PySem.W.kitOne K (.type n) (.ref C) = some false := by
  unfold PySem.W.kitOne at e ⊢
  rw [if_neg (show ¬ (Value.type n == Value.ref C) = true from fun z => by simp at z)]
  split at e
  · cases e
  · unfold PySem.W.kitCls at e ⊢
    dsimp only at e ⊢
    split at e
    · rename_i c
      rw [if_pos c]
      exact ty_first n (nm_of h)
    · cases e
def isOwnE (tbl : List (Str × Bool)) : D → Option D
  | .ins c _ _ => (tbl.lookup c).map D.bl
  | d => (nmD d).map fun _ => .bl false
section
variable {X : Cx} {S : Type} {B : Amb S} {a b : Expr} {ma mb : ME S} {pos : Pos} {c : Str} {k j : Nat} {g : List D → S → Option (D × S)}
theorem d_isOwnE {p : Pos} {C : Addr} {tbl : List (Str × Bool)} (hT : ∀ q ∈ tbl, Cls X.K (He.ga X.K q.1) ∧ clB X.K (He.ga X.K q.1) = true ∧ PySem.W.kitOne X.K (.ref (He.ga X.K q.1)) (.ref C) = some q.2) (hF : ∃ q ∈ tbl, q.2 = false) (hm : X.mg "isinstance" = none) (ha : PE X a (tD X.K B ma)) (hb : PE X b (tC (.ref C))) (hv : bootBuiltins "isinstance" = some (.builtin "isinstance") := by decide +kernel) (hg : Gl X "isinstance" := by rfl)
    (hs1 : starEach [b] X.env = (false, eval b X.env) :: starEach [] X.env := by rfl)
    (he : starEach (a :: [b]) X.env = (false, eval a X.env) :: starEach [b] X.env := by rfl) (hpl : (backTo pos (starEach [b] X.env)).any (·.1) = false := by rfl) :
    PE X (.Call (.Name "isinstance" p) [a, b] [] pos) (tD X.K B (mU (isOwnE tbl) ma)) :=
  pe_w (pe_callB call_isi hg hm hv (pa_cons ha (pa_cons hb pa_nil hs1) he) (by decide) (by decide) he hpl) fun σ H Q ⟨env, F, s, d, s', E, o, hm, hq⟩ => by
    obtain ⟨x, e1, e2⟩ := un_un hm
    by_cases hx : ∃ c ks ds, x = .ins c ks ds
    · obtain ⟨c, ks, ds, rfl⟩ := hx
      have e2' : (tbl.lookup c).map D.bl = some d := e2
      cases e5 : tbl.lookup c with
      | none => rw [e5] at e2'; cases e2'
      | some r =>
        rw [e5] at e2'
        cases e2'
        obtain ⟨t1, t2, t3⟩ := hT _ (lookup_mem e5)
        unfold clB at t2
        simp only [Bool.and_eq_true, decide_eq_true_eq] at t2
        obtain ⟨c1, c2, c3, c4⟩ := t2
        refine ⟨env, F, s, _, s', E, o, e1, fun v F1 H1 v1 hx => ?_⟩
        obtain ⟨ad, dx, fs, rfl, g1, g2, rfl, g3⟩ := hx
        exact ⟨.ref ad, .ref C, .ref (He.ga X.K c), .ref C, _, rfl, .own C, .base (.ins (v1.ok.sub _ _ g1) t1 c1 c2 c3 c4), t3, hq _ F1 H1 v1 rfl⟩
    · have e3 : ∃ n, nmD x = some n ∧ d = .bl false := by
        cases x with
        | ins c ks ds => exact absurd ⟨c, ks, ds, rfl⟩ hx
        | obj _ => cases e2
        | ftp _ => cases e2
        | hnd => cases e2
        | exn _ _ _ => cases e2
        | err _ _ _ => cases e2
        | _ => cases e2; exact ⟨_, rfl, rfl⟩
      obtain ⟨n, hn, rfl⟩ := e3
      obtain ⟨q, hq1, hq2⟩ := hF
      obtain ⟨_, _, t3⟩ := hT q hq1
      rw [hq2] at t3
      exact ⟨env, F, s, x, s', E, o, e1, fun v F1 H1 v1 hx => ⟨v, .ref C, .type n, .ref C, _, rfl, .own C, tyX_of v1.ok.sub hn hx, ty_own hn t3, hq _ F1 H1 v1 rfl⟩⟩
end
/-! ### sorted of tuples that begin with unlike pairs (text, datum) -/
end Dl

set_option Elab.async false
set_option linter.all false
set_option maxRecDepth 100000
set_option maxHeartbeats 4000000
/-! D51: a dict comprehension set to a name; xs[::-1] of a list. -/
namespace Dl
open PySem PySem.Spec PyProof.Rows L2
section
variable {X : Cx}
variable {S : Type} {B : Amb S} {ma : ME S}
end
end Dl

set_option Elab.async false
set_option linter.all false
set_option maxRecDepth 100000
set_option maxHeartbeats 4000000
/-! D52: the walk over what is a tuple or a list. -/
namespace Dl
open PySem L2
section
variable {X : Cx} {S : Type} {B : Amb S} {tg a : Expr} {ma : ME S}
end
end Dl

set_option Elab.async false
set_option linter.all false
set_option maxRecDepth 100000
set_option maxHeartbeats 4000000
/-! D53: a dict copied into a name. -/
namespace Dl
open PySem L2
section
variable {X : Cx} {S : Type} {B : Amb S} {a : Expr} {ml : ML S} {pos p1 : Pos}
end
end Dl

set_option Elab.async false
set_option linter.all false
set_option maxRecDepth 100000
set_option maxHeartbeats 4000000
/-! D54: == of dicts of plain data. -/
namespace Dl
open PySem L2
/-- what == tells of dicts whose values are plain -/
def rEqK (K : PySem.W.Frag) : R2 := fun x y H Q => ∃ a b ks ls es, x = .ref a ∧ y = .ref b ∧ Rd H a (.dK ks) ∧ Rd H b (.dK ls) ∧
  Paired (fun (p : Key × V) (e : Bool) => (valV ls p.1 = none ∧ e = false) ∨ ∃ u d d', valV ls p.1 = some u ∧ Dp K H p.2 d ∧ Dp K H u d' ∧ eqP d d' = some e) ks es ∧ Q (.bl (ks.length == ls.length && es.all id)) H
section
variable {X : Cx} {pins : List (Addr × Obj)} {σ : St} {H : Hp} {s : Shared}
theorem hits_both (I : Inv X pins σ H s) {A : Around} (hu : A.units + 64 < cLine) {ls : List (Key × V)} {vb : List (Key × Value)} (rb : KV ls vb) {ks : List (Key × V)} {va : List (Key × Value)} {es : List Bool} (ra : KV ks va)
    (h : Paired (fun (p : Key × V) (e : Bool) => (valV ls p.1 = none ∧ e = false) ∨ ∃ u d d', valV ls p.1 = some u ∧ Dp X.K H p.2 d ∧ Dp X.K H u d' ∧ eqP d d' = some e) ks es) : ∃ r, PySem.W.KeqHitsP X.prog X.w A s vb va r ∧ r = es.all id := by
  induction h generalizing va with
  | nil => cases ra; exact ⟨true, .nil, rfl⟩
  | @cons p e ks es h _ ih =>
    cases ra with
    | @cons _ q _ qs hq hqs =>
      obtain ⟨h1, h2⟩ := hq
      obtain ⟨key, v⟩ := q
      have h1' : p.1 = key := h1
      rcases h with ⟨hn, rfl⟩ | ⟨u, d, d', e1, e2, e3, e4⟩
      · have rr : RelO (none : Option V) (valueAt vb key) := by rw [← hn, ← h1']; exact rb.val p.1
        refine ⟨false, .miss ?_, rfl⟩
        cases ev : valueAt vb key with
        | none => rfl
        | some z => rw [ev] at rr; cases rr
      · have rr : RelO (some u) (valueAt vb p.1) := by rw [← e1]; exact rb.val p.1
        obtain ⟨y, hy, ry⟩ := rr.some_of
        rw [h1'] at hy
        obtain ⟨r, k1, k2⟩ := ih hqs
        unfold eqP at e4
        split at e4
        · rename_i c
          obtain ⟨as, r1⟩ := Dp.reads I d p.2 v e2 h2
          obtain ⟨bs, r2⟩ := Dp.reads I d' u y e3 ry
          cases e4
          exact ⟨_, .hit hy (SeqAt.EqAt.eqP (SeqAt.eqAt_plain _ _ _ _ _ _ _ _ r1 r2 c.1 c.2.1 (by have := c.2.2; omega))) k1, by rw [k2]; rfl⟩
        · cases e4
theorem op_eqK (hu : X.A.units + 66 < cLine) : OpR X (compareOp .Eq) (rEqK X.K) := by
  intro pins s σ H x y v u Q I rx ry h
  obtain ⟨a, b, ks, ls, es, rfl, rfl, ha, hb, hp, q⟩ := h
  cases (show v = Value.ref a from rx)
  cases (show u = Value.ref b from ry)
  obtain ⟨_, ya, va, ra, da⟩ := dk_rd I.hok ha
  obtain ⟨_, yb, vb, rb, db⟩ := dk_rd I.hok hb
  obtain ⟨r, k1, k2⟩ := hits_both (A := X.A.in1) I (by show X.A.units + 1 + 64 < cLine; omega) rb ra hp
  refine PySem.W.rcP_dicts (knd := mixKind X.prog X.w) (r := r) ya yb da db (by omega) (fun _ => k1) _ _ ?_
  rw [k2, ← ra.length, ← rb.length]
  exact ⟨.bl _, H, I, rfl, q⟩
end
def hitsD : List Key → List D → List Key → List D → Option (List Bool)
  | k :: ks, d :: ds, k2, d2 => match lookD k2 d2 k with
    | none => (hitsD ks ds k2 d2).map fun r => false :: r
    | some e => match toPy d, toPy e with
      | some a, some b => (eqP a b).bind fun c => (hitsD ks ds k2 d2).map fun r => c :: r
      | _, _ => none
  | [], [], _, _ => some []
  | _, _, _, _ => none
def eqKD (ks : List Key) (ds : List D) : D → Option Bool
  | .dct k2 d2 => (hitsD ks ds k2 d2).map fun r => ks.length == k2.length && r.all id
  | _ => none
section
variable {K : PySem.W.Frag} {S : Type} {B : Amb S} {F : Fz}
theorem hits_dv {F2 : Hp} {k2 : List Key} {d2 : List D} {lvs : List (Key × V)} (hk : lvs.map (·.1) = k2) (hd : DvL K B F d2 (lvs.map (·.2))) (e : Same F F2) : ∀ {kvs : List (Key × V)} {ks : List Key} {ds : List D} {r : List Bool}, kvs.map (·.1) = ks → DvL K B F ds (kvs.map (·.2)) → hitsD ks ds k2 d2 = some r →
    Paired (fun (p : Key × V) (c : Bool) => (valV lvs p.1 = none ∧ c = false) ∨ ∃ u a b, valV lvs p.1 = some u ∧ Dp K F2 p.2 a ∧ Dp K F2 u b ∧ eqP a b = some c) kvs r
  | [], ks, ds, r, h1, h2, h => by
    cases h1
    cases ds with
    | nil => cases h; exact .nil
    | cons d ds => obtain ⟨_, _, e, _⟩ := h2; cases e
  | p :: kvs, ks, ds, r, h1, h2, h => by
    cases h1
    cases ds with
    | nil => cases h2
    | cons d ds =>
      obtain ⟨u0, r0, e0, x1, x2⟩ := h2
      rw [List.map_cons, List.cons.injEq] at e0
      obtain ⟨e1, e2⟩ := e0
      rw [← e2] at x2
      rw [← e1] at x1
      rw [List.map_cons] at h
      unfold hitsD at h
      cases el : lookD k2 d2 p.1 with
      | none =>
        rw [el] at h
        dsimp only at h
        cases e3 : hitsD (kvs.map (·.1)) ds k2 d2 with
        | none => rw [e3] at h; cases h
        | some r1 =>
          rw [e3] at h
          cases h
          exact .cons (.inl ⟨look_none hd (by rw [hk]; exact el), rfl⟩) (hits_dv hk hd e rfl x2 e3)
      | some z =>
        rw [el] at h
        dsimp only at h
        split at h
        · rename_i a b ea eb
          cases ec : eqP a b with
          | none => rw [ec] at h; cases h
          | some c =>
            rw [ec, Option.bind_some] at h
            cases e3 : hitsD (kvs.map (·.1)) ds k2 d2 with
            | none => rw [e3] at h; cases h
            | some r1 =>
              rw [e3] at h
              cases h
              obtain ⟨v, k1, k3⟩ := look_dv hd (by rw [hk]; exact el)
              exact .cons (.inr ⟨v, a, b, k1, dp_of e ea x1, dp_of e eb k3, ec⟩) (hits_dv hk hd e rfl x2 e3)
        · cases h
end
section
variable {X : Cx} {S : Type} {B : Amb S} {a b : Expr} {pos : Pos} {mb : ME S}
end
end Dl

set_option Elab.async false
set_option linter.all false
set_option maxRecDepth 100000
set_option maxHeartbeats 4000000
/-! D55: t.index(x) of a tuple of plain data; a, b = xs.pop(). -/
namespace Dl
open PySem PySem.Spec PyProof.Rows L2
section
variable {X : Cx}
end
section
variable {X : Cx} {S : Type} {B : Amb S} {o e tg : Expr} {ma mo : ME S} {pos : Pos}
end
end Dl

set_option Elab.async false
set_option linter.all false
set_option maxRecDepth 100000
set_option maxHeartbeats 4000000
/-! D56: sorted of a list of data alike in form, of any length. -/
namespace Dl
open PySem PySem.Spec PyProof.Rows L2
open PySem.W (alike AllAlike Sortable EachIs dataLe)
section
variable {X : Cx}
end
section
variable {K : PySem.W.Frag} {S : Type} {B : Amb S}
end
end Dl

set_option Elab.async false
set_option linter.all false
set_option maxRecDepth 100000
set_option maxHeartbeats 4000000
/-! D57: a list comprehension over a dict that stays (locked meanwhile). -/
namespace Dl
open PySem PySem.Spec PyProof.Rows L2
section
variable {X : Cx} {S : Type} {B : Amb S}
/-- the rest of a comprehension's walk, by what its walk yields -/
def LcR (g : TG) (tt : TT) (te : TE) (vs : List Nat) (σ : L2.St) (Q : VK) (J : It) (H1 : Hp) : Prop := ∀ D, H1 D = none → ∃ W : Nat → Nat → Hp → Prop, (∃ m, W 0 m (upd H1 D (.lst []))) ∧ ∀ i m H, W i m H →
  (J.stop i H ∧ Q (.ref D) H) ∨ (J.go i H ∧ ∃ Nx : Hp → Prop, (∀ H', Nx H' → ∃ m', m' < m ∧ W (i + 1) m' H') ∧ ∀ x H', J.yld i H x H' → g x (wipe σ vs) H' fun σ2 H2 => wipe σ2 vs = wipe σ vs ∧ tt σ2 H2 fun b H3 =>
    if b = true then te σ2 H3 fun y H4 => ∃ acc, H4 D = some (.lst acc) ∧ acc.length < sizeLine ∧ Nx (upd H4 D (.lst (acc ++ [y]))) else Nx H3)
theorem comp_J {K : PySem.W.Frag} {g : TG} {gd : D → DE → Option DE} {is vs : List Nat} {c : MT S} {e : ME S} (hg : GD K B is g gd) (his : ∀ i ∈ is, i ∈ vs) {σ : L2.St} {H : Hp} {F : Fz} {env : DE} {s1 s2 : S} {xs rs : List D} {Q : VK} (E : EnvOk K B F H σ env) (o : Ok B F H s1) (hz : xs.length ≤ sizeLine)
    (e2 : compL gd c e (wipeE env vs) xs s1 = some (rs, s2)) (hq : ∀ v F' H', Ev B F H F' H' s2 → Dv K B F' (.lst rs) v → Q v H') {J : It} (jd : JD K B J xs F) : LcR g (tT K B c) (tD K B e) vs σ Q J H := by
  intro L hL
  have v1 : Ev B F H F H s1 := o.refl
  have nL1 : ¬ OwZ B F L := ne_own v1.ok hL
  refine ⟨fun i m H2 => m = xs.length - i ∧ i ≤ xs.length ∧ ∃ F2 t2 acc accv ys, Ev B F H F2 H2 t2 ∧ (F2 L = none ∧ ¬ OwZ B F2 L) ∧ H2 L = some (.lst accv) ∧ DvL K B F2 acc accv ∧ acc.length ≤ i ∧ compL gd c e (wipeE env vs) (xs.drop i) t2 = some (ys, s2) ∧ acc ++ ys = rs,
    ⟨xs.length, by simp, Nat.zero_le _, F, s1, [], [], rs, ?_, ⟨?_, nL1⟩, upd_same, rfl, Nat.le_refl _, e2, rfl⟩, ?_⟩
  · exact Ev.newO v1.ok _ hL
  · cases q : F L with
    | none => rfl
    | some u => rw [v1.ok.sub L u q] at hL; cases hL
  · rintro i m H2 ⟨rfl, hi, F2, t2, acc, accv, ys, v2, ⟨hF, nL⟩, hH, hv, hl, hc, he⟩
    have E2 : EnvOk K B F2 H2 (L2.wipe σ vs) (wipeE env vs) := (E.step o (v1.trans v2)).wipe vs
    by_cases hlt : i < xs.length
    · refine .inr ⟨jd.go i F2 H2 t2 (v2.sameF v1.ok) v2.ok hlt, fun H' => i + 1 ≤ xs.length ∧ ∃ F2 t2 acc accv ys, Ev B F H F2 H' t2 ∧ (F2 L = none ∧ ¬ OwZ B F2 L) ∧ H' L = some (.lst accv) ∧ DvL K B F2 acc accv ∧ acc.length ≤ i + 1 ∧ compL gd c e (wipeE env vs) (xs.drop (i + 1)) t2 = some (ys, s2) ∧ acc ++ ys = rs,
        fun H' p' => ⟨xs.length - (i + 1), by omega, rfl, p'⟩, fun x H3 hy => ?_⟩
      obtain ⟨F3, v3, hx⟩ := jd.yld i F2 H2 t2 x H3 xs[i] (v2.sameF v1.ok) v2.ok hy (by simp [hlt])
      rw [List.drop_eq_getElem_cons hlt] at hc
      unfold compL at hc
      cases q1 : gd xs[i] (wipeE env vs) with
      | none => simp [q1] at hc
      | some env1 =>
        simp only [q1, Option.bind_some] at hc
        cases q2 : c env1 t2 with
        | none => simp [q2] at hc
        | some w =>
          obtain ⟨k, t3⟩ := w
          simp only [q2, Option.bind_some] at hc
          have hF3 : F3 L = none := (v3.fs L (by rw [hH]; exact fun z => nomatch z)).trans hF
          refine hg xs[i] x F3 H3 t2 (L2.wipe σ vs) (wipeE env vs) env1 _ (E2.step v2.ok v3) v3.ok hx q1 fun σ2 E3 _ w3 => ⟨?_, ?_⟩
          · rw [w3 vs his]
            have ww : ∀ (ws us : List Nat), (∀ i ∈ us, i ∈ ws) → L2.wipe (L2.wipe σ ws) us = L2.wipe σ ws := by
              intro ws us
              induction us with
              | nil => intro _; rfl
              | cons u us ih =>
                intro hu
                show (L2.wipe (L2.wipe σ ws) us).set u none = L2.wipe σ ws
                rw [ih fun i hi => hu i (List.mem_cons_of_mem _ hi)]
                have hm : u ∈ ws := hu u List.mem_cons_self
                apply List.ext_getElem?
                intro j
                by_cases hj : u = j
                · subst hj
                  by_cases hl2 : u < (L2.wipe σ ws).length
                  · rw [List.getElem?_set_self hl2]
                    cases qq : (L2.wipe σ ws)[u]? with
                    | none => exact absurd (List.getElem?_eq_none_iff.mp qq) (by omega)
                    | some y =>
                      cases y with
                      | none => rfl
                      | some y => exact absurd hm (wipe_some qq).2
                  · rw [List.getElem?_eq_none (by simpa using hl2), List.getElem?_eq_none (by simpa using hl2)]
                · rw [List.getElem?_set_ne hj]
            exact ww vs vs fun i hi => hi
          · refine ⟨env1, F3, t2, k, t3, E3, v3.ok, q2, fun F4 H4 v4 => ?_⟩
            have hF4 : F4 L = none := (v4.fs L (v3.dom (by rw [hH]; exact fun z => nomatch z))).trans hF3
            have hH3 : H3 L = some (.lst accv) := v3.hs L _ hH nL
            have nL3 := v3.nown hH nL
            have nL4 := v4.nown hH3 nL3
            have hH4 : H4 L = some (.lst accv) := v4.hs L _ hH3 nL3
            have v14 := (v2.trans v3).trans v4
            have hv4 := hv.ext ((v3.sameF v2.ok).tr (v4.sameF v3.ok))
            cases k with
            | false =>
              dsimp only at hc ⊢
              rw [if_neg Bool.false_ne_true] at hc ⊢
              exact ⟨hlt, F4, t3, acc, accv, ys, v14, ⟨hF4, nL4⟩, hH4, hv4, Nat.le_succ_of_le hl, hc, he⟩
            | true =>
              dsimp only at hc ⊢
              rw [if_pos rfl] at hc ⊢
              cases q3 : e env1 t3 with
              | none => simp [q3] at hc
              | some w =>
                obtain ⟨y, t4⟩ := w
                simp only [q3, Option.bind_some] at hc
                cases q4 : compL gd c e (wipeE env vs) (xs.drop (i + 1)) t4 with
                | none => simp [q4] at hc
                | some w =>
                  obtain ⟨zs, t5⟩ := w
                  simp only [q4, Option.map_some, Option.some.injEq, Prod.mk.injEq] at hc
                  obtain ⟨rfl, rfl⟩ := hc
                  refine ⟨env1, F4, t3, y, t4, E3.step v3.ok v4, v4.ok, q3, fun v F5 H5 v5 hyv => ?_⟩
                  have hF5 : F5 L = none := (v5.fs L (by rw [hH4]; exact fun z => nomatch z)).trans hF4
                  have hH5 : H5 L = some (.lst accv) := v5.hs L _ hH4 nL4
                  have nL5 := v5.nown hH4 nL4
                  have v15 := v14.trans v5
                  exact ⟨accv, hH5, by rw [hv.len]; omega, hlt, F5, t4, acc ++ [y], accv ++ [v], zs, v15.mutE hL hF5 nL5, ⟨hF5, nL5⟩, upd_same, (hv4.ext (v5.sameF v4.ok)).app (DvL.one hyv), by rw [List.length_append]; simp; exact hl, q4, by rw [← he]; simp⟩
    · have hi2 : xs.length ≤ i := Nat.le_of_not_lt hlt
      refine .inl ⟨jd.stop i F2 H2 t2 (v2.sameF v1.ok) v2.ok hi2, ?_⟩
      rw [List.drop_of_length_le hi2] at hc
      cases hc
      rw [List.append_nil] at he
      subst he
      have vv := v1.trans v2
      exact hq _ (upF F2 L (.lst accv)) H2 (vv.frzE (v1.free hL) hH nL) ⟨L, accv, rfl, upd_same, hv.ext (sm_upF hF)⟩
def mCompKy (i : Nat) (gd : D → DE → Option DE) (c : MT S) (e : ME S) (vs : List Nat) : ME S := fun env s => (dctAt env i).bind fun ks => if ks.length ≤ sizeLine then (compL gd c e (wipeE env vs) (ks.map keyD) s).map fun r => (.lst r.1, r.2) else none
theorem d_lcK {i : Nat} {elt tg iter : Expr} {ifs : List Expr} {scope : Scope} {own : List (Str × Nat)} {pos : Pos} {g : TG} {gd : D → DE → Option DE} {is : List Nat} {c : MT S} {e : ME S} (hB : B.lk) (hc : X.calm = true) (hN : X.N.Nodup) (ho : PE X iter (tVar i)) (ok : BlkOk X.N X.env.scope scope own)
    (hg : ∀ (s : Shared) (H : Hp) (C : Addr) (cl : List (Str × Addr)) (fp : List Addr), PG (X.blk s H scope (compEnvC scope cl C X.env) fp) tg g) (hgd : GD X.K B is g gd)
    (ht : ∀ (s : Shared) (H : Hp) (C : Addr) (cl : List (Str × Addr)) (fp : List Addr), PTs (X.blk s H scope (compEnvC scope cl C X.env) fp) ifs (tT X.K B c))
    (he : ∀ (s : Shared) (H : Hp) (C : Addr) (cl : List (Str × Addr)) (fp : List Addr), PE (X.blk s H scope (compEnvC scope cl C X.env) fp) elt (tD X.K B e))
    (his : ∀ i ∈ is, i ∈ own.map (·.2) := by decide) (hs : ∀ x, foldedSetIterable iter X.env x = pure x := by intro _; rfl) :
    PE X (.ListComp elt [⟨tg, iter, ifs, 0⟩] scope pos) (tD X.K B (mCompKy i gd c e (own.map (·.2)))) := by
  have P : PE X (.ListComp elt [⟨tg, iter, ifs, 0⟩] scope pos) (fun σ H Q => ∃ env F s ks ds d od kvs rs s2, EnvOk X.K B F H σ env ∧ Ok B F H s ∧ env[i]? = some (some (.dat (.dct ks ds))) ∧ σ[i]? = some (some (.ref d)) ∧ F d = some (.frz od (.dK kvs)) ∧ kvs.map (·.1) = ks ∧ ks.length ≤ sizeLine ∧
      compL gd c e (wipeE env (own.map (·.2))) (ks.map keyD) s = some (rs, s2) ∧ ∀ v F' H', Ev B F H F' H' s2 → Dv X.K B F' (.lst rs) v → Q v H') :=
    pe_w (pe_lc hc hN (i_keys (B := B) ho) ok hg ht he hs) fun σ H Q ⟨env, F, s, ks, ds, d, od, kvs, rs, s2, E, o, h1, h3, h4, h5, hzz, hm, hq⟩ =>
      ⟨env, F, s, ks, ds, d, od, kvs, E, o, h1, h3, h4, h5, fun J jd => comp_J hgd his E o (by rw [List.length_map]; exact hzz) hm hq jd⟩
  refine ⟨fun pins s0 σ H Q I h => ?_⟩
  obtain ⟨env, F, s, dz, s', E, o, hm, hq⟩ := h
  unfold mCompKy at hm
  cases e1 : dctAt env i with
  | none => simp [e1] at hm
  | some ks =>
    obtain ⟨ds, h1⟩ := dctAt_eq e1
    simp only [e1, Option.bind_some] at hm
    split at hm
    case isFalse => cases hm
    rename_i hzz
    cases e2 : compL gd c e (wipeE env (own.map (·.2))) (ks.map keyD) s with
    | none => simp [e2] at hm
    | some w =>
      obtain ⟨rs, s2⟩ := w
      simp only [e2, Option.map_some, Option.some.injEq, Prod.mk.injEq] at hm
      obtain ⟨rfl, rfl⟩ := hm
      obtain ⟨v, h3, d, kvs, rfl, h4, h5, h6⟩ := E.dat i _ h1
      rcases h4 with h4 | ⟨_, od, h4⟩
      · refine (pe_lock P).run pins s0 σ H Q I ⟨d, .dK kvs, o.sub d _ h4, True.intro, fun od => ?_⟩
        have l : Lk B F (upF F d (.frz od (.dK kvs))) d kvs := ⟨.inr ⟨hB, od, upd_same⟩, .inl h4, fun p hp => upd_ne hp, rfl⟩
        have hd : ¬ OwZ B F d := fun z => by
          rw [o.ap d z] at h4
          cases h4
        have o1 : Ok B (upF F d (.frz od (.dK kvs))) (upd H d (.frz od (.dK kvs))) s := by
          refine ⟨fun p u hp => ?_, fun p hp => ?_, B.stay s F _ H _ o.am (lk_tl l) (fun _ => rfl) fun p u hp hu => ?_, fun p hp => upd_alive (o.alt p hp)⟩
          · have hp : (upd F.h d (.frz od (.dK kvs))) p = some u := hp
            by_cases z : p = d
            · subst z
              rw [upd_same] at hp ⊢
              exact hp
            · rw [upd_ne z] at hp ⊢
              exact o.sub p u hp
          · have z : p ≠ d := fun e => hd (e ▸ hp)
            exact (upd_ne z).trans (o.ap p hp)
          · have z : p ≠ d := fun e => hd (e ▸ hp)
            rw [upd_ne z]
            exact hu
        have E1 := lk_env l (H' := upd H d (.frz od (.dK kvs))) (fun p hp => upd_ne hp) E
        have hH1 : (upd H d (.frz od (.dK kvs))) d = some (.frz od (.dK kvs)) := upd_same
        refine ⟨env, _, s, ks, ds, d, od, kvs, rs, s2, E1, o1, h1, h3, upd_same, h5, hzz, e2, fun v F2 H2 w hv => ?_⟩
        have f2 : F2 d = some (.frz od (.dK kvs)) := (w.fs d (by rw [upd_same]; exact fun z => nomatch z)).trans upd_same
        have g2 : H2 d = some (.frz od (.dK kvs)) := w.hs d _ hH1 hd
        have l2 : Lk B F2 (upF F2 d (.dK kvs)) d kvs := ⟨.inl upd_same, .inr ⟨od, f2⟩, fun p hp => upd_ne hp, rfl⟩
        have hd2 : ¬ OwZ B F2 d := w.nown hH1 hd
        refine ⟨g2, hq v _ _ ⟨fun p hp => ?_, fun p u hp hb => ?_, ⟨fun p u hp => ?_, fun p hp => ?_, B.stay s2 F2 _ H2 _ w.ok.am (lk_tl l2) (fun _ => rfl) fun p u hp hu => ?_, fun p hp => upd_alive (w.ok.alt p hp)⟩, w.al, fun p hp => ?_, w.sal⟩ (lk_dv l2 hv)⟩
        · by_cases z : p = d
          · subst z
            rw [h4]
            exact upd_same
          · exact (upd_ne z).trans ((w.fs p (by rw [upd_ne z]; exact hp)).trans (upd_ne z))
        · by_cases z : p = d
          · subst z
            rw [o.sub p _ h4] at hp
            rw [upd_same]
            exact hp
          · rw [upd_ne z]
            exact w.hs p u (by rw [upd_ne z]; exact hp) hb
        · have hp : (upd F2.h d (.dK kvs)) p = some u := hp
          by_cases z : p = d
          · subst z
            rw [upd_same] at hp ⊢
            exact hp
          · rw [upd_ne z] at hp ⊢
            exact w.ok.sub p u hp
        · have z : p ≠ d := fun e => hd2 (e ▸ hp)
          exact (upd_ne z).trans (w.ok.ap p hp)
        · have z : p ≠ d := fun e => hd2 (e ▸ hp)
          rw [upd_ne z]
          exact hu
        · rcases w.nw p hp with q | q
          · exact .inl q
          · by_cases z : p = d
            · subst z
              rw [upd_same] at q
              cases q
            · rw [upd_ne z] at q
              exact .inr q
      · exact P.run pins s0 σ H Q I ⟨env, F, s, ks, ds, d, od, kvs, rs, s2, E, o, h1, h3, h4, h5, hzz, e2, hq⟩
end
end Dl

set_option Elab.async false
set_option linter.all false
set_option maxRecDepth 100000
set_option maxHeartbeats 4000000
/-! D58: d.get(k) of a dict that stays. -/
namespace Dl
open PySem L2
theorem room66 {k : Nat} {A : Around} (r : L2.Room k A) : A.units + 66 < cLine := by have := r.un; omega
section
variable {X : Cx} {S : Type} {B : Amb S} {a b : Expr} {pos : Pos} {ma mk : ME S}
end
end Dl

set_option Elab.async false
set_option linter.all false
set_option maxRecDepth 100000
set_option maxHeartbeats 4000000
/-! D59: k in d of a dict that stays. -/
namespace Dl
open PySem L2
end Dl

set_option Elab.async false
set_option linter.all false
set_option maxRecDepth 100000
set_option maxHeartbeats 4000000
/-! D60: tuples with known objects by + and by (a, b); a known one is a tuple. -/
namespace Dl
open PySem PySem.Spec PyProof.Rows L2
section
variable {X : Cx} {S : Type} {B : Amb S} {es : List Expr} {t : TA} {e : Expr} {ma : ME S} {ml : ML S} {pos : Pos}
end
end Dl

set_option Elab.async false
set_option linter.all false
set_option maxRecDepth 100000
set_option maxHeartbeats 1000000
/-! N1: the things that change: lists, dicts, instances, by number. -/
namespace Dl
open PySem L2
/-- what a thing that changes holds -/
inductive MOb where
  | lst (xs : List D) | dct (ks : List Key) (xs : List D) | ins (c : Str) (ks : List Str) (xs : List D)
  /-- an instance's own dict, right behind it -/
  | own
def MOAt (K : PySem.W.Frag) (B : Pt) (F : Fz) (H : Hp) (k : Nat) : MOb → Prop
  | .lst ds => ∃ a vs, F.al[k]? = some a ∧ H a = some (.lst vs) ∧ DvL K B F ds vs
  | .dct ks ds => ∃ a kvs, F.al[k]? = some a ∧ H a = some (.dK kvs) ∧ kvs.map (·.1) = ks ∧ DvL K B F ds (kvs.map (·.2))
  | .ins c ks ds => ∃ a dx fs, F.al[k]? = some a ∧ F.al[k + 1]? = some dx ∧ H a = some (.ins (He.ga K c) dx fs) ∧ H dx = some (.own a) ∧ fs.map (·.1) = ks ∧ DvL K B F ds (fs.map (·.2))
  | .own => True
section
variable {K : PySem.W.Frag} {S : Type} {B : Amb S} {F F1 : Fz} {H H1 : Hp} {s s1 : S} {ms : List MOb} {σ : L2.St} {env : DE}
/-! from an Amb to the one with things that change -/
theorem MOAt.mv {F' : Fz} {H' : Hp} {k : Nat} (e : Tl B.lk F F') (ea : F.al <+: F'.al) (g : ∀ a u, a ∈ F.al → H a = some u → H' a = some u) : ∀ {mo : MOb}, MOAt K B.toPt F H k mo → MOAt K B.toPt F' H' k mo := by
  have ix : ∀ {n : Nat} {a : Addr}, F.al[n]? = some a → F'.al[n]? = some a := fun {n a} h => by
    obtain ⟨t, ht⟩ := ea
    rw [← ht, List.getElem?_append_left (List.getElem?_eq_some_iff.mp h).1]
    exact h
  intro mo h
  cases mo with
  | lst ds =>
    obtain ⟨a, vs, k1, k2, k3⟩ := h
    exact ⟨a, vs, ix k1, g _ _ (List.mem_of_getElem? k1) k2, e.all (fun z => z) k3⟩
  | dct ks ds =>
    obtain ⟨a, vs, k1, k2, k3, k4⟩ := h
    exact ⟨a, vs, ix k1, g _ _ (List.mem_of_getElem? k1) k2, k3, e.all (fun z => z) k4⟩
  | ins c ks ds =>
    obtain ⟨a, dx, fs, k1, k2, k3, k4, k5, k6⟩ := h
    exact ⟨a, dx, fs, ix k1, ix k2, g _ _ (List.mem_of_getElem? k1) k3, g _ _ (List.mem_of_getElem? k2) k4, k5, e.all (fun z => z) k6⟩
  | own => exact True.intro
end
end Dl

set_option Elab.async false
set_option linter.all false
set_option maxRecDepth 100000
set_option maxHeartbeats 1000000
/-! N2: what changes is made, and changes. -/
namespace Dl
open PySem L2
class Still {S : Type} (B : Amb S) : Prop where
  no : ¬ B.sto
instance {p c : Addr} : Still (HandB p c) := ⟨fun h => h⟩
instance {p c : Addr} : Still (HandK p c) := ⟨fun h => h⟩
section
variable {K : PySem.W.Frag} {S : Type} {B : Amb S} {F F1 : Fz} {H H1 : Hp} {s s1 : S} {ms : List MOb} {σ : L2.St} {env : DE}
/-! what a thing holds -/
end
/-! ### making -/
abbrev So (S : Type) := S × List MOb
/-! ### fields -/
section
variable {X : Cx} {S : Type} {B : Amb S} {a b e o : Expr} {es : List Expr} {pos p : Pos} {ma mb mo mv : ME (So S)} {ml : ML (So S)} {f : Str}
end
end Dl

set_option Elab.async false
set_option linter.all false
set_option maxRecDepth 100000
set_option maxHeartbeats 1000000
/-! N3: lists that change. -/
namespace Dl
open PySem L2
section
variable {X : Cx} {S : Type} {B : Amb S} {a b e o k v : Expr} {es : List Expr} {pos p : Pos} {ma mb mo me mk mv : ME (So S)} {ml : ML (So S)}
end
end Dl

set_option Elab.async false
set_option linter.all false
set_option maxRecDepth 100000
set_option maxHeartbeats 1000000
/-! N4: methods; making what changes. -/
namespace Dl
open PySem L2
section
variable {K : PySem.W.Frag} {S : Type} {B : Amb S} {F : Fz} {H : Hp} {s : S} {ms : List MOb}
end
section
variable {X : Cx} {S : Type} {B : Amb S} {e o : Expr} {es : List Expr} {pos p apos : Pos} {mo : ME (So S)} {ml : ML (So S)} {k : Nat} {ps : List Str} {c m : Str} {g : List D → So S → Option (D × So S)}
end
section
variable {P : Program} {w : World} {K : PySem.W.Frag} {mg : Str → Option Value} {base : Heap} {S : Type} {B : Amb S}
end
end Dl

set_option Elab.async false
set_option linter.all false
set_option maxRecDepth 100000
set_option maxHeartbeats 4000000
/-! N5: walks over lists that change: they stay while they are walked. -/
namespace Dl
open PySem L2
section
variable {X : Cx} {S : Type} {B : Amb S}
end
/-! a list that changes, walked -/
section
variable {X : Cx} {S : Type} {B : Amb S} {tg a : Expr} {mo : ME (So S)}
end
end Dl

set_option Elab.async false
set_option linter.all false
set_option maxRecDepth 100000
set_option maxHeartbeats 4000000
/-! N6: the law's entry, with things that change; lifts. -/
namespace Dl
open PySem L2
instance {K : PySem.W.Frag} {a : Addr} {b : Prop} : Still (ScrB K a b) := ⟨fun h => h⟩
instance {S : Type} {B : Amb S} {C x dx : Addr} [st : Still B] : Still (InB B C x dx) := ⟨fun h => st.no h⟩
instance {S : Type} {B : Amb S} {e : Addr × Value × Option Addr} [st : Still B] : Still (withE B e) := ⟨fun h => st.no h⟩
section
variable {P : Program} {w : World} {K : PySem.W.Frag} {mg : Str → Option Value} {base : Heap}
end
section
variable {P : Program} {w : World} {K : PySem.W.Frag} {mg : Str → Option Value} {base : Heap}
end
end Dl

set_option Elab.async false
set_option linter.all false
set_option maxRecDepth 100000
set_option maxHeartbeats 1000000
/-! N7: what the words of the store tell. -/
namespace Dl
open PySem L2
section
variable {S : Type} {env : DE} {s s1 s2 : So S} {mo me mk : ME (So S)} {ml : ML (So S)} {k : Nat} {ds : List D} {d r : D}
end
end Dl

set_option Elab.async false
set_option linter.all false
set_option maxRecDepth 100000
set_option maxHeartbeats 1000000
/-! N8: what the words tell, one by one. -/
namespace Dl
open PySem L2
section
variable {S : Type} {env env1 : DE} {s s1 s2 : S} {a b e : ME S} {l : ML S} {t u : MT S} {m m' : MS S} {i : Nat} {d x y z : D} {ds : List D}
theorem w_var (h : env[i]? = some (some (.dat d))) : (mVar i : ME S) env s = some (d, s) := by
  unfold mVar
  rw [h]
theorem w_B {f : D → D → Option D} (ha : a env s = some (x, s1)) (hb : b env s1 = some (y, s2)) (hf : f x y = some z) : mB f a b env s = some (z, s2) := by
  unfold mB
  rw [ha, Option.bind_some]
  show (b env s1).bind _ = _
  rw [hb, Option.bind_some]
  show (f x y).map _ = _
  rw [hf]
  rfl
theorem w_U {f : D → Option D} (ha : a env s = some (x, s1)) (hf : f x = some z) : mU f a env s = some (z, s1) := by
  unfold mU
  rw [ha, Option.bind_some]
  show (f x).map _ = _
  rw [hf]
  rfl
theorem w_F {f : List D → Option D} (ha : l env s = some (ds, s1)) (hf : f ds = some z) : mF f l env s = some (z, s1) := by
  unfold mF
  rw [ha, Option.bind_some]
  show (f ds).map _ = _
  rw [hf]
  rfl
theorem w_nil : (mNil : ML S) env s = some ([], s) := rfl
theorem w_cons (ha : a env s = some (x, s1)) (hl : l env s1 = some (ds, s2)) : mCons a l env s = some (x :: ds, s2) := by
  unfold mCons
  rw [ha, Option.bind_some]
  show (l env s1).map _ = _
  rw [hl]
  rfl
theorem w_isT {c : Bool} (ha : a env s = some (.bl c, s1)) : mIsT a env s = some (c, s1) := by
  unfold mIsT
  rw [ha]
  rfl
theorem w_orF {r : Option (Bool × S)} (h : t env s = some (false, s1)) (k : u env s1 = r) : mOrT t u env s = r := by
  unfold mOrT
  rw [h, Option.bind_some]
  exact k
theorem w_not {c : Bool} (h : t env s = some (c, s1)) : mNotT t env s = some (!c, s1) := by
  unfold mNotT
  rw [h]
  rfl
theorem w_call {g : List D → S → Option (D × S)} {r : Option (D × S)} (hl : l env s = some (ds, s1)) (hg : g ds s1 = r) : mCall g l env s = r := by
  unfold mCall
  rw [hl, Option.bind_some]
  exact hg
theorem w_seq {r : Option (OutS S)} (h : m env s = some (.nx env1 s1)) (k : m' env1 s1 = r) : sSeq m m' env s = r := by
  unfold sSeq
  rw [h, Option.bind_some]
  exact k
theorem w_seqR (h : m env s = some (.rt d s1)) : sSeq m m' env s = some (.rt d s1) := by
  unfold sSeq
  rw [h]
  rfl
theorem w_ifT {r : Option (OutS S)} (h : t env s = some (true, s1)) (k : m env s1 = r) : sIf t m m' env s = r := by
  unfold sIf
  rw [h, Option.bind_some]
  exact (if_pos rfl).trans k
theorem w_ifF {r : Option (OutS S)} (h : t env s = some (false, s1)) (k : m' env s1 = r) : sIf t m m' env s = r := by
  unfold sIf
  rw [h, Option.bind_some]
  exact (if_neg Bool.false_ne_true).trans k
theorem w_skip (h : t env s = some (false, s1)) : sIf t m sNil env s = some (.nx env s1) := w_ifF h rfl
theorem w_ret (h : e env s = some (d, s1)) : sRet e env s = some (.rt d s1) := by
  unfold sRet
  rw [h]
  rfl
theorem w_asg {gd : D → DE → Option DE} (h : e env s = some (d, s1)) (g : gd d env = some env1) : sAsg gd e env s = some (.nx env1 s1) := by
  unfold sAsg
  rw [h, Option.bind_some]
  show (gd d env).map _ = _
  rw [g]
  rfl
theorem w_defR {n : Nat} (h : m (startE n ds) s = some (.rt d s1)) : mDef n m ds s = some (d, s1) := by
  unfold mDef
  rw [h]
  rfl
/-! ### with errors -/
variable {mx mx' : MSX S}
theorem w_make {g : List D → S → Option (RX S)} (hl : l env s = some (ds, s1)) (hg : g ds s1 = some (.val d s2)) : mMake g l env s = some (d, s2) := by
  unfold mMake
  rw [hl, Option.bind_some]
  show ((g ds s1).bind _) = _
  rw [hg]
  rfl
end
end Dl

set_option Elab.async false
set_option linter.all false
set_option maxRecDepth 100000
set_option maxHeartbeats 4000000
/-! D61: a, b, c = x, y, z with three plain names. -/
namespace Dl
open PySem PySem.Spec PyProof.Rows L2
section
variable {X : Cx} {S : Type} {B : Amb S} {a b c : Expr} {ma mb mc : ME S} {pos : Pos}
end
end Dl

set_option Elab.async false
set_option linter.all false
set_option maxRecDepth 100000
set_option maxHeartbeats 1000000
/-! N9: what more words tell. -/
namespace Dl
open PySem L2
section
variable {S : Type} {s s1 s2 s3 : S} {env env1 e2 : DE} {a b e : ME S} {t : MT S} {l : ML S} {m : MS S} {i : Nat} {xs ys ds : List D} {d x y z : D}
theorem w_mifT {r : Option (D × S)} (h : t env s = some (true, s1)) (k : a env s1 = r) : mIf t a b env s = r := by
  unfold mIf
  rw [h, Option.bind_some]
  exact (if_pos rfl).trans k
theorem w_mifF {r : Option (D × S)} (h : t env s = some (false, s1)) (k : b env s1 = r) : mIf t a b env s = r := by
  unfold mIf
  rw [h, Option.bind_some]
  exact (if_neg Bool.false_ne_true).trans k
theorem w_loop {gd : D → DE → Option DE} {body : MS S} {x : D} {xs : List D} {env env1 e2 : DE} {s s2 : S} {r : Option (OutS S)} (g : gd x env = some env1) (h : body env1 s = some (.nx e2 s2)) (k : loopS gd body xs e2 s2 = r) : loopS gd body (x :: xs) env s = r := by
  unfold loopS
  rw [g, Option.bind_some, h, Option.bind_some]
  exact k
theorem w_for {src : ML S} {gd : D → DE → Option DE} {body : MS S} {env : DE} {s1 : S} {xs : List D} {r : Option (OutS S)} (hs : src env s = some (xs, s1)) (h : loopS gd body xs env s1 = r) : sFor src gd body env s = r := by
  unfold sFor
  rw [hs, Option.bind_some]
  exact h
theorem w_it2 {S : Type} {f : List D → Option (List D)} {l : ML S} {env : DE} {s s1 : S} {ds xs : List D} (hl : l env s = some (ds, s1)) (hf : f ds = some xs) : mIt2 f l env s = some (xs, s1) := by
  unfold mIt2
  rw [hl, Option.bind_some]
  show (f ds).map _ = _
  rw [hf]
  rfl
theorem w_andP {c k : Bool} (ha : a env s = some (.bl c, s)) (hb : c = true → b env s = some (.bl k, s)) : mAnd a b env s = some (.bl (c && k), s) := by
  unfold mAnd
  rw [ha, Option.bind_some]
  cases c with
  | false => rfl
  | true => exact hb rfl
theorem w_orP {c k : Bool} (ha : a env s = some (.bl c, s)) (hb : c = false → b env s = some (.bl k, s)) : mOr a b env s = some (.bl (c || k), s) := by
  unfold mOr
  rw [ha, Option.bind_some]
  cases c with
  | true => rfl
  | false => exact hb rfl
/-! dicts -/
theorem dct_at {ks : List Key} (h : env[i]? = some (some (.dat (.dct ks ds)))) : dctAt env i = some ks := by
  unfold dctAt
  rw [h]
theorem w_compKy {gd : D → DE → Option DE} {c : MT S} {vs : List Nat} {ks : List Key} (ho : env[i]? = some (some (.dat (.dct ks ds)))) (hz : ks.length ≤ sizeLine) (h : compL gd c e (wipeE env vs) (ks.map keyD) s = some (ys, s1)) : mCompKy i gd c e vs env s = some (.lst ys, s1) := by
  unfold mCompKy
  rw [dct_at ho, Option.bind_some, if_pos hz, h]
  rfl
end
end Dl

set_option Elab.async false
set_option linter.all false
set_option maxRecDepth 100000
set_option maxHeartbeats 4000000
/-! D62: xs.append(ys.pop(e)); x = dict(y) of a dict of one's own; x = dict([..]) as one's own; x, y = e, {} where y is a cell. -/
namespace Dl
open PySem PySem.Spec PyProof.Rows L2
/-! is, is not of truths -/
section
variable {K : PySem.W.Frag} {S : Type} {B : Amb S}
end
section
variable {X : Cx} {S : Type} {B : Amb S} {a e : Expr} {ma : ME S} {ml : ML S} {pos p1 : Pos}
/-! what they tell -/
end
end Dl

set_option Elab.async false
set_option linter.all false
set_option maxRecDepth 100000
set_option maxHeartbeats 4000000
/-! D63: errors held as things; raise C() of a class without own __init__; xs.count(e). -/
namespace Dl
open PySem PySem.Spec PyProof.Rows L2
theorem errO_ok {P : Program} {w : World} {H : Hp} {h : Heap} {a : Addr} {cls : Value} {d : Option Addr} {oe : Obj} {vs : Array Value} (ho : h.get? a = some oe) (z : Zc cls d oe) (hd : oe.data = .fields vs) : ObjOk P w H h a (ErrO cls d a) :=
  ⟨⟨oe, vs, ho, z, hd⟩, ⟨oe, ho⟩, fun h1 h2 ⟨oe, vs, e1, e2, e3⟩ st => ⟨oe, vs, st _ e1, e2, e3⟩⟩
/-- what makes an error gives it as a thing -/
theorem pe_mk {X : Cx} {e : Expr} {t : L2.St → Hp → XK → Prop} (he : PMk X e t) : PE X e (fun σ H Q => t σ H fun cls d H1 => ∀ a, H1 a = none → Q (.ref a) (upd H1 a (ErrO cls d a))) := by
  refine ⟨fun pins s σ H Q I h => ?_⟩
  refine wpAny_mono (he pins s σ H _ I h) (fun u s1 hu => ?_) fun _ _ x => x
  obtain ⟨a, oe, vs, sI, H', cls, d, rfl, J, k, hn, ho, hz, hd, h1, na, os, ag, hr, q⟩ := hu
  exact ⟨.ref a, upd H' a (ErrO cls d a), J.call' (ch := []) os (Un.laidN k hn na) (J.hok.laidN k na (errO_ok ho hz hd)) ag (fun b z => absurd z (by simp)), rfl, q a na⟩
/-- C() -/
theorem pmk_exc0 {X : Cx} {C : Addr} {x : Str} {p pos : Pos} (T : Er0 X.K C) (gC : X.mg x = some (.ref C)) (hg : Gl X x) (hdb : (x == ("__debug__" : Str)) = false := by decide) :
    PMk X (.Call (.Name x p) [] [] pos) (fun _ H Q => Q (.ref C) none H) := by
  intro pins s σ H Q I h
  refine wpAny_Call_Name_kw (ld_glob I hg gC ?_ hdb)
  refine PySem.W.callWith_K0 I.kIn T.kp ?_
  show wpAny _ _ (call (.ref C) []) _ _ _
  obtain ⟨bm, N, nm, qn, bs, hdct, sn, sub, ab, col, dd, k0, k1, k2, k3, k5, mN, hC, hN, hni, TT⟩ := exc_obj I.kIn T.ex
  obtain ⟨hp, g, d, t, os⟩ := s
  refine wpAny_call_exc_subT PySem.F.excBase_ValueError TT hC hN hni (fun h' e hm => ?_) (Nat.zero_le _)
  exact mk_of I hm (raises_own T.sub T.ty) h (I.hok.gone hm.new)
def mErr {S : Type} (c f : Str) (e : ME S) : ME S := fun env s => (e env s).map fun p => (.err c f [p.1], p.2)
def mErr0 {S : Type} (c : Str) : ME S := fun _ s => some (.err c Str.empty [], s)
section
variable {X : Cx} {S : Type} {B : Amb S} {W : WX} {a e e2 : Expr} {pos p p2 : Pos} {ma mb : ME S}
theorem d_err {x file f : Str} {k : Nat} (T : PySem.Er.ErrTxt X.K file f (He.ga X.K x)) (PG : PySem.Er.Pg X.prog file) (gC : X.mg x = some (.ref (He.ga X.K x))) (hr : Room k X.A) (he : PE X a (tD X.K B ma)) (hg : Gl X x := by rfl)
    (hs : starEach [a] X.env = (false, eval a X.env) :: starEach [] X.env := by rfl) (hpl : (backTo pos (starEach [] X.env)).any (·.1) = false := by rfl) (hdb : (x == ("__debug__" : Str)) = false := by decide) :
    PE X (.Call (.Name x p) [a] [] pos) (tD X.K B (mErr x f ma)) := pe_w (pe_mk (pmk_err T PG gC hr he hg hs hpl hdb)) fun σ H Q ⟨env, F, s, d, s', E, o, hm, hq⟩ => by
  unfold mErr at hm
  cases e1 : ma env s with
  | none => simp [e1] at hm
  | some w =>
    obtain ⟨d1, s1⟩ := w
    simp only [e1, Option.map_some, Option.some.injEq, Prod.mk.injEq] at hm
    obtain ⟨rfl, rfl⟩ := hm
    refine ⟨env, F, s, d1, s1, E, o, e1, fun v F1 H1 v1 hx dd hd b hb => ?_⟩
    have v2 := Ev.new v1.ok (.xd [(f, v)]) hd
    have v3 := Ev.new v2.ok (ErrO (.ref (He.ga X.K x)) (some dd) b) hb
    refine hq _ _ _ (v1.trans (v2.trans v3)) ⟨b, some dd, [v], rfl, upd_same, .inr ⟨dd, v, rfl, ?_, rfl⟩, DvL.one (hx.ext ((v2.trans v3).sameF v1.ok))⟩
    exact (v3.sameF v2.ok).hs dd _ upd_same
theorem d_err0 {x : Str} (T : Er0 X.K (He.ga X.K x)) (gC : X.mg x = some (.ref (He.ga X.K x))) (hg : Gl X x := by rfl) (hdb : (x == ("__debug__" : Str)) = false := by decide) :
    PE X (.Call (.Name x p) [] [] pos) (tD X.K B (mErr0 x)) := pe_w (pe_mk (pmk_exc0 T gC hg hdb)) fun σ H Q ⟨env, F, s, d, s', E, o, hm, hq⟩ => by
  unfold mErr0 at hm
  simp only [Option.some.injEq, Prod.mk.injEq] at hm
  obtain ⟨rfl, rfl⟩ := hm
  intro b hb
  exact hq _ _ _ (Ev.new o (ErrO (.ref (He.ga X.K x)) none b) hb) ⟨b, none, [], rfl, upd_same, .inl ⟨rfl, rfl⟩, rfl⟩
end
/-! ### isinstance of such, its field -/
def rIsV (K : PySem.W.Frag) : List V → Hp → VK → Prop := fun xs H Q => ∃ (a D : Addr) (d : Option Addr) (c : V) (cv : Value) (b : Bool), xs = [.ref a, c] ∧ H a = some (ErrO (.ref D) d a) ∧ ExcC K D ∧ (∀ u, RelV c u → u = cv) ∧ PySem.W.kitOne K (.ref D) cv = some b ∧ (∀ dd, d = some dd → ∃ fs, H dd = some (.xd fs)) ∧ Q (.bl b) H
theorem call_isV {X : Cx} : CallR X (.builtin "isinstance") (rIsV X.K) := by
  intro pins s σ H xs us Q I r h
  obtain ⟨a, D, d, c, cv, b, rfl, ha, C, hcv, e, hd, q⟩ := h
  cases r with
  | cons rx rr =>
    cases rr with
    | cons rt rr =>
      cases rr
      cases rx
      have ec := hcv _ rt
      subst ec
      obtain ⟨⟨oe, vs, hget, hz, hv⟩, _, _⟩ := I.hok a _ ha
      cases d with
      | none =>
        have J : PySem.W.InstAt s.heap a oe D none := by
          obtain ⟨oc, od, oda, osl⟩ := oe
          obtain ⟨h1, h2⟩ := hz
          dsimp only at h1 h2 hv
          subst h1 h2 hv
          exact ⟨hget, rfl, rfl, trivial⟩
        exact PySem.W.kia_one (PySem.W.handS_kitx_exc C.hg C.hk C.hs C.hd C.ha C.hn C.ht C.hm) I.kIn J e (fun z => nomatch z) fun tk => ⟨.bl b, H, I.kept (t' := tk) fun _ _ z => z, rfl, q⟩
      | some dd =>
        obtain ⟨fs, ea⟩ := hd dd rfl
        have hx : ObjOk X.prog X.w H s.heap dd (.xd fs) := I.hok dd _ ea
        obtain ⟨mA, hns, hr⟩ := hx
        obtain ⟨od', ho, hl⟩ := lookIn_ns hns
        have J : ∃ od, PySem.W.InstAt s.heap a oe D (some od) := by
          refine ⟨od', ?_⟩
          obtain ⟨oc, od, oda, osl⟩ := oe
          obtain ⟨h1, h2⟩ := hz
          dsimp only at h1 h2 hv
          subst h1 h2 hv
          exact ⟨hget, rfl, rfl, ho⟩
        exact PySem.W.kia_one (PySem.W.ekitx C) I.kIn J e (fun z => nomatch z) fun tk => ⟨.bl b, H, I.kept (t' := tk) fun _ _ z => z, rfl, q⟩
def isErr (tbl : List (Str × Bool)) : D → Option D
  | .err c _ _ => (tbl.lookup c).map .bl
  | _ => none
def fldErr (errs : List (Str × Str)) (f : Str) : D → Option D
  | .err c g [d] => if (c, f) ∈ errs ∧ g = f then some d else none
  | _ => none
def tXv (K : PySem.W.Frag) (f : Str) (te : TE) : TE := fun σ H Q => te σ H fun x H1 => ∃ (a C dd : Addr) (fs : List (Str × V)) (v : V), x = .ref a ∧ H1 a = some (ErrO (.ref C) (some dd) a) ∧ XfC K C ∧ PySem.W.findIn K (.ref C) f = some none ∧ H1 dd = some (.xd fs) ∧ fs.lookup f = some v ∧ Q v H1
theorem pe_xv {X : Cx} {e : Expr} {te : TE} {pos : Pos} {n : Str} (he : PE X e te) (hb : attributeBase e n X.env (eval e X.env) = eval e X.env := by rfl) : PE X (.Attribute e n pos) (tXv X.K n te) := by
  refine ⟨fun pins s σ H Q I h => ?_⟩
  refine attr_of hb (thn (he.run pins s σ H _ I h) fun u s1 hh => ?_)
  obtain ⟨x, H1, I1, rx, a, C, dd, fs, v, ex, eo, T, hno, ea, l, q⟩ := hh
  subst ex
  obtain rfl : u = Value.ref a := rx
  obtain ⟨⟨oe, vs, ha, hz, hd⟩, _, _⟩ := I1.hok a _ eo
  have hx : ObjOk X.prog X.w H1 s1.heap dd (.xd fs) := I1.hok dd _ ea
  obtain ⟨mA, hns, hr⟩ := hx
  obtain ⟨od, ho, hl⟩ := lookIn_ns hns
  obtain ⟨u, hu, ru⟩ := RelO.some_of (v := v) (o := mA n) (by rw [← l]; exact hr n)
  have J : PySem.W.InstAt s1.heap a oe C (some od) := ⟨ha, hz.1, by unfold PySem.W.notCls; rw [hd] <;> rfl, by rw [hz.2]; exact ho⟩
  exact HandSPX.exc_get I1.kIn J T.ga T.gg T.exC (PySem.W.findObj_own T.hdC hno rfl (by rw [hl, hu])) (handed_of ru) ⟨v, H1, I1.tok _, ru, q⟩
section
variable {X : Cx} {S : Type} {B : Amb S} {a e e2 o : Expr} {pos p p2 : Pos} {ma mo : ME S}
theorem d_isErr {tbl : List (Str × Bool)} {cv : Value} {cV : V} (hc2 : ∀ u, RelV cV u → u = cv) (hT : ∀ q ∈ tbl, ExcC X.K (He.ga X.K q.1) ∧ PySem.W.kitOne X.K (.ref (He.ga X.K q.1)) cv = some q.2) (ha : PE X a (tD X.K B ma)) (h2 : PE X e2 (tC cV)) (hm : X.mg "isinstance" = none) (hg : Gl X "isinstance" := by rfl)
    (hs1 : starEach [e2] X.env = (false, eval e2 X.env) :: starEach [] X.env := by rfl) (hs2 : starEach (a :: [e2]) X.env = (false, eval a X.env) :: starEach [e2] X.env := by rfl) (hpl : (backTo pos (starEach [e2] X.env)).any (·.1) = false := by rfl) :
    PE X (.Call (.Name "isinstance" p2) [a, e2] [] pos) (tD X.K B (mU (isErr tbl) ma)) := by
  refine pe_w (pe_callB call_isV hg hm (by decide +kernel) (pa_cons ha (pa_cons h2 pa_nil hs1) hs2) (by decide) (by decide) hs2 hpl) fun σ H Q ⟨env, F, s, d, s', E, ok, hmm, hq⟩ => ?_
  unfold mU at hmm
  cases e1 : ma env s with
  | none => simp [e1] at hmm
  | some w =>
    obtain ⟨d1, s1⟩ := w
    simp only [e1, Option.bind_some] at hmm
    cases d1 with
    | err c f ds =>
      cases e5 : tbl.lookup c with
      | none => simp [isErr, e5] at hmm
      | some b =>
        simp [isErr, e5] at hmm
        obtain ⟨rfl, rfl⟩ := hmm
        obtain ⟨T1, T2⟩ := hT _ (lookup_mem e5)
        refine ⟨env, F, s, _, s1, E, ok, e1, fun v F1 H1 v1 hx => ?_⟩
        obtain ⟨a', d', ws, rfl, k2, k3, k4⟩ := hx
        refine ⟨a', _, d', cV, cv, b, rfl, v1.ok.sub _ _ k2, T1, hc2, T2, fun dd e => ?_, hq _ F1 H1 v1 rfl⟩
        rcases k3 with ⟨z, _⟩ | ⟨dd', w', g1, g2, g3⟩
        · rw [z] at e; cases e
        · rw [g1] at e
          cases e
          exact ⟨_, v1.ok.sub _ _ g2⟩
    | _ => simp [isErr] at hmm
theorem d_fldErr {errs : List (Str × Str)} {f : Str} (hT : ∀ q ∈ errs, XfC X.K (He.ga X.K q.1) ∧ PySem.W.findIn X.K (.ref (He.ga X.K q.1)) q.2 = some none) (ha : PE X a (tD X.K B ma)) (hb : attributeBase a f X.env (eval a X.env) = eval a X.env := by rfl) :
    PE X (.Attribute a f pos) (tD X.K B (mU (fldErr errs f) ma)) := by
  refine pe_w (pe_xv ha hb) fun σ H Q ⟨env, F, s, d, s', E, ok, hmm, hq⟩ => ?_
  unfold mU at hmm
  cases e1 : ma env s with
  | none => simp [e1] at hmm
  | some w =>
    obtain ⟨d1, s1⟩ := w
    simp only [e1, Option.bind_some] at hmm
    cases e2 : fldErr errs f d1 with
    | none => simp [e2] at hmm
    | some r =>
      simp only [e2, Option.map_some, Option.some.injEq, Prod.mk.injEq] at hmm
      obtain ⟨rfl, rfl⟩ := hmm
      unfold fldErr at e2
      split at e2
      · rename_i c g d2
        split at e2
        · rename_i hc
          obtain ⟨hc1, rfl⟩ := hc
          cases e2
          obtain ⟨T1, T2⟩ := hT _ hc1
          refine ⟨env, F, s, _, s1, E, ok, e1, fun v F1 H1 v1 hx => ?_⟩
          obtain ⟨a', d', ws, rfl, k2, k3, k4⟩ := hx
          obtain ⟨w, r, rfl, hw, hr⟩ := k4
          cases (show r = [] from hr)
          rcases k3 with ⟨_, z⟩ | ⟨dd, w', g1, g2, g3⟩
          · cases z
          · cases g3
            subst g1
            exact ⟨a', _, dd, _, w, rfl, v1.ok.sub _ _ k2, T1, T2, v1.ok.sub _ _ g2, by simp [List.lookup], hq w F1 H1 v1 hw⟩
        · cases e2
      · cases e2
end
/-! ### xs.count(e) -/
def rCountD (K : PySem.W.Frag) : V → List V → Hp → VK → Prop := fun x xs H Q => ∃ (a : Addr) (y : V) (d : PyData) (ds : List PyData), x = V.ref a ∧ xs = [y] ∧ Dp K H (V.ref a) (.list ds) ∧ Dp K H y d ∧
  PyData.plainAll ds = true ∧ d.plain = true ∧ d.depth ≤ 60 ∧ Q (.int ((ds.countP fun z => PyData.eqv z d : Nat) : Int)) H
theorem mt_countD {X : Cx} (hu : X.A.units + 66 < cLine) : MtR X "list.count" (rCountD X.K) := by
  intro pins s σ H x xs v us Q I rx rxs h
  obtain ⟨a, y, d, ds, rfl, rfl, hl, hy, pl, pd, dd, q⟩ := h
  cases rx
  obtain ⟨u, rfl, ry⟩ := vals1 rxs
  obtain ⟨bs, r1⟩ := Dp.reads I d y u hy ry
  cases hl with
  | lst hs ha =>
    obtain ⟨its, rv, ⟨ob, n, ho, hc, hdn, hd⟩, hlen⟩ := I.list hs
    obtain ⟨as, h4⟩ := Dp.readsAll I ds _ its ha rv
    exact SeqAt.count_list_data (vs := its.toArray) ⟨ob, ho, hc, n, hd⟩ h4 r1 pl pd (by have := Nat.min_le_right (PyData.depthAll ds) d.depth; omega) ⟨.int _, H, I.tok _, ⟨_, rfl⟩, q⟩
def countPD : D → D → Option D
  | .lst ds, y => match toPyL ds, toPy y with
    | some es, some d => if PyData.plainAll es = true ∧ d.plain = true ∧ d.depth ≤ 60 then some (.int ((es.countP fun z => PyData.eqv z d : Nat) : Int)) else none
    | _, _ => none
  | _, _ => none
section
variable {X : Cx} {S : Type} {B : Amb S} {e o : Expr} {ma mo : ME S}
theorem d_count {apos cpos : Pos} (hu : X.A.units + 66 < cLine) (ho : PE X o (tD X.K B mo)) (he : PE X e (tD X.K B ma)) (hs1 : starEach (e :: []) X.env = (false, eval e X.env) :: starEach [] X.env := by rfl)
    (hbase : attributeBase o "count" X.env (eval o X.env) = eval o X.env := by rfl)
    (hfew : ((backTo cpos (starEach (e :: []) X.env)).all (fun x => !x.1) && (backToKw cpos (keywordEach [] X.env)).all (fun x => x.1.isSome)
      && decide ((e :: []).length + ([] : List Keyword).length + (if ([] : List Keyword).isEmpty then 0 else 1) < 30)) = true := by rfl)
    (hline : (apos.endLine == cpos.line) = true := by rfl) (hplain : (backTo cpos (starEach [] X.env)).any (·.1) = false := by rfl) :
    PE X (.Call (.Attribute o "count" apos) [e] [] cpos) (tD X.K B (mB countPD mo ma)) :=
  pe_w (pe_bm PySem.F.plainAttrs_list PySem.F.slot_list_count PySem.F.type_list_count (mt_countD hu) ho (l_cons he l_nil hs1) hbase hfew hline hs1 hplain) fun σ H Q ⟨env, F, s, d, s', E, ok, hm, hq⟩ => by
    unfold mB at hm
    cases e1 : mo env s with
    | none => simp [e1] at hm
    | some w =>
      obtain ⟨d1, s1⟩ := w
      simp only [e1, Option.bind_some] at hm
      cases e2 : ma env s1 with
      | none => simp [e2] at hm
      | some w =>
        obtain ⟨d2, s2⟩ := w
        simp only [e2, Option.bind_some] at hm
        cases e3 : countPD d1 d2 with
        | none => simp [e3] at hm
        | some r =>
          simp [e3] at hm
          obtain ⟨rfl, rfl⟩ := hm
          cases d1 with
          | lst ds =>
            unfold countPD at e3
            dsimp only at e3
            split at e3
            · rename_i es d' ea eb
              split at e3
              · rename_i c
                cases e3
                refine ⟨env, F, s, .lst ds, s1, E, ok, e1, fun v F1 H1 v1 hx => ?_⟩
                have hx0 := hx
                obtain ⟨a, vs, rfl, g2, g3⟩ := hx
                refine ⟨.inl ⟨rfl, vs, SqL.of (v1.ok.sub _ _ g2)⟩, env, F1, s1, [d2], s2, E.step ok v1, v1.ok, ?_, fun us F2 H2 v2 hv => ?_⟩
                · show mCons ma mNil env s1 = some ([d2], s2)
                  simp [mCons, e2, mNil]
                · obtain ⟨u, rfl, hd⟩ := one_of hv
                  have hl := dp_of (d := .lst ds) (p := .list es) v2.ok.sub (by show (toPyL ds).map PyData.list = _; rw [ea]; rfl) (hx0.ext (v2.sameF v1.ok))
                  exact ⟨a, u, d', es, rfl, rfl, hl, dp_of v2.ok.sub eb hd, c.1, c.2.1, c.2.2, hq _ F2 H2 (v1.trans v2) rfl⟩
              · cases e3
            · cases e3
          | _ => cases e3
end
/-! ### == of dicts, too; x = a + b, x a list of one's own -/
def eqXD (x y : D) : Option D := match x with
  | .dct ks ds => (eqKD ks ds y).map .bl
  | _ => relD eqP x y
def sOwnP {S : Type} (i : Nat) (a b : ME S) : MS S := fun env s => (a env s).bind fun p => (b env p.2).bind fun q => match p.1, q.1 with
  | .lst xs, .lst ys => if xs.length + ys.length ≤ sizeLine then some (.nx (env.set i (some (.own (xs ++ ys)))) q.2) else none
  | _, _ => none
section
variable {X : Cx} {S : Type} {B : Amb S} {a b : Expr} {ma mb : ME S} {pos p1 : Pos}
theorem op_eqX (hu : X.A.units + 66 < cLine) : OpR X (compareOp .Eq) (fun x y H Q => rEqK X.K x y H Q ∨ rRel X.K eqP x y H Q) := OpR.or (op_eqK hu) (op_eqP (by omega))
theorem eqXD_ok {K : PySem.W.Frag} : OpD K B (fun x y H Q => rEqK K x y H Q ∨ rRel K eqP x y H Q) eqXD := fun F H s dx dy dz x y Q o hx hy hf hq => by
  unfold eqXD at hf
  split at hf
  · rename_i ks ds
    cases dy with
    | dct k2 d2 =>
      cases e3 : hitsD ks ds k2 d2 with
      | none => simp [eqKD, e3] at hf
      | some r =>
        simp [eqKD, e3] at hf
        subst hf
        obtain ⟨q, kvs, rfl, g1, g2, g3⟩ := hx
        obtain ⟨q2, lvs, rfl, h1, h2, h3⟩ := hy
        refine .inl ⟨q, q2, kvs, lvs, r, rfl, rfl, rd_ext o.sub g1.rd, rd_ext o.sub h1.rd, hits_dv h2 h3 o.sub g2 g3 e3, ?_⟩
        have hl : (kvs.length == lvs.length && r.all id) = (decide (ks.length = k2.length) && r.all id) := by
          rw [← g2, ← h2, List.length_map, List.length_map]
          rfl
        rw [hl]
        exact hq _ F H o.refl rfl
    | _ => simp [eqKD] at hf
  · exact .inr (relD_ok eqP F H s dx dy dz x y Q o hx hy hf hq)
theorem s_ownP {i : Nat} {x : Str} {p' bpos : Pos} (hN : X.N.Nodup) (ha : PE X a (tD X.K B ma)) (hb : PE X b (tD X.K B mb)) (hi : X.N[i]? = some x := by rfl) (hx : Loc X.env.scope x := by first | exact Or.inl rfl | exact Or.inr rfl)
    (hs : swapsWith (.BinOp a .Add b bpos) (some (.Name x p')) pos.line X.env = pure false := by rfl)
    (hf : X.fn x = true ∨ X.env.scope.names.lookup x = some .local := by first | exact .inl rfl | exact .inr rfl) :
    PS X (.Assign [.Name x p'] (.BinOp a .Add b bpos) pos) (tS X.K B (sOwnP i ma mb)) :=
  ps_w (ps_set (i := i) hN hi hx (pe_op op_cat ha hb) hs hf) fun Dn σ H ⟨env, F, s, out, E, o, hm, hq⟩ => by
    unfold sOwnP at hm
    cases e1 : ma env s with
    | none => simp [e1] at hm
    | some w =>
      obtain ⟨d1, s1⟩ := w
      simp only [e1, Option.bind_some] at hm
      cases e2 : mb env s1 with
      | none => simp [e2] at hm
      | some w =>
        obtain ⟨d2, s2⟩ := w
        simp only [e2, Option.bind_some] at hm
        split at hm
        · rename_i _ _ xs ys
          split at hm
          · rename_i c
            cases hm
            refine ⟨env, F, s, .lst xs, s1, E, o, e1, fun v F1 H1 v1 hv => ⟨env, F1, s1, .lst ys, s2, E.step o v1, v1.ok, e2, fun u F2 H2 v2 hu => ?_⟩⟩
            obtain ⟨q0, zs, rfl, k2, k3⟩ := hv
            obtain ⟨q9, us, rfl, j2, j3⟩ := hu
            have k2' := v2.ok.sub _ _ ((v2.sameF v1.ok).hs _ _ k2)
            refine ⟨q0, q9, zs, us, rfl, rfl, k2', v2.ok.sub _ _ j2, by rw [k3.len, j3.len]; exact c, fun q hq' => ?_⟩
            have hdv : DvL X.K B F2 (xs ++ ys) (zs ++ us) := (k3.ext (v2.sameF v1.ok)).app j3
            have v12 := v1.trans v2
            have v3 : Ev B F2 H2 F2 (upd H2 q (.lst (zs ++ us))) _ := Ev.newO v12.ok _ hq'
            have E2 := E.step o (v12.trans v3)
            have hF1 : F2 q = none := by
              cases r : F2 q with
              | none => rfl
              | some u => rw [v12.ok.sub q u r] at hq'; cases hq'
            obtain ⟨E3, ho⟩ := E2.putO (i := i) (xs := xs ++ ys) hF1 (ne_own v12.ok hq') upd_same hdv fun j y _ q1 oo => (E.step o v12).none_at hq' q1 oo
            refine hq _ F2 _ E3 ?_
            have w := Sv.of E (v12.trans v3)
            exact ⟨w.fs, w.hs, fun p hp => by
              rcases ho p hp with z | z
              · exact .inr (by rw [z]; exact v12.free hq')
              · exact .inl z, w.th, w.ok, w.al, w.nw, w.sal⟩
          · cases hm
        · cases hm
end
end Dl

set_option Elab.async false
set_option linter.all false
set_option maxRecDepth 100000
set_option maxHeartbeats 4000000
namespace K00
open PySem
open L2
open Dl
noncomputable section
def top (i : Nat) : Stmt := PySem.Challenge.pw_lockwright_k00_errors_of_the_package.main.body.getD i (.Pass ⟨0, 0, 0, 0⟩)
abbrev s_is_integer : Stmt := top 45
abbrev s_is_within : Stmt := top 46
abbrev s_is_name : Stmt := top 47
abbrev s_is_rising : Stmt := top 48
abbrev s_is_lot_of_names : Stmt := top 49
abbrev s_is_version : Stmt := top 52
abbrev s_is_stretch : Stmt := top 53
abbrev s_is_range : Stmt := top 54
abbrev s_are_features : Stmt := top 62
abbrev s_is_need : Stmt := top 63
abbrev s_is_bar : Stmt := top 64
abbrev s_check_needs : Stmt := top 65
abbrev s_check_bars : Stmt := top 66
abbrev s_key_of : Stmt := top 69
abbrev s__law_hand : Stmt := top 71
abbrev s__law_draw : Stmt := top 72
abbrev s__law_some : Stmt := top 73
abbrev s__law_is : Stmt := top 74
abbrev s__law_deep : Stmt := top 75
abbrev s__law_first_classes : Stmt := top 76
abbrev s__law_classes : Stmt := top 77
abbrev s__law_field : Stmt := top 78
abbrev s__law_raised : Stmt := top 79
abbrev s__law_right : Stmt := top 80
abbrev s_law : Stmt := top 81
def d_is_integer : He.DefD := ⟨("is_integer", none), "is_integer", "is_integer", defArgs s_is_integer, defBody s_is_integer, defScope s_is_integer, [], []⟩
def d_is_within : He.DefD := ⟨("is_within", none), "is_within", "is_within", defArgs s_is_within, defBody s_is_within, defScope s_is_within, [], []⟩
def d_is_name : He.DefD := ⟨("is_name", none), "is_name", "is_name", defArgs s_is_name, defBody s_is_name, defScope s_is_name, [], []⟩
def d_is_rising : He.DefD := ⟨("is_rising", none), "is_rising", "is_rising", defArgs s_is_rising, defBody s_is_rising, defScope s_is_rising, [], []⟩
def d_is_lot_of_names : He.DefD := ⟨("is_lot_of_names", none), "is_lot_of_names", "is_lot_of_names", defArgs s_is_lot_of_names, defBody s_is_lot_of_names, defScope s_is_lot_of_names, [], []⟩
def d_is_version : He.DefD := ⟨("is_version", none), "is_version", "is_version", defArgs s_is_version, defBody s_is_version, defScope s_is_version, [], []⟩
def d_is_stretch : He.DefD := ⟨("is_stretch", none), "is_stretch", "is_stretch", defArgs s_is_stretch, defBody s_is_stretch, defScope s_is_stretch, [], []⟩
def d_is_range : He.DefD := ⟨("is_range", none), "is_range", "is_range", defArgs s_is_range, defBody s_is_range, defScope s_is_range, [], []⟩
def d_are_features : He.DefD := ⟨("are_features", none), "are_features", "are_features", defArgs s_are_features, defBody s_are_features, defScope s_are_features, [], []⟩
def d_is_need : He.DefD := ⟨("is_need", none), "is_need", "is_need", defArgs s_is_need, defBody s_is_need, defScope s_is_need, [], []⟩
def d_is_bar : He.DefD := ⟨("is_bar", none), "is_bar", "is_bar", defArgs s_is_bar, defBody s_is_bar, defScope s_is_bar, [], []⟩
def d_check_needs : He.DefD := ⟨("check_needs", none), "check_needs", "check_needs", defArgs s_check_needs, defBody s_check_needs, defScope s_check_needs, [], []⟩
def d_check_bars : He.DefD := ⟨("check_bars", none), "check_bars", "check_bars", defArgs s_check_bars, defBody s_check_bars, defScope s_check_bars, [], []⟩
def d_key_of : He.DefD := ⟨("key_of", none), "key_of", "key_of", defArgs s_key_of, defBody s_key_of, defScope s_key_of, [], []⟩
def d__law_hand : He.DefD := ⟨("_law_hand", none), "_law_hand", "_law_hand", defArgs s__law_hand, defBody s__law_hand, defScope s__law_hand, [], []⟩
def d__law_draw : He.DefD := ⟨("_law_draw", none), "_law_draw", "_law_draw", defArgs s__law_draw, defBody s__law_draw, defScope s__law_draw, [], []⟩
def d__law_some : He.DefD := ⟨("_law_some", none), "_law_some", "_law_some", defArgs s__law_some, defBody s__law_some, defScope s__law_some, [], []⟩
def d__law_is : He.DefD := ⟨("_law_is", none), "_law_is", "_law_is", defArgs s__law_is, defBody s__law_is, defScope s__law_is, [], []⟩
def d__law_deep : He.DefD := ⟨("_law_deep", none), "_law_deep", "_law_deep", defArgs s__law_deep, defBody s__law_deep, defScope s__law_deep, [], []⟩
def d__law_first_classes : He.DefD := ⟨("_law_first_classes", none), "_law_first_classes", "_law_first_classes", defArgs s__law_first_classes, defBody s__law_first_classes, defScope s__law_first_classes, [], []⟩
def d__law_classes : He.DefD := ⟨("_law_classes", none), "_law_classes", "_law_classes", defArgs s__law_classes, defBody s__law_classes, defScope s__law_classes, [], []⟩
def d__law_field : He.DefD := ⟨("_law_field", none), "_law_field", "_law_field", defArgs s__law_field, defBody s__law_field, defScope s__law_field, [], []⟩
def d__law_raised : He.DefD := ⟨("_law_raised", none), "_law_raised", "_law_raised", defArgs s__law_raised, defBody s__law_raised, defScope s__law_raised, [], []⟩
def d__law_right : He.DefD := ⟨("_law_right", none), "_law_right", "_law_right", defArgs s__law_right, defBody s__law_right, defScope s__law_right, [], []⟩
def d_law : He.DefD := ⟨("law", none), "law", "law", defArgs s_law, defBody s_law, defScope s_law, [], []⟩
abbrev i_Entry : Stmt := (clsBody (top 67)).getD 0 (.Pass ⟨0, 0, 0, 0⟩)
def d_Entry : He.DefD := ⟨("Entry", some "__init__"), "__init__", "Entry.__init__", defArgs i_Entry, defBody i_Entry, defScope i_Entry, [], []⟩
abbrev i_Book : Stmt := (clsBody (top 68)).getD 0 (.Pass ⟨0, 0, 0, 0⟩)
def d_Book : He.DefD := ⟨("Book", some "__init__"), "__init__", "Book.__init__", defArgs i_Book, defBody i_Book, defScope i_Book, [], []⟩
abbrev q_Entry : Stmt := (clsBody (top 67)).getD 1 (.Pass ⟨0, 0, 0, 0⟩)
def d_Entry__eq : He.DefD := ⟨("Entry", some "__eq__"), "__eq__", "Entry.__eq__", defArgs q_Entry, defBody q_Entry, defScope q_Entry, [], []⟩
abbrev q_Book : Stmt := (clsBody (top 68)).getD 1 (.Pass ⟨0, 0, 0, 0⟩)
def d_Book__eq : He.DefD := ⟨("Book", some "__eq__"), "__eq__", "Book.__eq__", defArgs q_Book, defBody q_Book, defScope q_Book, [], []⟩
def fns : List He.DefD := [d_is_integer, d_is_within, d_is_name, d_is_rising, d_is_lot_of_names, d_is_version, d_is_stretch, d_is_range, d_are_features, d_is_need, d_is_bar, d_check_needs, d_check_bars, d_key_of, d__law_hand, d__law_draw, d__law_some, d__law_is, d__law_deep, d__law_first_classes, d__law_classes, d__law_field, d__law_raised, d__law_right, d_law, d_Entry, d_Book, d_Entry__eq, d_Book__eq]
def gs : List Str := ("is_integer" : Str) :: ("is_within" : Str) :: ("is_name" : Str) :: ("is_rising" : Str) :: ("is_lot_of_names" : Str) :: ("is_version" : Str) :: ("is_stretch" : Str) :: ("is_range" : Str) :: ("are_features" : Str) :: ("is_need" : Str) :: ("is_bar" : Str) :: ("check_needs" : Str) :: ("check_bars" : Str) :: ("key_of" : Str) :: ("_law_hand" : Str) :: ("_law_draw" : Str) :: ("_law_some" : Str) :: ("_law_is" : Str) :: ("_law_deep" : Str) :: ("_law_first_classes" : Str) :: ("_law_classes" : Str) :: ("_law_field" : Str) :: ("_law_raised" : Str) :: ("_law_right" : Str) :: ("law" : Str) :: ("LockError" : Str) :: ("BadText" : Str) :: ("BadEntry" : Str) :: ("BadBook" : Str) :: ("BadLine" : Str) :: ("BadQuestion" : Str) :: ("BadTask" : Str) :: ("BadStep" : Str) :: ("TooMany" : Str) :: ("NotFitting" : Str) :: ("NotGiven" : Str) :: ("NotFirst" : Str) :: ("NoFeatures" : Str) :: ("NoEntry" : Str) :: ("NotRight" : Str) :: ("NotThere" : Str) :: ("NotClosed" : Str) :: ("NoSource" : Str) :: ("NoStand" : Str) :: ("NoGivens" : Str) :: ("NoLiteral" : Str) :: ("NoPaper" : Str) :: ("NoSources" : Str) :: ("NoName" : Str) :: ("NoNumber" : Str) :: ("NotEntry" : Str) :: ("NotQuestion" : Str) :: ("NothingDone" : Str) :: ("NoText" : Str) :: ("NoStart" : Str) :: ("NoStop" : Str) :: ("NotSafe" : Str) :: ("NoDeed" : Str) :: ("NoContents" : Str) :: ("NoMirrors" : Str) :: ("NoManifest" : Str) :: ("NotFetched" : Str) :: ("NoBuild" : Str) :: ("Ringed" : Str) :: ("NoMachine" : Str) :: ("NoRollout" : Str) :: ("Entry" : Str) :: ("Book" : Str) :: []
def fr : List Str := ["abs", "all", "bool", "dict", "enumerate", "int", "isinstance", "len", "list", "range", "str", "tuple", "ValueError", "super"]
def is : List (Str × Int) := [("MOST_SIGNS", 12), ("GREATEST", 1000000), ("MOST_FEATURES", 6), ("MOST_NEEDS", 8), ("MOST_BARS", 6), ("MOST_WANTED", 4), ("MOST_ENTRIES", 200), ("GREATEST_OF_ENTRY", 999999)]
def ss : List (Str × Str) := [("SMALL", "abcdefghijklmnopqrstuvwxyz")]
def ts : List (Str × D) := []
abbrev i_BadText : Stmt := (clsBody (top 2)).getD 0 (.Pass ⟨0, 0, 0, 0⟩)
def e_BadText : ErrD := ⟨"BadText", "index", "BadText.__init__", defArgs i_BadText, defBody i_BadText, defScope i_BadText⟩
abbrev i_BadEntry : Stmt := (clsBody (top 3)).getD 0 (.Pass ⟨0, 0, 0, 0⟩)
def e_BadEntry : ErrD := ⟨"BadEntry", "part", "BadEntry.__init__", defArgs i_BadEntry, defBody i_BadEntry, defScope i_BadEntry⟩
abbrev i_BadBook : Stmt := (clsBody (top 4)).getD 0 (.Pass ⟨0, 0, 0, 0⟩)
def e_BadBook : ErrD := ⟨"BadBook", "index", "BadBook.__init__", defArgs i_BadBook, defBody i_BadBook, defScope i_BadBook⟩
abbrev i_BadLine : Stmt := (clsBody (top 5)).getD 0 (.Pass ⟨0, 0, 0, 0⟩)
def e_BadLine : ErrD := ⟨"BadLine", "number", "BadLine.__init__", defArgs i_BadLine, defBody i_BadLine, defScope i_BadLine⟩
abbrev i_BadQuestion : Stmt := (clsBody (top 6)).getD 0 (.Pass ⟨0, 0, 0, 0⟩)
def e_BadQuestion : ErrD := ⟨"BadQuestion", "part", "BadQuestion.__init__", defArgs i_BadQuestion, defBody i_BadQuestion, defScope i_BadQuestion⟩
abbrev i_BadTask : Stmt := (clsBody (top 7)).getD 0 (.Pass ⟨0, 0, 0, 0⟩)
def e_BadTask : ErrD := ⟨"BadTask", "part", "BadTask.__init__", defArgs i_BadTask, defBody i_BadTask, defScope i_BadTask⟩
abbrev i_BadStep : Stmt := (clsBody (top 8)).getD 0 (.Pass ⟨0, 0, 0, 0⟩)
def e_BadStep : ErrD := ⟨"BadStep", "number", "BadStep.__init__", defArgs i_BadStep, defBody i_BadStep, defScope i_BadStep⟩
abbrev i_TooMany : Stmt := (clsBody (top 9)).getD 0 (.Pass ⟨0, 0, 0, 0⟩)
def e_TooMany : ErrD := ⟨"TooMany", "most", "TooMany.__init__", defArgs i_TooMany, defBody i_TooMany, defScope i_TooMany⟩
abbrev i_NotFitting : Stmt := (clsBody (top 10)).getD 0 (.Pass ⟨0, 0, 0, 0⟩)
def e_NotFitting : ErrD := ⟨"NotFitting", "source", "NotFitting.__init__", defArgs i_NotFitting, defBody i_NotFitting, defScope i_NotFitting⟩
abbrev i_NotGiven : Stmt := (clsBody (top 11)).getD 0 (.Pass ⟨0, 0, 0, 0⟩)
def e_NotGiven : ErrD := ⟨"NotGiven", "literal", "NotGiven.__init__", defArgs i_NotGiven, defBody i_NotGiven, defScope i_NotGiven⟩
abbrev i_NotFirst : Stmt := (clsBody (top 12)).getD 0 (.Pass ⟨0, 0, 0, 0⟩)
def e_NotFirst : ErrD := ⟨"NotFirst", "place", "NotFirst.__init__", defArgs i_NotFirst, defBody i_NotFirst, defScope i_NotFirst⟩
abbrev i_NotFetched : Stmt := (clsBody (top 37)).getD 0 (.Pass ⟨0, 0, 0, 0⟩)
def e_NotFetched : ErrD := ⟨"NotFetched", "pair", "NotFetched.__init__", defArgs i_NotFetched, defBody i_NotFetched, defScope i_NotFetched⟩
abbrev i_NoBuild : Stmt := (clsBody (top 38)).getD 0 (.Pass ⟨0, 0, 0, 0⟩)
def e_NoBuild : ErrD := ⟨"NoBuild", "name", "NoBuild.__init__", defArgs i_NoBuild, defBody i_NoBuild, defScope i_NoBuild⟩
abbrev i_Ringed : Stmt := (clsBody (top 39)).getD 0 (.Pass ⟨0, 0, 0, 0⟩)
def e_Ringed : ErrD := ⟨"Ringed", "names", "Ringed.__init__", defArgs i_Ringed, defBody i_Ringed, defScope i_Ringed⟩
def errs : List ErrD := [e_BadText, e_BadEntry, e_BadBook, e_BadLine, e_BadQuestion, e_BadTask, e_BadStep, e_TooMany, e_NotFitting, e_NotGiven, e_NotFirst, e_NotFetched, e_NoBuild, e_Ringed]
def errsL : List (Str × Str) := [("BadText", "index"), ("BadEntry", "part"), ("BadBook", "index"), ("BadLine", "number"), ("BadQuestion", "part"), ("BadTask", "part"), ("BadStep", "number"), ("TooMany", "most"), ("NotFitting", "source"), ("NotGiven", "literal"), ("NotFirst", "place"), ("NotFetched", "pair"), ("NoBuild", "name"), ("Ringed", "names")]
theorem side_BadText : ErrSide e_BadText := ⟨⟨rfl, rfl, rfl, rfl, by decide, by decide, by decide, fun _ _ _ _ _ _ _ _ _ _ _ _ => by first | rfl | with_unfolding_all rfl⟩, ⟨_, _, rfl⟩, ⟨_, _, _, _, _, _, _, _, _, _, rfl, rfl⟩, rfl⟩
theorem side_BadEntry : ErrSide e_BadEntry := ⟨⟨rfl, rfl, rfl, rfl, by decide, by decide, by decide, fun _ _ _ _ _ _ _ _ _ _ _ _ => by first | rfl | with_unfolding_all rfl⟩, ⟨_, _, rfl⟩, ⟨_, _, _, _, _, _, _, _, _, _, rfl, rfl⟩, rfl⟩
theorem side_BadBook : ErrSide e_BadBook := ⟨⟨rfl, rfl, rfl, rfl, by decide, by decide, by decide, fun _ _ _ _ _ _ _ _ _ _ _ _ => by first | rfl | with_unfolding_all rfl⟩, ⟨_, _, rfl⟩, ⟨_, _, _, _, _, _, _, _, _, _, rfl, rfl⟩, rfl⟩
theorem side_BadLine : ErrSide e_BadLine := ⟨⟨rfl, rfl, rfl, rfl, by decide, by decide, by decide, fun _ _ _ _ _ _ _ _ _ _ _ _ => by first | rfl | with_unfolding_all rfl⟩, ⟨_, _, rfl⟩, ⟨_, _, _, _, _, _, _, _, _, _, rfl, rfl⟩, rfl⟩
theorem side_BadQuestion : ErrSide e_BadQuestion := ⟨⟨rfl, rfl, rfl, rfl, by decide, by decide, by decide, fun _ _ _ _ _ _ _ _ _ _ _ _ => by first | rfl | with_unfolding_all rfl⟩, ⟨_, _, rfl⟩, ⟨_, _, _, _, _, _, _, _, _, _, rfl, rfl⟩, rfl⟩
theorem side_BadTask : ErrSide e_BadTask := ⟨⟨rfl, rfl, rfl, rfl, by decide, by decide, by decide, fun _ _ _ _ _ _ _ _ _ _ _ _ => by first | rfl | with_unfolding_all rfl⟩, ⟨_, _, rfl⟩, ⟨_, _, _, _, _, _, _, _, _, _, rfl, rfl⟩, rfl⟩
theorem side_BadStep : ErrSide e_BadStep := ⟨⟨rfl, rfl, rfl, rfl, by decide, by decide, by decide, fun _ _ _ _ _ _ _ _ _ _ _ _ => by first | rfl | with_unfolding_all rfl⟩, ⟨_, _, rfl⟩, ⟨_, _, _, _, _, _, _, _, _, _, rfl, rfl⟩, rfl⟩
theorem side_TooMany : ErrSide e_TooMany := ⟨⟨rfl, rfl, rfl, rfl, by decide, by decide, by decide, fun _ _ _ _ _ _ _ _ _ _ _ _ => by first | rfl | with_unfolding_all rfl⟩, ⟨_, _, rfl⟩, ⟨_, _, _, _, _, _, _, _, _, _, rfl, rfl⟩, rfl⟩
theorem side_NotFitting : ErrSide e_NotFitting := ⟨⟨rfl, rfl, rfl, rfl, by decide, by decide, by decide, fun _ _ _ _ _ _ _ _ _ _ _ _ => by first | rfl | with_unfolding_all rfl⟩, ⟨_, _, rfl⟩, ⟨_, _, _, _, _, _, _, _, _, _, rfl, rfl⟩, rfl⟩
theorem side_NotGiven : ErrSide e_NotGiven := ⟨⟨rfl, rfl, rfl, rfl, by decide, by decide, by decide, fun _ _ _ _ _ _ _ _ _ _ _ _ => by first | rfl | with_unfolding_all rfl⟩, ⟨_, _, rfl⟩, ⟨_, _, _, _, _, _, _, _, _, _, rfl, rfl⟩, rfl⟩
theorem side_NotFirst : ErrSide e_NotFirst := ⟨⟨rfl, rfl, rfl, rfl, by decide, by decide, by decide, fun _ _ _ _ _ _ _ _ _ _ _ _ => by first | rfl | with_unfolding_all rfl⟩, ⟨_, _, rfl⟩, ⟨_, _, _, _, _, _, _, _, _, _, rfl, rfl⟩, rfl⟩
theorem side_NotFetched : ErrSide e_NotFetched := ⟨⟨rfl, rfl, rfl, rfl, by decide, by decide, by decide, fun _ _ _ _ _ _ _ _ _ _ _ _ => by first | rfl | with_unfolding_all rfl⟩, ⟨_, _, rfl⟩, ⟨_, _, _, _, _, _, _, _, _, _, rfl, rfl⟩, rfl⟩
theorem side_NoBuild : ErrSide e_NoBuild := ⟨⟨rfl, rfl, rfl, rfl, by decide, by decide, by decide, fun _ _ _ _ _ _ _ _ _ _ _ _ => by first | rfl | with_unfolding_all rfl⟩, ⟨_, _, rfl⟩, ⟨_, _, _, _, _, _, _, _, _, _, rfl, rfl⟩, rfl⟩
theorem side_Ringed : ErrSide e_Ringed := ⟨⟨rfl, rfl, rfl, rfl, by decide, by decide, by decide, fun _ _ _ _ _ _ _ _ _ _ _ _ => by first | rfl | with_unfolding_all rfl⟩, ⟨_, _, rfl⟩, ⟨_, _, _, _, _, _, _, _, _, _, rfl, rfl⟩, rfl⟩
theorem errs_side : ∀ d ∈ errs, ErrSide d := fun d hd => by
  unfold errs at hd
  simp only [List.mem_cons, List.not_mem_nil, or_false] at hd
  rcases hd with e | e | e | e | e | e | e | e | e | e | e | e | e | e
  · rw [e]; exact side_BadText
  · rw [e]; exact side_BadEntry
  · rw [e]; exact side_BadBook
  · rw [e]; exact side_BadLine
  · rw [e]; exact side_BadQuestion
  · rw [e]; exact side_BadTask
  · rw [e]; exact side_BadStep
  · rw [e]; exact side_TooMany
  · rw [e]; exact side_NotFitting
  · rw [e]; exact side_NotGiven
  · rw [e]; exact side_NotFirst
  · rw [e]; exact side_NotFetched
  · rw [e]; exact side_NoBuild
  · rw [e]; exact side_Ringed
def As : List Str := ("BadText" : Str) :: ("BadEntry" : Str) :: ("BadBook" : Str) :: ("BadLine" : Str) :: ("BadQuestion" : Str) :: ("BadTask" : Str) :: ("BadStep" : Str) :: ("TooMany" : Str) :: ("NotFitting" : Str) :: ("NotGiven" : Str) :: ("NotFirst" : Str) :: ("NotFetched" : Str) :: ("NoBuild" : Str) :: ("Ringed" : Str) :: ("NoFeatures" : Str) :: ("NoEntry" : Str) :: ("NotRight" : Str) :: ("NotThere" : Str) :: ("NotClosed" : Str) :: ("NoSource" : Str) :: ("NoStand" : Str) :: ("NoGivens" : Str) :: ("NoLiteral" : Str) :: ("NoPaper" : Str) :: ("NoSources" : Str) :: ("NoName" : Str) :: ("NoNumber" : Str) :: ("NotEntry" : Str) :: ("NotQuestion" : Str) :: ("NothingDone" : Str) :: ("NoText" : Str) :: ("NoStart" : Str) :: ("NoStop" : Str) :: ("NotSafe" : Str) :: ("NoDeed" : Str) :: ("NoContents" : Str) :: ("NoMirrors" : Str) :: ("NoManifest" : Str) :: ("NoMachine" : Str) :: ("NoRollout" : Str) :: []
def tblOf (Y : Str) : List (Str × Bool) := As.map fun c => (c, decide (c = Y))
def tblT : List (Str × Bool) := As.map fun c => (c, true)
def exms : List (Str × Str × Bool) := As.map fun c : Str => (c, ("LockError" : Str), true)
def kits : List (Str × Str × Bool) := List.append (As.flatMap fun Y : Str => As.map fun c : Str => (c, Y, decide (c = Y))) (List.append (As.map fun c : Str => (c, ("LockError" : Str), true)) [("Entry", "Entry", true), ("Book", "Entry", false), ("Entry", "Book", false), ("Book", "Book", true)])
def kitb : List (Str × String × Bool) := List.append (As.map fun c : Str => (c, ("ValueError" : String), true)) [("Entry", "str", false), ("Book", "str", false)]
abbrev Txt (K : PySem.W.Frag) (mg : Str → Option Value) : Prop := TxE fns gs fr is ss ts "/claim/cut.py" errs exms kits kitb K mg
def fxs : List He.Fa := clsFx "Entry" [("name" : Str), ("version" : Str), ("features" : Str), ("needs" : Str), ("bars" : Str)] ++ (clsFx "Book" [("entries" : Str)] ++ ([.meth "Entry" "__eq__", .meth "Book" "__eq__"]))
theorem fq_Entry {K : PySem.W.Frag} (I : ∀ q ∈ fxs, q.ok K = true) : (He.Fa.meth "Entry" "__eq__").ok K = true := I _ (List.mem_append_right _ (List.mem_append_right _ (List.Mem.head _)))
theorem fq_Book {K : PySem.W.Frag} (I : ∀ q ∈ fxs, q.ok K = true) : (He.Fa.meth "Book" "__eq__").ok K = true := I _ (List.mem_append_right _ (List.mem_append_right _ (Mq (List.Mem.head _))))
theorem fx_Entry {K : PySem.W.Frag} (I : ∀ q ∈ fxs, q.ok K = true) : ∀ q ∈ clsFx "Entry" [("name" : Str), ("version" : Str), ("features" : Str), ("needs" : Str), ("bars" : Str)], q.ok K = true := fun q hq => I q (List.mem_append_left _ hq)
theorem fx_Book {K : PySem.W.Frag} (I : ∀ q ∈ fxs, q.ok K = true) : ∀ q ∈ clsFx "Book" [("entries" : Str)], q.ok K = true := fun q hq => I q (List.mem_append_right _ (List.mem_append_left _ hq))
def fldsI : List (Str × Str) := [("Entry", "name"), ("Entry", "version"), ("Entry", "features"), ("Entry", "needs"), ("Entry", "bars"), ("Book", "entries")]
theorem flds_i {K : PySem.W.Frag} (I : ∀ q ∈ fxs, q.ok K = true) : ∀ q ∈ fldsI, Cls K (He.ga K q.1) ∧ NoAttr K (He.ga K q.1) q.2 := fun q hq => by
  unfold fldsI at hq
  simp only [List.mem_cons, List.not_mem_nil, or_false] at hq
  rcases hq with e | e | e | e | e | e
  · subst e; exact ⟨He.cls_ok (fx_Entry I _ (List.mem_cons_self ..)), He.noat_ok (fx_Entry I _ (List.mem_cons_of_mem _ (List.mem_cons_of_mem _ (List.mem_map_of_mem (List.Mem.head _)))))⟩
  · subst e; exact ⟨He.cls_ok (fx_Entry I _ (List.mem_cons_self ..)), He.noat_ok (fx_Entry I _ (List.mem_cons_of_mem _ (List.mem_cons_of_mem _ (List.mem_map_of_mem (Mq (List.Mem.head _))))))⟩
  · subst e; exact ⟨He.cls_ok (fx_Entry I _ (List.mem_cons_self ..)), He.noat_ok (fx_Entry I _ (List.mem_cons_of_mem _ (List.mem_cons_of_mem _ (List.mem_map_of_mem (Mq (Mq (List.Mem.head _)))))))⟩
  · subst e; exact ⟨He.cls_ok (fx_Entry I _ (List.mem_cons_self ..)), He.noat_ok (fx_Entry I _ (List.mem_cons_of_mem _ (List.mem_cons_of_mem _ (List.mem_map_of_mem (Mq (Mq (Mq (List.Mem.head _))))))))⟩
  · subst e; exact ⟨He.cls_ok (fx_Entry I _ (List.mem_cons_self ..)), He.noat_ok (fx_Entry I _ (List.mem_cons_of_mem _ (List.mem_cons_of_mem _ (List.mem_map_of_mem (Mq (Mq (Mq (Mq (List.Mem.head _)))))))))⟩
  · subst e; exact ⟨He.cls_ok (fx_Book I _ (List.mem_cons_self ..)), He.noat_ok (fx_Book I _ (List.mem_cons_of_mem _ (List.mem_cons_of_mem _ (List.mem_map_of_mem (List.Mem.head _)))))⟩
section
variable {K : PySem.W.Frag} {mg : Str → Option Value}
theorem u_abs (T : Txt K mg) : mg "abs" = none := T.tx.free _ (List.Mem.head _)
theorem u_all (T : Txt K mg) : mg "all" = none := T.tx.free _ (Mq (List.Mem.head _))
theorem u_bool (T : Txt K mg) : mg "bool" = none := T.tx.free _ (Mq (Mq (List.Mem.head _)))
theorem u_dict (T : Txt K mg) : mg "dict" = none := T.tx.free _ (Mq (Mq (Mq (List.Mem.head _))))
theorem u_enumerate (T : Txt K mg) : mg "enumerate" = none := T.tx.free _ (Mq (Mq (Mq (Mq (List.Mem.head _)))))
theorem u_int (T : Txt K mg) : mg "int" = none := T.tx.free _ (Mq (Mq (Mq (Mq (Mq (List.Mem.head _))))))
theorem u_isinstance (T : Txt K mg) : mg "isinstance" = none := T.tx.free _ (Mq (Mq (Mq (Mq (Mq (Mq (List.Mem.head _)))))))
theorem u_len (T : Txt K mg) : mg "len" = none := T.tx.free _ (Mq (Mq (Mq (Mq (Mq (Mq (Mq (List.Mem.head _))))))))
theorem u_list (T : Txt K mg) : mg "list" = none := T.tx.free _ (Mq (Mq (Mq (Mq (Mq (Mq (Mq (Mq (List.Mem.head _)))))))))
theorem u_range (T : Txt K mg) : mg "range" = none := T.tx.free _ (Mq (Mq (Mq (Mq (Mq (Mq (Mq (Mq (Mq (List.Mem.head _))))))))))
theorem u_tuple (T : Txt K mg) : mg "tuple" = none := T.tx.free _ (Mq (Mq (Mq (Mq (Mq (Mq (Mq (Mq (Mq (Mq (Mq (List.Mem.head _))))))))))))
theorem u_ValueError (T : Txt K mg) : mg "ValueError" = none := T.tx.free _ (Mq (Mq (Mq (Mq (Mq (Mq (Mq (Mq (Mq (Mq (Mq (Mq (List.Mem.head _)))))))))))))
theorem g_MOST_ENTRIES (T : Txt K mg) : ∃ t, mg "MOST_ENTRIES" = some (.int 200 t) := T.tx.gint ("MOST_ENTRIES", 200) (Mq (Mq (Mq (Mq (Mq (Mq (List.Mem.head _)))))))
theorem errs_fld (T : Txt K mg) : ∀ q ∈ errsL, XfC K (He.ga K q.1) ∧ PySem.W.findIn K (.ref (He.ga K q.1)) q.2 = some none := fun q hq => by
  have e : errsL = errs.map fun d => (d.x, d.f) := rfl
  rw [e] at hq
  obtain ⟨d, hd, ed⟩ := List.mem_map.mp hq
  subst ed
  exact ⟨(T.err d hd).2.1, (T.err d hd).1.noN⟩
theorem er0_NoFeatures (T : Txt K mg) : Er0 K (He.ga K "NoFeatures") := T.er0 ("NoFeatures", "LockError", true) (List.mem_map_of_mem (f := fun c : Str => (c, ("LockError" : Str), true)) (show ("NoFeatures" : Str) ∈ As from (Mq (Mq (Mq (Mq (Mq (Mq (Mq (Mq (Mq (Mq (Mq (Mq (Mq (Mq (List.Mem.head _))))))))))))))))) (by decide +kernel)
theorem er0_NoLiteral (T : Txt K mg) : Er0 K (He.ga K "NoLiteral") := T.er0 ("NoLiteral", "LockError", true) (List.mem_map_of_mem (f := fun c : Str => (c, ("LockError" : Str), true)) (show ("NoLiteral" : Str) ∈ As from (Mq (Mq (Mq (Mq (Mq (Mq (Mq (Mq (Mq (Mq (Mq (Mq (Mq (Mq (Mq (Mq (Mq (Mq (Mq (Mq (Mq (Mq (List.Mem.head _))))))))))))))))))))))))) (by decide +kernel)
theorem er0_NoGivens (T : Txt K mg) : Er0 K (He.ga K "NoGivens") := T.er0 ("NoGivens", "LockError", true) (List.mem_map_of_mem (f := fun c : Str => (c, ("LockError" : Str), true)) (show ("NoGivens" : Str) ∈ As from (Mq (Mq (Mq (Mq (Mq (Mq (Mq (Mq (Mq (Mq (Mq (Mq (Mq (Mq (Mq (Mq (Mq (Mq (Mq (Mq (Mq (List.Mem.head _)))))))))))))))))))))))) (by decide +kernel)
theorem er0_NoStand (T : Txt K mg) : Er0 K (He.ga K "NoStand") := T.er0 ("NoStand", "LockError", true) (List.mem_map_of_mem (f := fun c : Str => (c, ("LockError" : Str), true)) (show ("NoStand" : Str) ∈ As from (Mq (Mq (Mq (Mq (Mq (Mq (Mq (Mq (Mq (Mq (Mq (Mq (Mq (Mq (Mq (Mq (Mq (Mq (Mq (Mq (List.Mem.head _))))))))))))))))))))))) (by decide +kernel)
theorem er0_NoSource (T : Txt K mg) : Er0 K (He.ga K "NoSource") := T.er0 ("NoSource", "LockError", true) (List.mem_map_of_mem (f := fun c : Str => (c, ("LockError" : Str), true)) (show ("NoSource" : Str) ∈ As from (Mq (Mq (Mq (Mq (Mq (Mq (Mq (Mq (Mq (Mq (Mq (Mq (Mq (Mq (Mq (Mq (Mq (Mq (Mq (List.Mem.head _)))))))))))))))))))))) (by decide +kernel)
theorem er0_NotClosed (T : Txt K mg) : Er0 K (He.ga K "NotClosed") := T.er0 ("NotClosed", "LockError", true) (List.mem_map_of_mem (f := fun c : Str => (c, ("LockError" : Str), true)) (show ("NotClosed" : Str) ∈ As from (Mq (Mq (Mq (Mq (Mq (Mq (Mq (Mq (Mq (Mq (Mq (Mq (Mq (Mq (Mq (Mq (Mq (Mq (List.Mem.head _))))))))))))))))))))) (by decide +kernel)
theorem er0_NotThere (T : Txt K mg) : Er0 K (He.ga K "NotThere") := T.er0 ("NotThere", "LockError", true) (List.mem_map_of_mem (f := fun c : Str => (c, ("LockError" : Str), true)) (show ("NotThere" : Str) ∈ As from (Mq (Mq (Mq (Mq (Mq (Mq (Mq (Mq (Mq (Mq (Mq (Mq (Mq (Mq (Mq (Mq (Mq (List.Mem.head _)))))))))))))))))))) (by decide +kernel)
theorem er0_NotRight (T : Txt K mg) : Er0 K (He.ga K "NotRight") := T.er0 ("NotRight", "LockError", true) (List.mem_map_of_mem (f := fun c : Str => (c, ("LockError" : Str), true)) (show ("NotRight" : Str) ∈ As from (Mq (Mq (Mq (Mq (Mq (Mq (Mq (Mq (Mq (Mq (Mq (Mq (Mq (Mq (Mq (Mq (List.Mem.head _))))))))))))))))))) (by decide +kernel)
theorem er0_NoEntry (T : Txt K mg) : Er0 K (He.ga K "NoEntry") := T.er0 ("NoEntry", "LockError", true) (List.mem_map_of_mem (f := fun c : Str => (c, ("LockError" : Str), true)) (show ("NoEntry" : Str) ∈ As from (Mq (Mq (Mq (Mq (Mq (Mq (Mq (Mq (Mq (Mq (Mq (Mq (Mq (Mq (Mq (List.Mem.head _)))))))))))))))))) (by decide +kernel)
theorem er0_NoText (T : Txt K mg) : Er0 K (He.ga K "NoText") := T.er0 ("NoText", "LockError", true) (List.mem_map_of_mem (f := fun c : Str => (c, ("LockError" : Str), true)) (show ("NoText" : Str) ∈ As from (Mq (Mq (Mq (Mq (Mq (Mq (Mq (Mq (Mq (Mq (Mq (Mq (Mq (Mq (Mq (Mq (Mq (Mq (Mq (Mq (Mq (Mq (Mq (Mq (Mq (Mq (Mq (Mq (Mq (Mq (List.Mem.head _))))))))))))))))))))))))))))))))) (by decide +kernel)
theorem er0_NothingDone (T : Txt K mg) : Er0 K (He.ga K "NothingDone") := T.er0 ("NothingDone", "LockError", true) (List.mem_map_of_mem (f := fun c : Str => (c, ("LockError" : Str), true)) (show ("NothingDone" : Str) ∈ As from (Mq (Mq (Mq (Mq (Mq (Mq (Mq (Mq (Mq (Mq (Mq (Mq (Mq (Mq (Mq (Mq (Mq (Mq (Mq (Mq (Mq (Mq (Mq (Mq (Mq (Mq (Mq (Mq (Mq (List.Mem.head _)))))))))))))))))))))))))))))))) (by decide +kernel)
theorem er0_NotQuestion (T : Txt K mg) : Er0 K (He.ga K "NotQuestion") := T.er0 ("NotQuestion", "LockError", true) (List.mem_map_of_mem (f := fun c : Str => (c, ("LockError" : Str), true)) (show ("NotQuestion" : Str) ∈ As from (Mq (Mq (Mq (Mq (Mq (Mq (Mq (Mq (Mq (Mq (Mq (Mq (Mq (Mq (Mq (Mq (Mq (Mq (Mq (Mq (Mq (Mq (Mq (Mq (Mq (Mq (Mq (Mq (List.Mem.head _))))))))))))))))))))))))))))))) (by decide +kernel)
theorem er0_NotEntry (T : Txt K mg) : Er0 K (He.ga K "NotEntry") := T.er0 ("NotEntry", "LockError", true) (List.mem_map_of_mem (f := fun c : Str => (c, ("LockError" : Str), true)) (show ("NotEntry" : Str) ∈ As from (Mq (Mq (Mq (Mq (Mq (Mq (Mq (Mq (Mq (Mq (Mq (Mq (Mq (Mq (Mq (Mq (Mq (Mq (Mq (Mq (Mq (Mq (Mq (Mq (Mq (Mq (Mq (List.Mem.head _)))))))))))))))))))))))))))))) (by decide +kernel)
theorem er0_NoNumber (T : Txt K mg) : Er0 K (He.ga K "NoNumber") := T.er0 ("NoNumber", "LockError", true) (List.mem_map_of_mem (f := fun c : Str => (c, ("LockError" : Str), true)) (show ("NoNumber" : Str) ∈ As from (Mq (Mq (Mq (Mq (Mq (Mq (Mq (Mq (Mq (Mq (Mq (Mq (Mq (Mq (Mq (Mq (Mq (Mq (Mq (Mq (Mq (Mq (Mq (Mq (Mq (Mq (List.Mem.head _))))))))))))))))))))))))))))) (by decide +kernel)
theorem er0_NoName (T : Txt K mg) : Er0 K (He.ga K "NoName") := T.er0 ("NoName", "LockError", true) (List.mem_map_of_mem (f := fun c : Str => (c, ("LockError" : Str), true)) (show ("NoName" : Str) ∈ As from (Mq (Mq (Mq (Mq (Mq (Mq (Mq (Mq (Mq (Mq (Mq (Mq (Mq (Mq (Mq (Mq (Mq (Mq (Mq (Mq (Mq (Mq (Mq (Mq (Mq (List.Mem.head _)))))))))))))))))))))))))))) (by decide +kernel)
theorem er0_NoSources (T : Txt K mg) : Er0 K (He.ga K "NoSources") := T.er0 ("NoSources", "LockError", true) (List.mem_map_of_mem (f := fun c : Str => (c, ("LockError" : Str), true)) (show ("NoSources" : Str) ∈ As from (Mq (Mq (Mq (Mq (Mq (Mq (Mq (Mq (Mq (Mq (Mq (Mq (Mq (Mq (Mq (Mq (Mq (Mq (Mq (Mq (Mq (Mq (Mq (Mq (List.Mem.head _))))))))))))))))))))))))))) (by decide +kernel)
theorem er0_NoPaper (T : Txt K mg) : Er0 K (He.ga K "NoPaper") := T.er0 ("NoPaper", "LockError", true) (List.mem_map_of_mem (f := fun c : Str => (c, ("LockError" : Str), true)) (show ("NoPaper" : Str) ∈ As from (Mq (Mq (Mq (Mq (Mq (Mq (Mq (Mq (Mq (Mq (Mq (Mq (Mq (Mq (Mq (Mq (Mq (Mq (Mq (Mq (Mq (Mq (Mq (List.Mem.head _)))))))))))))))))))))))))) (by decide +kernel)
theorem er0_NoMachine (T : Txt K mg) : Er0 K (He.ga K "NoMachine") := T.er0 ("NoMachine", "LockError", true) (List.mem_map_of_mem (f := fun c : Str => (c, ("LockError" : Str), true)) (show ("NoMachine" : Str) ∈ As from (Mq (Mq (Mq (Mq (Mq (Mq (Mq (Mq (Mq (Mq (Mq (Mq (Mq (Mq (Mq (Mq (Mq (Mq (Mq (Mq (Mq (Mq (Mq (Mq (Mq (Mq (Mq (Mq (Mq (Mq (Mq (Mq (Mq (Mq (Mq (Mq (Mq (Mq (List.Mem.head _))))))))))))))))))))))))))))))))))))))))) (by decide +kernel)
theorem er0_NoManifest (T : Txt K mg) : Er0 K (He.ga K "NoManifest") := T.er0 ("NoManifest", "LockError", true) (List.mem_map_of_mem (f := fun c : Str => (c, ("LockError" : Str), true)) (show ("NoManifest" : Str) ∈ As from (Mq (Mq (Mq (Mq (Mq (Mq (Mq (Mq (Mq (Mq (Mq (Mq (Mq (Mq (Mq (Mq (Mq (Mq (Mq (Mq (Mq (Mq (Mq (Mq (Mq (Mq (Mq (Mq (Mq (Mq (Mq (Mq (Mq (Mq (Mq (Mq (Mq (List.Mem.head _)))))))))))))))))))))))))))))))))))))))) (by decide +kernel)
theorem er0_NoMirrors (T : Txt K mg) : Er0 K (He.ga K "NoMirrors") := T.er0 ("NoMirrors", "LockError", true) (List.mem_map_of_mem (f := fun c : Str => (c, ("LockError" : Str), true)) (show ("NoMirrors" : Str) ∈ As from (Mq (Mq (Mq (Mq (Mq (Mq (Mq (Mq (Mq (Mq (Mq (Mq (Mq (Mq (Mq (Mq (Mq (Mq (Mq (Mq (Mq (Mq (Mq (Mq (Mq (Mq (Mq (Mq (Mq (Mq (Mq (Mq (Mq (Mq (Mq (Mq (List.Mem.head _))))))))))))))))))))))))))))))))))))))) (by decide +kernel)
theorem er0_NoContents (T : Txt K mg) : Er0 K (He.ga K "NoContents") := T.er0 ("NoContents", "LockError", true) (List.mem_map_of_mem (f := fun c : Str => (c, ("LockError" : Str), true)) (show ("NoContents" : Str) ∈ As from (Mq (Mq (Mq (Mq (Mq (Mq (Mq (Mq (Mq (Mq (Mq (Mq (Mq (Mq (Mq (Mq (Mq (Mq (Mq (Mq (Mq (Mq (Mq (Mq (Mq (Mq (Mq (Mq (Mq (Mq (Mq (Mq (Mq (Mq (Mq (List.Mem.head _)))))))))))))))))))))))))))))))))))))) (by decide +kernel)
theorem er0_NoDeed (T : Txt K mg) : Er0 K (He.ga K "NoDeed") := T.er0 ("NoDeed", "LockError", true) (List.mem_map_of_mem (f := fun c : Str => (c, ("LockError" : Str), true)) (show ("NoDeed" : Str) ∈ As from (Mq (Mq (Mq (Mq (Mq (Mq (Mq (Mq (Mq (Mq (Mq (Mq (Mq (Mq (Mq (Mq (Mq (Mq (Mq (Mq (Mq (Mq (Mq (Mq (Mq (Mq (Mq (Mq (Mq (Mq (Mq (Mq (Mq (Mq (List.Mem.head _))))))))))))))))))))))))))))))))))))) (by decide +kernel)
theorem er0_NotSafe (T : Txt K mg) : Er0 K (He.ga K "NotSafe") := T.er0 ("NotSafe", "LockError", true) (List.mem_map_of_mem (f := fun c : Str => (c, ("LockError" : Str), true)) (show ("NotSafe" : Str) ∈ As from (Mq (Mq (Mq (Mq (Mq (Mq (Mq (Mq (Mq (Mq (Mq (Mq (Mq (Mq (Mq (Mq (Mq (Mq (Mq (Mq (Mq (Mq (Mq (Mq (Mq (Mq (Mq (Mq (Mq (Mq (Mq (Mq (Mq (List.Mem.head _)))))))))))))))))))))))))))))))))))) (by decide +kernel)
theorem er0_NoStop (T : Txt K mg) : Er0 K (He.ga K "NoStop") := T.er0 ("NoStop", "LockError", true) (List.mem_map_of_mem (f := fun c : Str => (c, ("LockError" : Str), true)) (show ("NoStop" : Str) ∈ As from (Mq (Mq (Mq (Mq (Mq (Mq (Mq (Mq (Mq (Mq (Mq (Mq (Mq (Mq (Mq (Mq (Mq (Mq (Mq (Mq (Mq (Mq (Mq (Mq (Mq (Mq (Mq (Mq (Mq (Mq (Mq (Mq (List.Mem.head _))))))))))))))))))))))))))))))))))) (by decide +kernel)
theorem er0_NoStart (T : Txt K mg) : Er0 K (He.ga K "NoStart") := T.er0 ("NoStart", "LockError", true) (List.mem_map_of_mem (f := fun c : Str => (c, ("LockError" : Str), true)) (show ("NoStart" : Str) ∈ As from (Mq (Mq (Mq (Mq (Mq (Mq (Mq (Mq (Mq (Mq (Mq (Mq (Mq (Mq (Mq (Mq (Mq (Mq (Mq (Mq (Mq (Mq (Mq (Mq (Mq (Mq (Mq (Mq (Mq (Mq (Mq (List.Mem.head _)))))))))))))))))))))))))))))))))) (by decide +kernel)
theorem er0_NoRollout (T : Txt K mg) : Er0 K (He.ga K "NoRollout") := T.er0 ("NoRollout", "LockError", true) (List.mem_map_of_mem (f := fun c : Str => (c, ("LockError" : Str), true)) (show ("NoRollout" : Str) ∈ As from (Mq (Mq (Mq (Mq (Mq (Mq (Mq (Mq (Mq (Mq (Mq (Mq (Mq (Mq (Mq (Mq (Mq (Mq (Mq (Mq (Mq (Mq (Mq (Mq (Mq (Mq (Mq (Mq (Mq (Mq (Mq (Mq (Mq (Mq (Mq (Mq (Mq (Mq (Mq (List.Mem.head _)))))))))))))))))))))))))))))))))))))))))) (by decide +kernel)
theorem exc_all (T : Txt K mg) : ∀ c ∈ As, ExcC K (He.ga K c) := fun c hc => by
  unfold As at hc
  simp only [List.mem_cons, List.not_mem_nil, or_false] at hc
  rcases hc with e | e | e | e | e | e | e | e | e | e | e | e | e | e | e | e | e | e | e | e | e | e | e | e | e | e | e | e | e | e | e | e | e | e | e | e | e | e | e | e
  · rw [e]; exact (T.err e_BadText (List.Mem.head _)).2.2
  · rw [e]; exact (T.err e_BadEntry (Mq (List.Mem.head _))).2.2
  · rw [e]; exact (T.err e_BadBook (Mq (Mq (List.Mem.head _)))).2.2
  · rw [e]; exact (T.err e_BadLine (Mq (Mq (Mq (List.Mem.head _))))).2.2
  · rw [e]; exact (T.err e_BadQuestion (Mq (Mq (Mq (Mq (List.Mem.head _)))))).2.2
  · rw [e]; exact (T.err e_BadTask (Mq (Mq (Mq (Mq (Mq (List.Mem.head _))))))).2.2
  · rw [e]; exact (T.err e_BadStep (Mq (Mq (Mq (Mq (Mq (Mq (List.Mem.head _)))))))).2.2
  · rw [e]; exact (T.err e_TooMany (Mq (Mq (Mq (Mq (Mq (Mq (Mq (List.Mem.head _))))))))).2.2
  · rw [e]; exact (T.err e_NotFitting (Mq (Mq (Mq (Mq (Mq (Mq (Mq (Mq (List.Mem.head _)))))))))).2.2
  · rw [e]; exact (T.err e_NotGiven (Mq (Mq (Mq (Mq (Mq (Mq (Mq (Mq (Mq (List.Mem.head _))))))))))).2.2
  · rw [e]; exact (T.err e_NotFirst (Mq (Mq (Mq (Mq (Mq (Mq (Mq (Mq (Mq (Mq (List.Mem.head _)))))))))))).2.2
  · rw [e]; exact (T.err e_NotFetched (Mq (Mq (Mq (Mq (Mq (Mq (Mq (Mq (Mq (Mq (Mq (List.Mem.head _))))))))))))).2.2
  · rw [e]; exact (T.err e_NoBuild (Mq (Mq (Mq (Mq (Mq (Mq (Mq (Mq (Mq (Mq (Mq (Mq (List.Mem.head _)))))))))))))).2.2
  · rw [e]; exact (T.err e_Ringed (Mq (Mq (Mq (Mq (Mq (Mq (Mq (Mq (Mq (Mq (Mq (Mq (Mq (List.Mem.head _))))))))))))))).2.2
  · rw [e]; exact (T.er0 ("NoFeatures", "LockError", true) (List.mem_map_of_mem (f := fun c : Str => (c, ("LockError" : Str), true)) (show ("NoFeatures" : Str) ∈ As from (Mq (Mq (Mq (Mq (Mq (Mq (Mq (Mq (Mq (Mq (Mq (Mq (Mq (Mq (List.Mem.head _))))))))))))))))) (by decide +kernel)).is
  · rw [e]; exact (T.er0 ("NoEntry", "LockError", true) (List.mem_map_of_mem (f := fun c : Str => (c, ("LockError" : Str), true)) (show ("NoEntry" : Str) ∈ As from (Mq (Mq (Mq (Mq (Mq (Mq (Mq (Mq (Mq (Mq (Mq (Mq (Mq (Mq (Mq (List.Mem.head _)))))))))))))))))) (by decide +kernel)).is
  · rw [e]; exact (T.er0 ("NotRight", "LockError", true) (List.mem_map_of_mem (f := fun c : Str => (c, ("LockError" : Str), true)) (show ("NotRight" : Str) ∈ As from (Mq (Mq (Mq (Mq (Mq (Mq (Mq (Mq (Mq (Mq (Mq (Mq (Mq (Mq (Mq (Mq (List.Mem.head _))))))))))))))))))) (by decide +kernel)).is
  · rw [e]; exact (T.er0 ("NotThere", "LockError", true) (List.mem_map_of_mem (f := fun c : Str => (c, ("LockError" : Str), true)) (show ("NotThere" : Str) ∈ As from (Mq (Mq (Mq (Mq (Mq (Mq (Mq (Mq (Mq (Mq (Mq (Mq (Mq (Mq (Mq (Mq (Mq (List.Mem.head _)))))))))))))))))))) (by decide +kernel)).is
  · rw [e]; exact (T.er0 ("NotClosed", "LockError", true) (List.mem_map_of_mem (f := fun c : Str => (c, ("LockError" : Str), true)) (show ("NotClosed" : Str) ∈ As from (Mq (Mq (Mq (Mq (Mq (Mq (Mq (Mq (Mq (Mq (Mq (Mq (Mq (Mq (Mq (Mq (Mq (Mq (List.Mem.head _))))))))))))))))))))) (by decide +kernel)).is
  · rw [e]; exact (T.er0 ("NoSource", "LockError", true) (List.mem_map_of_mem (f := fun c : Str => (c, ("LockError" : Str), true)) (show ("NoSource" : Str) ∈ As from (Mq (Mq (Mq (Mq (Mq (Mq (Mq (Mq (Mq (Mq (Mq (Mq (Mq (Mq (Mq (Mq (Mq (Mq (Mq (List.Mem.head _)))))))))))))))))))))) (by decide +kernel)).is
  · rw [e]; exact (T.er0 ("NoStand", "LockError", true) (List.mem_map_of_mem (f := fun c : Str => (c, ("LockError" : Str), true)) (show ("NoStand" : Str) ∈ As from (Mq (Mq (Mq (Mq (Mq (Mq (Mq (Mq (Mq (Mq (Mq (Mq (Mq (Mq (Mq (Mq (Mq (Mq (Mq (Mq (List.Mem.head _))))))))))))))))))))))) (by decide +kernel)).is
  · rw [e]; exact (T.er0 ("NoGivens", "LockError", true) (List.mem_map_of_mem (f := fun c : Str => (c, ("LockError" : Str), true)) (show ("NoGivens" : Str) ∈ As from (Mq (Mq (Mq (Mq (Mq (Mq (Mq (Mq (Mq (Mq (Mq (Mq (Mq (Mq (Mq (Mq (Mq (Mq (Mq (Mq (Mq (List.Mem.head _)))))))))))))))))))))))) (by decide +kernel)).is
  · rw [e]; exact (T.er0 ("NoLiteral", "LockError", true) (List.mem_map_of_mem (f := fun c : Str => (c, ("LockError" : Str), true)) (show ("NoLiteral" : Str) ∈ As from (Mq (Mq (Mq (Mq (Mq (Mq (Mq (Mq (Mq (Mq (Mq (Mq (Mq (Mq (Mq (Mq (Mq (Mq (Mq (Mq (Mq (Mq (List.Mem.head _))))))))))))))))))))))))) (by decide +kernel)).is
  · rw [e]; exact (T.er0 ("NoPaper", "LockError", true) (List.mem_map_of_mem (f := fun c : Str => (c, ("LockError" : Str), true)) (show ("NoPaper" : Str) ∈ As from (Mq (Mq (Mq (Mq (Mq (Mq (Mq (Mq (Mq (Mq (Mq (Mq (Mq (Mq (Mq (Mq (Mq (Mq (Mq (Mq (Mq (Mq (Mq (List.Mem.head _)))))))))))))))))))))))))) (by decide +kernel)).is
  · rw [e]; exact (T.er0 ("NoSources", "LockError", true) (List.mem_map_of_mem (f := fun c : Str => (c, ("LockError" : Str), true)) (show ("NoSources" : Str) ∈ As from (Mq (Mq (Mq (Mq (Mq (Mq (Mq (Mq (Mq (Mq (Mq (Mq (Mq (Mq (Mq (Mq (Mq (Mq (Mq (Mq (Mq (Mq (Mq (Mq (List.Mem.head _))))))))))))))))))))))))))) (by decide +kernel)).is
  · rw [e]; exact (T.er0 ("NoName", "LockError", true) (List.mem_map_of_mem (f := fun c : Str => (c, ("LockError" : Str), true)) (show ("NoName" : Str) ∈ As from (Mq (Mq (Mq (Mq (Mq (Mq (Mq (Mq (Mq (Mq (Mq (Mq (Mq (Mq (Mq (Mq (Mq (Mq (Mq (Mq (Mq (Mq (Mq (Mq (Mq (List.Mem.head _)))))))))))))))))))))))))))) (by decide +kernel)).is
  · rw [e]; exact (T.er0 ("NoNumber", "LockError", true) (List.mem_map_of_mem (f := fun c : Str => (c, ("LockError" : Str), true)) (show ("NoNumber" : Str) ∈ As from (Mq (Mq (Mq (Mq (Mq (Mq (Mq (Mq (Mq (Mq (Mq (Mq (Mq (Mq (Mq (Mq (Mq (Mq (Mq (Mq (Mq (Mq (Mq (Mq (Mq (Mq (List.Mem.head _))))))))))))))))))))))))))))) (by decide +kernel)).is
  · rw [e]; exact (T.er0 ("NotEntry", "LockError", true) (List.mem_map_of_mem (f := fun c : Str => (c, ("LockError" : Str), true)) (show ("NotEntry" : Str) ∈ As from (Mq (Mq (Mq (Mq (Mq (Mq (Mq (Mq (Mq (Mq (Mq (Mq (Mq (Mq (Mq (Mq (Mq (Mq (Mq (Mq (Mq (Mq (Mq (Mq (Mq (Mq (Mq (List.Mem.head _)))))))))))))))))))))))))))))) (by decide +kernel)).is
  · rw [e]; exact (T.er0 ("NotQuestion", "LockError", true) (List.mem_map_of_mem (f := fun c : Str => (c, ("LockError" : Str), true)) (show ("NotQuestion" : Str) ∈ As from (Mq (Mq (Mq (Mq (Mq (Mq (Mq (Mq (Mq (Mq (Mq (Mq (Mq (Mq (Mq (Mq (Mq (Mq (Mq (Mq (Mq (Mq (Mq (Mq (Mq (Mq (Mq (Mq (List.Mem.head _))))))))))))))))))))))))))))))) (by decide +kernel)).is
  · rw [e]; exact (T.er0 ("NothingDone", "LockError", true) (List.mem_map_of_mem (f := fun c : Str => (c, ("LockError" : Str), true)) (show ("NothingDone" : Str) ∈ As from (Mq (Mq (Mq (Mq (Mq (Mq (Mq (Mq (Mq (Mq (Mq (Mq (Mq (Mq (Mq (Mq (Mq (Mq (Mq (Mq (Mq (Mq (Mq (Mq (Mq (Mq (Mq (Mq (Mq (List.Mem.head _)))))))))))))))))))))))))))))))) (by decide +kernel)).is
  · rw [e]; exact (T.er0 ("NoText", "LockError", true) (List.mem_map_of_mem (f := fun c : Str => (c, ("LockError" : Str), true)) (show ("NoText" : Str) ∈ As from (Mq (Mq (Mq (Mq (Mq (Mq (Mq (Mq (Mq (Mq (Mq (Mq (Mq (Mq (Mq (Mq (Mq (Mq (Mq (Mq (Mq (Mq (Mq (Mq (Mq (Mq (Mq (Mq (Mq (Mq (List.Mem.head _))))))))))))))))))))))))))))))))) (by decide +kernel)).is
  · rw [e]; exact (T.er0 ("NoStart", "LockError", true) (List.mem_map_of_mem (f := fun c : Str => (c, ("LockError" : Str), true)) (show ("NoStart" : Str) ∈ As from (Mq (Mq (Mq (Mq (Mq (Mq (Mq (Mq (Mq (Mq (Mq (Mq (Mq (Mq (Mq (Mq (Mq (Mq (Mq (Mq (Mq (Mq (Mq (Mq (Mq (Mq (Mq (Mq (Mq (Mq (Mq (List.Mem.head _)))))))))))))))))))))))))))))))))) (by decide +kernel)).is
  · rw [e]; exact (T.er0 ("NoStop", "LockError", true) (List.mem_map_of_mem (f := fun c : Str => (c, ("LockError" : Str), true)) (show ("NoStop" : Str) ∈ As from (Mq (Mq (Mq (Mq (Mq (Mq (Mq (Mq (Mq (Mq (Mq (Mq (Mq (Mq (Mq (Mq (Mq (Mq (Mq (Mq (Mq (Mq (Mq (Mq (Mq (Mq (Mq (Mq (Mq (Mq (Mq (Mq (List.Mem.head _))))))))))))))))))))))))))))))))))) (by decide +kernel)).is
  · rw [e]; exact (T.er0 ("NotSafe", "LockError", true) (List.mem_map_of_mem (f := fun c : Str => (c, ("LockError" : Str), true)) (show ("NotSafe" : Str) ∈ As from (Mq (Mq (Mq (Mq (Mq (Mq (Mq (Mq (Mq (Mq (Mq (Mq (Mq (Mq (Mq (Mq (Mq (Mq (Mq (Mq (Mq (Mq (Mq (Mq (Mq (Mq (Mq (Mq (Mq (Mq (Mq (Mq (Mq (List.Mem.head _)))))))))))))))))))))))))))))))))))) (by decide +kernel)).is
  · rw [e]; exact (T.er0 ("NoDeed", "LockError", true) (List.mem_map_of_mem (f := fun c : Str => (c, ("LockError" : Str), true)) (show ("NoDeed" : Str) ∈ As from (Mq (Mq (Mq (Mq (Mq (Mq (Mq (Mq (Mq (Mq (Mq (Mq (Mq (Mq (Mq (Mq (Mq (Mq (Mq (Mq (Mq (Mq (Mq (Mq (Mq (Mq (Mq (Mq (Mq (Mq (Mq (Mq (Mq (Mq (List.Mem.head _))))))))))))))))))))))))))))))))))))) (by decide +kernel)).is
  · rw [e]; exact (T.er0 ("NoContents", "LockError", true) (List.mem_map_of_mem (f := fun c : Str => (c, ("LockError" : Str), true)) (show ("NoContents" : Str) ∈ As from (Mq (Mq (Mq (Mq (Mq (Mq (Mq (Mq (Mq (Mq (Mq (Mq (Mq (Mq (Mq (Mq (Mq (Mq (Mq (Mq (Mq (Mq (Mq (Mq (Mq (Mq (Mq (Mq (Mq (Mq (Mq (Mq (Mq (Mq (Mq (List.Mem.head _)))))))))))))))))))))))))))))))))))))) (by decide +kernel)).is
  · rw [e]; exact (T.er0 ("NoMirrors", "LockError", true) (List.mem_map_of_mem (f := fun c : Str => (c, ("LockError" : Str), true)) (show ("NoMirrors" : Str) ∈ As from (Mq (Mq (Mq (Mq (Mq (Mq (Mq (Mq (Mq (Mq (Mq (Mq (Mq (Mq (Mq (Mq (Mq (Mq (Mq (Mq (Mq (Mq (Mq (Mq (Mq (Mq (Mq (Mq (Mq (Mq (Mq (Mq (Mq (Mq (Mq (Mq (List.Mem.head _))))))))))))))))))))))))))))))))))))))) (by decide +kernel)).is
  · rw [e]; exact (T.er0 ("NoManifest", "LockError", true) (List.mem_map_of_mem (f := fun c : Str => (c, ("LockError" : Str), true)) (show ("NoManifest" : Str) ∈ As from (Mq (Mq (Mq (Mq (Mq (Mq (Mq (Mq (Mq (Mq (Mq (Mq (Mq (Mq (Mq (Mq (Mq (Mq (Mq (Mq (Mq (Mq (Mq (Mq (Mq (Mq (Mq (Mq (Mq (Mq (Mq (Mq (Mq (Mq (Mq (Mq (Mq (List.Mem.head _)))))))))))))))))))))))))))))))))))))))) (by decide +kernel)).is
  · rw [e]; exact (T.er0 ("NoMachine", "LockError", true) (List.mem_map_of_mem (f := fun c : Str => (c, ("LockError" : Str), true)) (show ("NoMachine" : Str) ∈ As from (Mq (Mq (Mq (Mq (Mq (Mq (Mq (Mq (Mq (Mq (Mq (Mq (Mq (Mq (Mq (Mq (Mq (Mq (Mq (Mq (Mq (Mq (Mq (Mq (Mq (Mq (Mq (Mq (Mq (Mq (Mq (Mq (Mq (Mq (Mq (Mq (Mq (Mq (List.Mem.head _))))))))))))))))))))))))))))))))))))))))) (by decide +kernel)).is
  · rw [e]; exact (T.er0 ("NoRollout", "LockError", true) (List.mem_map_of_mem (f := fun c : Str => (c, ("LockError" : Str), true)) (show ("NoRollout" : Str) ∈ As from (Mq (Mq (Mq (Mq (Mq (Mq (Mq (Mq (Mq (Mq (Mq (Mq (Mq (Mq (Mq (Mq (Mq (Mq (Mq (Mq (Mq (Mq (Mq (Mq (Mq (Mq (Mq (Mq (Mq (Mq (Mq (Mq (Mq (Mq (Mq (Mq (Mq (Mq (Mq (List.Mem.head _)))))))))))))))))))))))))))))))))))))))))) (by decide +kernel)).is
theorem exm_LockError (T : Txt K mg) : ∀ q ∈ tblT, PySem.W.exmOne K (.ref (He.ga K q.1)) (.ref (He.ga K "LockError")) = some q.2 := fun q hq => by
  obtain ⟨c, hc, rfl⟩ := List.mem_map.mp hq
  exact T.exm (c, "LockError", true) (List.mem_map_of_mem (f := fun c : Str => (c, ("LockError" : Str), true)) hc)
theorem kit_own (T : Txt K mg) (Y : Str) (hY : Y ∈ As) : ∀ q ∈ tblOf Y, ExcC K (He.ga K q.1) ∧ PySem.W.kitOne K (.ref (He.ga K q.1)) (.ref (He.ga K Y)) = some q.2 := fun q hq => by
  obtain ⟨c, hc, rfl⟩ := List.mem_map.mp hq
  exact ⟨exc_all T c hc, T.kit (c, Y, decide (c = Y)) (List.mem_append_left _ (List.mem_flatMap.mpr ⟨Y, hY, List.mem_map_of_mem (f := fun c : Str => (c, Y, decide (c = Y))) hc⟩))⟩
theorem kit_LockError (T : Txt K mg) : ∀ q ∈ tblT, ExcC K (He.ga K q.1) ∧ PySem.W.kitOne K (.ref (He.ga K q.1)) (.ref (He.ga K "LockError")) = some q.2 := fun q hq => by
  obtain ⟨c, hc, rfl⟩ := List.mem_map.mp hq
  exact ⟨exc_all T c hc, T.kit (c, "LockError", true) (List.mem_append_right _ (List.mem_append_left _ (List.mem_map_of_mem (f := fun c : Str => (c, ("LockError" : Str), true)) hc)))⟩
theorem kit_ValueError (T : Txt K mg) : ∀ q ∈ tblT, ExcC K (He.ga K q.1) ∧ PySem.W.kitOne K (.ref (He.ga K q.1)) (.type "ValueError") = some q.2 := fun q hq => by
  obtain ⟨c, hc, rfl⟩ := List.mem_map.mp hq
  exact ⟨exc_all T c hc, T.kib (c, "ValueError", true) (List.mem_append_left _ (List.mem_map_of_mem (f := fun c : Str => (c, ("ValueError" : String), true)) hc))⟩
theorem own_Entry {K : PySem.W.Frag} {mg : Str → Option Value} (T : Txt K mg) (I : ∀ q ∈ fxs, q.ok K = true) : ∀ q ∈ [(("Entry" : Str), true), (("Book" : Str), false)], Cls K (He.ga K q.1) ∧ clB K (He.ga K q.1) = true ∧ PySem.W.kitOne K (.ref (He.ga K q.1)) (.ref (He.ga K "Entry")) = some q.2 := fun q hq => by
  simp only [List.mem_cons, List.not_mem_nil, or_false] at hq
  rcases hq with e | e
  · subst e; exact ⟨He.cls_ok (fx_Entry I _ (List.mem_cons_self ..)), T.kcl ("Entry", "str", false) (List.mem_append_right _ (List.Mem.head _)), T.kit ("Entry", "Entry", true) (List.mem_append_right _ (List.mem_append_right _ (List.Mem.head _)))⟩
  · subst e; exact ⟨He.cls_ok (fx_Book I _ (List.mem_cons_self ..)), T.kcl ("Book", "str", false) (List.mem_append_right _ (Mq (List.Mem.head _))), T.kit ("Book", "Entry", false) (List.mem_append_right _ (List.mem_append_right _ (Mq (List.Mem.head _))))⟩
theorem own_Book {K : PySem.W.Frag} {mg : Str → Option Value} (T : Txt K mg) (I : ∀ q ∈ fxs, q.ok K = true) : ∀ q ∈ [(("Entry" : Str), false), (("Book" : Str), true)], Cls K (He.ga K q.1) ∧ clB K (He.ga K q.1) = true ∧ PySem.W.kitOne K (.ref (He.ga K q.1)) (.ref (He.ga K "Book")) = some q.2 := fun q hq => by
  simp only [List.mem_cons, List.not_mem_nil, or_false] at hq
  rcases hq with e | e
  · subst e; exact ⟨He.cls_ok (fx_Entry I _ (List.mem_cons_self ..)), T.kcl ("Entry", "str", false) (List.mem_append_right _ (List.Mem.head _)), T.kit ("Entry", "Book", false) (List.mem_append_right _ (List.mem_append_right _ (Mq (Mq (List.Mem.head _)))))⟩
  · subst e; exact ⟨He.cls_ok (fx_Book I _ (List.mem_cons_self ..)), T.kcl ("Book", "str", false) (List.mem_append_right _ (Mq (List.Mem.head _))), T.kit ("Book", "Book", true) (List.mem_append_right _ (List.mem_append_right _ (Mq (Mq (Mq (List.Mem.head _))))))⟩
end
section
variable {P : Program} {w : World} {K : PySem.W.Frag} {mg : Str → Option Value} {base : Heap} {p c a : Addr} {bp : Prop} {S : Type} {B : Amb S}
theorem sc_key_of : FnScope ["entry"] ["entry"] (defScope s_key_of) := ⟨rfl, rfl, rfl, by decide +kernel, rfl, by decide +kernel, by decide +kernel⟩
def f_key_of : List D → S → Option (D × S) := mDef 1 (sRet (mF tupD (mCons (mFldI fldsI "name" (mVar 0)) (mCons (mFldI fldsI "version" (mVar 0)) mNil))))
theorem ok_key_of (T : Txt K mg) (Z : PySem.Er.Pg P "/claim/cut.py") (I : ∀ q ∈ fxs, q.ok K = true) : DOk P w K mg base (B) "key_of" 1 ["entry"] f_key_of := by
  obtain ⟨fd, Fn⟩ := T.tx.fns d_key_of (Mq (Mq (Mq (Mq (Mq (Mq (Mq (Mq (Mq (Mq (Mq (Mq (Mq (List.Mem.head _))))))))))))))
  exact d_defD Fn (T.tx.glo _ (Mq (Mq (Mq (Mq (Mq (Mq (Mq (Mq (Mq (Mq (Mq (Mq (Mq (List.Mem.head _))))))))))))))) sc_key_of (fun _ _ _ _ _ _ us hl => match us, hl with | [_], _ => rfl) (fun cdv A outer s H E hr => (s_one (s_ret (d_tup (l_cons (d_fldI (flds_i I) (d_var (pv 0))) (l_cons (d_fldI (flds_i I) (d_var (pv 0))) l_nil))))))
theorem sc__law_hand : FnScope ["_law_script", "_law_cells", "_law_cell"] ["_law_script"] (defScope s__law_hand) := ⟨rfl, rfl, rfl, by decide +kernel, rfl, by decide +kernel, by decide +kernel⟩
def c__law_hand_0 : ME (List Int) := (mF absD (mCons (mF intCD (mCons (mVar 2) mNil)) mNil))
theorem c__law_hand_0_eq (env : DE) (s : List Int) : c__law_hand_0 env s = (mF absD (mCons (mF intCD (mCons (mVar 2) mNil)) mNil)) env s := rfl
def f__law_hand : List D → List Int → Option (D × List Int) := mDef 3 (sSeq (sAsg (gdName 1) (mComp (mIt lstItems (mScr 0 63)) (gdName 2) mYes c__law_hand_0 [2])) (sRet (mF lstD (mCons (mVar 1) (mCons (mC (.int 0)) (mCons (mC (.int 0)) (mCons (mB addD (mC (.int 1)) (mF lenD (mCons (mVar 1) mNil))) (mCons (mC (.int 0)) mNil))))))))
theorem ok__law_hand (T : Txt K mg) (Z : PySem.Er.Pg P "/claim/cut.py") (I : ∀ q ∈ fxs, q.ok K = true) : DOk P w K mg base (ScrB K a bp) "_law_hand" 1 ["_law_script"] f__law_hand := by
  obtain ⟨fd, Fn⟩ := T.tx.fns d__law_hand (Mq (Mq (Mq (Mq (Mq (Mq (Mq (Mq (Mq (Mq (Mq (Mq (Mq (Mq (List.Mem.head _)))))))))))))))
  exact d_defD Fn (T.tx.glo _ (Mq (Mq (Mq (Mq (Mq (Mq (Mq (Mq (Mq (Mq (Mq (Mq (Mq (Mq (List.Mem.head _)))))))))))))))) sc__law_hand (fun _ _ _ _ _ _ us hl => match us, hl with | [_], _ => rfl) (fun cdv A outer s H E hr => (s_cons (s_setLc (i := 1) rfl sc__law_hand.nd rfl rfl (sw_true rfl rfl rfl (by decide +kernel)) (i_lst (d_scr (pv 0))) (blkOk_by (own := [("_law_cell", 2)]) (by kernel_rfl)) (fun _ _ _ _ _ => (pg_name (i := 2) sc__law_hand.nd rfl (by first | exact Or.inl rfl | exact Or.inr rfl))) (g_name 2) (fun _ _ _ _ _ => dts_nil) (fun _ _ _ _ _ => (d_callB call_abs absD_ok (u_abs T) (by decide +kernel) (l_cons (d_callTy call_int1 intCD_ok (u_int T) (by decide +kernel) (l_cons (d_var (pv 2)) l_nil)) l_nil)))) (s_one (s_ret (d_lst (l_cons (d_var (pv 1)) (l_cons d_int (l_cons d_int (l_cons (d_op op_addA addD_ok d_int (d_callB call_len lenD_ok (u_len T) (by decide +kernel) (l_cons (d_var (pv 1)) l_nil))) (l_cons d_int l_nil))))))))))
theorem sc__law_draw : FnScope ["_law_hand_here", "_law_many", "_law_number", "_law_cell", "_law_digit"] ["_law_hand_here", "_law_many"] (defScope s__law_draw) := ⟨rfl, rfl, rfl, by decide +kernel, rfl, by decide +kernel, by decide +kernel⟩
def f__law_draw : List D → Hand → Option (D × Hand) := mDef 5 (sSeq (sIf (mAndT (mIsT (mB (relD eqP) (mHx 0 2) (mC (.int 0)))) (mIsT (mB (relD ltP) (mHx 0 1) (mHlen 0)))) (sSeq (sAsg (gdName 3) (mHcell 0 (mHx 0 1))) (sSeq (sHput 0 1 (mB addD (mHx 0 1) (mC (.int 1)))) (sSeq (sHput 0 3 (mB modD (mF intCD (mCons (mB addD (mB addD (mB mulD (mHx 0 3) (mC (.int 69621))) (mVar 3)) (mC (.int 11))) mNil)) (mC (.int 2147483629)))) (sIf (mIsT (mB (relD geP) (mVar 3) (mB powD (mC (.int 10)) (mC (.int 18))))) (sHput 0 2 (mVar 3)) sNil)))) sNil) (sSeq (sIf (mIsT (mB (relD gtP) (mHx 0 2) (mC (.int 0)))) (sSeq (sAsg (gdName 4) (mB modD (mF intCD (mCons (mHx 0 2) mNil)) (mVar 1))) (sSeq (sHput 0 2 (mB divD (mHx 0 2) (mVar 1))) (sRet (mVar 4)))) sNil) (sSeq (sHput 0 4 (mB addD (mHx 0 4) (mC (.int 1)))) (sSeq (sAsg (gdName 2) (mB modD (mF intCD (mCons (mB mulD (mF intCD (mCons (mB addD (mHx 0 3) (mB mulD (mC (.int 7919)) (mHx 0 4))) mNil)) (mC (.int 48271))) mNil)) (mC (.int 2147483647)))) (sSeq (sAsg (gdName 2) (mB modD (mF intCD (mCons (mB mulD (mVar 2) (mB addD (mB divD (mVar 2) (mC (.int 1009))) (mC (.int 69621)))) mNil)) (mC (.int 2147483647)))) (sSeq (sAsg (gdName 2) (mB modD (mF intCD (mCons (mB mulD (mVar 2) (mB addD (mB divD (mVar 2) (mC (.int 2003))) (mC (.int 40692)))) mNil)) (mC (.int 2147483399)))) (sRet (mB modD (mF intCD (mCons (mB divD (mVar 2) (mC (.int 16))) mNil)) (mVar 1)))))))))
theorem ok__law_draw (T : Txt K mg) (Z : PySem.Er.Pg P "/claim/cut.py") (I : ∀ q ∈ fxs, q.ok K = true) : DOk P w K mg base (HandB p c) "_law_draw" 1 ["_law_hand_here", "_law_many"] f__law_draw := by
  obtain ⟨fd, Fn⟩ := T.tx.fns d__law_draw (Mq (Mq (Mq (Mq (Mq (Mq (Mq (Mq (Mq (Mq (Mq (Mq (Mq (Mq (Mq (List.Mem.head _))))))))))))))))
  exact d_defD Fn (T.tx.glo _ (Mq (Mq (Mq (Mq (Mq (Mq (Mq (Mq (Mq (Mq (Mq (Mq (Mq (Mq (Mq (List.Mem.head _))))))))))))))))) sc__law_draw (fun _ _ _ _ _ _ us hl => match us, hl with | [_, _], _ => rfl) (fun cdv A outer s H E hr => (s_cons (s_if (dt_w (dw_and (dt_cmp (op_eqP hr.units) (relD_ok _) (d_hx (pv 0)) d_int) (dw_and1 (dt_cmp (op_ltP hr.units) (relD_ok _) (d_hx (pv 0)) (d_hlen (u_len T) (pv 0)))))) (s_cons (s_set (i := 3) sc__law_draw.nd (d_hcell (pv 0) (d_hx (pv 0)))) (s_cons (s_hput (pv 0) (d_op op_addA addD_ok (d_hx (pv 0)) d_int) (fun ho hk => pg_sub ho hk set_list)) (s_cons (s_hput (pv 0) (d_op op_mod modD_ok (d_callTy call_int1 intCD_ok (u_int T) (by decide +kernel) (l_cons (d_op op_addA addD_ok (d_op op_addA addD_ok (d_op op_mulA mulD_ok (d_hx (pv 0)) d_int) (d_var (pv 3))) d_int) l_nil)) d_int) (fun ho hk => pg_sub ho hk set_list)) (s_one (s_if (dt_cmp (op_geP hr.units) (relD_ok _) (d_var (pv 3)) (d_op op_pow powD_ok d_int d_int)) (s_one (s_hput (pv 0) (d_var (pv 3)) (fun ho hk => pg_sub ho hk set_list))) s_nil))))) s_nil) (s_cons (s_if (dt_cmp (op_gtP hr.units) (relD_ok _) (d_hx (pv 0)) d_int) (s_cons (s_set (i := 4) sc__law_draw.nd (d_op op_mod modD_ok (d_callTy call_int1 intCD_ok (u_int T) (by decide +kernel) (l_cons (d_hx (pv 0)) l_nil)) (d_var (pv 1)))) (s_cons (s_hput (pv 0) (d_op op_fdivW divD_ok (d_hx (pv 0)) (d_var (pv 1))) (fun ho hk => pg_sub ho hk set_list)) (s_one (s_ret (d_var (pv 4)))))) s_nil) (s_cons (s_hput (pv 0) (d_op op_addA addD_ok (d_hx (pv 0)) d_int) (fun ho hk => pg_sub ho hk set_list)) (s_cons (s_set (i := 2) sc__law_draw.nd (d_op op_mod modD_ok (d_callTy call_int1 intCD_ok (u_int T) (by decide +kernel) (l_cons (d_op op_mulA mulD_ok (d_callTy call_int1 intCD_ok (u_int T) (by decide +kernel) (l_cons (d_op op_addA addD_ok (d_hx (pv 0)) (d_op op_mulA mulD_ok d_int (d_hx (pv 0)))) l_nil)) d_int) l_nil)) d_int)) (s_cons (s_set (i := 2) sc__law_draw.nd (d_op op_mod modD_ok (d_callTy call_int1 intCD_ok (u_int T) (by decide +kernel) (l_cons (d_op op_mulA mulD_ok (d_var (pv 2)) (d_op op_addA addD_ok (d_op op_fdivW divD_ok (d_var (pv 2)) d_int) d_int)) l_nil)) d_int)) (s_cons (s_set (i := 2) sc__law_draw.nd (d_op op_mod modD_ok (d_callTy call_int1 intCD_ok (u_int T) (by decide +kernel) (l_cons (d_op op_mulA mulD_ok (d_var (pv 2)) (d_op op_addA addD_ok (d_op op_fdivW divD_ok (d_var (pv 2)) d_int) d_int)) l_nil)) d_int)) (s_one (s_ret (d_op op_mod modD_ok (d_callTy call_int1 intCD_ok (u_int T) (by decide +kernel) (l_cons (d_op op_fdivW divD_ok (d_var (pv 2)) d_int) l_nil)) (d_var (pv 1))))))))))))
theorem sc__law_some : FnScope ["_law_hand_here", "_law_things"] ["_law_hand_here", "_law_things"] (defScope s__law_some) := ⟨rfl, rfl, rfl, by decide +kernel, rfl, by decide +kernel, by decide +kernel⟩
def f__law_some : List D → Hand → Option (D × Hand) := mDef 2 (sRet (mB ixD (mVar 1) (mCall f__law_draw (mCons (mVar 0) (mCons (mF lenD (mCons (mVar 1) mNil)) mNil)))))
theorem ok__law_some (T : Txt K mg) (Z : PySem.Er.Pg P "/claim/cut.py") (I : ∀ q ∈ fxs, q.ok K = true) : DOk P w K mg base (HandB p c) "_law_some" 2 ["_law_hand_here", "_law_things"] f__law_some := by
  obtain ⟨fd, Fn⟩ := T.tx.fns d__law_some (Mq (Mq (Mq (Mq (Mq (Mq (Mq (Mq (Mq (Mq (Mq (Mq (Mq (Mq (Mq (Mq (List.Mem.head _)))))))))))))))))
  exact d_defD Fn (T.tx.glo _ (Mq (Mq (Mq (Mq (Mq (Mq (Mq (Mq (Mq (Mq (Mq (Mq (Mq (Mq (Mq (Mq (List.Mem.head _)))))))))))))))))) sc__law_some (fun _ _ _ _ _ _ us hl => match us, hl with | [_, _], _ => rfl) (fun cdv A outer s H E hr => (s_one (s_ret (d_ix ix_seq ixD_ok (d_var (pv 1)) (d_callO (ok__law_draw T Z I) hr (l_cons (d_var (pv 0)) (l_cons (d_callB call_len lenD_ok (u_len T) (by decide +kernel) (l_cons (d_var (pv 1)) l_nil)) l_nil)) (hl := (len_cons (len_cons len_nil))))))))
theorem sc__law_is : FnScope ["_law_told", "_law_due", "_law_k", "_law_key"] ["_law_told", "_law_due"] (defScope s__law_is) := ⟨rfl, rfl, rfl, by decide +kernel, rfl, by decide +kernel, by decide +kernel⟩
def c__law_is_0 (r : List D → Hand → Option (D × Hand)) : ME (Hand) := (mCall r (mCons (mB ixD (mVar 0) (mVar 2)) (mCons (mB ixD (mVar 1) (mVar 2)) mNil)))
theorem c__law_is_0_eq (r : List D → Hand → Option (D × Hand)) (env : DE) (s : Hand) : c__law_is_0 r env s = (mCall r (mCons (mB ixD (mVar 0) (mVar 2)) (mCons (mB ixD (mVar 1) (mVar 2)) mNil))) env s := rfl
def c__law_is_1 (r : List D → Hand → Option (D × Hand)) : ME (Hand) := (mCall r (mCons (mB dgetD (mVar 0) (mVar 3)) (mCons (mB dgetD (mVar 1) (mVar 3)) mNil)))
theorem c__law_is_1_eq (r : List D → Hand → Option (D × Hand)) (env : DE) (s : Hand) : c__law_is_1 r env s = (mCall r (mCons (mB dgetD (mVar 0) (mVar 3)) (mCons (mB dgetD (mVar 1) (mVar 3)) mNil))) env s := rfl
def g__law_is (r : List D → Hand → Option (D × Hand)) : List D → Hand → Option (D × Hand) := mDef 4 (sSeq (sIf (mIsT (mU (isiTD [.tTuple, .tList]) (mVar 1))) (sSeq (sIf (mOrT (mIsT (mB (relD neP) (mU (isiD .tTuple) (mVar 0)) (mU (isiD .tTuple) (mVar 1)))) (mIsT (mB (relD neP) (mU (isiD .tList) (mVar 0)) (mU (isiD .tList) (mVar 1))))) (sRet (mC (.bl false))) sNil) (sRet (mAnd (mB eqXD (mF lenD (mCons (mVar 0) mNil)) (mF lenD (mCons (mVar 1) mNil))) (mF allD (mCons (mComp (mRng rng1D (mCons (mF lenD (mCons (mVar 1) mNil)) mNil)) (gdName 2) mYes (c__law_is_0 r) [2]) mNil))))) sNil) (sSeq (sIf (mIsT (mU (isiD .tDict) (mVar 1))) (sRet (mAnd (mU (isiD .tDict) (mVar 0)) (mAnd (mB eqXD (mVar 0) (mVar 1)) (mF allD (mCons (mCompKy 1 (gdName 3) mYes (c__law_is_1 r) [3]) mNil))))) sNil) (sRet (mAnd (mB eqXD (mU (isiD .tBool) (mVar 0)) (mU (isiD .tBool) (mVar 1))) (mB eqXD (mVar 0) (mVar 1))))))
def f__law_is : Nat → List D → Hand → Option (D × Hand)
  | 0 => mDef 4 sNone
  | n + 1 => g__law_is (f__law_is n)
theorem ok__law_is (T : Txt K mg) (Z : PySem.Er.Pg P "/claim/cut.py") (I : ∀ q ∈ fxs, q.ok K = true) : ∀ n : Nat, DOk P w K mg base (HandB p c) "_law_is" (n + 1) ["_law_told", "_law_due"] (f__law_is n)
  | 0 => by
    obtain ⟨fd, Fn⟩ := T.tx.fns d__law_is (Mq (Mq (Mq (Mq (Mq (Mq (Mq (Mq (Mq (Mq (Mq (Mq (Mq (Mq (Mq (Mq (Mq (List.Mem.head _))))))))))))))))))
    exact DOk.mono (j := 1) (d_defD (k := 0) Fn (T.tx.glo _ (Mq (Mq (Mq (Mq (Mq (Mq (Mq (Mq (Mq (Mq (Mq (Mq (Mq (Mq (Mq (Mq (Mq (List.Mem.head _))))))))))))))))))) sc__law_is (fun _ _ _ _ _ _ us hl => match us, hl with | [_, _], _ => rfl) (fun cdv A outer s H E hr => ss_none)) (by omega)
  | m + 1 => by
    have ih := ok__law_is T Z I m
    obtain ⟨fd, Fn⟩ := T.tx.fns d__law_is (Mq (Mq (Mq (Mq (Mq (Mq (Mq (Mq (Mq (Mq (Mq (Mq (Mq (Mq (Mq (Mq (Mq (List.Mem.head _))))))))))))))))))
    exact DOk.mono (j := m + 1 + 1) (d_defD (k := m + 1) Fn (T.tx.glo _ (Mq (Mq (Mq (Mq (Mq (Mq (Mq (Mq (Mq (Mq (Mq (Mq (Mq (Mq (Mq (Mq (Mq (List.Mem.head _))))))))))))))))))) sc__law_is (fun _ _ _ _ _ _ us hl => match us, hl with | [_, _], _ => rfl) (fun cdv A outer s H E hr => (s_cons (s_if (dt_val (d_isiT (u_isinstance T) (d_var (pv 1)) (tys_cons (pe_ty .tTuple (u_tuple T) (by decide +kernel)) (tys_cons (pe_ty .tList (u_list T) (by decide +kernel)) tys_nil)))) (s_cons (s_if (dt_w (dw_or (dt_cmp (op_neP hr.units) (relD_ok _) (d_isi (u_isinstance T) (d_var (pv 0)) (pe_ty .tTuple (u_tuple T) (by decide +kernel))) (d_isi (u_isinstance T) (d_var (pv 1)) (pe_ty .tTuple (u_tuple T) (by decide +kernel)))) (dw_or1 (dt_cmp (op_neP hr.units) (relD_ok _) (d_isi (u_isinstance T) (d_var (pv 0)) (pe_ty .tList (u_list T) (by decide +kernel))) (d_isi (u_isinstance T) (d_var (pv 1)) (pe_ty .tList (u_list T) (by decide +kernel))))))) (s_one (s_ret d_bl)) s_nil) (s_one (s_ret (d_and (d_cmp (op_eqX (room66 hr)) eqXD_ok (d_callB call_len lenD_ok (u_len T) (by decide +kernel) (l_cons (d_var (pv 0)) l_nil)) (d_callB call_len lenD_ok (u_len T) (by decide +kernel) (l_cons (d_var (pv 1)) l_nil))) (d_one (d_callB (cr_all rfl) allD_ok (u_all T) (by decide +kernel) (l_cons (d_lc rfl sc__law_is.nd (i_rng1 (u_range T) (l_cons (d_callB call_len lenD_ok (u_len T) (by decide +kernel) (l_cons (d_var (pv 1)) l_nil)) l_nil)) (blkOk_by (own := [("_law_k", 2)]) (by kernel_rfl)) (fun _ _ _ _ _ => (pg_name (i := 2) sc__law_is.nd rfl (by first | exact Or.inl rfl | exact Or.inr rfl))) (g_name 2) (fun _ _ _ _ _ => dts_nil) (fun _ _ _ _ _ => (d_callO ih hr (l_cons (d_ix ix_seq ixD_ok (d_var (pv 0)) (d_var (pv 2))) (l_cons (d_ix ix_seq ixD_ok (d_var (pv 1)) (d_var (pv 2))) l_nil)) (hj := by omega) (hl := (len_cons (len_cons len_nil)))))) l_nil))))))) s_nil) (s_cons (s_if (dt_val (d_isi (u_isinstance T) (d_var (pv 1)) (pe_ty .tDict (u_dict T) (by decide +kernel)))) (s_one (s_ret (d_and (d_isi (u_isinstance T) (d_var (pv 0)) (pe_ty .tDict (u_dict T) (by decide +kernel))) (d_and (d_cmp (op_eqX (room66 hr)) eqXD_ok (d_var (pv 0)) (d_var (pv 1))) (d_one (d_callB (cr_all rfl) allD_ok (u_all T) (by decide +kernel) (l_cons (d_lcK True.intro rfl sc__law_is.nd (pv 1) (blkOk_by (own := [("_law_key", 3)]) (by kernel_rfl)) (fun _ _ _ _ _ => (pg_name (i := 3) sc__law_is.nd rfl (by first | exact Or.inl rfl | exact Or.inr rfl))) (g_name 3) (fun _ _ _ _ _ => dts_nil) (fun _ _ _ _ _ => (d_callO ih hr (l_cons (d_dget hr.units (d_var (pv 0)) (d_var (pv 3))) (l_cons (d_dget hr.units (d_var (pv 1)) (d_var (pv 3))) l_nil)) (hj := by omega) (hl := (len_cons (len_cons len_nil)))))) l_nil))))))) s_nil) (s_one (s_ret (d_and (d_cmp (op_eqX (room66 hr)) eqXD_ok (d_isi (u_isinstance T) (d_var (pv 0)) (pe_ty .tBool (u_bool T) (by decide +kernel))) (d_isi (u_isinstance T) (d_var (pv 1)) (pe_ty .tBool (u_bool T) (by decide +kernel)))) (d_one (d_cmp (op_eqX (room66 hr)) eqXD_ok (d_var (pv 0)) (d_var (pv 1))))))))))) (by omega)
theorem sc__law_deep : FnScope ["_law_kind", "_law_found", "_law_turn"] ["_law_kind"] (defScope s__law_deep) := ⟨rfl, rfl, rfl, by decide +kernel, rfl, by decide +kernel, by decide +kernel⟩
def b__law_deep_0 : MS (Hand) := (sAsg (gdName 1) (mIf (mIsT (mB (relD eqP) (mVar 0) (mC (.int 0)))) (mF lstD (mCons (mVar 1) mNil)) (mF tupD (mCons (mVar 1) mNil))))
def f__law_deep : List D → Hand → Option (D × Hand) := mDef 3 (sSeq (sAsg (gdName 1) (mC .non)) (sSeq (sFor (mRng rng1D (mCons (mC (.int 36)) mNil)) (gdName 2) b__law_deep_0) (sRet (mVar 1))))
theorem ok__law_deep (T : Txt K mg) (Z : PySem.Er.Pg P "/claim/cut.py") (I : ∀ q ∈ fxs, q.ok K = true) : DOk P w K mg base (HandB p c) "_law_deep" 1 ["_law_kind"] f__law_deep := by
  obtain ⟨fd, Fn⟩ := T.tx.fns d__law_deep (Mq (Mq (Mq (Mq (Mq (Mq (Mq (Mq (Mq (Mq (Mq (Mq (Mq (Mq (Mq (Mq (Mq (Mq (List.Mem.head _)))))))))))))))))))
  exact d_defD Fn (T.tx.glo _ (Mq (Mq (Mq (Mq (Mq (Mq (Mq (Mq (Mq (Mq (Mq (Mq (Mq (Mq (Mq (Mq (Mq (Mq (List.Mem.head _)))))))))))))))))))) sc__law_deep (fun _ _ _ _ _ _ us hl => match us, hl with | [_], _ => rfl) (fun cdv A outer s H E hr => (s_cons (s_set (i := 1) sc__law_deep.nd d_non) (s_cons (s_for PassesOwn.never rfl (i_rng1 (u_range T) (l_cons d_int l_nil)) (pg_name (i := 2) sc__law_deep.nd rfl (by first | exact Or.inl rfl | exact Or.inr rfl)) (g_name 2) (s_one (s_set (i := 1) sc__law_deep.nd (d_if (dt_cmp (op_eqP hr.units) (relD_ok _) (d_var (pv 0)) d_int) (d_lst (l_cons (d_var (pv 1)) l_nil)) (d_tup (l_cons (d_var (pv 1)) l_nil)))))) (s_one (s_ret (d_var (pv 1)))))))
theorem sc__law_first_classes : FnScope ["_law_error", "_law_found"] ["_law_error"] (defScope s__law_first_classes) := ⟨rfl, rfl, rfl, by decide +kernel, rfl, by decide +kernel, by decide +kernel⟩
def f__law_first_classes : List D → Hand → Option (D × Hand) := mDef 2 (sSeq (sAsg (gdName 1) (mF lstD (mCons (mU (isErr (tblOf "BadText")) (mVar 0)) (mCons (mU (isErr (tblOf "BadEntry")) (mVar 0)) (mCons (mU (isErr (tblOf "BadBook")) (mVar 0)) mNil))))) (sSeq (sAsg (gdName 1) (mB addD (mVar 1) (mF lstD (mCons (mU (isErr (tblOf "BadLine")) (mVar 0)) (mCons (mU (isErr (tblOf "BadQuestion")) (mVar 0)) (mCons (mU (isErr (tblOf "BadTask")) (mVar 0)) mNil)))))) (sSeq (sAsg (gdName 1) (mB addD (mVar 1) (mF lstD (mCons (mU (isErr (tblOf "BadStep")) (mVar 0)) (mCons (mU (isErr (tblOf "TooMany")) (mVar 0)) (mCons (mU (isErr (tblOf "NotFitting")) (mVar 0)) mNil)))))) (sSeq (sAsg (gdName 1) (mB addD (mVar 1) (mF lstD (mCons (mU (isErr (tblOf "NotGiven")) (mVar 0)) (mCons (mU (isErr (tblOf "NotFirst")) (mVar 0)) (mCons (mU (isErr (tblOf "NotFetched")) (mVar 0)) mNil)))))) (sRet (mB addD (mVar 1) (mF lstD (mCons (mU (isErr (tblOf "NoBuild")) (mVar 0)) (mCons (mU (isErr (tblOf "Ringed")) (mVar 0)) mNil)))))))))
theorem ok__law_first_classes (T : Txt K mg) (Z : PySem.Er.Pg P "/claim/cut.py") (I : ∀ q ∈ fxs, q.ok K = true) : DOk P w K mg base (HandB p c) "_law_first_classes" 1 ["_law_error"] f__law_first_classes := by
  obtain ⟨fd, Fn⟩ := T.tx.fns d__law_first_classes (Mq (Mq (Mq (Mq (Mq (Mq (Mq (Mq (Mq (Mq (Mq (Mq (Mq (Mq (Mq (Mq (Mq (Mq (Mq (List.Mem.head _))))))))))))))))))))
  exact d_defD Fn (T.tx.glo _ (Mq (Mq (Mq (Mq (Mq (Mq (Mq (Mq (Mq (Mq (Mq (Mq (Mq (Mq (Mq (Mq (Mq (Mq (Mq (List.Mem.head _))))))))))))))))))))) sc__law_first_classes (fun _ _ _ _ _ _ us hl => match us, hl with | [_], _ => rfl) (fun cdv A outer s H E hr => (s_cons (s_set (i := 1) sc__law_first_classes.nd (d_lst (l_cons (d_isErr (cV := .ref (He.ga K "BadText")) (fun u r => r) (kit_own T "BadText" (List.Mem.head _)) (d_var (pv 0)) (pe_glob rfl (T.tx.glo _ (Mq (Mq (Mq (Mq (Mq (Mq (Mq (Mq (Mq (Mq (Mq (Mq (Mq (Mq (Mq (Mq (Mq (Mq (Mq (Mq (Mq (Mq (Mq (Mq (Mq (Mq (List.Mem.head _)))))))))))))))))))))))))))) rfl) (u_isinstance T)) (l_cons (d_isErr (cV := .ref (He.ga K "BadEntry")) (fun u r => r) (kit_own T "BadEntry" (Mq (List.Mem.head _))) (d_var (pv 0)) (pe_glob rfl (T.tx.glo _ (Mq (Mq (Mq (Mq (Mq (Mq (Mq (Mq (Mq (Mq (Mq (Mq (Mq (Mq (Mq (Mq (Mq (Mq (Mq (Mq (Mq (Mq (Mq (Mq (Mq (Mq (Mq (List.Mem.head _))))))))))))))))))))))))))))) rfl) (u_isinstance T)) (l_cons (d_isErr (cV := .ref (He.ga K "BadBook")) (fun u r => r) (kit_own T "BadBook" (Mq (Mq (List.Mem.head _)))) (d_var (pv 0)) (pe_glob rfl (T.tx.glo _ (Mq (Mq (Mq (Mq (Mq (Mq (Mq (Mq (Mq (Mq (Mq (Mq (Mq (Mq (Mq (Mq (Mq (Mq (Mq (Mq (Mq (Mq (Mq (Mq (Mq (Mq (Mq (Mq (List.Mem.head _)))))))))))))))))))))))))))))) rfl) (u_isinstance T)) l_nil))))) (s_cons (s_set (i := 1) sc__law_first_classes.nd (d_op op_addA addD_ok (d_var (pv 1)) (d_lst (l_cons (d_isErr (cV := .ref (He.ga K "BadLine")) (fun u r => r) (kit_own T "BadLine" (Mq (Mq (Mq (List.Mem.head _))))) (d_var (pv 0)) (pe_glob rfl (T.tx.glo _ (Mq (Mq (Mq (Mq (Mq (Mq (Mq (Mq (Mq (Mq (Mq (Mq (Mq (Mq (Mq (Mq (Mq (Mq (Mq (Mq (Mq (Mq (Mq (Mq (Mq (Mq (Mq (Mq (Mq (List.Mem.head _))))))))))))))))))))))))))))))) rfl) (u_isinstance T)) (l_cons (d_isErr (cV := .ref (He.ga K "BadQuestion")) (fun u r => r) (kit_own T "BadQuestion" (Mq (Mq (Mq (Mq (List.Mem.head _)))))) (d_var (pv 0)) (pe_glob rfl (T.tx.glo _ (Mq (Mq (Mq (Mq (Mq (Mq (Mq (Mq (Mq (Mq (Mq (Mq (Mq (Mq (Mq (Mq (Mq (Mq (Mq (Mq (Mq (Mq (Mq (Mq (Mq (Mq (Mq (Mq (Mq (Mq (List.Mem.head _)))))))))))))))))))))))))))))))) rfl) (u_isinstance T)) (l_cons (d_isErr (cV := .ref (He.ga K "BadTask")) (fun u r => r) (kit_own T "BadTask" (Mq (Mq (Mq (Mq (Mq (List.Mem.head _))))))) (d_var (pv 0)) (pe_glob rfl (T.tx.glo _ (Mq (Mq (Mq (Mq (Mq (Mq (Mq (Mq (Mq (Mq (Mq (Mq (Mq (Mq (Mq (Mq (Mq (Mq (Mq (Mq (Mq (Mq (Mq (Mq (Mq (Mq (Mq (Mq (Mq (Mq (Mq (List.Mem.head _))))))))))))))))))))))))))))))))) rfl) (u_isinstance T)) l_nil)))))) (s_cons (s_set (i := 1) sc__law_first_classes.nd (d_op op_addA addD_ok (d_var (pv 1)) (d_lst (l_cons (d_isErr (cV := .ref (He.ga K "BadStep")) (fun u r => r) (kit_own T "BadStep" (Mq (Mq (Mq (Mq (Mq (Mq (List.Mem.head _)))))))) (d_var (pv 0)) (pe_glob rfl (T.tx.glo _ (Mq (Mq (Mq (Mq (Mq (Mq (Mq (Mq (Mq (Mq (Mq (Mq (Mq (Mq (Mq (Mq (Mq (Mq (Mq (Mq (Mq (Mq (Mq (Mq (Mq (Mq (Mq (Mq (Mq (Mq (Mq (Mq (List.Mem.head _)))))))))))))))))))))))))))))))))) rfl) (u_isinstance T)) (l_cons (d_isErr (cV := .ref (He.ga K "TooMany")) (fun u r => r) (kit_own T "TooMany" (Mq (Mq (Mq (Mq (Mq (Mq (Mq (List.Mem.head _))))))))) (d_var (pv 0)) (pe_glob rfl (T.tx.glo _ (Mq (Mq (Mq (Mq (Mq (Mq (Mq (Mq (Mq (Mq (Mq (Mq (Mq (Mq (Mq (Mq (Mq (Mq (Mq (Mq (Mq (Mq (Mq (Mq (Mq (Mq (Mq (Mq (Mq (Mq (Mq (Mq (Mq (List.Mem.head _))))))))))))))))))))))))))))))))))) rfl) (u_isinstance T)) (l_cons (d_isErr (cV := .ref (He.ga K "NotFitting")) (fun u r => r) (kit_own T "NotFitting" (Mq (Mq (Mq (Mq (Mq (Mq (Mq (Mq (List.Mem.head _)))))))))) (d_var (pv 0)) (pe_glob rfl (T.tx.glo _ (Mq (Mq (Mq (Mq (Mq (Mq (Mq (Mq (Mq (Mq (Mq (Mq (Mq (Mq (Mq (Mq (Mq (Mq (Mq (Mq (Mq (Mq (Mq (Mq (Mq (Mq (Mq (Mq (Mq (Mq (Mq (Mq (Mq (Mq (List.Mem.head _)))))))))))))))))))))))))))))))))))) rfl) (u_isinstance T)) l_nil)))))) (s_cons (s_set (i := 1) sc__law_first_classes.nd (d_op op_addA addD_ok (d_var (pv 1)) (d_lst (l_cons (d_isErr (cV := .ref (He.ga K "NotGiven")) (fun u r => r) (kit_own T "NotGiven" (Mq (Mq (Mq (Mq (Mq (Mq (Mq (Mq (Mq (List.Mem.head _))))))))))) (d_var (pv 0)) (pe_glob rfl (T.tx.glo _ (Mq (Mq (Mq (Mq (Mq (Mq (Mq (Mq (Mq (Mq (Mq (Mq (Mq (Mq (Mq (Mq (Mq (Mq (Mq (Mq (Mq (Mq (Mq (Mq (Mq (Mq (Mq (Mq (Mq (Mq (Mq (Mq (Mq (Mq (Mq (List.Mem.head _))))))))))))))))))))))))))))))))))))) rfl) (u_isinstance T)) (l_cons (d_isErr (cV := .ref (He.ga K "NotFirst")) (fun u r => r) (kit_own T "NotFirst" (Mq (Mq (Mq (Mq (Mq (Mq (Mq (Mq (Mq (Mq (List.Mem.head _)))))))))))) (d_var (pv 0)) (pe_glob rfl (T.tx.glo _ (Mq (Mq (Mq (Mq (Mq (Mq (Mq (Mq (Mq (Mq (Mq (Mq (Mq (Mq (Mq (Mq (Mq (Mq (Mq (Mq (Mq (Mq (Mq (Mq (Mq (Mq (Mq (Mq (Mq (Mq (Mq (Mq (Mq (Mq (Mq (Mq (List.Mem.head _)))))))))))))))))))))))))))))))))))))) rfl) (u_isinstance T)) (l_cons (d_isErr (cV := .ref (He.ga K "NotFetched")) (fun u r => r) (kit_own T "NotFetched" (Mq (Mq (Mq (Mq (Mq (Mq (Mq (Mq (Mq (Mq (Mq (List.Mem.head _))))))))))))) (d_var (pv 0)) (pe_glob rfl (T.tx.glo _ (Mq (Mq (Mq (Mq (Mq (Mq (Mq (Mq (Mq (Mq (Mq (Mq (Mq (Mq (Mq (Mq (Mq (Mq (Mq (Mq (Mq (Mq (Mq (Mq (Mq (Mq (Mq (Mq (Mq (Mq (Mq (Mq (Mq (Mq (Mq (Mq (Mq (Mq (Mq (Mq (Mq (Mq (Mq (Mq (Mq (Mq (Mq (Mq (Mq (Mq (Mq (Mq (Mq (Mq (Mq (Mq (Mq (Mq (Mq (Mq (Mq (List.Mem.head _))))))))))))))))))))))))))))))))))))))))))))))))))))))))))))))) rfl) (u_isinstance T)) l_nil)))))) (s_one (s_ret (d_op op_addA addD_ok (d_var (pv 1)) (d_lst (l_cons (d_isErr (cV := .ref (He.ga K "NoBuild")) (fun u r => r) (kit_own T "NoBuild" (Mq (Mq (Mq (Mq (Mq (Mq (Mq (Mq (Mq (Mq (Mq (Mq (List.Mem.head _)))))))))))))) (d_var (pv 0)) (pe_glob rfl (T.tx.glo _ (Mq (Mq (Mq (Mq (Mq (Mq (Mq (Mq (Mq (Mq (Mq (Mq (Mq (Mq (Mq (Mq (Mq (Mq (Mq (Mq (Mq (Mq (Mq (Mq (Mq (Mq (Mq (Mq (Mq (Mq (Mq (Mq (Mq (Mq (Mq (Mq (Mq (Mq (Mq (Mq (Mq (Mq (Mq (Mq (Mq (Mq (Mq (Mq (Mq (Mq (Mq (Mq (Mq (Mq (Mq (Mq (Mq (Mq (Mq (Mq (Mq (Mq (List.Mem.head _)))))))))))))))))))))))))))))))))))))))))))))))))))))))))))))))) rfl) (u_isinstance T)) (l_cons (d_isErr (cV := .ref (He.ga K "Ringed")) (fun u r => r) (kit_own T "Ringed" (Mq (Mq (Mq (Mq (Mq (Mq (Mq (Mq (Mq (Mq (Mq (Mq (Mq (List.Mem.head _))))))))))))))) (d_var (pv 0)) (pe_glob rfl (T.tx.glo _ (Mq (Mq (Mq (Mq (Mq (Mq (Mq (Mq (Mq (Mq (Mq (Mq (Mq (Mq (Mq (Mq (Mq (Mq (Mq (Mq (Mq (Mq (Mq (Mq (Mq (Mq (Mq (Mq (Mq (Mq (Mq (Mq (Mq (Mq (Mq (Mq (Mq (Mq (Mq (Mq (Mq (Mq (Mq (Mq (Mq (Mq (Mq (Mq (Mq (Mq (Mq (Mq (Mq (Mq (Mq (Mq (Mq (Mq (Mq (Mq (Mq (Mq (Mq (List.Mem.head _))))))))))))))))))))))))))))))))))))))))))))))))))))))))))))))))) rfl) (u_isinstance T)) l_nil)))))))))))
theorem sc__law_classes : FnScope ["_law_error", "_law_found"] ["_law_error"] (defScope s__law_classes) := ⟨rfl, rfl, rfl, by decide +kernel, rfl, by decide +kernel, by decide +kernel⟩
def f__law_classes : List D → Hand → Option (D × Hand) := mDef 2 (sSeq (sAsg (gdName 1) (mB addD (mCall f__law_first_classes (mCons (mVar 0) mNil)) (mF lstD (mCons (mU (isErr (tblOf "NoFeatures")) (mVar 0)) (mCons (mU (isErr (tblOf "NoEntry")) (mVar 0)) mNil))))) (sSeq (sAsg (gdName 1) (mB addD (mVar 1) (mF lstD (mCons (mU (isErr (tblOf "NotRight")) (mVar 0)) (mCons (mU (isErr (tblOf "NotThere")) (mVar 0)) (mCons (mU (isErr (tblOf "NotClosed")) (mVar 0)) mNil)))))) (sSeq (sAsg (gdName 1) (mB addD (mVar 1) (mF lstD (mCons (mU (isErr (tblOf "NoSource")) (mVar 0)) (mCons (mU (isErr (tblOf "NoStand")) (mVar 0)) (mCons (mU (isErr (tblOf "NoGivens")) (mVar 0)) mNil)))))) (sSeq (sAsg (gdName 1) (mB addD (mVar 1) (mF lstD (mCons (mU (isErr (tblOf "NoLiteral")) (mVar 0)) (mCons (mU (isErr (tblOf "NoPaper")) (mVar 0)) (mCons (mU (isErr (tblOf "NoSources")) (mVar 0)) mNil)))))) (sSeq (sAsg (gdName 1) (mB addD (mVar 1) (mF lstD (mCons (mU (isErr (tblOf "NoName")) (mVar 0)) (mCons (mU (isErr (tblOf "NoNumber")) (mVar 0)) (mCons (mU (isErr (tblOf "NotEntry")) (mVar 0)) mNil)))))) (sSeq (sAsg (gdName 1) (mB addD (mVar 1) (mF lstD (mCons (mU (isErr (tblOf "NotQuestion")) (mVar 0)) (mCons (mU (isErr (tblOf "NothingDone")) (mVar 0)) (mCons (mU (isErr (tblOf "NoText")) (mVar 0)) mNil)))))) (sSeq (sAsg (gdName 1) (mB addD (mVar 1) (mF lstD (mCons (mU (isErr (tblOf "NoStart")) (mVar 0)) (mCons (mU (isErr (tblOf "NoStop")) (mVar 0)) (mCons (mU (isErr (tblOf "NotSafe")) (mVar 0)) mNil)))))) (sSeq (sAsg (gdName 1) (mB addD (mVar 1) (mF lstD (mCons (mU (isErr (tblOf "NoDeed")) (mVar 0)) (mCons (mU (isErr (tblOf "NoContents")) (mVar 0)) (mCons (mU (isErr (tblOf "NoMirrors")) (mVar 0)) mNil)))))) (sRet (mB addD (mVar 1) (mF lstD (mCons (mU (isErr (tblOf "NoManifest")) (mVar 0)) (mCons (mU (isErr (tblOf "NoMachine")) (mVar 0)) (mCons (mU (isErr (tblOf "NoRollout")) (mVar 0)) mNil))))))))))))))
theorem ok__law_classes (T : Txt K mg) (Z : PySem.Er.Pg P "/claim/cut.py") (I : ∀ q ∈ fxs, q.ok K = true) : DOk P w K mg base (HandB p c) "_law_classes" 2 ["_law_error"] f__law_classes := by
  obtain ⟨fd, Fn⟩ := T.tx.fns d__law_classes (Mq (Mq (Mq (Mq (Mq (Mq (Mq (Mq (Mq (Mq (Mq (Mq (Mq (Mq (Mq (Mq (Mq (Mq (Mq (Mq (List.Mem.head _)))))))))))))))))))))
  exact d_defD Fn (T.tx.glo _ (Mq (Mq (Mq (Mq (Mq (Mq (Mq (Mq (Mq (Mq (Mq (Mq (Mq (Mq (Mq (Mq (Mq (Mq (Mq (Mq (List.Mem.head _)))))))))))))))))))))) sc__law_classes (fun _ _ _ _ _ _ us hl => match us, hl with | [_], _ => rfl) (fun cdv A outer s H E hr => (s_cons (s_set (i := 1) sc__law_classes.nd (d_op op_addA addD_ok (d_callO (ok__law_first_classes T Z I) hr (l_cons (d_var (pv 0)) l_nil) (hl := (len_cons len_nil))) (d_lst (l_cons (d_isErr (cV := .ref (He.ga K "NoFeatures")) (fun u r => r) (kit_own T "NoFeatures" (Mq (Mq (Mq (Mq (Mq (Mq (Mq (Mq (Mq (Mq (Mq (Mq (Mq (Mq (List.Mem.head _)))))))))))))))) (d_var (pv 0)) (pe_glob rfl (T.tx.glo _ (Mq (Mq (Mq (Mq (Mq (Mq (Mq (Mq (Mq (Mq (Mq (Mq (Mq (Mq (Mq (Mq (Mq (Mq (Mq (Mq (Mq (Mq (Mq (Mq (Mq (Mq (Mq (Mq (Mq (Mq (Mq (Mq (Mq (Mq (Mq (Mq (Mq (List.Mem.head _))))))))))))))))))))))))))))))))))))))) rfl) (u_isinstance T)) (l_cons (d_isErr (cV := .ref (He.ga K "NoEntry")) (fun u r => r) (kit_own T "NoEntry" (Mq (Mq (Mq (Mq (Mq (Mq (Mq (Mq (Mq (Mq (Mq (Mq (Mq (Mq (Mq (List.Mem.head _))))))))))))))))) (d_var (pv 0)) (pe_glob rfl (T.tx.glo _ (Mq (Mq (Mq (Mq (Mq (Mq (Mq (Mq (Mq (Mq (Mq (Mq (Mq (Mq (Mq (Mq (Mq (Mq (Mq (Mq (Mq (Mq (Mq (Mq (Mq (Mq (Mq (Mq (Mq (Mq (Mq (Mq (Mq (Mq (Mq (Mq (Mq (Mq (List.Mem.head _)))))))))))))))))))))))))))))))))))))))) rfl) (u_isinstance T)) l_nil))))) (s_cons (s_set (i := 1) sc__law_classes.nd (d_op op_addA addD_ok (d_var (pv 1)) (d_lst (l_cons (d_isErr (cV := .ref (He.ga K "NotRight")) (fun u r => r) (kit_own T "NotRight" (Mq (Mq (Mq (Mq (Mq (Mq (Mq (Mq (Mq (Mq (Mq (Mq (Mq (Mq (Mq (Mq (List.Mem.head _)))))))))))))))))) (d_var (pv 0)) (pe_glob rfl (T.tx.glo _ (Mq (Mq (Mq (Mq (Mq (Mq (Mq (Mq (Mq (Mq (Mq (Mq (Mq (Mq (Mq (Mq (Mq (Mq (Mq (Mq (Mq (Mq (Mq (Mq (Mq (Mq (Mq (Mq (Mq (Mq (Mq (Mq (Mq (Mq (Mq (Mq (Mq (Mq (Mq (List.Mem.head _))))))))))))))))))))))))))))))))))))))))) rfl) (u_isinstance T)) (l_cons (d_isErr (cV := .ref (He.ga K "NotThere")) (fun u r => r) (kit_own T "NotThere" (Mq (Mq (Mq (Mq (Mq (Mq (Mq (Mq (Mq (Mq (Mq (Mq (Mq (Mq (Mq (Mq (Mq (List.Mem.head _))))))))))))))))))) (d_var (pv 0)) (pe_glob rfl (T.tx.glo _ (Mq (Mq (Mq (Mq (Mq (Mq (Mq (Mq (Mq (Mq (Mq (Mq (Mq (Mq (Mq (Mq (Mq (Mq (Mq (Mq (Mq (Mq (Mq (Mq (Mq (Mq (Mq (Mq (Mq (Mq (Mq (Mq (Mq (Mq (Mq (Mq (Mq (Mq (Mq (Mq (List.Mem.head _)))))))))))))))))))))))))))))))))))))))))) rfl) (u_isinstance T)) (l_cons (d_isErr (cV := .ref (He.ga K "NotClosed")) (fun u r => r) (kit_own T "NotClosed" (Mq (Mq (Mq (Mq (Mq (Mq (Mq (Mq (Mq (Mq (Mq (Mq (Mq (Mq (Mq (Mq (Mq (Mq (List.Mem.head _)))))))))))))))))))) (d_var (pv 0)) (pe_glob rfl (T.tx.glo _ (Mq (Mq (Mq (Mq (Mq (Mq (Mq (Mq (Mq (Mq (Mq (Mq (Mq (Mq (Mq (Mq (Mq (Mq (Mq (Mq (Mq (Mq (Mq (Mq (Mq (Mq (Mq (Mq (Mq (Mq (Mq (Mq (Mq (Mq (Mq (Mq (Mq (Mq (Mq (Mq (Mq (List.Mem.head _))))))))))))))))))))))))))))))))))))))))))) rfl) (u_isinstance T)) l_nil)))))) (s_cons (s_set (i := 1) sc__law_classes.nd (d_op op_addA addD_ok (d_var (pv 1)) (d_lst (l_cons (d_isErr (cV := .ref (He.ga K "NoSource")) (fun u r => r) (kit_own T "NoSource" (Mq (Mq (Mq (Mq (Mq (Mq (Mq (Mq (Mq (Mq (Mq (Mq (Mq (Mq (Mq (Mq (Mq (Mq (Mq (List.Mem.head _))))))))))))))))))))) (d_var (pv 0)) (pe_glob rfl (T.tx.glo _ (Mq (Mq (Mq (Mq (Mq (Mq (Mq (Mq (Mq (Mq (Mq (Mq (Mq (Mq (Mq (Mq (Mq (Mq (Mq (Mq (Mq (Mq (Mq (Mq (Mq (Mq (Mq (Mq (Mq (Mq (Mq (Mq (Mq (Mq (Mq (Mq (Mq (Mq (Mq (Mq (Mq (Mq (List.Mem.head _)))))))))))))))))))))))))))))))))))))))))))) rfl) (u_isinstance T)) (l_cons (d_isErr (cV := .ref (He.ga K "NoStand")) (fun u r => r) (kit_own T "NoStand" (Mq (Mq (Mq (Mq (Mq (Mq (Mq (Mq (Mq (Mq (Mq (Mq (Mq (Mq (Mq (Mq (Mq (Mq (Mq (Mq (List.Mem.head _)))))))))))))))))))))) (d_var (pv 0)) (pe_glob rfl (T.tx.glo _ (Mq (Mq (Mq (Mq (Mq (Mq (Mq (Mq (Mq (Mq (Mq (Mq (Mq (Mq (Mq (Mq (Mq (Mq (Mq (Mq (Mq (Mq (Mq (Mq (Mq (Mq (Mq (Mq (Mq (Mq (Mq (Mq (Mq (Mq (Mq (Mq (Mq (Mq (Mq (Mq (Mq (Mq (Mq (List.Mem.head _))))))))))))))))))))))))))))))))))))))))))))) rfl) (u_isinstance T)) (l_cons (d_isErr (cV := .ref (He.ga K "NoGivens")) (fun u r => r) (kit_own T "NoGivens" (Mq (Mq (Mq (Mq (Mq (Mq (Mq (Mq (Mq (Mq (Mq (Mq (Mq (Mq (Mq (Mq (Mq (Mq (Mq (Mq (Mq (List.Mem.head _))))))))))))))))))))))) (d_var (pv 0)) (pe_glob rfl (T.tx.glo _ (Mq (Mq (Mq (Mq (Mq (Mq (Mq (Mq (Mq (Mq (Mq (Mq (Mq (Mq (Mq (Mq (Mq (Mq (Mq (Mq (Mq (Mq (Mq (Mq (Mq (Mq (Mq (Mq (Mq (Mq (Mq (Mq (Mq (Mq (Mq (Mq (Mq (Mq (Mq (Mq (Mq (Mq (Mq (Mq (List.Mem.head _)))))))))))))))))))))))))))))))))))))))))))))) rfl) (u_isinstance T)) l_nil)))))) (s_cons (s_set (i := 1) sc__law_classes.nd (d_op op_addA addD_ok (d_var (pv 1)) (d_lst (l_cons (d_isErr (cV := .ref (He.ga K "NoLiteral")) (fun u r => r) (kit_own T "NoLiteral" (Mq (Mq (Mq (Mq (Mq (Mq (Mq (Mq (Mq (Mq (Mq (Mq (Mq (Mq (Mq (Mq (Mq (Mq (Mq (Mq (Mq (Mq (List.Mem.head _)))))))))))))))))))))))) (d_var (pv 0)) (pe_glob rfl (T.tx.glo _ (Mq (Mq (Mq (Mq (Mq (Mq (Mq (Mq (Mq (Mq (Mq (Mq (Mq (Mq (Mq (Mq (Mq (Mq (Mq (Mq (Mq (Mq (Mq (Mq (Mq (Mq (Mq (Mq (Mq (Mq (Mq (Mq (Mq (Mq (Mq (Mq (Mq (Mq (Mq (Mq (Mq (Mq (Mq (Mq (Mq (List.Mem.head _))))))))))))))))))))))))))))))))))))))))))))))) rfl) (u_isinstance T)) (l_cons (d_isErr (cV := .ref (He.ga K "NoPaper")) (fun u r => r) (kit_own T "NoPaper" (Mq (Mq (Mq (Mq (Mq (Mq (Mq (Mq (Mq (Mq (Mq (Mq (Mq (Mq (Mq (Mq (Mq (Mq (Mq (Mq (Mq (Mq (Mq (List.Mem.head _))))))))))))))))))))))))) (d_var (pv 0)) (pe_glob rfl (T.tx.glo _ (Mq (Mq (Mq (Mq (Mq (Mq (Mq (Mq (Mq (Mq (Mq (Mq (Mq (Mq (Mq (Mq (Mq (Mq (Mq (Mq (Mq (Mq (Mq (Mq (Mq (Mq (Mq (Mq (Mq (Mq (Mq (Mq (Mq (Mq (Mq (Mq (Mq (Mq (Mq (Mq (Mq (Mq (Mq (Mq (Mq (Mq (List.Mem.head _)))))))))))))))))))))))))))))))))))))))))))))))) rfl) (u_isinstance T)) (l_cons (d_isErr (cV := .ref (He.ga K "NoSources")) (fun u r => r) (kit_own T "NoSources" (Mq (Mq (Mq (Mq (Mq (Mq (Mq (Mq (Mq (Mq (Mq (Mq (Mq (Mq (Mq (Mq (Mq (Mq (Mq (Mq (Mq (Mq (Mq (Mq (List.Mem.head _)))))))))))))))))))))))))) (d_var (pv 0)) (pe_glob rfl (T.tx.glo _ (Mq (Mq (Mq (Mq (Mq (Mq (Mq (Mq (Mq (Mq (Mq (Mq (Mq (Mq (Mq (Mq (Mq (Mq (Mq (Mq (Mq (Mq (Mq (Mq (Mq (Mq (Mq (Mq (Mq (Mq (Mq (Mq (Mq (Mq (Mq (Mq (Mq (Mq (Mq (Mq (Mq (Mq (Mq (Mq (Mq (Mq (Mq (List.Mem.head _))))))))))))))))))))))))))))))))))))))))))))))))) rfl) (u_isinstance T)) l_nil)))))) (s_cons (s_set (i := 1) sc__law_classes.nd (d_op op_addA addD_ok (d_var (pv 1)) (d_lst (l_cons (d_isErr (cV := .ref (He.ga K "NoName")) (fun u r => r) (kit_own T "NoName" (Mq (Mq (Mq (Mq (Mq (Mq (Mq (Mq (Mq (Mq (Mq (Mq (Mq (Mq (Mq (Mq (Mq (Mq (Mq (Mq (Mq (Mq (Mq (Mq (Mq (List.Mem.head _))))))))))))))))))))))))))) (d_var (pv 0)) (pe_glob rfl (T.tx.glo _ (Mq (Mq (Mq (Mq (Mq (Mq (Mq (Mq (Mq (Mq (Mq (Mq (Mq (Mq (Mq (Mq (Mq (Mq (Mq (Mq (Mq (Mq (Mq (Mq (Mq (Mq (Mq (Mq (Mq (Mq (Mq (Mq (Mq (Mq (Mq (Mq (Mq (Mq (Mq (Mq (Mq (Mq (Mq (Mq (Mq (Mq (Mq (Mq (List.Mem.head _)))))))))))))))))))))))))))))))))))))))))))))))))) rfl) (u_isinstance T)) (l_cons (d_isErr (cV := .ref (He.ga K "NoNumber")) (fun u r => r) (kit_own T "NoNumber" (Mq (Mq (Mq (Mq (Mq (Mq (Mq (Mq (Mq (Mq (Mq (Mq (Mq (Mq (Mq (Mq (Mq (Mq (Mq (Mq (Mq (Mq (Mq (Mq (Mq (Mq (List.Mem.head _)))))))))))))))))))))))))))) (d_var (pv 0)) (pe_glob rfl (T.tx.glo _ (Mq (Mq (Mq (Mq (Mq (Mq (Mq (Mq (Mq (Mq (Mq (Mq (Mq (Mq (Mq (Mq (Mq (Mq (Mq (Mq (Mq (Mq (Mq (Mq (Mq (Mq (Mq (Mq (Mq (Mq (Mq (Mq (Mq (Mq (Mq (Mq (Mq (Mq (Mq (Mq (Mq (Mq (Mq (Mq (Mq (Mq (Mq (Mq (Mq (List.Mem.head _))))))))))))))))))))))))))))))))))))))))))))))))))) rfl) (u_isinstance T)) (l_cons (d_isErr (cV := .ref (He.ga K "NotEntry")) (fun u r => r) (kit_own T "NotEntry" (Mq (Mq (Mq (Mq (Mq (Mq (Mq (Mq (Mq (Mq (Mq (Mq (Mq (Mq (Mq (Mq (Mq (Mq (Mq (Mq (Mq (Mq (Mq (Mq (Mq (Mq (Mq (List.Mem.head _))))))))))))))))))))))))))))) (d_var (pv 0)) (pe_glob rfl (T.tx.glo _ (Mq (Mq (Mq (Mq (Mq (Mq (Mq (Mq (Mq (Mq (Mq (Mq (Mq (Mq (Mq (Mq (Mq (Mq (Mq (Mq (Mq (Mq (Mq (Mq (Mq (Mq (Mq (Mq (Mq (Mq (Mq (Mq (Mq (Mq (Mq (Mq (Mq (Mq (Mq (Mq (Mq (Mq (Mq (Mq (Mq (Mq (Mq (Mq (Mq (Mq (List.Mem.head _)))))))))))))))))))))))))))))))))))))))))))))))))))) rfl) (u_isinstance T)) l_nil)))))) (s_cons (s_set (i := 1) sc__law_classes.nd (d_op op_addA addD_ok (d_var (pv 1)) (d_lst (l_cons (d_isErr (cV := .ref (He.ga K "NotQuestion")) (fun u r => r) (kit_own T "NotQuestion" (Mq (Mq (Mq (Mq (Mq (Mq (Mq (Mq (Mq (Mq (Mq (Mq (Mq (Mq (Mq (Mq (Mq (Mq (Mq (Mq (Mq (Mq (Mq (Mq (Mq (Mq (Mq (Mq (List.Mem.head _)))))))))))))))))))))))))))))) (d_var (pv 0)) (pe_glob rfl (T.tx.glo _ (Mq (Mq (Mq (Mq (Mq (Mq (Mq (Mq (Mq (Mq (Mq (Mq (Mq (Mq (Mq (Mq (Mq (Mq (Mq (Mq (Mq (Mq (Mq (Mq (Mq (Mq (Mq (Mq (Mq (Mq (Mq (Mq (Mq (Mq (Mq (Mq (Mq (Mq (Mq (Mq (Mq (Mq (Mq (Mq (Mq (Mq (Mq (Mq (Mq (Mq (Mq (List.Mem.head _))))))))))))))))))))))))))))))))))))))))))))))))))))) rfl) (u_isinstance T)) (l_cons (d_isErr (cV := .ref (He.ga K "NothingDone")) (fun u r => r) (kit_own T "NothingDone" (Mq (Mq (Mq (Mq (Mq (Mq (Mq (Mq (Mq (Mq (Mq (Mq (Mq (Mq (Mq (Mq (Mq (Mq (Mq (Mq (Mq (Mq (Mq (Mq (Mq (Mq (Mq (Mq (Mq (List.Mem.head _))))))))))))))))))))))))))))))) (d_var (pv 0)) (pe_glob rfl (T.tx.glo _ (Mq (Mq (Mq (Mq (Mq (Mq (Mq (Mq (Mq (Mq (Mq (Mq (Mq (Mq (Mq (Mq (Mq (Mq (Mq (Mq (Mq (Mq (Mq (Mq (Mq (Mq (Mq (Mq (Mq (Mq (Mq (Mq (Mq (Mq (Mq (Mq (Mq (Mq (Mq (Mq (Mq (Mq (Mq (Mq (Mq (Mq (Mq (Mq (Mq (Mq (Mq (Mq (List.Mem.head _)))))))))))))))))))))))))))))))))))))))))))))))))))))) rfl) (u_isinstance T)) (l_cons (d_isErr (cV := .ref (He.ga K "NoText")) (fun u r => r) (kit_own T "NoText" (Mq (Mq (Mq (Mq (Mq (Mq (Mq (Mq (Mq (Mq (Mq (Mq (Mq (Mq (Mq (Mq (Mq (Mq (Mq (Mq (Mq (Mq (Mq (Mq (Mq (Mq (Mq (Mq (Mq (Mq (List.Mem.head _)))))))))))))))))))))))))))))))) (d_var (pv 0)) (pe_glob rfl (T.tx.glo _ (Mq (Mq (Mq (Mq (Mq (Mq (Mq (Mq (Mq (Mq (Mq (Mq (Mq (Mq (Mq (Mq (Mq (Mq (Mq (Mq (Mq (Mq (Mq (Mq (Mq (Mq (Mq (Mq (Mq (Mq (Mq (Mq (Mq (Mq (Mq (Mq (Mq (Mq (Mq (Mq (Mq (Mq (Mq (Mq (Mq (Mq (Mq (Mq (Mq (Mq (Mq (Mq (Mq (List.Mem.head _))))))))))))))))))))))))))))))))))))))))))))))))))))))) rfl) (u_isinstance T)) l_nil)))))) (s_cons (s_set (i := 1) sc__law_classes.nd (d_op op_addA addD_ok (d_var (pv 1)) (d_lst (l_cons (d_isErr (cV := .ref (He.ga K "NoStart")) (fun u r => r) (kit_own T "NoStart" (Mq (Mq (Mq (Mq (Mq (Mq (Mq (Mq (Mq (Mq (Mq (Mq (Mq (Mq (Mq (Mq (Mq (Mq (Mq (Mq (Mq (Mq (Mq (Mq (Mq (Mq (Mq (Mq (Mq (Mq (Mq (List.Mem.head _))))))))))))))))))))))))))))))))) (d_var (pv 0)) (pe_glob rfl (T.tx.glo _ (Mq (Mq (Mq (Mq (Mq (Mq (Mq (Mq (Mq (Mq (Mq (Mq (Mq (Mq (Mq (Mq (Mq (Mq (Mq (Mq (Mq (Mq (Mq (Mq (Mq (Mq (Mq (Mq (Mq (Mq (Mq (Mq (Mq (Mq (Mq (Mq (Mq (Mq (Mq (Mq (Mq (Mq (Mq (Mq (Mq (Mq (Mq (Mq (Mq (Mq (Mq (Mq (Mq (Mq (List.Mem.head _)))))))))))))))))))))))))))))))))))))))))))))))))))))))) rfl) (u_isinstance T)) (l_cons (d_isErr (cV := .ref (He.ga K "NoStop")) (fun u r => r) (kit_own T "NoStop" (Mq (Mq (Mq (Mq (Mq (Mq (Mq (Mq (Mq (Mq (Mq (Mq (Mq (Mq (Mq (Mq (Mq (Mq (Mq (Mq (Mq (Mq (Mq (Mq (Mq (Mq (Mq (Mq (Mq (Mq (Mq (Mq (List.Mem.head _)))))))))))))))))))))))))))))))))) (d_var (pv 0)) (pe_glob rfl (T.tx.glo _ (Mq (Mq (Mq (Mq (Mq (Mq (Mq (Mq (Mq (Mq (Mq (Mq (Mq (Mq (Mq (Mq (Mq (Mq (Mq (Mq (Mq (Mq (Mq (Mq (Mq (Mq (Mq (Mq (Mq (Mq (Mq (Mq (Mq (Mq (Mq (Mq (Mq (Mq (Mq (Mq (Mq (Mq (Mq (Mq (Mq (Mq (Mq (Mq (Mq (Mq (Mq (Mq (Mq (Mq (Mq (List.Mem.head _))))))))))))))))))))))))))))))))))))))))))))))))))))))))) rfl) (u_isinstance T)) (l_cons (d_isErr (cV := .ref (He.ga K "NotSafe")) (fun u r => r) (kit_own T "NotSafe" (Mq (Mq (Mq (Mq (Mq (Mq (Mq (Mq (Mq (Mq (Mq (Mq (Mq (Mq (Mq (Mq (Mq (Mq (Mq (Mq (Mq (Mq (Mq (Mq (Mq (Mq (Mq (Mq (Mq (Mq (Mq (Mq (Mq (List.Mem.head _))))))))))))))))))))))))))))))))))) (d_var (pv 0)) (pe_glob rfl (T.tx.glo _ (Mq (Mq (Mq (Mq (Mq (Mq (Mq (Mq (Mq (Mq (Mq (Mq (Mq (Mq (Mq (Mq (Mq (Mq (Mq (Mq (Mq (Mq (Mq (Mq (Mq (Mq (Mq (Mq (Mq (Mq (Mq (Mq (Mq (Mq (Mq (Mq (Mq (Mq (Mq (Mq (Mq (Mq (Mq (Mq (Mq (Mq (Mq (Mq (Mq (Mq (Mq (Mq (Mq (Mq (Mq (Mq (List.Mem.head _)))))))))))))))))))))))))))))))))))))))))))))))))))))))))) rfl) (u_isinstance T)) l_nil)))))) (s_cons (s_set (i := 1) sc__law_classes.nd (d_op op_addA addD_ok (d_var (pv 1)) (d_lst (l_cons (d_isErr (cV := .ref (He.ga K "NoDeed")) (fun u r => r) (kit_own T "NoDeed" (Mq (Mq (Mq (Mq (Mq (Mq (Mq (Mq (Mq (Mq (Mq (Mq (Mq (Mq (Mq (Mq (Mq (Mq (Mq (Mq (Mq (Mq (Mq (Mq (Mq (Mq (Mq (Mq (Mq (Mq (Mq (Mq (Mq (Mq (List.Mem.head _)))))))))))))))))))))))))))))))))))) (d_var (pv 0)) (pe_glob rfl (T.tx.glo _ (Mq (Mq (Mq (Mq (Mq (Mq (Mq (Mq (Mq (Mq (Mq (Mq (Mq (Mq (Mq (Mq (Mq (Mq (Mq (Mq (Mq (Mq (Mq (Mq (Mq (Mq (Mq (Mq (Mq (Mq (Mq (Mq (Mq (Mq (Mq (Mq (Mq (Mq (Mq (Mq (Mq (Mq (Mq (Mq (Mq (Mq (Mq (Mq (Mq (Mq (Mq (Mq (Mq (Mq (Mq (Mq (Mq (List.Mem.head _))))))))))))))))))))))))))))))))))))))))))))))))))))))))))) rfl) (u_isinstance T)) (l_cons (d_isErr (cV := .ref (He.ga K "NoContents")) (fun u r => r) (kit_own T "NoContents" (Mq (Mq (Mq (Mq (Mq (Mq (Mq (Mq (Mq (Mq (Mq (Mq (Mq (Mq (Mq (Mq (Mq (Mq (Mq (Mq (Mq (Mq (Mq (Mq (Mq (Mq (Mq (Mq (Mq (Mq (Mq (Mq (Mq (Mq (Mq (List.Mem.head _))))))))))))))))))))))))))))))))))))) (d_var (pv 0)) (pe_glob rfl (T.tx.glo _ (Mq (Mq (Mq (Mq (Mq (Mq (Mq (Mq (Mq (Mq (Mq (Mq (Mq (Mq (Mq (Mq (Mq (Mq (Mq (Mq (Mq (Mq (Mq (Mq (Mq (Mq (Mq (Mq (Mq (Mq (Mq (Mq (Mq (Mq (Mq (Mq (Mq (Mq (Mq (Mq (Mq (Mq (Mq (Mq (Mq (Mq (Mq (Mq (Mq (Mq (Mq (Mq (Mq (Mq (Mq (Mq (Mq (Mq (List.Mem.head _)))))))))))))))))))))))))))))))))))))))))))))))))))))))))))) rfl) (u_isinstance T)) (l_cons (d_isErr (cV := .ref (He.ga K "NoMirrors")) (fun u r => r) (kit_own T "NoMirrors" (Mq (Mq (Mq (Mq (Mq (Mq (Mq (Mq (Mq (Mq (Mq (Mq (Mq (Mq (Mq (Mq (Mq (Mq (Mq (Mq (Mq (Mq (Mq (Mq (Mq (Mq (Mq (Mq (Mq (Mq (Mq (Mq (Mq (Mq (Mq (Mq (List.Mem.head _)))))))))))))))))))))))))))))))))))))) (d_var (pv 0)) (pe_glob rfl (T.tx.glo _ (Mq (Mq (Mq (Mq (Mq (Mq (Mq (Mq (Mq (Mq (Mq (Mq (Mq (Mq (Mq (Mq (Mq (Mq (Mq (Mq (Mq (Mq (Mq (Mq (Mq (Mq (Mq (Mq (Mq (Mq (Mq (Mq (Mq (Mq (Mq (Mq (Mq (Mq (Mq (Mq (Mq (Mq (Mq (Mq (Mq (Mq (Mq (Mq (Mq (Mq (Mq (Mq (Mq (Mq (Mq (Mq (Mq (Mq (Mq (List.Mem.head _))))))))))))))))))))))))))))))))))))))))))))))))))))))))))))) rfl) (u_isinstance T)) l_nil)))))) (s_one (s_ret (d_op op_addA addD_ok (d_var (pv 1)) (d_lst (l_cons (d_isErr (cV := .ref (He.ga K "NoManifest")) (fun u r => r) (kit_own T "NoManifest" (Mq (Mq (Mq (Mq (Mq (Mq (Mq (Mq (Mq (Mq (Mq (Mq (Mq (Mq (Mq (Mq (Mq (Mq (Mq (Mq (Mq (Mq (Mq (Mq (Mq (Mq (Mq (Mq (Mq (Mq (Mq (Mq (Mq (Mq (Mq (Mq (Mq (List.Mem.head _))))))))))))))))))))))))))))))))))))))) (d_var (pv 0)) (pe_glob rfl (T.tx.glo _ (Mq (Mq (Mq (Mq (Mq (Mq (Mq (Mq (Mq (Mq (Mq (Mq (Mq (Mq (Mq (Mq (Mq (Mq (Mq (Mq (Mq (Mq (Mq (Mq (Mq (Mq (Mq (Mq (Mq (Mq (Mq (Mq (Mq (Mq (Mq (Mq (Mq (Mq (Mq (Mq (Mq (Mq (Mq (Mq (Mq (Mq (Mq (Mq (Mq (Mq (Mq (Mq (Mq (Mq (Mq (Mq (Mq (Mq (Mq (Mq (List.Mem.head _)))))))))))))))))))))))))))))))))))))))))))))))))))))))))))))) rfl) (u_isinstance T)) (l_cons (d_isErr (cV := .ref (He.ga K "NoMachine")) (fun u r => r) (kit_own T "NoMachine" (Mq (Mq (Mq (Mq (Mq (Mq (Mq (Mq (Mq (Mq (Mq (Mq (Mq (Mq (Mq (Mq (Mq (Mq (Mq (Mq (Mq (Mq (Mq (Mq (Mq (Mq (Mq (Mq (Mq (Mq (Mq (Mq (Mq (Mq (Mq (Mq (Mq (Mq (List.Mem.head _)))))))))))))))))))))))))))))))))))))))) (d_var (pv 0)) (pe_glob rfl (T.tx.glo _ (Mq (Mq (Mq (Mq (Mq (Mq (Mq (Mq (Mq (Mq (Mq (Mq (Mq (Mq (Mq (Mq (Mq (Mq (Mq (Mq (Mq (Mq (Mq (Mq (Mq (Mq (Mq (Mq (Mq (Mq (Mq (Mq (Mq (Mq (Mq (Mq (Mq (Mq (Mq (Mq (Mq (Mq (Mq (Mq (Mq (Mq (Mq (Mq (Mq (Mq (Mq (Mq (Mq (Mq (Mq (Mq (Mq (Mq (Mq (Mq (Mq (Mq (Mq (Mq (List.Mem.head _)))))))))))))))))))))))))))))))))))))))))))))))))))))))))))))))))) rfl) (u_isinstance T)) (l_cons (d_isErr (cV := .ref (He.ga K "NoRollout")) (fun u r => r) (kit_own T "NoRollout" (Mq (Mq (Mq (Mq (Mq (Mq (Mq (Mq (Mq (Mq (Mq (Mq (Mq (Mq (Mq (Mq (Mq (Mq (Mq (Mq (Mq (Mq (Mq (Mq (Mq (Mq (Mq (Mq (Mq (Mq (Mq (Mq (Mq (Mq (Mq (Mq (Mq (Mq (Mq (List.Mem.head _))))))))))))))))))))))))))))))))))))))))) (d_var (pv 0)) (pe_glob rfl (T.tx.glo _ (Mq (Mq (Mq (Mq (Mq (Mq (Mq (Mq (Mq (Mq (Mq (Mq (Mq (Mq (Mq (Mq (Mq (Mq (Mq (Mq (Mq (Mq (Mq (Mq (Mq (Mq (Mq (Mq (Mq (Mq (Mq (Mq (Mq (Mq (Mq (Mq (Mq (Mq (Mq (Mq (Mq (Mq (Mq (Mq (Mq (Mq (Mq (Mq (Mq (Mq (Mq (Mq (Mq (Mq (Mq (Mq (Mq (Mq (Mq (Mq (Mq (Mq (Mq (Mq (Mq (List.Mem.head _))))))))))))))))))))))))))))))))))))))))))))))))))))))))))))))))))) rfl) (u_isinstance T)) l_nil))))))))))))))))
theorem sc__law_field : FnScope ["_law_error", "_law_number"] ["_law_error", "_law_number"] (defScope s__law_field) := ⟨rfl, rfl, rfl, by decide +kernel, rfl, by decide +kernel, by decide +kernel⟩
def f__law_field : List D → Hand → Option (D × Hand) := mDef 2 (sSeq (sIf (mIsT (mB inD (mVar 1) (mF tupD (mCons (mC (.int 0)) (mCons (mC (.int 2)) mNil))))) (sRet (mU (fldErr errsL "index") (mVar 0))) sNil) (sSeq (sIf (mIsT (mB inD (mVar 1) (mF tupD (mCons (mC (.int 1)) (mCons (mC (.int 4)) (mCons (mC (.int 5)) mNil)))))) (sRet (mU (fldErr errsL "part") (mVar 0))) sNil) (sSeq (sIf (mIsT (mB inD (mVar 1) (mF tupD (mCons (mC (.int 3)) (mCons (mC (.int 6)) mNil))))) (sRet (mU (fldErr errsL "number") (mVar 0))) sNil) (sSeq (sIf (mIsT (mB inD (mVar 1) (mF tupD (mCons (mC (.int 7)) (mCons (mC (.int 8)) mNil))))) (sRet (mIf (mIsT (mB (relD eqP) (mVar 1) (mC (.int 7)))) (mU (fldErr errsL "most") (mVar 0)) (mU (fldErr errsL "source") (mVar 0)))) sNil) (sSeq (sIf (mIsT (mB inD (mVar 1) (mF tupD (mCons (mC (.int 9)) (mCons (mC (.int 10)) mNil))))) (sRet (mIf (mIsT (mB (relD eqP) (mVar 1) (mC (.int 9)))) (mU (fldErr errsL "literal") (mVar 0)) (mU (fldErr errsL "place") (mVar 0)))) sNil) (sSeq (sIf (mIsT (mB (relD eqP) (mVar 1) (mC (.int 11)))) (sRet (mU (fldErr errsL "pair") (mVar 0))) sNil) (sRet (mIf (mIsT (mB (relD eqP) (mVar 1) (mC (.int 12)))) (mU (fldErr errsL "name") (mVar 0)) (mU (fldErr errsL "names") (mVar 0))))))))))
theorem ok__law_field (T : Txt K mg) (Z : PySem.Er.Pg P "/claim/cut.py") (I : ∀ q ∈ fxs, q.ok K = true) : DOk P w K mg base (HandB p c) "_law_field" 1 ["_law_error", "_law_number"] f__law_field := by
  obtain ⟨fd, Fn⟩ := T.tx.fns d__law_field (Mq (Mq (Mq (Mq (Mq (Mq (Mq (Mq (Mq (Mq (Mq (Mq (Mq (Mq (Mq (Mq (Mq (Mq (Mq (Mq (Mq (List.Mem.head _))))))))))))))))))))))
  exact d_defD Fn (T.tx.glo _ (Mq (Mq (Mq (Mq (Mq (Mq (Mq (Mq (Mq (Mq (Mq (Mq (Mq (Mq (Mq (Mq (Mq (Mq (Mq (Mq (Mq (List.Mem.head _))))))))))))))))))))))) sc__law_field (fun _ _ _ _ _ _ us hl => match us, hl with | [_, _], _ => rfl) (fun cdv A outer s H E hr => (s_cons (s_if (dt_cmp (op_inA hr.units) inD_ok (d_var (pv 1)) (d_tup (l_cons d_int (l_cons d_int l_nil)))) (s_one (s_ret (d_fldErr (errs_fld T) (d_var (pv 0))))) s_nil) (s_cons (s_if (dt_cmp (op_inA hr.units) inD_ok (d_var (pv 1)) (d_tup (l_cons d_int (l_cons d_int (l_cons d_int l_nil))))) (s_one (s_ret (d_fldErr (errs_fld T) (d_var (pv 0))))) s_nil) (s_cons (s_if (dt_cmp (op_inA hr.units) inD_ok (d_var (pv 1)) (d_tup (l_cons d_int (l_cons d_int l_nil)))) (s_one (s_ret (d_fldErr (errs_fld T) (d_var (pv 0))))) s_nil) (s_cons (s_if (dt_cmp (op_inA hr.units) inD_ok (d_var (pv 1)) (d_tup (l_cons d_int (l_cons d_int l_nil)))) (s_one (s_ret (d_if (dt_cmp (op_eqP hr.units) (relD_ok _) (d_var (pv 1)) d_int) (d_fldErr (errs_fld T) (d_var (pv 0))) (d_fldErr (errs_fld T) (d_var (pv 0)))))) s_nil) (s_cons (s_if (dt_cmp (op_inA hr.units) inD_ok (d_var (pv 1)) (d_tup (l_cons d_int (l_cons d_int l_nil)))) (s_one (s_ret (d_if (dt_cmp (op_eqP hr.units) (relD_ok _) (d_var (pv 1)) d_int) (d_fldErr (errs_fld T) (d_var (pv 0))) (d_fldErr (errs_fld T) (d_var (pv 0)))))) s_nil) (s_cons (s_if (dt_cmp (op_eqP hr.units) (relD_ok _) (d_var (pv 1)) d_int) (s_one (s_ret (d_fldErr (errs_fld T) (d_var (pv 0))))) s_nil) (s_one (s_ret (d_if (dt_cmp (op_eqP hr.units) (relD_ok _) (d_var (pv 1)) d_int) (d_fldErr (errs_fld T) (d_var (pv 0))) (d_fldErr (errs_fld T) (d_var (pv 0)))))))))))))
theorem sc__law_raised : FnScope ["_law_which", "_law_thing", "_law_found", "e"] ["_law_which", "_law_thing"] (defScope s__law_raised) := ⟨rfl, rfl, rfl, by decide +kernel, rfl, by decide +kernel, by decide +kernel⟩
def t__law_raised_0 : MS (Hand) := (sSeq (sAsg (gdName 2) (mIf (mIsT (mXis (tblOf "BadText") 3)) (mXfld errsL 3 "index") (mF lstD (mCons (mVar 3) mNil)))) (sIf (mIsT (mXis (tblOf "BadLine") 3)) (sAsg (gdName 2) (mXfld errsL 3 "number")) (sIf (mIsT (mXis (tblOf "Ringed") 3)) (sAsg (gdName 2) (mXfld errsL 3 "names")) (sIf (mIsT (mXis (tblOf "NotFitting") 3)) (sAsg (gdName 2) (mXfld errsL 3 "source")) sNil))))
def f__law_raised : List D → Hand → Option (D × Hand) := mDef 4 (sSeq (sAsg (gdName 2) (mC .non)) (sSeq (toS (xTry 3 tblT (xSeq (xIf (mIsT (mB (relD eqP) (mVar 0) (mC (.int 0)))) (xRaise "BadText" "index" (mVar 1)) (xS sNil)) (xSeq (xIf (mIsT (mB (relD eqP) (mVar 0) (mC (.int 1)))) (xRaise "BadLine" "number" (mVar 1)) (xS sNil)) (xSeq (xIf (mIsT (mB (relD eqP) (mVar 0) (mC (.int 2)))) (xRaise "Ringed" "names" (mVar 1)) (xS sNil)) (xRaise "NotFitting" "source" (mVar 1))))) t__law_raised_0)) (sRet (mVar 2))))
theorem ok__law_raised (T : Txt K mg) (Z : PySem.Er.Pg P "/claim/cut.py") (I : ∀ q ∈ fxs, q.ok K = true) : DOk P w K mg base (HandB p c) "_law_raised" 1 ["_law_which", "_law_thing"] f__law_raised := by
  obtain ⟨fd, Fn⟩ := T.tx.fns d__law_raised (Mq (Mq (Mq (Mq (Mq (Mq (Mq (Mq (Mq (Mq (Mq (Mq (Mq (Mq (Mq (Mq (Mq (Mq (Mq (Mq (Mq (Mq (List.Mem.head _)))))))))))))))))))))))
  exact d_defD Fn (T.tx.glo _ (Mq (Mq (Mq (Mq (Mq (Mq (Mq (Mq (Mq (Mq (Mq (Mq (Mq (Mq (Mq (Mq (Mq (Mq (Mq (Mq (Mq (Mq (List.Mem.head _)))))))))))))))))))))))) sc__law_raised (fun _ _ _ _ _ _ us hl => match us, hl with | [_, _], _ => rfl) (fun cdv A outer s H E hr => (s_cons (s_set (i := 2) sc__law_raised.nd d_non) (s_cons (s_toS (x_try (i := 3) rfl rfl rfl sc__law_raised.nd rfl rfl (T.tx.glo _ (Mq (Mq (Mq (Mq (Mq (Mq (Mq (Mq (Mq (Mq (Mq (Mq (Mq (Mq (Mq (Mq (Mq (Mq (Mq (Mq (Mq (Mq (Mq (Mq (Mq (List.Mem.head _))))))))))))))))))))))))))) rfl (by decide) takes0 (exm_LockError T) (fun W pn xe tk hp => (x_cons (x_if (dt_cmp (op_eqP hr.units) (relD_ok _) (d_var (pv 0)) d_int) (x_one (x_raise rfl tk (T.err e_BadText (List.Mem.head _)).1 Z (T.tx.glo _ (Mq (Mq (Mq (Mq (Mq (Mq (Mq (Mq (Mq (Mq (Mq (Mq (Mq (Mq (Mq (Mq (Mq (Mq (Mq (Mq (Mq (Mq (Mq (Mq (Mq (Mq (List.Mem.head _)))))))))))))))))))))))))))) hr (d_var (pv 1)))) (x_ss s_nil)) (x_cons (x_if (dt_cmp (op_eqP hr.units) (relD_ok _) (d_var (pv 0)) d_int) (x_one (x_raise rfl tk (T.err e_BadLine (Mq (Mq (Mq (List.Mem.head _))))).1 Z (T.tx.glo _ (Mq (Mq (Mq (Mq (Mq (Mq (Mq (Mq (Mq (Mq (Mq (Mq (Mq (Mq (Mq (Mq (Mq (Mq (Mq (Mq (Mq (Mq (Mq (Mq (Mq (Mq (Mq (Mq (Mq (List.Mem.head _))))))))))))))))))))))))))))))) hr (d_var (pv 1)))) (x_ss s_nil)) (x_cons (x_if (dt_cmp (op_eqP hr.units) (relD_ok _) (d_var (pv 0)) d_int) (x_one (x_raise rfl tk (T.err e_Ringed (Mq (Mq (Mq (Mq (Mq (Mq (Mq (Mq (Mq (Mq (Mq (Mq (Mq (List.Mem.head _))))))))))))))).1 Z (T.tx.glo _ (Mq (Mq (Mq (Mq (Mq (Mq (Mq (Mq (Mq (Mq (Mq (Mq (Mq (Mq (Mq (Mq (Mq (Mq (Mq (Mq (Mq (Mq (Mq (Mq (Mq (Mq (Mq (Mq (Mq (Mq (Mq (Mq (Mq (Mq (Mq (Mq (Mq (Mq (Mq (Mq (Mq (Mq (Mq (Mq (Mq (Mq (Mq (Mq (Mq (Mq (Mq (Mq (Mq (Mq (Mq (Mq (Mq (Mq (Mq (Mq (Mq (Mq (Mq (List.Mem.head _))))))))))))))))))))))))))))))))))))))))))))))))))))))))))))))))) hr (d_var (pv 1)))) (x_ss s_nil)) (x_one (x_raise rfl tk (T.err e_NotFitting (Mq (Mq (Mq (Mq (Mq (Mq (Mq (Mq (List.Mem.head _)))))))))).1 Z (T.tx.glo _ (Mq (Mq (Mq (Mq (Mq (Mq (Mq (Mq (Mq (Mq (Mq (Mq (Mq (Mq (Mq (Mq (Mq (Mq (Mq (Mq (Mq (Mq (Mq (Mq (Mq (Mq (Mq (Mq (Mq (Mq (Mq (Mq (Mq (Mq (List.Mem.head _)))))))))))))))))))))))))))))))))))) hr (d_var (pv 1)))))))) (fun a_e oe cls dd pn hz hf => (s_cons (s_set (i := 2) sc__law_raised.nd (d_if (dt_val (d_xis (cV := .ref (He.ga K "BadText")) hz hf (fun u r => r) (kit_own T "BadText" (List.Mem.head _)) (pv 3) (pe_glob rfl (T.tx.glo _ (Mq (Mq (Mq (Mq (Mq (Mq (Mq (Mq (Mq (Mq (Mq (Mq (Mq (Mq (Mq (Mq (Mq (Mq (Mq (Mq (Mq (Mq (Mq (Mq (Mq (Mq (List.Mem.head _)))))))))))))))))))))))))))) rfl) (u_isinstance T))) (d_xfld (errs_fld T) hz hf (pv 3)) (d_lst (l_cons (d_var (pv 3)) l_nil)))) (s_one (s_if (dt_val (d_xis (cV := .ref (He.ga K "BadLine")) hz hf (fun u r => r) (kit_own T "BadLine" (Mq (Mq (Mq (List.Mem.head _))))) (pv 3) (pe_glob rfl (T.tx.glo _ (Mq (Mq (Mq (Mq (Mq (Mq (Mq (Mq (Mq (Mq (Mq (Mq (Mq (Mq (Mq (Mq (Mq (Mq (Mq (Mq (Mq (Mq (Mq (Mq (Mq (Mq (Mq (Mq (Mq (List.Mem.head _))))))))))))))))))))))))))))))) rfl) (u_isinstance T))) (s_one (s_set (i := 2) sc__law_raised.nd (d_xfld (errs_fld T) hz hf (pv 3)))) (s_one (s_if (dt_val (d_xis (cV := .ref (He.ga K "Ringed")) hz hf (fun u r => r) (kit_own T "Ringed" (Mq (Mq (Mq (Mq (Mq (Mq (Mq (Mq (Mq (Mq (Mq (Mq (Mq (List.Mem.head _))))))))))))))) (pv 3) (pe_glob rfl (T.tx.glo _ (Mq (Mq (Mq (Mq (Mq (Mq (Mq (Mq (Mq (Mq (Mq (Mq (Mq (Mq (Mq (Mq (Mq (Mq (Mq (Mq (Mq (Mq (Mq (Mq (Mq (Mq (Mq (Mq (Mq (Mq (Mq (Mq (Mq (Mq (Mq (Mq (Mq (Mq (Mq (Mq (Mq (Mq (Mq (Mq (Mq (Mq (Mq (Mq (Mq (Mq (Mq (Mq (Mq (Mq (Mq (Mq (Mq (Mq (Mq (Mq (Mq (Mq (Mq (List.Mem.head _))))))))))))))))))))))))))))))))))))))))))))))))))))))))))))))))) rfl) (u_isinstance T))) (s_one (s_set (i := 2) sc__law_raised.nd (d_xfld (errs_fld T) hz hf (pv 3)))) (s_one (s_if (dt_val (d_xis (cV := .ref (He.ga K "NotFitting")) hz hf (fun u r => r) (kit_own T "NotFitting" (Mq (Mq (Mq (Mq (Mq (Mq (Mq (Mq (List.Mem.head _)))))))))) (pv 3) (pe_glob rfl (T.tx.glo _ (Mq (Mq (Mq (Mq (Mq (Mq (Mq (Mq (Mq (Mq (Mq (Mq (Mq (Mq (Mq (Mq (Mq (Mq (Mq (Mq (Mq (Mq (Mq (Mq (Mq (Mq (Mq (Mq (Mq (Mq (Mq (Mq (Mq (Mq (List.Mem.head _)))))))))))))))))))))))))))))))))))) rfl) (u_isinstance T))) (s_one (s_set (i := 2) sc__law_raised.nd (d_xfld (errs_fld T) hz hf (pv 3)))) s_nil)))))))))) (s_one (s_ret (d_var (pv 2)))))))
theorem sc__law_right : FnScope ["_law_error", "_law_number", "_law_thing", "_law_flags"] ["_law_error", "_law_number", "_law_thing"] (defScope s__law_right) := ⟨rfl, rfl, rfl, by decide +kernel, rfl, by decide +kernel, by decide +kernel⟩
def f__law_right : List D → Hand → Option (D × Hand) := mDef 4 (sSeq (sAsg (gdName 3) (mCall f__law_classes (mCons (mVar 0) mNil))) (sSeq (sIf (mOrT (mNotT (mIsT (mB ixD (mVar 3) (mVar 1)))) (mOrT (mIsT (mB (relD neP) (mB countPD (mVar 3) (mC (.bl true))) (mC (.int 1)))) (mIsT (mB (relD neP) (mF lenD (mCons (mVar 3) mNil)) (mC (.int 40)))))) (sRet (mC (.bl false))) sNil) (sSeq (sIf (mOrT (mNotT (mIsT (mU (isErr tblT) (mVar 0)))) (mNotT (mIsT (mU (isErr tblT) (mVar 0))))) (sRet (mC (.bl false))) sNil) (sRet (mOr (mB (relD gtP) (mVar 1) (mC (.int 13))) (mCall (f__law_is 42) (mCons (mF lstD (mCons (mCall f__law_field (mCons (mVar 0) (mCons (mVar 1) mNil))) mNil)) (mCons (mF lstD (mCons (mVar 2) mNil)) mNil))))))))
theorem ok__law_right (T : Txt K mg) (Z : PySem.Er.Pg P "/claim/cut.py") (I : ∀ q ∈ fxs, q.ok K = true) : DOk P w K mg base (HandB p c) "_law_right" 44 ["_law_error", "_law_number", "_law_thing"] f__law_right := by
  obtain ⟨fd, Fn⟩ := T.tx.fns d__law_right (Mq (Mq (Mq (Mq (Mq (Mq (Mq (Mq (Mq (Mq (Mq (Mq (Mq (Mq (Mq (Mq (Mq (Mq (Mq (Mq (Mq (Mq (Mq (List.Mem.head _))))))))))))))))))))))))
  exact d_defD Fn (T.tx.glo _ (Mq (Mq (Mq (Mq (Mq (Mq (Mq (Mq (Mq (Mq (Mq (Mq (Mq (Mq (Mq (Mq (Mq (Mq (Mq (Mq (Mq (Mq (Mq (List.Mem.head _))))))))))))))))))))))))) sc__law_right (fun _ _ _ _ _ _ us hl => match us, hl with | [_, _, _], _ => rfl) (fun cdv A outer s H E hr => (s_cons (s_set (i := 3) sc__law_right.nd (d_callO (ok__law_classes T Z I) hr (l_cons (d_var (pv 0)) l_nil) (hl := (len_cons len_nil)))) (s_cons (s_if (dt_w (dw_or (dt_not (dt_val (d_ix ix_seq ixD_ok (d_var (pv 3)) (d_var (pv 1))))) (dw_or (dt_cmp (op_neP hr.units) (relD_ok _) (d_count (room66 hr) (d_var (pv 3)) d_bl) d_int) (dw_or1 (dt_cmp (op_neP hr.units) (relD_ok _) (d_callB call_len lenD_ok (u_len T) (by decide +kernel) (l_cons (d_var (pv 3)) l_nil)) d_int))))) (s_one (s_ret d_bl)) s_nil) (s_cons (s_if (dt_w (dw_or (dt_not (dt_val (d_isErr (cV := .ref (He.ga K "LockError")) (fun u r => r) (kit_LockError T) (d_var (pv 0)) (pe_glob rfl (T.tx.glo _ (Mq (Mq (Mq (Mq (Mq (Mq (Mq (Mq (Mq (Mq (Mq (Mq (Mq (Mq (Mq (Mq (Mq (Mq (Mq (Mq (Mq (Mq (Mq (Mq (Mq (List.Mem.head _))))))))))))))))))))))))))) rfl) (u_isinstance T)))) (dw_or1 (dt_not (dt_val (d_isErr (cV := .ty "ValueError") (fun u r => r) (kit_ValueError T) (d_var (pv 0)) (pe_bltn rfl (u_ValueError T) (by decide +kernel) rfl) (u_isinstance T))))))) (s_one (s_ret d_bl)) s_nil) (s_one (s_ret (d_or (d_cmp (op_gtP hr.units) (relD_ok _) (d_var (pv 1)) d_int) (d_one (d_callO (ok__law_is T Z I 42) hr (l_cons (d_lst (l_cons (d_callO (ok__law_field T Z I) hr (l_cons (d_var (pv 0)) (l_cons (d_var (pv 1)) l_nil)) (hl := (len_cons (len_cons len_nil)))) l_nil)) (l_cons (d_lst (l_cons (d_var (pv 2)) l_nil)) l_nil)) (hl := (len_cons (len_cons len_nil))))))))))))
theorem sc_Book : FnScope ["self", "entries", "index", "one"] ["self", "entries"] (defScope i_Book) := ⟨rfl, rfl, rfl, by decide +kernel, rfl, by decide +kernel, by decide +kernel⟩
def b_Book_0 : MSX (S) := (xSeq (xIf (mNotT (mIsT (mU (isOwnD [("Entry", true), ("Book", false)]) (mVar 3)))) (xRaise "BadBook" "index" (mVar 2)) (xS sNil)) (xIf (mAndT (mIsT (mB (relD gtP) (mVar 2) (mC (.int 0)))) (mNotT (mIsT (mB (relD ltP) (mCall f_key_of (mCons (mB ixD (mVar 1) (mB subD (mVar 2) (mC (.int 1)))) mNil)) (mCall f_key_of (mCons (mVar 3) mNil)))))) (xRaise "BadBook" "index" (mVar 2)) (xS sNil)))
def m_Book : MSX S := (xSeq (xIf (mOrT (mNotT (mIsT (mU (isiD .tTuple) (mVar 1)))) (mIsT (mB (relD gtP) (mF lenD (mCons (mVar 1) mNil)) (mC (.int 200))))) (xRaise "BadBook" "index" (mU negD (mC (.int 1)))) (xS sNil)) (xSeq (xFor (mIt2 enumTItems (mCons (mVar 1) mNil)) (gdTup 2 (gdCons (gdName 2) (gdCons (gdName 3) gdNil))) b_Book_0) (xS sNil)))
def f_Book : List D → S → Option (RX (S)) := mMk 4 "Book" m_Book [("entries", 1)]
theorem ok_Book (T : Txt K mg) (Z : PySem.Er.Pg P "/claim/cut.py") (I : ∀ q ∈ fxs, q.ok K = true) : DMk P w K mg base (B) "Book" 2 ["entries"] f_Book := by
  obtain ⟨fd, Fn⟩ := T.tx.fns d_Book (Mq (Mq (Mq (Mq (Mq (Mq (Mq (Mq (Mq (Mq (Mq (Mq (Mq (Mq (Mq (Mq (Mq (Mq (Mq (Mq (Mq (Mq (Mq (Mq (Mq (Mq (List.Mem.head _)))))))))))))))))))))))))))
  exact d_defMk (fs := [("entries", 1)]) Fn (T.tx.glo _ (Mq (Mq (Mq (Mq (Mq (Mq (Mq (Mq (Mq (Mq (Mq (Mq (Mq (Mq (Mq (Mq (Mq (Mq (Mq (Mq (Mq (Mq (Mq (Mq (Mq (Mq (Mq (Mq (Mq (Mq (Mq (Mq (Mq (Mq (Mq (Mq (Mq (Mq (Mq (Mq (Mq (Mq (Mq (Mq (Mq (Mq (Mq (Mq (Mq (Mq (Mq (Mq (Mq (Mq (Mq (Mq (Mq (Mq (Mq (Mq (Mq (Mq (Mq (Mq (Mq (Mq (Mq (List.Mem.head _))))))))))))))))))))))))))))))))))))))))))))))))))))))))))))))))))))) (fx_Book I) (by decide +kernel) (by decide) sc_Book (fun _ _ _ _ _ _ us hl => match us, hl with | [_, _], _ => rfl) (fun y dy cdv A outer s H E hr tk hp => (ini_cons (x_if (dt_w (dw_or (dt_not (dt_val (d_isi (u_isinstance T) (d_var (pv 1)) (pe_ty .tTuple (u_tuple T) (by decide +kernel))))) (dw_or1 (dt_cmp (op_gtP hr.units) (relD_ok _) (d_callB call_len lenD_ok (u_len T) (by decide +kernel) (l_cons (d_var (pv 1)) l_nil)) (d_gint (g_MOST_ENTRIES T)))))) (x_one (x_raise rfl tk (T.err e_BadBook (Mq (Mq (List.Mem.head _)))).1 Z (T.tx.glo _ (Mq (Mq (Mq (Mq (Mq (Mq (Mq (Mq (Mq (Mq (Mq (Mq (Mq (Mq (Mq (Mq (Mq (Mq (Mq (Mq (Mq (Mq (Mq (Mq (Mq (Mq (Mq (Mq (List.Mem.head _)))))))))))))))))))))))))))))) hr (d_un un_neg negD_ok d_int))) (x_ss s_nil)) (ini_cons (x_for hp rfl (i_enumT (u_enumerate T) (l_cons (d_var (pv 1)) l_nil)) (pg_tup (n := 2) rfl (pgs_cons (pg_name (i := 2) sc_Book.nd rfl (by first | exact Or.inl rfl | exact Or.inr rfl)) (pgs_cons (pg_name (i := 3) sc_Book.nd rfl (by first | exact Or.inl rfl | exact Or.inr rfl)) pgs_nil))) (g_tup (g_cons (g_name 2) (g_cons (g_name 3) g_nil))) (x_cons (x_if (dt_not (dt_val (d_isOwn (own_Entry T I) (u_isinstance T) (d_var (pv 3)) (pe_glob rfl (T.tx.glo _ (Mq (Mq (Mq (Mq (Mq (Mq (Mq (Mq (Mq (Mq (Mq (Mq (Mq (Mq (Mq (Mq (Mq (Mq (Mq (Mq (Mq (Mq (Mq (Mq (Mq (Mq (Mq (Mq (Mq (Mq (Mq (Mq (Mq (Mq (Mq (Mq (Mq (Mq (Mq (Mq (Mq (Mq (Mq (Mq (Mq (Mq (Mq (Mq (Mq (Mq (Mq (Mq (Mq (Mq (Mq (Mq (Mq (Mq (Mq (Mq (Mq (Mq (Mq (Mq (Mq (Mq (List.Mem.head _)))))))))))))))))))))))))))))))))))))))))))))))))))))))))))))))))))) rfl)))) (x_one (x_raise rfl tk (T.err e_BadBook (Mq (Mq (List.Mem.head _)))).1 Z (T.tx.glo _ (Mq (Mq (Mq (Mq (Mq (Mq (Mq (Mq (Mq (Mq (Mq (Mq (Mq (Mq (Mq (Mq (Mq (Mq (Mq (Mq (Mq (Mq (Mq (Mq (Mq (Mq (Mq (Mq (List.Mem.head _)))))))))))))))))))))))))))))) hr (d_var (pv 2)))) (x_ss s_nil)) (x_one (x_if (dt_w (dw_and (dt_cmp (op_gtP hr.units) (relD_ok _) (d_var (pv 2)) d_int) (dw_and1 (dt_not (dt_cmp (op_ltP hr.units) (relD_ok _) (d_callO (ok_key_of T Z I) hr (l_cons (d_ix ix_seq ixD_ok (d_var (pv 1)) (d_op op_subA subD_ok (d_var (pv 2)) d_int)) l_nil) (hl := (len_cons len_nil))) (d_callO (ok_key_of T Z I) hr (l_cons (d_var (pv 3)) l_nil) (hl := (len_cons len_nil)))))))) (x_one (x_raise rfl tk (T.err e_BadBook (Mq (Mq (List.Mem.head _)))).1 Z (T.tx.glo _ (Mq (Mq (Mq (Mq (Mq (Mq (Mq (Mq (Mq (Mq (Mq (Mq (Mq (Mq (Mq (Mq (Mq (Mq (Mq (Mq (Mq (Mq (Mq (Mq (Mq (Mq (Mq (Mq (List.Mem.head _)))))))))))))))))))))))))))))) hr (d_var (pv 2)))) (x_ss s_nil))))) (ini_nil (flds_cons (ps_fld (pv 0) (pv 1) (by rfl)) flds_nil)))))
theorem sc_Entry__eq : FnScope ["self", "other"] ["self", "other"] (defScope q_Entry) := ⟨rfl, rfl, rfl, by decide +kernel, rfl, by decide +kernel, by decide +kernel⟩
def f_Entry__eq : List D → S → Option (D × S) := mDef 2 (sSeq (sIf (mOrT (mNotT (mIsT (mU (isOwnE [("Entry", true), ("Book", false)]) (mVar 1)))) (mOrT (mIsT (mB (relD neP) (mFldI fldsI "name" (mVar 0)) (mFldI fldsI "name" (mVar 1)))) (mIsT (mB (relD neP) (mFldI fldsI "version" (mVar 0)) (mFldI fldsI "version" (mVar 1)))))) (sRet (mC (.bl false))) sNil) (sRet (mAnd (mB (relD eqP) (mFldI fldsI "features" (mVar 0)) (mFldI fldsI "features" (mVar 1))) (mAnd (mB (relD eqP) (mFldI fldsI "needs" (mVar 0)) (mFldI fldsI "needs" (mVar 1))) (mB (relD eqP) (mFldI fldsI "bars" (mVar 0)) (mFldI fldsI "bars" (mVar 1)))))))
theorem ok_Entry__eq (T : Txt K mg) (Z : PySem.Er.Pg P "/claim/cut.py") (I : ∀ q ∈ fxs, q.ok K = true) : DEq P w K mg base (B) "Entry" 1 f_Entry__eq := by
  obtain ⟨fd, Fn⟩ := T.tx.fns d_Entry__eq (Mq (Mq (Mq (Mq (Mq (Mq (Mq (Mq (Mq (Mq (Mq (Mq (Mq (Mq (Mq (Mq (Mq (Mq (Mq (Mq (Mq (Mq (Mq (Mq (Mq (Mq (Mq (List.Mem.head _))))))))))))))))))))))))))))
  exact d_defEq Fn (fq_Entry I) sc_Entry__eq rfl (fun _ _ _ _ _ _ us hl => match us, hl with | [_, _], _ => rfl) (fun cdv A outer s H E hr => (s_cons (s_if (dt_w (dw_or (dt_not (dt_val (d_isOwnE (own_Entry T I) ⟨_, (Mq (List.Mem.head _)), rfl⟩ (u_isinstance T) (d_var (pv 1)) (pe_glob rfl (T.tx.glo _ (Mq (Mq (Mq (Mq (Mq (Mq (Mq (Mq (Mq (Mq (Mq (Mq (Mq (Mq (Mq (Mq (Mq (Mq (Mq (Mq (Mq (Mq (Mq (Mq (Mq (Mq (Mq (Mq (Mq (Mq (Mq (Mq (Mq (Mq (Mq (Mq (Mq (Mq (Mq (Mq (Mq (Mq (Mq (Mq (Mq (Mq (Mq (Mq (Mq (Mq (Mq (Mq (Mq (Mq (Mq (Mq (Mq (Mq (Mq (Mq (Mq (Mq (Mq (Mq (Mq (Mq (List.Mem.head _)))))))))))))))))))))))))))))))))))))))))))))))))))))))))))))))))))) rfl)))) (dw_or (dt_cmp (op_neP hr.units) (relD_ok _) (d_fldI (flds_i I) (d_var (pv 0))) (d_fldI (flds_i I) (d_var (pv 1)))) (dw_or1 (dt_cmp (op_neP hr.units) (relD_ok _) (d_fldI (flds_i I) (d_var (pv 0))) (d_fldI (flds_i I) (d_var (pv 1)))))))) (s_one (s_ret d_bl)) s_nil) (s_one (s_ret (d_and (d_cmp (op_eqP hr.units) (relD_ok _) (d_fldI (flds_i I) (d_var (pv 0))) (d_fldI (flds_i I) (d_var (pv 1)))) (d_and (d_cmp (op_eqP hr.units) (relD_ok _) (d_fldI (flds_i I) (d_var (pv 0))) (d_fldI (flds_i I) (d_var (pv 1)))) (d_one (d_cmp (op_eqP hr.units) (relD_ok _) (d_fldI (flds_i I) (d_var (pv 0))) (d_fldI (flds_i I) (d_var (pv 1)))))))))))
theorem sc_Book__eq : FnScope ["self", "other"] ["self", "other"] (defScope q_Book) := ⟨rfl, rfl, rfl, by decide +kernel, rfl, by decide +kernel, by decide +kernel⟩
def f_Book__eq : List D → S → Option (D × S) := mDef 2 (sRet (mAnd (mU (isOwnE [("Entry", false), ("Book", true)]) (mVar 1)) (mEqTI "Entry" f_Entry__eq (mFldI fldsI "entries" (mVar 0)) (mFldI fldsI "entries" (mVar 1)))))
theorem ok_Book__eq (T : Txt K mg) (Z : PySem.Er.Pg P "/claim/cut.py") (I : ∀ q ∈ fxs, q.ok K = true) : DEq P w K mg base (B) "Book" 3 f_Book__eq := by
  obtain ⟨fd, Fn⟩ := T.tx.fns d_Book__eq (Mq (Mq (Mq (Mq (Mq (Mq (Mq (Mq (Mq (Mq (Mq (Mq (Mq (Mq (Mq (Mq (Mq (Mq (Mq (Mq (Mq (Mq (Mq (Mq (Mq (Mq (Mq (Mq (List.Mem.head _)))))))))))))))))))))))))))))
  exact d_defEq Fn (fq_Book I) sc_Book__eq rfl (fun _ _ _ _ _ _ us hl => match us, hl with | [_, _], _ => rfl) (fun cdv A outer s H E hr => (s_one (s_ret (d_and (d_isOwnE (own_Book T I) ⟨_, (List.Mem.head _), rfl⟩ (u_isinstance T) (d_var (pv 1)) (pe_glob rfl (T.tx.glo _ (Mq (Mq (Mq (Mq (Mq (Mq (Mq (Mq (Mq (Mq (Mq (Mq (Mq (Mq (Mq (Mq (Mq (Mq (Mq (Mq (Mq (Mq (Mq (Mq (Mq (Mq (Mq (Mq (Mq (Mq (Mq (Mq (Mq (Mq (Mq (Mq (Mq (Mq (Mq (Mq (Mq (Mq (Mq (Mq (Mq (Mq (Mq (Mq (Mq (Mq (Mq (Mq (Mq (Mq (Mq (Mq (Mq (Mq (Mq (Mq (Mq (Mq (Mq (Mq (Mq (Mq (Mq (List.Mem.head _))))))))))))))))))))))))))))))))))))))))))))))))))))))))))))))))))))) rfl)) (d_one (d_eqTI (DEq.eqT (ok_Entry__eq T Z I) hr) (d_fldI (flds_i I) (d_var (pv 0))) (d_fldI (flds_i I) (d_var (pv 1)))))))))
theorem sc_law : FnScope ["_law_script", "_law_hand_here", "_law_things", "_law_told", "_law_errors", "_law_which", "_law_places", "_law_book", "_law_number", "_law_error"] ["_law_script"] (defScope s_law) := ⟨rfl, rfl, rfl, by decide +kernel, rfl, by decide +kernel, by decide +kernel⟩
def c_law_0 : ME (Hand) := (mCall f__law_some (mCons (mVar 1) (mCons (mVar 2) mNil)))
def b_law_0 : MS (Hand) := (sIf (mNotT (mIsT (mCall f__law_right (mCons (mVar 9) (mCons (mVar 8) (mCons (mIf (mIsT (mB (relD ltP) (mVar 8) (mC (.int 14)))) (mB ixD (mVar 3) (mVar 8)) (mC .non)) mNil)))))) (sRet (mC (.bl false))) sNil)
def m_law : MS (Hand) := (sSeq (sAsg (gdName 2) (mF lstD (mCons (mC (.str "name")) (mCons (mC (.str "")) (mCons (mC (.int 7)) (mCons (mU negD (mC (.int 1))) (mCons (mC (.int 0)) (mCons (mC .non) (mCons (mC (.bl true)) (mCons (mF tupD (mCons (mC (.str "need")) (mCons (mC (.int 2)) mNil))) (mCons (mF tupD (mCons (mC (.int 1)) (mCons (mC (.int 2)) (mCons (mC (.int 3)) mNil)))) (mCons (mF lstD (mCons (mC (.int 1)) (mCons (mF lstD (mCons (mC (.int 2)) mNil)) mNil))) (mCons (mDisp ["a"] (mCons (mC (.int 1)) mNil)) (mCons (mF tupD mNil) (mCons (mB powD (mC (.int 10)) (mC (.int 11))) (mCons (mCall f__law_deep (mCons (mC (.int 0)) mNil)) mNil)))))))))))))))) (sSeq (sAsg (gdName 3) (mComp (mRng rng1D (mCons (mC (.int 14)) mNil)) (gdName 8) mYes c_law_0 [8])) (sSeq (sOwn 4 (mCons (mErr "BadText" "index" (mB ixD (mVar 3) (mC (.int 0)))) (mCons (mErr "BadEntry" "part" (mB ixD (mVar 3) (mC (.int 1)))) (mCons (mErr "BadBook" "index" (mB ixD (mVar 3) (mC (.int 2)))) (mCons (mErr "BadLine" "number" (mB ixD (mVar 3) (mC (.int 3)))) (mCons (mErr "BadQuestion" "part" (mB ixD (mVar 3) (mC (.int 4)))) mNil)))))) (sFrz 4 (sSeq (sOwnP 4 (mVar 4) (mF lstD (mCons (mErr "BadTask" "part" (mB ixD (mVar 3) (mC (.int 5)))) (mCons (mErr "BadStep" "number" (mB ixD (mVar 3) (mC (.int 6)))) (mCons (mErr "TooMany" "most" (mB ixD (mVar 3) (mC (.int 7)))) (mCons (mErr "NotFitting" "source" (mB ixD (mVar 3) (mC (.int 8)))) (mCons (mErr "NotGiven" "literal" (mB ixD (mVar 3) (mC (.int 9)))) mNil))))))) (sFrz 4 (sSeq (sOwnP 4 (mVar 4) (mF lstD (mCons (mErr "NotFirst" "place" (mB ixD (mVar 3) (mC (.int 10)))) (mCons (mErr "NotFetched" "pair" (mB ixD (mVar 3) (mC (.int 11)))) (mCons (mErr "NoBuild" "name" (mB ixD (mVar 3) (mC (.int 12)))) (mCons (mErr "Ringed" "names" (mB ixD (mVar 3) (mC (.int 13)))) (mCons (mErr0 "NoFeatures") mNil))))))) (sFrz 4 (sSeq (sOwnP 4 (mVar 4) (mF lstD (mCons (mErr0 "NoEntry") (mCons (mErr0 "NotRight") (mCons (mErr0 "NotThere") (mCons (mErr0 "NotClosed") (mCons (mErr0 "NoSource") (mCons (mErr0 "NoStand") (mCons (mErr0 "NoGivens") (mCons (mErr0 "NoLiteral") mNil)))))))))) (sFrz 4 (sSeq (sOwnP 4 (mVar 4) (mF lstD (mCons (mErr0 "NoPaper") (mCons (mErr0 "NoSources") (mCons (mErr0 "NoName") (mCons (mErr0 "NoNumber") (mCons (mErr0 "NotEntry") (mCons (mErr0 "NotQuestion") (mCons (mErr0 "NothingDone") (mCons (mErr0 "NoText") mNil)))))))))) (sFrz 4 (sSeq (sOwnP 4 (mVar 4) (mF lstD (mCons (mErr0 "NoStart") (mCons (mErr0 "NoStop") (mCons (mErr0 "NotSafe") (mCons (mErr0 "NoDeed") (mCons (mErr0 "NoContents") (mCons (mErr0 "NoMirrors") (mCons (mErr0 "NoManifest") (mCons (mErr0 "NoMachine") mNil)))))))))) (sSeq (sApp 4 (mErr0 "NoRollout")) (sFrz 4 (sSeq (sFor (mIt2 enumLItems (mCons (mVar 4) mNil)) (gdTup 2 (gdCons (gdName 8) (gdCons (gdName 9) gdNil))) b_law_0) (sSeq (sAsg (gdName 5) (mCall f__law_draw (mCons (mVar 1) (mCons (mC (.int 4)) mNil)))) (sSeq (sAsg (gdName 6) (mF lstD (mCons (mC (.int 0)) (mCons (mC (.int 3)) (mCons (mC (.int 13)) (mCons (mC (.int 8)) mNil)))))) (sSeq (sAsg (gdName 7) (mMake f_Book (mCons (mF tupD mNil) mNil))) (sRet (mAnd (mCmpI false "Book" f_Book__eq (mU (fldErr errsL "part") (mErr "BadEntry" "part" (mVar 7))) (mVar 7)) (mCall (f__law_is 42) (mCons (mF lstD (mCons (mCall f__law_raised (mCons (mVar 5) (mCons (mB ixD (mVar 3) (mB ixD (mVar 6) (mVar 5))) mNil))) mNil)) (mCons (mF lstD (mCons (mB ixD (mVar 3) (mB ixD (mVar 6) (mVar 5))) mNil)) mNil))))))))))))))))))))))))
theorem ok_law (T : Txt K mg) (hlaw : LawOk 10 1 m_law f__law_hand) : ∃ fd, (∀ (s : Shared) (v : Value), BindsTo s fd ⟨[v], []⟩ [("_law_script", v)]) ∧ ∀ (P : Program) (w : World) (base : Heap) (Z : PySem.Er.Pg P "/claim/cut.py") (I : ∀ q ∈ fxs, q.ok K = true), FnOk P w K mg base CX0 45 (He.fAd K ("law", none)) fd ["_law_script"] (spLaw K) := by
  obtain ⟨fd, Fn⟩ := T.tx.fns d_law (Mq (Mq (Mq (Mq (Mq (Mq (Mq (Mq (Mq (Mq (Mq (Mq (Mq (Mq (Mq (Mq (Mq (Mq (Mq (Mq (Mq (Mq (Mq (Mq (List.Mem.head _)))))))))))))))))))))))))
  refine ⟨fd, fun s v => (FunD.bindsA (ps := ["_law_script"]) Fn fun _ _ _ _ _ _ us hl => match us, hl with | [_], _ => rfl) s [v] rfl, ?_⟩
  exact fun P w base Z I => law_fn Fn sc_law (by decide) (by decide) hlaw rfl (fun a bp cdv A outer s H E hr => s_set (i := 1) sc_law.nd (d_callO (ok__law_hand T Z I) hr (l_cons (d_var (pv 0)) l_nil))) (fun p c cdv A outer s H E hr => (s_cons (s_set (i := 2) sc_law.nd (d_lst (l_cons d_str (l_cons d_str (l_cons d_int (l_cons (d_un un_neg negD_ok d_int) (l_cons d_int (l_cons d_non (l_cons d_bl (l_cons (d_tup (l_cons d_str (l_cons d_int l_nil))) (l_cons (d_tup (l_cons d_int (l_cons d_int (l_cons d_int l_nil)))) (l_cons (d_lst (l_cons d_int (l_cons (d_lst (l_cons d_int l_nil)) l_nil))) (l_cons (d_disp (pd_cons d_int pd_nil) (by simp)) (l_cons (d_tup l_nil) (l_cons (d_op op_pow powD_ok d_int d_int) (l_cons (d_callO (ok__law_deep T Z I) hr (l_cons d_int l_nil) (hl := (len_cons len_nil))) l_nil)))))))))))))))) (s_cons (s_setLc (i := 3) rfl sc_law.nd rfl rfl (sw_true rfl rfl rfl (by decide +kernel)) (i_rng1 (u_range T) (l_cons d_int l_nil)) (blkOk_by (own := [("_law_number", 8)]) (by kernel_rfl)) (fun _ _ _ _ _ => (pg_name (i := 8) sc_law.nd rfl (by first | exact Or.inl rfl | exact Or.inr rfl))) (g_name 8) (fun _ _ _ _ _ => dts_nil) (fun _ _ _ _ _ => (d_callO (ok__law_some T Z I) hr (l_cons (d_var (pv 1)) (l_cons (d_var (pv 2)) l_nil)) (hl := (len_cons (len_cons len_nil)))))) (s_cons (s_own (i := 4) sc_law.nd (l_cons (d_err (T.err e_BadText (List.Mem.head _)).1 Z (T.tx.glo _ (Mq (Mq (Mq (Mq (Mq (Mq (Mq (Mq (Mq (Mq (Mq (Mq (Mq (Mq (Mq (Mq (Mq (Mq (Mq (Mq (Mq (Mq (Mq (Mq (Mq (Mq (List.Mem.head _)))))))))))))))))))))))))))) hr (d_ix ix_seq ixD_ok (d_var (pv 3)) d_int)) (l_cons (d_err (T.err e_BadEntry (Mq (List.Mem.head _))).1 Z (T.tx.glo _ (Mq (Mq (Mq (Mq (Mq (Mq (Mq (Mq (Mq (Mq (Mq (Mq (Mq (Mq (Mq (Mq (Mq (Mq (Mq (Mq (Mq (Mq (Mq (Mq (Mq (Mq (Mq (List.Mem.head _))))))))))))))))))))))))))))) hr (d_ix ix_seq ixD_ok (d_var (pv 3)) d_int)) (l_cons (d_err (T.err e_BadBook (Mq (Mq (List.Mem.head _)))).1 Z (T.tx.glo _ (Mq (Mq (Mq (Mq (Mq (Mq (Mq (Mq (Mq (Mq (Mq (Mq (Mq (Mq (Mq (Mq (Mq (Mq (Mq (Mq (Mq (Mq (Mq (Mq (Mq (Mq (Mq (Mq (List.Mem.head _)))))))))))))))))))))))))))))) hr (d_ix ix_seq ixD_ok (d_var (pv 3)) d_int)) (l_cons (d_err (T.err e_BadLine (Mq (Mq (Mq (List.Mem.head _))))).1 Z (T.tx.glo _ (Mq (Mq (Mq (Mq (Mq (Mq (Mq (Mq (Mq (Mq (Mq (Mq (Mq (Mq (Mq (Mq (Mq (Mq (Mq (Mq (Mq (Mq (Mq (Mq (Mq (Mq (Mq (Mq (Mq (List.Mem.head _))))))))))))))))))))))))))))))) hr (d_ix ix_seq ixD_ok (d_var (pv 3)) d_int)) (l_cons (d_err (T.err e_BadQuestion (Mq (Mq (Mq (Mq (List.Mem.head _)))))).1 Z (T.tx.glo _ (Mq (Mq (Mq (Mq (Mq (Mq (Mq (Mq (Mq (Mq (Mq (Mq (Mq (Mq (Mq (Mq (Mq (Mq (Mq (Mq (Mq (Mq (Mq (Mq (Mq (Mq (Mq (Mq (Mq (Mq (List.Mem.head _)))))))))))))))))))))))))))))))) hr (d_ix ix_seq ixD_ok (d_var (pv 3)) d_int)) l_nil)))))) (s_frz 4 (s_cons (s_ownP (i := 4) sc_law.nd (d_var (pv 4)) (d_lst (l_cons (d_err (T.err e_BadTask (Mq (Mq (Mq (Mq (Mq (List.Mem.head _))))))).1 Z (T.tx.glo _ (Mq (Mq (Mq (Mq (Mq (Mq (Mq (Mq (Mq (Mq (Mq (Mq (Mq (Mq (Mq (Mq (Mq (Mq (Mq (Mq (Mq (Mq (Mq (Mq (Mq (Mq (Mq (Mq (Mq (Mq (Mq (List.Mem.head _))))))))))))))))))))))))))))))))) hr (d_ix ix_seq ixD_ok (d_var (pv 3)) d_int)) (l_cons (d_err (T.err e_BadStep (Mq (Mq (Mq (Mq (Mq (Mq (List.Mem.head _)))))))).1 Z (T.tx.glo _ (Mq (Mq (Mq (Mq (Mq (Mq (Mq (Mq (Mq (Mq (Mq (Mq (Mq (Mq (Mq (Mq (Mq (Mq (Mq (Mq (Mq (Mq (Mq (Mq (Mq (Mq (Mq (Mq (Mq (Mq (Mq (Mq (List.Mem.head _)))))))))))))))))))))))))))))))))) hr (d_ix ix_seq ixD_ok (d_var (pv 3)) d_int)) (l_cons (d_err (T.err e_TooMany (Mq (Mq (Mq (Mq (Mq (Mq (Mq (List.Mem.head _))))))))).1 Z (T.tx.glo _ (Mq (Mq (Mq (Mq (Mq (Mq (Mq (Mq (Mq (Mq (Mq (Mq (Mq (Mq (Mq (Mq (Mq (Mq (Mq (Mq (Mq (Mq (Mq (Mq (Mq (Mq (Mq (Mq (Mq (Mq (Mq (Mq (Mq (List.Mem.head _))))))))))))))))))))))))))))))))))) hr (d_ix ix_seq ixD_ok (d_var (pv 3)) d_int)) (l_cons (d_err (T.err e_NotFitting (Mq (Mq (Mq (Mq (Mq (Mq (Mq (Mq (List.Mem.head _)))))))))).1 Z (T.tx.glo _ (Mq (Mq (Mq (Mq (Mq (Mq (Mq (Mq (Mq (Mq (Mq (Mq (Mq (Mq (Mq (Mq (Mq (Mq (Mq (Mq (Mq (Mq (Mq (Mq (Mq (Mq (Mq (Mq (Mq (Mq (Mq (Mq (Mq (Mq (List.Mem.head _)))))))))))))))))))))))))))))))))))) hr (d_ix ix_seq ixD_ok (d_var (pv 3)) d_int)) (l_cons (d_err (T.err e_NotGiven (Mq (Mq (Mq (Mq (Mq (Mq (Mq (Mq (Mq (List.Mem.head _))))))))))).1 Z (T.tx.glo _ (Mq (Mq (Mq (Mq (Mq (Mq (Mq (Mq (Mq (Mq (Mq (Mq (Mq (Mq (Mq (Mq (Mq (Mq (Mq (Mq (Mq (Mq (Mq (Mq (Mq (Mq (Mq (Mq (Mq (Mq (Mq (Mq (Mq (Mq (Mq (List.Mem.head _))))))))))))))))))))))))))))))))))))) hr (d_ix ix_seq ixD_ok (d_var (pv 3)) d_int)) l_nil))))))) (s_frz 4 (s_cons (s_ownP (i := 4) sc_law.nd (d_var (pv 4)) (d_lst (l_cons (d_err (T.err e_NotFirst (Mq (Mq (Mq (Mq (Mq (Mq (Mq (Mq (Mq (Mq (List.Mem.head _)))))))))))).1 Z (T.tx.glo _ (Mq (Mq (Mq (Mq (Mq (Mq (Mq (Mq (Mq (Mq (Mq (Mq (Mq (Mq (Mq (Mq (Mq (Mq (Mq (Mq (Mq (Mq (Mq (Mq (Mq (Mq (Mq (Mq (Mq (Mq (Mq (Mq (Mq (Mq (Mq (Mq (List.Mem.head _)))))))))))))))))))))))))))))))))))))) hr (d_ix ix_seq ixD_ok (d_var (pv 3)) d_int)) (l_cons (d_err (T.err e_NotFetched (Mq (Mq (Mq (Mq (Mq (Mq (Mq (Mq (Mq (Mq (Mq (List.Mem.head _))))))))))))).1 Z (T.tx.glo _ (Mq (Mq (Mq (Mq (Mq (Mq (Mq (Mq (Mq (Mq (Mq (Mq (Mq (Mq (Mq (Mq (Mq (Mq (Mq (Mq (Mq (Mq (Mq (Mq (Mq (Mq (Mq (Mq (Mq (Mq (Mq (Mq (Mq (Mq (Mq (Mq (Mq (Mq (Mq (Mq (Mq (Mq (Mq (Mq (Mq (Mq (Mq (Mq (Mq (Mq (Mq (Mq (Mq (Mq (Mq (Mq (Mq (Mq (Mq (Mq (Mq (List.Mem.head _))))))))))))))))))))))))))))))))))))))))))))))))))))))))))))))) hr (d_ix ix_seq ixD_ok (d_var (pv 3)) d_int)) (l_cons (d_err (T.err e_NoBuild (Mq (Mq (Mq (Mq (Mq (Mq (Mq (Mq (Mq (Mq (Mq (Mq (List.Mem.head _)))))))))))))).1 Z (T.tx.glo _ (Mq (Mq (Mq (Mq (Mq (Mq (Mq (Mq (Mq (Mq (Mq (Mq (Mq (Mq (Mq (Mq (Mq (Mq (Mq (Mq (Mq (Mq (Mq (Mq (Mq (Mq (Mq (Mq (Mq (Mq (Mq (Mq (Mq (Mq (Mq (Mq (Mq (Mq (Mq (Mq (Mq (Mq (Mq (Mq (Mq (Mq (Mq (Mq (Mq (Mq (Mq (Mq (Mq (Mq (Mq (Mq (Mq (Mq (Mq (Mq (Mq (Mq (List.Mem.head _)))))))))))))))))))))))))))))))))))))))))))))))))))))))))))))))) hr (d_ix ix_seq ixD_ok (d_var (pv 3)) d_int)) (l_cons (d_err (T.err e_Ringed (Mq (Mq (Mq (Mq (Mq (Mq (Mq (Mq (Mq (Mq (Mq (Mq (Mq (List.Mem.head _))))))))))))))).1 Z (T.tx.glo _ (Mq (Mq (Mq (Mq (Mq (Mq (Mq (Mq (Mq (Mq (Mq (Mq (Mq (Mq (Mq (Mq (Mq (Mq (Mq (Mq (Mq (Mq (Mq (Mq (Mq (Mq (Mq (Mq (Mq (Mq (Mq (Mq (Mq (Mq (Mq (Mq (Mq (Mq (Mq (Mq (Mq (Mq (Mq (Mq (Mq (Mq (Mq (Mq (Mq (Mq (Mq (Mq (Mq (Mq (Mq (Mq (Mq (Mq (Mq (Mq (Mq (Mq (Mq (List.Mem.head _))))))))))))))))))))))))))))))))))))))))))))))))))))))))))))))))) hr (d_ix ix_seq ixD_ok (d_var (pv 3)) d_int)) (l_cons (d_err0 (er0_NoFeatures T) (T.tx.glo _ (Mq (Mq (Mq (Mq (Mq (Mq (Mq (Mq (Mq (Mq (Mq (Mq (Mq (Mq (Mq (Mq (Mq (Mq (Mq (Mq (Mq (Mq (Mq (Mq (Mq (Mq (Mq (Mq (Mq (Mq (Mq (Mq (Mq (Mq (Mq (Mq (Mq (List.Mem.head _)))))))))))))))))))))))))))))))))))))))) l_nil))))))) (s_frz 4 (s_cons (s_ownP (i := 4) sc_law.nd (d_var (pv 4)) (d_lst (l_cons (d_err0 (er0_NoEntry T) (T.tx.glo _ (Mq (Mq (Mq (Mq (Mq (Mq (Mq (Mq (Mq (Mq (Mq (Mq (Mq (Mq (Mq (Mq (Mq (Mq (Mq (Mq (Mq (Mq (Mq (Mq (Mq (Mq (Mq (Mq (Mq (Mq (Mq (Mq (Mq (Mq (Mq (Mq (Mq (Mq (List.Mem.head _))))))))))))))))))))))))))))))))))))))))) (l_cons (d_err0 (er0_NotRight T) (T.tx.glo _ (Mq (Mq (Mq (Mq (Mq (Mq (Mq (Mq (Mq (Mq (Mq (Mq (Mq (Mq (Mq (Mq (Mq (Mq (Mq (Mq (Mq (Mq (Mq (Mq (Mq (Mq (Mq (Mq (Mq (Mq (Mq (Mq (Mq (Mq (Mq (Mq (Mq (Mq (Mq (List.Mem.head _)))))))))))))))))))))))))))))))))))))))))) (l_cons (d_err0 (er0_NotThere T) (T.tx.glo _ (Mq (Mq (Mq (Mq (Mq (Mq (Mq (Mq (Mq (Mq (Mq (Mq (Mq (Mq (Mq (Mq (Mq (Mq (Mq (Mq (Mq (Mq (Mq (Mq (Mq (Mq (Mq (Mq (Mq (Mq (Mq (Mq (Mq (Mq (Mq (Mq (Mq (Mq (Mq (Mq (List.Mem.head _))))))))))))))))))))))))))))))))))))))))))) (l_cons (d_err0 (er0_NotClosed T) (T.tx.glo _ (Mq (Mq (Mq (Mq (Mq (Mq (Mq (Mq (Mq (Mq (Mq (Mq (Mq (Mq (Mq (Mq (Mq (Mq (Mq (Mq (Mq (Mq (Mq (Mq (Mq (Mq (Mq (Mq (Mq (Mq (Mq (Mq (Mq (Mq (Mq (Mq (Mq (Mq (Mq (Mq (Mq (List.Mem.head _)))))))))))))))))))))))))))))))))))))))))))) (l_cons (d_err0 (er0_NoSource T) (T.tx.glo _ (Mq (Mq (Mq (Mq (Mq (Mq (Mq (Mq (Mq (Mq (Mq (Mq (Mq (Mq (Mq (Mq (Mq (Mq (Mq (Mq (Mq (Mq (Mq (Mq (Mq (Mq (Mq (Mq (Mq (Mq (Mq (Mq (Mq (Mq (Mq (Mq (Mq (Mq (Mq (Mq (Mq (Mq (List.Mem.head _))))))))))))))))))))))))))))))))))))))))))))) (l_cons (d_err0 (er0_NoStand T) (T.tx.glo _ (Mq (Mq (Mq (Mq (Mq (Mq (Mq (Mq (Mq (Mq (Mq (Mq (Mq (Mq (Mq (Mq (Mq (Mq (Mq (Mq (Mq (Mq (Mq (Mq (Mq (Mq (Mq (Mq (Mq (Mq (Mq (Mq (Mq (Mq (Mq (Mq (Mq (Mq (Mq (Mq (Mq (Mq (Mq (List.Mem.head _)))))))))))))))))))))))))))))))))))))))))))))) (l_cons (d_err0 (er0_NoGivens T) (T.tx.glo _ (Mq (Mq (Mq (Mq (Mq (Mq (Mq (Mq (Mq (Mq (Mq (Mq (Mq (Mq (Mq (Mq (Mq (Mq (Mq (Mq (Mq (Mq (Mq (Mq (Mq (Mq (Mq (Mq (Mq (Mq (Mq (Mq (Mq (Mq (Mq (Mq (Mq (Mq (Mq (Mq (Mq (Mq (Mq (Mq (List.Mem.head _))))))))))))))))))))))))))))))))))))))))))))))) (l_cons (d_err0 (er0_NoLiteral T) (T.tx.glo _ (Mq (Mq (Mq (Mq (Mq (Mq (Mq (Mq (Mq (Mq (Mq (Mq (Mq (Mq (Mq (Mq (Mq (Mq (Mq (Mq (Mq (Mq (Mq (Mq (Mq (Mq (Mq (Mq (Mq (Mq (Mq (Mq (Mq (Mq (Mq (Mq (Mq (Mq (Mq (Mq (Mq (Mq (Mq (Mq (Mq (List.Mem.head _)))))))))))))))))))))))))))))))))))))))))))))))) l_nil)))))))))) (s_frz 4 (s_cons (s_ownP (i := 4) sc_law.nd (d_var (pv 4)) (d_lst (l_cons (d_err0 (er0_NoPaper T) (T.tx.glo _ (Mq (Mq (Mq (Mq (Mq (Mq (Mq (Mq (Mq (Mq (Mq (Mq (Mq (Mq (Mq (Mq (Mq (Mq (Mq (Mq (Mq (Mq (Mq (Mq (Mq (Mq (Mq (Mq (Mq (Mq (Mq (Mq (Mq (Mq (Mq (Mq (Mq (Mq (Mq (Mq (Mq (Mq (Mq (Mq (Mq (Mq (List.Mem.head _))))))))))))))))))))))))))))))))))))))))))))))))) (l_cons (d_err0 (er0_NoSources T) (T.tx.glo _ (Mq (Mq (Mq (Mq (Mq (Mq (Mq (Mq (Mq (Mq (Mq (Mq (Mq (Mq (Mq (Mq (Mq (Mq (Mq (Mq (Mq (Mq (Mq (Mq (Mq (Mq (Mq (Mq (Mq (Mq (Mq (Mq (Mq (Mq (Mq (Mq (Mq (Mq (Mq (Mq (Mq (Mq (Mq (Mq (Mq (Mq (Mq (List.Mem.head _)))))))))))))))))))))))))))))))))))))))))))))))))) (l_cons (d_err0 (er0_NoName T) (T.tx.glo _ (Mq (Mq (Mq (Mq (Mq (Mq (Mq (Mq (Mq (Mq (Mq (Mq (Mq (Mq (Mq (Mq (Mq (Mq (Mq (Mq (Mq (Mq (Mq (Mq (Mq (Mq (Mq (Mq (Mq (Mq (Mq (Mq (Mq (Mq (Mq (Mq (Mq (Mq (Mq (Mq (Mq (Mq (Mq (Mq (Mq (Mq (Mq (Mq (List.Mem.head _))))))))))))))))))))))))))))))))))))))))))))))))))) (l_cons (d_err0 (er0_NoNumber T) (T.tx.glo _ (Mq (Mq (Mq (Mq (Mq (Mq (Mq (Mq (Mq (Mq (Mq (Mq (Mq (Mq (Mq (Mq (Mq (Mq (Mq (Mq (Mq (Mq (Mq (Mq (Mq (Mq (Mq (Mq (Mq (Mq (Mq (Mq (Mq (Mq (Mq (Mq (Mq (Mq (Mq (Mq (Mq (Mq (Mq (Mq (Mq (Mq (Mq (Mq (Mq (List.Mem.head _)))))))))))))))))))))))))))))))))))))))))))))))))))) (l_cons (d_err0 (er0_NotEntry T) (T.tx.glo _ (Mq (Mq (Mq (Mq (Mq (Mq (Mq (Mq (Mq (Mq (Mq (Mq (Mq (Mq (Mq (Mq (Mq (Mq (Mq (Mq (Mq (Mq (Mq (Mq (Mq (Mq (Mq (Mq (Mq (Mq (Mq (Mq (Mq (Mq (Mq (Mq (Mq (Mq (Mq (Mq (Mq (Mq (Mq (Mq (Mq (Mq (Mq (Mq (Mq (Mq (List.Mem.head _))))))))))))))))))))))))))))))))))))))))))))))))))))) (l_cons (d_err0 (er0_NotQuestion T) (T.tx.glo _ (Mq (Mq (Mq (Mq (Mq (Mq (Mq (Mq (Mq (Mq (Mq (Mq (Mq (Mq (Mq (Mq (Mq (Mq (Mq (Mq (Mq (Mq (Mq (Mq (Mq (Mq (Mq (Mq (Mq (Mq (Mq (Mq (Mq (Mq (Mq (Mq (Mq (Mq (Mq (Mq (Mq (Mq (Mq (Mq (Mq (Mq (Mq (Mq (Mq (Mq (Mq (List.Mem.head _)))))))))))))))))))))))))))))))))))))))))))))))))))))) (l_cons (d_err0 (er0_NothingDone T) (T.tx.glo _ (Mq (Mq (Mq (Mq (Mq (Mq (Mq (Mq (Mq (Mq (Mq (Mq (Mq (Mq (Mq (Mq (Mq (Mq (Mq (Mq (Mq (Mq (Mq (Mq (Mq (Mq (Mq (Mq (Mq (Mq (Mq (Mq (Mq (Mq (Mq (Mq (Mq (Mq (Mq (Mq (Mq (Mq (Mq (Mq (Mq (Mq (Mq (Mq (Mq (Mq (Mq (Mq (List.Mem.head _))))))))))))))))))))))))))))))))))))))))))))))))))))))) (l_cons (d_err0 (er0_NoText T) (T.tx.glo _ (Mq (Mq (Mq (Mq (Mq (Mq (Mq (Mq (Mq (Mq (Mq (Mq (Mq (Mq (Mq (Mq (Mq (Mq (Mq (Mq (Mq (Mq (Mq (Mq (Mq (Mq (Mq (Mq (Mq (Mq (Mq (Mq (Mq (Mq (Mq (Mq (Mq (Mq (Mq (Mq (Mq (Mq (Mq (Mq (Mq (Mq (Mq (Mq (Mq (Mq (Mq (Mq (Mq (List.Mem.head _)))))))))))))))))))))))))))))))))))))))))))))))))))))))) l_nil)))))))))) (s_frz 4 (s_cons (s_ownP (i := 4) sc_law.nd (d_var (pv 4)) (d_lst (l_cons (d_err0 (er0_NoStart T) (T.tx.glo _ (Mq (Mq (Mq (Mq (Mq (Mq (Mq (Mq (Mq (Mq (Mq (Mq (Mq (Mq (Mq (Mq (Mq (Mq (Mq (Mq (Mq (Mq (Mq (Mq (Mq (Mq (Mq (Mq (Mq (Mq (Mq (Mq (Mq (Mq (Mq (Mq (Mq (Mq (Mq (Mq (Mq (Mq (Mq (Mq (Mq (Mq (Mq (Mq (Mq (Mq (Mq (Mq (Mq (Mq (List.Mem.head _))))))))))))))))))))))))))))))))))))))))))))))))))))))))) (l_cons (d_err0 (er0_NoStop T) (T.tx.glo _ (Mq (Mq (Mq (Mq (Mq (Mq (Mq (Mq (Mq (Mq (Mq (Mq (Mq (Mq (Mq (Mq (Mq (Mq (Mq (Mq (Mq (Mq (Mq (Mq (Mq (Mq (Mq (Mq (Mq (Mq (Mq (Mq (Mq (Mq (Mq (Mq (Mq (Mq (Mq (Mq (Mq (Mq (Mq (Mq (Mq (Mq (Mq (Mq (Mq (Mq (Mq (Mq (Mq (Mq (Mq (List.Mem.head _)))))))))))))))))))))))))))))))))))))))))))))))))))))))))) (l_cons (d_err0 (er0_NotSafe T) (T.tx.glo _ (Mq (Mq (Mq (Mq (Mq (Mq (Mq (Mq (Mq (Mq (Mq (Mq (Mq (Mq (Mq (Mq (Mq (Mq (Mq (Mq (Mq (Mq (Mq (Mq (Mq (Mq (Mq (Mq (Mq (Mq (Mq (Mq (Mq (Mq (Mq (Mq (Mq (Mq (Mq (Mq (Mq (Mq (Mq (Mq (Mq (Mq (Mq (Mq (Mq (Mq (Mq (Mq (Mq (Mq (Mq (Mq (List.Mem.head _))))))))))))))))))))))))))))))))))))))))))))))))))))))))))) (l_cons (d_err0 (er0_NoDeed T) (T.tx.glo _ (Mq (Mq (Mq (Mq (Mq (Mq (Mq (Mq (Mq (Mq (Mq (Mq (Mq (Mq (Mq (Mq (Mq (Mq (Mq (Mq (Mq (Mq (Mq (Mq (Mq (Mq (Mq (Mq (Mq (Mq (Mq (Mq (Mq (Mq (Mq (Mq (Mq (Mq (Mq (Mq (Mq (Mq (Mq (Mq (Mq (Mq (Mq (Mq (Mq (Mq (Mq (Mq (Mq (Mq (Mq (Mq (Mq (List.Mem.head _)))))))))))))))))))))))))))))))))))))))))))))))))))))))))))) (l_cons (d_err0 (er0_NoContents T) (T.tx.glo _ (Mq (Mq (Mq (Mq (Mq (Mq (Mq (Mq (Mq (Mq (Mq (Mq (Mq (Mq (Mq (Mq (Mq (Mq (Mq (Mq (Mq (Mq (Mq (Mq (Mq (Mq (Mq (Mq (Mq (Mq (Mq (Mq (Mq (Mq (Mq (Mq (Mq (Mq (Mq (Mq (Mq (Mq (Mq (Mq (Mq (Mq (Mq (Mq (Mq (Mq (Mq (Mq (Mq (Mq (Mq (Mq (Mq (Mq (List.Mem.head _))))))))))))))))))))))))))))))))))))))))))))))))))))))))))))) (l_cons (d_err0 (er0_NoMirrors T) (T.tx.glo _ (Mq (Mq (Mq (Mq (Mq (Mq (Mq (Mq (Mq (Mq (Mq (Mq (Mq (Mq (Mq (Mq (Mq (Mq (Mq (Mq (Mq (Mq (Mq (Mq (Mq (Mq (Mq (Mq (Mq (Mq (Mq (Mq (Mq (Mq (Mq (Mq (Mq (Mq (Mq (Mq (Mq (Mq (Mq (Mq (Mq (Mq (Mq (Mq (Mq (Mq (Mq (Mq (Mq (Mq (Mq (Mq (Mq (Mq (Mq (List.Mem.head _)))))))))))))))))))))))))))))))))))))))))))))))))))))))))))))) (l_cons (d_err0 (er0_NoManifest T) (T.tx.glo _ (Mq (Mq (Mq (Mq (Mq (Mq (Mq (Mq (Mq (Mq (Mq (Mq (Mq (Mq (Mq (Mq (Mq (Mq (Mq (Mq (Mq (Mq (Mq (Mq (Mq (Mq (Mq (Mq (Mq (Mq (Mq (Mq (Mq (Mq (Mq (Mq (Mq (Mq (Mq (Mq (Mq (Mq (Mq (Mq (Mq (Mq (Mq (Mq (Mq (Mq (Mq (Mq (Mq (Mq (Mq (Mq (Mq (Mq (Mq (Mq (List.Mem.head _))))))))))))))))))))))))))))))))))))))))))))))))))))))))))))))) (l_cons (d_err0 (er0_NoMachine T) (T.tx.glo _ (Mq (Mq (Mq (Mq (Mq (Mq (Mq (Mq (Mq (Mq (Mq (Mq (Mq (Mq (Mq (Mq (Mq (Mq (Mq (Mq (Mq (Mq (Mq (Mq (Mq (Mq (Mq (Mq (Mq (Mq (Mq (Mq (Mq (Mq (Mq (Mq (Mq (Mq (Mq (Mq (Mq (Mq (Mq (Mq (Mq (Mq (Mq (Mq (Mq (Mq (Mq (Mq (Mq (Mq (Mq (Mq (Mq (Mq (Mq (Mq (Mq (Mq (Mq (Mq (List.Mem.head _))))))))))))))))))))))))))))))))))))))))))))))))))))))))))))))))))) l_nil)))))))))) (s_cons (s_app (pv 4) (d_err0 (er0_NoRollout T) (T.tx.glo _ (Mq (Mq (Mq (Mq (Mq (Mq (Mq (Mq (Mq (Mq (Mq (Mq (Mq (Mq (Mq (Mq (Mq (Mq (Mq (Mq (Mq (Mq (Mq (Mq (Mq (Mq (Mq (Mq (Mq (Mq (Mq (Mq (Mq (Mq (Mq (Mq (Mq (Mq (Mq (Mq (Mq (Mq (Mq (Mq (Mq (Mq (Mq (Mq (Mq (Mq (Mq (Mq (Mq (Mq (Mq (Mq (Mq (Mq (Mq (Mq (Mq (Mq (Mq (Mq (Mq (List.Mem.head _))))))))))))))))))))))))))))))))))))))))))))))))))))))))))))))))))))) (s_frz 4 (s_cons (s_for PassesOwn.never rfl (i_enumL (u_enumerate T) (l_cons (d_var (pv 4)) l_nil)) (pg_tup (n := 2) rfl (pgs_cons (pg_name (i := 8) sc_law.nd rfl (by first | exact Or.inl rfl | exact Or.inr rfl)) (pgs_cons (pg_name (i := 9) sc_law.nd rfl (by first | exact Or.inl rfl | exact Or.inr rfl)) pgs_nil))) (g_tup (g_cons (g_name 8) (g_cons (g_name 9) g_nil))) (s_one (s_if (dt_not (dt_val (d_callO (ok__law_right T Z I) hr (l_cons (d_var (pv 9)) (l_cons (d_var (pv 8)) (l_cons (d_if (dt_cmp (op_ltP hr.units) (relD_ok _) (d_var (pv 8)) d_int) (d_ix ix_seq ixD_ok (d_var (pv 3)) (d_var (pv 8))) d_non) l_nil))) (hl := (len_cons (len_cons (len_cons len_nil))))))) (s_one (s_ret d_bl)) s_nil))) (s_cons (s_set (i := 5) sc_law.nd (d_callO (ok__law_draw T Z I) hr (l_cons (d_var (pv 1)) (l_cons d_int l_nil)) (hl := (len_cons (len_cons len_nil))))) (s_cons (s_set (i := 6) sc_law.nd (d_lst (l_cons d_int (l_cons d_int (l_cons d_int (l_cons d_int l_nil)))))) (s_cons (s_set (i := 7) sc_law.nd (d_make (ok_Book T Z I) hr (l_cons (d_tup l_nil) l_nil) (hl := (len_cons len_nil)))) (s_one (s_ret (d_and (d_cmpI (DEq.eq (ok_Book__eq T Z I) hr) (d_fldErr (errs_fld T) (d_err (T.err e_BadEntry (Mq (List.Mem.head _))).1 Z (T.tx.glo _ (Mq (Mq (Mq (Mq (Mq (Mq (Mq (Mq (Mq (Mq (Mq (Mq (Mq (Mq (Mq (Mq (Mq (Mq (Mq (Mq (Mq (Mq (Mq (Mq (Mq (Mq (Mq (List.Mem.head _))))))))))))))))))))))))))))) hr (d_var (pv 7)))) (d_var (pv 7))) (d_one (d_callO (ok__law_is T Z I 42) hr (l_cons (d_lst (l_cons (d_callO (ok__law_raised T Z I) hr (l_cons (d_var (pv 5)) (l_cons (d_ix ix_seq ixD_ok (d_var (pv 3)) (d_ix ix_seq ixD_ok (d_var (pv 6)) (d_var (pv 5)))) l_nil)) (hl := (len_cons (len_cons len_nil)))) l_nil)) (l_cons (d_lst (l_cons (d_ix ix_seq ixD_ok (d_var (pv 3)) (d_ix ix_seq ixD_ok (d_var (pv 6)) (d_var (pv 5)))) l_nil)) l_nil)) (hl := (len_cons (len_cons len_nil))))))))))))))))))))))))))))
end
end
end K00

set_option Elab.async false
set_option linter.all false
set_option maxRecDepth 100000
set_option maxHeartbeats 0
namespace K00
open PySem PySem.Spec PyProof.Rows L2 Dl
open HandSHeadRun PySem.W PySem.Calls
abbrev R : PySem.W.OpenRow := PySem.W.OpenLaw.row PySem.Challenge.rw_lockwright_k00_errors_of_the_package
def fa : List He.Fa := faOf gs fr is ss ts ++ fxs
abbrev hk : PySem.W.Hook := hookS 5 fa fns ts "/claim/cut.py" errs exms kits kitb
def ob (s : PySem.W.SharedT) : AlZ := obsS 5 fa fns ts "/claim/cut.py" errs exms kits kitb (HandSHeadRun.getT s)
theorem ob_eq (s : PySem.W.SharedT) : ob s = hk.obs s.abs := obsS_eq (HandSHeadRun.getT_eq s)
def loose : List Str := ("LockError" : Str) :: ("BadText" : Str) :: ("BadEntry" : Str) :: ("BadBook" : Str) :: ("BadLine" : Str) :: ("BadQuestion" : Str) :: ("BadTask" : Str) :: ("BadStep" : Str) :: ("TooMany" : Str) :: ("NotFitting" : Str) :: ("NotGiven" : Str) :: ("NotFirst" : Str) :: ("NoFeatures" : Str) :: ("NoEntry" : Str) :: ("NotRight" : Str) :: ("NotThere" : Str) :: ("NotClosed" : Str) :: ("NoSource" : Str) :: ("NoStand" : Str) :: ("NoGivens" : Str) :: ("NoLiteral" : Str) :: ("NoPaper" : Str) :: ("NoSources" : Str) :: ("NoName" : Str) :: ("NoNumber" : Str) :: ("NotEntry" : Str) :: ("NotQuestion" : Str) :: ("NothingDone" : Str) :: ("NoText" : Str) :: ("NoStart" : Str) :: ("NoStop" : Str) :: ("NotSafe" : Str) :: ("NoDeed" : Str) :: ("NoContents" : Str) :: ("NoMirrors" : Str) :: ("NoManifest" : Str) :: ("NotFetched" : Str) :: ("NoBuild" : Str) :: ("Ringed" : Str) :: ("NoMachine" : Str) :: ("NoRollout" : Str) :: ("SMALL" : Str) :: ("MOST_SIGNS" : Str) :: ("is_integer" : Str) :: ("is_within" : Str) :: ("is_name" : Str) :: ("is_rising" : Str) :: ("is_lot_of_names" : Str) :: ("GREATEST" : Str) :: ("is_version" : Str) :: ("is_stretch" : Str) :: ("is_range" : Str) :: ("MOST_FEATURES" : Str) :: ("MOST_NEEDS" : Str) :: ("MOST_BARS" : Str) :: ("MOST_WANTED" : Str) :: ("MOST_ENTRIES" : Str) :: ("GREATEST_OF_ENTRY" : Str) :: ("are_features" : Str) :: ("is_need" : Str) :: ("is_bar" : Str) :: ("check_needs" : Str) :: ("check_bars" : Str) :: ("Entry" : Str) :: ("Book" : Str) :: ("key_of" : Str) :: ("_law_hand" : Str) :: ("_law_draw" : Str) :: ("_law_some" : Str) :: ("_law_is" : Str) :: ("_law_deep" : Str) :: ("_law_first_classes" : Str) :: ("_law_classes" : Str) :: ("_law_field" : Str) :: ("_law_raised" : Str) :: ("_law_right" : Str) :: []
theorem split3 {α β γ δ : Type} {o : Option α} {f : α → β} {g : α → γ} {k : α → δ} {a : β} {b : γ} {c : δ} (h1 : o.map f = some a) (h2 : o.map g = some b) (h3 : o.map k = some c) : o.map (fun s => (f s, g s, k s)) = some (a, b, c) := by
  cases o with
  | none => cases h1
  | some x =>
    cases h1
    cases h2
    cases h3
    rfl
noncomputable abbrev endR (w : World) (os : OsState) : Option PySem.W.SharedT := endF (stepQ (denQ tabQ) R.prog w) 30000 R.prog w os
abbrev qq : Program := PySem.W.view R.prog [81]
def p1 (K : PySem.W.Frag) : Bool := errs.all fun d => errB K "/claim/cut.py" d.x d.f
def p2 (K : PySem.W.Frag) : Bool := (kits.take 850).all fun q => decide (PySem.W.kitOne K (.ref (He.ga K q.1)) (.ref (He.ga K q.2.1)) = some q.2.2)
def p3 (K : PySem.W.Frag) : Bool := (kits.drop 850).all fun q => decide (PySem.W.kitOne K (.ref (He.ga K q.1)) (.ref (He.ga K q.2.1)) = some q.2.2)
def p4 (K : PySem.W.Frag) : Bool := (exms.all fun q => decide (PySem.W.exmOne K (.ref (He.ga K q.1)) (.ref (He.ga K q.2.1)) = some q.2.2)) && ((kitb.all fun q => decide (PySem.W.kitOne K (.ref (He.ga K q.1)) (.type q.2.1) = some q.2.2)) && ((kitb.all fun q => clB K (He.ga K q.1)) && ((kitb.all fun q => neB K q) && exms.all fun q => !noErr errs q.1 || er0B K (He.ga K q.1))))
theorem exB_of {K : PySem.W.Frag} (h1 : p1 K = true) (h2 : p2 K = true) (h3 : p3 K = true) (h4 : p4 K = true) : exB K "/claim/cut.py" errs exms kits kitb = true := by
  unfold p1 at h1
  unfold p2 at h2
  unfold p3 at h3
  unfold p4 at h4
  unfold exB
  have hk : (kits.all fun q => decide (PySem.W.kitOne K (.ref (He.ga K q.1)) (.ref (He.ga K q.2.1)) = some q.2.2)) = true := by
    rw [← List.take_append_drop 850 kits, List.all_append, h2, h3]
    rfl
  rw [Bool.and_eq_true] at h4
  rw [h1, hk, h4.1, h4.2]
  rfl
theorem combine {o : Option PySem.W.SharedT} {w : World} (h1 : o.map (fun s => p1 (frS 5 (HandSHeadRun.getT s))) = some true) (h2 : o.map (fun s => p2 (frS 5 (HandSHeadRun.getT s))) = some true) (h3 : o.map (fun s => p3 (frS 5 (HandSHeadRun.getT s))) = some true) (h4 : o.map (fun s => p4 (frS 5 (HandSHeadRun.getT s))) = some true)
    (h5 : o.map (fun s => (He.obsD fa fns (frS 5 (HandSHeadRun.getT s)), exOf ts (frS 5 (HandSHeadRun.getT s)))) = some (He.valD fns, true)) (h6 : o.map (fun s => errs.map fun d => fnE (frS 5 (HandSHeadRun.getT s)) d.x) = some (errs.map ErrD.val)) : o.map ob = some (hk.val w) := by
  cases o with
  | none => cases h1
  | some x =>
    rw [Option.map_some] at h1 h2 h3 h4 h5 h6 ⊢
    have e := exB_of (Option.some.inj h1) (Option.some.inj h2) (Option.some.inj h3) (Option.some.inj h4)
    have e5 := Option.some.inj h5
    have e6 := Option.some.inj h6
    have eo : ob x = ((He.obsD fa fns (frS 5 (HandSHeadRun.getT x)), exOf ts (frS 5 (HandSHeadRun.getT x))), exB (frS 5 (HandSHeadRun.getT x)) "/claim/cut.py" errs exms kits kitb, errs.map fun d => fnE (frS 5 (HandSHeadRun.getT x)) d.x) := rfl
    have ev : hk.val w = (((He.valD fns, true), true, errs.map ErrD.val) : AlZ) := rfl
    rw [eo, ev, e, e5, e6]
    rfl
theorem run1 (w : World) (os : OsState) : (endR w os).map (fun s => looksF R.prog (boot_heap w.params) s.abs) = some true := by kernel_rfl
theorem run2 (w : World) (os : OsState) : (endR w os).map (fun s => seenQ qq loose (importedModules R.prog.main.body) (fun s => xlAt qq [] s && recOk R.toRowW.records s) s.abs) = some (openGood qq loose) := by kernel_rfl
theorem run3_1 (w : World) (os : OsState) : (endR w os).map (fun s => p1 (frS 5 (HandSHeadRun.getT s))) = some true := by kernel_rfl
theorem run3_2 (w : World) (os : OsState) : (endR w os).map (fun s => p2 (frS 5 (HandSHeadRun.getT s))) = some true := by kernel_rfl
theorem run3_3 (w : World) (os : OsState) : (endR w os).map (fun s => p3 (frS 5 (HandSHeadRun.getT s))) = some true := by kernel_rfl
theorem run3_4 (w : World) (os : OsState) : (endR w os).map (fun s => p4 (frS 5 (HandSHeadRun.getT s))) = some true := by kernel_rfl
theorem run3_5 (w : World) (os : OsState) : (endR w os).map (fun s => (He.obsD fa fns (frS 5 (HandSHeadRun.getT s)), exOf ts (frS 5 (HandSHeadRun.getT s)))) = some (He.valD fns, true) := by kernel_rfl
theorem run3_6 (w : World) (os : OsState) : (endR w os).map (fun s => errs.map fun d => fnE (frS 5 (HandSHeadRun.getT s)) d.x) = some (errs.map ErrD.val) := by kernel_rfl
theorem run3 (w : World) (os : OsState) : (endR w os).map ob = some (hk.val w) := combine (run3_1 w os) (run3_2 w os) (run3_3 w os) (run3_4 w os) (run3_5 w os) (run3_6 w os)
theorem run (w : World) : HandSHeadRun.RunEq R (PySem.W.view R.prog [81]) hk ob 30000 loose w := fun os => split3 (run1 w os) (run2 w os) (run3 w os)
end K00

set_option Elab.async false
set_option linter.all false
set_option maxRecDepth 100000
set_option maxHeartbeats 4000000
/-! M1: what mirrors come to. -/
namespace Dl
open PySem
open L2
structure OW {α : Type} (x : Option α) (Q : α → Prop) : Prop where
  ex : ∃ a, x = some a ∧ Q a
section
variable {α β : Type} {Q : α → Prop} {R : β → Prop} {x : Option α}
theorem OW_some {a : α} : OW (some a) Q = Q a := propext ⟨fun ⟨b, e, q⟩ => by cases e; exact q, fun q => ⟨a, rfl, q⟩⟩
theorem OW_none : OW (none : Option α) Q = False := propext ⟨fun ⟨b, e, q⟩ => (by cases e), fun (q : False) => False.elim q⟩
theorem OW_bind {f : α → Option β} : OW (x.bind f) R = OW x fun a => OW (f a) R := by
  cases x with
  | none => exact OW_none.trans OW_none.symm
  | some a => exact (OW_some (Q := fun a => OW (f a) R)).symm
theorem OW_map {f : α → β} : OW (x.map f) R = OW x fun a => R (f a) := by
  cases x with
  | none => exact OW_none.trans OW_none.symm
  | some a => exact OW_some.trans (OW_some (Q := fun a => R (f a))).symm
theorem OW_if {c : Prop} [Decidable c] {y : Option α} : OW (if c then x else y) Q = (if c then OW x Q else OW y Q) := by
  split <;> rfl
theorem OW.get (h : OW x Q) : ∃ a, x = some a ∧ Q a := h.ex
theorem OW.of {a : α} (h : x = some a) (q : Q a) : OW x Q := ⟨a, h, q⟩
theorem OW.mono {Q' : α → Prop} (h : OW x Q) (g : ∀ a, Q a → Q' a) : OW x Q' := by
  obtain ⟨a, e, q⟩ := h.ex
  exact ⟨a, e, g a q⟩
end
theorem eq_of_OW {α : Type} {x : Option α} {a : α} (h : OW x fun p => p = a) : x = some a := by
  obtain ⟨b, e, k⟩ := h.get
  rw [e, k]
theorem OW_eq {α : Type} {x : Option α} {a : α} {Q : α → Prop} (h : x = some a) : OW x Q = Q a := by rw [h, OW_some]
/-! how a def ends -/
def outD {S : Type} : OutS S → Option (D × S)
  | .nx _ s' => some (.non, s')
  | .rt d s' => some (d, s')
  | _ => none
theorem mDef_eq {S : Type} {n : Nat} {m : MS S} {ds : List D} {s : S} : mDef n m ds s = (m (startE n ds) s).bind outD := by
  unfold mDef
  congr 1
section
variable {S : Type} {env : DE} {s : S} {d : D} {b : MS S}
theorem outD_nx : outD (OutS.nx env s) = some (D.non, s) := rfl
theorem outD_rt : outD (OutS.rt d s) = some (d, s) := rfl
theorem thenS_nx : thenS (OutS.nx env s) b = b env s := rfl
theorem thenS_rt : thenS (OutS.rt d s) b = some (OutS.rt d s) := rfl
theorem thenS_bk : thenS (OutS.bk env s) b = some (OutS.bk env s) := rfl
theorem thenS_ct : thenS (OutS.ct env s) b = some (OutS.ct env s) := rfl
theorem rt_D {d' : D} {s' : S} : (OutS.rt d s = OutS.rt d' s') = (d = d' ∧ s = s') := by rw [OutS.rt.injEq]
end
theorem tupItems_tup {ds : List D} : tupItems (.tup ds) = some ds := rfl
theorem lstItems_lst {ds : List D} : lstItems (.lst ds) = some ds := rfl
theorem bl_bl {b : Bool} : blD (.bl b) = some b := rfl
theorem int_int {b : Int} : intOf (.int b) = some b := rfl
section
variable {h : Hand} {i : Nat} {k z : Int} {e : ME Hand} {env : DE}
theorem mHx_eq : mHx i k env h = if isH env i = true then (hget h k).map fun z => (.int z, h) else none := rfl
theorem mHlen_eq : mHlen i env h = if isH env i = true then some (.int h.cells.length, h) else none := rfl
theorem mHcell_eq : mHcell i e env h = if isH env i = true then (e env h).bind fun p => (intOf p.1).bind fun z => (atI p.2.cells z).map fun n => (.int n, p.2) else none := rfl
theorem sHput_eq : sHput i k e env h = if isH env i = true then (e env h).bind fun p => (intOf p.1).bind fun z => (hset p.2 k z).map fun h' => .nx env h' else none := rfl
theorem isH_hnd {l : DE} : isH (some (.dat .hnd) :: l) 0 = true := rfl
theorem hget1 : hget h 1 = some ((h.pos : Nat) : Int) := rfl
theorem hget2 : hget h 2 = some h.great := rfl
theorem hget3 : hget h 3 = some h.seed := rfl
theorem hget4 : hget h 4 = some h.turn := rfl
theorem hset1 : hset h 1 z = if 0 ≤ z then some { h with pos := z.toNat } else none := rfl
theorem hset2 : hset h 2 z = some { h with great := z } := rfl
theorem hset3 : hset h 3 z = some { h with seed := z } := rfl
theorem hset4 : hset h 4 z = some { h with turn := z } := rfl
end
section
variable {i j : Int} {xs ys : List D}
theorem add_int : addD (.int i) (.int j) = some (.int (i + j)) := rfl
theorem add_tup : addD (.tup xs) (.tup ys) = if xs.length + ys.length ≤ sizeLine then some (.tup (xs ++ ys)) else none := rfl
theorem add_lst : addD (.lst xs) (.lst ys) = if xs.length + ys.length ≤ sizeLine then some (.lst (xs ++ ys)) else none := rfl
theorem sub_int : subD (.int i) (.int j) = some (.int (i - j)) := rfl
theorem mul_int : mulD (.int i) (.int j) = (mulI i j).map D.int := rfl
theorem div_int : divD (.int i) (.int j) = (divI i j).map D.int := rfl
theorem mod_int : modD (.int i) (.int j) = (modI i j).map D.int := rfl
theorem pow_int : powD (.int i) (.int j) = (powI i j).map D.int := rfl
theorem abs_int : absD [.int i] = some (.int (if i < 0 then -i else i)) := rfl
theorem intC_int : intCD [.int i] = some (.int i) := rfl
theorem len_tup : lenD [.tup xs] = some (.int xs.length) := rfl
theorem len_lst : lenD [.lst xs] = some (.int xs.length) := rfl
theorem tup_D : tupD xs = if xs.length ≤ sizeLine then some (.tup xs) else none := rfl
theorem lst_D : lstD xs = if xs.length ≤ sizeLine then some (.lst xs) else none := rfl
end
theorem mulI_r {i j : Int} (h : -(2 ^ 64) < j ∧ j < 2 ^ 64) : mulI i j = some (i * j) := by
  unfold mulI
  rw [if_pos (.inr (.inr h))]
theorem mulI_l {i j : Int} (h : -(2 ^ 64) < i ∧ i < 2 ^ 64) : mulI i j = some (i * j) := by
  unfold mulI
  rw [if_pos (.inr (.inl h))]
theorem mulI_mod {x c j : Int} (h : 0 < c) (h2 : c ≤ 2 ^ 64) : mulI (x % c) j = some (x % c * j) := by
  have h3 := Int.emod_nonneg x (Int.ne_of_gt h)
  have h4 := Int.emod_lt_of_pos x h
  exact mulI_l ⟨by omega, by omega⟩
theorem pow_10_18 : powI 10 18 = some 1000000000000000000 := by decide +kernel
theorem atI_nat {α : Type} {l : List α} {n : Nat} (h : n < l.length) : atI l (n : Int) = some l[n] := by
  unfold atI ixN
  rw [if_pos (by omega), if_pos (by omega)]
  show l[((n : Int)).toNat]? = _
  rw [Int.toNat_natCast, List.getElem?_eq_getElem h]
theorem divI_ok {i j : Int} (h : 0 < j) (h2 : j.natAbs.log2 < 9000) : divI i j = some (i / j) := by
  unfold divI
  rw [if_pos ⟨h, h2⟩]
theorem modI_ok {i j : Int} (h : 0 < j) : modI i j = some (i % j) := by
  unfold modI
  rw [if_pos h]
/-! relations on whole numbers, truths -/
open PySem.W in
theorem lt_int0 (a b : Int) : dataLt (.int a) (.int b) = decide (a < b) := by
  show (decide (a < b) || (!decide (b < a) && false)) = decide (a < b)
  rw [Bool.and_false, Bool.or_false]
section
variable {a b : Int}
theorem eq_int : relD eqP (.int a) (.int b) = some (.bl (a == b)) := rfl
theorem ne_int : relD neP (.int a) (.int b) = some (.bl (!(a == b))) := rfl
theorem lt_int : relD ltP (.int a) (.int b) = some (.bl (decide (a < b))) := by
  show some (D.bl (PySem.W.dataLt (.int a) (.int b))) = _
  rw [lt_int0]
theorem gt_int : relD gtP (.int a) (.int b) = some (.bl (decide (b < a))) := by
  show some (D.bl (PySem.W.dataLt (.int b) (.int a))) = _
  rw [lt_int0]
theorem le_int : relD leP (.int a) (.int b) = some (.bl (decide (a ≤ b))) := by
  show some (D.bl (!PySem.W.dataLt (.int b) (.int a))) = _
  rw [lt_int0]
  congr 2
  by_cases c : a ≤ b
  · simp [c, Int.not_lt.mpr c]
  · simp [c, Int.lt_of_not_ge c]
theorem ge_int : relD geP (.int a) (.int b) = some (.bl (decide (b ≤ a))) := by
  show some (D.bl (!PySem.W.dataLt (.int a) (.int b))) = _
  rw [lt_int0]
  congr 2
  by_cases c : b ≤ a
  · simp [c, Int.not_lt.mpr c]
  · simp [c, Int.lt_of_not_ge c]
theorem eq_bl {a b : Bool} : relD eqP (.bl a) (.bl b) = some (.bl (a == b)) := rfl
end
/-! no hand within -/
/-- a comprehension whose item is a plain thing of the walked one -/
theorem comp_pure {S : Type} {g : D → DE → Option DE} {e : ME S} {env : DE} {s : S} {k : D → D} : ∀ {xs : List D}, (∀ x ∈ xs, ∃ env1, g x env = some env1 ∧ e env1 s = some (k x, s)) → compL g mYes e env xs s = some (xs.map k, s)
  | [], _ => rfl
  | x :: xs, h => by
    obtain ⟨env1, h1, h2⟩ := h x (List.mem_cons_self ..)
    have ih := comp_pure (xs := xs) fun y hy => h y (List.mem_cons_of_mem _ hy)
    unfold compL
    rw [h1]
    show (if true = true then (e env1 s).bind fun q => (compL g mYes e env xs q.2).map fun r => (q.1 :: r.1, r.2) else compL g mYes e env xs s) = _
    rw [if_pos rfl, h2]
    show ((compL g mYes e env xs s).map fun r => (k x :: r.1, r.2)) = _
    rw [ih]
    rfl
theorem bls_map {p : D → Bool} : ∀ {xs : List D}, blsD (xs.map fun x => D.bl (p x)) = some (xs.map p)
  | [] => rfl
  | x :: xs => by
    show (blsD (xs.map fun x => D.bl (p x))).map (fun bs => p x :: bs) = _
    rw [bls_map]
    rfl
theorem all_map {p : D → Bool} {xs : List D} : allD [.lst (xs.map fun x => D.bl (p x))] = some (.bl (xs.all p)) := by
  show (blsD (xs.map fun x => D.bl (p x))).map (fun bs => D.bl (bs.all id)) = _
  rw [bls_map]
  show some (D.bl ((xs.map p).all id)) = _
  rw [List.all_map]
  rfl
end Dl

set_option Elab.async false
set_option linter.all false
set_option maxRecDepth 100000
set_option maxHeartbeats 4000000
/-! M2: versions and ranges by whole numbers. -/
namespace Dl
open PySem
open L2
/-- a version as one number: three places of seven digits -/
def OkV (x : Int) : Prop := 0 ≤ x ∧ x / 100000000000000 ≤ 1000000 ∧ x / 10000000 % 10000000 ≤ 1000000 ∧ x % 10000000 ≤ 1000000
def verL (x : Int) : List Int := [x / 100000000000000, x / 10000000 % 10000000, x % 10000000]
def verD (x : Int) : D := .tup ((verL x).map .int)
/-! how they compare -/
section
variable {x y : Int}
end
/-! stretches, ranges -/
abbrev Rng := List (Int × Option Int)
def hiD : Option Int → D
  | none => .non
  | some h => verD h
def strD (p : Int × Option Int) : D := .tup [verD p.1, hiD p.2]
def rngD (r : Rng) : D := .tup (r.map strD)
def OkS (p : Int × Option Int) : Prop := OkV p.1 ∧ ∀ h, p.2 = some h → OkV h ∧ p.1 < h
/-- each stretch begins behind the end of the one before it -/
def chain : Option (Option Int) → Rng → Bool
  | _, [] => true
  | none, (_, hi) :: r => chain (some hi) r
  | some none, _ :: _ => false
  | some (some h), (lo, hi) :: r => decide (h < lo) && chain (some hi) r
def OkR (r : Rng) : Prop := (∀ p ∈ r, OkS p) ∧ chain none r = true
def IsS (d : D) : Prop := ∃ p, OkS p ∧ d = strD p
/-! what a range holds -/
def bounds (r : Rng) : List Int := r.flatMap fun p => match p.2 with
  | none => [p.1]
  | some h => [p.1, h]
/-! ranges made of marks and flags -/
def Asc (l : List (Int × Bool)) : Prop := l.Pairwise fun a b => a.1 < b.1
/-! what is outside -/
/-! two ranges' common part -/
def below (v : Int) : Option Int → Bool
  | none => true
  | some h => decide (v < h)
end Dl

set_option Elab.async false
set_option linter.all false
set_option maxRecDepth 100000
set_option maxHeartbeats 4000000
/-! M3: places, walks, sets of versions. -/
namespace Dl
open PySem
open L2
theorem atI_natQ {α : Type} {l : List α} {n : Nat} : atI l (n : Int) = l[n]? := by
  by_cases h : n < l.length
  · rw [atI_nat h, List.getElem?_eq_getElem h]
  · unfold atI ixN
    rw [if_pos (by omega), if_neg (by omega), List.getElem?_eq_none (by omega)]
    rfl
section
variable {ds : List D} {a b : D} {l : List D} {n : Nat}
theorem ix_nat : ixD (.tup ds) (.int (n : Int)) = ds[n]? := atI_natQ
theorem ixl_nat : ixD (.lst ds) (.int (n : Int)) = ds[n]? := atI_natQ
theorem neg_int {i : Int} : negD (.int i) = some (.int (-i)) := rfl
end
theorem isN_hi {h : Option Int} : isND (hiD h) .non = some (.bl h.isNone) := by cases h <;> rfl
theorem notN_hi {h : Option Int} : notND (hiD h) .non = some (.bl h.isSome) := by cases h <;> rfl
theorem rng1_nat {n : Nat} (h : n ≤ 16777216) : rng1D [.int (n : Int)] = some (rngOf 0 n) := by
  unfold rng1D
  dsimp only
  rw [if_pos ⟨by omega, by omega, by rw [sizeLine_eq]; omega⟩]
  rfl
/-! sets of versions -/
end Dl

set_option Elab.async false
set_option linter.all false
set_option maxRecDepth 100000
set_option maxHeartbeats 4000000
/-! M4: a range is told by what it holds; common parts, what is outside. -/
namespace Dl
open PySem
open L2
/-! common parts -/
/-! what is outside -/
end Dl

set_option Elab.async false
set_option linter.all false
set_option maxRecDepth 100000
set_option maxHeartbeats 4000000
/-! M5: texts cut at a separator of which the second sign is nowhere in the parts; numbers' texts. -/
namespace Dl
open PySem
open L2
open Txt
open TL
end Dl

set_option Elab.async false
set_option linter.all false
set_option maxRecDepth 100000
set_option maxHeartbeats 4000000
/-! M6: the texts of whole numbers. -/
namespace Dl
open PySem
open L2
open Txt
open TL
/-! texts compared -/
theorem eq_str {a b : Str} : relD eqP (.str a) (.str b) = some (.bl (a == b)) := rfl
end Dl

set_option Elab.async false
set_option linter.all false
set_option maxRecDepth 100000
set_option maxHeartbeats 4000000
/-! M7: == of data without flags is equality. -/
namespace Dl
open PySem
open L2
open Txt
open TL
noncomputable instance decD : DecidableEq D := fun _ _ => Classical.propDecidable _
end Dl

set_option Elab.async false
set_option linter.all false
set_option maxRecDepth 100000
set_option maxHeartbeats 4000000
namespace K00
open PySem
open L2
open Dl
open Txt
open TL
open PySem
open L2
open Dl
open Txt
open TL
variable {ST : Type}
open PySem
open L2
open Dl
/-! draws -/
theorem log_lt {m : Int} (h0 : 0 < m) (h : m < 2 ^ 62) : m.natAbs.log2 < 9000 := by
  have : m.natAbs < 2 ^ 62 := by omega
  have h2 : m.natAbs.log2 < 62 := (Nat.log2_lt (by omega)).mpr this
  omega
theorem leaf {m x : Int} (h0 : 0 < m) : (∃ n, D.int (x % m) = D.int n ∧ 0 ≤ n ∧ n < m) = True :=
  eq_true ⟨_, rfl, Int.emod_nonneg x (Int.ne_of_gt h0), Int.emod_lt_of_pos x h0⟩
theorem draw_ok {s : Hand} {m : Int} (h0 : 0 < m) (h : m < 2 ^ 62) : OW (f__law_draw [.hnd, .int m] s) fun p => ∃ n, p.1 = .int n ∧ 0 ≤ n ∧ n < m := by
  have hl := log_lt h0 h
  unfold f__law_draw
  simp only [mDef_eq, outD_nx, outD_rt, startE, sNil, sSeq, thenS_nx, thenS_rt, thenS_bk, thenS_ct, sAsg, sIf, sRet, sRetN, sDrop, sBrk, sCnt, seqItems, sFor, sOwn, ownAt, sApp, sExt, sPut, sFrz, sPar, mIxO, mLenO, mTupO, mVar, mC, mU, mB, mNil, mCons, mF, mIsT, mAndT, mOrT, mNotT, mAnd, mOr, mNot, mIf, mChain, mPart, mNoPart, mSl, mCall, mIt, mRng, mComp, mYes, gdName, gdTup, gdCons, gdNil, wipeE, tupItems_tup, lstItems_lst, bl_bl, int_int, mHx_eq, mHlen_eq, mHcell_eq, sHput_eq, isH_hnd, hget1, hget2, hget3, hget4, hset1, hset2, hset3, hset4, eq_int, ne_int, lt_int, gt_int, le_int, ge_int, eq_bl, add_int, add_tup, add_lst, sub_int, neg_int, isN_hi, notN_hi, mul_int, div_int, mod_int, pow_int, abs_int, intC_int, len_tup, len_lst, tup_D, lst_D, rt_D, Bool.not_not, Bool.not_true, Bool.not_false, true_and, and_true, false_and, and_false, or_true, true_or, or_false, false_or, List.length_cons, List.length_nil, List.length_append, List.length_map, List.map_cons, List.map_nil, List.replicate_succ, List.replicate_zero, List.cons_append, List.nil_append, List.append_nil, List.set_cons_zero, List.set_cons_succ, List.getElem?_cons_zero, List.getElem?_cons_succ, Option.bind_some, Option.map_some, Option.bind_none, Option.map_none, OW_some, OW_bind, OW_map, OW_if, Bool.false_eq_true, if_true, if_false, ↓reduceIte, Nat.reduceAdd, Nat.reduceSub, Nat.zero_add, Nat.sub_self, Function.comp]
  by_cases c : s.pos < s.cells.length
  · simp only [atI_nat c, OW_some, mulI_r (j := 69621) (by decide), mulI_l (i := 7919) (by decide), mulI_r (j := 48271) (by decide), modI_ok (j := 2147483629) (by decide), modI_ok (j := 2147483647) (by decide), modI_ok (j := 2147483399) (by decide),
      mulI_mod (c := 2147483647) (by decide) (by decide), modI_ok h0, divI_ok h0 hl, pow_10_18, divI_ok (j := 1009) (by decide) (by decide +kernel), divI_ok (j := 2003) (by decide) (by decide +kernel), divI_ok (j := 16) (by decide) (by decide +kernel), leaf h0, ite_self]
    have e : (0 : Int) ≤ (s.pos : Int) + 1 := by omega
    simp only [e, if_true, ite_self]
  · have e : decide ((s.pos : Int) < (s.cells.length : Int)) = false := decide_eq_false (by omega)
    simp only [e, OW_some, mulI_r (j := 69621) (by decide), mulI_l (i := 7919) (by decide), mulI_r (j := 48271) (by decide), modI_ok (j := 2147483629) (by decide), modI_ok (j := 2147483647) (by decide), modI_ok (j := 2147483399) (by decide),
      mulI_mod (c := 2147483647) (by decide) (by decide), modI_ok h0, divI_ok h0 hl, pow_10_18, divI_ok (j := 1009) (by decide) (by decide +kernel), divI_ok (j := 2003) (by decide) (by decide +kernel), divI_ok (j := 16) (by decide) (by decide +kernel), leaf h0, ite_self, Bool.false_eq_true, if_false]
/-! how a plain walk ends -/
def Qn (P : DE → Prop) (s : ST) : OutS ST → Prop
  | .nx env s' => P env ∧ s' = s
  | _ => False
theorem Qn.mono {P P' : DE → Prop} {s : ST} {o : OutS ST} (h : Qn P s o) (g : ∀ env, P env → P' env) : Qn P' s o := by
  cases o with
  | nx env s' => exact ⟨g env h.1, h.2⟩
  | _ => exact h.elim
theorem Qn.get {P : DE → Prop} {s : ST} {o : OutS ST} (h : Qn P s o) : ∃ env, o = .nx env s ∧ P env := by
  cases o with
  | nx env s' =>
    obtain ⟨h1, h2⟩ := h
    subst h2
    exact ⟨env, rfl, h1⟩
  | _ => exact h.elim
/-! is it empty? -/
/-! the law's own -/
theorem draw_then {s : Hand} {m : Int} {Q : D × Hand → Prop} (h0 : 0 < m) (h : m < 2 ^ 62) (g : ∀ n s', 0 ≤ n → n < m → Q (.int n, s')) : OW (f__law_draw [.hnd, .int m] s) Q := OW.mono (draw_ok h0 h) fun p ⟨n, e, h1, h2⟩ => by
  obtain ⟨d, s'⟩ := p
  dsimp only at e
  subst e
  exact g n s' h1 h2
theorem some_then {s : Hand} {xs : List D} {Q : D × Hand → Prop} (h0 : 0 < xs.length) (h : xs.length < 1000000) (g : ∀ d s', d ∈ xs → Q (d, s')) : OW (f__law_some [.hnd, .lst xs] s) Q := by
  unfold f__law_some
  simp only [mDef_eq, outD_nx, outD_rt, startE, sNil, sSeq, thenS_nx, thenS_rt, thenS_bk, thenS_ct, sAsg, sIf, sRet, sRetN, sDrop, sBrk, sCnt, seqItems, sFor, sOwn, ownAt, sApp, sExt, sPut, sFrz, sPar, mIxO, mLenO, mTupO, mVar, mC, mU, mB, mNil, mCons, mF, mIsT, mAndT, mOrT, mNotT, mAnd, mOr, mNot, mIf, mChain, mPart, mNoPart, mSl, mCall, mIt, mRng, mComp, mYes, gdName, gdTup, gdCons, gdNil, wipeE, tupItems_tup, lstItems_lst, bl_bl, int_int, mHx_eq, mHlen_eq, mHcell_eq, sHput_eq, isH_hnd, hget1, hget2, hget3, hget4, hset1, hset2, hset3, hset4, eq_int, ne_int, lt_int, gt_int, le_int, ge_int, eq_bl, add_int, add_tup, add_lst, sub_int, neg_int, isN_hi, notN_hi, mul_int, div_int, mod_int, pow_int, abs_int, intC_int, len_tup, len_lst, tup_D, lst_D, rt_D, Bool.not_not, Bool.not_true, Bool.not_false, true_and, and_true, false_and, and_false, or_true, true_or, or_false, false_or, List.length_cons, List.length_nil, List.length_append, List.length_map, List.map_cons, List.map_nil, List.replicate_succ, List.replicate_zero, List.cons_append, List.nil_append, List.append_nil, List.set_cons_zero, List.set_cons_succ, List.getElem?_cons_zero, List.getElem?_cons_succ, Option.bind_some, Option.map_some, Option.bind_none, Option.map_none, OW_some, OW_bind, OW_map, OW_if, Bool.false_eq_true, if_true, if_false, ↓reduceIte, Nat.reduceAdd, Nat.reduceSub, Nat.zero_add, Nat.sub_self, Function.comp]
  refine draw_then (by omega) (by omega) fun n s' n0 n1 => ?_
  obtain ⟨k, rfl⟩ : ∃ k : Nat, n = (k : Int) := ⟨n.toNat, by omega⟩
  have hk : k < xs.length := by omega
  have e : ixD (.lst xs) (.int (k : Int)) = some xs[k] := by
    rw [ixl_nat, List.getElem?_eq_getElem hk]
  simp only [OW_eq e, mDef_eq, outD_nx, outD_rt, startE, sNil, sSeq, thenS_nx, thenS_rt, thenS_bk, thenS_ct, sAsg, sIf, sRet, sRetN, sDrop, sBrk, sCnt, seqItems, sFor, sOwn, ownAt, sApp, sExt, sPut, sFrz, sPar, mIxO, mLenO, mTupO, mVar, mC, mU, mB, mNil, mCons, mF, mIsT, mAndT, mOrT, mNotT, mAnd, mOr, mNot, mIf, mChain, mPart, mNoPart, mSl, mCall, mIt, mRng, mComp, mYes, gdName, gdTup, gdCons, gdNil, wipeE, tupItems_tup, lstItems_lst, bl_bl, int_int, mHx_eq, mHlen_eq, mHcell_eq, sHput_eq, isH_hnd, hget1, hget2, hget3, hget4, hset1, hset2, hset3, hset4, eq_int, ne_int, lt_int, gt_int, le_int, ge_int, eq_bl, add_int, add_tup, add_lst, sub_int, neg_int, isN_hi, notN_hi, mul_int, div_int, mod_int, pow_int, abs_int, intC_int, len_tup, len_lst, tup_D, lst_D, rt_D, Bool.not_not, Bool.not_true, Bool.not_false, true_and, and_true, false_and, and_false, or_true, true_or, or_false, false_or, List.length_cons, List.length_nil, List.length_append, List.length_map, List.map_cons, List.map_nil, List.replicate_succ, List.replicate_zero, List.cons_append, List.nil_append, List.append_nil, List.set_cons_zero, List.set_cons_succ, List.getElem?_cons_zero, List.getElem?_cons_succ, Option.bind_some, Option.map_some, Option.bind_none, Option.map_none, OW_some, OW_bind, OW_map, OW_if, Bool.false_eq_true, if_true, if_false, ↓reduceIte, Nat.reduceAdd, Nat.reduceSub, Nat.zero_add, Nat.sub_self, Function.comp]
  exact g _ _ (List.getElem_mem hk)
theorem comp_then {g : D → DE → Option DE} {e : ME ST} {env : DE} {P : D → Prop} : ∀ {xs : List D} {s : ST}, (∀ x ∈ xs, ∃ env1, g x env = some env1 ∧ ∀ s, OW (e env1 s) fun p => P p.1) → OW (compL g mYes e env xs s) fun p => p.1.length = xs.length ∧ ∀ d ∈ p.1, P d
  | [], s, _ => by
    show OW (some _) _
    rw [OW_some]
    exact ⟨rfl, fun _ h => by cases h⟩
  | x :: xs, s, h => by
    obtain ⟨env1, h1, h2⟩ := h x (List.mem_cons_self ..)
    unfold compL
    rw [h1]
    show OW (if true = true then (e env1 s).bind fun q => (compL g mYes e env xs q.2).map fun r => (q.1 :: r.1, r.2) else compL g mYes e env xs s) _
    rw [if_pos rfl, OW_bind]
    refine OW.mono (h2 s) fun q hq => ?_
    rw [OW_map]
    refine OW.mono (comp_then (s := q.2) fun y hy => h y (List.mem_cons_of_mem _ hy)) fun r hr => ?_
    refine ⟨by rw [List.length_cons, List.length_cons, hr.1], fun d hd => ?_⟩
    rcases List.mem_cons.mp hd with z | z
    · rw [z]; exact hq
    · exact hr.2 d z
open PySem
open L2
open Dl
/-! draws -/
open PySem
open L2
open Dl
open PySem
open L2
open Dl
open PySem
open L2
open Dl
open PySem
open L2
open Dl
def Fits (L : List Int) (r : Rng) : Prop := OkR r ∧ ∀ b ∈ bounds r, b = 0 ∨ b ∈ L
theorem Fits.mono {L M : List Int} {r : Rng} (h : Fits L r) (hm : ∀ x ∈ L, x ∈ M) : Fits M r := ⟨h.1, fun b hb => (h.2 b hb).imp id (hm b)⟩
open PySem
open L2
open Dl
open Txt
open TL
/-! versions' texts -/
open PySem
open L2
open Dl
/-! what a part tells -/
/-- all three numbers below 1000000 -/
def Small (x : Int) : Prop := 0 ≤ x ∧ x / 100000000000000 ≤ 999999 ∧ x / 10000000 % 10000000 ≤ 999999 ∧ x % 10000000 ≤ 999999
open PySem
open L2
open Dl
open Txt
open TL
open PySem
open L2
open Dl
open Txt
open TL
open PySem
open L2
open Dl
open Txt
open TL
open PySem
open L2
open Dl
open Txt
open TL

open PySem
open L2
open Dl
open Txt
open TL
open PySem
open L2
open Dl
open Txt
open TL
open PySem
open L2
open Dl
open Txt
open TL
open PySem
open L2
open Dl
open Txt
open TL
open PySem
open L2
open Dl
open Txt
open TL
open PySem
open L2
open Dl
open Txt
open TL
open PySem
open L2
open Dl
open Txt
open TL
open PySem
open L2
open Dl
open Txt
open TL
open PySem
open L2
open Dl
open Txt
open TL
open PySem
open L2
open Dl
open Txt
open TL
/-! texts of figures -/
open PySem
open L2
open Dl
open Txt
open TL
open PySem
open L2
open Dl
open Txt
open TL
open PySem
open L2
open Dl
open Txt
open TL
open PySem
open L2
open Dl
open Txt
open TL
/-! what is told of each word -/
open PySem
open L2
open Dl
open Txt
open TL
/-! sizes -/
open PySem
open L2
open Dl
open Txt
open TL
open PySem
open L2
open Dl
open Txt
open TL
open PySem
open L2
open Dl
open Txt
open TL
/-! what the law tells -/
open PySem
open L2
open Dl
open Txt
open TL
def lowB (l : List Nat) : Bool := l.all fun c => decide (97 ≤ c ∧ c ≤ 122)
def nameB (w : Str) : Bool := decide (1 ≤ w.length) && (decide (w.length ≤ 12) && lowB (tl w))
theorem cut_len {ds : List D} {k : Nat} : (cutD ds none (some (k : Int))).length ≤ ds.length := by
  unfold cutD
  rw [List.length_take, List.length_drop]
  omega
theorem allInt : ∀ {ds : List D}, (∀ d ∈ ds, ∃ i, d = .int i) → ∃ is : List Int, ds = is.map .int
  | [], _ => ⟨[], rfl⟩
  | d :: ds, h => by
    obtain ⟨i, e⟩ := h d (List.mem_cons_self ..)
    obtain ⟨l, e2⟩ := allInt fun x hx => h x (List.mem_cons_of_mem _ hx)
    exact ⟨i :: l, by rw [e, e2]; rfl⟩
def absK : D → D
  | .int i => .int (if i < 0 then -i else i)
  | d => d
open PySem
open L2
open Dl
open Txt
open TL
open PySem
open L2
open Dl
open Txt
open TL
open PySem
open L2
open Dl
open Txt
open TL
open PySem
open L2
open Dl
open Txt
open TL
def adj : List Str → List Bool
  | [] => []
  | [_] => []
  | a :: b :: l => ltS a b :: adj (b :: l)
def upB (l : List Str) : Bool := (adj l).all fun b => b
open PySem
open L2
open Dl
open Txt
open TL
def dat (d : D) : Option Slot := some (.dat d)
theorem rng_is {l : ML ST} {env : DE} {s s1 : ST} {k : Nat} (h : l env s = some ([.int (k : Int)], s1)) (hk : k ≤ 16777216) : mRng rng1D l env s = some (rngOf 0 k, s1) := by
  unfold mRng
  rw [h, Option.bind_some]
  dsimp only
  rw [rng1_nat hk]
  rfl
open PySem
open L2
open Dl
open Txt
open TL
def strsT (l : List Str) : D := .tup (l.map D.str)
def lotB (k : Nat) (l : List Str) : Bool := decide (l.length ≤ k) && (l.all nameB && upB l)
open PySem
open L2
open Dl
open Txt
open TL
/-! ### the first place of a text -/
open PySem
open L2
open Dl
open Txt
open TL
structure Wish where
  n : Str
  r : Rng
  fs : List Str
def Wish.D (w : Wish) : Dl.D := .tup [.str w.n, rngD w.r, strsT w.fs]
open PySem
open L2
open Dl
open Txt
open TL
open PySem
open L2
open Dl
open Txt
open TL
open PySem
open L2
open Dl
open Txt
open TL
/-! ### the law's own readings -/
open PySem
open L2
open Dl
open Txt
open TL
/-! ### counts -/
open PySem
open L2
open Dl
open Txt
open TL
open PySem
open L2
open Dl
open Txt
open TL
/-! ### a question is made -/
/-! ### equal -/
open PySem
open L2
open Dl
open Txt
open TL
open PySem
open L2
open Dl
open Txt
open TL
/-! ### the program's loop -/
section
variable {A0 A1 : Option Slot} {s : ST}
/-! ### the law's loop -/
end
open PySem
open L2
open Dl
open Txt
open TL
open PySem
open L2
open Dl
open Txt
open TL
open PySem
open L2
open Dl
open Txt
open TL
structure Need where
  f : Str
  o : Str
  r : Rng
  w : List Str
def Need.D (x : Need) : Dl.D := .tup [.str x.f, .str x.o, rngD x.r, strsT x.w]
structure Bar where
  o : Str
  r : Rng
def Bar.D (x : Bar) : Dl.D := .tup [.str x.o, rngD x.r]
abbrev Feat := Str × List Str
def featD (q : Feat) : D := .tup [.str q.1, strsT q.2]
structure Raw where
  n : Str
  v : Int
  fs : List Feat
  ns : List Need
  bs : List Bar
def Raw.D (x : Raw) : Dl.D := .tup [.str x.n, verD x.v, .tup (x.fs.map featD), .tup (x.ns.map Need.D), .tup (x.bs.map Bar.D)]
open PySem
open L2
open Dl
open Txt
open TL
variable {ST : Type}
open PySem
open L2
open Dl
open Txt
open TL
open PySem
open L2
open Dl
open Txt
open TL
open PySem
open L2
open Dl
open Txt
open TL
open PySem
open L2
open Dl
open Txt
open TL
def six : List Str := ["app", "core", "db", "lib", "net", "ui"]
open PySem
open L2
open Dl
open Txt
open TL
def seven : List Str := six ++ [("far" : Str)]
structure DrawnL (q : Str × Int) : Prop where
  n : nameB q.1 = true
  z : q.1.length ≤ 4
  v : Small q.2
open PySem
open L2
open Dl
open Txt
open TL
abbrev Lock := Str × Int
/-! ### the forty more locks -/
open PySem
open L2
open Dl
open Txt
open TL
structure DrawnS (q : Lock) : Prop where
  n : q.1 ∈ seven
  v : Small q.2
theorem seven_ok : ∀ w ∈ seven, nameB w = true ∧ w.length ≤ 4 := by decide +kernel
theorem DrawnS.to {q : Lock} (h : DrawnS q) : DrawnL q := ⟨(seven_ok _ h.n).1, (seven_ok _ h.n).2, h.v⟩
open PySem
open L2
open Dl
open Txt
open TL
/-! ### a range's text read -/
/-! ### a version's text read -/
/-! ### names -/
/-! ### signs of a range's text -/
open PySem
open L2
open Dl
open Txt
open TL
/-! ### the lines read -/
/-! ### a text of lines -/
/-! ### bounds of lines -/
structure LnB (j : Nat) (x : Str) : Prop where
  z : x.length ≤ 400 + j
  c : (tl x).count 124 + (tl x).count 44 ≤ 20 + j
  f : 10 ∉ tl x
theorem LnB.up {i j : Nat} {x : Str} (h : LnB i x) (hj : i ≤ j) : LnB j x := ⟨by have := h.z; omega, by have := h.c; omega, h.f⟩
open PySem
open L2
open Dl
open Txt
open TL
open PySem
open L2
open Dl
open PySem
open L2
open Dl
open PySem
open L2
open Dl
open Txt
open TL

open PySem
open L2
open Dl
open Txt
open TL
open PySem
open L2
open Dl
open Txt
open TL
open PySem
open L2
open Dl
open Txt
open TL
open PySem
open L2
open Dl
open Txt
open TL
open PySem
open L2
open Dl
open Txt
open TL
open PySem
open L2
open Dl
open Txt
open TL
open PySem
open L2
open Dl
open Txt
open TL
theorem three {n : Int} (h0 : 0 ≤ n) (h : n < 3) : ∃ k : Nat, 1 ≤ k ∧ k ≤ 3 ∧ rng1D [.int (1 + n)] = some (rngOf 0 k) := ⟨(1 + n).toNat, by omega, by omega, by
  rw [show 1 + n = (((1 + n).toNat : Nat) : Int) by omega]
  exact rng1_nat (by omega)⟩
open PySem
open L2
open Dl
open Txt
open TL
theorem hand_made {ns : List Int} (hz : ns.length ≤ 63) : ∃ cells k, f__law_hand [.hnd] ns = some (handD cells k, ns) := by
  have hl : (cutD (ns.map D.int) none (some 63)).length ≤ 63 := Nat.le_trans cut_len (by rw [List.length_map]; exact hz)
  obtain ⟨is, hi⟩ := allInt (ds := cutD (ns.map D.int) none (some 63)) fun d hd => by
    obtain ⟨i, _, e⟩ := List.mem_map.mp (List.mem_of_mem_drop (List.mem_of_mem_take hd))
    exact ⟨i, e.symm⟩
  refine ⟨is.map fun i => if i < 0 then -i else i, 1 + ((is.length : Nat) : Int), eq_of_OW ?_⟩
  unfold f__law_hand
  have e : compL (gdName 2) mYes c__law_hand_0 [some (.dat .hnd), none, none] (is.map D.int) ns = some ((is.map D.int).map absK, ns) := by
    refine comp_pure fun x hx => ⟨_, rfl, ?_⟩
    obtain ⟨i, _, ei⟩ := List.mem_map.mp hx
    subst ei
    rw [c__law_hand_0_eq]
    refine eq_of_OW ?_
    simp only [mDef_eq, outD_nx, outD_rt, startE, sNil, sSeq, thenS_nx, thenS_rt, thenS_bk, thenS_ct, sAsg, sIf, sRet, sRetN, sDrop, sBrk, sCnt, seqItems, sFor, sOwn, ownAt, sApp, sExt, sPut, sFrz, sPar, mIxO, mLenO, mTupO, mVar, mC, mU, mB, mNil, mCons, mF, mIsT, mAndT, mOrT, mNotT, mAnd, mOr, mNot, mIf, mChain, mPart, mNoPart, mSl, mCall, mIt, mRng, mComp, mYes, gdName, gdTup, gdCons, gdNil, wipeE, tupItems_tup, lstItems_lst, bl_bl, int_int, mHx_eq, mHlen_eq, mHcell_eq, sHput_eq, isH_hnd, hget1, hget2, hget3, hget4, hset1, hset2, hset3, hset4, eq_int, ne_int, lt_int, gt_int, le_int, ge_int, eq_bl, add_int, add_tup, add_lst, sub_int, neg_int, isN_hi, notN_hi, mul_int, div_int, mod_int, pow_int, abs_int, intC_int, len_tup, len_lst, tup_D, lst_D, rt_D, Bool.not_not, Bool.not_true, Bool.not_false, true_and, and_true, false_and, and_false, or_true, true_or, or_false, false_or, List.length_cons, List.length_nil, List.length_append, List.length_map, List.map_cons, List.map_nil, List.replicate_succ, List.replicate_zero, List.cons_append, List.nil_append, List.append_nil, List.set_cons_zero, List.set_cons_succ, List.getElem?_cons_zero, List.getElem?_cons_succ, Option.bind_some, Option.map_some, Option.bind_none, Option.map_none, OW_some, OW_bind, OW_map, OW_if, Bool.false_eq_true, if_true, if_false, ↓reduceIte, Nat.reduceAdd, Nat.reduceSub, Nat.zero_add, Nat.sub_self, Function.comp]
    rfl
  have hs1 : ∀ n : Nat, n ≤ 40 → ((n ≤ sizeLine) = True) := fun n h => eq_true (by rw [sizeLine_eq]; omega)
  have e2 : mScr 0 63 [some (.dat .hnd), none, none] ns = some (.lst (is.map D.int), ns) := by
    unfold mScr
    rw [isH_hnd, if_pos rfl, ← hi]
    rfl
  have e3 : (is.map D.int).map absK = (is.map fun i => if i < 0 then -i else i).map D.int := by
    rw [List.map_map, List.map_map]
    rfl
  rw [e3] at e
  generalize hC : (is.map fun i => if i < 0 then -i else i) = C at *
  have hcl : C.length = is.length := by rw [← hC, List.length_map]
  rw [← hcl]
  simp only [mDef_eq, outD_nx, outD_rt, startE, sNil, sSeq, thenS_nx, thenS_rt, thenS_bk, thenS_ct, sAsg, sIf, sRet, sRetN, sDrop, sBrk, sCnt, seqItems, sFor, sOwn, ownAt, sApp, sExt, sPut, sFrz, sPar, mIxO, mLenO, mTupO, mVar, mC, mU, mB, mNil, mCons, mF, mIsT, mAndT, mOrT, mNotT, mAnd, mOr, mNot, mIf, mChain, mPart, mNoPart, mSl, mCall, mIt, mRng, mComp, mYes, gdName, gdTup, gdCons, gdNil, wipeE, tupItems_tup, lstItems_lst, bl_bl, int_int, mHx_eq, mHlen_eq, mHcell_eq, sHput_eq, isH_hnd, hget1, hget2, hget3, hget4, hset1, hset2, hset3, hset4, eq_int, ne_int, lt_int, gt_int, le_int, ge_int, eq_bl, add_int, add_tup, add_lst, sub_int, neg_int, isN_hi, notN_hi, mul_int, div_int, mod_int, pow_int, abs_int, intC_int, len_tup, len_lst, tup_D, lst_D, rt_D, Bool.not_not, Bool.not_true, Bool.not_false, true_and, and_true, false_and, and_false, or_true, true_or, or_false, false_or, List.length_cons, List.length_nil, List.length_append, List.length_map, List.map_cons, List.map_nil, List.replicate_succ, List.replicate_zero, List.cons_append, List.nil_append, List.append_nil, List.set_cons_zero, List.set_cons_succ, List.getElem?_cons_zero, List.getElem?_cons_succ, Option.bind_some, Option.map_some, Option.bind_none, Option.map_none, OW_some, OW_bind, OW_map, OW_if, Bool.false_eq_true, if_true, if_false, ↓reduceIte, Nat.reduceAdd, Nat.reduceSub, Nat.zero_add, Nat.sub_self, Function.comp, e2, OW_eq e, hs1 5 (by omega)]
  rfl
open PySem
open L2
open Dl
open Txt
open TL
/-! texts among texts -/
/-! two fors, all true -/
/-! features -/
open PySem
open L2
open Dl
open Txt
open TL
variable {ST : Type}
open PySem
open L2
open Dl
open Txt
open TL
/-! what Entry asks for -/
/-! the loops -/

open PySem
open L2
open Dl
open Txt
open TL
/-! entries -/
theorem comp_is {src : ML ST} {g : D → DE → Option DE} {c : MT ST} {e : ME ST} {vs : List Nat} {env : DE} {s s1 s2 : ST} {xs ys : List D} (hs : src env s = some (xs, s1)) (h : compL g c e (wipeE env vs) xs s1 = some (ys, s2)) : mComp src g c e vs env s = some (.lst ys, s2) := by
  unfold mComp
  rw [hs, Option.bind_some]
  dsimp only
  rw [h]
  rfl
open PySem
open L2
open Dl
open Txt
open TL
/-! keys: a name and a version -/
/-! books -/
open PySem
open L2
open Dl
open Txt
open TL
/-! _law_is of plain data and itself -/
open PySem
open L2
open Dl
open Txt
open TL
/-! lists with a condition -/
/-! sets of names -/
theorem up_nd {l : List Str} (h : UpS l) : l.Nodup := h.imp fun {a b} h e => by rw [e, ltS_irr] at h; cases h
/-! versions -/
/-! is_book -/
open PySem
open L2
open Dl
open Txt
open TL
/-! an entry found -/
/-! an entry struck -/
/-! an entry put -/
open PySem
open L2
open Dl
open Txt
open TL
/-! the law's own -/
open PySem
open L2
open Dl
open Txt
open TL
/-! what features turn on -/
def turnF : List Feat → Str → List Str
  | [], _ => []
  | q :: l, w => if q.1 = w then q.2 else turnF l w
def turnR (x : Raw) : Str → List Str := turnF x.fs
/-! the program's way -/
open PySem
open L2
open Dl
open Txt
open TL
/-! the program's turned -/
open PySem
open L2
open Dl
open Txt
open TL
/-! the law's turned -/
open PySem
open L2
open Dl
open Txt
open TL
/-! equal entries, equal books -/
open PySem
open L2
open Dl
open Txt
open TL
/-! a drawn lot of a tuple -/
/-! all that is told of a book -/
open PySem
open L2
open Dl
open Txt
open TL
/-! a drawn book, ascending -/
open PySem
open L2
open Dl
open Txt
open TL
open PySem
open L2
open Dl
open Txt
open TL
variable {ST : Type}
open PySem
open L2
open Dl
/-! draws -/
/-! how a plain walk ends -/
/-! is it empty? -/
/-! the law's own -/
open PySem
open L2
open Dl
/-! draws -/
open PySem
open L2
open Dl
open PySem
open L2
open Dl
open PySem
open L2
open Dl
open PySem
open L2
open Dl
open PySem
open L2
open Dl
open Txt
open TL
/-! versions' texts -/
open PySem
open L2
open Dl
/-! what a part tells -/
open PySem
open L2
open Dl
open Txt
open TL
open PySem
open L2
open Dl
open Txt
open TL
open PySem
open L2
open Dl
open Txt
open TL
open PySem
open L2
open Dl
open Txt
open TL

open PySem
open L2
open Dl
open Txt
open TL
open PySem
open L2
open Dl
open Txt
open TL
open PySem
open L2
open Dl
open Txt
open TL
open PySem
open L2
open Dl
open Txt
open TL
open PySem
open L2
open Dl
open Txt
open TL
open PySem
open L2
open Dl
open Txt
open TL
open PySem
open L2
open Dl
open Txt
open TL
open PySem
open L2
open Dl
open Txt
open TL
open PySem
open L2
open Dl
open Txt
open TL
open PySem
open L2
open Dl
open Txt
open TL
/-! texts of figures -/
open PySem
open L2
open Dl
open Txt
open TL
open PySem
open L2
open Dl
open Txt
open TL
open PySem
open L2
open Dl
open Txt
open TL
open PySem
open L2
open Dl
open Txt
open TL
/-! what is told of each word -/
open PySem
open L2
open Dl
open Txt
open TL
/-! sizes -/
open PySem
open L2
open Dl
open Txt
open TL
open PySem
open L2
open Dl
open Txt
open TL
open PySem
open L2
open Dl
open Txt
open TL
/-! what the law tells -/
open PySem
open L2
open Dl
open Txt
open TL
open PySem
open L2
open Dl
open Txt
open TL
open PySem
open L2
open Dl
open Txt
open TL
open PySem
open L2
open Dl
open Txt
open TL
open PySem
open L2
open Dl
open Txt
open TL
open PySem
open L2
open Dl
open Txt
open TL
open PySem
open L2
open Dl
open Txt
open TL
open PySem
open L2
open Dl
open Txt
open TL
/-! ### the first place of a text -/
open PySem
open L2
open Dl
open Txt
open TL
open PySem
open L2
open Dl
open Txt
open TL
open PySem
open L2
open Dl
open Txt
open TL
open PySem
open L2
open Dl
open Txt
open TL
/-! ### the law's own readings -/
open PySem
open L2
open Dl
open Txt
open TL
/-! ### counts -/
open PySem
open L2
open Dl
open Txt
open TL
open PySem
open L2
open Dl
open Txt
open TL
/-! ### a question is made -/
/-! ### equal -/
open PySem
open L2
open Dl
open Txt
open TL
open PySem
open L2
open Dl
open Txt
open TL
/-! ### the program's loop -/
section
variable {A0 A1 : Option Slot} {s : ST}
/-! ### the law's loop -/
end
open PySem
open L2
open Dl
open Txt
open TL
open PySem
open L2
open Dl
open Txt
open TL
open PySem
open L2
open Dl
open Txt
open TL
open PySem
open L2
open Dl
open Txt
open TL
open PySem
open L2
open Dl
open Txt
open TL
open PySem
open L2
open Dl
open Txt
open TL
open PySem
open L2
open Dl
open Txt
open TL
open PySem
open L2
open Dl
open Txt
open TL
open PySem
open L2
open Dl
open Txt
open TL
/-! ### the forty more locks -/
open PySem
open L2
open Dl
open Txt
open TL
open PySem
open L2
open Dl
open Txt
open TL
/-! ### a range's text read -/
/-! ### a version's text read -/
/-! ### names -/
/-! ### signs of a range's text -/
open PySem
open L2
open Dl
open Txt
open TL
/-! ### the lines read -/
/-! ### a text of lines -/
/-! ### bounds of lines -/
open PySem
open L2
open Dl
open Txt
open TL
open PySem
open L2
open Dl
open PySem
open L2
open Dl
open PySem
open L2
open Dl
open Txt
open TL

open PySem
open L2
open Dl
open Txt
open TL
open PySem
open L2
open Dl
open Txt
open TL
open PySem
open L2
open Dl
open Txt
open TL
open PySem
open L2
open Dl
open Txt
open TL
open PySem
open L2
open Dl
open Txt
open TL
open PySem
open L2
open Dl
open Txt
open TL
open PySem
open L2
open Dl
open Txt
open TL
open PySem
open L2
open Dl
open Txt
open TL
open PySem
open L2
open Dl
open Txt
open TL
/-! texts among texts -/
/-! two fors, all true -/
/-! features -/
open PySem
open L2
open Dl
open Txt
open TL
/-! what Entry asks for -/
/-! the loops -/

open PySem
open L2
open Dl
open Txt
open TL
/-! entries -/
open PySem
open L2
open Dl
open Txt
open TL
/-! keys: a name and a version -/
/-! books -/
open PySem
open L2
open Dl
open Txt
open TL
/-! _law_is of plain data and itself -/
open PySem
open L2
open Dl
open Txt
open TL
/-! lists with a condition -/
/-! sets of names -/
/-! versions -/
/-! is_book -/
open PySem
open L2
open Dl
open Txt
open TL
/-! an entry found -/
/-! an entry struck -/
/-! an entry put -/
open PySem
open L2
open Dl
open Txt
open TL
/-! the law's own -/
open PySem
open L2
open Dl
open Txt
open TL
/-! what features turn on -/
/-! the program's way -/
open PySem
open L2
open Dl
open Txt
open TL
/-! the program's turned -/
open PySem
open L2
open Dl
open Txt
open TL
/-! the law's turned -/
open PySem
open L2
open Dl
open Txt
open TL
/-! equal entries, equal books -/
open PySem
open L2
open Dl
open Txt
open TL
/-! a drawn lot of a tuple -/
/-! all that is told of a book -/
open PySem
open L2
open Dl
open Txt
open TL
/-! a drawn book, ascending -/
open PySem
open L2
open Dl
open Txt
open TL
open PySem
open L2
open Dl
open Txt
open TL
/-! PL1: what wishes and needs come to, in plain words. -/
structure Sys where
  X : Str → Option Raw
  W : List (Str × List Str)
mutual
/-- a package that is come to -/
inductive CN (S : Sys) : Str → Prop
  | wish {p : Str × List Str} : p ∈ S.W → CN S p.1
  | need {n : Str} {x : Raw} {d : Need} : CN S n → S.X n = some x → d ∈ x.ns → LV S n d.f → CN S d.o
/-- a feature of a package that is come to -/
inductive CF (S : Sys) : Str → Str → Prop
  | wish {p : Str × List Str} {f : Str} : p ∈ S.W → f ∈ p.2 → CF S p.1 f
  | need {n f : Str} {x : Raw} {d : Need} : CN S n → S.X n = some x → d ∈ x.ns → LV S n d.f → f ∈ d.w → CF S d.o f
  | turn {n g f : Str} {x : Raw} : CF S n g → S.X n = some x → f ∈ turnR x g → CF S n f
/-- a need's feature is "" or come to -/
inductive LV (S : Sys) : Str → Str → Prop
  | emp {n : Str} : LV S n ""
  | on {n f : Str} : CF S n f → LV S n f
end
abbrev Asc := List (Str × List Str)
section
variable {α : Type}
def getC : List (Str × α) → Str → Option α
  | [], _ => none
  | (n, l) :: C, m => if n = m then some l else getC C m
def keyC (C : List (Str × α)) : List Str := C.map Prod.fst
theorem get_mem : ∀ {C : List (Str × α)} {m : Str} {l : α}, getC C m = some l → (m, l) ∈ C
  | (n, k) :: C, m, l, h => by
    unfold getC at h
    by_cases c : n = m
    · rw [if_pos c] at h
      cases h
      rw [c]
      exact List.mem_cons_self ..
    · rw [if_neg c] at h
      exact List.mem_cons_of_mem _ (get_mem h)
theorem get_none : ∀ {C : List (Str × α)} {m : Str}, getC C m = none ↔ m ∉ keyC C
  | [], m => by simp [getC, keyC]
  | (n, k) :: C, m => by
    unfold getC
    by_cases c : n = m
    · rw [if_pos c]
      simp [keyC, c]
    · rw [if_neg c, get_none]
      simp [keyC, Ne.symm c]
theorem key_get {C : List (Str × α)} {n : Str} : n ∈ keyC C ↔ ∃ l, getC C n = some l := by
  cases e : getC C n with
  | none => exact ⟨fun h => absurd h (get_none.mp e), fun ⟨_, h⟩ => by cases h⟩
  | some l => exact ⟨fun _ => ⟨l, rfl⟩, fun _ => List.mem_map.mpr ⟨_, get_mem e, rfl⟩⟩
end
/-- a demand is met -/
def Cov (C : Asc) (p : Str × List Str) : Prop := ∃ l, getC C p.1 = some l ∧ ∀ f ∈ p.2, f ∈ l
/-- what is found is sound -/
structure Snd (S : Sys) (C : Asc) : Prop where
  nd : (keyC C).Nodup
  sn : ∀ n ∈ keyC C, CN S n
  sf : ∀ n l, getC C n = some l → UpS l ∧ (∀ f ∈ l, CF S n f) ∧ ∀ x, S.X n = some x → ∀ g ∈ l, ∀ f ∈ turnR x g, f ∈ l
/-- .. and whole -/
structure IsCome (S : Sys) (C : Asc) : Prop extends Snd S C where
  ws : ∀ p ∈ S.W, Cov C p
  cn : ∀ n l, getC C n = some l → ∀ x, S.X n = some x → ∀ d ∈ x.ns, (d.f = "" ∨ d.f ∈ l) → Cov C (d.o, d.w)
section
variable {S : Sys} {C : Asc}
mutual
theorem IsCome.hasN (h : IsCome S C) : ∀ {n : Str}, CN S n → n ∈ keyC C
  | _, .wish hp => by
    obtain ⟨l, h1, _⟩ := h.ws _ hp
    exact key_get.mpr ⟨l, h1⟩
  | _, .need hn hx hd hl => by
    obtain ⟨l, h1⟩ := key_get.mp (h.hasN hn)
    obtain ⟨l2, h2, _⟩ := h.cn _ l h1 _ hx _ hd (h.hasL hl l h1)
    exact key_get.mpr ⟨l2, h2⟩
theorem IsCome.hasF (h : IsCome S C) : ∀ {n f : Str}, CF S n f → ∃ l, getC C n = some l ∧ f ∈ l
  | _, _, .wish hp hf => by
    obtain ⟨l, h1, h2⟩ := h.ws _ hp
    exact ⟨l, h1, h2 _ hf⟩
  | _, _, .need hn hx hd hl hf => by
    obtain ⟨l, h1⟩ := key_get.mp (h.hasN hn)
    obtain ⟨l2, h2, h3⟩ := h.cn _ l h1 _ hx _ hd (h.hasL hl l h1)
    exact ⟨l2, h2, h3 _ hf⟩
  | _, _, .turn hg hx hf => by
    obtain ⟨l, h1, h2⟩ := h.hasF hg
    exact ⟨l, h1, (h.sf _ l h1).2.2 _ hx _ h2 _ hf⟩
theorem IsCome.hasL (h : IsCome S C) : ∀ {n f : Str}, LV S n f → ∀ l, getC C n = some l → f = "" ∨ f ∈ l
  | _, _, .emp, l, _ => .inl rfl
  | _, _, .on hc, l, h1 => by
    obtain ⟨l2, h2, h3⟩ := h.hasF hc
    rw [h1] at h2
    cases h2
    exact .inr h3
end
theorem IsCome.get (h : IsCome S C) {n : Str} {l : List Str} (hl : getC C n = some l) {f : Str} : f ∈ l ↔ CF S n f := ⟨fun z => (h.sf n l hl).2.1 f z, fun z => by
  obtain ⟨l2, h2, h3⟩ := h.hasF z
  rw [hl] at h2
  cases h2
  exact h3⟩
end
open PySem
open L2
open Dl
open Txt
open TL
/-! PL2: a lot closed under what features turn on. -/
open PySem
open L2
open Dl
open Txt
open TL
/-! PL3: dicts by names; the program's small functions. -/
/-! ### installations -/
structure Tri where
  n : Str
  v : Int
  fs : List Str
def Tri.D (t : Tri) : Dl.D := .tup [.str t.n, verD t.v, strsT t.fs]
def namesI (I : List Tri) : List Str := I.map (·.n)
structure TriOk (t : Tri) : Prop where
  n : nameB t.n = true
  v : OkV t.v
  fs : lotB 40000 t.fs = true
/-- a thing of the form of an installation -/
structure InsOk (I : List Tri) : Prop where
  t : ∀ t ∈ I, TriOk t
  up : UpS (namesI I)
  z : I.length ≤ 200
  fz : ∀ t ∈ I, t.fs.length ≤ 20
theorem InsOk.nd {I : List Tri} (h : InsOk I) : (namesI I).Nodup := up_nd h.up
open PySem
open L2
open Dl
open Txt
open TL
/-! PL4: loops that find; the program's faults. -/
section
variable {S : Type} {s : S}
/-- how a piece ends: with what is found, or on with names of that kind -/
def LO (P : DE → Prop) (s : S) (r : Option D) (o : Option (OutS S)) : Prop := match r with
  | some d => o = some (.rt d s)
  | none => ∃ env2, o = some (.nx env2 s) ∧ P env2
theorem LO.mono {P Q : DE → Prop} {r : Option D} {o : Option (OutS S)} (h : LO P s r o) (k : ∀ e, P e → Q e) : LO Q s r o := by
  cases r with
  | some d => exact h
  | none =>
    obtain ⟨e, h1, h2⟩ := h
    exact ⟨e, h1, k e h2⟩
end
/-! ### counted items -/
open PySem
open L2
open Dl
open Txt
open TL
/-! PL5: the program's faults of a thing of the form of an installation. -/
open PySem
open L2
open Dl
open Txt
open TL
/-! PL6: wishes, needs, bars; the first fault of a closed one. -/
open PySem
open L2
open Dl
open Txt
open TL
/-! PL7: closed installations; a step of coming to. -/
/-! ### a step of coming to -/
open PySem
open L2
open Dl
open Txt
open TL
/-! PL8: the program's way of coming to. -/
open PySem
open L2
open Dl
open Txt
open TL
/-! PL9: the program's fault. -/
section
variable {S : Type} {s : S} {B : List Raw} {I : List Tri} {W : List Wish} {L : List (Str × Int)}
/-! ### what nobody wants -/
end
open PySem
open L2
open Dl
open Txt
open TL
/-! PLA: the program's first fault. -/
open PySem
open L2
open Dl
open Txt
open TL
/-! PLB: the law's own small functions and open fault. -/
open PySem
open L2
open Dl
open Txt
open TL
/-! PLC: the law's open fault. -/
open PySem
open L2
open Dl
open Txt
open TL
/-! PLD: the law's coming to, by rounds. -/
open PySem
open L2
open Dl
open Txt
open TL
/-! PLF: what grows from versions held; plain. -/
section
variable {B : List Raw} {I : List Tri} {W : List Wish}
/-! ### demands -/
end
open PySem
open L2
open Dl
open Txt
open TL
/-! PLG: the law's growing. -/
open PySem
open L2
open Dl
open Txt
open TL
/-! PLH: the law's growing, whole. -/
open PySem
open L2
open Dl
open Txt
open TL
/-! PLI: choices, priority and rank: that they are there. -/
open PySem
open L2
open Dl
open Txt
open TL
/-! PLJ: all ways. -/
open PySem
open L2
open Dl
open Txt
open TL
/-! PLK: all right ones; the ways are laid. -/
open PySem
open L2
open Dl
open Txt
open TL
open PySem.W (alike alikeAll AllAlike dataLe)
/-! PLL: all right ones. -/
open PySem
open L2
open Dl
open Txt
open TL
/-! PLM: what is drawn. -/
/-! words for draws -/
section
variable {α : Type} {s : Hand}
theorem draw_w {m : Int} (h0 : 0 < m) (h : m < 2 ^ 62) : ∃ n s', f__law_draw [.hnd, .int m] s = some (.int n, s') ∧ 0 ≤ n ∧ n < m := by
  have h := draw_then (s := s) (m := m) (Q := fun p => ∃ n : Int, p.1 = .int n ∧ 0 ≤ n ∧ n < m) h0 h fun n s' a b => ⟨n, rfl, a, b⟩
  obtain ⟨⟨d, s'⟩, e, n, hd, a, b⟩ := h.get
  have hd : d = .int n := hd
  subst hd
  exact ⟨n, s', e, a, b⟩
end
end K00

set_option Elab.async false
set_option linter.all false
set_option maxRecDepth 100000
set_option maxHeartbeats 4000000
namespace K00
open PySem
open L2
open Dl
open Txt
open TL
/-! the law looks at a thing and itself -/
section
variable {s : Hand}
theorem is_flat {a : D} {n : Nat} {b : Bool} (i1 : isiTD [.tTuple, .tList] a = some (.bl false)) (i2 : isiD .tDict a = some (.bl false)) (i3 : isiD .tBool a = some (.bl b)) (e : eqXD a a = some (.bl true)) : f__law_is (n + 1) [a, a] s = some (.bl true, s) := by
  have eb : eqXD (.bl b) (.bl b) = some (.bl true) := by cases b <;> rfl
  show g__law_is (f__law_is n) [a, a] s = _
  exact w_defR (w_seq (w_skip (w_isT (w_U (w_var rfl) i1))) (w_seq (w_skip (w_isT (w_U (w_var rfl) i2))) (w_ret (w_andP (c := true) (k := true) (w_B (w_U (w_var rfl) i3) (w_U (w_var rfl) i3) eb) fun _ => w_B (w_var rfl) (w_var rfl) e))))
theorem is_seq {a : D} {ds : List D} {n : Nat} {bt bl : Bool} (i1 : isiTD [.tTuple, .tList] a = some (.bl true)) (i2 : isiD .tTuple a = some (.bl bt)) (i3 : isiD .tList a = some (.bl bl)) (hl : lenD [a] = some (.int (ds.length : Int))) (hi : ∀ i : Nat, ixD a (.int (i : Int)) = ds[i]?)
    (hz : ds.length ≤ 1000) (h : ∀ d ∈ ds, f__law_is n [d, d] s = some (.bl true, s)) : f__law_is (n + 1) [a, a] s = some (.bl true, s) := by
  have nt : ∀ b : Bool, relD neP (.bl b) (.bl b) = some (.bl false) := fun b => by cases b <;> rfl
  have ee : eqXD (.int (ds.length : Int)) (.int (ds.length : Int)) = some (.bl true) := by
    show some (D.bl ((ds.length : Int) == (ds.length : Int))) = _
    rw [beq_self_eq_true]
  have ec : compL (gdName 2) mYes (c__law_is_0 (f__law_is n)) [some (.dat a), some (.dat a), none, none] (rngOf 0 ds.length) s = some ((rngOf 0 ds.length).map fun x => .bl ((fun _ => true) x), s) := by
    refine comp_pure fun x hx => ⟨_, rfl, ?_⟩
    unfold rngOf at hx
    obtain ⟨i, hi2, e⟩ := List.mem_map.mp hx
    subst e
    have hi' : i < ds.length := by simpa using hi2
    have e0 : (0 : Int) + (i : Int) = (i : Int) := by omega
    have ei : ixD a (.int (0 + (i : Int))) = some ds[i] := by rw [e0, hi, List.getElem?_eq_getElem hi']
    rw [c__law_is_0_eq]
    exact w_call (w_cons (w_B (w_var rfl) (w_var rfl) ei) (w_cons (w_B (w_var rfl) (w_var rfl) ei) w_nil)) (h _ (List.getElem_mem hi'))
  have ha : allD [.lst ((rngOf 0 ds.length).map fun x => .bl ((fun _ => true) x))] = some (.bl true) := by
    rw [all_map]
    simp
  show g__law_is (f__law_is n) [a, a] s = _
  have hc := comp_is (vs := [2]) (env := [some (.dat a), some (.dat a), none, none]) (rng_is (s := s) (s1 := s) (l := (mCons (mF lenD (mCons (mVar 1) mNil)) mNil : ML Hand)) (k := ds.length) (w_cons (w_F (w_cons (w_var rfl) w_nil) hl) w_nil) (by omega)) ec
  exact w_defR (w_seqR (w_ifT (w_isT (w_U (w_var rfl) i1)) (w_seq (w_skip (w_orF (w_isT (w_B (w_U (w_var rfl) i2) (w_U (w_var rfl) i2) (nt bt))) (w_isT (w_B (w_U (w_var rfl) i3) (w_U (w_var rfl) i3) (nt bl))))) (w_ret (w_andP (c := true) (k := true) (w_B (w_F (w_cons (w_var rfl) w_nil) hl) (w_F (w_cons (w_var rfl) w_nil) hl) ee) fun _ => w_F (w_cons hc w_nil) ha)))))
theorem is_tup {ds : List D} {n : Nat} (hz : ds.length ≤ 1000) (h : ∀ d ∈ ds, f__law_is n [d, d] s = some (.bl true, s)) : f__law_is (n + 1) [.tup ds, .tup ds] s = some (.bl true, s) :=
  is_seq (ds := ds) rfl rfl rfl rfl (fun i => ix_nat) hz h
theorem is_lst {ds : List D} {n : Nat} (hz : ds.length ≤ 1000) (h : ∀ d ∈ ds, f__law_is n [d, d] s = some (.bl true, s)) : f__law_is (n + 1) [.lst ds, .lst ds] s = some (.bl true, s) :=
  is_seq (ds := ds) rfl rfl rfl rfl (fun i => atI_natQ) hz h
theorem is_int {i : Int} {n : Nat} : f__law_is (n + 1) [.int i, .int i] s = some (.bl true, s) := is_flat (b := false) rfl rfl rfl (by
  show some (D.bl (i == i)) = _
  rw [beq_self_eq_true])
theorem is_str {i : Str} {n : Nat} : f__law_is (n + 1) [.str i, .str i] s = some (.bl true, s) := is_flat (b := false) rfl rfl rfl (by
  show relD eqP (.str i) (.str i) = _
  rw [eq_str, beq_self_eq_true])
theorem is_non {n : Nat} : f__law_is (n + 1) [.non, .non] s = some (.bl true, s) := is_flat (b := false) rfl rfl rfl rfl
theorem is_bl {b : Bool} {n : Nat} : f__law_is (n + 1) [.bl b, .bl b] s = some (.bl true, s) := is_flat (b := true) rfl rfl rfl (by cases b <;> rfl)
def dcA : D := .dct [.inr "a"] [.int 1]
theorem is_dct {n : Nat} : f__law_is (n + 2) [dcA, dcA] s = some (.bl true, s) := by
  have e : eqXD dcA dcA = some (.bl true) := by
    unfold dcA
    kernel_rfl
  have g : dgetD dcA (.str "a") = some (.int 1) := by
    unfold dcA
    kernel_rfl
  have ec : compL (gdName 3) mYes (c__law_is_1 (f__law_is (n + 1))) [some (.dat dcA), some (.dat dcA), none, none] ([Sum.inr ("a" : Str)].map keyD) s = some ([.bl true], s) := by
    refine comp_pure (xs := [.str "a"]) (k := fun _ => .bl true) fun x hx => ⟨_, rfl, ?_⟩
    rw [List.mem_singleton.mp hx]
    rw [c__law_is_1_eq]
    exact w_call (w_cons (w_B (w_var rfl) (w_var rfl) g) (w_cons (w_B (w_var rfl) (w_var rfl) g) w_nil)) is_int
  show g__law_is (f__law_is (n + 1)) [dcA, dcA] s = _
  exact w_defR (w_seq (w_skip (w_isT (w_U (w_var rfl) rfl))) (w_seqR (w_ifT (w_isT (w_U (w_var rfl) rfl)) (w_ret (w_andP (c := true) (k := true) (w_U (w_var rfl) rfl) fun _ => w_andP (c := true) (k := true) (w_B (w_var rfl) (w_var rfl) e) fun _ => w_F (w_cons (w_compKy rfl (by decide) ec) w_nil) rfl)))))
def deepN : Nat → D
  | 0 => .non
  | n + 1 => .lst [deepN n]
theorem is_deep : ∀ k n : Nat, f__law_is (k + n + 1) [deepN k, deepN k] s = some (.bl true, s)
  | 0, n => is_non
  | k + 1, n => by
    rw [show k + 1 + n + 1 = (k + n + 1) + 1 by omega]
    exact is_lst (by show 1 ≤ 1000; omega) fun d hd => by
      rw [List.mem_singleton.mp hd]
      exact is_deep k n
/-- the things that are drawn -/
def things : List D := [.str "name", .str "", .int 7, .int (-1), .int 0, .non, .bl true, .tup [.str "need", .int 2], .tup [.int 1, .int 2, .int 3], .lst [.int 1, .lst [.int 2]], dcA, .tup [], .int 100000000000, deepN 36]
theorem things_is {d : D} (h : d ∈ things) : f__law_is 42 [.lst [d], .lst [d]] s = some (.bl true, s) := by
  refine is_lst (by show 1 ≤ 1000; omega) fun x hx => ?_
  rw [List.mem_singleton.mp hx]
  unfold things at h
  simp only [List.mem_cons, List.not_mem_nil, or_false] at h
  rcases h with e | e | e | e | e | e | e | e | e | e | e | e | e | e <;> subst e
  · exact is_str
  · exact is_str
  · exact is_int
  · exact is_int
  · exact is_int
  · exact is_non
  · exact is_bl
  · exact is_tup (by decide) fun d hd => by
      simp only [List.mem_cons, List.not_mem_nil, or_false] at hd
      rcases hd with e | e <;> subst e
      · exact is_str
      · exact is_int
  · exact is_tup (by decide) fun d hd => by
      simp only [List.mem_cons, List.not_mem_nil, or_false] at hd
      rcases hd with e | e | e <;> subst e <;> exact is_int
  · exact is_lst (by decide) fun d hd => by
      simp only [List.mem_cons, List.not_mem_nil, or_false] at hd
      rcases hd with e | e <;> subst e
      · exact is_int
      · exact is_lst (by decide) fun d hd => by
          rw [List.mem_singleton.mp hd]
          exact is_int
  · exact is_dct
  · exact is_tup (by decide) fun d hd => by simp at hd
  · exact is_int
  · exact is_deep 36 4
end
end K00

set_option Elab.async false
set_option linter.all false
set_option maxRecDepth 100000
set_option maxHeartbeats 4000000
namespace K00
open PySem
open L2
open Dl
open Txt
open TL
/-! the classes of an error -/
theorem lookup_map {g : Str → Bool} {c : Str} : ∀ {l : List Str}, c ∈ l → (l.map fun x => (x, g x)).lookup c = some (g c)
  | x :: l, h => by
    rw [List.map_cons, List.lookup_cons]
    by_cases e : c = x
    · subst e
      rw [beq_self_eq_true]
    · rw [beq_eq_false_iff_ne.mpr e]
      exact lookup_map ((List.mem_cons.mp h).resolve_left e)
  | [], h => by cases h
section
variable {s : Hand} {c f : Str} {ds : List D}
theorem isErr_of (hc : c ∈ As) (Y : Str) : isErr (tblOf Y) (.err c f ds) = some (.bl (decide (c = Y))) := by
  show ((As.map fun c => (c, decide (c = Y))).lookup c).map D.bl = _
  rw [lookup_map hc]
  rfl
theorem isErr_T (hc : c ∈ As) : isErr tblT (.err c f ds) = some (.bl true) := by
  show ((As.map fun c => (c, true)).lookup c).map D.bl = _
  rw [lookup_map (g := fun _ => true) hc]
  rfl
theorem cat_is {xs ys : List D} (h : xs.length + ys.length ≤ 100) : addD (.lst xs) (.lst ys) = some (.lst (xs ++ ys)) := by
  show (if xs.length + ys.length ≤ sizeLine then some (D.lst (xs ++ ys)) else none) = _
  rw [if_pos (by rw [sizeLine_eq]; omega)]
theorem lst_is {xs : List D} (h : xs.length ≤ 100) : lstD xs = some (.lst xs) := by
  unfold lstD
  rw [if_pos (by rw [sizeLine_eq]; omega)]
/-- [isinstance(e, A), isinstance(e, B), isinstance(e, C)] -/
theorem threeE {A B C : Str} {i : Nat} {env : DE} (hc : c ∈ As) (hi : env[i]? = some (some (.dat (.err c f ds)))) : (mF lstD (mCons (mU (isErr (tblOf A)) (mVar i)) (mCons (mU (isErr (tblOf B)) (mVar i)) (mCons (mU (isErr (tblOf C)) (mVar i)) mNil))) : ME Hand) env s = some (.lst [.bl (decide (c = A)), .bl (decide (c = B)), .bl (decide (c = C))], s) :=
  w_F (w_cons (w_U (w_var hi) (isErr_of hc A)) (w_cons (w_U (w_var hi) (isErr_of hc B)) (w_cons (w_U (w_var hi) (isErr_of hc C)) w_nil))) (lst_is (by show 3 ≤ 100; omega))
theorem twoE {A B : Str} {i : Nat} {env : DE} (hc : c ∈ As) (hi : env[i]? = some (some (.dat (.err c f ds)))) : (mF lstD (mCons (mU (isErr (tblOf A)) (mVar i)) (mCons (mU (isErr (tblOf B)) (mVar i)) mNil)) : ME Hand) env s = some (.lst [.bl (decide (c = A)), .bl (decide (c = B))], s) :=
  w_F (w_cons (w_U (w_var hi) (isErr_of hc A)) (w_cons (w_U (w_var hi) (isErr_of hc B)) w_nil)) (lst_is (by show 2 ≤ 100; omega))
def fl (c : Str) (l : List Str) : List D := l.map fun Y => .bl (decide (c = Y))
theorem add_fl {c : Str} {l m : List Str} (h : l.length + m.length ≤ 100) : addD (.lst (fl c l)) (.lst (fl c m)) = some (.lst (fl c (l ++ m))) := by
  rw [cat_is (by unfold fl; rw [List.length_map, List.length_map]; exact h)]
  unfold fl
  rw [List.map_append]
/-- _law_found = _law_found + [..] -/
theorem add3 {A B C : Str} {l : List Str} {env : DE} (hc : c ∈ As) (h0 : env[0]? = some (some (.dat (.err c f ds)))) (h1 : env[1]? = some (some (.dat (.lst (fl c l))))) (hl : l.length ≤ 90) :
    (mB addD (mVar 1) (mF lstD (mCons (mU (isErr (tblOf A)) (mVar 0)) (mCons (mU (isErr (tblOf B)) (mVar 0)) (mCons (mU (isErr (tblOf C)) (mVar 0)) mNil)))) : ME Hand) env s = some (.lst (fl c (l ++ [A, B, C])), s) :=
  w_B (w_var h1) (threeE hc h0) (add_fl (m := [A, B, C]) (by show l.length + 3 ≤ 100; omega))
theorem add2 {A B : Str} {l : List Str} {env : DE} (hc : c ∈ As) (h0 : env[0]? = some (some (.dat (.err c f ds)))) (h1 : env[1]? = some (some (.dat (.lst (fl c l))))) (hl : l.length ≤ 90) :
    (mB addD (mVar 1) (mF lstD (mCons (mU (isErr (tblOf A)) (mVar 0)) (mCons (mU (isErr (tblOf B)) (mVar 0)) mNil))) : ME Hand) env s = some (.lst (fl c (l ++ [A, B])), s) :=
  w_B (w_var h1) (twoE hc h0) (add_fl (m := [A, B]) (by show l.length + 2 ≤ 100; omega))
def C1s : List Str := [("BadText" : Str), ("BadEntry" : Str), ("BadBook" : Str)]
theorem first_is (hc : c ∈ As) : f__law_first_classes [.err c f ds] s = some (.lst (fl c (((((C1s ++ [("BadLine" : Str), ("BadQuestion" : Str), ("BadTask" : Str)]) ++ [("BadStep" : Str), ("TooMany" : Str), ("NotFitting" : Str)]) ++ [("NotGiven" : Str), ("NotFirst" : Str), ("NotFetched" : Str)]) ++ [("NoBuild" : Str), ("Ringed" : Str)]))), s) :=
  w_defR (w_seq (w_asg (threeE hc rfl) rfl) (w_seq (w_asg (add3 (l := C1s) hc rfl rfl (by decide)) rfl) (w_seq (w_asg (add3 (l := C1s ++ [("BadLine" : Str), ("BadQuestion" : Str), ("BadTask" : Str)]) hc rfl rfl (by decide)) rfl)
    (w_seq (w_asg (add3 (l := (C1s ++ [("BadLine" : Str), ("BadQuestion" : Str), ("BadTask" : Str)]) ++ [("BadStep" : Str), ("TooMany" : Str), ("NotFitting" : Str)]) hc rfl rfl (by decide)) rfl) (w_ret (add2 (l := ((C1s ++ [("BadLine" : Str), ("BadQuestion" : Str), ("BadTask" : Str)]) ++ [("BadStep" : Str), ("TooMany" : Str), ("NotFitting" : Str)]) ++ [("NotGiven" : Str), ("NotFirst" : Str), ("NotFetched" : Str)]) hc rfl rfl (by decide)))))))
end
end K00

set_option Elab.async false
set_option linter.all false
set_option maxRecDepth 100000
set_option maxHeartbeats 4000000
namespace K00
open PySem
open L2
open Dl
open Txt
open TL
/-! all classes; an error and its number -/
def L1 : List Str := (((C1s ++ [("BadLine" : Str), ("BadQuestion" : Str), ("BadTask" : Str)]) ++ [("BadStep" : Str), ("TooMany" : Str), ("NotFitting" : Str)]) ++ [("NotGiven" : Str), ("NotFirst" : Str), ("NotFetched" : Str)]) ++ [("NoBuild" : Str), ("Ringed" : Str)]
def L2 : List Str := L1 ++ [("NoFeatures" : Str), ("NoEntry" : Str)]
def L3 : List Str := L2 ++ [("NotRight" : Str), ("NotThere" : Str), ("NotClosed" : Str)]
def L4 : List Str := L3 ++ [("NoSource" : Str), ("NoStand" : Str), ("NoGivens" : Str)]
def L5 : List Str := L4 ++ [("NoLiteral" : Str), ("NoPaper" : Str), ("NoSources" : Str)]
def L6 : List Str := L5 ++ [("NoName" : Str), ("NoNumber" : Str), ("NotEntry" : Str)]
def L7 : List Str := L6 ++ [("NotQuestion" : Str), ("NothingDone" : Str), ("NoText" : Str)]
def L8 : List Str := L7 ++ [("NoStart" : Str), ("NoStop" : Str), ("NotSafe" : Str)]
def L9 : List Str := L8 ++ [("NoDeed" : Str), ("NoContents" : Str), ("NoMirrors" : Str)]
def L10 : List Str := L9 ++ [("NoManifest" : Str), ("NoMachine" : Str), ("NoRollout" : Str)]
section
variable {s : Hand} {c f : Str} {ds : List D}
theorem first_is' (hc : c ∈ As) : f__law_first_classes [.err c f ds] s = some (.lst (fl c L1), s) := first_is hc
theorem classes_is (hc : c ∈ As) : f__law_classes [.err c f ds] s = some (.lst (fl c L10), s) :=
  w_defR (w_seq (w_asg (w_B (w_call (w_cons (w_var rfl) w_nil) (first_is' hc)) (twoE hc rfl) (add_fl (l := L1) (m := [("NoFeatures" : Str), ("NoEntry" : Str)]) (by decide))) rfl) (
    w_seq (w_asg (add3 (l := L2) hc rfl rfl (by decide)) rfl) (
    w_seq (w_asg (add3 (l := L3) hc rfl rfl (by decide)) rfl) (
    w_seq (w_asg (add3 (l := L4) hc rfl rfl (by decide)) rfl) (
    w_seq (w_asg (add3 (l := L5) hc rfl rfl (by decide)) rfl) (
    w_seq (w_asg (add3 (l := L6) hc rfl rfl (by decide)) rfl) (
    w_seq (w_asg (add3 (l := L7) hc rfl rfl (by decide)) rfl) (
    w_seq (w_asg (add3 (l := L8) hc rfl rfl (by decide)) rfl) (
    w_ret (add3 (l := L9) hc rfl rfl (by decide)))))))))))
theorem right_is {n : Int} {t : D} (hc : c ∈ As) (hn : ixD (.lst (fl c L10)) (.int n) = some (.bl true)) (hk : countPD (.lst (fl c L10)) (.bl true) = some (.int 1))
    (hr : (mOr (mB (relD gtP) (mVar 1) (mC (.int 13))) (mCall (f__law_is 42) (mCons (mF lstD (mCons (mCall f__law_field (mCons (mVar 0) (mCons (mVar 1) mNil))) mNil)) (mCons (mF lstD (mCons (mVar 2) mNil)) mNil))) : ME Hand) [some (.dat (.err c f ds)), some (.dat (.int n)), some (.dat t), some (.dat (.lst (fl c L10)))] s = some (.bl true, s)) :
    f__law_right [.err c f ds, .int n, t] s = some (.bl true, s) :=
  w_defR (w_seq (w_asg (w_call (w_cons (w_var rfl) w_nil) (classes_is hc)) rfl) (w_seq (w_skip (w_orF (w_not (c := true) (w_isT (w_B (w_var rfl) (w_var rfl) hn))) (w_orF (w_isT (w_B (w_B (w_var rfl) rfl hk) rfl rfl)) (w_isT (w_B (w_F (w_cons (w_var rfl) w_nil) rfl) rfl rfl)))))
    (w_seq (w_skip (w_orF (w_not (c := true) (w_isT (w_U (w_var rfl) (isErr_T hc)))) (w_not (c := true) (w_isT (w_U (w_var rfl) (isErr_T hc)))))) (w_ret hr))))
theorem rightA {n : Int} {t : D} (hc : c ∈ As) (hn : ixD (.lst (fl c L10)) (.int n) = some (.bl true)) (hk : countPD (.lst (fl c L10)) (.bl true) = some (.int 1)) (hg : relD gtP (.int n) (.int 13) = some (.bl false)) (hf : ∀ s, f__law_field [.err c f [t], .int n] s = some (t, s)) (ht : t ∈ things) :
    f__law_right [.err c f [t], .int n, t] s = some (.bl true, s) :=
  right_is hc hn hk (w_orP (c := false) (k := true) (w_B (w_var rfl) rfl hg) fun _ => w_call (w_cons (w_F (w_cons (w_call (w_cons (w_var rfl) (w_cons (w_var rfl) w_nil)) (hf s)) w_nil) rfl) (w_cons (w_F (w_cons (w_var rfl) w_nil) rfl) w_nil)) (things_is ht))
theorem rightB {n : Int} {t : D} (hc : c ∈ As) (hn : ixD (.lst (fl c L10)) (.int n) = some (.bl true)) (hk : countPD (.lst (fl c L10)) (.bl true) = some (.int 1)) (hg : relD gtP (.int n) (.int 13) = some (.bl true)) : f__law_right [.err c f ds, .int n, t] s = some (.bl true, s) :=
  right_is hc hn hk (w_orP (c := true) (k := true) (w_B (w_var rfl) rfl hg) fun h => by cases h)
theorem k_0 : ixD (.lst (fl ("BadText" : Str) L10)) (.int 0) = some (.bl true) ∧ countPD (.lst (fl ("BadText" : Str) L10)) (.bl true) = some (.int 1) ∧ ("BadText" : Str) ∈ As := ⟨by kernel_rfl, by kernel_rfl, by decide +kernel⟩
theorem f_0 {t : D} : f__law_field [.err ("BadText" : Str) ("index" : Str) [t], .int 0] s = some (t, s) := by kernel_rfl
theorem r_0 {t : D} (ht : t ∈ things) : f__law_right [.err ("BadText" : Str) ("index" : Str) [t], .int 0, t] s = some (.bl true, s) := rightA k_0.2.2 k_0.1 k_0.2.1 rfl (fun _ => f_0) ht
theorem k_1 : ixD (.lst (fl ("BadEntry" : Str) L10)) (.int 1) = some (.bl true) ∧ countPD (.lst (fl ("BadEntry" : Str) L10)) (.bl true) = some (.int 1) ∧ ("BadEntry" : Str) ∈ As := ⟨by kernel_rfl, by kernel_rfl, by decide +kernel⟩
theorem f_1 {t : D} : f__law_field [.err ("BadEntry" : Str) ("part" : Str) [t], .int 1] s = some (t, s) := by kernel_rfl
theorem r_1 {t : D} (ht : t ∈ things) : f__law_right [.err ("BadEntry" : Str) ("part" : Str) [t], .int 1, t] s = some (.bl true, s) := rightA k_1.2.2 k_1.1 k_1.2.1 rfl (fun _ => f_1) ht
theorem k_2 : ixD (.lst (fl ("BadBook" : Str) L10)) (.int 2) = some (.bl true) ∧ countPD (.lst (fl ("BadBook" : Str) L10)) (.bl true) = some (.int 1) ∧ ("BadBook" : Str) ∈ As := ⟨by kernel_rfl, by kernel_rfl, by decide +kernel⟩
theorem f_2 {t : D} : f__law_field [.err ("BadBook" : Str) ("index" : Str) [t], .int 2] s = some (t, s) := by kernel_rfl
theorem r_2 {t : D} (ht : t ∈ things) : f__law_right [.err ("BadBook" : Str) ("index" : Str) [t], .int 2, t] s = some (.bl true, s) := rightA k_2.2.2 k_2.1 k_2.2.1 rfl (fun _ => f_2) ht
theorem k_3 : ixD (.lst (fl ("BadLine" : Str) L10)) (.int 3) = some (.bl true) ∧ countPD (.lst (fl ("BadLine" : Str) L10)) (.bl true) = some (.int 1) ∧ ("BadLine" : Str) ∈ As := ⟨by kernel_rfl, by kernel_rfl, by decide +kernel⟩
theorem f_3 {t : D} : f__law_field [.err ("BadLine" : Str) ("number" : Str) [t], .int 3] s = some (t, s) := by kernel_rfl
theorem r_3 {t : D} (ht : t ∈ things) : f__law_right [.err ("BadLine" : Str) ("number" : Str) [t], .int 3, t] s = some (.bl true, s) := rightA k_3.2.2 k_3.1 k_3.2.1 rfl (fun _ => f_3) ht
theorem k_4 : ixD (.lst (fl ("BadQuestion" : Str) L10)) (.int 4) = some (.bl true) ∧ countPD (.lst (fl ("BadQuestion" : Str) L10)) (.bl true) = some (.int 1) ∧ ("BadQuestion" : Str) ∈ As := ⟨by kernel_rfl, by kernel_rfl, by decide +kernel⟩
theorem f_4 {t : D} : f__law_field [.err ("BadQuestion" : Str) ("part" : Str) [t], .int 4] s = some (t, s) := by kernel_rfl
theorem r_4 {t : D} (ht : t ∈ things) : f__law_right [.err ("BadQuestion" : Str) ("part" : Str) [t], .int 4, t] s = some (.bl true, s) := rightA k_4.2.2 k_4.1 k_4.2.1 rfl (fun _ => f_4) ht
theorem k_5 : ixD (.lst (fl ("BadTask" : Str) L10)) (.int 5) = some (.bl true) ∧ countPD (.lst (fl ("BadTask" : Str) L10)) (.bl true) = some (.int 1) ∧ ("BadTask" : Str) ∈ As := ⟨by kernel_rfl, by kernel_rfl, by decide +kernel⟩
theorem f_5 {t : D} : f__law_field [.err ("BadTask" : Str) ("part" : Str) [t], .int 5] s = some (t, s) := by kernel_rfl
theorem r_5 {t : D} (ht : t ∈ things) : f__law_right [.err ("BadTask" : Str) ("part" : Str) [t], .int 5, t] s = some (.bl true, s) := rightA k_5.2.2 k_5.1 k_5.2.1 rfl (fun _ => f_5) ht
theorem k_6 : ixD (.lst (fl ("BadStep" : Str) L10)) (.int 6) = some (.bl true) ∧ countPD (.lst (fl ("BadStep" : Str) L10)) (.bl true) = some (.int 1) ∧ ("BadStep" : Str) ∈ As := ⟨by kernel_rfl, by kernel_rfl, by decide +kernel⟩
theorem f_6 {t : D} : f__law_field [.err ("BadStep" : Str) ("number" : Str) [t], .int 6] s = some (t, s) := by kernel_rfl
theorem r_6 {t : D} (ht : t ∈ things) : f__law_right [.err ("BadStep" : Str) ("number" : Str) [t], .int 6, t] s = some (.bl true, s) := rightA k_6.2.2 k_6.1 k_6.2.1 rfl (fun _ => f_6) ht
theorem k_7 : ixD (.lst (fl ("TooMany" : Str) L10)) (.int 7) = some (.bl true) ∧ countPD (.lst (fl ("TooMany" : Str) L10)) (.bl true) = some (.int 1) ∧ ("TooMany" : Str) ∈ As := ⟨by kernel_rfl, by kernel_rfl, by decide +kernel⟩
theorem f_7 {t : D} : f__law_field [.err ("TooMany" : Str) ("most" : Str) [t], .int 7] s = some (t, s) := by kernel_rfl
theorem r_7 {t : D} (ht : t ∈ things) : f__law_right [.err ("TooMany" : Str) ("most" : Str) [t], .int 7, t] s = some (.bl true, s) := rightA k_7.2.2 k_7.1 k_7.2.1 rfl (fun _ => f_7) ht
theorem k_8 : ixD (.lst (fl ("NotFitting" : Str) L10)) (.int 8) = some (.bl true) ∧ countPD (.lst (fl ("NotFitting" : Str) L10)) (.bl true) = some (.int 1) ∧ ("NotFitting" : Str) ∈ As := ⟨by kernel_rfl, by kernel_rfl, by decide +kernel⟩
theorem f_8 {t : D} : f__law_field [.err ("NotFitting" : Str) ("source" : Str) [t], .int 8] s = some (t, s) := by kernel_rfl
theorem r_8 {t : D} (ht : t ∈ things) : f__law_right [.err ("NotFitting" : Str) ("source" : Str) [t], .int 8, t] s = some (.bl true, s) := rightA k_8.2.2 k_8.1 k_8.2.1 rfl (fun _ => f_8) ht
theorem k_9 : ixD (.lst (fl ("NotGiven" : Str) L10)) (.int 9) = some (.bl true) ∧ countPD (.lst (fl ("NotGiven" : Str) L10)) (.bl true) = some (.int 1) ∧ ("NotGiven" : Str) ∈ As := ⟨by kernel_rfl, by kernel_rfl, by decide +kernel⟩
theorem f_9 {t : D} : f__law_field [.err ("NotGiven" : Str) ("literal" : Str) [t], .int 9] s = some (t, s) := by kernel_rfl
theorem r_9 {t : D} (ht : t ∈ things) : f__law_right [.err ("NotGiven" : Str) ("literal" : Str) [t], .int 9, t] s = some (.bl true, s) := rightA k_9.2.2 k_9.1 k_9.2.1 rfl (fun _ => f_9) ht
theorem k_10 : ixD (.lst (fl ("NotFirst" : Str) L10)) (.int 10) = some (.bl true) ∧ countPD (.lst (fl ("NotFirst" : Str) L10)) (.bl true) = some (.int 1) ∧ ("NotFirst" : Str) ∈ As := ⟨by kernel_rfl, by kernel_rfl, by decide +kernel⟩
theorem f_10 {t : D} : f__law_field [.err ("NotFirst" : Str) ("place" : Str) [t], .int 10] s = some (t, s) := by kernel_rfl
theorem r_10 {t : D} (ht : t ∈ things) : f__law_right [.err ("NotFirst" : Str) ("place" : Str) [t], .int 10, t] s = some (.bl true, s) := rightA k_10.2.2 k_10.1 k_10.2.1 rfl (fun _ => f_10) ht
theorem k_11 : ixD (.lst (fl ("NotFetched" : Str) L10)) (.int 11) = some (.bl true) ∧ countPD (.lst (fl ("NotFetched" : Str) L10)) (.bl true) = some (.int 1) ∧ ("NotFetched" : Str) ∈ As := ⟨by kernel_rfl, by kernel_rfl, by decide +kernel⟩
theorem f_11 {t : D} : f__law_field [.err ("NotFetched" : Str) ("pair" : Str) [t], .int 11] s = some (t, s) := by kernel_rfl
theorem r_11 {t : D} (ht : t ∈ things) : f__law_right [.err ("NotFetched" : Str) ("pair" : Str) [t], .int 11, t] s = some (.bl true, s) := rightA k_11.2.2 k_11.1 k_11.2.1 rfl (fun _ => f_11) ht
theorem k_12 : ixD (.lst (fl ("NoBuild" : Str) L10)) (.int 12) = some (.bl true) ∧ countPD (.lst (fl ("NoBuild" : Str) L10)) (.bl true) = some (.int 1) ∧ ("NoBuild" : Str) ∈ As := ⟨by kernel_rfl, by kernel_rfl, by decide +kernel⟩
theorem f_12 {t : D} : f__law_field [.err ("NoBuild" : Str) ("name" : Str) [t], .int 12] s = some (t, s) := by kernel_rfl
theorem r_12 {t : D} (ht : t ∈ things) : f__law_right [.err ("NoBuild" : Str) ("name" : Str) [t], .int 12, t] s = some (.bl true, s) := rightA k_12.2.2 k_12.1 k_12.2.1 rfl (fun _ => f_12) ht
theorem k_13 : ixD (.lst (fl ("Ringed" : Str) L10)) (.int 13) = some (.bl true) ∧ countPD (.lst (fl ("Ringed" : Str) L10)) (.bl true) = some (.int 1) ∧ ("Ringed" : Str) ∈ As := ⟨by kernel_rfl, by kernel_rfl, by decide +kernel⟩
theorem f_13 {t : D} : f__law_field [.err ("Ringed" : Str) ("names" : Str) [t], .int 13] s = some (t, s) := by kernel_rfl
theorem r_13 {t : D} (ht : t ∈ things) : f__law_right [.err ("Ringed" : Str) ("names" : Str) [t], .int 13, t] s = some (.bl true, s) := rightA k_13.2.2 k_13.1 k_13.2.1 rfl (fun _ => f_13) ht
theorem k_14 : ixD (.lst (fl ("NoFeatures" : Str) L10)) (.int 14) = some (.bl true) ∧ countPD (.lst (fl ("NoFeatures" : Str) L10)) (.bl true) = some (.int 1) ∧ ("NoFeatures" : Str) ∈ As := ⟨by kernel_rfl, by kernel_rfl, by decide +kernel⟩
theorem r_14 : f__law_right [.err ("NoFeatures" : Str) Str.empty [], .int 14, .non] s = some (.bl true, s) := rightB k_14.2.2 k_14.1 k_14.2.1 rfl
theorem k_15 : ixD (.lst (fl ("NoEntry" : Str) L10)) (.int 15) = some (.bl true) ∧ countPD (.lst (fl ("NoEntry" : Str) L10)) (.bl true) = some (.int 1) ∧ ("NoEntry" : Str) ∈ As := ⟨by kernel_rfl, by kernel_rfl, by decide +kernel⟩
theorem r_15 : f__law_right [.err ("NoEntry" : Str) Str.empty [], .int 15, .non] s = some (.bl true, s) := rightB k_15.2.2 k_15.1 k_15.2.1 rfl
theorem k_16 : ixD (.lst (fl ("NotRight" : Str) L10)) (.int 16) = some (.bl true) ∧ countPD (.lst (fl ("NotRight" : Str) L10)) (.bl true) = some (.int 1) ∧ ("NotRight" : Str) ∈ As := ⟨by kernel_rfl, by kernel_rfl, by decide +kernel⟩
theorem r_16 : f__law_right [.err ("NotRight" : Str) Str.empty [], .int 16, .non] s = some (.bl true, s) := rightB k_16.2.2 k_16.1 k_16.2.1 rfl
theorem k_17 : ixD (.lst (fl ("NotThere" : Str) L10)) (.int 17) = some (.bl true) ∧ countPD (.lst (fl ("NotThere" : Str) L10)) (.bl true) = some (.int 1) ∧ ("NotThere" : Str) ∈ As := ⟨by kernel_rfl, by kernel_rfl, by decide +kernel⟩
theorem r_17 : f__law_right [.err ("NotThere" : Str) Str.empty [], .int 17, .non] s = some (.bl true, s) := rightB k_17.2.2 k_17.1 k_17.2.1 rfl
theorem k_18 : ixD (.lst (fl ("NotClosed" : Str) L10)) (.int 18) = some (.bl true) ∧ countPD (.lst (fl ("NotClosed" : Str) L10)) (.bl true) = some (.int 1) ∧ ("NotClosed" : Str) ∈ As := ⟨by kernel_rfl, by kernel_rfl, by decide +kernel⟩
theorem r_18 : f__law_right [.err ("NotClosed" : Str) Str.empty [], .int 18, .non] s = some (.bl true, s) := rightB k_18.2.2 k_18.1 k_18.2.1 rfl
theorem k_19 : ixD (.lst (fl ("NoSource" : Str) L10)) (.int 19) = some (.bl true) ∧ countPD (.lst (fl ("NoSource" : Str) L10)) (.bl true) = some (.int 1) ∧ ("NoSource" : Str) ∈ As := ⟨by kernel_rfl, by kernel_rfl, by decide +kernel⟩
theorem r_19 : f__law_right [.err ("NoSource" : Str) Str.empty [], .int 19, .non] s = some (.bl true, s) := rightB k_19.2.2 k_19.1 k_19.2.1 rfl
theorem k_20 : ixD (.lst (fl ("NoStand" : Str) L10)) (.int 20) = some (.bl true) ∧ countPD (.lst (fl ("NoStand" : Str) L10)) (.bl true) = some (.int 1) ∧ ("NoStand" : Str) ∈ As := ⟨by kernel_rfl, by kernel_rfl, by decide +kernel⟩
theorem r_20 : f__law_right [.err ("NoStand" : Str) Str.empty [], .int 20, .non] s = some (.bl true, s) := rightB k_20.2.2 k_20.1 k_20.2.1 rfl
theorem k_21 : ixD (.lst (fl ("NoGivens" : Str) L10)) (.int 21) = some (.bl true) ∧ countPD (.lst (fl ("NoGivens" : Str) L10)) (.bl true) = some (.int 1) ∧ ("NoGivens" : Str) ∈ As := ⟨by kernel_rfl, by kernel_rfl, by decide +kernel⟩
theorem r_21 : f__law_right [.err ("NoGivens" : Str) Str.empty [], .int 21, .non] s = some (.bl true, s) := rightB k_21.2.2 k_21.1 k_21.2.1 rfl
theorem k_22 : ixD (.lst (fl ("NoLiteral" : Str) L10)) (.int 22) = some (.bl true) ∧ countPD (.lst (fl ("NoLiteral" : Str) L10)) (.bl true) = some (.int 1) ∧ ("NoLiteral" : Str) ∈ As := ⟨by kernel_rfl, by kernel_rfl, by decide +kernel⟩
theorem r_22 : f__law_right [.err ("NoLiteral" : Str) Str.empty [], .int 22, .non] s = some (.bl true, s) := rightB k_22.2.2 k_22.1 k_22.2.1 rfl
theorem k_23 : ixD (.lst (fl ("NoPaper" : Str) L10)) (.int 23) = some (.bl true) ∧ countPD (.lst (fl ("NoPaper" : Str) L10)) (.bl true) = some (.int 1) ∧ ("NoPaper" : Str) ∈ As := ⟨by kernel_rfl, by kernel_rfl, by decide +kernel⟩
theorem r_23 : f__law_right [.err ("NoPaper" : Str) Str.empty [], .int 23, .non] s = some (.bl true, s) := rightB k_23.2.2 k_23.1 k_23.2.1 rfl
theorem k_24 : ixD (.lst (fl ("NoSources" : Str) L10)) (.int 24) = some (.bl true) ∧ countPD (.lst (fl ("NoSources" : Str) L10)) (.bl true) = some (.int 1) ∧ ("NoSources" : Str) ∈ As := ⟨by kernel_rfl, by kernel_rfl, by decide +kernel⟩
theorem r_24 : f__law_right [.err ("NoSources" : Str) Str.empty [], .int 24, .non] s = some (.bl true, s) := rightB k_24.2.2 k_24.1 k_24.2.1 rfl
theorem k_25 : ixD (.lst (fl ("NoName" : Str) L10)) (.int 25) = some (.bl true) ∧ countPD (.lst (fl ("NoName" : Str) L10)) (.bl true) = some (.int 1) ∧ ("NoName" : Str) ∈ As := ⟨by kernel_rfl, by kernel_rfl, by decide +kernel⟩
theorem r_25 : f__law_right [.err ("NoName" : Str) Str.empty [], .int 25, .non] s = some (.bl true, s) := rightB k_25.2.2 k_25.1 k_25.2.1 rfl
theorem k_26 : ixD (.lst (fl ("NoNumber" : Str) L10)) (.int 26) = some (.bl true) ∧ countPD (.lst (fl ("NoNumber" : Str) L10)) (.bl true) = some (.int 1) ∧ ("NoNumber" : Str) ∈ As := ⟨by kernel_rfl, by kernel_rfl, by decide +kernel⟩
theorem r_26 : f__law_right [.err ("NoNumber" : Str) Str.empty [], .int 26, .non] s = some (.bl true, s) := rightB k_26.2.2 k_26.1 k_26.2.1 rfl
theorem k_27 : ixD (.lst (fl ("NotEntry" : Str) L10)) (.int 27) = some (.bl true) ∧ countPD (.lst (fl ("NotEntry" : Str) L10)) (.bl true) = some (.int 1) ∧ ("NotEntry" : Str) ∈ As := ⟨by kernel_rfl, by kernel_rfl, by decide +kernel⟩
theorem r_27 : f__law_right [.err ("NotEntry" : Str) Str.empty [], .int 27, .non] s = some (.bl true, s) := rightB k_27.2.2 k_27.1 k_27.2.1 rfl
theorem k_28 : ixD (.lst (fl ("NotQuestion" : Str) L10)) (.int 28) = some (.bl true) ∧ countPD (.lst (fl ("NotQuestion" : Str) L10)) (.bl true) = some (.int 1) ∧ ("NotQuestion" : Str) ∈ As := ⟨by kernel_rfl, by kernel_rfl, by decide +kernel⟩
theorem r_28 : f__law_right [.err ("NotQuestion" : Str) Str.empty [], .int 28, .non] s = some (.bl true, s) := rightB k_28.2.2 k_28.1 k_28.2.1 rfl
theorem k_29 : ixD (.lst (fl ("NothingDone" : Str) L10)) (.int 29) = some (.bl true) ∧ countPD (.lst (fl ("NothingDone" : Str) L10)) (.bl true) = some (.int 1) ∧ ("NothingDone" : Str) ∈ As := ⟨by kernel_rfl, by kernel_rfl, by decide +kernel⟩
theorem r_29 : f__law_right [.err ("NothingDone" : Str) Str.empty [], .int 29, .non] s = some (.bl true, s) := rightB k_29.2.2 k_29.1 k_29.2.1 rfl
theorem k_30 : ixD (.lst (fl ("NoText" : Str) L10)) (.int 30) = some (.bl true) ∧ countPD (.lst (fl ("NoText" : Str) L10)) (.bl true) = some (.int 1) ∧ ("NoText" : Str) ∈ As := ⟨by kernel_rfl, by kernel_rfl, by decide +kernel⟩
theorem r_30 : f__law_right [.err ("NoText" : Str) Str.empty [], .int 30, .non] s = some (.bl true, s) := rightB k_30.2.2 k_30.1 k_30.2.1 rfl
theorem k_31 : ixD (.lst (fl ("NoStart" : Str) L10)) (.int 31) = some (.bl true) ∧ countPD (.lst (fl ("NoStart" : Str) L10)) (.bl true) = some (.int 1) ∧ ("NoStart" : Str) ∈ As := ⟨by kernel_rfl, by kernel_rfl, by decide +kernel⟩
theorem r_31 : f__law_right [.err ("NoStart" : Str) Str.empty [], .int 31, .non] s = some (.bl true, s) := rightB k_31.2.2 k_31.1 k_31.2.1 rfl
theorem k_32 : ixD (.lst (fl ("NoStop" : Str) L10)) (.int 32) = some (.bl true) ∧ countPD (.lst (fl ("NoStop" : Str) L10)) (.bl true) = some (.int 1) ∧ ("NoStop" : Str) ∈ As := ⟨by kernel_rfl, by kernel_rfl, by decide +kernel⟩
theorem r_32 : f__law_right [.err ("NoStop" : Str) Str.empty [], .int 32, .non] s = some (.bl true, s) := rightB k_32.2.2 k_32.1 k_32.2.1 rfl
theorem k_33 : ixD (.lst (fl ("NotSafe" : Str) L10)) (.int 33) = some (.bl true) ∧ countPD (.lst (fl ("NotSafe" : Str) L10)) (.bl true) = some (.int 1) ∧ ("NotSafe" : Str) ∈ As := ⟨by kernel_rfl, by kernel_rfl, by decide +kernel⟩
theorem r_33 : f__law_right [.err ("NotSafe" : Str) Str.empty [], .int 33, .non] s = some (.bl true, s) := rightB k_33.2.2 k_33.1 k_33.2.1 rfl
theorem k_34 : ixD (.lst (fl ("NoDeed" : Str) L10)) (.int 34) = some (.bl true) ∧ countPD (.lst (fl ("NoDeed" : Str) L10)) (.bl true) = some (.int 1) ∧ ("NoDeed" : Str) ∈ As := ⟨by kernel_rfl, by kernel_rfl, by decide +kernel⟩
theorem r_34 : f__law_right [.err ("NoDeed" : Str) Str.empty [], .int 34, .non] s = some (.bl true, s) := rightB k_34.2.2 k_34.1 k_34.2.1 rfl
theorem k_35 : ixD (.lst (fl ("NoContents" : Str) L10)) (.int 35) = some (.bl true) ∧ countPD (.lst (fl ("NoContents" : Str) L10)) (.bl true) = some (.int 1) ∧ ("NoContents" : Str) ∈ As := ⟨by kernel_rfl, by kernel_rfl, by decide +kernel⟩
theorem r_35 : f__law_right [.err ("NoContents" : Str) Str.empty [], .int 35, .non] s = some (.bl true, s) := rightB k_35.2.2 k_35.1 k_35.2.1 rfl
theorem k_36 : ixD (.lst (fl ("NoMirrors" : Str) L10)) (.int 36) = some (.bl true) ∧ countPD (.lst (fl ("NoMirrors" : Str) L10)) (.bl true) = some (.int 1) ∧ ("NoMirrors" : Str) ∈ As := ⟨by kernel_rfl, by kernel_rfl, by decide +kernel⟩
theorem r_36 : f__law_right [.err ("NoMirrors" : Str) Str.empty [], .int 36, .non] s = some (.bl true, s) := rightB k_36.2.2 k_36.1 k_36.2.1 rfl
theorem k_37 : ixD (.lst (fl ("NoManifest" : Str) L10)) (.int 37) = some (.bl true) ∧ countPD (.lst (fl ("NoManifest" : Str) L10)) (.bl true) = some (.int 1) ∧ ("NoManifest" : Str) ∈ As := ⟨by kernel_rfl, by kernel_rfl, by decide +kernel⟩
theorem r_37 : f__law_right [.err ("NoManifest" : Str) Str.empty [], .int 37, .non] s = some (.bl true, s) := rightB k_37.2.2 k_37.1 k_37.2.1 rfl
theorem k_38 : ixD (.lst (fl ("NoMachine" : Str) L10)) (.int 38) = some (.bl true) ∧ countPD (.lst (fl ("NoMachine" : Str) L10)) (.bl true) = some (.int 1) ∧ ("NoMachine" : Str) ∈ As := ⟨by kernel_rfl, by kernel_rfl, by decide +kernel⟩
theorem r_38 : f__law_right [.err ("NoMachine" : Str) Str.empty [], .int 38, .non] s = some (.bl true, s) := rightB k_38.2.2 k_38.1 k_38.2.1 rfl
theorem k_39 : ixD (.lst (fl ("NoRollout" : Str) L10)) (.int 39) = some (.bl true) ∧ countPD (.lst (fl ("NoRollout" : Str) L10)) (.bl true) = some (.int 1) ∧ ("NoRollout" : Str) ∈ As := ⟨by kernel_rfl, by kernel_rfl, by decide +kernel⟩
theorem r_39 : f__law_right [.err ("NoRollout" : Str) Str.empty [], .int 39, .non] s = some (.bl true, s) := rightB k_39.2.2 k_39.1 k_39.2.1 rfl
end
end K00

set_option Elab.async false
set_option linter.all false
set_option maxRecDepth 100000
set_option maxHeartbeats 4000000
namespace K00
open PySem
open L2
open Dl
open Txt
open TL
/-! the law -/
def chain (rest : MS Hand) : MS Hand := (sSeq (sOwn 4 (mCons (mErr "BadText" "index" (mB ixD (mVar 3) (mC (.int 0)))) (mCons (mErr "BadEntry" "part" (mB ixD (mVar 3) (mC (.int 1)))) (mCons (mErr "BadBook" "index" (mB ixD (mVar 3) (mC (.int 2)))) (mCons (mErr "BadLine" "number" (mB ixD (mVar 3) (mC (.int 3)))) (mCons (mErr "BadQuestion" "part" (mB ixD (mVar 3) (mC (.int 4)))) mNil)))))) (sFrz 4 (sSeq (sOwnP 4 (mVar 4) (mF lstD (mCons (mErr "BadTask" "part" (mB ixD (mVar 3) (mC (.int 5)))) (mCons (mErr "BadStep" "number" (mB ixD (mVar 3) (mC (.int 6)))) (mCons (mErr "TooMany" "most" (mB ixD (mVar 3) (mC (.int 7)))) (mCons (mErr "NotFitting" "source" (mB ixD (mVar 3) (mC (.int 8)))) (mCons (mErr "NotGiven" "literal" (mB ixD (mVar 3) (mC (.int 9)))) mNil))))))) (sFrz 4 (sSeq (sOwnP 4 (mVar 4) (mF lstD (mCons (mErr "NotFirst" "place" (mB ixD (mVar 3) (mC (.int 10)))) (mCons (mErr "NotFetched" "pair" (mB ixD (mVar 3) (mC (.int 11)))) (mCons (mErr "NoBuild" "name" (mB ixD (mVar 3) (mC (.int 12)))) (mCons (mErr "Ringed" "names" (mB ixD (mVar 3) (mC (.int 13)))) (mCons (mErr0 "NoFeatures") mNil))))))) (sFrz 4 (sSeq (sOwnP 4 (mVar 4) (mF lstD (mCons (mErr0 "NoEntry") (mCons (mErr0 "NotRight") (mCons (mErr0 "NotThere") (mCons (mErr0 "NotClosed") (mCons (mErr0 "NoSource") (mCons (mErr0 "NoStand") (mCons (mErr0 "NoGivens") (mCons (mErr0 "NoLiteral") mNil)))))))))) (sFrz 4 (sSeq (sOwnP 4 (mVar 4) (mF lstD (mCons (mErr0 "NoPaper") (mCons (mErr0 "NoSources") (mCons (mErr0 "NoName") (mCons (mErr0 "NoNumber") (mCons (mErr0 "NotEntry") (mCons (mErr0 "NotQuestion") (mCons (mErr0 "NothingDone") (mCons (mErr0 "NoText") mNil)))))))))) (sFrz 4 (sSeq (sOwnP 4 (mVar 4) (mF lstD (mCons (mErr0 "NoStart") (mCons (mErr0 "NoStop") (mCons (mErr0 "NotSafe") (mCons (mErr0 "NoDeed") (mCons (mErr0 "NoContents") (mCons (mErr0 "NoMirrors") (mCons (mErr0 "NoManifest") (mCons (mErr0 "NoMachine") mNil)))))))))) (sSeq (sApp 4 (mErr0 "NoRollout")) (sFrz 4 rest)))))))))))))
noncomputable def rest1 : MS Hand := (sSeq (sFor (mIt2 enumLItems (mCons (mVar 4) mNil)) (gdTup 2 (gdCons (gdName 8) (gdCons (gdName 9) gdNil))) b_law_0) (sSeq (sAsg (gdName 5) (mCall f__law_draw (mCons (mVar 1) (mCons (mC (.int 4)) mNil)))) (sSeq (sAsg (gdName 6) (mF lstD (mCons (mC (.int 0)) (mCons (mC (.int 3)) (mCons (mC (.int 13)) (mCons (mC (.int 8)) mNil)))))) (sSeq (sAsg (gdName 7) (mMake f_Book (mCons (mF tupD mNil) mNil))) (sRet (mAnd (mCmpI false "Book" f_Book__eq (mU (fldErr errsL "part") (mErr "BadEntry" "part" (mVar 7))) (mVar 7)) (mCall (f__law_is 42) (mCons (mF lstD (mCons (mCall f__law_raised (mCons (mVar 5) (mCons (mB ixD (mVar 3) (mB ixD (mVar 6) (mVar 5))) mNil))) mNil)) (mCons (mF lstD (mCons (mB ixD (mVar 3) (mB ixD (mVar 6) (mVar 5))) mNil)) mNil)))))))))
theorem law_eq : m_law = sSeq (sAsg (gdName 2) (mF lstD (mCons (mC (.str "name")) (mCons (mC (.str "")) (mCons (mC (.int 7)) (mCons (mU negD (mC (.int 1))) (mCons (mC (.int 0)) (mCons (mC .non) (mCons (mC (.bl true)) (mCons (mF tupD (mCons (mC (.str "need")) (mCons (mC (.int 2)) mNil))) (mCons (mF tupD (mCons (mC (.int 1)) (mCons (mC (.int 2)) (mCons (mC (.int 3)) mNil)))) (mCons (mF lstD (mCons (mC (.int 1)) (mCons (mF lstD (mCons (mC (.int 2)) mNil)) mNil))) (mCons (mDisp ["a"] (mCons (mC (.int 1)) mNil)) (mCons (mF tupD mNil) (mCons (mB powD (mC (.int 10)) (mC (.int 11))) (mCons (mCall f__law_deep (mCons (mC (.int 0)) mNil)) mNil)))))))))))))))) (sSeq (sAsg (gdName 3) (mComp (mRng rng1D (mCons (mC (.int 14)) mNil)) (gdName 8) mYes c_law_0 [8])) (chain rest1)) := rfl
section
variable {s : Hand} {t0 t1 t2 t3 t4 t5 t6 t7 t8 t9 t10 t11 t12 t13 : D}
abbrev toldL (t0 t1 t2 t3 t4 t5 t6 t7 t8 t9 t10 t11 t12 t13 : D) : List D := [t0, t1, t2, t3, t4, t5, t6, t7, t8, t9, t10, t11, t12, t13]
def errsL0 (t0 t1 t2 t3 t4 t5 t6 t7 t8 t9 t10 t11 t12 t13 : D) : List D := [.err "BadText" "index" [t0], .err "BadEntry" "part" [t1], .err "BadBook" "index" [t2], .err "BadLine" "number" [t3], .err "BadQuestion" "part" [t4], .err "BadTask" "part" [t5], .err "BadStep" "number" [t6], .err "TooMany" "most" [t7], .err "NotFitting" "source" [t8], .err "NotGiven" "literal" [t9], .err "NotFirst" "place" [t10], .err "NotFetched" "pair" [t11], .err "NoBuild" "name" [t12], .err "Ringed" "names" [t13], .err "NoFeatures" Str.empty [], .err "NoEntry" Str.empty [], .err "NotRight" Str.empty [], .err "NotThere" Str.empty [], .err "NotClosed" Str.empty [], .err "NoSource" Str.empty [], .err "NoStand" Str.empty [], .err "NoGivens" Str.empty [], .err "NoLiteral" Str.empty [], .err "NoPaper" Str.empty [], .err "NoSources" Str.empty [], .err "NoName" Str.empty [], .err "NoNumber" Str.empty [], .err "NotEntry" Str.empty [], .err "NotQuestion" Str.empty [], .err "NothingDone" Str.empty [], .err "NoText" Str.empty [], .err "NoStart" Str.empty [], .err "NoStop" Str.empty [], .err "NotSafe" Str.empty [], .err "NoDeed" Str.empty [], .err "NoContents" Str.empty [], .err "NoMirrors" Str.empty [], .err "NoManifest" Str.empty [], .err "NoMachine" Str.empty [], .err "NoRollout" Str.empty []]
def eL (t0 t1 t2 t3 t4 t5 t6 t7 t8 t9 t10 t11 t12 t13 : D) (e5 e6 e7 e8 e9 : Option Slot) : DE := [none, some (.dat .hnd), some (.dat (.lst things)), some (.dat (.lst (toldL t0 t1 t2 t3 t4 t5 t6 t7 t8 t9 t10 t11 t12 t13))), some (.dat (.lst (errsL0 t0 t1 t2 t3 t4 t5 t6 t7 t8 t9 t10 t11 t12 t13))), e5, e6, e7, e8, e9]
theorem things_made {env : DE} : ((mF lstD (mCons (mC (.str "name")) (mCons (mC (.str "")) (mCons (mC (.int 7)) (mCons (mU negD (mC (.int 1))) (mCons (mC (.int 0)) (mCons (mC .non) (mCons (mC (.bl true)) (mCons (mF tupD (mCons (mC (.str "need")) (mCons (mC (.int 2)) mNil))) (mCons (mF tupD (mCons (mC (.int 1)) (mCons (mC (.int 2)) (mCons (mC (.int 3)) mNil)))) (mCons (mF lstD (mCons (mC (.int 1)) (mCons (mF lstD (mCons (mC (.int 2)) mNil)) mNil))) (mCons (mDisp ["a"] (mCons (mC (.int 1)) mNil)) (mCons (mF tupD mNil) (mCons (mB powD (mC (.int 10)) (mC (.int 11))) (mCons (mCall f__law_deep (mCons (mC (.int 0)) mNil)) mNil))))))))))))))) : ME Hand) env s = some (.lst things, s) := by kernel_rfl
theorem chain_is {e8 : Option Slot} {rest : MS Hand} : chain rest [none, some (.dat .hnd), some (.dat (.lst things)), some (.dat (.lst (toldL t0 t1 t2 t3 t4 t5 t6 t7 t8 t9 t10 t11 t12 t13))), none, none, none, none, e8, none] s = rest (eL t0 t1 t2 t3 t4 t5 t6 t7 t8 t9 t10 t11 t12 t13 none none none e8 none) s := by kernel_rfl
theorem items_are : enumLItems [.lst (errsL0 t0 t1 t2 t3 t4 t5 t6 t7 t8 t9 t10 t11 t12 t13)] = some [.tup [.int 0, .err "BadText" "index" [t0]], .tup [.int 1, .err "BadEntry" "part" [t1]], .tup [.int 2, .err "BadBook" "index" [t2]], .tup [.int 3, .err "BadLine" "number" [t3]], .tup [.int 4, .err "BadQuestion" "part" [t4]], .tup [.int 5, .err "BadTask" "part" [t5]], .tup [.int 6, .err "BadStep" "number" [t6]], .tup [.int 7, .err "TooMany" "most" [t7]], .tup [.int 8, .err "NotFitting" "source" [t8]], .tup [.int 9, .err "NotGiven" "literal" [t9]], .tup [.int 10, .err "NotFirst" "place" [t10]], .tup [.int 11, .err "NotFetched" "pair" [t11]], .tup [.int 12, .err "NoBuild" "name" [t12]], .tup [.int 13, .err "Ringed" "names" [t13]], .tup [.int 14, .err "NoFeatures" Str.empty []], .tup [.int 15, .err "NoEntry" Str.empty []], .tup [.int 16, .err "NotRight" Str.empty []], .tup [.int 17, .err "NotThere" Str.empty []], .tup [.int 18, .err "NotClosed" Str.empty []], .tup [.int 19, .err "NoSource" Str.empty []], .tup [.int 20, .err "NoStand" Str.empty []], .tup [.int 21, .err "NoGivens" Str.empty []], .tup [.int 22, .err "NoLiteral" Str.empty []], .tup [.int 23, .err "NoPaper" Str.empty []], .tup [.int 24, .err "NoSources" Str.empty []], .tup [.int 25, .err "NoName" Str.empty []], .tup [.int 26, .err "NoNumber" Str.empty []], .tup [.int 27, .err "NotEntry" Str.empty []], .tup [.int 28, .err "NotQuestion" Str.empty []], .tup [.int 29, .err "NothingDone" Str.empty []], .tup [.int 30, .err "NoText" Str.empty []], .tup [.int 31, .err "NoStart" Str.empty []], .tup [.int 32, .err "NoStop" Str.empty []], .tup [.int 33, .err "NotSafe" Str.empty []], .tup [.int 34, .err "NoDeed" Str.empty []], .tup [.int 35, .err "NoContents" Str.empty []], .tup [.int 36, .err "NoMirrors" Str.empty []], .tup [.int 37, .err "NoManifest" Str.empty []], .tup [.int 38, .err "NoMachine" Str.empty []], .tup [.int 39, .err "NoRollout" Str.empty []]] := by kernel_rfl
theorem bodyA {n : Int} {c f : Str} {t : D} {e5 e6 e7 : Option Slot} (hlt : relD ltP (.int n) (.int 14) = some (.bl true)) (ht : ixD (.lst (toldL t0 t1 t2 t3 t4 t5 t6 t7 t8 t9 t10 t11 t12 t13)) (.int n) = some t) (hr : ∀ s, f__law_right [.err c f [t], .int n, t] s = some (.bl true, s)) :
    b_law_0 (eL t0 t1 t2 t3 t4 t5 t6 t7 t8 t9 t10 t11 t12 t13 e5 e6 e7 (some (.dat (.int n))) (some (.dat (.err c f [t])))) s = some (.nx (eL t0 t1 t2 t3 t4 t5 t6 t7 t8 t9 t10 t11 t12 t13 e5 e6 e7 (some (.dat (.int n))) (some (.dat (.err c f [t])))) s) :=
  w_skip (w_not (c := true) (w_isT (w_call (w_cons (w_var rfl) (w_cons (w_var rfl) (w_cons (w_mifT (w_isT (w_B (w_var rfl) rfl hlt)) (w_B (w_var rfl) (w_var rfl) ht)) w_nil))) (hr s))))
theorem bodyB {n : Int} {c f : Str} {ds : List D} {e5 e6 e7 : Option Slot} (hlt : relD ltP (.int n) (.int 14) = some (.bl false)) (hr : ∀ s, f__law_right [.err c f ds, .int n, .non] s = some (.bl true, s)) :
    b_law_0 (eL t0 t1 t2 t3 t4 t5 t6 t7 t8 t9 t10 t11 t12 t13 e5 e6 e7 (some (.dat (.int n))) (some (.dat (.err c f ds)))) s = some (.nx (eL t0 t1 t2 t3 t4 t5 t6 t7 t8 t9 t10 t11 t12 t13 e5 e6 e7 (some (.dat (.int n))) (some (.dat (.err c f ds)))) s) :=
  w_skip (w_not (c := true) (w_isT (w_call (w_cons (w_var rfl) (w_cons (w_var rfl) (w_cons (w_mifF (w_isT (w_B (w_var rfl) rfl hlt)) rfl) w_nil))) (hr s))))
theorem loop_is (h0 : t0 ∈ things) (h1 : t1 ∈ things) (h2 : t2 ∈ things) (h3 : t3 ∈ things) (h4 : t4 ∈ things) (h5 : t5 ∈ things) (h6 : t6 ∈ things) (h7 : t7 ∈ things) (h8 : t8 ∈ things) (h9 : t9 ∈ things) (h10 : t10 ∈ things) (h11 : t11 ∈ things) (h12 : t12 ∈ things) (h13 : t13 ∈ things) {e5 e6 e7 e8 e9 : Option Slot} : ((sFor (mIt2 enumLItems (mCons (mVar 4) mNil)) (gdTup 2 (gdCons (gdName 8) (gdCons (gdName 9) gdNil))) b_law_0) : MS Hand) (eL t0 t1 t2 t3 t4 t5 t6 t7 t8 t9 t10 t11 t12 t13 e5 e6 e7 e8 e9) s = some (.nx (eL t0 t1 t2 t3 t4 t5 t6 t7 t8 t9 t10 t11 t12 t13 e5 e6 e7 (some (.dat (.int 39))) (some (.dat (.err "NoRollout" Str.empty [])))) s) :=
  w_for (w_it2 (w_cons (w_var rfl) w_nil) items_are) (w_loop (env1 := (eL t0 t1 t2 t3 t4 t5 t6 t7 t8 t9 t10 t11 t12 t13 e5 e6 e7 (some (.dat (.int 0))) (some (.dat (.err "BadText" "index" [t0]))))) rfl (bodyA rfl rfl fun _ => r_0 h0) (
    w_loop (env1 := (eL t0 t1 t2 t3 t4 t5 t6 t7 t8 t9 t10 t11 t12 t13 e5 e6 e7 (some (.dat (.int 1))) (some (.dat (.err "BadEntry" "part" [t1]))))) rfl (bodyA rfl rfl fun _ => r_1 h1) (
    w_loop (env1 := (eL t0 t1 t2 t3 t4 t5 t6 t7 t8 t9 t10 t11 t12 t13 e5 e6 e7 (some (.dat (.int 2))) (some (.dat (.err "BadBook" "index" [t2]))))) rfl (bodyA rfl rfl fun _ => r_2 h2) (
    w_loop (env1 := (eL t0 t1 t2 t3 t4 t5 t6 t7 t8 t9 t10 t11 t12 t13 e5 e6 e7 (some (.dat (.int 3))) (some (.dat (.err "BadLine" "number" [t3]))))) rfl (bodyA rfl rfl fun _ => r_3 h3) (
    w_loop (env1 := (eL t0 t1 t2 t3 t4 t5 t6 t7 t8 t9 t10 t11 t12 t13 e5 e6 e7 (some (.dat (.int 4))) (some (.dat (.err "BadQuestion" "part" [t4]))))) rfl (bodyA rfl rfl fun _ => r_4 h4) (
    w_loop (env1 := (eL t0 t1 t2 t3 t4 t5 t6 t7 t8 t9 t10 t11 t12 t13 e5 e6 e7 (some (.dat (.int 5))) (some (.dat (.err "BadTask" "part" [t5]))))) rfl (bodyA rfl rfl fun _ => r_5 h5) (
    w_loop (env1 := (eL t0 t1 t2 t3 t4 t5 t6 t7 t8 t9 t10 t11 t12 t13 e5 e6 e7 (some (.dat (.int 6))) (some (.dat (.err "BadStep" "number" [t6]))))) rfl (bodyA rfl rfl fun _ => r_6 h6) (
    w_loop (env1 := (eL t0 t1 t2 t3 t4 t5 t6 t7 t8 t9 t10 t11 t12 t13 e5 e6 e7 (some (.dat (.int 7))) (some (.dat (.err "TooMany" "most" [t7]))))) rfl (bodyA rfl rfl fun _ => r_7 h7) (
    w_loop (env1 := (eL t0 t1 t2 t3 t4 t5 t6 t7 t8 t9 t10 t11 t12 t13 e5 e6 e7 (some (.dat (.int 8))) (some (.dat (.err "NotFitting" "source" [t8]))))) rfl (bodyA rfl rfl fun _ => r_8 h8) (
    w_loop (env1 := (eL t0 t1 t2 t3 t4 t5 t6 t7 t8 t9 t10 t11 t12 t13 e5 e6 e7 (some (.dat (.int 9))) (some (.dat (.err "NotGiven" "literal" [t9]))))) rfl (bodyA rfl rfl fun _ => r_9 h9) (
    w_loop (env1 := (eL t0 t1 t2 t3 t4 t5 t6 t7 t8 t9 t10 t11 t12 t13 e5 e6 e7 (some (.dat (.int 10))) (some (.dat (.err "NotFirst" "place" [t10]))))) rfl (bodyA rfl rfl fun _ => r_10 h10) (
    w_loop (env1 := (eL t0 t1 t2 t3 t4 t5 t6 t7 t8 t9 t10 t11 t12 t13 e5 e6 e7 (some (.dat (.int 11))) (some (.dat (.err "NotFetched" "pair" [t11]))))) rfl (bodyA rfl rfl fun _ => r_11 h11) (
    w_loop (env1 := (eL t0 t1 t2 t3 t4 t5 t6 t7 t8 t9 t10 t11 t12 t13 e5 e6 e7 (some (.dat (.int 12))) (some (.dat (.err "NoBuild" "name" [t12]))))) rfl (bodyA rfl rfl fun _ => r_12 h12) (
    w_loop (env1 := (eL t0 t1 t2 t3 t4 t5 t6 t7 t8 t9 t10 t11 t12 t13 e5 e6 e7 (some (.dat (.int 13))) (some (.dat (.err "Ringed" "names" [t13]))))) rfl (bodyA rfl rfl fun _ => r_13 h13) (
    w_loop (env1 := (eL t0 t1 t2 t3 t4 t5 t6 t7 t8 t9 t10 t11 t12 t13 e5 e6 e7 (some (.dat (.int 14))) (some (.dat (.err "NoFeatures" Str.empty []))))) rfl (bodyB rfl fun _ => r_14) (
    w_loop (env1 := (eL t0 t1 t2 t3 t4 t5 t6 t7 t8 t9 t10 t11 t12 t13 e5 e6 e7 (some (.dat (.int 15))) (some (.dat (.err "NoEntry" Str.empty []))))) rfl (bodyB rfl fun _ => r_15) (
    w_loop (env1 := (eL t0 t1 t2 t3 t4 t5 t6 t7 t8 t9 t10 t11 t12 t13 e5 e6 e7 (some (.dat (.int 16))) (some (.dat (.err "NotRight" Str.empty []))))) rfl (bodyB rfl fun _ => r_16) (
    w_loop (env1 := (eL t0 t1 t2 t3 t4 t5 t6 t7 t8 t9 t10 t11 t12 t13 e5 e6 e7 (some (.dat (.int 17))) (some (.dat (.err "NotThere" Str.empty []))))) rfl (bodyB rfl fun _ => r_17) (
    w_loop (env1 := (eL t0 t1 t2 t3 t4 t5 t6 t7 t8 t9 t10 t11 t12 t13 e5 e6 e7 (some (.dat (.int 18))) (some (.dat (.err "NotClosed" Str.empty []))))) rfl (bodyB rfl fun _ => r_18) (
    w_loop (env1 := (eL t0 t1 t2 t3 t4 t5 t6 t7 t8 t9 t10 t11 t12 t13 e5 e6 e7 (some (.dat (.int 19))) (some (.dat (.err "NoSource" Str.empty []))))) rfl (bodyB rfl fun _ => r_19) (
    w_loop (env1 := (eL t0 t1 t2 t3 t4 t5 t6 t7 t8 t9 t10 t11 t12 t13 e5 e6 e7 (some (.dat (.int 20))) (some (.dat (.err "NoStand" Str.empty []))))) rfl (bodyB rfl fun _ => r_20) (
    w_loop (env1 := (eL t0 t1 t2 t3 t4 t5 t6 t7 t8 t9 t10 t11 t12 t13 e5 e6 e7 (some (.dat (.int 21))) (some (.dat (.err "NoGivens" Str.empty []))))) rfl (bodyB rfl fun _ => r_21) (
    w_loop (env1 := (eL t0 t1 t2 t3 t4 t5 t6 t7 t8 t9 t10 t11 t12 t13 e5 e6 e7 (some (.dat (.int 22))) (some (.dat (.err "NoLiteral" Str.empty []))))) rfl (bodyB rfl fun _ => r_22) (
    w_loop (env1 := (eL t0 t1 t2 t3 t4 t5 t6 t7 t8 t9 t10 t11 t12 t13 e5 e6 e7 (some (.dat (.int 23))) (some (.dat (.err "NoPaper" Str.empty []))))) rfl (bodyB rfl fun _ => r_23) (
    w_loop (env1 := (eL t0 t1 t2 t3 t4 t5 t6 t7 t8 t9 t10 t11 t12 t13 e5 e6 e7 (some (.dat (.int 24))) (some (.dat (.err "NoSources" Str.empty []))))) rfl (bodyB rfl fun _ => r_24) (
    w_loop (env1 := (eL t0 t1 t2 t3 t4 t5 t6 t7 t8 t9 t10 t11 t12 t13 e5 e6 e7 (some (.dat (.int 25))) (some (.dat (.err "NoName" Str.empty []))))) rfl (bodyB rfl fun _ => r_25) (
    w_loop (env1 := (eL t0 t1 t2 t3 t4 t5 t6 t7 t8 t9 t10 t11 t12 t13 e5 e6 e7 (some (.dat (.int 26))) (some (.dat (.err "NoNumber" Str.empty []))))) rfl (bodyB rfl fun _ => r_26) (
    w_loop (env1 := (eL t0 t1 t2 t3 t4 t5 t6 t7 t8 t9 t10 t11 t12 t13 e5 e6 e7 (some (.dat (.int 27))) (some (.dat (.err "NotEntry" Str.empty []))))) rfl (bodyB rfl fun _ => r_27) (
    w_loop (env1 := (eL t0 t1 t2 t3 t4 t5 t6 t7 t8 t9 t10 t11 t12 t13 e5 e6 e7 (some (.dat (.int 28))) (some (.dat (.err "NotQuestion" Str.empty []))))) rfl (bodyB rfl fun _ => r_28) (
    w_loop (env1 := (eL t0 t1 t2 t3 t4 t5 t6 t7 t8 t9 t10 t11 t12 t13 e5 e6 e7 (some (.dat (.int 29))) (some (.dat (.err "NothingDone" Str.empty []))))) rfl (bodyB rfl fun _ => r_29) (
    w_loop (env1 := (eL t0 t1 t2 t3 t4 t5 t6 t7 t8 t9 t10 t11 t12 t13 e5 e6 e7 (some (.dat (.int 30))) (some (.dat (.err "NoText" Str.empty []))))) rfl (bodyB rfl fun _ => r_30) (
    w_loop (env1 := (eL t0 t1 t2 t3 t4 t5 t6 t7 t8 t9 t10 t11 t12 t13 e5 e6 e7 (some (.dat (.int 31))) (some (.dat (.err "NoStart" Str.empty []))))) rfl (bodyB rfl fun _ => r_31) (
    w_loop (env1 := (eL t0 t1 t2 t3 t4 t5 t6 t7 t8 t9 t10 t11 t12 t13 e5 e6 e7 (some (.dat (.int 32))) (some (.dat (.err "NoStop" Str.empty []))))) rfl (bodyB rfl fun _ => r_32) (
    w_loop (env1 := (eL t0 t1 t2 t3 t4 t5 t6 t7 t8 t9 t10 t11 t12 t13 e5 e6 e7 (some (.dat (.int 33))) (some (.dat (.err "NotSafe" Str.empty []))))) rfl (bodyB rfl fun _ => r_33) (
    w_loop (env1 := (eL t0 t1 t2 t3 t4 t5 t6 t7 t8 t9 t10 t11 t12 t13 e5 e6 e7 (some (.dat (.int 34))) (some (.dat (.err "NoDeed" Str.empty []))))) rfl (bodyB rfl fun _ => r_34) (
    w_loop (env1 := (eL t0 t1 t2 t3 t4 t5 t6 t7 t8 t9 t10 t11 t12 t13 e5 e6 e7 (some (.dat (.int 35))) (some (.dat (.err "NoContents" Str.empty []))))) rfl (bodyB rfl fun _ => r_35) (
    w_loop (env1 := (eL t0 t1 t2 t3 t4 t5 t6 t7 t8 t9 t10 t11 t12 t13 e5 e6 e7 (some (.dat (.int 36))) (some (.dat (.err "NoMirrors" Str.empty []))))) rfl (bodyB rfl fun _ => r_36) (
    w_loop (env1 := (eL t0 t1 t2 t3 t4 t5 t6 t7 t8 t9 t10 t11 t12 t13 e5 e6 e7 (some (.dat (.int 37))) (some (.dat (.err "NoManifest" Str.empty []))))) rfl (bodyB rfl fun _ => r_37) (
    w_loop (env1 := (eL t0 t1 t2 t3 t4 t5 t6 t7 t8 t9 t10 t11 t12 t13 e5 e6 e7 (some (.dat (.int 38))) (some (.dat (.err "NoMachine" Str.empty []))))) rfl (bodyB rfl fun _ => r_38) (
    w_loop (env1 := (eL t0 t1 t2 t3 t4 t5 t6 t7 t8 t9 t10 t11 t12 t13 e5 e6 e7 (some (.dat (.int 39))) (some (.dat (.err "NoRollout" Str.empty []))))) rfl (bodyB rfl fun _ => r_39) (
    rfl)))))))))))))))))))))))))))))))))))))))))
end
end K00

set_option Elab.async false
set_option linter.all false
set_option maxRecDepth 100000
set_option maxHeartbeats 4000000
namespace K00
open PySem
open L2
open Dl
open Txt
open TL
/-! the law's end -/
section
variable {s : Hand} {t0 t1 t2 t3 t4 t5 t6 t7 t8 t9 t10 t11 t12 t13 t : D}
theorem raised_0 (h : t ∈ things) : f__law_raised [.int 0, t] s = some (t, s) := by
  unfold things at h
  simp only [List.mem_cons, List.not_mem_nil, or_false] at h
  rcases h with e | e | e | e | e | e | e | e | e | e | e | e | e | e <;> subst e <;> kernel_rfl
theorem raised_1 (h : t ∈ things) : f__law_raised [.int 1, t] s = some (t, s) := by
  unfold things at h
  simp only [List.mem_cons, List.not_mem_nil, or_false] at h
  rcases h with e | e | e | e | e | e | e | e | e | e | e | e | e | e <;> subst e <;> kernel_rfl
theorem raised_2 (h : t ∈ things) : f__law_raised [.int 2, t] s = some (t, s) := by
  unfold things at h
  simp only [List.mem_cons, List.not_mem_nil, or_false] at h
  rcases h with e | e | e | e | e | e | e | e | e | e | e | e | e | e <;> subst e <;> kernel_rfl
theorem raised_3 (h : t ∈ things) : f__law_raised [.int 3, t] s = some (t, s) := by
  unfold things at h
  simp only [List.mem_cons, List.not_mem_nil, or_false] at h
  rcases h with e | e | e | e | e | e | e | e | e | e | e | e | e | e <;> subst e <;> kernel_rfl
theorem book_is : f_Book [.tup []] s = some (.val (.ins "Book" ["entries"] [.tup []]) s) := by kernel_rfl
theorem cmp_is {e5 e6 e8 e9 : Option Slot} : ((mCmpI false "Book" f_Book__eq (mU (fldErr errsL "part") (mErr "BadEntry" "part" (mVar 7))) (mVar 7)) : ME Hand) (eL t0 t1 t2 t3 t4 t5 t6 t7 t8 t9 t10 t11 t12 t13 e5 e6 (some (.dat (.ins "Book" ["entries"] [.tup []]))) e8 e9) s = some (.bl true, s) := by kernel_rfl
theorem ret_0 (h : t0 ∈ things) {e8 e9 : Option Slot} : (sSeq (sAsg (gdName 6) (mF lstD (mCons (mC (.int 0)) (mCons (mC (.int 3)) (mCons (mC (.int 13)) (mCons (mC (.int 8)) mNil)))))) (sSeq (sAsg (gdName 7) (mMake f_Book (mCons (mF tupD mNil) mNil))) (sRet (mAnd (mCmpI false "Book" f_Book__eq (mU (fldErr errsL "part") (mErr "BadEntry" "part" (mVar 7))) (mVar 7)) (mCall (f__law_is 42) (mCons (mF lstD (mCons (mCall f__law_raised (mCons (mVar 5) (mCons (mB ixD (mVar 3) (mB ixD (mVar 6) (mVar 5))) mNil))) mNil)) (mCons (mF lstD (mCons (mB ixD (mVar 3) (mB ixD (mVar 6) (mVar 5))) mNil)) mNil)))))) : MS Hand) (eL t0 t1 t2 t3 t4 t5 t6 t7 t8 t9 t10 t11 t12 t13 (some (.dat (.int 0))) none none e8 e9) s = some (.rt (.bl true) s) :=
  w_seq (env1 := eL t0 t1 t2 t3 t4 t5 t6 t7 t8 t9 t10 t11 t12 t13 (some (.dat (.int 0))) (some (.dat (.lst [.int 0, .int 3, .int 13, .int 8]))) none e8 e9) (s1 := s) (w_asg rfl rfl) (w_seq (env1 := eL t0 t1 t2 t3 t4 t5 t6 t7 t8 t9 t10 t11 t12 t13 (some (.dat (.int 0))) (some (.dat (.lst [.int 0, .int 3, .int 13, .int 8]))) (some (.dat (.ins "Book" ["entries"] [.tup []]))) e8 e9) (s1 := s) (w_asg (w_make (w_cons rfl w_nil) book_is) rfl) (w_ret (w_andP (c := true) (k := true) cmp_is fun _ =>
    w_call (w_cons (w_F (w_cons (w_call (w_cons (w_var rfl) (w_cons (w_B (w_var rfl) (w_B (w_var rfl) (w_var rfl) rfl) rfl) w_nil)) (raised_0 h)) w_nil) rfl) (w_cons (w_F (w_cons (w_B (w_var rfl) (w_B (w_var rfl) (w_var rfl) rfl) rfl) w_nil) rfl) w_nil)) (things_is h))))
theorem ret_1 (h : t3 ∈ things) {e8 e9 : Option Slot} : (sSeq (sAsg (gdName 6) (mF lstD (mCons (mC (.int 0)) (mCons (mC (.int 3)) (mCons (mC (.int 13)) (mCons (mC (.int 8)) mNil)))))) (sSeq (sAsg (gdName 7) (mMake f_Book (mCons (mF tupD mNil) mNil))) (sRet (mAnd (mCmpI false "Book" f_Book__eq (mU (fldErr errsL "part") (mErr "BadEntry" "part" (mVar 7))) (mVar 7)) (mCall (f__law_is 42) (mCons (mF lstD (mCons (mCall f__law_raised (mCons (mVar 5) (mCons (mB ixD (mVar 3) (mB ixD (mVar 6) (mVar 5))) mNil))) mNil)) (mCons (mF lstD (mCons (mB ixD (mVar 3) (mB ixD (mVar 6) (mVar 5))) mNil)) mNil)))))) : MS Hand) (eL t0 t1 t2 t3 t4 t5 t6 t7 t8 t9 t10 t11 t12 t13 (some (.dat (.int 1))) none none e8 e9) s = some (.rt (.bl true) s) :=
  w_seq (env1 := eL t0 t1 t2 t3 t4 t5 t6 t7 t8 t9 t10 t11 t12 t13 (some (.dat (.int 1))) (some (.dat (.lst [.int 0, .int 3, .int 13, .int 8]))) none e8 e9) (s1 := s) (w_asg rfl rfl) (w_seq (env1 := eL t0 t1 t2 t3 t4 t5 t6 t7 t8 t9 t10 t11 t12 t13 (some (.dat (.int 1))) (some (.dat (.lst [.int 0, .int 3, .int 13, .int 8]))) (some (.dat (.ins "Book" ["entries"] [.tup []]))) e8 e9) (s1 := s) (w_asg (w_make (w_cons rfl w_nil) book_is) rfl) (w_ret (w_andP (c := true) (k := true) cmp_is fun _ =>
    w_call (w_cons (w_F (w_cons (w_call (w_cons (w_var rfl) (w_cons (w_B (w_var rfl) (w_B (w_var rfl) (w_var rfl) rfl) rfl) w_nil)) (raised_1 h)) w_nil) rfl) (w_cons (w_F (w_cons (w_B (w_var rfl) (w_B (w_var rfl) (w_var rfl) rfl) rfl) w_nil) rfl) w_nil)) (things_is h))))
theorem ret_2 (h : t13 ∈ things) {e8 e9 : Option Slot} : (sSeq (sAsg (gdName 6) (mF lstD (mCons (mC (.int 0)) (mCons (mC (.int 3)) (mCons (mC (.int 13)) (mCons (mC (.int 8)) mNil)))))) (sSeq (sAsg (gdName 7) (mMake f_Book (mCons (mF tupD mNil) mNil))) (sRet (mAnd (mCmpI false "Book" f_Book__eq (mU (fldErr errsL "part") (mErr "BadEntry" "part" (mVar 7))) (mVar 7)) (mCall (f__law_is 42) (mCons (mF lstD (mCons (mCall f__law_raised (mCons (mVar 5) (mCons (mB ixD (mVar 3) (mB ixD (mVar 6) (mVar 5))) mNil))) mNil)) (mCons (mF lstD (mCons (mB ixD (mVar 3) (mB ixD (mVar 6) (mVar 5))) mNil)) mNil)))))) : MS Hand) (eL t0 t1 t2 t3 t4 t5 t6 t7 t8 t9 t10 t11 t12 t13 (some (.dat (.int 2))) none none e8 e9) s = some (.rt (.bl true) s) :=
  w_seq (env1 := eL t0 t1 t2 t3 t4 t5 t6 t7 t8 t9 t10 t11 t12 t13 (some (.dat (.int 2))) (some (.dat (.lst [.int 0, .int 3, .int 13, .int 8]))) none e8 e9) (s1 := s) (w_asg rfl rfl) (w_seq (env1 := eL t0 t1 t2 t3 t4 t5 t6 t7 t8 t9 t10 t11 t12 t13 (some (.dat (.int 2))) (some (.dat (.lst [.int 0, .int 3, .int 13, .int 8]))) (some (.dat (.ins "Book" ["entries"] [.tup []]))) e8 e9) (s1 := s) (w_asg (w_make (w_cons rfl w_nil) book_is) rfl) (w_ret (w_andP (c := true) (k := true) cmp_is fun _ =>
    w_call (w_cons (w_F (w_cons (w_call (w_cons (w_var rfl) (w_cons (w_B (w_var rfl) (w_B (w_var rfl) (w_var rfl) rfl) rfl) w_nil)) (raised_2 h)) w_nil) rfl) (w_cons (w_F (w_cons (w_B (w_var rfl) (w_B (w_var rfl) (w_var rfl) rfl) rfl) w_nil) rfl) w_nil)) (things_is h))))
theorem ret_3 (h : t8 ∈ things) {e8 e9 : Option Slot} : (sSeq (sAsg (gdName 6) (mF lstD (mCons (mC (.int 0)) (mCons (mC (.int 3)) (mCons (mC (.int 13)) (mCons (mC (.int 8)) mNil)))))) (sSeq (sAsg (gdName 7) (mMake f_Book (mCons (mF tupD mNil) mNil))) (sRet (mAnd (mCmpI false "Book" f_Book__eq (mU (fldErr errsL "part") (mErr "BadEntry" "part" (mVar 7))) (mVar 7)) (mCall (f__law_is 42) (mCons (mF lstD (mCons (mCall f__law_raised (mCons (mVar 5) (mCons (mB ixD (mVar 3) (mB ixD (mVar 6) (mVar 5))) mNil))) mNil)) (mCons (mF lstD (mCons (mB ixD (mVar 3) (mB ixD (mVar 6) (mVar 5))) mNil)) mNil)))))) : MS Hand) (eL t0 t1 t2 t3 t4 t5 t6 t7 t8 t9 t10 t11 t12 t13 (some (.dat (.int 3))) none none e8 e9) s = some (.rt (.bl true) s) :=
  w_seq (env1 := eL t0 t1 t2 t3 t4 t5 t6 t7 t8 t9 t10 t11 t12 t13 (some (.dat (.int 3))) (some (.dat (.lst [.int 0, .int 3, .int 13, .int 8]))) none e8 e9) (s1 := s) (w_asg rfl rfl) (w_seq (env1 := eL t0 t1 t2 t3 t4 t5 t6 t7 t8 t9 t10 t11 t12 t13 (some (.dat (.int 3))) (some (.dat (.lst [.int 0, .int 3, .int 13, .int 8]))) (some (.dat (.ins "Book" ["entries"] [.tup []]))) e8 e9) (s1 := s) (w_asg (w_make (w_cons rfl w_nil) book_is) rfl) (w_ret (w_andP (c := true) (k := true) cmp_is fun _ =>
    w_call (w_cons (w_F (w_cons (w_call (w_cons (w_var rfl) (w_cons (w_B (w_var rfl) (w_B (w_var rfl) (w_var rfl) rfl) rfl) w_nil)) (raised_3 h)) w_nil) rfl) (w_cons (w_F (w_cons (w_B (w_var rfl) (w_B (w_var rfl) (w_var rfl) rfl) rfl) w_nil) rfl) w_nil)) (things_is h))))
end
theorem len14 {T : List D} (h : T.length = 14) : ∃ t0 t1 t2 t3 t4 t5 t6 t7 t8 t9 t10 t11 t12 t13, T = toldL t0 t1 t2 t3 t4 t5 t6 t7 t8 t9 t10 t11 t12 t13 := by
  cases T with
  | nil => simp at h
  | cons t0 T =>
  cases T with
  | nil => simp at h
  | cons t1 T =>
  cases T with
  | nil => simp at h
  | cons t2 T =>
  cases T with
  | nil => simp at h
  | cons t3 T =>
  cases T with
  | nil => simp at h
  | cons t4 T =>
  cases T with
  | nil => simp at h
  | cons t5 T =>
  cases T with
  | nil => simp at h
  | cons t6 T =>
  cases T with
  | nil => simp at h
  | cons t7 T =>
  cases T with
  | nil => simp at h
  | cons t8 T =>
  cases T with
  | nil => simp at h
  | cons t9 T =>
  cases T with
  | nil => simp at h
  | cons t10 T =>
  cases T with
  | nil => simp at h
  | cons t11 T =>
  cases T with
  | nil => simp at h
  | cons t12 T =>
  cases T with
  | nil => simp at h
  | cons t13 T =>
  cases T with
  | cons _ _ => simp at h
  | nil => exact ⟨_, _, _, _, _, _, _, _, _, _, _, _, _, _, rfl⟩
theorem law_ok : LawOk 10 1 m_law f__law_hand := fun ns hz => by
  obtain ⟨cells, k, e1⟩ := hand_made hz
  have hC := comp_then (ST := Hand) (g := gdName 8) (e := c_law_0) (env := [none, some (.dat .hnd), some (.dat (.lst things)), none, none, none, none, none, none, none]) (P := fun d => d ∈ things) (xs := rngOf 0 14) (s := hand0 cells k) fun x hx => ⟨_, rfl, fun s => by
    rw [show c_law_0 _ s = f__law_some [.hnd, .lst things] s from w_call (w_cons (w_var rfl) (w_cons (w_var rfl) w_nil)) rfl]
    exact some_then (by decide) (by decide) fun d s' hd => hd⟩
  obtain ⟨⟨T, s1⟩, hcm, hl, hT⟩ := hC.get
  have hl : T.length = 14 := hl
  obtain ⟨t0, t1, t2, t3, t4, t5, t6, t7, t8, t9, t10, t11, t12, t13, rfl⟩ := len14 hl
  have hT : ∀ d ∈ toldL t0 t1 t2 t3 t4 t5 t6 t7 t8 t9 t10 t11 t12 t13, d ∈ things := hT
  have h0 : t0 ∈ things := hT _ (List.mem_cons_self ..)
  have h1 : t1 ∈ things := hT _ (List.mem_cons_of_mem _ (List.mem_cons_self ..))
  have h2 : t2 ∈ things := hT _ (List.mem_cons_of_mem _ (List.mem_cons_of_mem _ (List.mem_cons_self ..)))
  have h3 : t3 ∈ things := hT _ (List.mem_cons_of_mem _ (List.mem_cons_of_mem _ (List.mem_cons_of_mem _ (List.mem_cons_self ..))))
  have h4 : t4 ∈ things := hT _ (List.mem_cons_of_mem _ (List.mem_cons_of_mem _ (List.mem_cons_of_mem _ (List.mem_cons_of_mem _ (List.mem_cons_self ..)))))
  have h5 : t5 ∈ things := hT _ (List.mem_cons_of_mem _ (List.mem_cons_of_mem _ (List.mem_cons_of_mem _ (List.mem_cons_of_mem _ (List.mem_cons_of_mem _ (List.mem_cons_self ..))))))
  have h6 : t6 ∈ things := hT _ (List.mem_cons_of_mem _ (List.mem_cons_of_mem _ (List.mem_cons_of_mem _ (List.mem_cons_of_mem _ (List.mem_cons_of_mem _ (List.mem_cons_of_mem _ (List.mem_cons_self ..)))))))
  have h7 : t7 ∈ things := hT _ (List.mem_cons_of_mem _ (List.mem_cons_of_mem _ (List.mem_cons_of_mem _ (List.mem_cons_of_mem _ (List.mem_cons_of_mem _ (List.mem_cons_of_mem _ (List.mem_cons_of_mem _ (List.mem_cons_self ..))))))))
  have h8 : t8 ∈ things := hT _ (List.mem_cons_of_mem _ (List.mem_cons_of_mem _ (List.mem_cons_of_mem _ (List.mem_cons_of_mem _ (List.mem_cons_of_mem _ (List.mem_cons_of_mem _ (List.mem_cons_of_mem _ (List.mem_cons_of_mem _ (List.mem_cons_self ..)))))))))
  have h9 : t9 ∈ things := hT _ (List.mem_cons_of_mem _ (List.mem_cons_of_mem _ (List.mem_cons_of_mem _ (List.mem_cons_of_mem _ (List.mem_cons_of_mem _ (List.mem_cons_of_mem _ (List.mem_cons_of_mem _ (List.mem_cons_of_mem _ (List.mem_cons_of_mem _ (List.mem_cons_self ..))))))))))
  have h10 : t10 ∈ things := hT _ (List.mem_cons_of_mem _ (List.mem_cons_of_mem _ (List.mem_cons_of_mem _ (List.mem_cons_of_mem _ (List.mem_cons_of_mem _ (List.mem_cons_of_mem _ (List.mem_cons_of_mem _ (List.mem_cons_of_mem _ (List.mem_cons_of_mem _ (List.mem_cons_of_mem _ (List.mem_cons_self ..)))))))))))
  have h11 : t11 ∈ things := hT _ (List.mem_cons_of_mem _ (List.mem_cons_of_mem _ (List.mem_cons_of_mem _ (List.mem_cons_of_mem _ (List.mem_cons_of_mem _ (List.mem_cons_of_mem _ (List.mem_cons_of_mem _ (List.mem_cons_of_mem _ (List.mem_cons_of_mem _ (List.mem_cons_of_mem _ (List.mem_cons_of_mem _ (List.mem_cons_self ..))))))))))))
  have h12 : t12 ∈ things := hT _ (List.mem_cons_of_mem _ (List.mem_cons_of_mem _ (List.mem_cons_of_mem _ (List.mem_cons_of_mem _ (List.mem_cons_of_mem _ (List.mem_cons_of_mem _ (List.mem_cons_of_mem _ (List.mem_cons_of_mem _ (List.mem_cons_of_mem _ (List.mem_cons_of_mem _ (List.mem_cons_of_mem _ (List.mem_cons_of_mem _ (List.mem_cons_self ..)))))))))))))
  have h13 : t13 ∈ things := hT _ (List.mem_cons_of_mem _ (List.mem_cons_of_mem _ (List.mem_cons_of_mem _ (List.mem_cons_of_mem _ (List.mem_cons_of_mem _ (List.mem_cons_of_mem _ (List.mem_cons_of_mem _ (List.mem_cons_of_mem _ (List.mem_cons_of_mem _ (List.mem_cons_of_mem _ (List.mem_cons_of_mem _ (List.mem_cons_of_mem _ (List.mem_cons_of_mem _ (List.mem_cons_self ..))))))))))))))
  obtain ⟨n, s2, hd, n0, n1⟩ := draw_w (s := s1) (m := 4) (by omega) (by omega)
  have tail : ∃ s', (sSeq (sAsg (gdName 6) (mF lstD (mCons (mC (.int 0)) (mCons (mC (.int 3)) (mCons (mC (.int 13)) (mCons (mC (.int 8)) mNil)))))) (sSeq (sAsg (gdName 7) (mMake f_Book (mCons (mF tupD mNil) mNil))) (sRet (mAnd (mCmpI false "Book" f_Book__eq (mU (fldErr errsL "part") (mErr "BadEntry" "part" (mVar 7))) (mVar 7)) (mCall (f__law_is 42) (mCons (mF lstD (mCons (mCall f__law_raised (mCons (mVar 5) (mCons (mB ixD (mVar 3) (mB ixD (mVar 6) (mVar 5))) mNil))) mNil)) (mCons (mF lstD (mCons (mB ixD (mVar 3) (mB ixD (mVar 6) (mVar 5))) mNil)) mNil)))))) : MS Hand) (eL t0 t1 t2 t3 t4 t5 t6 t7 t8 t9 t10 t11 t12 t13 (some (.dat (.int n))) none none (some (.dat (.int 39))) (some (.dat (.err "NoRollout" Str.empty [])))) s2 = some (.rt (.bl true) s') := by
    have c : n = 0 ∨ n = 1 ∨ n = 2 ∨ n = 3 := by omega
    rcases c with c | c | c | c <;> subst c
    · exact ⟨_, ret_0 h0⟩
    · exact ⟨_, ret_1 h3⟩
    · exact ⟨_, ret_2 h13⟩
    · exact ⟨_, ret_3 h8⟩
  obtain ⟨s3, hs⟩ := tail
  refine ⟨cells, k, s3, e1, ?_⟩
  rw [law_eq]
  refine w_seq (env1 := [none, some (.dat .hnd), some (.dat (.lst things)), none, none, none, none, none, none, none]) (s1 := hand0 cells k) (w_asg things_made rfl) (w_seq (env1 := [none, some (.dat .hnd), some (.dat (.lst things)), some (.dat (.lst (toldL t0 t1 t2 t3 t4 t5 t6 t7 t8 t9 t10 t11 t12 t13))), none, none, none, none, none, none]) (s1 := s1) (w_asg (comp_is (rng_is (k := 14) (s := hand0 cells k) (s1 := hand0 cells k) (l := (mCons (mC (.int 14)) mNil : ML Hand)) rfl (by decide)) hcm) rfl) ?_)
  rw [chain_is]
  exact w_seq (loop_is h0 h1 h2 h3 h4 h5 h6 h7 h8 h9 h10 h11 h12 h13) (w_seq (env1 := eL t0 t1 t2 t3 t4 t5 t6 t7 t8 t9 t10 t11 t12 t13 (some (.dat (.int n))) none none (some (.dat (.int 39))) (some (.dat (.err "NoRollout" Str.empty [])))) (s1 := s2) (w_asg (w_call (w_cons (w_var rfl) (w_cons rfl w_nil)) hd) rfl) hs)
end K00

set_option Elab.async false
set_option linter.all false
set_option maxRecDepth 100000
set_option maxHeartbeats 0
open PySem PySem.W PySem.Calls PyProof.Rows
theorem PySem.Challenge.cw_lockwright_k00_errors_of_the_package_holds : PySem.Challenge.rw_lockwright_k00_errors_of_the_package.Holds := by
  w_on; o_law
  refine HandSHeadRun.head_any (r := OpenLaw.row PySem.Challenge.rw_lockwright_k00_errors_of_the_package) (q := view (OpenLaw.row PySem.Challenge.rw_lockwright_k00_errors_of_the_package).prog [81]) (H := K00.hk) (ob := K00.ob) (M := 30000) (loose := K00.loose) (d := HandSHeadRun.topDef (OpenLaw.row PySem.Challenge.rw_lockwright_k00_errors_of_the_package).prog 81) (kwd := []) K00.ob_eq
    (by kernel_rfl) (fun s => by kernel_rfl) K00.run (by kernel_rfl) (by kernel_rfl) (by kernel_rfl) (by rfl) (by first | assumption | decide +kernel) (by decide +kernel) ⟨rfl, rfl, rfl, rfl, rfl, by decide +kernel⟩ ?hw ?hc
  case hw => w_witness2
  case hc =>
    refine L2.walk_ofE (l := PySem.Challenge.rw_lockwright_k00_errors_of_the_package) (n := 63) (k := 45) (x := "_law_script") (CX := L2.CX0) rfl (by decide) (by kernel_rfl) ⟨rfl, by decide, by decide⟩ ?F (fun _ _ _ _ z => z)
    intro w mg fa h Y G hmg0
    obtain ⟨K, KX, c⟩ := Y
    have TI := Dl.txI_of KX G c K00.errs_side
    have T : K00.Txt K mg := TI.tx
    have hmg : mg ("law" : PySem.Str) = some (.ref fa) := by
      have e : (HandSHeadRun.topDef (OpenLaw.row PySem.Challenge.rw_lockwright_k00_errors_of_the_package).prog 81).name = ("law" : PySem.Str) := by kernel_rfl
      rw [← e]
      exact hmg0
    obtain ⟨fd, hb, hF⟩ := K00.ok_law T K00.law_ok
    have hfa : fa = He.fAd K ("law", none) := by
      have e := T.tx.glo "law" (by decide +kernel)
      rw [hmg] at e
      cases e
      rfl
    subst hfa
    exact ⟨K, fd, Dl.spLaw K, KX, hb, fun H a ns hl _ hS => ⟨a, ns, rfl, hS, hl, fun _ => rfl⟩, fun base _ _ => hF _ _ _ ⟨by kernel_rfl, by kernel_rfl⟩ TI.fx⟩

