import PyProof.Rows.All
import Wide.All
import OpenK.AllK
import Wide.FinOn
import KE.KExcSuper
import HandS.Exc
import HandS.ExcInit
import HandS.Ends
import HandS.HeadWalk
import HandS.ForMost
import HandS.TupAny
import HandS.ExcOwn
import HandS.WordsExc
import HandS.ListItems
import HandS.IsInst
import HandS.Deep
import HandS.RaiseMore
import HandS.Codes
import KE.KExcIs
import HandS.ExcField
import HandS.More
import HandS.Iter
import HandS.ExcIs
import PySem.Challenge.RW_wordsbeside_k83_texts_of_expressions_of
set_option Elab.async false
set_option linter.all false
set_option maxRecDepth 100000
set_option maxHeartbeats 2000000
/-! Vx1: an own exception whose __init__ hands its arguments to the one above it, then keeps them as fields. -/
namespace Vm
open PySem PySem.W PySem.Calls PyProof.Rows
section
variable {prog : Program} {w : World} {A : Around} {E : Value → Shared → Prop} {s : Shared} {h₀ : Heap} {L : Addr} {m mg mb : Str → Option Value} {K : Frag} {x C t0 f cc cda : Addr}
/-- names as arguments -/
theorem names_args {env : Env} {pos : Pos} {Q : List Value → Shared → Prop} : ∀ (ys : List (Str × Pos)) (vs : List Value), ys.length = vs.length → (∀ p ∈ ys.zip vs, ∀ (Q : Value → Shared → Prop), Q p.2 s → wpAny (model prog w) A (eval (.Name p.1.1 p.1.2) env) Q E s) → Q vs s →
    wpAny (model prog w) A (spliced (backTo pos (starEach (ys.map fun y => .Name y.1 y.2) env))) Q E s := by
  intro ys
  induction ys generalizing Q with
  | nil =>
    intro vs hl _ q
    cases vs with
    | nil => exact spliced_none q
    | cons _ _ => cases hl
  | cons y ys ih =>
    intro vs hl hv q
    cases vs with
    | nil => cases hl
    | cons v vs =>
      refine spliced_more (hv (y, v) List.mem_cons_self _ ?_)
      exact ih vs (by simpa using hl) (fun p hp => hv p (List.mem_cons_of_mem _ hp)) q
theorem names_any {env : Env} {pos : Pos} : ∀ ys : List (Str × Pos), (backTo pos (starEach (ys.map fun y => .Name y.1 y.2) env)).any (·.1) = false
  | [] => rfl
  | _ :: ys => names_any ys
/-- what the written part says of an own exception's class at C and of its __init__ at f -/
structure ExTxt (prog : Program) (K : Frag) (C f cc cda : Addr) (scope : Scope) (fd : FuncData) : Prop where
  cls : ∃ nm q N bs bm sn sub ab col dd k0 k1 k2 k3 k5, K.lookup C = some (excClassObj nm q C N bs bm true sn sub ab col dd k0 k1 k2 k3 k5 "ValueError.__new__") ∧ PySem.HandSPX.refsVE bm = true
  fn : ∃ oc od osl, K.lookup f = some ⟨oc, od, .func fd, osl⟩
  self : ∃ ar, (fd.params.posonlyargs ++ fd.params.args).head? = some ar ∧ ar.arg = "self"
  code : ∃ ccl cdd vs ccs file tf, K.lookup cda = some ⟨ccl, cdd, .fields vs, ccs⟩ ∧ vs[2]? = some (.str file tf) ∧ ((prog.main.file : Str) == file) = true
  cell : ∃ cl cld csl, K.lookup cc = some ⟨cl, cld, .cell (some (.ref C)), csl⟩
  sub : mroIn K C (.ref C) = some true
  opq : nsIn K cStatics "thirdparty.any" = some none
  up : ks_superIn K C C "__init__" = some (some (.builtin "ValueError.__init__"))
  ve : subIn K (.ref C) (.type "ValueError") = some true
  ini : ∃ bmB, ExcBaseFacts "ValueError" "ValueError.__new__" "ValueError.__init__" bmB ∧ excInitIn K C bmB "ValueError.__new__" = true
  top : (prog.main.scope.names.lookup ("super" : Str)).isSome = false
  ks : scope.names.lookup ("super" : Str) = some .globalImplicit
  kc : scope.names.lookup ("__class__" : Str) = some .free
  ka : scope.names.lookup ("self" : Str) = some .local
  kf : scope.kind = .function
theorem clsIn_exc {nm q : Str} {N : Addr} {bs bm : List Value} {sn : List Str} {sub : List Value} {ab : Bool} {col : Option Bool} {dd : Option Addr} {k0 k1 k2 k3 k5 : Option Value} {i : String} (hC : K.lookup C = some (excClassObj nm q C N bs bm true sn sub ab col dd k0 k1 k2 k3 k5 i)) :
    clsIn K C = some { name := nm, bases := bs, mro := .ref C :: bm, ns := N, qualname := q, hasDict := true, slotNames := sn, subclasses := sub, abstract := ab, collection := col, hasDel := false } := by
  unfold clsIn
  rw [hC] <;> rfl
theorem sup_line {body : List Stmt} {qn : Str} {scope : Scope} {fd : FuncData} {p0 p1 p2 p3 p4 : Pos} {ys : List (Str × Pos)} {y : Str × Pos} {vs : List Value} {pl : Sem Bool} {Q : Flow → Shared → Prop} (T : ExTxt prog K C f cc cda scope fd)
    (F : Fr h₀ L s.heap m) (X₀ : K.In h₀) (N : News h₀ L s.heap [(x, excObj C t0 none .none)]) (G : h₀.Ns mainGlobals mg) (B : h₀.Ns builtinsNs mb) (hb : mb "super" = some (.type "super")) (hg : mg "super" = none) (hself : m "self" = some (.ref x))
    (hl : (y :: ys).length = vs.length) (hz : vs.length ≤ sizeLine) (hv : ∀ p ∈ (y :: ys).zip vs, m p.1.1 = some p.2 ∧ scope.names.lookup p.1.1 = some .local ∧ (p.1.1 == ("__debug__" : Str)) = false)
    (he : eval (.Call (.Attribute (.Call (.Name "super" p0) [] [] p1) "__init__" p2) ((y :: ys).map fun y => .Name y.1 y.2) [] p3) (ksEnv qn scope L f (.ref cda) cc) = (do
      let ov ← attributeBase (.Call (.Name "super" p0) [] [] p1) "__init__" (ksEnv qn scope L f (.ref cda) cc) (eval (.Call (.Name "super" p0) [] [] p1) (ksEnv qn scope L f (.ref cda) cc))
      standAt p2.atName
      let (g, first) ← holding [ov] (getMethod ov "__init__" pl)
      callWith p3 g first (backTo p3 (starEach ((y :: ys).map fun y => .Name y.1 y.2) (ksEnv qn scope L f (.ref cda) cc))) []))
    (h : ∀ t' h' tk, Fr h₀ L h' m → h'.get? x = some (excObj C t' none .none) → Q .next { s with heap := h', toks := tk }) :
    _root_.PySem.wpAt (model prog w) A (.func body (ksEnv qn scope L f (.ref cda) cc)) (exec (.Expr (.Call (.Attribute (.Call (.Name "super" p0) [] [] p1) "__init__" p2) ((y :: ys).map fun y => .Name y.1 y.2) [] p3) p4) (ksEnv qn scope L f (.ref cda) cc)) Q E s := by
  obtain ⟨nm, q, N', bs, bm, sn, sub, ab, col, dd, k0, k1, k2, k3, k5, hC, hbm⟩ := T.cls
  have hD := clsIn_exc hC
  obtain ⟨oc, od, osl, hf⟩ := T.fn
  obtain ⟨ar, har, ear⟩ := T.self
  obtain ⟨ccl, cdd, fvs, ccs, file, tf, hcode, hvs, hfile⟩ := T.code
  obtain ⟨cl, cld, csl, hcell⟩ := T.cell
  obtain ⟨bmB, FB, hini⟩ := T.ini
  have X : K.In s.heap := X₀.keeps F.keep
  have I : InstAt s.heap x (excObj C t0 none .none) C none := InstAt.of_exc0 N List.mem_cons_self
  have hi : interactive (ksEnv qn scope L f (.ref cda) cc) = false := by
    unfold interactive
    simp [Env.blockKind, T.kf]
  refine ks_wpAt_Expr_any (ks_wpAt_MethodCall (pl := pl) ?_ he) hi
  refine ks_wpAt_super_base (env := ksEnv qn scope L f (.ref cda) cc) T.ks T.kc rfl rfl (X _ _ hf) rfl har rfl (X _ _ hcode) rfl hvs hfile T.top ?_
  refine ks_loadName_global T.kf T.ks (loadGlobal_builtin (env := ksEnv qn scope L f (.ref cda) cc) (G.keeps F.keep) hg (B.keeps F.keep) hb ⟨rfl, ?_⟩)
  refine wpAny_loadName_free T.kf T.kc rfl ⟨_, X _ _ hcell, rfl⟩ ?_
  rw [ear]
  refine wpAny_loadName_local T.kf T.ka F.ns hself ?_
  obtain ⟨hh, g, d, t, os⟩ := s
  have hC' : hh.get? C = some (excClassObj nm q C N' bs bm true sn sub ab col dd k0 k1 k2 k3 k5 "ValueError.__new__") := X _ _ hC
  refine ks_wpAny_isType_cls hC' rfl ⟨rfl, ?_⟩
  refine ks_wpAny_call_super hC' rfl I.at_ I.cls (fun c e => by cases e) (looks_mroIn X T.sub) (fun h1 e k => ?_)
  obtain ⟨F1, N1, l1⟩ := ks_newsPush (s := ⟨hh, g, d, t, os⟩) F N rfl e k
  have I1 : InstAt h1 x (excObj C t0 none .none) C none := InstAt.of_exc0 N1 (List.mem_cons_of_mem _ List.mem_cons_self)
  refine kxs_method kxs_ValueError (s := ⟨h1, g, d, t, os⟩) F1 X₀ N1 List.mem_cons_self I1 T.opq T.up T.ve rfl (fun u h2 F2 N2 l2 => ?_)
  refine kxs_callWith1 (i := "ValueError.__init__") (x := x) (s := ⟨h2, g, d, t + 1, os⟩) N2 List.mem_cons_self ?_ ?_ (names_any ys)
  · refine names_args (y :: ys) vs hl (fun p hp Q q => ?_) ⟨kxs_at N2 List.mem_cons_self, ?_⟩
    · obtain ⟨v1, v2, v3⟩ := hv p hp
      exact wpAny_Name (wpAny_loadName_local T.kf v2 F2.ns v1 q) v3
    · refine kxs_call (s := ⟨h2, g, d, t + 1, os⟩) F2 X₀ N2 FB hini List.mem_cons_self (.tail ?_ (.tail ?_ (.head (fun p hp => by cases hp)))) hz (fun t' h3 F3 N3 l3 => ?_)
      · exact Ne.symm (Nat.ne_of_lt (l2 (x, excObj C t0 none .none) (List.mem_cons_of_mem _ List.mem_cons_self)))
      · exact Ne.symm (Nat.ne_of_lt (l1 (x, excObj C t0 none .none) List.mem_cons_self))
      · exact h t' h3 (t + 1) F3 (N3 (x, excObj C t' none .none) (by simp)).1
  · rfl
/-- self.a = a, .. -/
inductive StLines : List Stmt → List Str → Prop
  | nil : StLines [] []
  | cons {a : Str} {q1 q2 q3 q4 : Pos} {ss : List Stmt} {fs : List Str} : StLines ss fs → StLines (.Assign [.Attribute (.Name "self" q1) a q2] (.Name a q3) q4 :: ss) (a :: fs)
def putAll (m0 : Str → Option Value) : List Str → List Value → Str → Option Value
  | a :: fs, v :: vs => putAll (fun y => if y = a then some v else m0 y) fs vs
  | _, _ => m0
structure Flds (K : Frag) (C : Addr) (scope : Scope) (m : Str → Option Value) (fs : List Str) (vs : List Value) : Prop where
  len : fs.length = vs.length
  val : ∀ p ∈ fs.zip vs, m p.1 = some p.2
  loc : ∀ a ∈ fs, scope.names.lookup a = some .local ∧ (a == ("__debug__" : Str)) = false ∧ findIn K (.ref C) a = some none
theorem Flds.tail {scope : Scope} {a : Str} {fs : List Str} {v : Value} {vs : List Value} (h : Flds K C scope m (a :: fs) (v :: vs)) : Flds K C scope m fs vs :=
  ⟨by simpa using h.len, fun p hp => h.val p (List.mem_cons_of_mem _ hp), fun b hb => h.loc b (List.mem_cons_of_mem _ hb)⟩
theorem stores_old {qn : Str} {scope : Scope} {fd : FuncData} {dx : Addr} {fv : Array Value} (T : ExTxt prog K C f cc cda scope fd) (sa : findIn K (.ref C) "__setattr__" = some (some (.builtin "object.__setattr__"))) (hself : m "self" = some (.ref x)) (hLd : L ≠ dx) (hKd : K.lookup dx = none) (hxd : x ≠ dx)
    {Q : Flow → Shared → Prop} : ∀ {ss : List Stmt} {fs : List Str}, StLines ss fs → ∀ (vs : List Value) (m0 : Str → Option Value) (nl : List Str) (s : Shared), Flds K C scope m fs vs → K.In s.heap → s.heap.Ns L m → s.heap.get? x = some { cls := .ref C, dict := some dx, data := .fields fv } → s.heap.Ns1 dx m0 →
      Within m0 nl → nl.length + fs.length ≤ 1000 →
      (∀ h' tk, (∀ b o, b ≠ dx → s.heap.get? b = some o → h'.get? b = some o) → h'.Ns1 dx (putAll m0 fs vs) → Q .next { s with heap := h', toks := tk }) → wpAny (model prog w) A (execs ss (ksEnv qn scope L f (.ref cda) cc)) Q E s := by
  obtain ⟨nm, q, N', bs, bm, sn, sub, ab, col, dd, k0, k1, k2, k3, k5, hC, hbm⟩ := T.cls
  have hD := clsIn_exc hC
  intro ss fs hS
  induction hS with
  | nil =>
    intro vs m0 nl s _ _ _ _ hn _ _ hq
    exact wpAny_execs_nil (hq s.heap s.toks (fun b o _ e => e) (by cases vs <;> exact hn))
  | @cons a q1 q2 q3 q4 ss fs hS ih =>
    intro vs m0 nl s hF X hns hx hn hw hz hq
    cases vs with
    | nil => exact absurd hF.len (by simp)
    | cons v vs =>
      obtain ⟨la, da, na⟩ := hF.loc a List.mem_cons_self
      have va : m a = some v := hF.val (a, v) List.mem_cons_self
      obtain ⟨oD, esD, epD, hoD, hdD, _⟩ := hn.count hw
      refine wpAny_execs_cons (plainObj_wpAny_Assign_Attribute ?_)
      refine wpAny_Name (wpAny_loadName_local (env := ksEnv qn scope L f (.ref cda) cc) T.kf la hns va ?_) da
      refine wpAny_Name (wpAny_loadName_local (env := ksEnv qn scope L f (.ref cda) cc) T.kf T.ka hns hself ?_) (by decide)
      refine set_plain X (ox := { cls := .ref C, dict := some dx, data := .fields fv }) (od := some oD) ⟨hx, rfl, rfl, hoD⟩ sa ?_
      obtain ⟨hp, g, d, t, os⟩ := s
      have hz' : nl.length ≤ 1000 := by simp at hz; omega
      refine PySem.OEX.osa_old X hx hn hw hz' hD (show PySem.HandSPX.refsVE (.ref C :: bm) = true from hbm) rfl na (fun h' tk' k' hn' => ?_)
      have kK : K.In h' := fun b o e => k' b o (fun z => by rw [z, hKd] at e; cases e) (X b o e)
      obtain ⟨oL, eL, pL, hL, r⟩ := hns
      refine ih vs _ (a :: nl) ⟨h', g, d, tk', os⟩ hF.tail kK ⟨oL, eL, pL, k' _ _ hLd hL, r⟩ (k' _ _ hxd hx) hn' (Within.cons a v hw) (by simp at hz ⊢; omega) fun h2 tk2 k2 hn2 => ?_
      exact hq h2 tk2 (fun b o hb e => k2 b o hb (k' b o hb e)) hn2
/-- the first field: the dict is made -/
theorem stores_new {qn : Str} {scope : Scope} {fd : FuncData} {fv : Array Value} (T : ExTxt prog K C f cc cda scope fd) (sa : findIn K (.ref C) "__setattr__" = some (some (.builtin "object.__setattr__"))) (hself : m "self" = some (.ref x)) (hKx : K.lookup x = none) (hLx : L ≠ x)
    {Q : Flow → Shared → Prop} {a : Str} {q1 q2 q3 q4 : Pos} {ss : List Stmt} {fs : List Str} {v : Value} {vs : List Value} (hS : StLines ss fs) (hF : Flds K C scope m (a :: fs) (v :: vs)) (hn : fs.length ≤ 900) (X : K.In s.heap) (hns : s.heap.Ns L m)
    (hx : s.heap.get? x = some { cls := .ref C, data := .fields fv })
    (hq : ∀ h' tk dx, (∀ b o, b ≠ x → s.heap.get? b = some o → h'.get? b = some o) → s.heap.objs.size ≤ dx → dx ≠ x → h'.get? x = some { cls := .ref C, dict := some dx, data := .fields fv } → h'.Ns1 dx (putAll (fun _ => none) (a :: fs) (v :: vs)) → Q .next { s with heap := h', toks := tk }) :
    wpAny (model prog w) A (execs (.Assign [.Attribute (.Name "self" q1) a q2] (.Name a q3) q4 :: ss) (ksEnv qn scope L f (.ref cda) cc)) Q E s := by
  obtain ⟨nm, q, N', bs, bm, sn, sub, ab, col, dd, k0, k1, k2, k3, k5, hC, hbm⟩ := T.cls
  have hD := clsIn_exc hC
  obtain ⟨la, da, na⟩ := hF.loc a List.mem_cons_self
  have va : m a = some v := hF.val (a, v) List.mem_cons_self
  refine wpAny_execs_cons (plainObj_wpAny_Assign_Attribute ?_)
  refine wpAny_Name (wpAny_loadName_local (env := ksEnv qn scope L f (.ref cda) cc) T.kf la hns va ?_) da
  refine wpAny_Name (wpAny_loadName_local (env := ksEnv qn scope L f (.ref cda) cc) T.kf T.ka hns hself ?_) (by decide)
  refine set_plain X (ox := { cls := .ref C, data := .fields fv }) (od := none) ⟨hx, rfl, rfl, trivial⟩ sa ?_
  obtain ⟨hp, g, d, t, os⟩ := s
  refine PySem.HandSPX.exc_osa X hx hD (show PySem.HandSPX.refsVE (.ref C :: bm) = true from hbm) rfl na (fun h' tk' dx k' dn dne hx' hn' => ?_)
  have hKd : K.lookup dx = none := by
    cases e : K.lookup dx with
    | none => rfl
    | some o => exact absurd (Nat.lt_of_lt_of_le (Heap.lt_size (X _ _ e)) dn) (Nat.lt_irrefl _)
  obtain ⟨oL, eL, pL, hL, r⟩ := hns
  have hLd : L ≠ dx := fun z => absurd (Nat.lt_of_lt_of_le (Heap.lt_size hL) (z ▸ dn)) (Nat.lt_irrefl _)
  refine stores_old T sa hself hLd hKd (Ne.symm dne) hS vs _ [a] ⟨h', g, d, tk', os⟩ hF.tail ?_ ⟨oL, eL, pL, k' _ _ hLx hL, r⟩ hx' hn' (Within.cons a v Within.nil) (by simp; omega) fun h2 tk2 k2 hn2 => ?_
  · exact fun b o e => k' b o (fun z => by rw [z, hKx] at e; cases e) (X b o e)
  · refine hq h2 tk2 dx (fun b o hb e => k2 b o (fun z => ?_) (k' b o hb e)) dn dne (k2 _ _ (Ne.symm dne) hx') hn2
    have := Heap.lt_size e
    rw [z] at this
    exact absurd (Nat.lt_of_lt_of_le this dn) (Nat.lt_irrefl _)
end
end Vm

set_option maxHeartbeats 2000000
/-! Vx2: such an exception made by its class. -/
namespace Vm
open PySem PySem.W PySem.Calls PyProof.Rows PySem.HandSPX
section
variable {prog : Program} {w : World} {A : Around} {E : Value → Shared → Prop} {R : Result → Shared → Prop} {s : Shared} {K : Frag} {mg mb : Str → Option Value} {C f cc cda : Addr}
/-- a made exception: its fields by their values -/
structure Made (h h' : Heap) (e C d : Addr) (fs : List Str) (vs : List Value) : Prop where
  keep : ∀ b o, h.get? b = some o → h'.get? b = some o
  new : h.objs.size ≤ e
  obj : ∃ oe vs, h'.get? e = some oe ∧ oe.cls = .ref C ∧ oe.dict = some d ∧ oe.data = .fields vs ∧ vs[1]? = some .none
  dbig : h.objs.size ≤ d
  dne : d ≠ e
  ns : h'.Ns1 d (putAll (fun _ => none) fs vs)
/-- .. and of its __init__ -/
structure ExFn (prog : Program) (K : Frag) (C f cc cda : Addr) (scope : Scope) (fd : FuncData) (a : Str) (fs : List Str) : Prop where
  t : ExTxt prog K C f cc cda scope fd
  sa : findIn K (.ref C) "__setattr__" = some (some (.builtin "object.__setattr__"))
  iC : findIn K (.ref C) "__init__" = some (some (.ref f))
  tC : typeIn K (.ref f) = some (.type "function")
  few : fs.length ≤ 900
  loc : ∀ b ∈ a :: fs, scope.names.lookup b = some .local ∧ (b == ("__debug__" : Str)) = false ∧ findIn K (.ref C) b = some none
  nocell : ∀ x ∈ scope.names, x.2 ≠ .cell
  co : scope.isCoroutine = false
  gen : scope.isGenerator = false
  nd : ("self" :: a :: fs : List Str).Nodup
  fn : ∃ (qual : Str) (params : Arguments) (doc pm : Value) (an : Option Addr) (ct : Value) (p0 p1 p2 p3 p4 q1 q2 q3 q4 : Pos) (ys : List (Str × Pos)) (y : Str × Pos) (ss : List Stmt),
    fd = ksFn "__init__" qual params (.Expr (.Call (.Attribute (.Call (.Name "super" p0) [] [] p1) "__init__" p2) ((y :: ys).map fun y => .Name y.1 y.2) [] p3) p4 :: .Assign [.Attribute (.Name "self" q1) a q2] (.Name a q3) q4 :: ss) scope .none .none doc pm an (.ref cda) ct cc ∧
    (y :: ys).map (·.1) = a :: fs ∧ StLines ss fs ∧ codeIn K (.ref cda) qual = true ∧ (∀ s us, us.length = (a :: fs).length + 1 → BindsTo s fd ⟨us, []⟩ ((("self" : Str) :: a :: fs).zip us)) ∧
    ∀ L, ∃ pl : Sem Bool, eval (.Call (.Attribute (.Call (.Name "super" p0) [] [] p1) "__init__" p2) ((y :: ys).map fun y => .Name y.1 y.2) [] p3) (ksEnv qual scope L f (.ref cda) cc) = (do
      let ov ← attributeBase (.Call (.Name "super" p0) [] [] p1) "__init__" (ksEnv qual scope L f (.ref cda) cc) (eval (.Call (.Name "super" p0) [] [] p1) (ksEnv qual scope L f (.ref cda) cc))
      standAt p2.atName
      let (g, first) ← holding [ov] (getMethod ov "__init__" pl)
      callWith p3 g first (backTo p3 (starEach ((y :: ys).map fun y => .Name y.1 y.2) (ksEnv qual scope L f (.ref cda) cc))) [])
theorem zip_lookup : ∀ {ks : List Str} {us : List Value}, ks.Nodup → ks.length = us.length → ∀ p ∈ ks.zip us, (ks.zip us).reverse.lookup p.1 = some p.2
  | [], _, _, _, _, h => by cases h
  | _ :: _, [], _, _, _, h => by cases h
  | k :: ks, u :: us, nd, hl, p, h => by
    have nd' := List.nodup_cons.mp nd
    show ((k, u) :: ks.zip us).reverse.lookup p.1 = some p.2
    rw [List.reverse_cons, List.lookup_append]
    rcases List.mem_cons.mp h with rfl | h
    · have none : (ks.zip us).reverse.lookup k = none := by
        rw [List.lookup_eq_none_iff]
        intro q hq
        have hm : q ∈ ks.zip us := List.mem_reverse.mp hq
        have : q.1 ∈ ks := (List.of_mem_zip (show (q.1, q.2) ∈ ks.zip us from hm)).1
        have hne : ¬ k = q.1 := fun e => nd'.1 (e ▸ this)
        simpa using hne
      rw [none]
      simp [List.lookup]
    · rw [zip_lookup nd'.2 (by simpa using hl) p h]
      rfl
theorem init_run {scope : Scope} {fd : FuncData} {a : Str} {fs : List Str} (T : ExFn prog K C f cc cda scope fd a fs) {h₀ : Heap} {x t0 : Addr} {vs : List Value} (X₀ : K.In h₀) (k0 : ∀ b o, h₀.get? b = some o → s.heap.get? b = some o) (hlim : s.heap.NoLimit) (hx : s.heap.get? x = some (excO C t0)) (hx0 : h₀.get? x = none)
    (hs0 : h₀.objs.size ≤ s.heap.objs.size) (hnx : K.lookup x = none) (G : h₀.Ns mainGlobals mg) (B : h₀.Ns builtinsNs mb) (hb : mb "super" = some (.type "super")) (hg : mg "super" = none) (hroom : A.depth < recursionLimit) (hl : vs.length = (a :: fs).length)
    (hq : ∀ h' tk dx t1, (∀ b o, b ≠ x → h₀.get? b = some o → h'.get? b = some o) → h'.get? x = some { cls := .ref C, dict := some dx, data := .fields #[.ref t1, .none, .none, .none, .bool false, .none] } → s.heap.objs.size ≤ dx → dx ≠ x → h'.Ns1 dx (putAll (fun _ => none) (a :: fs) vs) → R (.ok (.ret .none)) { s with heap := h', toks := tk }) :
    codeAny (model prog w) A (.call (.ref f) ⟨.ref x :: vs, []⟩) R s := by
  obtain ⟨oc, od, osl, hf⟩ := T.t.fn
  obtain ⟨qual, params, doc, pm, an, ct, p0, p1, p2, p3, p4, q1, q2, q3, q4, ys, y, ss, efd, hys, hss, hcd, hbind, he⟩ := T.fn
  have X : K.In s.heap := X₀.keeps k0
  have hlen : (Value.ref x :: vs).length = (a :: fs).length + 1 := by simp only [List.length_cons]; simp only [List.length_cons] at hl; omega
  have hzl : ("self" :: a :: fs : List Str).length = (Value.ref x :: vs).length := by rw [hlen]; rfl
  have hlk := zip_lookup T.nd hzl
  subst efd
  refine ks_codeAny_call_defAt (binds := ("self" :: a :: fs : List Str).zip (.ref x :: vs)) hroom (X _ _ hf) rfl hlim (codeRec_of X hcd) rfl (hbind s _ hlen) T.nocell (fun z hz => ?_) (fun h1 hns hk1 => ?_) T.co T.gen T.t.kf
  · rcases List.mem_cons.mp (List.of_mem_zip hz).1 with e | e
    · rw [e]; exact T.t.ka
    · exact (T.loc _ e).1
  · have F1 : Fr h₀ s.heap.objs.size h1 (fun y => (("self" :: a :: fs : List Str).zip (.ref x :: vs)).reverse.lookup y) := ⟨hns, fun b o e => hk1 b o (k0 b o e), hs0⟩
    have hxL : x ≠ s.heap.objs.size := Nat.ne_of_lt (Heap.lt_size hx)
    have N1 : News h₀ s.heap.objs.size h1 [(x, excObj C t0 none .none)] := fun p hp => by
      rcases List.mem_cons.mp hp with rfl | hp
      · exact ⟨hk1 _ _ hx, hxL, hx0⟩
      · cases hp
    have hself := hlk ("self", .ref x) List.mem_cons_self
    have yl : (y :: ys).length = vs.length := by
      have e := congrArg List.length hys
      rw [List.length_map] at e
      rw [e, hl]
    obtain ⟨pl, he⟩ := he s.heap.objs.size
    refine ks_wpAt_execs_cons (sup_line (s := { s with heap := h1, toks := _ }) T.t F1 X₀ N1 G B hb hg hself yl ?_ (fun p hp => ?_) he (fun t' h' tk F' hx' => ?_))
    · have := T.few
      have e : sizeLine = 16777216 := sizeLine_eq
      simp only [List.length_cons] at hl
      omega
    · have hm : (p.1.1, p.2) ∈ (a :: fs).zip vs := by
        rw [← hys, List.zip_map_left]
        exact List.mem_map.mpr ⟨p, hp, rfl⟩
      have hk := (List.of_mem_zip hm).1
      exact ⟨hlk _ (List.mem_cons_of_mem _ hm), (T.loc _ hk).1, (T.loc _ hk).2.1⟩
    · refine wpAt_of_wpAny ?_
      cases vs with
      | nil => cases hl
      | cons v vs =>
        have z : s.heap.objs.size < h1.objs.size := hns.lt
        refine stores_new (s := { s with heap := h', toks := tk }) T.t T.sa hself hnx (Ne.symm hxL) hss ⟨by simpa using hl.symm, fun p hp => hlk _ (List.mem_cons_of_mem _ hp), T.loc⟩ T.few (X₀.keeps F'.keep) F'.ns hx' fun h2 tk2 dx k2 dn dne hx2 hn2 => ?_
        refine hq h2 tk2 dx t' (fun b o hb e => k2 b o hb (F'.keep b o e)) hx2 ?_ dne hn2
        exact Nat.le_trans (Nat.le_of_lt F'.ns.lt) dn
/-- super().__init__(..) stands on one line -/
theorem sup_eval {p0 p1 p2 p3 : Pos} {es : List Expr} (env : PySem.Env) (hs : (backTo p3 (starEach es env)).all (!·.1) = true) (hn : es.length < 29) (hl : (p2.endLine == p3.line) = true) : ∃ pl : Sem Bool, eval (.Call (.Attribute (.Call (.Name "super" p0) [] [] p1) "__init__" p2) es [] p3) env = (do
      let ov ← attributeBase (.Call (.Name "super" p0) [] [] p1) "__init__" env (eval (.Call (.Name "super" p0) [] [] p1) env)
      standAt p2.atName
      let (g, first) ← holding [ov] (getMethod ov "__init__" pl)
      callWith p3 g first (backTo p3 (starEach es env)) []) := by
  refine ⟨L2.plainOf (.Call (.Name "super" p0) [] [] p1) env, ?_⟩
  have hf : methodCallForm (es.length + 0) (backTo p3 (starEach es env)) (backToKw p3 (keywordEach [] env)) = true := by
    unfold methodCallForm
    rw [hs]
    show (true && true && decide (es.length + 0 + 0 < 30)) = true
    rw [decide_eq_true (by omega)]
    rfl
  have e : eval (.Call (.Attribute (.Call (.Name "super" p0) [] [] p1) "__init__" p2) es [] p3) env = (do
      let ov ← attributeBase (.Call (.Name "super" p0) [] [] p1) "__init__" env (eval (.Call (.Name "super" p0) [] [] p1) env)
      standAt p2.atName
      methodCall (.Call (.Name "super" p0) [] [] p1) "__init__" p2 p3 env ov (es.length + 0) (backTo p3 (starEach es env)) (backToKw p3 (keywordEach [] env))) := rfl
  rw [e]
  simp only [L2.mcall_line hf hl]
  rfl
theorem ex_made {scope : Scope} {fd : FuncData} {a : Str} {fs : List Str} (T : ExFn prog K C f cc cda scope fd a fs) {vs : List Value} (X : K.In s.heap) (G : s.heap.Ns mainGlobals mg) (B : s.heap.Ns builtinsNs mb) (hb : mb "super" = some (.type "super")) (hg : mg "super" = none) (hlim : s.heap.NoLimit)
    (hroom : A.depth + 1 < recursionLimit) (hl : vs.length = (a :: fs).length) (hq : ∀ h' tk e d, Made s.heap h' e C d (a :: fs) vs → R (.ok (.ret (.ref e))) { s with heap := h', toks := tk }) : codeAny (model prog w) A (.call (.ref C) ⟨vs, []⟩) R s := by
  obtain ⟨nm, q, N, bs, bm, sn, sub, ab, col, dd, k0, k1, k2, k3, k5, hC, hbm⟩ := T.t.cls
  obtain ⟨hp, g, dr, tk, os⟩ := s
  have k : ∀ b o, hp.get? b = some o → ((hp.push (kdv_tup vs)).push (excO C hp.objs.size)).get? b = some o := fun b o e => Heap.get?_push_of_some _ (Heap.get?_push_of_some _ e)
  have hget : ((hp.push (kdv_tup vs)).push (excO C hp.objs.size)).get? (hp.objs.size + 1) = some (excO C hp.objs.size) := by heap_get
  have none1 : hp.get? (hp.objs.size + 1) = none := by
    cases e : hp.get? (hp.objs.size + 1) with
    | none => rfl
    | some o => exact absurd (Nat.lt_of_succ_lt (Heap.lt_size e)) (Nat.lt_irrefl _)
  have hnx : K.lookup (hp.objs.size + 1) = none := by
    cases e : K.lookup (hp.objs.size + 1) with
    | none => rfl
    | some o => exact absurd ((X _ _ e).symm.trans none1) (by simp)
  have hsz : ((hp.push (kdv_tup vs)).push (excO C hp.objs.size)).objs.size = hp.objs.size + 1 + 1 := by rw [Heap.size_push, Heap.size_push]
  have hz : vs.length ≤ sizeLine := by
    have := T.few
    have e : sizeLine = 16777216 := sizeLine_eq
    simp only [List.length_cons] at hl
    omega
  refine call_own F.excBase_ValueError (fun X => refsVE_contains X bm hbm) (X _ _ hC) (looks_findIn X T.iC) (fun self => bind_fn X self T.tC) hz ?_
  refine init_run (s := ⟨(hp.push (kdv_tup vs)).push (excO C hp.objs.size), g, dr, tk, os⟩) (h₀ := hp) T X k (hlim.keeps k) hget none1 (by rw [hsz]; omega) hnx G B hb hg ?_ hl fun h' tk' dx t1 k' hx' dn dne hn => ?_
  · show A.depth + 1 < recursionLimit
    exact hroom
  · rw [hsz] at dn
    have old : ∀ b o, hp.get? b = some o → h'.get? b = some o := fun b o e => k' b o (fun z => by rw [z, none1] at e; cases e) e
    exact ⟨rfl, hq h' tk' (hp.objs.size + 1) dx ⟨old, Nat.le_succ _, ⟨_, _, hx', rfl, rfl, rfl, rfl⟩, Nat.le_trans (Nat.le_trans (Nat.le_succ _) (Nat.le_succ _)) dn, dne, hn⟩⟩
end
end Vm

/-! Vm1: a small machine of our own: values, a store of cells, compiled code, its evaluator. No model of Python in sight. -/
namespace Vm

inductive PV where
  | non
  | bl (b : Bool)
  | int (i : Int)
  | str (l : List Nat)
  | tup (xs : List PV)
  /-- the thing at a place of the store -/
  | loc (n : Nat)
  /-- a list just made, at no place yet -/
  | tl (xs : List PV)
  /-- a list that is read alone -/
  | fl (xs : List PV)
  deriving Inhabited

inductive Cell where
  | lst (xs : List PV)
  /-- a dict; lk: gone through just now -/
  | dic (lk : Bool) (kvs : List (PV × PV))
  | obj (c : Nat) (fs : List (List Nat × PV))
  /-- nothing may look at it -/
  | dead
  deriving Inhabited

abbrev Store := List Cell
abbrev Env := List (Option PV)

inductive Res (α : Type) where
  | ok (a : α) (st : Store)
  /-- an exception: its class, its fields -/
  | exc (c : Nat) (fs : List (Nat × PV)) (st : Store)
  | bad
  deriving Inhabited

@[inline] def Res.bind {α β : Type} (r : Res α) (f : α → Store → Res β) : Res β :=
  match r with
  | .ok a st => f a st
  | .exc c fs st => .exc c fs st
  | .bad => .bad
@[simp] theorem Res.bind_ok {α β : Type} (a : α) (st : Store) (f : α → Store → Res β) : (Res.ok a st).bind f = f a st := rfl
@[simp] theorem Res.bind_exc {α β : Type} (c : Nat) (fs : List (Nat × PV)) (st : Store) (f : α → Store → Res β) : (Res.exc c fs st).bind f = .exc c fs st := rfl
@[simp] theorem Res.bind_bad {α β : Type} (f : α → Store → Res β) : (Res.bad : Res α).bind f = .bad := rfl
def Res.of {α : Type} (o : Option α) (st : Store) : Res α := match o with
  | some a => .ok a st
  | none => .bad
def guardR {α : Type} (c : Bool) (r : Res α) : Res α := if c then r else .bad

/-- the greatest length of lists and texts that we serve -/
def SZ : Nat := 1000000

/-! ### operations by values -/
inductive BOp where | add | sub | mul | fdiv | mod | pow
inductive COp where | eq | ne | lt | le | gt | ge | is | isnot | isin | notin

/-- a list's items, of a temporary list too -/
def lv (st : Store) : PV → Option (List PV)
  | .loc n => match st[n]? with
    | some (.lst xs) => some xs
    | _ => none
  | .tl xs => some xs
  | .fl xs => some xs
  | _ => none
/-- of a list that may be changed, or is new -/
def lw (st : Store) : PV → Option (List PV)
  | .loc n => match st[n]? with
    | some (.lst xs) => some xs
    | _ => none
  | .tl xs => some xs
  | _ => none
/-- a dict's pairs -/
def dv (st : Store) : PV → Option (List (PV × PV))
  | .loc n => match st[n]? with
    | some (.dic _ kvs) => some kvs
    | _ => none
  | _ => none
/-- .. of a dict that is not gone through -/
def dm (st : Store) : PV → Option (List (PV × PV))
  | .loc n => match st[n]? with
    | some (.dic false kvs) => some kvs
    | _ => none
  | _ => none
/-- the items of a list that is there to be changed -/
def lm (st : Store) : PV → Option (Nat × List PV)
  | .loc n => match st[n]? with
    | some (.lst xs) => some (n, xs)
    | _ => none
  | _ => none
/-- an object of a class: its place, its class, its fields -/
def obV (st : Store) : PV → Option (Nat × Nat × List (List Nat × PV))
  | .loc n => match st[n]? with
    | some (.obj c fs) => some (n, c, fs)
    | _ => none
  | _ => none
def putO (f : List Nat) (v : PV) : List (List Nat × PV) → List (List Nat × PV)
  | [] => [(f, v)]
  | (g, u) :: r => if g = f then (g, v) :: r else (g, u) :: putO f v r
/-- a field; cs: the classes that it may be of -/
def fldV (cs : List Nat) (x : PV) (f : List Nat) (st : Store) : Option PV := match obV st x with
  | some (_, c, fs) => if cs.contains c then fs.lookup f else none
  | none => none
def setFld (cs : List Nat) (x : PV) (f : List Nat) (v : PV) (st : Store) : Option Store := match obV st x with
  | some (n, c, fs) => if cs.contains c && decide (fs.length < 900) then some (st.set n (.obj c (putO f v fs))) else none
  | none => none
/-- which def is run: tab, by classes -/
def methOf (tab : List (Nat × Nat)) (m : List Nat) (x : PV) (st : Store) : Option Nat := match obV st x with
  | some (_, c, fs) => if (fs.lookup m).isNone then tab.lookup c else none
  | none => none
/-- a list's or a tuple's items -/
def sv (st : Store) : PV → Option (List PV)
  | .tup xs => some xs
  | v => lv st v
/-- a temporary list finds its place -/
def fixv (v : PV) (st : Store) : PV × Store := match v with
  | .tl xs => (.loc st.length, st ++ [.lst xs])
  | v => (v, st)
def fixR (r : Res PV) : Res PV := r.bind fun v st => .ok (fixv v st).1 (fixv v st).2

def BIG : Nat := 18446744073709551616
def guardO {α : Type} (c : Bool) (a : α) : Option α := if c then some a else none
def catL (a b : Option (List PV)) : Option PV := match a, b with
  | some xs, some ys => guardO (decide (xs.length + ys.length ≤ SZ)) (.tl (xs ++ ys))
  | _, _ => none
def repL (a : Option (List PV)) (k : Int) : Option PV := match a with
  | some xs => guardO (decide (0 ≤ k) && decide (k ≤ 1000000) && decide (xs.length * k.toNat ≤ SZ)) (.tl (List.replicate k.toNat xs).flatten)
  | none => none
def binop (o : BOp) (a b : PV) (st : Store) : Option PV := match o with
  | .add => (match a, b with
    | .int i, .int j => some (.int (i + j))
    | .str x, .str y => guardO (decide (x.length + y.length ≤ SZ)) (.str (x ++ y))
    | .tup x, .tup y => guardO (decide (x.length + y.length ≤ SZ)) (.tup (x ++ y))
    | x, y => catL (lw st x) (lw st y))
  | .sub => (match a, b with
    | .int i, .int j => some (.int (i - j))
    | _, _ => none)
  | .mul => (match a, b with
    | .int i, .int j => guardO (decide (i.natAbs < BIG) || decide (j.natAbs < BIG)) (.int (i * j))
    | x, .int k => repL (lw st x) k
    | _, _ => none)
  | .fdiv => (match a, b with
    | .int i, .int j => guardO (decide (0 < j) && decide (j < 1073741824)) (.int (i / j))
    | _, _ => none)
  | .mod => (match a, b with
    | .int i, .int j => guardO (decide (0 < j)) (.int (i % j))
    | _, _ => none)
  | .pow => (match a, b with
    | .int i, .int j => guardO (decide (0 ≤ j) && decide (j ≤ 1000000) && decide (i.natAbs < BIG)) (.int (i ^ j.toNat))
    | _, _ => none)

/-- == of flat values -/
def eqS : PV → PV → Option Bool
  | .non, .non => some true
  | .int i, .int j => some (i == j)
  | .bl i, .bl j => some (i == j)
  | .str i, .str j => some (i == j)
  | .non, .int _ => some false | .int _, .non => some false
  | .non, .bl _ => some false | .bl _, .non => some false
  | .non, .str _ => some false | .str _, .non => some false
  | .int _, .str _ => some false | .str _, .int _ => some false
  | .bl _, .str _ => some false | .str _, .bl _ => some false
  | _, _ => none
def flat : PV → Bool
  | .non => true | .bl _ => true | .int _ => true | .str _ => true
  | _ => false
/-- == of flat values, as a list's search asks it -/
def eqF : PV → PV → Bool
  | .non, .non => true
  | .bl a, .bl b => a == b
  | .bl a, .int b => (if a then 1 else 0) == b
  | .int a, .bl b => a == (if b then 1 else 0)
  | .int a, .int b => a == b
  | .str a, .str b => a == b
  | _, _ => false
def mapO (f : PV → Option PV) : List PV → Option (List PV)
  | [] => some []
  | x :: xs => match f x, mapO f xs with
    | some y, some ys => some (y :: ys)
    | _, _ => none
/-- a thing as data: its lists read out; n: the depth -/
def dataOf (st : Store) : Nat → PV → Option PV
  | 0, _ => none
  | n + 1, x => match x with
    | .non => some .non
    | .bl b => some (.bl b)
    | .int i => some (.int i)
    | .str l => if l.all (fun c => decide (c < 1114112)) then some (.str l) else none
    | .tup xs => (mapO (dataOf st n) xs).map .tup
    | x => ((lv st x).bind (mapO (dataOf st n))).map .fl
def eqDL (f : PV → PV → Bool) : List PV → List PV → Bool
  | [], [] => true
  | x :: xs, y :: ys => f x y && eqDL f xs ys
  | _, _ => false
/-- == of data -/
def eqD : Nat → PV → PV → Bool
  | 0, _, _ => false
  | n + 1, x, y => match x, y with
    | .tup xs, .tup ys => eqDL (eqD n) xs ys
    | .fl xs, .fl ys => eqDL (eqD n) xs ys
    | x, y => eqF x y
def eqW (a b : PV) (st : Store) : Option Bool := match eqS a b with
  | some r => some r
  | none => match dataOf st 60 a, dataOf st 60 b with
    | some x, some y => some (eqD 60 x y)
    | _, _ => none
/-- x in a dict: keys are flat, no bool among them -/
def keyOk : PV → Bool
  | .int _ => true | .str _ => true
  | _ => false
def dget (kvs : List (PV × PV)) (k : PV) : Option PV := (kvs.find? fun p => eqF p.1 k).map (·.2)
def dput (kvs : List (PV × PV)) (k v : PV) : List (PV × PV) :=
  if kvs.any fun p => eqF p.1 k then kvs.map fun p => if eqF p.1 k then (p.1, v) else p else kvs ++ [(k, v)]

def isinL (x : PV) (xs : List PV) : Option Bool := if flat x && xs.all flat then some (xs.any fun z => eqF z x) else none
def isinV (x y : PV) (st : Store) : Option Bool := match y with
  | .str l => match x with
    | .str [c] => some (l.contains c)
    | _ => none
  | y => match dv st y with
    | some kvs => if keyOk x then some (kvs.any fun p => eqF p.1 x) else none
    | none => (sv st y).bind (isinL x)
def isNone : PV → Bool
  | .non => true
  | _ => false
def cmpV (o : COp) (a b : PV) (st : Store) : Option Bool := match o with
  | .lt => (match a, b with
    | .int i, .int j => some (decide (i < j))
    | _, _ => none)
  | .le => (match a, b with
    | .int i, .int j => some (decide (i ≤ j))
    | _, _ => none)
  | .gt => (match a, b with
    | .int i, .int j => some (decide (j < i))
    | _, _ => none)
  | .ge => (match a, b with
    | .int i, .int j => some (decide (j ≤ i))
    | _, _ => none)
  | .eq => eqW a b st
  | .ne => (eqW a b st).map (!·)
  | .is => if isNone b then some (isNone a) else none
  | .isnot => if isNone b then some (!isNone a) else none
  | .isin => isinV a b st
  | .notin => (isinV a b st).map (!·)

/-- an index of a sequence of n items -/
def ixOf (n : Nat) (i : Int) : Option Nat :=
  if 0 ≤ i then (if i < n then some i.toNat else none) else (if -i ≤ n then some (n - (-i).toNat) else none)
def itemAt {α : Type} (xs : List α) (i : Int) : Option α := (ixOf xs.length i).bind fun j => xs[j]?
def indexG (a b : PV) (st : Store) : Option PV := match dv st a with
  | some kvs => if keyOk b then dget kvs b else none
  | none => match b with
    | .int i => (sv st a).bind fun xs => itemAt xs i
    | _ => none
def indexS (l : List Nat) (b : PV) : Option PV := match b with
  | .int i => if l.length ≤ SZ then (itemAt l i).map fun c => .str [c] else none
  | _ => none
def indexV (a b : PV) (st : Store) : Option PV := match a with
  | .str l => indexS l b
  | a => indexG a b st
/-- a slice's bound -/
def slIx (n d : Nat) : Option Int → Nat
  | none => d
  | some i => if 0 ≤ i then min i.toNat n else n - min (-i).toNat n
def cut {α : Type} (xs : List α) (lo hi : Option Int) : List α := (xs.drop (slIx xs.length 0 lo)).take (slIx xs.length xs.length hi - slIx xs.length 0 lo)
def sliceG (a : PV) (l h : Option Int) (st : Store) : Option PV := match a with
  | .str x => if x.length ≤ SZ then some (.str (cut x l h)) else none
  | .tup xs => some (.tup (cut xs l h))
  | v => (lv st v).map fun xs => .tl (cut xs l h)
/-! ### built-in functions -/
inductive Blt where | len | abs | int | str | tuple | list | sum | max | min | dict
def digitsN : Nat → Nat → List Nat
  | 0, _ => []
  | f + 1, n => if n < 10 then [48 + n] else digitsN f (n / 10) ++ [48 + n % 10]
/-- the signs of a number below ten thousand millions -/
def numStr (i : Int) : Option (List Nat) := if 0 ≤ i ∧ i < 10000000000 then some (digitsN 11 i.toNat) else none
def isDigit (c : Nat) : Bool := decide (48 ≤ c) && decide (c ≤ 57)
def digVal (l : List Nat) : Nat := l.foldl (fun n c => n * 10 + (c - 48)) 0
/-- the number that a text of figures tells -/
def intStr (l : List Nat) : Option Int := if l.all isDigit && !l.isEmpty && decide (l.length ≤ 600) then some (digVal l : Nat) else none
def strsOf : List PV → Option (List (List Nat))
  | [] => some []
  | .str l :: r => (strsOf r).map (l :: ·)
  | _ :: _ => none
def joinP (sep : List Nat) : List (List Nat) → List Nat
  | [] => []
  | [x] => x
  | x :: y :: r => x ++ (sep ++ joinP sep (y :: r))
def splitC (c : Nat) : List Nat → List (List Nat)
  | [] => [[]]
  | a :: r => if a = c then [] :: splitC c r else match splitC c r with
    | p :: ps => (a :: p) :: ps
    | [] => [[a]]
def intsOf : List PV → Option (List Int)
  | [] => some []
  | .int i :: r => (intsOf r).map (i :: ·)
  | _ :: _ => none
def pairsOf : List PV → Option (List (PV × PV))
  | [] => some []
  | .tup [k, v] :: r => if keyOk k then (pairsOf r).map ((k, v) :: ·) else none
  | _ :: _ => none
def lenV (v : PV) (st : Store) : Option Int := match v with
  | .str l => if l.length ≤ SZ then some (l.length : Int) else none
  | v => match dv st v with
    | some kvs => some kvs.length
    | none => (sv st v).map fun xs => xs.length
/-- of one argument -/
def blt1 (f : Blt) (v : PV) (st : Store) : Option PV := match f with
  | .len => (lenV v st).map .int
  | .abs => (match v with
    | .int i => some (.int (if i < 0 then -i else i))
    | _ => none)
  | .int => (match v with
    | .int i => some (.int i)
    | .bl b => some (.int (if b then 1 else 0))
    | .str l => (intStr l).map .int
    | _ => none)
  | .str => (match v with
    | .int i => (numStr i).map .str
    | .str l => some (.str l)
    | _ => none)
  | .tuple => (sv st v).map .tup
  | .list => (sv st v).map .tl
  | .sum => (((lv st v).bind intsOf).map List.sum).map .int
  | _ => none
def blt2 (f : Blt) (v w : PV) : Option PV := match f, v, w with
  | .max, .int i, .int j => some (.int (if j > i then j else i))
  | .min, .int i, .int j => some (.int (if j < i then j else i))
  | _, _, _ => none

/-! ### methods of built-in types -/
inductive Mth where | append | pop | reverse | join | split | index | get
/-- without arguments -/
def mth0 (m : Mth) (o : PV) (st : Store) : Option (PV × Store) := match m with
  | .pop => (match lm st o with
    | some (n, xs) => (xs[xs.length - 1]?).map fun y => (y, st.set n (.lst xs.dropLast))
    | none => none)
  | .reverse => (match lm st o with
    | some (n, xs) => some (.non, st.set n (.lst xs.reverse))
    | none => none)
  | _ => none
def isStr : PV → Bool
  | .str _ => true
  | _ => false
def joinV (o x : PV) (st : Store) : Option PV := match o with
  | .str sep => ((sv st x).bind strsOf).bind fun ys => guardO (decide ((ys.map List.length).sum + ys.length * sep.length ≤ SZ)) (.str (joinP sep ys))
  | _ => none
def splitV (o x : PV) : Option PV := match o, x with
  | .str l, .str [c] => guardO (decide (l.length < SZ) && decide (c < 256)) (.tl ((splitC c l).map .str))
  | _, _ => none
/-- the receiver is of the method's type -/
def mOk (m : Mth) (o : PV) (st : Store) : Bool := match m with
  | .append => (lm st o).isSome
  | .join => isStr o
  | .split => isStr o
  | .index => (lv st o).isSome
  | .get => (dv st o).isSome
  | _ => false
/-- the first place of an item -/
def indexL (x : PV) (xs : List PV) : Option PV := if flat x && xs.all flat then (xs.findIdx? fun z => eqF z x).map fun j => .int (j : Nat) else none
def getV (o k : PV) (d : PV) (st : Store) : Option PV := match dv st o with
  | some kvs => if keyOk k then some ((dget kvs k).getD d) else none
  | none => none
def mth1 (m : Mth) (o x : PV) (st : Store) : Option (PV × Store) := match m with
  | .append => (match lm st o with
    | some (n, xs) => guardO (decide (xs.length < SZ)) (.non, st.set n (.lst (xs ++ [x])))
    | none => none)
  | .join => (joinV o x st).map fun v => (v, st)
  | .split => (splitV o x).map fun v => (v, st)
  | .index => ((lv st o).bind (indexL x)).map fun v => (v, st)
  | .get => (getV o x .non st).map fun v => (v, st)
  | _ => none
def mth2 (m : Mth) (o x y : PV) (st : Store) : Option (PV × Store) := match m with
  | .get => (getV o x y st).map fun v => (v, st)
  | _ => none

def mthR (o : Option (PV × Store)) : Res PV := match o with
  | some (v, st) => .ok v st
  | none => .bad
def dict1R (o : Option (List (PV × PV))) (st : Store) : Res PV := match o with
  | some kvs => .ok (.loc st.length) (st ++ [.dic false (kvs.foldl (fun acc p => dput acc p.1 p.2) [])])
  | none => .bad
/-! ### code -/
/-- what isinstance asks for -/
inductive Ty where | int | bool | str | list | tuple
inductive Tag where | non | bl | int | str | tup | lst | dic
def tagOf (x : PV) (st : Store) : Option Tag := match x with
  | .non => some .non
  | .bl _ => some .bl
  | .int _ => some .int
  | .str _ => some .str
  | .tup _ => some .tup
  | .loc n => (match st[n]? with
    | some (.lst _) => some .lst
    | some (.dic false _) => some .dic
    | _ => none)
  | _ => none
def isTag : Ty → Tag → Bool
  | .int, .int => true | .int, .bl => true
  | .bool, .bl => true
  | .str, .str => true
  | .list, .lst => true
  | .tuple, .tup => true
  | _, _ => false
def isTy (t : Ty) (x : PV) (st : Store) : Option Bool := (tagOf x st).map (isTag t)

/-- what is gone through: a value, range(a), range(a, b) -/
inductive ItK where | seq | rng1 | rng2 | rng3 (c : Int) | kk
inductive CE where
  | lit (v : PV)
  | var (i : Nat)
  | glob (g : Nat)
  | nil
  | cons (a as : CE)
  | tup (as : CE)
  | lst (as : CE)
  | bin (o : BOp) (a b : CE)
  | cmp (o : COp) (a b : CE)
  | cmp2 (o o' : COp) (a b c : CE)
  | and (a b : CE)
  | or (a b : CE)
  | not (a : CE)
  | neg (a : CE)
  | ite (c a b : CE)
  | ix (a b : CE)
  /-- no bound of a slice -/
  | noE
  | sl (a lo hi : CE)
  | call (f : Nat) (as : CE)
  | blt1 (f : Blt) (a : CE)
  | blt2 (f : Blt) (a b : CE)
  | mth0 (m : Mth) (o : CE)
  | mth1 (m : Mth) (o a : CE)
  | mth2 (m : Mth) (o a b : CE)
  /-- a written dict of the module at a; the keys of one, as what is gone through; is it there -/
  | kix (g : Nat) (a : CE)
  | kks (g : Nat)
  | kin (neg : Bool) (g : Nat) (a : CE)
  /-- a dict that is written out: keys and values in turn -/
  | ddisp (as : CE)
  | isi (a : CE) (t : Ty)
  /-- [e for slots in .. if c]; k: what is gone through, of a and b; hc: there is an if -/
  | lc (own : List Nat) (k : ItK) (a b : CE) (hc : Bool) (c e : CE)
  /-- list(d.items()) -/
  | ditems (a : CE)
  /-- dict(pairs) -/
  | dict1 (a : CE)
  /-- {} -/
  | dnew
  /-- o.f -/
  | fld (cs : List Nat) (o : CE) (f : List Nat)
  /-- o.m(..) -/
  | meth (o : CE) (m : List Nat) (tab : List (Nat × Nat)) (as : CE)
  /-- C(..), f: its __init__ -/
  | new (c f : Nat) (as : CE)
inductive CT where
  | name (i : Nat)
  | names (is : List Nat)
  | sub (o i : CE)
  | fld (cs : List Nat) (o : CE) (f : List Nat)
/-- what an except clause computes of the error that it holds -/
inductive SE where
  | lit (v : PV)
  | fld (f : Nat)
  /-- isinstance: of one of these classes -/
  | isi (x : List Nat) (cs : List Nat)
  | and (a b : SE)
  | not (a : SE)
  | nil
  | cons (a as : SE)
  | lst (as : SE)
inductive SS where
  | ret (e : SE)
  | if_ (c : SE) (a b : SS)
inductive CS where
  | nil
  | cons (s ss : CS)
  | asg (t : CT) (e : CE)
  | par (i j : Nat) (a b : CE)
  | expr (e : CE)
  | ret (e : CE)
  | retN
  | pass
  | brk
  | cont
  | if_ (c : CE) (a b : CS)
  | while_ (c : CE) (b : CS)
  | for_ (t : CT) (k : ItK) (a b : CE) (body : CS)
  /-- raise C(..), ks: its fields -/
  | raise_ (c : Nat) (ks : List Nat) (as : CE)
  /-- try: body, except one of cs as ..: s -/
  | try_ (body : CS) (kn cs : List Nat) (s : SS)

/-- an error's fields and class, looked at -/
def isTl : PV → Bool
  | .tl _ => true
  | _ => false
def seV (c : Nat) (fs : List (Nat × PV)) : SE → Option PV
  | .lit v => some v
  | .fld f => fs.lookup f
  | .isi _ cs => some (.bl (cs.contains c))
  | .and a b => match seV c fs a with
    | some (.bl true) => (match seV c fs b with
      | some (.bl r) => some (.bl r)
      | _ => none)
    | some (.bl false) => some (.bl false)
    | _ => none
  | .not a => match seV c fs a with
    | some (.bl r) => some (.bl (!r))
    | _ => none
  | .nil => some (.tup [])
  | .cons a as => match seV c fs a, seV c fs as with
    | some x, some (.tup xs) => if isTl x then none else some (.tup (x :: xs))
    | _, _ => none
  | .lst as => match seV c fs as with
    | some (.tup xs) => if xs.length ≤ SZ then some (.tl xs) else none
    | _ => none

/-- what is gone through -/
inductive Src where
  | vals (xs : List PV)
  | live (n : Nat)
  | rng (lo : Int) (n : Nat)
def srcOf (v : PV) (st : Store) : Option Src := match v with
  | .tup xs => some (.vals xs)
  | .tl xs => some (.vals xs)
  | .fl xs => some (.vals xs)
  | .str l => some (.vals (l.map fun c => .str [c]))
  | .loc n => (match st[n]? with
    | some (.lst _) => some (.live n)
    | _ => none)
  | _ => none
def R62 : Int := 4611686018427387904
def rng1Of (v : PV) : Option Src := match v with
  | .int j => if -R62 ≤ j ∧ j < R62 then some (.rng 0 j.toNat) else none
  | _ => none
def rng2Of (v w : PV) : Option Src := match v, w with
  | .int i, .int j => if (-R62 ≤ i ∧ i < R62) ∧ (-R62 ≤ j ∧ j < R62) then some (.rng i (j - i).toNat) else none
  | _, _ => none

/-- range(v, w, c) -/
def rng3Of (c : Int) (v w : PV) : Option Src := match v, w with
  | .int i, .int j => if (-R62 ≤ i ∧ i < R62) ∧ (-R62 ≤ j ∧ j < R62) ∧ c = -1 then some (.vals ((List.range (i - j).toNat).map fun k => .int (i + (k : Nat) * c))) else none
  | _, _ => none
/-- written dicts stand as lists of pairs -/
def kdOf : Option PV → Option (List (List Nat × PV))
  | some (.fl ps) => go ps
  | _ => none
where go : List PV → Option (List (List Nat × PV))
  | [] => some []
  | .tup [.str k, v] :: r => (go r).map ((k, v) :: ·)
  | _ :: _ => none
def kget (o : Option PV) (x : PV) : Option PV := match x with
  | .str l => (kdOf o).bind fun kvs => kvs.lookup l
  | _ => none
def khas (o : Option PV) (x : PV) : Option Bool := match x with
  | .str l => (kdOf o).map fun kvs => (kvs.lookup l).isSome
  | _ => none
def kkeys (o : Option PV) : Option PV := (kdOf o).map fun kvs => .tup (kvs.map fun p => .str p.1)
/-- keys and values in turn, as pairs -/
def twos : List PV → Option (List (PV × PV))
  | [] => some []
  | k :: v :: r => if keyOk k then (twos r).map ((k, v) :: ·) else none
  | _ => none
section
variable (call : Nat → List PV → Store → Res PV) (G : Nat → Option PV) (N : Nat)

def unpackE : List Nat → List PV → Env → Option Env
  | [], [], ev => some ev
  | i :: is, v :: vs, ev => unpackE is vs (ev.set i (some v))
  | _, _, _ => none
/-- a comprehension's target -/
def bindTup (is : List Nat) (v : PV) (ev : Env) : Option Env := match v with
  | .tup vs => unpackE is vs ev
  | _ => none
def bindOwn (own : List Nat) (v : PV) (ev : Env) : Option Env := match own with
  | [i] => some (ev.set i (some v))
  | is => bindTup is v ev
/-- the slots of a comprehension's own names forgotten -/
def wipeE (ev : Env) : List Nat → Env
  | [] => ev
  | v :: vs => (wipeE ev vs).set v none

/-- a comprehension's turns over given items: f makes none (left out) or some item -/
def lcGo (f : PV → Store → Res (Option PV)) : List PV → List PV → Store → Res (List PV)
  | [], acc, st => .ok acc st
  | x :: xs, acc, st => (f x st).bind fun r st1 => match r with
    | some y => guardR (decide (acc.length < SZ)) (lcGo f xs (acc ++ [y]) st1)
    | none => lcGo f xs acc st1
def lcLive (f : PV → Store → Res (Option PV)) (n : Nat) : Nat → Nat → List PV → Store → Res (List PV)
  | 0, _, _, _ => .bad
  | fu + 1, i, acc, st => match lv st (.loc n) with
    | some xs => (match xs[i]? with
      | none => .ok acc st
      | some x => (f x st).bind fun r st1 => match r with
        | some y => guardR (decide (acc.length < SZ)) (lcLive f n fu (i + 1) (acc ++ [y]) st1)
        | none => lcLive f n fu (i + 1) acc st1)
    | none => .bad
def lcRng (f : PV → Store → Res (Option PV)) : Nat → Int → List PV → Store → Res (List PV)
  | 0, _, acc, st => .ok acc st
  | n + 1, i, acc, st => (f (.int i) st).bind fun r st1 => match r with
    | some y => guardR (decide (acc.length < SZ)) (lcRng f n (i + 1) (acc ++ [y]) st1)
    | none => lcRng f n (i + 1) acc st1
def lcSrc (f : PV → Store → Res (Option PV)) (s : Src) (st : Store) : Res (List PV) := match s with
  | .vals xs => lcGo f xs [] st
  | .live n => lcLive f n N 0 [] st
  | .rng lo n => lcRng f n lo [] st

/-- no exception leaves it -/
def noExc {α : Type} (r : Res α) : Res α := match r with
  | .exc _ _ _ => .bad
  | r => r
def tupOf : PV → List PV
  | .tup xs => xs
  | _ => []
def truth (r : Res PV) : Res Bool := r.bind fun v st => match v with
  | .bl b => .ok b st
  | _ => .bad

/-- what a comprehension does with an item -/
def itemM (is : List Nat) (ev : Env) (mc me : Env → Store → Res PV) (x : PV) (st2 : Store) : Res (Option PV) := match bindOwn is x (wipeE ev is) with
  | none => .bad
  | some ev2 => noExc ((truth (mc ev2 st2)).bind fun r st3 => if r then (fixR (me ev2 st3)).bind fun y st4 => .ok (some y) st4 else .ok none st3)
def lcM (is : List Nat) (mi : Env → Store → Res Src) (mc me : Env → Store → Res PV) : Env → Store → Res PV := fun ev st => (mi ev st).bind fun s st1 => (lcSrc N (itemM is ev mc me) s st1).bind fun xs st2 => .ok (.tl xs) st2
def iterM (k : ItK) (fa fb : Env → Store → Res PV) : Env → Store → Res Src := fun ev st => match k with
  | .seq => (fa ev st).bind fun v st1 => Res.of (srcOf v st1) st1
  | .rng1 => (fa ev st).bind fun v st1 => Res.of (rng1Of v) st1
  | .rng2 => (fa ev st).bind fun v st1 => (fb ev st1).bind fun w st2 => Res.of (rng2Of v w) st2
  | .rng3 c => (fa ev st).bind fun v st1 => (fb ev st1).bind fun w st2 => Res.of (rng3Of c v w) st2
  | .kk => (fa ev st).bind fun v st1 => Res.of (srcOf v st1) st1
def condM (hc : Bool) (f : Env → Store → Res PV) : Env → Store → Res PV := fun ev st => if hc then f ev st else .ok (.bl true) st
def isNo : CE → Bool
  | .noE => true
  | _ => false
def partR (no : Bool) (r : Res PV) : Res (Option Int) := r.bind fun v st => if no then .ok none st else match v with
  | .int i => .ok (some i) st
  | _ => .bad
/-- an expression; an argument list gives a tuple; a thing gone through (seq, rng) is met in evI alone -/
def evE : CE → Env → Store → Res PV
  | .lit v, _, st => .ok v st
  | .var i, ev, st => match ev[i]? with
    | some (some v) => .ok v st
    | _ => .bad
  | .glob g, _, st => Res.of (G g) st
  | .nil, _, st => .ok (.tup []) st
  | .cons a as, ev, st => (fixR (evE a ev st)).bind fun x st1 => (evE as ev st1).bind fun xs st2 => .ok (.tup (x :: tupOf xs)) st2
  | .tup as, ev, st => (evE as ev st).bind fun v st1 => guardR (decide ((tupOf v).length ≤ SZ)) (.ok (.tup (tupOf v)) st1)
  | .lst as, ev, st => (evE as ev st).bind fun v st1 => guardR (decide ((tupOf v).length ≤ SZ)) (.ok (.tl (tupOf v)) st1)
  | .bin o a b, ev, st => (evE a ev st).bind fun x st1 => (evE b ev st1).bind fun y st2 => Res.of (binop o x y st2) st2
  | .cmp o a b, ev, st => (evE a ev st).bind fun x st1 => (evE b ev st1).bind fun y st2 => Res.of ((cmpV o x y st2).map .bl) st2
  | .cmp2 o o' a b c, ev, st => (evE a ev st).bind fun x st1 => (evE b ev st1).bind fun y st2 => (Res.of (cmpV o x y st2) st2).bind fun r st3 =>
      if r then (evE c ev st3).bind fun z st4 => Res.of ((cmpV o' y z st4).map .bl) st4 else .ok (.bl false) st3
  | .and a b, ev, st => (truth (evE a ev st)).bind fun r st1 => if r then (truth (evE b ev st1)).bind fun r st2 => .ok (.bl r) st2 else .ok (.bl false) st1
  | .or a b, ev, st => (truth (evE a ev st)).bind fun r st1 => if r then .ok (.bl true) st1 else (truth (evE b ev st1)).bind fun r st2 => .ok (.bl r) st2
  | .not a, ev, st => (truth (evE a ev st)).bind fun r st1 => .ok (.bl (!r)) st1
  | .neg a, ev, st => (evE a ev st).bind fun x st1 => match x with
    | .int i => .ok (.int (-i)) st1
    | _ => .bad
  | .ite c a b, ev, st => (truth (evE c ev st)).bind fun r st1 => if r then evE a ev st1 else evE b ev st1
  | .ix a b, ev, st => (evE a ev st).bind fun x st1 => (evE b ev st1).bind fun y st2 => Res.of (indexV x y st2) st2
  | .noE, _, st => .ok .non st
  | .sl a lo hi, ev, st => (evE a ev st).bind fun x st1 => (partR (isNo lo) (evE lo ev st1)).bind fun l st2 => (partR (isNo hi) (evE hi ev st2)).bind fun h st3 => Res.of (sliceG x l h st3) st3
  | .call f as, ev, st => (evE as ev st).bind fun v st1 => call f (tupOf v) st1
  | .blt1 f a, ev, st => (evE a ev st).bind fun x st1 => Res.of (blt1 f x st1) st1
  | .blt2 f a b, ev, st => (evE a ev st).bind fun x st1 => (evE b ev st1).bind fun y st2 => Res.of (blt2 f x y) st2
  | .mth0 m o, ev, st => (evE o ev st).bind fun x st1 => mthR (mth0 m x st1)
  | .mth1 m o a, ev, st => (evE o ev st).bind fun x st1 => guardR (mOk m x st1) <| (fixR (evE a ev st1)).bind fun y st2 => mthR (mth1 m x y st2)
  | .mth2 m o a b, ev, st => (evE o ev st).bind fun x st1 => guardR (mOk m x st1) <| (fixR (evE a ev st1)).bind fun y st2 => (fixR (evE b ev st2)).bind fun z st3 => mthR (mth2 m x y z st3)
  | .kix g a, ev, st => (evE a ev st).bind fun x st1 => Res.of (kget (G g) x) st1
  | .kks g, _, st => Res.of (kkeys (G g)) st
  | .kin neg g a, ev, st => (evE a ev st).bind fun x st1 => Res.of ((khas (G g) x).map fun b => .bl (b != neg)) st1
  | .ddisp as, ev, st => (evE as ev st).bind fun v st1 => Res.of (twos (tupOf v)) st1 |>.bind fun kvs st2 => guardR (decide (kvs.length ≤ 15)) (.ok (.loc st2.length) (st2 ++ [.dic false (kvs.foldl (fun acc p => dput acc p.1 p.2) [])]))
  | .isi a t, ev, st => (evE a ev st).bind fun x st1 => Res.of ((isTy t x st1).map .bl) st1
  | .lc own k a b hc c e, ev, st => lcM N own (iterM k (fun ev st => evE a ev st) (fun ev st => evE b ev st)) (condM hc fun ev st => evE c ev st) (fun ev st => evE e ev st) ev st
  | .ditems a, ev, st => (evE a ev st).bind fun x st1 => Res.of ((dm st1 x).map fun kvs => .tl (kvs.map fun p => .tup [p.1, p.2])) st1
  | .dict1 a, ev, st => (evE a ev st).bind fun x st1 => dict1R ((lv st1 x).bind pairsOf) st1
  | .dnew, _, st => .ok (.loc st.length) (st ++ [.dic false []])
  | .fld cs o f, ev, st => (evE o ev st).bind fun x st1 => Res.of (fldV cs x f st1) st1
  | .meth o m tab as, ev, st => (evE o ev st).bind fun x st1 => match methOf tab m x st1 with
    | some f => (evE as ev st1).bind fun v st2 => call f (x :: tupOf v) st2
    | none => .bad
  | .new c f as, ev, st => (evE as ev st).bind fun v st1 => (noExc (call (1000 + f) (.loc st1.length :: tupOf v) (st1 ++ [.obj c []]))).bind fun r st2 => match r with
    | .non => .ok (.loc st1.length) st2
    | _ => .bad

inductive Flow where
  | nx (ev : Env) | rt (v : PV) | bk (ev : Env) | ct (ev : Env)
  deriving Inhabited

def setSub (o i v : PV) (st : Store) : Option Store := match o with
  | .loc n => (match st[n]?, i with
    | some (.lst xs), .int k => (match ixOf xs.length k with
      | some j => some (st.set n (.lst (xs.set j v)))
      | none => none)
    | some (.dic false kvs), k => if keyOk k && decide (kvs.length < SZ) then some (st.set n (.dic false (dput kvs k v))) else none
    | _, _ => none)
  | _ => none
/-- a target takes a value -/
def evT (t : CT) (v : PV) (ev : Env) (st : Store) : Res Env := match t with
  | .name i => .ok (ev.set i (some v)) st
  | .names is => (match v with
    | .tup vs => Res.of (unpackE is vs ev) st
    | _ => .bad)
  | .sub o i => (evE call G N o ev st).bind fun x st1 => (evE call G N i ev st1).bind fun k st2 => match setSub x k v st2 with
    | some st3 => .ok ev st3
    | none => .bad
  | .fld cs o f => (evE call G N o ev st).bind fun x st1 => match setFld cs x f v st1 with
    | some st2 => .ok ev st2
    | none => .bad

def sRun (c : Nat) (fs : List (Nat × PV)) : SS → Store → Res Flow
  | .ret e, st => match seV c fs e with
    | some v => .ok (.rt (fixv v st).1) (fixv v st).2
    | none => .bad
  | .if_ e a b, st => match seV c fs e with
    | some (.bl r) => if r then sRun c fs a st else sRun c fs b st
    | _ => .bad
/-- kn: the errors that may come here at all -/
def tryR (r : Res Flow) (kn cs : List Nat) (s : SS) : Res Flow := match r with
  | .exc c fs st1 => if kn.contains c then (if cs.contains c then sRun c fs s st1 else .exc c fs st1) else .bad
  | r => r
def whl (c : Env → Store → Res Bool) (b : Env → Store → Res Flow) : Nat → Env → Store → Res Flow
  | 0, _, _ => .bad
  | n + 1, ev, st => (c ev st).bind fun r st1 => if r then (b ev st1).bind fun f st2 => match f with
    | .nx ev2 => whl c b n ev2 st2
    | .ct ev2 => whl c b n ev2 st2
    | .bk ev2 => .ok (.nx ev2) st2
    | .rt v => .ok (.rt v) st2
    else .ok (.nx ev) st1
/-- b: the target's assignment and the body -/
def forGo (b : PV → Env → Store → Res Flow) : List PV → Env → Store → Res Flow
  | [], ev, st => .ok (.nx ev) st
  | x :: xs, ev, st => (b x ev st).bind fun f st2 => match f with
    | .nx ev2 => forGo b xs ev2 st2
    | .ct ev2 => forGo b xs ev2 st2
    | .bk ev2 => .ok (.nx ev2) st2
    | .rt v => .ok (.rt v) st2
def forLive (b : PV → Env → Store → Res Flow) (n : Nat) : Nat → Nat → Env → Store → Res Flow
  | 0, _, _, _ => .bad
  | fu + 1, i, ev, st => match lv st (.loc n) with
    | some xs => (match xs[i]? with
      | none => .ok (.nx ev) st
      | some x => (b x ev st).bind fun f st2 => match f with
        | .nx ev2 => forLive b n fu (i + 1) ev2 st2
        | .ct ev2 => forLive b n fu (i + 1) ev2 st2
        | .bk ev2 => .ok (.nx ev2) st2
        | .rt v => .ok (.rt v) st2)
    | none => .bad
def forRng (b : PV → Env → Store → Res Flow) : Nat → Int → Env → Store → Res Flow
  | 0, _, ev, st => .ok (.nx ev) st
  | n + 1, i, ev, st => (b (.int i) ev st).bind fun f st2 => match f with
    | .nx ev2 => forRng b n (i + 1) ev2 st2
    | .ct ev2 => forRng b n (i + 1) ev2 st2
    | .bk ev2 => .ok (.nx ev2) st2
    | .rt v => .ok (.rt v) st2
def forSrc (b : PV → Env → Store → Res Flow) (s : Src) (ev : Env) (st : Store) : Res Flow := match s with
  | .vals xs => forGo b xs ev st
  | .live n => forLive b n N 0 ev st
  | .rng lo n => forRng b n lo ev st

def forM (mi : Env → Store → Res Src) (f : PV → Env → Store → Res Flow) : Env → Store → Res Flow := fun ev st => (mi ev st).bind fun s st1 => forSrc N f s ev st1
def turnM (mt : PV → Env → Store → Res Env) (nb : Env → Store → Res Flow) : PV → Env → Store → Res Flow := fun x ev st => (mt x ev st).bind fun ev2 st2 => nb ev2 st2
def evS : CS → Env → Store → Res Flow
  | .nil, ev, st => .ok (.nx ev) st
  | .cons s ss, ev, st => (evS s ev st).bind fun f st1 => match f with
    | .nx ev1 => evS ss ev1 st1
    | f => .ok f st1
  | .asg t e, ev, st => (fixR (evE call G N e ev st)).bind fun v st1 => (evT call G N t v ev st1).bind fun ev2 st2 => .ok (.nx ev2) st2
  | .par i j a b, ev, st => (fixR (evE call G N a ev st)).bind fun v st1 => (fixR (evE call G N b ev st1)).bind fun w st2 => .ok (.nx ((ev.set i (some v)).set j (some w))) st2
  | .expr e, ev, st => (evE call G N e ev st).bind fun _ st1 => .ok (.nx ev) st1
  | .ret e, ev, st => (fixR (evE call G N e ev st)).bind fun v st1 => .ok (.rt v) st1
  | .retN, _, st => .ok (.rt .non) st
  | .pass, ev, st => .ok (.nx ev) st
  | .brk, ev, st => .ok (.bk ev) st
  | .cont, ev, st => .ok (.ct ev) st
  | .if_ c a b, ev, st => (truth (evE call G N c ev st)).bind fun r st1 => if r then evS a ev st1 else evS b ev st1
  | .while_ c b, ev, st => whl (fun ev st => truth (evE call G N c ev st)) (fun ev st => evS b ev st) N ev st
  | .for_ t k a b body, ev, st => forM N (iterM k (fun ev st => evE call G N a ev st) (fun ev st => evE call G N b ev st)) (turnM (fun x ev st => evT call G N t x ev st) (fun ev st => evS body ev st)) ev st
  | .raise_ c ks as, ev, st => (evE call G N as ev st).bind fun v st1 => .exc c (ks.zip (tupOf v)) st1
  | .try_ body kn cs s, ev, st => tryR (evS body ev st) kn cs s
end

structure Fn where
  np : Nat
  ns : Nat
  body : CS
def start (n : Nat) (vs : List PV) : Env := vs.map some ++ List.replicate (n - vs.length) none
def run (T : Nat → Option Fn) (G : Nat → Option PV) (N : Nat) : Nat → Nat → List PV → Store → Res PV
  | 0, _, _, _ => .bad
  | d + 1, f, vs, st => if 1000 ≤ f then run T G N d (f - 1000) vs st else match T f with
    | none => .bad
    | some c => if vs.length = c.np then (evS (run T G N d) G N c.body (start c.ns vs) st).bind fun fl st1 => match fl with
      | .nx _ => .ok .non st1
      | .rt v => .ok v st1
      | _ => .bad
      else .bad
end Vm

set_option maxHeartbeats 4000000
/-! Vm2: how the small machine's values and store lie in the abstract heap of the hand layer. -/
namespace Vm
open PySem L2

/-! ### values -/
/-- a list that is read alone: frozen, or the written part's -/
def SqF (K : PySem.W.Frag) (H : Hp) (a : Addr) (xs : List V) : Prop :=
  (∃ o, H a = some (.frz o (.lst xs))) ∨
    ∃ (o : Obj) (its : Array Value) (n : Nat), K.lookup a = some o ∧ o.cls = .type "list" ∧ o.dict = none ∧ o.data = .seq its n ∧ its.size ≤ sizeLine ∧ Vals xs its.toList
theorem SqF.sq {K : PySem.W.Frag} {H : Hp} {a : Addr} {xs : List V} (h : SqF K H a xs) : SqL K H a xs := by
  rcases h with ⟨o, h⟩ | h
  · exact .inl (.inr ⟨o, h⟩)
  · exact .inr h
theorem SqF.of_only {K : PySem.W.Frag} {H : Hp} {a : Addr} {xs : List V} (hO : Only H) (h : SqL K H a xs) : SqF K H a xs := by
  rcases h with (h | h) | h
  · rcases hO a with q | ⟨o, ys, q⟩ <;> (rw [h] at q; cases q)
  · exact .inl h
  · exact .inr h
mutual
inductive Rep (K : PySem.W.Frag) (ρ : List Addr) (H : Hp) : PV → V → Prop
  | non : Rep K ρ H .non .non
  | bl (b : Bool) : Rep K ρ H (.bl b) (.bl b)
  | int (i : Int) : Rep K ρ H (.int i) (.int i)
  | str (l : List Nat) : Rep K ρ H (.str l) (.str ⟨l.toArray⟩)
  | loc {n : Nat} {a : Addr} : ρ[n]? = some a → Rep K ρ H (.loc n) (.ref a)
  | tup {a : Addr} {vs : List V} {xs : List PV} : SqT K H a vs → RepL K ρ H xs vs → Rep K ρ H (.tup xs) (.ref a)
  | fl {a : Addr} {vs : List V} {xs : List PV} : SqF K H a vs → RepL K ρ H xs vs → Rep K ρ H (.fl xs) (.ref a)
inductive RepL (K : PySem.W.Frag) (ρ : List Addr) (H : Hp) : List PV → List V → Prop
  | nil : RepL K ρ H [] []
  | cons {x : PV} {v : V} {xs : List PV} {vs : List V} : Rep K ρ H x v → RepL K ρ H xs vs → RepL K ρ H (x :: xs) (v :: vs)
end

/-- more places, tuples and frozen lists as they stood -/
structure Kp (K : PySem.W.Frag) (ρ : List Addr) (H : Hp) (ρ' : List Addr) (H' : Hp) : Prop where
  pre : ∃ m, ρ' = ρ ++ m
  tups : ∀ a xs, SqT K H a xs → SqT K H' a xs
  frzs : ∀ a xs, SqF K H a xs → SqF K H' a xs
/-- from (ρ, H) to (ρ', H'): more places, tuples as they stood, what stands at no place as it stood, nothing gone -/
structure Grow (K : PySem.W.Frag) (ρ : List Addr) (H : Hp) (ρ' : List Addr) (H' : Hp) : Prop where
  pre : ∃ m, ρ' = ρ ++ m
  tups : ∀ a xs, SqT K H a xs → SqT K H' a xs
  frzs : ∀ a xs, SqF K H a xs → SqF K H' a xs
  outs : ∀ a o, H a = some o → a ∉ ρ → H' a = some o ∧ a ∉ ρ'
  back : ∀ a, H' a = none → H a = none

section
variable {K : PySem.W.Frag} {ρ ρ' ρ'' : List Addr} {H H' H'' : Hp}
theorem Grow.refl : Grow K ρ H ρ H := ⟨⟨[], by simp⟩, fun _ _ h => h, fun _ _ h => h, fun _ _ h n => ⟨h, n⟩, fun _ h => h⟩
theorem Grow.trans (a : Grow K ρ H ρ' H') (b : Grow K ρ' H' ρ'' H'') : Grow K ρ H ρ'' H'' := by
  obtain ⟨m, e⟩ := a.pre
  obtain ⟨m', e'⟩ := b.pre
  refine ⟨⟨m ++ m', by rw [e', e, List.append_assoc]⟩, fun c xs h => b.tups _ _ (a.tups _ _ h), fun c xs h => b.frzs _ _ (a.frzs _ _ h), fun c o h n => ?_, fun c h => a.back _ (b.back _ h)⟩
  obtain ⟨h1, n1⟩ := a.outs c o h n
  exact b.outs c o h1 n1
theorem Grow.kp (g : Grow K ρ H ρ' H') : Kp K ρ H ρ' H' := ⟨g.pre, g.tups, g.frzs⟩
theorem Kp.at_ (g : Kp K ρ H ρ' H') {n : Nat} {a : Addr} (h : ρ[n]? = some a) : ρ'[n]? = some a := by
  obtain ⟨m, e⟩ := g.pre
  obtain ⟨hl, _⟩ := List.getElem?_eq_some_iff.mp h
  rw [e, List.getElem?_append_left hl]
  exact h
mutual
theorem Rep.kp (g : Kp K ρ H ρ' H') : ∀ {x : PV} {v : V}, Rep K ρ H x v → Rep K ρ' H' x v
  | _, _, .non => .non
  | _, _, .bl b => .bl b
  | _, _, .int i => .int i
  | _, _, .str l => .str l
  | _, _, .loc h => .loc (g.at_ h)
  | _, _, .tup h t => .tup (g.tups _ _ h) (RepL.kp g t)
  | _, _, .fl h t => .fl (g.frzs _ _ h) (RepL.kp g t)
theorem RepL.kp (g : Kp K ρ H ρ' H') : ∀ {xs : List PV} {vs : List V}, RepL K ρ H xs vs → RepL K ρ' H' xs vs
  | _, _, .nil => .nil
  | _, _, .cons h t => .cons (Rep.kp g h) (RepL.kp g t)
end
theorem Rep.mono (g : Grow K ρ H ρ' H') {x : PV} {v : V} (h : Rep K ρ H x v) : Rep K ρ' H' x v := h.kp g.kp
theorem RepL.mono (g : Grow K ρ H ρ' H') {xs : List PV} {vs : List V} (h : RepL K ρ H xs vs) : RepL K ρ' H' xs vs := h.kp g.kp
theorem RepL.length : ∀ {xs : List PV} {vs : List V}, RepL K ρ H xs vs → xs.length = vs.length
  | _, _, .nil => rfl
  | _, _, .cons _ t => by simp [RepL.length t]
theorem RepL.get : ∀ {xs : List PV} {vs : List V} {i : Nat} {x : PV}, RepL K ρ H xs vs → xs[i]? = some x → ∃ v, vs[i]? = some v ∧ Rep K ρ H x v
  | _, _, _, _, .nil, e => by simp at e
  | _, _, 0, _, .cons r _, e => by simp at e; subst e; exact ⟨_, rfl, r⟩
  | _, _, i + 1, x, .cons _ t, e => by
    obtain ⟨v, h1, h2⟩ := RepL.get (i := i) (x := x) t (by simpa using e)
    exact ⟨v, by simpa using h1, h2⟩
theorem RepL.get' : ∀ {xs : List PV} {vs : List V} {i : Nat} {v : V}, RepL K ρ H xs vs → vs[i]? = some v → ∃ x, xs[i]? = some x ∧ Rep K ρ H x v
  | _, _, _, _, .nil, e => by simp at e
  | _, _, 0, _, .cons r _, e => by simp at e; subst e; exact ⟨_, rfl, r⟩
  | _, _, i + 1, x, .cons _ t, e => by
    obtain ⟨v, h1, h2⟩ := RepL.get' (i := i) (v := x) t (by simpa using e)
    exact ⟨v, by simpa using h1, h2⟩
theorem RepL.append : ∀ {xs ys : List PV} {vs ws : List V}, RepL K ρ H xs vs → RepL K ρ H ys ws → RepL K ρ H (xs ++ ys) (vs ++ ws)
  | _, _, _, _, .nil, s => s
  | _, _, _, _, .cons r t, s => .cons r (RepL.append t s)
theorem RepL.snoc {xs : List PV} {vs : List V} {x : PV} {v : V} (h : RepL K ρ H xs vs) (r : Rep K ρ H x v) : RepL K ρ H (xs ++ [x]) (vs ++ [v]) := h.append (.cons r .nil)
theorem RepL.reverse : ∀ {xs : List PV} {vs : List V}, RepL K ρ H xs vs → RepL K ρ H xs.reverse vs.reverse
  | _, _, .nil => .nil
  | _, _, .cons r t => by simpa using (RepL.reverse t).append (.cons r .nil)
theorem RepL.dropLast : ∀ {xs : List PV} {vs : List V}, RepL K ρ H xs vs → RepL K ρ H xs.dropLast vs.dropLast
  | _, _, .nil => .nil
  | _, _, .cons _ .nil => .nil
  | _, _, .cons r (.cons r2 t) => .cons r (RepL.dropLast (.cons r2 t))
theorem RepL.take : ∀ {xs : List PV} {vs : List V} (n : Nat), RepL K ρ H xs vs → RepL K ρ H (xs.take n) (vs.take n)
  | _, _, 0, _ => .nil
  | _, _, _ + 1, .nil => .nil
  | _, _, n + 1, .cons r t => .cons r (RepL.take n t)
theorem RepL.drop : ∀ {xs : List PV} {vs : List V} (n : Nat), RepL K ρ H xs vs → RepL K ρ H (xs.drop n) (vs.drop n)
  | _, _, 0, r => r
  | _, _, _ + 1, .nil => .nil
  | _, _, n + 1, .cons _ t => RepL.drop n t
theorem RepL.set {x : PV} {v : V} (r : Rep K ρ H x v) : ∀ {xs : List PV} {vs : List V} (i : Nat), RepL K ρ H xs vs → RepL K ρ H (xs.set i x) (vs.set i v)
  | _, _, _, .nil => .nil
  | _, _, 0, .cons _ t => .cons r t
  | _, _, i + 1, .cons q t => .cons q (RepL.set r i t)
theorem RepL.rep {xs : List PV} {vs : List V} (h : RepL K ρ H xs vs) : ∀ n : Nat, RepL K ρ H (List.replicate n xs).flatten (List.replicate n vs).flatten
  | 0 => .nil
  | n + 1 => by
    rw [List.replicate_succ, List.replicate_succ, List.flatten_cons, List.flatten_cons]
    exact h.append (RepL.rep h n)

/-! ### the frame -/
inductive RepE (K : PySem.W.Frag) (ρ : List Addr) (H : Hp) : Env → L2.St → Prop
  | nil : RepE K ρ H [] []
  | none {ev : Env} {σ : L2.St} {o : Option V} : RepE K ρ H ev σ → RepE K ρ H (none :: ev) (o :: σ)
  | some {x : PV} {v : V} {ev : Env} {σ : L2.St} : Rep K ρ H x v → RepE K ρ H ev σ → RepE K ρ H (some x :: ev) (some v :: σ)
theorem RepE.kp (g : Kp K ρ H ρ' H') : ∀ {ev : Env} {σ : L2.St}, RepE K ρ H ev σ → RepE K ρ' H' ev σ
  | _, _, .nil => .nil
  | _, _, .none t => .none (RepE.kp g t)
  | _, _, .some r t => .some (r.kp g) (RepE.kp g t)
theorem RepE.mono (g : Grow K ρ H ρ' H') {ev : Env} {σ : L2.St} (h : RepE K ρ H ev σ) : RepE K ρ' H' ev σ := h.kp g.kp
theorem RepE.get : ∀ {ev : Env} {σ : L2.St} {i : Nat} {x : PV}, RepE K ρ H ev σ → ev[i]? = Option.some (Option.some x) → ∃ v, σ[i]? = Option.some (Option.some v) ∧ Rep K ρ H x v
  | _, _, _, _, .nil, e => by simp at e
  | _, _, 0, _, .none _, e => by simp at e
  | _, _, 0, _, .some r _, e => by simp at e; subst e; exact ⟨_, rfl, r⟩
  | _, _, i + 1, x, .none t, e => by
    obtain ⟨v, h1, h2⟩ := RepE.get (i := i) (x := x) t (by simpa using e)
    exact ⟨v, by simpa using h1, h2⟩
  | _, _, i + 1, x, .some _ t, e => by
    obtain ⟨v, h1, h2⟩ := RepE.get (i := i) (x := x) t (by simpa using e)
    exact ⟨v, by simpa using h1, h2⟩
theorem RepE.set {x : PV} {v : V} (r : Rep K ρ H x v) : ∀ {ev : Env} {σ : L2.St} (i : Nat), RepE K ρ H ev σ → RepE K ρ H (ev.set i (Option.some x)) (σ.set i (Option.some v))
  | _, _, _, .nil => .nil
  | _, _, 0, .none t => .some r t
  | _, _, 0, .some _ t => .some r t
  | _, _, i + 1, .none t => .none (RepE.set r i t)
  | _, _, i + 1, .some q t => .some q (RepE.set r i t)
theorem RepE.unset {o : Option V} : ∀ {ev : Env} {σ : L2.St} (i : Nat), RepE K ρ H ev σ → RepE K ρ H (ev.set i Option.none) (σ.set i o)
  | _, _, _, .nil => .nil
  | _, _, 0, .none t => .none t
  | _, _, 0, .some _ t => .none t
  | _, _, i + 1, .none t => .none (RepE.unset i t)
  | _, _, i + 1, .some q t => .some q (RepE.unset i t)
theorem RepE.wipe {ev : Env} {σ : L2.St} (h : RepE K ρ H ev σ) : ∀ own : List Nat, RepE K ρ H (wipeE ev own) (L2.wipe σ own)
  | [] => h
  | v :: vs => (RepE.wipe h vs).unset v
theorem RepE.blank : ∀ n : Nat, RepE K ρ H (List.replicate n Option.none) (List.replicate n Option.none)
  | 0 => .nil
  | n + 1 => .none (RepE.blank n)
theorem RepE.start : ∀ {xs : List PV} {vs : List V} (n : Nat), RepL K ρ H xs vs → RepE K ρ H (xs.map Option.some ++ List.replicate n Option.none) (vs.map Option.some ++ List.replicate n Option.none)
  | _, _, n, .nil => RepE.blank n
  | _, _, n, .cons r t => .some r (RepE.start n t)

/-! ### the store -/
def keyV : PV → Option Key
  | .int i => some (.inl i)
  | .str l => some (.inr ⟨l.toArray⟩)
  | _ => none
inductive RepD (K : PySem.W.Frag) (ρ : List Addr) (H : Hp) : List (PV × PV) → List (Key × V) → Prop
  | nil : RepD K ρ H [] []
  | cons {p : PV × PV} {k : Key} {v : V} {ps : List (PV × PV)} {qs : List (Key × V)} : keyV p.1 = some k → Rep K ρ H p.2 v → RepD K ρ H ps qs → RepD K ρ H (p :: ps) ((k, v) :: qs)
theorem RepD.kp (g : Kp K ρ H ρ' H') : ∀ {ps : List (PV × PV)} {qs : List (Key × V)}, RepD K ρ H ps qs → RepD K ρ' H' ps qs
  | _, _, .nil => .nil
  | _, _, .cons e r t => .cons e (r.kp g) (RepD.kp g t)
theorem RepD.mono (g : Grow K ρ H ρ' H') {ps : List (PV × PV)} {qs : List (Key × V)} (h : RepD K ρ H ps qs) : RepD K ρ' H' ps qs := h.kp g.kp
theorem RepD.length : ∀ {ps : List (PV × PV)} {qs : List (Key × V)}, RepD K ρ H ps qs → ps.length = qs.length
  | _, _, .nil => rfl
  | _, _, .cons _ _ t => by simp [RepD.length t]
theorem RepD.append : ∀ {ps qs : List (PV × PV)} {xs ys : List (Key × V)}, RepD K ρ H ps xs → RepD K ρ H qs ys → RepD K ρ H (ps ++ qs) (xs ++ ys)
  | _, _, _, _, .nil, s => s
  | _, _, _, _, .cons e r t, s => .cons e r (RepD.append t s)

/-- where the classes stand -/
class ClsMap where
  cl : Nat → Addr
variable [ClsMap]
inductive RepO (K : PySem.W.Frag) (ρ : List Addr) (H : Hp) : List (List Nat × PV) → List (Str × V) → Prop
  | nil : RepO K ρ H [] []
  | cons {l : List Nat} {x : PV} {v : V} {fs : List (List Nat × PV)} {gs : List (Str × V)} : Rep K ρ H x v → RepO K ρ H fs gs → RepO K ρ H ((l, x) :: fs) ((⟨l.toArray⟩, v) :: gs)
omit [ClsMap] in
theorem RepO.kp (g : Kp K ρ H ρ' H') : ∀ {ps : List (List Nat × PV)} {qs : List (Str × V)}, RepO K ρ H ps qs → RepO K ρ' H' ps qs
  | _, _, .nil => .nil
  | _, _, .cons r t => .cons (r.kp g) (RepO.kp g t)
omit [ClsMap] in
theorem RepO.length : ∀ {ps : List (List Nat × PV)} {qs : List (Str × V)}, RepO K ρ H ps qs → ps.length = qs.length
  | _, _, .nil => rfl
  | _, _, .cons _ t => by simp [RepO.length t]
omit [ClsMap] in
theorem str_key (l m : List Nat) : ((⟨l.toArray⟩ : Str) == ⟨m.toArray⟩) = (l == m) := by
  by_cases h : l = m
  · subst h; simp
  · have h2 : ¬ (⟨l.toArray⟩ : Str) = ⟨m.toArray⟩ := by
      intro e
      have e2 := congrArg (fun s : Str => s.cps.toList) e
      exact h (by simpa using e2)
    rw [beq_eq_false_iff_ne.mpr h, beq_eq_false_iff_ne.mpr h2]
omit [ClsMap] in
theorem RepO.lookup (l : List Nat) : ∀ {ps : List (List Nat × PV)} {qs : List (Str × V)}, RepO K ρ H ps qs → (∀ x, ps.lookup l = Option.some x → ∃ v, qs.lookup (⟨l.toArray⟩ : Str) = Option.some v ∧ Rep K ρ H x v) ∧ (ps.lookup l = Option.none → qs.lookup (⟨l.toArray⟩ : Str) = Option.none)
  | _, _, .nil => ⟨fun _ h => (by cases h), fun _ => rfl⟩
  | _, _, .cons (l := m) r t => by
    obtain ⟨i1, i2⟩ := RepO.lookup l t
    rw [List.lookup_cons, List.lookup_cons, str_key]
    cases h : l == m with
    | true => exact ⟨fun x e => by cases e; exact ⟨_, rfl, r⟩, fun e => by cases e⟩
    | false => exact ⟨i1, i2⟩
omit [ClsMap] in
theorem RepO.put {x : PV} {v : V} (f : List Nat) (r : Rep K ρ H x v) : ∀ {ps : List (List Nat × PV)} {qs : List (Str × V)}, RepO K ρ H ps qs → RepO K ρ H (putO f x ps) (putF (⟨f.toArray⟩ : Str) v qs)
  | _, _, .nil => .cons r .nil
  | _, _, .cons (l := m) (x := y) (v := w) (fs := fs) (gs := gs) q t => by
    show RepO K ρ H (if m = f then (m, x) :: fs else (m, y) :: putO f x fs) (if (⟨m.toArray⟩ : Str) = ⟨f.toArray⟩ then (⟨m.toArray⟩, v) :: gs else (⟨m.toArray⟩, w) :: putF ⟨f.toArray⟩ v gs)
    by_cases h : m = f
    · subst h
      rw [if_pos rfl, if_pos rfl]
      exact .cons r t
    · have h2 : ¬ (⟨m.toArray⟩ : Str) = ⟨f.toArray⟩ := fun e => h (by simpa using congrArg (fun s : Str => s.cps.toList) e)
      rw [if_neg h, if_neg h2]
      exact .cons q (RepO.put f r t)

def CellOk (K : PySem.W.Frag) (ρ : List Addr) (H : Hp) (a : Addr) : Cell → Prop
  | .lst xs => ∃ vs, H a = some (.lst vs) ∧ RepL K ρ H xs vs
  | .dic false kvs => ∃ qs, H a = some (.dK qs) ∧ RepD K ρ H kvs qs
  | .dic true kvs => ∃ o qs, H a = some (.frz o (.dK qs)) ∧ RepD K ρ H kvs qs
  | .obj c fs => ∃ dx gs, H a = some (.ins (ClsMap.cl c) dx gs) ∧ RepO K ρ H fs gs
  | .dead => False
structure OkS (K : PySem.W.Frag) (ρ : List Addr) (st : Store) (H : Hp) : Prop where
  len : ρ.length = st.length
  nd : ρ.Nodup
  cell : ∀ (i : Nat) (a : Addr) (c : Cell), ρ[i]? = some a → st[i]? = some c → CellOk K ρ H a c
theorem CellOk.some {a : Addr} {c : Cell} (h : CellOk K ρ H a c) : ∃ o, H a = some o := by
  cases c with
  | lst xs => obtain ⟨vs, e, _⟩ := h; exact ⟨_, e⟩
  | dic lk kvs =>
    cases lk with
    | false => obtain ⟨qs, e, _⟩ := h; exact ⟨_, e⟩
    | true => obtain ⟨o, qs, e, _⟩ := h; exact ⟨_, e⟩
  | obj c fs => obtain ⟨dx, gs, e, _⟩ := h; exact ⟨_, e⟩
  | dead => exact h.elim
/-- a place's address: what stands there -/
theorem OkS.mem {st : Store} (ok : OkS K ρ st H) {a : Addr} (h : a ∈ ρ) : ∃ (i : Nat) (c : Cell), ρ[i]? = some a ∧ st[i]? = some c ∧ CellOk K ρ H a c := by
  obtain ⟨i, hi⟩ := List.mem_iff_getElem?.mp h
  obtain ⟨hl, _⟩ := List.getElem?_eq_some_iff.mp hi
  have hl' : i < st.length := by rw [← ok.len]; exact hl
  exact ⟨i, st[i], hi, List.getElem?_eq_getElem hl', ok.cell i a _ hi (List.getElem?_eq_getElem hl')⟩
theorem OkS.notfree {st : Store} (ok : OkS K ρ st H) {p : Addr} (h : H p = none) : p ∉ ρ := fun hm => by
  obtain ⟨i, c, _, _, q⟩ := ok.mem hm
  obtain ⟨o, e⟩ := q.some
  rw [h] at e
  cases e
/-- no tuple stands at a place -/
theorem CellOk.notup {a : Addr} {c : Cell} (h : CellOk K ρ H a c) : ∀ xs, ¬ Rd H a (.tup xs) := fun xs r => by
  cases c with
  | lst ys =>
    obtain ⟨vs, e, _⟩ := h
    rcases r with r | ⟨o, r⟩ <;> (rw [e] at r; cases r)
  | dic lk kvs =>
    cases lk with
    | false =>
      obtain ⟨qs, e, _⟩ := h
      rcases r with r | ⟨o, r⟩ <;> (rw [e] at r; cases r)
    | true =>
      obtain ⟨o, qs, e, _⟩ := h
      rcases r with r | ⟨o, r⟩ <;> (rw [e] at r; cases r)
  | obj c fs => obtain ⟨dx, gs, e, _⟩ := h; rcases r with r | ⟨o, r⟩ <;> (rw [e] at r; cases r)
  | dead => exact h.elim
theorem CellOk.nofrz {a : Addr} {c : Cell} (h : CellOk K ρ H a c) : ∀ o xs, H a ≠ Option.some (.frz o (.lst xs)) := fun o' xs r => by
  cases c with
  | lst ys => obtain ⟨vs, e, _⟩ := h; rw [e] at r; cases r
  | dic lk kvs =>
    cases lk with
    | false => obtain ⟨qs, e, _⟩ := h; rw [e] at r; cases r
    | true => obtain ⟨o, qs, e, _⟩ := h; rw [e] at r; cases r
  | obj c fs => obtain ⟨dx, gs, e, _⟩ := h; rw [e] at r; cases r
  | dead => exact h.elim

/-! ### steps of the store -/
theorem CellOk.kp (g : Kp K ρ H ρ' H') {a : Addr} {c : Cell} (e : H' a = H a) (h : CellOk K ρ H a c) : CellOk K ρ' H' a c := by
  cases c with
  | lst xs => obtain ⟨vs, q, r⟩ := h; exact ⟨vs, by rw [e]; exact q, r.kp g⟩
  | dic lk kvs =>
    cases lk with
    | false => obtain ⟨qs, q, r⟩ := h; exact ⟨qs, by rw [e]; exact q, r.kp g⟩
    | true => obtain ⟨o, qs, q, r⟩ := h; exact ⟨o, qs, by rw [e]; exact q, r.kp g⟩
  | obj c fs => obtain ⟨dx, gs, q, r⟩ := h; exact ⟨dx, gs, by rw [e]; exact q, r.kp g⟩
  | dead => exact h.elim
theorem CellOk.mono (g : Grow K ρ H ρ' H') {a : Addr} {c : Cell} (e : H' a = H a) (h : CellOk K ρ H a c) : CellOk K ρ' H' a c := h.kp g.kp e
/-- a new object that takes no place -/
theorem Grow.new {st : Store} (ok : OkS K ρ st H) {p : Addr} {o : HO} (h : H p = none) : Grow K ρ H ρ (upd H p o) := by
  refine ⟨⟨[], by simp⟩, fun a xs q => ?_, fun a xs q => ?_, fun a u q n => ⟨?_, n⟩, fun a q => ?_⟩
  · rcases q with (q | ⟨o', q⟩) | q
    · exact .inl (.inl (by rw [upd_ne (ne_of_none q h)]; exact q))
    · exact .inl (.inr ⟨o', by rw [upd_ne (ne_of_none q h)]; exact q⟩)
    · exact .inr q
  · rcases q with ⟨o', q⟩ | q
    · exact .inl ⟨o', by rw [upd_ne (ne_of_none q h)]; exact q⟩
    · exact .inr q
  · rw [upd_ne (ne_of_none q h)]; exact q
  · by_cases e : a = p
    · rw [e]; exact h
    · rw [upd_ne e] at q; exact q
theorem OkS.grow {st : Store} (ok : OkS K ρ st H) (g : Grow K ρ H ρ H') (e : ∀ a ∈ ρ, H' a = H a) : OkS K ρ st H' :=
  ⟨ok.len, ok.nd, fun i a c h1 h2 => (ok.cell i a c h1 h2).mono g (e a (List.mem_iff_getElem?.mpr ⟨i, h1⟩))⟩
theorem OkS.new {st : Store} (ok : OkS K ρ st H) {p : Addr} {o : HO} (h : H p = none) : OkS K ρ st (upd H p o) :=
  ok.grow (Grow.new ok h) fun a ha => upd_ne fun z => ok.notfree h (z ▸ ha)
/-- what stands at no place takes the next place -/
theorem Grow.place {st : Store} {p : Addr} {H0 : Hp} (g : Grow K ρ H0 ρ' H) (h0 : H0 p = none) : Grow K ρ H0 (ρ' ++ [p]) H := by
  obtain ⟨m, e⟩ := g.pre
  refine ⟨⟨m ++ [p], by rw [e, List.append_assoc]⟩, g.tups, g.frzs, fun a o q n => ?_, g.back⟩
  obtain ⟨q1, n1⟩ := g.outs a o q n
  refine ⟨q1, fun z => ?_⟩
  rcases List.mem_append.mp z with z | z
  · exact n1 z
  · rw [List.mem_singleton.mp z, h0] at q
    cases q
theorem Grow.wide (m : List Addr) : (∀ a o, H a = some o → a ∉ ρ → a ∉ m) → Grow K ρ H (ρ ++ m) H := fun h =>
  ⟨⟨m, rfl⟩, fun _ _ q => q, fun _ _ q => q, fun a o q n => ⟨q, fun z => (List.mem_append.mp z).elim n (h a o q n)⟩, fun _ q => q⟩
mutual
theorem Rep.wide (m : List Addr) : ∀ {x : PV} {v : V}, Rep K ρ H x v → Rep K (ρ ++ m) H x v
  | _, _, .non => .non
  | _, _, .bl b => .bl b
  | _, _, .int i => .int i
  | _, _, .str l => .str l
  | _, _, .loc h => .loc (by
    obtain ⟨hl, _⟩ := List.getElem?_eq_some_iff.mp h
    rw [List.getElem?_append_left hl]
    exact h)
  | _, _, .tup h t => .tup h (RepL.wide m t)
  | _, _, .fl h t => .fl h (RepL.wide m t)
theorem RepL.wide (m : List Addr) : ∀ {xs : List PV} {vs : List V}, RepL K ρ H xs vs → RepL K (ρ ++ m) H xs vs
  | _, _, .nil => .nil
  | _, _, .cons h t => .cons (Rep.wide m h) (RepL.wide m t)
end
theorem RepD.wide (m : List Addr) : ∀ {ps : List (PV × PV)} {qs : List (Key × V)}, RepD K ρ H ps qs → RepD K (ρ ++ m) H ps qs
  | _, _, .nil => .nil
  | _, _, .cons e r t => .cons e (r.wide m) (RepD.wide m t)
theorem RepO.wide (m : List Addr) : ∀ {ps : List (List Nat × PV)} {qs : List (Str × V)}, RepO K ρ H ps qs → RepO K (ρ ++ m) H ps qs
  | _, _, .nil => .nil
  | _, _, .cons r t => .cons (r.wide m) (RepO.wide m t)
theorem CellOk.wide (m : List Addr) {a : Addr} {c : Cell} (h : CellOk K ρ H a c) : CellOk K (ρ ++ m) H a c := by
  cases c with
  | lst xs => obtain ⟨vs, q, r⟩ := h; exact ⟨vs, q, r.wide m⟩
  | dic lk kvs =>
    cases lk with
    | false => obtain ⟨qs, q, r⟩ := h; exact ⟨qs, q, r.wide m⟩
    | true => obtain ⟨o, qs, q, r⟩ := h; exact ⟨o, qs, q, r.wide m⟩
  | obj c fs => obtain ⟨dx, gs, q, r⟩ := h; exact ⟨dx, gs, q, r.wide m⟩
  | dead => exact h.elim
theorem OkS.place {st : Store} (ok : OkS K ρ st H) {p : Addr} (hp : p ∉ ρ) {c : Cell} (h : CellOk K ρ H p c) : OkS K (ρ ++ [p]) (st ++ [c]) H := by
  refine ⟨by simp [ok.len], ?_, fun i a d h1 h2 => ?_⟩
  · rw [List.nodup_append]
    refine ⟨ok.nd, by simp, fun x hx y hy => ?_⟩
    rw [List.mem_singleton.mp hy]
    intro z
    exact hp (z ▸ hx)
  · by_cases hi : i < ρ.length
    · rw [List.getElem?_append_left hi] at h1
      rw [List.getElem?_append_left (by rw [← ok.len]; exact hi)] at h2
      exact (ok.cell i a d h1 h2).wide [p]
    · have e : i = ρ.length := by
        have := (List.getElem?_eq_some_iff.mp h1).1
        simp at this
        omega
      subst e
      rw [List.getElem?_append_right (Nat.le_refl _)] at h1
      rw [ok.len, List.getElem?_append_right (Nat.le_refl _)] at h2
      simp at h1 h2
      subst h1
      subst h2
      exact h.wide [p]
theorem nodup_inj : ∀ {l : List Addr}, l.Nodup → ∀ {i j : Nat} {a : Addr}, l[i]? = some a → l[j]? = some a → i = j
  | [], _, i, _, _, h, _ => by simp at h
  | x :: l, nd, 0, 0, _, _, _ => rfl
  | x :: l, nd, 0, j + 1, a, h, h' => by
    simp at h h'
    subst h
    exact absurd (List.mem_iff_getElem?.mpr ⟨j, h'⟩) (List.nodup_cons.mp nd).1
  | x :: l, nd, i + 1, 0, a, h, h' => by
    simp at h h'
    subst h'
    exact absurd (List.mem_iff_getElem?.mpr ⟨i, h⟩) (List.nodup_cons.mp nd).1
  | x :: l, nd, i + 1, j + 1, a, h, h' => by
    simp at h h'
    rw [nodup_inj (List.nodup_cons.mp nd).2 h h']
/-- a place's content is changed (no tuple, no frozen list stands at a place) -/
theorem Grow.write {st : Store} (ok : OkS K ρ st H) {n : Nat} {a : Addr} {o : HO} (h : ρ[n]? = some a) : Grow K ρ H ρ (upd H a o) := by
  obtain ⟨i, c, _, _, q⟩ := ok.mem (List.mem_iff_getElem?.mpr ⟨n, h⟩)
  refine ⟨⟨[], by simp⟩, fun b xs r => ?_, fun b xs r => ?_, fun b u r m => ⟨?_, m⟩, fun b r => ?_⟩
  · rcases r with r | r
    · refine .inl ?_
      have hb : b ≠ a := fun z => q.notup xs (z ▸ r)
      rcases r with r | ⟨o', r⟩
      · exact .inl (by rw [upd_ne hb]; exact r)
      · exact .inr ⟨o', by rw [upd_ne hb]; exact r⟩
    · exact .inr r
  · rcases r with ⟨o', r⟩ | r
    · have hb : b ≠ a := fun z => q.nofrz o' xs (z ▸ r)
      exact .inl ⟨o', by rw [upd_ne hb]; exact r⟩
    · exact .inr r
  · rw [upd_ne (fun z : b = a => m (by rw [z]; exact List.mem_iff_getElem?.mpr ⟨n, h⟩))]
    exact r
  · by_cases e : b = a
    · subst e
      rw [upd_same] at r
      cases r
    · rw [upd_ne e] at r
      exact r
theorem OkS.write {st : Store} (ok : OkS K ρ st H) {n : Nat} {a : Addr} {o : HO} {c : Cell} (h : ρ[n]? = some a) (hc : CellOk K ρ (upd H a o) a c) : OkS K ρ (st.set n c) (upd H a o) := by
  refine ⟨by rw [List.length_set]; exact ok.len, ok.nd, fun i b d h1 h2 => ?_⟩
  by_cases e : n = i
  · subst e
    rw [h] at h1
    cases h1
    have hl : n < st.length := by rw [← ok.len]; exact (List.getElem?_eq_some_iff.mp h).1
    rw [List.getElem?_set_self hl] at h2
    cases h2
    exact hc
  · rw [List.getElem?_set_ne e] at h2
    have hb : b ≠ a := fun z => by
      subst z
      exact e (nodup_inj ok.nd h h1)
    exact (ok.cell i b d h1 h2).mono (Grow.write ok h) (upd_ne hb)

/-- a list that takes no place is changed: from before it was made -/
theorem Grow.off {D : Addr} {vs : List V} {o : HO} {ρ0 : List Addr} {H0 : Hp} (g : Grow K ρ0 H0 ρ H) (h0 : H0 D = none) (hD : H D = some (.lst vs)) : Grow K ρ0 H0 ρ (upd H D o) := by
  refine ⟨g.pre, fun a xs q => ?_, fun a xs q => ?_, fun a u q n => ?_, fun a q => ?_⟩
  · rcases g.tups a xs q with r | r
    · have ha : a ≠ D := fun z => by
        rw [z] at r
        rcases r with r | ⟨o', r⟩ <;> (rw [hD] at r; cases r)
      refine .inl ?_
      rcases r with r | ⟨o', r⟩
      · exact .inl (by rw [upd_ne ha]; exact r)
      · exact .inr ⟨o', by rw [upd_ne ha]; exact r⟩
    · exact .inr r
  · rcases g.frzs a xs q with ⟨o', r⟩ | r
    · have ha : a ≠ D := fun z => by
        rw [z, hD] at r
        cases r
      exact .inl ⟨o', by rw [upd_ne ha]; exact r⟩
    · exact .inr r
  · obtain ⟨q1, n1⟩ := g.outs a u q n
    refine ⟨?_, n1⟩
    rw [upd_ne (ne_of_none q h0)]
    exact q1
  · by_cases e : a = D
    · rw [e]
      exact h0
    · rw [upd_ne e] at q
      exact g.back a q
theorem Kp.off {D : Addr} {vs : List V} {o : HO} (hD : H D = some (.lst vs)) : Kp K ρ H ρ (upd H D o) := by
  refine ⟨⟨[], by simp⟩, fun a xs q => ?_, fun a xs q => ?_⟩
  · rcases q with r | r
    · have ha : a ≠ D := fun z => by
        rw [z] at r
        rcases r with r | ⟨o', r⟩ <;> (rw [hD] at r; cases r)
      refine .inl ?_
      rcases r with r | ⟨o', r⟩
      · exact .inl (by rw [upd_ne ha]; exact r)
      · exact .inr ⟨o', by rw [upd_ne ha]; exact r⟩
    · exact .inr r
  · rcases q with ⟨o', r⟩ | r
    · have ha : a ≠ D := fun z => by
        rw [z, hD] at r
        cases r
      exact .inl ⟨o', by rw [upd_ne ha]; exact r⟩
    · exact .inr r
theorem OkS.off {st : Store} (ok : OkS K ρ st H) {D : Addr} {vs : List V} {o : HO} (hD : H D = some (.lst vs)) (hn : D ∉ ρ) : OkS K ρ st (upd H D o) :=
  ⟨ok.len, ok.nd, fun i a c h1 h2 => (ok.cell i a c h1 h2).kp (Kp.off hD) (upd_ne fun z => hn (z ▸ List.mem_iff_getElem?.mpr ⟨i, h1⟩))⟩

/-! ### results -/
/-- a value, a temporary list among them -/
def RepX (K : PySem.W.Frag) (ρ : List Addr) (H : Hp) (x : PV) (v : V) : Prop := match x with
  | .tl xs => ∃ a vs, v = .ref a ∧ H a = some (.lst vs) ∧ a ∉ ρ ∧ RepL K ρ H xs vs
  | x => Rep K ρ H x v
/-- .. that is new since H0 -/
def RepR (K : PySem.W.Frag) (H0 : Hp) (ρ : List Addr) (H : Hp) (x : PV) (v : V) : Prop := RepX K ρ H x v ∧ ∀ xs, x = .tl xs → ∃ a, v = .ref a ∧ H0 a = none
theorem Rep.x {x : PV} {v : V} (h : Rep K ρ H x v) : RepX K ρ H x v := by
  cases h with
  | non => exact .non
  | bl b => exact .bl b
  | int i => exact .int i
  | str l => exact .str l
  | loc h => exact .loc h
  | tup h t => exact .tup h t
  | fl h t => exact .fl h t
theorem Rep.r {H0 : Hp} {x : PV} {v : V} (h : Rep K ρ H x v) : RepR K H0 ρ H x v := ⟨h.x, fun xs e => by subst e; cases h⟩
theorem RepX.mono (g : Grow K ρ H ρ' H') {x : PV} {v : V} (h : RepX K ρ H x v) : RepX K ρ' H' x v := by
  cases x with
  | tl xs =>
    obtain ⟨a, vs, e, q, n, r⟩ := h
    obtain ⟨q', n'⟩ := g.outs a _ q n
    exact ⟨a, vs, e, q', n', r.mono g⟩
  | non => exact Rep.mono g h
  | bl b => exact Rep.mono g h
  | int i => exact Rep.mono g h
  | str l => exact Rep.mono g h
  | loc n => exact Rep.mono g h
  | tup xs => exact Rep.mono g h
  | fl xs => exact Rep.mono g h
theorem RepR.mono {H0 : Hp} (g : Grow K ρ H ρ' H') {x : PV} {v : V} (h : RepR K H0 ρ H x v) : RepR K H0 ρ' H' x v := ⟨h.1.mono g, h.2⟩
theorem RepR.back {H0 H1 : Hp} (g : ∀ a, H1 a = none → H0 a = none) {x : PV} {v : V} (h : RepR K H1 ρ H x v) : RepR K H0 ρ H x v :=
  ⟨h.1, fun xs e => by obtain ⟨a, e1, e2⟩ := h.2 xs e; exact ⟨a, e1, g a e2⟩⟩
end
end Vm

set_option maxHeartbeats 4000000
/-! Vm3: the weakest readings, and what it is for an expression to be simulated. -/
namespace Vm
open PySem L2
variable [ClsMap]

/-! ### the weakest readings -/
section
variable (X : Cx)
def wE (e : Expr) : TE := fun σ H Q => ∀ pins s, Inv X pins σ H s → wpAny (model X.prog X.w) X.A (eval e X.env) (EP X pins σ Q) X.xe s
def wT (e : Expr) : TT := fun σ H Q => ∀ pins s, Inv X pins σ H s → wpAny (model X.prog X.w) X.A (isTrue e X.env (eval e X.env)) (TP X pins σ Q) X.xe s
def wW (e : Expr) : TT := fun σ H Q => ∀ (whole : Sem Value) pins s, Inv X pins σ H s → wpAny (model X.prog X.w) X.A (isTrue e X.env whole) (TP X pins σ Q) X.xe s
def wA (es : List Expr) : TA := fun σ H Q => ∀ (pos : Pos) pins s, Inv X pins σ H s → wpAny (model X.prog X.w) X.A (spliced (backTo pos (starEach es X.env))) (AP X pins σ Q) X.xe s
def wS (st : Stmt) : TS := fun D σ H => ∀ pins s, Inv X pins σ H s → wpAny (model X.prog X.w) X.A (exec st X.env) (SP X pins D) X.xe s
def wSs (st : List Stmt) : TS := fun D σ H => ∀ pins s, Inv X pins σ H s → wpAny (model X.prog X.w) X.A (execs st X.env) (SP X pins D) X.xe s
def wO (f : Value → Value → Sem Value) : R2 := fun x y H Q => ∀ pins s σ v u, Inv X pins σ H s → RelV x v → RelV y u → wpAny (model X.prog X.w) X.A (f v u) (EP X pins σ Q) X.xe s
def wC (f : Value) : List V → Hp → VK → Prop := fun xs H Q => ∀ pins s σ us, Inv X pins σ H s → Vals xs us → wpAny (model X.prog X.w) X.A (call f us) (EP X pins σ Q) X.xe s
end
section
variable {X : Cx}
theorem pe_w {e : Expr} : PE X e (wE X e) := ⟨fun pins s σ H Q I h => h pins s I⟩
theorem pt_w {e : Expr} : PT X e (wT X e) := ⟨fun pins s σ H Q I h => h pins s I⟩
theorem pw_w {e : Expr} : PW X e (wW X e) := ⟨fun wh pins s σ H Q I h => h wh pins s I⟩
theorem pa_w {es : List Expr} : PA X es (wA X es) := ⟨fun pos pins s σ H Q I h => h pos pins s I⟩
theorem ps_w {st : Stmt} : PS X st (wS X st) := ⟨fun pins s σ H D I h => h pins s I⟩
theorem pss_w {st : List Stmt} : PSs X st (wSs X st) := ⟨fun pins s σ H D I h => h pins s I⟩
theorem or_w {f : Value → Value → Sem Value} : OpR X f (wO X f) := fun pins s σ H x y v u Q I rx ry h => h pins s σ v u I rx ry
theorem cr_w {f : Value} : CallR X f (wC X f) := fun pins s σ H xs us Q I r h => h pins s σ us I r
theorem wE_of {e : Expr} {t : TE} (h : PE X e t) {σ : L2.St} {H : Hp} {Q : VK} (q : t σ H Q) : wE X e σ H Q := fun pins s I => h.run pins s σ H Q I q
theorem wT_of {e : Expr} {t : TT} (h : PT X e t) {σ : L2.St} {H : Hp} {Q : Bool → Hp → Prop} (q : t σ H Q) : wT X e σ H Q := fun pins s I => h.run pins s σ H Q I q
theorem wW_of {e : Expr} {t : TT} (h : PW X e t) {σ : L2.St} {H : Hp} {Q : Bool → Hp → Prop} (q : t σ H Q) : wW X e σ H Q := fun wh pins s I => h.run wh pins s σ H Q I q
theorem wA_of {es : List Expr} {t : TA} (h : PA X es t) {σ : L2.St} {H : Hp} {Q : List V → Hp → Prop} (q : t σ H Q) : wA X es σ H Q := fun pos pins s I => h.run pos pins s σ H Q I q
theorem wS_of {st : Stmt} {t : TS} (h : PS X st t) {σ : L2.St} {H : Hp} {D : Ends} (q : t D σ H) : wS X st D σ H := fun pins s I => h.run pins s σ H D I q
theorem wSs_of {st : List Stmt} {t : TS} (h : PSs X st t) {σ : L2.St} {H : Hp} {D : Ends} (q : t D σ H) : wSs X st D σ H := fun pins s I => h.run pins s σ H D I q
theorem wO_of {f : Value → Value → Sem Value} {r : R2} (h : OpR X f r) {x y : V} {H : Hp} {Q : VK} (q : r x y H Q) : wO X f x y H Q := fun pins s σ v u I rx ry => h pins s σ H x y v u Q I rx ry q
theorem wC_of {f : Value} {r : List V → Hp → VK → Prop} (h : CallR X f r) {xs : List V} {H : Hp} {Q : VK} (q : r xs H Q) : wC X f xs H Q := fun pins s σ us I rx => h pins s σ H xs us Q I rx q
end

/-! ### the tables: classes of errors by number -/
/-- classes: the k-th own class stands at cl k; fields: the k-th name is fn k -/
structure Tb where
  cl : Nat → Addr
  fn : Nat → Str
/-- an exception's fields: none, or its own dict -/
inductive RepFs (T : Tb) (K : PySem.W.Frag) (ρ : List Addr) (H : Hp) : List (Nat × PV) → List (Str × V) → Prop
  | nil : RepFs T K ρ H [] []
  | cons {f : Nat} {x : PV} {v : V} {fs : List (Nat × PV)} {gs : List (Str × V)} : Rep K ρ H x v → RepFs T K ρ H fs gs → RepFs T K ρ H ((f, x) :: fs) ((T.fn f, v) :: gs)
theorem RepFs.mono {T : Tb} {K : PySem.W.Frag} {ρ ρ' : List Addr} {H H' : Hp} (g : Grow K ρ H ρ' H') : ∀ {fs : List (Nat × PV)} {gs : List (Str × V)}, RepFs T K ρ H fs gs → RepFs T K ρ' H' fs gs
  | _, _, .nil => .nil
  | _, _, .cons r t => .cons (r.mono g) (RepFs.mono g t)
def RepXd (T : Tb) (K : PySem.W.Frag) (H0 : Hp) (ρ : List Addr) (H : Hp) (fs : List (Nat × PV)) : Option Addr → Prop
  | none => fs = []
  | some d => ∃ gs, H d = some (.xd gs) ∧ RepFs T K ρ H fs gs ∧ d ∉ ρ ∧ H0 d = none

def Aft {α : Type} (r : Res α) (P : α → Store → Prop) (E : Nat → List (Nat × PV) → Store → Prop) : Prop := match r with
  | .ok a st => P a st
  | .exc c fs st => E c fs st
  | .bad => False
theorem Aft.imp {α : Type} {r : Res α} {P P' : α → Store → Prop} {E E' : Nat → List (Nat × PV) → Store → Prop} (h : Aft r P E) (hP : ∀ a st, P a st → P' a st) (hE : ∀ c fs st, E c fs st → E' c fs st) : Aft r P' E' := by
  cases r with
  | ok a st => exact hP _ _ h
  | exc c fs st => exact hE _ _ _ h
  | bad => exact h
theorem Aft.bind {α β : Type} {r : Res α} {f : α → Store → Res β} {P : β → Store → Prop} {E : Nat → List (Nat × PV) → Store → Prop} (h : Aft (r.bind f) P E) : Aft r (fun a st => Aft (f a st) P E) E := by
  cases r with
  | ok a st => exact h
  | exc c fs st => exact h
  | bad => exact h
theorem Aft.guard {α : Type} {c : Bool} {r : Res α} {P : α → Store → Prop} {E : Nat → List (Nat × PV) → Store → Prop} (h : Aft (guardR c r) P E) : c = true ∧ Aft r P E := by
  unfold guardR at h
  cases c with
  | true => exact ⟨rfl, h⟩
  | false => exact h.elim
theorem Aft.of {α : Type} {o : Option α} {st : Store} {P : α → Store → Prop} {E : Nat → List (Nat × PV) → Store → Prop} (h : Aft (Res.of o st) P E) : ∃ a, o = some a ∧ P a st := by
  cases o with
  | some a => exact ⟨a, rfl, h⟩
  | none => exact h.elim

section
variable (T : Tb) (X : Cx) (W : WX)
/-- what is wanted behind: of a value; of an exception -/
def WantV (ρ : List Addr) (H : Hp) (Q : VK) : PV → Store → Prop := fun x st' => ∀ ρ' H' v, Grow X.K ρ H ρ' H' → OkS X.K ρ' st' H' → RepR X.K H ρ' H' x v → Q v H'
def WantX (ρ : List Addr) (H : Hp) (σ : L2.St) : Nat → List (Nat × PV) → Store → Prop := fun c fs st' => ∀ ρ' H' d, Grow X.K ρ H ρ' H' → OkS X.K ρ' st' H' → RepXd T X.K H ρ' H' fs d → W (.ref (T.cl c)) d σ H'
def WantB (ρ : List Addr) (H : Hp) (Q : Bool → Hp → Prop) : Bool → Store → Prop := fun b st' => ∀ ρ' H', Grow X.K ρ H ρ' H' → OkS X.K ρ' st' H' → Q b H'
def WantL (ρ : List Addr) (H : Hp) (Q : List V → Hp → Prop) : PV → Store → Prop := fun x st' => ∀ ρ' H' vs, Grow X.K ρ H ρ' H' → OkS X.K ρ' st' H' → RepL X.K ρ' H' (tupOf x) vs → Q vs H'

def SimE (e : Expr) (m : Env → Store → Res PV) : Prop := ∀ ρ st H σ ev Q, OkS X.K ρ st H → RepE X.K ρ H ev σ → Aft (m ev st) (WantV X ρ H Q) (WantX T X W ρ H σ) → wE X e σ H Q
def SimT (e : Expr) (m : Env → Store → Res Bool) : Prop := ∀ ρ st H σ ev Q, OkS X.K ρ st H → RepE X.K ρ H ev σ → Aft (m ev st) (WantB X ρ H Q) (WantX T X W ρ H σ) → wT X e σ H Q
def SimW (e : Expr) (m : Env → Store → Res Bool) : Prop := ∀ ρ st H σ ev Q, OkS X.K ρ st H → RepE X.K ρ H ev σ → Aft (m ev st) (WantB X ρ H Q) (WantX T X W ρ H σ) → wW X e σ H Q
def SimA (es : List Expr) (m : Env → Store → Res PV) : Prop := ∀ ρ st H σ ev Q, OkS X.K ρ st H → RepE X.K ρ H ev σ → Aft (m ev st) (WantL X ρ H Q) (WantX T X W ρ H σ) → wA X es σ H Q
/-- operations by values raise nothing -/
def SimO (f : Value → Value → Sem Value) (g : PV → PV → Store → Option PV) : Prop := ∀ ρ st H x y vx vy Q z, OkS X.K ρ st H → RepX X.K ρ H x vx → RepX X.K ρ H y vy → g x y st = some z → WantV X ρ H Q z st → wO X f vx vy H Q
/-- a built-in function of one argument, of two -/
def SimC1 (f : Value) (g : PV → Store → Option PV) : Prop := ∀ ρ st H x v Q z, OkS X.K ρ st H → RepX X.K ρ H x v → g x st = some z → WantV X ρ H Q z st → wC X f [v] H Q
def SimC2 (f : Value) (g : PV → PV → Option PV) : Prop := ∀ ρ st H x y v w Q z, OkS X.K ρ st H → RepX X.K ρ H x v → RepX X.K ρ H y w → g x y = some z → WantV X ρ H Q z st → wC X f [v, w] H Q
end

section
variable {T : Tb} {X : Cx} {W : WX}
theorem WantV.from {ρ ρ1 : List Addr} {H H1 : Hp} {Q : VK} {x : PV} {st : Store} (g : Grow X.K ρ H ρ1 H1) (h : WantV X ρ H Q x st) : WantV X ρ1 H1 Q x st := fun ρ' H' v g' ok r => h ρ' H' v (g.trans g') ok (r.back g.back)
theorem WantB.from {ρ ρ1 : List Addr} {H H1 : Hp} {Q : Bool → Hp → Prop} {x : Bool} {st : Store} (g : Grow X.K ρ H ρ1 H1) (h : WantB X ρ H Q x st) : WantB X ρ1 H1 Q x st := fun ρ' H' g' ok => h ρ' H' (g.trans g') ok
theorem WantL.from {ρ ρ1 : List Addr} {H H1 : Hp} {Q : List V → Hp → Prop} {x : PV} {st : Store} (g : Grow X.K ρ H ρ1 H1) (h : WantL X ρ H Q x st) : WantL X ρ1 H1 Q x st := fun ρ' H' vs g' ok r => h ρ' H' vs (g.trans g') ok r
theorem WantX.from {ρ ρ1 : List Addr} {H H1 : Hp} {σ : L2.St} {c : Nat} {fs : List (Nat × PV)} {st : Store} (g : Grow X.K ρ H ρ1 H1) (h : WantX T X W ρ H σ c fs st) : WantX T X W ρ1 H1 σ c fs st := fun ρ' H' d g' ok r =>
  h ρ' H' d (g.trans g') ok (by
    cases d with
    | none => exact r
    | some d => obtain ⟨gs, h1, h2, h3, h4⟩ := r; exact ⟨gs, h1, h2, h3, g.back _ h4⟩)
theorem aftV {ρ ρ1 : List Addr} {H H1 : Hp} {Q : VK} {σ : L2.St} {r : Res PV} (g : Grow X.K ρ H ρ1 H1) (h : Aft r (WantV X ρ H Q) (WantX T X W ρ H σ)) : Aft r (WantV X ρ1 H1 Q) (WantX T X W ρ1 H1 σ) :=
  h.imp (fun _ _ => WantV.from g) fun _ _ _ => WantX.from g
theorem aftB {ρ ρ1 : List Addr} {H H1 : Hp} {Q : Bool → Hp → Prop} {σ : L2.St} {r : Res Bool} (g : Grow X.K ρ H ρ1 H1) (h : Aft r (WantB X ρ H Q) (WantX T X W ρ H σ)) : Aft r (WantB X ρ1 H1 Q) (WantX T X W ρ1 H1 σ) :=
  h.imp (fun _ _ => WantB.from g) fun _ _ _ => WantX.from g
theorem aftL {ρ ρ1 : List Addr} {H H1 : Hp} {Q : List V → Hp → Prop} {σ : L2.St} {r : Res PV} (g : Grow X.K ρ H ρ1 H1) (h : Aft r (WantL X ρ H Q) (WantX T X W ρ H σ)) : Aft r (WantL X ρ1 H1 Q) (WantX T X W ρ1 H1 σ) :=
  h.imp (fun _ _ => WantL.from g) fun _ _ _ => WantX.from g
/-! ### a temporary list finds its place -/
theorem fix_ok {ρ0 ρ : List Addr} {H0 H : Hp} {st : Store} {x : PV} {v : V} (g : Grow X.K ρ0 H0 ρ H) (ok : OkS X.K ρ st H) (r : RepR X.K H0 ρ H x v) :
    ∃ ρ', Grow X.K ρ0 H0 ρ' H ∧ OkS X.K ρ' (fixv x st).2 H ∧ Rep X.K ρ' H (fixv x st).1 v := by
  cases x with
  | tl xs =>
    obtain ⟨⟨a, vs, rfl, ha, hn, hr⟩, hf⟩ := r
    obtain ⟨a', e, h0⟩ := hf xs rfl
    cases e
    refine ⟨ρ ++ [a], g.place (st := st) h0, ok.place (c := .lst xs) hn ⟨vs, ha, hr⟩, .loc ?_⟩
    rw [← ok.len, List.getElem?_append_right (Nat.le_refl _), Nat.sub_self]
    rfl
  | non => exact ⟨ρ, g, ok, r.1⟩
  | bl b => exact ⟨ρ, g, ok, r.1⟩
  | int i => exact ⟨ρ, g, ok, r.1⟩
  | str l => exact ⟨ρ, g, ok, r.1⟩
  | loc n => exact ⟨ρ, g, ok, r.1⟩
  | tup xs => exact ⟨ρ, g, ok, r.1⟩
  | fl xs => exact ⟨ρ, g, ok, r.1⟩
/-- a value that is placed at once -/
def WantF (X : Cx) (ρ : List Addr) (H : Hp) (Q : VK) : PV → Store → Prop := fun x st' => ∀ ρ' H' v, Grow X.K ρ H ρ' H' → OkS X.K ρ' st' H' → Rep X.K ρ' H' x v → Q v H'
theorem aft_fix {ρ : List Addr} {H : Hp} {Q : VK} {E : Nat → List (Nat × PV) → Store → Prop} {r : Res PV} (h : Aft (fixR r) (WantF X ρ H Q) E) : Aft r (WantV X ρ H Q) E := by
  cases r with
  | ok x st =>
    intro ρ' H' v g ok rr
    obtain ⟨ρ2, g2, ok2, r2⟩ := fix_ok g ok rr
    exact h ρ2 H' v g2 ok2 r2
  | exc c fs st => exact h
  | bad => exact h
theorem aft_fixB {β : Type} {ρ : List Addr} {H : Hp} {Q : VK} {P : β → Store → Prop} {E : Nat → List (Nat × PV) → Store → Prop} {r : Res PV} {f : PV → Store → Res β} (h : Aft ((fixR r).bind f) P E)
    (k : ∀ x st, Aft (f x st) P E → WantF X ρ H Q x st) : Aft r (WantV X ρ H Q) E := by
  refine aft_fix ?_
  exact (Aft.bind h).imp k fun _ _ _ z => z

/-! ### expressions -/
section
variable {e a b c : Expr} {es : List Expr} {m ma mb mc : Env → Store → Res PV} {pos : Pos}
theorem sim_lit {x : PV} {v : V} (hr : ∀ ρ H, Rep X.K ρ H x v) (h : PE X e (tC v)) : SimE T X W e (fun _ st => .ok x st) := fun ρ st H σ ev Q ok re q => wE_of h (q ρ H v .refl ok (hr ρ H).r)
theorem sim_var {i : Nat} (h : PE X e (tVar i)) : SimE T X W e (fun ev st => match ev[i]? with
    | some (some v) => .ok v st
    | _ => .bad) := fun ρ st H σ ev Q ok re q => by
  dsimp only at q
  cases hx : ev[i]? with
  | none => rw [hx] at q; exact q.elim
  | some o =>
    cases o with
    | none => rw [hx] at q; exact q.elim
    | some x =>
      rw [hx] at q
      obtain ⟨v, h1, h2⟩ := re.get hx
      exact wE_of h ⟨v, h1, q ρ H v .refl ok h2.r⟩
theorem sim_nil : SimA T X W [] (fun _ st => .ok (.tup []) st) := fun ρ st H σ ev Q ok re q => wA_of pa_nil (q ρ H [] .refl ok .nil)
theorem sim_cons (hs : starEach (e :: es) X.env = (false, eval e X.env) :: starEach es X.env) (ha : SimE T X W e ma) (hb : SimA T X W es mb) :
    SimA T X W (e :: es) (fun ev st => (fixR (ma ev st)).bind fun x st1 => (mb ev st1).bind fun xs st2 => .ok (.tup (x :: tupOf xs)) st2) := fun ρ st H σ ev Q ok re q => by
  refine wA_of (pa_cons pe_w pa_w hs) ?_
  refine ha ρ st H σ ev _ ok re (aft_fixB (X := X) q fun x st1 q1 ρ1 H1 v g1 ok1 r1 => ?_)
  refine hb ρ1 st1 H1 σ ev _ ok1 (re.mono g1) ((Aft.bind q1).imp (fun xs st2 q2 ρ2 H2 vs g2 ok2 r2 => ?_) fun _ _ _ => WantX.from g1)
  exact q2 ρ2 H2 (v :: vs) (g1.trans g2) ok2 (.cons (r1.mono g2) r2)
theorem sim_tup {k : Nat} (h : SimA T X W es m) : SimE T X W (.Tuple es k pos) (fun ev st => (m ev st).bind fun v st1 => guardR (decide ((tupOf v).length ≤ SZ)) (.ok (.tup (tupOf v)) st1)) := fun ρ st H σ ev Q ok re q => by
  refine wE_of (pe_tup pa_w) ?_
  refine h ρ st H σ ev _ ok re ((Aft.bind q).imp (fun x st1 q1 ρ1 H1 vs g1 ok1 r1 => ?_) fun _ _ _ z => z)
  obtain ⟨hz, q1⟩ := q1.guard
  refine ⟨by rw [← r1.length]; exact Nat.le_trans (of_decide_eq_true hz) (by decide), fun p hp => ?_⟩
  have g2 := Grow.new (K := X.K) (o := HO.tup vs) ok1 hp
  refine q1 ρ1 _ _ (g1.trans g2) (ok1.new hp) (Rep.r (.tup (.inl (.inl upd_same)) (r1.mono g2)))
theorem sim_lst (h : SimA T X W es m) : SimE T X W (.List es pos) (fun ev st => (m ev st).bind fun v st1 => guardR (decide ((tupOf v).length ≤ SZ)) (.ok (.tl (tupOf v)) st1)) := fun ρ st H σ ev Q ok re q => by
  refine wE_of (pe_lst pa_w) ?_
  refine h ρ st H σ ev _ ok re ((Aft.bind q).imp (fun x st1 q1 ρ1 H1 vs g1 ok1 r1 => ?_) fun _ _ _ z => z)
  obtain ⟨hz, q1⟩ := q1.guard
  refine ⟨by rw [← r1.length]; exact Nat.le_trans (of_decide_eq_true hz) (by decide), fun p hp => ?_⟩
  have g2 := Grow.new (K := X.K) (o := HO.lst vs) ok1 hp
  exact q1 ρ1 _ _ (g1.trans g2) (ok1.new hp) ⟨⟨p, vs, rfl, upd_same, ok1.notfree hp, r1.mono g2⟩, fun _ _ => ⟨p, rfl, g1.back _ hp⟩⟩
/-- two expressions, then an operation -/
theorem two {f : Value → Value → Sem Value} {g : PV → PV → Store → Option PV} (ha : SimE T X W a ma) (hb : SimE T X W b mb) (ho : SimO X f g) {ρ : List Addr} {st : Store} {H : Hp} {σ : L2.St} {ev : Env} {Q : VK}
    (ok : OkS X.K ρ st H) (re : RepE X.K ρ H ev σ)
    (q : Aft ((ma ev st).bind fun x st1 => (mb ev st1).bind fun y st2 => Res.of (g x y st2) st2) (WantV X ρ H Q) (WantX T X W ρ H σ)) : tOp (wO X f) (wE X a) (wE X b) σ H Q := by
  refine ha ρ st H σ ev _ ok re ((Aft.bind q).imp (fun x st1 q1 ρ1 H1 vx g1 ok1 r1 => ?_) fun _ _ _ z => z)
  refine hb ρ1 st1 H1 σ ev _ ok1 (re.mono g1) ((Aft.bind q1).imp (fun y st2 q2 ρ2 H2 vy g2 ok2 r2 => ?_) fun _ _ _ => WantX.from g1)
  obtain ⟨z, hz, q3⟩ := q2.of
  exact ho ρ2 st2 H2 x y vx vy Q z ok2 (r1.mono g2).1 r2.1 hz (WantV.from (g1.trans g2) q3)
theorem sim_bin {op : Operator} {g : PV → PV → Store → Option PV} (ho : SimO X (binaryOp op) g) (ha : SimE T X W a ma) (hb : SimE T X W b mb) :
    SimE T X W (.BinOp a op b pos) (fun ev st => (ma ev st).bind fun x st1 => (mb ev st1).bind fun y st2 => Res.of (g x y st2) st2) := fun ρ st H σ ev Q ok re q =>
  wE_of (pe_op or_w pe_w pe_w) (two ha hb ho ok re q)
theorem sim_cmp {op : CmpOp} {g : PV → PV → Store → Option PV} (ho : SimO X (compareOp op) g) (hm : behindInMarks op b = false) (ha : SimE T X W a ma) (hb : SimE T X W b mb) :
    SimE T X W (.Compare a [op] [b] pos) (fun ev st => (ma ev st).bind fun x st1 => (mb ev st1).bind fun y st2 => Res.of (g x y st2) st2) := fun ρ st H σ ev Q ok re q =>
  wE_of (pe_cmpR or_w pe_w pe_w hm) (two ha hb ho ok re q)
theorem sim_ix (hs : PlainIx b) (hi : ∀ ρ st H x y vx vy Q z, OkS X.K ρ st H → RepX X.K ρ H x vx → RepX X.K ρ H y vy → indexV x y st = some z → WantV X ρ H Q z st → ∃ r, IxR X r ∧ r vx vy H Q) (ha : SimE T X W a ma) (hb : SimE T X W b mb) :
    SimE T X W (.Subscript a b pos) (fun ev st => (ma ev st).bind fun x st1 => (mb ev st1).bind fun y st2 => Res.of (indexV x y st2) st2) := fun ρ st H σ ev Q ok re q => by
  have hr : IxR X (fun x y H Q => ∃ r, IxR X r ∧ r x y H Q) := fun value slice pins s σ H x y v u Q I rx ry ⟨r, h, q⟩ hs => h value slice pins s σ H x y v u Q I rx ry q hs
  refine wE_of (pe_ix hr pe_w pe_w hs) ?_
  refine ha ρ st H σ ev _ ok re ((Aft.bind q).imp (fun x st1 q1 ρ1 H1 vx g1 ok1 r1 => ?_) fun _ _ _ z => z)
  refine hb ρ1 st1 H1 σ ev _ ok1 (re.mono g1) ((Aft.bind q1).imp (fun y st2 q2 ρ2 H2 vy g2 ok2 r2 => ?_) fun _ _ _ => WantX.from g1)
  obtain ⟨z, hz, q3⟩ := q2.of
  exact hi ρ2 st2 H2 x y vx vy Q z ok2 (r1.mono g2).1 r2.1 hz (WantV.from (g1.trans g2) q3)
end
end
end Vm

set_option maxHeartbeats 4000000
/-! Vm4: operations by values. -/
namespace Vm
open PySem L2
variable [ClsMap]

section
variable {K : PySem.W.Frag} {ρ : List Addr} {H : Hp} {st : Store} {x y : PV} {v w : V}
theorem RepX.cases_int {i : Int} (h : RepX K ρ H (.int i) v) : v = .int i := by cases (show Rep K ρ H (.int i) v from h); rfl
theorem RepX.cases_bl {i : Bool} (h : RepX K ρ H (.bl i) v) : v = .bl i := by cases (show Rep K ρ H (.bl i) v from h); rfl
theorem RepX.cases_str {l : List Nat} (h : RepX K ρ H (.str l) v) : v = .str ⟨l.toArray⟩ := by cases (show Rep K ρ H (.str l) v from h); rfl
theorem RepX.cases_non (h : RepX K ρ H .non v) : v = .non := by cases (show Rep K ρ H .non v from h); rfl
theorem RepX.cases_tup {xs : List PV} (h : RepX K ρ H (.tup xs) v) : ∃ a vs, v = .ref a ∧ SqT K H a vs ∧ RepL K ρ H xs vs := by
  cases (show Rep K ρ H (.tup xs) v from h) with
  | tup h1 h2 => exact ⟨_, _, rfl, h1, h2⟩
theorem RepX.cases_loc {n : Nat} (h : RepX K ρ H (.loc n) v) : ∃ a, v = .ref a ∧ ρ[n]? = some a := by
  cases (show Rep K ρ H (.loc n) v from h) with
  | loc h1 => exact ⟨_, rfl, h1⟩
theorem RepX.cases_fl {xs : List PV} (h : RepX K ρ H (.fl xs) v) : ∃ a vs, v = .ref a ∧ SqF K H a vs ∧ RepL K ρ H xs vs := by
  cases (show Rep K ρ H (.fl xs) v from h) with
  | fl h1 h2 => exact ⟨_, _, rfl, h1, h2⟩

theorem lw_ok {xs : List PV} (ok : OkS K ρ st H) (r : RepX K ρ H x v) (h : lw st x = some xs) : ∃ a vs, v = .ref a ∧ H a = some (.lst vs) ∧ RepL K ρ H xs vs := by
  cases x with
  | loc n =>
    obtain ⟨a, rfl, ha⟩ := r.cases_loc
    dsimp only [lw] at h
    split at h
    · rename_i ys e
      cases h
      obtain ⟨vs, h1, h2⟩ := ok.cell n a _ ha e
      exact ⟨a, vs, rfl, h1, h2⟩
    · cases h
  | tl ys =>
    cases h
    obtain ⟨a, vs, h1, h2, _, h3⟩ := r
    exact ⟨a, vs, h1, h2, h3⟩
  | non => cases h
  | bl b => cases h
  | int i => cases h
  | str l => cases h
  | tup xs => cases h
  | fl xs => cases h
theorem lv_ok {xs : List PV} (ok : OkS K ρ st H) (r : RepX K ρ H x v) (h : lv st x = some xs) : ∃ a vs, v = .ref a ∧ SqL K H a vs ∧ RepL K ρ H xs vs := by
  cases x with
  | loc n =>
    obtain ⟨a, vs, h1, h2, h3⟩ := lw_ok ok r (xs := xs) h
    exact ⟨a, vs, h1, SqL.of h2, h3⟩
  | tl ys =>
    obtain ⟨a, vs, h1, h2, h3⟩ := lw_ok ok r (xs := xs) h
    exact ⟨a, vs, h1, SqL.of h2, h3⟩
  | fl ys =>
    cases h
    obtain ⟨a, vs, h1, h2, h3⟩ := r.cases_fl
    exact ⟨a, vs, h1, h2.sq, h3⟩
  | non => cases h
  | bl b => cases h
  | int i => cases h
  | str l => cases h
  | tup xs => cases h
theorem sv_ok {xs : List PV} (ok : OkS K ρ st H) (r : RepX K ρ H x v) (h : sv st x = some xs) : ∃ a vs, v = .ref a ∧ (SqL K H a vs ∨ SqT K H a vs) ∧ RepL K ρ H xs vs := by
  cases x with
  | tup ys =>
    cases h
    obtain ⟨a, vs, h1, h2, h3⟩ := r.cases_tup
    exact ⟨a, vs, h1, .inr h2, h3⟩
  | loc n => obtain ⟨a, vs, h1, h2, h3⟩ := lv_ok ok r (xs := xs) h; exact ⟨a, vs, h1, .inl h2, h3⟩
  | tl ys => obtain ⟨a, vs, h1, h2, h3⟩ := lv_ok ok r (xs := xs) h; exact ⟨a, vs, h1, .inl h2, h3⟩
  | fl ys => obtain ⟨a, vs, h1, h2, h3⟩ := lv_ok ok r (xs := xs) h; exact ⟨a, vs, h1, .inl h2, h3⟩
  | non => cases h
  | bl b => cases h
  | int i => cases h
  | str l => cases h
theorem dv_ok {kvs : List (PV × PV)} (ok : OkS K ρ st H) (r : RepX K ρ H x v) (h : dv st x = some kvs) : ∃ a qs, v = .ref a ∧ Rd H a (.dK qs) ∧ RepD K ρ H kvs qs := by
  cases x with
  | loc n =>
    obtain ⟨a, rfl, ha⟩ := r.cases_loc
    dsimp only [dv] at h
    split at h
    · rename_i lk ys e
      cases h
      cases lk with
      | false =>
        obtain ⟨qs, h1, h2⟩ := ok.cell n a _ ha e
        exact ⟨a, qs, rfl, .inl h1, h2⟩
      | true =>
        obtain ⟨o, qs, h1, h2⟩ := ok.cell n a _ ha e
        exact ⟨a, qs, rfl, .inr ⟨o, h1⟩, h2⟩
    · cases h
  | non => cases h
  | bl b => cases h
  | int i => cases h
  | str l => cases h
  | tup xs => cases h
  | tl xs => cases h
  | fl xs => cases h
theorem dm_ok {kvs : List (PV × PV)} (ok : OkS K ρ st H) (r : RepX K ρ H x v) (h : dm st x = some kvs) : ∃ a qs, v = .ref a ∧ H a = some (.dK qs) ∧ RepD K ρ H kvs qs := by
  cases x with
  | loc n =>
    obtain ⟨a, rfl, ha⟩ := r.cases_loc
    dsimp only [dm] at h
    split at h
    · rename_i ys e
      cases h
      obtain ⟨qs, h1, h2⟩ := ok.cell n a _ ha e
      exact ⟨a, qs, rfl, h1, h2⟩
    · cases h
  | non => cases h
  | bl b => cases h
  | int i => cases h
  | str l => cases h
  | tup xs => cases h
  | tl xs => cases h
  | fl xs => cases h
theorem lm_ok {n : Nat} {xs : List PV} (ok : OkS K ρ st H) (r : RepX K ρ H x v) (h : lm st x = some (n, xs)) : ∃ a vs, v = .ref a ∧ ρ[n]? = some a ∧ H a = some (.lst vs) ∧ RepL K ρ H xs vs := by
  cases x with
  | loc m =>
    obtain ⟨a, rfl, ha⟩ := r.cases_loc
    dsimp only [lm] at h
    split at h
    · rename_i ys e
      cases h
      obtain ⟨vs, h1, h2⟩ := ok.cell _ a _ ha e
      exact ⟨a, vs, rfl, ha, h1, h2⟩
    · cases h
  | non => cases h
  | bl b => cases h
  | int i => cases h
  | str l => cases h
  | tup xs => cases h
  | tl xs => cases h
  | fl xs => cases h
theorem SZ_le {n : Nat} (h : n ≤ SZ) : n ≤ sizeLine := Nat.le_trans h (by decide)
theorem SZ_lt {n : Nat} (h : n < SZ) : n < sizeLine := Nat.lt_of_lt_of_le h (by decide)
theorem guardO_some {α : Type} {c : Bool} {a b : α} (h : guardO c a = some b) : c = true ∧ a = b := by
  unfold guardO at h
  split at h
  · rename_i hc
    cases h
    exact ⟨hc, rfl⟩
  · cases h
end

section
variable {X : Cx}
/-- a plain value comes out -/
theorem WantV.val {ρ : List Addr} {H : Hp} {Q : VK} {x : PV} {st : Store} {v : V} (h : WantV X ρ H Q x st) (ok : OkS X.K ρ st H) (r : Rep X.K ρ H x v) : Q v H := h ρ H v .refl ok r.r
/-- a new list comes out -/
theorem WantV.new {ρ : List Addr} {H : Hp} {Q : VK} {xs : List PV} {st : Store} {vs : List V} (h : WantV X ρ H Q (.tl xs) st) (ok : OkS X.K ρ st H) (r : RepL X.K ρ H xs vs) : ∀ p, H p = none → Q (.ref p) (upd H p (.lst vs)) := fun p hp => by
  have g := Grow.new (K := X.K) (o := HO.lst vs) ok hp
  exact h ρ _ _ g (ok.new hp) ⟨⟨p, vs, rfl, upd_same, ok.notfree hp, r.mono g⟩, fun _ _ => ⟨p, rfl, hp⟩⟩
/-- a new tuple comes out -/
theorem WantV.newT {ρ : List Addr} {H : Hp} {Q : VK} {xs : List PV} {st : Store} {vs : List V} (h : WantV X ρ H Q (.tup xs) st) (ok : OkS X.K ρ st H) (r : RepL X.K ρ H xs vs) : ∀ p, H p = none → Q (.ref p) (upd H p (.tup vs)) := fun p hp => by
  have g := Grow.new (K := X.K) (o := HO.tup vs) ok hp
  exact h ρ _ _ g (ok.new hp) (Rep.r (.tup (.inl (.inl upd_same)) (r.mono g)))

theorem catL_ok {a b : Option (List PV)} {z : PV} (h : catL a b = some z) : ∃ xs ys, a = some xs ∧ b = some ys ∧ xs.length + ys.length ≤ SZ ∧ z = .tl (xs ++ ys) := by
  unfold catL at h
  split at h
  · obtain ⟨h1, h2⟩ := guardO_some h
    exact ⟨_, _, rfl, rfl, of_decide_eq_true h1, h2.symm⟩
  · cases h
theorem repL_ok {a : Option (List PV)} {k : Int} {z : PV} (h : repL a k = some z) : ∃ xs, a = some xs ∧ 0 ≤ k ∧ k ≤ 1000000 ∧ xs.length * k.toNat ≤ SZ ∧ z = .tl (List.replicate k.toNat xs).flatten := by
  unfold repL at h
  split at h
  · obtain ⟨h1, h2⟩ := guardO_some h
    simp only [Bool.and_eq_true, decide_eq_true_eq] at h1
    exact ⟨_, rfl, h1.1.1, h1.1.2, h1.2, h2.symm⟩
  · cases h
theorem cat_lists {ρ : List Addr} {st : Store} {H : Hp} {x y z : PV} {vx vy : V} {Q : VK} (ok : OkS X.K ρ st H) (rx : RepX X.K ρ H x vx) (ry : RepX X.K ρ H y vy) (h : catL (lw st x) (lw st y) = some z) (q : WantV X ρ H Q z st) : wO X (binaryOp .Add) vx vy H Q := by
  obtain ⟨xs, ys, h1, h2, h3, rfl⟩ := catL_ok h
  obtain ⟨a, vs, rfl, h4, h5⟩ := lw_ok ok rx h1
  obtain ⟨b, ws, rfl, h6, h7⟩ := lw_ok ok ry h2
  exact wO_of op_cat ⟨a, b, vs, ws, rfl, rfl, h4, h6, by rw [← h5.length, ← h7.length]; exact SZ_le h3, q.new ok (h5.append h7)⟩
theorem str_len (l : List Nat) : (⟨l.toArray⟩ : Str).length = l.length := by
  first | rfl | simp [Str.length]
theorem str_app (a b : List Nat) : (⟨a.toArray⟩ : Str) ++ ⟨b.toArray⟩ = ⟨(a ++ b).toArray⟩ := by
  show Str.mk (a.toArray ++ b.toArray) = _
  rw [List.append_toArray]
theorem simO_add : SimO X (binaryOp .Add) (binop .add) := fun ρ st H x y vx vy Q z ok rx ry h q => by
  have hl : ∀ h' : catL (lw st x) (lw st y) = some z, wO X (binaryOp .Add) vx vy H Q := fun h' => cat_lists ok rx ry h' q
  cases x with
  | int i =>
    cases y with
    | int j =>
      cases h
      rw [rx.cases_int, ry.cases_int]
      exact wO_of op_add ⟨i, j, rfl, rfl, q.val ok (.int _)⟩
    | _ => exact hl h
  | str l =>
    cases y with
    | str m =>
      obtain ⟨h1, rfl⟩ := guardO_some h
      rw [rx.cases_str, ry.cases_str]
      refine wO_of op_add_str ⟨_, _, rfl, rfl, by rw [str_len, str_len]; exact SZ_le (of_decide_eq_true h1), ?_⟩
      rw [str_app]
      exact q.val ok (.str _)
    | _ => exact hl h
  | tup xs =>
    cases y with
    | tup ys =>
      obtain ⟨h1, rfl⟩ := guardO_some h
      obtain ⟨a, vs, rfl, h2, h3⟩ := rx.cases_tup
      obtain ⟨b, ws, rfl, h4, h5⟩ := ry.cases_tup
      refine wO_of op_catA ⟨a, b, vs, ws, rfl, rfl, h2, h4, by rw [← h3.length, ← h5.length]; exact SZ_le (of_decide_eq_true h1), fun e => ?_, fun n e => ?_, fun n m => q.newT ok (h3.append h5)⟩
      · subst e
        cases h3
        exact q.val ok (.tup h4 h5)
      · subst e
        cases h5
        exact q.val ok (.tup h2 (by rw [List.append_nil]; exact h3))
    | _ => exact hl h
  | _ => exact hl h
theorem simO_sub : SimO X (binaryOp .Sub) (binop .sub) := fun ρ st H x y vx vy Q z ok rx ry h q => by
  unfold binop at h
  dsimp only at h
  split at h
  · cases h
    rw [rx.cases_int, ry.cases_int]
    exact wO_of op_sub ⟨_, _, rfl, rfl, q.val ok (.int _)⟩
  · cases h
theorem big_lt {i : Int} (h : i.natAbs < BIG) : -(2 ^ 64) < i ∧ i < 2 ^ 64 := by
  have : BIG = 2 ^ 64 := by decide
  omega
theorem simO_mul : SimO X (binaryOp .Mult) (binop .mul) := fun ρ st H x y vx vy Q z ok rx ry h q => by
  unfold binop at h
  dsimp only at h
  split at h
  · obtain ⟨h1, rfl⟩ := guardO_some h
    rw [rx.cases_int, ry.cases_int]
    refine wO_of op_mul ⟨_, _, rfl, rfl, ?_, q.val ok (.int _)⟩
    simp only [Bool.or_eq_true, decide_eq_true_eq] at h1
    exact h1.imp big_lt big_lt
  · obtain ⟨xs, h1, h2, h3, h4, rfl⟩ := repL_ok h
    rw [ry.cases_int]
    obtain ⟨a, vs, rfl, h5, h6⟩ := lw_ok ok rx h1
    exact wO_of op_rep ⟨a, _, vs, rfl, rfl, h5, by omega, by omega, by rw [← h6.length]; exact SZ_le h4, q.new ok (h6.rep _)⟩
  · cases h
theorem simO_fdiv : SimO X (binaryOp .FloorDiv) (binop .fdiv) := fun ρ st H x y vx vy Q z ok rx ry h q => by
  unfold binop at h
  dsimp only at h
  split at h
  · obtain ⟨h1, rfl⟩ := guardO_some h
    rw [rx.cases_int, ry.cases_int]
    simp only [Bool.and_eq_true, decide_eq_true_eq] at h1
    exact wO_of op_fdiv ⟨_, _, rfl, rfl, h1, q.val ok (.int _)⟩
  · cases h
theorem simO_mod : SimO X (binaryOp .Mod) (binop .mod) := fun ρ st H x y vx vy Q z ok rx ry h q => by
  unfold binop at h
  dsimp only at h
  split at h
  · obtain ⟨h1, rfl⟩ := guardO_some h
    rw [rx.cases_int, ry.cases_int]
    exact wO_of op_mod ⟨_, _, rfl, rfl, of_decide_eq_true h1, q.val ok (.int _)⟩
  · cases h
theorem simO_pow : SimO X (binaryOp .Pow) (binop .pow) := fun ρ st H x y vx vy Q z ok rx ry h q => by
  unfold binop at h
  dsimp only at h
  split at h
  · obtain ⟨h1, rfl⟩ := guardO_some h
    rw [rx.cases_int, ry.cases_int]
    simp only [Bool.and_eq_true, decide_eq_true_eq] at h1
    refine wO_of op_pow ⟨_, _, rfl, rfl, ⟨h1.1.1, h1.1.2, ?_⟩, q.val ok (.int _)⟩
    exact Nat.lt_of_lt_of_le h1.2 (by decide)
  · cases h
def bopOf : BOp → Operator
  | .add => .Add | .sub => .Sub | .mul => .Mult | .fdiv => .FloorDiv | .mod => .Mod | .pow => .Pow
theorem simO_bin : ∀ o : BOp, SimO X (binaryOp (bopOf o)) (binop o)
  | .add => simO_add | .sub => simO_sub | .mul => simO_mul | .fdiv => simO_fdiv | .mod => simO_mod | .pow => simO_pow

/-! ### comparisons -/
theorem str_eq {a b : List Nat} : ((⟨a.toArray⟩ : Str) = ⟨b.toArray⟩) ↔ a = b :=
  ⟨fun e => by have e1 := congrArg Str.cps e; exact List.toArray_inj e1, fun e => by rw [e]⟩
theorem eqS_ok {K : PySem.W.Frag} {ρ : List Addr} {H : Hp} {x y : PV} {v w : V} {b : Bool} (rx : RepX K ρ H x v) (ry : RepX K ρ H y w) (h : eqS x y = some b) : scal v w = true ∧ decide (v = w) = b := by
  unfold eqS at h
  split at h <;> first
    | (cases h; done)
    | (cases h
       first
         | (rw [rx.cases_non, ry.cases_non]; exact ⟨rfl, by simp⟩)
         | (rw [rx.cases_int, ry.cases_int]; exact ⟨rfl, by rw [Bool.eq_iff_iff]; simp⟩)
         | (rw [rx.cases_bl, ry.cases_bl]; exact ⟨rfl, by rw [Bool.eq_iff_iff]; simp⟩)
         | (rw [rx.cases_str, ry.cases_str]; exact ⟨rfl, by rw [Bool.eq_iff_iff]; simp [List.toArray_inj]⟩)
         | (rw [rx.cases_non, ry.cases_int]; exact ⟨rfl, by simp⟩)
         | (rw [rx.cases_int, ry.cases_non]; exact ⟨rfl, by simp⟩)
         | (rw [rx.cases_non, ry.cases_bl]; exact ⟨rfl, by simp⟩)
         | (rw [rx.cases_bl, ry.cases_non]; exact ⟨rfl, by simp⟩)
         | (rw [rx.cases_non, ry.cases_str]; exact ⟨rfl, by simp⟩)
         | (rw [rx.cases_str, ry.cases_non]; exact ⟨rfl, by simp⟩)
         | (rw [rx.cases_int, ry.cases_str]; exact ⟨rfl, by simp⟩)
         | (rw [rx.cases_str, ry.cases_int]; exact ⟨rfl, by simp⟩)
         | (rw [rx.cases_bl, ry.cases_str]; exact ⟨rfl, by simp⟩)
         | (rw [rx.cases_str, ry.cases_bl]; exact ⟨rfl, by simp⟩))

theorem flat_V {K : PySem.W.Frag} {ρ : List Addr} {H : Hp} {x : PV} {v : V} (r : RepX K ρ H x v) (h : flat x = true) : flatV v = true := by
  cases x with
  | non => rw [r.cases_non]; rfl
  | bl b => rw [r.cases_bl]; rfl
  | int i => rw [r.cases_int]; rfl
  | str l => rw [r.cases_str]; rfl
  | _ => cases h
theorem eqF_V {K : PySem.W.Frag} {ρ : List Addr} {H : Hp} {x y : PV} {v w : V} (rx : RepX K ρ H x v) (ry : RepX K ρ H y w) (hx : flat x = true) (hy : flat y = true) : eqV v w = eqF x y := by
  cases x with
  | non => rw [rx.cases_non]; cases y with
    | non => rw [ry.cases_non]; rfl
    | bl b => rw [ry.cases_bl]; rfl
    | int i => rw [ry.cases_int]; rfl
    | str l => rw [ry.cases_str]; rfl
    | _ => cases hy
  | bl b => rw [rx.cases_bl]; cases y with
    | non => rw [ry.cases_non]; rfl
    | bl b => rw [ry.cases_bl]; rfl
    | int i => rw [ry.cases_int]; rfl
    | str l => rw [ry.cases_str]; rfl
    | _ => cases hy
  | int i => rw [rx.cases_int]; cases y with
    | non => rw [ry.cases_non]; rfl
    | bl b => rw [ry.cases_bl]; rfl
    | int i => rw [ry.cases_int]; rfl
    | str l => rw [ry.cases_str]; rfl
    | _ => cases hy
  | str l => rw [rx.cases_str]; cases y with
    | non => rw [ry.cases_non]; rfl
    | bl b => rw [ry.cases_bl]; rfl
    | int i => rw [ry.cases_int]; rfl
    | str m =>
      rw [ry.cases_str]
      show (({ cps := l.toArray } : Str) == { cps := m.toArray }) = (l == m)
      rw [Bool.eq_iff_iff, beq_iff_eq, beq_iff_eq]
      exact str_eq
    | _ => cases hy
  | _ => cases hx
theorem flats_V {K : PySem.W.Frag} {ρ : List Addr} {H : Hp} : ∀ {xs : List PV} {vs : List V}, RepL K ρ H xs vs → xs.all flat = true → vs.all flatV = true
  | _, _, .nil, _ => rfl
  | _, _, .cons r t, h => by
    simp only [List.all_cons, Bool.and_eq_true] at h ⊢
    exact ⟨flat_V r.x h.1, flats_V t h.2⟩
theorem any_V {K : PySem.W.Frag} {ρ : List Addr} {H : Hp} {x : PV} {v : V} (rx : RepX K ρ H x v) (hx : flat x = true) : ∀ {xs : List PV} {vs : List V}, RepL K ρ H xs vs → xs.all flat = true → inV v vs = xs.any fun z => eqF z x
  | _, _, .nil, _ => rfl
  | _, _, .cons r t, h => by
    simp only [List.all_cons, Bool.and_eq_true] at h
    show (eqV _ v || inV v _) = (eqF _ x || _)
    rw [eqF_V r.x rx h.1 hx, any_V rx hx t h.2]

/-! ### dicts -/
theorem keyV_rep {K : PySem.W.Frag} {ρ : List Addr} {H : Hp} {x : PV} {v : V} {k : Key} (r : RepX K ρ H x v) (h : keyV x = some k) : v = kV k := by
  cases x with
  | int i => cases h; exact r.cases_int
  | str l => cases h; exact r.cases_str
  | _ => cases h
theorem keyOk_some {x : PV} (h : keyOk x = true) : ∃ k, keyV x = some k := by
  cases x with
  | int i => exact ⟨_, rfl⟩
  | str l => exact ⟨_, rfl⟩
  | _ => cases h
theorem keyV_ok {x : PV} {k : Key} (h : keyV x = some k) : keyOk x = true := by
  cases x with
  | int i => rfl
  | str l => rfl
  | _ => cases h
theorem keyV_eq {x y : PV} {k j : Key} (hx : keyV x = some k) (hy : keyV y = some j) : eqF x y = decide (k = j) := by
  cases x with
  | int i =>
    cases hx
    cases y with
    | int m =>
      cases hy
      show (i == m) = decide ((Sum.inl i : Key) = Sum.inl m)
      rw [Bool.eq_iff_iff]
      simp
    | str l => cases hy; rw [decide_eq_false (fun e => by cases e)]; rfl
    | _ => cases hy
  | str l =>
    cases hx
    cases y with
    | int m => cases hy; rw [decide_eq_false (fun e => by cases e)]; rfl
    | str m =>
      cases hy
      show (l == m) = decide ((Sum.inr ⟨l.toArray⟩ : Key) = Sum.inr ⟨m.toArray⟩)
      rw [Bool.eq_iff_iff]
      simp [List.toArray_inj]
    | _ => cases hy
  | _ => cases hx
theorem dget_ok {K : PySem.W.Frag} {ρ : List Addr} {H : Hp} {k : PV} {j : Key} (hk : keyV k = some j) : ∀ {kvs : List (PV × PV)} {qs : List (Key × V)}, RepD K ρ H kvs qs →
    match dget kvs k with
    | some x => ∃ v, valV qs j = some v ∧ Rep K ρ H x v
    | none => valV qs j = none
  | _, _, .nil => rfl
  | _, _, .cons (p := p) (k := kk) (v := v) (ps := ps) (qs := qs) e r t => by
    have q := keyV_eq e hk
    by_cases h : kk = j
    · rw [decide_eq_true h] at q
      have e1 : dget (p :: ps) k = some p.2 := by simp [dget, List.find?_cons, q]
      rw [e1]
      exact ⟨v, valV_pos h, r⟩
    · rw [decide_eq_false h] at q
      have e1 : dget (p :: ps) k = dget ps k := by simp [dget, List.find?_cons, q]
      rw [e1, valV_neg (p := (kk, v)) h]
      exact dget_ok hk t
theorem any_ok {K : PySem.W.Frag} {ρ : List Addr} {H : Hp} {k : PV} {j : Key} (hk : keyV k = some j) : ∀ {kvs : List (PV × PV)} {qs : List (Key × V)}, RepD K ρ H kvs qs → (kvs.any fun p => eqF p.1 k) = qs.any fun q => decide (q.1 = j)
  | _, _, .nil => rfl
  | _, _, .cons e r t => by
    rw [List.any_cons, List.any_cons, keyV_eq e hk, any_ok hk t]
theorem dput_map {K : PySem.W.Frag} {ρ : List Addr} {H : Hp} {k x : PV} {v : V} {j : Key} (hk : keyV k = some j) (rx : Rep K ρ H x v) : ∀ {kvs : List (PV × PV)} {qs : List (Key × V)}, RepD K ρ H kvs qs →
    RepD K ρ H (kvs.map fun p => if eqF p.1 k then (p.1, x) else p) (qs.map fun kv => if kv.1 = j then (kv.1, v) else kv)
  | _, _, .nil => .nil
  | _, _, .cons (p := p) (k := kk) (v := w) e r t => by
    have q := keyV_eq e hk
    rw [List.map_cons, List.map_cons]
    by_cases h : kk = j
    · rw [decide_eq_true h] at q
      rw [if_pos q, if_pos h]
      exact .cons e rx (dput_map hk rx t)
    · rw [decide_eq_false h] at q
      rw [if_neg (by rw [q]; exact Bool.false_ne_true), if_neg h]
      exact .cons e r (dput_map hk rx t)
theorem dput_ok {K : PySem.W.Frag} {ρ : List Addr} {H : Hp} {k x : PV} {v : V} {j : Key} (hk : keyV k = some j) (rx : Rep K ρ H x v) {kvs : List (PV × PV)} {qs : List (Key × V)} (h : RepD K ρ H kvs qs) : RepD K ρ H (dput kvs k x) (putK qs j v) := by
  unfold dput putK
  rw [any_ok hk h]
  by_cases c : (qs.any fun q => decide (q.1 = j)) = true
  · rw [if_pos c, if_pos c]
    exact dput_map hk rx h
  · rw [if_neg c, if_neg c]
    exact h.append (.cons hk rx .nil)

theorem or_din (hu : X.A.units + 1 < cLine) : OpR X (compareOp .In) (fun y x H Q => ∃ a o, x = .ref a ∧ DGet H a y o ∧ Q (.bl o.isSome) H) := by
  intro pins s σ H y x v u Q I ry rx ⟨a, o, e, g, q⟩
  subst e
  obtain rfl : u = Value.ref a := rx
  exact d_in hu I g ry fun s3 I3 => ⟨.bl o.isSome, H, I3, rfl, q⟩
theorem or_dnotin (hu : X.A.units + 1 < cLine) : OpR X (compareOp .NotIn) (fun y x H Q => ∃ a o, x = .ref a ∧ DGet H a y o ∧ Q (.bl (!o.isSome)) H) := by
  intro pins s σ H y x v u Q I ry rx ⟨a, o, e, g, q⟩
  subst e
  obtain rfl : u = Value.ref a := rx
  exact d_notIn hu I g ry fun s3 I3 => ⟨.bl (!o.isSome), H, I3, rfl, q⟩
theorem ir_dict (hu : X.A.units + 1 < cLine) : IxR X (fun x y H Q => ∃ a v, x = .ref a ∧ DGet H a y (some v) ∧ Q v H) := by
  intro value slice pins s σ H x y v u Q I rx ry ⟨a, w, e, g, q⟩ hs
  subst e
  obtain rfl : v = Value.ref a := rx
  exact PyProof.Rows.tail_any (dict_typeIs I g) PySem.F.slot_dict_getitem.lookup (d_getItem hu I g ry fun w' s3 I3 rw' => ⟨w, H, I3, rw', q⟩) hs

theorem dget_any {kvs : List (PV × PV)} {k : PV} : (dget kvs k).isSome = kvs.any fun p => eqF p.1 k := by
  induction kvs with
  | nil => rfl
  | cons p ps ih =>
    by_cases h : eqF p.1 k = true
    · simp [dget, List.find?_cons, h]
    · simp only [Bool.not_eq_true] at h
      have e1 : dget (p :: ps) k = dget ps k := by simp [dget, List.find?_cons, h]
      rw [e1, ih, List.any_cons, h, Bool.false_or]
/-- what isinV says, in the abstract heap: b, as the answer of in; its not of not in -/
theorem in_core (hu : X.A.units + 1 < cLine) {ρ : List Addr} {st : Store} {H : Hp} {x y : PV} {vx vy : V} {b : Bool} (ok : OkS X.K ρ st H) (rx : RepX X.K ρ H x vx) (ry : RepX X.K ρ H y vy) (h : isinV x y st = some b) (Q : VK) :
    (Q (.bl b) H → wO X (compareOp .In) vx vy H Q) ∧ (Q (.bl (!b)) H → wO X (compareOp .NotIn) vx vy H Q) := by
  have seqs : dv st y = none → (sv st y).bind (isinL x) = some b → (Q (.bl b) H → wO X (compareOp .In) vx vy H Q) ∧ (Q (.bl (!b)) H → wO X (compareOp .NotIn) vx vy H Q) := fun _ h => by
    obtain ⟨xs, h1, h2⟩ := Option.bind_eq_some_iff.mp h
    obtain ⟨a, vs, rfl, h3, h4⟩ := sv_ok ok ry h1
    unfold isinL at h2
    split at h2
    · rename_i hf
      cases h2
      simp only [Bool.and_eq_true] at hf
      have e := any_V rx hf.1 h4 hf.2
      refine ⟨fun q => wO_of op_in_seq ⟨a, vs, rfl, h3, flat_V rx hf.1, flats_V h4 hf.2, ?_⟩, fun q => wO_of op_notIn_seq ⟨a, vs, rfl, h3, flat_V rx hf.1, flats_V h4 hf.2, ?_⟩⟩
      · rw [if_neg Bool.false_ne_true, e]
        exact q
      · rw [if_pos rfl, e]
        exact q
    · cases h2
  have dicts : ∀ kvs, dv st y = some kvs → (if keyOk x then some (kvs.any fun p => eqF p.1 x) else none) = some b → (Q (.bl b) H → wO X (compareOp .In) vx vy H Q) ∧ (Q (.bl (!b)) H → wO X (compareOp .NotIn) vx vy H Q) := fun kvs hd h => by
    obtain ⟨a, qs, rfl, h3, h4⟩ := dv_ok ok ry hd
    split at h
    · rename_i hk
      cases h
      obtain ⟨j, hj⟩ := keyOk_some hk
      have e := keyV_rep rx hj
      subst e
      have g : DGet H a (kV j) (valV qs j) := .inl ⟨qs, j, h3, rfl, rfl⟩
      have ee : (valV qs j).isSome = kvs.any fun p => eqF p.1 x := by rw [any_ok hj h4, valV_any]
      refine ⟨fun q => wO_of (or_din hu) ⟨a, _, rfl, g, ?_⟩, fun q => wO_of (or_dnotin hu) ⟨a, _, rfl, g, ?_⟩⟩
      · rw [ee]
        exact q
      · rw [ee]
        exact q
    · cases h
  have both : (match dv st y with
    | some kvs => if keyOk x then some (kvs.any fun p => eqF p.1 x) else none
    | none => (sv st y).bind (isinL x)) = some b → (Q (.bl b) H → wO X (compareOp .In) vx vy H Q) ∧ (Q (.bl (!b)) H → wO X (compareOp .NotIn) vx vy H Q) := fun h => by
    cases hd : dv st y with
    | some kvs => rw [hd] at h; exact dicts kvs hd h
    | none => rw [hd] at h; exact seqs hd h
  cases y with
  | str l =>
    unfold isinV at h
    dsimp only at h
    split at h
    · rename_i c
      cases h
      rw [rx.cases_str, ry.cases_str]
      have e : decide (c ∈ (⟨l.toArray⟩ : Str).cps.toList) = l.contains c := by
        rw [Bool.eq_iff_iff]
        simp
      refine ⟨fun q => wO_of op_in_sign ⟨c, _, rfl, rfl, ?_⟩, fun q => wO_of op_notIn_sign ⟨c, _, rfl, rfl, ?_⟩⟩
      · rw [e]
        exact q
      · rw [e]
        exact q
    · cases h
  | _ => exact both h
def copOf : COp → CmpOp
  | .eq => .Eq | .ne => .NotEq | .lt => .Lt | .le => .LtE | .gt => .Gt | .ge => .GtE | .is => .Is | .isnot => .IsNot | .isin => .In | .notin => .NotIn
theorem none_V {K : PySem.W.Frag} {ρ : List Addr} {H : Hp} {x : PV} {v : V} (r : RepX K ρ H x v) : decide (v = .non) = isNone x := by
  cases x with
  | non => rw [r.cases_non]; rfl
  | bl b => rw [r.cases_bl]; rfl
  | int i => rw [r.cases_int]; rfl
  | str l => rw [r.cases_str]; rfl
  | loc n => obtain ⟨a, rfl, _⟩ := r.cases_loc; rfl
  | tup xs => obtain ⟨a, _, rfl, _⟩ := r.cases_tup; rfl
  | fl xs => obtain ⟨a, _, rfl, _⟩ := r.cases_fl; rfl
  | tl xs => obtain ⟨a, _, rfl, _⟩ := r; rfl
theorem isNone_eq {x : PV} (h : isNone x = true) : x = .non := by
  cases x with
  | non => rfl
  | _ => cases h
/-! ### == of data at any depth -/
def All2 {α β : Type} (R : α → β → Prop) : List α → List β → Prop
  | [], [] => True
  | x :: xs, y :: ys => R x y ∧ All2 R xs ys
  | _, _ => False
def Da : Nat → PV → PyData → Prop
  | 0, _, _ => False
  | n + 1, x, d => match x, d with
    | .non, .none => True
    | .bl a, .bool b => a = b
    | .int a, .int b => a = b
    | .str l, .str s => s = ⟨l.toArray⟩
    | .tup xs, .tuple ds => All2 (Da n) xs ds
    | .fl xs, .list ds => All2 (Da n) xs ds
    | _, _ => False
theorem mapO_ok {K : PySem.W.Frag} {H : Hp} {ρ : List Addr} {st : Store} {n : Nat} (ih : ∀ (x y : PV) (v : V), Rep K ρ H x v → dataOf st n x = some y → ∃ d, Dp K H v d ∧ d.canLay0 = true ∧ d.depth ≤ n ∧ Da n y d) :
    ∀ (xs ys : List PV) (vs : List V), RepL K ρ H xs vs → mapO (dataOf st n) xs = some ys → ∃ ds, DpAll K H vs ds ∧ PyData.canLayAll0 ds = true ∧ PyData.depthAll ds ≤ n ∧ All2 (Da n) ys ds := by
  intro xs
  induction xs with
  | nil =>
    intro ys vs r h
    cases r
    cases h
    exact ⟨[], .nil, rfl, Nat.zero_le _, trivial⟩
  | cons x xs ihx =>
    intro ys vs r h
    cases r with
    | cons r1 r2 =>
      unfold mapO at h
      cases h1 : dataOf st n x with
      | none => rw [h1] at h; cases h
      | some y =>
        cases h2 : mapO (dataOf st n) xs with
        | none => rw [h1, h2] at h; cases h
        | some zs =>
          rw [h1, h2] at h
          cases h
          obtain ⟨d, a1, a2, a3, a4⟩ := ih x y _ r1 h1
          obtain ⟨ds, b1, b2, b3, b4⟩ := ihx zs _ r2 h2
          refine ⟨d :: ds, .cons a1 b1, ?_, ?_, a4, b4⟩
          · show (d.canLay0 && PyData.canLayAll0 ds) = true
            rw [a2, b2]
            rfl
          · show max d.depth (PyData.depthAll ds) ≤ n
            exact Nat.max_le.mpr ⟨a3, b3⟩
theorem dataOf_ok {K : PySem.W.Frag} {H : Hp} {ρ : List Addr} {st : Store} (ok : OkS K ρ st H) : ∀ (n : Nat) (x y : PV) (v : V), RepX K ρ H x v → dataOf st n x = some y → ∃ d, Dp K H v d ∧ d.canLay0 = true ∧ d.depth ≤ n ∧ Da n y d := by
  intro n
  induction n with
  | zero => intro x y v r h; cases h
  | succ n ih =>
    intro x y v r h
    have ih' : ∀ (x y : PV) (v : V), Rep K ρ H x v → dataOf st n x = some y → ∃ d, Dp K H v d ∧ d.canLay0 = true ∧ d.depth ≤ n ∧ Da n y d := fun x y v r h => ih x y v (Rep.x r) h
    have lists : ((lv st x).bind (mapO (dataOf st n))).map PV.fl = some y → ∃ d, Dp K H v d ∧ d.canLay0 = true ∧ d.depth ≤ n + 1 ∧ Da (n + 1) y d := fun h => by
      obtain ⟨ys, h1, rfl⟩ := Option.map_eq_some_iff.mp h
      obtain ⟨xs, h2, h3⟩ := Option.bind_eq_some_iff.mp h1
      obtain ⟨a, vs, rfl, h4, h5⟩ := lv_ok ok r h2
      obtain ⟨ds, b1, b2, b3, b4⟩ := mapO_ok ih' xs ys vs h5 h3
      exact ⟨.list ds, .lst h4 b1, b2, Nat.succ_le_succ b3, b4⟩
    unfold dataOf at h
    cases x with
    | non => cases h; rw [r.cases_non]; exact ⟨.none, .non, rfl, Nat.zero_le _, trivial⟩
    | bl b => cases h; rw [r.cases_bl]; exact ⟨.bool b, .bl b, rfl, Nat.zero_le _, rfl⟩
    | int i => cases h; rw [r.cases_int]; exact ⟨.int i, .int i, rfl, Nat.zero_le _, rfl⟩
    | str l =>
      dsimp only at h
      split at h
      · rename_i hc
        cases h
        rw [r.cases_str]
        refine ⟨.str ⟨l.toArray⟩, .str _, ?_, Nat.zero_le _, rfl⟩
        show (l.toArray).all (fun c => decide (c < 1114112)) = true
        rw [List.all_toArray]
        exact hc
      · cases h
    | tup xs =>
      obtain ⟨ys, h1, rfl⟩ := Option.map_eq_some_iff.mp h
      obtain ⟨a, vs, rfl, h4, h5⟩ := r.cases_tup
      obtain ⟨ds, b1, b2, b3, b4⟩ := mapO_ok ih' xs ys vs h5 h1
      exact ⟨.tuple ds, .tup h4 b1, b2, Nat.succ_le_succ b3, b4⟩
    | loc n => exact lists h
    | tl xs => exact lists h
    | fl xs => exact lists h
theorem eqDL_ok {n : Nat} (ih : ∀ x y d e, Da n x d → Da n y e → eqD n x y = PyData.eqv d e) : ∀ (xs ys : List PV) (ds es : List PyData), All2 (Da n) xs ds → All2 (Da n) ys es → eqDL (eqD n) xs ys = PyData.eqvAll ds es
  | [], [], [], [], _, _ => rfl
  | [], y :: ys, [], e :: es, _, _ => rfl
  | x :: xs, [], d :: ds, [], _, _ => rfl
  | x :: xs, y :: ys, d :: ds, e :: es, h1, h2 => by
    show (eqD n x y && eqDL (eqD n) xs ys) = (PyData.eqv d e && PyData.eqvAll ds es)
    rw [ih x y d e h1.1 h2.1, eqDL_ok ih xs ys ds es h1.2 h2.2]
  | [], _, _ :: _, _, h, _ => h.elim
  | _ :: _, _, [], _, h, _ => h.elim
  | _, [], _, _ :: _, _, h => h.elim
  | _, _ :: _, _, [], _, h => h.elim
theorem str_beq (l m : List Nat) : (l == m) = ((⟨l.toArray⟩ : Str) == (⟨m.toArray⟩ : Str)) := by
  by_cases h : l = m
  · subst h; simp
  · have h2 : ¬ (⟨l.toArray⟩ : Str) = ⟨m.toArray⟩ := by
      intro e
      have e2 := congrArg (fun s : Str => s.cps.toList) e
      exact h (by simpa using e2)
    rw [beq_eq_false_iff_ne.mpr h, beq_eq_false_iff_ne.mpr h2]
theorem eqD_ok : ∀ (n : Nat) (x y : PV) (d e : PyData), Da n x d → Da n y e → eqD n x y = PyData.eqv d e := by
  intro n
  induction n with
  | zero => intro x y d e h; exact h.elim
  | succ n ih =>
    intro x y d e h1 h2
    cases x <;> cases d <;> first | exact h1.elim | skip
    all_goals (cases y <;> cases e <;> first | exact h2.elim | skip)
    all_goals first
      | rfl
      | (cases h1; cases h2; rfl)
      | (cases h1; rfl)
      | (cases h2; rfl)
      | exact eqDL_ok ih _ _ _ _ h1 h2
      | (cases h1; cases h2; exact str_beq _ _)
      | skip
theorem eqW_data (hu : X.A.units + 64 < cLine) {ρ : List Addr} {st : Store} {H : Hp} {x y : PV} {vx vy : V} {b : Bool} (ok : OkS X.K ρ st H) (rx : RepX X.K ρ H x vx) (ry : RepX X.K ρ H y vy) (h : eqW x y st = some b) :
    (scal vx vy = true ∧ decide (vx = vy) = b) ∨ ∃ d e, Dp X.K H vx d ∧ Dp X.K H vy e ∧ SeqAt.shaped d = true ∧ SeqAt.shaped e = true ∧ PyData.eqv d e = b := by
  unfold eqW at h
  split at h
  · rename_i r hr
    cases h
    exact .inl (eqS_ok rx ry hr)
  · split at h
    · rename_i x' y' h1 h2
      cases h
      obtain ⟨d, a1, a2, a3, a4⟩ := dataOf_ok ok 60 x x' vx rx h1
      obtain ⟨e, b1, b2, b3, b4⟩ := dataOf_ok ok 60 y y' vy ry h2
      refine .inr ⟨d, e, a1, b1, ?_, ?_, (eqD_ok 60 x' y' d e a4 b4).symm⟩
      · unfold SeqAt.shaped
        rw [a2, decide_eq_true (Nat.le_trans a3 (by decide))]
        rfl
      · unfold SeqAt.shaped
        rw [b2, decide_eq_true (Nat.le_trans b3 (by decide))]
        rfl
    · cases h
theorem cmp_core (hu : X.A.units + 64 < cLine) (o : COp) {ρ : List Addr} {st : Store} {H : Hp} {x y : PV} {vx vy : V} {b : Bool} {Q : VK} (ok : OkS X.K ρ st H) (rx : RepX X.K ρ H x vx) (ry : RepX X.K ρ H y vy) (h : cmpV o x y st = some b) (q : Q (.bl b) H) :
    wO X (compareOp (copOf o)) vx vy H Q := by
  cases o with
  | eq =>
    rcases eqW_data hu ok rx ry h with ⟨h1, h2⟩ | ⟨d, e, h1, h2, h3, h4, h5⟩
    · exact wO_of op_eq ⟨h1, by rw [h2]; exact q⟩
    · exact wO_of (op_eqD hu) ⟨d, e, h1, h2, h3, h4, by rw [h5]; exact q⟩
  | ne =>
    obtain ⟨c, h1, h2⟩ := Option.map_eq_some_iff.mp h
    rcases eqW_data hu ok rx ry h1 with ⟨h1, h3⟩ | ⟨d, e, h1, h3, h4, h5, h6⟩
    · exact wO_of op_ne ⟨h1, by rw [h3, h2]; exact q⟩
    · exact wO_of (op_neD hu) ⟨d, e, h1, h3, h4, h5, by rw [h6, h2]; exact q⟩
  | lt =>
    dsimp only [cmpV] at h
    split at h
    · cases h
      rw [rx.cases_int, ry.cases_int]
      exact wO_of op_lt ⟨_, _, rfl, rfl, q⟩
    · cases h
  | le =>
    dsimp only [cmpV] at h
    split at h
    · cases h
      rw [rx.cases_int, ry.cases_int]
      exact wO_of op_le ⟨_, _, rfl, rfl, q⟩
    · cases h
  | gt =>
    dsimp only [cmpV] at h
    split at h
    · cases h
      rw [rx.cases_int, ry.cases_int]
      exact wO_of op_gt ⟨_, _, rfl, rfl, q⟩
    · cases h
  | ge =>
    dsimp only [cmpV] at h
    split at h
    · cases h
      rw [rx.cases_int, ry.cases_int]
      exact wO_of op_ge ⟨_, _, rfl, rfl, q⟩
    · cases h
  | is =>
    dsimp only [cmpV] at h
    split at h
    · rename_i hn
      cases h
      have e := isNone_eq hn
      subst e
      exact wO_of op_isN ⟨ry.cases_non, by rw [none_V rx]; exact q⟩
    · cases h
  | isnot =>
    dsimp only [cmpV] at h
    split at h
    · rename_i hn
      cases h
      have e := isNone_eq hn
      subst e
      exact wO_of op_notN ⟨ry.cases_non, by rw [none_V rx]; exact q⟩
    · cases h
  | isin => exact (in_core (by omega) ok rx ry h Q).1 q
  | notin =>
    obtain ⟨c, h1, h2⟩ := Option.map_eq_some_iff.mp h
    refine (in_core (by omega) ok rx ry h1 Q).2 ?_
    rw [h2]
    exact q
theorem simO_cmp (hu : X.A.units + 64 < cLine) (o : COp) : SimO X (compareOp (copOf o)) (fun x y st => (cmpV o x y st).map .bl) := fun ρ st H x y vx vy Q z ok rx ry h q => by
  obtain ⟨b, h1, rfl⟩ := Option.map_eq_some_iff.mp h
  exact cmp_core hu o ok rx ry h1 (q.val ok (.bl b))

/-! ### subscripts -/
theorem ixOf_eq (n : Nat) (i : Int) : ixOf n i = ixN n i := by
  unfold ixOf ixN
  by_cases h : 0 ≤ i
  · rw [if_pos h, if_pos h]
  · rw [if_neg h, if_neg h]
    by_cases c : -i ≤ (n : Int)
    · rw [if_pos c, if_pos (by omega)]
      congr 1
      omega
    · rw [if_neg c, if_neg (by omega)]
theorem item_ok {K : PySem.W.Frag} {ρ : List Addr} {H : Hp} {xs : List PV} {vs : List V} {i : Int} {x : PV} (r : RepL K ρ H xs vs) (h : itemAt xs i = some x) : ∃ v, atI vs i = some v ∧ Rep K ρ H x v := by
  unfold itemAt at h
  obtain ⟨j, h1, h2⟩ := Option.bind_eq_some_iff.mp h
  obtain ⟨v, h3, h4⟩ := r.get h2
  rw [ixOf_eq, r.length] at h1
  exact ⟨v, by unfold atI; rw [h1]; exact h3, h4⟩
theorem ix_core (hu : X.A.units + 1 < cLine) : ∀ ρ st H x y vx vy Q z, OkS X.K ρ st H → RepX X.K ρ H x vx → RepX X.K ρ H y vy → indexV x y st = some z → WantV X ρ H Q z st → ∃ r, IxR X r ∧ r vx vy H Q := fun ρ st H x y vx vy Q z ok rx ry h q => by
  have rest : indexG x y st = some z → ∃ r, IxR X r ∧ r vx vy H Q := fun h => by
    unfold indexG at h
    cases hd : dv st x with
    | some kvs =>
      rw [hd] at h
      dsimp only at h
      split at h
      · rename_i hk
        obtain ⟨a, qs, rfl, h3, h4⟩ := dv_ok ok rx hd
        obtain ⟨j, hj⟩ := keyOk_some hk
        have e := keyV_rep ry hj
        subst e
        have g := dget_ok hj h4
        rw [h] at g
        obtain ⟨v, h5, h6⟩ := g
        exact ⟨_, ir_dict hu, a, v, rfl, .inl ⟨qs, j, h3, rfl, h5.symm⟩, q.val ok h6⟩
      · cases h
    | none =>
      rw [hd] at h
      dsimp only at h
      split at h
      · rename_i i
        obtain ⟨xs, h1, h2⟩ := Option.bind_eq_some_iff.mp h
        obtain ⟨a, vs, rfl, h3, h4⟩ := sv_ok ok rx h1
        rw [ry.cases_int]
        obtain ⟨v, h5, h6⟩ := item_ok h4 h2
        rcases h3 with h3 | h3
        · exact ⟨_, ix_list, a, vs, _, v, rfl, rfl, h3, h5, q.val ok h6⟩
        · exact ⟨_, ix_tup, a, vs, _, v, rfl, rfl, h3, h5, q.val ok h6⟩
      · cases h
  cases x with
  | str l =>
    dsimp only [indexV] at h
    unfold indexS at h
    split at h
    · rename_i i
      split at h
      · rename_i hz
        obtain ⟨c, h1, rfl⟩ := Option.map_eq_some_iff.mp h
        rw [rx.cases_str, ry.cases_int]
        refine ⟨_, ix_str, ⟨l.toArray⟩, i, c, rfl, rfl, by rw [str_len]; exact SZ_le hz, ?_, q.val ok (.str [c])⟩
        unfold itemAt at h1
        rw [ixOf_eq] at h1
        exact h1
      · cases h
    · cases h
  | _ => exact rest h

/-! ### slices -/
theorem slIx_eq (n d : Nat) (o : Option Int) : slIx n d o = HT.sIx n d o := by
  cases o with
  | none => rfl
  | some i =>
    show (if 0 ≤ i then min i.toNat n else n - min (-i).toNat n) = if i < 0 then (i + (n : Int)).toNat else min i.toNat n
    by_cases h : 0 ≤ i
    · rw [if_pos h, if_neg (by omega)]
    · rw [if_neg h, if_pos (by omega)]
      omega
theorem cut_ok {K : PySem.W.Frag} {ρ : List Addr} {H : Hp} {xs : List PV} {vs : List V} (r : RepL K ρ H xs vs) (lo hi : Option Int) : RepL K ρ H (cut xs lo hi) (cutV vs lo hi) := by
  unfold cut cutV
  rw [slIx_eq, slIx_eq, r.length]
  exact (r.drop _).take _
theorem cut_whole {α : Type} {xs : List α} {lo hi : Option Int} (h : HT.sIx xs.length 0 lo = 0 ∧ HT.sIx xs.length xs.length hi = xs.length) : cut xs lo hi = xs := by
  unfold cut
  rw [slIx_eq, slIx_eq, h.1, h.2]
  simp
theorem cutS_eq (l : List Nat) (lo hi : Option Int) : cutS ⟨l.toArray⟩ lo hi = ⟨(cut l lo hi).toArray⟩ := by
  unfold cutS cut
  rw [slIx_eq, slIx_eq]
  first
    | rfl
    | simp [Str.length]
theorem sl_core : ∀ ρ st H x vx l h Q z, OkS X.K ρ st H → RepX X.K ρ H x vx → sliceG x l h st = some z → WantV X ρ H Q z st → ∃ r, SlR X r ∧ r vx l h H Q := fun ρ st H x vx l h Q z ok rx hs q => by
  have rest : ((lv st x).map fun xs => PV.tl (cut xs l h)) = some z → ∃ r, SlR X r ∧ r vx l h H Q := fun e => by
    obtain ⟨xs, h1, rfl⟩ := Option.map_eq_some_iff.mp e
    obtain ⟨a, vs, rfl, h3, h4⟩ := lv_ok ok rx h1
    exact ⟨_, sl_list, a, vs, rfl, h3, q.new ok (cut_ok h4 l h)⟩
  cases x with
  | str m =>
    dsimp only [sliceG] at hs
    split at hs
    · rename_i hz
      cases hs
      rw [rx.cases_str]
      refine ⟨_, sl_str, ⟨m.toArray⟩, rfl, by rw [str_len]; exact SZ_le hz, ?_⟩
      rw [cutS_eq]
      exact q.val ok (.str _)
    · cases hs
  | tup xs =>
    cases hs
    obtain ⟨a, vs, rfl, h2, h3⟩ := rx.cases_tup
    refine ⟨_, sl_tupA, a, vs, rfl, h2, fun w => ?_, fun _ => q.newT ok (cut_ok h3 l h)⟩
    refine q.val ok (.tup h2 ?_)
    rw [← h3.length] at w
    rw [cut_whole w]
    exact h3
  | _ => exact rest hs
end
end Vm

set_option maxHeartbeats 4000000
/-! Vm5: further expressions, tests, calls of built-in functions and methods. -/
namespace Vm
open PySem L2
variable [ClsMap]

section
variable {T : Tb} {X : Cx} {W : WX} {e a b c : Expr} {es : List Expr} {m ma mb mc : Env → Store → Res PV} {pos : Pos}

theorem sim_glob {x : PV} {v : V} (hr : ∀ ρ H, Rep X.K ρ H x v) (h : PE X e (tC v)) (G : Nat → Option PV) (g : Nat) (hg : G g = some x) : SimE T X W e (fun _ st => Res.of (G g) st) := fun ρ st H σ ev Q ok re q => by
  rw [hg] at q
  exact wE_of h (q ρ H v .refl ok (hr ρ H).r)

/-! ### chains, and, or, not, if -/
theorem sim_cmp2 (hu : X.A.units + 64 < cLine) (o o' : COp) (hm : lastMarks [copOf o, copOf o'] [b, c] = false) (ha : SimE T X W a ma) (hb : SimE T X W b mb) (hc : SimE T X W c mc) {ρ : List Addr} {st : Store} {H : Hp} {σ : L2.St} {ev : Env} {Q : VK}
    (ok : OkS X.K ρ st H) (re : RepE X.K ρ H ev σ)
    (q : Aft ((ma ev st).bind fun x st1 => (mb ev st1).bind fun y st2 => (Res.of (cmpV o x y st2) st2).bind fun r st3 => if r then (mc ev st3).bind fun z st4 => Res.of ((cmpV o' y z st4).map .bl) st4 else .ok (.bl false) st3) (WantV X ρ H Q) (WantX T X W ρ H σ)) :
    tChain (wO X (compareOp (copOf o))) (wO X (compareOp (copOf o'))) (wE X a) (wE X b) (wE X c) σ H Q := by
  refine ha ρ st H σ ev _ ok re ((Aft.bind q).imp (fun x st1 q1 ρ1 H1 vx g1 ok1 r1 => ?_) fun _ _ _ z => z)
  refine hb ρ1 st1 H1 σ ev _ ok1 (re.mono g1) ((Aft.bind q1).imp (fun y st2 q2 ρ2 H2 vy g2 ok2 r2 => ?_) fun _ _ _ => WantX.from g1)
  obtain ⟨k, hk, q3⟩ := (Aft.bind q2).of
  have g12 := g1.trans g2
  refine cmp_core hu o ok2 (r1.mono g2).1 r2.1 hk ⟨k, rfl, ?_⟩
  cases k with
  | false =>
    rw [if_neg Bool.false_ne_true] at q3 ⊢
    exact q3 ρ2 H2 _ g12 ok2 (Rep.r (.bl false))
  | true =>
    rw [if_pos rfl] at q3 ⊢
    refine hc ρ2 st2 H2 σ ev _ ok2 (re.mono g12) ((Aft.bind q3).imp (fun z st4 q4 ρ4 H4 vz g4 ok4 r4 => ?_) fun _ _ _ => WantX.from g12)
    obtain ⟨w, hw, q5⟩ := q4.of
    obtain ⟨d, h1, rfl⟩ := Option.map_eq_some_iff.mp hw
    exact cmp_core hu o' ok4 (r2.mono g4).1 r4.1 h1 (q5 ρ4 H4 _ (g12.trans g4) ok4 (Rep.r (.bl d)))
theorem simE_cmp2 (hu : X.A.units + 64 < cLine) (o o' : COp) (hm : lastMarks [copOf o, copOf o'] [b, c] = false) (ha : SimE T X W a ma) (hb : SimE T X W b mb) (hc : SimE T X W c mc) :
    SimE T X W (.Compare a [copOf o, copOf o'] [b, c] pos) (fun ev st => (ma ev st).bind fun x st1 => (mb ev st1).bind fun y st2 => (Res.of (cmpV o x y st2) st2).bind fun r st3 => if r then (mc ev st3).bind fun z st4 => Res.of ((cmpV o' y z st4).map .bl) st4 else .ok (.bl false) st3) :=
  fun ρ st H σ ev Q ok re q => wE_of (pe_chain or_w or_w pe_w pe_w pe_w hm) (sim_cmp2 hu o o' hm ha hb hc ok re q)
/-- a test of a value -/
theorem aft_truth {r : Res PV} {ρ : List Addr} {H : Hp} {σ : L2.St} {Q : Bool → Hp → Prop} (h : Aft (truth r) (WantB X ρ H Q) (WantX T X W ρ H σ)) : Aft r (WantV X ρ H fun v H' => ∃ k, v = .bl k ∧ Q k H') (WantX T X W ρ H σ) :=
  (Aft.bind h).imp (fun x st q ρ' H' v g ok rr => by
    cases x with
    | bl k => exact ⟨k, rr.1.cases_bl, q ρ' H' g ok⟩
    | _ => exact q.elim) fun _ _ _ z => z
theorem simT_val (he : ∀ whole, isTrue e X.env whole = (do let v ← whole; standAt e.pos; holding [v] (truthy v))) (h : SimE T X W e m) : SimT T X W e (fun ev st => truth (m ev st)) := fun ρ st H σ ev Q ok re q =>
  wT_of (pt_val pe_w he) (h ρ st H σ ev _ ok re (aft_truth q))
theorem simT_cmp {op : CmpOp} {g : PV → PV → Store → Option PV} (ho : SimO X (compareOp op) g) (hm : behindInMarks op b = false) (ha : SimE T X W a ma) (hb : SimE T X W b mb) :
    SimT T X W (.Compare a [op] [b] pos) (fun ev st => truth ((ma ev st).bind fun x st1 => (mb ev st1).bind fun y st2 => Res.of (g x y st2) st2)) := fun ρ st H σ ev Q ok re q =>
  wT_of (pt_cmpR or_w pe_w pe_w hm) (two ha hb ho ok re (aft_truth q))
theorem simT_cmp2 (hu : X.A.units + 64 < cLine) (o o' : COp) (hm : lastMarks [copOf o, copOf o'] [b, c] = false) (ha : SimE T X W a ma) (hb : SimE T X W b mb) (hc : SimE T X W c mc) :
    SimT T X W (.Compare a [copOf o, copOf o'] [b, c] pos) (fun ev st => truth ((ma ev st).bind fun x st1 => (mb ev st1).bind fun y st2 => (Res.of (cmpV o x y st2) st2).bind fun r st3 => if r then (mc ev st3).bind fun z st4 => Res.of ((cmpV o' y z st4).map .bl) st4 else .ok (.bl false) st3)) :=
  fun ρ st H σ ev Q ok re q => wT_of (pt_chain or_w or_w pe_w pe_w pe_w hm) (sim_cmp2 hu o o' hm ha hb hc ok re (aft_truth q))
theorem truth_bl (r : Res Bool) : truth (r.bind fun k st => .ok (.bl k) st) = r := by
  cases r <;> rfl
def andM (f g : Env → Store → Res PV) : Env → Store → Res PV := fun ev st => (truth (f ev st)).bind fun r st1 => if r then (truth (g ev st1)).bind fun r st2 => .ok (.bl r) st2 else .ok (.bl false) st1
def orM (f g : Env → Store → Res PV) : Env → Store → Res PV := fun ev st => (truth (f ev st)).bind fun r st1 => if r then .ok (.bl true) st1 else (truth (g ev st1)).bind fun r st2 => .ok (.bl r) st2
theorem aft_bl {r : Res PV} {ρ : List Addr} {H : Hp} {σ : L2.St} {Q : VK} (h : Aft ((truth r).bind fun k st => .ok (.bl k) st) (WantV X ρ H Q) (WantX T X W ρ H σ)) : Aft (truth r) (WantB X ρ H fun k H' => Q (.bl k) H') (WantX T X W ρ H σ) :=
  (Aft.bind h).imp (fun k st q ρ' H' g ok => q ρ' H' _ g ok (Rep.r (.bl k))) fun _ _ _ z => z
/-- the last of a chain of and, or, as a value -/
theorem simE_one {op : BoolOp} (h : SimE T X W a ma) : SimE T X W (.BoolOp op [a] pos) ma := fun ρ st H σ ev Q ok re q => wE_of (pe_one pe_w) (h ρ st H σ ev _ ok re q)
theorem simE_and {rest : List Expr} (ha : SimE T X W a ma) (hb : SimE T X W (.BoolOp .And (b :: rest) pos) mb) : SimE T X W (.BoolOp .And (a :: b :: rest) pos) (andM ma mb) := fun ρ st H σ ev Q ok re q => by
  refine wE_of (pe_and pe_w pe_w) ?_
  refine ha ρ st H σ ev _ ok re (aft_truth ((Aft.bind q).imp (fun k st1 q1 ρ1 H1 g1 ok1 => ?_) fun _ _ _ z => z))
  cases k with
  | false => exact q1 ρ1 H1 _ g1 ok1 (Rep.r (.bl false))
  | true =>
    show wE X _ σ H1 Q
    refine hb ρ1 st1 H1 σ ev _ ok1 (re.mono g1) ?_
    refine (aft_truth (aft_bl (aftV g1 q1))).imp (fun x st2 q2 ρ2 H2 v g2 ok2 r2 => ?_) fun _ _ _ z => z
    obtain ⟨k, rfl, q3⟩ := q2 ρ2 H2 v g2 ok2 r2
    exact q3
theorem simE_or {rest : List Expr} (ha : SimE T X W a ma) (hb : SimE T X W (.BoolOp .Or (b :: rest) pos) mb) : SimE T X W (.BoolOp .Or (a :: b :: rest) pos) (orM ma mb) := fun ρ st H σ ev Q ok re q => by
  refine wE_of (pe_or pe_w pe_w) ?_
  refine ha ρ st H σ ev _ ok re (aft_truth ((Aft.bind q).imp (fun k st1 q1 ρ1 H1 g1 ok1 => ?_) fun _ _ _ z => z))
  cases k with
  | true => exact q1 ρ1 H1 _ g1 ok1 (Rep.r (.bl true))
  | false =>
    show wE X _ σ H1 Q
    refine hb ρ1 st1 H1 σ ev _ ok1 (re.mono g1) ?_
    refine (aft_truth (aft_bl (aftV g1 q1))).imp (fun x st2 q2 ρ2 H2 v g2 ok2 r2 => ?_) fun _ _ _ z => z
    obtain ⟨k, rfl, q3⟩ := q2 ρ2 H2 v g2 ok2 r2
    exact q3
theorem simW_and1 {n : Env → Store → Res Bool} (h : SimT T X W a n) : SimW T X W (.BoolOp .And [a] pos) n := fun ρ st H σ ev Q ok re q => wW_of (pw_and1 pt_w) (h ρ st H σ ev _ ok re q)
theorem simW_or1 {n : Env → Store → Res Bool} (h : SimT T X W a n) : SimW T X W (.BoolOp .Or [a] pos) n := fun ρ st H σ ev Q ok re q => wW_of (pw_or1 pt_w) (h ρ st H σ ev _ ok re q)
theorem simW_and {rest : List Expr} (ha : SimT T X W a (fun ev st => truth (ma ev st))) (hb : SimW T X W (.BoolOp .And (b :: rest) pos) (fun ev st => truth (mb ev st))) : SimW T X W (.BoolOp .And (a :: b :: rest) pos) (fun ev st => truth (andM ma mb ev st)) := fun ρ st H σ ev Q ok re q => by
  refine wW_of (pw_and pt_w pw_w) ?_
  have e : truth (andM ma mb ev st) = (truth (ma ev st)).bind fun r st1 => if r then truth (mb ev st1) else .ok false st1 := by
    unfold andM
    cases truth (ma ev st) with
    | ok r st1 =>
      cases r with
      | true => exact truth_bl _
      | false => rfl
    | exc c fs st1 => rfl
    | bad => rfl
  dsimp only at q
  rw [e] at q
  refine ha ρ st H σ ev _ ok re ((Aft.bind q).imp (fun k st1 q1 ρ1 H1 g1 ok1 => ?_) fun _ _ _ z => z)
  cases k with
  | false => exact q1 ρ1 H1 g1 ok1
  | true => exact hb ρ1 st1 H1 σ ev _ ok1 (re.mono g1) (aftB g1 q1)
theorem simW_or {rest : List Expr} (ha : SimT T X W a (fun ev st => truth (ma ev st))) (hb : SimW T X W (.BoolOp .Or (b :: rest) pos) (fun ev st => truth (mb ev st))) : SimW T X W (.BoolOp .Or (a :: b :: rest) pos) (fun ev st => truth (orM ma mb ev st)) := fun ρ st H σ ev Q ok re q => by
  refine wW_of (pw_or pt_w pw_w) ?_
  have e : truth (orM ma mb ev st) = (truth (ma ev st)).bind fun r st1 => if r then .ok true st1 else truth (mb ev st1) := by
    unfold orM
    cases truth (ma ev st) with
    | ok r st1 =>
      cases r with
      | true => rfl
      | false => exact truth_bl _
    | exc c fs st1 => rfl
    | bad => rfl
  dsimp only at q
  rw [e] at q
  refine ha ρ st H σ ev _ ok re ((Aft.bind q).imp (fun k st1 q1 ρ1 H1 g1 ok1 => ?_) fun _ _ _ z => z)
  cases k with
  | true => exact q1 ρ1 H1 g1 ok1
  | false => exact hb ρ1 st1 H1 σ ev _ ok1 (re.mono g1) (aftB g1 q1)
theorem simT_W {n : Env → Store → Res Bool} (h : SimW T X W e n) : SimT T X W e n := fun ρ st H σ ev Q ok re q => wT_of (PW.pt pw_w) (h ρ st H σ ev _ ok re q)
def notM (f : Env → Store → Res PV) : Env → Store → Res PV := fun ev st => (truth (f ev st)).bind fun r st1 => .ok (.bl (!r)) st1
theorem simE_not (ha : SimE T X W a ma) (ht : SimT T X W a (fun ev st => truth (ma ev st))) : SimE T X W (.UnaryOp .Not a pos) (notM ma) := fun ρ st H σ ev Q ok re q => by
  refine wE_of (pe_not pe_w) ?_
  refine ha ρ st H σ ev _ ok re (aft_truth ((Aft.bind q).imp (fun k st1 q1 ρ1 H1 g1 ok1 => ?_) fun _ _ _ z => z))
  exact q1 ρ1 H1 _ g1 ok1 (Rep.r (.bl (!k)))
theorem simT_not (ht : SimT T X W a (fun ev st => truth (ma ev st))) : SimT T X W (.UnaryOp .Not a pos) (fun ev st => truth (notM ma ev st)) := fun ρ st H σ ev Q ok re q => by
  refine wT_of (pt_not pt_w) ?_
  have e : truth (notM ma ev st) = (truth (ma ev st)).bind fun r st1 => .ok (!r) st1 := by
    unfold notM
    cases truth (ma ev st) <;> rfl
  dsimp only at q
  rw [e] at q
  exact ht ρ st H σ ev _ ok re ((Aft.bind q).imp (fun k st1 q1 ρ1 H1 g1 ok1 => q1 ρ1 H1 g1 ok1) fun _ _ _ z => z)
theorem sim_neg (ha : SimE T X W a ma) : SimE T X W (.UnaryOp .USub a pos) (fun ev st => (ma ev st).bind fun x st1 => match x with
    | .int i => .ok (.int (-i)) st1
    | _ => .bad) := fun ρ st H σ ev Q ok re q => by
  refine wE_of (pe_un un_neg pe_w) ?_
  refine ha ρ st H σ ev _ ok re ((Aft.bind q).imp (fun x st1 q1 ρ1 H1 vx g1 ok1 r1 => ?_) fun _ _ _ z => z)
  cases x with
  | int i => exact ⟨i, r1.1.cases_int, q1 ρ1 H1 _ g1 ok1 (Rep.r (.int (-i)))⟩
  | _ => exact q1.elim
theorem sim_ite (hc : SimT T X W c (fun ev st => truth (mc ev st))) (ha : SimE T X W a ma) (hb : SimE T X W b mb) : SimE T X W (.IfExp c a b pos) (fun ev st => (truth (mc ev st)).bind fun r st1 => if r then ma ev st1 else mb ev st1) := fun ρ st H σ ev Q ok re q => by
  refine wE_of (pe_ifExp pt_w pe_w pe_w) ?_
  refine hc ρ st H σ ev _ ok re ((Aft.bind q).imp (fun k st1 q1 ρ1 H1 g1 ok1 => ?_) fun _ _ _ z => z)
  cases k with
  | true => exact ha ρ1 st1 H1 σ ev _ ok1 (re.mono g1) (aftV g1 q1)
  | false => exact hb ρ1 st1 H1 σ ev _ ok1 (re.mono g1) (aftV g1 q1)

/-! ### slices -/
def SimP (T : Tb) (X : Cx) (W : WX) (o : Option Expr) (no : Bool) (m : Env → Store → Res PV) : Prop := match o with
  | none => no = true ∧ m = fun _ st => .ok .non st
  | some e => no = false ∧ SimE T X W e m
def wP (X : Cx) (o : Option Expr) : TO := fun σ H Q => ∀ pins s, Inv X pins σ H s → wpAny (model X.prog X.w) X.A (evalPart o X.env) (fun u s' => ∃ o H', Inv X pins σ H' s' ∧ IsPart u o ∧ Q o H') X.xe s
theorem po_w {o : Option Expr} : PO X o (wP X o) := ⟨fun pins s σ H Q I h => h pins s I⟩
theorem sim_part {o : Option Expr} {no : Bool} (h : SimP T X W o no m) {ρ : List Addr} {st : Store} {H : Hp} {σ : L2.St} {ev : Env} {Q : Option Int → Hp → Prop} (ok : OkS X.K ρ st H) (re : RepE X.K ρ H ev σ)
    (q : Aft (partR no (m ev st)) (fun i st' => ∀ ρ' H', Grow X.K ρ H ρ' H' → OkS X.K ρ' st' H' → Q i H') (WantX T X W ρ H σ)) : wP X o σ H Q := by
  cases o with
  | none =>
    obtain ⟨rfl, e⟩ : no = true ∧ m = fun _ st => .ok .non st := h
    subst e
    exact fun pins s I => po_none.run pins s σ H Q I (q ρ H .refl ok)
  | some e =>
    obtain ⟨rfl, he⟩ : no = false ∧ SimE T X W e m := h
    intro pins s I
    refine (po_some pe_w).run pins s σ H Q I ?_
    refine he ρ st H σ ev _ ok re ((Aft.bind q).imp (fun x st' q1 ρ' H' v g ok' r => ?_) fun _ _ _ z => z)
    cases x with
    | int k => exact ⟨k, r.1.cases_int, q1 ρ' H' g ok'⟩
    | _ => exact q1.elim
theorem sim_sl {lo hi : Option Expr} {nl nh : Bool} {ml mh : Env → Store → Res PV} {p2 : Pos} (ha : SimE T X W a ma) (hl : SimP T X W lo nl ml) (hh : SimP T X W hi nh mh) :
    SimE T X W (.Subscript a (.Slice lo hi none p2) pos) (fun ev st => (ma ev st).bind fun x st1 => (partR nl (ml ev st1)).bind fun l st2 => (partR nh (mh ev st2)).bind fun h st3 => Res.of (sliceG x l h st3) st3) := fun ρ st H σ ev Q ok re q => by
  have hr : SlR X (fun x lo hi H Q => ∃ r, SlR X r ∧ r x lo hi H Q) := fun pins s σ H x v vl vu lo hi sl Q I rx hs pl pu ⟨r, h, q⟩ => h pins s σ H x v vl vu lo hi sl Q I rx hs pl pu q
  refine wE_of (pe_slice hr pe_w po_w po_w) ?_
  refine ha ρ st H σ ev _ ok re ((Aft.bind q).imp (fun x st1 q1 ρ1 H1 vx g1 ok1 r1 => ?_) fun _ _ _ z => z)
  refine sim_part hl ok1 (re.mono g1) ((Aft.bind q1).imp (fun l st2 q2 ρ2 H2 g2 ok2 => ?_) fun _ _ _ => WantX.from g1)
  have g12 := g1.trans g2
  refine sim_part hh ok2 (re.mono g12) ((Aft.bind q2).imp (fun h st3 q3 ρ3 H3 g3 ok3 => ?_) fun _ _ _ => WantX.from g12)
  obtain ⟨z, hz, q4⟩ := q3.of
  exact sl_core ρ3 st3 H3 x vx l h Q z ok3 (r1.mono (g2.trans g3)).1 hz (WantV.from (g12.trans g3) q4)

/-! ### calls of built-in functions -/
def bltId : Blt → Value
  | .len => .builtin "len" | .abs => .builtin "abs" | .int => .type "int" | .str => .type "str" | .tuple => .type "tuple" | .list => .type "list"
  | .sum => .builtin "sum" | .max => .builtin "max" | .min => .builtin "min" | .dict => .type "dict"
def bltName : Blt → Str
  | .len => "len" | .abs => "abs" | .int => "int" | .str => "str" | .tuple => "tuple" | .list => "list"
  | .sum => "sum" | .max => "max" | .min => "min" | .dict => "dict"
theorem boot_blt : ∀ f : Blt, bootBuiltins (bltName f) = some (bltId f) := by
  intro f
  cases f <;> decide +kernel
theorem blt_name (f : Blt) : bltName f ≠ "__name__" ∧ (bltName f == ("__debug__" : Str)) = false := by
  cases f <;> decide
/-- a call of a built-in function or type by its name -/
theorem pe_blt {f : Blt} {r : List V → Hp → VK → Prop} {t : TA} {p : Pos} (hc : CallR X (bltId f) r) (hg : Gl X (bltName f)) (hm : X.mg (bltName f) = none) (ha : PA X (e :: es) t)
    (he : starEach (e :: es) X.env = (false, eval e X.env) :: starEach es X.env) (hpl : (backTo pos (starEach es X.env)).any (·.1) = false) : PE X (.Call (.Name (bltName f) p) (e :: es) [] pos) (tCB r t) := by
  have hv := boot_blt f
  obtain ⟨n1, n2⟩ := blt_name f
  cases f with
  | len => exact pe_callB hc hg hm hv ha n1 n2 he hpl
  | abs => exact pe_callB hc hg hm hv ha n1 n2 he hpl
  | sum => exact pe_callB hc hg hm hv ha n1 n2 he hpl
  | max => exact pe_callB hc hg hm hv ha n1 n2 he hpl
  | min => exact pe_callB hc hg hm hv ha n1 n2 he hpl
  | int => exact pe_callTy hc hg hm hv ha n1 n2 he hpl
  | str => exact pe_callTy hc hg hm hv ha n1 n2 he hpl
  | tuple => exact pe_callTy hc hg hm hv ha n1 n2 he hpl
  | list => exact pe_callTy hc hg hm hv ha n1 n2 he hpl
  | dict => exact pe_callTy hc hg hm hv ha n1 n2 he hpl
theorem star_nil {env : PySem.Env} {pos : Pos} : (backTo pos (starEach [] env)).any (·.1) = false := rfl
theorem sim_blt1 {f : Blt} {p : Pos} (hg : Gl X (bltName f)) (hm : X.mg (bltName f) = none) (hs : starEach [a] X.env = (false, eval a X.env) :: starEach [] X.env)
    (hf : SimC1 X (bltId f) (blt1 f)) (ha : SimE T X W a ma) : SimE T X W (.Call (.Name (bltName f) p) [a] [] pos) (fun ev st => (ma ev st).bind fun x st1 => Res.of (blt1 f x st1) st1) := fun ρ st H σ ev Q ok re q => by
  refine wE_of (pe_blt cr_w hg hm (pa_cons pe_w pa_nil hs) hs star_nil) ?_
  refine ha ρ st H σ ev _ ok re ((Aft.bind q).imp (fun x st1 q1 ρ1 H1 vx g1 ok1 r1 => ?_) fun _ _ _ z => z)
  obtain ⟨z, hz, q2⟩ := q1.of
  exact hf ρ1 st1 H1 x vx Q z ok1 r1.1 hz (WantV.from g1 q2)
theorem sim_blt2 {f : Blt} {p : Pos} (hg : Gl X (bltName f)) (hm : X.mg (bltName f) = none) (hs : starEach [a, b] X.env = (false, eval a X.env) :: starEach [b] X.env) (hs2 : starEach [b] X.env = (false, eval b X.env) :: starEach [] X.env)
    (hf : SimC2 X (bltId f) (blt2 f)) (ha : SimE T X W a ma) (hb : SimE T X W b mb) : SimE T X W (.Call (.Name (bltName f) p) [a, b] [] pos) (fun ev st => (ma ev st).bind fun x st1 => (mb ev st1).bind fun y st2 => Res.of (blt2 f x y) st2) := fun ρ st H σ ev Q ok re q => by
  refine wE_of (pe_blt cr_w hg hm (pa_cons pe_w (pa_cons pe_w pa_nil hs2) hs) hs (by rw [hs2]; rfl)) ?_
  refine ha ρ st H σ ev _ ok re ((Aft.bind q).imp (fun x st1 q1 ρ1 H1 vx g1 ok1 r1 => ?_) fun _ _ _ z => z)
  refine hb ρ1 st1 H1 σ ev _ ok1 (re.mono g1) ((Aft.bind q1).imp (fun y st2 q2 ρ2 H2 vy g2 ok2 r2 => ?_) fun _ _ _ => WantX.from g1)
  obtain ⟨z, hz, q3⟩ := q2.of
  exact hf ρ2 st2 H2 x y vx vy Q z ok2 (r1.mono g2).1 r2.1 hz (WantV.from (g1.trans g2) q3)

theorem intsOf_ok {K : PySem.W.Frag} {ρ : List Addr} {H : Hp} : ∀ {xs : List PV} {vs : List V} {ns : List Int}, RepL K ρ H xs vs → intsOf xs = some ns → vs = ns.map V.int
  | _, _, _, .nil, h => by cases h; rfl
  | .int i :: _, _, _, .cons r t, h => by
    obtain ⟨ms, h1, h2⟩ := Option.map_eq_some_iff.mp h
    rw [← h2, r.x.cases_int, intsOf_ok t h1]
    rfl
  | .non :: _, _, _, .cons r t, h => by cases h
  | .bl _ :: _, _, _, .cons r t, h => by cases h
  | .str _ :: _, _, _, .cons r t, h => by cases h
  | .tup _ :: _, _, _, .cons r t, h => by cases h
  | .loc _ :: _, _, _, .cons r t, h => by cases h
  | .tl _ :: _, _, _, .cons r t, h => by cases h
  | .fl _ :: _, _, _, .cons r t, h => by cases h
theorem digit_ok (n : Nat) (h : n < 10) : (Nat.digitChar n).toNat = 48 + n := by
  match n, h with
  | 0, _ => rfl
  | 1, _ => rfl
  | 2, _ => rfl
  | 3, _ => rfl
  | 4, _ => rfl
  | 5, _ => rfl
  | 6, _ => rfl
  | 7, _ => rfl
  | 8, _ => rfl
  | 9, _ => rfl
theorem digits_ok : ∀ (f n : Nat), n < 10 ^ (f + 1) → (Nat.toDigits 10 n).map Char.toNat = digitsN (f + 1) n
  | f, n, h => by
    unfold digitsN
    by_cases c : n < 10
    · rw [if_pos c, Nat.toDigits_of_lt_base c, List.map_singleton, digit_ok n c]
    · rw [if_neg c, Nat.toDigits_of_base_le (by decide) (by omega), List.map_append, List.map_singleton, digit_ok _ (Nat.mod_lt _ (by decide))]
      cases f with
      | zero => rw [Nat.zero_add, Nat.pow_one] at h; omega
      | succ f => rw [digits_ok f (n / 10) (by rw [Nat.pow_succ] at h; omega)]
theorem numStr_ok {i : Int} {l : List Nat} (h : numStr i = some l) : (Str.ofString (toString i)) = ⟨l.toArray⟩ ∧ i.natAbs.log2 < 1920 := by
  unfold numStr at h
  split at h
  · rename_i c
    cases h
    obtain ⟨n, rfl⟩ := Int.eq_ofNat_of_zero_le c.1
    have hn : n < 10 ^ (10 + 1) := by have := c.2; omega
    refine ⟨?_, ?_⟩
    · rw [Str.ofString_eq_toList, Int.toString_eq_repr, Int.repr_eq_if, if_pos c.1, Nat.toList_repr, Int.toNat_natCast, digits_ok 10 n hn]
    · rw [Int.natAbs_natCast]
      by_cases z : n = 0
      · subst z
        decide
      · have h40 : n.log2 < 40 := by
          rw [Nat.log2_lt z]
          exact Nat.lt_of_lt_of_le hn (by decide)
        omega
  · cases h
theorem simC1_len (hc : X.calm = true) : SimC1 X (.builtin "len") (blt1 .len) := fun ρ st H x v Q z ok r h q => by
  obtain ⟨n, h1, rfl⟩ := Option.map_eq_some_iff.mp h
  have rest : (match dv st x with
    | some kvs => some (kvs.length : Int)
    | none => (sv st x).map fun xs => (xs.length : Int)) = some n → wC X (.builtin "len") [v] H Q := fun h1 => by
    cases hd : dv st x with
    | some kvs =>
      rw [hd] at h1
      cases h1
      obtain ⟨a, qs, rfl, h3, h4⟩ := dv_ok ok r hd
      refine fun pins s σ us I rx => ?_
      obtain ⟨u, rfl, ru⟩ := vals1 rx
      cases ru
      exact d_len I h3 fun t s' I' => ⟨.int qs.length, H, I', ⟨t, rfl⟩, by rw [← h4.length]; exact q.val ok (.int _)⟩
    | none =>
      rw [hd] at h1
      obtain ⟨xs, h2, rfl⟩ := Option.map_eq_some_iff.mp h1
      obtain ⟨a, vs, rfl, h3, h4⟩ := sv_ok ok r h2
      exact wC_of call_len_seq ⟨a, vs, rfl, h3, by rw [← h4.length]; exact q.val ok (.int _)⟩
  cases x with
  | str l =>
    unfold lenV at h1
    dsimp only at h1
    split at h1
    · rename_i hz
      cases h1
      rw [r.cases_str]
      exact wC_of call_len_str ⟨_, rfl, by rw [str_len]; exact SZ_le hz, by rw [str_len]; exact q.val ok (.int _)⟩
    · cases h1
  | _ => exact rest h1
theorem simC1_abs : SimC1 X (.builtin "abs") (blt1 .abs) := fun ρ st H x v Q z ok r h q => by
  cases x with
  | int i =>
    cases h
    rw [r.cases_int]
    exact wC_of call_abs ⟨i, rfl, q.val ok (.int _)⟩
  | _ => cases h
theorem simC1_int : SimC1 X (.type "int") (blt1 .int) := fun ρ st H x v Q z ok r h q => by
  cases x with
  | int i =>
    cases h
    rw [r.cases_int]
    exact wC_of call_int1 (.inl ⟨i, rfl, q.val ok (.int _)⟩)
  | bl b =>
    cases h
    rw [r.cases_bl]
    exact wC_of call_int1 (.inr ⟨b, rfl, q.val ok (.int _)⟩)
  | str l =>
    obtain ⟨i, h1, rfl⟩ := Option.map_eq_some_iff.mp h
    unfold intStr at h1
    split at h1
    · rename_i hc
      cases h1
      simp only [Bool.and_eq_true, decide_eq_true_eq, Bool.not_eq_true', List.isEmpty_eq_false_iff] at hc
      rw [r.cases_str]
      refine wC_of call_int_str ⟨_, _, rfl, SX.int_S (a := l) (by exact hc.1.1) hc.1.2 (by omega), ?_, q.val ok (.int _)⟩
      show (SX.S l).length ≤ 640
      rw [SX.S_len]
      omega
    · cases h1
  | _ => cases h
theorem simC1_str : SimC1 X (.type "str") (blt1 .str) := fun ρ st H x v Q z ok r h q => by
  cases x with
  | int i =>
    obtain ⟨l, h1, rfl⟩ := Option.map_eq_some_iff.mp h
    obtain ⟨e, hb⟩ := numStr_ok h1
    rw [r.cases_int]
    refine wC_of call_str_int ⟨i, rfl, hb, ?_⟩
    have e2 : ((toString i : String) : Str) = ⟨l.toArray⟩ := e
    rw [e2]
    exact q.val ok (.str l)
  | str l =>
    cases h
    rw [r.cases_str]
    exact wC_of SkE.call_str_str ⟨_, rfl, q.val ok (.str l)⟩
  | _ => cases h
theorem simC1_tuple : SimC1 X (.type "tuple") (blt1 .tuple) := fun ρ st H x v Q z ok r h q => by
  obtain ⟨xs, h1, rfl⟩ := Option.map_eq_some_iff.mp h
  obtain ⟨a, vs, rfl, h3, h4⟩ := sv_ok ok r h1
  refine wC_of call_tuple_of ⟨a, vs, rfl, ?_⟩
  rcases h3 with h3 | h3
  · exact .inl ⟨h3, q.newT ok h4⟩
  · exact .inr ⟨h3, q.val ok (.tup h3 h4)⟩
theorem simC1_list : SimC1 X (.type "list") (blt1 .list) := fun ρ st H x v Q z ok r h q => by
  obtain ⟨xs, h1, rfl⟩ := Option.map_eq_some_iff.mp h
  obtain ⟨a, vs, rfl, h3, h4⟩ := sv_ok ok r h1
  exact wC_of call_list_of ⟨a, vs, rfl, h3, q.new ok h4⟩
theorem simC1_sum (hc : X.calm = true) : SimC1 X (.builtin "sum") (blt1 .sum) := fun ρ st H x v Q z ok r h q => by
  obtain ⟨n, h1, rfl⟩ := Option.map_eq_some_iff.mp h
  obtain ⟨ns, h2, rfl⟩ := Option.map_eq_some_iff.mp h1
  obtain ⟨xs, h3, h4⟩ := Option.bind_eq_some_iff.mp h2
  obtain ⟨a, vs, rfl, h5, h6⟩ := lv_ok ok r h3
  have e := intsOf_ok h6 h4
  subst e
  exact wC_of (cr_sum hc) ⟨a, ns, rfl, h5, q.val ok (.int _)⟩
theorem simC1_bad {f : Value} {g : PV → Store → Option PV} (h : ∀ x st, g x st = none) : SimC1 X f g := fun ρ st H x v Q z ok r e q => by rw [h] at e; cases e
theorem simC1_all (hc : X.calm = true) : ∀ f : Blt, SimC1 X (bltId f) (blt1 f)
  | .len => simC1_len hc | .abs => simC1_abs | .int => simC1_int | .str => simC1_str | .tuple => simC1_tuple | .list => simC1_list
  | .sum => simC1_sum hc | .max => simC1_bad fun _ _ => rfl | .min => simC1_bad fun _ _ => rfl | .dict => simC1_bad fun _ _ => rfl
theorem simC2_all (hc : X.calm = true) (f : Blt) : SimC2 X (bltId f) (blt2 f) := fun ρ st H x y v w Q z ok rx ry h q => by
  cases f with
  | max =>
    unfold blt2 at h
    split at h
    · cases h
      rw [rx.cases_int, ry.cases_int]
      exact wC_of (call_max2 hc) ⟨_, _, rfl, q.val ok (.int _)⟩
    · rename_i e; cases e
    · cases h
  | min =>
    unfold blt2 at h
    split at h
    · rename_i e; cases e
    · cases h
      rw [rx.cases_int, ry.cases_int]
      exact wC_of (call_min2 hc) ⟨_, _, rfl, q.val ok (.int _)⟩
    · cases h
  | _ => cases h

/-! ### isinstance -/
def tyName : Ty → Str
  | .int => "int" | .bool => "bool" | .str => "str" | .list => "list" | .tuple => "tuple"
def tyStr : Ty → String
  | .int => "int" | .bool => "bool" | .str => "str" | .list => "list" | .tuple => "tuple"
theorem boot_ty : ∀ t : Ty, bootBuiltins (tyName t) = some (.type (tyStr t)) := by
  intro t
  cases t <;> decide +kernel
theorem ty_name (t : Ty) : tyName t ≠ "__name__" ∧ (tyName t == ("__debug__" : Str)) = false := by
  cases t <;> decide
def tagStr : Tag → String
  | .non => "NoneType" | .bl => "bool" | .int => "int" | .str => "str" | .tup => "tuple" | .lst => "list" | .dic => "dict"
theorem tyX_ok {K : PySem.W.Frag} {ρ : List Addr} {H : Hp} {st : Store} {x : PV} {v : V} {s : Tag} (ok : OkS K ρ st H) (r : RepX K ρ H x v) (h : tagOf x st = some s) : TyX K H v (.type (tagStr s)) := by
  cases x with
  | non => cases h; rw [r.cases_non]; exact .base .non
  | bl b => cases h; rw [r.cases_bl]; exact .base (.bl b)
  | int i => cases h; rw [r.cases_int]; exact .base (.int i)
  | str l => cases h; rw [r.cases_str]; exact .base (.str _)
  | tup xs =>
    cases h
    obtain ⟨a, vs, rfl, h2, _⟩ := r.cases_tup
    rcases h2 with (h2 | ⟨o, h2⟩) | ⟨o, its, n, h2, h3, _⟩
    · exact .base (.tup h2)
    · exact .fTuple h2
    · exact .kTuple h2 h3
  | loc n =>
    obtain ⟨a, rfl, ha⟩ := r.cases_loc
    dsimp only [tagOf] at h
    split at h
    · rename_i ys e
      cases h
      obtain ⟨vs, h1, h2⟩ := ok.cell _ a _ ha e
      exact .base (.lst h1)
    · rename_i ys e
      cases h
      obtain ⟨qs, h1, h2⟩ := ok.cell _ a _ ha e
      exact .base (.dK h1)
    · cases h
  | tl xs => cases h
  | fl xs => cases h
theorem kit_tag (t : Ty) (s : Tag) : kitB (tagStr s) (tyStr t) = some (isTag t s) := by
  cases t <;> cases s <;> decide +kernel
theorem isTy_tyOf {t : Ty} {x : PV} {st : Store} {b : Bool} (h : isTy t x st = some b) : ∃ s, tagOf x st = some s ∧ kitB (tagStr s) (tyStr t) = some b := by
  obtain ⟨s, h1, rfl⟩ := Option.map_eq_some_iff.mp h
  exact ⟨s, h1, kit_tag t s⟩
theorem sim_isi {t : Ty} {p p2 : Pos} (hg : Gl X "isinstance") (hm : X.mg "isinstance" = none) (hgt : Gl X (tyName t)) (hmt : X.mg (tyName t) = none)
    (hs : starEach [a, .Name (tyName t) p2] X.env = (false, eval a X.env) :: starEach [.Name (tyName t) p2] X.env) (ha : SimE T X W a ma) :
    SimE T X W (.Call (.Name "isinstance" p) [a, .Name (tyName t) p2] [] pos) (fun ev st => (ma ev st).bind fun x st1 => Res.of ((isTy t x st1).map .bl) st1) := fun ρ st H σ ev Q ok re q => by
  obtain ⟨n1, n2⟩ := ty_name t
  refine wE_of (pe_callB call_isi hg hm (by decide +kernel) (pa_cons pe_w (pa_cons (pe_bltn (v := .ty (tyStr t)) hgt hmt (boot_ty t) rfl n1 n2) pa_nil rfl) hs) (by decide) (by decide) hs rfl) ?_
  refine ha ρ st H σ ev _ ok re ((Aft.bind q).imp (fun x st1 q1 ρ1 H1 vx g1 ok1 r1 => ?_) fun _ _ _ z => z)
  obtain ⟨z, hz, q2⟩ := q1.of
  obtain ⟨b, h1, rfl⟩ := Option.map_eq_some_iff.mp hz
  obtain ⟨s, h2, h3⟩ := isTy_tyOf h1
  exact ⟨vx, .ty (tyStr t), _, _, b, rfl, .ty _, tyX_ok ok1 r1.1 h2, kit_ty h3, q2 ρ1 H1 _ g1 ok1 (Rep.r (.bl b))⟩
end
end Vm

set_option maxHeartbeats 4000000
/-! Vm6: methods of built-in types, dicts made, what is gone through, comprehensions. -/
namespace Vm
open PySem L2
variable [ClsMap]

section
variable {T : Tb} {X : Cx} {W : WX} {e a b c : Expr} {es : List Expr} {m ma mb mc : Env → Store → Res PV} {pos : Pos}

/-! ### methods -/
theorem aft_mthR {o : Option (PV × Store)} {P : PV → Store → Prop} {E : Nat → List (Nat × PV) → Store → Prop} (h : Aft (mthR o) P E) : ∃ v st, o = some (v, st) ∧ P v st := by
  cases o with
  | none => exact h.elim
  | some p => exact ⟨p.1, p.2, rfl, h⟩
theorem sim_pop {apos cpos : Pos} (hb : attributeBase a "pop" X.env (eval a X.env) = eval a X.env) (hl : (apos.endLine == cpos.line) = true) (ha : SimE T X W a ma) :
    SimE T X W (.Call (.Attribute a "pop" apos) [] [] cpos) (fun ev st => (ma ev st).bind fun x st1 => mthR (mth0 .pop x st1)) := fun ρ st H σ ev Q ok re q => by
  refine wE_of (pe_bm0 PySem.F.plainAttrs_list PySem.F.slot_list_pop PySem.F.type_list_pop mt_pop pe_w hb hl) ?_
  refine ha ρ st H σ ev _ ok re ((Aft.bind q).imp (fun x st1 q1 ρ1 H1 vx g1 ok1 r1 => ?_) fun _ _ _ z => z)
  obtain ⟨v, st2, h1, q2⟩ := aft_mthR q1
  dsimp only [mth0] at h1
  cases hm : lm st1 x with
  | none => rw [hm] at h1; cases h1
  | some p =>
    obtain ⟨n, xs⟩ := p
    rw [hm] at h1
    obtain ⟨y, hy, h1⟩ := Option.map_eq_some_iff.mp h1
    cases h1
    obtain ⟨d, vs, rfl, h2, h3, h4⟩ := lm_ok ok1 r1.1 hm
    obtain ⟨w, h5, h6⟩ := h4.get hy
    have gw : Grow X.K ρ1 H1 ρ1 (upd H1 d (.lst vs.dropLast)) := Grow.write ok1 h2
    refine ⟨.inl ⟨rfl, vs, SqL.of h3⟩, d, vs, w, rfl, rfl, h3, by rw [← h4.length]; exact h5, ?_⟩
    exact q2 ρ1 _ _ (g1.trans gw) (ok1.write h2 ⟨_, upd_same, h4.dropLast.mono gw⟩) (Rep.r (h6.mono gw))
theorem sim_reverse {apos cpos : Pos} (hb : attributeBase a "reverse" X.env (eval a X.env) = eval a X.env) (hl : (apos.endLine == cpos.line) = true) (ha : SimE T X W a ma) :
    SimE T X W (.Call (.Attribute a "reverse" apos) [] [] cpos) (fun ev st => (ma ev st).bind fun x st1 => mthR (mth0 .reverse x st1)) := fun ρ st H σ ev Q ok re q => by
  refine wE_of (pe_bm0 PySem.F.plainAttrs_list PySem.F.slot_list_reverse PySem.F.type_list_reverse mt_reverse pe_w hb hl) ?_
  refine ha ρ st H σ ev _ ok re ((Aft.bind q).imp (fun x st1 q1 ρ1 H1 vx g1 ok1 r1 => ?_) fun _ _ _ z => z)
  obtain ⟨v, st2, h1, q2⟩ := aft_mthR q1
  dsimp only [mth0] at h1
  cases hm : lm st1 x with
  | none => rw [hm] at h1; cases h1
  | some p =>
    obtain ⟨n, xs⟩ := p
    rw [hm] at h1
    cases h1
    obtain ⟨d, vs, rfl, h2, h3, h4⟩ := lm_ok ok1 r1.1 hm
    have gw : Grow X.K ρ1 H1 ρ1 (upd H1 d (.lst vs.reverse)) := Grow.write ok1 h2
    refine ⟨.inl ⟨rfl, vs, SqL.of h3⟩, d, vs, rfl, rfl, h3, ?_⟩
    exact q2 ρ1 _ _ (g1.trans gw) (ok1.write h2 ⟨_, upd_same, h4.reverse.mono gw⟩) (Rep.r .non)
theorem sim_append {apos cpos : Pos} (hb : attributeBase a "append" X.env (eval a X.env) = eval a X.env) (hl : (apos.endLine == cpos.line) = true)
    (hs : starEach [b] X.env = (false, eval b X.env) :: starEach [] X.env) (ha : SimE T X W a ma) (hbb : SimE T X W b mb) :
    SimE T X W (.Call (.Attribute a "append" apos) [b] [] cpos) (fun ev st => (ma ev st).bind fun x st1 => guardR (mOk .append x st1) <| (fixR (mb ev st1)).bind fun y st2 => mthR (mth1 .append x y st2)) := fun ρ st H σ ev Q ok re q => by
  refine wE_of (pe_bm PySem.F.plainAttrs_list PySem.F.slot_list_append PySem.F.type_list_append mt_append pe_w (pa_cons pe_w pa_nil hs) hb (by rw [hs]; rfl) hl hs rfl) ?_
  refine ha ρ st H σ ev _ ok re ((Aft.bind q).imp (fun x st1 q1 ρ1 H1 vx g1 ok1 r1 => ?_) fun _ _ _ z => z)
  obtain ⟨h0, q1⟩ := q1.guard
  obtain ⟨⟨n0, xs0⟩, hm0⟩ := Option.isSome_iff_exists.mp (show (lm st1 x).isSome = true from h0)
  obtain ⟨d0, vs0, rfl, _, h30, _⟩ := lm_ok ok1 r1.1 hm0
  refine ⟨.inl ⟨rfl, vs0, SqL.of h30⟩, ?_⟩
  refine hbb ρ1 st1 H1 σ ev _ ok1 (re.mono g1) ((aft_fixB (X := X) q1 (fun y st2 q2 ρ2 H2 vy g2 ok2 r2 => ?_)).imp (fun _ _ z => z) fun _ _ _ => WantX.from g1)
  obtain ⟨v, st3, h1, q3⟩ := aft_mthR q2
  dsimp only [mth1] at h1
  cases hm : lm st2 x with
  | none => rw [hm] at h1; cases h1
  | some p =>
    obtain ⟨n, xs⟩ := p
    rw [hm] at h1
    obtain ⟨hz, h1⟩ := guardO_some h1
    cases h1
    obtain ⟨d, vs, e, h2, h3, h4⟩ := lm_ok ok2 (r1.1.mono g2) hm
    cases e
    have gw : Grow X.K ρ2 H2 ρ2 (upd H2 d0 (.lst (vs ++ [vy]))) := Grow.write ok2 h2
    refine ⟨d0, vs, vy, rfl, rfl, h3, by rw [← h4.length]; exact SZ_lt (of_decide_eq_true hz), ?_⟩
    exact q3 ρ2 _ _ ((g1.trans g2).trans gw) (ok2.write h2 ⟨_, upd_same, (h4.snoc r2).mono gw⟩) (Rep.r .non)

/-! ### dicts -/
theorem sim_dnew : SimE T X W (.Dict [] [] pos) (fun _ st => .ok (.loc st.length) (st ++ [.dic false []])) := fun ρ st H σ ev Q ok re q => by
  refine wE_of pe_dnewK fun p hp => ?_
  have g := Grow.new (K := X.K) (o := HO.dK []) ok hp
  have ok1 := ok.new (o := HO.dK []) hp
  refine q (ρ ++ [p]) _ _ (g.place (st := st) hp) (ok1.place (ok.notfree hp) (c := .dic false []) ⟨[], upd_same, .nil⟩) (Rep.r (.loc ?_))
  rw [← ok.len, List.getElem?_append_right (Nat.le_refl _), Nat.sub_self]
  rfl
theorem RepD.pairs {K : PySem.W.Frag} {ρ : List Addr} {H : Hp} : ∀ {kvs : List (PV × PV)} {qs : List (Key × V)} {ts : List Addr}, RepD K ρ H kvs qs → Paired (fun (t : Addr) (q : Key × V) => H t = some (.tup [kV q.1, q.2])) ts qs → RepL K ρ H (kvs.map fun p => .tup [p.1, p.2]) (ts.map V.ref)
  | _, _, _, .nil, .nil => .nil
  | (p :: ps), _, _, .cons e r t, .cons h s => .cons (.tup (.inl (.inl h)) (.cons (by
      cases hp : p.1 with
      | int i => rw [hp] at e; cases e; exact .int i
      | str l => rw [hp] at e; cases e; exact .str l
      | _ => rw [hp] at e; cases e) (.cons r .nil))) (RepD.pairs t s)
theorem sim_ditems {p apos cpos : Pos} (hc : X.calm = true) (hg : Gl X "list") (hm : X.mg "list" = none) (hb : attributeBase a "items" X.env (eval a X.env) = eval a X.env) (hl : (apos.endLine == cpos.line) = true) (ha : SimE T X W a ma) :
    SimE T X W (.Call (.Name "list" p) [.Call (.Attribute a "items" apos) [] [] cpos] [] pos) (fun ev st => (ma ev st).bind fun x st1 => Res.of ((dm st1 x).map fun kvs => .tl (kvs.map fun p => .tup [p.1, p.2])) st1) := fun ρ st H σ ev Q ok re q => by
  refine wE_of (LiI.pe_listItems hc pe_w hg hm (by decide +kernel) hb hl rfl) ?_
  refine ha ρ st H σ ev _ ok re ((Aft.bind q).imp (fun x st1 q1 ρ1 H1 vx g1 ok1 r1 => ?_) fun _ _ _ z => z)
  obtain ⟨z, hz, q2⟩ := q1.of
  obtain ⟨kvs, h1, rfl⟩ := Option.map_eq_some_iff.mp hz
  obtain ⟨d, qs, rfl, h2, h3⟩ := dm_ok ok1 r1.1 h1
  refine ⟨d, qs, rfl, h2, fun H' p ts hk hp ht hpt hl' hT => ?_⟩
  have g2 : Grow X.K ρ1 H1 ρ1 H' := by
    refine ⟨⟨[], by simp⟩, fun a xs r => ?_, fun a xs r => ?_, fun a o r n => ⟨hk _ _ r, n⟩, fun a r => ?_⟩
    · rcases r with (r | ⟨o, r⟩) | r
      · exact .inl (.inl (hk _ _ r))
      · exact .inl (.inr ⟨o, hk _ _ r⟩)
      · exact .inr r
    · rcases r with ⟨o, r⟩ | r
      · exact .inl ⟨o, hk _ _ r⟩
      · exact .inr r
    · cases ho : H1 a with
      | none => rfl
      | some o => rw [hk _ _ ho] at r; cases r
  have ok2 : OkS X.K ρ1 st1 H' := ok1.grow g2 fun a ha => by
    obtain ⟨i, c, _, _, hcell⟩ := ok1.mem ha
    obtain ⟨o, ho⟩ := hcell.some
    rw [ho, hk _ _ ho]
  refine q2 ρ1 H' _ (g1.trans g2) ok2 ⟨⟨p, ts.map V.ref, rfl, hl', ok1.notfree hp, (h3.mono g2).pairs hT⟩, fun _ _ => ⟨p, rfl, g1.back _ hp⟩⟩
theorem pairsOf_ok {K : PySem.W.Frag} {ρ : List Addr} {H : Hp} : ∀ {xs : List PV} {vs : List V} {kvs : List (PV × PV)}, RepL K ρ H xs vs → pairsOf xs = some kvs → ∃ ps qs, vs = ps.map V.ref ∧ Paired (fun (p : Addr) (kv : Key × V) => SqT K H p [kV kv.1, kv.2]) ps qs ∧ RepD K ρ H kvs qs := by
  intro xs
  induction xs with
  | nil =>
    intro vs kvs r h
    cases r
    cases h
    exact ⟨[], [], rfl, .nil, .nil⟩
  | cons x xs ih =>
    intro vs kvs r h
    cases r with
    | cons r t =>
      unfold pairsOf at h
      split at h
      · rename_i e; cases e
      · rename_i k v rest e
        cases e
        split at h
        · rename_i hk
          obtain ⟨more, h1, rfl⟩ := Option.map_eq_some_iff.mp h
          obtain ⟨ps, qs, rfl, h2, h3⟩ := ih t h1
          obtain ⟨d, vs, rfl, h4, h5⟩ := r.x.cases_tup
          cases h5 with
          | cons ra rt =>
            cases rt with
            | cons rb rn =>
              cases rn
              obtain ⟨j, hj⟩ := keyOk_some hk
              have e := keyV_rep ra.x hj
              subst e
              exact ⟨d :: ps, (j, _) :: qs, rfl, .cons h4 h2, .cons hj rb h3⟩
        · cases h
      · cases h
theorem merge_ok {K : PySem.W.Frag} {ρ : List Addr} {H : Hp} : ∀ {kvs : List (PV × PV)} {qs : List (Key × V)} {acc : List (PV × PV)} {bs : List (Key × V)}, RepD K ρ H kvs qs → RepD K ρ H acc bs → RepD K ρ H (kvs.foldl (fun acc p => dput acc p.1 p.2) acc) (mergeK bs qs)
  | _, _, _, _, .nil, h => h
  | _, _, _, _, .cons e r t, h => by
    rw [List.foldl_cons]
    have q := merge_ok t (dput_ok e r h)
    exact q
theorem sim_dict1 {p : Pos} (hc : X.calm = true) (hg : Gl X "dict") (hm : X.mg "dict" = none) (hs : starEach [a] X.env = (false, eval a X.env) :: starEach [] X.env) (ha : SimE T X W a ma) :
    SimE T X W (.Call (.Name "dict" p) [a] [] pos) (fun ev st => (ma ev st).bind fun x st1 => dict1R ((lv st1 x).bind pairsOf) st1) := fun ρ st H σ ev Q ok re q => by
  refine wE_of (pe_callTy (call_dictP hc) hg hm (by decide +kernel) (pa_cons pe_w pa_nil hs) (by decide) (by decide) hs rfl) ?_
  refine ha ρ st H σ ev _ ok re ((Aft.bind q).imp (fun x st1 q1 ρ1 H1 vx g1 ok1 r1 => ?_) fun _ _ _ z => z)
  cases hz : (lv st1 x).bind pairsOf with
  | none => rw [hz] at q1; exact q1.elim
  | some kvs =>
    rw [hz] at q1
    obtain ⟨xs, h1, h2⟩ := Option.bind_eq_some_iff.mp hz
    obtain ⟨d, vs, rfl, h3, h4⟩ := lv_ok ok1 r1.1 h1
    obtain ⟨ps, qs, rfl, h5, h6⟩ := pairsOf_ok h4 h2
    refine ⟨d, ps, qs, rfl, h3, h5, fun p hp => ?_⟩
    have g2 := Grow.new (K := X.K) (o := HO.dK (mergeK [] qs)) ok1 hp
    have ok2 := ok1.new (o := HO.dK (mergeK [] qs)) hp
    refine q1 (ρ1 ++ [p]) _ _ ((g1.trans g2).place (st := st1) (g1.back _ hp)) (ok2.place (ok1.notfree hp) (c := .dic false _) ⟨_, upd_same, (merge_ok h6 .nil).mono g2⟩) (Rep.r (.loc ?_))
    rw [← ok1.len, List.getElem?_append_right (Nat.le_refl _), Nat.sub_self]
    rfl

/-! ### what is gone through -/
def wI (X : Cx) (tg iter : Expr) : TI := fun σ H R => ∀ pins s, Inv X pins σ H s → wpAny (model X.prog X.w) X.A (eval iter X.env) (fun v s1 => wpAny (model X.prog X.w) X.A (pyIter v) (PIE X pins σ tg R) X.xe s1) X.xe s
theorem pi_w {tg iter : Expr} : PI X tg iter (wI X tg iter) := ⟨fun pins s σ H R I h => h pins s I⟩
theorem wI_of {tg iter : Expr} {t : TI} (h : PI X tg iter t) {σ : L2.St} {H : Hp} {R : It → Hp → Prop} (q : t σ H R) : wI X tg iter σ H R := fun pins s I => h.run pins s σ H R I q
/-- the iterator J gives the items xs, one by one, whatever grows meanwhile -/
def Yields (K : PySem.W.Frag) (ρ : List Addr) (H : Hp) (J : It) (xs : List PV) : Prop := ∀ ρ' H', Grow K ρ H ρ' H' →
  (∀ (i : Nat) (x : PV), xs[i]? = some x → J.go i H' ∧ ∀ v H2, J.yld i H' v H2 → H2 = H' ∧ Rep K ρ' H' x v) ∧ ∀ i, xs.length ≤ i → J.stop i H'
def SrcJ (K : PySem.W.Frag) (ρ : List Addr) (H : Hp) : Src → It → Prop
  | .vals xs, J => Yields K ρ H J xs
  | .live n, J => ∃ a, ρ[n]? = some a ∧ J = Itl K a
  | .rng lo n, J => J = Itr lo n
def WantI (X : Cx) (ρ : List Addr) (H : Hp) (R : It → Hp → Prop) : Src → Store → Prop := fun s st' => ∀ ρ' H' J, Grow X.K ρ H ρ' H' → OkS X.K ρ' st' H' → SrcJ X.K ρ' H' s J → R J H'
def SimI (T : Tb) (X : Cx) (W : WX) (tg iter : Expr) (m : Env → Store → Res Src) : Prop := ∀ ρ st H σ ev R, OkS X.K ρ st H → RepE X.K ρ H ev σ → Aft (m ev st) (WantI X ρ H R) (WantX T X W ρ H σ) → wI X tg iter σ H R
theorem yields_list {K : PySem.W.Frag} {ρ : List Addr} {H : Hp} {d : Addr} {vs : List V} {xs : List PV} (h : ∀ ρ' H', Grow K ρ H ρ' H' → SqL K H' d vs) (r : RepL K ρ H xs vs) : Yields K ρ H (Itl K d) xs := fun ρ' H' g => by
  have hl := h ρ' H' g
  refine ⟨fun i x hx => ?_, fun i hi => ⟨vs, hl, by rw [← r.length]; exact hi⟩⟩
  obtain ⟨v, h1, h2⟩ := r.get hx
  refine ⟨⟨vs, v, hl, h1⟩, fun w H2 y => ?_⟩
  obtain ⟨e, y⟩ := y
  have e2 := y vs hl
  rw [h1] at e2
  cases e2
  exact ⟨e, h2.mono g⟩
theorem yields_tup {K : PySem.W.Frag} {ρ : List Addr} {H : Hp} {d : Addr} {vs : List V} {xs : List PV} (h : SqT K H d vs) (r : RepL K ρ H xs vs) : Yields K ρ H (Itt K d) xs := fun ρ' H' g => by
  have hl := g.tups _ _ h
  refine ⟨fun i x hx => ?_, fun i hi => ⟨vs, hl, by rw [← r.length]; exact hi⟩⟩
  obtain ⟨v, h1, h2⟩ := r.get hx
  refine ⟨⟨vs, v, hl, h1⟩, fun w H2 y => ?_⟩
  obtain ⟨e, y⟩ := y
  have e2 := y vs hl
  rw [h1] at e2
  cases e2
  exact ⟨e, h2.mono g⟩
theorem yields_str {K : PySem.W.Frag} {ρ : List Addr} {H : Hp} (l : List Nat) : Yields K ρ H (Its ⟨l.toArray⟩) (l.map fun c => .str [c]) := fun ρ' H' g => by
  refine ⟨fun i x hx => ?_, fun i hi => ?_⟩
  · rw [List.getElem?_map] at hx
    obtain ⟨c, h1, rfl⟩ := Option.map_eq_some_iff.mp hx
    have hi := (List.getElem?_eq_some_iff.mp h1).1
    refine ⟨by show i < l.toArray.size; simpa using hi, fun v H2 y => ?_⟩
    obtain ⟨e, d, h2, rfl⟩ := y
    have h3 : l[i]? = some d := by simpa using h2
    rw [h1] at h3
    cases h3
    exact ⟨e, .str [c]⟩
  · show l.toArray.size ≤ i
    simpa using hi
theorem simI_seq {tg : Expr} (ha : SimE T X W a ma) : SimI T X W tg a (fun ev st => (ma ev st).bind fun v st1 => Res.of (srcOf v st1) st1) := fun ρ st H σ ev R ok re q => by
  dsimp only at q
  cases hm : ma ev st with
  | exc c fs st1 =>
    rw [hm] at q
    refine wI_of (pi_list pe_w) ?_
    refine ha ρ st H σ ev _ ok re ?_
    rw [hm]
    exact q
  | bad => rw [hm] at q; exact q.elim
  | ok x st1 =>
    rw [hm] at q
    obtain ⟨src, hs, q2⟩ := (show Aft (Res.of (srcOf x st1) st1) (WantI X ρ H R) (WantX T X W ρ H σ) from q).of
    cases x with
    | str l =>
      cases hs
      refine wI_of (pi_str pe_w) ?_
      refine ha ρ st H σ ev _ ok re ?_
      rw [hm]
      intro ρ1 H1 vx g1 ok1 r1
      exact ⟨_, r1.1.cases_str, q2 ρ1 H1 _ g1 ok1 (yields_str l)⟩
    | tup xs =>
      cases hs
      refine wI_of (pi_tup pe_w) ?_
      refine ha ρ st H σ ev _ ok re ?_
      rw [hm]
      intro ρ1 H1 vx g1 ok1 r1
      obtain ⟨d, vs, rfl, h2, h3⟩ := r1.1.cases_tup
      exact ⟨d, rfl, ⟨vs, h2⟩, q2 ρ1 H1 _ g1 ok1 (yields_tup h2 h3)⟩
    | tl xs =>
      cases hs
      refine wI_of (pi_list pe_w) ?_
      refine ha ρ st H σ ev _ ok re ?_
      rw [hm]
      intro ρ1 H1 vx g1 ok1 r1
      obtain ⟨d, vs, rfl, h2, h3, h4⟩ := r1.1
      exact ⟨d, rfl, ⟨vs, SqL.of h2⟩, q2 ρ1 H1 _ g1 ok1 (yields_list (fun ρ' H' g => SqL.of (g.outs d _ h2 h3).1) h4)⟩
    | fl xs =>
      cases hs
      refine wI_of (pi_list pe_w) ?_
      refine ha ρ st H σ ev _ ok re ?_
      rw [hm]
      intro ρ1 H1 vx g1 ok1 r1
      obtain ⟨d, vs, rfl, h2, h3⟩ := r1.1.cases_fl
      exact ⟨d, rfl, ⟨vs, h2.sq⟩, q2 ρ1 H1 _ g1 ok1 (yields_list (fun ρ' H' g => (g.frzs d _ h2).sq) h3)⟩
    | loc n =>
      dsimp only [srcOf] at hs
      split at hs
      · rename_i ys e
        cases hs
        refine wI_of (pi_list pe_w) ?_
        refine ha ρ st H σ ev _ ok re ?_
        rw [hm]
        intro ρ1 H1 vx g1 ok1 r1
        obtain ⟨d, rfl, h2⟩ := r1.1.cases_loc
        obtain ⟨vs, h3, h4⟩ := ok1.cell _ d _ h2 e
        exact ⟨d, rfl, ⟨vs, SqL.of h3⟩, q2 ρ1 H1 _ g1 ok1 ⟨d, h2, rfl⟩⟩
      · cases hs
    | non => cases hs
    | bl k => cases hs
    | int i => cases hs
theorem simI_rng1 {tg : Expr} {p : Pos} (hg : Gl X "range") (hm : X.mg "range" = none) (hs : starEach [a] X.env = (false, eval a X.env) :: starEach [] X.env) (ha : SimE T X W a ma) :
    SimI T X W tg (.Call (.Name "range" p) [a] [] pos) (fun ev st => (ma ev st).bind fun v st1 => Res.of (rng1Of v) st1) := fun ρ st H σ ev R ok re q => by
  refine wI_of (pi_range1 hg hm (pa_cons pe_w pa_nil hs) hs) ?_
  refine ha ρ st H σ ev _ ok re ((Aft.bind q).imp (fun x st1 q1 ρ1 H1 vx g1 ok1 r1 => ?_) fun _ _ _ z => z)
  obtain ⟨src, h1, q2⟩ := q1.of
  unfold rng1Of at h1
  split at h1
  · rename_i j
    split at h1
    · rename_i hj
      cases h1
      rw [r1.1.cases_int]
      have e62 : R62 = 2 ^ 62 := by decide
      exact ⟨j, rfl, by omega, by omega, q2 ρ1 H1 _ g1 ok1 rfl⟩
    · cases h1
  · cases h1
theorem simI_rng2 {tg : Expr} {p : Pos} (hg : Gl X "range") (hm : X.mg "range" = none) (hs : starEach [a, b] X.env = (false, eval a X.env) :: starEach [b] X.env) (hs2 : starEach [b] X.env = (false, eval b X.env) :: starEach [] X.env) (ha : SimE T X W a ma) (hb : SimE T X W b mb) :
    SimI T X W tg (.Call (.Name "range" p) [a, b] [] pos) (fun ev st => (ma ev st).bind fun v st1 => (mb ev st1).bind fun w st2 => Res.of (rng2Of v w) st2) := fun ρ st H σ ev R ok re q => by
  refine wI_of (pi_range2 hg hm (pa_cons pe_w (pa_cons pe_w pa_nil hs2) hs) (by rw [hs, hs2]; rfl) hs2) ?_
  refine ha ρ st H σ ev _ ok re ((Aft.bind q).imp (fun x st1 q1 ρ1 H1 vx g1 ok1 r1 => ?_) fun _ _ _ z => z)
  refine hb ρ1 st1 H1 σ ev _ ok1 (re.mono g1) ((Aft.bind q1).imp (fun y st2 q2 ρ2 H2 vy g2 ok2 r2 => ?_) fun _ _ _ => WantX.from g1)
  obtain ⟨src, h1, q3⟩ := q2.of
  unfold rng2Of at h1
  split at h1
  · rename_i i j
    split at h1
    · rename_i hj
      cases h1
      rw [(r1.mono g2).1.cases_int, r2.1.cases_int]
      have e62 : R62 = 2 ^ 62 := by decide
      exact ⟨i, j, rfl, ⟨by omega, by omega, by omega, by omega⟩, q3 ρ2 H2 _ (g1.trans g2) ok2 rfl⟩
    · cases h1
  · cases h1

/-! ### targets: plain names, or a tuple of plain names -/
def wG (X : Cx) (tg : Expr) : TG := fun v σ H Q => ∀ pins s u, Inv X pins σ H s → RelV v u → wpAny (model X.prog X.w) X.A (assign tg X.env u) (fun _ s' => ∃ σ' H', Inv X pins σ' H' s' ∧ Q σ' H') X.xe s
theorem pg_w {tg : Expr} : PG X tg (wG X tg) := ⟨fun pins s σ H v u Q I r h => h pins s u I r⟩
theorem wG_of {tg : Expr} {t : TG} (h : PG X tg t) {v : V} {σ : L2.St} {H : Hp} {Q : L2.St → Hp → Prop} (q : t v σ H Q) : wG X tg v σ H Q := fun pins s u I r => h.run pins s σ H v u Q I r q
/-- own: the slots, in the order of the names -/
inductive Tgt (X : Cx) : Expr → List Nat → Prop
  | name {i : Nat} {x : Str} {pos : Pos} : X.N[i]? = some x → Loc X.env.scope x → (X.fn x = true ∨ X.env.scope.names.lookup x = some .local) → Tgt X (.Name x pos) [i]
inductive TgtL (X : Cx) : List Expr → List Nat → Prop
  | nil : TgtL X [] []
  | cons {e : Expr} {es : List Expr} {i : Nat} {is : List Nat} : Tgt X e [i] → TgtL X es is → TgtL X (e :: es) (i :: is)
def setAll : List Nat → List V → L2.St → L2.St
  | i :: is, v :: vs, σ => setAll is vs (σ.set i (some v))
  | _, _, σ => σ
theorem gs_ok (hN : X.N.Nodup) {ρ : List Addr} {H : Hp} : ∀ {es : List Expr} {is : List Nat}, TgtL X es is → ∃ t, PGs X es t ∧ (assignEach es X.env).length = is.length ∧ (assignEach es X.env).findIdx? (·.1) = none ∧
    ∀ (xs : List PV) (vs : List V) (ev ev2 : Env) (σ : L2.St) (Q : L2.St → Hp → Prop), RepL X.K ρ H xs vs → RepE X.K ρ H ev σ → unpackE is xs ev = some ev2 → (RepE X.K ρ H ev2 (setAll is vs σ) → Q (setAll is vs σ) H) → t vs σ H Q
  | _, _, .nil => ⟨_, pgs_nil, rfl, rfl, fun xs vs ev ev2 σ Q r re h q => by
    cases r with
    | nil => cases h; exact ⟨rfl, q re⟩
    | cons _ _ => cases h⟩
  | _, _, .cons (.name (i := i) h1 h2 h3) t => by
    obtain ⟨u, hu, hl, hf, hq⟩ := gs_ok hN t
    refine ⟨_, pgs_cons (pg_name hN h1 h2 h3) hu rfl, ?_, ?_, fun xs vs ev ev2 σ Q r re h q => ?_⟩
    · show (assignEach _ X.env).length + 1 = _
      rw [hl]
      rfl
    · show List.findIdx? (·.1) ((false, _) :: assignEach _ X.env) = none
      rw [List.findIdx?_cons, hf]
      rfl
    · cases r with
      | nil => cases h
      | cons rx rt => exact ⟨_, _, rfl, hq _ _ _ ev2 _ Q rt (re.set rx i) h q⟩
theorem unpack_len : ∀ {is : List Nat} {xs : List PV} {ev ev2 : Env}, unpackE is xs ev = some ev2 → is.length = xs.length
  | [], [], _, _, _ => rfl
  | [], _ :: _, _, _, h => by cases h
  | _ :: _, [], _, _, h => by cases h
  | i :: is, x :: xs, ev, ev2, h => by
    have q := unpack_len (is := is) (xs := xs) h
    simp [q]
/-- a target of a for or of a comprehension: a name, or a tuple of names -/
inductive TgtF (X : Cx) : Expr → List Nat → Prop
  | one {e : Expr} {i : Nat} : Tgt X e [i] → TgtF X e [i]
  | many {es : List Expr} {k : Nat} {pos : Pos} {is : List Nat} : TgtL X es is → is.length ≠ 1 → TgtF X (.Tuple es k pos) is
def slotsV (is : List Nat) (v : V) (vs : List V) : List V := match is with
  | [_] => [v]
  | _ => vs
theorem tgt_ok (hc : X.calm = true) (hN : X.N.Nodup) {tg : Expr} {is : List Nat} (h : TgtF X tg is) {ρ : List Addr} {H : Hp} {x : PV} {v : V} {ev ev2 : Env} {σ : L2.St} {Q : L2.St → Hp → Prop}
    (rx : Rep X.K ρ H x v) (re : RepE X.K ρ H ev σ) (hb : bindOwn is x ev = some ev2) (q : ∀ ws, RepE X.K ρ H ev2 (setAll is ws σ) → Q (setAll is ws σ) H) : wG X tg v σ H Q := by
  cases h with
  | one h =>
    cases h with
    | name h1 h2 h3 =>
      cases hb
      exact wG_of (pg_name hN h1 h2 h3) (q [v] (re.set rx _))
  | many h hn =>
    have hb' : bindTup is x ev = some ev2 := by
      unfold bindOwn at hb
      split at hb
      · exact absurd rfl hn
      · exact hb
    cases x with
    | tup xs =>
      obtain ⟨d, vs, rfl, h2, h3⟩ := rx.x.cases_tup
      obtain ⟨t, ht, hl, hf, hq⟩ := gs_ok (ρ := ρ) (H := H) hN h
      exact wG_of (pg_tup hc ht rfl hf) ⟨d, vs, rfl, h2, by rw [hl, unpack_len hb', h3.length], hq xs vs ev ev2 σ Q h3 re hb' (q vs)⟩
    | _ => cases hb'
theorem wipe_get (σ : L2.St) : ∀ (own : List Nat) (j : Nat), (wipe σ own)[j]? = if j ∈ own then (σ[j]?).map (fun _ => none) else σ[j]?
  | [], j => by simp [wipe]
  | v :: vs, j => by
    unfold wipe
    rw [List.getElem?_set]
    have ih := wipe_get σ vs
    by_cases h : v = j
    · subst h
      rw [if_pos rfl, wipe_length, if_pos (show v ∈ v :: vs from List.mem_cons_self)]
      by_cases hl : v < σ.length
      · rw [if_pos hl, List.getElem?_eq_getElem hl]
        rfl
      · rw [if_neg hl, List.getElem?_eq_none (by omega)]
        rfl
    · rw [if_neg h, ih j]
      have hj : j ≠ v := fun z => h z.symm
      simp [hj]
theorem wipe_ext {σ τ : L2.St} {own : List Nat} (h : ∀ j, j ∉ own → σ[j]? = τ[j]?) (hl : σ.length = τ.length) : wipe σ own = wipe τ own := by
  apply List.ext_getElem?
  intro j
  rw [wipe_get, wipe_get]
  by_cases c : j ∈ own
  · rw [if_pos c, if_pos c]
    by_cases hj : j < σ.length
    · rw [List.getElem?_eq_getElem hj, List.getElem?_eq_getElem (by omega)]
      rfl
    · rw [List.getElem?_eq_none (by omega), List.getElem?_eq_none (by omega)]
  · rw [if_neg c, if_neg c]
    exact h j c
theorem setAll_length : ∀ (is : List Nat) (vs : List V) (σ : L2.St), (setAll is vs σ).length = σ.length
  | [], _, _ => rfl
  | _ :: _, [], _ => rfl
  | i :: is, v :: vs, σ => by
    show (setAll is vs (σ.set i (some v))).length = _
    rw [setAll_length, List.length_set]
theorem setAll_get : ∀ (is : List Nat) (vs : List V) (σ : L2.St) (j : Nat), j ∉ is → (setAll is vs σ)[j]? = σ[j]?
  | [], _, _, _, _ => rfl
  | _ :: _, [], _, _, _ => rfl
  | i :: is, v :: vs, σ, j, h => by
    show (setAll is vs (σ.set i (some v)))[j]? = _
    rw [setAll_get is vs _ j fun z => h (List.mem_cons_of_mem _ z), List.getElem?_set_ne fun z => h (by rw [z]; exact List.mem_cons_self)]
theorem wipe_setAll (own : List Nat) (vs : List V) (σ : L2.St) : wipe (setAll own vs (wipe σ own)) own = wipe σ own := by
  refine wipe_ext (fun j hj => ?_) (by rw [setAll_length, wipe_length])
  rw [setAll_get own vs _ j hj, wipe_get, if_neg hj]

/-! ### comprehensions -/
abbrev W0 : WX := fun _ _ _ _ => False
/-- the block's own context, whatever it is -/
abbrev Blk (X : Cx) (scope : Scope) (P : Cx → Prop) : Prop := ∀ (s : Shared) (H : Hp) (C : Addr) (cl : List (Str × Addr)) (fp : List Addr), P (X.blk s H scope (compEnvC scope cl C X.env) fp)
/-- the turns: R is what is left to do from turn i on, μ falls -/
theorem comp_loop {ρ1 : List Addr} {H1 : Hp} {st1 : Store} {J : It} {D : Addr} {g : TG} {tt : TT} {te : TE} {σ : L2.St} {vs : List Nat} {Q : V → Hp → Prop} {P : List PV → Store → Prop} {E : Nat → List (Nat × PV) → Store → Prop}
    {f : PV → Store → Res (Option PV)} (R : Nat → List PV → Store → Res (List PV)) (μ : Nat → Nat) (ok1 : OkS X.K ρ1 st1 H1) (hD : H1 D = none)
    (unf : ∀ i acc st ρ H, Grow X.K ρ1 H1 ρ H → OkS X.K ρ st H → Aft (R i acc st) P E → (J.stop i H ∧ P acc st) ∨ (J.go i H ∧ μ (i + 1) < μ i ∧ ∀ v H', J.yld i H v H' → H' = H ∧ ∃ x, Rep X.K ρ H x v ∧
      Aft (f x st) (fun r st2 => match r with
        | some y => acc.length < SZ ∧ Aft (R (i + 1) (acc ++ [y]) st2) P E
        | none => Aft (R (i + 1) acc st2) P E) E))
    (turn : ∀ x v st ρ H (Nx : Hp → Prop) (acc : List V), Grow X.K ρ1 H1 ρ H → OkS X.K ρ st H → Rep X.K ρ H x v → H D = some (.lst acc) → D ∉ ρ →
      Aft (f x st) (fun r st2 => match r with
        | some y => acc.length < sizeLine ∧ ∀ ρ' H' w, Grow X.K ρ H ρ' H' → OkS X.K ρ' st2 H' → Rep X.K ρ' H' y w → Nx (upd H' D (.lst (acc ++ [w])))
        | none => ∀ ρ' H', Grow X.K ρ H ρ' H' → OkS X.K ρ' st2 H' → Nx H') (fun _ _ _ => False) →
      g v (wipe σ vs) H fun σ2 H2 => wipe σ2 vs = wipe σ vs ∧ tt σ2 H2 fun b H3 => if b = true then te σ2 H3 fun y H4 => ∃ acc, H4 D = some (.lst acc) ∧ acc.length < sizeLine ∧ Nx (upd H4 D (.lst (acc ++ [y]))) else Nx H3)
    (hE : ∀ c fs st, ¬ E c fs st)
    (fin : ∀ acc accV st ρ H, Grow X.K ρ1 H1 ρ H → OkS X.K ρ st H → H D = some (.lst accV) → D ∉ ρ → RepL X.K ρ H acc accV → P acc st → Q (.ref D) H)
    (start : Aft (R 0 [] st1) P E) :
    ∃ W : Nat → Nat → Hp → Prop, (∃ m, W 0 m (upd H1 D (.lst []))) ∧ ∀ i m H, W i m H →
      (J.stop i H ∧ Q (.ref D) H) ∨ (J.go i H ∧ ∃ Nx : Hp → Prop, (∀ H', Nx H' → ∃ m', m' < m ∧ W (i + 1) m' H') ∧ ∀ x H', J.yld i H x H' → g x (wipe σ vs) H' fun σ2 H2 => wipe σ2 vs = wipe σ vs ∧ tt σ2 H2 fun b H3 =>
        if b = true then te σ2 H3 fun y H4 => ∃ acc, H4 D = some (.lst acc) ∧ acc.length < sizeLine ∧ Nx (upd H4 D (.lst (acc ++ [y]))) else Nx H3) := by
  refine ⟨fun i m H => m = μ i ∧ ∃ ρ st acc accV, Grow X.K ρ1 H1 ρ H ∧ OkS X.K ρ st H ∧ H D = some (.lst accV) ∧ D ∉ ρ ∧ RepL X.K ρ H acc accV ∧ Aft (R i acc st) P E,
    ⟨μ 0, rfl, ρ1, st1, [], [], Grow.new ok1 hD, ok1.new hD, upd_same, ok1.notfree hD, .nil, start⟩, ?_⟩
  rintro i m H ⟨rfl, ρ, st, acc, accV, gr, ok, hl, hn, r, a⟩
  rcases unf i acc st ρ H gr ok a with ⟨h1, h2⟩ | ⟨h1, h2, h3⟩
  · exact .inl ⟨h1, fin acc accV st ρ H gr ok hl hn r h2⟩
  · refine .inr ⟨h1, fun H' => ∃ ρ st acc accV, Grow X.K ρ1 H1 ρ H' ∧ OkS X.K ρ st H' ∧ H' D = some (.lst accV) ∧ D ∉ ρ ∧ RepL X.K ρ H' acc accV ∧ Aft (R (i + 1) acc st) P E, fun H' hN => ⟨μ (i + 1), h2, rfl, hN⟩, fun v H' y => ?_⟩
    obtain ⟨rfl, x, rx, ax⟩ := h3 v H' y
    refine turn x v st ρ H' _ accV gr ok rx hl hn (ax.imp (fun o st2 q => ?_) fun c fs st2 z => hE c fs st2 z)
    cases o with
    | some y =>
      refine ⟨by rw [← r.length]; exact SZ_lt q.1, fun ρ' H2 w g' ok' rw' => ?_⟩
      obtain ⟨hl', hn'⟩ := g'.outs D _ hl hn
      have kp := Kp.off (K := X.K) (ρ := ρ') (o := HO.lst (accV ++ [w])) hl'
      exact ⟨ρ', st2, acc ++ [y], accV ++ [w], (gr.trans g').off hD hl', ok'.off hl' hn', upd_same, hn', ((r.mono g').snoc rw').kp kp, q.2⟩
    | none =>
      intro ρ' H2 g' ok'
      obtain ⟨hl', hn'⟩ := g'.outs D _ hl hn
      exact ⟨ρ', st2, acc, accV, gr.trans g', ok', hl', hn', r.mono g', q⟩
end
end Vm

set_option maxHeartbeats 4000000
/-! Vm7: list comprehensions. -/
namespace Vm
open PySem L2
variable [ClsMap]

section
variable {T : Tb} {X : Cx} {W : WX} {e a b c : Expr} {es : List Expr} {m ma mb mc me : Env → Store → Res PV} {pos : Pos}

theorem aft_noExc {α : Type} {r : Res α} {P : α → Store → Prop} {E : Nat → List (Nat × PV) → Store → Prop} (h : Aft (noExc r) P E) : Aft r P (fun _ _ _ => False) := by
  cases r with
  | ok a st => exact h
  | exc c fs st => exact h.elim
  | bad => exact h
theorem itemM_noexc {is : List Nat} {ev : Env} {x : PV} {st : Store} : ∀ c fs st2, itemM is ev mc me x st ≠ .exc c fs st2 := by
  intro c fs st2 h
  unfold itemM at h
  split at h
  · cases h
  · generalize ((truth (mc _ st)).bind _) = r at h
    cases r <;> cases h
inductive Conds (T : Tb) (X : Cx) (scope : Scope) : List Expr → (Env → Store → Res PV) → Prop
  | nil : Conds T X scope [] (fun _ st => .ok (.bl true) st)
  | one {c : Expr} {mc : Env → Store → Res PV} : (Blk X scope fun X' => SimT T X' W0 c (fun ev st => truth (mc ev st))) → Conds T X scope [c] mc
/-- the uniform weakest readings over a block -/
def bT (X : Cx) (scope : Scope) (ifs : List Expr) : TT := match ifs with
  | [c] => fun σ H Q => Blk X scope fun X' => wT X' c σ H Q
  | _ => tYes
def bE (X : Cx) (scope : Scope) (e : Expr) : TE := fun σ H Q => Blk X scope fun X' => wE X' e σ H Q
def bG (X : Cx) (scope : Scope) (tg : Expr) : TG := fun v σ H Q => Blk X scope fun X' => wG X' tg v σ H Q
theorem lc_turn (hc : X.calm = true) (hN : X.N.Nodup) {scope : Scope} {tg elt : Expr} {ifs : List Expr} {is : List Nat} (htg : Blk X scope fun X' => TgtF X' tg is) (hif : Conds T X scope ifs mc) (he : Blk X scope fun X' => SimE T X' W0 elt me)
    {ev : Env} {σ : L2.St} {ρ1 : List Addr} {H1 : Hp} (re : RepE X.K ρ1 H1 ev σ) {D : Addr}
    (x : PV) (v : V) (st : Store) (ρ : List Addr) (H : Hp) (Nx : Hp → Prop) (acc : List V) (g1 : Grow X.K ρ1 H1 ρ H) (ok : OkS X.K ρ st H) (rx : Rep X.K ρ H x v) (hD : H D = some (.lst acc)) (hn : D ∉ ρ)
    (q : Aft (itemM is ev mc me x st) (fun r st2 => match r with
        | some y => acc.length < sizeLine ∧ ∀ ρ' H' w, Grow X.K ρ H ρ' H' → OkS X.K ρ' st2 H' → Rep X.K ρ' H' y w → Nx (upd H' D (.lst (acc ++ [w])))
        | none => ∀ ρ' H', Grow X.K ρ H ρ' H' → OkS X.K ρ' st2 H' → Nx H') (fun _ _ _ => False)) :
    bG X scope tg v (wipe σ is) H fun σ2 H2 => wipe σ2 is = wipe σ is ∧ bT X scope ifs σ2 H2 fun b H3 => if b = true then bE X scope elt σ2 H3 fun y H4 => ∃ acc, H4 D = some (.lst acc) ∧ acc.length < sizeLine ∧ Nx (upd H4 D (.lst (acc ++ [y]))) else Nx H3 := by
  unfold itemM at q
  cases hb : bindOwn is x (wipeE ev is) with
  | none => rw [hb] at q; exact q.elim
  | some ev2 =>
    rw [hb] at q
    have q := aft_noExc q
    intro s H0 C cl fp
    refine tgt_ok (X := X.blk s H0 scope (compEnvC scope cl C X.env) fp) hc hN (htg s H0 C cl fp) rx ((re.mono g1).wipe is) hb fun ws re2 => ⟨wipe_setAll is ws σ, ?_⟩
    -- behind the test
    have elem : ∀ ρ2 st2 H2, Grow X.K ρ H ρ2 H2 → OkS X.K ρ2 st2 H2 → Aft ((fixR (me ev2 st2)).bind fun y st4 => .ok (some y) st4) (fun (r : Option PV) st2 => match r with
        | some y => acc.length < sizeLine ∧ ∀ ρ' H' w, Grow X.K ρ H ρ' H' → OkS X.K ρ' st2 H' → Rep X.K ρ' H' y w → Nx (upd H' D (.lst (acc ++ [w])))
        | none => ∀ ρ' H', Grow X.K ρ H ρ' H' → OkS X.K ρ' st2 H' → Nx H') (fun _ _ _ => False) →
        bE X scope elt (setAll is ws (wipe σ is)) H2 fun y H4 => ∃ acc, H4 D = some (.lst acc) ∧ acc.length < sizeLine ∧ Nx (upd H4 D (.lst (acc ++ [y]))) := fun ρ2 st2 H2 g2 ok2 q2 => by
      intro s2 H02 C2 cl2 fp2
      refine he s2 H02 C2 cl2 fp2 ρ2 st2 H2 _ ev2 _ ok2 (RepE.mono g2 re2) ((aft_fixB (X := X) (ρ := ρ2) (H := H2) q2 fun y st4 q3 ρ4 H4 w g4 ok4 r4 => ?_).imp (fun _ _ z => z) fun _ _ _ z => z.elim)
      have q3 : acc.length < sizeLine ∧ ∀ ρ' H' w, Grow X.K ρ H ρ' H' → OkS X.K ρ' st4 H' → Rep X.K ρ' H' y w → Nx (upd H' D (.lst (acc ++ [w]))) := q3
      exact ⟨acc, ((g2.trans g4).outs D _ hD hn).1, q3.1, q3.2 ρ4 H4 w (g2.trans g4) ok4 r4⟩
    cases hif with
    | nil =>
      exact iteT (B := Nx H) (elem ρ st H .refl ok q)
    | one ht =>
      intro s2 H02 C2 cl2 fp2
      refine ht s2 H02 C2 cl2 fp2 ρ st H _ ev2 _ ok re2 ((Aft.bind q).imp (fun k st2 q2 ρ2 H2 g2 ok2 => ?_) fun _ _ _ z => z.elim)
      cases k with
      | true =>
        rw [if_pos rfl]
        exact elem ρ2 st2 H2 g2 ok2 q2
      | false =>
        rw [if_neg Bool.false_ne_true]
        exact q2 ρ2 H2 g2 ok2
theorem aft_itemB {f : PV → Store → Res (Option PV)} {x : PV} {st : Store} {acc : List PV} {G : List PV → Store → Res (List PV)} {P : List PV → Store → Prop} {E : Nat → List (Nat × PV) → Store → Prop}
    (h : Aft ((f x st).bind fun r st1 => match r with
      | some y => guardR (decide (acc.length < SZ)) (G (acc ++ [y]) st1)
      | none => G acc st1) P E) : Aft (f x st) (fun r st2 => match r with
        | some y => acc.length < SZ ∧ Aft (G (acc ++ [y]) st2) P E
        | none => Aft (G acc st2) P E) E :=
  (Aft.bind h).imp (fun r st2 q => by
    cases r with
    | some y =>
      obtain ⟨h1, h2⟩ := Aft.guard q
      exact ⟨of_decide_eq_true h1, h2⟩
    | none => exact q) fun _ _ _ z => z
theorem lc_noexc {f : PV → Store → Res (Option PV)} (hf : ∀ x st c fs st2, f x st ≠ .exc c fs st2) : ∀ xs acc st c fs st2, lcGo f xs acc st ≠ .exc c fs st2
  | [], _, _, _, _, _, h => by cases h
  | x :: xs, acc, st, c, fs, st2, h => by
    unfold lcGo at h
    cases hx : f x st with
    | exc c fs st => exact hf _ _ _ _ _ hx
    | bad => rw [hx] at h; cases h
    | ok r st1 =>
      rw [hx] at h
      cases r with
      | some y =>
        dsimp only [Res.bind, guardR] at h
        split at h
        · exact lc_noexc hf xs _ _ _ _ _ h
        · cases h
      | none => exact lc_noexc hf xs _ _ _ _ _ h
theorem lcL_noexc {f : PV → Store → Res (Option PV)} (hf : ∀ x st c fs st2, f x st ≠ .exc c fs st2) (n : Nat) : ∀ fu i acc st c fs st2, lcLive f n fu i acc st ≠ .exc c fs st2
  | 0, _, _, _, _, _, _, h => by cases h
  | fu + 1, i, acc, st, c, fs, st2, h => by
    unfold lcLive at h
    split at h
    · split at h
      · cases h
      · rename_i x _
        cases hx : f x st with
        | exc c fs st => exact hf _ _ _ _ _ hx
        | bad => rw [hx] at h; cases h
        | ok r st1 =>
          rw [hx] at h
          cases r with
          | some y =>
            dsimp only [Res.bind, guardR] at h
            split at h
            · exact lcL_noexc hf n fu _ _ _ _ _ _ h
            · cases h
          | none => exact lcL_noexc hf n fu _ _ _ _ _ _ h
    · cases h
theorem lcR_noexc {f : PV → Store → Res (Option PV)} (hf : ∀ x st c fs st2, f x st ≠ .exc c fs st2) : ∀ n i acc st c fs st2, lcRng f n i acc st ≠ .exc c fs st2
  | 0, _, _, _, _, _, _, h => by cases h
  | n + 1, i, acc, st, c, fs, st2, h => by
    unfold lcRng at h
    cases hx : f (.int i) st with
    | exc c fs st => exact hf _ _ _ _ _ hx
    | bad => rw [hx] at h; cases h
    | ok r st1 =>
      rw [hx] at h
      cases r with
      | some y =>
        dsimp only [Res.bind, guardR] at h
        split at h
        · exact lcR_noexc hf n _ _ _ _ _ _ h
        · cases h
      | none => exact lcR_noexc hf n _ _ _ _ _ _ h
theorem lcS_noexc {f : PV → Store → Res (Option PV)} (hf : ∀ x st c fs st2, f x st ≠ .exc c fs st2) (N : Nat) (s : Src) (st : Store) : ∀ c fs st2, lcSrc N f s st ≠ .exc c fs st2 := fun c fs st2 h => by
  cases s with
  | vals xs => exact lc_noexc hf _ _ _ _ _ _ h
  | live n => exact lcL_noexc hf n _ _ _ _ _ _ _ h
  | rng lo n => exact lcR_noexc hf _ _ _ _ _ _ _ h
theorem aft_noE {α : Type} {r : Res α} (h : ∀ c fs st2, r ≠ .exc c fs st2) {P : α → Store → Prop} {E E' : Nat → List (Nat × PV) → Store → Prop} (a : Aft r P E) : Aft r P E' := by
  cases r with
  | ok x st => exact a
  | exc c fs st => exact absurd rfl (h c fs st)
  | bad => exact a
theorem lc_core' (N : Nat) {tg iter elt : Expr} {ifs : List Expr} {scope : Scope} {is : List Nat} {mi : Env → Store → Res Src} (hc : X.calm = true) (hN : X.N.Nodup) (hi : SimI T X W tg iter mi)
    (htg : Blk X scope fun X' => TgtF X' tg is) (hif : Conds T X scope ifs mc) (he : Blk X scope fun X' => SimE T X' W0 elt me) {ρ : List Addr} {st : Store} {H : Hp} {σ : L2.St} {ev : Env} {Q : VK} (ok : OkS X.K ρ st H) (re : RepE X.K ρ H ev σ)
    (q : Aft (lcM N is mi mc me ev st) (WantV X ρ H Q) (WantX T X W ρ H σ)) : tLc (wI X tg iter) (bG X scope tg) (bT X scope ifs) (bE X scope elt) is σ H Q := by
  refine hi ρ st H σ ev _ ok re ((Aft.bind q).imp (fun s st1 q1 ρ1 H1 J g1 ok1 hJ => ?_) fun _ _ _ z => z)
  intro D hD
  have q2 : Aft (lcSrc N (itemM is ev mc me) s st1) (fun xs st2 => WantV X ρ H Q (.tl xs) st2) (fun _ _ _ => False) := aft_noE (lcS_noexc (fun x st => itemM_noexc) N s st1) (Aft.bind q1)
  have fin : ∀ acc accV st ρ2 H2, Grow X.K ρ1 H1 ρ2 H2 → OkS X.K ρ2 st H2 → H2 D = some (.lst accV) → D ∉ ρ2 → RepL X.K ρ2 H2 acc accV → WantV X ρ H Q (.tl acc) st → Q (.ref D) H2 := fun acc accV st ρ2 H2 g2 ok2 hl hn r w =>
    w ρ2 H2 _ (g1.trans g2) ok2 ⟨⟨D, accV, rfl, hl, hn, r⟩, fun _ _ => ⟨D, rfl, g1.back _ hD⟩⟩
  have turn := fun x v st ρ2 H2 Nx acc g2 ok2 rx hl hn q => lc_turn (T := T) (mc := mc) (me := me) hc hN htg hif he (re.mono g1) (D := D) x v st ρ2 H2 Nx acc g2 ok2 rx hl hn q
  cases s with
  | vals xs =>
    refine comp_loop (P := fun xs st2 => WantV X ρ H Q (.tl xs) st2) (E := fun _ _ _ => False) (fun i acc st => lcGo (itemM is ev mc me) (xs.drop i) acc st) (fun i => xs.length - i) ok1 hD (fun i acc st ρ2 H2 g2 ok2 a => ?_) turn (fun _ _ _ z => z) fin q2
    obtain ⟨y1, y2⟩ := hJ ρ2 H2 g2
    by_cases hi : i < xs.length
    · right
      obtain ⟨h1, h2⟩ := y1 i xs[i] (List.getElem?_eq_getElem hi)
      refine ⟨h1, by omega, fun v H' y => ?_⟩
      obtain ⟨rfl, rx⟩ := h2 v H' y
      refine ⟨rfl, xs[i], rx, ?_⟩
      rw [List.drop_eq_getElem_cons hi] at a
      exact aft_itemB (G := fun acc st => lcGo (itemM is ev mc me) (xs.drop (i + 1)) acc st) a
    · left
      rw [List.drop_eq_nil_of_le (by omega)] at a
      exact ⟨y2 i (by omega), a⟩
  | live n =>
    obtain ⟨d, hd, rfl⟩ := hJ
    refine comp_loop (P := fun xs st2 => WantV X ρ H Q (.tl xs) st2) (E := fun _ _ _ => False) (fun i acc st => lcLive (itemM is ev mc me) n (N - i) i acc st) (fun i => N - i) ok1 hD (fun i acc st ρ2 H2 g2 ok2 a => ?_) turn (fun _ _ _ z => z) fin q2
    cases hf : N - i with
    | zero => rw [hf] at a; exact a.elim
    | succ k =>
      rw [hf] at a
      unfold lcLive at a
      cases hl : lv st (.loc n) with
      | none => rw [hl] at a; exact a.elim
      | some xs =>
        rw [hl] at a
        obtain ⟨d', vs, e, h3, h4⟩ := lw_ok ok2 (x := .loc n) (v := .ref d) (Rep.x (.loc (g2.kp.at_ hd))) hl
        cases e
        dsimp only at a
        cases hx : xs[i]? with
        | none =>
          rw [hx] at a
          left
          refine ⟨⟨vs, SqL.of h3, ?_⟩, a⟩
          rw [← h4.length]
          exact List.getElem?_eq_none_iff.mp hx
        | some x =>
          rw [hx] at a
          right
          obtain ⟨w, h5, h6⟩ := h4.get hx
          refine ⟨⟨vs, w, SqL.of h3, h5⟩, by omega, fun v H' y => ?_⟩
          obtain ⟨rfl, y⟩ := y
          have e2 := y vs (SqL.of h3)
          rw [h5] at e2
          cases e2
          refine ⟨rfl, x, h6, ?_⟩
          have e3 : N - (i + 1) = k := by omega
          rw [e3]
          exact aft_itemB (G := fun acc st => lcLive (itemM is ev mc me) n k (i + 1) acc st) a
  | rng lo n =>
    have eJ : J = Itr lo n := hJ
    subst eJ
    refine comp_loop (P := fun xs st2 => WantV X ρ H Q (.tl xs) st2) (E := fun _ _ _ => False) (fun i acc st => lcRng (itemM is ev mc me) (n - i) (lo + i) acc st) (fun i => n - i) ok1 hD (fun i acc st ρ2 H2 g2 ok2 a => ?_) turn (fun _ _ _ z => z) fin (by
      have e : lo + ((0 : Nat) : Int) = lo := by simp
      show Aft (lcRng (itemM is ev mc me) n (lo + ((0 : Nat) : Int)) [] st1) _ _
      rw [e]
      exact q2)
    cases hf : n - i with
    | zero =>
      rw [hf] at a
      left
      exact ⟨show n ≤ i by omega, a⟩
    | succ k =>
      rw [hf] at a
      right
      refine ⟨show i < n by omega, by omega, fun v H' y => ?_⟩
      obtain ⟨rfl, rfl⟩ := y
      refine ⟨rfl, .int (lo + i), .int _, ?_⟩
      have e3 : n - (i + 1) = k := by omega
      have e4 : lo + ((i + 1 : Nat) : Int) = lo + (i : Int) + 1 := by omega
      rw [e3, e4]
      exact aft_itemB (G := fun acc st => lcRng (itemM is ev mc me) k (lo + (i : Int) + 1) acc st) a
theorem lc_rule {tg iter elt : Expr} {ifs : List Expr} {scope : Scope} {is : List Nat} (hif : Conds T X scope ifs mc) : (∀ (s : Shared) (H : Hp) (C : Addr) (cl : List (Str × Addr)) (fp : List Addr), PG (X.blk s H scope (compEnvC scope cl C X.env) fp) tg (bG X scope tg)) ∧
    (∀ (s : Shared) (H : Hp) (C : Addr) (cl : List (Str × Addr)) (fp : List Addr), PTs (X.blk s H scope (compEnvC scope cl C X.env) fp) ifs (bT X scope ifs)) ∧
    (∀ (s : Shared) (H : Hp) (C : Addr) (cl : List (Str × Addr)) (fp : List Addr), PE (X.blk s H scope (compEnvC scope cl C X.env) fp) elt (bE X scope elt)) :=
  ⟨fun s H C cl fp => ⟨fun pins s' σ H' v u Q I r w => w s H C cl fp pins s' u I r⟩, fun s H C cl fp => by
    cases hif with
    | nil => exact pts_nil
    | one h => exact pts_one ⟨fun pins s' σ H' Q I w => w s H C cl fp pins s' I⟩, fun s H C cl fp => ⟨fun pins s' σ H' Q I w => w s H C cl fp pins s' I⟩⟩
theorem sim_lc (N : Nat) {tg iter elt : Expr} {ifs : List Expr} {scope : Scope} {own : List (Str × Nat)} {is : List Nat} {mi : Env → Store → Res Src} (hc : X.calm = true) (hN : X.N.Nodup) (hi : SimI T X W tg iter mi) (hb : BlkOk X.N X.env.scope scope own) (hown : own.map (·.2) = is)
    (hfs : ∀ x, foldedSetIterable iter X.env x = pure x)
    (htg : Blk X scope fun X' => TgtF X' tg is) (hif : Conds T X scope ifs mc) (he : Blk X scope fun X' => SimE T X' W0 elt me) : SimE T X W (.ListComp elt [⟨tg, iter, ifs, 0⟩] scope pos) (lcM N is mi mc me) := fun ρ st H σ ev Q ok re q => by
  obtain ⟨r1, r2, r3⟩ := lc_rule (T := T) (X := X) (tg := tg) (iter := iter) (elt := elt) (is := is) hif
  refine wE_of (pe_lc hc hN pi_w hb r1 r2 r3 hfs) ?_
  rw [hown]
  exact lc_core' N hc hN hi htg hif he ok re q
end
end Vm

set_option maxHeartbeats 4000000
/-! Vm8: statements. -/
namespace Vm
open PySem L2
variable [ClsMap]

section
variable (T : Tb) (X : Cx) (W : WX)
def WantFl (ρ : List Addr) (H : Hp) (D : Ends) : Flow → Store → Prop := fun fl st' => ∀ ρ' H', Grow X.K ρ H ρ' H' → OkS X.K ρ' st' H' → match fl with
  | .nx ev' => ∀ σ', RepE X.K ρ' H' ev' σ' → D.nx σ' H'
  | .rt v => ∀ w, Rep X.K ρ' H' v w → D.rt w H'
  | .bk ev' => ∀ σ', RepE X.K ρ' H' ev' σ' → D.bk σ' H'
  | .ct ev' => ∀ σ', RepE X.K ρ' H' ev' σ' → D.ct σ' H'
def WantXS (ρ : List Addr) (H : Hp) : Nat → List (Nat × PV) → Store → Prop := fun c fs st' => ∀ ρ' H' d σ', Grow X.K ρ H ρ' H' → OkS X.K ρ' st' H' → RepXd T X.K H ρ' H' fs d → W (.ref (T.cl c)) d σ' H'
def SimS (stm : Stmt) (m : Env → Store → Res Flow) : Prop := ∀ ρ st H σ ev D, OkS X.K ρ st H → RepE X.K ρ H ev σ → Aft (m ev st) (WantFl X ρ H D) (WantXS T X W ρ H) → wS X stm D σ H
def SimSs (sts : List Stmt) (m : Env → Store → Res Flow) : Prop := ∀ ρ st H σ ev D, OkS X.K ρ st H → RepE X.K ρ H ev σ → Aft (m ev st) (WantFl X ρ H D) (WantXS T X W ρ H) → wSs X sts D σ H
end
section
variable {T : Tb} {X : Cx} {W : WX} {e a b c o i : Expr} {es : List Expr} {m ma mb mc me : Env → Store → Res PV} {pos : Pos} {s : Stmt} {ss sa sb : List Stmt} {n na nb : Env → Store → Res Flow}
theorem WantXS.x {ρ : List Addr} {H : Hp} {σ : L2.St} {c : Nat} {fs : List (Nat × PV)} {st : Store} (h : WantXS T X W ρ H c fs st) : WantX T X W ρ H σ c fs st := fun ρ' H' d g ok r => h ρ' H' d σ g ok r
theorem WantXS.from {ρ ρ1 : List Addr} {H H1 : Hp} {c : Nat} {fs : List (Nat × PV)} {st : Store} (g : Grow X.K ρ H ρ1 H1) (h : WantXS T X W ρ H c fs st) : WantXS T X W ρ1 H1 c fs st := fun ρ' H' d σ g' ok r =>
  h ρ' H' d σ (g.trans g') ok (by
    cases d with
    | none => exact r
    | some d => obtain ⟨gs, h1, h2, h3, h4⟩ := r; exact ⟨gs, h1, h2, h3, g.back _ h4⟩)
theorem WantFl.from {ρ ρ1 : List Addr} {H H1 : Hp} {D : Ends} {fl : Flow} {st : Store} (g : Grow X.K ρ H ρ1 H1) (h : WantFl X ρ H D fl st) : WantFl X ρ1 H1 D fl st := fun ρ' H' g' ok => h ρ' H' (g.trans g') ok
theorem aftF {ρ ρ1 : List Addr} {H H1 : Hp} {D : Ends} {r : Res Flow} (g : Grow X.K ρ H ρ1 H1) (h : Aft r (WantFl X ρ H D) (WantXS T X W ρ H)) : Aft r (WantFl X ρ1 H1 D) (WantXS T X W ρ1 H1) :=
  h.imp (fun _ _ => WantFl.from g) fun _ _ _ => WantXS.from g

theorem ss_nil : SimSs T X W [] (fun ev st => .ok (.nx ev) st) := fun ρ st H σ ev D ok re q => wSs_of pss_nil (q ρ H .refl ok σ re)
def seqM (f g : Env → Store → Res Flow) : Env → Store → Res Flow := fun ev st => (f ev st).bind fun fl st1 => match fl with
  | .nx ev1 => g ev1 st1
  | fl => .ok fl st1
theorem ss_cons (h1 : SimS T X W s na) (h2 : SimSs T X W ss nb) : SimSs T X W (s :: ss) (seqM na nb) := fun ρ st H σ ev D ok re q => by
  refine wSs_of (pss_cons ps_w pss_w) ?_
  refine h1 ρ st H σ ev _ ok re ((Aft.bind q).imp (fun fl st1 q1 ρ1 H1 g1 ok1 => ?_) fun _ _ _ z => z)
  cases fl with
  | nx ev1 => exact fun σ1 re1 => h2 ρ1 st1 H1 σ1 ev1 D ok1 re1 (aftF g1 q1)
  | rt v => exact q1 ρ1 H1 g1 ok1
  | bk ev1 => exact q1 ρ1 H1 g1 ok1
  | ct ev1 => exact q1 ρ1 H1 g1 ok1
theorem s_pass : SimS T X W (.Pass pos) (fun ev st => .ok (.nx ev) st) := fun ρ st H σ ev D ok re q => wS_of ps_pass (q ρ H .refl ok σ re)
theorem s_brk : SimS T X W (.Break pos) (fun ev st => .ok (.bk ev) st) := fun ρ st H σ ev D ok re q => wS_of ps_break (q ρ H .refl ok σ re)
theorem s_cont : SimS T X W (.Continue pos) (fun ev st => .ok (.ct ev) st) := fun ρ st H σ ev D ok re q => wS_of ps_continue (q ρ H .refl ok σ re)
theorem s_retN : SimS T X W (.Return none pos) (fun ev st => .ok (.rt .non) st) := fun ρ st H σ ev D ok re q => wS_of ps_retN (q ρ H .refl ok _ .non)
theorem s_ret (h : SimE T X W e m) : SimS T X W (.Return (some e) pos) (fun ev st => (fixR (m ev st)).bind fun v st1 => .ok (.rt v) st1) := fun ρ st H σ ev D ok re q => by
  refine wS_of (ps_ret pe_w) ?_
  exact h ρ st H σ ev _ ok re ((aft_fixB (X := X) (ρ := ρ) (H := H) q fun v st1 q1 ρ1 H1 w g1 ok1 r1 => q1 ρ1 H1 g1 ok1 w r1).imp (fun _ _ z => z) fun _ _ _ z => z.x)
theorem s_expr (hs : swapsWith e none pos.line X.env = pure false) (h : SimE T X W e m) : SimS T X W (.Expr e pos) (fun ev st => (m ev st).bind fun _ st1 => .ok (.nx ev) st1) := fun ρ st H σ ev D ok re q => by
  refine wS_of (ps_expr pe_w hs) ?_
  exact h ρ st H σ ev _ ok re ((Aft.bind q).imp (fun x st1 q1 ρ1 H1 v g1 ok1 r1 => q1 ρ1 H1 g1 ok1 σ (re.mono g1)) fun _ _ _ z => z.x)
theorem s_if (hc : SimT T X W c (fun ev st => truth (mc ev st))) (ha : SimSs T X W sa na) (hb : SimSs T X W sb nb) : SimS T X W (.If c sa sb pos) (fun ev st => (truth (mc ev st)).bind fun r st1 => if r then na ev st1 else nb ev st1) := fun ρ st H σ ev D ok re q => by
  refine wS_of (ps_if pt_w pss_w pss_w) ?_
  refine hc ρ st H σ ev _ ok re ((Aft.bind q).imp (fun k st1 q1 ρ1 H1 g1 ok1 => ?_) fun _ _ _ z => z.x)
  cases k with
  | true => exact ha ρ1 st1 H1 σ ev D ok1 (re.mono g1) (aftF g1 q1)
  | false => exact hb ρ1 st1 H1 σ ev D ok1 (re.mono g1) (aftF g1 q1)

/-! ### assignments -/
/-- a target takes the value v: what the machine says of it -/
def SimG (T : Tb) (X : Cx) (W : WX) (tg : Expr) (mt : PV → Env → Store → Res Env) : Prop := ∀ ρ st H σ ev v w Q, OkS X.K ρ st H → RepE X.K ρ H ev σ → Rep X.K ρ H v w →
  Aft (mt v ev st) (fun ev2 st2 => ∀ ρ' H' σ', Grow X.K ρ H ρ' H' → OkS X.K ρ' st2 H' → RepE X.K ρ' H' ev2 σ' → Q σ' H') (WantXS T X W ρ H) → wG X tg w σ H Q
theorem g_tgt (hc : X.calm = true) (hN : X.N.Nodup) {tg : Expr} {is : List Nat} (h : TgtF X tg is) : SimG T X W tg (fun v ev st => Res.of (bindOwn is v ev) st) := fun ρ st H σ ev v w Q ok re rv q => by
  obtain ⟨ev2, h1, q1⟩ := q.of
  exact tgt_ok hc hN h rv re h1 fun ws re2 => q1 ρ H _ .refl ok re2
def wSet (X : Cx) : TSet := fun o i v H Q => ∀ pins s σ ov iv u, Inv X pins σ H s → RelV o ov → RelV i iv → RelV v u → wpAny (model X.prog X.w) X.A (setItem ov iv u) (fun _ s' => ∃ H', Inv X pins σ H' s' ∧ Q H') X.xe s
theorem pset_w : PSet X (wSet X) := fun pins s σ H o i v ov iv u Q I ro ri rv h => h pins s σ ov iv u I ro ri rv
theorem wSet_of {t : TSet} (h : PSet X t) {o i v : V} {H : Hp} {Q : Hp → Prop} (q : t o i v H Q) : wSet X o i v H Q := fun pins s σ ov iv u I ro ri rv => h pins s σ H o i v ov iv u Q I ro ri rv q
theorem set_dict (hu : X.A.units + 1 < cLine) : PSet X (fun o i v H Q => ∃ a H', o = .ref a ∧ DPut H a i v H' ∧ Q H') := fun pins s σ H o i v ov iv u Q I ro ri rv ⟨a, H', e, g, q⟩ => by
  subst e
  cases ro
  exact d_setItem hu I g ri rv fun s' I' => ⟨H', I', q⟩
theorem set_core (hu : X.A.units + 1 < cLine) {ρ : List Addr} {st st2 : Store} {H : Hp} {x k v : PV} {vx vk vv : V} {Q : Hp → Prop} (ok : OkS X.K ρ st H) (rx : RepX X.K ρ H x vx) (rk : RepX X.K ρ H k vk) (rv : Rep X.K ρ H v vv) (h : setSub x k v st = some st2)
    (q : ∀ H', Grow X.K ρ H ρ H' → OkS X.K ρ st2 H' → Q H') : wSet X vx vk vv H Q := by
  unfold setSub at h
  split at h
  · rename_i n
    obtain ⟨d, rfl, hd⟩ := rx.cases_loc
    split at h
    · rename_i xs kk e
      obtain ⟨vs, h1, h2⟩ := ok.cell _ d _ hd e
      split at h
      · rename_i j hj
        cases h
        rw [rk.cases_int]
        have gw : Grow X.K ρ H ρ (upd H d (.lst (vs.set j vv))) := Grow.write ok hd
        exact wSet_of set_list ⟨d, vs, kk, j, rfl, rfl, h1, by rw [← h2.length, ← ixOf_eq]; exact hj, q _ gw (ok.write hd ⟨_, upd_same, (h2.set rv j).mono gw⟩)⟩
      · cases h
    · rename_i kvs e
      obtain ⟨qs, h1, h2⟩ := ok.cell _ d _ hd e
      split at h
      · rename_i hk
        cases h
        simp only [Bool.and_eq_true, decide_eq_true_eq] at hk
        obtain ⟨j, hj⟩ := keyOk_some hk.1
        have ek := keyV_rep rk hj
        subst ek
        have gw : Grow X.K ρ H ρ (upd H d (.dK (putK qs j vv))) := Grow.write ok hd
        exact wSet_of (set_dict hu) ⟨d, _, rfl, DPut.k h1 (by rw [← h2.length]; exact SZ_lt hk.2), q _ gw (ok.write hd ⟨_, upd_same, (dput_ok hj rv h2).mono gw⟩)⟩
      · cases h
    · cases h
  · cases h
theorem g_sub (hu : X.A.units + 1 < cLine) (hns : ∀ v, assign (.Subscript o i pos) X.env v = (do
      let ov ← holding [v] (eval o X.env)
      let iv ← holding [v, ov] (eval i X.env)
      standAt pos
      holding [v, ov, iv] (setItem ov iv v)
      release [v, ov, iv] [])) (ha : SimE T X W o ma) (hb : SimE T X W i mb) : SimG T X W (.Subscript o i pos) (fun v ev st => (ma ev st).bind fun x st1 => (mb ev st1).bind fun k st2 => match setSub x k v st2 with
    | some st3 => .ok ev st3
    | none => .bad) := fun ρ st H σ ev v w Q ok re rv q => by
  refine wG_of (pg_sub pe_w pe_w pset_w hns) ?_
  refine ha ρ st H σ ev _ ok re ((Aft.bind q).imp (fun x st1 q1 ρ1 H1 vx g1 ok1 r1 => ?_) fun _ _ _ z => z.x)
  refine hb ρ1 st1 H1 σ ev _ ok1 (re.mono g1) ((Aft.bind q1).imp (fun k st2 q2 ρ2 H2 vk g2 ok2 r2 => ?_) fun _ _ _ z => WantX.from g1 z.x)
  cases h3 : setSub x k v st2 with
  | none => rw [h3] at q2; exact q2.elim
  | some st3 =>
    rw [h3] at q2
    have g12 := g1.trans g2
    exact set_core hu ok2 (r1.mono g2).1 r2.1 (rv.mono g12) h3 fun H' g3 ok3 => q2 ρ2 H' σ (g12.trans g3) ok3 (re.mono (g12.trans g3))
def asgM (m : Env → Store → Res PV) (mt : PV → Env → Store → Res Env) : Env → Store → Res Flow := fun ev st => (fixR (m ev st)).bind fun v st1 => (mt v ev st1).bind fun ev2 st2 => .ok (.nx ev2) st2
theorem aft_asg {mt : PV → Env → Store → Res Env} {tg : Expr} (hg : SimG T X W tg mt) {ρ : List Addr} {st : Store} {H : Hp} {σ : L2.St} {ev : Env} {D : Ends} (re : RepE X.K ρ H ev σ) (q : Aft (asgM m mt ev st) (WantFl X ρ H D) (WantXS T X W ρ H)) :
    Aft (m ev st) (WantV X ρ H fun w H1 => wG X tg w σ H1 D.nx) (WantX T X W ρ H σ) :=
  (aft_fixB (X := X) (ρ := ρ) (H := H) q fun v st1 q1 ρ1 H1 w g1 ok1 r1 =>
    hg ρ1 st1 H1 σ ev v w _ ok1 (re.mono g1) r1 ((Aft.bind q1).imp (fun ev2 st2 q2 ρ2 H2 σ2 g2 ok2 re2 => q2 ρ2 H2 (g1.trans g2) ok2 σ2 re2) fun _ _ _ => WantXS.from g1)).imp (fun _ _ z => z) fun _ _ _ z => z.x
theorem s_asg {tg : Expr} {mt : PV → Env → Store → Res Env} (hs : swapsWithSole [tg] e pos.line X.env = pure false) (hw : swappedStores [tg] e X.env = pure none) (h1 : (assignEach [tg] X.env).map (·.2) = [assign tg X.env])
    (h : SimE T X W e m) (hg : SimG T X W tg mt) : SimS T X W (.Assign [tg] e pos) (asgM m mt) := fun ρ st H σ ev D ok re q => by
  refine wS_of (ps_asg pe_w pg_w hs hw h1) ?_
  exact h ρ st H σ ev _ ok re (aft_asg hg re q)
/-- name = [..] on one line, the name a local -/
theorem s_asgLc (N : Nat) {i : Nat} {y : Str} {py : Pos} {tg iter elt : Expr} {ifs : List Expr} {scope : Scope} {own : List (Str × Nat)} {is : List Nat} {mi : Env → Store → Res Src} {spos : Pos} (hc : X.calm = true) (hN : X.N.Nodup)
    (hy : X.N[i]? = some y) (hyl : X.env.scope.names.lookup y = some .local) (hsw : swapsWith (.ListComp elt [⟨tg, iter, ifs, 0⟩] scope pos) (some (.Name y py)) spos.line X.env = pure true)
    (hi : SimI T X W tg iter mi) (hb : BlkOk X.N X.env.scope scope own) (hown : own.map (·.2) = is) (hfs : ∀ x, foldedSetIterable iter X.env x = pure x)
    (htg : Blk X scope fun X' => TgtF X' tg is) (hif : Conds T X scope ifs mc) (he : Blk X scope fun X' => SimE T X' W0 elt me) :
    SimS T X W (.Assign [.Name y py] (.ListComp elt [⟨tg, iter, ifs, 0⟩] scope pos) spos) (asgM (lcM N is mi mc me) (fun v ev st => .ok (ev.set i (some v)) st)) := fun ρ st H σ ev D ok re q => by
  obtain ⟨r1, r2, r3⟩ := lc_rule (T := T) (X := X) (tg := tg) (iter := iter) (elt := elt) (is := is) hif
  refine wS_of (ps_setLc hc hN hy hyl hsw pi_w hb r1 r2 r3 hfs) ?_
  rw [hown]
  refine lc_core' (W := W) N hc hN hi htg hif he ok re ?_
  refine (aft_fixB (X := X) (ρ := ρ) (H := H) q fun v st1 q1 ρ1 H1 w g1 ok1 rr => ?_).imp (fun _ _ z => z) fun _ _ _ z => z.x
  exact q1 ρ1 H1 g1 ok1 _ ((re.mono g1).set rr i)
theorem s_par {i j : Nat} {x y : Str} {px py pt : Pos} {kt k2 : Nat} {pt2 : Pos} (hc : X.calm = true) (hN : X.N.Nodup) (hi : X.N[i]? = some x) (hj : X.N[j]? = some y) (hij : i ≠ j)
    (hx : X.env.scope.names.lookup x = some .local) (hy : X.env.scope.names.lookup y = some .local) (hs1 : starEach [a, b] X.env = (false, eval a X.env) :: starEach [b] X.env) (hs2 : starEach [b] X.env = (false, eval b X.env) :: starEach [] X.env)
    (hw : swappedStores [.Tuple [.Name x px, .Name y py] kt pt] (.Tuple [a, b] k2 pt2) X.env = pure (some [x, y])) (ha : SimE T X W a ma) (hb : SimE T X W b mb) :
    SimS T X W (.Assign [.Tuple [.Name x px, .Name y py] kt pt] (.Tuple [a, b] k2 pt2) pos) (fun ev st => (fixR (ma ev st)).bind fun v st1 => (fixR (mb ev st1)).bind fun w st2 => .ok (.nx ((ev.set i (some v)).set j (some w))) st2) := fun ρ st H σ ev D ok re q => by
  refine wS_of (ps_par hc hN hi hj hij hx hy (pa_cons pe_w (pa_cons pe_w pa_nil hs2) hs1) hw) ?_
  refine ha ρ st H σ ev _ ok re ((aft_fixB (X := X) (ρ := ρ) (H := H) q fun v st1 q1 ρ1 H1 vv g1 ok1 r1 => ?_).imp (fun _ _ z => z) fun _ _ _ z => z.x)
  refine hb ρ1 st1 H1 σ ev _ ok1 (re.mono g1) ((aft_fixB (X := X) (ρ := ρ1) (H := H1) q1 fun w st2 q2 ρ2 H2 vw g2 ok2 r2 => ?_).imp (fun _ _ z => z) fun _ _ _ z => WantX.from g1 z.x)
  exact ⟨vv, vw, rfl, q2 ρ2 H2 (g1.trans g2) ok2 _ ((((re.mono (g1.trans g2)).set (r1.mono g2) i)).set r2 j)⟩

/-! ### loops -/
theorem s_while (N : Nat) (hp : PassesOwn (model X.prog X.w) X.A X.env X.xe) (hc : SimT T X W c (fun ev st => truth (mc ev st))) (hb : SimSs T X W ss nb) : SimS T X W (.While c ss [] pos) (fun ev st => whl (fun ev st => truth (mc ev st)) nb N ev st) := fun ρ st H σ ev D ok re q => by
  refine wS_of (ps_while hp pt_w pss_w) ?_
  refine ⟨fun m σ' H' => ∃ ρ' st' ev', Grow X.K ρ H ρ' H' ∧ OkS X.K ρ' st' H' ∧ RepE X.K ρ' H' ev' σ' ∧ Aft (whl (fun ev st => truth (mc ev st)) nb m ev' st') (WantFl X ρ H D) (WantXS T X W ρ H), ⟨N, ρ, st, ev, .refl, ok, re, q⟩, ?_⟩
  rintro m σ1 H1 ⟨ρ1, st1, ev1, g1, ok1, re1, q1⟩
  cases m with
  | zero => exact q1.elim
  | succ m =>
    unfold whl at q1
    refine hc ρ1 st1 H1 σ1 ev1 _ ok1 re1 ((Aft.bind q1).imp (fun k st2 q2 ρ2 H2 g2 ok2 => ?_) fun _ _ _ z => WantX.from g1 z.x)
    have g12 := g1.trans g2
    cases k with
    | false =>
      rw [if_neg Bool.false_ne_true] at q2
      refine iteF ?_
      exact q2 ρ2 H2 g12 ok2 σ1 (re1.mono g2)
    | true =>
      rw [if_pos rfl] at q2
      refine iteT (B := D.nx σ1 H2) ?_
      refine ⟨fun σ' H' => ∃ ρ' st' ev', Grow X.K ρ H ρ' H' ∧ OkS X.K ρ' st' H' ∧ RepE X.K ρ' H' ev' σ' ∧ Aft (whl (fun ev st => truth (mc ev st)) nb m ev' st') (WantFl X ρ H D) (WantXS T X W ρ H), fun σ' H' h => ⟨m, Nat.lt_succ_self m, h⟩, ?_⟩
      refine hb ρ2 st2 H2 σ1 ev1 _ ok2 (re1.mono g2) ((Aft.bind q2).imp (fun fl st3 q3 ρ3 H3 g3 ok3 => ?_) fun _ _ _ => WantXS.from g12)
      have g13 := g12.trans g3
      cases fl with
      | nx ev3 => exact fun σ3 re3 => ⟨ρ3, st3, ev3, g13, ok3, re3, q3⟩
      | ct ev3 => exact fun σ3 re3 => ⟨ρ3, st3, ev3, g13, ok3, re3, q3⟩
      | bk ev3 => exact fun σ3 re3 => q3 ρ3 H3 g13 ok3 σ3 re3
      | rt v => exact fun w rw' => q3 ρ3 H3 g13 ok3 w rw'
/-- the turns of a for: R is what is left to do from turn i on -/
theorem for_loop {ρ1 : List Addr} {H1 : Hp} {st1 : Store} {J : It} {tg : Expr} {σ1 : L2.St} {ev1 : Env} {D : Ends} {P : Flow → Store → Prop} {E : Nat → List (Nat × PV) → Store → Prop} {f : PV → Env → Store → Res Flow}
    (R : Nat → Env → Store → Res Flow) (μ : Nat → Nat) (ok1 : OkS X.K ρ1 st1 H1) (re1 : RepE X.K ρ1 H1 ev1 σ1)
    (unf : ∀ i ev st ρ H, Grow X.K ρ1 H1 ρ H → OkS X.K ρ st H → Aft (R i ev st) P E → (J.stop i H ∧ P (.nx ev) st) ∨ (J.go i H ∧ μ (i + 1) < μ i ∧ ∀ v H', J.yld i H v H' → H' = H ∧ ∃ x, Rep X.K ρ H x v ∧
      Aft (f x ev st) (fun fl st2 => match fl with
        | .nx ev2 => Aft (R (i + 1) ev2 st2) P E
        | .ct ev2 => Aft (R (i + 1) ev2 st2) P E
        | .bk ev2 => P (.nx ev2) st2
        | .rt v => P (.rt v) st2) E))
    (turn : ∀ x v ev st ρ H σ (D' : Ends), Grow X.K ρ1 H1 ρ H → OkS X.K ρ st H → RepE X.K ρ H ev σ → Rep X.K ρ H x v → Aft (f x ev st) (WantFl X ρ H D') (fun c fs st => E c fs st) → wG X tg v σ H fun σ2 H2 => wSs X ss D' σ2 H2)
    (fin : ∀ fl st ρ H, Grow X.K ρ1 H1 ρ H → OkS X.K ρ st H → P fl st → match fl with
      | .nx ev => ∀ σ, RepE X.K ρ H ev σ → D.nx σ H
      | .rt v => ∀ w, Rep X.K ρ H v w → D.rt w H
      | _ => True)
    (start : Aft (R 0 ev1 st1) P E) :
    ∃ Wv : Nat → Nat → L2.St → Hp → Prop, (∃ m, Wv 0 m σ1 H1) ∧ ∀ i m σ H, Wv i m σ H →
      (J.stop i H ∧ D.nx σ H) ∨ (J.go i H ∧ ∃ N : L2.St → Hp → Prop, (∀ σ' H', N σ' H' → ∃ m', m' < m ∧ Wv (i + 1) m' σ' H') ∧ ∀ x H', J.yld i H x H' → wG X tg x σ H' fun σ2 H2 => wSs X ss { D with nx := N, ct := N, bk := D.nx } σ2 H2) := by
  refine ⟨fun i m σ H => m = μ i ∧ ∃ ρ st ev, Grow X.K ρ1 H1 ρ H ∧ OkS X.K ρ st H ∧ RepE X.K ρ H ev σ ∧ Aft (R i ev st) P E, ⟨μ 0, rfl, ρ1, st1, ev1, .refl, ok1, re1, start⟩, ?_⟩
  rintro i m σ H ⟨rfl, ρ, st, ev, gr, ok, re, a⟩
  rcases unf i ev st ρ H gr ok a with ⟨h1, h2⟩ | ⟨h1, h2, h3⟩
  · exact .inl ⟨h1, fin (.nx ev) st ρ H gr ok h2 σ re⟩
  · refine .inr ⟨h1, fun σ' H' => ∃ ρ st ev, Grow X.K ρ1 H1 ρ H' ∧ OkS X.K ρ st H' ∧ RepE X.K ρ H' ev σ' ∧ Aft (R (i + 1) ev st) P E, fun σ' H' hN => ⟨μ (i + 1), h2, rfl, hN⟩, fun v H' y => ?_⟩
    obtain ⟨rfl, x, rx, ax⟩ := h3 v H' y
    refine turn x v ev st ρ H' σ _ gr ok re rx (ax.imp (fun fl st2 q ρ2 H2 g2 ok2 => ?_) fun c fs st2 z => z)
    have g12 := gr.trans g2
    cases fl with
    | nx ev2 => exact fun σ2 re2 => ⟨ρ2, st2, ev2, g12, ok2, re2, q⟩
    | ct ev2 => exact fun σ2 re2 => ⟨ρ2, st2, ev2, g12, ok2, re2, q⟩
    | bk ev2 => exact fun σ2 re2 => fin (.nx ev2) st2 ρ2 H2 g12 ok2 q σ2 re2
    | rt w => exact fun w' rw' => fin (.rt w) st2 ρ2 H2 g12 ok2 q w' rw'

theorem aft_forB {f : PV → Env → Store → Res Flow} {x : PV} {ev : Env} {st : Store} {G : Env → Store → Res Flow} {P : Flow → Store → Prop} {E : Nat → List (Nat × PV) → Store → Prop}
    (h : Aft ((f x ev st).bind fun f st2 => match f with
      | .nx ev2 => G ev2 st2
      | .ct ev2 => G ev2 st2
      | .bk ev2 => .ok (.nx ev2) st2
      | .rt v => .ok (.rt v) st2) P E) : Aft (f x ev st) (fun fl st2 => match fl with
        | .nx ev2 => Aft (G ev2 st2) P E
        | .ct ev2 => Aft (G ev2 st2) P E
        | .bk ev2 => P (.nx ev2) st2
        | .rt v => P (.rt v) st2) E :=
  (Aft.bind h).imp (fun fl st2 q => by cases fl <;> exact q) fun _ _ _ z => z
theorem s_for (N : Nat) {tg iter : Expr} {mi : Env → Store → Res Src} {mt : PV → Env → Store → Res Env} (hp : PassesOwn (model X.prog X.w) X.A X.env X.xe) (hc : X.calm = true) (hfs : ∀ x, foldedSetIterable iter X.env x = pure x)
    (hi : SimI T X W tg iter mi) (hg : SimG T X W tg mt) (hb : SimSs T X W ss nb) : SimS T X W (.For tg iter ss [] pos) (forM N mi (turnM mt nb)) := fun ρ st H σ ev D ok re q => by
  refine wS_of (ps_for hp hc pi_w pg_w pss_w hfs) ?_
  refine hi ρ st H σ ev _ ok re ((Aft.bind q).imp (fun s st1 q1 ρ1 H1 J g1 ok1 hJ => ?_) fun _ _ _ z => z.x)
  have re1 := re.mono g1
  have turn : ∀ x v ev st ρ2 H2 σ (D' : Ends), Grow X.K ρ1 H1 ρ2 H2 → OkS X.K ρ2 st H2 → RepE X.K ρ2 H2 ev σ → Rep X.K ρ2 H2 x v → Aft (turnM mt nb x ev st) (WantFl X ρ2 H2 D') (fun c fs st => WantXS T X W ρ H c fs st) → wG X tg v σ H2 fun σ3 H3 => wSs X ss D' σ3 H3 :=
    fun x v ev st ρ2 H2 σ D' g2 ok2 re2 rx a => by
      have g12 := g1.trans g2
      refine hg ρ2 st H2 σ ev x v _ ok2 re2 rx ((Aft.bind a).imp (fun ev3 st3 q3 ρ3 H3 σ3 g3 ok3 re3 => ?_) fun _ _ _ => WantXS.from g12)
      exact hb ρ3 st3 H3 σ3 ev3 D' ok3 re3 (q3.imp (fun _ _ => WantFl.from g3) fun _ _ _ => WantXS.from (g12.trans g3))
  have fin : ∀ fl st ρ2 H2, Grow X.K ρ1 H1 ρ2 H2 → OkS X.K ρ2 st H2 → WantFl X ρ H D fl st → match fl with
      | .nx ev => ∀ σ, RepE X.K ρ2 H2 ev σ → D.nx σ H2
      | .rt v => ∀ w, Rep X.K ρ2 H2 v w → D.rt w H2
      | _ => True := fun fl st ρ2 H2 g2 ok2 w => by
    have w2 := w ρ2 H2 (g1.trans g2) ok2
    cases fl with
    | nx ev => exact w2
    | rt v => exact w2
    | bk ev => trivial
    | ct ev => trivial
  have q2 : Aft (forSrc N (turnM mt nb) s ev st1) (WantFl X ρ H D) (WantXS T X W ρ H) := q1
  cases s with
  | vals xs =>
    refine for_loop (fun i ev st => forGo (turnM mt nb) (xs.drop i) ev st) (fun i => xs.length - i) ok1 re1 (fun i ev st ρ2 H2 g2 ok2 a => ?_) turn fin q2
    obtain ⟨y1, y2⟩ := hJ ρ2 H2 g2
    by_cases hi : i < xs.length
    · right
      obtain ⟨h1, h2⟩ := y1 i xs[i] (List.getElem?_eq_getElem hi)
      refine ⟨h1, by omega, fun v H' y => ?_⟩
      obtain ⟨rfl, rx⟩ := h2 v H' y
      refine ⟨rfl, xs[i], rx, ?_⟩
      rw [List.drop_eq_getElem_cons hi] at a
      exact aft_forB (G := fun ev st => forGo (turnM mt nb) (xs.drop (i + 1)) ev st) a
    · left
      rw [List.drop_eq_nil_of_le (by omega)] at a
      exact ⟨y2 i (by omega), a⟩
  | live n =>
    obtain ⟨d, hd, rfl⟩ := hJ
    refine for_loop (fun i ev st => forLive (turnM mt nb) n (N - i) i ev st) (fun i => N - i) ok1 re1 (fun i ev st ρ2 H2 g2 ok2 a => ?_) turn fin q2
    cases hf : N - i with
    | zero => rw [hf] at a; exact a.elim
    | succ k =>
      rw [hf] at a
      unfold forLive at a
      cases hl : lv st (.loc n) with
      | none => rw [hl] at a; exact a.elim
      | some xs =>
        rw [hl] at a
        obtain ⟨d', vs, e, h3, h4⟩ := lw_ok ok2 (x := .loc n) (v := .ref d) (Rep.x (.loc (g2.kp.at_ hd))) hl
        cases e
        dsimp only at a
        cases hx : xs[i]? with
        | none =>
          rw [hx] at a
          left
          refine ⟨⟨vs, SqL.of h3, ?_⟩, a⟩
          rw [← h4.length]
          exact List.getElem?_eq_none_iff.mp hx
        | some x =>
          rw [hx] at a
          right
          obtain ⟨w, h5, h6⟩ := h4.get hx
          refine ⟨⟨vs, w, SqL.of h3, h5⟩, by omega, fun v H' y => ?_⟩
          obtain ⟨rfl, y⟩ := y
          have e2 := y vs (SqL.of h3)
          rw [h5] at e2
          cases e2
          refine ⟨rfl, x, h6, ?_⟩
          have e3 : N - (i + 1) = k := by omega
          rw [e3]
          exact aft_forB (G := fun ev st => forLive (turnM mt nb) n k (i + 1) ev st) a
  | rng lo n =>
    have eJ : J = Itr lo n := hJ
    subst eJ
    refine for_loop (fun i ev st => forRng (turnM mt nb) (n - i) (lo + i) ev st) (fun i => n - i) ok1 re1 (fun i ev st ρ2 H2 g2 ok2 a => ?_) turn fin (by
      have e : lo + ((0 : Nat) : Int) = lo := by simp
      show Aft (forRng (turnM mt nb) n (lo + ((0 : Nat) : Int)) ev st1) _ _
      rw [e]
      exact q2)
    cases hf : n - i with
    | zero =>
      rw [hf] at a
      left
      exact ⟨show n ≤ i by omega, a⟩
    | succ k =>
      rw [hf] at a
      right
      refine ⟨show i < n by omega, by omega, fun v H' y => ?_⟩
      obtain ⟨rfl, rfl⟩ := y
      refine ⟨rfl, .int (lo + i), .int _, ?_⟩
      have e3 : n - (i + 1) = k := by omega
      have e4 : lo + ((i + 1 : Nat) : Int) = lo + (i : Int) + 1 := by omega
      rw [e3, e4]
      exact aft_forB (G := fun ev st => forRng (turnM mt nb) k (lo + (i : Int) + 1) ev st) a
end
end Vm

set_option maxHeartbeats 4000000
/-! Vz0: room told frame by frame: one for each call (the layer's own room counts three). -/
namespace Vm
open PySem PySem.Spec PyProof.Rows L2
structure RoomF (d : Nat) (A : Around) : Prop where
  calm : A.handled = none
  fr : A.depth + d + 8 < recursionLimit
  st : A.units + 5 * d + 300 < cLine
theorem RoomF.room {d : Nat} {A : Around} (r : RoomF d A) : Room 1 A :=
  { hd := r.calm, dp := by have := r.fr; omega, un := by have := r.st; omega }
theorem RoomF.down {d : Nat} {A : Around} (r : RoomF (d + 1) A) (env : PySem.Env) : RoomF d (A.deeper env) :=
  { calm := r.calm
    fr := by have := r.fr; show A.depth + 1 + d + 8 < recursionLimit; omega
    st := by have := r.st; show A.units + 3 + 5 * d + 300 < cLine; omega }
theorem RoomF.mk1 {d : Nat} {A : Around} (r : RoomF (d + 1) A) (C : Addr) (us : List Value) (kw : List (Str × Value)) : RoomF d (A.under (.builtin "type.__call__" ⟨.ref C :: us, kw⟩)) :=
  { calm := by
      have h := (Room.make (k := 0) r.room C us kw).hd
      exact h
    fr := by rw [make_depth]; have := r.fr; omega
    st := by rw [make_units]; have := r.st; omega }
theorem RoomF.of {k d : Nat} {A : Around} (r : Room k A) (h1 : d + 3 ≤ 3 * k) (h2 : 5 * d + 100 ≤ 16 * k) : RoomF d A :=
  { calm := r.hd, fr := by have := r.dp; omega, st := by have := r.un; omega }
section
variable (P : Program) (w : World) (K : PySem.W.Frag) (mg : Str → Option Value) (base : Heap) (cx : CXT) (d : Nat) (f : Addr) (fd : FuncData) (ps : List Str) (sp : Sp)
/-- a def's promise where there is room for d calls, one within the other -/
structure FnOkF : Prop where
  args : ∀ vs H Q E, sp vs H Q E → vs.length = ps.length
  go : ∀ (A : Around) (outer : List PySem.Env) (s : Shared) (H : Hp) (as : Args) (us : List Value) (vs : List V) (Q : VK) (E : XK),
    RoomF d A → Env0 P w K mg base A outer s H → BindsTo s fd as (ps.zip us) → Vals vs us → sp vs H Q E → codeAny (model P w) A (.call (.ref f) as) (CR cx outer P w H s Q E) s
end
section
variable {P : Program} {w : World} {K : PySem.W.Frag} {mg : Str → Option Value} {base : Heap} {cx : CXT} {d k : Nat} {f : Addr} {fd : FuncData} {ps : List Str} {sp : Sp}
theorem FnOkF.ok (F : FnOkF P w K mg base cx d f fd ps sp) (h1 : d + 3 ≤ 3 * k) (h2 : 5 * d + 100 ≤ 16 * k) : FnOk P w K mg base cx k f fd ps sp :=
  ⟨F.args, fun A outer s H as us vs Q E hr => F.go A outer s H as us vs Q E (.of hr h1 h2)⟩
end
section
variable {X : Cx} {cx : CXT} {d : Nat} {f C : Addr} {fd : FuncData} {ps : List Str} {sp : Sp} {E : L2.St → XK} {E1 : XK} {x : Str} {p pos : Pos} {e : Expr} {es : List Expr} {t : TA}
theorem resF {pins : List (Addr × Obj)} {σ : L2.St} {H : Hp} {s s' : Shared} {Q : VK} {Ex : XK} (hx : PassesAt cx X σ Ex) (I : Inv X pins σ H s) : ∀ {r : Result}, CR cx X.stack X.prog X.w H s Q Ex r s' → (match r with
    | .ok (.ret v) => EP X pins σ Q v s'
    | .ok _ => False
    | .error e => X.xe e s')
  | .error e, h => hx pins H s e s' I h
  | .ok (.ret u), h => I.after h
  | .ok .next, h => h.elim
  | .ok .brk, h => h.elim
  | .ok .cont, h => h.elim
theorem run_fnF {pins : List (Addr × Obj)} {σ : L2.St} {H : Hp} {s : Shared} {Q : VK} {us : List Value} {vs : List V} (F : FnOkF X.prog X.w X.K X.mg X.base cx d f fd ps sp) (hr : RoomF d X.A) (hb : Binds X.K fd ps [])
    (hx : PassesAt cx X σ (E σ)) (I : Inv X pins σ H s) (r : Vals vs us) (h : sp vs H Q (E σ)) : wpAny (model X.prog X.w) X.A (call (.ref f) us) (EP X pins σ Q) X.xe s := by
  have hl : (us ++ []).length = ps.length := by rw [List.append_nil, ← r.length, F.args _ _ _ _ h]
  have b := hb s us I.kIn hl
  simp only [List.append_nil] at b
  have z := F.go X.A X.stack s H ⟨us, []⟩ us vs Q (E σ) hr I.env0 b r h
  exact wpAny_call (codeAny_mono z fun r s' hq => by
    have q := resF hx I hq
    cases r with
    | error e => exact q
    | ok fl => cases fl <;> first | exact q | exact q.elim)
theorem pe_callF (F : FnOkF X.prog X.w X.K X.mg X.base cx d f fd ps sp) (hr : RoomF d X.A) (hg : Gl X x) (hm : X.mg x = some (.ref f)) (hk : PySem.W.keepIn X.K (.ref f) = true) (hb : Binds X.K fd ps []) (hx : ∀ σ, PassesAt cx X σ (E σ))
    (ha : PA X (e :: es) t) (hdb : (x == ("__debug__" : Str)) = false) (he : starEach (e :: es) X.env = (false, eval e X.env) :: starEach es X.env) (hpl : (backTo pos (starEach es X.env)).any (·.1) = false) :
    PE X (.Call (.Name x p) (e :: es) [] pos) (tCallS sp E t) :=
  ⟨fun pins s σ H Q I h => wpAny_Call_Name_kw (ld_glob I hg hm (PySem.W.callWith_K (h₀ := X.base) I.ok.mod.kin hk (thn (ha.run pos pins s σ H _ I h) fun _ _ ⟨_, _, I1, r, q⟩ => ⟨I1.kIn, run_fnF F hr hb (hx σ) I1 r q⟩) he hpl) hdb)⟩
theorem pe_callF0 (F : FnOkF X.prog X.w X.K X.mg X.base cx d f fd ps sp) (hr : RoomF d X.A) (hg : Gl X x) (hm : X.mg x = some (.ref f)) (hk : PySem.W.keepIn X.K (.ref f) = true) (hb : Binds X.K fd ps []) (hx : ∀ σ, PassesAt cx X σ (E σ))
    (hdb : (x == ("__debug__" : Str)) = false) : PE X (.Call (.Name x p) [] [] pos) (tCallS sp E tNil) :=
  ⟨fun pins s σ H Q I h => wpAny_Call_Name_kw (ld_glob I hg hm (PySem.W.callWith_K0 I.kIn hk (run_fnF (us := []) F hr hb (hx σ) I .nil h)) hdb)⟩
theorem run_makeF {pins : List (Addr × Obj)} {σ : L2.St} {H : Hp} {s : Shared} {Q : VK} {us : List Value} {vs : List V} (M : Mk X.K C f) (F : FnOkF X.prog X.w X.K X.mg X.base cx d f fd ps sp) (hr : RoomF (d + 1) X.A) (hb : Binds X.K fd ps [])
    (hx : Passes cx X E1) (I : Inv X pins σ H s) (r : Vals vs us)
    (h : ∀ x dx, H x = none → H dx = none → dx ≠ x → sp (.ref x :: (vs ++ [])) (upd (upd H dx (.own x)) x (.ins C dx [])) (fun v H2 => v = .non ∧ Q (.ref x) H2) E1) :
    wpAny (model X.prog X.w) X.A (call (.ref C) us) (EP X pins σ Q) X.xe s := by
  let n := s.heap.objs.size
  have hq := h (n + 1) n (I.hok.fresh (Nat.le_succ n)) (I.hok.fresh (Nat.le_refl n)) (Nat.ne_of_lt (Nat.lt_succ_self n))
  have J := Inv.made (C := C) I
  have rr : Vals (V.ref (n + 1) :: (vs ++ [])) (Value.ref (n + 1) :: (us ++ [])) := .cons rfl (r.append .nil)
  have hl : (Value.ref (n + 1) :: us ++ []).length = ps.length := rr.length.symm.trans (F.args _ _ _ _ hq)
  have z := F.go _ X.stack _ _ ⟨Value.ref (n + 1) :: us, []⟩ _ _ _ E1 (hr.mk1 C us []) (J.env0.make C us []) (hb _ (Value.ref (n + 1) :: us) J.kIn hl) rr hq
  exact wpAny_call (make_map (f := f) I.kIn M.makes M.init (beq_iff_eq.mp M.fn) (codeAny_mono z fun r s' hq' => by
    have q := resF (fun pins H s e s' => hx pins σ H s e s') J hq'
    cases r with
    | error e => exact q
    | ok fl =>
      cases fl with
      | ret u =>
        obtain ⟨v, H', I3, rv, ev, q3⟩ := q
        subst ev
        exact ⟨rv, .ref (n + 1), H', I3, rfl, q3⟩
      | _ => exact q.elim))
theorem pe_makeF (M : Mk X.K C f) (F : FnOkF X.prog X.w X.K X.mg X.base cx d f fd ps sp) (hr : RoomF (d + 1) X.A) (hg : Gl X x) (hm : X.mg x = some (.ref C)) (hb : Binds X.K fd ps []) (hx : Passes cx X E1)
    (ha : PA X (e :: es) t) (hdb : (x == ("__debug__" : Str)) = false) (he : starEach (e :: es) X.env = (false, eval e X.env) :: starEach es X.env) (hpl : (backTo pos (starEach es X.env)).any (·.1) = false) :
    PE X (.Call (.Name x p) (e :: es) [] pos) (tMake C sp [] E1 t) :=
  ⟨fun pins s σ H Q I h => wpAny_Call_Name_kw (ld_glob I hg hm (PySem.W.callWith_K (h₀ := X.base) I.ok.mod.kin M.kp (thn (ha.run pos pins s σ H _ I h) fun _ _ ⟨_, _, I1, r, q⟩ => ⟨I1.kIn, run_makeF M F hr hb hx I1 r q⟩) he hpl) hdb)⟩
theorem pe_makeF0 (M : Mk X.K C f) (F : FnOkF X.prog X.w X.K X.mg X.base cx d f fd ps sp) (hr : RoomF (d + 1) X.A) (hg : Gl X x) (hm : X.mg x = some (.ref C)) (hb : Binds X.K fd ps []) (hx : Passes cx X E1)
    (hdb : (x == ("__debug__" : Str)) = false) : PE X (.Call (.Name x p) [] [] pos) (tMake C sp [] E1 tNil) :=
  ⟨fun pins s σ H Q I h => wpAny_Call_Name_kw (ld_glob I hg hm (PySem.W.callWith_K0 I.kIn M.kp (run_makeF (us := []) M F hr hb hx I .nil h)) hdb)⟩
end
section
variable {P : Program} {w : World} {K : PySem.W.Frag} {mg : Str → Option Value} {base : Heap}
/-- a def by its body, which is run with room for one call less -/
theorem okF {x qual : Str} {st : Stmt} {f : Addr} {fd : FuncData} {N ps : List Str} {d : Nat} {sp : Sp} (F : Fun K x qual st f fd) (S : FnScope N ps (defScope st)) (len : ∀ vs H Q E, sp vs H Q E → vs.length = ps.length)
    (hbody : ∀ (cdv : Value) (A : Around) (outer : List PySem.Env) (s : Shared) (H : Hp) (vs : List V) (Q : VK) (E : XK), RoomF d (A.deeper (envOfC qual (defScope st) s.heap.objs.size f cdv)) → sp vs H Q E →
      ∃ t, PSs (cxOf (L2.CX P w) P w K mg base N qual (defScope st) f cdv A outer s H E) (defBody st) t ∧ t { nx := fun _ H' => Q .non H', rt := Q } (L2.start N vs) H) : FnOkF P w K mg base (L2.CX P w) (d + 1) f fd ps sp := by
  obtain ⟨oc, od, kV, doc, pm, an, cdv, ct, osl, rfl, lk, hcd⟩ := F.ex
  refine ⟨len, fun A outer s H as us vs Q E hr e0 hb r hsp => ?_⟩
  have hl := len _ _ _ _ hsp
  have KX : K.In s.heap := e0.mod.kin.keeps fun b o e => (e0.bs b o e).1
  have kinds : ∀ y ∈ ps.zip us, (defScope st).names.lookup y.1 = some .local ∨ ((defScope st).names.lookup y.1 = some .cell ∧ ((cellsFrom (s.heap.objs.size + 1) (defScope st).names []).lookup y.1).isSome = true) := fun y hy =>
    (S.par y.1 (List.of_mem_zip (show (y.1, y.2) ∈ _ from hy)).1).imp id fun q => ⟨q, PySem.W.cellsFrom_some _ _ _ (.inl q)⟩
  refine codeAny_call_function hr.room.depth (KX _ _ lk) rfl S.co S.gen rfl (PySem.W.codeRec_of KX hcd) (hb _ _ _ _ (wpAny_newFunctionEnv_cells S.kind kinds fun env he s1 x => ?_))
  subst he
  refine ⟨(e0.mod.nolimit.keeps fun b o e => (e0.bs b o e).1).keeps x.toInCall.keep, codeAny_func ?_⟩
  obtain ⟨t, ht, hq⟩ := hbody cdv A outer s H vs Q E (hr.down _) hsp
  have J := inv_start (CX := L2.CX P w) (E := E) S hr.calm e0 hl r x
  refine wpAny_mono (ht.run [] s1 (L2.start N vs) H _ J hq) (fun fl s' hs => ?_) fun _ _ hs => hs
  cases fl with
  | ret u =>
    obtain ⟨v, σ', H', J', rv, q⟩ := hs
    exact ⟨v, H', J'.os, J'.bare, J'.base, J'.hok, rv, q⟩
  | next =>
    obtain ⟨σ', H', J', q⟩ := hs
    exact ⟨.non, H', J'.os, J'.bare, J'.base, J'.hok, rfl, q⟩
  | brk => obtain ⟨_, _, _, q⟩ := hs; exact False.elim q
  | cont => obtain ⟨_, _, _, q⟩ := hs; exact False.elim q
end
end Vm

set_option maxHeartbeats 4000000
/-! Vm9: side conditions by the text alone; calls of own functions. -/
namespace Vm
open PySem L2
variable [ClsMap]

/-! ### side conditions by the text -/
def notStar : Expr → Bool
  | .Starred _ _ => false
  | _ => true
theorem notStar_ok {e : Expr} (h : notStar e = true) (es : List Expr) (env : PySem.Env) : starEach (e :: es) env = (false, eval e env) :: starEach es env := by
  cases e <;> first | rfl | cases h
theorem notStar_assign {e : Expr} (h : notStar e = true) (env : PySem.Env) : (assignEach [e] env).map (·.2) = [assign e env] := by
  cases e <;> first | rfl | cases h
def notSlice : Expr → Bool
  | .Slice _ _ _ _ => false
  | _ => true
theorem notSlice_ok {e : Expr} (h : notSlice e = true) : PlainIx e := by
  intro o i
  cases e <;> first | rfl | cases h
theorem notSlice_sub {i : Expr} (h : notSlice i = true) (o : Expr) (pos : Pos) (env : PySem.Env) : ∀ v, assign (.Subscript o i pos) env v = (do
      let ov ← holding [v] (eval o env)
      let iv ← holding [v, ov] (eval i env)
      standAt pos
      holding [v, ov, iv] (setItem ov iv v)
      release [v, ov, iv] []) := by
  intro v
  cases i <;> first | rfl | cases h
def plainT : Expr → Bool
  | .UnaryOp .Not _ _ => false
  | .BoolOp _ _ _ => false
  | .IfExp _ _ _ _ => false
  | .Compare _ _ _ _ => false
  | _ => true
theorem plainT_ok {e : Expr} (h : plainT e = true) (env : PySem.Env) : ∀ whole, isTrue e env whole = (do let v ← whole; standAt e.pos; holding [v] (truthy v)) := by
  intro whole
  cases e with
  | UnaryOp op a pos => cases op <;> first | rfl | cases h
  | _ => first | rfl | cases h
def notSet : Expr → Bool
  | .Set _ _ _ => false
  | _ => true
theorem notSet_ok {e : Expr} (h : notSet e = true) (env : PySem.Env) : ∀ x, foldedSetIterable e env x = pure x := by
  intro x
  cases e <;> first | rfl | cases h
theorem notSet_marks {e : Expr} (h : notSet e = true) (op : CmpOp) : behindInMarks op e = false := by
  cases e <;> first | rfl | cases h
theorem notSet_last {b c : Expr} (h : notSet c = true) (o o' : CmpOp) : lastMarks [o, o'] [b, c] = false := notSet_marks h o'
def notSup : Expr → Bool
  | .Call (.Name _ _) [] [] _ => false
  | _ => true
theorem notSup_ok {o : Expr} (h : notSup o = true) (m : Str) (env : PySem.Env) (w : Sem Value) : attributeBase o m env w = w := by
  unfold attributeBase
  split
  · cases h
  · rfl
def notComp : Expr → Bool
  | .ListComp _ _ _ _ => false
  | .SetComp _ _ _ _ => false
  | .DictComp _ _ _ _ _ => false
  | _ => true
theorem notComp_ok {e : Expr} (h : notComp e = true) (t : Option Expr) (n : Nat) (env : PySem.Env) : swapsWith e t n env = pure false := by
  cases e <;> first | rfl | cases h
theorem notComp_sole {e : Expr} (h : notComp e = true) (t : Expr) (n : Nat) (env : PySem.Env) : swapsWithSole [t] e n env = pure false := notComp_ok h (some t) n env
/-- a comprehension put at once into a name of its line -/
def swB (sc : Scope) (y : Str) (py : Pos) (pos : Pos) (scope : Scope) : Bool := sc.names.lookup y == some .local && py.line == pos.line && !(scope.names.any fun (n, k) => n == y && (k == .local || k == .cell))
theorem swB_ok {env : PySem.Env} {sc : Scope} (hs : env.scope = sc) (hk : sc.kind = .function) {y : Str} {py : Pos} {elt : Expr} {gens : List Comprehension} {scope : Scope} {pos : Pos} {n : Nat} (h : swB sc y py pos scope = true) :
    swapsWith (.ListComp elt gens scope pos) (some (.Name y py)) n env = pure true := by
  have e : env.blockKind = .function := by unfold Env.blockKind; rw [hs, hk]; rfl
  show (pure (env.blockKind == .function && env.kindOf y == some .local && py.line == pos.line && !(scope.names.any fun (n, k) => n == y && (k == .local || k == .cell))) : Sem Bool) = pure true
  unfold swB at h
  rw [e]
  unfold Env.kindOf
  rw [hs]
  have e2 : (ScopeKind.function == ScopeKind.function && sc.names.lookup y == some .local && py.line == pos.line && !(scope.names.any fun (n, k) => n == y && (k == .local || k == .cell))) = true := by
    simp only [Bool.and_eq_true] at h ⊢
    exact ⟨⟨⟨rfl, h.1.1⟩, h.1.2⟩, h.2⟩
  rw [e2]
theorem swB_no {env : PySem.Env} {sc : Scope} (hs : env.scope = sc) (hk : sc.kind = .function) {y : Str} {py : Pos} {elt : Expr} {gens : List Comprehension} {scope : Scope} {pos : Pos} {n : Nat} (h : swB sc y py pos scope = false) :
    swapsWith (.ListComp elt gens scope pos) (some (.Name y py)) n env = pure false := by
  have e : env.blockKind = .function := by unfold Env.blockKind; rw [hs, hk]; rfl
  show (pure (env.blockKind == .function && env.kindOf y == some .local && py.line == pos.line && !(scope.names.any fun (n, k) => n == y && (k == .local || k == .cell))) : Sem Bool) = pure false
  unfold swB at h
  rw [e]
  unfold Env.kindOf
  rw [hs]
  have e2 : (ScopeKind.function == ScopeKind.function && sc.names.lookup y == some .local && py.line == pos.line && !(scope.names.any fun (n, k) => n == y && (k == .local || k == .cell))) = false := by
    show (true && _ && _ && _) = false
    rw [Bool.true_and]
    exact h
  rw [e2]
def notTup : Expr → Bool
  | .Tuple _ _ _ => false
  | _ => true
def simpTgt : Expr → Bool
  | .Name _ _ => true
  | .Subscript _ _ _ => true
  | .Attribute _ _ _ => true
  | _ => false
theorem simpTgt_ok {t : Expr} (h : simpTgt t = true) (e : Expr) (env : PySem.Env) : swappedStores [t] e env = pure none := by
  unfold swappedStores
  cases t <;> first | rfl | cases h
theorem notTup_r {e : Expr} (h : notTup e = true) (t : Expr) (env : PySem.Env) : swappedStores [t] e env = pure none := by
  unfold swappedStores
  cases e <;> first | (cases t <;> rfl) | cases h
def visB (sc : Scope) (x : Str) : Bool := match sc.names.lookup x with
  | some .local => true
  | some .cell => true
  | some .free => true
  | _ => false
theorem visB_ok {sc : Scope} {x : Str} (h : visB sc x = true) : Vis sc x := by
  unfold visB at h
  split at h <;> first | exact .inl (by assumption) | exact .inr (.inl (by assumption)) | exact .inr (.inr (by assumption)) | cases h
def stoB (sc : Scope) (x : Str) : Bool := match sc.names.lookup x with
  | some .local => true
  | some .cell => true
  | _ => false
theorem stoB_ok {sc : Scope} {x : Str} (h : stoB sc x = true) : Loc sc x := by
  unfold stoB at h
  split at h <;> first | exact .inl (by assumption) | exact .inr (by assumption) | cases h
def glB (sc : Scope) (x : Str) : Bool := match sc.names.lookup x with
  | some .globalImplicit => true
  | _ => false
theorem glB_ok {sc : Scope} {x : Str} (h : glB sc x = true) : sc.names.lookup x = some .globalImplicit := by
  unfold glB at h
  split at h
  · assumption
  · cases h
def nmB (x : Str) : Bool := !(x == ("__debug__" : Str)) && !(x == ("__classdict__" : Str))
theorem nmB_ok {x : Str} (h : nmB x = true) : (x == ("__debug__" : Str)) = false ∧ (x == ("__classdict__" : Str)) = false := by
  unfold nmB at h
  simpa using h

def litOk : PV → Const → Bool
  | .non, .none => true
  | .bl b, .bool c => b == c
  | .int i, .int j => i == j
  | .str l, .str s => l == s.cps.toList
  | _, _ => false

/-! ### calls of own functions -/
def WantR (K : PySem.W.Frag) (ρ : List Addr) (H : Hp) (Q : VK) : PV → Store → Prop := fun x st' => ∀ ρ' H' v, Grow K ρ H ρ' H' → OkS K ρ' st' H' → Rep K ρ' H' x v → Q v H'
def WantRX (T : Tb) (K : PySem.W.Frag) (ρ : List Addr) (H : Hp) (E : XK) : Nat → List (Nat × PV) → Store → Prop := fun c fs st' => ∀ ρ' H' d, Grow K ρ H ρ' H' → OkS K ρ' st' H' → RepXd T K H ρ' H' fs d → E (.ref (T.cl c)) d H'
/-- a def's promise: what the machine says of it -/
def spF (T : Tb) (K : PySem.W.Frag) (np : Nat) (g : List PV → Store → Res PV) : Sp := fun vs H Q E => ∃ ρ st xs, OkS K ρ st H ∧ RepL K ρ H xs vs ∧ vs.length = np ∧ Aft (g xs st) (WantR K ρ H Q) (WantRX T K ρ H E)
section
variable {T : Tb} {X : Cx} {W : WX} {e : Expr} {es : List Expr} {m : Env → Store → Res PV} {p pos : Pos}
theorem sp_of {g : List PV → Store → Res PV} {np : Nat} {ρ : List Addr} {st : Store} {H : Hp} {σ : L2.St} {xs : List PV} {vs : List V} {Q : VK} (ok : OkS X.K ρ st H) (r : RepL X.K ρ H xs vs) (hl : vs.length = np) (q : Aft (g xs st) (WantV X ρ H Q) (WantX T X W ρ H σ)) :
    spF T X.K np g vs H Q (WE W σ) :=
  ⟨ρ, st, xs, ok, r, hl, q.imp (fun x st' w ρ' H' v g ok' r' => w ρ' H' v g ok' r'.r) fun c fs st' w ρ' H' d g ok' r' => w ρ' H' d g ok' r'⟩
theorem sim_call0 {k : Nat} {f : Addr} {fd : FuncData} {ps : List Str} {x : Str} {g : List PV → Store → Res PV} (F : FnOkF X.prog X.w X.K X.mg X.base (L2.CX X.prog X.w) k f fd ps (spF T X.K 0 g)) (hr : RoomF k X.A) (hg : L2.Gl X x) (hm : X.mg x = some (.ref f)) (hk : PySem.W.keepIn X.K (.ref f) = true)
    (hb : Binds X.K fd ps []) (tk : Takes X W) (hdb : (x == ("__debug__" : Str)) = false) : SimE T X W (.Call (.Name x p) [] [] pos) (fun _ st => g [] st) := fun ρ st H σ ev Q ok re q =>
  wE_of (pe_callF0 F hr hg hm hk hb (fun σ => passAt tk σ) hdb) (sp_of ok .nil rfl q)
theorem stars_ok {env : PySem.Env} {pos : Pos} : ∀ (es : List Expr), es.all notStar = true → (backTo pos (starEach es env)).any (·.1) = false := by
  intro es
  induction es with
  | nil => intro _; rfl
  | cons e es ih =>
    intro h
    simp only [List.all_cons, Bool.and_eq_true] at h
    rw [notStar_ok h.1]
    show (false || (backTo pos (starEach es env)).any (·.1)) = false
    rw [ih h.2]
    rfl
theorem sim_call {k np : Nat} {f : Addr} {fd : FuncData} {ps : List Str} {x : Str} {g : List PV → Store → Res PV} (F : FnOkF X.prog X.w X.K X.mg X.base (L2.CX X.prog X.w) k f fd ps (spF T X.K np g)) (hr : RoomF k X.A) (hg : L2.Gl X x) (hm : X.mg x = some (.ref f)) (hk : PySem.W.keepIn X.K (.ref f) = true)
    (hb : Binds X.K fd ps []) (tk : Takes X W) (hdb : (x == ("__debug__" : Str)) = false) (hs : (e :: es).all notStar = true) (hn : (e :: es).length = np) (ha : SimA T X W (e :: es) m) (hlen : ∀ ev st v st', m ev st = .ok v st' → (tupOf v).length = (e :: es).length) :
    SimE T X W (.Call (.Name x p) (e :: es) [] pos) (fun ev st => (m ev st).bind fun v st1 => g (tupOf v) st1) := fun ρ st H σ ev Q ok re q => by
  have key : wA X (e :: es) σ H fun vs H1 => spF T X.K np g vs H1 Q (WE W σ) := by
    refine ha ρ st H σ ev _ ok re ?_
    cases hm' : m ev st with
    | bad => dsimp only at q; rw [hm'] at q; exact q.elim
    | exc c fs st1 => dsimp only at q; rw [hm'] at q; exact q
    | ok v st1 =>
      dsimp only at q
      rw [hm'] at q
      intro ρ1 H1 vs g1 ok1 r1
      refine sp_of ok1 r1 ?_ (aftV g1 q)
      rw [← r1.length, hlen ev st v st1 hm', hn]
  simp only [List.all_cons, Bool.and_eq_true] at hs
  exact wE_of (pe_callF F hr hg hm hk hb (fun σ => passAt tk σ) pa_w hdb (notStar_ok hs.1 es X.env) (stars_ok es hs.2)) key
end
end Vm

set_option maxHeartbeats 4000000
/-! Vx3: raise of such an exception, as the machine says it. -/
namespace Vm
open PySem PySem.Spec PyProof.Rows L2
theorem relO_put : ∀ {fs : List Str} {vs : List V} {us : List Value} {m0 : Str → Option Value} {o0 : Str → Option V}, fs.Nodup → fs.length = vs.length → Vals vs us → (∀ g, g ∉ fs → RelO (o0 g) (m0 g)) → ∀ g, RelO (((fs.zip vs).lookup g).or (o0 g)) (putAll m0 fs us g)
  | [], vs, us, m0, o0, _, hl, r, h0, g => by
    cases vs with
    | nil => cases r; exact h0 g (by simp)
    | cons _ _ => cases hl
  | a :: fs, [], _, _, _, _, hl, _, _, _ => by cases hl
  | a :: fs, v :: vs, us, m0, o0, nd, hl, r, h0, g => by
    cases r with
    | @cons _ u _ us' r1 r2 =>
      have nd' := List.nodup_cons.mp nd
      have ih := relO_put (m0 := fun y => if y = a then some u else m0 y) (o0 := fun y => if y = a then some v else o0 y) nd'.2 (by simpa using hl) r2 (fun g hg => by
        by_cases e : g = a
        · rw [if_pos e, if_pos e]; exact r1
        · rw [if_neg e, if_neg e]; exact h0 g (by simp [e, hg])) g
      show RelO ((((a, v) :: fs.zip vs).lookup g).or (o0 g)) (putAll (fun y => if y = a then some u else m0 y) fs us' g)
      rw [List.lookup_cons]
      by_cases e : g = a
      · subst e
        have hn : (fs.zip vs).lookup g = none := by
          rw [List.lookup_eq_none_iff]
          intro q hq
          have hm := (List.of_mem_zip (show (q.1, q.2) ∈ fs.zip vs from hq)).1
          have hne : ¬ g = q.1 := fun e => nd'.1 (e ▸ hm)
          simpa using hne
        rw [hn, if_pos rfl] at ih
        have hg : (g == g) = true := by simp
        rw [hg]
        exact ih
      · have hb : (g == a) = false := by simpa using e
        rw [hb]
        rw [if_neg e] at ih
        exact ih
theorem relO_flds {fs : List Str} {vs : List V} {us : List Value} (nd : fs.Nodup) (hl : fs.length = vs.length) (r : Vals vs us) (g : Str) : RelO ((fs.zip vs).lookup g) (putAll (fun _ => none) fs us g) := by
  have h := relO_put (m0 := fun _ => none) (o0 := fun _ => none) nd hl r (fun _ _ => trivial) g
  rw [Option.or_none] at h
  exact h
/-- what must be known of an own exception's class, called by its name -/
structure ExCls (prog : Program) (K : PySem.W.Frag) (mg : Str → Option Value) (x : Str) (C : Addr) (fs : List Str) : Prop where
  g : mg x = some (.ref C)
  kp : PySem.W.keepIn K (.ref C) = true
  exC : PySem.W.subIn K (.ref C) (.type "BaseException") = some true
  tyC : PySem.W.typeIn K (.ref C) = some (.type "type")
  fn : ∃ f cc cda scope fd a fs', fs = a :: fs' ∧ ExFn prog K C f cc cda scope fd a fs'
  sup : mg "super" = none
section
variable {X : Cx} {C : Addr} {fs : List Str}
def tMkEx (C : Addr) (fs : List Str) (ta : TA) : L2.St → Hp → XK → Prop := fun σ H Q => ta σ H fun vs H1 => vs.length = fs.length ∧ ∀ d, H1 d = none → Q (.ref C) (some d) (upd H1 d (.xd (fs.zip vs)))
theorem pmk_ex {x : Str} {e : Expr} {es : List Expr} {ta : TA} {p pos : Pos} {k : Nat} (T : ExCls X.prog X.K X.mg x C fs) (hr : Room k X.A) (ha : PA X (e :: es) ta) (hg : Gl X x) (hdb : (x == ("__debug__" : Str)) = false)
    (he : starEach (e :: es) X.env = (false, eval e X.env) :: starEach es X.env) (hpl : (backTo pos (starEach es X.env)).any (·.1) = false) : PMk X (.Call (.Name x p) (e :: es) [] pos) (tMkEx C fs ta) := by
  intro pins s σ H Q I h
  refine wpAny_Call_Name_kw (ld_glob I hg T.g ?_ hdb)
  refine PySem.W.callWith_K (h₀ := X.base) I.ok.mod.kin T.kp (thn (ha.run pos pins s σ H _ I h) fun us s1 hh => ?_) he hpl
  obtain ⟨vs, H1, I1, r1, hl, q1⟩ := hh
  refine ⟨I1.kIn, ?_⟩
  show wpAny _ _ (call (.ref C) us) _ _ _
  obtain ⟨f, cc, cda, scope, fd, a, fs', rfl, EF⟩ := T.fn
  have hlim := I1.nolimit
  obtain ⟨mb, Bn, hmb⟩ := I1.ok.mod.blt
  have G1 := I1.ok.mod.glob.keeps I1.bk
  have B1 := Bn.keeps I1.bk
  have hb : mb "super" = some (.type "super") := (hmb _ (by decide +kernel)).trans (by decide +kernel)
  obtain ⟨hp, g, dr, tk, os⟩ := s1
  have hul : us.length = (a :: fs').length := by rw [← r1.length, hl]
  have nd : (a :: fs').Nodup := (List.nodup_cons.mp EF.nd).2
  refine wpAny_call (ex_made EF I1.kIn G1 B1 hb T.sup hlim (by have := hr.dp; omega) hul fun h' tk' e1 d M => ?_)
  show MkP X pins σ Q (.ref e1) ⟨h', g, dr, tk', os⟩
  obtain ⟨oe, fv, hoe, hc, hd, hdat, h1⟩ := M.obj
  have hns := M.ns
  obtain ⟨G', g1, g2⟩ := restrict h' fun b => decide (b ≠ e1)
  have gk : ∀ b, b ≠ e1 → G'.get? b = h'.get? b := fun b hb => g1 b (decide_eq_true hb)
  have ge : G'.get? e1 = none := g2 e1 (by simp)
  have old : ∀ b o, hp.get? b = some o → G'.get? b = some o := fun b o q => (gk b (Nat.ne_of_lt (Nat.lt_of_lt_of_le (Heap.lt_size q) M.new))).trans (M.keep b o q)
  have ob : ObjOk X.prog X.w (upd H1 d (.xd ((a :: fs').zip vs))) G' d (.xd ((a :: fs').zip vs)) := ⟨_, hns.at (fun o q => (gk d M.dne).trans q), fun y => relO_flds nd hl.symm r1 y⟩
  have J : Inv X pins σ (upd H1 d (.xd ((a :: fs').zip vs))) ⟨G', g, dr, tk', os⟩ := I1.laid (t' := tk') old M.dbig ob
  refine ⟨e1, oe, fv, ⟨G', g, dr, tk', os⟩, _, .ref C, some d, rfl, J, fun b o q => ?_, ge, hoe, ⟨hc, hd⟩, hdat, h1, ?_, rfl, I1.bare, raises_own T.exC T.tyC, q1 d (I1.hok.fresh M.dbig)⟩
  · by_cases hb : b = e1
    · have q' : G'.get? b = some o := q
      rw [hb, ge] at q'; cases q'
    · exact (gk b hb).symm.trans q
  · rw [upd_ne (Ne.symm M.dne)]
    exact I1.hok.fresh M.new
end
section
variable [ClsMap]
variable {T : Tb} {X : Cx} {W : WX} {m : Env → Store → Res PV}
theorem repFs_zip {K : PySem.W.Frag} {ρ : List Addr} {H : Hp} : ∀ {ks : List Nat} {xs : List PV} {vs : List V}, RepL K ρ H xs vs → ks.length = vs.length → RepFs T K ρ H (ks.zip xs) ((ks.map T.fn).zip vs) := by
  intro ks
  induction ks with
  | nil => intro xs vs r hl; exact .nil
  | cons k ks ih =>
    intro xs vs r hl
    cases r with
    | nil => cases hl
    | cons r1 r2 => exact .cons r1 (ih r2 (by simpa using hl))
theorem s_raise {x : Str} {e : Expr} {es : List Expr} {p pos pos2 : Pos} {k c : Nat} {ks : List Nat} (E : ExCls X.prog X.K X.mg x (T.cl c) (ks.map T.fn)) (hc : X.calm = true) (tk : Takes X W) (hr : Room k X.A) (hg : Gl X x) (hdb : (x == ("__debug__" : Str)) = false) (hs : (e :: es).all notStar = true)
    (ha : SimA T X W (e :: es) m) (hlen : ∀ ev st v st', m ev st = .ok v st' → (tupOf v).length = ks.length) :
    SimS T X W (.Raise (some (.Call (.Name x p) (e :: es) [] pos)) none pos2) (fun ev st => (m ev st).bind fun v st1 => .exc c (ks.zip (tupOf v)) st1) := fun ρ st H σ ev D ok re q => by
  simp only [List.all_cons, Bool.and_eq_true] at hs
  refine wS_of (ps_raise hc tk (pmk_ex E hr pa_w hg hdb (notStar_ok hs.1 es X.env) (stars_ok es hs.2))) ?_
  refine ha ρ st H σ ev _ ok re ?_
  cases hm : m ev st with
  | bad => dsimp only at q; rw [hm] at q; exact q.elim
  | exc c fs st1 => dsimp only at q; rw [hm] at q; exact WantXS.x q
  | ok v st1 =>
    dsimp only at q
    rw [hm] at q
    intro ρ1 H1 vs g1 ok1 r1
    have hl : vs.length = ks.length := by rw [← r1.length, hlen ev st v st1 hm]
    refine ⟨by rw [hl, List.length_map], fun d hd => ?_⟩
    have gn : Grow X.K ρ1 H1 ρ1 (upd H1 d (.xd ((ks.map T.fn).zip vs))) := Grow.new ok1 hd
    exact q ρ1 _ (some d) σ (g1.trans gn) (ok1.new hd) ⟨_, upd_same, repFs_zip (r1.mono gn) hl.symm, fun z => ok1.notfree hd z, g1.back _ hd⟩
end
end Vm

set_option maxHeartbeats 4000000
/-! Vx4: join, split; fields, methods, new objects. -/
namespace Vm
open PySem L2
variable [ClsMap]

theorem strsOf_ok {K : PySem.W.Frag} {ρ : List Addr} {H : Hp} : ∀ {xs : List PV} {ys : List (List Nat)} {vs : List V}, RepL K ρ H xs vs → strsOf xs = some ys → vs = (ys.map SX.S).map V.str := by
  intro xs
  induction xs with
  | nil => intro ys vs r h; cases r; cases h; rfl
  | cons x xs ih =>
    intro ys vs r h
    cases r with
    | cons r1 r2 =>
      cases x with
      | str l =>
        obtain ⟨zs, h1, rfl⟩ := Option.map_eq_some_iff.mp (show (strsOf xs).map (l :: ·) = some ys from h)
        cases r1
        rw [ih r2 h1]
        rfl
      | _ => cases h
theorem joinP_eq (sep : List Nat) : ∀ ys : List (List Nat), joinP sep ys = TL.joinL sep ys
  | [] => rfl
  | [_] => rfl
  | x :: y :: r => by
    show x ++ (sep ++ joinP sep (y :: r)) = x ++ (sep ++ TL.joinL sep (y :: r))
    rw [joinP_eq sep (y :: r)]
theorem splitC_ne (c : Nat) : ∀ l, splitC c l ≠ []
  | [] => by simp [splitC]
  | a :: r => by
    unfold splitC
    split
    · simp
    · split <;> simp
theorem splitC_join (c : Nat) : ∀ l, TL.joinL [c] (splitC c l) = l
  | [] => rfl
  | a :: r => by
    have ih := splitC_join c r
    have hne := splitC_ne c r
    unfold splitC
    by_cases h : a = c
    · rw [if_pos h]
      cases e : splitC c r with
      | nil => exact absurd e hne
      | cons p ps =>
        rw [e] at ih
        show [] ++ ([c] ++ TL.joinL [c] (p :: ps)) = a :: r
        rw [ih, h]
        rfl
    · rw [if_neg h]
      cases e : splitC c r with
      | nil => exact absurd e hne
      | cons p ps =>
        rw [e] at ih
        cases ps with
        | nil =>
          show a :: p = a :: r
          rw [show p = r from ih]
        | cons q qs =>
          show (a :: p) ++ ([c] ++ TL.joinL [c] (q :: qs)) = a :: r
          have ih : p ++ ([c] ++ TL.joinL [c] (q :: qs)) = r := ih
          rw [List.cons_append, ih]
theorem splitC_free (c : Nat) : ∀ l, ∀ p ∈ splitC c l, c ∉ p
  | [], p, hp => by
    simp [splitC] at hp
    subst hp
    simp
  | a :: r, p, hp => by
    have ih := splitC_free c r
    unfold splitC at hp
    by_cases h : a = c
    · rw [if_pos h] at hp
      rcases List.mem_cons.mp hp with rfl | hp
      · simp
      · exact ih p hp
    · rw [if_neg h] at hp
      split at hp
      · rename_i q qs e
        rcases List.mem_cons.mp hp with rfl | hp
        · intro hm
          rcases List.mem_cons.mp hm with z | hm
          · exact h z.symm
          · exact ih q (by rw [e]; exact List.mem_cons_self) hm
        · exact ih p (by rw [e]; exact List.mem_cons_of_mem _ hp)
      · rename_i e
        exact absurd e (splitC_ne c r)
theorem split_eq {c : Nat} (hc : c < 256) (l : List Nat) : Txt.split (SX.S l) (SX.S [c]) = (splitC c l).map SX.S := by
  rw [SX.split_S (by simp) (by simpa using hc)]
  have e := SX.spl_join (c := c) (sep := []) (parts := splitC c l) (splitC_ne c l) (splitC_free c l)
  rw [splitC_join] at e
  rw [e]
theorem repL_strs (K : PySem.W.Frag) (ρ : List Addr) (H : Hp) : ∀ ys : List (List Nat), RepL K ρ H (ys.map .str) ((ys.map SX.S).map V.str)
  | [] => .nil
  | y :: ys => .cons (.str y) (repL_strs K ρ H ys)
section
variable {T : Tb} {X : Cx} {W : WX} {a b o : Expr} {es : List Expr} {m ma mb mo : Env → Store → Res PV} {pos : Pos}
theorem isStr_V {ρ : List Addr} {H : Hp} {x : PV} {v : V} (h : isStr x = true) (r : RepX X.K ρ H x v) : ∃ l, x = .str l ∧ v = .str ⟨l.toArray⟩ := by
  cases x with
  | str l => exact ⟨l, rfl, r.cases_str⟩
  | _ => cases h
theorem sim_join {apos cpos : Pos} (hb : attributeBase a "join" X.env (eval a X.env) = eval a X.env) (hl : (apos.endLine == cpos.line) = true)
    (hs : starEach [b] X.env = [(false, eval b X.env)]) (ha : SimE T X W a ma) (hbb : SimE T X W b mb) :
    SimE T X W (.Call (.Attribute a "join" apos) [b] [] cpos) (fun ev st => (ma ev st).bind fun x st1 => guardR (mOk .join x st1) <| (fixR (mb ev st1)).bind fun y st2 => mthR (mth1 .join x y st2)) := fun ρ st H σ ev Q ok re q => by
  refine wE_of (pe_join pe_w pe_w hs hb hl) ?_
  refine ha ρ st H σ ev _ ok re ((Aft.bind q).imp (fun x st1 q1 ρ1 H1 vx g1 ok1 r1 => ?_) fun _ _ _ z => z)
  obtain ⟨h0, q1⟩ := q1.guard
  obtain ⟨sep, rfl, rfl⟩ := isStr_V (X := X) (show isStr x = true from h0) r1.1
  refine ⟨⟨_, rfl⟩, ?_⟩
  refine hbb ρ1 st1 H1 σ ev _ ok1 (re.mono g1) ((aft_fixB (X := X) q1 (fun y st2 q2 ρ2 H2 vy g2 ok2 r2 => ?_)).imp (fun _ _ z => z) fun _ _ _ => WantX.from g1)
  obtain ⟨v, st3, h1, q3⟩ := aft_mthR q2
  obtain ⟨w, h2, h3⟩ := Option.map_eq_some_iff.mp (show (joinV (.str sep) y st2).map (fun v => (v, st2)) = some (v, st3) from h1)
  cases h3
  obtain ⟨ys, h4, h5⟩ := Option.bind_eq_some_iff.mp (show ((sv st2 y).bind strsOf).bind _ = some v from h2)
  obtain ⟨xs, h6, h7⟩ := Option.bind_eq_some_iff.mp h4
  obtain ⟨hz, h8⟩ := guardO_some h5
  cases h8
  obtain ⟨p, vs, rfl, h9, h10⟩ := sv_ok ok2 (Rep.x r2) h6
  have e := strsOf_ok h10 h7
  subst e
  have hz' := of_decide_eq_true hz
  refine ⟨_, p, ys.map SX.S, rfl, rfl, h9, ?_, ?_⟩
  · rw [SX.lens, List.length_map]
    show _ + ys.length * (SX.S sep).length ≤ _
    rw [SX.S_len]
    have e : SZ = 1000000 := rfl
    have hz2 : (ys.map (·.length)).sum + ys.length * sep.length ≤ SZ := hz'
    omega
  · rw [show Txt.join ⟨sep.toArray⟩ (ys.map SX.S) = SX.S (TL.joinL sep ys) from SX.join_S sep ys, ← joinP_eq]
    exact q3 ρ2 H2 _ (g1.trans g2) ok2 (Rep.r (.str _))
theorem sim_split {apos cpos : Pos} (hb : attributeBase a "split" X.env (eval a X.env) = eval a X.env) (hl : (apos.endLine == cpos.line) = true)
    (hs : starEach [b] X.env = [(false, eval b X.env)]) (ha : SimE T X W a ma) (hbb : SimE T X W b mb) :
    SimE T X W (.Call (.Attribute a "split" apos) [b] [] cpos) (fun ev st => (ma ev st).bind fun x st1 => guardR (mOk .split x st1) <| (fixR (mb ev st1)).bind fun y st2 => mthR (mth1 .split x y st2)) := fun ρ st H σ ev Q ok re q => by
  refine wE_of (pe_split pe_w pe_w hs hb hl) ?_
  refine ha ρ st H σ ev _ ok re ((Aft.bind q).imp (fun x st1 q1 ρ1 H1 vx g1 ok1 r1 => ?_) fun _ _ _ z => z)
  obtain ⟨h0, q1⟩ := q1.guard
  obtain ⟨l, rfl, rfl⟩ := isStr_V (X := X) (show isStr x = true from h0) r1.1
  refine ⟨⟨_, rfl⟩, ?_⟩
  refine hbb ρ1 st1 H1 σ ev _ ok1 (re.mono g1) ((aft_fixB (X := X) q1 (fun y st2 q2 ρ2 H2 vy g2 ok2 r2 => ?_)).imp (fun _ _ z => z) fun _ _ _ => WantX.from g1)
  obtain ⟨v, st3, h1, q3⟩ := aft_mthR q2
  obtain ⟨w, h2, h3⟩ := Option.map_eq_some_iff.mp (show (splitV (.str l) y).map (fun v => (v, st2)) = some (v, st3) from h1)
  cases h3
  unfold splitV at h2
  split at h2
  · rename_i l' c e
    cases e
    obtain ⟨hz, h8⟩ := guardO_some h2
    cases h8
    simp only [Bool.and_eq_true, decide_eq_true_eq] at hz
    cases r2
    refine ⟨SX.S l, SX.S [c], rfl, rfl, rfl, ?_, fun p hp => ?_⟩
    · rw [SX.S_len]
      have e : SZ = 1000000 := rfl
      have e2 : sizeLine = 16777216 := sizeLine_eq
      omega
    · rw [split_eq hz.2]
      have gn : Grow X.K ρ2 H2 ρ2 (upd H2 p (.lst (((splitC c l).map SX.S).map V.str))) := Grow.new ok2 hp
      exact q3 ρ2 _ _ ((g1.trans g2).trans gn) (ok2.new hp) ⟨⟨p, _, rfl, upd_same, ok2.notfree hp, repL_strs _ _ _ _⟩, fun _ _ => ⟨p, rfl, (g1.trans g2).back _ hp⟩⟩
  · cases h2
end
end Vm

set_option maxHeartbeats 4000000
/-! Vx5: fields, methods, new objects. -/
namespace Vm
open PySem L2
variable [ClsMap]
section
variable {T : Tb} {X : Cx} {W : WX} {a b o : Expr} {es : List Expr} {m ma mb mo : Env → Store → Res PV} {pos : Pos}
theorem obV_ok {ρ : List Addr} {st : Store} {H : Hp} {x : PV} {v : V} {n c : Nat} {fs : List (List Nat × PV)} (ok : OkS X.K ρ st H) (r : RepX X.K ρ H x v) (h : obV st x = some (n, c, fs)) :
    x = .loc n ∧ ∃ d dx gs, v = .ref d ∧ ρ[n]? = some d ∧ H d = some (.ins (ClsMap.cl c) dx gs) ∧ RepO X.K ρ H fs gs ∧ st[n]? = some (.obj c fs) := by
  cases x with
  | loc n' =>
    unfold obV at h
    dsimp only at h
    split at h
    · rename_i c' fs' e
      cases h
      obtain ⟨d, rfl, hd⟩ := r.cases_loc
      obtain ⟨dx, gs, h1, h2⟩ := ok.cell _ d _ hd e
      exact ⟨rfl, d, dx, gs, rfl, hd, h1, h2, e⟩
    · cases h
  | _ => cases h
/-- what a class must have for a field of its instances to be read and set -/
def FldOk (K : PySem.W.Frag) (cs : List Nat) (f : List Nat) : Prop := ∀ c ∈ cs, Cls K (ClsMap.cl c) ∧ NoAttr K (ClsMap.cl c) (⟨f.toArray⟩ : Str)
theorem sim_fld {cs : List Nat} {f : List Nat} {apos : Pos} (hf : FldOk X.K cs f) (hb : attributeBase o (⟨f.toArray⟩ : Str) X.env (eval o X.env) = eval o X.env) (ho : SimE T X W o mo) :
    SimE T X W (.Attribute o (⟨f.toArray⟩ : Str) apos) (fun ev st => (mo ev st).bind fun x st1 => Res.of (fldV cs x f st1) st1) := fun ρ st H σ ev Q ok re q => by
  refine wE_of (pe_fld pe_w hb) ?_
  refine ho ρ st H σ ev _ ok re ((Aft.bind q).imp (fun x st1 q1 ρ1 H1 vx g1 ok1 r1 => ?_) fun _ _ _ z => z)
  obtain ⟨z, hz, q2⟩ := q1.of
  unfold fldV at hz
  split at hz
  · rename_i n c fs e
    obtain ⟨rfl, d, dx, gs, rfl, hd, h1, h2, h3⟩ := obV_ok ok1 r1.1 e
    split at hz
    · rename_i hc
      obtain ⟨k1, k2⟩ := hf c (by simpa using hc)
      obtain ⟨v, l1, l2⟩ := (h2.lookup f).1 z hz
      exact ⟨d, _, dx, gs, v, rfl, h1, k1, k2, l1, q2 ρ1 H1 v g1 ok1 (Rep.r l2)⟩
    · cases hz
  · cases hz
/-- o.f = e: the target's part -/
theorem g_fld {cs : List Nat} {f : List Nat} {pos' : Pos} (hf : FldOk X.K cs f) (ho : SimE T X W o mo) : SimG T X W (.Attribute o (⟨f.toArray⟩ : Str) pos') (fun v ev st => (mo ev st).bind fun x st1 => match setFld cs x f v st1 with
    | some st2 => .ok ev st2
    | none => .bad) := fun ρ st H σ ev v w Q ok re rv q => by
  have key : wE X o σ H fun vx H1 => ∃ d C dx gs, vx = .ref d ∧ H1 d = some (.ins C dx gs) ∧ Cls X.K C ∧ NoAttr X.K C (⟨f.toArray⟩ : Str) ∧ gs.length < 1000 ∧ Q σ (upd H1 d (.ins C dx (putF (⟨f.toArray⟩ : Str) w gs))) := by
    refine ho ρ st H σ ev _ ok re ((Aft.bind q).imp (fun x st1 q1 ρ1 H1 vx g1 ok1 r1 => ?_) fun _ _ _ z => z.x)
    cases hz : setFld cs x f v st1 with
    | none => rw [hz] at q1; exact q1.elim
    | some st2 =>
      rw [hz] at q1
      unfold setFld at hz
      split at hz
      · rename_i n c fs e
        obtain ⟨rfl, d, dx, gs, rfl, hd, h1, h2, h3⟩ := obV_ok ok1 r1.1 e
        split at hz
        · rename_i hc
          cases hz
          simp only [Bool.and_eq_true, decide_eq_true_eq] at hc
          obtain ⟨k1, k2⟩ := hf c (by simpa using hc.1)
          have gw : Grow X.K ρ1 H1 ρ1 (upd H1 d (.ins (ClsMap.cl c) dx (putF (⟨f.toArray⟩ : Str) w gs))) := Grow.write ok1 hd
          refine ⟨d, _, dx, gs, rfl, h1, k1, k2, by rw [← h2.length]; omega, ?_⟩
          exact q1 ρ1 _ σ (g1.trans gw) (ok1.write hd ⟨dx, _, upd_same, (h2.put f (rv.mono g1)).kp gw.kp⟩) (re.mono (g1.trans gw))
        · cases hz
      · cases hz
  intro pins s u I ru
  rw [assign_Attribute]
  refine wpAny_bind (wpAny_holding (thn (key pins s I) fun ov s2 ⟨x, H2, I2, rx, d, C, dx, gs, ex, e1, k1, k2, hl, q2⟩ => ?_))
  subst ex
  obtain rfl : ov = Value.ref d := rx
  exact wpAny_bind (wpAny_standAt (wpAny_bind (wpAny_holding (setattr_ok I2 e1 k1 k2 hl ru fun s3 I3 => wpAny_release ⟨σ, _, I3, q2⟩))))
/-- the methods of the classes in tab, by their defs -/
def MetOk (T : Tb) (X : Cx) (k np : Nat) (m : List Nat) (tab : List (Nat × Nat)) (call : Nat → List PV → Store → Res PV) : Prop := ∀ c fi, tab.lookup c = some fi → ∃ g fd ps, Cls X.K (ClsMap.cl c) ∧ Meth X.K (ClsMap.cl c) (⟨m.toArray⟩ : Str) g ∧ Binds X.K fd ps [] ∧
  FnOkF X.prog X.w X.K X.mg X.base (L2.CX X.prog X.w) k g fd ps (spF T X.K np (call fi))
theorem sim_meth {k : Nat} {m : List Nat} {tab : List (Nat × Nat)} {call : Nat → List PV → Store → Res PV} {apos : Pos} {pl : Sem Bool} (hm : MetOk T X k (es.length + 1) m tab call) (hr : RoomF k X.A) (tk : Takes X W) (hs : es.all notStar = true)
    (ht : eval (.Call (.Attribute o (⟨m.toArray⟩ : Str) apos) es [] pos) X.env = (do
      let ov ← eval o X.env
      standAt apos.atName
      let (f, first) ← holding [ov] (getMethod ov (⟨m.toArray⟩ : Str) pl)
      callWith pos f first (backTo pos (starEach es X.env)) (backToKw pos (keywordEach [] X.env))))
    (ho : SimE T X W o mo) (ha : SimA T X W es ma) (hlen : ∀ ev st v st', ma ev st = .ok v st' → (tupOf v).length = es.length) (hnil : es = [] → ∀ ev st, ma ev st = .ok (.tup []) st) :
    SimE T X W (.Call (.Attribute o (⟨m.toArray⟩ : Str) apos) es [] pos) (fun ev st => (mo ev st).bind fun x st1 => match methOf tab m x st1 with
    | some f => (ma ev st1).bind fun v st2 => call f (x :: tupOf v) st2
    | none => .bad) := fun ρ st H σ ev Q ok re q => by
  intro pins s I
  refine methcall_of (pl := pl) (te := wE X o) pe_w I ?_ ht
  refine ho ρ st H σ ev _ ok re ((Aft.bind q).imp (fun x st1 q1 ρ1 H1 vx g1 ok1 r1 => ?_) fun _ _ _ z => z)
  cases hmo : methOf tab m x st1 with
  | none => rw [hmo] at q1; exact q1.elim
  | some fi =>
    rw [hmo] at q1
    unfold methOf at hmo
    split at hmo
    · rename_i n c fs e
      obtain ⟨rfl, d, dx, gs, rfl, hd, h1, h2, h3⟩ := obV_ok ok1 r1.1 e
      split at hmo
      · rename_i hn
        obtain ⟨g, fd, ps, k1, k2, hb, F⟩ := hm c fi hmo
        refine ⟨d, _, dx, gs, g, rfl, h1, k1, k2, (h2.lookup m).2 (by simpa using hn), fun s1 I1 => ?_⟩
        have key : wA X es σ H1 fun vs H2 => spF T X.K (es.length + 1) (call fi) (.ref d :: vs) H2 Q (WE W σ) := by
          refine ha ρ1 st1 H1 σ ev _ ok1 (re.mono g1) ?_
          cases hm' : ma ev st1 with
          | bad => dsimp only at q1; rw [hm'] at q1; exact q1.elim
          | exc c fs st1 => dsimp only at q1; rw [hm'] at q1; exact WantX.from g1 q1
          | ok v st2 =>
            dsimp only at q1
            rw [hm'] at q1
            intro ρ2 H2 vs g2 ok2 r2
            refine sp_of ok2 (.cons (.loc (g2.kp.at_ hd)) r2) ?_ (aftV (g1.trans g2) q1)
            show vs.length + 1 = es.length + 1
            rw [← r2.length, hlen ev st1 v st2 hm']
        cases es with
        | nil =>
          have key' := key
          refine PySem.W.callWith_K0 (first := [.ref d]) I1.kIn k2.kp ?_
          have h0 : spF T X.K 1 (call fi) [.ref d] H1 Q (WE W σ) := by
            have e0 := hnil rfl ev st1
            dsimp only at q1
            rw [e0] at q1
            exact sp_of ok1 (.cons (.loc hd) .nil) rfl (aftV g1 q1)
          exact run_fnF (us := [.ref d]) (vs := [.ref d]) F hr hb (passAt tk σ) I1 (.cons rfl .nil) h0
        | cons e0 es0 =>
          simp only [List.all_cons, Bool.and_eq_true] at hs
          refine PySem.W.callWith_K (first := [.ref d]) (h₀ := X.base) I1.ok.mod.kin k2.kp (thn (key pos pins s1 I1) fun us s2 ⟨vs, H2, I2, r, q2⟩ => ⟨I2.kIn, ?_⟩) (notStar_ok hs.1 es0 X.env) (stars_ok es0 hs.2)
          exact run_fnF (us := .ref d :: us) (vs := .ref d :: vs) F hr hb (passAt tk σ) I2 (.cons rfl r) q2
      · cases hmo
    · cases hmo
/-- C(..) -/
theorem sim_new {k c fi : Nat} {x : Str} {p : Pos} {call : Nat → List PV → Store → Res PV} {g : Addr} {fd : FuncData} {ps : List Str} (M : Mk X.K (ClsMap.cl c) g) (F : FnOkF X.prog X.w X.K X.mg X.base (L2.CX X.prog X.w) k g fd ps (spF T X.K (es.length + 1) (call fi))) (hr : RoomF (k + 1) X.A)
    (hg : L2.Gl X x) (hm : X.mg x = some (.ref (ClsMap.cl c))) (hb : Binds X.K fd ps []) (hdb : (x == ("__debug__" : Str)) = false) (hs : es.all notStar = true) (ha : SimA T X W es ma) (hlen : ∀ ev st v st', ma ev st = .ok v st' → (tupOf v).length = es.length)
    (hnil : es = [] → ∀ ev st, ma ev st = .ok (.tup []) st) :
    SimE T X W (.Call (.Name x p) es [] pos) (fun ev st => (ma ev st).bind fun v st1 => (noExc (call fi (.loc st1.length :: tupOf v) (st1 ++ [.obj c []]))).bind fun r st2 => match r with
      | .non => .ok (.loc st1.length) st2
      | _ => .bad) := fun ρ st H σ ev Q ok re q => by
  have core : ∀ (v : PV) (st1 : Store) (ρ1 : List Addr) (H1 : Hp) (vs : List V), Grow X.K ρ H ρ1 H1 → OkS X.K ρ1 st1 H1 → RepL X.K ρ1 H1 (tupOf v) vs → vs.length = es.length →
      Aft ((noExc (call fi (.loc st1.length :: tupOf v) (st1 ++ [.obj c []]))).bind fun r st2 => match r with
      | .non => .ok (.loc st1.length) st2
      | _ => .bad) (WantV X ρ H Q) (WantX T X W ρ H σ) →
      ∀ a dx, H1 a = none → H1 dx = none → dx ≠ a → spF T X.K (es.length + 1) (call fi) (.ref a :: (vs ++ [])) (upd (upd H1 dx (.own a)) a (.ins (ClsMap.cl c) dx [])) (fun w H2 => w = .non ∧ Q (.ref a) H2) E0 := by
    intro v st1 ρ1 H1 vs g1 ok1 r1 hl q1 a dx na nd ne
    have gd : Grow X.K ρ1 H1 ρ1 (upd H1 dx (.own a)) := Grow.new ok1 nd
    have okd := ok1.new (o := .own a) nd
    have na' : (upd H1 dx (.own a)) a = none := by rw [upd_ne (Ne.symm ne)]; exact na
    have ga : Grow X.K ρ1 (upd H1 dx (.own a)) ρ1 (upd (upd H1 dx (.own a)) a (.ins (ClsMap.cl c) dx [])) := Grow.new okd na'
    have oka := okd.new (o := .ins (ClsMap.cl c) dx []) na'
    have gp : Grow X.K ρ1 H1 (ρ1 ++ [a]) (upd (upd H1 dx (.own a)) a (.ins (ClsMap.cl c) dx [])) := Grow.place (st := st1) (gd.trans ga) na
    have okp : OkS X.K (ρ1 ++ [a]) (st1 ++ [.obj c []]) (upd (upd H1 dx (.own a)) a (.ins (ClsMap.cl c) dx [])) := oka.place (ok1.notfree na) ⟨dx, [], upd_same, .nil⟩
    have hpl : (ρ1 ++ [a])[st1.length]? = some a := by rw [← ok1.len]; simp
    refine ⟨ρ1 ++ [a], st1 ++ [.obj c []], .loc st1.length :: tupOf v, okp, ?_, ?_, ?_⟩
    · rw [List.append_nil]
      exact .cons (.loc hpl) (r1.mono gp)
    · rw [List.append_nil]
      show vs.length + 1 = es.length + 1
      rw [hl]
    · cases hc : call fi (.loc st1.length :: tupOf v) (st1 ++ [.obj c []]) with
      | bad => rw [hc] at q1; exact q1.elim
      | exc _ _ _ => rw [hc] at q1; exact q1.elim
      | ok r st2 =>
        rw [hc] at q1
        intro ρ2 H2 w g2 ok2 rw2
        cases r with
        | non =>
          cases rw2
          refine ⟨rfl, ?_⟩
          exact q1 ρ2 H2 _ ((g1.trans gp).trans g2) ok2 (Rep.r (.loc (g2.kp.at_ hpl)))
        | _ => exact q1.elim
  cases es with
  | nil =>
    have e0 := hnil rfl ev st
    dsimp only at q
    rw [e0] at q
    refine wE_of (pe_makeF0 (E1 := E0) M F hr hg hm hb passL hdb) (core (.tup []) st ρ H [] .refl ok .nil rfl q)
  | cons e0 es0 =>
    simp only [List.all_cons, Bool.and_eq_true] at hs
    refine wE_of (pe_makeF (E1 := E0) M F hr hg hm hb passL pa_w hdb (notStar_ok hs.1 es0 X.env) (stars_ok es0 hs.2)) ?_
    refine ha ρ st H σ ev _ ok re ?_
    cases hm' : ma ev st with
    | bad => dsimp only at q; rw [hm'] at q; exact q.elim
    | exc c fs st1 => dsimp only at q; rw [hm'] at q; exact q
    | ok v st1 =>
      dsimp only at q
      rw [hm'] at q
      intro ρ1 H1 vs g1 ok1 r1
      exact core v st1 ρ1 H1 vs g1 ok1 r1 (by rw [← r1.length, hlen ev st v st1 hm']) q
end
end Vm

set_option maxHeartbeats 4000000
/-! Vx6: try .. except C as e: a suite that looks at the error and returns. -/
namespace Vm
open PySem L2
variable [ClsMap]
/-- e is v, nothing changes -/
def Ev (X : Cx) (e : Expr) (σ : L2.St) (H : Hp) (v : V) : Prop := ∀ Q : VK, Q v H → wE X e σ H Q
def EvT (X : Cx) (e : Expr) (σ : L2.St) (H : Hp) (k : Bool) : Prop := ∀ Q : Bool → Hp → Prop, Q k H → wT X e σ H Q
def EvW (X : Cx) (e : Expr) (σ : L2.St) (H : Hp) (k : Bool) : Prop := ∀ Q : Bool → Hp → Prop, Q k H → wW X e σ H Q
def EvA (X : Cx) (es : List Expr) (σ : L2.St) (H : Hp) (vs : List V) : Prop := ∀ Q : List V → Hp → Prop, Q vs H → wA X es σ H Q
section
variable {X : Cx} {σ : L2.St} {H : Hp} {a b e : Expr} {es rest : List Expr} {v : V} {vs : List V} {k l : Bool} {pos : Pos}
theorem ev_and (ha : Ev X a σ H (.bl k)) (hb : Ev X (.BoolOp .And (b :: rest) pos) σ H (.bl l)) : Ev X (.BoolOp .And (a :: b :: rest) pos) σ H (.bl (k && l)) := fun Q q => by
  refine wE_of (pe_and pe_w pe_w) (ha _ ⟨k, rfl, ?_⟩)
  cases k with
  | true => exact iteT (hb Q q)
  | false => exact iteF q
theorem ev_one {op : BoolOp} (ha : Ev X a σ H v) : Ev X (.BoolOp op [a] pos) σ H v := fun Q q => wE_of (pe_one pe_w) (ha Q q)
theorem ev_not (ha : Ev X a σ H (.bl k)) : Ev X (.UnaryOp .Not a pos) σ H (.bl (!k)) := fun Q q => wE_of (pe_not pe_w) (ha _ ⟨k, rfl, q⟩)
theorem evT_val (hp : plainT a = true) (ha : Ev X a σ H (.bl k)) : EvT X a σ H k := fun Q q => wT_of (pt_val pe_w (plainT_ok hp X.env)) (ha _ ⟨k, rfl, q⟩)
theorem evT_not (ha : EvT X a σ H k) : EvT X (.UnaryOp .Not a pos) σ H (!k) := fun Q q => wT_of (pt_not pt_w) (ha _ q)
theorem evW_one (ha : EvT X a σ H k) : EvW X (.BoolOp .And [a] pos) σ H k := fun Q q => wW_of (pw_and1 pt_w) (ha _ q)
theorem evW_and (ha : EvT X a σ H k) (hb : EvW X (.BoolOp .And (b :: rest) pos) σ H l) : EvW X (.BoolOp .And (a :: b :: rest) pos) σ H (k && l) := fun Q q => by
  refine wW_of (pw_and pt_w pw_w) (ha _ ?_)
  cases k with
  | true => exact iteT (hb Q q)
  | false => exact iteF q
theorem evT_W (ha : EvW X a σ H k) : EvT X a σ H k := fun Q q => wT_of (PW.pt pw_w) (ha Q q)
theorem evA_nil : EvA X [] σ H [] := fun Q q => wA_of pa_nil q
theorem evA_cons (hs : starEach (e :: es) X.env = (false, eval e X.env) :: starEach es X.env) (ha : Ev X e σ H v) (hb : EvA X es σ H vs) : EvA X (e :: es) σ H (v :: vs) := fun Q q => wA_of (pa_cons pe_w pa_w hs) (ha _ (hb _ q))
end
/-- how the text's names are read in a suite -/
structure UT where
  err : Str
  fn : Nat → Str
  flds : List Nat
  isin : Str → Option (List Nat)
/-- chain: the rest of an and -/
def okU (U : UT) (sc : Scope) : SE → Bool → List Expr → Bool
  | .lit v => fun l es => match l, es with
    | false, [.Constant c _ _] => litOk v c
    | _, _ => false
  | .fld f => fun l es => match l, es with
    | false, [.Attribute (.Name x _) n _] => decide (x = U.err) && decide (n = U.fn f) && U.flds.contains f
    | _, _ => false
  | .isi y cs => fun l es => match l, es with
    | false, [.Call (.Name i _) [.Name x _, .Name z _] [] _] => decide (i = ("isinstance" : Str)) && decide (x = U.err) && decide (U.isin z = some cs) && glB sc i && glB sc z && nmB z
    | _, _ => false
  | .and a b => fun l es => match l, es with
    | false, [.BoolOp op (e1 :: e2 :: rest) pos] => decide (op = .And) && okU U sc a false [e1] && (match rest with
      | [] => okU U sc b false [e2]
      | _ => okU U sc b false [.BoolOp op (e2 :: rest) pos])
    | _, _ => false
  | .not a => fun l es => match l, es with
    | false, [.UnaryOp op e _] => decide (op = .Not) && okU U sc a false [e]
    | _, _ => false
  | .nil => fun l es => match l, es with
    | true, es => es.isEmpty
    | _, _ => false
  | .cons a as => fun l es => match l, es with
    | true, e :: es => notStar e && okU U sc a false [e] && okU U sc as true es
    | _, _ => false
  | .lst as => fun l es => match l, es with
    | false, [.List es _] => okU U sc as true es
    | _, _ => false
def isLst : SE → Bool
  | .lst _ => true
  | _ => false
/-- no list but as what is returned -/
def flatU : SE → Bool
  | .lst as => false
  | .cons a as => flatU a && flatU as
  | .and a b => flatU a && flatU b
  | .not a => flatU a
  | _ => true
/-- what is known of the error in hand -/
structure InHand (U : UT) (X : Cx) (K : PySem.W.Frag) (ρ : List Addr) (sc : Scope) (a : Addr) (oe : Obj) (pn : List (Addr × Obj)) (c : Nat) (fs : List (Nat × PV)) (σ : L2.St) (H : Hp) : Prop where
  hsc : X.env.scope = sc
  slot : Ev (X.suite a ((a, oe) :: pn)) (.Name U.err ⟨0, 0, 0, 0⟩) σ H (.ref a)
  fld : ∀ f x, f ∈ U.flds → fs.lookup f = some x → ∃ w, Rep K ρ H x w ∧ ∀ p q, Ev (X.suite a ((a, oe) :: pn)) (.Attribute (.Name U.err p) (U.fn f) q) σ H w
  isi : ∀ z cs, U.isin z = some cs → glB sc "isinstance" = true → glB sc z = true → nmB z = true → ∀ p1 p2 p3 p4, Ev (X.suite a ((a, oe) :: pn)) (.Call (.Name "isinstance" p1) [.Name U.err p2, .Name z p3] [] p4) σ H (.bl (cs.contains c))
section
variable {U : UT} {X : Cx} {ρ : List Addr} {sc : Scope} {a : Addr} {oe : Obj} {pn : List (Addr × Obj)} {c : Nat} {fs : List (Nat × PV)} {σ : L2.St} {H : Hp}
theorem okU_lit {v : PV} {k : Nat} {pos : Pos} {cst : Const} (h : litOk v cst = true) : ∃ w, Rep X.K ρ H v w ∧ Ev (X.suite a ((a, oe) :: pn)) (.Constant cst k pos) σ H w := by
  unfold litOk at h
  split at h
  · exact ⟨_, .non, fun Q q => wE_of pe_non q⟩
  · rename_i b c
    have e : b = c := by simpa using h
    subst e
    exact ⟨_, .bl b, fun Q q => wE_of pe_bl q⟩
  · rename_i i j
    have e : i = j := by simpa using h
    subst e
    exact ⟨_, .int i, fun Q q => wE_of pe_int q⟩
  · rename_i l s
    have e : l = s.cps.toList := by simpa using h
    subst e
    refine ⟨.str s, ?_, fun Q q => wE_of pe_str q⟩
    have q := Rep.str (K := X.K) (ρ := ρ) (H := H) s.cps.toList
    rw [Array.toArray_toList] at q
    exact q
  · cases h
/-- what is shown of a suite's expression -/
structure SndU (U : UT) (X : Cx) (ρ : List Addr) (sc : Scope) (a : Addr) (oe : Obj) (pn : List (Addr × Obj)) (c : Nat) (fs : List (Nat × PV)) (σ : L2.St) (H : Hp) (se : SE) : Prop where
  e : ∀ e v, okU U sc se false [e] = true → seV c fs se = some v → ∃ w, Rep X.K ρ H v w ∧ Ev (X.suite a ((a, oe) :: pn)) e σ H w ∧ (∀ k, v = .bl k → EvT (X.suite a ((a, oe) :: pn)) e σ H k) ∧ (∀ es pos, e = .BoolOp .And es pos → ∀ k, v = .bl k → EvW (X.suite a ((a, oe) :: pn)) e σ H k)
  l : ∀ es v, okU U sc se true es = true → seV c fs se = some v → ∃ ws, RepL X.K ρ H (tupOf v) ws ∧ EvA (X.suite a ((a, oe) :: pn)) es σ H ws
theorem sndU (A : InHand U X X.K ρ sc a oe pn c fs σ H) : ∀ se, flatU se = true → SndU U X ρ sc a oe pn c fs σ H se := by
  intro se
  induction se with
  | lit v =>
    intro _
    refine ⟨fun e v' h hv => ?_, fun es v' h => (by cases h)⟩
    simp only [okU] at h
    split at h
    · rename_i cst k pos _ he
      cases hv
      obtain ⟨w, h1, h2⟩ := okU_lit (X := X) (ρ := ρ) (a := a) (oe := oe) (pn := pn) (σ := σ) (H := H) (k := k) (pos := pos) h
      cases he
      refine ⟨w, h1, h2, fun k e => ?_, fun es pos e => (by cases e)⟩
      subst e
      cases h1
      exact evT_val rfl h2
    · cases h
  | fld f =>
    intro _
    refine ⟨fun e v h hv => ?_, fun es v' h => (by cases h)⟩
    simp only [okU] at h
    split at h
    · rename_i x p n q _ he
      cases he
      simp only [Bool.and_eq_true, decide_eq_true_eq] at h
      obtain ⟨⟨rfl, rfl⟩, h3⟩ := h
      obtain ⟨w, h4, h5⟩ := A.fld f v (by simpa using h3) hv
      refine ⟨w, h4, h5 p q, fun k e => ?_, fun es pos e => (by cases e)⟩
      subst e
      cases h4
      exact evT_val rfl (h5 p q)
    · cases h
  | isi y cs =>
    intro _
    refine ⟨fun e v h hv => ?_, fun es v' h => (by cases h)⟩
    simp only [okU] at h
    split at h
    · rename_i i p1 x p2 z p3 p4 _ he
      cases he
      cases hv
      simp only [Bool.and_eq_true, decide_eq_true_eq] at h
      obtain ⟨⟨⟨⟨⟨rfl, rfl⟩, h3⟩, h4⟩, h5⟩, h6⟩ := h
      have h7 := A.isi z cs h3 h4 h5 h6 p1 p2 p3 p4
      refine ⟨.bl (cs.contains c), .bl _, h7, fun k e => ?_, fun es pos e => (by cases e)⟩
      cases e
      exact evT_val rfl h7
    · cases h
  | and sa sb iha ihb =>
    intro hf
    have hf : (flatU sa && flatU sb) = true := hf
    simp only [Bool.and_eq_true] at hf
    refine ⟨fun e v h hv => ?_, fun es v' h => (by cases h)⟩
    simp only [okU] at h
    split at h
    · rename_i op e1 e2 rest pos _ he
      cases he
      simp only [Bool.and_eq_true, decide_eq_true_eq] at h
      obtain ⟨⟨rfl, h2⟩, h3⟩ := h
      have key : ∃ k1 k2, v = .bl (k1 && k2) ∧ seV c fs sa = some (.bl k1) ∧ (k1 = true → seV c fs sb = some (.bl k2)) := by
        unfold seV at hv
        split at hv
        · rename_i e1
          split at hv
          · rename_i r e2
            cases hv
            exact ⟨true, r, by simp, e1, fun _ => e2⟩
          · cases hv
        · rename_i e1
          cases hv
          exact ⟨false, false, rfl, e1, fun z => by cases z⟩
        · cases hv
      obtain ⟨k1, k2, rfl, h4, h5⟩ := key
      obtain ⟨w1, r1, v1, t1, _⟩ := (iha hf.1).e e1 _ h2 h4
      cases r1
      have rest_ : k1 = true → Ev (X.suite a ((a, oe) :: pn)) (.BoolOp .And (e2 :: rest) pos) σ H (.bl k2) ∧ EvW (X.suite a ((a, oe) :: pn)) (.BoolOp .And (e2 :: rest) pos) σ H k2 := fun hk => by
        split at h3
        · obtain ⟨w2, r2, v2, t2, _⟩ := (ihb hf.2).e e2 _ h3 (h5 hk)
          cases r2
          exact ⟨ev_one v2, evW_one (t2 k2 rfl)⟩
        · obtain ⟨w2, r2, v2, t2, u2⟩ := (ihb hf.2).e _ _ h3 (h5 hk)
          cases r2
          exact ⟨v2, u2 _ _ rfl k2 rfl⟩
      have val : Ev (X.suite a ((a, oe) :: pn)) (.BoolOp .And (e1 :: e2 :: rest) pos) σ H (.bl (k1 && k2)) := by
        cases k1 with
        | true => exact ev_and v1 (rest_ rfl).1
        | false => exact fun Q q => wE_of (pe_and pe_w pe_w) (v1 _ ⟨false, rfl, iteF q⟩)
      have tst : EvW (X.suite a ((a, oe) :: pn)) (.BoolOp .And (e1 :: e2 :: rest) pos) σ H (k1 && k2) := by
        cases k1 with
        | true => exact evW_and (t1 true rfl) (rest_ rfl).2
        | false => exact fun Q q => wW_of (pw_and pt_w pw_w) (t1 false rfl _ (iteF q))
      refine ⟨.bl (k1 && k2), .bl _, val, fun k e => ?_, fun es pos' e k ek => ?_⟩
      · cases e; exact evT_W tst
      · cases e; cases ek; exact tst
    · cases h
  | not sa iha =>
    intro hf
    refine ⟨fun e v h hv => ?_, fun es v' h => (by cases h)⟩
    simp only [okU] at h
    split at h
    · rename_i op e1 pos _ he
      cases he
      simp only [Bool.and_eq_true, decide_eq_true_eq] at h
      obtain ⟨rfl, h2⟩ := h
      have key : ∃ k, v = .bl (!k) ∧ seV c fs sa = some (.bl k) := by
        unfold seV at hv
        split at hv
        · rename_i r e1
          cases hv
          exact ⟨r, rfl, e1⟩
        · cases hv
      obtain ⟨k, rfl, h4⟩ := key
      obtain ⟨w1, r1, v1, t1, _⟩ := (iha hf).e e1 _ h2 h4
      cases r1
      refine ⟨.bl (!k), .bl _, ev_not v1, fun k' e => ?_, fun es pos' e => (by cases e)⟩
      cases e
      exact evT_not (t1 k rfl)
    · cases h
  | nil =>
    intro _
    refine ⟨fun e v h => (by cases h), fun es v h hv => ?_⟩
    cases es with
    | nil =>
      cases hv
      exact ⟨[], .nil, evA_nil⟩
    | cons _ _ => cases h
  | cons sa sb iha ihb =>
    intro hf
    have hf : (flatU sa && flatU sb) = true := hf
    simp only [Bool.and_eq_true] at hf
    refine ⟨fun e v h => (by cases h), fun es v h hv => ?_⟩
    cases es with
    | nil => cases h
    | cons e1 es =>
      have h : (notStar e1 && okU U sc sa false [e1] && okU U sc sb true es) = true := h
      simp only [Bool.and_eq_true] at h
      unfold seV at hv
      split at hv
      · rename_i x xs h1 h2
        split at hv
        · cases hv
        · cases hv
          obtain ⟨w1, r1, v1, _⟩ := (iha hf.1).e e1 _ h.1.2 h1
          obtain ⟨ws, r2, v2⟩ := (ihb hf.2).l es _ h.2 h2
          exact ⟨w1 :: ws, .cons r1 r2, evA_cons (notStar_ok h.1.1 _ _) v1 v2⟩
      · cases hv
  | lst as _ => intro hf; cases hf
end
end Vm

set_option maxHeartbeats 4000000
/-! Vx7: the suite's statements; try. -/
namespace Vm
open PySem L2
variable [ClsMap]
def okR (U : UT) (sc : Scope) (e : SE) (ex : Expr) : Bool := match e with
  | .lst as => (match ex with
    | .List es _ => flatU as && okU U sc as true es
    | _ => false)
  | e => flatU e && okU U sc e false [ex]
def okV (U : UT) (sc : Scope) : SS → List Stmt → Bool
  | .ret e => fun ss => match ss with
    | [.Return (some ex) _] => okR U sc e ex
    | _ => false
  | .if_ c a b => fun ss => match ss with
    | .If ec sa [] _ :: rest => flatU c && okU U sc c false [ec] && okV U sc a sa && okV U sc b rest
    | _ => false
/-- what is wanted of a suite: it returns -/
def WantR1 (K : PySem.W.Frag) (ρ : List Addr) (H : Hp) (R : VK) : Flow → Store → Prop := fun fl st' => ∀ ρ' H', Grow K ρ H ρ' H' → OkS K ρ' st' H' → match fl with
  | .rt v => ∀ w, Rep K ρ' H' v w → R w H'
  | _ => False
section
variable {U : UT} {X : Cx} {ρ : List Addr} {sc : Scope} {a : Addr} {oe : Obj} {pn : List (Addr × Obj)} {c : Nat} {fs : List (Nat × PV)} {σ : L2.St} {H : Hp} {st : Store}
theorem sndR (A : InHand U X X.K ρ sc a oe pn c fs σ H) (ok : OkS X.K ρ st H) {e : SE} {ex : Expr} (h : okR U sc e ex = true) {v : PV} (hv : seV c fs e = some v) {Q : VK}
    (q : WantR1 X.K ρ H Q (.rt (fixv v st).1) (fixv v st).2) : wE (X.suite a ((a, oe) :: pn)) ex σ H Q := by
  have flat : ∀ e, flatU e = true → okU U sc e false [ex] = true → seV c fs e = some v → wE (X.suite a ((a, oe) :: pn)) ex σ H Q := fun e hf h hv => by
    obtain ⟨w, r, ev, _⟩ := (sndU A e hf).e ex v h hv
    have hx : fixv v st = (v, st) := by cases r <;> rfl
    rw [hx] at q
    exact ev Q (q ρ H .refl ok w r)
  unfold okR at h
  split at h
  · rename_i as
    split at h
    · rename_i es pos
      simp only [Bool.and_eq_true] at h
      unfold seV at hv
      split at hv
      · rename_i xs hxs
        split at hv
        · rename_i hz
          cases hv
          obtain ⟨ws, r, ev⟩ := (sndU A as h.1).l es _ h.2 hxs
          refine wE_of (pe_lst pa_w) (ev _ ⟨?_, fun p hp => ?_⟩)
          · have e2 : sizeLine = 16777216 := sizeLine_eq
            have e3 : SZ = 1000000 := rfl
            have e4 : xs.length = ws.length := r.length
            omega
          · have gn : Grow X.K ρ H ρ (upd H p (.lst ws)) := Grow.new ok hp
            have gp : Grow X.K ρ H (ρ ++ [p]) (upd H p (.lst ws)) := Grow.place (st := st) gn hp
            have okp : OkS X.K (ρ ++ [p]) (st ++ [.lst xs]) (upd H p (.lst ws)) := (ok.new hp).place (ok.notfree hp) ⟨ws, upd_same, r.mono gn⟩
            refine q _ _ gp okp (.ref p) (.loc ?_)
            show (ρ ++ [p])[st.length]? = some p
            rw [← ok.len]
            simp
        · cases hv
      · cases hv
    · cases h
  · simp only [Bool.and_eq_true] at h
    exact flat e h.1 h.2 hv
theorem sndV : ∀ (s : SS) (ss : List Stmt) (D : Ends), InHand U X X.K ρ sc a oe pn c fs σ H → OkS X.K ρ st H → okV U sc s ss = true → Aft (sRun c fs s st) (WantR1 X.K ρ H D.rt) (fun _ _ _ => False) → wSs (X.suite a ((a, oe) :: pn)) ss D σ H := by
  intro s
  induction s with
  | ret e =>
    intro ss D A ok h q
    unfold okV at h
    split at h
    · rename_i ex pos
      refine wSs_of (pss_one (ps_ret pe_w)) ?_
      unfold sRun at q
      cases hv : seV c fs e with
      | none => rw [hv] at q; exact q.elim
      | some v =>
        rw [hv] at q
        exact sndR A ok h hv q
    · cases h
  | if_ ce sa sb iha ihb =>
    intro ss D A ok h q
    unfold okV at h
    split at h
    · rename_i ec ta pos rest
      simp only [Bool.and_eq_true] at h
      obtain ⟨⟨⟨h1, h2⟩, h3⟩, h4⟩ := h
      unfold sRun at q
      cases hv : seV c fs ce with
      | none => rw [hv] at q; exact q.elim
      | some v =>
        rw [hv] at q
        cases v with
        | bl k =>
          obtain ⟨w, r, ev, tt, _⟩ := (sndU A ce h1).e ec _ h2 hv
          refine wSs_of (pss_cons (ps_if pt_w pss_w pss_w) pss_w) ?_
          refine tt k rfl _ ?_
          cases k with
          | true => exact iteT (iha ta _ A ok h3 q)
          | false => exact iteF (wSs_of pss_nil (ihb rest D A ok h4 q))
        | _ => exact q.elim
    · cases h
end
end Vm

set_option maxHeartbeats 4000000
/-! Vx8: try, as the machine says it. -/
namespace Vm
open PySem L2
variable [ClsMap]
/-- a class's name, as isinstance asks it -/
structure ClsNm (mg : Str → Option Value) (z : Str) (v : V) (cv : Value) : Prop where
  rel : RelV v cv
  uniq : ∀ u, RelV v u → u = cv
  at_ : mg z = some cv ∨ (mg z = none ∧ bootBuiltins z = some cv ∧ z ≠ "__name__")
structure ErrTxt (T : Tb) (K : PySem.W.Frag) (mg : Str → Option Value) (U : UT) (c : Nat) : Prop where
  xf : XfC K (T.cl c)
  no : ∀ f ∈ U.flds, PySem.W.findIn K (.ref (T.cl c)) (T.fn f) = some none
  hcl : (PySem.W.clsIn K (T.cl c)).isSome = true
  ha : PySem.W.findIn K (.ref (T.cl c)) "__class__" = some (some (.builtin "object.__class__"))
  hn : PySem.W.specialIn K (.builtin "object.__class__") "__get__" = some (some (.builtin "getset_descriptor.__get__"))
  ht : PySem.W.takesIn K (.builtin "object.__class__") = some true
  hm : PySem.W.mroIn K (T.cl c) (.type "object") = some true
  isin : ∀ z cs, U.isin z = some cs → ∃ v cv, ClsNm mg z v cv ∧ PySem.W.kitOne K (.ref (T.cl c)) cv = some (cs.contains c)
section
variable {T : Tb} {X : Cx} {W : WX} {U : UT}
omit [ClsMap] in
theorem repFs_get {K : PySem.W.Frag} {ρ : List Addr} {H : Hp} (inj : ∀ f g, T.fn f = T.fn g → f = g) (f : Nat) (x : PV) : ∀ {fs : List (Nat × PV)} {gs : List (Str × V)}, RepFs T K ρ H fs gs → fs.lookup f = some x → ∃ w, gs.lookup (T.fn f) = some w ∧ Rep K ρ H x w
  | _, _, .nil, h => by cases h
  | _, _, .cons (f := g) r t, h => by
    rw [List.lookup_cons] at h
    rw [List.lookup_cons]
    by_cases e : f = g
    · subst e
      have e1 : (f == f) = true := by simp
      have e2 : (T.fn f == T.fn f) = true := by simp
      rw [e1] at h
      rw [e2]
      cases h
      exact ⟨_, rfl, r⟩
    · have e1 : (f == g) = false := by simpa using e
      have e2 : (T.fn f == T.fn g) = false := by
        rw [beq_eq_false_iff_ne]
        exact fun z => e (inj _ _ z)
      rw [e1] at h
      rw [e2]
      exact repFs_get inj f x t h
/-- isinstance(e, C) -/
theorem ev_isi {a : Addr} {oe : Obj} {pn : List (Addr × Obj)} {σ : L2.St} {H : Hp} {c i : Nat} {d : Option Addr} {fs : List (Nat × PV)} {ρ : List Addr} {z : Str} {v : V} {cv : Value} {b : Bool} (E : ErrTxt T X.K X.mg U c) (hz : Zc (.ref (T.cl c)) d oe) (hf : ∃ vs, oe.data = .fields vs)
    (hd : match d with
      | none => True
      | some dd => ∃ gs, H dd = some (.xd gs)) (hN : X.N[i]? = some U.err) (hv : Vis X.env.scope U.err) (hdb : nmB U.err = true) (hs : σ[i]? = some (some (.ref a))) (C : ClsNm X.mg z v cv) (hk : PySem.W.kitOne X.K (.ref (T.cl c)) cv = some b)
    (hg : Gl X "isinstance") (hmi : X.mg "isinstance" = none) (hgz : Gl X z) (hnz : nmB z = true) (p1 p2 p3 p4 : Pos) : Ev (X.suite a ((a, oe) :: pn)) (.Call (.Name "isinstance" p1) [.Name U.err p2, .Name z p3] [] p4) σ H (.bl b) := by
  intro Q q
  have pz : PE (X.suite a ((a, oe) :: pn)) (.Name z p3) (tC v) := by
    rcases C.at_ with h | ⟨h1, h2, h3⟩
    · exact pe_glob hgz h C.rel (nmB_ok hnz).1
    · exact pe_bltn hgz h1 h2 C.rel h3 (nmB_ok hnz).1
  have cr : CallR (X.suite a ((a, oe) :: pn)) (.builtin "isinstance") (fun xs H' Q => xs = [.ref a, v] ∧ H' = H ∧ Q (.bl b) H) := by
    intro pins s σ' H' xs us Q' I r h
    obtain ⟨rfl, rfl, q'⟩ := h
    cases r with
    | cons rx rr =>
      cases rr with
      | cons rt rr =>
        cases rr
        cases rx
        have ec := C.uniq _ rt
        subst ec
        obtain ⟨hget, _⟩ := I.pin (a, oe) (List.mem_append.mpr (.inl List.mem_cons_self))
        obtain ⟨vs, hvs⟩ := hf
        have hnc : PySem.W.notCls oe = true := by
          unfold PySem.W.notCls
          rw [hvs] <;> rfl
        have J : ∃ od, PySem.W.InstAt s.heap a oe (T.cl c) od := by
          cases d with
          | none => exact ⟨none, hget, hz.1, hnc, by rw [hz.2]; trivial⟩
          | some dd =>
            obtain ⟨gs, hgs⟩ := hd
            have hx : ObjOk X.prog X.w H' s.heap dd (.xd gs) := I.hok dd _ hgs
            obtain ⟨mA, hns, hr⟩ := hx
            obtain ⟨od, ho, hl⟩ := lookIn_ns hns
            exact ⟨some od, hget, hz.1, hnc, by rw [hz.2]; exact ho⟩
        obtain ⟨od, J⟩ := J
        exact PySem.W.kia_one (PySem.W.kitx_exc E.hcl E.xf.ga E.xf.gg E.xf.exC E.ha E.hn E.ht E.hm) I.kIn J hk (fun z => nomatch z) fun tk => ⟨.bl b, H', I.kept (t' := tk) fun _ _ z => z, rfl, q'⟩
  refine wE_of (pe_callB cr hg hmi (by decide +kernel) (pa_cons (pe_var (i := i) hN hv (nmB_ok hdb).1 (nmB_ok hdb).2) (pa_cons pz pa_nil rfl) rfl) (by decide) (by decide) rfl rfl) ?_
  exact ⟨.ref a, hs, rfl, rfl, q⟩
theorem inHand_of {a : Addr} {oe : Obj} {pn : List (Addr × Obj)} {σ : L2.St} {H : Hp} {c i : Nat} {d : Option Addr} {fs : List (Nat × PV)} {ρ : List Addr} {H0 : Hp} (E : ErrTxt T X.K X.mg U c) (inj : ∀ f g, T.fn f = T.fn g → f = g) (hU : U.fn = T.fn) (hz : Zc (.ref (T.cl c)) d oe) (hf : ∃ vs, oe.data = .fields vs)
    (hr : RepXd T X.K H0 ρ H fs d) (hN : X.N[i]? = some U.err) (hv : Vis X.env.scope U.err) (hdb : nmB U.err = true) (hs : σ[i]? = some (some (.ref a))) (hmi : X.mg "isinstance" = none) : InHand U X X.K ρ X.env.scope a oe pn c fs σ H := by
  refine ⟨rfl, ?_, fun f x hff hl => ?_, fun z cs hz' hg hgz hnz p1 p2 p3 p4 => ?_⟩
  · exact fun Q q => wE_of (pe_var (X := X.suite a ((a, oe) :: pn)) (i := i) hN hv (nmB_ok hdb).1 (nmB_ok hdb).2) ⟨_, hs, q⟩
  · cases d with
    | none =>
      rw [show fs = [] from hr] at hl
      cases hl
    | some dd =>
      obtain ⟨gs, h1, h2, h3, h4⟩ := hr
      obtain ⟨w, l1, l2⟩ := repFs_get inj f x h2 hl
      refine ⟨w, l2, fun p q Q qq => ?_⟩
      rw [hU]
      refine wE_of (pe_xf (pos := q) E.xf (E.no f hff) hz hf (pe_var (X := X.suite a ((a, oe) :: pn)) (pos := p) (i := i) hN hv (nmB_ok hdb).1 (nmB_ok hdb).2) (notSup_ok rfl _ _ _)) ?_
      exact ⟨_, hs, rfl, rfl, dd, gs, w, rfl, h1, l1, qq⟩
  · obtain ⟨v, cv, C, hk⟩ := E.isin z cs hz'
    refine ev_isi (c := c) (d := d) (fs := fs) (ρ := ρ) E hz hf ?_ hN hv hdb hs C hk (glB_ok hg) hmi (glB_ok hgz) hnz p1 p2 p3 p4
    cases d with
    | none => trivial
    | some dd => obtain ⟨gs, h1, _⟩ := hr; exact ⟨gs, h1⟩
/-- try: body, except x as n: suite -/
theorem s_try {x : Str} {C : Value} {i : Nat} {kn cs : List Nat} {s : SS} {body suite : List Stmt} {b₀ : Stmt} {np pos pos' : Pos} {nb : Env → Store → Res Flow} (hs : X.stack = X.env :: X.outer) (hf : X.env.frame = some X.env.locals) (hN : X.N.Nodup) (hi : X.N[i]? = some U.err) (hln : X.env.scope.names.lookup U.err = some .local)
    (hc : Names X x C) (tk : Takes X W) (hdb : nmB U.err = true) (hmi : X.mg "isinstance" = none) (inj : ∀ f g, T.fn f = T.fn g → f = g) (hU : U.fn = T.fn) (hE : ∀ c ∈ kn, ErrTxt T X.K X.mg U c) (hex : ∀ c ∈ kn, PySem.W.exmOne X.K (.ref (T.cl c)) C = some (cs.contains c))
    (hb : ∀ (W : WX) (pn : List (Addr × Obj)) (xe : Value → Shared → Prop), Takes (X.tr pn xe) W → PassesOwn (model X.prog X.w) X.A X.env xe → SimSs T (X.tr pn xe) W body nb)
    (hsu : okV U X.env.scope s (b₀ :: suite) = true) :
    SimS T X W (.Try body [.ExceptHandler (some (.Name x np)) (some U.err) (b₀ :: suite) pos'] [] [] pos) (fun ev st => tryR (nb ev st) kn cs s) := fun ρ st H σ ev D ok re q => by
  refine wS_of (ps_try_as (i := i) (tb := fun W D σ H => ∃ ρ st ev, OkS X.K ρ st H ∧ RepE X.K ρ H ev σ ∧ Aft (nb ev st) (WantFl X ρ H D) (WantXS T X W ρ H))
    (ts := fun a cls d D' σ' H' => ∃ c fs ρ st, cls = .ref (T.cl c) ∧ c ∈ kn ∧ OkS X.K ρ st H' ∧ (∃ H0, RepXd T X.K H0 ρ H' fs d) ∧ (∃ σ0 : L2.St, σ' = σ0.set i (some (.ref a))) ∧ Aft (sRun c fs s st) (WantR1 X.K ρ H' D'.rt) (fun _ _ _ => False))
    (Wout := W) hs hf hN hi hln hc tk ?_ ?_) ?_
  · intro W' pn xe tk' hp
    refine ⟨fun pins s' σ' H' D' I h => ?_⟩
    obtain ⟨ρ', st', ev', ok', re', q'⟩ := h
    exact (hb W' pn xe tk' hp) ρ' st' H' σ' ev' D' ok' re' q' pins s' I
  · intro a oe cls d pn hz hfd
    refine ⟨fun pins s' σ' H' D' I h => ?_⟩
    obtain ⟨c, fs, ρ', st', rfl, hk, ok', ⟨H0, hr⟩, ⟨σ0, rfl⟩, q'⟩ := h
    have hlen : i < (σ0.set i (some (.ref a))).length := by
      have e := I.len
      have hl := (List.getElem?_eq_some_iff.mp hi).1
      have e2 : (σ0.set i (some (V.ref a))).length = X.N.length := e
      omega
    have hsl : (σ0.set i (some (.ref a)))[i]? = some (some (V.ref a)) := by
      rw [List.getElem?_set_self (by simpa using hlen)]
    have A := inHand_of (pn := pn) (hE c hk) inj hU hz hfd hr hi (.inl hln) hdb hsl hmi
    exact sndV s (b₀ :: suite) D' A ok' hsu q' pins s' I
  · refine ⟨ρ, st, ev, ok, re, ?_⟩
    cases hr : nb ev st with
    | bad => dsimp only at q; rw [hr] at q; exact q.elim
    | ok fl st1 => dsimp only at q; rw [hr] at q; exact q
    | exc c fs st1 =>
      dsimp only at q
      rw [hr] at q
      intro ρ' H' d σ' g ok' hrd
      unfold tryR at q
      dsimp only at q
      split at q
      · rename_i hk
        have hk' : c ∈ kn := by simpa using hk
        refine ⟨cs.contains c, hex c hk', fun hy a na => ?_, fun hn => ?_⟩
        · rw [hy] at q
          have q : Aft (sRun c fs s st1) (WantFl X ρ H D) (WantXS T X W ρ H) := q
          refine ⟨c, fs, ρ', st1, rfl, hk', ok', ⟨H, hrd⟩, ⟨σ', rfl⟩, ?_⟩
          have only : ∀ (s : SS) (st : Store), Aft (sRun c fs s st) (WantFl X ρ H D) (WantXS T X W ρ H) → Aft (sRun c fs s st) (WantR1 X.K ρ' H' D.rt) (fun _ _ _ => False) := by
            intro s
            induction s with
            | ret e =>
              intro st q
              unfold sRun at q ⊢
              cases hv : seV c fs e with
              | none => rw [hv] at q; exact q.elim
              | some v =>
                rw [hv] at q
                exact fun ρ2 H2 g2 ok2 => q ρ2 H2 (g.trans g2) ok2
            | if_ e sa sb iha ihb =>
              intro st q
              unfold sRun at q ⊢
              cases hv : seV c fs e with
              | none => rw [hv] at q; exact q.elim
              | some v =>
                rw [hv] at q
                cases v with
                | bl k =>
                  cases k with
                  | true => exact iha st q
                  | false => exact ihb st q
                | _ => exact q.elim
          exact only s st1 q
        · rw [hn] at q
          exact q ρ' H' d σ' g ok' hrd
      · exact q.elim
end
end Vm

set_option maxHeartbeats 4000000
/-! Vy1: written dicts of the module, dicts written out, get, index, range of three. -/
namespace Vm
open PySem L2
variable [ClsMap]

/-! ### written dicts -/
/-- at d: a written dict with text keys -/
def KdOk (K : PySem.W.Frag) (w : World) (d : Addr) (kvs : List (List Nat × PV)) : Prop := ∃ es n, KDict K w d es n ∧
  Paired (fun (p : List Nat × PV) (e : DictEntry) => (∃ t, e.key = .str ⟨p.1.toArray⟩ t) ∧ ∃ v, RelV v e.val ∧ ∀ ρ H, Rep K ρ H p.2 v) kvs es.toList
theorem kd_find {K : PySem.W.Frag} {l : List Nat} : ∀ {kvs : List (List Nat × PV)} {es : List DictEntry}, Paired (fun (p : List Nat × PV) (e : DictEntry) => (∃ t, e.key = .str ⟨p.1.toArray⟩ t) ∧ ∃ v, RelV v e.val ∧ ∀ ρ H, Rep K ρ H p.2 v) kvs es →
    (∀ x, kvs.lookup l = some x → ∃ e v, es.find? (fun e => e.key.isStr (⟨l.toArray⟩ : Str)) = some e ∧ RelV v e.val ∧ ∀ ρ H, Rep K ρ H x v) ∧ (kvs.lookup l = none → es.find? (fun e => e.key.isStr (⟨l.toArray⟩ : Str)) = none) ∧ es.any (·.refKey) = false := by
  intro kvs es r
  induction r with
  | nil => exact ⟨fun x h => (by cases h), fun _ => rfl, rfl⟩
  | @cons p e ps es h t ih =>
    obtain ⟨i1, i2, i3⟩ := ih
    obtain ⟨⟨tk, hk⟩, v, hv, hr⟩ := h
    have e1 : e.key.isStr (⟨l.toArray⟩ : Str) = (l == p.1) := by
      rw [hk]
      show ((⟨p.1.toArray⟩ : Str) == ⟨l.toArray⟩) = (l == p.1)
      rw [str_key, Bool.eq_iff_iff, beq_iff_eq, beq_iff_eq]
      exact ⟨fun h => h.symm, fun h => h.symm⟩
    have e3 : e.refKey = false := by
      unfold DictEntry.refKey
      rw [hk]
    refine ⟨fun x hx => ?_, fun hx => ?_, ?_⟩
    · rw [List.lookup_cons] at hx
      rw [List.find?_cons, e1]
      cases hb : l == p.1 with
      | true =>
        rw [hb] at hx
        cases hx
        exact ⟨e, v, rfl, hv, hr⟩
      | false =>
        rw [hb] at hx
        exact i1 x hx
    · rw [List.lookup_cons] at hx
      rw [List.find?_cons, e1]
      cases hb : l == p.1 with
      | true => rw [hb] at hx; cases hx
      | false =>
        rw [hb] at hx
        exact i2 hx
    · rw [List.any_cons, e3, i3]
      rfl
theorem kd_ns {K : PySem.W.Frag} {w : World} {d : Addr} {kvs : List (List Nat × PV)} {es : Array DictEntry} {n : Nat} (D : KDict K w d es n)
    (r : Paired (fun (p : List Nat × PV) (e : DictEntry) => (∃ t, e.key = .str ⟨p.1.toArray⟩ t) ∧ ∃ v, RelV v e.val ∧ ∀ ρ H, Rep K ρ H p.2 v) kvs es.toList) (l : List Nat) :
    (∀ x, kvs.lookup l = some x → ∃ u v, PySem.W.nsIn K d (⟨l.toArray⟩ : Str) = some (some u) ∧ RelV v u ∧ ∀ ρ H, Rep K ρ H x v) ∧ (kvs.lookup l = none → PySem.W.nsIn K d (⟨l.toArray⟩ : Str) = some none) := by
  obtain ⟨i1, i2, i3⟩ := kd_find (l := l) r
  refine ⟨fun x hx => ?_, fun hx => ?_⟩
  · obtain ⟨e, v, h1, h2, h3⟩ := i1 x hx
    refine ⟨e.val, v, ?_, h2, h3⟩
    unfold PySem.W.nsIn
    rw [D.at_]
    dsimp only
    rw [h1]
  · unfold PySem.W.nsIn
    rw [D.at_]
    dsimp only
    rw [i2 hx, i3]
    rfl
section
variable {T : Tb} {X : Cx} {W : WX} {e a b c : Expr} {m ma mb mc : Env → Store → Res PV} {pos : Pos}
theorem kget_some {o : Option PV} {x z : PV} (h : kget o x = some z) : ∃ l kvs, x = .str l ∧ kdOf o = some kvs ∧ kvs.lookup l = some z := by
  unfold kget at h
  split at h
  · obtain ⟨kvs, h1, h2⟩ := Option.bind_eq_some_iff.mp h
    exact ⟨_, kvs, rfl, h1, h2⟩
  · cases h
theorem sim_kix {x : Str} {p : Pos} {g : Option PV} {kvs : List (List Nat × PV)} {d : Addr} (hg : Gl X x) (hm : X.mg x = some (.ref d)) (hn : (x == ("__debug__" : Str)) = false) (hk : kdOf g = some kvs) (D : KdOk X.K X.w d kvs) (hs : PlainIx b) (hb : SimE T X W b mb) :
    SimE T X W (.Subscript (.Name x p) b pos) (fun ev st => (mb ev st).bind fun y st1 => Res.of (kget g y) st1) := fun ρ st H σ ev Q ok re q => by
  refine wE_of (pe_ix ix_kdict (pe_glob hg hm (v := .ref d) rfl hn) pe_w hs) ?_
  refine hb ρ st H σ ev _ ok re ((Aft.bind q).imp (fun y st1 q1 ρ1 H1 vy g1 ok1 r1 => ?_) fun _ _ _ z => z)
  obtain ⟨z, hz, q2⟩ := q1.of
  obtain ⟨l, kvs', rfl, h1, h2⟩ := kget_some hz
  rw [hk] at h1
  cases h1
  obtain ⟨es, n, D1, r⟩ := D
  obtain ⟨u, v, h3, h4, h5⟩ := (kd_ns D1 r l).1 z h2
  exact ⟨d, ⟨l.toArray⟩, v, rfl, r1.1.cases_str, ⟨es, n, u, D1.at_, D1.lit, h3, h4⟩, q2 ρ1 H1 v g1 ok1 (h5 ρ1 H1).r⟩
theorem khas_some {o : Option PV} {x : PV} {r : Bool} (h : khas o x = some r) : ∃ l kvs, x = .str l ∧ kdOf o = some kvs ∧ (kvs.lookup l).isSome = r := by
  unfold khas at h
  split at h
  · obtain ⟨kvs, h1, h2⟩ := Option.map_eq_some_iff.mp h
    exact ⟨_, kvs, rfl, h1, h2⟩
  · cases h
theorem kin_two {x : Str} {p : Pos} {g : Option PV} {kvs : List (List Nat × PV)} {d : Addr} {neg : Bool} (hg : Gl X x) (hm : X.mg x = some (.ref d)) (hn : (x == ("__debug__" : Str)) = false) (hk : kdOf g = some kvs) (D : KdOk X.K X.w d kvs) (ha : SimE T X W a ma)
    {ρ : List Addr} {st : Store} {H : Hp} {σ : L2.St} {ev : Env} {Q : VK} (ok : OkS X.K ρ st H) (re : RepE X.K ρ H ev σ)
    (q : Aft ((ma ev st).bind fun y st1 => Res.of ((khas g y).map fun b => .bl (b != neg)) st1) (WantV X ρ H Q) (WantX T X W ρ H σ)) :
    ∃ r, OpR X (compareOp (if neg then .NotIn else .In)) r ∧ tOp r (wE X a) (tC (.ref d)) σ H Q := by
  obtain ⟨es, n, D1, r⟩ := D
  have key : wE X a σ H fun y H1 => ∃ (z : Str) (u : Option Value), y = .str z ∧ PySem.W.nsIn X.K d z = some u ∧ Q (.bl (u.isSome != neg)) H1 := by
    refine ha ρ st H σ ev _ ok re ((Aft.bind q).imp (fun y st1 q1 ρ1 H1 vy g1 ok1 r1 => ?_) fun _ _ _ z => z)
    obtain ⟨z, hz, q2⟩ := q1.of
    obtain ⟨k, hk2, rfl⟩ := Option.map_eq_some_iff.mp hz
    obtain ⟨l, kvs', rfl, h1, h2⟩ := khas_some hk2
    rw [hk] at h1
    cases h1
    obtain ⟨i1, i2⟩ := kd_ns D1 r l
    cases hl : kvs.lookup l with
    | none =>
      rw [hl] at h2
      refine ⟨⟨l.toArray⟩, none, r1.1.cases_str, i2 hl, ?_⟩
      have e : k = false := h2.symm
      rw [e] at q2
      exact q2 ρ1 H1 _ g1 ok1 (Rep.r (.bl _))
    | some x =>
      rw [hl] at h2
      obtain ⟨u, v, h3, _, _⟩ := i1 x hl
      refine ⟨⟨l.toArray⟩, some u, r1.1.cases_str, h3, ?_⟩
      have e : k = true := h2.symm
      rw [e] at q2
      exact q2 ρ1 H1 _ g1 ok1 (Rep.r (.bl _))
  cases neg with
  | false =>
    refine ⟨_, op_in_kd D1, ?_⟩
    refine fun pins s I => thn (key pins s I) fun u s1 ⟨y, H1, I1, ry, z, o, h1, h2, h3⟩ => ⟨y, H1, I1, ry, z, o, h1, rfl, h2, ?_⟩
    have e : (o.isSome != false) = o.isSome := by simp
    rw [e] at h3
    exact h3
  | true =>
    refine ⟨_, op_notIn_kd D1, ?_⟩
    refine fun pins s I => thn (key pins s I) fun u s1 ⟨y, H1, I1, ry, z, o, h1, h2, h3⟩ => ⟨y, H1, I1, ry, z, o, h1, rfl, h2, ?_⟩
    have e : (o.isSome != true) = !o.isSome := by cases o <;> rfl
    rw [e] at h3
    exact h3
theorem sim_kin {x : Str} {p : Pos} {g : Option PV} {kvs : List (List Nat × PV)} {d : Addr} {neg : Bool} (hg : Gl X x) (hm : X.mg x = some (.ref d)) (hn : (x == ("__debug__" : Str)) = false) (hk : kdOf g = some kvs) (D : KdOk X.K X.w d kvs) (ha : SimE T X W a ma) (hmk : behindInMarks (if neg then CmpOp.NotIn else .In) (.Name x p) = false) :
    SimE T X W (.Compare a [if neg then .NotIn else .In] [.Name x p] pos) (fun ev st => (ma ev st).bind fun y st1 => Res.of ((khas g y).map fun b => .bl (b != neg)) st1) ∧
    SimT T X W (.Compare a [if neg then .NotIn else .In] [.Name x p] pos) (fun ev st => truth ((ma ev st).bind fun y st1 => Res.of ((khas g y).map fun b => .bl (b != neg)) st1)) := by
  refine ⟨fun ρ st H σ ev Q ok re q => ?_, fun ρ st H σ ev Q ok re q => ?_⟩
  · obtain ⟨r, h1, h2⟩ := kin_two (p := p) hg hm hn hk D ha ok re q
    exact wE_of (pe_cmpR h1 pe_w (pe_glob hg hm (v := .ref d) rfl hn) hmk) h2
  · obtain ⟨r, h1, h2⟩ := kin_two (p := p) hg hm hn hk D ha ok re (aft_truth q)
    exact wT_of (pt_cmpR h1 pe_w (pe_glob hg hm (v := .ref d) rfl hn) hmk) h2
end
end Vm

set_option maxHeartbeats 4000000
/-! Vy2: keys of a written dict gone through, get, index, range of three, dicts written out. -/
namespace Vm
open PySem PySem.Spec PyProof.Rows L2
variable [ClsMap]
/-! ### keys of a written dict -/
def ItkK (ks : List V) : It := ⟨fun i _ => i < ks.length, fun i H x H' => H' = H ∧ ks[i]? = some x, fun i _ => ks.length ≤ i⟩
theorem turn_kd {P : Program} {w : World} {K : PySem.W.Frag} {tg : Expr} {d : Addr} {es : Array DictEntry} {n : Nat} (it : Addr) (hl : K.lookup d = some ⟨.type "dict", none, .dict es n, #[]⟩) (ks : List V) (hk : Paired (fun v (e : DictEntry) => RelV v e.key) ks es.toList) :
    Turn P w K tg (ItkK ks) [it] it (fun i h => h.IsKeyIter it d i ks.length n) where
  mem := by simp
  obj := fun i h st b hb => by
    have e : b = it := by simpa using hb
    subst e
    obtain ⟨oi, e, c, dd⟩ := st
    exact ⟨oi, e, fun v z => by rw [dd] at z; cases z⟩
  keep := fun i h h' st k => st.at fun oi e => k it (by simp) oi e
  item := by
    intro X hP hw hK hc i pins s σ H E I hf st hi
    subst hP hw hK
    have hi : i < ks.length := hi
    obtain ⟨f0, f1, f2, f3, f4, f5⟩ := hf it (by simp)
    have hgd := I.kIn _ _ hl
    have hsz : es.size = ks.length := by
      have e : ks.length = es.toList.length := Paired.length hk
      rw [e, Array.length_toList]
    obtain ⟨en, he, hr⟩ := paired_get hk (List.getElem?_eq_getElem hi)
    have hen : es[i]? = some en := by
      rw [Array.getElem?_toList] at he
      exact he
    refine next_key_item st hgd rfl hsz hen fun h' st' sb => ?_
    have I1 : Inv X pins σ H { s with heap := h' } := I.turned (t' := s.toks) (fun b ob hb e => (sb.2 b hb).trans e) f0 f1 f3 f4 f5
    obtain ⟨oi, e, c, dd⟩ := id st'
    exact ⟨en.key, rfl, go_of (s := { s with heap := h' }) e c dd (by decide) ⟨ks[i], H, I1, hr, ⟨rfl, List.getElem?_eq_getElem hi⟩, st', fun b hb => (hf b hb).1⟩⟩
  done := by
    intro X hP hw hK hc i pins s σ H E I hf st hi
    subst hP hw hK
    have hi : ks.length ≤ i := hi
    obtain ⟨f0, f1, f2, f3, f4, f5⟩ := hf it (by simp)
    have hgd := I.kIn _ _ hl
    have hsz : es.size = ks.length := by
      have e : ks.length = es.toList.length := Paired.length hk
      rw [e, Array.length_toList]
    exact next_key_end (I.ok.hd hc) st hgd rfl hsz hi fun h' eb => ⟨rfl, I.turned (t' := s.toks) (fun b ob hb e => eb b ob hb e) f0 f1 f3 f4 f5⟩
  self := fun A i s Q E st h => by
    refine wpAny_pyIter_slot st.typeIs F.slot_dict_keyiterator_iter (wpAny_call_entry F.slot_dict_keyiterator_iter st.typeIs F.entry_dict_keyiterator_iter ?_ (F.args_dict_keyiterator_iter_1 _))
    show wpAny _ _ (ret (.ref it)) _ _ s
    exact wpAny_pure ⟨_, rfl, "dict_keyiterator", _, st.typeIs, F.slot_dict_keyiterator_next.lookup, h⟩
section
variable {T : Tb} {X : Cx} {W : WX} {a b c : Expr} {m ma mb mc : Env → Store → Res PV} {pos : Pos}
theorem pi_kd {tg e : Expr} {d : Addr} {es : Array DictEntry} {n : Nat} (he : PE X e (tC (.ref d))) (D : KDict X.K X.w d es n) (ks : List V) (hk : Paired (fun v (e : DictEntry) => RelV v e.key) ks es.toList) : PI X tg e (fun σ H R => R (ItkK ks) H) := by
  refine ⟨fun pins s σ H R I h => ?_⟩
  refine thn (he.run pins s σ H (fun x H1 => x = .ref d ∧ H1 = H) I ⟨rfl, rfl⟩) fun u s1 ⟨x, H1, I1, rx, ex, eH⟩ => ?_
  subst ex eH
  obtain rfl : u = Value.ref d := rx
  have hgd := I1.kIn _ _ D.at_
  have hsz : es.size = ks.length := by
    have e : ks.length = es.toList.length := Paired.length hk
    rw [e, Array.length_toList]
  refine iter_keys D.low hgd ⟨rfl, rfl, rfl⟩ rfl (pi_one (tk := s1.toks) I1 _ (turn_kd _ D.at_ ks hk) ⟨_, Heap.get?_push_size _ rfl, rfl, ?_⟩ h)
  rw [hsz] <;> rfl
theorem kd_keys {K : PySem.W.Frag} : ∀ {kvs : List (List Nat × PV)} {es : List DictEntry}, Paired (fun (p : List Nat × PV) (e : DictEntry) => (∃ t, e.key = .str ⟨p.1.toArray⟩ t) ∧ ∃ v, RelV v e.val ∧ ∀ ρ H, Rep K ρ H p.2 v) kvs es → Paired (fun v (e : DictEntry) => RelV v e.key) (kvs.map fun p => V.str ⟨p.1.toArray⟩) es := by
  intro kvs es r
  induction r with
  | nil => exact .nil
  | @cons p e ps es h t ih =>
    obtain ⟨⟨tk, hk⟩, _⟩ := h
    exact .cons ⟨tk, hk⟩ ih
theorem simI_kk {tg : Expr} {x : Str} {p : Pos} {g : Option PV} {kvs : List (List Nat × PV)} {d : Addr} (hg : Gl X x) (hm : X.mg x = some (.ref d)) (hn : (x == ("__debug__" : Str)) = false) (hk : kdOf g = some kvs) (D : KdOk X.K X.w d kvs) :
    SimI T X W tg (.Name x p) (fun ev st => (Res.of (kkeys g) st).bind fun v st1 => Res.of (srcOf v st1) st1) := fun ρ st H σ ev R ok re q => by
  obtain ⟨es, n, D1, r⟩ := D
  refine wI_of (pi_kd (pe_glob hg hm (v := .ref d) rfl hn) D1 _ (kd_keys r)) ?_
  unfold kkeys at q
  rw [hk] at q
  refine q ρ H _ .refl ok fun ρ' H' g' => ⟨fun i y hy => ?_, fun i hi => ?_⟩
  · rw [List.getElem?_map] at hy
    obtain ⟨kv, h1, rfl⟩ := Option.map_eq_some_iff.mp hy
    have hi := (List.getElem?_eq_some_iff.mp h1).1
    refine ⟨by show i < (kvs.map fun p => V.str ⟨p.1.toArray⟩).length; simpa using hi, fun v H2 y => ?_⟩
    obtain ⟨e, y⟩ := y
    rw [List.getElem?_map, h1] at y
    cases y
    exact ⟨e, .str _⟩
  · show (kvs.map fun p => V.str ⟨p.1.toArray⟩).length ≤ i
    simpa using hi
/-! ### get -/
theorem m1_of {a b : Expr} {m : Str} {apos cpos : Pos} (hb : attributeBase a m X.env (eval a X.env) = eval a X.env) (hl : (apos.endLine == cpos.line) = true) (hs : starEach [b] X.env = (false, eval b X.env) :: starEach [] X.env) : M1 X a m apos b cpos :=
  ⟨hb, by rw [hs]; rfl, hl, by rw [hs]; rfl⟩
theorem m2_of {a b c : Expr} {m : Str} {apos cpos : Pos} (hb : attributeBase a m X.env (eval a X.env) = eval a X.env) (hl : (apos.endLine == cpos.line) = true) (hs : starEach [b, c] X.env = (false, eval b X.env) :: starEach [c] X.env) (hs2 : starEach [c] X.env = (false, eval c X.env) :: starEach [] X.env) : M2 X a m apos b c cpos :=
  ⟨hb, by rw [hs, hs2]; rfl, hl, by rw [hs, hs2]; rfl⟩
theorem getV_ok {K : PySem.W.Frag} {ρ : List Addr} {H : Hp} {st : Store} {x y z r : PV} {v w u : V} (ok : OkS K ρ st H) (rx : RepX K ρ H x v) (ry : RepX K ρ H y w) (rz : Rep K ρ H z u) (h : getV x y z st = some r) : ∃ a o, v = .ref a ∧ DGet H a w o ∧ Rep K ρ H r (o.getD u) := by
  unfold getV at h
  cases hd : dv st x with
  | none => rw [hd] at h; cases h
  | some kvs =>
    rw [hd] at h
    dsimp only at h
    split at h
    · rename_i hk
      cases h
      obtain ⟨a, qs, rfl, h1, h2⟩ := dv_ok ok rx hd
      obtain ⟨j, hj⟩ := keyOk_some hk
      have e := keyV_rep ry hj
      subst e
      refine ⟨a, valV qs j, rfl, .inl ⟨qs, j, h1, rfl, rfl⟩, ?_⟩
      have g := dget_ok hj h2
      cases hg : dget kvs y with
      | none =>
        rw [hg] at g
        have g : valV qs j = none := g
        rw [g]
        exact rz
      | some x' =>
        rw [hg] at g
        obtain ⟨v', g1, g2⟩ := (show ∃ v, valV qs j = some v ∧ Rep K ρ H x' v from g)
        rw [g1]
        exact g2
    · cases h
theorem isD_ok {K : PySem.W.Frag} {ρ : List Addr} {H : Hp} {st : Store} {x : PV} {v : V} (ok : OkS K ρ st H) (rx : RepX K ρ H x v) (h : (dv st x).isSome = true) : ∃ a, v = .ref a ∧ IsD H a := by
  obtain ⟨kvs, hd⟩ := Option.isSome_iff_exists.mp h
  obtain ⟨a, qs, rfl, h1, _⟩ := dv_ok ok rx hd
  exact ⟨a, rfl, .inl ⟨qs, h1⟩⟩
theorem sim_get1 {apos cpos : Pos} (hu : X.A.units + 1 < cLine) (hb : attributeBase a "get" X.env (eval a X.env) = eval a X.env) (hl : (apos.endLine == cpos.line) = true)
    (hs : starEach [b] X.env = (false, eval b X.env) :: starEach [] X.env) (ha : SimE T X W a ma) (hbb : SimE T X W b mb) :
    SimE T X W (.Call (.Attribute a "get" apos) [b] [] cpos) (fun ev st => (ma ev st).bind fun x st1 => guardR (mOk .get x st1) <| (fixR (mb ev st1)).bind fun y st2 => mthR (mth1 .get x y st2)) := fun ρ st H σ ev Q ok re q => by
  refine wE_of (pe_dget1 hu pe_w pe_w (m1_of hb hl hs)) ?_
  refine ha ρ st H σ ev _ ok re ((Aft.bind q).imp (fun x st1 q1 ρ1 H1 vx g1 ok1 r1 => ?_) fun _ _ _ z => z)
  obtain ⟨h0, q1⟩ := q1.guard
  obtain ⟨d, rfl, hd⟩ := isD_ok ok1 r1.1 h0
  refine ⟨d, rfl, hd, ?_⟩
  refine hbb ρ1 st1 H1 σ ev _ ok1 (re.mono g1) ((aft_fixB (X := X) q1 (fun y st2 q2 ρ2 H2 vy g2 ok2 r2 => ?_)).imp (fun _ _ z => z) fun _ _ _ => WantX.from g1)
  obtain ⟨v, st3, h1, q3⟩ := aft_mthR q2
  obtain ⟨r, h2, h3⟩ := Option.map_eq_some_iff.mp (show (getV x y .non st2).map (fun v => (v, st2)) = some (v, st3) from h1)
  cases h3
  obtain ⟨d', o, e, h4, h5⟩ := getV_ok ok2 (r1.1.mono g2) r2.x .non h2
  cases e
  exact ⟨o, h4, q3 ρ2 H2 _ (g1.trans g2) ok2 h5.r⟩
theorem sim_get2 {apos cpos : Pos} (hu : X.A.units + 1 < cLine) (hb : attributeBase a "get" X.env (eval a X.env) = eval a X.env) (hl : (apos.endLine == cpos.line) = true)
    (hs : starEach [b, c] X.env = (false, eval b X.env) :: starEach [c] X.env) (hs2 : starEach [c] X.env = (false, eval c X.env) :: starEach [] X.env) (ha : SimE T X W a ma) (hbb : SimE T X W b mb) (hcc : SimE T X W c mc) :
    SimE T X W (.Call (.Attribute a "get" apos) [b, c] [] cpos) (fun ev st => (ma ev st).bind fun x st1 => guardR (mOk .get x st1) <| (fixR (mb ev st1)).bind fun y st2 => (fixR (mc ev st2)).bind fun z st3 => mthR (mth2 .get x y z st3)) := fun ρ st H σ ev Q ok re q => by
  refine wE_of (pe_dget2 hu pe_w pe_w pe_w (m2_of hb hl hs hs2)) ?_
  refine ha ρ st H σ ev _ ok re ((Aft.bind q).imp (fun x st1 q1 ρ1 H1 vx g1 ok1 r1 => ?_) fun _ _ _ z => z)
  obtain ⟨h0, q1⟩ := q1.guard
  obtain ⟨d, rfl, hd⟩ := isD_ok ok1 r1.1 h0
  refine ⟨d, rfl, hd, ?_⟩
  refine hbb ρ1 st1 H1 σ ev _ ok1 (re.mono g1) ((aft_fixB (X := X) q1 (fun y st2 q2 ρ2 H2 vy g2 ok2 r2 => ?_)).imp (fun _ _ z => z) fun _ _ _ => WantX.from g1)
  refine hcc ρ2 st2 H2 σ ev _ ok2 ((re.mono g1).mono g2) ((aft_fixB (X := X) q2 (fun z st3 q3 ρ3 H3 vz g3 ok3 r3 => ?_)).imp (fun _ _ z => z) fun _ _ _ => WantX.from (g1.trans g2))
  obtain ⟨v, st4, h1, q4⟩ := aft_mthR q3
  obtain ⟨r, h2, h3⟩ := Option.map_eq_some_iff.mp (show (getV x y z st3).map (fun v => (v, st3)) = some (v, st4) from h1)
  cases h3
  obtain ⟨d', o, e, h4, h5⟩ := getV_ok ok3 ((r1.1.mono g2).mono g3) (r2.mono g3).x r3 h2
  cases e
  exact ⟨o, h4, q4 ρ3 H3 _ ((g1.trans g2).trans g3) ok3 h5.r⟩
/-! ### index -/
theorem RepL.flats {K : PySem.W.Frag} {ρ : List Addr} {H : Hp} {xs : List PV} {vs : List V} (r : RepL K ρ H xs vs) (h : xs.all flat = true) : vs.all flatV = true := flats_V r h
theorem sim_index {apos cpos : Pos} (hb : attributeBase a "index" X.env (eval a X.env) = eval a X.env) (hl : (apos.endLine == cpos.line) = true)
    (hs : starEach [b] X.env = (false, eval b X.env) :: starEach [] X.env) (ha : SimE T X W a ma) (hbb : SimE T X W b mb) :
    SimE T X W (.Call (.Attribute a "index" apos) [b] [] cpos) (fun ev st => (ma ev st).bind fun x st1 => guardR (mOk .index x st1) <| (fixR (mb ev st1)).bind fun y st2 => mthR (mth1 .index x y st2)) := fun ρ st H σ ev Q ok re q => by
  refine wE_of (pe_bm PySem.F.plainAttrs_list PySem.F.slot_list_index PySem.F.type_list_index mt_index pe_w (pa_cons pe_w pa_nil hs) hb (by rw [hs]; rfl) hl hs rfl) ?_
  refine ha ρ st H σ ev _ ok re ((Aft.bind q).imp (fun x st1 q1 ρ1 H1 vx g1 ok1 r1 => ?_) fun _ _ _ z => z)
  obtain ⟨h0, q1⟩ := q1.guard
  obtain ⟨xs0, hm0⟩ := Option.isSome_iff_exists.mp (show (lv st1 x).isSome = true from h0)
  obtain ⟨d, vs0, rfl, h30, _⟩ := lv_ok ok1 r1.1 hm0
  refine ⟨.inl ⟨rfl, vs0, h30⟩, ?_⟩
  refine hbb ρ1 st1 H1 σ ev _ ok1 (re.mono g1) ((aft_fixB (X := X) q1 (fun y st2 q2 ρ2 H2 vy g2 ok2 r2 => ?_)).imp (fun _ _ z => z) fun _ _ _ => WantX.from g1)
  obtain ⟨v, st3, h1, q3⟩ := aft_mthR q2
  obtain ⟨r, h2, h3⟩ := Option.map_eq_some_iff.mp (show ((lv st2 x).bind (indexL y)).map (fun v => (v, st2)) = some (v, st3) from h1)
  cases h3
  obtain ⟨xs, h4, h5⟩ := Option.bind_eq_some_iff.mp h2
  unfold indexL at h5
  split at h5
  · rename_i hf
    rw [Bool.and_eq_true] at hf
    obtain ⟨j, h6, rfl⟩ := Option.map_eq_some_iff.mp h5
    obtain ⟨d', vs, e, h7, h8⟩ := lv_ok ok2 (r1.1.mono g2) h4
    cases e
    have hj := List.findIdx?_eq_some_iff_getElem.mp h6
    obtain ⟨hjl, hje, hjn⟩ := hj
    obtain ⟨w, hw1, hw2⟩ := h8.get (List.getElem?_eq_getElem hjl)
    have fl : ∀ z ∈ xs, flat z = true := fun z hz => List.all_eq_true.mp hf.2 z hz
    refine ⟨d, vs, vy, j, w, rfl, rfl, h7, flat_V r2.x hf.1, flats_V h8 hf.2, hw1, ?_, fun m z' hm hz' => ?_, q3 ρ2 H2 _ (g1.trans g2) ok2 (Rep.r (.int _))⟩
    · rw [eqF_V hw2.x r2.x (fl _ (List.getElem_mem hjl)) hf.1]
      exact hje
    · obtain ⟨y', hy1, hy2⟩ := h8.get' hz'
      obtain ⟨hml, hme⟩ := List.getElem?_eq_some_iff.mp hy1
      rw [eqF_V hy2.x r2.x (by rw [← hme]; exact fl _ (List.getElem_mem hml)) hf.1, ← hme]
      have := hjn m hm
      simpa using this
  · cases h5
/-! ### range of three -/
/-- a step that is written -/
def stepC : Expr → Option Int
  | .UnaryOp .USub (.Constant (.int k) _ _) _ => some (-k)
  | .BinOp (.Constant (.int i) _ _) .Sub (.Constant (.int j) _ _) _ => some (i - j)
  | _ => none
theorem step_ok {c : Expr} {k : Int} (h : stepC c = some k) : ∀ {σ : L2.St} {H : Hp} {Q : VK}, Q (.int k) H → wE X c σ H Q := by
  unfold stepC at h
  split at h
  · cases h
    intro σ H Q q
    exact wE_of (pe_un un_neg pe_int) ⟨_, rfl, q⟩
  · cases h
    intro σ H Q q
    exact wE_of (pe_op op_sub pe_int pe_int) ⟨_, _, rfl, rfl, q⟩
  · cases h
theorem simI_rng3 {tg : Expr} {p : Pos} {k : Int} (hg : Gl X "range") (hm : X.mg "range" = none) (hc : stepC c = some k) (hs : starEach [a, b, c] X.env = (false, eval a X.env) :: starEach [b, c] X.env) (hs2 : starEach [b, c] X.env = (false, eval b X.env) :: starEach [c] X.env) (hs3 : starEach [c] X.env = (false, eval c X.env) :: starEach [] X.env) (ha : SimE T X W a ma) (hb : SimE T X W b mb) :
    SimI T X W tg (.Call (.Name "range" p) [a, b, c] [] pos) (fun ev st => (ma ev st).bind fun v st1 => (mb ev st1).bind fun w st2 => Res.of (rng3Of k v w) st2) := fun ρ st H σ ev R ok re q => by
  refine wI_of (pi_range3 hg hm (pa_cons pe_w (pa_cons pe_w (pa_cons pe_w pa_nil hs3) hs2) hs) hs (by rw [hs2, hs3]; rfl)) ?_
  refine ha ρ st H σ ev _ ok re ((Aft.bind q).imp (fun x st1 q1 ρ1 H1 vx g1 ok1 r1 => ?_) fun _ _ _ z => z)
  refine hb ρ1 st1 H1 σ ev _ ok1 (re.mono g1) ((Aft.bind q1).imp (fun y st2 q2 ρ2 H2 vy g2 ok2 r2 => ?_) fun _ _ _ => WantX.from g1)
  refine step_ok hc ?_
  obtain ⟨src, h1, q3⟩ := q2.of
  unfold rng3Of at h1
  split at h1
  · rename_i i j
    split at h1
    · rename_i hj
      cases h1
      obtain ⟨hi, hj, rfl⟩ := hj
      have e1 := (r1.mono g2).1.cases_int
      have e2 := r2.1.cases_int
      subst e1 e2
      have e62 : R62 = 2 ^ 62 := by decide
      refine ⟨i, j, -1, (i - j).toNat, rfl, RgC.neg (by omega) (by omega) (by omega) (by omega), q3 ρ2 H2 _ (g1.trans g2) ok2 fun ρ' H' g' => ⟨fun t z hz => ?_, fun t ht => ?_⟩⟩
      · rw [List.getElem?_map] at hz
        obtain ⟨t', h2, rfl⟩ := Option.map_eq_some_iff.mp hz
        obtain ⟨h3, h4⟩ := List.getElem?_eq_some_iff.mp h2
        simp at h3 h4
        subst h4
        refine ⟨by show t < (i - j).toNat; omega, fun v H2 y => ?_⟩
        obtain ⟨e, rfl⟩ := y
        exact ⟨e, .int _⟩
      · show (i - j).toNat ≤ t
        simpa using ht
    · cases h1
  · cases h1
end
end Vm

set_option maxHeartbeats 4000000
/-! Vy3: dicts written out. -/
namespace Vm
open PySem L2
variable [ClsMap]
section
variable {K : PySem.W.Frag} {ρ ρ' : List Addr} {H H' : Hp}
/-- a dict that takes no place is changed: from before it was made -/
theorem Grow.offK {D : Addr} {vs : List (Key × V)} {o : HO} {ρ0 : List Addr} {H0 : Hp} (g : Grow K ρ0 H0 ρ H) (h0 : H0 D = none) (hD : H D = some (.dK vs)) : Grow K ρ0 H0 ρ (upd H D o) := by
  refine ⟨g.pre, fun a xs q => ?_, fun a xs q => ?_, fun a u q n => ?_, fun a q => ?_⟩
  · rcases g.tups a xs q with r | r
    · have ha : a ≠ D := fun z => by
        rw [z] at r
        rcases r with r | ⟨o', r⟩ <;> (rw [hD] at r; cases r)
      refine .inl ?_
      rcases r with r | ⟨o', r⟩
      · exact .inl (by rw [upd_ne ha]; exact r)
      · exact .inr ⟨o', by rw [upd_ne ha]; exact r⟩
    · exact .inr r
  · rcases g.frzs a xs q with ⟨o', r⟩ | r
    · have ha : a ≠ D := fun z => by
        rw [z, hD] at r
        cases r
      exact .inl ⟨o', by rw [upd_ne ha]; exact r⟩
    · exact .inr r
  · obtain ⟨q1, n1⟩ := g.outs a u q n
    refine ⟨?_, n1⟩
    rw [upd_ne (ne_of_none q h0)]
    exact q1
  · by_cases e : a = D
    · rw [e]
      exact h0
    · rw [upd_ne e] at q
      exact g.back a q
theorem Kp.offK {D : Addr} {vs : List (Key × V)} {o : HO} (hD : H D = some (.dK vs)) : Kp K ρ H ρ (upd H D o) := by
  refine ⟨⟨[], by simp⟩, fun a xs q => ?_, fun a xs q => ?_⟩
  · rcases q with r | r
    · have ha : a ≠ D := fun z => by
        rw [z] at r
        rcases r with r | ⟨o', r⟩ <;> (rw [hD] at r; cases r)
      refine .inl ?_
      rcases r with r | ⟨o', r⟩
      · exact .inl (by rw [upd_ne ha]; exact r)
      · exact .inr ⟨o', by rw [upd_ne ha]; exact r⟩
    · exact .inr r
  · rcases q with ⟨o', r⟩ | r
    · have ha : a ≠ D := fun z => by
        rw [z, hD] at r
        cases r
      exact .inl ⟨o', by rw [upd_ne ha]; exact r⟩
    · exact .inr r
theorem OkS.offK {st : Store} (ok : OkS K ρ st H) {D : Addr} {vs : List (Key × V)} {o : HO} (hD : H D = some (.dK vs)) (hn : D ∉ ρ) : OkS K ρ st (upd H D o) :=
  ⟨ok.len, ok.nd, fun i a c h1 h2 => (ok.cell i a c h1 h2).kp (Kp.offK hD) (upd_ne fun z => hn (z ▸ List.mem_iff_getElem?.mpr ⟨i, h1⟩))⟩
end
section
variable (X : Cx)
/-- one after the other -/
def wSeq : List Expr → L2.St → Hp → (List V → Hp → Prop) → Prop
  | [], _, H, Q => Q [] H
  | e :: es, σ, H, Q => wE X e σ H fun x H1 => wSeq es σ H1 fun vs H2 => Q (x :: vs) H2
def SimQ (T : Tb) (W : WX) (es : List Expr) (m : Env → Store → Res PV) : Prop := ∀ ρ st H σ ev Q, OkS X.K ρ st H → RepE X.K ρ H ev σ → Aft (m ev st) (WantL X ρ H Q) (WantX T X W ρ H σ) → wSeq X es σ H Q
end
section
variable {T : Tb} {X : Cx} {W : WX} {e : Expr} {es : List Expr} {m ma mb : Env → Store → Res PV} {pos : Pos}
theorem wE_mono {σ : L2.St} {H : Hp} {Q Q' : VK} (h : wE X e σ H Q) (f : ∀ x H', Q x H' → Q' x H') : wE X e σ H Q' := fun pins s I => thn (h pins s I) fun u s1 ⟨x, H1, I1, r, q⟩ => ⟨x, H1, I1, r, f x H1 q⟩
theorem wSeq_mono : ∀ {es : List Expr} {σ : L2.St} {H : Hp} {Q Q' : List V → Hp → Prop}, wSeq X es σ H Q → (∀ vs H', Q vs H' → Q' vs H') → wSeq X es σ H Q'
  | [], _, _, _, _, h, f => f _ _ h
  | e :: es, _, _, _, _, h, f => wE_mono h fun x H1 q => wSeq_mono q fun vs H2 z => f _ _ z
theorem simQ_nil : SimQ X T W [] (fun _ st => .ok (.tup []) st) := fun ρ st H σ ev Q ok re q => q ρ H [] .refl ok .nil
theorem simQ_cons (ha : SimE T X W e ma) (hb : SimQ X T W es mb) : SimQ X T W (e :: es) (fun ev st => (fixR (ma ev st)).bind fun x st1 => (mb ev st1).bind fun xs st2 => .ok (.tup (x :: tupOf xs)) st2) := fun ρ st H σ ev Q ok re q => by
  refine ha ρ st H σ ev _ ok re (aft_fixB (X := X) q fun x st1 q1 ρ1 H1 v g1 ok1 r1 => ?_)
  refine hb ρ1 st1 H1 σ ev _ ok1 (re.mono g1) ((Aft.bind q1).imp (fun xs st2 q2 ρ2 H2 vs g2 ok2 r2 => ?_) fun _ _ _ => WantX.from g1)
  exact q2 ρ2 H2 (v :: vs) (g1.trans g2) ok2 (.cons (r1.mono g2) r2)
/-- a written dict's keys and values in turn -/
def dispE : List (Option Expr) → List Expr → Option (List Expr)
  | [], [] => some []
  | some k :: ks, v :: vs => (dispE ks vs).map fun es => k :: v :: es
  | _, _ => none
def trsE (X : Cx) : List (Option Expr) → List Expr → List (TE × TE)
  | some k :: ks, v :: vs => (wE X k, wE X v) :: trsE X ks vs
  | _, _ => []
def flat2 : List (V × V) → List V
  | [] => []
  | (x, y) :: r => x :: y :: flat2 r
theorem disp_ok : ∀ {ks : List (Option Expr)} {vs es : List Expr}, dispE ks vs = some es → PPs X pos ks vs (trsE X ks vs) ∧ ks.all (·.isSome) = true ∧ ks.length = vs.length ∧
    ∀ (σ : L2.St) (H : Hp) (Q : List (V × V) → Hp → Prop), wSeq X es σ H (fun ws H' => ∀ ps, ws = flat2 ps → Q ps H') → tPairs (trsE X ks vs) σ H Q
  | [], [], es, h => by
    cases h
    exact ⟨pps_nil, rfl, rfl, fun σ H Q q => q [] rfl⟩
  | some k :: ks, v :: vs, es, h => by
    obtain ⟨es', h1, rfl⟩ := Option.map_eq_some_iff.mp h
    obtain ⟨i1, i2, i3, i4⟩ := disp_ok h1
    refine ⟨pps_cons pe_w pe_w i1, by simpa using i2, by simp [i3], fun σ H Q q => ?_⟩
    refine wE_mono q fun x H1 q1 => wE_mono q1 fun y H2 q2 => i4 σ H2 _ (wSeq_mono q2 fun ws H3 q3 ps e => q3 ((x, y) :: ps) (by rw [e]; rfl))
  | none :: _, _, _, h => by cases h
  | some _ :: _, [], _, h => by cases h
  | [], _ :: _, _, h => by cases h
theorem twos_ok {K : PySem.W.Frag} {ρ : List Addr} {H : Hp} : ∀ (n : Nat) {xs : List PV} {vs : List V} {kvs : List (PV × PV)}, xs.length ≤ n → RepL K ρ H xs vs → twos xs = some kvs → ∃ qs : List (Key × V), RepD K ρ H kvs qs ∧ ∀ ps, vs = flat2 ps → ps = qs.map fun kv => (kV kv.1, kv.2)
  | _, [], _, kvs, _, r, h => by
    cases r
    cases h
    refine ⟨[], .nil, fun ps e => ?_⟩
    cases ps with
    | nil => rfl
    | cons p ps => cases e
  | _, [_], _, _, _, _, h => by cases h
  | 0, _ :: _ :: _, _, _, hl, _, _ => by simp at hl
  | n + 1, k :: v :: r, _, kvs, hl, .cons rk (.cons rv rt), h => by
    unfold twos at h
    split at h
    · rename_i hk
      obtain ⟨more, h1, rfl⟩ := Option.map_eq_some_iff.mp h
      obtain ⟨qs, h2, h3⟩ := twos_ok n (by simp at hl; omega) rt h1
      obtain ⟨j, hj⟩ := keyOk_some hk
      have e := keyV_rep rk.x hj
      subst e
      refine ⟨(j, _) :: qs, .cons hj rv h2, fun ps e => ?_⟩
      match ps, e with
      | (x, y) :: ps, e =>
        simp only [flat2, List.cons.injEq] at e
        obtain ⟨rfl, rfl, e⟩ := e
        rw [List.map_cons, ← h3 ps e]
    · cases h
theorem sim_ddisp {ks : List (Option Expr)} {vs es : List Expr} (hd : dispE ks vs = some es) (h0 : ks ≠ []) (h15 : ks.length ≤ 15) (h : SimQ X T W es m) :
    SimE T X W (.Dict ks vs pos) (fun ev st => (m ev st).bind fun v st1 => (Res.of (twos (tupOf v)) st1).bind fun kvs st2 => guardR (decide (kvs.length ≤ 15)) (.ok (.loc st2.length) (st2 ++ [.dic false (kvs.foldl (fun acc p => dput acc p.1 p.2) [])]))) := fun ρ st H σ ev Q ok re q => by
  obtain ⟨i1, i2, i3, i4⟩ := disp_ok (X := X) (pos := pos) hd
  refine wE_of (pe_disp i1 i2 i3 h0 h15) fun p hp => i4 σ _ _ ?_
  have g0 := Grow.new (K := X.K) (o := HO.dK []) ok hp
  refine h ρ st _ σ ev _ (ok.new hp) (re.mono g0) ((Aft.bind q).imp (fun v st1 q1 ρ2 H2 ws g2 ok2 r2 ps eps => ?_) fun _ _ _ => WantX.from g0)
  obtain ⟨hp2, hn2⟩ := g2.outs p _ upd_same (ok.notfree hp)
  cases ht : twos (tupOf v) with
  | none => rw [ht] at q1; exact q1.elim
  | some kvs =>
    rw [ht] at q1
    obtain ⟨hz, q2⟩ := (show Aft (guardR (decide (kvs.length ≤ 15)) (.ok (.loc st1.length) (st1 ++ [.dic false (kvs.foldl (fun acc p => dput acc p.1 p.2) [])]))) (WantV X ρ H Q) (WantX T X W ρ H σ) from q1).guard
    obtain ⟨qs, h2, h3⟩ := twos_ok _ (Nat.le_refl _) r2 ht
    have e := h3 ps eps
    refine ⟨hp2, qs, e, by rw [← h2.length]; exact of_decide_eq_true hz, ?_⟩
    have g3 := ((g0.trans g2).offK (o := HO.dK (mergeK [] qs)) hp hp2).place (st := st) hp
    have ok3 := (ok2.offK (o := HO.dK (mergeK [] qs)) hp2 hn2).place hn2 (c := .dic false _) ⟨_, upd_same, ((merge_ok h2 .nil).kp (Kp.offK hp2))⟩
    refine q2 (ρ2 ++ [p]) _ _ g3 ok3 (Rep.r (.loc ?_))
    rw [← ok2.len, List.getElem?_append_right (Nat.le_refl _), Nat.sub_self]
    rfl
end
end Vm

set_option maxHeartbeats 8000000
/-! Vm10: compiled code against the text: a check that is decided by computing, and what it gives. -/
namespace Vm
open PySem L2
variable [ClsMap]

/-- a class: its name, its fields, its methods' defs, the def of __init__ -/
structure Cl where
  name : Str
  fields : List (List Nat)
  meths : List (List Nat × Nat)
  init : Nat
structure Er where
  name : Str
  ks : List Nat
structure Tabs where
  fn : Nat → Option Fn
  /-- defs that are called by their names -/
  top : Nat → Bool
  fname : Nat → Str
  gl : Nat → Option PV
  gname : Nat → Str
  /-- a written dict -/
  kd : Nat → Bool
  free : List Str
  cls : Nat → Option Cl
  err : Nat → Option Er
  /-- all errors that may be met in a try -/
  errAll : List Nat
  efn : Nat → Str
  eflds : List Nat
  isin : Str → Option (List Nat)
  exm : Str → Option (List Nat)
def Tabs.ut (Γ : Tabs) (n : Str) : UT := ⟨n, Γ.efn, Γ.eflds, Γ.isin⟩
def fldC (Γ : Tabs) (cs : List Nat) (f : List Nat) : Bool := cs.all fun c => match Γ.cls c with
  | some cl => cl.fields.contains f
  | none => false
def metC (Γ : Tabs) (m : List Nat) (np : Nat) (tab : List (Nat × Nat)) : Bool := tab.all fun p => match Γ.cls p.1 with
  | some cl => decide (cl.meths.lookup m = some p.2) && (match Γ.fn p.2 with
    | some c => decide (c.np = np)
    | none => false)
  | none => false

/-- may stand as a test -/
def tOk : Expr → Bool
  | .IfExp _ _ _ _ => false
  | _ => true
def nameOf : Expr → Option Str
  | .Name x _ => some x
  | _ => none
def namesOf : List Expr → Option (List Str)
  | [] => some []
  | e :: es => match nameOf e, namesOf es with
    | some x, some xs => some (x :: xs)
    | _, _ => none
/-- a target's names with their slots -/
def ownOf : Expr → List Nat → Option (List (Str × Nat))
  | .Name x _, [i] => some [(x, i)]
  | .Tuple es _ _, is => if is.length = 1 || !(es.length == is.length) then none else (namesOf es).map fun (xs : List Str) => xs.zip is
  | _, _ => none
/-- the scope of a comprehension's block stores the name -/
def ownB (scope : Scope) (own : List (Str × Nat)) : Bool := own.all fun p => stoB scope p.1

def kkOk (Γ : Tabs) (a : CE) (sc : Scope) (x : Str) : Bool := match a with
  | .kks g => decide (Γ.gname g = x) && glB sc x && nmB x && Γ.kd g
  | _ => false
def ok (Γ : Tabs) (N : List Str) : CE → Bool → Scope → List Expr → Bool
  | .nil => fun arg sc es => match arg, es with
    | true, es => es.isEmpty
    | _, _ => false
  | .cons a as => fun arg sc es => match arg, es with
    | true, e :: es => notStar e && ok Γ N a false sc [e] && ok Γ N as true sc es
    | _, _ => false
  | .lit v => fun arg sc es => match arg, es with
    | false, [.Constant c _ _] => litOk v c
    | _, _ => false
  | .var i => fun arg sc es => match arg, es with
    | false, [.Name x _] => decide (N[i]? = some x) && visB sc x && nmB x
    | _, _ => false
  | .glob g => fun arg sc es => match arg, es with
    | false, [.Name x _] => decide (Γ.gname g = x) && glB sc x && nmB x && (Γ.gl g).isSome && !Γ.kd g
    | _, _ => false
  | .tup as => fun arg sc es => match arg, es with
    | false, [.Tuple es _ _] => ok Γ N as true sc es
    | _, _ => false
  | .lst as => fun arg sc es => match arg, es with
    | false, [.List es _] => ok Γ N as true sc es
    | _, _ => false
  | .bin o a b => fun arg sc es => match arg, es with
    | false, [.BinOp ea op eb _] => decide (bopOf o = op) && ok Γ N a false sc [ea] && ok Γ N b false sc [eb]
    | _, _ => false
  | .cmp o a b => fun arg sc es => match arg, es with
    | false, [.Compare ea [op] [eb] _] => decide (copOf o = op) && notSet eb && ok Γ N a false sc [ea] && ok Γ N b false sc [eb]
    | _, _ => false
  | .cmp2 o o' a b c => fun arg sc es => match arg, es with
    | false, [.Compare ea [op, op'] [eb, ec] _] => decide (copOf o = op) && decide (copOf o' = op') && notSet ec && ok Γ N a false sc [ea] && ok Γ N b false sc [eb] && ok Γ N c false sc [ec]
    | _, _ => false
  | .and a b => fun arg sc es => match arg, es with
    | false, [.BoolOp op (e1 :: e2 :: rest) pos] => decide (op = .And) && tOk e1 && ok Γ N a false sc [e1] && (match rest with
      | [] => tOk e2 && ok Γ N b false sc [e2]
      | _ => ok Γ N b false sc [.BoolOp op (e2 :: rest) pos])
    | _, _ => false
  | .or a b => fun arg sc es => match arg, es with
    | false, [.BoolOp op (e1 :: e2 :: rest) pos] => decide (op = .Or) && tOk e1 && ok Γ N a false sc [e1] && (match rest with
      | [] => tOk e2 && ok Γ N b false sc [e2]
      | _ => ok Γ N b false sc [.BoolOp op (e2 :: rest) pos])
    | _, _ => false
  | .not a => fun arg sc es => match arg, es with
    | false, [.UnaryOp op ea _] => decide (op = .Not) && tOk ea && ok Γ N a false sc [ea]
    | _, _ => false
  | .neg a => fun arg sc es => match arg, es with
    | false, [.UnaryOp op ea _] => decide (op = .USub) && ok Γ N a false sc [ea]
    | _, _ => false
  | .ite c a b => fun arg sc es => match arg, es with
    | false, [.IfExp ec ea eb _] => tOk ec && ok Γ N c false sc [ec] && ok Γ N a false sc [ea] && ok Γ N b false sc [eb]
    | _, _ => false
  | .ix a b => fun arg sc es => match arg, es with
    | false, [.Subscript ea eb _] => notSlice eb && ok Γ N a false sc [ea] && ok Γ N b false sc [eb]
    | _, _ => false
  | .sl a lo hi => fun arg sc es => match arg, es with
    | false, [.Subscript ea (.Slice elo ehi none _) _] => ok Γ N a false sc [ea] && (match elo with
        | none => isNo lo
        | some x => !isNo lo && ok Γ N lo false sc [x]) && (match ehi with
        | none => isNo hi
        | some x => !isNo hi && ok Γ N hi false sc [x])
    | _, _ => false
  | .call f as => fun arg sc es => match arg, es with
    | false, [.Call (.Name x _) es [] _] => decide (Γ.fname f = x) && Γ.top f && glB sc x && nmB x && es.all notStar && ok Γ N as true sc es && (match Γ.fn f with
        | some c => decide (es.length = c.np)
        | none => false)
    | _, _ => false
  | .blt1 f a => fun arg sc es => match arg, es with
    | false, [.Call (.Name x _) [ea] [] _] => decide (bltName f = x) && glB sc x && Γ.free.contains x && notStar ea && ok Γ N a false sc [ea]
    | _, _ => false
  | .blt2 f a b => fun arg sc es => match arg, es with
    | false, [.Call (.Name x _) [ea, eb] [] _] => decide (bltName f = x) && glB sc x && Γ.free.contains x && notStar ea && notStar eb && ok Γ N a false sc [ea] && ok Γ N b false sc [eb]
    | _, _ => false
  | .mth0 m a => fun arg sc es => match arg, es with
    | false, [.Call (.Attribute ea x apos) [] [] cpos] => (match m with
        | .pop => decide (x = ("pop" : Str))
        | .reverse => decide (x = ("reverse" : Str))
        | _ => false) && notSup ea && (apos.endLine == cpos.line) && ok Γ N a false sc [ea]
    | _, _ => false
  | .mth1 m a b => fun arg sc es => match arg, es with
    | false, [.Call (.Attribute ea x apos) [eb] [] cpos] => (match m with
        | .append => decide (x = ("append" : Str))
        | .join => decide (x = ("join" : Str))
        | .split => decide (x = ("split" : Str))
        | .index => decide (x = ("index" : Str))
        | .get => decide (x = ("get" : Str))
        | _ => false) && notSup ea && notStar eb && (apos.endLine == cpos.line) && ok Γ N a false sc [ea] && ok Γ N b false sc [eb]
    | _, _ => false
  | .mth2 m a b c => fun arg sc es => match arg, es with
    | false, [.Call (.Attribute ea x apos) [eb, ec] [] cpos] => (match m with
        | .get => decide (x = ("get" : Str))
        | _ => false) && notSup ea && notStar eb && notStar ec && (apos.endLine == cpos.line) && ok Γ N a false sc [ea] && ok Γ N b false sc [eb] && ok Γ N c false sc [ec]
    | _, _ => false
  | .kix g a => fun arg sc es => match arg, es with
    | false, [.Subscript (.Name x _) eb _] => decide (Γ.gname g = x) && glB sc x && nmB x && Γ.kd g && notSlice eb && ok Γ N a false sc [eb]
    | _, _ => false
  | .kks _ => fun _ _ _ => false
  | .kin neg g a => fun arg sc es => match arg, es with
    | false, [.Compare ea [op] [.Name x p] _] => decide ((if neg then CmpOp.NotIn else .In) = op) && decide (Γ.gname g = x) && glB sc x && nmB x && Γ.kd g && ok Γ N a false sc [ea]
    | _, _ => false
  | .ddisp as => fun arg sc es => match arg, es with
    | false, [.Dict ks vs _] => (match dispE ks vs with
        | some es => ok Γ N as true sc es
        | none => false) && !ks.isEmpty && decide (ks.length ≤ 15)
    | _, _ => false
  | .isi a t => fun arg sc es => match arg, es with
    | false, [.Call (.Name x _) [ea, .Name y _] [] _] => decide (x = ("isinstance" : Str)) && decide (tyName t = y) && glB sc x && glB sc y && Γ.free.contains x && Γ.free.contains y && notStar ea && ok Γ N a false sc [ea]
    | _, _ => false
  | .ditems a => fun arg sc es => match arg, es with
    | false, [.Call (.Name x _) [.Call (.Attribute ea y apos) [] [] cpos] [] _] => decide (x = ("list" : Str)) && decide (y = ("items" : Str)) && glB sc x && Γ.free.contains x && notSup ea && (apos.endLine == cpos.line) && ok Γ N a false sc [ea]
    | _, _ => false
  | .dict1 a => fun arg sc es => match arg, es with
    | false, [.Call (.Name x _) [ea] [] _] => decide (x = ("dict" : Str)) && glB sc x && Γ.free.contains x && notStar ea && ok Γ N a false sc [ea]
    | _, _ => false
  | .dnew => fun arg sc es => match arg, es with
    | false, [.Dict [] [] _] => true
    | _, _ => false
  | .lc own k a b hc c e => fun arg sc es => match arg, es with
    | false, [.ListComp elt [⟨tg, iter, ifs, 0⟩] scope _] => (match ownOf tg own with
      | some ow => blkC N sc scope ow && ownB scope ow
      | none => false) && notSet iter && (match k, iter with
        | .seq, it => ok Γ N a false sc [it]
        | .rng1, .Call (.Name x _) [ea] [] _ => decide (x = ("range" : Str)) && glB sc x && Γ.free.contains x && notStar ea && ok Γ N a false sc [ea]
        | .rng2, .Call (.Name x _) [ea, eb] [] _ => decide (x = ("range" : Str)) && glB sc x && Γ.free.contains x && notStar ea && notStar eb && ok Γ N a false sc [ea] && ok Γ N b false sc [eb]
        | .rng3 k, .Call (.Name x _) [ea, eb, ec] [] _ => decide (x = ("range" : Str)) && glB sc x && Γ.free.contains x && notStar ea && notStar eb && notStar ec && decide (stepC ec = some k) && ok Γ N a false sc [ea] && ok Γ N b false sc [eb]
        | .kk, .Name x _ => kkOk Γ a sc x
        | _, _ => false) && (match hc, ifs with
        | false, [] => true
        | true, [ec] => tOk ec && ok Γ N c false (relS scope sc) [ec]
        | _, _ => false) && ok Γ N e false (relS scope sc) [elt]
    | _, _ => false
  | .noE => fun _ _ _ => false
  | .fld cs o f => fun arg sc es => match arg, es with
    | false, [.Attribute eo n _] => decide (n = (⟨f.toArray⟩ : Str)) && fldC Γ cs f && notSup eo && ok Γ N o false sc [eo]
    | _, _ => false
  | .meth o m tab as => fun arg sc es => match arg, es with
    | false, [.Call (.Attribute eo n apos) es [] cpos] => decide (n = (⟨m.toArray⟩ : Str)) && metC Γ m (es.length + 1) tab && notSup eo && (apos.endLine == cpos.line) && es.all notStar && decide (es.length < 29) && ok Γ N o false sc [eo] && ok Γ N as true sc es
    | _, _ => false
  | .new c f as => fun arg sc es => match arg, es with
    | false, [.Call (.Name x _) es [] _] => (match Γ.cls c with
      | some cl => decide (cl.name = x) && decide (cl.init = f) && (match Γ.fn f with
        | some c => decide (c.np = es.length + 1)
        | none => false)
      | none => false) && glB sc x && nmB x && es.all notStar && ok Γ N as true sc es
    | _, _ => false

/-- what is known of a class -/
structure ClsTxt (T : Tb) (Γ : Tabs) (NN d : Nat) (X : Cx) (c : Nat) (cl : Cl) : Prop where
  cls : Cls X.K (ClsMap.cl c)
  flds : ∀ f ∈ cl.fields, NoAttr X.K (ClsMap.cl c) (⟨f.toArray⟩ : Str)
  mets : ∀ m fi cf, cl.meths.lookup m = some fi → Γ.fn fi = some cf → ∃ g fd ps, Meth X.K (ClsMap.cl c) (⟨m.toArray⟩ : Str) g ∧ Binds X.K fd ps [] ∧ FnOkF X.prog X.w X.K X.mg X.base (L2.CX X.prog X.w) (d + 1) g fd ps (spF T X.K cf.np (run Γ.fn Γ.gl NN d fi))
  ini : ∀ cf, Γ.fn cl.init = some cf → ∃ g fd ps, Mk X.K (ClsMap.cl c) g ∧ X.mg cl.name = some (.ref (ClsMap.cl c)) ∧ Binds X.K fd ps [] ∧ FnOkF X.prog X.w X.K X.mg X.base (L2.CX X.prog X.w) d g fd ps (spF T X.K cf.np (run Γ.fn Γ.gl NN d (1000 + cl.init)))
/-- a context in which compiled code is run: d calls deep at most -/
structure Good (T : Tb) (Γ : Tabs) (NN : Nat) (N : List Str) (d : Nat) (sc : Scope) (X : Cx) (W : WX) : Prop where
  hN : X.N = N
  hsc : X.env.scope = sc
  nd : N.Nodup
  kind : sc.kind = .function
  calm : X.calm = true
  room : RoomF (d + 1) X.A
  pass : PassesOwn (model X.prog X.w) X.A X.env X.xe
  takes : Takes X W
  fns : ∀ f c, Γ.fn f = some c → Γ.top f = true → ∃ a fd ps, X.mg (Γ.fname f) = some (.ref a) ∧ PySem.W.keepIn X.K (.ref a) = true ∧ Binds X.K fd ps [] ∧ FnOkF X.prog X.w X.K X.mg X.base (L2.CX X.prog X.w) (d + 1) a fd ps (spF T X.K c.np (run Γ.fn Γ.gl NN d f))
  clss : ∀ c cl, Γ.cls c = some cl → ClsTxt T Γ NN d X c cl
  errs : ∀ c er, Γ.err c = some er → ExCls X.prog X.K X.mg er.name (T.cl c) (er.ks.map T.fn)
  efn : Γ.efn = T.fn
  inj : ∀ f g, T.fn f = T.fn g → f = g
  errT : ∀ c ∈ Γ.errAll, ∀ n, ErrTxt T X.K X.mg (Γ.ut n) c
  exmT : ∀ x cs, Γ.exm x = some cs → ∃ C, (X.mg x = some C ∨ (X.mg x = none ∧ bootBuiltins x = some C ∧ x ≠ "__name__")) ∧ ∀ c ∈ Γ.errAll, PySem.W.exmOne X.K (.ref (T.cl c)) C = some (cs.contains c)
  gls : ∀ g x, Γ.gl g = some x → Γ.kd g = false → ∃ v u, X.mg (Γ.gname g) = some u ∧ RelV v u ∧ ∀ ρ H, Rep X.K ρ H x v
  kds : ∀ g, Γ.kd g = true → ∃ kvs D, kdOf (Γ.gl g) = some kvs ∧ X.mg (Γ.gname g) = some (.ref D) ∧ KdOk X.K X.w D kvs
  frees : ∀ x ∈ Γ.free, X.mg x = none
section
variable {T : Tb} {Γ : Tabs} {NN d : Nat} {N : List Str} {sc : Scope} {X : Cx} {W : WX}
theorem Good.un (g : Good T Γ NN N d sc X W) : X.A.units + 1 < cLine := hu_of g.room.room
theorem Good.gl (g : Good T Γ NN N d sc X W) {x : Str} (h : glB sc x = true) : L2.Gl X x := by
  show X.env.scope.names.lookup x = some .globalImplicit
  rw [g.hsc]
  exact glB_ok h
theorem Good.vis (g : Good T Γ NN N d sc X W) {x : Str} (h : visB sc x = true) : Vis X.env.scope x := by
  rw [g.hsc]
  exact visB_ok h
theorem Good.free (g : Good T Γ NN N d sc X W) {x : Str} (h : Γ.free.contains x = true) : X.mg x = none := g.frees x (by simpa using h)
theorem Good.blk (g : Good T Γ NN N d sc X W) {scope : Scope} (hk : scope.kind = .function) : Blk X scope fun X' => Good T Γ NN N d (relS scope sc) X' W0 := fun s H C cl fp =>
  { hN := g.hN
    hsc := by show relS scope X.env.scope = _; rw [g.hsc]
    nd := g.nd
    kind := hk
    calm := g.calm
    room := g.room
    pass := PassesOwn.never
    takes := takes0
    fns := g.fns
    clss := fun c cl h => ⟨(g.clss c cl h).cls, (g.clss c cl h).flds, (g.clss c cl h).mets, (g.clss c cl h).ini⟩
    errs := g.errs
    efn := g.efn
    inj := g.inj
    errT := g.errT
    exmT := g.exmT
    gls := g.gls
    kds := g.kds
    frees := g.frees }

/-- what is shown of compiled code -/
def SoundE (T : Tb) (X : Cx) (W : WX) (e : Expr) (m : Env → Store → Res PV) : Prop :=
  SimE T X W e m ∧ (tOk e = true → SimT T X W e fun ev st => truth (m ev st)) ∧ (∀ op es pos, e = .BoolOp op es pos → SimW T X W e fun ev st => truth (m ev st))
theorem SoundE.plain {e : Expr} {m : Env → Store → Res PV} (h : SimE T X W e m) (hp : plainT e = true) : SoundE T X W e m :=
  ⟨h, fun _ => simT_val (plainT_ok hp X.env) h, fun op es pos e' => by subst e'; cases hp⟩
/-- .. of a chain's rest -/
theorem SoundE.restA {e : Expr} {m : Env → Store → Res PV} {pos : Pos} (h : SoundE T X W e m) (ht : tOk e = true) : SimE T X W (.BoolOp .And [e] pos) m ∧ SimW T X W (.BoolOp .And [e] pos) fun ev st => truth (m ev st) := ⟨simE_one h.1, simW_and1 (h.2.1 ht)⟩
theorem SoundE.restO {e : Expr} {m : Env → Store → Res PV} {pos : Pos} (h : SoundE T X W e m) (ht : tOk e = true) : SimE T X W (.BoolOp .Or [e] pos) m ∧ SimW T X W (.BoolOp .Or [e] pos) fun ev st => truth (m ev st) := ⟨simE_one h.1, simW_or1 (h.2.1 ht)⟩
abbrev EV (Γ : Tabs) (NN d : Nat) (ce : CE) : Env → Store → Res PV := evE (run Γ.fn Γ.gl NN d) Γ.gl NN ce
theorem args_len {c : Nat → List PV → Store → Res PV} {G : Nat → Option PV} {n : Nat} : ∀ (ce : CE) (sc : Scope) (es : List Expr), ok Γ N ce true sc es = true → ∀ ev st v st', evE c G n ce ev st = .ok v st' → (tupOf v).length = es.length := by
  intro ce
  induction ce with
  | nil =>
    intro sc es h ev st v st' e
    cases e
    cases es with
    | nil => rfl
    | cons _ _ => cases h
  | cons a as ha has =>
    intro sc es h ev st v st' e
    cases es with
    | nil => cases h
    | cons x xs =>
      have h : (notStar x && ok Γ N a false sc [x] && ok Γ N as true sc xs) = true := h
      simp only [Bool.and_eq_true] at h
      unfold evE at e
      cases h1 : fixR (evE c G n a ev st) with
      | ok y st1 =>
        rw [h1] at e
        dsimp only [Res.bind] at e
        cases h2 : evE c G n as ev st1 with
        | ok ys st2 =>
          rw [h2] at e
          cases e
          show (tupOf ys).length + 1 = xs.length + 1
          rw [has sc xs h.2 ev st1 ys _ h2]
        | exc _ _ _ => rw [h2] at e; cases e
        | bad => rw [h2] at e; cases e
      | exc _ _ _ => rw [h1] at e; cases e
      | bad => rw [h1] at e; cases e
  | _ =>
    intro sc es h
    cases h

theorem relS_keep {scope sc : Scope} {x : Str} {k : NameKind} (hk : k ≠ .free) (h : scope.names.lookup x = some k) : (relS scope sc).names.lookup x = some k := by
  have key : ∀ l : List (Str × NameKind), l.lookup x = some k → (l.map fun (n, k) => if (k == .free && sc.kind == .function && sc.names.lookup n == some .cell) then (n, NameKind.cell) else (n, k)).lookup x = some k := by
    intro l
    induction l with
    | nil => intro h; cases h
    | cons p r ih =>
      obtain ⟨n, j⟩ := p
      intro h
      rw [List.lookup_cons] at h
      rw [List.map_cons]
      cases hx : x == n with
      | true =>
        rw [hx] at h
        cases h
        have e : (k == NameKind.free && sc.kind == .function && sc.names.lookup n == some .cell) = false := by
          cases k <;> first | rfl | exact absurd rfl hk
        dsimp only
        rw [if_neg (by rw [e]; exact Bool.false_ne_true), List.lookup_cons, hx]
      | false =>
        rw [hx] at h
        dsimp only
        split
        · rw [List.lookup_cons, hx]; exact ih h
        · rw [List.lookup_cons, hx]; exact ih h
  exact key scope.names h
theorem tgt_one {scope : Scope} {x : Str} {i : Nat} {pos : Pos} (hi : X.N[i]? = some x) (h : stoB scope x = true) : Blk X scope fun X' => Tgt X' (.Name x pos) [i] := fun s H C cl fp => by
  have hl := stoB_ok h
  refine .name hi ?_ ?_
  · show Loc (relS scope X.env.scope) x
    exact hl.imp (relS_keep (by decide)) (relS_keep (by decide))
  · rcases hl with hl | hl
    · exact .inr (relS_keep (by decide) hl)
    · refine .inl ?_
      show (scope.names.lookup x == some .cell) = true
      rw [hl]
      rfl
theorem namesOf_cons {e : Expr} {es : List Expr} {xs : List Str} (h : namesOf (e :: es) = some xs) : ∃ x pos ys, e = .Name x pos ∧ namesOf es = some ys ∧ xs = x :: ys := by
  unfold namesOf at h
  cases h1 : nameOf e with
  | none => rw [h1] at h; cases h
  | some x =>
    cases h2 : namesOf es with
    | none => rw [h1, h2] at h; cases h
    | some ys =>
      rw [h1, h2] at h
      cases h
      unfold nameOf at h1
      split at h1
      · cases h1
        exact ⟨_, _, ys, rfl, rfl, rfl⟩
      · cases h1
theorem tgt_list {scope : Scope} : ∀ (es : List Expr) (is : List Nat) (xs : List Str), namesOf es = some xs → es.length = is.length → (∀ p ∈ xs.zip is, X.N[p.2]? = some p.1) → (∀ p ∈ xs.zip is, stoB scope p.1 = true) → Blk X scope fun X' => TgtL X' es is
  | [], [], _, _, _, _, _ => fun _ _ _ _ _ => .nil
  | [], _ :: _, _, _, h, _, _ => by cases h
  | _ :: _, [], _, _, h, _, _ => by cases h
  | e :: es, i :: is, xs, hm, hl, hN, hs => by
    obtain ⟨x, pos, ys, rfl, hr, rfl⟩ := namesOf_cons hm
    intro s H C cl fp
    refine .cons (tgt_one (hN (x, i) List.mem_cons_self) (hs (x, i) List.mem_cons_self) s H C cl fp) ?_
    exact tgt_list es is ys hr (by simpa using hl) (fun p hp => hN p (List.mem_cons_of_mem _ hp)) (fun p hp => hs p (List.mem_cons_of_mem _ hp)) s H C cl fp
theorem zip_snd : ∀ (xs : List Str) (is : List Nat), xs.length = is.length → (xs.zip is).map (·.2) = is
  | [], [], _ => rfl
  | [], _ :: _, h => by cases h
  | _ :: _, [], h => by cases h
  | x :: xs, i :: is, h => by
    show i :: (xs.zip is).map (·.2) = i :: is
    rw [zip_snd xs is (by simpa using h)]
theorem names_len : ∀ (es : List Expr) (xs : List Str), namesOf es = some xs → xs.length = es.length
  | [], xs, h => by cases h; rfl
  | e :: es, xs, hm => by
    obtain ⟨x, pos, ys, rfl, hr, rfl⟩ := namesOf_cons hm
    show ys.length + 1 = es.length + 1
    rw [names_len es ys hr]
theorem tgt_blk {scope : Scope} {tg : Expr} {is : List Nat} {ow : List (Str × Nat)} (h : ownOf tg is = some ow) (hN : ∀ p ∈ ow, X.N[p.2]? = some p.1) (hs : ownB scope ow = true) : (Blk X scope fun X' => TgtF X' tg is) ∧ ow.map (·.2) = is := by
  have hs' : ∀ p ∈ ow, stoB scope p.1 = true := by simpa [ownB] using hs
  unfold ownOf at h
  split at h
  · cases h
    exact ⟨fun s H C cl fp => .one (tgt_one (hN _ List.mem_cons_self) (hs' _ List.mem_cons_self) s H C cl fp), rfl⟩
  · rename_i _ es k _
    split at h
    · cases h
    · rename_i hc
      obtain ⟨xs, h1, h2⟩ := Option.map_eq_some_iff.mp h
      subst h2
      simp only [Bool.or_eq_true, decide_eq_true_eq, Bool.not_eq_true', not_or] at hc
      have hl : es.length = is.length := by
        have := hc.2
        simpa using this
      refine ⟨fun s H C cl fp => .many (tgt_list es is xs h1 hl hN hs' s H C cl fp) hc.1, zip_snd xs is (by rw [names_len es xs h1, hl])⟩
  · cases h
end
end Vm

set_option maxHeartbeats 16000000
/-! Vm11: the check gives the simulation: expressions. -/
namespace Vm
open PySem L2
variable [ClsMap]
section
variable {T : Tb} {Γ : Tabs} {NN d : Nat} {N : List Str}
def Snd (T : Tb) (Γ : Tabs) (NN d : Nat) (N : List Str) (ce : CE) : Prop := ∀ (arg : Bool) (sc : Scope) (es : List Expr), ok Γ N ce arg sc es = true → ∀ X W, Good T Γ NN N d sc X W →
  (arg = true → SimA T X W es (EV Γ NN d ce) ∧ SimQ X T W es (EV Γ NN d ce)) ∧ (arg = false → ∀ e, es = [e] → SoundE T X W e (EV Γ NN d ce))
theorem Snd.e {ce : CE} (h : Snd T Γ NN d N ce) {sc : Scope} {e : Expr} (ho : ok Γ N ce false sc [e] = true) {X : Cx} {W : WX} (g : Good T Γ NN N d sc X W) : SoundE T X W e (EV Γ NN d ce) := (h false sc [e] ho X W g).2 rfl e rfl
theorem Snd.a {ce : CE} (h : Snd T Γ NN d N ce) {sc : Scope} {es : List Expr} (ho : ok Γ N ce true sc es = true) {X : Cx} {W : WX} (g : Good T Γ NN N d sc X W) : SimA T X W es (EV Γ NN d ce) := ((h true sc es ho X W g).1 rfl).1
theorem Snd.q {ce : CE} (h : Snd T Γ NN d N ce) {sc : Scope} {es : List Expr} (ho : ok Γ N ce true sc es = true) {X : Cx} {W : WX} (g : Good T Γ NN N d sc X W) : SimQ X T W es (EV Γ NN d ce) := ((h true sc es ho X W g).1 rfl).2
/-- of an expression alone -/
theorem Snd.mk {ce : CE} (h0 : ∀ sc es, ok Γ N ce true sc es = false) (h : ∀ sc es, ok Γ N ce false sc es = true → ∀ X W, Good T Γ NN N d sc X W → ∃ e, es = [e] ∧ SoundE T X W e (EV Γ NN d ce)) : Snd T Γ NN d N ce := fun arg sc es ho X W g => by
  cases arg with
  | true => rw [h0] at ho; cases ho
  | false =>
    refine ⟨fun z => (by cases z), fun _ e he => ?_⟩
    obtain ⟨e', h1, h2⟩ := h sc es ho X W g
    rw [he] at h1
    cases h1
    exact h2
theorem snd_nil : Snd T Γ NN d N .nil := fun arg sc es ho X W g => by
  cases arg with
  | false => cases ho
  | true =>
    cases es with
    | cons _ _ => cases ho
    | nil => exact ⟨fun _ => ⟨sim_nil, simQ_nil⟩, fun z => by cases z⟩
theorem snd_cons {a as : CE} (ha : Snd T Γ NN d N a) (has : Snd T Γ NN d N as) : Snd T Γ NN d N (.cons a as) := fun arg sc es ho X W g => by
  cases arg with
  | false => cases ho
  | true =>
    cases es with
    | nil => cases ho
    | cons e es =>
      have h : (notStar e && ok Γ N a false sc [e] && ok Γ N as true sc es) = true := ho
      simp only [Bool.and_eq_true] at h
      exact ⟨fun _ => ⟨sim_cons (notStar_ok h.1.1 es X.env) (ha.e h.1.2 g).1 (has.a h.2 g), simQ_cons (ha.e h.1.2 g).1 (has.q h.2 g)⟩, fun z => by cases z⟩
theorem snd_lit (v : PV) : Snd T Γ NN d N (.lit v) := .mk (fun _ _ => rfl) fun sc es ho X W g => by
  simp only [ok] at ho
  split at ho
  · rename_i c k pos _
    refine ⟨_, rfl, SoundE.plain ?_ rfl⟩
    unfold litOk at ho
    split at ho
    · exact sim_lit (fun _ _ => .non) pe_non
    · rename_i b c
      have e : b = c := by simpa using ho
      subst e
      exact sim_lit (fun _ _ => .bl b) pe_bl
    · rename_i i j
      have e : i = j := by simpa using ho
      subst e
      exact sim_lit (fun _ _ => .int i) pe_int
    · rename_i l s
      have e : l = s.cps.toList := by simpa using ho
      subst e
      exact sim_lit (v := .str s) (fun _ _ => by
        have q := Rep.str (K := X.K) (ρ := by assumption) (H := by assumption) s.cps.toList
        rw [Array.toArray_toList] at q
        exact q) pe_str
    · cases ho
  · cases ho
theorem snd_var (i : Nat) : Snd T Γ NN d N (.var i) := .mk (fun _ _ => rfl) fun sc es ho X W g => by
  simp only [ok] at ho
  split at ho
  · rename_i x pos _
    simp only [Bool.and_eq_true, decide_eq_true_eq] at ho
    obtain ⟨n1, n2⟩ := nmB_ok ho.2
    exact ⟨_, rfl, SoundE.plain (sim_var (pe_var (by rw [g.hN]; exact ho.1.1) (g.vis ho.1.2) n1 n2)) rfl⟩
  · cases ho
theorem snd_glob (i : Nat) : Snd T Γ NN d N (.glob i) := .mk (fun _ _ => rfl) fun sc es ho X W g => by
  simp only [ok] at ho
  split at ho
  · rename_i x pos _
    simp only [Bool.and_eq_true, decide_eq_true_eq] at ho
    obtain ⟨ho, hkd⟩ := ho
    obtain ⟨pv, hp⟩ := Option.isSome_iff_exists.mp ho.2
    obtain ⟨v, u, h1, h2, h3⟩ := g.gls i pv hp (by simpa using hkd)
    have e := ho.1.1.1
    subst e
    exact ⟨_, rfl, SoundE.plain (sim_glob h3 (pe_glob (g.gl ho.1.1.2) h1 h2 (nmB_ok ho.1.2).1) Γ.gl i hp) rfl⟩
  · cases ho
theorem snd_tup {as : CE} (has : Snd T Γ NN d N as) : Snd T Γ NN d N (.tup as) := .mk (fun _ _ => rfl) fun sc es ho X W g => by
  simp only [ok] at ho
  split at ho
  · exact ⟨_, rfl, SoundE.plain (sim_tup (has.a ho g)) rfl⟩
  · cases ho
theorem snd_lst {as : CE} (has : Snd T Γ NN d N as) : Snd T Γ NN d N (.lst as) := .mk (fun _ _ => rfl) fun sc es ho X W g => by
  simp only [ok] at ho
  split at ho
  · exact ⟨_, rfl, SoundE.plain (sim_lst (has.a ho g)) rfl⟩
  · cases ho
theorem snd_bin {o : BOp} {a b : CE} (ha : Snd T Γ NN d N a) (hb : Snd T Γ NN d N b) : Snd T Γ NN d N (.bin o a b) := .mk (fun _ _ => rfl) fun sc es ho X W g => by
  simp only [ok] at ho
  split at ho
  · simp only [Bool.and_eq_true, decide_eq_true_eq] at ho
    have e := ho.1.1
    subst e
    exact ⟨_, rfl, SoundE.plain (sim_bin (simO_bin o) (ha.e ho.1.2 g).1 (hb.e ho.2 g).1) rfl⟩
  · cases ho
theorem snd_cmp {o : COp} {a b : CE} (ha : Snd T Γ NN d N a) (hb : Snd T Γ NN d N b) : Snd T Γ NN d N (.cmp o a b) := .mk (fun _ _ => rfl) fun sc es ho X W g => by
  simp only [ok] at ho
  split at ho
  · simp only [Bool.and_eq_true, decide_eq_true_eq] at ho
    have e := ho.1.1.1
    subst e
    have h1 := (ha.e ho.1.2 g).1
    have h2 := (hb.e ho.2 g).1
    exact ⟨_, rfl, sim_cmp (simO_cmp g.room.room.units o) (notSet_marks ho.1.1.2 _) h1 h2, fun _ => simT_cmp (simO_cmp g.room.room.units o) (notSet_marks ho.1.1.2 _) h1 h2, fun op es pos e => (by cases e)⟩
  · cases ho
theorem snd_cmp2 {o o' : COp} {a b c : CE} (ha : Snd T Γ NN d N a) (hb : Snd T Γ NN d N b) (hc : Snd T Γ NN d N c) : Snd T Γ NN d N (.cmp2 o o' a b c) := .mk (fun _ _ => rfl) fun sc es ho X W g => by
  simp only [ok] at ho
  split at ho
  · simp only [Bool.and_eq_true, decide_eq_true_eq] at ho
    have e := ho.1.1.1.1.1
    have e' := ho.1.1.1.1.2
    subst e e'
    have h1 := (ha.e ho.1.1.2 g).1
    have h2 := (hb.e ho.1.2 g).1
    have h3 := (hc.e ho.2 g).1
    exact ⟨_, rfl, simE_cmp2 g.room.room.units o o' (notSet_last ho.1.1.1.2 _ _) h1 h2 h3, fun _ => simT_cmp2 g.room.room.units o o' (notSet_last ho.1.1.1.2 _ _) h1 h2 h3, fun op es pos e => (by cases e)⟩
  · cases ho
theorem snd_and {a b : CE} (ha : Snd T Γ NN d N a) (hb : Snd T Γ NN d N b) : Snd T Γ NN d N (.and a b) := .mk (fun _ _ => rfl) fun sc es ho X W g => by
  simp only [ok] at ho
  split at ho
  · rename_i op e1 e2 rest pos _
    simp only [Bool.and_eq_true, decide_eq_true_eq] at ho
    have e := ho.1.1.1
    subst e
    have h1 := ha.e ho.1.2 g
    have hr : SimE T X W (.BoolOp .And (e2 :: rest) pos) (EV Γ NN d b) ∧ SimW T X W (.BoolOp .And (e2 :: rest) pos) fun ev st => truth (EV Γ NN d b ev st) := by
      have h2 := ho.2
      split at h2
      · simp only [Bool.and_eq_true] at h2
        exact (hb.e h2.2 g).restA h2.1
      · have h3 := hb.e h2 g
        exact ⟨h3.1, h3.2.2 _ _ _ rfl⟩
    have hw : SimW T X W (.BoolOp .And (e1 :: e2 :: rest) pos) fun ev st => truth (EV Γ NN d (.and a b) ev st) := simW_and (h1.2.1 ho.1.1.2) hr.2
    exact ⟨_, rfl, simE_and h1.1 hr.1, fun _ => simT_W hw, fun op es pos e => by cases e; exact hw⟩
  · cases ho
theorem snd_or {a b : CE} (ha : Snd T Γ NN d N a) (hb : Snd T Γ NN d N b) : Snd T Γ NN d N (.or a b) := .mk (fun _ _ => rfl) fun sc es ho X W g => by
  simp only [ok] at ho
  split at ho
  · rename_i op e1 e2 rest pos _
    simp only [Bool.and_eq_true, decide_eq_true_eq] at ho
    have e := ho.1.1.1
    subst e
    have h1 := ha.e ho.1.2 g
    have hr : SimE T X W (.BoolOp .Or (e2 :: rest) pos) (EV Γ NN d b) ∧ SimW T X W (.BoolOp .Or (e2 :: rest) pos) fun ev st => truth (EV Γ NN d b ev st) := by
      have h2 := ho.2
      split at h2
      · simp only [Bool.and_eq_true] at h2
        exact (hb.e h2.2 g).restO h2.1
      · have h3 := hb.e h2 g
        exact ⟨h3.1, h3.2.2 _ _ _ rfl⟩
    have hw : SimW T X W (.BoolOp .Or (e1 :: e2 :: rest) pos) fun ev st => truth (EV Γ NN d (.or a b) ev st) := simW_or (h1.2.1 ho.1.1.2) hr.2
    exact ⟨_, rfl, simE_or h1.1 hr.1, fun _ => simT_W hw, fun op es pos e => by cases e; exact hw⟩
  · cases ho
theorem snd_not {a : CE} (ha : Snd T Γ NN d N a) : Snd T Γ NN d N (.not a) := .mk (fun _ _ => rfl) fun sc es ho X W g => by
  simp only [ok] at ho
  split at ho
  · simp only [Bool.and_eq_true, decide_eq_true_eq] at ho
    have e := ho.1.1
    subst e
    have h1 := ha.e ho.2 g
    have ht := h1.2.1 ho.1.2
    exact ⟨_, rfl, simE_not h1.1 ht, fun _ => simT_not ht, fun op es pos e => (by cases e)⟩
  · cases ho
theorem snd_neg {a : CE} (ha : Snd T Γ NN d N a) : Snd T Γ NN d N (.neg a) := .mk (fun _ _ => rfl) fun sc es ho X W g => by
  simp only [ok] at ho
  split at ho
  · simp only [Bool.and_eq_true, decide_eq_true_eq] at ho
    have e := ho.1
    subst e
    exact ⟨_, rfl, SoundE.plain (sim_neg (ha.e ho.2 g).1) rfl⟩
  · cases ho
theorem snd_ite {a b c : CE} (hc : Snd T Γ NN d N c) (ha : Snd T Γ NN d N a) (hb : Snd T Γ NN d N b) : Snd T Γ NN d N (.ite c a b) := .mk (fun _ _ => rfl) fun sc es ho X W g => by
  simp only [ok] at ho
  split at ho
  · simp only [Bool.and_eq_true] at ho
    exact ⟨_, rfl, sim_ite ((hc.e ho.1.1.2 g).2.1 ho.1.1.1) (ha.e ho.1.2 g).1 (hb.e ho.2 g).1, fun z => (by cases z), fun op es pos e => (by cases e)⟩
  · cases ho
theorem snd_ix {a b : CE} (ha : Snd T Γ NN d N a) (hb : Snd T Γ NN d N b) : Snd T Γ NN d N (.ix a b) := .mk (fun _ _ => rfl) fun sc es ho X W g => by
  simp only [ok] at ho
  split at ho
  · simp only [Bool.and_eq_true] at ho
    exact ⟨_, rfl, SoundE.plain (sim_ix (notSlice_ok ho.1.1) (ix_core g.un) (ha.e ho.1.2 g).1 (hb.e ho.2 g).1) rfl⟩
  · cases ho
theorem snd_noE : Snd T Γ NN d N .noE := .mk (fun _ _ => rfl) fun sc es ho X W g => by cases ho
theorem isNo_eq {c : CE} (h : isNo c = true) : c = .noE := by
  cases c <;> first | rfl | cases h
theorem snd_part {lo : CE} {o : Option Expr} {sc : Scope} (hl : Snd T Γ NN d N lo) (h : (match o with
      | none => isNo lo
      | some x => !isNo lo && ok Γ N lo false sc [x]) = true) {X : Cx} {W : WX} (g : Good T Γ NN N d sc X W) : SimP T X W o (isNo lo) (EV Γ NN d lo) := by
  cases o with
  | none =>
    have e := isNo_eq h
    subst e
    exact ⟨rfl, rfl⟩
  | some x =>
    simp only [Bool.and_eq_true, Bool.not_eq_true'] at h
    exact ⟨h.1, (hl.e h.2 g).1⟩
theorem snd_sl {a lo hi : CE} (ha : Snd T Γ NN d N a) (hl : Snd T Γ NN d N lo) (hh : Snd T Γ NN d N hi) : Snd T Γ NN d N (.sl a lo hi) := .mk (fun _ _ => rfl) fun sc es ho X W g => by
  simp only [ok] at ho
  split at ho
  · simp only [Bool.and_eq_true] at ho
    exact ⟨_, rfl, SoundE.plain (sim_sl (ha.e ho.1.1 g).1 (snd_part hl ho.1.2 g) (snd_part hh ho.2 g)) rfl⟩
  · cases ho
theorem snd_call {f : Nat} {as : CE} (has : Snd T Γ NN d N as) : Snd T Γ NN d N (.call f as) := .mk (fun _ _ => rfl) fun sc es ho X W g => by
  simp only [ok] at ho
  split at ho
  · rename_i x p es pos _
    simp only [Bool.and_eq_true, decide_eq_true_eq] at ho
    obtain ⟨⟨⟨⟨⟨⟨h1, h0⟩, h2⟩, h3⟩, h4⟩, h5⟩, h6⟩ := ho
    subst h1
    split at h6
    · rename_i c hc
      have hn : es.length = c.np := of_decide_eq_true h6
      obtain ⟨a, fd, ps, m1, m2, m3, m4⟩ := g.fns f c hc h0
      refine ⟨_, rfl, SoundE.plain ?_ rfl⟩
      cases es with
      | nil =>
        have e : c.np = 0 := hn.symm
        rw [e] at m4
        have q := has.a h5 g
        have e2 : EV Γ NN d (.call f as) = fun ev st => run Γ.fn Γ.gl NN d f [] st := by
          cases as with
          | nil => rfl
          | cons _ _ => cases h5
          | _ => cases h5
        rw [e2]
        exact sim_call0 m4 g.room (g.gl h2) m1 m2 m3 g.takes (nmB_ok h3).1
      | cons e es => exact sim_call m4 g.room (g.gl h2) m1 m2 m3 g.takes (nmB_ok h3).1 h4 hn (has.a h5 g) fun ev st v st' q => args_len as sc (e :: es) h5 ev st v st' q
    · cases h6
  · cases ho
theorem snd_blt1 {f : Blt} {a : CE} (ha : Snd T Γ NN d N a) : Snd T Γ NN d N (.blt1 f a) := .mk (fun _ _ => rfl) fun sc es ho X W g => by
  simp only [ok] at ho
  split at ho
  · simp only [Bool.and_eq_true, decide_eq_true_eq] at ho
    obtain ⟨⟨⟨⟨h1, h2⟩, h3⟩, h4⟩, h5⟩ := ho
    subst h1
    exact ⟨_, rfl, SoundE.plain (sim_blt1 (g.gl h2) (g.free h3) (notStar_ok h4 _ _) (simC1_all g.calm f) (ha.e h5 g).1) rfl⟩
  · cases ho
theorem snd_blt2 {f : Blt} {a b : CE} (ha : Snd T Γ NN d N a) (hb : Snd T Γ NN d N b) : Snd T Γ NN d N (.blt2 f a b) := .mk (fun _ _ => rfl) fun sc es ho X W g => by
  simp only [ok] at ho
  split at ho
  · simp only [Bool.and_eq_true, decide_eq_true_eq] at ho
    obtain ⟨⟨⟨⟨⟨⟨h1, h2⟩, h3⟩, h4⟩, h5⟩, h6⟩, h7⟩ := ho
    subst h1
    exact ⟨_, rfl, SoundE.plain (sim_blt2 (g.gl h2) (g.free h3) (notStar_ok h4 _ _) (notStar_ok h5 _ _) (simC2_all g.calm f) (ha.e h6 g).1 (hb.e h7 g).1) rfl⟩
  · cases ho
theorem snd_mth0 {m : Mth} {a : CE} (ha : Snd T Γ NN d N a) : Snd T Γ NN d N (.mth0 m a) := .mk (fun _ _ => rfl) fun sc es ho X W g => by
  simp only [ok] at ho
  split at ho
  · simp only [Bool.and_eq_true] at ho
    obtain ⟨⟨⟨h1, h2⟩, h3⟩, h4⟩ := ho
    split at h1
    · have e := of_decide_eq_true h1
      subst e
      exact ⟨_, rfl, SoundE.plain (sim_pop (notSup_ok h2 _ _ _) h3 (ha.e h4 g).1) rfl⟩
    · have e := of_decide_eq_true h1
      subst e
      exact ⟨_, rfl, SoundE.plain (sim_reverse (notSup_ok h2 _ _ _) h3 (ha.e h4 g).1) rfl⟩
    · cases h1
  · cases ho
theorem snd_mth1 {m : Mth} {a b : CE} (ha : Snd T Γ NN d N a) (hb : Snd T Γ NN d N b) : Snd T Γ NN d N (.mth1 m a b) := .mk (fun _ _ => rfl) fun sc es ho X W g => by
  simp only [ok] at ho
  split at ho
  · simp only [Bool.and_eq_true] at ho
    obtain ⟨⟨⟨⟨⟨h1, h2⟩, h3⟩, h4⟩, h5⟩, h6⟩ := ho
    split at h1
    · have e := of_decide_eq_true h1
      subst e
      exact ⟨_, rfl, SoundE.plain (sim_append (notSup_ok h2 _ _ _) h4 (notStar_ok h3 _ _) (ha.e h5 g).1 (hb.e h6 g).1) rfl⟩
    · have e := of_decide_eq_true h1
      subst e
      exact ⟨_, rfl, SoundE.plain (sim_join (notSup_ok h2 _ _ _) h4 (notStar_ok h3 _ _) (ha.e h5 g).1 (hb.e h6 g).1) rfl⟩
    · have e := of_decide_eq_true h1
      subst e
      exact ⟨_, rfl, SoundE.plain (sim_split (notSup_ok h2 _ _ _) h4 (notStar_ok h3 _ _) (ha.e h5 g).1 (hb.e h6 g).1) rfl⟩
    · have e := of_decide_eq_true h1
      subst e
      exact ⟨_, rfl, SoundE.plain (sim_index (notSup_ok h2 _ _ _) h4 (notStar_ok h3 _ _) (ha.e h5 g).1 (hb.e h6 g).1) rfl⟩
    · have e := of_decide_eq_true h1
      subst e
      exact ⟨_, rfl, SoundE.plain (sim_get1 g.un (notSup_ok h2 _ _ _) h4 (notStar_ok h3 _ _) (ha.e h5 g).1 (hb.e h6 g).1) rfl⟩
    · cases h1
  · cases ho
theorem snd_mth2 {m : Mth} {a b c : CE} (ha : Snd T Γ NN d N a) (hb : Snd T Γ NN d N b) (hc : Snd T Γ NN d N c) : Snd T Γ NN d N (.mth2 m a b c) := .mk (fun _ _ => rfl) fun sc es ho X W g => by
  simp only [ok] at ho
  split at ho
  · simp only [Bool.and_eq_true] at ho
    obtain ⟨⟨⟨⟨⟨⟨⟨h1, h2⟩, h3⟩, h4⟩, h5⟩, h6⟩, h7⟩, h8⟩ := ho
    split at h1
    · have e := of_decide_eq_true h1
      subst e
      exact ⟨_, rfl, SoundE.plain (sim_get2 g.un (notSup_ok h2 _ _ _) h5 (notStar_ok h3 _ _) (notStar_ok h4 _ _) (ha.e h6 g).1 (hb.e h7 g).1 (hc.e h8 g).1) rfl⟩
    · cases h1
  · cases ho
theorem snd_kix {i : Nat} {a : CE} (ha : Snd T Γ NN d N a) : Snd T Γ NN d N (.kix i a) := .mk (fun _ _ => rfl) fun sc es ho X W g => by
  simp only [ok] at ho
  split at ho
  · simp only [Bool.and_eq_true, decide_eq_true_eq] at ho
    obtain ⟨⟨⟨⟨⟨h1, h2⟩, h3⟩, h4⟩, h5⟩, h6⟩ := ho
    subst h1
    obtain ⟨kvs, D, k1, k2, k3⟩ := g.kds i h4
    exact ⟨_, rfl, SoundE.plain (sim_kix (g.gl h2) k2 (nmB_ok h3).1 k1 k3 (notSlice_ok h5) (ha.e h6 g).1) rfl⟩
  · cases ho
theorem snd_kks {i : Nat} : Snd T Γ NN d N (.kks i) := .mk (fun _ _ => rfl) fun sc es ho X W g => by cases ho
theorem snd_kin {neg : Bool} {i : Nat} {a : CE} (ha : Snd T Γ NN d N a) : Snd T Γ NN d N (.kin neg i a) := .mk (fun _ _ => rfl) fun sc es ho X W g => by
  simp only [ok] at ho
  split at ho
  · simp only [Bool.and_eq_true, decide_eq_true_eq] at ho
    obtain ⟨⟨⟨⟨⟨h1, h2⟩, h3⟩, h4⟩, h5⟩, h6⟩ := ho
    subst h1
    subst h2
    obtain ⟨kvs, D, k1, k2, k3⟩ := g.kds i h5
    obtain ⟨s1, s2⟩ := sim_kin (neg := neg) (T := T) (W := W) (g.gl h3) k2 (nmB_ok h4).1 k1 k3 (ha.e h6 g).1 (notSet_marks rfl _)
    exact ⟨_, rfl, s1, fun _ => s2, fun op es pos e => (by cases e)⟩
  · cases ho
theorem snd_ddisp {as : CE} (has : Snd T Γ NN d N as) : Snd T Γ NN d N (.ddisp as) := .mk (fun _ _ => rfl) fun sc es ho X W g => by
  simp only [ok] at ho
  split at ho
  · simp only [Bool.and_eq_true, decide_eq_true_eq, Bool.not_eq_true'] at ho
    obtain ⟨⟨h1, h2⟩, h3⟩ := ho
    split at h1
    · rename_i es' hes
      exact ⟨_, rfl, SoundE.plain (sim_ddisp hes (fun z => by rw [z] at h2; cases h2) h3 (has.q h1 g)) rfl⟩
    · cases h1
  · cases ho
theorem snd_isi {a : CE} {t : Ty} (ha : Snd T Γ NN d N a) : Snd T Γ NN d N (.isi a t) := .mk (fun _ _ => rfl) fun sc es ho X W g => by
  simp only [ok] at ho
  split at ho
  · simp only [Bool.and_eq_true, decide_eq_true_eq] at ho
    obtain ⟨⟨⟨⟨⟨⟨⟨h1, h2⟩, h3⟩, h4⟩, h5⟩, h6⟩, h7⟩, h8⟩ := ho
    subst h1 h2
    exact ⟨_, rfl, SoundE.plain (sim_isi (g.gl h3) (g.free h5) (g.gl h4) (g.free h6) (notStar_ok h7 _ _) (ha.e h8 g).1) rfl⟩
  · cases ho
theorem snd_ditems {a : CE} (ha : Snd T Γ NN d N a) : Snd T Γ NN d N (.ditems a) := .mk (fun _ _ => rfl) fun sc es ho X W g => by
  simp only [ok] at ho
  split at ho
  · simp only [Bool.and_eq_true, decide_eq_true_eq] at ho
    obtain ⟨⟨⟨⟨⟨⟨h1, h2⟩, h3⟩, h4⟩, h5⟩, h6⟩, h7⟩ := ho
    subst h1 h2
    exact ⟨_, rfl, SoundE.plain (sim_ditems g.calm (g.gl h3) (g.free h4) (notSup_ok h5 _ _ _) h6 (ha.e h7 g).1) rfl⟩
  · cases ho
theorem snd_dict1 {a : CE} (ha : Snd T Γ NN d N a) : Snd T Γ NN d N (.dict1 a) := .mk (fun _ _ => rfl) fun sc es ho X W g => by
  simp only [ok] at ho
  split at ho
  · simp only [Bool.and_eq_true, decide_eq_true_eq] at ho
    obtain ⟨⟨⟨⟨h1, h2⟩, h3⟩, h4⟩, h5⟩ := ho
    subst h1
    exact ⟨_, rfl, SoundE.plain (sim_dict1 g.calm (g.gl h2) (g.free h3) (notStar_ok h4 _ _) (ha.e h5 g).1) rfl⟩
  · cases ho
theorem snd_dnew : Snd T Γ NN d N .dnew := .mk (fun _ _ => rfl) fun sc es ho X W g => by
  simp only [ok] at ho
  split at ho
  · exact ⟨_, rfl, SoundE.plain sim_dnew rfl⟩
  · cases ho
/-- what is gone through -/
theorem snd_iter {k : ItK} {a b : CE} (ha : Snd T Γ NN d N a) (hb : Snd T Γ NN d N b) {iter tg : Expr} {sc : Scope} (h : (match k, iter with
        | .seq, it => ok Γ N a false sc [it]
        | .rng1, .Call (.Name x _) [ea] [] _ => decide (x = ("range" : Str)) && glB sc x && Γ.free.contains x && notStar ea && ok Γ N a false sc [ea]
        | .rng2, .Call (.Name x _) [ea, eb] [] _ => decide (x = ("range" : Str)) && glB sc x && Γ.free.contains x && notStar ea && notStar eb && ok Γ N a false sc [ea] && ok Γ N b false sc [eb]
        | .rng3 k, .Call (.Name x _) [ea, eb, ec] [] _ => decide (x = ("range" : Str)) && glB sc x && Γ.free.contains x && notStar ea && notStar eb && notStar ec && decide (stepC ec = some k) && ok Γ N a false sc [ea] && ok Γ N b false sc [eb]
        | .kk, .Name x _ => kkOk Γ a sc x
        | _, _ => false) = true) {X : Cx} {W : WX} (g : Good T Γ NN N d sc X W) : SimI T X W tg iter (iterM k (EV Γ NN d a) (EV Γ NN d b)) := by
  split at h
  · exact simI_seq (ha.e h g).1
  · simp only [Bool.and_eq_true, decide_eq_true_eq] at h
    obtain ⟨⟨⟨⟨h1, h2⟩, h3⟩, h4⟩, h5⟩ := h
    subst h1
    exact simI_rng1 (g.gl h2) (g.free h3) (notStar_ok h4 _ _) (ha.e h5 g).1
  · simp only [Bool.and_eq_true, decide_eq_true_eq] at h
    obtain ⟨⟨⟨⟨⟨⟨h1, h2⟩, h3⟩, h4⟩, h5⟩, h6⟩, h7⟩ := h
    subst h1
    exact simI_rng2 (g.gl h2) (g.free h3) (notStar_ok h4 _ _) (notStar_ok h5 _ _) (ha.e h6 g).1 (hb.e h7 g).1
  · simp only [Bool.and_eq_true, decide_eq_true_eq] at h
    obtain ⟨⟨⟨⟨⟨⟨⟨⟨h1, h2⟩, h3⟩, h4⟩, h5⟩, h6⟩, h7⟩, h8⟩, h9⟩ := h
    subst h1
    exact simI_rng3 (g.gl h2) (g.free h3) h7 (notStar_ok h4 _ _) (notStar_ok h5 _ _) (notStar_ok h6 _ _) (ha.e h8 g).1 (hb.e h9 g).1
  · unfold kkOk at h
    split at h
    · simp only [Bool.and_eq_true, decide_eq_true_eq] at h
      obtain ⟨⟨⟨h1, h2⟩, h3⟩, h4⟩ := h
      subst h1
      obtain ⟨kvs, D, k1, k2, k3⟩ := g.kds _ h4
      exact simI_kk (g.gl h2) k2 (nmB_ok h3).1 k1 k3
    · cases h
  · cases h
/-- the parts of a comprehension -/
structure LcParts (T : Tb) (Γ : Tabs) (NN d : Nat) (N : List Str) (own : List Nat) (k : ItK) (a b : CE) (hc : Bool) (c e : CE) (tg iter elt : Expr) (ifs : List Expr) (scope : Scope) (X : Cx) (W : WX) : Prop where
  it : SimI T X W tg iter (iterM k (EV Γ NN d a) (EV Γ NN d b))
  bo : ∃ ow, BlkOk X.N X.env.scope scope ow ∧ ow.map (·.2) = own
  fs : ∀ x, foldedSetIterable iter X.env x = pure x
  tg : Blk X scope fun X' => TgtF X' tg own
  ifs : Conds T X scope ifs (condM hc (EV Γ NN d c))
  el : Blk X scope fun X' => SimE T X' W0 elt (EV Γ NN d e)
theorem snd_lcParts {own : List Nat} {k : ItK} {a b c e : CE} {hc : Bool} (ha : Snd T Γ NN d N a) (hb : Snd T Γ NN d N b) (hcc : Snd T Γ NN d N c) (he : Snd T Γ NN d N e) {tg iter elt : Expr} {ifs : List Expr} {scope sc : Scope}
    (h : ((match ownOf tg own with
      | some ow => blkC N sc scope ow && ownB scope ow
      | none => false) && notSet iter && (match k, iter with
        | .seq, it => ok Γ N a false sc [it]
        | .rng1, .Call (.Name x _) [ea] [] _ => decide (x = ("range" : Str)) && glB sc x && Γ.free.contains x && notStar ea && ok Γ N a false sc [ea]
        | .rng2, .Call (.Name x _) [ea, eb] [] _ => decide (x = ("range" : Str)) && glB sc x && Γ.free.contains x && notStar ea && notStar eb && ok Γ N a false sc [ea] && ok Γ N b false sc [eb]
        | .rng3 k, .Call (.Name x _) [ea, eb, ec] [] _ => decide (x = ("range" : Str)) && glB sc x && Γ.free.contains x && notStar ea && notStar eb && notStar ec && decide (stepC ec = some k) && ok Γ N a false sc [ea] && ok Γ N b false sc [eb]
        | .kk, .Name x _ => kkOk Γ a sc x
        | _, _ => false) && (match hc, ifs with
        | false, [] => true
        | true, [ec] => tOk ec && ok Γ N c false (relS scope sc) [ec]
        | _, _ => false) && ok Γ N e false (relS scope sc) [elt]) = true) {X : Cx} {W : WX} (g : Good T Γ NN N d sc X W) : LcParts T Γ NN d N own k a b hc c e tg iter elt ifs scope X W := by
  simp only [Bool.and_eq_true] at h
  obtain ⟨⟨⟨⟨h1, h2⟩, h3⟩, h4⟩, h5⟩ := h
  split at h1
  · rename_i ow how
    simp only [Bool.and_eq_true] at h1
    have bo : BlkOk X.N X.env.scope scope ow := by
      rw [g.hN, g.hsc]
      exact blkOk_by h1.1
    obtain ⟨t1, t2⟩ := tgt_blk (X := X) how bo.ix h1.2
    have gb := g.blk (scope := scope) bo.kind
    refine ⟨snd_iter ha hb h3 g, ⟨ow, bo, t2⟩, notSet_ok h2 X.env, t1, ?_, fun s H C cl fp => (he.e h5 (gb s H C cl fp)).1⟩
    split at h4
    · exact .nil
    · simp only [Bool.and_eq_true] at h4
      exact .one fun s H C cl fp => (hcc.e h4.2 (gb s H C cl fp)).2.1 h4.1
    · cases h4
  · cases h1
theorem snd_lc {own : List Nat} {k : ItK} {a b c e : CE} {hc : Bool} (ha : Snd T Γ NN d N a) (hb : Snd T Γ NN d N b) (hcc : Snd T Γ NN d N c) (he : Snd T Γ NN d N e) : Snd T Γ NN d N (.lc own k a b hc c e) := .mk (fun _ _ => rfl) fun sc es ho X W g => by
  simp only [ok] at ho
  split at ho
  · obtain ⟨it, ⟨ow, bo, t2⟩, fs, tg, ifs, el⟩ := snd_lcParts ha hb hcc he ho g
    exact ⟨_, rfl, SoundE.plain (sim_lc NN g.calm (by rw [g.hN]; exact g.nd) it bo t2 fs tg ifs el) rfl⟩
  · cases ho
theorem fldC_ok {cs : List Nat} {f : List Nat} (h : fldC Γ cs f = true) {X : Cx} {W : WX} {sc : Scope} (g : Good T Γ NN N d sc X W) : FldOk X.K cs f := fun c hc => by
  have h1 := List.all_eq_true.mp h c hc
  split at h1
  · rename_i cl hcl
    have q := g.clss c cl hcl
    exact ⟨q.cls, q.flds f (by simpa using h1)⟩
  · cases h1
omit [ClsMap] in
theorem lookup_mem {c f : Nat} : ∀ {tab : List (Nat × Nat)}, tab.lookup c = some f → (c, f) ∈ tab
  | [], h => by cases h
  | (a, b) :: r, h => by
    rw [List.lookup_cons] at h
    cases e : c == a with
    | true =>
      rw [e] at h
      cases h
      rw [eq_of_beq e]
      exact List.mem_cons_self
    | false =>
      rw [e] at h
      exact List.mem_cons_of_mem _ (lookup_mem h)
theorem metC_ok {m : List Nat} {np : Nat} {tab : List (Nat × Nat)} (h : metC Γ m np tab = true) {X : Cx} {W : WX} {sc : Scope} (g : Good T Γ NN N d sc X W) : MetOk T X (d + 1) np m tab (run Γ.fn Γ.gl NN d) := fun c fi hl => by
  have h1 := List.all_eq_true.mp h (c, fi) (lookup_mem hl)
  split at h1
  · rename_i cl hcl
    simp only [Bool.and_eq_true, decide_eq_true_eq] at h1
    obtain ⟨h2, h3⟩ := h1
    split at h3
    · rename_i cf hcf
      have e := of_decide_eq_true h3
      subst e
      have q := g.clss c cl hcl
      obtain ⟨a, fd, ps, q1, q2, q3⟩ := q.mets m fi cf h2 hcf
      exact ⟨a, fd, ps, q.cls, q1, q2, q3⟩
    · cases h3
  · cases h1
theorem args_nil {c : Nat → List PV → Store → Res PV} {G : Nat → Option PV} {n : Nat} {as : CE} {sc : Scope} {es : List Expr} (h : ok Γ N as true sc es = true) (he : es = []) : ∀ ev st, evE c G n as ev st = .ok (.tup []) st := fun ev st => by
  subst he
  cases as with
  | nil => rfl
  | cons _ _ => cases h
  | _ => cases h
theorem snd_fld {cs : List Nat} {o : CE} {f : List Nat} (ho' : Snd T Γ NN d N o) : Snd T Γ NN d N (.fld cs o f) := .mk (fun _ _ => rfl) fun sc es ho X W g => by
  simp only [ok] at ho
  split at ho
  · simp only [Bool.and_eq_true, decide_eq_true_eq] at ho
    obtain ⟨⟨⟨h1, h2⟩, h3⟩, h4⟩ := ho
    subst h1
    exact ⟨_, rfl, SoundE.plain (sim_fld (fldC_ok h2 g) (notSup_ok h3 _ _ _) (ho'.e h4 g).1) rfl⟩
  · cases ho
theorem all_stars {env : PySem.Env} {pos : Pos} : ∀ {es : List Expr}, es.all notStar = true → (backTo pos (starEach es env)).all (!·.1) = true
  | [], _ => rfl
  | e :: es, h => by
    simp only [List.all_cons, Bool.and_eq_true] at h
    rw [notStar_ok h.1]
    show (true && (backTo pos (starEach es env)).all (!·.1)) = true
    rw [all_stars h.2]
    rfl
theorem snd_meth {o as : CE} {m : List Nat} {tab : List (Nat × Nat)} (ho' : Snd T Γ NN d N o) (has : Snd T Γ NN d N as) : Snd T Γ NN d N (.meth o m tab as) := .mk (fun _ _ => rfl) fun sc es ho X W g => by
  simp only [ok] at ho
  split at ho
  · rename_i eo n apos es cpos _
    simp only [Bool.and_eq_true, decide_eq_true_eq] at ho
    obtain ⟨⟨⟨⟨⟨⟨⟨h1, h2⟩, h3⟩, h4⟩, h5⟩, h6⟩, h7⟩, h8⟩ := ho
    subst h1
    refine ⟨_, rfl, SoundE.plain (sim_meth (metC_ok h2 g) g.room g.takes h5 (pl := plainOf eo X.env) ?_ (ho'.e h7 g).1 (has.a h8 g) (fun ev st v st' q => args_len as sc es h8 ev st v st' q) (fun he ev st => args_nil h8 he ev st)) rfl⟩
    have hf : methodCallForm (es.length + 0) (backTo cpos (starEach es X.env)) (backToKw cpos (keywordEach [] X.env)) = true := by
      unfold methodCallForm
      rw [all_stars h5]
      show (true && true && decide (es.length + 0 + 0 < 30)) = true
      rw [decide_eq_true (by omega)]
      rfl
    have e : eval (.Call (.Attribute eo (⟨m.toArray⟩ : Str) apos) es [] cpos) X.env = (do
        let ov ← attributeBase eo (⟨m.toArray⟩ : Str) X.env (eval eo X.env)
        standAt apos.atName
        methodCall eo (⟨m.toArray⟩ : Str) apos cpos X.env ov (es.length + 0) (backTo cpos (starEach es X.env)) (backToKw cpos (keywordEach [] X.env))) := rfl
    rw [e, notSup_ok h3]
    simp only [mcall_line hf h4]
  · cases ho
theorem snd_new {c f : Nat} {as : CE} (has : Snd T Γ NN d N as) : Snd T Γ NN d N (.new c f as) := .mk (fun _ _ => rfl) fun sc es ho X W g => by
  simp only [ok] at ho
  split at ho
  · rename_i x p es pos _
    simp only [Bool.and_eq_true, decide_eq_true_eq] at ho
    obtain ⟨⟨⟨⟨h1, h2⟩, h3⟩, h4⟩, h5⟩ := ho
    split at h1
    · rename_i cl hcl
      simp only [Bool.and_eq_true, decide_eq_true_eq] at h1
      obtain ⟨⟨h6, h7⟩, h8⟩ := h1
      subst h6 h7
      split at h8
      · rename_i cf hcf
        have e := of_decide_eq_true h8
        obtain ⟨a, fd, ps, q1, q2, q3, q4⟩ := (g.clss c cl hcl).ini cf hcf
        rw [e] at q4
        exact ⟨_, rfl, SoundE.plain (sim_new q1 q4 g.room (g.gl h2) q2 q3 (nmB_ok h3).1 h4 (has.a h5 g) (fun ev st v st' q => args_len as sc es h5 ev st v st' q) (fun he ev st => args_nil h5 he ev st)) rfl⟩
      · cases h8
    · cases h1
  · cases ho
theorem snd_all : ∀ ce : CE, Snd T Γ NN d N ce := by
  intro ce
  induction ce with
  | lit v => exact snd_lit v
  | var i => exact snd_var i
  | glob i => exact snd_glob i
  | nil => exact snd_nil
  | cons a as h1 h2 => exact snd_cons h1 h2
  | tup as h => exact snd_tup h
  | lst as h => exact snd_lst h
  | bin o a b h1 h2 => exact snd_bin h1 h2
  | cmp o a b h1 h2 => exact snd_cmp h1 h2
  | cmp2 o o' a b c h1 h2 h3 => exact snd_cmp2 h1 h2 h3
  | and a b h1 h2 => exact snd_and h1 h2
  | or a b h1 h2 => exact snd_or h1 h2
  | not a h => exact snd_not h
  | neg a h => exact snd_neg h
  | ite c a b h1 h2 h3 => exact snd_ite h1 h2 h3
  | ix a b h1 h2 => exact snd_ix h1 h2
  | noE => exact snd_noE
  | sl a lo hi h1 h2 h3 => exact snd_sl h1 h2 h3
  | call f as h => exact snd_call h
  | blt1 f a h => exact snd_blt1 h
  | blt2 f a b h1 h2 => exact snd_blt2 h1 h2
  | mth0 m o h => exact snd_mth0 h
  | mth1 m o a h1 h2 => exact snd_mth1 h1 h2
  | mth2 m o a b h1 h2 h3 => exact snd_mth2 h1 h2 h3
  | kix g a h => exact snd_kix h
  | kks g => exact snd_kks
  | kin n g a h => exact snd_kin h
  | ddisp as h => exact snd_ddisp h
  | isi a t h => exact snd_isi h
  | ditems a h => exact snd_ditems h
  | dict1 a h => exact snd_dict1 h
  | dnew => exact snd_dnew
  | fld cs o f h => exact snd_fld h
  | meth o m tab as h1 h2 => exact snd_meth h1 h2
  | new c f as h => exact snd_new h
  | lc own k a b hc c e h1 h2 h3 h4 => exact snd_lc h1 h2 h3 h4
end
end Vm

set_option maxHeartbeats 8000000
/-! Vm12: compiled statements against the text; whole functions. -/
namespace Vm
open PySem L2
variable [ClsMap]

theorem stars_named {X : Cx} {N : List Str} {sc : Scope} (hs : X.env.scope = sc) (hf : X.fn = fun _ => true) {x : Str} {i : Nat} {pos : Pos} (hi : X.N[i]? = some x) (h : stoB sc x = true) : Tgt X (.Name x pos) [i] := by
  refine .name hi ?_ (.inl (by rw [hf]))
  rw [hs]
  exact stoB_ok h
def ownN (N : List Str) (sc : Scope) (ow : List (Str × Nat)) : Bool := ow.all fun p => decide (N[p.2]? = some p.1) && stoB sc p.1
theorem tgtL_own {X : Cx} {sc : Scope} (hs : X.env.scope = sc) (hf : X.fn = fun _ => true) : ∀ (es : List Expr) (is : List Nat) (xs : List Str), namesOf es = some xs → es.length = is.length → ownN X.N sc (xs.zip is) = true → TgtL X es is
  | [], [], _, _, _, _ => .nil
  | [], _ :: _, _, _, h, _ => by cases h
  | _ :: _, [], _, _, h, _ => by cases h
  | e :: es, i :: is, xs, hm, hl, ho => by
    obtain ⟨x, pos, ys, rfl, hr, rfl⟩ := namesOf_cons hm
    have ho : ((decide (X.N[i]? = some x) && stoB sc x) && ownN X.N sc (ys.zip is)) = true := ho
    simp only [Bool.and_eq_true, decide_eq_true_eq] at ho
    exact .cons (stars_named (N := X.N) hs hf ho.1.1 ho.1.2) (tgtL_own hs hf es is ys hr (by simpa using hl) ho.2)
theorem tgt_own {X : Cx} {sc : Scope} (hs : X.env.scope = sc) (hf : X.fn = fun _ => true) {tg : Expr} {is : List Nat} {ow : List (Str × Nat)} (h : ownOf tg is = some ow) (ho : ownN X.N sc ow = true) : TgtF X tg is := by
  unfold ownOf at h
  split at h
  · cases h
    simp only [ownN, List.all_cons, List.all_nil, Bool.and_true, Bool.and_eq_true, decide_eq_true_eq] at ho
    exact .one (stars_named (N := X.N) hs hf ho.1 ho.2)
  · rename_i _ es k _
    split at h
    · cases h
    · rename_i hc
      obtain ⟨xs, h1, h2⟩ := Option.map_eq_some_iff.mp h
      subst h2
      simp only [Bool.or_eq_true, decide_eq_true_eq, Bool.not_eq_true', not_or] at hc
      exact .many (tgtL_own hs hf es is xs h1 (by simpa using hc.2) ho) hc.1
  · cases h

def okT (Γ : Tabs) (N : List Str) (sc : Scope) (t : CT) (tg : Expr) : Bool := match t with
  | .name i => (match ownOf tg [i] with
    | some ow => ownN N sc ow
    | none => false)
  | .names is => !(is.length == 1) && (match ownOf tg is with
    | some ow => ownN N sc ow
    | none => false)
  | .sub o i => (match tg with
    | .Subscript eo ei _ => notSlice ei && ok Γ N o false sc [eo] && ok Γ N i false sc [ei]
    | _ => false)
  | .fld cs o f => (match tg with
    | .Attribute eo n _ => decide (n = (⟨f.toArray⟩ : Str)) && fldC Γ cs f && ok Γ N o false sc [eo]
    | _ => false)
def notName : Expr → Bool
  | .Name _ _ => false
  | _ => true
/-- the value goes to the target as any other -/
def plainA (sc : Scope) (tg : Expr) : Expr → Bool
  | .ListComp _ _ scope pos => match tg with
    | .Name y py => !swB sc y py pos scope
    | .Starred _ _ => false
    | _ => true
  | e => notComp e
def tupNames : Expr → Expr → Option (Str × Str)
  | .Tuple [.Name x px, .Name y py] _ _, .Tuple [a, b] _ _ => if px.line == py.line then some (x, y) else none
  | _, _ => none
/-- four targets and more -/
def bigTup : Expr → Bool
  | .Tuple ts _ _ => decide (4 ≤ ts.length)
  | _ => false
theorem bigTup_ok {t : Expr} (h : bigTup t = true) (e : Expr) (env : PySem.Env) : swappedStores [t] e env = pure none := by
  unfold bigTup at h
  split at h
  · rename_i ts k p
    have hl : 4 ≤ ts.length := of_decide_eq_true h
    unfold swappedStores
    cases e with
    | Tuple vs k2 p2 =>
      have h2 : (!(ts.length == 2 || ts.length == 3)) = true := by
        have a : (ts.length == 2) = false := by simpa using (by omega : ¬ ts.length = 2)
        have b : (ts.length == 3) = false := by simpa using (by omega : ¬ ts.length = 3)
        rw [a, b]
        rfl
      simp [h2]
    | _ => rfl
  · cases h
/-- constants on the right: the tuple is made -/
def foldTup : Expr → Bool
  | .Tuple vs _ _ => vs.all (foldedForSure 8)
  | _ => false
theorem foldTup_ok {e : Expr} (h : foldTup e = true) (t : Expr) (env : PySem.Env) : swappedStores [t] e env = pure none := by
  unfold foldTup at h
  split at h
  · rename_i vs k p
    unfold swappedStores
    split
    · rename_i heq
      have hv : ∀ ts vs', (match [t], Expr.Tuple vs k p with
        | [.Tuple ts _ _], .Tuple vs _ _ | [.List ts _], .Tuple vs _ _ => some (ts, vs)
        | _, _ => none) = some (ts, vs') → vs' = vs := fun ts vs' e => by
        cases t <;> first | (cases e; rfl) | cases e
      have e := hv _ _ heq
      subst e
      dsimp only
      split
      · rfl
      split
      · rfl
      split
      · rfl
      first | rfl | (rw [h]; rfl) | (rw [if_pos h])
    · rfl
  · cases h
def foldedB (es : List Expr) : Bool := es.all (foldedForSure 8) || es.all (constantsAlone 8)
def okS (Γ : Tabs) (N : List Str) (sc : Scope) : CS → Bool → List Stmt → Bool
  | .nil => fun l ss => match l, ss with
    | true, ss => ss.isEmpty
    | _, _ => false
  | .cons s r => fun l ss => match l, ss with
    | true, x :: xs => okS Γ N sc s false [x] && okS Γ N sc r true xs
    | _, _ => false
  | .asg t e => fun l ss => match l, ss with
    | false, [.Assign [tg] ex pos] => notStar tg && okT Γ N sc t tg && ok Γ N e false sc [ex] && (plainA sc tg ex && (simpTgt tg || notTup ex || bigTup tg || foldTup ex) ||
      (match t, tg, e, ex with
        | .name i, .Name y py, .lc _ _ _ _ _ _ _, .ListComp _ _ scope lpos => swB sc y py lpos scope
        | _, _, _, _ => false))
    | _, _ => false
  | .par i j a b => fun l ss => match l, ss with
    | false, [.Assign [.Tuple [.Name x px, .Name y py] _ _] (.Tuple [ea, eb] _ _) pos] => decide (N[i]? = some x) && decide (N[j]? = some y) && !(x == y) && (px.line == py.line) &&
      decide (sc.names.lookup x = some .local) && decide (sc.names.lookup y = some .local) && notStar ea && notStar eb && !([ea, eb].all (foldedForSure 8)) && !([ea, eb].all (constantsAlone 8)) && ok Γ N a false sc [ea] && ok Γ N b false sc [eb]
    | _, _ => false
  | .expr e => fun l ss => match l, ss with
    | false, [.Expr ex pos] => notComp ex && ok Γ N e false sc [ex]
    | _, _ => false
  | .ret e => fun l ss => match l, ss with
    | false, [.Return (some ex) pos] => ok Γ N e false sc [ex]
    | _, _ => false
  | .retN => fun l ss => match l, ss with
    | false, [.Return none pos] => true
    | _, _ => false
  | .pass => fun l ss => match l, ss with
    | false, [.Pass pos] => true
    | _, _ => false
  | .brk => fun l ss => match l, ss with
    | false, [.Break pos] => true
    | _, _ => false
  | .cont => fun l ss => match l, ss with
    | false, [.Continue pos] => true
    | _, _ => false
  | .if_ c a b => fun l ss => match l, ss with
    | false, [.If ec sa sb pos] => tOk ec && ok Γ N c false sc [ec] && okS Γ N sc a true sa && okS Γ N sc b true sb
    | _, _ => false
  | .while_ c b => fun l ss => match l, ss with
    | false, [.While ec sb [] pos] => tOk ec && ok Γ N c false sc [ec] && okS Γ N sc b true sb
    | _, _ => false
  | .for_ t k a b body => fun l ss => match l, ss with
    | false, [.For tg iter sb [] pos] => notSet iter && okT Γ N sc t tg && (match k, iter with
        | .seq, it => ok Γ N a false sc [it]
        | .rng1, .Call (.Name x _) [ea] [] _ => decide (x = ("range" : Str)) && glB sc x && Γ.free.contains x && notStar ea && ok Γ N a false sc [ea]
        | .rng2, .Call (.Name x _) [ea, eb] [] _ => decide (x = ("range" : Str)) && glB sc x && Γ.free.contains x && notStar ea && notStar eb && ok Γ N a false sc [ea] && ok Γ N b false sc [eb]
        | .rng3 k, .Call (.Name x _) [ea, eb, ec] [] _ => decide (x = ("range" : Str)) && glB sc x && Γ.free.contains x && notStar ea && notStar eb && notStar ec && decide (stepC ec = some k) && ok Γ N a false sc [ea] && ok Γ N b false sc [eb]
        | .kk, .Name x _ => kkOk Γ a sc x
        | _, _ => false) && okS Γ N sc body true sb
    | _, _ => false
  | .raise_ c ks as => fun l ss => match l, ss with
    | false, [.Raise (some (.Call (.Name x _) (e :: es) [] _)) none _] => (match Γ.err c with
      | some er => decide (er.name = x) && decide (er.ks = ks) && decide (ks.length = (e :: es).length)
      | none => false) && glB sc x && nmB x && (e :: es).all notStar && ok Γ N as true sc (e :: es)
    | _, _ => false
  | .try_ body kn cs s => fun l ss => match l, ss with
    | false, [.Try sb [.ExceptHandler (some (.Name x _)) (some n) (b0 :: suite) _] [] [] _] => decide (kn = Γ.errAll) && decide (Γ.exm x = some cs) && glB sc x && nmB x && nmB n && N.contains n && decide (sc.names.lookup n = some .local) && Γ.free.contains "isinstance" &&
      okV (Γ.ut n) sc s (b0 :: suite) && okS Γ N sc body true sb
    | _, _ => false

section
variable {T : Tb} {Γ : Tabs} {NN d : Nat} {N : List Str} {sc : Scope} {X : Cx} {W : WX}
/-- a def's own context -/
structure StC (X : Cx) : Prop where
  fn : X.fn = fun _ => true
  stk : X.stack = X.env :: X.outer
  frm : X.env.frame = some X.env.locals
abbrev RV (Γ : Tabs) (NN d : Nat) := run Γ.fn Γ.gl NN d
theorem okT_ok (g : Good T Γ NN N d sc X W) (hf : X.fn = fun _ => true) {t : CT} {tg : Expr} (h : okT Γ N sc t tg = true) : SimG T X W tg (fun v ev st => evT (RV Γ NN d) Γ.gl NN t v ev st) := by
  have nd : X.N.Nodup := by rw [g.hN]; exact g.nd
  cases t with
  | name i =>
    simp only [okT] at h
    split at h
    · rename_i ow how
      refine g_tgt (is := [i]) g.calm nd (tgt_own g.hsc hf how ?_)
      rw [g.hN]
      exact h
    · cases h
  | names is =>
    simp only [okT] at h
    simp only [Bool.and_eq_true, Bool.not_eq_true', beq_eq_false_iff_ne, ne_eq] at h
    obtain ⟨hl, h⟩ := h
    split at h
    · rename_i ow how
      have q := g_tgt (T := T) (W := W) g.calm nd (tgt_own g.hsc hf how (by rw [g.hN]; exact h))
      have e : (fun v ev (st : Store) => Res.of (bindOwn is v ev) st) = fun v ev st => evT (RV Γ NN d) Γ.gl NN (.names is) v ev st := by
        funext v ev st
        cases is with
        | nil => cases v <;> rfl
        | cons i is =>
          cases is with
          | nil => exact absurd rfl hl
          | cons j is => cases v <;> rfl
      rw [← e]
      exact q
    · cases h
  | sub o i =>
    simp only [okT] at h
    split at h
    · simp only [Bool.and_eq_true] at h
      obtain ⟨⟨h1, h2⟩, h3⟩ := h
      exact g_sub g.un (notSlice_sub h1 _ _ _) ((snd_all _).e h2 g).1 ((snd_all _).e h3 g).1
    · cases h
  | fld cs o f =>
    simp only [okT] at h
    split at h
    · simp only [Bool.and_eq_true, decide_eq_true_eq] at h
      obtain ⟨⟨h1, h2⟩, h3⟩ := h
      subst h1
      exact g_fld (fldC_ok h2 g) ((snd_all _).e h3 g).1
    · cases h

theorem plainA_ok (hs : X.env.scope = sc) (hk : sc.kind = .function) {tg e : Expr} (h : plainA sc tg e = true) (n : Nat) : swapsWithSole [tg] e n X.env = pure false := by
  unfold plainA at h
  split at h
  · split at h
    · simp only [Bool.not_eq_true'] at h
      exact swB_no (n := n) hs hk h
    · cases h
    · rename_i tg' hn _
      cases tg <;> first | rfl | exact absurd rfl (hn _ _)
  · exact notComp_sole h tg n X.env

theorem par_ok {env : PySem.Env} {x y : Str} {px py p1 p2 : Pos} {k1 k2 : Nat} {ea eb : Expr} (ek : env.blockKind = .function) (kx : env.kindOf x = some .local) (ky : env.kindOf y = some .local) (hl : px.line = py.line) (hne : ¬ x = y)
    (sa : notStar ea = true) (sb : notStar eb = true) (hf : [ea, eb].all (foldedForSure 8) = false) (hc : [ea, eb].all (constantsAlone 8) = false) :
    swappedStores [.Tuple [.Name x px, .Name y py] k1 p1] (.Tuple [ea, eb] k2 p2) env = pure (some [x, y]) := by
  have f0 : ∀ e : Expr, notStar e = true → (match e with | .Starred .. => true | _ => false) = false := by
    intro e h
    cases e <;> first | rfl | cases h
  have fa := f0 ea sa
  have fb := f0 eb sb
  have hd : ([x, y] : List Str).eraseDups.length = 2 := by
    have z : (y == x) = false := by simpa using fun e : y = x => hne e.symm
    simp [List.eraseDups_cons, z]
  have e1 : ((2 : Nat) == 2 || (2 : Nat) == 3) = true := rfl
  unfold swappedStores
  simp [ek, kx, ky, hl, hf, hc, fa, fb, hd, Expr.pos]
  intro h
  rcases h with h | h
  · exact absurd (h.symm.trans fa) (by decide)
  · exact absurd (h.symm.trans fb) (by decide)

structure SndS (T : Tb) (Γ : Tabs) (NN d : Nat) (N : List Str) (cs : CS) : Prop where
  l : ∀ {sc ss X W}, okS Γ N sc cs true ss = true → Good T Γ NN N d sc X W → StC X → SimSs T X W ss (evS (RV Γ NN d) Γ.gl NN cs)
  s : ∀ {sc s X W}, okS Γ N sc cs false [s] = true → Good T Γ NN N d sc X W → StC X → SimS T X W s (evS (RV Γ NN d) Γ.gl NN cs)
theorem SndS.one {cs : CS} (h0 : ∀ sc ss, okS Γ N sc cs true ss = false) (h : ∀ {sc s X W}, okS Γ N sc cs false [s] = true → Good T Γ NN N d sc X W → StC X → SimS T X W s (evS (RV Γ NN d) Γ.gl NN cs)) : SndS T Γ NN d N cs :=
  ⟨fun h' _ _ => (by rw [h0] at h'; cases h'), h⟩
theorem snds_all : ∀ cs : CS, SndS T Γ NN d N cs := by
  intro cs
  induction cs with
  | nil =>
    refine ⟨fun {sc ss X W} h g hf => ?_, fun {sc s X W} h => (by cases h)⟩
    cases ss with
    | nil => exact ss_nil
    | cons _ _ => cases h
  | cons s r hs hr =>
    refine ⟨fun {sc ss X W} h g hf => ?_, fun {sc s X W} h => (by cases h)⟩
    cases ss with
    | nil => cases h
    | cons x xs =>
      have h : (okS Γ N sc s false [x] && okS Γ N sc r true xs) = true := h
      simp only [Bool.and_eq_true] at h
      exact ss_cons (hs.s h.1 g hf) (hr.l h.2 g hf)
  | asg t e =>
    refine .one (fun _ _ => rfl) fun {sc s X W} h g hf => ?_
    simp only [okS] at h
    split at h
    · rename_i tg ex pos _ he
      cases he
      simp only [Bool.and_eq_true, Bool.or_eq_true] at h
      obtain ⟨⟨⟨h1, h2⟩, h3⟩, h4⟩ := h
      rcases h4 with h4 | h4
      · have hw : swappedStores [tg] ex X.env = pure none := by
          rcases h4.2 with ((z | z) | z) | z
          · exact simpTgt_ok z ex X.env
          · exact notTup_r z tg X.env
          · exact bigTup_ok z ex X.env
          · exact foldTup_ok z tg X.env
        exact s_asg (plainA_ok g.hsc g.kind h4.1 _) hw (notStar_assign h1 X.env) ((snd_all e).e h3 g).1 (okT_ok g hf.fn h2)
      · split at h4
        · rename_i i y py own k ca cb hc cc ce elt gens scope lpos
          have h3 : ok Γ N (.lc own k ca cb hc cc ce) false sc [.ListComp elt gens scope lpos] = true := h3
          simp only [ok] at h3
          split at h3
          · rename_i he
            cases he
            obtain ⟨it, ⟨ow, bo, t2⟩, fs, tg, ifs, el⟩ := snd_lcParts (snd_all ca) (snd_all cb) (snd_all cc) (snd_all ce) h3 g
            have hl : sc.names.lookup y = some .local := by
              unfold swB at h4
              simp only [Bool.and_eq_true] at h4
              exact eq_of_beq h4.1.1
            have hi : X.N[i]? = some y := by
              rw [g.hN]
              simpa [okT, ownOf, ownN] using And.left (by simpa [okT, ownOf, ownN] using h2)
            exact s_asgLc NN g.calm (by rw [g.hN]; exact g.nd) hi (by rw [g.hsc]; exact hl) (swB_ok g.hsc g.kind h4) it bo t2 fs tg ifs el
          · cases h3
        · cases h4
    · cases h
  | par i j a b =>
    refine .one (fun _ _ => rfl) fun {sc s X W} h g hf => ?_
    simp only [okS] at h
    split at h
    · rename_i x px y py k1 p1 ea eb k2 p2 pos _ he
      cases he
      simp only [Bool.and_eq_true, decide_eq_true_eq, Bool.not_eq_true', beq_iff_eq, beq_eq_false_iff_ne, ne_eq] at h
      obtain ⟨⟨⟨⟨⟨⟨⟨⟨⟨⟨⟨h1, h2⟩, h3⟩, h4⟩, h5⟩, h6⟩, h7⟩, h8⟩, h9⟩, h10⟩, h11⟩, h12⟩ := h
      have ek : X.env.blockKind = .function := by unfold Env.blockKind; rw [g.hsc, g.kind]; rfl
      have kx : X.env.kindOf x = some .local := by unfold Env.kindOf; rw [g.hsc]; exact h5
      have ky : X.env.kindOf y = some .local := by unfold Env.kindOf; rw [g.hsc]; exact h6
      exact s_par g.calm (by rw [g.hN]; exact g.nd) (by rw [g.hN]; exact h1) (by rw [g.hN]; exact h2) (fun e => h3 (by rw [e] at h1; rw [h1] at h2; exact Option.some.inj h2)) (by rw [g.hsc]; exact h5) (by rw [g.hsc]; exact h6)
        (notStar_ok h7 _ _) (notStar_ok h8 _ _) (par_ok ek kx ky h4 h3 h7 h8 h9 h10) ((snd_all a).e h11 g).1 ((snd_all b).e h12 g).1
    · cases h
  | expr e =>
    refine .one (fun _ _ => rfl) fun {sc s X W} h g hf => ?_
    simp only [okS] at h
    split at h
    · rename_i ex pos _ he
      cases he
      simp only [Bool.and_eq_true] at h
      exact s_expr (notComp_ok h.1 none _ X.env) ((snd_all e).e h.2 g).1
    · cases h
  | ret e =>
    refine .one (fun _ _ => rfl) fun {sc s X W} h g hf => ?_
    simp only [okS] at h
    split at h
    · rename_i ex pos _ he
      cases he
      exact s_ret ((snd_all e).e h g).1
    · cases h
  | retN =>
    refine .one (fun _ _ => rfl) fun {sc s X W} h g hf => ?_
    simp only [okS] at h
    split at h
    · rename_i he
      cases he
      exact s_retN
    · cases h
  | pass =>
    refine .one (fun _ _ => rfl) fun {sc s X W} h g hf => ?_
    simp only [okS] at h
    split at h
    · rename_i he
      cases he
      exact s_pass
    · cases h
  | brk =>
    refine .one (fun _ _ => rfl) fun {sc s X W} h g hf => ?_
    simp only [okS] at h
    split at h
    · rename_i he
      cases he
      exact s_brk
    · cases h
  | cont =>
    refine .one (fun _ _ => rfl) fun {sc s X W} h g hf => ?_
    simp only [okS] at h
    split at h
    · rename_i he
      cases he
      exact s_cont
    · cases h
  | if_ c a b ha hb =>
    refine .one (fun _ _ => rfl) fun {sc s X W} h g hf => ?_
    simp only [okS] at h
    split at h
    · rename_i he
      cases he
      simp only [Bool.and_eq_true] at h
      obtain ⟨⟨⟨h1, h2⟩, h3⟩, h4⟩ := h
      exact s_if (((snd_all c).e h2 g).2.1 h1) (ha.l h3 g hf) (hb.l h4 g hf)
    · cases h
  | while_ c b hb =>
    refine .one (fun _ _ => rfl) fun {sc s X W} h g hf => ?_
    simp only [okS] at h
    split at h
    · rename_i he
      cases he
      simp only [Bool.and_eq_true] at h
      obtain ⟨⟨h1, h2⟩, h3⟩ := h
      exact s_while NN g.pass (((snd_all c).e h2 g).2.1 h1) (hb.l h3 g hf)
    · cases h
  | for_ t k a b body hb =>
    refine .one (fun _ _ => rfl) fun {sc s X W} h g hf => ?_
    simp only [okS] at h
    split at h
    · rename_i he
      cases he
      simp only [Bool.and_eq_true] at h
      obtain ⟨⟨⟨h1, h2⟩, h3⟩, h4⟩ := h
      exact s_for NN g.pass g.calm (notSet_ok h1 X.env) (snd_iter (snd_all a) (snd_all b) h3 g) (okT_ok g hf.fn h2) (hb.l h4 g hf)
    · cases h
  | raise_ c ks as =>
    refine .one (fun _ _ => rfl) fun {sc s X W} h g hf => ?_
    simp only [okS] at h
    split at h
    · rename_i x p e es p2 p3 _ he
      cases he
      simp only [Bool.and_eq_true, decide_eq_true_eq] at h
      obtain ⟨⟨⟨⟨h1, h2⟩, h3⟩, h4⟩, h5⟩ := h
      split at h1
      · rename_i er her
        simp only [Bool.and_eq_true, decide_eq_true_eq] at h1
        obtain ⟨⟨h6, h7⟩, h8⟩ := h1
        subst h6 h7
        exact s_raise (g.errs c er her) g.calm g.takes g.room.room (g.gl h2) (nmB_ok h3).1 h4 ((snd_all as).a h5 g) fun ev st v st' q => (args_len as sc (e :: es) h5 ev st v st' q).trans h8.symm
      · cases h1
    · cases h
  | try_ body kn cs s hb =>
    refine .one (fun _ _ => rfl) fun {sc st X W} h g hf => ?_
    simp only [okS] at h
    split at h
    · rename_i sb x px n b0 suite p1 p2 _ he
      cases he
      simp only [Bool.and_eq_true, decide_eq_true_eq] at h
      obtain ⟨⟨⟨⟨⟨⟨⟨⟨⟨h1, h2⟩, h3⟩, h4⟩, h5⟩, h6⟩, h7⟩, h8⟩, h9⟩, h10⟩ := h
      subst h1
      obtain ⟨C, c1, c2⟩ := g.exmT x cs h2
      obtain ⟨i, hi⟩ := List.mem_iff_getElem?.mp (show n ∈ N by simpa using h6)
      have hx : Names X x C := ⟨g.gl h3, (nmB_ok h4).1, c1⟩
      refine s_try (U := Γ.ut n) (i := i) hf.stk hf.frm (by rw [g.hN]; exact g.nd) (by rw [g.hN]; exact hi) (by rw [g.hsc]; exact h7) hx g.takes h5 (g.free h8) g.inj g.efn (fun c hc => g.errT c hc n) c2 ?_ (by rw [g.hsc]; exact h9)
      intro W' pn xe tk hp
      have g' : Good T Γ NN N d sc (X.tr pn xe) W' :=
        { hN := g.hN, hsc := g.hsc, nd := g.nd, kind := g.kind, calm := g.calm, room := g.room, pass := hp, takes := tk, fns := g.fns, clss := fun c cl h => ⟨(g.clss c cl h).cls, (g.clss c cl h).flds, (g.clss c cl h).mets, (g.clss c cl h).ini⟩,
          errs := g.errs, efn := g.efn, inj := g.inj, errT := g.errT, exmT := g.exmT, gls := g.gls, kds := g.kds, frees := g.frees }
      exact hb.l h10 g' ⟨hf.fn, hf.stk, hf.frm⟩
    · cases h
end
end Vm

set_option maxHeartbeats 8000000
/-! Vm13: whole programs: what the machine says of their defs is what the text does. -/
namespace Vm
open PySem L2
variable [ClsMap]

structure Row where
  name : Str
  qual : Str
  top : Bool
  st : Stmt
  ps : List Str
  N : List Str
  c : Fn
structure Pg where
  rows : List Row
  cls : List Cl
  errs : List Er
  gl : Nat → Option PV
  gname : Nat → Str
  kd : Nat → Bool
  free : List Str
  enames : List Str
  isin : List (Str × List Nat)
  exm : List (Str × List Nat)
def efnOf (names : List Str) (n : Nat) : Str := match names[n]? with
  | some x => x
  | none => ⟨#[2000000 + n]⟩
omit [ClsMap] in
theorem efn_inj {names : List Str} (nd : names.Nodup) (hs : names.all (fun x => x.cps.all fun c => decide (c < 2000000)) = true) : ∀ f g, efnOf names f = efnOf names g → f = g := by
  have low : ∀ (i n : Nat) (x : Str), names[i]? = some x → x ≠ ⟨#[2000000 + n]⟩ := fun i n x hi e => by
    have h := List.all_eq_true.mp hs x (List.mem_of_getElem? hi)
    rw [e] at h
    simp at h
    omega
  intro f g h
  unfold efnOf at h
  cases hf : names[f]? with
  | none =>
    cases hg : names[g]? with
    | none =>
      rw [hf, hg] at h
      simpa using h
    | some y =>
      rw [hf, hg] at h
      exact absurd h.symm (low g f y hg)
  | some x =>
    cases hg : names[g]? with
    | none =>
      rw [hf, hg] at h
      exact absurd h (low f g x hf)
    | some y =>
      rw [hf, hg] at h
      have h : x = y := h
      subst h
      exact (List.getElem?_inj (List.getElem?_eq_some_iff.mp hf).1 nd).mp (hf.trans hg.symm)
def tabs (p : Pg) : Tabs :=
  { fn := fun f => (p.rows[f]?).map (·.c), top := fun f => match p.rows[f]? with
      | some r => r.top
      | none => false, fname := fun f => match p.rows[f]? with
      | some r => r.name
      | none => "", gl := p.gl, gname := p.gname, kd := p.kd, free := p.free, cls := fun c => p.cls[c]?, err := fun c => p.errs[c]?, errAll := List.range p.errs.length, efn := efnOf p.enames, eflds := List.range p.enames.length, isin := fun z => p.isin.lookup z, exm := fun z => p.exm.lookup z }
def pl (ps N : List Str) (sc : Scope) : Bool :=
  decide (sc.kind = .function) && !sc.isCoroutine && !sc.isGenerator && decide N.Nodup && decide (N.take ps.length = ps) && ps.all (fun x => stoB sc x) && sc.names.all (fun y => !decide (y.2 = .free))
theorem pl_ok {ps N : List Str} {sc : Scope} (h : pl ps N sc = true) : FnScope N ps sc := by
  unfold pl at h
  simp only [Bool.and_eq_true, Bool.not_eq_true', decide_eq_true_eq, List.all_eq_true, decide_eq_false_iff_not] at h
  obtain ⟨⟨⟨⟨⟨⟨h1, h2⟩, h3⟩, h4⟩, h5⟩, h6⟩, h7⟩ := h
  exact ⟨h1, h2, h3, h4, h5, fun x hx => stoB_ok (h6 x hx), h7⟩
def rowOk (Γ : Tabs) (r : Row) : Bool := pl r.ps r.N (defScope r.st) && decide (r.c.np = r.ps.length) && decide (r.c.ns = r.N.length) && okS Γ r.N (defScope r.st) r.c.body true (defBody r.st)
/-- the whole check that is decided by computing -/
def pgOk (p : Pg) : Bool := p.rows.all (rowOk (tabs p)) && decide (p.rows.length ≤ 1000) && decide p.enames.Nodup && p.enames.all (fun x => x.cps.all fun c => decide (c < 2000000))
/-- a row of the text as it stands behind the top -/
structure RowTxt (K : PySem.W.Frag) (mg : Str → Option Value) (r : Row) (a : Addr) (fd : FuncData) : Prop where
  g : r.top = true → mg r.name = some (.ref a)
  F : Fun K r.name r.qual r.st a fd
  b : Binds K fd r.ps []
structure GlTxt (K : PySem.W.Frag) (mg : Str → Option Value) (w : World) (gl : Nat → Option PV) (gname : Nat → Str) (kd : Nat → Bool) (free : List Str) : Prop where
  kds : ∀ g, kd g = true → ∃ kvs D, kdOf (gl g) = some kvs ∧ mg (gname g) = some (.ref D) ∧ KdOk K w D kvs
  gls : ∀ g x, gl g = some x → kd g = false → ∃ v u, mg (gname g) = some u ∧ RelV v u ∧ ∀ ρ H, Rep K ρ H x v
  frees : ∀ x ∈ free, mg x = none
structure ClTxt (K : PySem.W.Frag) (mg : Str → Option Value) (p : Pg) (c : Nat) (cl : Cl) : Prop where
  cls : Cls K (ClsMap.cl c)
  flds : ∀ f ∈ cl.fields, NoAttr K (ClsMap.cl c) (⟨f.toArray⟩ : Str)
  mets : ∀ m fi, cl.meths.lookup m = some fi → ∃ r a fd, p.rows[fi]? = some r ∧ RowTxt K mg r a fd ∧ Meth K (ClsMap.cl c) (⟨m.toArray⟩ : Str) a
  ini : ∃ r a fd, p.rows[cl.init]? = some r ∧ RowTxt K mg r a fd ∧ Mk K (ClsMap.cl c) a ∧ mg cl.name = some (.ref (ClsMap.cl c))
structure PgTxt (P : Program) (w : World) (T : Tb) (K : PySem.W.Frag) (mg : Str → Option Value) (p : Pg) : Prop where
  rows : ∀ (f : Nat) r, p.rows[f]? = some r → ∃ a fd, RowTxt K mg r a fd
  cls : ∀ (c : Nat) cl, p.cls[c]? = some cl → ClTxt K mg p c cl
  errs : ∀ (c : Nat) er, p.errs[c]? = some er → ExCls P K mg er.name (T.cl c) (er.ks.map T.fn)
  efn : T.fn = efnOf p.enames
  errT : ∀ c, c < p.errs.length → ∀ n, ErrTxt T K mg ((tabs p).ut n) c
  exmT : ∀ x cs, p.exm.lookup x = some cs → ∃ C, (mg x = some C ∨ (mg x = none ∧ bootBuiltins x = some C ∧ x ≠ "__name__")) ∧ ∀ c, c < p.errs.length → PySem.W.exmOne K (.ref (T.cl c)) C = some (cs.contains c)
  gl : GlTxt K mg w p.gl p.gname p.kd p.free

theorem start_rep {K : PySem.W.Frag} {ρ : List Addr} {H : Hp} {N : List Str} {xs : List PV} {vs : List V} (r : RepL K ρ H xs vs) : RepE K ρ H (Vm.start N.length xs) (L2.start N vs) := by
  have nones : ∀ n, RepE K ρ H (List.replicate n none) (List.replicate n none) := by
    intro n
    induction n with
    | zero => exact .nil
    | succ n ih => exact .none ih
  have key : ∀ {xs : List PV} {vs : List V} (n : Nat), RepL K ρ H xs vs → RepE K ρ H (xs.map some ++ List.replicate n none) (vs.map some ++ List.replicate n none) := by
    intro xs
    induction xs with
    | nil => intro vs n r; cases r; exact nones n
    | cons x xs ih => intro vs n r; cases r with
      | cons h1 h2 => exact .some h1 (ih n h2)
  unfold Vm.start L2.start
  rw [r.length]
  exact key _ r
theorem spF_len {T : Tb} {K : PySem.W.Frag} {np : Nat} {g : List PV → Store → Res PV} : ∀ vs H Q E, spF T K np g vs H Q E → vs.length = np := fun vs H Q E ⟨_, _, _, _, _, h, _⟩ => h
section
variable {T : Tb} {P : Program} {w : World} {K : PySem.W.Frag} {mg : Str → Option Value} {base : Heap} {p : Pg} {NN : Nat}
theorem fn_zero {r : Row} {a : Addr} {fd : FuncData} {f k : Nat} (hp : r.c.np = r.ps.length) {t : Nat → Option Fn} {gl : Nat → Option PV} : FnOkF P w K mg base (L2.CX P w) k a fd r.ps (spF T K r.c.np (run t gl NN 0 f)) := by
  refine ⟨fun vs H Q E h => (spF_len vs H Q E h).trans hp, fun A outer s H args us vs Q E hr e0 hb r hsp => ?_⟩
  obtain ⟨_, _, _, _, _, _, h⟩ := hsp
  exact h.elim
theorem run_up {t : Nat → Option Fn} {gl : Nat → Option PV} (d f : Nat) : run t gl NN (d + 1) (1000 + f) = run t gl NN d f := by
  funext vs st
  show (if 1000 ≤ 1000 + f then run t gl NN d (1000 + f - 1000) vs st else _) = _
  rw [if_pos (Nat.le_add_right _ _), Nat.add_sub_cancel_left]
theorem all_ok (hr : pgOk p = true) (ht : PgTxt P w T K mg p) :
    ∀ (d f : Nat) r, p.rows[f]? = some r → ∀ a fd, RowTxt K mg r a fd → FnOkF P w K mg base (L2.CX P w) (d + 1) a fd r.ps (spF T K r.c.np (run (tabs p).fn p.gl NN d f)) ∧ FnOkF P w K mg base (L2.CX P w) d a fd r.ps (spF T K r.c.np (run (tabs p).fn p.gl NN d (1000 + f))) := by
  unfold pgOk at hr
  simp only [Bool.and_eq_true, decide_eq_true_eq] at hr
  obtain ⟨⟨⟨hrows, hlen⟩, hnd⟩, hcps⟩ := hr
  have hrow : ∀ r ∈ p.rows, rowOk (tabs p) r = true := fun r h => List.all_eq_true.mp hrows r h
  intro d
  induction d with
  | zero =>
    intro f r h a fd t
    have q := hrow r (List.mem_of_getElem? h)
    simp only [rowOk, Bool.and_eq_true, decide_eq_true_eq] at q
    exact ⟨fn_zero q.1.1.2, fn_zero q.1.1.2⟩
  | succ d ih =>
    intro f r h a fd t
    have q := hrow r (List.mem_of_getElem? h)
    simp only [rowOk, Bool.and_eq_true, decide_eq_true_eq] at q
    obtain ⟨⟨⟨q1, q2⟩, q3⟩, q4⟩ := q
    refine ⟨?_, by rw [run_up]; exact (ih f r h a fd t).1⟩
    have sc := pl_ok q1
    have hfn : (tabs p).fn f = some r.c := by show (p.rows[f]?).map (·.c) = _; rw [h]; rfl
    have hf : ¬ 1000 ≤ f := by
      have := (List.getElem?_eq_some_iff.mp h).1
      omega
    refine okF t.F sc (fun vs H Q E z => (spF_len vs H Q E z).trans q2) fun cdv A outer s H vs Q E hroom hsp => ?_
    let X := cxOf (L2.CX P w) P w K mg base r.N r.qual (defScope r.st) a cdv A outer s H E
    refine ⟨wSs X (defBody r.st), pss_w, ?_⟩
    obtain ⟨ρ, st, xs, ok, rl, hl, aft⟩ := hsp
    have get : ∀ f' c', (tabs p).fn f' = some c' → ∃ r', p.rows[f']? = some r' ∧ r'.c = c' := fun f' c' h' => Option.map_eq_some_iff.mp (show (p.rows[f']?).map (·.c) = some c' from h')
    have good : Good T (tabs p) NN r.N d (defScope r.st) X (fun cls d _ H => E cls d H) :=
      { hN := rfl
        hsc := rfl
        nd := sc.nd
        kind := sc.kind
        calm := rfl
        room := hroom
        pass := passes_of rfl
        takes := takes_of rfl rfl rfl rfl
        fns := fun f' c' h' htop => by
          obtain ⟨r', h1, h2⟩ := get f' c' h'
          subst h2
          obtain ⟨a', fd', t'⟩ := ht.rows f' r' h1
          refine ⟨a', fd', r'.ps, ?_, t'.F.kp, t'.b, (ih f' r' h1 a' fd' t').1⟩
          have htop : (match p.rows[f']? with
            | some r => r.top
            | none => false) = true := htop
          rw [h1] at htop
          show mg (match p.rows[f']? with
            | some r => r.name
            | none => "") = _
          rw [h1]
          exact t'.g htop
        clss := fun c cl hc => by
          have q := ht.cls c cl hc
          refine ⟨q.cls, q.flds, fun m fi cf hm hcf => ?_, fun cf hcf => ?_⟩
          · obtain ⟨r', a', fd', h1, t', hme⟩ := q.mets m fi hm
            obtain ⟨r2, h2, e2⟩ := get fi cf hcf
            rw [h1] at h2
            cases h2
            subst e2
            exact ⟨a', fd', r'.ps, hme, t'.b, (ih fi r' h1 a' fd' t').1⟩
          · obtain ⟨r', a', fd', h1, t', hmk, hmg⟩ := q.ini
            obtain ⟨r2, h2, e2⟩ := get cl.init cf hcf
            rw [h1] at h2
            cases h2
            subst e2
            exact ⟨a', fd', r'.ps, hmk, hmg, t'.b, (ih cl.init r' h1 a' fd' t').2⟩
        errs := ht.errs
        efn := ht.efn.symm
        inj := fun f g h => by rw [ht.efn] at h; exact efn_inj hnd hcps f g h
        errT := fun c hc n => ht.errT c (List.mem_range.mp hc) n
        exmT := fun x cs h => by
          obtain ⟨C, c1, c2⟩ := ht.exmT x cs h
          exact ⟨C, c1, fun c hc => c2 c (List.mem_range.mp hc)⟩
        gls := ht.gl.gls
        kds := ht.gl.kds
        frees := ht.gl.frees }
    refine (snds_all r.c.body).l q4 good ⟨rfl, rfl, rfl⟩ ρ st H _ (Vm.start r.c.ns xs) _ ok (by rw [q3]; exact start_rep rl) ?_
    have lx : xs.length = r.c.np := rl.length.trans hl
    have e : run (tabs p).fn p.gl NN (d + 1) f xs st = (evS (run (tabs p).fn p.gl NN d) p.gl NN r.c.body (Vm.start r.c.ns xs) st).bind fun fl st1 => match fl with
        | .nx _ => .ok .non st1
        | .rt v => .ok v st1
        | _ => .bad := by
      show (if 1000 ≤ f then run (tabs p).fn p.gl NN d (f - 1000) xs st else match (tabs p).fn f with
        | none => Res.bad
        | some c => if xs.length = c.np then (evS (run (tabs p).fn p.gl NN d) p.gl NN c.body (Vm.start c.ns xs) st).bind fun fl st1 => match fl with
          | .nx _ => (.ok PV.non st1 : Res PV)
          | .rt v => .ok v st1
          | _ => .bad
          else .bad) = _
      rw [if_neg hf, hfn]
      exact if_pos lx
    rw [e] at aft
    refine (Aft.bind aft).imp (fun fl st1 q ρ' H' g ok' => ?_) fun c fs st1 z ρ' H' d' σ' g ok' r' => z ρ' H' d' g ok' r'
    cases fl with
    | nx ev => exact fun σ' re => q ρ' H' V.non g ok' Rep.non
    | rt v => exact fun w' rw' => q ρ' H' w' g ok' rw'
    | bk ev => exact q.elim
    | ct ev => exact q.elim
end
end Vm

set_option maxHeartbeats 8000000
/-! Vm15: the end of a law whose text is a program of the machine. -/
namespace Vm
open PySem L2
/-- where a program's classes and errors stand -/
def atOf (K : PySem.W.Frag) (x : Str) : Addr := match PySem.W.nsIn K mainGlobals x with
  | some (some (.ref a)) => a
  | _ => 0
def cmOf (K : PySem.W.Frag) (p : Pg) : ClsMap := ⟨fun c => match p.cls[c]? with
  | some cl => atOf K cl.name
  | none => 0⟩
def tbOf (K : PySem.W.Frag) (p : Pg) : Tb := ⟨fun c => match p.errs[c]? with
  | some er => atOf K er.name
  | none => 0, efnOf p.enames⟩
theorem atOf_eq {K : PySem.W.Frag} {x : Str} {a : Addr} (h : PySem.W.nsIn K mainGlobals x = some (some (.ref a))) : atOf K x = a := by
  unfold atOf
  rw [h]
theorem cm_at {K : PySem.W.Frag} {p : Pg} {c : Nat} {cl : Cl} {a : Addr} (hc : p.cls[c]? = some cl) (h : PySem.W.nsIn K mainGlobals cl.name = some (some (.ref a))) : (cmOf K p).cl c = a := by
  show (match p.cls[c]? with
    | some cl => atOf K cl.name
    | none => 0) = a
  rw [hc]
  exact atOf_eq h
theorem tb_at {K : PySem.W.Frag} {p : Pg} {c : Nat} {er : Er} {a : Addr} (hc : p.errs[c]? = some er) (h : PySem.W.nsIn K mainGlobals er.name = some (some (.ref a))) : (tbOf K p).cl c = a := by
  show (match p.errs[c]? with
    | some er => atOf K er.name
    | none => 0) = a
  rw [hc]
  exact atOf_eq h
def BindsOk (r : Row) : Prop := ∀ (kV doc pm : Value) (an : Option Addr) (cdv ct : Value) (us : List Value), us.length = r.ps.length → bindArgs (PySem.W.fnOf r.name r.qual (defArgs r.st) (defBody r.st) (defScope r.st) .none kV doc pm an cdv ct) ⟨us, []⟩ = pure (r.ps.zip us)
section
variable {K : PySem.W.Frag} {mg : Str → Option Value} {h : Heap}
theorem row_mk (r : Row) {f : Addr} {oc : Value} {od an : Option Addr} {osl : Array (Option Value)} {kV doc pm cdv ct : Value} (hb : BindsOk r) (a : r.top = true → mg r.name = some (.ref f))
    (l : K.lookup f = some ⟨oc, od, .func (PySem.W.fnOf r.name r.qual (defArgs r.st) (defBody r.st) (defScope r.st) .none kV doc pm an cdv ct), osl⟩) (c : PySem.W.codeIn K cdv r.qual = true) (k : PySem.W.keepIn K (.ref f) = true) :
    RowTxt K mg r f (PySem.W.fnOf r.name r.qual (defArgs r.st) (defBody r.st) (defScope r.st) .none kV doc pm an cdv ct) :=
  ⟨a, fun_mk l c k, (fun_mk l c k).binds hb⟩
theorem glStr (X : K.In h) (G : h.Ns mainGlobals mg) {x s : Str} {l : List Nat} {t : Tok} (a : PySem.W.nsIn K mainGlobals x = some (some (.str s t))) (e : s = ⟨l.toArray⟩) : ∃ v u, mg x = some u ∧ RelV v u ∧ ∀ ρ H, Rep K ρ H (.str l) v := by
  subst e
  exact ⟨.str ⟨l.toArray⟩, _, PySem.W.mg_of X G a, ⟨t, rfl⟩, fun _ _ => .str l⟩
theorem glInt (X : K.In h) (G : h.Ns mainGlobals mg) {x : Str} {i : Int} {t : Tok} (a : PySem.W.nsIn K mainGlobals x = some (some (.int i t))) : ∃ v u, mg x = some u ∧ RelV v u ∧ ∀ ρ H, Rep K ρ H (.int i) v :=
  ⟨.int i, _, PySem.W.mg_of X G a, ⟨t, rfl⟩, fun _ _ => .int i⟩
/-- texts and numbers that are written in a tuple -/
def relB : List PV → List Value → Bool
  | [], [] => true
  | .str l :: xs, .str s _ :: us => (l == s.cps.toList) && relB xs us
  | .int i :: xs, .int j _ :: us => (i == j) && relB xs us
  | _, _ => false
theorem relB_ok : ∀ {xs : List PV} {us : List Value}, relB xs us = true → ∃ vs, Vals vs us ∧ ∀ ρ H, RepL K ρ H xs vs := by
  intro xs
  induction xs with
  | nil =>
    intro us h
    cases us with
    | nil => exact ⟨[], .nil, fun _ _ => .nil⟩
    | cons _ _ => cases h
  | cons x xs ih =>
    intro us h
    cases us with
    | nil => cases x <;> cases h
    | cons u us =>
      unfold relB at h
      split at h
      · rename_i e1 e2; cases e1
      · rename_i l xs' s t us' e1 e2
        cases e1
        cases e2
        simp only [Bool.and_eq_true, beq_iff_eq] at h
        obtain ⟨vs, h1, h2⟩ := ih h.2
        refine ⟨.str s :: vs, .cons ⟨t, rfl⟩ h1, fun ρ H => .cons ?_ (h2 ρ H)⟩
        rw [h.1]
        have q := Rep.str (K := K) (ρ := ρ) (H := H) s.cps.toList
        rw [Array.toArray_toList] at q
        exact q
      · rename_i i xs' j t us' e1 e2
        cases e1
        cases e2
        simp only [Bool.and_eq_true, beq_iff_eq] at h
        obtain ⟨vs, h1, h2⟩ := ih h.2
        refine ⟨.int j :: vs, .cons ⟨t, rfl⟩ h1, fun ρ H => .cons ?_ (h2 ρ H)⟩
        rw [h.1]
        exact .int j
      · cases h
theorem glTup (X : K.In h) (G : h.Ns mainGlobals mg) {x : Str} {a : Addr} {dd : Option Addr} {its : Array Value} {n : Nat} {sl : Array (Option Value)} {xs : List PV} (g : PySem.W.nsIn K mainGlobals x = some (some (.ref a))) (l : K.lookup a = some ⟨.type "tuple", dd, .seq its n, sl⟩) (hz : its.size ≤ sizeLine) (hr : relB xs its.toList = true) :
    ∃ v u, mg x = some u ∧ RelV v u ∧ ∀ ρ H, Rep K ρ H (.tup xs) v := by
  obtain ⟨vs, h1, h2⟩ := relB_ok (K := K) hr
  exact ⟨.ref a, _, PySem.W.mg_of X G g, rfl, fun ρ H => .tup (.inr ⟨_, its, n, l, rfl, rfl, hz, h1⟩) (h2 ρ H)⟩
/-- a written dict's texts and numbers -/
def relD : List (List Nat × PV) → List DictEntry → Bool
  | [], [] => true
  | (l, .str m) :: r, e :: es => (match e.key, e.val with
    | .str s _, .str u _ => (l == s.cps.toList) && (m == u.cps.toList)
    | _, _ => false) && relD r es
  | (l, .int i) :: r, e :: es => (match e.key, e.val with
    | .str s _, .int j _ => (l == s.cps.toList) && (i == j)
    | _, _ => false) && relD r es
  | _, _ => false
theorem str_of {l : List Nat} {s : Str} (h : (l == s.cps.toList) = true) : (⟨l.toArray⟩ : Str) = s := by
  rw [eq_of_beq h, Array.toArray_toList]
theorem relD_ok : ∀ {kvs : List (List Nat × PV)} {es : List DictEntry}, relD kvs es = true → Paired (fun (p : List Nat × PV) (e : DictEntry) => (∃ t, e.key = .str ⟨p.1.toArray⟩ t) ∧ ∃ v, RelV v e.val ∧ ∀ ρ H, Rep K ρ H p.2 v) kvs es
  | [], [], _ => .nil
  | [], _ :: _, h => by cases h
  | (l, x) :: r, [], h => by cases x <;> cases h
  | (l, x) :: r, e :: es, h => by
    unfold relD at h
    split at h
    · rename_i e1 e2; cases e1
    · rename_i l' m r' e' es' e1 e2
      cases e1
      cases e2
      rw [Bool.and_eq_true] at h
      obtain ⟨h1, h2⟩ := h
      split at h1
      · rename_i s t u t2 e1 e2
        rw [Bool.and_eq_true] at h1
        refine .cons ⟨⟨t, by rw [e1, str_of h1.1]⟩, .str u, by rw [e2]; exact ⟨t2, rfl⟩, fun ρ H => ?_⟩ (relD_ok h2)
        rw [← str_of h1.2]
        exact .str m
      · cases h1
    · rename_i l' i r' e' es' e1 e2
      cases e1
      cases e2
      rw [Bool.and_eq_true] at h
      obtain ⟨h1, h2⟩ := h
      split at h1
      · rename_i s t j t2 e1 e2
        rw [Bool.and_eq_true] at h1
        refine .cons ⟨⟨t, by rw [e1, str_of h1.1]⟩, .int j, by rw [e2]; exact ⟨t2, rfl⟩, fun ρ H => ?_⟩ (relD_ok h2)
        rw [eq_of_beq h1.2]
        exact .int j
      · cases h1
    · cases h
theorem noattr_of {C : Addr} {l : List Nat} {x : Str} (h : PySem.W.findIn K (.ref C) x = some none) (e : x = ⟨l.toArray⟩) : NoAttr K C (⟨l.toArray⟩ : Str) := by
  subst e
  exact h
theorem meth_of {C g : Addr} {l : List Nat} {x : Str} (h : PySem.W.findIn K (.ref C) x = some (some (.ref g))) (f : PySem.W.isFn K (.ref g) = true) (k : PySem.W.keepIn K (.ref g) = true) (e : x = ⟨l.toArray⟩) : Meth K C (⟨l.toArray⟩ : Str) g := by
  subst e
  exact ⟨h, f, k⟩
theorem kit_ref {C D : Addr} {b : Bool} (hc : PySem.W.isClsIn K C = true) (ht : PySem.W.typeIn K (.ref C) = some (.type "type")) (hs : PySem.W.subIn K (.ref D) (.ref C) = some b) (hb : D = C → b = true) : PySem.W.kitOne K (.ref D) (.ref C) = some b := by
  unfold PySem.W.kitOne
  by_cases e : D = C
  · subst e
    rw [if_pos (by simp), hb rfl]
  · rw [if_neg (by simpa using e)]
    have h1 : (PySem.W.clsIn K C).isSome = true := hc
    show (if ((PySem.W.clsIn K C).isSome && PySem.W.typeIn K (.ref C) == some (.type "type")) = true then PySem.W.subIn K (.ref D) (.ref C) else none) = some b
    rw [h1, ht, if_pos (by rfl)]
    exact hs
theorem kit_ty {D : Addr} {n : String} {b : Bool} (hm : PySem.W.kitMeta n = true) (hs : PySem.W.subIn K (.ref D) (.type n) = some b) : PySem.W.kitOne K (.ref D) (.type n) = some b := by
  unfold PySem.W.kitOne
  rw [if_neg (by simp)]
  show (if PySem.W.kitMeta n = true then PySem.W.subIn K (.ref D) (.type n) else none) = some b
  rw [if_pos hm]
  exact hs
end
theorem meths_mem {m : List Nat} {f : Nat} : ∀ {tab : List (List Nat × Nat)}, tab.lookup m = some f → (m, f) ∈ tab
  | [], h => by cases h
  | (a, b) :: r, h => by
    rw [List.lookup_cons] at h
    cases e : m == a with
    | true =>
      rw [e] at h
      cases h
      rw [eq_of_beq e]
      exact List.mem_cons_self
    | false =>
      rw [e] at h
      exact List.mem_cons_of_mem _ (meths_mem h)
theorem strs_mem {x : Str} {cs : List Nat} {tab : List (Str × List Nat)} (h : tab.lookup x = some cs) : (x, cs) ∈ tab := PySem.mem_of_lookup h
/-- the machine's word for a law: at every script True -/
def TrueAt (r : List PV → Store → Res PV) (ns : List Int) : Prop := ∃ st', r [.fl (ns.map .int)] [] = .ok (.bl true) st'
def spK (p : Pg) (NN d f : Nat) (K : PySem.W.Frag) : Sp := @spF (cmOf K p) (tbOf K p) K 1 (run (tabs p).fn p.gl NN d f)
section
variable [ClsMap]
theorem repL_ints (K : PySem.W.Frag) (ρ : List Addr) (H : Hp) : ∀ ns : List Int, RepL K ρ H (ns.map .int) (ns.map V.int)
  | [] => .nil
  | n :: ns => .cons (.int n) (repL_ints K ρ H ns)
theorem sp_law {T : Tb} {K : PySem.W.Frag} {g : List PV → Store → Res PV} {H : Hp} {a : Addr} {ns : List Int} (hO : Only H) (hS : SqL K H a (ns.map V.int)) (h : TrueAt g ns) : spF T K 1 g [.ref a] H (fun v _ => v = .bl true) fun _ _ _ => False := by
  obtain ⟨st', e⟩ := h
  refine ⟨[], [], [.fl (ns.map .int)], ⟨rfl, List.nodup_nil, fun i a c h => by simp at h⟩, .cons (.fl (SqF.of_only hO hS) (repL_ints K [] H ns)) .nil, rfl, ?_⟩
  rw [e]
  intro ρ' H' v g ok r
  cases r
  rfl
end
theorem cx_no {P : Program} {w : World} {H : Hp} {s : Shared} {e : Value} {s' : Shared} (h : L2.CX P w [] H s (fun _ _ _ => False) e s') : False := by
  obtain ⟨_, _, _, _, _, _, _, _, _, _, _, _, z⟩ := h
  exact z.elim
end Vm

set_option maxHeartbeats 4000000
/-! Vm16: what all laws' draws give. -/
namespace Vm
theorem intsOf_map : ∀ ns : List Int, intsOf (ns.map .int) = some ns
  | [] => rfl
  | n :: ns => by
    show (intsOf (ns.map .int)).map (n :: ·) = _
    rw [intsOf_map ns]
    rfl
def numC : CS := .cons (.asg (.name 2) (.bin .add (.bin .mul (.blt1 .sum (.var 0)) (.lit (.int 31))) (.bin .mul (.lit (.int 1000003)) (.bin .add (.var 1) (.lit (.int 1)))))) (.cons (.if_ (.cmp .lt (.var 1) (.blt1 .len (.var 0))) (.cons (.asg (.name 2) (.ix (.var 0) (.var 1))) .nil) .nil) (.cons (.ret (.blt1 .abs (.var 2))) .nil))
def drawC (q : Nat) : CS := .cons (.asg (.name 4) (.call q (.cons (.var 0) (.cons (.var 1) .nil)))) (.cons (.asg (.name 5) (.lst .nil)) (.cons (.if_ (.cmp .ge (.var 4) (.bin .pow (.lit (.int 10)) (.lit (.int 18)))) (.cons (.asg (.name 4) (.bin .sub (.var 4) (.bin .pow (.lit (.int 10)) (.lit (.int 18))))) (.cons (.for_ (.name 6) .rng1 (.var 2) .noE (.cons (.expr (.mth1 .append (.var 5) (.bin .mod (.var 4) (.var 3)))) (.cons (.asg (.name 4) (.bin .fdiv (.var 4) (.var 3))) .nil))) (.cons (.ret (.var 5)) .nil))) .nil) (.cons (.asg (.name 7) (.bin .add (.bin .mod (.var 4) (.lit (.int 2147483647))) (.lit (.int 1)))) (.cons (.for_ (.name 6) .rng1 (.var 2) .noE (.cons (.asg (.name 7) (.bin .mod (.bin .add (.bin .add (.bin .mul (.var 7) (.lit (.int 48271))) (.bin .mul (.lit (.int 11)) (.var 6))) (.lit (.int 7))) (.lit (.int 2147483647)))) (.cons (.asg (.name 8) (.bin .mod (.bin .add (.bin .add (.bin .mul (.var 7) (.var 7)) (.bin .mul (.lit (.int 69621)) (.var 6))) (.lit (.int 5))) (.lit (.int 2147483629)))) (.cons (.expr (.mth1 .append (.var 5) (.bin .mod (.bin .fdiv (.var 8) (.lit (.int 64))) (.var 3)))) .nil)))) (.cons (.ret (.var 5)) .nil)))))
/-- the script's k-th number, or one made of all -/
def rawF (ns : List Int) (k : Nat) : Int := match ns[k]? with
  | some n => n
  | none => ns.sum * 31 + 1000003 * ((k : Int) + 1)
def absF (i : Int) : Int := if i < 0 then -i else i
theorem absF_nonneg (i : Int) : 0 ≤ absF i := by unfold absF; split <;> omega
section
variable {T : Nat → Option Fn} {G : Nat → Option PV} {N : Nat}
theorem number_run {q d : Nat} (hq : T q = some ⟨2, 3, numC⟩) (hq1 : ¬ 1000 ≤ q) (ns : List Int) (k : Nat) (st : Store) : run T G N (d + 1) q [.fl (ns.map .int), .int k] st = .ok (.int (absF (rawF ns k))) st := by
  have h5 : k < ns.length → itemAt (ns.map PV.int) (k : Int) = some (.int (rawF ns k)) := fun hk => by
    unfold itemAt ixOf rawF
    rw [List.length_map, if_pos (by omega : (0 : Int) ≤ k), if_pos (by omega : (k : Int) < ns.length)]
    show (ns.map PV.int)[(k : Int).toNat]? = _
    rw [Int.toNat_natCast, List.getElem?_map, List.getElem?_eq_getElem hk]
    rfl
  have h6 : ¬ k < ns.length → rawF ns k = ns.sum * 31 + 1000003 * ((k : Int) + 1) := fun hk => by
    unfold rawF
    rw [List.getElem?_eq_none (by omega : ns.length ≤ k)]
  by_cases hk : k < ns.length
  · simp [run, hq1, hq, numC, start, evS, evE, evT, fixR, fixv, Res.of, Vm.truth, blt1, binop, lv, sv, dv, intsOf_map, lenV, cmpV, indexV, indexG, BIG, guardO, hk, h5 hk, absF]
  · simp [run, hq1, hq, numC, start, evS, evE, evT, fixR, fixv, Res.of, Vm.truth, blt1, binop, lv, sv, dv, intsOf_map, lenV, cmpV, indexV, indexG, BIG, guardO, hk, h6 hk, absF]
def drawsBig : Nat → Int → Int → List Int
  | 0, _, _ => []
  | n + 1, m, many => m % many :: drawsBig n (m / many) many
def drawsSml : Nat → Int → Int → Int → List Int
  | 0, _, _, _ => []
  | n + 1, s, i, many => (((s * 48271 + 11 * i + 7) % 2147483647 * ((s * 48271 + 11 * i + 7) % 2147483647) + 69621 * i + 5) % 2147483629) / 64 % many :: drawsSml n ((s * 48271 + 11 * i + 7) % 2147483647) (i + 1) many
def drawsF (ns : List Int) (k count : Nat) (many : Int) : List Int :=
  if absF (rawF ns k) ≥ 1000000000000000000 then drawsBig count (absF (rawF ns k) - 1000000000000000000) many else drawsSml count (absF (rawF ns k) % 2147483647 + 1) 0 many
theorem drawsBig_len : ∀ n m many, (drawsBig n m many).length = n
  | 0, _, _ => rfl
  | n + 1, m, many => congrArg (· + 1) (drawsBig_len n _ many)
theorem drawsSml_len : ∀ n s i many, (drawsSml n s i many).length = n
  | 0, _, _, _ => rfl
  | n + 1, s, i, many => congrArg (· + 1) (drawsSml_len n _ _ many)
theorem drawsF_len (ns : List Int) (k n : Nat) (many : Int) : (drawsF ns k n many).length = n := by
  unfold drawsF
  split
  · exact drawsBig_len _ _ _
  · exact drawsSml_len _ _ _ _
theorem drawsBig_in {many : Int} (hm : 0 < many) : ∀ n m, ∀ x ∈ drawsBig n m many, 0 ≤ x ∧ x < many
  | 0, _, x, h => by cases h
  | n + 1, m, x, h => by
    rcases List.mem_cons.mp h with rfl | h
    · exact ⟨Int.emod_nonneg _ (by omega), Int.emod_lt_of_pos _ hm⟩
    · exact drawsBig_in hm n _ x h
theorem drawsSml_in {many : Int} (hm : 0 < many) : ∀ n s i, ∀ x ∈ drawsSml n s i many, 0 ≤ x ∧ x < many
  | 0, _, _, x, h => by cases h
  | n + 1, s, i, x, h => by
    rcases List.mem_cons.mp h with rfl | h
    · exact ⟨Int.emod_nonneg _ (by omega), Int.emod_lt_of_pos _ hm⟩
    · exact drawsSml_in hm n _ _ x h
theorem drawsF_in {many : Int} (hm : 0 < many) (ns : List Int) (k n : Nat) : ∀ x ∈ drawsF ns k n many, 0 ≤ x ∧ x < many := by
  unfold drawsF
  split
  · exact drawsBig_in hm _ _
  · exact drawsSml_in hm _ _ _
theorem set_last (st : Store) (a c : Cell) : (st ++ [a]).set st.length c = st ++ [c] := by
  rw [List.set_append_right _ _ (Nat.le_refl _)]
  simp
theorem get_last (st : Store) (a : Cell) : (st ++ [a])[st.length]? = some a := by
  simp
/-- a turn puts one more into the list found -/
theorem big_loop {c : Nat → List PV → Store → Res PV} (v0 v1 v2 : PV) {many : Int} (hm : 0 < many) (hM : many < 1073741824) (st : Store) : ∀ (n : Nat) (i m : Int) (acc : List PV) (a6 a7 a8 : Option PV), acc.length + n ≤ SZ →
    ∃ ev, forRng (turnM (fun x ev st => evT c G N (.name 6) x ev st) (fun ev st => evS c G N (.cons (.expr (.mth1 .append (.var 5) (.bin .mod (.var 4) (.var 3)))) (.cons (.asg (.name 4) (.bin .fdiv (.var 4) (.var 3))) .nil)) ev st)) n i
      [some v0, some v1, some v2, some (.int many), some (.int m), some (.loc st.length), a6, a7, a8] (st ++ [.lst acc]) = .ok (.nx ev) (st ++ [.lst (acc ++ (drawsBig n m many).map .int)]) ∧ ev[5]? = some (some (.loc st.length)) := by
  intro n
  induction n with
  | zero =>
    intro i m acc a6 a7 a8 _
    simp only [drawsBig, List.map_nil, List.append_nil]
    exact ⟨_, rfl, rfl⟩
  | succ n ih =>
    intro i m acc a6 a7 a8 h
    obtain ⟨ev, h1, h2⟩ := ih (i + 1) (m / many) (acc ++ [.int (m % many)]) (some (.int i)) a7 a8 (by simp; omega)
    have hl : acc.length < SZ := by omega
    refine ⟨ev, ?_, h2⟩
    have e : (acc ++ [PV.int (m % many)]) ++ (drawsBig n (m / many) many).map PV.int = acc ++ (drawsBig (n + 1) m many).map PV.int := by simp [drawsBig]
    rw [← e, ← h1]
    simp [forRng, turnM, evT, evS, evE, Res.of, binop, guardO, guardR, mOk, lm, mth1, mthR, fixR, fixv, hm, hM, hl, set_last]
theorem sml_loop {c : Nat → List PV → Store → Res PV} (v0 v1 v2 v4 : PV) {many : Int} (hm : 0 < many) (st : Store) : ∀ (n : Nat) (i s : Int) (acc : List PV) (a6 a8 : Option PV), acc.length + n ≤ SZ →
    ∃ ev, forRng (turnM (fun x ev st => evT c G N (.name 6) x ev st) (fun ev st => evS c G N (.cons (.asg (.name 7) (.bin .mod (.bin .add (.bin .add (.bin .mul (.var 7) (.lit (.int 48271))) (.bin .mul (.lit (.int 11)) (.var 6))) (.lit (.int 7))) (.lit (.int 2147483647)))) (.cons (.asg (.name 8) (.bin .mod (.bin .add (.bin .add (.bin .mul (.var 7) (.var 7)) (.bin .mul (.lit (.int 69621)) (.var 6))) (.lit (.int 5))) (.lit (.int 2147483629)))) (.cons (.expr (.mth1 .append (.var 5) (.bin .mod (.bin .fdiv (.var 8) (.lit (.int 64))) (.var 3)))) .nil))) ev st)) n i
      [some v0, some v1, some v2, some (.int many), some v4, some (.loc st.length), a6, some (.int s), a8] (st ++ [.lst acc]) = .ok (.nx ev) (st ++ [.lst (acc ++ (drawsSml n s i many).map .int)]) ∧ ev[5]? = some (some (.loc st.length)) := by
  intro n
  induction n with
  | zero =>
    intro i s acc a6 a8 _
    simp only [drawsSml, List.map_nil, List.append_nil]
    exact ⟨_, rfl, rfl⟩
  | succ n ih =>
    intro i s acc a6 a8 h
    obtain ⟨ev, h1, h2⟩ := ih (i + 1) ((s * 48271 + 11 * i + 7) % 2147483647) (acc ++ [.int ((((s * 48271 + 11 * i + 7) % 2147483647 * ((s * 48271 + 11 * i + 7) % 2147483647) + 69621 * i + 5) % 2147483629) / 64 % many)]) (some (.int i)) (some (.int (((s * 48271 + 11 * i + 7) % 2147483647 * ((s * 48271 + 11 * i + 7) % 2147483647) + 69621 * i + 5) % 2147483629))) (by simp; omega)
    have hl : acc.length < SZ := by omega
    have hs : ((s * 48271 + 11 * i + 7) % 2147483647).natAbs < 18446744073709551616 := by omega
    refine ⟨ev, ?_, h2⟩
    have e : (acc ++ [.int ((((s * 48271 + 11 * i + 7) % 2147483647 * ((s * 48271 + 11 * i + 7) % 2147483647) + 69621 * i + 5) % 2147483629) / 64 % many)]) ++ (drawsSml n ((s * 48271 + 11 * i + 7) % 2147483647) (i + 1) many).map PV.int = acc ++ (drawsSml (n + 1) s i many).map PV.int := by simp [drawsSml]
    rw [← e, ← h1]
    simp [forRng, turnM, evT, evS, evE, Res.of, binop, guardO, guardR, mOk, lm, mth1, mthR, fixR, fixv, hm, hl, set_last, BIG, hs]
theorem pow_run (st : Store) : binop .pow (.int 10) (.int 18) st = some (.int 1000000000000000000) := by
  have e : (10 : Int) ^ (18 : Int).toNat = 1000000000000000000 := by decide +kernel
  show guardO _ (PV.int ((10 : Int) ^ (18 : Int).toNat)) = _
  rw [e]
  rfl
theorem rng_run {n : Nat} (hn : n ≤ SZ) : rng1Of (.int n) = some (.rng 0 n) := by
  have h1 : -R62 ≤ (n : Int) ∧ (n : Int) < R62 := by
    have e : R62 = 4611686018427387904 := rfl
    have e2 : SZ = 1000000 := rfl
    omega
  unfold rng1Of
  dsimp only
  rw [if_pos h1, Int.toNat_natCast]
section
variable {c : Nat → List PV → Store → Res PV} {ev ev1 : Env} {st st1 : Store} {s ss a b : CS} {e : CE} {v : PV}
theorem cons_nx (h : evS c G N s ev st = .ok (.nx ev1) st1) : evS c G N (.cons s ss) ev st = evS c G N ss ev1 st1 := by
  show (evS c G N s ev st).bind _ = _
  rw [h]
  rfl
theorem cons_rt (h : evS c G N s ev st = .ok (.rt v) st1) : evS c G N (.cons s ss) ev st = .ok (.rt v) st1 := by
  show (evS c G N s ev st).bind _ = _
  rw [h]
  rfl
theorem asg_nm {i : Nat} (h : evE c G N e ev st = .ok v st1) : evS c G N (.asg (.name i) e) ev st = .ok (.nx (ev.set i (some (fixv v st1).1))) (fixv v st1).2 := by
  show (fixR (evE c G N e ev st)).bind _ = _
  rw [h]
  rfl
theorem if_t (h : evE c G N e ev st = .ok (.bl true) st1) : evS c G N (.if_ e a b) ev st = evS c G N a ev st1 := by
  show (truth (evE c G N e ev st)).bind _ = _
  rw [h]
  rfl
theorem if_f (h : evE c G N e ev st = .ok (.bl false) st1) : evS c G N (.if_ e a b) ev st = evS c G N b ev st1 := by
  show (truth (evE c G N e ev st)).bind _ = _
  rw [h]
  rfl
theorem ret_v (h : evE c G N e ev st = .ok v st1) : evS c G N (.ret e) ev st = .ok (.rt (fixv v st1).1) (fixv v st1).2 := by
  show (fixR (evE c G N e ev st)).bind _ = _
  rw [h]
  rfl
theorem var_v {i : Nat} (h : ev[i]? = some (some v)) : evE c G N (.var i) ev st = .ok v st := by
  show (match ev[i]? with
    | some (some v) => Res.ok v st
    | _ => .bad) = _
  rw [h]
theorem of_bind {α β : Type} {r : Res α} {x : α} {f : α → Store → Res β} (h : r = .ok x st) : r.bind f = f x st := by
  rw [h]
  rfl
theorem of_some {α : Type} {o : Option α} {x : α} (h : o = some x) : Res.of o st = .ok x st := by
  rw [h]
  rfl
theorem for_1 {n : Nat} {body : CS} {t : CT} {r : Res Flow} (h : evE c G N e ev st = .ok (.int n) st) (hn : n ≤ SZ) (hr : forRng (turnM (fun x ev st => evT c G N t x ev st) (fun ev st => evS c G N body ev st)) n 0 ev st = r) : evS c G N (.for_ t .rng1 e .noE body) ev st = r := by
  have e1 : (evE c G N e ev st).bind (fun v st1 => Res.of (rng1Of v) st1) = .ok (.rng 0 n) st := (of_bind h).trans (of_some (rng_run hn))
  unfold evS forM iterM
  dsimp only
  rw [of_bind e1]
  exact hr
theorem run_rt {d f : Nat} {fn : Fn} {vs : List PV} (h1 : ¬ 1000 ≤ f) (hf : T f = some fn) (hl : vs.length = fn.np) (h : evS (run T G N d) G N fn.body (start fn.ns vs) st = .ok (.rt v) st1) : run T G N (d + 1) f vs st = .ok v st1 := by
  rw [run, if_neg h1, hf]
  dsimp only
  rw [if_pos hl, h]
  rfl
end
theorem draws_run {q q2 d : Nat} (hq1 : ¬ 1000 ≤ q) (hq3 : ¬ 1000 ≤ q2) (hq : T q = some ⟨2, 3, numC⟩) (hq2 : T q2 = some ⟨4, 9, drawC q⟩) (ns : List Int) (k n : Nat) (many : Int) (hn : n ≤ SZ) (hm : 0 < many) (hM : many < 1073741824) (st : Store) :
    run T G N (d + 2) q2 [.fl (ns.map .int), .int k, .int n, .int many] st = .ok (.loc st.length) (st ++ [.lst ((drawsF ns k n many).map .int)]) := by
  have num := number_run (T := T) (G := G) (N := N) (d := d) hq hq1 ns k st
  have hcall : ∀ a4 a5 a6 a7 a8, evE (run T G N (d + 1)) G N (.call q (.cons (.var 0) (.cons (.var 1) .nil))) [some (.fl (ns.map .int)), some (.int k), some (.int n), some (.int many), a4, a5, a6, a7, a8] st = .ok (.int (absF (rawF ns k))) st := fun _ _ _ _ _ => num
  have hge : ∀ a5 a6 a7 a8 st, evE (run T G N (d + 1)) G N (.cmp .ge (.var 4) (.bin .pow (.lit (.int 10)) (.lit (.int 18)))) [some (.fl (ns.map .int)), some (.int k), some (.int n), some (.int many), some (.int (absF (rawF ns k))), a5, a6, a7, a8] st = .ok (.bl (decide (1000000000000000000 ≤ absF (rawF ns k)))) st := by
    intro _ _ _ _ st
    simp only [evE, Res.bind_ok, pow_run, List.getElem?_cons_zero, List.getElem?_cons_succ, Res.of, cmpV, Option.map_some]
  have hsub : ∀ a5 a6 a7 a8 st, evE (run T G N (d + 1)) G N (.bin .sub (.var 4) (.bin .pow (.lit (.int 10)) (.lit (.int 18)))) [some (.fl (ns.map .int)), some (.int k), some (.int n), some (.int many), some (.int (absF (rawF ns k))), a5, a6, a7, a8] st = .ok (.int (absF (rawF ns k) - 1000000000000000000)) st := by
    intro _ _ _ _ st
    show (Res.of (binop .pow (.int 10) (.int 18) st) st).bind (fun y st2 => Res.of (binop .sub (.int (absF (rawF ns k))) y st2) st2) = _
    rw [pow_run]
    rfl
  refine run_rt hq3 hq2 rfl ?_
  show evS _ G N (drawC q) [some (.fl (ns.map .int)), some (.int k), some (.int n), some (.int many), none, none, none, none, none] st = _
  unfold drawC
  rw [cons_nx (asg_nm (hcall _ _ _ _ _))]
  rw [cons_nx (asg_nm (v := .tl []) (st1 := st) rfl)]
  by_cases hb : 1000000000000000000 ≤ absF (rawF ns k)
  · obtain ⟨ev, h1, h2⟩ := big_loop (G := G) (N := N) (c := run T G N (d + 1)) (.fl (ns.map .int)) (.int k) (.int n) hm hM st n 0 (absF (rawF ns k) - 1000000000000000000) [] none none none (by simpa using hn)
    have e : drawsF ns k n many = drawsBig n (absF (rawF ns k) - 1000000000000000000) many := if_pos hb
    rw [e]
    refine cons_rt ((if_t ((hge _ _ _ _ _).trans (by rw [decide_eq_true hb]))).trans ?_)
    rw [cons_nx (asg_nm (hsub _ _ _ _ _))]
    refine (cons_nx (for_1 (n := n) (var_v rfl) hn h1)).trans ?_
    exact cons_rt (ret_v (var_v h2))
  · obtain ⟨ev, h1, h2⟩ := sml_loop (G := G) (N := N) (c := run T G N (d + 1)) (.fl (ns.map .int)) (.int k) (.int n) (.int (absF (rawF ns k))) hm st n 0 (absF (rawF ns k) % 2147483647 + 1) [] none none (by simpa using hn)
    have e : drawsF ns k n many = drawsSml n (absF (rawF ns k) % 2147483647 + 1) 0 many := if_neg hb
    rw [e]
    refine (cons_nx (ev1 := [some (.fl (ns.map .int)), some (.int k), some (.int n), some (.int many), some (.int (absF (rawF ns k))), some (.loc st.length), none, none, none]) (st1 := st ++ [.lst []]) ((if_f ((hge _ _ _ _ _).trans (by rw [decide_eq_false hb]; rfl))).trans rfl)).trans ?_
    have hst : ∀ st' : Store, evE (run T G N (d + 1)) G N (.bin .add (.bin .mod (.var 4) (.lit (.int 2147483647))) (.lit (.int 1))) [some (.fl (ns.map .int)), some (.int k), some (.int n), some (.int many), some (.int (absF (rawF ns k))), some (.loc st.length), none, none, none] st' = .ok (.int (absF (rawF ns k) % 2147483647 + 1)) st' := fun st' => by
      simp [evE, binop, guardO, Res.of]
    refine (cons_nx (asg_nm (hst _))).trans ?_
    refine (cons_nx (for_1 (n := n) (var_v rfl) hn h1)).trans ?_
    exact cons_rt (ret_v (var_v h2))
end
end Vm

set_option maxHeartbeats 4000000
/-! Vm17: steps of walks, as implications. -/
namespace Vm
section
variable {c : Nat → List PV → Store → Res PV} {G : Nat → Option PV} {N : Nat} {ev ev1 : Env} {st st1 st2 st3 : Store} {a b e o : CE} {u v w : PV} {x y : Bool}
theorem and_v (h1 : evE c G N a ev st = .ok (.bl x) st1) (h2 : x = true → evE c G N b ev st1 = .ok (.bl y) st2) (h3 : x = false → st2 = st1) : evE c G N (.and a b) ev st = .ok (.bl (x && y)) st2 := by
  show (truth (evE c G N a ev st)).bind _ = _
  rw [h1]
  cases x with
  | true =>
    show (truth (evE c G N b ev st1)).bind _ = _
    rw [h2 rfl]
    rfl
  | false => rw [h3 rfl]; rfl
theorem or_v (h1 : evE c G N a ev st = .ok (.bl x) st1) (h2 : x = false → evE c G N b ev st1 = .ok (.bl y) st2) (h3 : x = true → st2 = st1) : evE c G N (.or a b) ev st = .ok (.bl (x || y)) st2 := by
  show (truth (evE c G N a ev st)).bind _ = _
  rw [h1]
  cases x with
  | false =>
    show (truth (evE c G N b ev st1)).bind _ = _
    rw [h2 rfl]
    rfl
  | true => rw [h3 rfl]; rfl
theorem and_p (h1 : evE c G N a ev st = .ok (.bl x) st) (h2 : x = true → evE c G N b ev st = .ok (.bl y) st) : evE c G N (.and a b) ev st = .ok (.bl (x && y)) st := and_v h1 h2 fun _ => rfl
theorem or_p (h1 : evE c G N a ev st = .ok (.bl x) st) (h2 : x = false → evE c G N b ev st = .ok (.bl y) st) : evE c G N (.or a b) ev st = .ok (.bl (x || y)) st := or_v h1 h2 fun _ => rfl
theorem not_v (h1 : evE c G N a ev st = .ok (.bl x) st1) : evE c G N (.not a) ev st = .ok (.bl (!x)) st1 := by
  show (truth (evE c G N a ev st)).bind _ = _
  rw [h1]
  rfl
theorem cmp_v {o : COp} (h1 : evE c G N a ev st = .ok u st1) (h2 : evE c G N b ev st1 = .ok v st2) (h : cmpV o u v st2 = some x) : evE c G N (.cmp o a b) ev st = .ok (.bl x) st2 := by
  show (evE c G N a ev st).bind _ = _
  rw [h1]
  show (evE c G N b ev st1).bind _ = _
  rw [h2]
  show Res.of ((cmpV o u v st2).map PV.bl) st2 = _
  rw [h]
  rfl
theorem bin_v {o : BOp} (h1 : evE c G N a ev st = .ok u st1) (h2 : evE c G N b ev st1 = .ok v st2) (h : binop o u v st2 = some w) : evE c G N (.bin o a b) ev st = .ok w st2 := by
  show (evE c G N a ev st).bind _ = _
  rw [h1]
  show (evE c G N b ev st1).bind _ = _
  rw [h2]
  show Res.of (binop o u v st2) st2 = _
  rw [h]
  rfl
theorem ix_v (h1 : evE c G N a ev st = .ok u st1) (h2 : evE c G N b ev st1 = .ok v st2) (h : indexV u v st2 = some w) : evE c G N (.ix a b) ev st = .ok w st2 := by
  show (evE c G N a ev st).bind _ = _
  rw [h1]
  show (evE c G N b ev st1).bind _ = _
  rw [h2]
  show Res.of (indexV u v st2) st2 = _
  rw [h]
  rfl
theorem ite_t (h1 : evE c G N e ev st = .ok (.bl true) st1) : evE c G N (.ite e a b) ev st = evE c G N a ev st1 := by
  show (truth (evE c G N e ev st)).bind _ = _
  rw [h1]
  rfl
theorem ite_f (h1 : evE c G N e ev st = .ok (.bl false) st1) : evE c G N (.ite e a b) ev st = evE c G N b ev st1 := by
  show (truth (evE c G N e ev st)).bind _ = _
  rw [h1]
  rfl
theorem blt1_v {f : Blt} (h1 : evE c G N a ev st = .ok u st1) (h : blt1 f u st1 = some v) : evE c G N (.blt1 f a) ev st = .ok v st1 := by
  show (evE c G N a ev st).bind _ = _
  rw [h1]
  show Res.of (blt1 f u st1) st1 = _
  rw [h]
  rfl
theorem call_v {f : Nat} {vs : List PV} {r : Res PV} (h1 : evE c G N a ev st = .ok (.tup vs) st1) (h : c f vs st1 = r) : evE c G N (.call f a) ev st = r := by
  show (evE c G N a ev st).bind _ = _
  rw [h1]
  exact h
theorem meth_v {m : List Nat} {tab : List (Nat × Nat)} {f : Nat} {vs : List PV} {r : Res PV} (h1 : evE c G N o ev st = .ok u st1) (hm : methOf tab m u st1 = some f) (h2 : evE c G N a ev st1 = .ok (.tup vs) st2) (h : c f (u :: vs) st2 = r) : evE c G N (.meth o m tab a) ev st = r := by
  show (evE c G N o ev st).bind _ = _
  rw [h1]
  show (match methOf tab m u st1 with
    | some f => (evE c G N a ev st1).bind fun v st2 => c f (u :: tupOf v) st2
    | none => .bad) = _
  rw [hm]
  dsimp only
  rw [h2]
  exact h
theorem cons_v {us : List PV} (h1 : evE c G N a ev st = .ok u st1) (h2 : evE c G N b ev (fixv u st1).2 = .ok (.tup us) st2) : evE c G N (.cons a b) ev st = .ok (.tup ((fixv u st1).1 :: us)) st2 := by
  show (fixR (evE c G N a ev st)).bind _ = _
  rw [h1]
  show (evE c G N b ev (fixv u st1).2).bind _ = _
  rw [h2]
  rfl
/-- a value that is no new list -/
theorem cons_p {us : List PV} (h1 : evE c G N a ev st = .ok u st1) (h2 : evE c G N b ev st1 = .ok (.tup us) st2) (hf : fixv u st1 = (u, st1) := by rfl) : evE c G N (.cons a b) ev st = .ok (.tup (u :: us)) st2 := by
  show (fixR (evE c G N a ev st)).bind _ = _
  rw [h1]
  show (evE c G N b ev (fixv u st1).2).bind (fun xs st2 => Res.ok (PV.tup ((fixv u st1).1 :: tupOf xs)) st2) = _
  rw [hf, h2]
  rfl
theorem tup_v {us : List PV} (h : evE c G N a ev st = .ok (.tup us) st1) (hl : us.length ≤ SZ) : evE c G N (.tup a) ev st = .ok (.tup us) st1 := by
  show (evE c G N a ev st).bind _ = _
  rw [h]
  show guardR (decide (us.length ≤ SZ)) _ = _
  rw [decide_eq_true hl]
  rfl
theorem lst_v {us : List PV} (h : evE c G N a ev st = .ok (.tup us) st1) (hl : us.length ≤ SZ) : evE c G N (.lst a) ev st = .ok (.tl us) st1 := by
  show (evE c G N a ev st).bind _ = _
  rw [h]
  show guardR (decide (us.length ≤ SZ)) _ = _
  rw [decide_eq_true hl]
  rfl
theorem fld_v {cs : List Nat} {f : List Nat} (h1 : evE c G N o ev st = .ok u st1) (h : fldV cs u f st1 = some v) : evE c G N (.fld cs o f) ev st = .ok v st1 := by
  show (evE c G N o ev st).bind _ = _
  rw [h1]
  show Res.of (fldV cs u f st1) st1 = _
  rw [h]
  rfl
theorem isi_v {t : Ty} (h1 : evE c G N a ev st = .ok u st1) (h : isTy t u st1 = some x) : evE c G N (.isi a t) ev st = .ok (.bl x) st1 := by
  show (evE c G N a ev st).bind _ = _
  rw [h1]
  show Res.of ((isTy t u st1).map PV.bl) st1 = _
  rw [h]
  rfl
theorem join_v {ys : List (List Nat)} {sep : List Nat} (h1 : evE c G N o ev st = .ok (.str sep) st1) (h2 : evE c G N a ev st1 = .ok u st2) (h : joinV (.str sep) (fixv u st2).1 (fixv u st2).2 = some v) : evE c G N (.mth1 .join o a) ev st = .ok v (fixv u st2).2 := by
  show (evE c G N o ev st).bind _ = _
  rw [h1]
  show (fixR (evE c G N a ev st1)).bind _ = _
  rw [h2]
  show mthR ((joinV (.str sep) (fixv u st2).1 (fixv u st2).2).map _) = _
  rw [h]
  rfl
variable {s ss : CS} {f1 : Flow}
theorem asg_v {t : CT} (h : evE c G N e ev st = .ok v st1) (h2 : evT c G N t (fixv v st1).1 ev (fixv v st1).2 = .ok ev1 st2) : evS c G N (.asg t e) ev st = .ok (.nx ev1) st2 := by
  show (fixR (evE c G N e ev st)).bind _ = _
  rw [h]
  show (evT c G N t (fixv v st1).1 ev (fixv v st1).2).bind _ = _
  rw [h2]
  rfl
theorem setf_v {cs : List Nat} {f : List Nat} (h1 : evE c G N o ev st = .ok u st1) (h : setFld cs u f v st1 = some st2) : evT c G N (.fld cs o f) v ev st = .ok ev st2 := by
  show (evE c G N o ev st).bind _ = _
  rw [h1]
  show (match setFld cs u f v st1 with
    | some st2 => Res.ok ev st2
    | none => .bad) = _
  rw [h]
theorem expr_v (h : evE c G N e ev st = .ok v st1) : evS c G N (.expr e) ev st = .ok (.nx ev) st1 := by
  show (evE c G N e ev st).bind _ = _
  rw [h]
  rfl
theorem expr_x {k : Nat} {fs : List (Nat × PV)} (h : evE c G N e ev st = .exc k fs st1) : evS c G N (.expr e) ev st = .exc k fs st1 := by
  show (evE c G N e ev st).bind _ = _
  rw [h]
  rfl
theorem asg_x {k : Nat} {t : CT} {fs : List (Nat × PV)} (h : evE c G N e ev st = .exc k fs st1) : evS c G N (.asg t e) ev st = .exc k fs st1 := by
  show (fixR (evE c G N e ev st)).bind _ = _
  rw [h]
  rfl
theorem ret_x {k : Nat} {fs : List (Nat × PV)} (h : evE c G N e ev st = .exc k fs st1) : evS c G N (.ret e) ev st = .exc k fs st1 := by
  show (fixR (evE c G N e ev st)).bind _ = _
  rw [h]
  rfl
theorem cons_x {k : Nat} {fs : List (Nat × PV)} (h : evS c G N s ev st = .exc k fs st1) : evS c G N (.cons s ss) ev st = .exc k fs st1 := by
  show (evS c G N s ev st).bind _ = _
  rw [h]
  rfl
theorem consE_x {k : Nat} {fs : List (Nat × PV)} (h : evE c G N a ev st = .exc k fs st1) : evE c G N (.cons a b) ev st = .exc k fs st1 := by
  show (fixR (evE c G N a ev st)).bind _ = _
  rw [h]
  rfl
theorem consE_x2 {k : Nat} {fs : List (Nat × PV)} (h1 : evE c G N a ev st = .ok u st1) (h : evE c G N b ev (fixv u st1).2 = .exc k fs st2) : evE c G N (.cons a b) ev st = .exc k fs st2 := by
  show (fixR (evE c G N a ev st)).bind _ = _
  rw [h1]
  show (evE c G N b ev (fixv u st1).2).bind _ = _
  rw [h]
  rfl
theorem tup_x {k : Nat} {fs : List (Nat × PV)} (h : evE c G N a ev st = .exc k fs st1) : evE c G N (.tup a) ev st = .exc k fs st1 := by
  show (evE c G N a ev st).bind _ = _
  rw [h]
  rfl
theorem while_v {a : CE} {s : CS} {r : Res Flow} (h : whl (fun ev st => truth (evE c G N a ev st)) (fun ev st => evS c G N s ev st) N ev st = r) : evS c G N (.while_ a s) ev st = r := h
theorem truth_v (h : evE c G N a ev st = .ok (.bl x) st1) : truth (evE c G N a ev st) = .ok x st1 := by
  rw [h]
  rfl
theorem whl_f {cf : Env → Store → Res Bool} {bf : Env → Store → Res Flow} {n : Nat} (h : cf ev st = .ok false st1) : whl cf bf (n + 1) ev st = .ok (.nx ev) st1 := by
  show (cf ev st).bind _ = _
  rw [h]
  rfl
theorem whl_t {cf : Env → Store → Res Bool} {bf : Env → Store → Res Flow} {n : Nat} (h : cf ev st = .ok true st1) (h2 : bf ev st1 = .ok (.nx ev1) st2) : whl cf bf (n + 1) ev st = whl cf bf n ev1 st2 := by
  show (cf ev st).bind _ = _
  rw [h]
  show (bf ev st1).bind _ = _
  rw [h2]
  rfl
theorem whl_x {cf : Env → Store → Res Bool} {bf : Env → Store → Res Flow} {n k : Nat} {fs : List (Nat × PV)} (h : cf ev st = .ok true st1) (h2 : bf ev st1 = .exc k fs st2) : whl cf bf (n + 1) ev st = .exc k fs st2 := by
  show (cf ev st).bind _ = _
  rw [h]
  show (bf ev st1).bind _ = _
  rw [h2]
  rfl
theorem lit_v : evE c G N (.lit v) ev st = .ok v st := rfl
theorem glob_v {g : Nat} (h : G g = some v) : evE c G N (.glob g) ev st = .ok v st := by
  show Res.of (G g) st = _
  rw [h]
  rfl
theorem nil_v : evE c G N .nil ev st = .ok (.tup []) st := rfl
theorem eqS_v {r : Bool} (h : eqS u v = some r) : cmpV .eq u v st = some r := by
  show eqW u v st = _
  unfold eqW
  rw [h]
theorem neS_v {r : Bool} (h : eqS u v = some r) : cmpV .ne u v st = some (!r) := by
  show (eqW u v st).map _ = _
  unfold eqW
  rw [h]
  rfl
theorem strEq {p q : List Nat} : eqS (.str p) (.str q) = some (p == q) := rfl
theorem isin_strs0 {p : List Nat} {ls : List (List Nat)} : isinV (.str p) (.tup (ls.map .str)) st = some (ls.contains p) := by
  show isinL (.str p) (ls.map .str) = _
  unfold isinL
  rw [if_pos (by simp [flat])]
  congr 1
  rw [Bool.eq_iff_iff]
  simp [eqF]
theorem notin_strs {p : List Nat} {ls : List (List Nat)} : cmpV .notin (.str p) (.tup (ls.map .str)) st = some (!ls.contains p) := by
  show (isinV (.str p) (.tup (ls.map .str)) st).map _ = _
  rw [isin_strs0]
  rfl
theorem isin_strs {p : List Nat} {ls : List (List Nat)} : cmpV .isin (.str p) (.tup (ls.map .str)) st = some (ls.contains p) := isin_strs0 (st := st)
theorem lenS {l : List Nat} (h : l.length ≤ SZ) : lenV (.str l) st = some (l.length : Int) := by
  show (if l.length ≤ SZ then some (l.length : Int) else none) = _
  rw [if_pos h]
theorem lenStr {l : List Nat} (h : l.length ≤ SZ) : blt1 .len (.str l) st = some (.int l.length) := by
  show (lenV (.str l) st).map PV.int = _
  rw [lenS h]
  rfl
theorem lc_go {f : PV → Store → Res (Option PV)} {p : Nat → Bool} (hf : ∀ c st, f (.str [c]) st = .ok (if p c then some (.str [c]) else none) st) (st : Store) : ∀ (l : List Nat) (acc : List PV), acc.length + l.length ≤ SZ → lcGo f (l.map fun c => .str [c]) acc st = .ok (acc ++ (l.filter p).map fun c => .str [c]) st
  | [], acc, _ => by simp [lcGo]
  | c :: l, acc, h => by
    have h' : acc.length < SZ := by simp at h; omega
    rw [List.map_cons]
    unfold lcGo
    rw [hf]
    cases hp : p c with
    | true =>
      simp only [Res.bind_ok, if_true]
      rw [lc_go hf st l _ (by simp at h ⊢; omega)]
      simp [guardR, h', hp]
    | false =>
      simp only [Res.bind_ok, Bool.false_eq_true, if_false]
      rw [lc_go hf st l _ (by simp at h ⊢; omega)]
      simp [hp]
/-- [c for c in l if p c], l a text -/
theorem lc_str {i : Nat} {e co : CE} {l : List Nat} {p : Nat → Bool} (hl : l.length ≤ SZ) (h1 : evE c G N e ev st = .ok (.str l) st)
    (h2 : ∀ x st, evE c G N co ((ev.set i none).set i (some (.str [x]))) st = .ok (.bl (p x)) st) (hi : i < ev.length) :
    evE c G N (.lc [i] .seq e .noE true co (.var i)) ev st = .ok (.tl ((l.filter p).map fun c => .str [c])) st := by
  have e1 : (evE c G N e ev st).bind (fun v st1 => Res.of (srcOf v st1) st1) = .ok (Src.vals (l.map fun c => PV.str [c])) st := by
    rw [h1]
    rfl
  show lcM N [i] (iterM .seq (fun ev st => evE c G N e ev st) (fun ev st => evE c G N .noE ev st)) (condM true fun ev st => evE c G N co ev st) (fun ev st => evE c G N (.var i) ev st) ev st = _
  unfold lcM iterM
  dsimp only
  rw [e1, Res.bind_ok]
  unfold lcSrc
  dsimp only
  rw [lc_go (p := p) ?_ st l [] (by simpa using hl)]
  · rfl
  · intro x st
    show noExc ((truth (evE c G N co ((ev.set i none).set i (some (.str [x]))) st)).bind _) = _
    rw [truth_v (h2 x st)]
    cases p x with
    | true =>
      have : evE c G N (.var i) ((ev.set i none).set i (some (.str [x]))) st = .ok (.str [x]) st := var_v (by simp [hi])
      show noExc ((fixR (evE c G N (.var i) ((ev.set i none).set i (some (.str [x]))) st)).bind _) = _
      rw [this]
      rfl
    | false => rfl
theorem filt0 {l : List Nat} {p : Nat → Bool} : (((l.filter p).map fun c => PV.str [c]).length : Int) = 0 ↔ (l.all fun c => !p c) = true := by
  simp [List.filter_eq_nil_iff]
/-- len([c for c in l if p c]) == 0 -/
theorem lc_all {i : Nat} {e co : CE} {l : List Nat} {p : Nat → Bool} (hl : l.length ≤ SZ) (h1 : evE c G N e ev st = .ok (.str l) st)
    (h2 : ∀ x st, evE c G N co ((ev.set i none).set i (some (.str [x]))) st = .ok (.bl (p x)) st) (hi : i < ev.length) :
    evE c G N (.cmp .eq (.blt1 .len (.lc [i] .seq e .noE true co (.var i))) (.lit (.int 0))) ev st = .ok (.bl (l.all fun c => !p c)) st :=
  cmp_v (blt1_v (v := .int ((l.filter p).map fun c => PV.str [c]).length) (lc_str hl h1 h2 hi) rfl) lit_v (eqS_v (by
    show some _ = _
    congr 1
    rw [Bool.eq_iff_iff, beq_iff_eq]
    exact filt0))
/-- len([c for c in l if p c]) > 0 -/
theorem lc_any {i : Nat} {e co : CE} {l : List Nat} {p : Nat → Bool} (hl : l.length ≤ SZ) (h1 : evE c G N e ev st = .ok (.str l) st)
    (h2 : ∀ x st, evE c G N co ((ev.set i none).set i (some (.str [x]))) st = .ok (.bl (p x)) st) (hi : i < ev.length) :
    evE c G N (.cmp .gt (.blt1 .len (.lc [i] .seq e .noE true co (.var i))) (.lit (.int 0))) ev st = .ok (.bl (!l.all fun c => !p c)) st :=
  cmp_v (blt1_v (v := .int ((l.filter p).map fun c => PV.str [c]).length) (lc_str hl h1 h2 hi) rfl) lit_v (by
    show some (decide ((0 : Int) < (((l.filter p).map fun c => PV.str [c]).length : Nat))) = _
    congr 1
    have := filt0 (l := l) (p := p)
    cases h : (l.all fun c => !p c) with
    | true =>
      have := this.mpr h
      rw [this]
      rfl
    | false =>
      have : ¬ (((l.filter p).map fun c => PV.str [c]).length : Int) = 0 := fun q => by rw [this.mp q] at h; cases h
      exact decide_eq_true (by omega))
end
end Vm

set_option maxHeartbeats 8000000
namespace K83
open Vm PySem L2
def topS (i : Nat) : Stmt := PySem.Challenge.pw_wordsbeside_k83_texts_of_expressions_of.main.body.getD i (.Pass ⟨0, 0, 0, 0⟩)
/-- is_name -/
def r0 : Row := { name := "is_name", qual := "is_name", top := true, st := topS 8, ps := ["word"], N := ["word", "sign"], c := { np := 1, ns := 2, body := (.cons (.if_ (.or (.cmp .eq (.var 0) (.lit (.str []))) (.or (.cmp .gt (.blt1 .len (.var 0)) (.glob 2)) (.cmp .notin (.ix (.var 0) (.lit (.int 0))) (.glob 0)))) (.cons (.ret (.lit (.bl false))) .nil) .nil) (.cons (.ret (.cmp .eq (.blt1 .len (.lc [1] .seq (.var 0) .noE true (.and (.cmp .notin (.var 1) (.glob 0)) (.cmp .notin (.var 1) (.glob 1))) (.var 1))) (.lit (.int 0)))) .nil)) } }
/-- is_number -/
def r1 : Row := { name := "is_number", qual := "is_number", top := true, st := topS 9, ps := ["word", "most"], N := ["word", "most", "sign"], c := { np := 2, ns := 3, body := (.cons (.if_ (.or (.cmp .eq (.var 0) (.lit (.str []))) (.or (.cmp .gt (.blt1 .len (.var 0)) (.var 1)) (.cmp .gt (.blt1 .len (.lc [2] .seq (.var 0) .noE true (.cmp .notin (.var 2) (.glob 1)) (.var 2))) (.lit (.int 0))))) (.cons (.ret (.lit (.bl false))) .nil) .nil) (.cons (.ret (.or (.cmp .eq (.var 0) (.lit (.str [48]))) (.cmp .ne (.ix (.var 0) (.lit (.int 0))) (.lit (.str [48]))))) .nil)) } }
/-- sign_behind -/
def r2 : Row := { name := "sign_behind", qual := "sign_behind", top := true, st := topS 15, ps := ["expression"], N := ["expression", "head"], c := { np := 1, ns := 2, body := (.cons (.asg (.name 1) (.ix (.var 0) (.lit (.int 0)))) (.cons (.if_ (.kin false 6 (.var 1)) (.cons (.ret (.kix 6 (.var 1))) .nil) .nil) (.cons (.if_ (.cmp .isin (.var 1) (.tup (.cons (.lit (.str [116, 105, 109, 101, 115])) (.cons (.lit (.str [117, 112, 116, 111])) .nil)))) (.cons (.ret (.bin .add (.ix (.ddisp (.cons (.lit (.str [116, 105, 109, 101, 115])) (.cons (.lit (.str [35])) (.cons (.lit (.str [117, 112, 116, 111])) (.cons (.lit (.str [60])) .nil))))) (.var 1)) (.blt1 .str (.ix (.var 0) (.lit (.int 1)))))) .nil) .nil) (.cons (.ret (.lit .non)) .nil)))) } }
/-- held_expression -/
def r3 : Row := { name := "held_expression", qual := "held_expression", top := true, st := topS 16, ps := ["expression", "held"], N := ["expression", "held", "head", "sign", "own", "text"], c := { np := 2, ns := 6, body := (.cons (.asg (.name 2) (.ix (.var 0) (.lit (.int 0)))) (.cons (.asg (.name 3) (.call 2 (.cons (.var 0) .nil))) (.cons (.if_ (.cmp .eq (.var 2) (.lit (.str [116, 105, 101]))) (.cons (.ret (.ix (.var 0) (.lit (.int 1)))) .nil) .nil) (.cons (.if_ (.cmp .isin (.var 2) (.tup (.cons (.lit (.str [115, 97, 109, 101])) (.cons (.lit (.str [97, 108, 108])) .nil)))) (.cons (.ret (.ite (.cmp .eq (.var 2) (.lit (.str [115, 97, 109, 101]))) (.lit (.str [61])) (.lit (.str [63])))) .nil) .nil) (.cons (.if_ (.cmp .isnot (.var 3) (.lit .non)) (.cons (.ret (.bin .add (.bin .add (.call 3 (.cons (.ix (.var 0) (.neg (.lit (.int 1)))) (.cons (.lit (.int 4)) .nil))) (.lit (.str [32]))) (.var 3))) .nil) .nil) (.cons (.if_ (.cmp .eq (.var 2) (.lit (.str [110, 111, 116]))) (.cons (.asg (.name 4) (.lit (.int 3))) (.cons (.asg (.name 5) (.bin .add (.lit (.str [33, 32])) (.call 3 (.cons (.ix (.var 0) (.lit (.int 1))) (.cons (.lit (.int 3)) .nil))))) .nil)) (.cons (.asg (.name 4) (.kix 4 (.var 2))) (.cons (.asg (.name 5) (.bin .add (.bin .add (.bin .add (.bin .add (.call 3 (.cons (.ix (.var 0) (.lit (.int 1))) (.cons (.var 4) .nil))) (.lit (.str [32]))) (.kix 5 (.var 2))) (.lit (.str [32]))) (.call 3 (.cons (.ix (.var 0) (.lit (.int 2))) (.cons (.bin .add (.var 4) (.lit (.int 1))) .nil))))) .nil))) (.cons (.ret (.ite (.cmp .gt (.var 1) (.var 4)) (.bin .add (.bin .add (.lit (.str [40, 32])) (.var 5)) (.lit (.str [32, 41]))) (.var 5))) .nil))))))) } }
/-- expression_text -/
def r4 : Row := { name := "expression_text", qual := "expression_text", top := true, st := topS 17, ps := ["expression"], N := ["expression"], c := { np := 1, ns := 1, body := (.cons (.ret (.call 3 (.cons (.var 0) (.cons (.lit (.int 0)) .nil)))) .nil) } }
/-- read_expression -/
def r5 : Row := { name := "read_expression", qual := "read_expression", top := true, st := topS 19, ps := ["text"], N := ["text"], c := { np := 1, ns := 1, body := (.cons (.ret (.meth (.new 0 16 (.cons (.var 0) .nil)) [114, 101, 97, 100] [(0, 24)] .nil)) .nil) } }
/-- _law_same -/
def r6 : Row := { name := "_law_same", qual := "_law_same", top := true, st := topS 21, ps := ["tells", "due"], N := ["tells", "due", "k"], c := { np := 2, ns := 3, body := (.cons (.if_ (.or (.isi (.var 1) .bool) (.isi (.var 0) .bool)) (.cons (.ret (.and (.isi (.var 1) .bool) (.and (.isi (.var 0) .bool) (.cmp .eq (.var 0) (.var 1))))) .nil) .nil) (.cons (.if_ (.or (.cmp .is (.var 1) (.lit .non)) (.isi (.var 1) .int)) (.cons (.ret (.and (.cmp .eq (.var 0) (.var 1)) (.or (.cmp .is (.var 1) (.lit .non)) (.isi (.var 0) .int)))) .nil) .nil) (.cons (.if_ (.isi (.var 1) .str) (.cons (.ret (.and (.isi (.var 0) .str) (.cmp .eq (.var 0) (.var 1)))) .nil) .nil) (.cons (.if_ (.or (.cmp .ne (.isi (.var 1) .list) (.isi (.var 0) .list)) (.cmp .ne (.isi (.var 1) .tuple) (.isi (.var 0) .tuple))) (.cons (.ret (.lit (.bl false))) .nil) .nil) (.cons (.if_ (.cmp .ne (.blt1 .len (.var 0)) (.blt1 .len (.var 1))) (.cons (.ret (.lit (.bl false))) .nil) .nil) (.cons (.for_ (.name 2) .rng1 (.blt1 .len (.var 1)) .noE (.cons (.if_ (.not (.call 6 (.cons (.ix (.var 0) (.var 2)) (.cons (.ix (.var 1) (.var 2)) .nil)))) (.cons (.ret (.lit (.bl false))) .nil) .nil) .nil)) (.cons (.ret (.lit (.bl true))) .nil))))))) } }
/-- _law_number -/
def r7 : Row := { name := "_law_number", qual := "_law_number", top := true, st := topS 22, ps := ["script", "k"], N := ["script", "k", "number"], c := { np := 2, ns := 3, body := (.cons (.asg (.name 2) (.bin .add (.bin .mul (.blt1 .sum (.var 0)) (.lit (.int 31))) (.bin .mul (.lit (.int 1000003)) (.bin .add (.var 1) (.lit (.int 1)))))) (.cons (.if_ (.cmp .lt (.var 1) (.blt1 .len (.var 0))) (.cons (.asg (.name 2) (.ix (.var 0) (.var 1))) .nil) .nil) (.cons (.ret (.blt1 .abs (.var 2))) .nil))) } }
/-- _law_draws -/
def r8 : Row := { name := "_law_draws", qual := "_law_draws", top := true, st := topS 23, ps := ["script", "k", "count", "many"], N := ["script", "k", "count", "many", "number", "found", "at", "state", "another"], c := { np := 4, ns := 9, body := (.cons (.asg (.name 4) (.call 7 (.cons (.var 0) (.cons (.var 1) .nil)))) (.cons (.asg (.name 5) (.lst .nil)) (.cons (.if_ (.cmp .ge (.var 4) (.bin .pow (.lit (.int 10)) (.lit (.int 18)))) (.cons (.asg (.name 4) (.bin .sub (.var 4) (.bin .pow (.lit (.int 10)) (.lit (.int 18))))) (.cons (.for_ (.name 6) .rng1 (.var 2) .noE (.cons (.expr (.mth1 .append (.var 5) (.bin .mod (.var 4) (.var 3)))) (.cons (.asg (.name 4) (.bin .fdiv (.var 4) (.var 3))) .nil))) (.cons (.ret (.var 5)) .nil))) .nil) (.cons (.asg (.name 7) (.bin .add (.bin .mod (.var 4) (.lit (.int 2147483647))) (.lit (.int 1)))) (.cons (.for_ (.name 6) .rng1 (.var 2) .noE (.cons (.asg (.name 7) (.bin .mod (.bin .add (.bin .add (.bin .mul (.var 7) (.lit (.int 48271))) (.bin .mul (.lit (.int 11)) (.var 6))) (.lit (.int 7))) (.lit (.int 2147483647)))) (.cons (.asg (.name 8) (.bin .mod (.bin .add (.bin .add (.bin .mul (.var 7) (.var 7)) (.bin .mul (.lit (.int 69621)) (.var 6))) (.lit (.int 5))) (.lit (.int 2147483629)))) (.cons (.expr (.mth1 .append (.var 5) (.bin .mod (.bin .fdiv (.var 8) (.lit (.int 64))) (.var 3)))) .nil)))) (.cons (.ret (.var 5)) .nil)))))) } }
/-- _law_pick -/
def r9 : Row := { name := "_law_pick", qual := "_law_pick", top := true, st := topS 24, ps := ["picks"], N := ["picks"], c := { np := 1, ns := 1, body := (.cons (.if_ (.cmp .eq (.blt1 .len (.var 0)) (.lit (.int 0))) (.cons (.ret (.lit (.int 0))) .nil) .nil) (.cons (.ret (.mth0 .pop (.var 0))) .nil)) } }
/-- _law_picks -/
def r10 : Row := { name := "_law_picks", qual := "_law_picks", top := true, st := topS 25, ps := ["script", "k", "count"], N := ["script", "k", "count", "picks"], c := { np := 3, ns := 4, body := (.cons (.asg (.name 3) (.call 8 (.cons (.var 0) (.cons (.var 1) (.cons (.var 2) (.cons (.lit (.int 5040)) .nil)))))) (.cons (.expr (.mth0 .reverse (.var 3))) (.cons (.ret (.var 3)) .nil))) } }
/-- _law_plain -/
def r11 : Row := { name := "_law_plain", qual := "_law_plain", top := true, st := topS 26, ps := ["picks"], N := ["picks", "how", "name", "words", "told"], c := { np := 1, ns := 5, body := (.cons (.par 1 2 (.bin .mod (.call 9 (.cons (.var 0) .nil)) (.lit (.int 6))) (.ix (.tup (.cons (.lit (.str [110, 101, 120, 116])) (.cons (.lit (.str [114, 49])) (.cons (.lit (.str [97])) (.cons (.lit (.str [108, 101, 115, 115])) (.cons (.lit (.str [116, 57])) (.cons (.lit (.str [97, 98, 99, 49, 50, 51])) .nil))))))) (.bin .mod (.call 9 (.cons (.var 0) .nil)) (.lit (.int 6))))) (.cons (.asg (.names [3, 4]) (.ite (.cmp .gt (.var 1) (.lit (.int 1))) (.tup (.cons (.lst (.cons (.var 2) .nil)) (.cons (.tup (.cons (.lit (.str [116, 105, 101])) (.cons (.var 2) .nil))) .nil))) (.ite (.cmp .eq (.var 1) (.lit (.int 0))) (.tup (.cons (.lst (.cons (.lit (.str [61])) .nil)) (.cons (.tup (.cons (.lit (.str [115, 97, 109, 101])) .nil)) .nil))) (.tup (.cons (.lst (.cons (.lit (.str [63])) .nil)) (.cons (.tup (.cons (.lit (.str [97, 108, 108])) .nil)) .nil)))))) (.cons (.ret (.call 12 (.cons (.var 0) (.cons (.var 3) (.cons (.var 4) .nil))))) .nil))) } }
/-- _law_behind -/
def r12 : Row := { name := "_law_behind", qual := "_law_behind", top := true, st := topS 27, ps := ["picks", "words", "told"], N := ["picks", "words", "told", "how", "count"], c := { np := 3, ns := 5, body := (.cons (.par 3 4 (.bin .mod (.call 9 (.cons (.var 0) .nil)) (.lit (.int 12))) (.bin .mod (.call 9 (.cons (.var 0) .nil)) (.lit (.int 7)))) (.cons (.if_ (.cmp .lt (.var 3) (.lit (.int 3))) (.cons (.ret (.tup (.cons (.bin .add (.var 1) (.lst (.cons (.ix (.lit (.str [94, 36, 64])) (.var 3)) .nil))) (.cons (.tup (.cons (.ix (.tup (.cons (.lit (.str [98, 97, 99, 107])) (.cons (.lit (.str [102, 105, 114, 115, 116])) (.cons (.lit (.str [101, 110, 100, 115])) .nil)))) (.var 3)) (.cons (.var 2) .nil))) .nil)))) .nil) .nil) (.cons (.if_ (.cmp .lt (.var 3) (.lit (.int 5))) (.cons (.ret (.tup (.cons (.bin .add (.var 1) (.lst (.cons (.bin .add (.ix (.lit (.str [35, 60])) (.bin .sub (.var 3) (.lit (.int 3)))) (.blt1 .str (.var 4))) .nil))) (.cons (.tup (.cons (.ix (.tup (.cons (.lit (.str [116, 105, 109, 101, 115])) (.cons (.lit (.str [117, 112, 116, 111])) .nil))) (.bin .sub (.var 3) (.lit (.int 3)))) (.cons (.var 4) (.cons (.var 2) .nil)))) .nil)))) .nil) .nil) (.cons (.ret (.tup (.cons (.var 1) (.cons (.var 2) .nil)))) .nil)))) } }
/-- _law_joined -/
def r13 : Row := { name := "_law_joined", qual := "_law_joined", top := true, st := topS 28, ps := ["left", "one", "inner", "two", "right"], N := ["left", "one", "inner", "two", "right", "heads", "found"], c := { np := 5, ns := 7, body := (.cons (.asg (.name 5) (.lst (.cons (.lit (.str [111, 114])) (.cons (.lit (.str [97, 110, 100])) (.cons (.lit (.str [116, 104, 101, 110])) .nil))))) (.cons (.if_ (.or (.cmp .is (.var 0) (.lit .non)) (.cmp .is (.var 4) (.lit .non))) (.cons (.asg (.name 6) (.ite (.cmp .is (.var 0) (.lit .non)) (.var 2) (.tup (.cons (.var 1) (.cons (.var 0) (.cons (.var 2) .nil)))))) (.cons (.ret (.ite (.cmp .is (.var 4) (.lit .non)) (.var 6) (.tup (.cons (.var 3) (.cons (.var 6) (.cons (.var 4) .nil)))))) .nil)) .nil) (.cons (.if_ (.cmp .ge (.mth1 .index (.var 5) (.var 1)) (.mth1 .index (.var 5) (.var 3))) (.cons (.ret (.tup (.cons (.var 3) (.cons (.tup (.cons (.var 1) (.cons (.var 0) (.cons (.var 2) .nil)))) (.cons (.var 4) .nil))))) .nil) .nil) (.cons (.ret (.tup (.cons (.var 1) (.cons (.var 0) (.cons (.tup (.cons (.var 3) (.cons (.var 2) (.cons (.var 4) .nil)))) .nil))))) .nil)))) } }
/-- _law_read -/
def r14 : Row := { name := "_law_read", qual := "_law_read", top := true, st := topS 29, ps := ["text"], N := ["text", "error"], c := { np := 1, ns := 2, body := (.cons (.try_ (.cons (.ret (.call 5 (.cons (.var 0) .nil))) .nil) [0, 1] [1] (.if_ (.and (.isi [87, 111, 114, 100, 115, 69, 114, 114, 111, 114] [0, 1]) (.and (.isi [86, 97, 108, 117, 101, 69, 114, 114, 111, 114] [0, 1]) (.not (.isi [66, 97, 100, 70, 97, 117, 108, 116] [0])))) (.ret (.lst (.cons (.fld 1) (.cons (.fld 2) .nil)))) (.ret (.lst (.cons (.lit (.str [115, 116, 114, 97, 110, 103, 101])) .nil))))) .nil) } }
/-- law -/
def r15 : Row := { name := "law", qual := "law", top := true, st := topS 30, ps := ["script"], N := ["script", "picks", "count", "words", "told", "ahead", "levels", "level", "how", "left", "right", "signs", "stop", "at", "lead", "made", "one", "two", "sign", "marks", "inner", "text", "k"], c := { np := 1, ns := 23, body := (.cons (.asg (.name 1) (.call 10 (.cons (.var 0) (.cons (.lit (.int 0)) (.cons (.lit (.int 700)) .nil))))) (.cons (.asg (.name 2) (.bin .add (.lit (.int 1)) (.bin .mod (.call 9 (.cons (.var 1) .nil)) (.lit (.int 6))))) (.cons (.if_ (.cmp .eq (.bin .mod (.call 9 (.cons (.var 1) .nil)) (.lit (.int 2))) (.lit (.int 0))) (.cons (.asg (.name 2) (.bin .add (.lit (.int 36)) (.bin .mod (.call 9 (.cons (.var 1) .nil)) (.lit (.int 9))))) .nil) .nil) (.cons (.asg (.names [3, 4]) (.call 11 (.cons (.var 1) .nil))) (.cons (.par 5 6 (.lst .nil) (.lst .nil)) (.cons (.for_ (.name 7) .rng1 (.var 2) .noE (.cons (.asg (.name 8) (.bin .mod (.call 9 (.cons (.var 1) .nil)) (.lit (.int 6)))) (.cons (.if_ (.cmp .eq (.var 8) (.lit (.int 0))) (.cons (.expr (.mth1 .append (.var 6) (.tup (.cons (.lst (.cons (.lit (.str [33])) .nil)) (.cons (.lit .non) .nil))))) (.cons .cont .nil)) .nil) (.cons (.par 9 10 (.ite (.cmp .isin (.var 8) (.tup (.cons (.lit (.int 2)) (.cons (.lit (.int 4)) .nil)))) (.call 11 (.cons (.var 1) .nil)) (.tup (.cons (.lst .nil) (.cons (.lit .non) .nil)))) (.ite (.cmp .isin (.var 8) (.tup (.cons (.lit (.int 3)) (.cons (.lit (.int 4)) .nil)))) (.call 11 (.cons (.var 1) .nil)) (.tup (.cons (.lst .nil) (.cons (.lit .non) .nil))))) (.cons (.asg (.name 11) (.lc [22] .rng1 (.lit (.int 2)) .noE false .noE (.ix (.tup (.cons (.lit (.str [111, 114])) (.cons (.lit (.str [97, 110, 100])) (.cons (.lit (.str [116, 104, 101, 110])) .nil)))) (.bin .mod (.call 9 (.cons (.var 1) .nil)) (.lit (.int 3)))))) (.cons (.expr (.mth1 .append (.var 6) (.tup (.cons (.lst (.cons (.lit (.str [40])) .nil)) (.cons (.tup (.cons (.var 9) (.cons (.ix (.var 11) (.lit (.int 0))) (.cons (.ix (.var 11) (.lit (.int 1))) (.cons (.var 10) (.cons (.call 12 (.cons (.var 1) (.cons (.lst .nil) (.cons (.lit (.str [104, 101, 108, 100])) .nil)))) .nil)))))) .nil))))) .nil)))))) (.cons (.asg (.names [12, 13]) (.tup (.cons (.lit (.int 0)) (.cons (.lit (.int 0)) .nil)))) (.cons (.for_ (.name 7) .rng1 (.var 2) .noE (.cons (.if_ (.cmp .eq (.var 7) (.lit (.int 40))) (.cons (.asg (.name 12) (.var 13)) .nil) .nil) (.cons (.asg (.name 13) (.bin .add (.var 13) (.lit (.int 1)))) (.cons (.if_ (.and (.cmp .isnot (.ix (.ix (.var 6) (.var 7)) (.lit (.int 1))) (.lit .non)) (.cmp .gt (.blt1 .len (.ix (.ix (.ix (.ix (.var 6) (.var 7)) (.lit (.int 1))) (.lit (.int 0))) (.lit (.int 0)))) (.lit (.int 0)))) (.cons (.asg (.name 13) (.bin .add (.bin .add (.var 13) (.blt1 .len (.ix (.ix (.ix (.ix (.var 6) (.var 7)) (.lit (.int 1))) (.lit (.int 0))) (.lit (.int 0))))) (.lit (.int 1)))) .nil) .nil) .nil)))) (.cons (.for_ (.name 7) (.rng3 (-1)) (.bin .sub (.var 2) (.lit (.int 1))) (.bin .sub (.lit (.int 0)) (.lit (.int 1))) (.cons (.asg (.names [14, 15]) (.ix (.var 6) (.var 7))) (.cons (.if_ (.cmp .is (.var 15) (.lit .non)) (.cons (.par 3 4 (.bin .add (.lst (.cons (.lit (.str [33])) .nil)) (.var 3)) (.tup (.cons (.lit (.str [110, 111, 116])) (.cons (.var 4) .nil)))) .nil) (.cons (.asg (.names [9, 16, 17, 10, 18]) (.var 15)) (.cons (.asg (.name 19) (.ddisp (.cons (.lit (.str [111, 114])) (.cons (.lit (.str [124])) (.cons (.lit (.str [97, 110, 100])) (.cons (.lit (.str [38])) (.cons (.lit (.str [116, 104, 101, 110])) (.cons (.lit (.str [59])) .nil)))))))) (.cons (.asg (.name 20) (.bin .add (.bin .add (.ite (.cmp .gt (.blt1 .len (.ix (.var 9) (.lit (.int 0)))) (.lit (.int 0))) (.bin .add (.ix (.var 9) (.lit (.int 0))) (.lst (.cons (.ix (.var 19) (.var 16)) .nil))) (.lst .nil)) (.var 3)) (.ite (.cmp .gt (.blt1 .len (.ix (.var 10) (.lit (.int 0)))) (.lit (.int 0))) (.bin .add (.lst (.cons (.ix (.var 19) (.var 17)) .nil)) (.ix (.var 10) (.lit (.int 0)))) (.lst .nil)))) (.cons (.par 3 4 (.bin .add (.bin .add (.bin .add (.lst (.cons (.lit (.str [40])) .nil)) (.var 20)) (.lst (.cons (.lit (.str [41])) .nil))) (.ix (.var 18) (.lit (.int 0)))) (.call 13 (.cons (.ix (.var 9) (.lit (.int 1))) (.cons (.var 16) (.cons (.var 4) (.cons (.var 17) (.cons (.ix (.var 10) (.lit (.int 1))) .nil))))))) (.cons (.if_ (.cmp .ne (.ix (.var 18) (.lit (.int 1))) (.lit (.str [104, 101, 108, 100]))) (.cons (.asg (.name 4) (.bin .add (.sl (.ix (.var 18) (.lit (.int 1))) .noE (.neg (.lit (.int 1)))) (.tup (.cons (.var 4) .nil)))) .nil) .nil) .nil)))))) .nil))) (.cons (.asg (.name 21) (.mth1 .join (.lit (.str [32])) (.var 3))) (.cons (.if_ (.cmp .gt (.var 2) (.lit (.int 40))) (.cons (.ret (.call 6 (.cons (.call 14 (.cons (.var 21) .nil)) (.cons (.lst (.cons (.lit (.int 0)) (.cons (.var 12) .nil))) .nil)))) .nil) .nil) (.cons (.if_ (.not (.call 6 (.cons (.call 14 (.cons (.var 21) .nil)) (.cons (.var 4) .nil)))) (.cons (.ret (.lit (.bl false))) .nil) .nil) (.cons (.ret (.call 6 (.cons (.call 14 (.cons (.call 4 (.cons (.var 4) .nil)) .nil)) (.cons (.var 4) .nil)))) .nil))))))))))))) } }
/-- ExpressionWords.__init__ -/
def r16 : Row := { name := "__init__", qual := "ExpressionWords.__init__", top := false, st := inClass (topS 18) 0, ps := ["self", "text"], N := ["self", "text"], c := { np := 2, ns := 2, body := (.cons (.asg (.fld [0] (.var 0) [119, 111, 114, 100, 115]) (.mth1 .split (.var 1) (.lit (.str [32])))) (.cons (.asg (.fld [0] (.var 0) [97, 116]) (.lit (.int 0))) .nil)) } }
/-- ExpressionWords.refuse -/
def r17 : Row := { name := "refuse", qual := "ExpressionWords.refuse", top := false, st := inClass (topS 18) 1, ps := ["self"], N := ["self"], c := { np := 1, ns := 1, body := (.cons (.raise_ 1 [1, 2] (.cons (.lit (.int 0)) (.cons (.fld [0] (.var 0) [97, 116]) .nil))) .nil) } }
/-- ExpressionWords.next -/
def r18 : Row := { name := "next", qual := "ExpressionWords.next", top := false, st := inClass (topS 18) 2, ps := ["self"], N := ["self"], c := { np := 1, ns := 1, body := (.cons (.ret (.ite (.cmp .lt (.fld [0] (.var 0) [97, 116]) (.blt1 .len (.fld [0] (.var 0) [119, 111, 114, 100, 115]))) (.ix (.fld [0] (.var 0) [119, 111, 114, 100, 115]) (.fld [0] (.var 0) [97, 116])) (.lit (.str [])))) .nil) } }
/-- ExpressionWords.plain -/
def r19 : Row := { name := "plain", qual := "ExpressionWords.plain", top := false, st := inClass (topS 18) 3, ps := ["self", "deep"], N := ["self", "deep", "word", "found"], c := { np := 2, ns := 4, body := (.cons (.asg (.name 2) (.meth (.var 0) [110, 101, 120, 116] [(0, 18)] .nil)) (.cons (.if_ (.cmp .eq (.var 2) (.lit (.str [40]))) (.cons (.if_ (.cmp .ge (.var 1) (.glob 3)) (.cons (.expr (.meth (.var 0) [114, 101, 102, 117, 115, 101] [(0, 17)] .nil)) .nil) .nil) (.cons (.asg (.fld [0] (.var 0) [97, 116]) (.bin .add (.fld [0] (.var 0) [97, 116]) (.lit (.int 1)))) (.cons (.asg (.name 3) (.meth (.var 0) [99, 104, 97, 105, 110] [(0, 23)] (.cons (.lit (.str [111, 114])) (.cons (.bin .add (.var 1) (.lit (.int 1))) .nil)))) (.cons (.if_ (.cmp .ne (.meth (.var 0) [110, 101, 120, 116] [(0, 18)] .nil) (.lit (.str [41]))) (.cons (.expr (.meth (.var 0) [114, 101, 102, 117, 115, 101] [(0, 17)] .nil)) .nil) .nil) (.cons (.asg (.fld [0] (.var 0) [97, 116]) (.bin .add (.fld [0] (.var 0) [97, 116]) (.lit (.int 1)))) (.cons (.ret (.var 3)) .nil)))))) .nil) (.cons (.if_ (.and (.cmp .notin (.var 2) (.tup (.cons (.lit (.str [61])) (.cons (.lit (.str [63])) .nil)))) (.not (.call 0 (.cons (.var 2) .nil)))) (.cons (.expr (.meth (.var 0) [114, 101, 102, 117, 115, 101] [(0, 17)] .nil)) .nil) .nil) (.cons (.asg (.fld [0] (.var 0) [97, 116]) (.bin .add (.fld [0] (.var 0) [97, 116]) (.lit (.int 1)))) (.cons (.if_ (.cmp .eq (.var 2) (.lit (.str [61]))) (.cons (.ret (.tup (.cons (.lit (.str [115, 97, 109, 101])) .nil))) .nil) .nil) (.cons (.ret (.ite (.cmp .eq (.var 2) (.lit (.str [63]))) (.tup (.cons (.lit (.str [97, 108, 108])) .nil)) (.tup (.cons (.lit (.str [116, 105, 101])) (.cons (.var 2) .nil))))) .nil)))))) } }
/-- ExpressionWords.behind -/
def r20 : Row := { name := "behind", qual := "ExpressionWords.behind", top := false, st := inClass (topS 18) 4, ps := ["self", "found"], N := ["self", "found", "word", "head", "sign"], c := { np := 2, ns := 5, body := (.cons (.asg (.name 2) (.meth (.var 0) [110, 101, 120, 116] [(0, 18)] .nil)) (.cons (.for_ (.name 3) .kk (.kks 6) .noE (.cons (.if_ (.cmp .eq (.var 2) (.kix 6 (.var 3))) (.cons (.ret (.tup (.cons (.var 3) (.cons (.var 1) .nil)))) .nil) .nil) .nil)) (.cons (.for_ (.names [3, 4]) .seq (.tup (.cons (.tup (.cons (.lit (.str [116, 105, 109, 101, 115])) (.cons (.lit (.str [35])) .nil))) (.cons (.tup (.cons (.lit (.str [117, 112, 116, 111])) (.cons (.lit (.str [60])) .nil))) .nil))) .noE (.cons (.if_ (.and (.cmp .eq (.sl (.var 2) .noE (.lit (.int 1))) (.var 4)) (.call 1 (.cons (.sl (.var 2) (.lit (.int 1)) .noE) (.cons (.lit (.int 1)) .nil)))) (.cons (.ret (.tup (.cons (.var 3) (.cons (.blt1 .int (.sl (.var 2) (.lit (.int 1)) .noE)) (.cons (.var 1) .nil))))) .nil) .nil) .nil)) (.cons (.ret (.lit .non)) .nil)))) } }
/-- ExpressionWords.one -/
def r21 : Row := { name := "one", qual := "ExpressionWords.one", top := false, st := inClass (topS 18) 5, ps := ["self", "deep"], N := ["self", "deep", "found", "following"], c := { np := 2, ns := 4, body := (.cons (.if_ (.cmp .eq (.meth (.var 0) [110, 101, 120, 116] [(0, 18)] .nil) (.lit (.str [33]))) (.cons (.if_ (.cmp .ge (.var 1) (.glob 3)) (.cons (.expr (.meth (.var 0) [114, 101, 102, 117, 115, 101] [(0, 17)] .nil)) .nil) .nil) (.cons (.asg (.fld [0] (.var 0) [97, 116]) (.bin .add (.fld [0] (.var 0) [97, 116]) (.lit (.int 1)))) (.cons (.ret (.tup (.cons (.lit (.str [110, 111, 116])) (.cons (.meth (.var 0) [111, 110, 101] [(0, 21)] (.cons (.bin .add (.var 1) (.lit (.int 1))) .nil)) .nil)))) .nil))) .nil) (.cons (.asg (.name 2) (.meth (.var 0) [112, 108, 97, 105, 110] [(0, 19)] (.cons (.var 1) .nil))) (.cons (.asg (.name 3) (.meth (.var 0) [98, 101, 104, 105, 110, 100] [(0, 20)] (.cons (.var 2) .nil))) (.cons (.while_ (.cmp .isnot (.var 3) (.lit .non)) (.cons (.asg (.name 2) (.var 3)) (.cons (.asg (.fld [0] (.var 0) [97, 116]) (.bin .add (.fld [0] (.var 0) [97, 116]) (.lit (.int 1)))) (.cons (.asg (.name 3) (.meth (.var 0) [98, 101, 104, 105, 110, 100] [(0, 20)] (.cons (.var 2) .nil))) .nil)))) (.cons (.ret (.var 2)) .nil))))) } }
/-- ExpressionWords.part -/
def r22 : Row := { name := "part", qual := "ExpressionWords.part", top := false, st := inClass (topS 18) 6, ps := ["self", "head", "deep"], N := ["self", "head", "deep"], c := { np := 3, ns := 3, body := (.cons (.if_ (.cmp .eq (.var 1) (.lit (.str [116, 104, 101, 110]))) (.cons (.ret (.meth (.var 0) [111, 110, 101] [(0, 21)] (.cons (.var 2) .nil))) .nil) .nil) (.cons (.ret (.meth (.var 0) [99, 104, 97, 105, 110] [(0, 23)] (.cons (.ite (.cmp .eq (.var 1) (.lit (.str [111, 114]))) (.lit (.str [97, 110, 100])) (.lit (.str [116, 104, 101, 110]))) (.cons (.var 2) .nil)))) .nil)) } }
/-- ExpressionWords.chain -/
def r23 : Row := { name := "chain", qual := "ExpressionWords.chain", top := false, st := inClass (topS 18) 7, ps := ["self", "head", "deep"], N := ["self", "head", "deep", "found"], c := { np := 3, ns := 4, body := (.cons (.asg (.name 3) (.meth (.var 0) [112, 97, 114, 116] [(0, 22)] (.cons (.var 1) (.cons (.var 2) .nil)))) (.cons (.while_ (.cmp .eq (.meth (.var 0) [110, 101, 120, 116] [(0, 18)] .nil) (.kix 5 (.var 1))) (.cons (.asg (.fld [0] (.var 0) [97, 116]) (.bin .add (.fld [0] (.var 0) [97, 116]) (.lit (.int 1)))) (.cons (.asg (.name 3) (.tup (.cons (.var 1) (.cons (.var 3) (.cons (.meth (.var 0) [112, 97, 114, 116] [(0, 22)] (.cons (.var 1) (.cons (.var 2) .nil))) .nil))))) .nil))) (.cons (.ret (.var 3)) .nil))) } }
/-- ExpressionWords.read -/
def r24 : Row := { name := "read", qual := "ExpressionWords.read", top := false, st := inClass (topS 18) 8, ps := ["self"], N := ["self", "found"], c := { np := 1, ns := 2, body := (.cons (.asg (.name 1) (.meth (.var 0) [99, 104, 97, 105, 110] [(0, 23)] (.cons (.lit (.str [111, 114])) (.cons (.lit (.int 0)) .nil)))) (.cons (.if_ (.cmp .lt (.fld [0] (.var 0) [97, 116]) (.blt1 .len (.fld [0] (.var 0) [119, 111, 114, 100, 115]))) (.cons (.expr (.meth (.var 0) [114, 101, 102, 117, 115, 101] [(0, 17)] .nil)) .nil) .nil) (.cons (.ret (.var 1)) .nil))) } }
def gl : Nat → Option PV
  | 0 => some (.str [97, 98, 99, 100, 101, 102, 103, 104, 105, 106, 107, 108, 109, 110, 111, 112, 113, 114, 115, 116, 117, 118, 119, 120, 121, 122])
  | 1 => some (.str [48, 49, 50, 51, 52, 53, 54, 55, 56, 57])
  | 2 => some (.int 6)
  | 3 => some (.int 40)
  | 4 => some (.fl [.tup [(.str [111, 114]), (.int 0)], .tup [(.str [97, 110, 100]), (.int 1)], .tup [(.str [116, 104, 101, 110]), (.int 2)]])
  | 5 => some (.fl [.tup [(.str [111, 114]), (.str [124])], .tup [(.str [97, 110, 100]), (.str [38])], .tup [(.str [116, 104, 101, 110]), (.str [59])]])
  | 6 => some (.fl [.tup [(.str [98, 97, 99, 107]), (.str [94])], .tup [(.str [102, 105, 114, 115, 116]), (.str [36])], .tup [(.str [101, 110, 100, 115]), (.str [64])]])
  | _ => none
def gname : Nat → Str
  | 0 => "SMALL"
  | 1 => "FIGURES"
  | 2 => "MOST_SIGNS"
  | 3 => "MOST_HELD"
  | 4 => "LEVELS"
  | 5 => "SIGNS"
  | 6 => "BEHIND"
  | _ => ""
def kd : Nat → Bool
  | 4 => true
  | 5 => true
  | 6 => true
  | _ => false
/-- ExpressionWords -/
def cls0 : Cl := { name := "ExpressionWords", fields := [[119, 111, 114, 100, 115], [97, 116]], meths := [([95, 95, 105, 110, 105, 116, 95, 95], 16), ([114, 101, 102, 117, 115, 101], 17), ([110, 101, 120, 116], 18), ([112, 108, 97, 105, 110], 19), ([98, 101, 104, 105, 110, 100], 20), ([111, 110, 101], 21), ([112, 97, 114, 116], 22), ([99, 104, 97, 105, 110], 23), ([114, 101, 97, 100], 24)], init := 16 }
def err0 : Er := { name := "BadFault", ks := [0] }
def err1 : Er := { name := "BadText", ks := [1, 2] }
def pg : Pg := { rows := [r0, r1, r2, r3, r4, r5, r6, r7, r8, r9, r10, r11, r12, r13, r14, r15, r16, r17, r18, r19, r20, r21, r22, r23, r24], cls := [cls0], errs := [err0, err1], gl := gl, gname := gname, kd := kd, free := ["abs", "bool", "int", "isinstance", "len", "list", "range", "str", "sum", "tuple"], enames := ["fault", "line", "word"], isin := [("BadFault", [0]), ("ValueError", [0, 1]), ("WordsError", [0, 1])], exm := [("BadText", [1])] }
abbrev Γ : Tabs := tabs pg
end K83
namespace K83
open Vm PySem L2
def NN : Nat := 100000
theorem pg_ok : pgOk pg = true := by decide +kernel
end K83

set_option maxHeartbeats 8000000
/-! K83p: ExpressionWords' methods walked. -/
namespace K83
open Vm
abbrev W := List Nat
abbrev R (d : Nat) := run Γ.fn Γ.gl NN d
def fin (fl : Flow) (st1 : Store) : Res PV := match fl with
  | .nx _ => .ok .non st1
  | .rt v => .ok v st1
  | _ => .bad
theorem run_eq {d f : Nat} {fn : Fn} {vs : List PV} {st : Store} (h1 : ¬ 1000 ≤ f) (hf : Γ.fn f = some fn) (hl : vs.length = fn.np) : R (d + 1) f vs st = (evS (R d) Γ.gl NN fn.body (start fn.ns vs) st).bind fin := by
  show run _ _ _ (d + 1) f vs st = _
  rw [run, if_neg h1, hf]
  dsimp only
  rw [if_pos hl]
  rfl
/-- the parser's fields; i: at -/
def flds (q : Nat) (i : Nat) : List (List Nat × PV) := [([119, 111, 114, 100, 115], .loc q), ([97, 116], .int (i : Nat))]
/-- the store with a parser, at its end -/
def PS (st : Store) (ws : List W) (i : Nat) : Store := st ++ [.obj 0 (flds (st.length + 1) i), .lst (ws.map .str)]
def me (st : Store) : PV := .loc st.length
def nx (ws : List W) (i : Nat) : W := ws.getD i []
theorem ob (st : Store) (ws : List W) (i : Nat) : (PS st ws i)[st.length]? = some (.obj 0 (flds (st.length + 1) i)) := by
  unfold PS
  rw [List.getElem?_append_right (Nat.le_refl _), Nat.sub_self]
  rfl
theorem wb (st : Store) (ws : List W) (i : Nat) : (PS st ws i)[st.length + 1]? = some (.lst (ws.map .str)) := by
  unfold PS
  rw [List.getElem?_append_right (by omega)]
  have : st.length + 1 - st.length = 1 := by omega
  rw [this]
  rfl
theorem f_at (st : Store) (ws : List W) (i : Nat) : fldV [0] (me st) [97, 116] (PS st ws i) = some (.int i) := by
  unfold fldV obV me
  dsimp only
  rw [ob]
  rfl
theorem f_words (st : Store) (ws : List W) (i : Nat) : fldV [0] (me st) [119, 111, 114, 100, 115] (PS st ws i) = some (.loc (st.length + 1)) := by
  unfold fldV obV me
  dsimp only
  rw [ob]
  rfl
theorem s_at (st : Store) (ws : List W) (i j : Nat) : setFld [0] (me st) [97, 116] (.int j) (PS st ws i) = some (PS st ws j) := by
  unfold setFld obV me
  dsimp only
  rw [ob]
  have e : (PS st ws i).set st.length (.obj 0 (flds (st.length + 1) j)) = PS st ws j := by
    unfold PS
    rw [List.set_append_right _ _ (Nat.le_refl _), Nat.sub_self]
    rfl
  rw [← e]
  rfl
theorem s_at' (st : Store) (ws : List W) (i : Nat) : setFld [0] (me st) [97, 116] (.int ((i : Int) + 1)) (PS st ws i) = some (PS st ws (i + 1)) := s_at st ws i (i + 1)
theorem m_of (st : Store) (ws : List W) (i : Nat) (m : List Nat) (f : Nat) (h : (flds (st.length + 1) i).lookup m = none) : methOf [(0, f)] m (me st) (PS st ws i) = some f := by
  unfold methOf obV me
  dsimp only
  rw [ob]
  dsimp only
  rw [h]
  rfl
theorem len_w (st : Store) (ws : List W) (i : Nat) : lenV (.loc (st.length + 1)) (PS st ws i) = some (ws.length : Int) := by
  unfold lenV dv sv lv
  dsimp only
  rw [wb]
  simp
theorem item_nat {α : Type} (xs : List α) (j : Nat) (h : j < xs.length) : itemAt xs (j : Int) = some xs[j] := by
  unfold itemAt ixOf
  rw [if_pos (by omega), if_pos (by omega), Option.bind_some, Int.toNat_natCast, List.getElem?_eq_getElem h]
theorem ix_w (st : Store) (ws : List W) (i j : Nat) (h : j < ws.length) : indexV (.loc (st.length + 1)) (.int j) (PS st ws i) = some (.str (nx ws j)) := by
  unfold indexV indexG dv sv lv
  dsimp only
  rw [wb]
  dsimp only
  rw [Option.bind_some, item_nat _ _ (by simpa using h)]
  unfold nx
  rw [List.getD_eq_getElem?_getD, List.getElem?_eq_getElem h]
  simp
/-! ### next, refuse -/
theorem next_run (d : Nat) (st : Store) (ws : List W) (i : Nat) : R (d + 1) 18 [me st] (PS st ws i) = .ok (.str (nx ws i)) (PS st ws i) := by
  rw [run_eq (fn := r18.c) (by decide) rfl rfl]
  unfold r18
  by_cases h : i < ws.length
  · have h' : decide ((i : Int) < ws.length) = true := by simp [h]
    simp [evS, evE, start, Res.of, f_at, f_words, blt1, len_w, cmpV, Vm.truth, h, ix_w, fixR, fixv, fin]
  · have h' : nx ws i = [] := by unfold nx; rw [List.getD_eq_getElem?_getD, List.getElem?_eq_none (by omega)]; rfl
    simp [evS, evE, start, Res.of, f_at, f_words, blt1, len_w, cmpV, Vm.truth, h, h', fixR, fixv, fin]
theorem refuse_run (d : Nat) (st : Store) (ws : List W) (i : Nat) : R (d + 1) 17 [me st] (PS st ws i) = .exc 1 [(1, .int 0), (2, .int i)] (PS st ws i) := by
  rw [run_eq (fn := r17.c) (by decide) rfl rfl]
  unfold r17
  simp [evS, evE, start, Res.of, f_at, binop, fixR, fixv, tupOf]
/-! ### steps of the parser's methods -/
section
variable {d : Nat} {st : Store} {ws : List W} {i : Nat} {ev : Env} (h0 : ev[0]? = some (some (me st)))
include h0
theorem e_next : evE (R (d + 1)) Γ.gl NN (.meth (.var 0) [110, 101, 120, 116] [(0, 18)] .nil) ev (PS st ws i) = .ok (.str (nx ws i)) (PS st ws i) := meth_v (var_v h0) (m_of _ _ _ _ _ rfl) nil_v (next_run d st ws i)
theorem e_refuse {ss : CS} : evS (R (d + 1)) Γ.gl NN (.cons (.expr (.meth (.var 0) [114, 101, 102, 117, 115, 101] [(0, 17)] .nil)) ss) ev (PS st ws i) = .exc 1 [(1, .int 0), (2, .int i)] (PS st ws i) := cons_x (expr_x (meth_v (var_v h0) (m_of _ _ _ _ _ rfl) nil_v (refuse_run d st ws i)))
theorem e_step : evS (R d) Γ.gl NN (.asg (.fld [0] (.var 0) [97, 116]) (.bin .add (.fld [0] (.var 0) [97, 116]) (.lit (.int 1)))) ev (PS st ws i) = .ok (.nx ev) (PS st ws (i + 1)) :=
  asg_v (bin_v (fld_v (var_v h0) (f_at _ _ _)) lit_v rfl) (setf_v (var_v h0) (s_at' _ _ _))
theorem e_is (l : W) : evE (R (d + 1)) Γ.gl NN (.cmp .eq (.meth (.var 0) [110, 101, 120, 116] [(0, 18)] .nil) (.lit (.str l))) ev (PS st ws i) = .ok (.bl (nx ws i == l)) (PS st ws i) := cmp_v (e_next h0) lit_v (eqS_v strEq)
theorem e_isnt (l : W) : evE (R (d + 1)) Γ.gl NN (.cmp .ne (.meth (.var 0) [110, 101, 120, 116] [(0, 18)] .nil) (.lit (.str l))) ev (PS st ws i) = .ok (.bl (!(nx ws i == l))) (PS st ws i) := cmp_v (e_next h0) lit_v (neS_v strEq)
end
end K83

set_option maxHeartbeats 8000000
/-! K83q: words, signs behind. -/
namespace K83
open Vm
def sml : W := [97, 98, 99, 100, 101, 102, 103, 104, 105, 106, 107, 108, 109, 110, 111, 112, 113, 114, 115, 116, 117, 118, 119, 120, 121, 122]
def fig : W := [48, 49, 50, 51, 52, 53, 54, 55, 56, 57]
def isName (w : W) : Bool := match w with
  | [] => false
  | c :: r => decide ((c :: r).length ≤ 6) && sml.contains c && ((c :: r).all fun c => sml.contains c || fig.contains c)
def isNum (w : W) : Bool := match w with
  | [c] => fig.contains c
  | _ => false
section
variable {c : Nat → List PV → Store → Res PV} {e a : CE} {ev : Env} {st : Store}
theorem isin_g0 {x : Nat} (h : evE c Γ.gl NN e ev st = .ok (.str [x]) st) : evE c Γ.gl NN (.cmp .notin e (.glob 0)) ev st = .ok (.bl (!sml.contains x)) st := cmp_v h (glob_v rfl) rfl
theorem isin_g1 {x : Nat} (h : evE c Γ.gl NN e ev st = .ok (.str [x]) st) : evE c Γ.gl NN (.cmp .notin e (.glob 1)) ev st = .ok (.bl (!fig.contains x)) st := cmp_v h (glob_v rfl) rfl
theorem fst_ix {x : Nat} {r : W} (hz : (x :: r).length ≤ SZ) (h : evE c Γ.gl NN e ev st = .ok (.str (x :: r)) st) : evE c Γ.gl NN (.ix e (.lit (.int 0))) ev st = .ok (.str [x]) st := ix_v h lit_v (by
  show (if (x :: r).length ≤ SZ then _ else _) = _
  rw [if_pos hz]
  show (itemAt (x :: r) ((0 : Nat) : Int)).map _ = _
  rw [item_nat _ _ (by simp)]
  rfl)
end
theorem name_run (d : Nat) (st : Store) (w : W) (hw : w.length ≤ 1000) : R (d + 1) 0 [.str w] st = .ok (.bl (isName w)) st := by
  have hz : w.length ≤ SZ := by unfold SZ; omega
  rw [run_eq (fn := r0.c) (by decide) rfl rfl]
  unfold r0
  show (evS (R d) Γ.gl NN _ [some (.str w), none] st).bind fin = _
  match w, hw, hz with
  | [], _, _ => rfl
  | a :: r, hw, hz =>
    have e1 := lc_all (c := R d) (G := Γ.gl) (N := NN) (i := 1) (e := .var 0) (ev := [some (.str (a :: r)), none]) (st := st) (l := a :: r) (p := fun x => !sml.contains x && !fig.contains x) (co := .and (.cmp .notin (.var 1) (.glob 0)) (.cmp .notin (.var 1) (.glob 1))) hz rfl
      (fun x st => and_p (isin_g0 (var_v rfl)) fun _ => isin_g1 (var_v rfl)) (by simp)
    have e0 : evE (R d) Γ.gl NN (.or (.cmp .eq (.var 0) (.lit (.str []))) (.or (.cmp .gt (.blt1 .len (.var 0)) (.glob 2)) (.cmp .notin (.ix (.var 0) (.lit (.int 0))) (.glob 0)))) [some (.str (a :: r)), none] st = .ok (.bl (false || (decide ((6 : Int) < (a :: r).length) || !sml.contains a))) st :=
      or_p (cmp_v (var_v rfl) lit_v rfl) fun _ => or_p (cmp_v (blt1_v (var_v rfl) (lenStr hz)) (glob_v rfl) rfl) fun _ => isin_g0 (fst_ix hz (var_v rfl))
    have e2 : isName (a :: r) = (!(false || (decide ((6 : Int) < (a :: r).length) || !sml.contains a)) && ((a :: r).all fun c => !(!sml.contains c && !fig.contains c))) := by
      unfold isName
      dsimp only
      simp only [Bool.not_and, Bool.not_not, Bool.false_or, Bool.not_or]
      congr 2
      rw [← decide_not, decide_eq_decide]
      omega
    rw [e2]
    cases hb : (false || (decide ((6 : Int) < (a :: r).length) || !sml.contains a)) with
    | false =>
      rw [hb] at e0
      rw [cons_nx ((if_f e0).trans rfl), cons_rt (ret_v e1)]
      rfl
    | true =>
      rw [hb] at e0
      rw [cons_rt (v := .bl false) (st1 := st) ((if_t e0).trans rfl)]
      rfl
theorem num_run (d : Nat) (st : Store) (w : W) (hw : w.length ≤ 1000) : R (d + 1) 1 [.str w, .int 1] st = .ok (.bl (isNum w)) st := by
  have hz : w.length ≤ SZ := by unfold SZ; omega
  rw [run_eq (fn := r1.c) (by decide) rfl rfl]
  unfold r1
  show (evS (R d) Γ.gl NN _ [some (.str w), some (.int 1), none] st).bind fin = _
  match w, hw, hz with
  | [], _, _ => rfl
  | a :: r, hw, hz =>
    have e0 := or_p (c := R d) (G := Γ.gl) (N := NN) (ev := [some (.str (a :: r)), some (.int 1), none]) (st := st) (cmp_v (o := .eq) (a := .var 0) (b := .lit (.str [])) (var_v rfl) lit_v (x := false) rfl) fun _ => or_p (cmp_v (o := .gt) (a := .blt1 .len (.var 0)) (b := .var 1) (blt1_v (var_v rfl) (lenStr hz)) (var_v rfl) rfl) fun _ =>
      lc_any (i := 2) (e := .var 0) (co := .cmp .notin (.var 2) (.glob 1)) (p := fun x => !fig.contains x) hz (var_v rfl) (fun x st => isin_g1 (var_v rfl)) (by simp)
    have e1 := or_p (c := R d) (G := Γ.gl) (N := NN) (ev := [some (.str (a :: r)), some (.int 1), none]) (st := st) (cmp_v (o := .eq) (a := .var 0) (b := .lit (.str [48])) (var_v rfl) lit_v (x := (a :: r) == [48]) rfl) fun _ => cmp_v (o := .ne) (a := .ix (.var 0) (.lit (.int 0))) (b := .lit (.str [48])) (fst_ix hz (var_v rfl)) lit_v (neS_v strEq)
    have e2 : isNum (a :: r) = (!(false || (decide ((1 : Int) < (a :: r).length) || !((a :: r).all fun c => !!fig.contains c))) && (((a :: r) == [48]) || !([a] == [48]))) := by
      match r with
      | [] =>
        show fig.contains a = _
        have : (a :: ([] : W) == [48]) = ([a] == [48]) := rfl
        rw [this]
        cases ([a] == [48]) <;> simp
      | b :: r =>
        show false = _
        have : decide ((1 : Int) < (a :: b :: r).length) = true := decide_eq_true (by simp; omega)
        rw [this]
        rfl
    rw [e2]
    cases hb : (false || (decide ((1 : Int) < (a :: r).length) || !((a :: r).all fun c => !!fig.contains c))) with
    | false =>
      rw [hb] at e0
      rw [cons_nx ((if_f e0).trans rfl), cons_rt (ret_v e1)]
      rfl
    | true =>
      rw [hb] at e0
      rw [cons_rt (v := .bl false) (st1 := st) ((if_t e0).trans rfl)]
      rfl

abbrev kBack : W := [98, 97, 99, 107]
abbrev kFirst : W := [102, 105, 114, 115, 116]
abbrev kEnds : W := [101, 110, 100, 115]
abbrev kTimes : W := [116, 105, 109, 101, 115]
abbrev kUpto : W := [117, 112, 116, 111]
/-- what stands behind: the new expression, or None -/
def pb (v : PV) (w : W) : PV :=
  if w == [94] then .tup [.str kBack, v] else if w == [36] then .tup [.str kFirst, v] else if w == [64] then .tup [.str kEnds, v]
  else if (w.take 1 == [35]) && isNum (w.drop 1) then .tup [.str kTimes, .int (digVal (w.drop 1)), v]
  else if (w.take 1 == [60]) && isNum (w.drop 1) then .tup [.str kUpto, .int (digVal (w.drop 1)), v] else .non
theorem int_w {w : W} (h : isNum w = true) : intStr w = some (digVal w : Int) := by
  match w, h with
  | [c], h =>
    have : isDigit c = true := by
      have h' : fig.contains c = true := h
      simp [fig] at h'
      unfold isDigit
      simp
      omega
    unfold intStr
    rw [if_pos (by simp [this])]
def Fx (v : PV) : Prop := ∀ st, fixv v st = (v, st)
section
variable {c : Nat → List PV → Store → Res PV} {ev : Env} {st : Store} {a : CE}
theorem sl_to {w : W} (hw : w.length ≤ 1000) (h : evE c Γ.gl NN a ev st = .ok (.str w) st) : evE c Γ.gl NN (.sl a .noE (.lit (.int 1))) ev st = .ok (.str (w.take 1)) st := by
  have e : sliceG (.str w) none (some 1) st = some (.str (w.take 1)) := by
    show (if w.length ≤ SZ then some (PV.str (cut w none (some 1))) else none) = _
    rw [if_pos (by unfold SZ; omega)]
    unfold cut slIx
    dsimp only
    rw [if_pos (by decide)]
    congr 2
    cases w with
    | nil => rfl
    | cons a w => simp
  show (evE c Γ.gl NN a ev st).bind _ = _
  rw [h]
  show Res.of (sliceG (.str w) none (some 1) st) st = _
  rw [e]
  rfl
theorem sl_from {w : W} (hw : w.length ≤ 1000) (h : evE c Γ.gl NN a ev st = .ok (.str w) st) : evE c Γ.gl NN (.sl a (.lit (.int 1)) .noE) ev st = .ok (.str (w.drop 1)) st := by
  have e : sliceG (.str w) (some 1) none st = some (.str (w.drop 1)) := by
    show (if w.length ≤ SZ then some (PV.str (cut w (some 1) none)) else none) = _
    rw [if_pos (by unfold SZ; omega)]
    unfold cut slIx
    dsimp only
    rw [if_pos (by decide)]
    congr 2
    cases w with
    | nil => rfl
    | cons a w => simp
  show (evE c Γ.gl NN a ev st).bind _ = _
  rw [h]
  show Res.of (sliceG (.str w) (some 1) none st) st = _
  rw [e]
  rfl
end
theorem behind_run (d : Nat) (st : Store) (ws : List W) (i : Nat) (v : PV) (hv : Fx v) (hw : (nx ws i).length ≤ 1000) : R (d + 2) 20 [me st, v] (PS st ws i) = .ok (pb v (nx ws i)) (PS st ws i) := by
  rw [run_eq (fn := r20.c) (by decide) rfl rfl]
  unfold r20
  show (evS (R (d + 1)) Γ.gl NN _ [some (me st), some v, none, none, none] (PS st ws i)).bind fin = _
  rw [cons_nx (asg_nm (e_next (d := d) (st := st) (ws := ws) (i := i) (ev := [some (me st), some v, none, none, none]) rfl))]
  show (evS (R (d + 1)) Γ.gl NN _ [some (me st), some v, some (.str (nx ws i)), none, none] (PS st ws i)).bind fin = _
  generalize nx ws i = w at hw ⊢
  have fe : ∀ st, fixv v st = (v, st) := hv
  have t : ∀ (k s : W) (z3 z4 : Option PV), kget (Γ.gl 6) (.str k) = some (.str s) → evS (R (d + 1)) Γ.gl NN (.cons (.if_ (.cmp .eq (.var 2) (.kix 6 (.var 3))) (.cons (.ret (.tup (.cons (.var 3) (.cons (.var 1) .nil)))) .nil) .nil) .nil) [some (me st), some v, some (.str w), some (.str k), z4] (PS st ws i) = .ok (if w == s then .rt (.tup [.str k, v]) else .nx [some (me st), some v, some (.str w), some (.str k), z4]) (PS st ws i) := fun k s z3 z4 hk => by
    have e : evE (R (d + 1)) Γ.gl NN (.cmp .eq (.var 2) (.kix 6 (.var 3))) [some (me st), some v, some (.str w), some (.str k), z4] (PS st ws i) = .ok (.bl (w == s)) (PS st ws i) := cmp_v (v := .str s) (st2 := PS st ws i) (var_v rfl) (by
      show Res.of (kget (Γ.gl 6) (.str k)) _ = _
      rw [hk]
      rfl) (eqS_v strEq)
    cases hb : w == s with
    | true =>
      rw [hb] at e
      exact cons_rt ((if_t e).trans (cons_rt (ret_v (tup_v (cons_p (var_v rfl) (cons_p (var_v rfl) nil_v (hv _))) (by simp [SZ])))))
    | false =>
      rw [hb] at e
      exact (cons_nx ((if_f e).trans rfl)).trans rfl
  have f1 : evS (R (d + 1)) Γ.gl NN (.for_ (.name 3) .kk (.kks 6) .noE (.cons (.if_ (.cmp .eq (.var 2) (.kix 6 (.var 3))) (.cons (.ret (.tup (.cons (.var 3) (.cons (.var 1) .nil)))) .nil) .nil) .nil)) [some (me st), some v, some (.str w), none, none] (PS st ws i) = .ok (if w == [94] then .rt (.tup [.str kBack, v]) else if w == [36] then .rt (.tup [.str kFirst, v]) else if w == [64] then .rt (.tup [.str kEnds, v]) else .nx [some (me st), some v, some (.str w), some (.str kEnds), none]) (PS st ws i) := by
    show forGo (turnM (fun x ev st => evT (R (d + 1)) Γ.gl NN (.name 3) x ev st) (fun ev st => evS (R (d + 1)) Γ.gl NN _ ev st)) [.str kBack, .str kFirst, .str kEnds] _ _ = _
    unfold forGo
    show (evS (R (d + 1)) Γ.gl NN _ [some (me st), some v, some (.str w), some (.str kBack), none] (PS st ws i)).bind _ = _
    rw [t kBack [94] none none rfl, Res.bind_ok]
    by_cases h1 : w == [94]
    · rw [if_pos h1, if_pos h1]
    rw [if_neg h1, if_neg h1]
    dsimp only
    unfold forGo
    show (evS (R (d + 1)) Γ.gl NN _ [some (me st), some v, some (.str w), some (.str kFirst), none] (PS st ws i)).bind _ = _
    rw [t kFirst [36] none none rfl, Res.bind_ok]
    by_cases h2 : w == [36]
    · rw [if_pos h2, if_pos h2]
    rw [if_neg h2, if_neg h2]
    dsimp only
    unfold forGo
    show (evS (R (d + 1)) Γ.gl NN _ [some (me st), some v, some (.str w), some (.str kEnds), none] (PS st ws i)).bind _ = _
    rw [t kEnds [64] none none rfl, Res.bind_ok]
    by_cases h3 : w == [64]
    · rw [if_pos h3]
      try rw [if_pos h3]
    rw [if_neg h3]
    try rw [if_neg h3]
    rfl
  have u : ∀ (k : W) (s : W), evS (R (d + 1)) Γ.gl NN (.cons (.if_ (.and (.cmp .eq (.sl (.var 2) .noE (.lit (.int 1))) (.var 4)) (.call 1 (.cons (.sl (.var 2) (.lit (.int 1)) .noE) (.cons (.lit (.int 1)) .nil)))) (.cons (.ret (.tup (.cons (.var 3) (.cons (.blt1 .int (.sl (.var 2) (.lit (.int 1)) .noE)) (.cons (.var 1) .nil))))) .nil) .nil) .nil) [some (me st), some v, some (.str w), some (.str k), some (.str s)] (PS st ws i) = .ok (if (w.take 1 == s) && isNum (w.drop 1) then .rt (.tup [.str k, .int (digVal (w.drop 1)), v]) else .nx [some (me st), some v, some (.str w), some (.str k), some (.str s)]) (PS st ws i) := fun k s => by
    have hd : (w.drop 1).length ≤ 1000 := by simp; omega
    have e : evE (R (d + 1)) Γ.gl NN (.and (.cmp .eq (.sl (.var 2) .noE (.lit (.int 1))) (.var 4)) (.call 1 (.cons (.sl (.var 2) (.lit (.int 1)) .noE) (.cons (.lit (.int 1)) .nil)))) [some (me st), some v, some (.str w), some (.str k), some (.str s)] (PS st ws i) = .ok (.bl ((w.take 1 == s) && isNum (w.drop 1))) (PS st ws i) :=
      and_p (cmp_v (sl_to hw (var_v rfl)) (var_v rfl) (eqS_v strEq)) fun _ => call_v (vs := [.str (w.drop 1), .int 1]) (cons_p (sl_from hw (var_v rfl)) (cons_p lit_v nil_v)) (num_run d _ _ hd)
    cases hb : (w.take 1 == s) && isNum (w.drop 1) with
    | true =>
      rw [hb] at e
      have hn : isNum (w.drop 1) = true := by rw [Bool.and_eq_true] at hb; exact hb.2
      exact cons_rt ((if_t e).trans (cons_rt (ret_v (tup_v (cons_p (var_v rfl) (cons_p (blt1_v (v := .int (digVal (w.drop 1))) (sl_from hw (var_v rfl)) (by
        show (intStr (w.drop 1)).map PV.int = _
        rw [int_w hn]
        rfl)) (cons_p (var_v rfl) nil_v (hv _)))) (by simp [SZ])))))
    | false =>
      rw [hb] at e
      exact (cons_nx ((if_f e).trans rfl)).trans rfl
  unfold pb
  by_cases h1 : w == [94]
  · rw [if_pos h1] at f1 ⊢
    rw [cons_rt f1]
    rfl
  rw [if_neg h1] at f1 ⊢
  by_cases h2 : w == [36]
  · rw [if_pos h2] at f1 ⊢
    rw [cons_rt f1]
    rfl
  rw [if_neg h2] at f1 ⊢
  by_cases h3 : w == [64]
  · rw [if_pos h3] at f1 ⊢
    rw [cons_rt f1]
    rfl
  rw [if_neg h3] at f1 ⊢
  rw [cons_nx f1]
  have f2 : evS (R (d + 1)) Γ.gl NN (.for_ (.names [3, 4]) .seq (.tup (.cons (.tup (.cons (.lit (.str [116, 105, 109, 101, 115])) (.cons (.lit (.str [35])) .nil))) (.cons (.tup (.cons (.lit (.str [117, 112, 116, 111])) (.cons (.lit (.str [60])) .nil))) .nil))) .noE (.cons (.if_ (.and (.cmp .eq (.sl (.var 2) .noE (.lit (.int 1))) (.var 4)) (.call 1 (.cons (.sl (.var 2) (.lit (.int 1)) .noE) (.cons (.lit (.int 1)) .nil)))) (.cons (.ret (.tup (.cons (.var 3) (.cons (.blt1 .int (.sl (.var 2) (.lit (.int 1)) .noE)) (.cons (.var 1) .nil))))) .nil) .nil) .nil)) [some (me st), some v, some (.str w), some (.str kEnds), none] (PS st ws i) = .ok (if (w.take 1 == [35]) && isNum (w.drop 1) then .rt (.tup [.str kTimes, .int (digVal (w.drop 1)), v]) else if (w.take 1 == [60]) && isNum (w.drop 1) then .rt (.tup [.str kUpto, .int (digVal (w.drop 1)), v]) else .nx [some (me st), some v, some (.str w), some (.str kUpto), some (.str [60])]) (PS st ws i) := by
    show forGo (turnM (fun x ev st => evT (R (d + 1)) Γ.gl NN (.names [3, 4]) x ev st) (fun ev st => evS (R (d + 1)) Γ.gl NN _ ev st)) [.tup [.str kTimes, .str [35]], .tup [.str kUpto, .str [60]]] _ _ = _
    unfold forGo
    show (evS (R (d + 1)) Γ.gl NN _ [some (me st), some v, some (.str w), some (.str kTimes), some (.str [35])] (PS st ws i)).bind _ = _
    rw [u kTimes [35], Res.bind_ok]
    by_cases h4 : ((w.take 1 == [35]) && isNum (w.drop 1)) = true
    · rw [if_pos h4, if_pos h4]
    rw [if_neg h4, if_neg h4]
    dsimp only
    unfold forGo
    show (evS (R (d + 1)) Γ.gl NN _ [some (me st), some v, some (.str w), some (.str kUpto), some (.str [60])] (PS st ws i)).bind _ = _
    rw [u kUpto [60], Res.bind_ok]
    by_cases h5 : ((w.take 1 == [60]) && isNum (w.drop 1)) = true
    · rw [if_pos h5]
      try rw [if_pos h5]
    rw [if_neg h5]
    try rw [if_neg h5]
    rfl
  by_cases h4 : ((w.take 1 == [35]) && isNum (w.drop 1)) = true
  · rw [if_pos h4] at f2 ⊢
    rw [cons_rt f2]
    rfl
  rw [if_neg h4] at f2 ⊢
  by_cases h5 : ((w.take 1 == [60]) && isNum (w.drop 1)) = true
  · rw [if_pos h5] at f2 ⊢
    rw [cons_rt f2]
    rfl
  rw [if_neg h5] at f2 ⊢
  rw [cons_nx f2, cons_rt (ret_v lit_v)]
  rfl
end K83

set_option maxHeartbeats 8000000
/-! K83r: the parser as a plain function, and its walk. -/
namespace K83
open Vm
inductive PR where
  | ok (v : PV) (i : Nat)
  | no (i : Nat)
  /-- not looked at here -/
  | bad
/-- h: 0 or, 1 and, 2 then -/
inductive MK where
  | plain (deep : Nat)
  | one (deep : Nat)
  | part (h : Nat) (deep : Nat)
  | chain (h : Nat) (deep : Nat)
abbrev kOr : W := [111, 114]
abbrev kAnd : W := [97, 110, 100]
abbrev kThen : W := [116, 104, 101, 110]
abbrev kNot : W := [110, 111, 116]
abbrev kTie : W := [116, 105, 101]
abbrev kSame : W := [115, 97, 109, 101]
abbrev kAll : W := [97, 108, 108]
def hd : Nat → W
  | 0 => kOr
  | 1 => kAnd
  | _ => kThen
def sg : Nat → W
  | 0 => [124]
  | 1 => [38]
  | _ => [59]
def PR.bind (r : PR) (f : PV → Nat → PR) : PR := match r with
  | .ok v i => f v i
  | .no i => .no i
  | .bad => .bad
theorem PR.bind_ok (v : PV) (i : Nat) (f : PV → Nat → PR) : (PR.ok v i).bind f = f v i := rfl
theorem PR.bind_no (i : Nat) (f : PV → Nat → PR) : (PR.no i).bind f = .no i := rfl
def toRes (st : Store) (ws : List W) : PR → Res PV
  | .ok v i => .ok v (PS st ws i)
  | .no i => .exc 1 [(1, .int 0), (2, .int i)] (PS st ws i)
  | .bad => .bad
def isNon : PV → Bool
  | .non => true
  | _ => false
def post (ws : List W) : Nat → PV → Nat → PR
  | 0, _, _ => .bad
  | n + 1, v, i => if isNon (pb v (nx ws i)) then .ok v i else post ws n (pb v (nx ws i)) (i + 1)
def more (ws : List W) (p : Nat → PR) (h : Nat) : Nat → PV → Nat → PR
  | 0, _, _ => .bad
  | n + 1, v, j => if nx ws j == sg h then (p (j + 1)).bind fun w k => more ws p h n (.tup [.str (hd h), v, w]) k else .ok v j
def atom (w : W) : PV := if w == [61] then .tup [.str kSame] else if w == [63] then .tup [.str kAll] else .tup [.str kTie, .str w]
def pp (ws : List W) : Nat → MK → Nat → PR
  | 0, _, _ => .bad
  | d + 1, .chain h deep, i => (pp ws d (.part h deep) i).bind (more ws (pp ws d (.part h deep)) h NN)
  | d + 1, .part h deep, i => if h = 2 then pp ws d (.one deep) i else pp ws d (.chain (h + 1) deep) i
  | d + 1, .one deep, i => if nx ws i == [33] then (if 40 ≤ deep then .no i else (pp ws d (.one (deep + 1)) (i + 1)).bind fun v j => .ok (.tup [.str kNot, v]) j) else (pp ws d (.plain deep) i).bind (post ws NN)
  | d + 1, .plain deep, i => if nx ws i == [40] then (if 40 ≤ deep then .no i else (pp ws d (.chain 0 (deep + 1)) (i + 1)).bind fun v j => if nx ws j == [41] then .ok v (j + 1) else .no j)
    else if !([[61], [63]] : List W).contains (nx ws i) && !isName (nx ws i) then .no i else .ok (atom (nx ws i)) (i + 1)
def fnOf : MK → Nat
  | .plain _ => 19
  | .one _ => 21
  | .part _ _ => 22
  | .chain _ _ => 23
def argsOf (st : Store) : MK → List PV
  | .plain deep => [me st, .int deep]
  | .one deep => [me st, .int deep]
  | .part h deep => [me st, .str (hd h), .int deep]
  | .chain h deep => [me st, .str (hd h), .int deep]
def MK.fine : MK → Prop
  | .part h _ => h ≤ 2
  | .chain h _ => h ≤ 2
  | _ => True
section
variable {d : Nat} {st : Store} {ws : List W} {i : Nat} {ev : Env}
/-- what a call does, where the plain function says it -/
def Ok (st : Store) (ws : List W) (d : Nat) (m : MK) : Prop := ∀ i, pp ws d m i ≠ .bad → R (d + 4) (fnOf m) (argsOf st m) (PS st ws i) = toRes st ws (pp ws d m i)
theorem bind_nb {r : PR} {f : PV → Nat → PR} (h : r.bind f ≠ .bad) : r ≠ .bad := fun q => by rw [q] at h; exact h rfl
def PR.Fx : PR → Prop
  | .ok v _ => K83.Fx v
  | _ => True
theorem fx_bind {r : PR} {f : PV → Nat → PR} (hr : r.Fx) (h : ∀ v i, Fx v → (f v i).Fx) : (r.bind f).Fx := by
  cases r with
  | ok v i => exact h v i hr
  | no i => trivial
  | bad => trivial
theorem pb_fx (v : PV) (w : W) : Fx (pb v w) := by
  unfold pb
  repeat' split
  all_goals exact fun _ => rfl
theorem fx_post : ∀ n v i, Fx v → (post ws n v i).Fx
  | 0, _, _, _ => trivial
  | n + 1, v, i, h => by
    unfold post
    split
    · exact h
    · exact fx_post n _ _ (pb_fx _ _)
theorem fx_more (p : Nat → PR) (h : Nat) (hp : ∀ i, (p i).Fx) : ∀ n v j, Fx v → (more ws p h n v j).Fx
  | 0, _, _, _ => trivial
  | n + 1, v, j, hv => by
    unfold more
    split
    · exact fx_bind (hp _) fun w k _ => fx_more p h hp n _ k fun _ => rfl
    · exact hv
theorem atom_fx (w : W) : Fx (atom w) := by
  unfold atom
  repeat' split
  all_goals exact fun _ => rfl
theorem fx_pp : ∀ d m i, (pp ws d m i).Fx
  | 0, _, _ => trivial
  | d + 1, .chain h deep, i => fx_bind (fx_pp d _ i) fun v j hv => fx_more _ _ (fun i => fx_pp d _ i) _ v j hv
  | d + 1, .part h deep, i => by
    unfold pp
    split
    · exact fx_pp d _ i
    · exact fx_pp d _ i
  | d + 1, .one deep, i => by
    unfold pp
    split
    · split
      · trivial
      · exact fx_bind (fx_pp d _ _) fun v j h _ => rfl
    · exact fx_bind (fx_pp d _ _) fun v j h => fx_post _ v j h
  | d + 1, .plain deep, i => by
    unfold pp
    split
    · split
      · trivial
      · refine fx_bind (fx_pp d _ _) fun v j h => ?_
        split
        · exact h
        · trivial
    · split
      · trivial
      · exact atom_fx _
theorem asg_fx {c : Nat → List PV → Store → Res PV} {n : Nat} {e : CE} {v : PV} {st st1 : Store} (hv : Fx v) (h : evE c Γ.gl NN e ev st = .ok v st1) : evS c Γ.gl NN (.asg (.name n) e) ev st = .ok (.nx (ev.set n (some v))) st1 := by
  rw [asg_nm h, hv]
theorem ret_fx {c : Nat → List PV → Store → Res PV} {e : CE} {v : PV} {st st1 : Store} (hv : Fx v) (h : evE c Γ.gl NN e ev st = .ok v st1) : evS c Γ.gl NN (.ret e) ev st = .ok (.rt v) st1 := by
  rw [ret_v h, hv]
theorem isNon_eq (v : PV) : isNone v = isNon v := by cases v <;> rfl
/-! ### plain -/
theorem e_call_deep {m : MK} {f : Nat} {nm : W} {a : CE} (h0 : ev[0]? = some (some (me st))) (hm : (flds (st.length + 1) i).lookup nm = none) (ha : evE (R (d + 4)) Γ.gl NN a ev (PS st ws i) = .ok (.tup (argsOf st m).tail) (PS st ws i)) (hf : f = fnOf m) (hok : Ok st ws d m) (hb : pp ws d m i ≠ .bad) :
    evE (R (d + 4)) Γ.gl NN (.meth (.var 0) nm [(0, f)] a) ev (PS st ws i) = toRes st ws (pp ws d m i) := by
  subst hf
  refine meth_v (var_v h0) (m_of _ _ _ _ _ hm) ha ?_
  have e : me st :: (argsOf st m).tail = argsOf st m := by cases m <;> rfl
  rw [e]
  exact hok i hb
theorem deep_ge (x : Nat) {h1 : ev[1]? = some (some (.int x))} : evE (R (d + 4)) Γ.gl NN (.cmp .ge (.var 1) (.glob 3)) ev (PS st ws i) = .ok (.bl (decide (40 ≤ x))) (PS st ws i) := by
  have e : decide (40 ≤ x) = decide ((40 : Int) ≤ x) := decide_eq_decide.mpr (by omega)
  rw [e]
  exact cmp_v (var_v h1) (glob_v rfl) rfl
theorem plain_m (hw : ∀ i, (nx ws i).length ≤ 1000) (deep : Nat) (hok : Ok st ws d (.chain 0 (deep + 1))) : Ok st ws (d + 1) (.plain deep) := by
  intro i h
  unfold pp at h ⊢
  show R (d + 4 + 1) 19 [me st, .int deep] (PS st ws i) = _
  rw [run_eq (fn := r19.c) (by decide) rfl rfl]
  unfold r19
  show (evS (R (d + 4)) Γ.gl NN _ [some (me st), some (.int deep), none, none] (PS st ws i)).bind fin = _
  rw [cons_nx (asg_nm (e_next (d := d + 3) (st := st) (ws := ws) (i := i) (ev := [some (me st), some (.int deep), none, none]) rfl))]
  show (evS (R (d + 4)) Γ.gl NN _ [some (me st), some (.int deep), some (.str (nx ws i)), none] (PS st ws i)).bind fin = _
  have e1 : ∀ (l : W) (st : Store), evE (R (d + 4)) Γ.gl NN (.cmp .eq (.var 2) (.lit (.str l))) [some (me st), some (.int deep), some (.str (nx ws i)), none] st = .ok (.bl (nx ws i == l)) st := fun l st => cmp_v (var_v rfl) lit_v (eqS_v strEq)
  have e1' := fun l => cmp_v (c := R (d + 4)) (G := Γ.gl) (N := NN) (ev := [some (me st), some (.int deep), some (.str (nx ws i)), none]) (st := PS st ws i) (o := .eq) (a := .var 2) (b := .lit (.str l)) (x := nx ws i == l) (var_v rfl) lit_v (eqS_v strEq)
  cases h1 : nx ws i == [40] with
  | true =>
    rw [h1, if_pos rfl] at h
    rw [if_pos rfl]
    have e2 := e1' [40]
    rw [h1] at e2
    have eg := deep_ge (d := d) (st := st) (ws := ws) (i := i) (ev := [some (me st), some (.int deep), some (.str (nx ws i)), none]) deep (h1 := rfl)
    by_cases hd : 40 ≤ deep
    · rw [decide_eq_true hd] at eg
      rw [if_pos hd]
      rw [cons_x ((if_t e2).trans (cons_x ((if_t eg).trans (e_refuse rfl))))]
      rfl
    · rw [decide_eq_false hd] at eg
      rw [if_neg hd] at h ⊢
      have hb := bind_nb h
      have ec := e_call_deep (d := d) (m := .chain 0 (deep + 1)) (f := 23) (i := i + 1) (ev := [some (me st), some (.int deep), some (.str (nx ws i)), none]) (nm := [99, 104, 97, 105, 110]) (a := .cons (.lit (.str [111, 114])) (.cons (.bin .add (.var 1) (.lit (.int 1))) .nil)) rfl rfl (cons_p lit_v (cons_p (bin_v (var_v rfl) lit_v rfl) nil_v)) rfl hok hb
      have hfx := fx_pp (ws := ws) d (.chain 0 (deep + 1)) (i + 1)
      cases hr : pp ws d (.chain 0 (deep + 1)) (i + 1) with
      | bad => exact absurd hr hb
      | no k =>
        rw [hr] at ec
        rw [cons_x ((if_t e2).trans ((cons_nx ((if_f eg).trans rfl)).trans ((cons_nx (e_step rfl)).trans (cons_x (asg_x ec)))))]
        rfl
      | ok v j =>
        rw [hr] at ec hfx
        rw [PR.bind_ok]
        have e3 := e_isnt (d := d + 3) (st := st) (ws := ws) (i := j) (ev := [some (me st), some (.int deep), some (.str (nx ws i)), some v]) rfl [41]
        cases h2 : nx ws j == [41] with
        | true =>
          rw [h2] at e3
          rw [cons_rt (v := v) (st1 := PS st ws (j + 1)) ((if_t e2).trans ((cons_nx ((if_f eg).trans rfl)).trans ((cons_nx (e_step rfl)).trans ((cons_nx (asg_fx hfx ec)).trans ((cons_nx ((if_f e3).trans rfl)).trans ((cons_nx (e_step rfl)).trans (cons_rt (ret_fx hfx (var_v rfl)))))))))]
          rfl
        | false =>
          rw [h2] at e3
          rw [cons_x ((if_t e2).trans ((cons_nx ((if_f eg).trans rfl)).trans ((cons_nx (e_step rfl)).trans ((cons_nx (asg_fx hfx ec)).trans (cons_x ((if_t e3).trans (e_refuse rfl)))))))]
          rfl
  | false =>
    have e2 := e1' [40]
    rw [h1] at e2
    rw [if_neg (by decide)]
    rw [cons_nx ((if_f e2).trans rfl)]
    have e4 := and_p (c := R (d + 4)) (G := Γ.gl) (N := NN) (ev := [some (me st), some (.int deep), some (.str (nx ws i)), none]) (st := PS st ws i) (cmp_v (o := .notin) (a := .var 2) (b := .tup (.cons (.lit (.str [61])) (.cons (.lit (.str [63])) .nil))) (var_v rfl) (tup_v (us := ([[61], [63]] : List W).map .str) (cons_p lit_v (cons_p lit_v nil_v)) (by simp [SZ])) notin_strs) fun _ => not_v (call_v (f := 0) (a := .cons (.var 2) .nil) (vs := [.str (nx ws i)]) (cons_p (var_v rfl) nil_v) (name_run (d + 3) _ _ (hw i)))
    cases h3 : (!([[61], [63]] : List W).contains (nx ws i) && !isName (nx ws i)) with
    | true =>
      rw [h3] at e4
      rw [if_pos rfl, cons_x ((if_t e4).trans (e_refuse rfl))]
      rfl
    | false =>
      rw [h3] at e4
      rw [if_neg (by decide), cons_nx ((if_f e4).trans rfl), cons_nx (e_step rfl)]
      have e5 : ∀ l, evE (R (d + 4)) Γ.gl NN (.cmp .eq (.var 2) (.lit (.str l))) [some (me st), some (.int deep), some (.str (nx ws i)), none] (PS st ws (i + 1)) = .ok (.bl (nx ws i == l)) (PS st ws (i + 1)) := fun l => cmp_v (var_v rfl) lit_v (eqS_v strEq)
      unfold atom
      have e6 := e5 [61]
      cases h6 : nx ws i == [61] with
      | true =>
        rw [h6] at e6
        rw [cons_rt ((if_t e6).trans (cons_rt (ret_v (tup_v (cons_p lit_v nil_v) (by simp [SZ])))))]
        rfl
      | false =>
        rw [h6] at e6
        rw [cons_nx ((if_f e6).trans rfl)]
        have e7 := e5 [63]
        cases h7 : nx ws i == [63] with
        | true =>
          rw [h7] at e7
          rw [cons_rt (ret_v ((ite_t e7).trans (tup_v (cons_p lit_v nil_v) (by simp [SZ]))))]
          rfl
        | false =>
          rw [h7] at e7
          rw [cons_rt (ret_v ((ite_f e7).trans (tup_v (cons_p lit_v (cons_p (var_v rfl) nil_v)) (by simp [SZ]))))]
          rfl
/-! ### one -/
theorem post_m (hw : ∀ i, (nx ws i).length ≤ 1000) (deep : Nat) : ∀ (n : Nat) (v : PV) (i : Nat), Fx v → post ws n v i ≠ .bad → ∃ v' j, post ws n v i = .ok v' j ∧
    whl (fun ev st => truth (evE (R (d + 4)) Γ.gl NN (.cmp .isnot (.var 3) (.lit .non)) ev st)) (fun ev st => evS (R (d + 4)) Γ.gl NN (.cons (.asg (.name 2) (.var 3)) (.cons (.asg (.fld [0] (.var 0) [97, 116]) (.bin .add (.fld [0] (.var 0) [97, 116]) (.lit (.int 1)))) (.cons (.asg (.name 3) (.meth (.var 0) [98, 101, 104, 105, 110, 100] [(0, 20)] (.cons (.var 2) .nil))) .nil))) ev st) n
      [some (me st), some (.int deep), some v, some (pb v (nx ws i))] (PS st ws i) = .ok (.nx [some (me st), some (.int deep), some v', some .non]) (PS st ws j)
  | 0, v, i, _, h => absurd rfl h
  | n + 1, v, i, hv, h => by
    unfold post at h ⊢
    have e1 : (truth (evE (R (d + 4)) Γ.gl NN (.cmp .isnot (.var 3) (.lit .non)) [some (me st), some (.int deep), some v, some (pb v (nx ws i))] (PS st ws i))) = .ok (!isNon (pb v (nx ws i))) (PS st ws i) := truth_v (cmp_v (var_v rfl) lit_v (by
      show (if isNone PV.non then some (!isNone (pb v (nx ws i))) else none) = _
      rw [isNon_eq]
      rfl))
    cases hn : isNon (pb v (nx ws i)) with
    | true =>
      rw [hn] at e1
      refine ⟨v, i, if_pos rfl, ?_⟩
      have hp : pb v (nx ws i) = .non := by
        cases hp : pb v (nx ws i) <;> rw [hp] at hn <;> first | rfl | cases hn
      rw [hp] at e1 ⊢
      exact whl_f e1
    | false =>
      rw [hn] at e1 h
      rw [if_neg (by decide)] at h
      obtain ⟨v', j, h1, h2⟩ := post_m hw deep n _ _ (pb_fx _ _) h
      refine ⟨v', j, (if_neg (by decide)).trans h1, ?_⟩
      have e2 : evS (R (d + 4)) Γ.gl NN (.cons (.asg (.name 2) (.var 3)) (.cons (.asg (.fld [0] (.var 0) [97, 116]) (.bin .add (.fld [0] (.var 0) [97, 116]) (.lit (.int 1)))) (.cons (.asg (.name 3) (.meth (.var 0) [98, 101, 104, 105, 110, 100] [(0, 20)] (.cons (.var 2) .nil))) .nil))) [some (me st), some (.int deep), some v, some (pb v (nx ws i))] (PS st ws i) = .ok (.nx [some (me st), some (.int deep), some (pb v (nx ws i)), some (pb (pb v (nx ws i)) (nx ws (i + 1)))]) (PS st ws (i + 1)) := by
        have pf := pb_fx v (nx ws i)
        rw [cons_nx (asg_fx pf (var_v rfl))]
        rw [cons_nx (e_step rfl)]
        have eb : evE (R (d + 4)) Γ.gl NN (.meth (.var 0) [98, 101, 104, 105, 110, 100] [(0, 20)] (.cons (.var 2) .nil)) [some (me st), some (.int deep), some (pb v (nx ws i)), some (pb v (nx ws i))] (PS st ws (i + 1)) = .ok (pb (pb v (nx ws i)) (nx ws (i + 1))) (PS st ws (i + 1)) := meth_v (var_v rfl) (m_of _ _ _ _ _ rfl) (cons_p (var_v rfl) nil_v (pf _)) (behind_run (d + 2) st ws (i + 1) _ pf (hw _))
        show evS (R (d + 4)) Γ.gl NN _ [some (me st), some (.int deep), some (pb v (nx ws i)), some (pb v (nx ws i))] (PS st ws (i + 1)) = _
        rw [cons_nx (asg_fx (pb_fx _ _) eb)]
        rfl
      exact (whl_t e1 e2).trans h2
theorem one_m (hw : ∀ i, (nx ws i).length ≤ 1000) (deep : Nat) (hok1 : Ok st ws d (.one (deep + 1))) (hok2 : Ok st ws d (.plain deep)) : Ok st ws (d + 1) (.one deep) := by
  intro i h
  unfold pp at h ⊢
  show R (d + 4 + 1) 21 [me st, .int deep] (PS st ws i) = _
  rw [run_eq (fn := r21.c) (by decide) rfl rfl]
  unfold r21
  show (evS (R (d + 4)) Γ.gl NN _ [some (me st), some (.int deep), none, none] (PS st ws i)).bind fin = _
  have e1 := e_is (d := d + 3) (st := st) (ws := ws) (i := i) (ev := [some (me st), some (.int deep), none, none]) rfl [33]
  cases h1 : nx ws i == [33] with
  | true =>
    rw [h1] at e1 h
    rw [if_pos rfl] at h ⊢
    have eg := deep_ge (d := d) (st := st) (ws := ws) (i := i) (ev := [some (me st), some (.int deep), none, none]) deep (h1 := rfl)
    by_cases hd : 40 ≤ deep
    · rw [decide_eq_true hd] at eg
      rw [if_pos hd, cons_x ((if_t e1).trans (cons_x ((if_t eg).trans (e_refuse rfl))))]
      rfl
    · rw [decide_eq_false hd] at eg
      rw [if_neg hd] at h ⊢
      have hb := bind_nb h
      have ec := e_call_deep (d := d) (m := .one (deep + 1)) (f := 21) (i := i + 1) (ev := [some (me st), some (.int deep), none, none]) (nm := [111, 110, 101]) (a := .cons (.bin .add (.var 1) (.lit (.int 1))) .nil) rfl rfl (cons_p (bin_v (var_v rfl) lit_v rfl) nil_v) rfl hok1 hb
      have hfx := fx_pp (ws := ws) d (.one (deep + 1)) (i + 1)
      cases hr : pp ws d (.one (deep + 1)) (i + 1) with
      | bad => exact absurd hr hb
      | no k =>
        rw [hr] at ec
        rw [cons_x ((if_t e1).trans ((cons_nx ((if_f eg).trans rfl)).trans ((cons_nx (e_step rfl)).trans (cons_x (ret_x (tup_x (consE_x2 lit_v (consE_x ec))))))))]
        rfl
      | ok v j =>
        rw [hr] at ec hfx
        rw [cons_rt ((if_t e1).trans ((cons_nx ((if_f eg).trans rfl)).trans ((cons_nx (e_step rfl)).trans (cons_rt (ret_v (tup_v (cons_p lit_v (cons_p ec nil_v (hfx _))) (by simp [SZ])))))))]
        rfl
  | false =>
    rw [h1] at e1 h
    rw [if_neg (by decide)] at h ⊢
    rw [cons_nx ((if_f e1).trans rfl)]
    have hb := bind_nb h
    have ec := e_call_deep (d := d) (m := .plain deep) (f := 19) (i := i) (ev := [some (me st), some (.int deep), none, none]) (nm := [112, 108, 97, 105, 110]) (a := .cons (.var 1) .nil) rfl rfl (cons_p (var_v rfl) nil_v) rfl hok2 hb
    have hfx := fx_pp (ws := ws) d (.plain deep) i
    cases hr : pp ws d (.plain deep) i with
    | bad => exact absurd hr hb
    | no k =>
      rw [hr] at ec
      rw [cons_x (asg_x ec)]
      rfl
    | ok v j =>
      rw [hr] at ec hfx h
      rw [PR.bind_ok] at h ⊢
      have hv : Fx v := hfx
      rw [cons_nx (asg_fx hv ec)]
      have eb : evE (R (d + 4)) Γ.gl NN (.meth (.var 0) [98, 101, 104, 105, 110, 100] [(0, 20)] (.cons (.var 2) .nil)) [some (me st), some (.int deep), some v, none] (PS st ws j) = .ok (pb v (nx ws j)) (PS st ws j) := meth_v (var_v rfl) (m_of _ _ _ _ _ rfl) (cons_p (var_v rfl) nil_v (hv _)) (behind_run (d + 2) st ws j _ hv (hw _))
      show (evS (R (d + 4)) Γ.gl NN _ [some (me st), some (.int deep), some v, none] (PS st ws j)).bind fin = _
      rw [cons_nx (asg_fx (pb_fx _ _) eb)]
      obtain ⟨v', k, p1, p2⟩ := post_m (d := d) (st := st) hw deep NN v j hv h
      have fx' : Fx v' := by
        have := fx_post (ws := ws) NN v j hv
        rw [p1] at this
        exact this
      rw [p1]
      refine Eq.trans (congrArg (Res.bind · fin) ((cons_nx (while_v p2)).trans (cons_rt (ret_fx fx' (var_v rfl))))) ?_
      rfl
/-! ### part, chain -/
theorem hd_then {h : Nat} (hh : h ≤ 2) : (hd h == kThen) = decide (h = 2) := by
  match h, hh with
  | 0, _ => rfl
  | 1, _ => rfl
  | 2, _ => rfl
theorem part_m (h deep : Nat) (hh : h ≤ 2) (hok1 : Ok st ws d (.one deep)) (hok2 : h < 2 → Ok st ws d (.chain (h + 1) deep)) : Ok st ws (d + 1) (.part h deep) := by
  intro i hb
  unfold pp at hb ⊢
  show R (d + 4 + 1) 22 [me st, .str (hd h), .int deep] (PS st ws i) = _
  rw [run_eq (fn := r22.c) (by decide) rfl rfl]
  unfold r22
  show (evS (R (d + 4)) Γ.gl NN _ [some (me st), some (.str (hd h)), some (.int deep)] (PS st ws i)).bind fin = _
  have e1 := cmp_v (c := R (d + 4)) (G := Γ.gl) (N := NN) (ev := [some (me st), some (.str (hd h)), some (.int deep)]) (st := PS st ws i) (o := .eq) (a := .var 1) (b := .lit (.str kThen)) (x := hd h == kThen) (var_v rfl) lit_v (eqS_v strEq)
  rw [hd_then hh] at e1
  by_cases h2 : h = 2
  · rw [decide_eq_true h2] at e1
    rw [if_pos h2] at hb ⊢
    have ec := e_call_deep (d := d) (m := .one deep) (f := 21) (i := i) (ev := [some (me st), some (.str (hd h)), some (.int deep)]) (nm := [111, 110, 101]) (a := .cons (.var 2) .nil) rfl rfl (cons_p (var_v rfl) nil_v) rfl hok1 hb
    have hfx := fx_pp (ws := ws) d (.one deep) i
    cases hr : pp ws d (.one deep) i with
    | bad => exact absurd hr hb
    | no k =>
      rw [hr] at ec
      rw [cons_x ((if_t e1).trans (cons_x (ret_x ec)))]
      rfl
    | ok v j =>
      rw [hr] at ec hfx
      rw [cons_rt ((if_t e1).trans (cons_rt (ret_fx hfx ec)))]
      rfl
  · rw [decide_eq_false h2] at e1
    rw [if_neg h2] at hb ⊢
    rw [cons_nx ((if_f e1).trans rfl)]
    have ea : evE (R (d + 4)) Γ.gl NN (.cons (.ite (.cmp .eq (.var 1) (.lit (.str [111, 114]))) (.lit (.str [97, 110, 100])) (.lit (.str [116, 104, 101, 110]))) (.cons (.var 2) .nil)) [some (me st), some (.str (hd h)), some (.int deep)] (PS st ws i) = .ok (.tup (argsOf st (.chain (h + 1) deep)).tail) (PS st ws i) := by
      refine cons_p ?_ (cons_p (var_v rfl) nil_v)
      match h, hh, h2 with
      | 0, _, _ => exact (ite_t (cmp_v (var_v rfl) lit_v (x := true) rfl)).trans lit_v
      | 1, _, _ => exact (ite_f (cmp_v (var_v rfl) lit_v (x := false) rfl)).trans lit_v
      | 2, _, h2 => exact absurd rfl h2
    have ec := e_call_deep (d := d) (m := .chain (h + 1) deep) (f := 23) (i := i) (nm := [99, 104, 97, 105, 110]) rfl rfl ea rfl (hok2 (by omega)) hb
    have hfx := fx_pp (ws := ws) d (.chain (h + 1) deep) i
    cases hr : pp ws d (.chain (h + 1) deep) i with
    | bad => exact absurd hr hb
    | no k =>
      rw [hr] at ec
      rw [cons_x (ret_x ec)]
      rfl
    | ok v j =>
      rw [hr] at ec hfx
      rw [cons_rt (ret_fx hfx ec)]
      rfl
theorem sg_get {h : Nat} (hh : h ≤ 2) : kget (Γ.gl 5) (.str (hd h)) = some (.str (sg h)) := by
  match h, hh with
  | 0, _ => rfl
  | 1, _ => rfl
  | 2, _ => rfl
theorem more_m (h deep : Nat) (hh : h ≤ 2) (hok : Ok st ws d (.part h deep)) : ∀ (n : Nat) (v : PV) (j : Nat), Fx v → more ws (pp ws d (.part h deep)) h n v j ≠ .bad →
    ((whl (fun ev st => truth (evE (R (d + 4)) Γ.gl NN (.cmp .eq (.meth (.var 0) [110, 101, 120, 116] [(0, 18)] .nil) (.kix 5 (.var 1))) ev st)) (fun ev st => evS (R (d + 4)) Γ.gl NN (.cons (.asg (.fld [0] (.var 0) [97, 116]) (.bin .add (.fld [0] (.var 0) [97, 116]) (.lit (.int 1)))) (.cons (.asg (.name 3) (.tup (.cons (.var 1) (.cons (.var 3) (.cons (.meth (.var 0) [112, 97, 114, 116] [(0, 22)] (.cons (.var 1) (.cons (.var 2) .nil))) .nil))))) .nil)) ev st) n
      [some (me st), some (.str (hd h)), some (.int deep), some v] (PS st ws j)).bind fun f st1 => match f with
        | .nx ev1 => evS (R (d + 4)) Γ.gl NN (.cons (.ret (.var 3)) .nil) ev1 st1
        | f => .ok f st1).bind fin = toRes st ws (more ws (pp ws d (.part h deep)) h n v j)
  | 0, v, j, _, hb => absurd rfl hb
  | n + 1, v, j, hv, hb => by
    unfold more at hb ⊢
    have e1 : (truth (evE (R (d + 4)) Γ.gl NN (.cmp .eq (.meth (.var 0) [110, 101, 120, 116] [(0, 18)] .nil) (.kix 5 (.var 1))) [some (me st), some (.str (hd h)), some (.int deep), some v] (PS st ws j))) = .ok (nx ws j == sg h) (PS st ws j) := truth_v (cmp_v (v := .str (sg h)) (st2 := PS st ws j) (e_next (d := d + 3) rfl) (by
      show Res.of (kget (Γ.gl 5) (.str (hd h))) _ = _
      rw [sg_get hh]
      rfl) (eqS_v strEq))
    cases hs : nx ws j == sg h with
    | false =>
      rw [hs] at e1
      rw [if_neg (by decide), whl_f e1, Res.bind_ok]
      show (evS (R (d + 4)) Γ.gl NN _ _ _).bind fin = _
      rw [cons_rt (ret_fx hv (var_v rfl))]
      rfl
    | true =>
      rw [hs] at e1 hb
      rw [if_pos rfl] at hb ⊢
      have hb2 := bind_nb hb
      have ec := e_call_deep (d := d) (m := .part h deep) (f := 22) (i := j + 1) (ev := [some (me st), some (.str (hd h)), some (.int deep), some v]) (nm := [112, 97, 114, 116]) (a := .cons (.var 1) (.cons (.var 2) .nil)) rfl rfl (cons_p (var_v rfl) (cons_p (var_v rfl) nil_v)) rfl hok hb2
      have hfx := fx_pp (ws := ws) d (.part h deep) (j + 1)
      cases hr : pp ws d (.part h deep) (j + 1) with
      | bad => exact absurd hr hb2
      | no k =>
        rw [hr] at ec
        rw [whl_x e1 ((cons_nx (e_step rfl)).trans (cons_x (asg_x (tup_x (consE_x2 (var_v rfl) (consE_x2 (var_v rfl) (by
          rw [hv]
          exact consE_x ec)))))))]
        rfl
      | ok w k =>
        rw [hr] at ec hfx hb
        rw [PR.bind_ok] at hb ⊢
        have e2 : evS (R (d + 4)) Γ.gl NN (.cons (.asg (.fld [0] (.var 0) [97, 116]) (.bin .add (.fld [0] (.var 0) [97, 116]) (.lit (.int 1)))) (.cons (.asg (.name 3) (.tup (.cons (.var 1) (.cons (.var 3) (.cons (.meth (.var 0) [112, 97, 114, 116] [(0, 22)] (.cons (.var 1) (.cons (.var 2) .nil))) .nil))))) .nil)) [some (me st), some (.str (hd h)), some (.int deep), some v] (PS st ws j) = .ok (.nx [some (me st), some (.str (hd h)), some (.int deep), some (.tup [.str (hd h), v, w])]) (PS st ws k) := by
          rw [cons_nx (e_step rfl)]
          rw [cons_nx (asg_nm (tup_v (cons_p (var_v rfl) (cons_p (var_v rfl) (cons_p ec nil_v (hfx _)) (hv _))) (by simp [SZ])))]
          rfl
        rw [whl_t e1 e2]
        exact more_m h deep hh hok n _ k (fun _ => rfl) hb
theorem chain_m (h deep : Nat) (hh : h ≤ 2) (hok : Ok st ws d (.part h deep)) : Ok st ws (d + 1) (.chain h deep) := by
  intro i hb
  unfold pp at hb ⊢
  show R (d + 4 + 1) 23 [me st, .str (hd h), .int deep] (PS st ws i) = _
  rw [run_eq (fn := r23.c) (by decide) rfl rfl]
  unfold r23
  show (evS (R (d + 4)) Γ.gl NN _ [some (me st), some (.str (hd h)), some (.int deep), none] (PS st ws i)).bind fin = _
  have hb2 := bind_nb hb
  have ec := e_call_deep (d := d) (m := .part h deep) (f := 22) (i := i) (ev := [some (me st), some (.str (hd h)), some (.int deep), none]) (nm := [112, 97, 114, 116]) (a := .cons (.var 1) (.cons (.var 2) .nil)) rfl rfl (cons_p (var_v rfl) (cons_p (var_v rfl) nil_v)) rfl hok hb2
  have hfx := fx_pp (ws := ws) d (.part h deep) i
  cases hr : pp ws d (.part h deep) i with
  | bad => exact absurd hr hb2
  | no k =>
    rw [hr] at ec
    rw [cons_x (asg_x ec)]
    rfl
  | ok v j =>
    rw [hr] at ec hfx hb
    rw [PR.bind_ok] at hb ⊢
    have hv : Fx v := hfx
    rw [cons_nx (asg_fx hv ec)]
    exact more_m h deep hh hok NN v j hv hb
theorem all_m (hw : ∀ i, (nx ws i).length ≤ 1000) : ∀ d m, m.fine → Ok st ws d m
  | 0, m, _ => fun i h => absurd rfl h
  | d + 1, .plain deep, _ => plain_m hw deep (all_m hw d _ (by decide : (0 : Nat) ≤ 2))
  | d + 1, .one deep, _ => one_m hw deep (all_m hw d _ trivial) (all_m hw d _ trivial)
  | d + 1, .part h deep, hf => part_m h deep hf (all_m hw d _ trivial) fun hl => all_m hw d _ (by show h + 1 ≤ 2; omega)
  | d + 1, .chain h deep, hf => chain_m h deep hf (all_m hw d _ hf)
end
end K83

set_option maxHeartbeats 8000000
/-! K83u: what the plain parser reads: derivations; where it stops. -/
namespace K83
open Vm
def At (ws : List W) : Nat → List W → Prop
  | _, [] => True
  | i, w :: t => nx ws i = w ∧ At ws (i + 1) t
theorem At_app {ws : List W} : ∀ {t : List W} {i : Nat} {s : List W}, At ws i (t ++ s) ↔ At ws i t ∧ At ws (i + t.length) s
  | [], i, s => by simp [At]
  | w :: t, i, s => by
    show (nx ws i = w ∧ At ws (i + 1) (t ++ s)) ↔ (nx ws i = w ∧ At ws (i + 1) t) ∧ _
    rw [At_app]
    have e : i + 1 + t.length = i + (w :: t).length := by simp; omega
    rw [e]
    exact and_assoc.symm
theorem nx_app (pre : List W) (w : W) (t : List W) : nx (pre ++ w :: t) pre.length = w := by
  unfold nx
  simp
theorem At_self : ∀ (t pre post : List W), At (pre ++ (t ++ post)) pre.length t
  | [], _, _ => trivial
  | w :: t, pre, post => by
    refine ⟨nx_app _ _ _, ?_⟩
    have := At_self t (pre ++ [w]) post
    simpa using this
/-- no sign stands behind -/
def Stop (w : W) : Prop := ∀ v, isNon (pb v w) = true
/-- a sign stands behind -/
def Sign (w : W) (g : PV → PV) : Prop := ∀ v, pb v w = g v ∧ isNon (g v) = false
/-- levels: 0 or, 1 and, 2 then, 3 not, 4 with signs behind, 5 plain -/
inductive Der : Nat → Nat → List W → PV → Prop
  | atom {n : Nat} {w : W} : (isName w = true ∨ w = [61] ∨ w = [63]) → Der 5 n [w] (atom w)
  | par {n : Nat} {t : List W} {f : PV} : Der 0 n t f → Der 5 (n + 1) ([40] :: (t ++ [[41]])) f
  | up5 {n : Nat} {t : List W} {f : PV} : Der 5 n t f → Der 4 n t f
  | sign {n : Nat} {t : List W} {f : PV} {w : W} {g : PV → PV} : Der 4 n t f → Sign w g → Der 4 n (t ++ [w]) (g f)
  | up4 {n : Nat} {t : List W} {f : PV} : Der 4 n t f → Der 3 n t f
  | not {n : Nat} {t : List W} {f : PV} : Der 3 n t f → Der 3 (n + 1) ([33] :: t) (.tup [.str kNot, f])
  | up3 {n : Nat} {t : List W} {f : PV} : Der 3 n t f → Der 2 n t f
  | then_ {n : Nat} {t s : List W} {f g : PV} : Der 2 n t f → Der 3 n s g → Der 2 n (t ++ [59] :: s) (.tup [.str kThen, f, g])
  | up2 {n : Nat} {t : List W} {f : PV} : Der 2 n t f → Der 1 n t f
  | and {n : Nat} {t s : List W} {f g : PV} : Der 1 n t f → Der 2 n s g → Der 1 n (t ++ [38] :: s) (.tup [.str kAnd, f, g])
  | up1 {n : Nat} {t : List W} {f : PV} : Der 1 n t f → Der 0 n t f
  | or {n : Nat} {t s : List W} {f g : PV} : Der 0 n t f → Der 1 n s g → Der 0 n (t ++ [124] :: s) (.tup [.str kOr, f, g])
theorem Der.up {l n : Nat} {t : List W} {f : PV} (h : Der l n t f) : Der l (n + 1) t f := by
  induction h with
  | atom a => exact .atom a
  | par _ ih => exact .par ih
  | up5 _ ih => exact .up5 ih
  | sign _ a ih => exact .sign ih a
  | up4 _ ih => exact .up4 ih
  | not _ ih => exact .not ih
  | up3 _ ih => exact .up3 ih
  | then_ _ _ a b => exact .then_ a b
  | up2 _ ih => exact .up2 ih
  | and _ _ a b => exact .and a b
  | up1 _ ih => exact .up1 ih
  | or _ _ a b => exact .or a b
theorem Der.le {l n m : Nat} {t : List W} {f : PV} (h : Der l n t f) (hm : n ≤ m) : Der l m t f := by
  induction hm with
  | refl => exact h
  | step _ ih => exact ih.up
theorem Der.ne {l n : Nat} {t : List W} {f : PV} (h : Der l n t f) : 1 ≤ t.length := by
  induction h <;> simp_all <;> omega
/-- the words that may follow: no sign behind, none of the signs of chains from level h on -/
def Fol (h : Nat) (w : W) : Prop := Stop w ∧ ∀ k, h ≤ k → k ≤ 2 → (w == sg k) = false
/-- a chain read up to here -/
def Chain (ws : List W) (d deep h i : Nat) (N : Nat) (t : List W) (f : PV) : Prop := ∃ N', N ≤ N' + t.length ∧ (pp ws d (.part h deep) i).bind (more ws (pp ws d (.part h deep)) h N) = more ws (pp ws d (.part h deep)) h N' f (i + t.length)
/-- what each level says of the parser -/
def Says (l n : Nat) (t : List W) (f : PV) : Prop := ∀ (ws : List W) (i deep d N : Nat), At ws i t → deep + n ≤ 40 → t.length ≤ N → t.length < NN → match l with
  | 5 => 8 * n + 1 ≤ d → pp ws d (.plain deep) i = .ok f (i + t.length)
  | 4 => 8 * n + 1 ≤ d → ∃ N', N ≤ N' + t.length ∧ (pp ws d (.plain deep) i).bind (post ws N) = post ws N' f (i + t.length)
  | 3 => 8 * n + 2 ≤ d → Stop (nx ws (i + t.length)) → pp ws d (.one deep) i = .ok f (i + t.length)
  | 2 => 8 * n + 3 ≤ d → Stop (nx ws (i + t.length)) → Chain ws d deep 2 i N t f
  | 1 => 8 * n + 5 ≤ d → Fol 2 (nx ws (i + t.length)) → Chain ws d deep 1 i N t f
  | _ => 8 * n + 7 ≤ d → Fol 1 (nx ws (i + t.length)) → Chain ws d deep 0 i N t f
theorem more_stop {ws : List W} {p : Nat → PR} {h N j : Nat} {v : PV} (hN : 1 ≤ N) (hs : (nx ws j == sg h) = false) : more ws p h N v j = .ok v j := by
  cases N with
  | zero => omega
  | succ N =>
    unfold more
    rw [hs]
    rfl
theorem more_go {ws : List W} {p : Nat → PR} {h N j : Nat} {v : PV} (hs : nx ws j = sg h) : more ws p h (N + 1) v j = (p (j + 1)).bind fun w k => more ws p h N (.tup [.str (hd h), v, w]) k := by
  show (if (nx ws j == sg h) = true then _ else _) = _
  rw [hs, if_pos (by simp)]
theorem chain_eq {ws : List W} {d deep i h : Nat} : pp ws (d + 1) (.chain h deep) i = (pp ws d (.part h deep) i).bind (more ws (pp ws d (.part h deep)) h NN) := rfl
theorem part_2 {ws : List W} {d deep i : Nat} : pp ws (d + 1) (.part 2 deep) i = pp ws d (.one deep) i := rfl
theorem part_1 {ws : List W} {d deep i : Nat} : pp ws (d + 1) (.part 1 deep) i = pp ws d (.chain 2 deep) i := rfl
theorem part_0 {ws : List W} {d deep i : Nat} : pp ws (d + 1) (.part 0 deep) i = pp ws d (.chain 1 deep) i := rfl
/-- a chain, read whole -/
theorem chain_all {ws : List W} {d deep i h : Nat} {t : List W} {f : PV} (c : Chain ws d deep h i NN t f) (hl : t.length < NN) (hs : (nx ws (i + t.length) == sg h) = false) : pp ws (d + 1) (.chain h deep) i = .ok f (i + t.length) := by
  obtain ⟨N', h1, h2⟩ := c
  rw [chain_eq]
  exact Eq.trans h2 (more_stop (by omega) hs)
/-- a chain of one part -/
theorem chain_one {ws : List W} {d deep i h N : Nat} {t : List W} {f : PV} (e : pp ws d (.part h deep) i = .ok f (i + t.length)) : Chain ws d deep h i N t f := ⟨N, by omega, by rw [e, PR.bind_ok]⟩
/-- one part more -/
theorem chain_more {ws : List W} {d deep i h N : Nat} {t s : List W} {f g : PV} (c : Chain ws d deep h i N t f) (hl : (t ++ sg h :: s).length ≤ N) (hs : nx ws (i + t.length) = sg h) (e : pp ws d (.part h deep) (i + t.length + 1) = .ok g (i + t.length + 1 + s.length)) :
    Chain ws d deep h i N (t ++ sg h :: s) (.tup [.str (hd h), f, g]) := by
  obtain ⟨N1, q1, q2⟩ := c
  simp at hl
  cases N1 with
  | zero => omega
  | succ N1 =>
    have e3 : i + t.length + 1 + s.length = i + (t ++ sg h :: s).length := by simp; omega
    refine ⟨N1, by simp; omega, ?_⟩
    rw [q2, more_go hs, e, PR.bind_ok, e3]
theorem stop_lit {w : W} (h : (w == [94] || w == [36] || w == [64] || (w.take 1 == [35]) || (w.take 1 == [60])) = false) : Stop w := fun v => by
  simp only [Bool.or_eq_false_iff] at h
  obtain ⟨⟨⟨⟨h1, h2⟩, h3⟩, h4⟩, h5⟩ := h
  unfold pb
  rw [h1, h2, h3, h4, h5]
  rfl
theorem post_stop {ws : List W} {N i : Nat} {v : PV} (hN : 1 ≤ N) (hs : Stop (nx ws i)) : post ws N v i = .ok v i := by
  cases N with
  | zero => omega
  | succ N =>
    unfold post
    rw [hs v, if_pos rfl]
theorem name_ne {w : W} (h : isName w = true) (c : Nat) (hc : sml.contains c = false) : (w == [c]) = false := by
  match w, h with
  | a :: r, h =>
    unfold isName at h
    simp only [Bool.and_eq_true] at h
    cases e : (a :: r) == [c] with
    | false => rfl
    | true =>
      have e := eq_of_beq e
      have e2 : a = c := by injection e
      rw [e2, hc] at h
      exact absurd h.1.2 (by decide)
theorem plain_atom {ws : List W} {i d deep : Nat} {w : W} (h : isName w = true ∨ w = [61] ∨ w = [63]) (e : nx ws i = w) : pp ws (d + 1) (.plain deep) i = .ok (atom w) (i + 1) := by
  have h1 : (w == [40]) = false := by
    rcases h with h | rfl | rfl
    · exact name_ne h 40 (by decide)
    · decide
    · decide
  have h2 : (!([[61], [63]] : List W).contains w && !isName w) = false := by
    rcases h with h | rfl | rfl
    · rw [h]; simp
    · decide
    · decide
  unfold pp
  rw [e, h1, if_neg (by decide), h2, if_neg (by decide)]
theorem one_not {ws : List W} {i d deep : Nat} (e : nx ws i = [33]) (hd : deep < 40) : pp ws (d + 1) (.one deep) i = (pp ws d (.one (deep + 1)) (i + 1)).bind fun v j => .ok (.tup [.str kNot, v]) j := by
  show (if (nx ws i == [33]) = true then _ else _) = _
  rw [e, if_pos (by decide), if_neg (by omega)]
theorem one_plain {ws : List W} {i d deep : Nat} (e : (nx ws i == [33]) = false) : pp ws (d + 1) (.one deep) i = (pp ws d (.plain deep) i).bind (post ws NN) := by
  show (if (nx ws i == [33]) = true then _ else _) = _
  rw [e, if_neg (by decide)]
theorem plain_par {ws : List W} {i d deep : Nat} (e : nx ws i = [40]) (hd : deep < 40) : pp ws (d + 1) (.plain deep) i = (pp ws d (.chain 0 (deep + 1)) (i + 1)).bind fun v j => if nx ws j == [41] then .ok v (j + 1) else .no j := by
  show (if (nx ws i == [40]) = true then _ else _) = _
  rw [e, if_pos (by decide), if_neg (by omega)]
/-- the first word of a plain one is no ! -/
theorem first_ne {l n : Nat} {t : List W} {f : PV} (h : Der l n t f) : 4 ≤ l → ∀ {ws : List W} {i : Nat}, At ws i t → (nx ws i == [33]) = false := by
  induction h with
  | atom a =>
    intro _ ws i ha
    rw [ha.1]
    rcases a with a | rfl | rfl
    · exact name_ne a 33 (by decide)
    · decide
    · decide
  | par _ _ =>
    intro _ ws i ha
    rw [ha.1]
    decide
  | up5 _ ih => exact fun hl => ih (by omega)
  | sign _ _ ih => exact fun hl ws i ha => ih hl (At_app.mp ha).1
  | _ => intro hl; omega
theorem says {l n : Nat} {t : List W} {f : PV} (h : Der l n t f) : Says l n t f := by
  induction h with
  | atom a =>
    intro ws i deep d N ha hd hN hl hm
    cases d with
    | zero => omega
    | succ d => exact plain_atom a ha.1
  | @par n t f hd ih =>
    intro ws i deep d N ha hdp hN hl hm
    obtain ⟨d, rfl⟩ : ∃ e, d = e + 2 := ⟨d - 2, by omega⟩
    obtain ⟨e, ha⟩ := ha
    obtain ⟨a1, a2⟩ := At_app.mp ha
    have e2 : nx ws (i + 1 + t.length) = [41] := a2.1
    have st : Stop [41] := stop_lit (by decide)
    simp at hl
    have c := ih ws (i + 1) (deep + 1) d NN a1 (by omega) (by omega) (by omega) (by omega) (by rw [e2]; exact ⟨st, fun k h1 h2 => by
      match k, h1, h2 with
      | 1, _, _ => decide
      | 2, _, _ => decide⟩)
    rw [plain_par e (by omega), chain_all c (by omega) (by rw [e2]; decide), PR.bind_ok, e2, if_pos (by decide)]
    congr 1
    simp
    omega
  | @up5 n t f hd ih =>
    intro ws i deep d N ha hdp hN hl hm
    exact ⟨N, by omega, by rw [ih ws i deep d N ha hdp hN hl hm, PR.bind_ok]⟩
  | @sign n t f w g hd hs ih =>
    intro ws i deep d N ha hdp hN hl hm
    obtain ⟨a1, a2⟩ := At_app.mp ha
    simp at hN hl
    obtain ⟨N1, q1, q2⟩ := ih ws i deep d N a1 hdp (by omega) (by omega) hm
    cases N1 with
    | zero => omega
    | succ N1 =>
      refine ⟨N1, by simp; omega, ?_⟩
      obtain ⟨s1, s2⟩ := hs f
      have e2 : nx ws (i + t.length) = w := a2.1
      rw [q2]
      show (if isNon (pb f (nx ws (i + t.length))) = true then _ else _) = _
      rw [e2, s1, s2, if_neg (by decide)]
      congr 1
      simp
      omega
  | @up4 n t f hd ih =>
    intro ws i deep d N ha hdp hN hl hm hst
    cases d with
    | zero => omega
    | succ d =>
      obtain ⟨N1, q1, q2⟩ := ih ws i deep d NN ha hdp (by omega) hl (by omega)
      rw [one_plain (first_ne hd (by omega) ha)]
      exact q2.trans (post_stop (by omega) hst)
  | @not n t f hd ih =>
    intro ws i deep d N ha hdp hN hl hm hst
    cases d with
    | zero => omega
    | succ d =>
      have e3 : i + 1 + t.length = i + ([33] :: t).length := by simp; omega
      simp at hl hN
      have q := ih ws (i + 1) (deep + 1) d N ha.2 (by omega) (by omega) (by omega) (by omega) (by rw [e3]; exact hst)
      rw [one_not ha.1 (by omega), q, PR.bind_ok, e3]
  | @up3 n t f hd ih =>
    intro ws i deep d N ha hdp hN hl hm hst
    cases d with
    | zero => omega
    | succ d => exact chain_one ((part_2).trans (ih ws i deep d N ha hdp hN hl (by omega) hst))
  | @then_ n t s f g h1 h2 i1 i2 =>
    intro ws i deep d N ha hdp hN hl hm hst
    obtain ⟨a1, a2, a3⟩ := At_app.mp ha
    cases d with
    | zero => omega
    | succ d =>
      have hl' := hl
      have hN' := hN
      simp at hl' hN'
      have e3 : i + t.length + 1 + s.length = i + (t ++ [59] :: s).length := by simp; omega
      refine chain_more (h := 2) (i1 ws i deep (d + 1) N a1 hdp (by omega) (by omega) hm (by rw [a2]; exact stop_lit (by decide))) hN a2 ?_
      exact (part_2).trans (i2 ws (i + t.length + 1) deep d N a3 hdp (by omega) (by omega) (by omega) (by rw [e3]; exact hst))
  | @up2 n t f hd ih =>
    intro ws i deep d N ha hdp hN hl hm hst
    obtain ⟨d, rfl⟩ : ∃ e, d = e + 2 := ⟨d - 2, by omega⟩
    refine chain_one ((part_1).trans ?_)
    exact chain_all (ih ws i deep d NN ha hdp (by omega) hl (by omega) hst.1) hl (hst.2 2 (by omega) (by omega))
  | @and n t s f g h1 h2 i1 i2 =>
    intro ws i deep d N ha hdp hN hl hm hst
    obtain ⟨a1, a2, a3⟩ := At_app.mp ha
    obtain ⟨d, rfl⟩ : ∃ e, d = e + 2 := ⟨d - 2, by omega⟩
    have hl' := hl
    have hN' := hN
    simp at hl' hN'
    have e3 : i + t.length + 1 + s.length = i + (t ++ [38] :: s).length := by simp; omega
    refine chain_more (h := 1) (i1 ws i deep (d + 2) N a1 hdp (by omega) (by omega) hm (by rw [a2]; exact ⟨stop_lit (by decide), fun k h1 h2 => by
      match k, h1, h2 with
      | 2, _, _ => decide⟩)) hN a2 ?_
    refine (part_1).trans ?_
    exact chain_all (i2 ws (i + t.length + 1) deep d NN a3 hdp (by omega) (by omega) (by omega) (by rw [e3]; exact hst.1)) (by omega) (by rw [e3]; exact hst.2 2 (by omega) (by omega))
  | @up1 n t f hd ih =>
    intro ws i deep d N ha hdp hN hl hm hst
    obtain ⟨d, rfl⟩ : ∃ e, d = e + 2 := ⟨d - 2, by omega⟩
    refine chain_one ((part_0).trans ?_)
    exact chain_all (ih ws i deep d NN ha hdp (by omega) hl (by omega) ⟨hst.1, fun k h1 h2 => hst.2 k (by omega) h2⟩) hl (hst.2 1 (by omega) (by omega))
  | @or n t s f g h1 h2 i1 i2 =>
    intro ws i deep d N ha hdp hN hl hm hst
    obtain ⟨a1, a2, a3⟩ := At_app.mp ha
    obtain ⟨d, rfl⟩ : ∃ e, d = e + 2 := ⟨d - 2, by omega⟩
    have hl' := hl
    have hN' := hN
    simp at hl' hN'
    have e3 : i + t.length + 1 + s.length = i + (t ++ [124] :: s).length := by simp; omega
    refine chain_more (h := 0) (i1 ws i deep (d + 2) N a1 hdp (by omega) (by omega) hm (by rw [a2]; exact ⟨stop_lit (by decide), fun k h1 h2 => by
      match k, h1, h2 with
      | 1, _, _ => decide
      | 2, _, _ => decide⟩)) hN a2 ?_
    refine (part_0).trans ?_
    exact chain_all (i2 ws (i + t.length + 1) deep d NN a3 hdp (by omega) (by omega) (by omega) (by rw [e3]; exact ⟨hst.1, fun k h1 h2 => hst.2 k (by omega) h2⟩)) (by omega) (by rw [e3]; exact hst.2 1 (by omega) (by omega))
end K83

set_option maxHeartbeats 8000000
/-! K83v: texts made of levels. -/
namespace K83
open Vm
inductive Sn where
  | back | first | ends
  | times (k : Nat) | upto (k : Nat)
def Sn.w : Sn → W
  | .back => [94] | .first => [36] | .ends => [64]
  | .times k => [35, 48 + k] | .upto k => [60, 48 + k]
def Sn.g : Sn → PV → PV
  | .back, v => .tup [.str kBack, v]
  | .first, v => .tup [.str kFirst, v]
  | .ends, v => .tup [.str kEnds, v]
  | .times k, v => .tup [.str kTimes, .int (k : Nat), v]
  | .upto k, v => .tup [.str kUpto, .int (k : Nat), v]
def Sn.ok : Sn → Prop
  | .times k => k < 10
  | .upto k => k < 10
  | _ => True
theorem fig_in {j : Nat} (hj : j < 10) : fig.contains (48 + j) = true := by
  have : ∀ k : Fin 10, fig.contains (48 + k.1) = true := by decide
  exact this ⟨j, hj⟩
theorem digVal_dig {j : Nat} : digVal [48 + j] = j := by
  show 0 * 10 + (48 + j - 48) = j
  omega
theorem sn_sign {s : Sn} (h : s.ok) : Sign s.w s.g := fun v => by
  match s, h with
  | .back, _ => exact ⟨rfl, rfl⟩
  | .first, _ => exact ⟨rfl, rfl⟩
  | .ends, _ => exact ⟨rfl, rfl⟩
  | .times k, h =>
    refine ⟨?_, rfl⟩
    have hn : isNum [48 + k] = true := fig_in h
    have e : ∀ l : W, l.length = 1 → ([35, 48 + k] == l) = false := fun l hl => by
      match l, hl with
      | [a], _ => simp
    show (if [35, 48 + k] == [94] then _ else if [35, 48 + k] == [36] then _ else if [35, 48 + k] == [64] then _ else if ([35] == [35]) && isNum [48 + k] then PV.tup [.str kTimes, .int (digVal [48 + k]), v] else _) = _
    rw [e [94] rfl, e [36] rfl, e [64] rfl, hn, digVal_dig]
    rfl
  | .upto k, h =>
    refine ⟨?_, rfl⟩
    have hn : isNum [48 + k] = true := fig_in h
    have e : ∀ l : W, l.length = 1 → ([60, 48 + k] == l) = false := fun l hl => by
      match l, hl with
      | [a], _ => simp
    show (if [60, 48 + k] == [94] then _ else if [60, 48 + k] == [36] then _ else if [60, 48 + k] == [64] then _ else if ([60] == [35]) && isNum [48 + k] then _ else if ([60] == [60]) && isNum [48 + k] then PV.tup [.str kUpto, .int (digVal [48 + k]), v] else _) = _
    rw [e [94] rfl, e [36] rfl, e [64] rfl, hn, digVal_dig]
    rfl
def sgW : Option Sn → List W
  | none => []
  | some s => [s.w]
def sgG : Option Sn → PV → PV
  | none, v => v
  | some s, v => s.g v
def sgOk : Option Sn → Prop
  | none => True
  | some s => s.ok
structure Atm where
  w : W
  s : Option Sn
def Atm.ok (a : Atm) : Prop := (isName a.w = true ∨ a.w = [61] ∨ a.w = [63]) ∧ sgOk a.s
def Atm.tok (a : Atm) : List W := a.w :: sgW a.s
def Atm.val (a : Atm) : PV := sgG a.s (atom a.w)
def bn (h : Nat) (f g : PV) : PV := .tup [.str (hd h), f, g]
inductive Lv where
  | not
  | par (l : Option Atm) (one two : Nat) (r : Option Atm) (s : Option Sn)
def Lv.left : Option Atm → Nat → List W
  | none, _ => []
  | some a, h => a.tok ++ [sg h]
def Lv.right : Option Atm → Nat → List W
  | none, _ => []
  | some a, h => sg h :: a.tok
def Lv.lead : Lv → List W
  | .not => [[33]]
  | .par l h _ _ _ => [40] :: left l h
def Lv.behind : Lv → List W
  | .not => []
  | .par _ _ h r s => right r h ++ ([41] :: sgW s)
def joined (l : Option Atm) (one : Nat) (f : PV) (two : Nat) (r : Option Atm) : PV := match l, r with
  | none, none => f
  | some a, none => bn one a.val f
  | none, some b => bn two f b.val
  | some a, some b => if two ≤ one then bn two (bn one a.val f) b.val else bn one a.val (bn two f b.val)
def Lv.mk : Lv → PV → PV
  | .not, f => .tup [.str kNot, f]
  | .par l one two r s, f => sgG s (joined l one f two r)
def aOk : Option Atm → Prop
  | none => True
  | some a => a.ok
def Lv.ok : Lv → Prop
  | .not => True
  | .par l one two r s => aOk l ∧ aOk r ∧ one ≤ 2 ∧ two ≤ 2 ∧ sgOk s
def toks (a : Atm) : List Lv → List W
  | [] => a.tok
  | l :: ls => l.lead ++ (toks a ls ++ l.behind)
def form (a : Atm) : List Lv → PV
  | [] => a.val
  | l :: ls => l.mk (form a ls)
theorem Der.down1 {l n : Nat} {t : List W} {f : PV} (hl : l ≤ 2) (h : Der (l + 1) n t f) : Der l n t f := by
  match l, hl with
  | 0, _ => exact .up1 h
  | 1, _ => exact .up2 h
  | 2, _ => exact .up3 h
theorem Der.down {a b n : Nat} {t : List W} {f : PV} (h : Der a n t f) (hb : b ≤ a) (ha : a ≤ 3) : Der b n t f := by
  induction a with
  | zero =>
    have : b = 0 := by omega
    subst this
    exact h
  | succ a ih =>
    by_cases q : b = a + 1
    · subst q; exact h
    · exact ih (h.down1 (by omega)) (by omega) (by omega)
theorem Der.op {h n : Nat} {t s : List W} {f g : PV} (hh : h ≤ 2) (h1 : Der h n t f) (h2 : Der (h + 1) n s g) : Der h n (t ++ sg h :: s) (bn h f g) := by
  match h, hh with
  | 0, _ => exact .or h1 h2
  | 1, _ => exact .and h1 h2
  | 2, _ => exact .then_ h1 h2
theorem der_sg {n : Nat} {t : List W} {f : PV} {s : Option Sn} (h : Der 4 n t f) (hs : sgOk s) : Der 4 n (t ++ sgW s) (sgG s f) := by
  cases s with
  | none =>
    have e : t ++ sgW none = t := by simp [sgW]
    rw [e]
    exact h
  | some s => exact .sign h (sn_sign hs)
theorem der_atm {a : Atm} {n : Nat} (h : a.ok) : Der 3 n a.tok a.val := .up4 (der_sg (.up5 (.atom h.1)) h.2)
theorem Der.cast {l n : Nat} {t s : List W} {f : PV} (h : Der l n t f) (e : s = t) : Der l n s f := e ▸ h
theorem der_lv {l : Lv} (hl : l.ok) {n : Nat} {t : List W} {f : PV} (h : Der 3 n t f) : Der 3 (n + 1) (l.lead ++ (t ++ l.behind)) (l.mk f) := by
  match l, hl with
  | .not, _ =>
    have e : Lv.not.lead ++ (t ++ Lv.not.behind) = [33] :: t := by simp [Lv.lead, Lv.behind]
    rw [e]
    exact .not h
  | .par l one two r s, ⟨hl, hr, h1, h2, hs⟩ =>
    have key : Der 0 n (Lv.left l one ++ (t ++ Lv.right r two)) (joined l one f two r) := by
      match l, r, hl, hr with
      | none, none, _, _ => exact (h.down (b := 0) (by omega) (by omega)).cast (by simp [Lv.left, Lv.right])
      | some a, none, ha, _ => exact ((Der.op h1 ((der_atm ha).down (by omega) (by omega)) (h.down (by omega) (by omega))).down (by omega) (by omega)).cast (by simp [Lv.left, Lv.right])
      | none, some b, _, hb => exact ((Der.op h2 (h.down (by omega) (by omega)) ((der_atm hb).down (by omega) (by omega))).down (by omega) (by omega)).cast (by simp [Lv.left, Lv.right])
      | some a, some b, ha, hb =>
        have q1 := der_atm (n := n) ha
        have q2 := der_atm (n := n) hb
        show Der 0 n _ (if two ≤ one then _ else _)
        by_cases q : two ≤ one
        · rw [if_pos q]
          have z := Der.op h1 (q1.down (by omega) (by omega)) (h.down (b := one + 1) (by omega) (by omega))
          exact ((Der.op h2 (z.down q (by omega)) (q2.down (by omega) (by omega))).down (by omega) (by omega)).cast (by simp [Lv.left, Lv.right])
        · rw [if_neg q]
          have z := Der.op h2 (h.down (b := two) (by omega) (by omega)) (q2.down (b := two + 1) (by omega) (by omega))
          exact ((Der.op h1 (q1.down (by omega) (by omega)) (z.down (by omega) (by omega))).down (by omega) (by omega)).cast (by simp [Lv.left, Lv.right])
    exact (Der.up4 (der_sg (.up5 (.par key)) hs)).cast (by simp [Lv.lead, Lv.behind])
theorem der_all {a : Atm} (ha : a.ok) : ∀ {ls : List Lv}, (∀ l ∈ ls, l.ok) → Der 3 ls.length (toks a ls) (form a ls)
  | [], _ => der_atm ha
  | l :: ls, h => der_lv (h l (by simp)) (der_all ha fun l hl => h l (by simp [hl]))
/-! ### where the reading stops -/
def stopAt : Nat → List Lv → Nat
  | 0, _ => 0
  | _, [] => 0
  | m + 1, l :: ls => l.lead.length + stopAt m ls
/-- from fuel B on it stops at k -/
def No (ws : List W) (B : Nat) (m : MK) (i k : Nat) : Prop := ∀ d, B ≤ d → pp ws d m i = .no k
section
variable {ws : List W} {B deep i k : Nat}
theorem no_part2 (h : No ws B (.one deep) i k) : No ws (B + 1) (.part 2 deep) i k := fun d hd => by
  cases d with
  | zero => omega
  | succ d => exact (part_2).trans (h d (by omega))
theorem no_part {l : Nat} (hl : l < 2) (h : No ws B (.chain (l + 1) deep) i k) : No ws (B + 1) (.part l deep) i k := fun d hd => by
  cases d with
  | zero => omega
  | succ d =>
    match l, hl with
    | 0, _ => exact (part_0).trans (h d (by omega))
    | 1, _ => exact (part_1).trans (h d (by omega))
theorem no_chain {l : Nat} (h : No ws B (.part l deep) i k) : No ws (B + 1) (.chain l deep) i k := fun d hd => by
  cases d with
  | zero => omega
  | succ d => rw [chain_eq, h d (by omega), PR.bind_no]
theorem no_mono {C : Nat} {m : MK} (h : No ws B m i k) (hc : B ≤ C) : No ws C m i k := fun d hd => h d (by omega)
/-- through all levels down to a part -/
theorem no_to {l : Nat} (hl : l ≤ 2) (h : No ws B (.one deep) i k) : No ws (B + 5) (.part l deep) i k := by
  have p2 := no_part2 h
  have p1 := no_part (l := 1) (by omega) (no_chain p2)
  have p0 := no_part (l := 0) (by omega) (no_chain p1)
  match l, hl with
  | 2, _ => exact no_mono p2 (by omega)
  | 1, _ => exact no_mono p1 (by omega)
  | 0, _ => exact p0
theorem no_up {l : Nat} (hl : l ≤ 2) (h : No ws B (.chain l deep) i k) : No ws (B + 2 * l) (.chain 0 deep) i k := by
  match l, hl with
  | 0, _ => exact h
  | 1, _ => exact no_chain (no_part (l := 0) (by omega) h)
  | 2, _ => exact no_chain (no_part (l := 0) (by omega) (no_chain (no_part (l := 1) (by omega) h)))
end
theorem more_no {ws : List W} {p : Nat → PR} {h N j k : Nat} {v : PV} (hs : nx ws j = sg h) (h2 : p (j + 1) = .no k) (hN : 1 ≤ N) : more ws p h N v j = .no k := by
  cases N with
  | zero => omega
  | succ N => rw [more_go hs, h2, PR.bind_no]
theorem fol_sg {h : Nat} (hh : h ≤ 2) : Stop (sg h) ∧ ∀ k, h < k → k ≤ 2 → (sg h == sg k) = false := by
  match h, hh with
  | 0, _ => exact ⟨stop_lit (by decide), fun k h1 h2 => by
      match k, h1, h2 with
      | 1, _, _ => decide
      | 2, _, _ => decide⟩
  | 1, _ => exact ⟨stop_lit (by decide), fun k h1 h2 => by
      match k, h1, h2 with
      | 2, _, _ => decide⟩
  | 2, _ => exact ⟨stop_lit (by decide), fun k h1 h2 => by omega⟩
/-- of a part the fuel that it wants at least, when what is read is an atom -/
theorem chain_atm {ws : List W} {a : Atm} (ha : a.ok) {h deep i d : Nat} (hh : h ≤ 2) (hat : At ws i a.tok) (hs : nx ws (i + a.tok.length) = sg h) (hd : deep ≤ 40) (hf : 7 - 2 * h ≤ d) : Chain ws d deep h i NN a.tok a.val := by
  have hl : a.tok.length < NN := by
    have : a.tok.length ≤ 2 := by
      unfold Atm.tok sgW
      cases a.s <;> simp
    unfold NN
    omega
  have q := says ((der_atm (n := 0) ha).down (b := h) (by omega) (by omega)) ws i deep d NN hat (by omega) (by omega) hl
  obtain ⟨f1, f2⟩ := fol_sg hh
  match h, hh, hf, f1, f2, q with
  | 0, _, hf, f1, f2, q => exact q (by omega) (by rw [hs]; exact ⟨f1, fun k h1 h2 => f2 k (by omega) h2⟩)
  | 1, _, hf, f1, f2, q => exact q (by omega) (by rw [hs]; exact ⟨f1, fun k h1 h2 => f2 k (by omega) h2⟩)
  | 2, _, hf, f1, f2, q => exact q (by omega) (by rw [hs]; exact f1)
theorem refused {ws : List W} : ∀ (m : Nat) (ls : List Lv) (i deep : Nat), (∀ l ∈ ls, l.ok) → m + 1 ≤ ls.length → deep + m = 40 → At ws i (ls.flatMap Lv.lead) → No ws (8 * m + 2) (.one deep) i (i + stopAt m ls) := by
  intro m
  induction m with
  | zero =>
    intro ls i deep hok hm hd ha d hf
    match ls, hok, hm, ha, d, hf with
    | l :: ls, hok, hm, ha, d + 2, hf =>
      have ha : At ws i (l.lead ++ ls.flatMap Lv.lead) := by simpa using ha
      have a1 := (At_app.mp ha).1
      match l, a1 with
      | .not, a1 =>
        show (if (nx ws i == [33]) = true then (if 40 ≤ deep then _ else _) else _) = _
        rw [a1.1, if_pos (by decide), if_pos (by omega)]
        rfl
      | .par _ _ _ _ _, a1 =>
        have e1 : nx ws i = [40] := a1.1
        rw [one_plain (by rw [e1]; decide)]
        show (if (nx ws i == [40]) = true then (if 40 ≤ deep then PR.no i else _) else _).bind _ = _
        rw [e1, if_pos (by decide), if_pos (by omega)]
        rfl
  | succ m ih =>
    intro ls i deep hok hm hd ha d hf
    match ls, hok, hm, ha with
    | l :: ls, hok, hm, ha =>
    have hls : ∀ l ∈ ls, l.ok := fun x hx => hok x (by simp [hx])
    have hm : m + 1 ≤ ls.length := by simpa using hm
    have ha : At ws i (l.lead ++ ls.flatMap Lv.lead) := by simpa using ha
    obtain ⟨a1, a2⟩ := At_app.mp ha
    have key := ih ls (i + l.lead.length) (deep + 1) hls hm (by omega) a2
    have eS : i + l.lead.length + stopAt m ls = i + stopAt (m + 1) (l :: ls) := by
      show _ = i + (l.lead.length + stopAt m ls)
      omega
    rw [eS] at key
    generalize i + stopAt (m + 1) (l :: ls) = K at key
    obtain ⟨d, rfl⟩ : ∃ e, d = e + 2 := ⟨d - 2, by omega⟩
    match l, hok, a1, a2, key with
    | .not, hok, a1, a2, key =>
      have key : No ws (8 * m + 2) (.one (deep + 1)) (i + 1) K := key
      rw [one_not a1.1 (by omega), key _ (by omega), PR.bind_no]
    | .par lf one two r s, hok, a1, a2, key =>
      have hok : aOk lf ∧ aOk r ∧ one ≤ 2 ∧ two ≤ 2 ∧ sgOk s := hok (.par lf one two r s) (List.mem_cons_self)
      have e1 : nx ws i = [40] := a1.1
      have goal : No ws (8 * m + 8) (.chain 0 (deep + 1)) (i + 1) K := by
        match lf, hok.1, a1, key with
        | none, _, a1, key => exact no_chain (no_to (l := 0) (by omega) key)
        | some a, hoa, a1, key =>
          have b1 : At ws (i + 1) (a.tok ++ [sg one]) := a1.2
          obtain ⟨b2, b3⟩ := At_app.mp b1
          have b3 : nx ws (i + 1 + a.tok.length) = sg one := b3.1
          have eJ : i + (Lv.par (some a) one two r s).lead.length = i + 1 + a.tok.length + 1 := by
            simp [Lv.lead, Lv.left]
            omega
          rw [eJ] at key
          have keyB := key
          have pk := no_to hok.2.2.1 key
          have ck : No ws (8 * m + 8 - 2 * one) (.chain one (deep + 1)) (i + 1) K := fun d hd => by
            cases d with
            | zero => omega
            | succ d =>
              obtain ⟨N', q1, q2⟩ := chain_atm hoa (deep := deep + 1) (d := d) hok.2.2.1 b2 b3 (by omega) (by omega)
              rw [chain_eq]
              refine q2.trans (more_no b3 ?_ ?_)
              · have h2 := hok.2.2.1
                have : one = 0 ∨ one = 1 ∨ one = 2 := by omega
                rcases this with rfl | rfl | rfl
                · exact pk d (by omega)
                · exact no_part (l := 1) (by omega) (no_chain (no_part2 keyB)) d (by omega)
                · exact no_part2 keyB d (by omega)
              · have : a.tok.length ≤ 2 := by
                  unfold Atm.tok sgW
                  cases a.s <;> simp
                unfold NN at q1
                omega
          exact no_mono (no_up hok.2.2.1 ck) (by omega)
      rw [one_plain (by rw [e1]; decide), plain_par e1 (by omega), goal _ (by omega)]
      rfl
end K83

set_option maxHeartbeats 8000000
/-! K83w: expressions written. -/
namespace K83
open Vm
inductive F where
  | at (w : W)
  | sg (s : Sn) (f : F)
  | not (f : F)
  | bn (k : Nat) (f g : F)
def F.enc : F → PV
  | .at w => atom w
  | .sg s f => s.g f.enc
  | .not f => .tup [.str kNot, f.enc]
  | .bn k f g => K83.bn k f.enc g.enc
def F.good : F → Prop
  | .at w => isName w = true ∨ w = [61] ∨ w = [63]
  | .sg s f => s.ok ∧ f.good
  | .not f => f.good
  | .bn k f g => k ≤ 2 ∧ f.good ∧ g.good
def par (b : Bool) (t : List W) : List W := if b then [40] :: (t ++ [[41]]) else t
def ht : Nat → F → List W
  | _, .at w => [w]
  | _, .sg s f => ht 4 f ++ [s.w]
  | h, .not f => par (decide (3 < h)) ([33] :: ht 3 f)
  | h, .bn k f g => par (decide (k < h)) (ht k f ++ sg k :: ht (k + 1) g)
def one (b : Bool) : Nat := if b then 1 else 0
def nest : Nat → F → Nat
  | _, .at _ => 0
  | _, .sg _ f => nest 4 f
  | h, .not f => nest 3 f + 1 + one (decide (3 < h))
  | h, .bn k f g => max (nest k f) (nest (k + 1) g) + one (decide (k < h))
def F.deep : F → Nat
  | .at _ => 0
  | .sg _ f => f.deep + 1
  | .not f => f.deep + 1
  | .bn _ f g => max f.deep g.deep + 1
def F.size : F → Nat
  | .at _ => 1
  | .sg _ f => f.size + 1
  | .not f => f.size + 3
  | .bn _ f g => f.size + g.size + 3
theorem par_len (b : Bool) (t : List W) : t.length ≤ (par b t).length ∧ (par b t).length ≤ t.length + 2 := by
  cases b <;> simp [par] <;> omega
theorem ht_size : ∀ (f : F) (h : Nat), (ht h f).length ≤ f.size
  | .at w, h => by simp [ht, F.size]
  | .sg s f, h => by
    have := ht_size f 4
    simp [ht, F.size]
    omega
  | .not f, h => by
    have := ht_size f 3
    have := (par_len (decide (3 < h)) ([33] :: ht 3 f)).2
    simp at this
    simp [ht, F.size]
    omega
  | .bn k f g, h => by
    have := ht_size f k
    have := ht_size g (k + 1)
    have := (par_len (decide (k < h)) (ht k f ++ sg k :: ht (k + 1) g)).2
    simp at this
    simp [ht, F.size]
    omega
theorem Der.down4 {a b n : Nat} {t : List W} {f : PV} (h : Der a n t f) (hb : b ≤ a) (ha : a ≤ 4) : Der b n t f := by
  by_cases q : a = 4
  · subst q
    by_cases q2 : b = 4
    · subst q2; exact h
    · exact (Der.up4 h).down (by omega) (by omega)
  · exact h.down hb (by omega)
theorem der_ht : ∀ (f : F), f.good → ∀ h, h ≤ 4 → Der h (nest h f) (ht h f) f.enc
  | .at w, hg, h, hh => (Der.up5 (.atom hg)).down4 hh (by omega)
  | .sg s f, hg, h, hh => (Der.sign (der_ht f hg.2 4 (by omega)) (sn_sign hg.1)).down4 hh (by omega)
  | .not f, hg, h, hh => by
    have q := Der.not (der_ht f hg 3 (by omega))
    by_cases z : 3 < h
    · show Der h (nest 3 f + 1 + one (decide (3 < h))) (par (decide (3 < h)) ([33] :: ht 3 f)) _
      rw [decide_eq_true z]
      exact (Der.up5 (.par (q.down (b := 0) (by omega) (by omega)))).down4 hh (by omega)
    · show Der h (nest 3 f + 1 + one (decide (3 < h))) (par (decide (3 < h)) ([33] :: ht 3 f)) _
      rw [decide_eq_false z]
      exact q.down (by omega) (by omega)
  | .bn k f g, ⟨hk, hf, hg⟩, h, hh => by
    have q := Der.op hk ((der_ht f hf k (by omega)).le (Nat.le_max_left _ (nest (k + 1) g))) ((der_ht g hg (k + 1) (by omega)).le (Nat.le_max_right (nest k f) _))
    by_cases z : k < h
    · show Der h (max (nest k f) (nest (k + 1) g) + one (decide (k < h))) (par (decide (k < h)) (ht k f ++ sg k :: ht (k + 1) g)) _
      rw [decide_eq_true z]
      exact (Der.up5 (.par (q.down (b := 0) (by omega) (by omega)))).down4 hh (by omega)
    · show Der h (max (nest k f) (nest (k + 1) g) + one (decide (k < h))) (par (decide (k < h)) (ht k f ++ sg k :: ht (k + 1) g)) _
      rw [decide_eq_false z]
      exact q.down (by omega) (by omega)
/-! ### words, joined by blanks -/
abbrev jn (ws : List W) : W := joinP [32] ws
theorem jn_app : ∀ {a b : List W}, a ≠ [] → b ≠ [] → jn (a ++ b) = jn a ++ (32 :: jn b)
  | [x], y :: b, _, _ => rfl
  | x :: y :: a, b, _, hb => by
    show x ++ ([32] ++ jn (y :: a ++ b)) = x ++ ([32] ++ jn (y :: a)) ++ (32 :: jn b)
    rw [jn_app (by simp) hb]
    simp
theorem jn_cons {x : W} {b : List W} (hb : b ≠ []) : jn (x :: b) = x ++ (32 :: jn b) := jn_app (a := [x]) (by simp) hb
theorem par_ne {b : Bool} {t : List W} (h : t ≠ []) : par b t ≠ [] := by
  cases b
  · exact h
  · simp [par]
theorem ht_ne : ∀ (h : Nat) (f : F), ht h f ≠ []
  | _, .at _ => by simp [ht]
  | _, .sg _ _ => by simp [ht]
  | _, .not _ => par_ne (by simp)
  | _, .bn _ _ _ => par_ne (by simp)
theorem jn_len : ∀ {ws : List W}, (∀ w ∈ ws, w.length ≤ 8) → (jn ws).length ≤ 9 * ws.length
  | [], _ => by simp [joinP]
  | [x], h => by
    have := h x (by simp)
    show x.length ≤ _
    simp
    omega
  | x :: y :: r, h => by
    have h1 := h x (by simp)
    have h2 := jn_len (ws := y :: r) fun w hw => h w (by simp at hw ⊢; exact .inr hw)
    show (x ++ ([32] ++ jn (y :: r))).length ≤ _
    simp at h2 ⊢
    omega
def Wd (w : W) : Prop := w.length ≤ 8 ∧ ∀ c ∈ w, c ≠ 32
theorem wd_dec {w : W} (h : (decide (w.length ≤ 8) && w.all (fun c => decide (c ≠ 32))) = true) : Wd w := by
  rw [Bool.and_eq_true] at h
  exact ⟨of_decide_eq_true h.1, fun c hc => of_decide_eq_true (List.all_eq_true.mp h.2 c hc)⟩
theorem wd_name {w : W} (h : isName w = true ∨ w = [61] ∨ w = [63]) : Wd w := by
  rcases h with h | rfl | rfl
  · match w, h with
    | a :: r, h =>
      unfold isName at h
      simp only [Bool.and_eq_true, decide_eq_true_eq, List.all_eq_true] at h
      exact ⟨by omega, fun c hc e => by
        subst e
        exact absurd (h.2 32 hc) (by decide)⟩
  · exact wd_dec (by decide)
  · exact wd_dec (by decide)
theorem wd_sn {s : Sn} (h : s.ok) : Wd s.w := by
  match s, h with
  | .back, _ => exact wd_dec (by decide)
  | .first, _ => exact wd_dec (by decide)
  | .ends, _ => exact wd_dec (by decide)
  | .times k, h =>
    exact ⟨by simp [Sn.w], fun c hc => by
      have hc : c ∈ [35, 48 + k] := hc
      simp only [List.mem_cons, List.not_mem_nil, or_false] at hc
      omega⟩
  | .upto k, h =>
    exact ⟨by simp [Sn.w], fun c hc => by
      have hc : c ∈ [60, 48 + k] := hc
      simp only [List.mem_cons, List.not_mem_nil, or_false] at hc
      omega⟩
theorem wd_sg (k : Nat) : Wd (sg k) := by
  match k with
  | 0 => exact wd_dec (by decide)
  | 1 => exact wd_dec (by decide)
  | _ + 2 => exact wd_dec (w := [59]) (by decide)
theorem wd_par {b : Bool} {t : List W} (h : ∀ w ∈ t, Wd w) : ∀ w ∈ par b t, Wd w := by
  cases b
  · exact h
  · intro w hw
    have hw : w ∈ [40] :: (t ++ [[41]]) := hw
    rcases List.mem_cons.mp hw with rfl | hw
    · exact wd_dec (by decide)
    rcases List.mem_append.mp hw with hw | hw
    · exact h w hw
    · simp at hw
      subst hw
      exact wd_dec (by decide)
theorem ht_wd : ∀ (f : F), f.good → ∀ h, ∀ w ∈ ht h f, Wd w
  | .at v, hg, h, w, hw => by
    have hw : w ∈ [v] := hw
    simp at hw
    subst hw
    exact wd_name hg
  | .sg s f, hg, h, w, hw => by
    have hw : w ∈ ht 4 f ++ [s.w] := hw
    rcases List.mem_append.mp hw with hw | hw
    · exact ht_wd f hg.2 4 w hw
    · simp at hw
      subst hw
      exact wd_sn hg.1
  | .not f, hg, h, w, hw => wd_par (fun w hw => by
    rcases List.mem_cons.mp hw with rfl | hw
    · exact wd_dec (by decide)
    · exact ht_wd f hg 3 w hw) w hw
  | .bn k f g, hg, h, w, hw => wd_par (fun w hw => by
    rcases List.mem_append.mp hw with hw | hw
    · exact ht_wd f hg.2.1 _ w hw
    rcases List.mem_cons.mp hw with rfl | hw
    · exact wd_sg k
    · exact ht_wd g hg.2.2 _ w hw) w hw
theorem ht_len (f : F) (hf : f.good) (h : Nat) : ∀ w ∈ ht h f, w.length ≤ 8 := fun w hw => (ht_wd f hf h w hw).1
theorem cat_s {st : Store} {x y : W} (h : x.length + y.length ≤ SZ) : binop .add (.str x) (.str y) st = some (.str (x ++ y)) := by
  show guardO (decide (x.length + y.length ≤ SZ)) (PV.str (x ++ y)) = _
  rw [decide_eq_true h]
  rfl
theorem jn_par {b : Bool} {t : List W} (h : t ≠ []) : jn (par b t) = if b then ([40, 32] ++ jn t) ++ [32, 41] else jn t := by
  cases b
  · rfl
  · show jn ([40] :: (t ++ [[41]])) = ([40, 32] ++ jn t) ++ [32, 41]
    rw [jn_cons (by simp), jn_app h (by simp)]
    simp [joinP]
theorem num1 {j : Nat} (hj : j < 10) : numStr (j : Nat) = some [48 + j] := by
  unfold numStr
  rw [if_pos (by omega), Int.toNat_natCast]
  show some (if j < 10 then [48 + j] else _) = _
  rw [if_pos hj]
def F.sign : F → PV
  | .sg s _ => .str s.w
  | _ => .non
section
variable {d : Nat}
theorem enc_fx : ∀ (f : F), Fx f.enc
  | .at w => atom_fx w
  | .sg s f => by cases s <;> exact fun _ => rfl
  | .not _ => fun _ => rfl
  | .bn _ _ _ => fun _ => rfl
theorem is2 {c : Nat → List PV → Store → Res PV} {ev : Env} {st : Store} {w : W} {i : Nat} (h : ev[i]? = some (some (.str w))) (l : W) : evE c Γ.gl NN (.cmp .eq (.var i) (.lit (.str l))) ev st = .ok (.bl (w == l)) st := cmp_v (var_v h) lit_v (eqS_v strEq)
theorem it0 {c : Nat → List PV → Store → Res PV} {ev : Env} {st : Store} {xs : List PV} {i : Nat} (h : ev[i]? = some (some (.tup xs))) (n : Nat) {v : PV} (hv : xs[n]? = some v) : evE c Γ.gl NN (.ix (.var i) (.lit (.int n))) ev st = .ok v st := by
  refine ix_v (var_v h) lit_v ?_
  show itemAt xs ((n : Nat) : Int) = _
  obtain ⟨h1, h2⟩ := List.getElem?_eq_some_iff.mp hv
  rw [item_nat _ _ h1, h2]
theorem ix0 {c : Nat → List PV → Store → Res PV} {ev : Env} {st : Store} {v : PV} {xs : List PV} {i : Nat} (h : ev[i]? = some (some (.tup (v :: xs)))) : evE c Γ.gl NN (.ix (.var i) (.lit (.int 0))) ev st = .ok v st := it0 h 0 rfl
theorem ix1 {c : Nat → List PV → Store → Res PV} {ev : Env} {st : Store} {u v : PV} {xs : List PV} {i : Nat} (h : ev[i]? = some (some (.tup (u :: v :: xs)))) : evE c Γ.gl NN (.ix (.var i) (.lit (.int 1))) ev st = .ok v st := it0 h 1 rfl
theorem ix2 {c : Nat → List PV → Store → Res PV} {ev : Env} {st : Store} {u v w : PV} {xs : List PV} {i : Nat} (h : ev[i]? = some (some (.tup (u :: v :: w :: xs)))) : evE c Γ.gl NN (.ix (.var i) (.lit (.int 2))) ev st = .ok w st := it0 h 2 rfl
theorem it_last {c : Nat → List PV → Store → Res PV} {ev : Env} {st : Store} {xs : List PV} {v : PV} (h : ev[0]? = some (some (.tup (xs ++ [v])))) : evE c Γ.gl NN (.ix (.var 0) (.neg (.lit (.int 1)))) ev st = .ok v st := by
  refine ix_v (v := .int (-1)) (var_v h) rfl ?_
  show itemAt (xs ++ [v]) (-1) = _
  unfold itemAt ixOf
  rw [if_neg (by omega), if_pos (by simp; omega)]
  show (xs ++ [v])[(xs ++ [v]).length - 1]? = _
  simp
/-- a written dict of two -/
def d2 : List (PV × PV) := [(.str kTimes, .str [35]), (.str kUpto, .str [60])]
theorem sign_num (st : Store) (k : W) (j : Nat) (hj : j < 10) (v : PV) (s : W) (hk : dget d2 (.str k) = some (.str s)) (h6 : khas (Γ.gl 6) (.str k) = some false) (ht : ([kTimes, kUpto] : List W).contains k = true) (hs : s.length ≤ 1) : R (d + 1) 2 [.tup [.str k, .int (j : Nat), v]] st = .ok (.str (s ++ [48 + j])) (st ++ [.dic false d2]) := by
  rw [run_eq (fn := r2.c) (by decide) rfl rfl]
  unfold r2
  show (evS (R d) Γ.gl NN _ [some (.tup [.str k, .int (j : Nat), v]), none] st).bind fin = _
  rw [cons_nx (asg_nm (v := .str k) (ix0 rfl))]
  show (evS (R d) Γ.gl NN _ [some (.tup [.str k, .int (j : Nat), v]), some (.str k)] st).bind fin = _
  have c1 : evE (R d) Γ.gl NN (.kin false 6 (.var 1)) [some (.tup [.str k, .int (j : Nat), v]), some (.str k)] st = .ok (.bl false) st := by
    show Res.of ((khas (Γ.gl 6) (.str k)).map fun b => PV.bl (b != false)) st = _
    rw [h6]
    rfl
  rw [cons_nx ((if_f c1).trans rfl)]
  have c2 : evE (R d) Γ.gl NN (.cmp .isin (.var 1) (.tup (.cons (.lit (.str [116, 105, 109, 101, 115])) (.cons (.lit (.str [117, 112, 116, 111])) .nil)))) [some (.tup [.str k, .int (j : Nat), v]), some (.str k)] st = .ok (.bl (([kTimes, kUpto] : List W).contains k)) st := cmp_v (var_v rfl) (tup_v (us := [kTimes, kUpto].map .str) (cons_p lit_v (cons_p lit_v nil_v)) (by simp [SZ])) isin_strs
  rw [ht] at c2
  have e3 : evE (R d) Γ.gl NN (.ix (.ddisp (.cons (.lit (.str [116, 105, 109, 101, 115])) (.cons (.lit (.str [35])) (.cons (.lit (.str [117, 112, 116, 111])) (.cons (.lit (.str [60])) .nil))))) (.var 1)) [some (.tup [.str k, .int (j : Nat), v]), some (.str k)] st = .ok (.str s) (st ++ [.dic false d2]) := by
    refine ix_v (u := .loc st.length) (st1 := st ++ [.dic false d2]) rfl (var_v rfl) ?_
    show indexG (.loc st.length) (.str k) (st ++ [.dic false d2]) = _
    unfold indexG dv
    dsimp only
    rw [get_last]
    exact hk
  have e4 : evE (R d) Γ.gl NN (.blt1 .str (.ix (.var 0) (.lit (.int 1)))) [some (.tup [.str k, .int (j : Nat), v]), some (.str k)] (st ++ [.dic false d2]) = .ok (.str [48 + j]) (st ++ [.dic false d2]) := blt1_v (u := .int (j : Nat)) (ix1 rfl) (by
    show (numStr (j : Nat)).map PV.str = _
    rw [num1 hj]
    rfl)
  have e5 := bin_v e3 e4 (cat_s (by unfold SZ; simp; omega))
  rw [cons_rt ((if_t c2).trans (cons_rt (ret_v e5)))]
  rfl
theorem sign_run (f : F) (hf : f.good) (st : Store) : ∃ x, R (d + 1) 2 [f.enc] st = .ok f.sign (st ++ x) := by
  match f, hf with
  | .at w, hf =>
    refine ⟨[], ?_⟩
    rw [List.append_nil]
    show R (d + 1) 2 [atom w] st = _
    unfold atom
    by_cases h1 : (w == [61]) = true
    · rw [if_pos h1]; rfl
    rw [if_neg h1]
    by_cases h2 : (w == [63]) = true
    · rw [if_pos h2]; rfl
    rw [if_neg h2]
    rfl
  | .not f, _ => exact ⟨[], by rw [List.append_nil]; rfl⟩
  | .bn 0 f g, _ => exact ⟨[], by rw [List.append_nil]; rfl⟩
  | .bn 1 f g, _ => exact ⟨[], by rw [List.append_nil]; rfl⟩
  | .bn (k + 2) f g, _ => exact ⟨[], by rw [List.append_nil]; rfl⟩
  | .sg .back f, _ => exact ⟨[], by rw [List.append_nil]; rfl⟩
  | .sg .first f, _ => exact ⟨[], by rw [List.append_nil]; rfl⟩
  | .sg .ends f, _ => exact ⟨[], by rw [List.append_nil]; rfl⟩
  | .sg (.times j) f, h => exact ⟨_, sign_num st kTimes j h.1 f.enc [35] rfl rfl rfl (by simp)⟩
  | .sg (.upto j) f, h => exact ⟨_, sign_num st kUpto j h.1 f.enc [60] rfl rfl rfl (by simp)⟩
/-- what held_expression says -/
def Hs (d : Nat) (f : F) : Prop := ∀ (h : Nat) (st : Store), (ht h f).length ≤ 1000 → ∃ x, R d 3 [f.enc, .int h] st = .ok (.str (jn (ht h f))) (st ++ x)
theorem held_at {w : W} (hg : (F.at w).good) : Hs (d + 2) (.at w) := by
  intro h st hl
  obtain ⟨x, ex⟩ := sign_run (d := d) (.at w) hg st
  refine ⟨x, ?_⟩
  rw [run_eq (fn := r3.c) (by decide) rfl rfl]
  unfold r3
  show (evS (R (d + 1)) Γ.gl NN _ [some (atom w), some (.int h), none, none, none, none] st).bind fin = .ok (.str w) _
  have ex : R (d + 1) 2 [atom w] st = .ok .non (st ++ x) := ex
  have key : ∀ (xs : List PV) (k : W), atom w = .tup (.str k :: xs) → (evS (R (d + 1)) Γ.gl NN r3.c.body [some (atom w), some (.int h), none, none, none, none] st) = (evS (R (d + 1)) Γ.gl NN (.cons (.if_ (.cmp .eq (.var 2) (.lit (.str [116, 105, 101]))) (.cons (.ret (.ix (.var 0) (.lit (.int 1)))) .nil) .nil) (.cons (.if_ (.cmp .isin (.var 2) (.tup (.cons (.lit (.str [115, 97, 109, 101])) (.cons (.lit (.str [97, 108, 108])) .nil)))) (.cons (.ret (.ite (.cmp .eq (.var 2) (.lit (.str [115, 97, 109, 101]))) (.lit (.str [61])) (.lit (.str [63])))) .nil) .nil) (.cons (.if_ (.cmp .isnot (.var 3) (.lit .non)) (.cons (.ret (.bin .add (.bin .add (.call 3 (.cons (.ix (.var 0) (.neg (.lit (.int 1)))) (.cons (.lit (.int 4)) .nil))) (.lit (.str [32]))) (.var 3))) .nil) .nil) (.cons (.if_ (.cmp .eq (.var 2) (.lit (.str [110, 111, 116]))) (.cons (.asg (.name 4) (.lit (.int 3))) (.cons (.asg (.name 5) (.bin .add (.lit (.str [33, 32])) (.call 3 (.cons (.ix (.var 0) (.lit (.int 1))) (.cons (.lit (.int 3)) .nil))))) .nil)) (.cons (.asg (.name 4) (.kix 4 (.var 2))) (.cons (.asg (.name 5) (.bin .add (.bin .add (.bin .add (.bin .add (.call 3 (.cons (.ix (.var 0) (.lit (.int 1))) (.cons (.var 4) .nil))) (.lit (.str [32]))) (.kix 5 (.var 2))) (.lit (.str [32]))) (.call 3 (.cons (.ix (.var 0) (.lit (.int 2))) (.cons (.bin .add (.var 4) (.lit (.int 1))) .nil))))) .nil))) (.cons (.ret (.ite (.cmp .gt (.var 1) (.var 4)) (.bin .add (.bin .add (.lit (.str [40, 32])) (.var 5)) (.lit (.str [32, 41]))) (.var 5))) .nil))))) [some (atom w), some (.int h), some (.str k), some .non, none, none] (st ++ x)) := fun xs k hk => by
    unfold r3
    rw [hk]
    rw [hk] at ex
    refine (cons_nx (asg_nm (v := .str k) (ix0 rfl))).trans ?_
    show (evS (R (d + 1)) Γ.gl NN _ [some (.tup (.str k :: xs)), some (.int h), some (.str k), none, none, none] st) = _
    exact (cons_nx (asg_nm (call_v (vs := [.tup (.str k :: xs)]) (cons_p (var_v rfl) nil_v) ex))).trans rfl
  by_cases h1 : (w == [61]) = true
  · have e : atom w = .tup [.str kSame] := by unfold atom; rw [if_pos h1]
    have := key _ _ e
    unfold r3 at this
    rw [this, eq_of_beq h1]
    rfl
  by_cases h2 : (w == [63]) = true
  · have e : atom w = .tup [.str kAll] := by unfold atom; rw [if_neg h1, if_pos h2]
    have := key _ _ e
    unfold r3 at this
    rw [this, eq_of_beq h2]
    rfl
  have e : atom w = .tup [.str kTie, .str w] := by unfold atom; rw [if_neg h1, if_neg h2]
  have := key _ _ e
  unfold r3 at this
  rw [this, e]
  rfl
end
end K83

set_option maxHeartbeats 8000000
/-! K83x: expressions written, whole; how deep. -/
namespace K83
open Vm
def restC : CS := (.cons (.if_ (.cmp .isnot (.var 3) (.lit .non)) (.cons (.ret (.bin .add (.bin .add (.call 3 (.cons (.ix (.var 0) (.neg (.lit (.int 1)))) (.cons (.lit (.int 4)) .nil))) (.lit (.str [32]))) (.var 3))) .nil) .nil) (.cons (.if_ (.cmp .eq (.var 2) (.lit (.str [110, 111, 116]))) (.cons (.asg (.name 4) (.lit (.int 3))) (.cons (.asg (.name 5) (.bin .add (.lit (.str [33, 32])) (.call 3 (.cons (.ix (.var 0) (.lit (.int 1))) (.cons (.lit (.int 3)) .nil))))) .nil)) (.cons (.asg (.name 4) (.kix 4 (.var 2))) (.cons (.asg (.name 5) (.bin .add (.bin .add (.bin .add (.bin .add (.call 3 (.cons (.ix (.var 0) (.lit (.int 1))) (.cons (.var 4) .nil))) (.lit (.str [32]))) (.kix 5 (.var 2))) (.lit (.str [32]))) (.call 3 (.cons (.ix (.var 0) (.lit (.int 2))) (.cons (.bin .add (.var 4) (.lit (.int 1))) .nil))))) .nil))) (.cons (.ret (.ite (.cmp .gt (.var 1) (.var 4)) (.bin .add (.bin .add (.lit (.str [40, 32])) (.var 5)) (.lit (.str [32, 41]))) (.var 5))) .nil)))
section
variable {d : Nat}
theorem inq {c : Nat → List PV → Store → Res PV} {ev : Env} {st : Store} {w : W} (h : ev[2]? = some (some (.str w))) : evE c Γ.gl NN (.cmp .isin (.var 2) (.tup (.cons (.lit (.str [115, 97, 109, 101])) (.cons (.lit (.str [97, 108, 108])) .nil)))) ev st = .ok (.bl (([kSame, kAll] : List W).contains w)) st := cmp_v (var_v h) (tup_v (us := [kSame, kAll].map .str) (cons_p lit_v (cons_p lit_v nil_v)) (by simp [SZ])) isin_strs
theorem held_go {f : F} (hf : f.good) {k : W} {xs : List PV} (he : f.enc = .tup (.str k :: xs)) (n1 : (k == kTie) = false) (n2 : ([kSame, kAll] : List W).contains k = false) (h : Nat) (st : Store) : ∃ x, ∀ r, (evS (R (d + 1)) Γ.gl NN restC [some f.enc, some (.int h), some (.str k), some f.sign, none, none] (st ++ x)).bind fin = r → R (d + 2) 3 [f.enc, .int h] st = r := by
  obtain ⟨x, ex⟩ := sign_run (d := d) f hf st
  refine ⟨x, fun r hr => ?_⟩
  have sx : Fx f.sign := by cases f <;> exact fun _ => rfl
  rw [run_eq (fn := r3.c) (by decide) rfl rfl, ← hr]
  unfold r3
  rw [he] at ex ⊢
  show (evS (R (d + 1)) Γ.gl NN _ [some (.tup (.str k :: xs)), some (.int h), none, none, none, none] st).bind fin = _
  rw [cons_nx (asg_nm (v := .str k) (ix0 rfl))]
  show (evS (R (d + 1)) Γ.gl NN _ [some (.tup (.str k :: xs)), some (.int h), some (.str k), none, none, none] st).bind fin = _
  have e3 : evS (R (d + 1)) Γ.gl NN (.asg (.name 3) (.call 2 (.cons (.var 0) .nil))) [some (.tup (.str k :: xs)), some (.int h), some (.str k), none, none, none] st = .ok (.nx [some (.tup (.str k :: xs)), some (.int h), some (.str k), some f.sign, none, none]) (st ++ x) := by
    rw [asg_nm (call_v (vs := [.tup (.str k :: xs)]) (cons_p (var_v rfl) nil_v) ex), sx]
    rfl
  rw [cons_nx e3]
  rw [cons_nx ((if_f ((is2 rfl _).trans (by rw [n1]))).trans rfl)]
  rw [cons_nx ((if_f ((inq rfl).trans (by rw [n2]))).trans rfl)]
  rfl
theorem held_sg {s : Sn} {f : F} (hg : (F.sg s f).good) (ih : Hs (d + 1) f) : Hs (d + 2) (.sg s f) := by
  intro h st hl
  have hl' : (ht 4 f).length + 1 ≤ 1000 := by simpa [ht] using hl
  have key : ∃ (ps : List PV) (k : W), (F.sg s f).enc = .tup (.str k :: ps ++ [f.enc]) ∧ (k == kTie) = false ∧ ([kSame, kAll] : List W).contains k = false := by
    cases s with
    | back => exact ⟨[], _, rfl, rfl, rfl⟩
    | first => exact ⟨[], _, rfl, rfl, rfl⟩
    | ends => exact ⟨[], _, rfl, rfl, rfl⟩
    | times j => exact ⟨[.int (j : Nat)], _, rfl, rfl, rfl⟩
    | upto j => exact ⟨[.int (j : Nat)], _, rfl, rfl, rfl⟩
  obtain ⟨ps, k, e1, e2, e3⟩ := key
  obtain ⟨x, hx⟩ := held_go (d := d) hg e1 e2 e3 h st
  obtain ⟨y, hy⟩ := ih 4 (st ++ x) (by omega)
  refine ⟨x ++ y, hx _ ?_⟩
  rw [e1, ← List.append_assoc]
  have b1 := jn_len (ht_len f hg.2 4)
  have b2 := (wd_sn hg.1).1
  have c1 : evE (R (d + 1)) Γ.gl NN (.cmp .isnot (.var 3) (.lit .non)) [some (.tup (.str k :: ps ++ [f.enc])), some (.int h), some (.str k), some (.str s.w), none, none] (st ++ x) = .ok (.bl true) (st ++ x) := rfl
  have et : jn (ht h (.sg s f)) = (jn (ht 4 f) ++ [32]) ++ s.w := by
    show jn (ht 4 f ++ [s.w]) = _
    rw [jn_app (ht_ne 4 f) (by simp)]
    simp [joinP]
  have e5 : evE (R (d + 1)) Γ.gl NN (.bin .add (.bin .add (.call 3 (.cons (.ix (.var 0) (.neg (.lit (.int 1)))) (.cons (.lit (.int 4)) .nil))) (.lit (.str [32]))) (.var 3)) [some (.tup (.str k :: ps ++ [f.enc])), some (.int h), some (.str k), some (.str s.w), none, none] (st ++ x) = .ok (.str (jn (ht h (.sg s f)))) (st ++ x ++ y) := by
    rw [et]
    exact bin_v (bin_v (call_v (vs := [f.enc, .int ((4 : Nat) : Int)]) (cons_p (it_last (xs := .str k :: ps) rfl) (cons_p lit_v nil_v) (enc_fx f _)) hy) lit_v (cat_s (by unfold SZ; simp; omega))) (var_v rfl) (cat_s (by unfold SZ; simp; omega))
  show (evS (R (d + 1)) Γ.gl NN restC [some (.tup (.str k :: ps ++ [f.enc])), some (.int h), some (.str k), some (.str s.w), none, none] (st ++ x)).bind fin = _
  unfold restC
  rw [cons_rt (v := .str (jn (ht h (.sg s f)))) (st1 := st ++ x ++ y) ((if_t c1).trans (cons_rt (ret_v e5)))]
  rfl
/-- the end: parentheses or none -/
theorem held_end {c : Nat → List PV → Store → Res PV} {z0 z2 z3 : Option PV} {h k : Nat} {t : List W} (ht : t ≠ []) (hl : (jn t).length ≤ 20000) (st : Store) : (evS c Γ.gl NN (.cons (.ret (.ite (.cmp .gt (.var 1) (.var 4)) (.bin .add (.bin .add (.lit (.str [40, 32])) (.var 5)) (.lit (.str [32, 41]))) (.var 5))) .nil) [z0, some (.int h), z2, z3, some (.int k), some (.str (jn t))] st).bind fin = .ok (.str (jn (par (decide (k < h)) t))) st := by
  have c5 : evE c Γ.gl NN (.cmp .gt (.var 1) (.var 4)) [z0, some (.int h), z2, z3, some (.int k), some (.str (jn t))] st = .ok (.bl (decide (((k : Nat) : Int) < h))) st := cmp_v (var_v rfl) (var_v rfl) rfl
  have big : evE c Γ.gl NN (.ite (.cmp .gt (.var 1) (.var 4)) (.bin .add (.bin .add (.lit (.str [40, 32])) (.var 5)) (.lit (.str [32, 41]))) (.var 5)) [z0, some (.int h), z2, z3, some (.int k), some (.str (jn t))] st = .ok (.str (jn (par (decide (k < h)) t))) st := by
    rw [jn_par ht]
    by_cases hh : k < h
    · rw [decide_eq_true (by omega)] at c5
      rw [ite_t c5, decide_eq_true hh, if_pos rfl]
      exact bin_v (bin_v lit_v (var_v rfl) (cat_s (by unfold SZ; simp; omega))) lit_v (cat_s (by unfold SZ; simp; omega))
    · rw [decide_eq_false (by omega)] at c5
      rw [ite_f c5, decide_eq_false hh, if_neg (by decide)]
      exact var_v rfl
  rw [cons_rt (ret_v big)]
  rfl
theorem held_not {f : F} (hg : f.good) (ih : Hs (d + 1) f) : Hs (d + 2) (.not f) := by
  intro h st hl
  have hl' : (ht 3 f).length + 1 ≤ 1000 := by
    have := (par_len (decide (3 < h)) ([33] :: ht 3 f)).1
    have hl : (par (decide (3 < h)) ([33] :: ht 3 f)).length ≤ 1000 := hl
    simp at this
    omega
  obtain ⟨x, hx⟩ := held_go (d := d) (f := .not f) hg rfl rfl rfl h st
  obtain ⟨y, hy⟩ := ih 3 (st ++ x) (by omega)
  refine ⟨x ++ y, hx _ ?_⟩
  rw [← List.append_assoc]
  have b1 := jn_len (ht_len f hg 3)
  have et : jn ([33] :: ht 3 f) = [33, 32] ++ jn (ht 3 f) := by
    rw [jn_cons (ht_ne 3 f)]
    rfl
  show (evS (R (d + 1)) Γ.gl NN restC [some (.tup [.str kNot, f.enc]), some (.int h), some (.str kNot), some .non, none, none] (st ++ x)).bind fin = _
  unfold restC
  rw [cons_nx ((if_f (e := .cmp .isnot (.var 3) (.lit .non)) rfl).trans rfl)]
  have e5 : evE (R (d + 1)) Γ.gl NN (.bin .add (.lit (.str [33, 32])) (.call 3 (.cons (.ix (.var 0) (.lit (.int 1))) (.cons (.lit (.int 3)) .nil)))) [some (.tup [.str kNot, f.enc]), some (.int h), some (.str kNot), some .non, some (.int 3), none] (st ++ x) = .ok (.str (jn ([33] :: ht 3 f))) (st ++ x ++ y) := by
    rw [et]
    exact bin_v lit_v (call_v (vs := [f.enc, .int ((3 : Nat) : Int)]) (cons_p (ix1 rfl) (cons_p lit_v nil_v) (enc_fx f _)) hy) (cat_s (by unfold SZ; simp; omega))
  have e6 : evS (R (d + 1)) Γ.gl NN (.cons (.asg (.name 4) (.lit (.int 3))) (.cons (.asg (.name 5) (.bin .add (.lit (.str [33, 32])) (.call 3 (.cons (.ix (.var 0) (.lit (.int 1))) (.cons (.lit (.int 3)) .nil))))) .nil)) [some (.tup [.str kNot, f.enc]), some (.int h), some (.str kNot), some .non, none, none] (st ++ x) = .ok (.nx [some (.tup [.str kNot, f.enc]), some (.int h), some (.str kNot), some .non, some (.int 3), some (.str (jn ([33] :: ht 3 f)))]) (st ++ x ++ y) :=
    (cons_nx (asg_nm (v := .int 3) lit_v)).trans ((cons_nx (asg_nm e5)).trans rfl)
  rw [cons_nx ((if_t ((is2 rfl _).trans rfl)).trans e6)]
  exact held_end (k := 3) (by simp) (by rw [et]; simp; omega) _
theorem held_bn {k : Nat} {f g : F} (hg : (F.bn k f g).good) (i1 : Hs (d + 1) f) (i2 : Hs (d + 1) g) : Hs (d + 2) (.bn k f g) := by
  intro h st hl
  have hl' : (ht k f).length + ((ht (k + 1) g).length + 1) ≤ 1000 := by
    have := (par_len (decide (k < h)) (ht k f ++ sg k :: ht (k + 1) g)).1
    have hl : (par (decide (k < h)) (ht k f ++ sg k :: ht (k + 1) g)).length ≤ 1000 := hl
    simp at this
    omega
  have q : ∀ k ≤ 2, (hd k == kTie) = false ∧ ([kSame, kAll] : List W).contains (hd k) = false ∧ (hd k == kNot) = false ∧ kget (Γ.gl 4) (.str (hd k)) = some (.int (k : Nat)) ∧ kget (Γ.gl 5) (.str (hd k)) = some (.str (sg k)) := fun k hk => by
    match k, hk with
    | 0, _ => exact ⟨rfl, rfl, rfl, rfl, rfl⟩
    | 1, _ => exact ⟨rfl, rfl, rfl, rfl, rfl⟩
    | 2, _ => exact ⟨rfl, rfl, rfl, rfl, rfl⟩
  obtain ⟨q1, q2, q3, q4, q5⟩ := q k hg.1
  obtain ⟨x, hx⟩ := held_go (d := d) (f := .bn k f g) hg rfl q1 q2 h st
  obtain ⟨y, hy⟩ := i1 k (st ++ x) (by omega)
  obtain ⟨z, hz⟩ := i2 (k + 1) (st ++ x ++ y) (by omega)
  refine ⟨x ++ (y ++ z), hx _ ?_⟩
  have es : st ++ (x ++ (y ++ z)) = st ++ x ++ y ++ z := by simp
  rw [es]
  have b1 := jn_len (ht_len f hg.2.1 k)
  have b2 := jn_len (ht_len g hg.2.2 (k + 1))
  have b3 := (wd_sg k).1
  let t : W := (((jn (ht k f) ++ [32]) ++ sg k) ++ [32]) ++ jn (ht (k + 1) g)
  have et : jn (ht k f ++ sg k :: ht (k + 1) g) = t := by
    rw [jn_app (ht_ne k f) (by simp), jn_cons (ht_ne (k + 1) g)]
    simp [t]
  have tl : t.length ≤ 20000 := by simp [t]; omega
  show (evS (R (d + 1)) Γ.gl NN restC [some (.tup [.str (hd k), f.enc, g.enc]), some (.int h), some (.str (hd k)), some .non, none, none] (st ++ x)).bind fin = _
  unfold restC
  rw [cons_nx ((if_f (e := .cmp .isnot (.var 3) (.lit .non)) rfl).trans rfl)]
  have e4 : evE (R (d + 1)) Γ.gl NN (.kix 4 (.var 2)) [some (.tup [.str (hd k), f.enc, g.enc]), some (.int h), some (.str (hd k)), some .non, none, none] (st ++ x) = .ok (.int (k : Nat)) (st ++ x) := by
    show Res.of (kget (Γ.gl 4) (.str (hd k))) (st ++ x) = _
    rw [q4]
    rfl
  have e5 : ∀ st, evE (R (d + 1)) Γ.gl NN (.kix 5 (.var 2)) [some (.tup [.str (hd k), f.enc, g.enc]), some (.int h), some (.str (hd k)), some .non, some (.int k), none] st = .ok (.str (sg k)) st := fun st => by
    show Res.of (kget (Γ.gl 5) (.str (hd k))) st = _
    rw [q5]
    rfl
  have e6 : evE (R (d + 1)) Γ.gl NN (.bin .add (.bin .add (.bin .add (.bin .add (.call 3 (.cons (.ix (.var 0) (.lit (.int 1))) (.cons (.var 4) .nil))) (.lit (.str [32]))) (.kix 5 (.var 2))) (.lit (.str [32]))) (.call 3 (.cons (.ix (.var 0) (.lit (.int 2))) (.cons (.bin .add (.var 4) (.lit (.int 1))) .nil)))) [some (.tup [.str (hd k), f.enc, g.enc]), some (.int h), some (.str (hd k)), some .non, some (.int k), none] (st ++ x) = .ok (.str t) (st ++ x ++ y ++ z) :=
    bin_v (bin_v (bin_v (bin_v (call_v (cons_p (ix1 rfl) (cons_p (var_v rfl) nil_v) (enc_fx f _)) hy) lit_v (cat_s (by unfold SZ; simp; omega))) (e5 _) (cat_s (by unfold SZ; simp; omega))) lit_v (cat_s (by unfold SZ; simp; omega))) (call_v (vs := [g.enc, .int ((k + 1 : Nat) : Int)]) (cons_p (ix2 rfl) (cons_p (bin_v (var_v rfl) lit_v rfl) nil_v) (enc_fx g _)) hz) (cat_s (by unfold SZ; simp; omega))
  have e7 : evS (R (d + 1)) Γ.gl NN (.if_ (.cmp .eq (.var 2) (.lit (.str [110, 111, 116]))) (.cons (.asg (.name 4) (.lit (.int 3))) (.cons (.asg (.name 5) (.bin .add (.lit (.str [33, 32])) (.call 3 (.cons (.ix (.var 0) (.lit (.int 1))) (.cons (.lit (.int 3)) .nil))))) .nil)) (.cons (.asg (.name 4) (.kix 4 (.var 2))) (.cons (.asg (.name 5) (.bin .add (.bin .add (.bin .add (.bin .add (.call 3 (.cons (.ix (.var 0) (.lit (.int 1))) (.cons (.var 4) .nil))) (.lit (.str [32]))) (.kix 5 (.var 2))) (.lit (.str [32]))) (.call 3 (.cons (.ix (.var 0) (.lit (.int 2))) (.cons (.bin .add (.var 4) (.lit (.int 1))) .nil))))) .nil))) [some (.tup [.str (hd k), f.enc, g.enc]), some (.int h), some (.str (hd k)), some .non, none, none] (st ++ x) = .ok (.nx [some (.tup [.str (hd k), f.enc, g.enc]), some (.int h), some (.str (hd k)), some .non, some (.int k), some (.str t)]) (st ++ x ++ y ++ z) := by
    refine (if_f ((is2 rfl _).trans (by rw [q3]))).trans ?_
    exact (cons_nx (asg_nm e4)).trans ((cons_nx (asg_nm e6)).trans rfl)
  rw [cons_nx e7, ← et]
  exact held_end (by simp) (by rw [et]; exact tl) _
theorem held_all : ∀ (f : F), f.good → ∀ d, f.deep + 2 ≤ d → Hs d f
  | .at w, hg, d + 2, _ => held_at hg
  | .sg s f, hg, d + 2, h => held_sg hg (held_all f hg.2 (d + 1) (by simp [F.deep] at h; omega))
  | .not f, hg, d + 2, h => held_not hg (held_all f hg (d + 1) (by simp [F.deep] at h; omega))
  | .bn k f g, hg, d + 2, h => held_bn hg (held_all f hg.2.1 (d + 1) (by simp [F.deep] at h; omega)) (held_all g hg.2.2 (d + 1) (by simp [F.deep] at h; omega))
  | .at w, hg, 0, h => absurd h (by omega)
  | .sg s f, hg, 0, h => absurd h (by omega)
  | .not f, hg, 0, h => absurd h (by omega)
  | .bn k f g, hg, 0, h => absurd h (by omega)
  | .at w, hg, 1, h => absurd h (by omega)
  | .sg s f, hg, 1, h => absurd h (by omega)
  | .not f, hg, 1, h => absurd h (by omega)
  | .bn k f g, hg, 1, h => absurd h (by omega)
end
/-! ### the formulas of levels -/
def sgF : Option Sn → F → F
  | none, f => f
  | some s, f => .sg s f
def Atm.f (a : Atm) : F := sgF a.s (.at a.w)
def joinF (l : Option Atm) (one : Nat) (f : F) (two : Nat) (r : Option Atm) : F := match l, r with
  | none, none => f
  | some a, none => .bn one a.f f
  | none, some b => .bn two f b.f
  | some a, some b => if two ≤ one then .bn two (.bn one a.f f) b.f else .bn one a.f (.bn two f b.f)
def Lv.mkF : Lv → F → F
  | .not, f => .not f
  | .par l one two r s, f => sgF s (joinF l one f two r)
def formF (a : Atm) : List Lv → F
  | [] => a.f
  | l :: ls => l.mkF (formF a ls)
theorem sgF_enc (s : Option Sn) (f : F) : (sgF s f).enc = sgG s f.enc := by cases s <;> rfl
theorem atm_enc (a : Atm) : a.f.enc = a.val := sgF_enc _ _
theorem joinF_enc (l : Option Atm) (one : Nat) (f : F) (two : Nat) (r : Option Atm) : (joinF l one f two r).enc = joined l one f.enc two r := by
  match l, r with
  | none, none => rfl
  | some a, none => show K83.bn one a.f.enc f.enc = K83.bn one a.val f.enc; rw [atm_enc]
  | none, some b => show K83.bn two f.enc b.f.enc = K83.bn two f.enc b.val; rw [atm_enc]
  | some a, some b =>
    show (if two ≤ one then F.bn two (.bn one a.f f) b.f else .bn one a.f (.bn two f b.f)).enc = if two ≤ one then K83.bn two (K83.bn one a.val f.enc) b.val else K83.bn one a.val (K83.bn two f.enc b.val)
    rw [← atm_enc, ← atm_enc]
    split <;> rfl
theorem mkF_enc (l : Lv) (f : F) : (l.mkF f).enc = l.mk f.enc := by
  match l with
  | .not => rfl
  | .par l one two r s => show (sgF s _).enc = _; rw [sgF_enc, joinF_enc]; rfl
theorem formF_enc (a : Atm) : ∀ ls : List Lv, (formF a ls).enc = form a ls
  | [] => atm_enc a
  | l :: ls => by
    show (l.mkF (formF a ls)).enc = _
    rw [mkF_enc, formF_enc a ls]
    rfl
theorem sgF_good {s : Option Sn} {f : F} (hs : sgOk s) (hf : f.good) : (sgF s f).good := by
  cases s
  · exact hf
  · exact ⟨hs, hf⟩
theorem atm_good {a : Atm} (h : a.ok) : a.f.good := sgF_good h.2 h.1
theorem mkF_good {l : Lv} {f : F} (hl : l.ok) (hf : f.good) : (l.mkF f).good := by
  match l, hl with
  | .not, _ => exact hf
  | .par l one two r s, ⟨h1, h2, h3, h4, h5⟩ =>
    refine sgF_good h5 ?_
    match l, r, h1, h2 with
    | none, none, _, _ => exact hf
    | some a, none, h1, _ => exact ⟨h3, atm_good h1, hf⟩
    | none, some b, _, h2 => exact ⟨h4, hf, atm_good h2⟩
    | some a, some b, h1, h2 =>
      show (if two ≤ one then F.bn two (.bn one a.f f) b.f else .bn one a.f (.bn two f b.f)).good
      split
      · exact ⟨h4, ⟨h3, atm_good h1, hf⟩, atm_good h2⟩
      · exact ⟨h3, atm_good h1, ⟨h4, hf, atm_good h2⟩⟩
theorem formF_good {a : Atm} (ha : a.ok) : ∀ {ls : List Lv}, (∀ l ∈ ls, l.ok) → (formF a ls).good
  | [], _ => atm_good ha
  | l :: ls, h => mkF_good (h l (by simp)) (formF_good ha fun l hl => h l (by simp [hl]))
/-! ### bounds -/
theorem atm_b (a : Atm) : a.f.deep ≤ 1 ∧ a.f.size ≤ 2 ∧ ∀ h, nest h a.f = 0 := by
  unfold Atm.f
  cases a.s <;> simp [sgF, F.deep, F.size, nest]
def Nb (k : Nat) (f : F) : Prop := (∀ h, h ≤ 3 → nest h f ≤ k) ∧ nest 4 f ≤ k + 1
theorem nb_le {k : Nat} {f : F} (h : Nb k f) : ∀ g, g ≤ 4 → nest g f ≤ k + 1 := fun g hg => by
  by_cases q : g = 4
  · subst q; exact h.2
  · exact Nat.le_trans (h.1 g (by omega)) (by omega)
theorem nb_sg {s : Option Sn} {k : Nat} {f : F} (h : ∀ g, g ≤ 4 → nest g f ≤ k) : Nb k (sgF s f) := by
  cases s
  · exact ⟨fun g hg => h g (by omega), Nat.le_succ_of_le (h 4 (by omega))⟩
  · exact ⟨fun g hg => h 4 (by omega), Nat.le_succ_of_le (h 4 (by omega))⟩
theorem one_le (b : Bool) : one b ≤ 1 := by cases b <;> simp [one]
theorem nest_bn {h k : Nat} {f g : F} : nest h (.bn k f g) = max (nest k f) (nest (k + 1) g) + one (decide (k < h)) := rfl
theorem one_f {h k : Nat} (hh : h ≤ k) : one (decide (k < h)) = 0 := by rw [decide_eq_false (by omega)]; rfl
theorem nb_join {k : Nat} {f : F} (hf : Nb k f) (l r : Option Atm) {one two : Nat} (h1 : one ≤ 2) (h2 : two ≤ 2) : ∀ g, g ≤ 4 → nest g (joinF l one f two r) ≤ k + 1 := by
  intro g hg
  match l, r with
  | none, none => exact nb_le hf g hg
  | some a, none =>
    show nest g (.bn one a.f f) ≤ _
    rw [nest_bn, (atm_b a).2.2]
    have := hf.1 (one + 1) (by omega)
    have := one_le (decide (one < g))
    omega
  | none, some b =>
    show nest g (.bn two f b.f) ≤ _
    rw [nest_bn, (atm_b b).2.2]
    have := hf.1 two (by omega)
    have := one_le (decide (two < g))
    omega
  | some a, some b =>
    show nest g (if two ≤ one then F.bn two (.bn one a.f f) b.f else .bn one a.f (.bn two f b.f)) ≤ _
    split
    · rename_i q
      rw [nest_bn, (atm_b b).2.2, nest_bn, (atm_b a).2.2, one_f q]
      have := hf.1 (one + 1) (by omega)
      have := one_le (decide (two < g))
      omega
    · rename_i q
      rw [nest_bn, (atm_b a).2.2, nest_bn, (atm_b b).2.2, one_f (h := one + 1) (k := two) (by omega)]
      have := hf.1 two (by omega)
      have := one_le (decide (one < g))
      omega
theorem nb_mk {l : Lv} (hl : l.ok) {k : Nat} {f : F} (hf : Nb k f) : Nb (k + 1) (l.mkF f) := by
  match l, hl with
  | .not, _ =>
    have h3 := hf.1 3 (by omega)
    refine ⟨fun h hh => ?_, ?_⟩
    · show nest 3 f + 1 + one (decide (3 < h)) ≤ _
      rw [one_f hh]
      omega
    · show nest 3 f + 1 + one (decide (3 < 4)) ≤ _
      have := one_le (decide (3 < 4))
      omega
  | .par l one two r s, ⟨_, _, h3, h4, _⟩ => exact nb_sg (nb_join hf l r h3 h4)
theorem nb_form {a : Atm} : ∀ {ls : List Lv}, (∀ l ∈ ls, l.ok) → Nb ls.length (formF a ls)
  | [], _ => ⟨fun h _ => by show nest h a.f ≤ _; rw [(atm_b a).2.2]; omega, by show nest 4 a.f ≤ _; rw [(atm_b a).2.2]; omega⟩
  | l :: ls, h => nb_mk (h l (by simp)) (nb_form fun l hl => h l (by simp [hl]))
theorem mkF_b (l : Lv) (f : F) : (l.mkF f).deep ≤ f.deep + 4 ∧ (l.mkF f).size ≤ f.size + 11 := by
  have sb : ∀ (s : Option Sn) (f : F), (sgF s f).deep ≤ f.deep + 1 ∧ (sgF s f).size ≤ f.size + 1 := fun s f => by cases s <;> simp [sgF, F.deep, F.size]
  match l with
  | .not => simp [Lv.mkF, F.deep, F.size]
  | .par l one two r s =>
    have h1 := sb s (joinF l one f two r)
    have h2 : (joinF l one f two r).deep ≤ f.deep + 3 ∧ (joinF l one f two r).size ≤ f.size + 10 := by
      match l, r with
      | none, none => simp [joinF]
      | some a, none =>
        have := atm_b a
        simp [joinF, F.deep, F.size]
        omega
      | none, some b =>
        have := atm_b b
        simp [joinF, F.deep, F.size]
        omega
      | some a, some b =>
        have := atm_b a
        have := atm_b b
        simp only [joinF]
        split
        · simp [F.deep, F.size]
          omega
        · simp [F.deep, F.size]
          omega
    simp only [Lv.mkF]
    omega
theorem formF_b (a : Atm) : ∀ ls : List Lv, (formF a ls).deep ≤ 4 * ls.length + 1 ∧ (formF a ls).size ≤ 11 * ls.length + 2
  | [] => by
    have := atm_b a
    simp [formF]
    omega
  | l :: ls => by
    have := mkF_b l (formF a ls)
    have := formF_b a ls
    simp [formF]
    omega
end K83

set_option maxHeartbeats 8000000
/-! K83y: read_expression, _law_read, _law_same, expression_text. -/
namespace K83
open Vm
/-! ### split -/
theorem splitC_cons (c a : Nat) (r : List Nat) (h : a ≠ c) : splitC c (a :: r) = match splitC c r with
    | p :: ps => (a :: p) :: ps
    | [] => [[a]] := if_neg h
theorem split_word : ∀ (w : W), (∀ c ∈ w, c ≠ 32) → splitC 32 w = [w]
  | [], _ => rfl
  | a :: w, h => by rw [splitC_cons 32 a w (h a (by simp)), split_word w fun c hc => h c (by simp [hc])]
theorem split_app : ∀ (w r : W), (∀ c ∈ w, c ≠ 32) → splitC 32 (w ++ 32 :: r) = w :: splitC 32 r
  | [], r, _ => rfl
  | a :: w, r, h => by
    show splitC 32 (a :: (w ++ 32 :: r)) = _
    rw [splitC_cons 32 a _ (h a (by simp)), split_app w r fun c hc => h c (by simp [hc])]
theorem split_jn : ∀ {ws : List W}, ws ≠ [] → (∀ w ∈ ws, ∀ c ∈ w, c ≠ 32) → splitC 32 (jn ws) = ws
  | [w], _, h => split_word w (h w (by simp))
  | w :: v :: r, _, h => by
    show splitC 32 (w ++ ([32] ++ jn (v :: r))) = _
    rw [show w ++ ([32] ++ jn (v :: r)) = w ++ 32 :: jn (v :: r) from rfl, split_app _ _ (h w (by simp)), split_jn (by simp) fun x hx => h x (by simp at hx ⊢; exact .inr hx)]
/-! ### _law_same -/
section
variable {d : Nat} {st : Store}
/-- the loop of _law_same -/
theorem same_loop {a b : PV} (x y : Nat → PV) : ∀ (n i : Nat) (z : Option PV), (∀ k, i ≤ k → k < i + n → indexV a (.int k) st = some (x k) ∧ indexV b (.int k) st = some (y k) ∧ fixv (x k) st = (x k, st) ∧ fixv (y k) st = (y k, st) ∧ R d 6 [x k, y k] st = .ok (.bl true) st) →
    ∃ z', forRng (turnM (fun x ev st => evT (R d) Γ.gl NN (.name 2) x ev st) (fun ev st => evS (R d) Γ.gl NN (.cons (.if_ (.not (.call 6 (.cons (.ix (.var 0) (.var 2)) (.cons (.ix (.var 1) (.var 2)) .nil)))) (.cons (.ret (.lit (.bl false))) .nil) .nil) .nil) ev st)) n i [some a, some b, z] st = .ok (.nx [some a, some b, z']) st
  | 0, i, z, _ => ⟨z, rfl⟩
  | n + 1, i, z, h => by
    obtain ⟨h1, h2, h3, h4, h5⟩ := h i (by omega) (by omega)
    obtain ⟨z', e⟩ := same_loop x y n (i + 1) (some (.int i)) fun k hk hk' => h k (by omega) (by omega)
    refine ⟨z', ?_⟩
    have e1 : evE (R d) Γ.gl NN (.not (.call 6 (.cons (.ix (.var 0) (.var 2)) (.cons (.ix (.var 1) (.var 2)) .nil)))) [some a, some b, some (.int i)] st = .ok (.bl false) st := not_v (x := true) (call_v (cons_p (ix_v (var_v rfl) (var_v rfl) h1) (cons_p (ix_v (var_v rfl) (var_v rfl) h2) nil_v h4) h3) h5)
    unfold forRng
    show ((evS (R d) Γ.gl NN _ [some a, some b, some (.int i)] st).bind _) = _
    rw [cons_nx ((if_f e1).trans rfl)]
    exact e
theorem same_seq {a b : PV} {n : Nat} (hn : n ≤ SZ) (ta tb : Tag) (h1 : tagOf a st = some ta) (h2 : tagOf b st = some tb) (ht : ta = tb) (hk : ta = .tup ∨ ta = .lst) (hne : isNone b = false) (l1 : lenV a st = some (n : Int)) (l2 : lenV b st = some (n : Int)) (x y : Nat → PV)
    (h : ∀ k, k < n → indexV a (.int k) st = some (x k) ∧ indexV b (.int k) st = some (y k) ∧ fixv (x k) st = (x k, st) ∧ fixv (y k) st = (y k, st) ∧ R d 6 [x k, y k] st = .ok (.bl true) st) : R (d + 1) 6 [a, b] st = .ok (.bl true) st := by
  subst ht
  rw [run_eq (fn := r6.c) (by decide) rfl rfl]
  unfold r6
  show (evS (R d) Γ.gl NN _ [some a, some b, none] st).bind fin = _
  have ia : ∀ (t : Ty), evE (R d) Γ.gl NN (.isi (.var 0) t) [some a, some b, none] st = .ok (.bl (isTag t ta)) st := fun t => isi_v (var_v rfl) (by unfold isTy; rw [h1]; rfl)
  have ib : ∀ (t : Ty), evE (R d) Γ.gl NN (.isi (.var 1) t) [some a, some b, none] st = .ok (.bl (isTag t ta)) st := fun t => isi_v (var_v rfl) (by unfold isTy; rw [h2]; rfl)
  have f1 : isTag .bool ta = false := by rcases hk with rfl | rfl <;> rfl
  have f2 : isTag .int ta = false := by rcases hk with rfl | rfl <;> rfl
  have f3 : isTag .str ta = false := by rcases hk with rfl | rfl <;> rfl
  have c1 := or_p (ib .bool) fun _ => ia .bool
  rw [f1] at c1
  rw [cons_nx ((if_f c1).trans rfl)]
  have c2 := or_p (cmp_v (c := R d) (G := Γ.gl) (N := NN) (ev := [some a, some b, none]) (st := st) (st2 := st) (o := .is) (a := .var 1) (b := .lit .non) (x := false) (var_v rfl) lit_v (by
    show (if isNone PV.non then some (isNone b) else none) = _
    rw [hne]
    rfl)) fun _ => ib .int
  rw [f2] at c2
  rw [cons_nx ((if_f c2).trans rfl)]
  have c3 := ib .str
  rw [f3] at c3
  rw [cons_nx ((if_f c3).trans rfl)]
  have same : ∀ (t : Ty), evE (R d) Γ.gl NN (.cmp .ne (.isi (.var 1) t) (.isi (.var 0) t)) [some a, some b, none] st = .ok (.bl false) st := fun t => cmp_v (ib t) (ia t) ((neS_v (r := true) (by
    show some (isTag t ta == isTag t ta) = _
    simp)).trans rfl)
  have c4 := or_p (same .list) fun _ => same .tuple
  rw [cons_nx ((if_f c4).trans rfl)]
  have la : evE (R d) Γ.gl NN (.blt1 .len (.var 0)) [some a, some b, none] st = .ok (.int n) st := blt1_v (var_v rfl) (by
    show (lenV a st).map PV.int = _
    rw [l1]
    rfl)
  have lb : evE (R d) Γ.gl NN (.blt1 .len (.var 1)) [some a, some b, none] st = .ok (.int n) st := blt1_v (var_v rfl) (by
    show (lenV b st).map PV.int = _
    rw [l2]
    rfl)
  have c5 : evE (R d) Γ.gl NN (.cmp .ne (.blt1 .len (.var 0)) (.blt1 .len (.var 1))) [some a, some b, none] st = .ok (.bl false) st := cmp_v la lb ((neS_v (r := true) (by
    show some ((n : Int) == n) = _
    simp)).trans rfl)
  rw [cons_nx ((if_f c5).trans rfl)]
  obtain ⟨z', e⟩ := same_loop (d := d) (st := st) (a := a) (b := b) x y n 0 none fun k _ hk => h k (by omega)
  rw [cons_nx (for_1 (n := n) lb hn e), cons_rt (ret_v lit_v)]
  rfl
/-- plain things, n the depth -/
inductive Pl : Nat → PV → Prop
  | int {n : Nat} (i : Int) : Pl n (.int i)
  | str {n : Nat} (w : W) : Pl n (.str w)
  | tup {n : Nat} {xs : List PV} : xs.length ≤ SZ → (∀ x ∈ xs, Pl n x) → Pl (n + 1) (.tup xs)
theorem Pl.fx {n : Nat} {v : PV} (h : Pl n v) : Fx v := by cases h <;> exact fun _ => rfl
theorem Pl.le {n m : Nat} {v : PV} (h : Pl n v) (hm : n ≤ m) : Pl m v := by
  induction h generalizing m with
  | int i => exact .int i
  | str w => exact .str w
  | tup hl _ ih =>
    match m, hm with
    | m + 1, hm => exact .tup hl fun x hx => ih x hx (by omega)
theorem same_int (i : Int) : R (d + 1) 6 [.int i, .int i] st = .ok (.bl true) st := by
  rw [run_eq (fn := r6.c) (by decide) rfl rfl]
  unfold r6
  show (evS (R d) Γ.gl NN _ [some (.int i), some (.int i), none] st).bind fin = _
  have c1 := or_p (c := R d) (G := Γ.gl) (N := NN) (ev := [some (.int i), some (.int i), none]) (st := st) (a := .isi (.var 1) .bool) (b := .isi (.var 0) .bool) (x := false) (y := false) rfl fun _ => rfl
  rw [cons_nx ((if_f c1).trans rfl)]
  have c2 := or_p (c := R d) (G := Γ.gl) (N := NN) (ev := [some (.int i), some (.int i), none]) (st := st) (a := .cmp .is (.var 1) (.lit .non)) (b := .isi (.var 1) .int) (x := false) (y := true) rfl fun _ => rfl
  have c3 := and_p (c := R d) (G := Γ.gl) (N := NN) (ev := [some (.int i), some (.int i), none]) (st := st) (a := .cmp .eq (.var 0) (.var 1)) (b := .or (.cmp .is (.var 1) (.lit .non)) (.isi (.var 0) .int)) (x := true) (y := true) (cmp_v (var_v rfl) (var_v rfl) (eqS_v (by
    show some (i == i) = _
    simp))) fun _ => rfl
  rw [cons_rt ((if_t c2).trans (cons_rt (ret_v c3)))]
  rfl
theorem same_str (w : W) : R (d + 1) 6 [.str w, .str w] st = .ok (.bl true) st := by
  rw [run_eq (fn := r6.c) (by decide) rfl rfl]
  unfold r6
  show (evS (R d) Γ.gl NN _ [some (.str w), some (.str w), none] st).bind fin = _
  have c1 := or_p (c := R d) (G := Γ.gl) (N := NN) (ev := [some (.str w), some (.str w), none]) (st := st) (a := .isi (.var 1) .bool) (b := .isi (.var 0) .bool) (x := false) (y := false) rfl fun _ => rfl
  rw [cons_nx ((if_f c1).trans rfl)]
  have c2 := or_p (c := R d) (G := Γ.gl) (N := NN) (ev := [some (.str w), some (.str w), none]) (st := st) (a := .cmp .is (.var 1) (.lit .non)) (b := .isi (.var 1) .int) (x := false) (y := false) rfl fun _ => rfl
  rw [cons_nx ((if_f c2).trans rfl)]
  have c4 : evE (R d) Γ.gl NN (.isi (.var 1) .str) [some (.str w), some (.str w), none] st = .ok (.bl true) st := rfl
  have c3 := and_p (c := R d) (G := Γ.gl) (N := NN) (ev := [some (.str w), some (.str w), none]) (st := st) (a := .isi (.var 0) .str) (b := .cmp .eq (.var 0) (.var 1)) (x := true) (y := true) rfl fun _ => cmp_v (var_v rfl) (var_v rfl) (eqS_v (by
    show some (w == w) = _
    simp))
  rw [cons_rt ((if_t c4).trans (cons_rt (ret_v c3)))]
  rfl
theorem same_pl : ∀ (d : Nat) {n : Nat} {v : PV}, Pl n v → n ≤ d → R (d + 1) 6 [v, v] st = .ok (.bl true) st
  | d, _, _, .int i, _ => same_int i
  | d, _, _, .str w, _ => same_str w
  | d + 1, _, _, @Pl.tup n xs hl h, hd => by
    refine same_seq (n := xs.length) hl .tup .tup rfl rfl rfl (.inl rfl) rfl ?_ ?_ (fun k => xs.getD k .non) (fun k => xs.getD k .non) fun k hk => ?_
    · rfl
    · rfl
    · have e : xs.getD k .non = xs[k] := by rw [List.getD_eq_getElem?_getD, List.getElem?_eq_getElem hk]; rfl
      have ei : indexV (.tup xs) (.int k) st = some xs[k] := item_nat xs k hk
      have hp := h xs[k] (List.getElem_mem hk)
      rw [e]
      exact ⟨ei, ei, hp.fx st, hp.fx st, same_pl d hp (by omega)⟩
/-- two lists of numbers -/
theorem same_lst {a b : Nat} {is : List Int} (hl : is.length ≤ SZ) (ha : st[a]? = some (.lst (is.map .int))) (hb : st[b]? = some (.lst (is.map .int))) : R (d + 2) 6 [.loc a, .loc b] st = .ok (.bl true) st := by
  refine same_seq (n := is.length) hl .lst .lst ?_ ?_ rfl (.inr rfl) rfl ?_ ?_ (fun k => (is.map PV.int).getD k .non) (fun k => (is.map PV.int).getD k .non) fun k hk => ?_
  · unfold tagOf; dsimp only; rw [ha]
  · unfold tagOf; dsimp only; rw [hb]
  · unfold lenV dv sv lv; dsimp only; rw [ha]; simp
  · unfold lenV dv sv lv; dsimp only; rw [hb]; simp
  · have e : (is.map PV.int).getD k .non = .int is[k] := by rw [List.getD_eq_getElem?_getD, List.getElem?_eq_getElem (by simpa using hk)]; simp
    have ix : ∀ c, st[c]? = some (.lst (is.map .int)) → indexV (.loc c) (.int k) st = some (.int is[k]) := fun c hc => by
      unfold indexV indexG dv sv lv
      dsimp only
      rw [hc]
      dsimp only
      rw [Option.bind_some, item_nat _ _ (by simpa using hk)]
      simp
    rw [e]
    exact ⟨ix a ha, ix b hb, rfl, rfl, same_int _⟩
/-! ### read_expression -/
theorem init_m {ws : List W} {t : W} (hs : splitV (.str t) (.str [32]) = some (.tl (ws.map .str))) : R (d + 1) 16 [me st, .str t] (st ++ [.obj 0 []]) = .ok .non (PS st ws 0) := by
  rw [run_eq (fn := r16.c) (by decide) rfl rfl]
  unfold r16
  have key : ∀ (r : Store) (fs : List (List Nat × PV)) (f : List Nat) (v : PV), fs.length < 900 → setFld [0] (me st) f v (st ++ (Cell.obj 0 fs :: r)) = some (st ++ (Cell.obj 0 (putO f v fs) :: r)) := fun r fs f v h => by
    unfold setFld obV me
    dsimp only
    rw [List.getElem?_append_right (Nat.le_refl _), Nat.sub_self]
    show (if (([0] : List Nat).contains 0 && decide (fs.length < 900)) = true then _ else _) = _
    rw [if_pos (by simp [h]), List.set_append_right _ _ (Nat.le_refl _), Nat.sub_self]
    rfl
  show (evS (R d) Γ.gl NN _ [some (me st), some (.str t)] (st ++ [.obj 0 []])).bind fin = _
  have h1 : evE (R d) Γ.gl NN (.mth1 .split (.var 1) (.lit (.str [32]))) [some (me st), some (.str t)] (st ++ [.obj 0 []]) = .ok (.tl (ws.map .str)) (st ++ [.obj 0 []]) := by
    show mthR ((splitV (.str t) (.str [32])).map _) = _
    rw [hs]
    rfl
  have e : (st ++ [Cell.obj 0 []]) ++ [.lst (ws.map .str)] = st ++ (Cell.obj 0 [] :: [.lst (ws.map .str)]) := by simp
  have hl : (st ++ [Cell.obj 0 []]).length = st.length + 1 := by simp
  have h2 : evS (R d) Γ.gl NN (.asg (.fld [0] (.var 0) [119, 111, 114, 100, 115]) (.mth1 .split (.var 1) (.lit (.str [32])))) [some (me st), some (.str t)] (st ++ [.obj 0 []]) = .ok (.nx [some (me st), some (.str t)]) (st ++ (Cell.obj 0 [([119, 111, 114, 100, 115], .loc (st.length + 1))] :: [.lst (ws.map .str)])) :=
    asg_v h1 (setf_v (var_v rfl) (by
      show setFld [0] (me st) _ (.loc (st ++ [Cell.obj 0 []]).length) ((st ++ [Cell.obj 0 []]) ++ [.lst (ws.map .str)]) = _
      rw [e, hl, key _ _ _ _ (by simp)]
      rfl))
  rw [cons_nx h2]
  rw [cons_nx (asg_v lit_v (setf_v (var_v rfl) (key _ _ _ _ (by simp [putO, fixv]))))]
  rfl
theorem read_ok {ws : List W} (hw : ∀ i, (nx ws i).length ≤ 1000) {i : Nat} {v : PV} (hp : pp ws d (.chain 0 0) 0 = .ok v i) (hi : i = ws.length) : R (d + 5) 24 [me st] (PS st ws 0) = .ok v (PS st ws i) := by
  subst hi
  have hfx := fx_pp (ws := ws) d (.chain 0 0) 0
  rw [hp] at hfx
  have hok := all_m (st := st) hw d (.chain 0 0) (by decide : (0 : Nat) ≤ 2) 0 (by rw [hp]; exact fun h => by cases h)
  rw [hp] at hok
  rw [run_eq (fn := r24.c) (by decide) rfl rfl]
  unfold r24
  show (evS (R (d + 4)) Γ.gl NN _ [some (me st), none] _).bind fin = _
  have e1 : evE (R (d + 4)) Γ.gl NN (.meth (.var 0) [99, 104, 97, 105, 110] [(0, 23)] (.cons (.lit (.str [111, 114])) (.cons (.lit (.int 0)) .nil))) [some (me st), none] (PS st ws 0) = .ok v (PS st ws ws.length) := meth_v (var_v rfl) (m_of _ _ _ _ _ rfl) (cons_p lit_v (cons_p lit_v nil_v)) hok
  rw [cons_nx (asg_fx hfx e1)]
  show (evS (R (d + 4)) Γ.gl NN _ [some (me st), some v] _).bind fin = _
  have e2 : evE (R (d + 4)) Γ.gl NN (.cmp .lt (.fld [0] (.var 0) [97, 116]) (.blt1 .len (.fld [0] (.var 0) [119, 111, 114, 100, 115]))) [some (me st), some v] (PS st ws ws.length) = .ok (.bl false) (PS st ws ws.length) := cmp_v (fld_v (var_v rfl) (f_at _ _ _)) (blt1_v (v := .int ws.length) (fld_v (var_v rfl) (f_words _ _ _)) (by
      show (lenV (.loc (st.length + 1)) _).map PV.int = _
      rw [len_w]
      rfl)) (by
      show some (decide ((ws.length : Int) < ws.length)) = _
      simp)
  rw [cons_nx ((if_f e2).trans rfl)]
  rw [cons_rt (ret_fx hfx (var_v rfl))]
  rfl
theorem read_no {ws : List W} (hw : ∀ i, (nx ws i).length ≤ 1000) {i : Nat} (hp : pp ws d (.chain 0 0) 0 = .no i) : R (d + 5) 24 [me st] (PS st ws 0) = .exc 1 [(1, .int 0), (2, .int i)] (PS st ws i) := by
  have hok := all_m (st := st) hw d (.chain 0 0) (by decide : (0 : Nat) ≤ 2) 0 (by rw [hp]; exact fun h => by cases h)
  rw [hp] at hok
  rw [run_eq (fn := r24.c) (by decide) rfl rfl]
  unfold r24
  show (evS (R (d + 4)) Γ.gl NN _ [some (me st), none] _).bind fin = _
  have e1 : evE (R (d + 4)) Γ.gl NN (.meth (.var 0) [99, 104, 97, 105, 110] [(0, 23)] (.cons (.lit (.str [111, 114])) (.cons (.lit (.int 0)) .nil))) [some (me st), none] (PS st ws 0) = .exc 1 [(1, .int 0), (2, .int i)] (PS st ws i) := meth_v (var_v rfl) (m_of _ _ _ _ _ rfl) (cons_p lit_v (cons_p lit_v nil_v)) hok
  rw [cons_x (asg_x e1)]
  rfl
/-- a text is read as the words that it was joined of -/
structure TxtOk (ws : List W) : Prop where
  ne : ws ≠ []
  wd : ∀ w ∈ ws, Wd w
  few : ws.length ≤ 1000
theorem TxtOk.nx {ws : List W} (h : TxtOk ws) (i : Nat) : (nx ws i).length ≤ 1000 := by
  unfold K83.nx
  rw [List.getD_eq_getElem?_getD]
  cases e : ws[i]? with
  | none => simp
  | some w => exact Nat.le_trans (h.wd w (List.mem_of_getElem? e)).1 (by omega)
theorem r5_eq {ws : List W} (h : TxtOk ws) {r : Res PV} (hr : R (d + 5) 24 [me st] (PS st ws 0) = r) : R (d + 6) 5 [.str (jn ws)] st = r.bind fun v s => .ok (fixv v s).1 (fixv v s).2 := by
  rw [run_eq (fn := r5.c) (by decide) rfl rfl]
  unfold r5
  show (evS (R (d + 5)) Γ.gl NN _ [some (.str (jn ws))] st).bind fin = _
  have e : splitV (.str (jn ws)) (.str [32]) = some (.tl (ws.map .str)) := by
    show guardO (decide ((jn ws).length < SZ) && decide (32 < 256)) (PV.tl ((splitC 32 (jn ws)).map .str)) = _
    have := jn_len fun w hw => (h.wd w hw).1
    have hf := h.few
    rw [decide_eq_true (by unfold SZ; omega), split_jn h.ne fun w hw => (h.wd w hw).2]
    rfl
  have hn : evE (R (d + 5)) Γ.gl NN (.new 0 16 (.cons (.var 0) .nil)) [some (.str (jn ws))] st = .ok (me st) (PS st ws 0) := by
    have q := init_m (d := d + 3) (st := st) e
    have ha : evE (R (d + 5)) Γ.gl NN (.cons (.var 0) .nil) [some (.str (jn ws))] st = .ok (.tup [.str (jn ws)]) st := cons_p (var_v rfl) nil_v
    have q2 : R (d + 5) (1000 + 16) [me st, .str (jn ws)] (st ++ [.obj 0 []]) = .ok .non (PS st ws 0) := by
      have u : R (d + 5) (1000 + 16) = R (d + 4) 16 := by
        funext vs st
        show (if 1000 ≤ 1000 + 16 then R (d + 4) (1000 + 16 - 1000) vs st else _) = _
        rw [if_pos (by decide)]
      rw [u]
      exact q
    show (evE (R (d + 5)) Γ.gl NN _ _ st).bind _ = _
    rw [ha, Res.bind_ok]
    dsimp only [tupOf]
    have q3 : noExc (R (d + 5) (1000 + 16) (PV.loc st.length :: [.str (jn ws)]) (st ++ [.obj 0 []])) = .ok .non (PS st ws 0) := (congrArg noExc q2).trans rfl
    rw [q3]
    rfl
  have hm : evE (R (d + 5)) Γ.gl NN (.meth (.new 0 16 (.cons (.var 0) .nil)) [114, 101, 97, 100] [(0, 24)] .nil) [some (.str (jn ws))] st = r := meth_v hn (m_of _ _ _ _ _ rfl) nil_v hr
  cases r with
  | ok v s =>
    rw [cons_rt (ret_v hm)]
    rfl
  | exc c fs s =>
    rw [cons_x (ret_x hm)]
    rfl
  | bad =>
    have : evS (R (d + 5)) Γ.gl NN (.ret (.meth (.new 0 16 (.cons (.var 0) .nil)) [114, 101, 97, 100] [(0, 24)] .nil)) [some (.str (jn ws))] st = .bad := by
      show (fixR (evE _ _ _ _ _ st)).bind _ = _
      rw [hm]
      rfl
    show ((evS _ _ _ _ _ st).bind _).bind fin = _
    rw [this]
    rfl
theorem law_read_ok {ws : List W} (h : TxtOk ws) {i : Nat} {v : PV} (hp : pp ws d (.chain 0 0) 0 = .ok v i) (hi : i = ws.length) : R (d + 7) 14 [.str (jn ws)] st = .ok v (PS st ws i) := by
  have hfx := fx_pp (ws := ws) d (.chain 0 0) 0
  rw [hp] at hfx
  have e := r5_eq (st := st) h (read_ok h.nx hp hi)
  rw [run_eq (fn := r14.c) (by decide) rfl rfl]
  unfold r14
  show (evS (R (d + 6)) Γ.gl NN _ [some (.str (jn ws)), none] st).bind fin = _
  have e2 : evE (R (d + 6)) Γ.gl NN (.call 5 (.cons (.var 0) .nil)) [some (.str (jn ws)), none] st = .ok v (PS st ws i) := call_v (cons_p (var_v rfl) nil_v) (e.trans (by rw [Res.bind_ok, hfx]))
  have e3 : evS (R (d + 6)) Γ.gl NN (.cons (.ret (.call 5 (.cons (.var 0) .nil))) .nil) [some (.str (jn ws)), none] st = .ok (.rt v) (PS st ws i) := cons_rt (ret_fx hfx e2)
  rw [cons_rt (v := v) (st1 := PS st ws i) (by
    show tryR (evS (R (d + 6)) Γ.gl NN _ _ st) _ _ _ = _
    rw [e3]
    rfl)]
  rfl
theorem law_read_no {ws : List W} (h : TxtOk ws) {i : Nat} (hp : pp ws d (.chain 0 0) 0 = .no i) : R (d + 7) 14 [.str (jn ws)] st = .ok (.loc (PS st ws i).length) (PS st ws i ++ [.lst [.int 0, .int i]]) := by
  have e := r5_eq (st := st) h (read_no h.nx hp)
  rw [run_eq (fn := r14.c) (by decide) rfl rfl]
  unfold r14
  show (evS (R (d + 6)) Γ.gl NN _ [some (.str (jn ws)), none] st).bind fin = _
  have e2 : evE (R (d + 6)) Γ.gl NN (.call 5 (.cons (.var 0) .nil)) [some (.str (jn ws)), none] st = .exc 1 [(1, .int 0), (2, .int i)] (PS st ws i) := call_v (cons_p (var_v rfl) nil_v) (e.trans rfl)
  have e3 : evS (R (d + 6)) Γ.gl NN (.cons (.ret (.call 5 (.cons (.var 0) .nil))) .nil) [some (.str (jn ws)), none] st = .exc 1 [(1, .int 0), (2, .int i)] (PS st ws i) := cons_x (ret_x e2)
  rw [cons_rt (v := .loc (PS st ws i).length) (st1 := PS st ws i ++ [.lst [.int 0, .int i]]) (by
    show tryR (evS (R (d + 6)) Γ.gl NN _ _ st) _ _ _ = _
    rw [e3]
    rfl)]
  rfl
theorem text_run {f : F} (hf : f.good) (hd : f.deep + 2 ≤ d) (hs : f.size ≤ 1000) (st : Store) : ∃ x, R (d + 1) 4 [f.enc] st = .ok (.str (jn (ht 0 f))) (st ++ x) := by
  obtain ⟨x, ex⟩ := held_all f hf d hd 0 st (Nat.le_trans (ht_size f 0) hs)
  refine ⟨x, ?_⟩
  rw [run_eq (fn := r4.c) (by decide) rfl rfl]
  unfold r4
  show (evS (R d) Γ.gl NN _ [some f.enc] st).bind fin = _
  have e : evE (R d) Γ.gl NN (.call 3 (.cons (.var 0) (.cons (.lit (.int 0)) .nil))) [some f.enc] st = .ok (.str (jn (ht 0 f))) (st ++ x) := call_v (vs := [f.enc, .int ((0 : Nat) : Int)]) (cons_p (var_v rfl) (cons_p lit_v nil_v) (enc_fx f _)) ex
  rw [cons_rt (ret_v e)]
  rfl
/-! ### plain things -/
theorem pl3 {n : Nat} {xs : List PV} (hl : xs.length ≤ 5) (h : ∀ x ∈ xs, Pl n x) : Pl (n + 1) (.tup xs) := .tup (by unfold SZ; omega) h
theorem enc_pl : ∀ (f : F), Pl (f.deep + 1) f.enc
  | .at w => by
    show Pl 1 (atom w)
    unfold atom
    split
    · exact pl3 (by simp) fun x hx => by simp at hx; subst hx; exact .str _
    split
    · exact pl3 (by simp) fun x hx => by simp at hx; subst hx; exact .str _
    · exact pl3 (by simp) fun x hx => by simp at hx; rcases hx with rfl | rfl <;> exact .str _
  | .sg s f => by
    have ih := enc_pl f
    show Pl (f.deep + 1 + 1) (s.g f.enc)
    cases s with
    | back => exact pl3 (by simp) fun x hx => by simp at hx; rcases hx with rfl | rfl; exact .str _; exact ih
    | first => exact pl3 (by simp) fun x hx => by simp at hx; rcases hx with rfl | rfl; exact .str _; exact ih
    | ends => exact pl3 (by simp) fun x hx => by simp at hx; rcases hx with rfl | rfl; exact .str _; exact ih
    | times j => exact pl3 (by simp) fun x hx => by simp at hx; rcases hx with rfl | rfl | rfl; exact .str _; exact .int _; exact ih
    | upto j => exact pl3 (by simp) fun x hx => by simp at hx; rcases hx with rfl | rfl | rfl; exact .str _; exact .int _; exact ih
  | .not f => pl3 (by simp) fun x hx => by simp at hx; rcases hx with rfl | rfl; exact .str _; exact enc_pl f
  | .bn k f g => pl3 (by simp) fun x hx => by
    simp at hx
    rcases hx with rfl | rfl | rfl
    · exact .str _
    · exact (enc_pl f).le (by simp [F.deep]; omega)
    · exact (enc_pl g).le (by simp [F.deep]; omega)
end
/-! ### a text is read: whole -/
theorem read_der {n : Nat} {t : List W} {f : PV} (h : Der 0 n t f) (hn : n ≤ 40) (hl : t.length < NN) (d : Nat) (hd : 330 ≤ d) : pp t (d + 1) (.chain 0 0) 0 = .ok f t.length := by
  have a := At_self t [] []
  simp at a
  have e : nx t t.length = [] := by unfold nx; rw [List.getD_eq_getElem?_getD, List.getElem?_eq_none (by omega)]; rfl
  have c := says h t 0 0 d NN a (by omega) (by omega) hl
  rw [Nat.zero_add, e] at c
  have c2 : Chain t d 0 0 0 NN t f := c (by omega) ⟨stop_lit (by decide), fun k h1 h2 => by
      match k, h1, h2 with
      | 1, _, _ => decide
      | 2, _, _ => decide⟩
  have q := chain_all c2 hl (by rw [Nat.zero_add, e]; decide)
  rw [Nat.zero_add] at q
  exact q
end K83

set_option maxHeartbeats 8000000
/-! K83z: the law's own functions. -/
namespace K83
open Vm
/-- the store: the picks, then all else -/
abbrev S (ps : List Int) (r : Store) : Store := .lst (ps.map .int) :: r
/-- a list of words; M: not this place -/
def WL (M : Nat) (X : Store) (v : PV) (ws : List W) : Prop := ∃ n, v = .loc n ∧ n ≠ 0 ∧ n ≠ M ∧ X[n]? = some (.lst (ws.map .str))
theorem WL.fx {M : Nat} {X : Store} {v : PV} {ws : List W} (h : WL M X v ws) : Fx v := by
  obtain ⟨n, rfl, _⟩ := h
  exact fun _ => rfl
section
variable {c : Nat → List PV → Store → Res PV} {G : Nat → Option PV} {N : Nat} {ev : Env} {st st1 st2 : Store} {a b : CE} {v w : PV}
theorem par_v {i j : Nat} (h1 : evE c G N a ev st = .ok v st1) (h2 : evE c G N b ev (fixv v st1).2 = .ok w st2) : evS c G N (.par i j a b) ev st = .ok (.nx ((ev.set i (some (fixv v st1).1)).set j (some (fixv w st2).1))) (fixv w st2).2 := by
  show (fixR (evE c G N a ev st)).bind _ = _
  rw [h1]
  show (fixR (evE c G N b ev (fixv v st1).2)).bind _ = _
  rw [h2]
  rfl
theorem names_v {is : List Nat} {vs : List PV} {ev1 : Env} (h : evE c G N a ev st = .ok (.tup vs) st1) (hu : unpackE is vs ev = some ev1) : evS c G N (.asg (.names is) a) ev st = .ok (.nx ev1) st1 := by
  refine asg_v h ?_
  show Res.of (unpackE is vs ev) _ = _
  rw [hu]
  rfl
theorem ret_rt {e : CE} {fl : Flow} (h : evS c G N (.cons (.ret e) .nil) ev st = .ok fl st1) : ∃ v, fl = .rt v := by
  have h : (evS c G N (.ret e) ev st).bind _ = _ := h
  have h2 : (evS c G N (.ret e) ev st) = (fixR (evE c G N e ev st)).bind fun v st1 => .ok (.rt v) st1 := rfl
  rw [h2] at h
  cases q : fixR (evE c G N e ev st) with
  | ok v s =>
    rw [q] at h
    injection h with h _
    exact ⟨v, h.symm⟩
  | exc c fs s => rw [q] at h; cases h
  | bad => rw [q] at h; cases h
/-- .. as a body of one return -/
theorem cons_ret {e f : CE} {y ss : CS} (h : evE c G N e ev st = .ok (.bl true) st1) : evS c G N (.cons (.if_ e (.cons (.ret f) .nil) y) ss) ev st = evS c G N (.cons (.ret f) .nil) ev st1 := by
  show (evS c G N (.if_ e _ y) ev st).bind _ = _
  rw [if_t h]
  cases q : evS c G N (.cons (.ret f) .nil) ev st1 with
  | ok fl st2 =>
    obtain ⟨v, rfl⟩ := ret_rt q
    rfl
  | exc c fs s => rfl
  | bad => rfl
theorem cat_l {n : Nat} {xs ys : List PV} (hn : st[n]? = some (.lst xs)) (hl : xs.length + ys.length ≤ SZ) : binop .add (.loc n) (.tl ys) st = some (.tl (xs ++ ys)) := by
  show catL (lw st (.loc n)) (some ys) = _
  unfold lw
  dsimp only
  rw [hn]
  show guardO (decide (xs.length + ys.length ≤ SZ)) _ = _
  rw [decide_eq_true hl]
  rfl
end
section
variable {d : Nat} {ps : List Int} {r : Store} {ev : Env}
theorem pick_run (d : Nat) (ps : List Int) (r : Store) : ∃ v ps', R (d + 1) 9 [.loc 0] (S ps r) = .ok (.int v) (S ps' r) := by
  have hlen : evE (R d) Γ.gl NN (.blt1 .len (.var 0)) [some (.loc 0)] (S ps r) = .ok (.int ps.length) (S ps r) := blt1_v (var_v rfl) (by
    show (lenV (.loc 0) (S ps r)).map PV.int = _
    unfold lenV dv sv lv
    simp)
  have c1 : evE (R d) Γ.gl NN (.cmp .eq (.blt1 .len (.var 0)) (.lit (.int 0))) [some (.loc 0)] (S ps r) = .ok (.bl ((ps.length : Int) == 0)) (S ps r) := cmp_v hlen lit_v (eqS_v rfl)
  rw [run_eq (fn := r9.c) (by decide) rfl rfl]
  unfold r9
  show ∃ v ps', (evS (R d) Γ.gl NN _ [some (.loc 0)] (S ps r)).bind fin = _
  rcases List.eq_nil_or_concat ps with rfl | ⟨qs, q, rfl⟩
  · exact ⟨0, [], by rw [cons_rt (v := .int 0) (st1 := S [] r) ((if_t c1).trans rfl)]; rfl⟩
  · refine ⟨q, qs, ?_⟩
    rw [List.concat_eq_append] at c1 ⊢
    have c1 : evE (R d) Γ.gl NN (.cmp .eq (.blt1 .len (.var 0)) (.lit (.int 0))) [some (.loc 0)] (S (qs ++ [q]) r) = .ok (.bl false) (S (qs ++ [q]) r) := by
      rw [c1]
      congr 2
      simp
      omega
    have hp : evE (R d) Γ.gl NN (.mth0 .pop (.var 0)) [some (.loc 0)] (S (qs ++ [q]) r) = .ok (.int q) (S qs r) := by
      show mthR (mth0 .pop (.loc 0) (S (qs ++ [q]) r)) = _
      have : mth0 .pop (.loc 0) (S (qs ++ [q]) r) = some (.int q, S qs r) := by
        unfold mth0 lm
        simp
      rw [this]
      rfl
    rw [cons_nx ((if_f c1).trans rfl), cons_rt (ret_v hp)]
    rfl
theorem e_pick {i : Nat} (h : ev[i]? = some (some (.loc 0))) (n : Nat) (N : Int) (hN : N = n) (hn : 0 < n) (d : Nat) (ps : List Int) (r : Store) : ∃ j ps', j < n ∧ evE (R (d + 1)) Γ.gl NN (.bin .mod (.call 9 (.cons (.var i) .nil)) (.lit (.int N))) ev (S ps r) = .ok (.int (j : Nat)) (S ps' r) := by
  subst hN
  obtain ⟨v, ps', e⟩ := pick_run d ps r
  have h1 : 0 ≤ v % (n : Int) := Int.emod_nonneg _ (by omega)
  have h2 : v % (n : Int) < n := Int.emod_lt_of_pos _ (by omega)
  refine ⟨(v % (n : Int)).toNat, ps', by omega, ?_⟩
  rw [Int.toNat_of_nonneg h1]
  refine bin_v (call_v (cons_p (var_v h) nil_v) e) lit_v ?_
  show guardO (decide (0 < (n : Int))) (PV.int (v % (n : Int))) = _
  rw [decide_eq_true (by omega)]
  rfl
theorem picks_run (ns : List Int) : ∃ ps, R (d + 3) 10 [.fl (ns.map .int), .int 0, .int 700] [] = .ok (.loc 0) (S ps []) := by
  have e := draws_run (T := Γ.fn) (G := Γ.gl) (N := NN) (q := 7) (q2 := 8) (d := d) (by decide) (by decide) rfl rfl ns 0 700 5040 (by simp [SZ]) (by decide) (by decide) []
  refine ⟨(drawsF ns 0 700 5040).reverse, ?_⟩
  rw [run_eq (fn := r10.c) (by decide) rfl rfl]
  unfold r10
  show (evS (R (d + 2)) Γ.gl NN _ [some (.fl (ns.map .int)), some (.int 0), some (.int 700), none] []).bind fin = _
  have e1 : evE (R (d + 2)) Γ.gl NN (.call 8 (.cons (.var 0) (.cons (.var 1) (.cons (.var 2) (.cons (.lit (.int 5040)) .nil))))) [some (.fl (ns.map .int)), some (.int 0), some (.int 700), none] [] = .ok (.loc 0) [.lst ((drawsF ns 0 700 5040).map .int)] := call_v (cons_p (var_v rfl) (cons_p (var_v rfl) (cons_p (var_v rfl) (cons_p lit_v nil_v)))) e
  rw [cons_nx (asg_nm e1)]
  have e2 : evE (R (d + 2)) Γ.gl NN (.mth0 .reverse (.var 3)) [some (.fl (ns.map .int)), some (.int 0), some (.int 700), some (.loc 0)] [.lst ((drawsF ns 0 700 5040).map .int)] = .ok .non [.lst (((drawsF ns 0 700 5040).reverse).map .int)] := by
    rw [List.map_reverse]
    rfl
  refine Eq.trans (congrArg (Res.bind · fin) ((cons_nx (expr_v e2)).trans (cons_rt (ret_v (var_v rfl))))) ?_
  rfl
/-- a number compared with a written one -/
theorem lt_v {c : Nat → List PV → Store → Res PV} {i j n : Nat} {st : Store} {N : Int} (hN : N = n) (h : ev[i]? = some (some (.int (j : Nat)))) : evE c Γ.gl NN (.cmp .lt (.var i) (.lit (.int N))) ev st = .ok (.bl (decide (j < n))) st := by
  subst hN
  exact cmp_v (var_v h) lit_v (by
    show some (decide ((j : Int) < n)) = _
    congr 1
    exact decide_eq_decide.mpr (by omega))
def Got (M : Nat) (ps : List Int) (r : Store) (res : Res PV) (ws : List W) (told : PV) : Prop := ∃ ps' x v, res = .ok (.tup [v, told]) (S ps' (r ++ x)) ∧ WL M (S ps' (r ++ x)) v ws
theorem lbehind {M : Nat} (hM : M < (S ps r).length) {n : Nat} {ws : List W} {told : PV} (hn0 : n ≠ 0) (hnM : n ≠ M) (hn : (S ps r)[n]? = some (.lst (ws.map .str))) (hl : ws.length ≤ 10) (ht : Fx told) (d : Nat) : ∃ s, sgOk s ∧ Got M ps r (R (d + 2) 12 [.loc 0, .loc n, told] (S ps r)) (ws ++ sgW s) (sgG s told) := by
  let ev0 : Env := [some (.loc 0), some (.loc n), some told, none, none]
  obtain ⟨j, ps1, hj, e1⟩ := e_pick (ev := ev0) (i := 0) rfl 12 12 rfl (by omega) d ps r
  obtain ⟨k, ps2, hk, e2⟩ := e_pick (ev := ev0) (i := 0) rfl 7 7 rfl (by omega) d ps1 r
  let X : Store := S ps2 r
  have hX : X[n]? = some (.lst (ws.map .str)) := by
    cases n with
    | zero => exact absurd rfl hn0
    | succ n => exact hn
  have hXl : X.length = (S ps r).length := rfl
  let ev : Env := [some (.loc 0), some (.loc n), some told, some (.int (j : Nat)), some (.int (k : Nat))]
  have pre : ∀ ss : CS, r12.c.body = .cons (.par 3 4 (.bin .mod (.call 9 (.cons (.var 0) .nil)) (.lit (.int 12))) (.bin .mod (.call 9 (.cons (.var 0) .nil)) (.lit (.int 7)))) ss → R (d + 2) 12 [.loc 0, .loc n, told] (S ps r) = (evS (R (d + 1)) Γ.gl NN ss ev X).bind fin := fun ss hss => by
    rw [run_eq (fn := r12.c) (by decide) rfl rfl, hss]
    show (evS (R (d + 1)) Γ.gl NN _ ev0 (S ps r)).bind fin = _
    rw [cons_nx ((par_v e1 e2).trans rfl)]
    rfl
  have pre := pre _ rfl
  -- a sign behind
  have put : ∀ (s : Sn) (e1 e2 : CE), s.ok → evE (R (d + 1)) Γ.gl NN e1 ev X = .ok (.str s.w) X → (∀ X, evE (R (d + 1)) Γ.gl NN e2 ev X = .ok (s.g told) X) → (R (d + 2) 12 [.loc 0, .loc n, told] (S ps r) = (evS (R (d + 1)) Γ.gl NN (.cons (.ret (.tup (.cons (.bin .add (.var 1) (.lst (.cons e1 .nil))) (.cons e2 .nil)))) .nil) ev X).bind fin) → ∃ s, sgOk s ∧ Got M ps r (R (d + 2) 12 [.loc 0, .loc n, told] (S ps r)) (ws ++ sgW s) (sgG s told) := fun s e1 e2 hs h1 h2 hr => by
    have hg : Fx (s.g told) := by cases s <;> exact fun _ => rfl
    have ec : evE (R (d + 1)) Γ.gl NN (.bin .add (.var 1) (.lst (.cons e1 .nil))) ev X = .ok (.tl (ws.map .str ++ [.str s.w])) X := bin_v (v := .tl [.str s.w]) (var_v rfl) (lst_v (cons_p h1 nil_v) (by simp [SZ])) (cat_l hX (by unfold SZ; simp; omega))
    refine ⟨some s, hs, ps2, [.lst ((ws ++ [s.w]).map .str)], .loc X.length, ?_, X.length, rfl, by simp [X], by omega, ?_⟩
    · rw [hr, cons_rt (ret_v (tup_v (us := [.loc X.length, s.g told]) (cons_v ec (cons_p (h2 _) nil_v (hg _))) (by simp [SZ])))]
      simp [fixv, fin, X, sgG]
    · have := get_last X (.lst ((ws ++ [s.w]).map .str))
      exact this
  have c3 := lt_v (c := R (d + 1)) (ev := ev) (st := X) (i := 3) (n := 3) (N := 3) (j := j) rfl rfl
  by_cases q3 : j < 3
  · rw [decide_eq_true q3] at c3
    have key : ∃ s : Sn, s.ok ∧ (∀ X, indexV (.str [94, 36, 64]) (.int (j : Nat)) X = some (.str s.w)) ∧ ∃ h : W, (∀ X, indexV (.tup [.str kBack, .str kFirst, .str kEnds]) (.int (j : Nat)) X = some (.str h)) ∧ ∀ v, s.g v = .tup [.str h, v] := by
      match j, q3 with
      | 0, _ => exact ⟨.back, trivial, fun _ => rfl, _, fun _ => rfl, fun _ => rfl⟩
      | 1, _ => exact ⟨.first, trivial, fun _ => rfl, _, fun _ => rfl, fun _ => rfl⟩
      | 2, _ => exact ⟨.ends, trivial, fun _ => rfl, _, fun _ => rfl, fun _ => rfl⟩
    obtain ⟨s, hs, k1, h, k2, k3⟩ := key
    refine put s (.ix (.lit (.str [94, 36, 64])) (.var 3)) (.tup (.cons (.ix (.tup (.cons (.lit (.str [98, 97, 99, 107])) (.cons (.lit (.str [102, 105, 114, 115, 116])) (.cons (.lit (.str [101, 110, 100, 115])) .nil)))) (.var 3)) (.cons (.var 2) .nil))) hs (ix_v lit_v (var_v rfl) (k1 _)) (fun X => ?_) ?_
    · rw [k3]
      exact tup_v (cons_p (ix_v (tup_v (us := [.str kBack, .str kFirst, .str kEnds]) (cons_p lit_v (cons_p lit_v (cons_p lit_v nil_v))) (by simp [SZ])) (var_v rfl) (k2 _)) (cons_p (var_v rfl) nil_v (ht _))) (by simp [SZ])
    · rw [pre]
      congr 1
      exact cons_ret c3
  · rw [decide_eq_false q3] at c3
    have c5 := lt_v (c := R (d + 1)) (ev := ev) (st := X) (i := 3) (n := 5) (N := 5) (j := j) rfl rfl
    by_cases q5 : j < 5
    · rw [decide_eq_true q5] at c5
      have key : ∃ s : Sn, s.ok ∧ ∃ a : W, (∀ X, indexV (.str [35, 60]) (.int ((j : Int) - 3)) X = some (.str a)) ∧ a.length ≤ 1 ∧ s.w = a ++ [48 + k] ∧ ∃ h : W, (∀ X, indexV (.tup [.str kTimes, .str kUpto]) (.int ((j : Int) - 3)) X = some (.str h)) ∧ ∀ v, s.g v = .tup [.str h, .int (k : Nat), v] := by
        have : j = 3 ∨ j = 4 := by omega
        rcases this with rfl | rfl
        · exact ⟨.times k, by show k < 10; omega, _, fun _ => rfl, by simp, rfl, _, fun _ => rfl, fun _ => rfl⟩
        · exact ⟨.upto k, by show k < 10; omega, _, fun _ => rfl, by simp, rfl, _, fun _ => rfl, fun _ => rfl⟩
      obtain ⟨s, hs, a, k1, ka, k2, h, k3, k4⟩ := key
      refine put s (.bin .add (.ix (.lit (.str [35, 60])) (.bin .sub (.var 3) (.lit (.int 3)))) (.blt1 .str (.var 4))) (.tup (.cons (.ix (.tup (.cons (.lit (.str [116, 105, 109, 101, 115])) (.cons (.lit (.str [117, 112, 116, 111])) .nil))) (.bin .sub (.var 3) (.lit (.int 3)))) (.cons (.var 4) (.cons (.var 2) .nil)))) hs ?_ (fun X => ?_) ?_
      · rw [k2]
        exact bin_v (ix_v lit_v (bin_v (var_v rfl) lit_v rfl) (k1 _)) (blt1_v (u := .int (k : Nat)) (var_v rfl) (by
          show (numStr (k : Nat)).map PV.str = _
          rw [num1 (by omega)]
          rfl)) (cat_s (by unfold SZ; simp; omega))
      · rw [k4]
        exact tup_v (cons_p (ix_v (tup_v (us := [.str kTimes, .str kUpto]) (cons_p lit_v (cons_p lit_v nil_v)) (by simp [SZ])) (bin_v (var_v rfl) lit_v rfl) (k3 _)) (cons_p (var_v rfl) (cons_p (var_v rfl) nil_v (ht _)))) (by simp [SZ])
      · rw [pre]
        congr 1
        exact (cons_nx ((if_f c3).trans rfl)).trans (cons_ret c5)
    · rw [decide_eq_false q5] at c5
      refine ⟨none, trivial, ps2, [], .loc n, ?_, n, rfl, hn0, hnM, ?_⟩
      · rw [pre]
        have e9 : evS (R (d + 1)) Γ.gl NN (.cons (.ret (.tup (.cons (.var 1) (.cons (.var 2) .nil)))) .nil) ev X = .ok (.rt (.tup [.loc n, told])) X := cons_rt (ret_v (tup_v (cons_p (var_v rfl) (cons_p (var_v rfl) nil_v (ht _))) (by simp [SZ])))
        rw [cons_nx ((if_f c3).trans rfl), cons_nx ((if_f c5).trans rfl), e9]
        simp [fin, X, sgG]
      · simp only [sgW, List.append_nil]
        exact hX
end
end K83

set_option maxHeartbeats 8000000
/-! K83l: _law_plain, _law_joined. -/
namespace K83
open Vm
section
variable {d : Nat} {ps : List Int} {r : Store} {ev : Env}
theorem gt_v {c : Nat → List PV → Store → Res PV} {i j n : Nat} {st : Store} {N : Int} (hN : N = n) (h : ev[i]? = some (some (.int (j : Nat)))) : evE c Γ.gl NN (.cmp .gt (.var i) (.lit (.int N))) ev st = .ok (.bl (decide (n < j))) st := by
  subst hN
  exact cmp_v (var_v h) lit_v (by
    show some (decide ((n : Int) < j)) = _
    congr 1
    exact decide_eq_decide.mpr (by omega))
theorem eq_v {c : Nat → List PV → Store → Res PV} {i j n : Nat} {st : Store} {N : Int} (hN : N = n) (h : ev[i]? = some (some (.int (j : Nat)))) : evE c Γ.gl NN (.cmp .eq (.var i) (.lit (.int N))) ev st = .ok (.bl (decide (j = n))) st := by
  subst hN
  exact cmp_v (var_v h) lit_v (by
    show some (((j : Nat) : Int) == ((n : Nat) : Int)) = _
    congr 1
    rw [Bool.eq_iff_iff]
    simp
    omega)
def Got1 (M : Nat) (ps : List Int) (r : Store) (res : Res PV) (ws : List W) (told : PV) : Prop := Got M ps r res ws told
theorem atm_fx (w : W) : Fx (atom w) := atom_fx w
theorem lplain (M : Nat) (d : Nat) (ps : List Int) (r : Store) (hM : M < (S ps r).length) : ∃ a : Atm, a.ok ∧ Got M ps r (R (d + 3) 11 [.loc 0] (S ps r)) a.tok a.val := by
  let ev0 : Env := [some (.loc 0), none, none, none, none]
  obtain ⟨j, ps1, hj, e1⟩ := e_pick (ev := ev0) (i := 0) rfl 6 6 rfl (by omega) (d + 1) ps r
  obtain ⟨k, ps2, hk, e2⟩ := e_pick (ev := ev0) (i := 0) rfl 6 6 rfl (by omega) (d + 1) ps1 r
  let X : Store := S ps2 r
  let names : List PV := [.str [110, 101, 120, 116], .str [114, 49], .str [97], .str [108, 101, 115, 115], .str [116, 57], .str [97, 98, 99, 49, 50, 51]]
  have hnm : ∃ nm : W, isName nm = true ∧ (nm == [61]) = false ∧ (nm == [63]) = false ∧ ∀ X, indexV (.tup names) (.int (k : Nat)) X = some (.str nm) := by
    match k, hk with
    | 0, _ => exact ⟨_, by decide, by decide, by decide, fun _ => rfl⟩
    | 1, _ => exact ⟨_, by decide, by decide, by decide, fun _ => rfl⟩
    | 2, _ => exact ⟨_, by decide, by decide, by decide, fun _ => rfl⟩
    | 3, _ => exact ⟨_, by decide, by decide, by decide, fun _ => rfl⟩
    | 4, _ => exact ⟨_, by decide, by decide, by decide, fun _ => rfl⟩
    | 5, _ => exact ⟨_, by decide, by decide, by decide, fun _ => rfl⟩
  obtain ⟨nm, hnm, n61, n63, hix⟩ := hnm
  let ev1 : Env := [some (.loc 0), some (.int (j : Nat)), some (.str nm), none, none]
  have s1 : evS (R (d + 2)) Γ.gl NN (.par 1 2 (.bin .mod (.call 9 (.cons (.var 0) .nil)) (.lit (.int 6))) (.ix (.tup (.cons (.lit (.str [110, 101, 120, 116])) (.cons (.lit (.str [114, 49])) (.cons (.lit (.str [97])) (.cons (.lit (.str [108, 101, 115, 115])) (.cons (.lit (.str [116, 57])) (.cons (.lit (.str [97, 98, 99, 49, 50, 51])) .nil))))))) (.bin .mod (.call 9 (.cons (.var 0) .nil)) (.lit (.int 6))))) ev0 (S ps r) = .ok (.nx ev1) X :=
    (par_v e1 (ix_v (tup_v (us := names) (cons_p lit_v (cons_p lit_v (cons_p lit_v (cons_p lit_v (cons_p lit_v (cons_p lit_v nil_v)))))) (by simp [SZ, names])) e2 (hix _))).trans rfl
  have key : ∃ w : W, (isName w = true ∨ w = [61] ∨ w = [63]) ∧ evE (R (d + 2)) Γ.gl NN (.ite (.cmp .gt (.var 1) (.lit (.int 1))) (.tup (.cons (.lst (.cons (.var 2) .nil)) (.cons (.tup (.cons (.lit (.str [116, 105, 101])) (.cons (.var 2) .nil))) .nil))) (.ite (.cmp .eq (.var 1) (.lit (.int 0))) (.tup (.cons (.lst (.cons (.lit (.str [61])) .nil)) (.cons (.tup (.cons (.lit (.str [115, 97, 109, 101])) .nil)) .nil))) (.tup (.cons (.lst (.cons (.lit (.str [63])) .nil)) (.cons (.tup (.cons (.lit (.str [97, 108, 108])) .nil)) .nil))))) ev1 X = .ok (.tup [.loc X.length, atom w]) (X ++ [.lst [.str w]]) := by
    have g := gt_v (c := R (d + 2)) (ev := ev1) (st := X) (i := 1) (n := 1) (N := 1) (j := j) rfl rfl
    by_cases q : 1 < j
    · rw [decide_eq_true q] at g
      have ea : atom nm = .tup [.str kTie, .str nm] := by
        unfold atom
        rw [n61, n63]
        rfl
      refine ⟨nm, .inl hnm, ?_⟩
      rw [ea]
      exact (ite_t g).trans (tup_v (cons_v (lst_v (cons_p (var_v rfl) nil_v) (by simp [SZ])) (cons_p (tup_v (cons_p lit_v (cons_p (var_v rfl) nil_v)) (by simp [SZ])) nil_v)) (by simp [SZ]))
    · rw [decide_eq_false q] at g
      have g2 := eq_v (c := R (d + 2)) (ev := ev1) (st := X) (i := 1) (n := 0) (N := 0) (j := j) rfl rfl
      by_cases q2 : j = 0
      · rw [decide_eq_true q2] at g2
        refine ⟨[61], .inr (.inl rfl), ?_⟩
        exact (ite_f g).trans ((ite_t g2).trans (tup_v (us := [.loc X.length, atom [61]]) (cons_v (lst_v (cons_p lit_v nil_v) (by simp [SZ])) (cons_p (tup_v (us := [.str kSame]) (cons_p lit_v nil_v) (by simp [SZ])) nil_v)) (by simp [SZ])))
      · rw [decide_eq_false q2] at g2
        refine ⟨[63], .inr (.inr rfl), ?_⟩
        exact (ite_f g).trans ((ite_f g2).trans (tup_v (us := [.loc X.length, atom [63]]) (cons_v (lst_v (cons_p lit_v nil_v) (by simp [SZ])) (cons_p (tup_v (us := [.str kAll]) (cons_p lit_v nil_v) (by simp [SZ])) nil_v)) (by simp [SZ])))
  obtain ⟨w, hw, ek⟩ := key
  let ev2 : Env := [some (.loc 0), some (.int (j : Nat)), some (.str nm), some (.loc X.length), some (atom w)]
  let Y : Store := S ps2 (r ++ [.lst [.str w]])
  have hY : Y.length = X.length + 1 := by simp [Y, X]
  have hn : (S ps2 (r ++ [Cell.lst [.str w]]))[X.length]? = some (.lst (([w] : List W).map .str)) := get_last X (.lst [.str w])
  obtain ⟨s, hs, ps3, x, v, e3, hv⟩ := lbehind (M := M) (ps := ps2) (r := r ++ [.lst [.str w]]) (n := X.length) (ws := [w]) (told := atom w) (by show M < Y.length; rw [hY]; show M < (S ps r).length + 1; omega) (by simp [X]) (by show (S ps r).length ≠ M; omega) hn (by simp) (atom_fx w) d
  refine ⟨⟨w, s⟩, ⟨hw, hs⟩, ps3, [.lst [.str w]] ++ x, v, ?_, ?_⟩
  · rw [run_eq (fn := r11.c) (by decide) rfl rfl]
    unfold r11
    show (evS (R (d + 2)) Γ.gl NN _ ev0 (S ps r)).bind fin = _
    rw [cons_nx s1, cons_nx (names_v (ev1 := ev2) ek rfl)]
    have e4 : evE (R (d + 2)) Γ.gl NN (.call 12 (.cons (.var 0) (.cons (.var 3) (.cons (.var 4) .nil)))) ev2 Y = .ok (.tup [v, sgG s (atom w)]) (S ps3 (r ++ [.lst [.str w]] ++ x)) := call_v (cons_p (var_v rfl) (cons_p (var_v rfl) (cons_p (var_v rfl) nil_v (atom_fx w _)))) e3
    have e4' : evE (R (d + 2)) Γ.gl NN (.call 12 (.cons (.var 0) (.cons (.var 3) (.cons (.var 4) .nil)))) ev2 (X ++ [.lst [.str w]]) = .ok (.tup [v, sgG s (atom w)]) (S ps3 (r ++ [.lst [.str w]] ++ x)) := e4
    rw [cons_rt (ret_v e4')]
    show Res.ok _ _ = _
    simp [Atm.val, fixv]
  · have : r ++ ([Cell.lst [.str w]] ++ x) = r ++ [.lst [.str w]] ++ x := by simp
    rw [this]
    exact hv
/-! ### _law_joined -/
def ov : Option Atm → PV
  | none => .non
  | some a => a.val
theorem sgG_nn (s : Option Sn) (w : W) : isNone (sgG s (atom w)) = false := by
  have : isNone (atom w) = false := by
    unfold atom
    repeat' split
    all_goals rfl
  cases s with
  | none => exact this
  | some s => cases s <;> rfl
theorem ov_none (o : Option Atm) : isNone (ov o) = o.isNone := by
  cases o with
  | none => rfl
  | some a => exact sgG_nn _ _
theorem val_fx (a : Atm) : Fx a.val := by
  show Fx (sgG a.s (atom a.w))
  cases a.s with
  | none => exact atom_fx _
  | some s => cases s <;> exact fun _ => rfl
theorem ov_fx (o : Option Atm) : Fx (ov o) := by
  cases o with
  | none => exact fun _ => rfl
  | some a => exact val_fx a
theorem joined_fx {l r : Option Atm} {one two : Nat} {f : PV} (hf : Fx f) : Fx (joined l one f two r) := by
  match l, r with
  | none, none => exact hf
  | some a, none => exact fun _ => rfl
  | none, some b => exact fun _ => rfl
  | some a, some b =>
    show Fx (if two ≤ one then _ else _)
    split <;> exact fun _ => rfl
def headsL : List PV := [.str kOr, .str kAnd, .str kThen]
theorem bn_v {c : Nat → List PV → Store → Res PV} {st : Store} {ea eb ec : CE} {h : W} {f g : PV} (h1 : evE c Γ.gl NN ea ev st = .ok (.str h) st) (h2 : evE c Γ.gl NN eb ev st = .ok f st) (h3 : evE c Γ.gl NN ec ev st = .ok g st) (hf : Fx f) (hg : Fx g) : evE c Γ.gl NN (.tup (.cons ea (.cons eb (.cons ec .nil)))) ev st = .ok (.tup [.str h, f, g]) st :=
  tup_v (cons_p h1 (cons_p h2 (cons_p h3 nil_v (hg _)) (hf _))) (by simp [SZ])
theorem is_none {c : Nat → List PV → Store → Res PV} {st : Store} {i : Nat} {o : Option Atm} (h : ev[i]? = some (some (ov o))) : evE c Γ.gl NN (.cmp .is (.var i) (.lit .non)) ev st = .ok (.bl o.isNone) st := cmp_v (var_v h) lit_v (by
  show (if isNone PV.non then some (isNone (ov o)) else none) = _
  rw [ov_none]
  rfl)
theorem ljoined (l r : Option Atm) {one two : Nat} (h1 : one ≤ 2) (h2 : two ≤ 2) {f : PV} (hf : Fx f) (st : Store) : R (d + 1) 13 [ov l, .str (hd one), f, .str (hd two), ov r] st = .ok (joined l one f two r) (st ++ [.lst headsL]) := by
  let X : Store := st ++ [.lst headsL]
  let ev0 : Env := [some (ov l), some (.str (hd one)), some f, some (.str (hd two)), some (ov r), none, none]
  let ev1 : Env := [some (ov l), some (.str (hd one)), some f, some (.str (hd two)), some (ov r), some (.loc st.length), none]
  have s1 : evS (R d) Γ.gl NN (.asg (.name 5) (.lst (.cons (.lit (.str [111, 114])) (.cons (.lit (.str [97, 110, 100])) (.cons (.lit (.str [116, 104, 101, 110])) .nil))))) ev0 st = .ok (.nx ev1) X := asg_nm (v := .tl headsL) (lst_v (cons_p lit_v (cons_p lit_v (cons_p lit_v nil_v))) (by simp [SZ, headsL]))
  rw [run_eq (fn := r13.c) (by decide) rfl rfl]
  unfold r13
  show (evS (R d) Γ.gl NN _ ev0 st).bind fin = _
  rw [cons_nx s1]
  have n0 := is_none (c := R d) (ev := ev1) (st := X) (i := 0) (o := l) rfl
  have n4 := is_none (c := R d) (ev := ev1) (st := X) (i := 4) (o := r) rfl
  have c1 := or_p n0 fun _ => n4
  have jf := joined_fx (l := l) (r := r) (one := one) (two := two) hf
  cases hq : (l.isNone || r.isNone) with
  | true =>
    rw [hq] at c1
    let f1 : PV := match l with
      | none => f
      | some a => bn one a.val f
    have f1x : Fx f1 := by
      cases l with
      | none => exact hf
      | some a => exact fun _ => rfl
    have e6 : evE (R d) Γ.gl NN (.ite (.cmp .is (.var 0) (.lit .non)) (.var 2) (.tup (.cons (.var 1) (.cons (.var 0) (.cons (.var 2) .nil))))) ev1 X = .ok f1 X := by
      cases l with
      | none => exact (ite_t n0).trans (var_v rfl)
      | some a => exact (ite_f n0).trans (bn_v (var_v rfl) (var_v rfl) (var_v rfl) (val_fx a) hf)
    let ev2 : Env := [some (ov l), some (.str (hd one)), some f, some (.str (hd two)), some (ov r), some (.loc st.length), some f1]
    have n4' := is_none (c := R d) (ev := ev2) (st := X) (i := 4) (o := r) rfl
    have e7 : evE (R d) Γ.gl NN (.ite (.cmp .is (.var 4) (.lit .non)) (.var 6) (.tup (.cons (.var 3) (.cons (.var 6) (.cons (.var 4) .nil))))) ev2 X = .ok (joined l one f two r) X := by
      cases r with
      | none =>
        refine (ite_t n4').trans ((var_v rfl).trans ?_)
        cases l <;> rfl
      | some b =>
        refine (ite_f n4').trans ((bn_v (var_v rfl) (var_v rfl) (var_v rfl) f1x (val_fx b)).trans ?_)
        cases l with
        | none => rfl
        | some a => cases hq
    have body : evS (R d) Γ.gl NN (.cons (.asg (.name 6) (.ite (.cmp .is (.var 0) (.lit .non)) (.var 2) (.tup (.cons (.var 1) (.cons (.var 0) (.cons (.var 2) .nil)))))) (.cons (.ret (.ite (.cmp .is (.var 4) (.lit .non)) (.var 6) (.tup (.cons (.var 3) (.cons (.var 6) (.cons (.var 4) .nil)))))) .nil)) ev1 X = .ok (.rt (joined l one f two r)) X :=
      (cons_nx (asg_fx f1x e6)).trans (cons_rt (ret_fx jf e7))
    rw [cons_rt ((if_t c1).trans body)]
    rfl
  | false =>
    rw [hq] at c1
    obtain ⟨a, rfl⟩ : ∃ a, l = some a := by
      cases l with
      | none => cases hq
      | some a => exact ⟨a, rfl⟩
    obtain ⟨b, rfl⟩ : ∃ b, r = some b := by
      cases r with
      | none => cases hq
      | some b => exact ⟨b, rfl⟩
    rw [cons_nx ((if_f c1).trans rfl)]
    have ix : ∀ (i : Nat) (k : Nat), k ≤ 2 → ev1[i]? = some (some (.str (hd k))) → evE (R d) Γ.gl NN (.mth1 .index (.var 5) (.var i)) ev1 X = .ok (.int (k : Nat)) X := fun i k hk hi => by
      have g : X[st.length]? = some (.lst headsL) := get_last _ _
      have h5 : evE (R d) Γ.gl NN (.var 5) ev1 X = .ok (.loc st.length) X := var_v rfl
      have hi : evE (R d) Γ.gl NN (.var i) ev1 X = .ok (.str (hd k)) X := var_v hi
      have hl : lv X (.loc st.length) = some headsL := by
        unfold lv
        dsimp only
        rw [g]
      have hm : mth1 .index (.loc st.length) (.str (hd k)) X = some (.int (k : Nat), X) := by
        show ((lv X (.loc st.length)).bind (indexL (.str (hd k)))).map _ = _
        rw [hl]
        match k, hk with
        | 0, _ => rfl
        | 1, _ => rfl
        | 2, _ => rfl
      show (evE (R d) Γ.gl NN (.var 5) ev1 X).bind _ = _
      rw [h5, Res.bind_ok]
      have hk : mOk .index (.loc st.length) X = true := by
        show (lv _ _).isSome = true
        rw [hl]
        rfl
      unfold guardR
      rw [if_pos hk]
      show (fixR (evE (R d) Γ.gl NN (.var i) ev1 X)).bind _ = _
      rw [hi]
      show mthR (mth1 .index (.loc st.length) (.str (hd k)) X) = _
      rw [hm]
      rfl
    have c2 : evE (R d) Γ.gl NN (.cmp .ge (.mth1 .index (.var 5) (.var 1)) (.mth1 .index (.var 5) (.var 3))) ev1 X = .ok (.bl (decide (two ≤ one))) X := cmp_v (ix 1 one h1 rfl) (ix 3 two h2 rfl) (by
      show some (decide ((two : Int) ≤ one)) = _
      congr 1
      exact decide_eq_decide.mpr (by omega))
    show _ = Res.ok (if two ≤ one then _ else _) _
    by_cases q : two ≤ one
    · rw [decide_eq_true q] at c2
      rw [cons_ret c2, cons_rt (ret_v (bn_v (var_v rfl) (bn_v (var_v rfl) (var_v rfl) (var_v rfl) (val_fx a) hf) (var_v rfl) (fun _ => rfl) (val_fx b))), if_pos q]
      rfl
    · rw [decide_eq_false q] at c2
      rw [cons_nx ((if_f c2).trans rfl), cons_rt (ret_v (bn_v (var_v rfl) (var_v rfl) (bn_v (var_v rfl) (var_v rfl) (var_v rfl) hf (val_fx b)) (val_fx a) (fun _ => rfl))), if_neg q]
      rfl
end
end K83

set_option maxHeartbeats 8000000
/-! K83m: the first loop of the law. -/
namespace K83
open Vm
/-- nothing is lost but at 0 and at M -/
def Gr (M : Nat) (X Y : Store) : Prop := X.length ≤ Y.length ∧ ∀ n c, n ≠ 0 → n ≠ M → X[n]? = some c → Y[n]? = some c
theorem Gr.rfl' {M : Nat} {X : Store} : Gr M X X := ⟨Nat.le_refl _, fun _ _ _ _ h => h⟩
theorem Gr.trans {M : Nat} {X Y Z : Store} (h : Gr M X Y) (g : Gr M Y Z) : Gr M X Z := ⟨Nat.le_trans h.1 g.1, fun n c h0 hm hx => g.2 n c h0 hm (h.2 n c h0 hm hx)⟩
theorem gr_s (M : Nat) {ps ps' : List Int} {r x : Store} : Gr M (S ps r) (S ps' (r ++ x)) := ⟨by simp, fun n c h0 _ h => by
  cases n with
  | zero => exact absurd rfl h0
  | succ n =>
    have h : r[n]? = some c := h
    show (r ++ x)[n]? = some c
    rw [List.getElem?_append_left (List.getElem?_eq_some_iff.mp h).1]
    exact h⟩
theorem gr_app (M : Nat) {X x : Store} : Gr M X (X ++ x) := ⟨by simp, fun n c h0 _ h => by
  rw [List.getElem?_append_left (List.getElem?_eq_some_iff.mp h).1]
  exact h⟩
theorem gr_set (M : Nat) {X : Store} {c : Cell} : Gr M X (X.set M c) := ⟨by simp, fun n c h0 hm h => by
  rw [List.getElem?_set_ne (Ne.symm hm)]
  exact h⟩
theorem WL.gr {M : Nat} {X Y : Store} {v : PV} {ws : List W} (h : WL M X v ws) (g : Gr M X Y) : WL M Y v ws := by
  obtain ⟨n, rfl, h0, hm, hx⟩ := h
  exact ⟨n, rfl, h0, hm, g.2 n _ h0 hm hx⟩
def ow : Option Atm → List W
  | none => []
  | some a => a.tok
def PL (M : Nat) (X : Store) (v : PV) (o : Option Atm) : Prop := ∃ u, v = .tup [u, ov o] ∧ WL M X u (ow o)
theorem PL.gr {M : Nat} {X Y : Store} {v : PV} {o : Option Atm} (h : PL M X v o) (g : Gr M X Y) : PL M Y v o := by
  obtain ⟨u, e, hu⟩ := h
  exact ⟨u, e, hu.gr g⟩
theorem PL.fx {M : Nat} {X : Store} {v : PV} {o : Option Atm} (h : PL M X v o) : Fx v := by
  obtain ⟨u, rfl, _⟩ := h
  exact fun _ => rfl
abbrev kHeld : W := [104, 101, 108, 100]
def SGn (M : Nat) (X : Store) (v : PV) (s : Option Sn) : Prop := ∃ u, v = .tup [u, sgG s (.str kHeld)] ∧ WL M X u (sgW s)
theorem SGn.gr {M : Nat} {X Y : Store} {v : PV} {o : Option Sn} (h : SGn M X v o) (g : Gr M X Y) : SGn M Y v o := by
  obtain ⟨u, e, hu⟩ := h
  exact ⟨u, e, hu.gr g⟩
/-- a level as the law keeps it -/
def LV (M : Nat) (X : Store) (v : PV) : Lv → Prop
  | .not => ∃ u, v = .tup [u, .non]
  | .par l one two r s => ∃ u p q g, v = .tup [u, .tup [p, .str (hd one), .str (hd two), q, g]] ∧ PL M X p l ∧ PL M X q r ∧ SGn M X g s
theorem LV.gr {M : Nat} {X Y : Store} {v : PV} {l : Lv} (h : LV M X v l) (g : Gr M X Y) : LV M Y v l := by
  cases l with
  | not => exact h
  | par l one two r s =>
    obtain ⟨u, p, q, w, e, h1, h2, h3⟩ := h
    exact ⟨u, p, q, w, e, h1.gr g, h2.gr g, h3.gr g⟩
theorem LV.fx {M : Nat} {X : Store} {v : PV} {l : Lv} (h : LV M X v l) : Fx v := by
  cases l with
  | not => obtain ⟨u, rfl⟩ := h; exact fun _ => rfl
  | par l one two r s => obtain ⟨u, p, q, w, rfl, _⟩ := h; exact fun _ => rfl
inductive LVs (M : Nat) (X : Store) : List PV → List Lv → Prop
  | nil : LVs M X [] []
  | cons {v : PV} {l : Lv} {vs : List PV} {ls : List Lv} : LV M X v l → LVs M X vs ls → LVs M X (v :: vs) (l :: ls)
theorem LVs.gr {M : Nat} {X Y : Store} {vs : List PV} {ls : List Lv} (h : LVs M X vs ls) (g : Gr M X Y) : LVs M Y vs ls := by
  induction h with
  | nil => exact .nil
  | cons h _ ih => exact .cons (h.gr g) ih
theorem LVs.snoc {M : Nat} {X : Store} {vs : List PV} {ls : List Lv} (h : LVs M X vs ls) {v : PV} {l : Lv} (hv : LV M X v l) : LVs M X (vs ++ [v]) (ls ++ [l]) := by
  induction h with
  | nil => exact .cons hv .nil
  | cons h _ ih => exact .cons h ih
theorem LVs.len {M : Nat} {X : Store} {vs : List PV} {ls : List Lv} (h : LVs M X vs ls) : vs.length = ls.length := by
  induction h with
  | nil => rfl
  | cons _ _ ih => simp [ih]
theorem LVs.at {M : Nat} {X : Store} {vs : List PV} {ls : List Lv} (h : LVs M X vs ls) : ∀ (i : Nat) (hi : i < vs.length) (hj : i < ls.length), LV M X vs[i] ls[i] := by
  induction h with
  | nil => intro i hi; simp at hi
  | cons h _ ih =>
    intro i hi hj
    cases i with
    | zero => exact h
    | succ i => exact ih i (by simpa using hi) (by simpa using hj)
structure K1 (M : Nat) (vs : List PV) (ls : List Lv) (X : Store) : Prop where
  m0 : M ≠ 0
  at_ : X[M]? = some (.lst vs)
  all : LVs M X vs ls
  ok : ∀ l ∈ ls, l.ok
  few : ls.length ≤ 100
theorem K1.lt {M : Nat} {vs : List PV} {ls : List Lv} {X : Store} (h : K1 M vs ls X) : M < X.length := (List.getElem?_eq_some_iff.mp h.at_).1
abbrev E1 (v0 v2 v3 v4 v5 : PV) (M : Nat) (z7 z8 z9 z10 z11 : Option PV) (t : List (Option PV)) : Env := some v0 :: some (.loc 0) :: some v2 :: some v3 :: some v4 :: some v5 :: some (.loc M) :: z7 :: z8 :: z9 :: z10 :: z11 :: t
section
variable {d : Nat} {ps : List Int} {r : Store} {ev : Env} {M : Nat}
/-- append a level -/
theorem app_v {c : Nat → List PV → Store → Res PV} {e : CE} {X Y : Store} {vs : List PV} {v : PV} {i : Nat} (hi : ev[i]? = some (some (.loc M))) (hx : X[M]? = some (.lst vs)) (hy : Y[M]? = some (.lst vs)) (hv : Fx v) (he : evE c Γ.gl NN e ev X = .ok v Y) (hl : vs.length ≤ 1000) : evS c Γ.gl NN (.expr (.mth1 .append (.var i) e)) ev X = .ok (.nx ev) (Y.set M (.lst (vs ++ [v]))) := by
  refine expr_v (v := .non) ?_
  have h1 : evE c Γ.gl NN (.var i) ev X = .ok (.loc M) X := var_v hi
  have lm' : ∀ X : Store, X[M]? = some (.lst vs) → lm X (.loc M) = some (M, vs) := fun X h => by
    unfold lm
    dsimp only
    rw [h]
  show (evE c Γ.gl NN (.var i) ev X).bind _ = _
  rw [h1, Res.bind_ok]
  have hk : mOk .append (.loc M) X = true := by
    show (lm _ _).isSome = true
    rw [lm' X hx]
    rfl
  unfold guardR
  rw [if_pos hk]
  show (fixR (evE c Γ.gl NN e ev X)).bind _ = _
  rw [he]
  unfold fixR
  rw [Res.bind_ok, hv, Res.bind_ok]
  have : mth1 .append (.loc M) v Y = some (.non, Y.set M (.lst (vs ++ [v]))) := by
    show (match lm Y (.loc M) with
      | some (n, xs) => guardO (decide (xs.length < SZ)) (PV.non, Y.set n (.lst (xs ++ [v])))
      | none => none) = _
    rw [lm' Y hy]
    show guardO (decide (vs.length < SZ)) _ = _
    rw [decide_eq_true (by unfold SZ; omega)]
    rfl
  rw [this]
  rfl
/-- _law_plain, or none -/
theorem e_opt {cond : CE} (h1 : ev[1]? = some (some (.loc 0))) {b : Bool} (hc : ∀ X, evE (R (d + 3)) Γ.gl NN cond ev X = .ok (.bl b) X) (ps : List Int) (r : Store) (hM : M < (S ps r).length) : ∃ o ps' x v, aOk o ∧ evE (R (d + 3)) Γ.gl NN (.ite cond (.call 11 (.cons (.var 1) .nil)) (.tup (.cons (.lst .nil) (.cons (.lit .non) .nil)))) ev (S ps r) = .ok v (S ps' (r ++ x)) ∧ PL M (S ps' (r ++ x)) v o := by
  cases b with
  | true =>
    obtain ⟨a, ha, ps', x, v, e, hv⟩ := lplain M d ps r hM
    exact ⟨some a, ps', x, _, ha, (ite_t (hc _)).trans (call_v (cons_p (var_v h1) nil_v) e), v, rfl, hv⟩
  | false =>
    refine ⟨none, ps, [.lst []], .tup [.loc (S ps r).length, .non], trivial, ?_, _, rfl, _, rfl, by simp, by omega, get_last (S ps r) (.lst [])⟩
    exact (ite_f (hc _)).trans (tup_v (cons_v (lst_v nil_v (by simp [SZ])) (cons_p lit_v nil_v)) (by simp [SZ]))
theorem ix_lst {c : Nat → List PV → Store → Res PV} {st : Store} {i n : Nat} {xs : List PV} {v : PV} (hi : ev[i]? = some (some (.loc n))) (hx : st[n]? = some (.lst xs)) (k : Nat) (hk : xs[k]? = some v) : evE c Γ.gl NN (.ix (.var i) (.lit (.int k))) ev st = .ok v st := by
  refine ix_v (var_v hi) lit_v ?_
  obtain ⟨h1, h2⟩ := List.getElem?_eq_some_iff.mp hk
  unfold indexV indexG dv sv lv
  dsimp only
  rw [hx]
  dsimp only
  rw [Option.bind_some, item_nat _ _ h1, h2]
def body1 : CS := (.cons (.asg (.name 8) (.bin .mod (.call 9 (.cons (.var 1) .nil)) (.lit (.int 6)))) (.cons (.if_ (.cmp .eq (.var 8) (.lit (.int 0))) (.cons (.expr (.mth1 .append (.var 6) (.tup (.cons (.lst (.cons (.lit (.str [33])) .nil)) (.cons (.lit .non) .nil))))) (.cons .cont .nil)) .nil) (.cons (.par 9 10 (.ite (.cmp .isin (.var 8) (.tup (.cons (.lit (.int 2)) (.cons (.lit (.int 4)) .nil)))) (.call 11 (.cons (.var 1) .nil)) (.tup (.cons (.lst .nil) (.cons (.lit .non) .nil)))) (.ite (.cmp .isin (.var 8) (.tup (.cons (.lit (.int 3)) (.cons (.lit (.int 4)) .nil)))) (.call 11 (.cons (.var 1) .nil)) (.tup (.cons (.lst .nil) (.cons (.lit .non) .nil))))) (.cons (.asg (.name 11) (.lc [22] .rng1 (.lit (.int 2)) .noE false .noE (.ix (.tup (.cons (.lit (.str [111, 114])) (.cons (.lit (.str [97, 110, 100])) (.cons (.lit (.str [116, 104, 101, 110])) .nil)))) (.bin .mod (.call 9 (.cons (.var 1) .nil)) (.lit (.int 3)))))) (.cons (.expr (.mth1 .append (.var 6) (.tup (.cons (.lst (.cons (.lit (.str [40])) .nil)) (.cons (.tup (.cons (.var 9) (.cons (.ix (.var 11) (.lit (.int 0))) (.cons (.ix (.var 11) (.lit (.int 1))) (.cons (.var 10) (.cons (.call 12 (.cons (.var 1) (.cons (.lst .nil) (.cons (.lit (.str [104, 101, 108, 100])) .nil)))) .nil)))))) .nil))))) .nil)))))
/-- two signs drawn -/
theorem e_signs (h1 : ev[1]? = some (some (.loc 0))) (hl : ∀ x : Option PV, ((ev.set 22 none).set 22 x)[1]? = some (some (.loc 0))) (d : Nat) (ps : List Int) (r : Store) : ∃ k1 k2 ps', k1 ≤ 2 ∧ k2 ≤ 2 ∧ evE (R (d + 1)) Γ.gl NN (.lc [22] .rng1 (.lit (.int 2)) .noE false .noE (.ix (.tup (.cons (.lit (.str [111, 114])) (.cons (.lit (.str [97, 110, 100])) (.cons (.lit (.str [116, 104, 101, 110])) .nil)))) (.bin .mod (.call 9 (.cons (.var 1) .nil)) (.lit (.int 3))))) ev (S ps r) = .ok (.tl [.str (hd k1), .str (hd k2)]) (S ps' r) := by
  have hopt : ∀ k < 3, ∀ st : Store, indexV (.tup [.str kOr, .str kAnd, .str kThen]) (.int (k : Nat)) st = some (.str (hd k)) := fun k hk st => by
    match k, hk with
    | 0, _ => rfl
    | 1, _ => rfl
    | 2, _ => rfl
  have ep : ∀ (i : Int) ps, ∃ k ps', k < 3 ∧ itemM [22] ev (condM false fun ev st => evE (R (d + 1)) Γ.gl NN .noE ev st) (fun ev st => evE (R (d + 1)) Γ.gl NN (.ix (.tup (.cons (.lit (.str [111, 114])) (.cons (.lit (.str [97, 110, 100])) (.cons (.lit (.str [116, 104, 101, 110])) .nil)))) (.bin .mod (.call 9 (.cons (.var 1) .nil)) (.lit (.int 3)))) ev st) (.int i) (S ps r) = .ok (some (.str (hd k))) (S ps' r) := fun i ps => by
    obtain ⟨k, ps', hk, e⟩ := e_pick (i := 1) (hl (some (.int i))) 3 3 rfl (by omega) d ps r
    refine ⟨k, ps', hk, ?_⟩
    have e2 : evE (R (d + 1)) Γ.gl NN (.ix (.tup (.cons (.lit (.str [111, 114])) (.cons (.lit (.str [97, 110, 100])) (.cons (.lit (.str [116, 104, 101, 110])) .nil)))) (.bin .mod (.call 9 (.cons (.var 1) .nil)) (.lit (.int 3)))) ((ev.set 22 none).set 22 (some (.int i))) (S ps r) = .ok (.str (hd k)) (S ps' r) := ix_v (u := .tup [.str kOr, .str kAnd, .str kThen]) (tup_v (cons_p lit_v (cons_p lit_v (cons_p lit_v nil_v))) (by simp [SZ])) e (hopt k hk _)
    show noExc ((Res.ok true (S ps r) : Res Bool).bind fun r st3 => if r then (fixR (evE (R (d + 1)) Γ.gl NN (.ix (.tup (.cons (.lit (.str [111, 114])) (.cons (.lit (.str [97, 110, 100])) (.cons (.lit (.str [116, 104, 101, 110])) .nil)))) (.bin .mod (.call 9 (.cons (.var 1) .nil)) (.lit (.int 3)))) ((ev.set 22 none).set 22 (some (.int i))) st3)).bind fun y st4 => .ok (some y) st4 else .ok none st3) = _
    rw [Res.bind_ok, if_pos rfl, e2]
    rfl
  obtain ⟨k1, ps3, hk1, ek1⟩ := ep 0 ps
  obtain ⟨k2, ps4, hk2, ek2⟩ := ep 1 ps3
  refine ⟨k1, k2, ps4, by omega, by omega, ?_⟩
  have q : (evE (R (d + 1)) Γ.gl NN (.lit (.int 2)) ev (S ps r)).bind (fun v st1 => Res.of (rng1Of v) st1) = .ok (.rng 0 2) (S ps r) := by
    show Res.of (rng1Of (.int ((2 : Nat) : Int))) _ = _
    rw [rng_run (by simp [SZ])]
    rfl
  show lcM NN [22] (iterM .rng1 (fun ev st => evE (R (d + 1)) Γ.gl NN _ ev st) (fun ev st => evE (R (d + 1)) Γ.gl NN .noE ev st)) (condM false fun ev st => evE (R (d + 1)) Γ.gl NN .noE ev st) (fun ev st => evE (R (d + 1)) Γ.gl NN _ ev st) _ _ = _
  unfold lcM iterM
  dsimp only
  rw [q, Res.bind_ok]
  unfold lcSrc
  dsimp only
  unfold lcRng
  rw [ek1, Res.bind_ok]
  show (guardR true (lcRng _ 1 1 [.str (hd k1)] (S ps3 r))).bind _ = _
  unfold guardR lcRng
  rw [if_pos rfl, ek2, Res.bind_ok]
  rfl
theorem body1_run {vs : List PV} {ls : List Lv} (K : K1 M vs ls (S ps r)) (hl : ls.length < 100) (d : Nat) (v0 v2 v3 v4 v5 : PV) (z7 z8 z9 z10 z11 : Option PV) (t : List (Option PV)) :
    ∃ (l : Lv) (v : PV) (ps' : List Int) (r' : Store) (y8 y9 y10 y11 : Option PV) (fl : Flow), K1 M (vs ++ [v]) (ls ++ [l]) (S ps' r') ∧ Gr M (S ps r) (S ps' r') ∧ evS (R (d + 3)) Γ.gl NN body1 (E1 v0 v2 v3 v4 v5 M z7 z8 z9 z10 z11 t) (S ps r) = .ok fl (S ps' r') ∧ (fl = .nx (E1 v0 v2 v3 v4 v5 M z7 y8 y9 y10 y11 t) ∨ fl = .ct (E1 v0 v2 v3 v4 v5 M z7 y8 y9 y10 y11 t)) := by
  obtain ⟨m, rfl⟩ : ∃ m, M = m + 1 := ⟨M - 1, by have := K.m0; omega⟩
  have hlen := K.all.len
  have hrm : r[m]? = some (.lst vs) := K.at_
  have hrm' : ∀ (ps' : List Int) (x : Store), (S ps' (r ++ x))[m + 1]? = some (.lst vs) := fun ps' x => by
    show (r ++ x)[m]? = _
    rw [List.getElem?_append_left (List.getElem?_eq_some_iff.mp hrm).1]
    exact hrm
  have hMl : ∀ (ps' : List Int) (x : Store), m + 1 < (S ps' (r ++ x)).length := fun ps' x => (List.getElem?_eq_some_iff.mp (hrm' ps' x)).1
  -- what is made of a level's value
  have fin1 : ∀ (l : Lv) (v : PV) (ps' : List Int) (x : Store), l.ok → LV (m + 1) (S ps' (r ++ x)) v l → K1 (m + 1) (vs ++ [v]) (ls ++ [l]) (S ps' ((r ++ x).set m (.lst (vs ++ [v])))) ∧ Gr (m + 1) (S ps r) (S ps' ((r ++ x).set m (.lst (vs ++ [v])))) := fun l v ps' x hok hv => by
    have g1 : Gr (m + 1) (S ps' (r ++ x)) (S ps' ((r ++ x).set m (.lst (vs ++ [v])))) := gr_set (m + 1) (X := S ps' (r ++ x))
    have g : Gr (m + 1) (S ps r) (S ps' ((r ++ x).set m (.lst (vs ++ [v])))) := (gr_s _).trans g1
    refine ⟨⟨by omega, ?_, (K.all.gr g).snoc (hv.gr g1), ?_, by simp; omega⟩, g⟩
    · show ((r ++ x).set m (.lst (vs ++ [v])))[m]? = _
      have : m < (r ++ x).length := by
        have := hMl ps' x
        simp at this ⊢
        omega
      simp [List.getElem?_set_self this]
    · intro k hk
      rcases List.mem_append.mp hk with hk | hk
      · exact K.ok k hk
      · simp at hk
        subst hk
        exact hok
  let ev0 : Env := E1 v0 v2 v3 v4 v5 (m + 1) z7 z8 z9 z10 z11 t
  obtain ⟨j, ps1, hj, e1⟩ := e_pick (ev := ev0) (i := 1) rfl 6 6 rfl (by omega) (d + 2) ps r
  let ev1 : Env := E1 v0 v2 v3 v4 v5 (m + 1) z7 (some (.int (j : Nat))) z9 z10 z11 t
  have s1 : evS (R (d + 3)) Γ.gl NN (.asg (.name 8) (.bin .mod (.call 9 (.cons (.var 1) .nil)) (.lit (.int 6)))) ev0 (S ps r) = .ok (.nx ev1) (S ps1 r) := (asg_nm e1).trans rfl
  have c0 := eq_v (c := R (d + 3)) (ev := ev1) (st := S ps1 r) (i := 8) (n := 0) (N := 0) (j := j) rfl rfl
  by_cases q0 : j = 0
  · rw [decide_eq_true q0] at c0
    have ev : evE (R (d + 3)) Γ.gl NN (.tup (.cons (.lst (.cons (.lit (.str [33])) .nil)) (.cons (.lit .non) .nil))) ev1 (S ps1 r) = .ok (.tup [.loc (S ps1 r).length, .non]) (S ps1 (r ++ [.lst [.str [33]]])) := tup_v (cons_v (lst_v (cons_p lit_v nil_v) (by simp [SZ])) (cons_p lit_v nil_v)) (by simp [SZ])
    have ea := app_v (i := 6) (M := m + 1) rfl (show (S ps1 r)[m + 1]? = some (.lst vs) from hrm) (hrm' ps1 [.lst [.str [33]]]) (fun _ => rfl) ev (by omega)
    obtain ⟨k1, k2⟩ := fin1 .not (.tup [.loc (S ps1 r).length, .non]) ps1 [.lst [.str [33]]] trivial ⟨_, rfl⟩
    refine ⟨.not, _, ps1, _, some (.int (j : Nat)), z9, z10, z11, .ct ev1, k1, k2, ?_, .inr rfl⟩
    unfold body1
    rw [cons_nx s1]
    show (evS (R (d + 3)) Γ.gl NN (.if_ _ _ _) ev1 (S ps1 r)).bind _ = _
    rw [(if_t c0).trans ((cons_nx ea).trans rfl)]
    rfl
  · rw [decide_eq_false q0] at c0
    have hb : ∀ a b : Int, ∃ p : Bool, ∀ X, evE (R (d + 3)) Γ.gl NN (.cmp .isin (.var 8) (.tup (.cons (.lit (.int a)) (.cons (.lit (.int b)) .nil)))) ev1 X = .ok (.bl p) X := fun a b => ⟨_, fun X => cmp_v (v := .tup [.int a, .int b]) (var_v rfl) (tup_v (cons_p lit_v (cons_p lit_v nil_v)) (by simp [SZ])) rfl⟩
    obtain ⟨p, hp⟩ := hb 2 4
    obtain ⟨q, hq⟩ := hb 3 4
    obtain ⟨o1, ps2, x1, w1, ok1, f1, g1⟩ := e_opt (M := m + 1) (d := d) (ev := ev1) rfl hp ps1 r (K.lt)
    obtain ⟨o2, ps3, x2, w2, ok2, f2, g2⟩ := e_opt (M := m + 1) (d := d) (ev := ev1) rfl hq ps2 (r ++ x1) (hMl ps2 x1)
    have g1' := g1.gr (gr_s (m + 1) (ps' := ps3) (x := x2))
    let ev2 : Env := E1 v0 v2 v3 v4 v5 (m + 1) z7 (some (.int (j : Nat))) (some w1) (some w2) z11 t
    have s2 : evS (R (d + 3)) Γ.gl NN (.par 9 10 (.ite (.cmp .isin (.var 8) (.tup (.cons (.lit (.int 2)) (.cons (.lit (.int 4)) .nil)))) (.call 11 (.cons (.var 1) .nil)) (.tup (.cons (.lst .nil) (.cons (.lit .non) .nil)))) (.ite (.cmp .isin (.var 8) (.tup (.cons (.lit (.int 3)) (.cons (.lit (.int 4)) .nil)))) (.call 11 (.cons (.var 1) .nil)) (.tup (.cons (.lst .nil) (.cons (.lit .non) .nil))))) ev1 (S ps1 r) = .ok (.nx ev2) (S ps3 (r ++ x1 ++ x2)) := by
      have q := par_v (i := 9) (j := 10) f1 (by rw [g1.fx]; exact f2)
      rw [g1.fx, g2.fx] at q
      exact q
    obtain ⟨k1, k2, ps4, hk1, hk2, f3⟩ := e_signs (ev := ev2) rfl (fun _ => rfl) (d + 2) ps3 (r ++ x1 ++ x2)
    let Q : Nat := (S ps4 (r ++ x1 ++ x2)).length
    let X3 : Store := r ++ x1 ++ x2 ++ [.lst [.str (hd k1), .str (hd k2)]]
    let ev3 : Env := E1 v0 v2 v3 v4 v5 (m + 1) z7 (some (.int (j : Nat))) (some w1) (some w2) (some (.loc Q)) t
    have s3 : evS (R (d + 3)) Γ.gl NN (.asg (.name 11) (.lc [22] .rng1 (.lit (.int 2)) .noE false .noE (.ix (.tup (.cons (.lit (.str [111, 114])) (.cons (.lit (.str [97, 110, 100])) (.cons (.lit (.str [116, 104, 101, 110])) .nil)))) (.bin .mod (.call 9 (.cons (.var 1) .nil)) (.lit (.int 3)))))) ev2 (S ps3 (r ++ x1 ++ x2)) = .ok (.nx ev3) (S ps4 X3) := (asg_nm f3).trans rfl
    let X4 : Store := X3 ++ [.lst [.str [40]]]
    let X5 : Store := X4 ++ [.lst []]
    have eX : ∀ (ps' : List Int) (x : Store), S ps' (X5 ++ x) = S ps' (r ++ (x1 ++ x2 ++ [.lst [.str (hd k1), .str (hd k2)]] ++ [.lst [.str [40]]] ++ [.lst []] ++ x)) := fun ps' x => by simp [X5, X4, X3]
    have eX0 := eX ps4 []
    rw [List.append_nil] at eX0
    obtain ⟨s, hs, ps5, x, v, f4, hv⟩ := lbehind (M := m + 1) (ps := ps4) (r := X5) (n := (S ps4 X4).length) (ws := []) (told := .str kHeld) (by rw [eX0]; exact hMl _ _) (by simp) (by
      have := hMl ps4 (x1 ++ x2 ++ [.lst [.str (hd k1), .str (hd k2)]] ++ [.lst [.str [40]]])
      have e : S ps4 X4 = S ps4 (r ++ (x1 ++ x2 ++ [.lst [.str (hd k1), .str (hd k2)]] ++ [.lst [.str [40]]])) := by simp [X4, X3]
      rw [e]
      omega) (get_last (S ps4 X4) (.lst [])) (by simp) (fun _ => rfl) (d + 1)
    have gq3 : ∀ x : Store, (S ps4 (X3 ++ x))[Q]? = some (.lst [.str (hd k1), .str (hd k2)]) := fun x => by
      have a : (S ps4 X3)[Q]? = some (.lst [.str (hd k1), .str (hd k2)]) := get_last (S ps4 (r ++ x1 ++ x2)) _
      show ((S ps4 X3) ++ x)[Q]? = _
      rw [List.getElem?_append_left (List.getElem?_eq_some_iff.mp a).1]
      exact a
    let w3 : PV := .tup [v, sgG s (.str kHeld)]
    let val : PV := .tup [.loc (S ps4 X3).length, .tup [w1, .str (hd k1), .str (hd k2), w2, w3]]
    have e9 : evE (R (d + 3)) Γ.gl NN (.tup (.cons (.lst (.cons (.lit (.str [40])) .nil)) (.cons (.tup (.cons (.var 9) (.cons (.ix (.var 11) (.lit (.int 0))) (.cons (.ix (.var 11) (.lit (.int 1))) (.cons (.var 10) (.cons (.call 12 (.cons (.var 1) (.cons (.lst .nil) (.cons (.lit (.str [104, 101, 108, 100])) .nil)))) .nil)))))) .nil))) ev3 (S ps4 X3) = .ok val (S ps5 (X5 ++ x)) := by
      have i0 : evE (R (d + 3)) Γ.gl NN (.ix (.var 11) (.lit (.int 0))) ev3 (S ps4 X4) = .ok (.str (hd k1)) (S ps4 X4) := ix_lst rfl (gq3 [.lst [.str [40]]]) 0 rfl
      have i1 : evE (R (d + 3)) Γ.gl NN (.ix (.var 11) (.lit (.int 1))) ev3 (S ps4 X4) = .ok (.str (hd k2)) (S ps4 X4) := ix_lst rfl (gq3 [.lst [.str [40]]]) 1 rfl
      have ic : evE (R (d + 3)) Γ.gl NN (.call 12 (.cons (.var 1) (.cons (.lst .nil) (.cons (.lit (.str [104, 101, 108, 100])) .nil)))) ev3 (S ps4 X4) = .ok w3 (S ps5 (X5 ++ x)) := call_v (vs := [.loc 0, .loc (S ps4 X4).length, .str kHeld]) (cons_p (var_v rfl) (cons_v (lst_v nil_v (by simp [SZ])) (cons_p lit_v nil_v))) f4
      exact tup_v (us := [.loc (S ps4 X3).length, .tup [w1, .str (hd k1), .str (hd k2), w2, w3]]) (cons_v (lst_v (us := [.str [40]]) (cons_p lit_v nil_v) (by simp [SZ])) (cons_p (tup_v (us := [w1, .str (hd k1), .str (hd k2), w2, w3]) (cons_p (var_v rfl) (cons_p i0 (cons_p i1 (cons_p (var_v rfl) (cons_p ic nil_v) (g2.fx _)))) (g1.fx _)) (by simp [SZ])) nil_v)) (by simp [SZ])
    have hx3 : (S ps4 X3)[m + 1]? = some (.lst vs) := by
      have := hrm' ps4 (x1 ++ x2 ++ [.lst [.str (hd k1), .str (hd k2)]])
      simpa [X3] using this
    have hy : (S ps5 (X5 ++ x))[m + 1]? = some (.lst vs) := by
      rw [eX]
      exact hrm' _ _
    have ea := app_v (i := 6) (M := m + 1) rfl hx3 hy (fun _ => rfl) e9 (by omega)
    have gr3 : Gr (m + 1) (S ps3 (r ++ x1 ++ x2)) (S ps5 (X5 ++ x)) := by
      have e : X5 ++ x = r ++ x1 ++ x2 ++ ([.lst [.str (hd k1), .str (hd k2)]] ++ [.lst [.str [40]]] ++ [.lst []] ++ x) := by simp [X5, X4, X3]
      rw [e]
      exact gr_s _
    have hval : LV (m + 1) (S ps5 (X5 ++ x)) val (.par o1 k1 k2 o2 s) := ⟨_, w1, w2, w3, rfl, g1'.gr gr3, g2.gr gr3, v, rfl, by simpa using hv⟩
    rw [eX] at hval
    obtain ⟨a1, a2⟩ := fin1 (.par o1 k1 k2 o2 s) val ps5 _ ⟨ok1, ok2, hk1, hk2, hs⟩ hval
    refine ⟨.par o1 k1 k2 o2 s, val, ps5, _, some (.int (j : Nat)), some w1, some w2, some (.loc Q), .nx ev3, a1, a2, ?_, .inl rfl⟩
    unfold body1
    rw [cons_nx s1, cons_nx ((if_f c0).trans rfl), cons_nx s2, cons_nx s3, cons_nx ea, eX]
    rfl
theorem loop1_run (d : Nat) (v0 v2 v3 v4 v5 : PV) (t : List (Option PV)) : ∀ (n : Nat) (i : Int) (ps : List Int) (r : Store) (vs : List PV) (ls : List Lv) (z7 z8 z9 z10 z11 : Option PV), K1 M vs ls (S ps r) → ls.length + n ≤ 100 →
    ∃ (vs' : List PV) (ls' : List Lv) (ps' : List Int) (r' : Store) (y7 y8 y9 y10 y11 : Option PV), K1 M vs' ls' (S ps' r') ∧ ls'.length = ls.length + n ∧ Gr M (S ps r) (S ps' r') ∧ forRng (turnM (fun x ev st => evT (R (d + 3)) Γ.gl NN (.name 7) x ev st) (fun ev st => evS (R (d + 3)) Γ.gl NN body1 ev st)) n i (E1 v0 v2 v3 v4 v5 M z7 z8 z9 z10 z11 t) (S ps r) = .ok (.nx (E1 v0 v2 v3 v4 v5 M y7 y8 y9 y10 y11 t)) (S ps' r')
  | 0, i, ps, r, vs, ls, z7, z8, z9, z10, z11, K, _ => ⟨vs, ls, ps, r, z7, z8, z9, z10, z11, K, rfl, Gr.rfl', rfl⟩
  | n + 1, i, ps, r, vs, ls, z7, z8, z9, z10, z11, K, hl => by
    obtain ⟨l, v, ps1, r1, y8, y9, y10, y11, fl, K', g1, e1, hf⟩ := body1_run K (by omega) d v0 v2 v3 v4 v5 (some (.int i)) z8 z9 z10 z11 t
    obtain ⟨vs', ls', ps', r', x7, x8, x9, x10, x11, K2, h2, g2, e2⟩ := loop1_run d v0 v2 v3 v4 v5 t n (i + 1) ps1 r1 (vs ++ [v]) (ls ++ [l]) (some (.int i)) y8 y9 y10 y11 K' (by simp; omega)
    refine ⟨vs', ls', ps', r', x7, x8, x9, x10, x11, K2, by rw [h2]; simp; omega, g1.trans g2, ?_⟩
    unfold forRng
    show (evS (R (d + 3)) Γ.gl NN body1 (E1 v0 v2 v3 v4 v5 M (some (.int i)) z8 z9 z10 z11 t) (S ps r)).bind _ = _
    rw [e1, Res.bind_ok]
    rcases hf with rfl | rfl
    · exact e2
    · exact e2
end
end K83

set_option maxHeartbeats 8000000
/-! K83n: the second and the third loop. -/
namespace K83
open Vm
theorem stop_lt : ∀ (i : Nat) (ls : List Lv) (hi : i < ls.length), stopAt (i + 1) ls = stopAt i ls + ls[i].lead.length
  | 0, l :: ls, _ => by
    cases ls <;> simp [stopAt]
  | i + 1, l :: ls, hi => by
    have := stop_lt i ls (by simpa using hi)
    show l.lead.length + stopAt (i + 1) ls = l.lead.length + stopAt i ls + _
    rw [this]
    simp
    omega
section
variable {d : Nat} {ev : Env} {M : Nat} {X : Store}
theorem ixe {c : Nat → List PV → Store → Res PV} {e : CE} {st : Store} {xs : List PV} {v : PV} (he : evE c Γ.gl NN e ev st = .ok (.tup xs) st) (k : Nat) (hk : xs[k]? = some v) : evE c Γ.gl NN (.ix e (.lit (.int k))) ev st = .ok v st := by
  refine ix_v he lit_v ?_
  obtain ⟨h1, h2⟩ := List.getElem?_eq_some_iff.mp hk
  show itemAt xs ((k : Nat) : Int) = _
  rw [item_nat _ _ h1, h2]
theorem lenW {u : PV} {ws : List W} (h : WL M X u ws) : blt1 .len u X = some (.int ws.length) := by
  obtain ⟨n, rfl, _, _, hx⟩ := h
  show (lenV (.loc n) X).map PV.int = _
  unfold lenV dv sv lv
  dsimp only
  rw [hx]
  simp
theorem ixv {c : Nat → List PV → Store → Res PV} {vs : List PV} (hx : X[M]? = some (.lst vs)) {i : Nat} {a b : Nat} (ha : ev[a]? = some (some (.loc M))) (hb : ev[b]? = some (some (.int (i : Nat)))) (hi : i < vs.length) : evE c Γ.gl NN (.ix (.var a) (.var b)) ev X = .ok vs[i] X := by
  refine ix_v (var_v ha) (var_v hb) ?_
  unfold indexV indexG dv sv lv
  dsimp only
  rw [hx]
  dsimp only
  rw [Option.bind_some, item_nat _ _ hi]
abbrev E2 (v0 v1 v2 v3 v4 v5 : PV) (M : Nat) (z7 z8 z9 z10 z11 : Option PV) (stop at_ : Nat) (t : List (Option PV)) : Env := some v0 :: some v1 :: some v2 :: some v3 :: some v4 :: some v5 :: some (.loc M) :: z7 :: z8 :: z9 :: z10 :: z11 :: some (.int (stop : Nat)) :: some (.int (at_ : Nat)) :: t
def body2 : CS := (.cons (.if_ (.cmp .eq (.var 7) (.lit (.int 40))) (.cons (.asg (.name 12) (.var 13)) .nil) .nil) (.cons (.asg (.name 13) (.bin .add (.var 13) (.lit (.int 1)))) (.cons (.if_ (.and (.cmp .isnot (.ix (.ix (.var 6) (.var 7)) (.lit (.int 1))) (.lit .non)) (.cmp .gt (.blt1 .len (.ix (.ix (.ix (.ix (.var 6) (.var 7)) (.lit (.int 1))) (.lit (.int 0))) (.lit (.int 0)))) (.lit (.int 0)))) (.cons (.asg (.name 13) (.bin .add (.bin .add (.var 13) (.blt1 .len (.ix (.ix (.ix (.ix (.var 6) (.var 7)) (.lit (.int 1))) (.lit (.int 0))) (.lit (.int 0))))) (.lit (.int 1)))) .nil) .nil) .nil)))
theorem ow_len (o : Option Atm) : o = none ∧ (ow o).length = 0 ∨ ∃ a, o = some a ∧ 1 ≤ (ow o).length ∧ (ow o).length = a.tok.length := by
  cases o with
  | none => exact .inl ⟨rfl, rfl⟩
  | some a => exact .inr ⟨a, rfl, by simp [ow, Atm.tok], rfl⟩
theorem body2_run {vs : List PV} {ls : List Lv} (K : K1 M vs ls X) {i : Nat} (hi : i < ls.length) (c : Nat → List PV → Store → Res PV) (v0 v1 v2 v3 v4 v5 : PV) (z8 z9 z10 z11 : Option PV) (stop at_ : Nat) (t : List (Option PV)) :
    evS c Γ.gl NN body2 (E2 v0 v1 v2 v3 v4 v5 M (some (.int (i : Nat))) z8 z9 z10 z11 stop at_ t) X = .ok (.nx (E2 v0 v1 v2 v3 v4 v5 M (some (.int (i : Nat))) z8 z9 z10 z11 (if i = 40 then at_ else stop) (at_ + ls[i].lead.length) t)) X := by
  have hl := K.all.len
  have hv := K.all.at i (by omega) hi
  let ev0 : Env := E2 v0 v1 v2 v3 v4 v5 M (some (.int (i : Nat))) z8 z9 z10 z11 stop at_ t
  let ev1 : Env := E2 v0 v1 v2 v3 v4 v5 M (some (.int (i : Nat))) z8 z9 z10 z11 (if i = 40 then at_ else stop) at_ t
  let ev2 : Env := E2 v0 v1 v2 v3 v4 v5 M (some (.int (i : Nat))) z8 z9 z10 z11 (if i = 40 then at_ else stop) (at_ + 1) t
  have c0 := eq_v (c := c) (ev := ev0) (st := X) (i := 7) (n := 40) (N := 40) (j := i) rfl rfl
  have s0 : evS c Γ.gl NN (.if_ (.cmp .eq (.var 7) (.lit (.int 40))) (.cons (.asg (.name 12) (.var 13)) .nil) .nil) ev0 X = .ok (.nx ev1) X := by
    by_cases q : i = 40
    · rw [decide_eq_true q] at c0
      refine (if_t c0).trans ?_
      refine (cons_nx ((asg_nm (v := .int (at_ : Nat)) (var_v rfl)).trans rfl)).trans ?_
      simp only [ev1, if_pos q]
      rfl
    · rw [decide_eq_false q] at c0
      refine (if_f c0).trans ?_
      simp only [ev1, if_neg q]
      rfl
  have s1 : evS c Γ.gl NN (.asg (.name 13) (.bin .add (.var 13) (.lit (.int 1)))) ev1 X = .ok (.nx ev2) X := (asg_nm (v := .int ((at_ + 1 : Nat) : Int)) (bin_v (var_v rfl) lit_v rfl)).trans rfl
  have i1 := ixv (c := c) (ev := ev2) (a := 6) (b := 7) K.at_ rfl rfl (by omega : i < vs.length)
  unfold body2
  rw [cons_nx s0, cons_nx s1]
  cases hq : ls[i] with
  | not =>
    rw [hq] at hv
    obtain ⟨u, hu⟩ := hv
    rw [hu] at i1
    have c2 : evE c Γ.gl NN (.cmp .isnot (.ix (.ix (.var 6) (.var 7)) (.lit (.int 1))) (.lit .non)) ev2 X = .ok (.bl false) X := cmp_v (ixe i1 1 rfl) lit_v rfl
    have c3 := and_p (c := c) (G := Γ.gl) (N := NN) (ev := ev2) (st := X) (b := (.cmp .gt (.blt1 .len (.ix (.ix (.ix (.ix (.var 6) (.var 7)) (.lit (.int 1))) (.lit (.int 0))) (.lit (.int 0)))) (.lit (.int 0)))) (y := false) c2 (fun h => by cases h)
    rw [cons_nx ((if_f c3).trans rfl)]
    rfl
  | par l one two r s =>
    rw [hq] at hv
    obtain ⟨u, p, q, g, e, ⟨pu, rfl, hpu⟩, _, _⟩ := hv
    rw [e] at i1
    have c2 : evE c Γ.gl NN (.cmp .isnot (.ix (.ix (.var 6) (.var 7)) (.lit (.int 1))) (.lit .non)) ev2 X = .ok (.bl true) X := cmp_v (ixe i1 1 rfl) lit_v rfl
    have i4 : evE c Γ.gl NN (.blt1 .len (.ix (.ix (.ix (.ix (.var 6) (.var 7)) (.lit (.int 1))) (.lit (.int 0))) (.lit (.int 0)))) ev2 X = .ok (.int (ow l).length) X := blt1_v (ixe (ixe (ixe i1 1 rfl) 0 rfl) 0 rfl) (lenW hpu)
    have c4 : evE c Γ.gl NN (.cmp .gt (.blt1 .len (.ix (.ix (.ix (.ix (.var 6) (.var 7)) (.lit (.int 1))) (.lit (.int 0))) (.lit (.int 0)))) (.lit (.int 0))) ev2 X = .ok (.bl (decide ((0 : Int) < (ow l).length))) X := cmp_v i4 lit_v rfl
    have c3 := and_p c2 (fun _ => c4)
    rcases ow_len l with ⟨rfl, h0⟩ | ⟨a, rfl, h1, h2⟩
    · rw [decide_eq_false (by omega)] at c3
      rw [cons_nx ((if_f c3).trans rfl)]
      rfl
    · rw [decide_eq_true (by omega)] at c3
      have s4 : evS c Γ.gl NN (.cons (.asg (.name 13) (.bin .add (.bin .add (.var 13) (.blt1 .len (.ix (.ix (.ix (.ix (.var 6) (.var 7)) (.lit (.int 1))) (.lit (.int 0))) (.lit (.int 0))))) (.lit (.int 1)))) .nil) ev2 X = .ok (.nx (E2 v0 v1 v2 v3 v4 v5 M (some (.int (i : Nat))) z8 z9 z10 z11 (if i = 40 then at_ else stop) (at_ + (Lv.par (some a) one two r s).lead.length) t)) X := by
        have e5 : evE c Γ.gl NN (.bin .add (.bin .add (.var 13) (.blt1 .len (.ix (.ix (.ix (.ix (.var 6) (.var 7)) (.lit (.int 1))) (.lit (.int 0))) (.lit (.int 0))))) (.lit (.int 1))) ev2 X = .ok (.int ((at_ + (Lv.par (some a) one two r s).lead.length : Nat) : Int)) X := by
          have e : ((at_ + (Lv.par (some a) one two r s).lead.length : Nat) : Int) = ((at_ + 1 : Nat) : Int) + ((ow (some a)).length : Int) + 1 := by
            simp [Lv.lead, Lv.left, ow]
            omega
          rw [e]
          exact bin_v (bin_v (var_v rfl) i4 rfl) lit_v rfl
        exact (cons_nx (asg_nm e5)).trans rfl
      rw [cons_nx ((if_t c3).trans s4)]
      rfl
theorem loop2_run {vs : List PV} {ls : List Lv} (K : K1 M vs ls X) (c : Nat → List PV → Store → Res PV) (v0 v1 v2 v3 v4 v5 : PV) (z8 z9 z10 z11 : Option PV) (t : List (Option PV)) : ∀ (n i : Nat) (z7 : Option PV), i + n = ls.length → ∃ y7, 
    forRng (turnM (fun x ev st => evT c Γ.gl NN (.name 7) x ev st) (fun ev st => evS c Γ.gl NN body2 ev st)) n i (E2 v0 v1 v2 v3 v4 v5 M z7 z8 z9 z10 z11 (if 40 < i then stopAt 40 ls else 0) (stopAt i ls) t) X = .ok (.nx (E2 v0 v1 v2 v3 v4 v5 M y7 z8 z9 z10 z11 (if 40 < ls.length then stopAt 40 ls else 0) (stopAt ls.length ls) t)) X
  | 0, i, z7, h => ⟨z7, by
    have : i = ls.length := by omega
    subst this
    rfl⟩
  | n + 1, i, z7, h => by
    have hi : i < ls.length := by omega
    obtain ⟨y7, e⟩ := loop2_run K c v0 v1 v2 v3 v4 v5 z8 z9 z10 z11 t n (i + 1) (some (.int (i : Nat))) (by omega)
    refine ⟨y7, ?_⟩
    unfold forRng
    show (evS c Γ.gl NN body2 (E2 v0 v1 v2 v3 v4 v5 M (some (.int (i : Nat))) z8 z9 z10 z11 (if 40 < i then stopAt 40 ls else 0) (stopAt i ls) t) X).bind _ = _
    rw [body2_run K hi, Res.bind_ok]
    have e1 : (if i = 40 then stopAt i ls else if 40 < i then stopAt 40 ls else 0) = (if 40 < i + 1 then stopAt 40 ls else 0) := by
      by_cases q : i = 40
      · subst q; rfl
      · rw [if_neg q]
        by_cases q2 : 40 < i
        · rw [if_pos q2, if_pos (by omega)]
        · rw [if_neg q2, if_neg (by omega)]
    rw [e1, ← stop_lt i ls hi]
    exact e
/-! ### the third loop -/
abbrev E3 (v0 v1 v2 : PV) (w : Nat) (v4 v5 : PV) (M : Nat) (z7 z8 z9 z10 z11 z12 z13 z14 z15 z16 z17 z18 z19 z20 z21 z22 : Option PV) : Env := [some v0, some v1, some v2, some (.loc w), some v4, some v5, some (.loc M), z7, z8, z9, z10, z11, z12, z13, z14, z15, z16, z17, z18, z19, z20, z21, z22]
def body3 : CS := (.cons (.asg (.names [14, 15]) (.ix (.var 6) (.var 7))) (.cons (.if_ (.cmp .is (.var 15) (.lit .non)) (.cons (.par 3 4 (.bin .add (.lst (.cons (.lit (.str [33])) .nil)) (.var 3)) (.tup (.cons (.lit (.str [110, 111, 116])) (.cons (.var 4) .nil)))) .nil) (.cons (.asg (.names [9, 16, 17, 10, 18]) (.var 15)) (.cons (.asg (.name 19) (.ddisp (.cons (.lit (.str [111, 114])) (.cons (.lit (.str [124])) (.cons (.lit (.str [97, 110, 100])) (.cons (.lit (.str [38])) (.cons (.lit (.str [116, 104, 101, 110])) (.cons (.lit (.str [59])) .nil)))))))) (.cons (.asg (.name 20) (.bin .add (.bin .add (.ite (.cmp .gt (.blt1 .len (.ix (.var 9) (.lit (.int 0)))) (.lit (.int 0))) (.bin .add (.ix (.var 9) (.lit (.int 0))) (.lst (.cons (.ix (.var 19) (.var 16)) .nil))) (.lst .nil)) (.var 3)) (.ite (.cmp .gt (.blt1 .len (.ix (.var 10) (.lit (.int 0)))) (.lit (.int 0))) (.bin .add (.lst (.cons (.ix (.var 19) (.var 17)) .nil)) (.ix (.var 10) (.lit (.int 0)))) (.lst .nil)))) (.cons (.par 3 4 (.bin .add (.bin .add (.bin .add (.lst (.cons (.lit (.str [40])) .nil)) (.var 20)) (.lst (.cons (.lit (.str [41])) .nil))) (.ix (.var 18) (.lit (.int 0)))) (.call 13 (.cons (.ix (.var 9) (.lit (.int 1))) (.cons (.var 16) (.cons (.var 4) (.cons (.var 17) (.cons (.ix (.var 10) (.lit (.int 1))) .nil))))))) (.cons (.if_ (.cmp .ne (.ix (.var 18) (.lit (.int 1))) (.lit (.str [104, 101, 108, 100]))) (.cons (.asg (.name 4) (.bin .add (.sl (.ix (.var 18) (.lit (.int 1))) .noE (.neg (.lit (.int 1)))) (.tup (.cons (.var 4) .nil)))) .nil) .nil) .nil)))))) .nil))
/-- lists together -/
theorem cat_tl {st : Store} {n : Nat} {xs ys : List PV} (hn : st[n]? = some (.lst ys)) (hl : xs.length + ys.length ≤ SZ) : binop .add (.tl xs) (.loc n) st = some (.tl (xs ++ ys)) := by
  show catL (some xs) (lw st (.loc n)) = _
  unfold lw
  dsimp only
  rw [hn]
  show guardO (decide (xs.length + ys.length ≤ SZ)) _ = _
  rw [decide_eq_true hl]
  rfl
theorem cat_tt {st : Store} {xs ys : List PV} (hl : xs.length + ys.length ≤ SZ) : binop .add (.tl xs) (.tl ys) st = some (.tl (xs ++ ys)) := by
  show guardO (decide (xs.length + ys.length ≤ SZ)) _ = _
  rw [decide_eq_true hl]
  rfl
theorem atm_tok (a : Atm) : a.tok.length ≤ 2 := by
  unfold Atm.tok sgW
  cases a.s <;> simp
theorem sgW_len (s : Option Sn) : (sgW s).length ≤ 1 := by cases s <;> simp [sgW]
theorem left_len (o : Option Atm) (k : Nat) : (Lv.left o k).length ≤ 3 := by
  cases o with
  | none => simp [Lv.left]
  | some a => have := atm_tok a; simp [Lv.left]; omega
theorem right_len (o : Option Atm) (k : Nat) : (Lv.right o k).length ≤ 3 := by
  cases o with
  | none => simp [Lv.right]
  | some a => have := atm_tok a; simp [Lv.right]; omega
theorem toks_len (a : Atm) : ∀ ls : List Lv, (toks a ls).length ≤ 10 * ls.length + 2
  | [] => by have := atm_tok a; simp [toks]; omega
  | .not :: ls => by
    have := toks_len a ls
    simp [toks, Lv.lead, Lv.behind]
    omega
  | .par l one two r s :: ls => by
    have := toks_len a ls
    have := left_len l one
    have := right_len r two
    have := sgW_len s
    simp [toks, Lv.lead, Lv.behind]
    omega
def marksD : List (PV × PV) := [(.str kOr, .str [124]), (.str kAnd, .str [38]), (.str kThen, .str [59])]
theorem body3_run {vs : List PV} {ls : List Lv} (K : K1 M vs ls X) {i : Nat} (hi : i < ls.length) {ws : List W} {w : Nat} (hw0 : w ≠ 0) (hwM : w ≠ M) (hw : X[w]? = some (.lst (ws.map .str))) (hwl : ws.length ≤ 1000) {f : PV} (hf : Fx f) (d : Nat) (v0 v1 v2 v5 : PV) (z8 z9 z10 z11 z12 z13 z14 z15 z16 z17 z18 z19 z20 z21 z22 : Option PV) :
    ∃ (Y : Store) (w' : Nat) (y9 y10 y14 y15 y16 y17 y18 y19 y20 : Option PV), Gr M X Y ∧ Y[M]? = some (.lst vs) ∧ w' ≠ 0 ∧ w' ≠ M ∧ Y[w']? = some (.lst ((ls[i].lead ++ (ws ++ ls[i].behind)).map .str)) ∧ evS (R (d + 1)) Γ.gl NN body3 (E3 v0 v1 v2 w f v5 M (some (.int (i : Nat))) z8 z9 z10 z11 z12 z13 z14 z15 z16 z17 z18 z19 z20 z21 z22) X = .ok (.nx (E3 v0 v1 v2 w' (ls[i].mk f) v5 M (some (.int (i : Nat))) z8 y9 y10 z11 z12 z13 y14 y15 y16 y17 y18 y19 y20 z21 z22)) Y := by
  have hl := K.all.len
  have hv := K.all.at i (by omega) hi
  have hok := K.ok ls[i] (List.getElem_mem hi)
  let ev0 : Env := E3 v0 v1 v2 w f v5 M (some (.int (i : Nat))) z8 z9 z10 z11 z12 z13 z14 z15 z16 z17 z18 z19 z20 z21 z22
  have i1 := ixv (c := R (d + 1)) (ev := ev0) (a := 6) (b := 7) K.at_ rfl rfl (by omega : i < vs.length)
  have hMX := K.lt
  have atM : ∀ x : Store, (X ++ x)[M]? = some (.lst vs) := fun x => by
    rw [List.getElem?_append_left hMX]
    exact K.at_
  cases hq : ls[i] with
  | not =>
    rw [hq] at hv
    obtain ⟨u, hu⟩ := hv
    rw [hu] at i1
    let ev1 : Env := E3 v0 v1 v2 w f v5 M (some (.int (i : Nat))) z8 z9 z10 z11 z12 z13 (some u) (some .non) z16 z17 z18 z19 z20 z21 z22
    have s1 : evS (R (d + 1)) Γ.gl NN (.asg (.names [14, 15]) (.ix (.var 6) (.var 7))) ev0 X = .ok (.nx ev1) X := names_v i1 rfl
    have c1 : evE (R (d + 1)) Γ.gl NN (.cmp .is (.var 15) (.lit .non)) ev1 X = .ok (.bl true) X := cmp_v (var_v rfl) lit_v rfl
    let Y : Store := X ++ [.lst (.str [33] :: ws.map .str)]
    have e1 : evE (R (d + 1)) Γ.gl NN (.bin .add (.lst (.cons (.lit (.str [33])) .nil)) (.var 3)) ev1 X = .ok (.tl (.str [33] :: ws.map .str)) X := bin_v (lst_v (us := [.str [33]]) (cons_p lit_v nil_v) (by simp [SZ])) (var_v rfl) (cat_tl hw (by unfold SZ; simp; omega))
    have e2 : evE (R (d + 1)) Γ.gl NN (.tup (.cons (.lit (.str [110, 111, 116])) (.cons (.var 4) .nil))) ev1 Y = .ok (.tup [.str kNot, f]) Y := tup_v (cons_p lit_v (cons_p (var_v rfl) nil_v (hf _))) (by simp [SZ])
    have s2 : evS (R (d + 1)) Γ.gl NN (.par 3 4 (.bin .add (.lst (.cons (.lit (.str [33])) .nil)) (.var 3)) (.tup (.cons (.lit (.str [110, 111, 116])) (.cons (.var 4) .nil)))) ev1 X = .ok (.nx (E3 v0 v1 v2 X.length (.tup [.str kNot, f]) v5 M (some (.int (i : Nat))) z8 z9 z10 z11 z12 z13 (some u) (some .non) z16 z17 z18 z19 z20 z21 z22)) Y := (par_v e1 e2).trans rfl
    refine ⟨Y, X.length, z9, z10, some u, some .non, z16, z17, z18, z19, z20, gr_app M, atM _, by omega, by omega, ?_, ?_⟩
    · show (X ++ [_])[X.length]? = _
      rw [get_last]
      simp [Lv.lead, Lv.behind]
    · unfold body3
      rw [cons_nx s1, cons_nx ((if_t c1).trans ((cons_nx s2).trans rfl))]
      rfl
  | par l one two r s =>
    rw [hq] at hv hok
    obtain ⟨hol, hor, h1, h2, hs⟩ := hok
    obtain ⟨u, p, q, g, e, ⟨pu, rfl, hpu⟩, ⟨qu, rfl, hqu⟩, ⟨gu, rfl, hgu⟩⟩ := hv
    rw [e] at i1
    let lv_ : PV := .tup [.tup [pu, ov l], .str (hd one), .str (hd two), .tup [qu, ov r], .tup [gu, sgG s (.str kHeld)]]
    let ev1 : Env := E3 v0 v1 v2 w f v5 M (some (.int (i : Nat))) z8 z9 z10 z11 z12 z13 (some u) (some lv_) z16 z17 z18 z19 z20 z21 z22
    let P : PV := .tup [pu, ov l]
    let Q : PV := .tup [qu, ov r]
    let H : PV := .tup [gu, sgG s (.str kHeld)]
    let ev2 : Env := E3 v0 v1 v2 w f v5 M (some (.int (i : Nat))) z8 (some P) (some Q) z11 z12 z13 (some u) (some lv_) (some (.str (hd one))) (some (.str (hd two))) (some H) z19 z20 z21 z22
    let X1 : Store := X ++ [.dic false marksD]
    let ev3 : Env := E3 v0 v1 v2 w f v5 M (some (.int (i : Nat))) z8 (some P) (some Q) z11 z12 z13 (some u) (some lv_) (some (.str (hd one))) (some (.str (hd two))) (some H) (some (.loc X.length)) z20 z21 z22
    have s1 : evS (R (d + 1)) Γ.gl NN (.asg (.names [14, 15]) (.ix (.var 6) (.var 7))) ev0 X = .ok (.nx ev1) X := names_v i1 rfl
    have c1 : evE (R (d + 1)) Γ.gl NN (.cmp .is (.var 15) (.lit .non)) ev1 X = .ok (.bl false) X := cmp_v (var_v rfl) lit_v rfl
    have s2 : evS (R (d + 1)) Γ.gl NN (.asg (.names [9, 16, 17, 10, 18]) (.var 15)) ev1 X = .ok (.nx ev2) X := names_v (vs := [P, .str (hd one), .str (hd two), Q, H]) (var_v rfl) rfl
    have s3 : evS (R (d + 1)) Γ.gl NN (.asg (.name 19) (.ddisp (.cons (.lit (.str [111, 114])) (.cons (.lit (.str [124])) (.cons (.lit (.str [97, 110, 100])) (.cons (.lit (.str [38])) (.cons (.lit (.str [116, 104, 101, 110])) (.cons (.lit (.str [59])) .nil)))))))) ev2 X = .ok (.nx ev3) X1 := (asg_nm (v := .loc X.length) (st1 := X1) rfl).trans rfl
    have hX1 : X1[X.length]? = some (.dic false marksD) := get_last _ _
    have mk : ∀ (b k : Nat), k ≤ 2 → ev3[b]? = some (some (.str (hd k))) → evE (R (d + 1)) Γ.gl NN (.ix (.var 19) (.var b)) ev3 X1 = .ok (.str (sg k)) X1 := fun b k hk hb => by
      refine ix_v (u := .loc X.length) (var_v rfl) (var_v hb) ?_
      unfold indexV indexG dv
      dsimp only
      rw [hX1]
      match k, hk with
      | 0, _ => rfl
      | 1, _ => rfl
      | 2, _ => rfl
    have g1 : Gr M X X1 := gr_app M
    have hpu1 := hpu.gr g1
    have hqu1 := hqu.gr g1
    have hgu1 := hgu.gr g1
    have hw1 : X1[w]? = some (.lst (ws.map .str)) := g1.2 w _ hw0 hwM hw
    have a9 : evE (R (d + 1)) Γ.gl NN (.ix (.var 9) (.lit (.int 0))) ev3 X1 = .ok pu X1 := ix0 rfl
    have a10 : evE (R (d + 1)) Γ.gl NN (.ix (.var 10) (.lit (.int 0))) ev3 X1 = .ok qu X1 := ix0 rfl
    have cl : evE (R (d + 1)) Γ.gl NN (.cmp .gt (.blt1 .len (.ix (.var 9) (.lit (.int 0)))) (.lit (.int 0))) ev3 X1 = .ok (.bl (decide ((0 : Int) < (ow l).length))) X1 := cmp_v (blt1_v a9 (lenW hpu1)) lit_v rfl
    have cr : evE (R (d + 1)) Γ.gl NN (.cmp .gt (.blt1 .len (.ix (.var 10) (.lit (.int 0)))) (.lit (.int 0))) ev3 X1 = .ok (.bl (decide ((0 : Int) < (ow r).length))) X1 := cmp_v (blt1_v a10 (lenW hqu1)) lit_v rfl
    have eL : evE (R (d + 1)) Γ.gl NN (.ite (.cmp .gt (.blt1 .len (.ix (.var 9) (.lit (.int 0)))) (.lit (.int 0))) (.bin .add (.ix (.var 9) (.lit (.int 0))) (.lst (.cons (.ix (.var 19) (.var 16)) .nil))) (.lst .nil)) ev3 X1 = .ok (.tl ((Lv.left l one).map .str)) X1 := by
      rcases ow_len l with ⟨rfl, h0⟩ | ⟨a, rfl, h3, h4⟩
      · rw [decide_eq_false (by omega)] at cl
        exact (ite_f cl).trans (lst_v (us := []) nil_v (by simp [SZ]))
      · rw [decide_eq_true (by omega)] at cl
        obtain ⟨n, rfl, _, _, hn⟩ := hpu1
        have := atm_tok a
        refine (ite_t cl).trans ?_
        have q := bin_v a9 (lst_v (us := [.str (sg one)]) (cons_p (mk 16 one h1 rfl) nil_v) (by simp [SZ])) (cat_l hn (by unfold SZ; simp [ow]; omega))
        rw [q]
        simp [Lv.left, ow]
    have eR : evE (R (d + 1)) Γ.gl NN (.ite (.cmp .gt (.blt1 .len (.ix (.var 10) (.lit (.int 0)))) (.lit (.int 0))) (.bin .add (.lst (.cons (.ix (.var 19) (.var 17)) .nil)) (.ix (.var 10) (.lit (.int 0)))) (.lst .nil)) ev3 X1 = .ok (.tl ((Lv.right r two).map .str)) X1 := by
      rcases ow_len r with ⟨rfl, h0⟩ | ⟨a, rfl, h3, h4⟩
      · rw [decide_eq_false (by omega)] at cr
        exact (ite_f cr).trans (lst_v (us := []) nil_v (by simp [SZ]))
      · rw [decide_eq_true (by omega)] at cr
        obtain ⟨n, rfl, _, _, hn⟩ := hqu1
        have := atm_tok a
        refine (ite_t cr).trans ?_
        have q := bin_v (lst_v (us := [.str (sg two)]) (cons_p (mk 17 two h2 rfl) nil_v) (by simp [SZ])) a10 (cat_tl hn (by unfold SZ; simp [ow]; omega))
        rw [q]
        simp [Lv.right, ow]
    let inn : List W := Lv.left l one ++ ws ++ Lv.right r two
    have ll := left_len l one
    have lr := right_len r two
    have ls_ := sgW_len s
    have eI : evE (R (d + 1)) Γ.gl NN (.bin .add (.bin .add (.ite (.cmp .gt (.blt1 .len (.ix (.var 9) (.lit (.int 0)))) (.lit (.int 0))) (.bin .add (.ix (.var 9) (.lit (.int 0))) (.lst (.cons (.ix (.var 19) (.var 16)) .nil))) (.lst .nil)) (.var 3)) (.ite (.cmp .gt (.blt1 .len (.ix (.var 10) (.lit (.int 0)))) (.lit (.int 0))) (.bin .add (.lst (.cons (.ix (.var 19) (.var 17)) .nil)) (.ix (.var 10) (.lit (.int 0)))) (.lst .nil))) ev3 X1 = .ok (.tl (inn.map .str)) X1 := by
      have q := bin_v (bin_v eL (var_v (i := 3) rfl) (cat_tl hw1 (by unfold SZ; simp; omega))) eR (cat_tt (by unfold SZ; simp; omega))
      rw [q]
      simp [inn]
    let X2 : Store := X1 ++ [.lst (inn.map .str)]
    let ev4 : Env := E3 v0 v1 v2 w f v5 M (some (.int (i : Nat))) z8 (some P) (some Q) z11 z12 z13 (some u) (some lv_) (some (.str (hd one))) (some (.str (hd two))) (some H) (some (.loc X.length)) (some (.loc X1.length)) z21 z22
    have s4 : evS (R (d + 1)) Γ.gl NN (.asg (.name 20) (.bin .add (.bin .add (.ite (.cmp .gt (.blt1 .len (.ix (.var 9) (.lit (.int 0)))) (.lit (.int 0))) (.bin .add (.ix (.var 9) (.lit (.int 0))) (.lst (.cons (.ix (.var 19) (.var 16)) .nil))) (.lst .nil)) (.var 3)) (.ite (.cmp .gt (.blt1 .len (.ix (.var 10) (.lit (.int 0)))) (.lit (.int 0))) (.bin .add (.lst (.cons (.ix (.var 19) (.var 17)) .nil)) (.ix (.var 10) (.lit (.int 0)))) (.lst .nil)))) ev3 X1 = .ok (.nx ev4) X2 := (asg_nm eI).trans rfl
    obtain ⟨n, rfl, n0, nM, hn⟩ := hgu1.gr (gr_app M (x := [.lst (inn.map .str)]))
    have hinn : X2[X1.length]? = some (.lst (inn.map .str)) := get_last _ _
    let full : List W := [[40]] ++ inn ++ [[41]] ++ sgW s
    have eF : full = (Lv.par l one two r s).lead ++ (ws ++ (Lv.par l one two r s).behind) := by simp [full, inn, Lv.lead, Lv.behind]
    have e5 : evE (R (d + 1)) Γ.gl NN (.bin .add (.bin .add (.bin .add (.lst (.cons (.lit (.str [40])) .nil)) (.var 20)) (.lst (.cons (.lit (.str [41])) .nil))) (.ix (.var 18) (.lit (.int 0)))) ev4 X2 = .ok (.tl (full.map .str)) X2 := by
      have li : inn.length ≤ 1006 := by simp [inn]; omega
      have q := bin_v (bin_v (bin_v (lst_v (c := R (d + 1)) (G := Γ.gl) (N := NN) (ev := ev4) (st1 := X2) (us := [.str [40]]) (cons_p lit_v nil_v) (by simp [SZ])) (var_v (i := 20) rfl) (cat_tl hinn (by unfold SZ; simp; omega))) (lst_v (us := [.str [41]]) (cons_p lit_v nil_v) (by simp [SZ])) (cat_tt (by unfold SZ; simp; omega))) (ix0 (i := 18) rfl) (cat_tl hn (by unfold SZ; simp; omega))
      rw [q]
      simp [full]
    let X3 : Store := X2 ++ [.lst (full.map .str)]
    have e6 : evE (R (d + 1)) Γ.gl NN (.call 13 (.cons (.ix (.var 9) (.lit (.int 1))) (.cons (.var 16) (.cons (.var 4) (.cons (.var 17) (.cons (.ix (.var 10) (.lit (.int 1))) .nil)))))) ev4 X3 = .ok (joined l one f two r) (X3 ++ [.lst headsL]) :=
      call_v (vs := [ov l, .str (hd one), f, .str (hd two), ov r]) (cons_p (ix1 rfl) (cons_p (var_v rfl) (cons_p (var_v rfl) (cons_p (var_v rfl) (cons_p (ix1 rfl) nil_v (ov_fx r _))) (hf _))) (ov_fx l _)) (ljoined l r h1 h2 hf X3)
    let Y : Store := X3 ++ [.lst headsL]
    have jx := joined_fx (l := l) (r := r) (one := one) (two := two) hf
    let ev5 : Env := E3 v0 v1 v2 X2.length (joined l one f two r) v5 M (some (.int (i : Nat))) z8 (some P) (some Q) z11 z12 z13 (some u) (some lv_) (some (.str (hd one))) (some (.str (hd two))) (some H) (some (.loc X.length)) (some (.loc X1.length)) z21 z22
    have s5 : evS (R (d + 1)) Γ.gl NN (.par 3 4 (.bin .add (.bin .add (.bin .add (.lst (.cons (.lit (.str [40])) .nil)) (.var 20)) (.lst (.cons (.lit (.str [41])) .nil))) (.ix (.var 18) (.lit (.int 0)))) (.call 13 (.cons (.ix (.var 9) (.lit (.int 1))) (.cons (.var 16) (.cons (.var 4) (.cons (.var 17) (.cons (.ix (.var 10) (.lit (.int 1))) .nil))))))) ev4 X2 = .ok (.nx ev5) Y := by
      have q := par_v (i := 3) (j := 4) e5 e6
      rw [jx] at q
      exact q
    let ev6 : Env := E3 v0 v1 v2 X2.length (sgG s (joined l one f two r)) v5 M (some (.int (i : Nat))) z8 (some P) (some Q) z11 z12 z13 (some u) (some lv_) (some (.str (hd one))) (some (.str (hd two))) (some H) (some (.loc X.length)) (some (.loc X1.length)) z21 z22
    have s6 : evS (R (d + 1)) Γ.gl NN (.if_ (.cmp .ne (.ix (.var 18) (.lit (.int 1))) (.lit (.str [104, 101, 108, 100]))) (.cons (.asg (.name 4) (.bin .add (.sl (.ix (.var 18) (.lit (.int 1))) .noE (.neg (.lit (.int 1)))) (.tup (.cons (.var 4) .nil)))) .nil) .nil) ev5 Y = .ok (.nx ev6) Y := by
      have b18 : evE (R (d + 1)) Γ.gl NN (.ix (.var 18) (.lit (.int 1))) ev5 Y = .ok (sgG s (.str kHeld)) Y := ix1 rfl
      cases s with
      | none =>
        have c6 : evE (R (d + 1)) Γ.gl NN (.cmp .ne (.ix (.var 18) (.lit (.int 1))) (.lit (.str [104, 101, 108, 100]))) ev5 Y = .ok (.bl false) Y := cmp_v b18 lit_v rfl
        exact (if_f c6).trans rfl
      | some s =>
        have key : ∃ xs : List PV, (∀ v, s.g v = .tup (xs ++ [v])) ∧ xs.length ≤ 2 ∧ cmpV .ne (s.g (.str kHeld)) (.str kHeld) Y = some true := by
          cases s with
          | back => exact ⟨[_], fun _ => rfl, by simp, rfl⟩
          | first => exact ⟨[_], fun _ => rfl, by simp, rfl⟩
          | ends => exact ⟨[_], fun _ => rfl, by simp, rfl⟩
          | times k => exact ⟨[_, _], fun _ => rfl, by simp, rfl⟩
          | upto k => exact ⟨[_, _], fun _ => rfl, by simp, rfl⟩
        obtain ⟨xs, k1, k2, k3⟩ := key
        have c6 : evE (R (d + 1)) Γ.gl NN (.cmp .ne (.ix (.var 18) (.lit (.int 1))) (.lit (.str [104, 101, 108, 100]))) ev5 Y = .ok (.bl true) Y := cmp_v b18 lit_v k3
        have e7 : evE (R (d + 1)) Γ.gl NN (.sl (.ix (.var 18) (.lit (.int 1))) .noE (.neg (.lit (.int 1)))) ev5 Y = .ok (.tup xs) Y := by
          have : sliceG (.tup (xs ++ [.str kHeld])) none (some (-1)) Y = some (.tup xs) := by
            show some (PV.tup (cut (xs ++ [.str kHeld]) none (some (-1)))) = _
            unfold cut slIx
            dsimp only
            rw [if_neg (by omega)]
            congr 2
            simp
          show (evE (R (d + 1)) Γ.gl NN (.ix (.var 18) (.lit (.int 1))) ev5 Y).bind _ = _
          rw [b18]
          show Res.of (sliceG (s.g (.str kHeld)) none (some (-1)) Y) Y = _
          rw [k1, this]
          rfl
        have e8 : evE (R (d + 1)) Γ.gl NN (.bin .add (.sl (.ix (.var 18) (.lit (.int 1))) .noE (.neg (.lit (.int 1)))) (.tup (.cons (.var 4) .nil))) ev5 Y = .ok (s.g (joined l one f two r)) Y := by
          rw [k1]
          refine bin_v e7 (tup_v (us := [joined l one f two r]) (cons_p (var_v rfl) nil_v (jx _)) (by simp [SZ])) ?_
          show guardO (decide (xs.length + 1 ≤ SZ)) _ = _
          rw [decide_eq_true (by unfold SZ; omega)]
          rfl
        have gx : Fx (s.g (joined l one f two r)) := by cases s <;> exact fun _ => rfl
        exact (if_t c6).trans ((cons_nx (asg_fx gx e8)).trans rfl)
    refine ⟨Y, X2.length, some P, some Q, some u, some lv_, some (.str (hd one)), some (.str (hd two)), some H, some (.loc X.length), some (.loc X1.length), ?_, ?_, ?_, ?_, ?_, ?_⟩
    · exact (((gr_app M (x := [.dic false marksD])).trans (gr_app M (x := [.lst (inn.map .str)]))).trans (gr_app M (x := [.lst (full.map .str)]))).trans (gr_app M (x := [.lst headsL]))
    · have := atM ([.dic false marksD] ++ [.lst (inn.map .str)] ++ [.lst (full.map .str)] ++ [.lst headsL])
      simpa [Y, X3, X2, X1] using this
    · simp [X2]
    · simp [X2, X1]; omega
    · show (X2 ++ [.lst (full.map .str)] ++ [.lst headsL])[X2.length]? = _
      rw [List.getElem?_append_left (by simp), get_last, eF]
    · unfold body3
      rw [cons_nx s1, cons_nx (st1 := Y) (ev1 := ev6) ((if_f c1).trans ((cons_nx s2).trans ((cons_nx s3).trans ((cons_nx s4).trans ((cons_nx s5).trans ((cons_nx s6).trans rfl))))))]
      rfl
end
end K83

set_option maxHeartbeats 8000000
/-! K83s: the law. -/
namespace K83
open Vm
/-! ### words -/
theorem wd_sgW {s : Option Sn} (h : sgOk s) : ∀ w ∈ sgW s, Wd w := by
  cases s with
  | none => intro w hw; simp [sgW] at hw
  | some s => intro w hw; simp [sgW] at hw; subst hw; exact wd_sn h
theorem wd_tok {a : Atm} (h : a.ok) : ∀ w ∈ a.tok, Wd w := by
  intro w hw
  rcases List.mem_cons.mp hw with rfl | hw
  · exact wd_name h.1
  · exact wd_sgW h.2 w hw
theorem wd_lead {l : Lv} (h : l.ok) : ∀ w ∈ l.lead, Wd w := by
  match l, h with
  | .not, _ => intro w hw; simp [Lv.lead] at hw; subst hw; exact wd_dec (by decide)
  | .par none one two r s, _ => intro w hw; simp [Lv.lead, Lv.left] at hw; subst hw; exact wd_dec (by decide)
  | .par (some a) one two r s, h =>
    intro w hw
    have hw : w ∈ [40] :: (a.tok ++ [sg one]) := hw
    rcases List.mem_cons.mp hw with rfl | hw
    · exact wd_dec (by decide)
    rcases List.mem_append.mp hw with hw | hw
    · exact wd_tok h.1 w hw
    · simp at hw; subst hw; exact wd_sg _
theorem wd_behind {l : Lv} (h : l.ok) : ∀ w ∈ l.behind, Wd w := by
  match l, h with
  | .not, _ => intro w hw; simp [Lv.behind] at hw
  | .par l one two r s, h =>
    intro w hw
    have hw : w ∈ Lv.right r two ++ ([41] :: sgW s) := hw
    rcases List.mem_append.mp hw with hw | hw
    · match r, h.2.1, hw with
      | none, _, hw => simp [Lv.right] at hw
      | some b, hb, hw =>
        have hw : w ∈ sg two :: b.tok := hw
        rcases List.mem_cons.mp hw with rfl | hw
        · exact wd_sg _
        · exact wd_tok hb w hw
    rcases List.mem_cons.mp hw with rfl | hw
    · exact wd_dec (by decide)
    · exact wd_sgW h.2.2.2.2 w hw
theorem toks_wd {a : Atm} (ha : a.ok) : ∀ {ls : List Lv}, (∀ l ∈ ls, l.ok) → ∀ w ∈ toks a ls, Wd w
  | [], _, w, hw => wd_tok ha w hw
  | l :: ls, h, w, hw => by
    rcases List.mem_append.mp hw with hw | hw
    · exact wd_lead (h l (by simp)) w hw
    rcases List.mem_append.mp hw with hw | hw
    · exact toks_wd ha (fun x hx => h x (by simp [hx])) w hw
    · exact wd_behind (h l (by simp)) w hw
def bh : List Lv → List W
  | [] => []
  | l :: ls => bh ls ++ l.behind
theorem toks_eq (a : Atm) : ∀ ls : List Lv, toks a ls = ls.flatMap Lv.lead ++ (a.tok ++ bh ls)
  | [] => by simp [toks, bh]
  | l :: ls => by
    show l.lead ++ (toks a ls ++ l.behind) = _
    rw [toks_eq a ls]
    simp [bh]
theorem toks_ne (a : Atm) (ls : List Lv) : toks a ls ≠ [] := by
  rw [toks_eq]
  simp [Atm.tok]
theorem join_s {st : Store} {ys : List W} {v : PV} (hv : sv st v = some (ys.map .str)) (h : ∀ w ∈ ys, w.length ≤ 8) (hl : ys.length ≤ 1000) : joinV (.str [32]) v st = some (.str (jn ys)) := by
  have e : ∀ ys : List W, strsOf (ys.map .str) = some ys := fun ys => by
    induction ys with
    | nil => rfl
    | cons y ys ih =>
      show (strsOf (ys.map .str)).map _ = _
      rw [ih]
      rfl
  have s : ∀ ys : List W, (∀ w ∈ ys, w.length ≤ 8) → (ys.map List.length).sum ≤ 8 * ys.length := fun ys => by
    induction ys with
    | nil => simp
    | cons y ys ih =>
      intro h
      have h1 := h y (by simp)
      have h2 := ih fun w hw => h w (by simp [hw])
      simp
      omega
  have s := s ys h
  show ((sv st v).bind strsOf).bind _ = _
  rw [hv, Option.bind_some, e, Option.bind_some]
  show guardO (decide ((ys.map List.length).sum + ys.length * 1 ≤ SZ)) _ = _
  rw [decide_eq_true (by unfold SZ; omega)]
  rfl
theorem form_fx (a : Atm) (ls : List Lv) : Fx (form a ls) := by
  rw [← formF_enc]
  exact enc_fx _
/-! ### the third loop, whole -/
theorem loop3_run {M : Nat} {vs : List PV} {ls : List Lv} {a : Atm} (d : Nat) (v0 v1 v2 v5 : PV) (z8 z11 z12 z13 z21 z22 : Option PV) : ∀ (m : Nat), m ≤ ls.length → ∀ (X : Store) (w : Nat) (z7 z9 z10 z14 z15 z16 z17 z18 z19 z20 : Option PV), K1 M vs ls X → w ≠ 0 → w ≠ M → X[w]? = some (.lst ((toks a (ls.drop m)).map .str)) →
    ∃ (Y : Store) (w' : Nat) (y7 y9 y10 y14 y15 y16 y17 y18 y19 y20 : Option PV), K1 M vs ls Y ∧ Y[w']? = some (.lst ((toks a ls).map .str)) ∧ forGo (turnM (fun x ev st => evT (R (d + 1)) Γ.gl NN (.name 7) x ev st) (fun ev st => evS (R (d + 1)) Γ.gl NN body3 ev st)) ((List.range m).map fun k => .int ((m : Int) - 1 + (k : Nat) * (-1))) (E3 v0 v1 v2 w (form a (ls.drop m)) v5 M z7 z8 z9 z10 z11 z12 z13 z14 z15 z16 z17 z18 z19 z20 z21 z22) X = .ok (.nx (E3 v0 v1 v2 w' (form a ls) v5 M y7 z8 y9 y10 z11 z12 z13 y14 y15 y16 y17 y18 y19 y20 z21 z22)) Y
  | 0, _, X, w, z7, z9, z10, z14, z15, z16, z17, z18, z19, z20, K, h0, hM, hw => ⟨X, w, z7, z9, z10, z14, z15, z16, z17, z18, z19, z20, K, hw, rfl⟩
  | m + 1, hm, X, w, z7, z9, z10, z14, z15, z16, z17, z18, z19, z20, K, h0, hM, hw => by
    have hi : m < ls.length := by omega
    have hwl : (toks a (ls.drop (m + 1))).length ≤ 1000 := by
      have := toks_len a (ls.drop (m + 1))
      have := K.few
      simp at *
      omega
    obtain ⟨Y, w1, y9, y10, y14, y15, y16, y17, y18, y19, y20, g, hYM, h0', hM', hw', e⟩ := body3_run K hi h0 hM hw hwl (form_fx a _) d v0 v1 v2 v5 z8 z9 z10 z11 z12 z13 z14 z15 z16 z17 z18 z19 z20 z21 z22
    have K' : K1 M vs ls Y := ⟨K.m0, hYM, K.all.gr g, K.ok, K.few⟩
    have ed : ls.drop m = ls[m] :: ls.drop (m + 1) := List.drop_eq_getElem_cons hi
    have hw2 : Y[w1]? = some (.lst ((toks a (ls.drop m)).map .str)) := by
      rw [ed]
      exact hw'
    obtain ⟨Z, w2, x7, x9, x10, x14, x15, x16, x17, x18, x19, x20, K2, hZ, e2⟩ := loop3_run d v0 v1 v2 v5 z8 z11 z12 z13 z21 z22 m (by omega) Y w1 (some (.int (m : Nat))) y9 y10 y14 y15 y16 y17 y18 y19 y20 K' h0' hM' hw2
    refine ⟨Z, w2, x7, x9, x10, x14, x15, x16, x17, x18, x19, x20, K2, hZ, ?_⟩
    have el : ((List.range (m + 1)).map fun k => PV.int (((m + 1 : Nat) : Int) - 1 + (k : Nat) * (-1))) = .int (m : Nat) :: ((List.range m).map fun k => .int ((m : Int) - 1 + (k : Nat) * (-1))) := by
      rw [List.range_succ_eq_map, List.map_cons, List.map_map]
      congr 1
      · congr 1
        simp
      · apply List.map_congr_left
        intro k _
        simp only [Function.comp]
        congr 1
        omega
    rw [el]
    unfold forGo
    show (evS (R (d + 1)) Γ.gl NN body3 (E3 v0 v1 v2 w (form a (ls.drop (m + 1))) v5 M (some (.int (m : Nat))) z8 z9 z10 z11 z12 z13 z14 z15 z16 z17 z18 z19 z20 z21 z22) X).bind _ = _
    rw [e, Res.bind_ok]
    rw [ed] at e2
    exact e2
/-! ### what is read -/
theorem parse_toks {a : Atm} {ls : List Lv} (ha : a.ok) (h : ∀ l ∈ ls, l.ok) (hl : ls.length ≤ 40) : pp (toks a ls) 392 (.chain 0 0) 0 = .ok (form a ls) (toks a ls).length :=
  read_der ((der_all ha h).down (b := 0) (by omega) (by omega)) hl (by have := toks_len a ls; unfold NN; omega) 391 (by omega)
theorem parse_ht {a : Atm} {ls : List Lv} (ha : a.ok) (h : ∀ l ∈ ls, l.ok) (hl : ls.length ≤ 40) : pp (ht 0 (formF a ls)) 392 (.chain 0 0) 0 = .ok (form a ls) (ht 0 (formF a ls)).length := by
  have q := read_der (der_ht (formF a ls) (formF_good ha h) 0 (by omega)) (by have := (nb_form (a := a) h).1 0 (by omega); omega) (by have := ht_size (formF a ls) 0; have := (formF_b a ls).2; unfold NN; omega) 391 (by omega)
  rw [formF_enc] at q
  exact q
theorem parse_no {a : Atm} {ls : List Lv} (h : ∀ l ∈ ls, l.ok) (hl : 41 ≤ ls.length) : pp (toks a ls) 392 (.chain 0 0) 0 = .no (stopAt 40 ls) := by
  have at0 : At (toks a ls) 0 (ls.flatMap Lv.lead) := by
    have := At_self (ls.flatMap Lv.lead) [] (a.tok ++ bh ls)
    rw [← toks_eq] at this
    exact this
  have q := no_chain (no_to (l := 0) (by omega) (refused 40 ls 0 0 h hl rfl at0))
  have q := q 392 (by omega)
  rw [Nat.zero_add] at q
  exact q
/-! ### the law -/
theorem law_run (ns : List Int) : ∃ st', R 400 15 [.fl (ns.map .int)] [] = .ok (.bl true) st' := by
  obtain ⟨ps0, e0⟩ := picks_run (d := 396) ns
  let v0 : PV := .fl (ns.map .int)
  let tl : List (Option PV) := [none, none, none, none, none, none, none, none, none, none, none]
  let evA : Env := [some v0, some (.loc 0), none, none, none, none, none, none, none, none, none, none, none, none, none, none, none, none, none, none, none, none, none]
  obtain ⟨j1, ps1, hj1, e1⟩ := e_pick (ev := evA) (i := 1) rfl 6 6 rfl (by omega) 398 ps0 []
  let evB : Env := [some v0, some (.loc 0), some (.int (1 + (j1 : Int))), none, none, none, none, none, none, none, none, none, none, none, none, none, none, none, none, none, none, none, none]
  obtain ⟨j2, ps2, hj2, e2⟩ := e_pick (ev := evB) (i := 1) rfl 2 2 rfl (by omega) 398 ps1 []
  obtain ⟨j3, ps3, hj3, e3⟩ := e_pick (ev := evB) (i := 1) rfl 9 9 rfl (by omega) 398 ps2 []
  let ev0 : Env := [some v0, none, none, none, none, none, none, none, none, none, none, none, none, none, none, none, none, none, none, none, none, none, none]
  have hrun : ∀ {res : Res Flow}, evS (R 399) Γ.gl NN r15.c.body ev0 [] = res → R 400 15 [.fl (ns.map .int)] [] = res.bind fin := fun h => by
    rw [run_eq (d := 399) (fn := r15.c) (by decide) rfl rfl]
    show (evS (R 399) Γ.gl NN r15.c.body ev0 []).bind fin = _
    rw [h]
  -- the number of levels
  obtain ⟨n, ps4, hn, ec⟩ : ∃ (n : Nat) (ps4 : List Int), n ≤ 44 ∧ ∀ ss, evS (R 399) Γ.gl NN (.cons (.asg (.name 1) (.call 10 (.cons (.var 0) (.cons (.lit (.int 0)) (.cons (.lit (.int 700)) .nil))))) (.cons (.asg (.name 2) (.bin .add (.lit (.int 1)) (.bin .mod (.call 9 (.cons (.var 1) .nil)) (.lit (.int 6))))) (.cons (.if_ (.cmp .eq (.bin .mod (.call 9 (.cons (.var 1) .nil)) (.lit (.int 2))) (.lit (.int 0))) (.cons (.asg (.name 2) (.bin .add (.lit (.int 36)) (.bin .mod (.call 9 (.cons (.var 1) .nil)) (.lit (.int 9))))) .nil) .nil) ss))) ev0 [] = evS (R 399) Γ.gl NN ss [some v0, some (.loc 0), some (.int n), none, none, none, none, none, none, none, none, none, none, none, none, none, none, none, none, none, none, none, none] (S ps4 []) := by
    have a1 : evE (R 399) Γ.gl NN (.call 10 (.cons (.var 0) (.cons (.lit (.int 0)) (.cons (.lit (.int 700)) .nil)))) ev0 [] = .ok (.loc 0) (S ps0 []) := call_v (cons_p (var_v rfl) (cons_p lit_v (cons_p lit_v nil_v))) e0
    have a2 : evS (R 399) Γ.gl NN (.asg (.name 2) (.bin .add (.lit (.int 1)) (.bin .mod (.call 9 (.cons (.var 1) .nil)) (.lit (.int 6))))) evA (S ps0 []) = .ok (.nx evB) (S ps1 []) := (asg_nm (bin_v (w := .int (1 + (j1 : Int))) lit_v e1 rfl)).trans rfl
    have a3 : evE (R 399) Γ.gl NN (.cmp .eq (.bin .mod (.call 9 (.cons (.var 1) .nil)) (.lit (.int 2))) (.lit (.int 0))) evB (S ps1 []) = .ok (.bl ((j2 : Int) == 0)) (S ps2 []) := cmp_v e2 lit_v (eqS_v rfl)
    cases hb : ((j2 : Int) == 0) with
    | true =>
      rw [hb] at a3
      refine ⟨36 + j3, ps3, by omega, fun ss => ?_⟩
      rw [cons_nx (asg_nm a1)]
      refine (cons_nx a2).trans ?_
      refine cons_nx ((if_t a3).trans ?_)
      refine (cons_nx (asg_nm (bin_v (w := .int ((36 + j3 : Nat) : Int)) lit_v e3 ?_))).trans rfl
      show some (PV.int (36 + (j3 : Int))) = _
      simp
    | false =>
      rw [hb] at a3
      refine ⟨1 + j1, ps2, by omega, fun ss => ?_⟩
      rw [cons_nx (asg_nm a1)]
      refine (cons_nx a2).trans ?_
      refine cons_nx ((if_f a3).trans ?_)
      have : (((1 + j1 : Nat) : Int)) = 1 + (j1 : Int) := by simp
      rw [this]
      rfl
  -- the words
  obtain ⟨a, ha, ps5, x, wv, e11, hwv⟩ := lplain 0 396 ps4 [] (by simp)
  rw [List.nil_append] at e11 hwv
  have hwv' := hwv
  obtain ⟨w0, rfl, hw0, _, hwx⟩ := hwv'
  let evC : Env := [some v0, some (.loc 0), some (.int n), some (.loc w0), some a.val, none, none, none, none, none, none, none, none, none, none, none, none, none, none, none, none, none, none]
  have s4 : evS (R 399) Γ.gl NN (.asg (.names [3, 4]) (.call 11 (.cons (.var 1) .nil))) [some v0, some (.loc 0), some (.int n), none, none, none, none, none, none, none, none, none, none, none, none, none, none, none, none, none, none, none, none] (S ps4 []) = .ok (.nx evC) (S ps5 x) := names_v (vs := [.loc w0, a.val]) (call_v (cons_p (var_v rfl) nil_v) e11) rfl
  let A : Nat := (S ps5 x).length
  let M : Nat := (S ps5 (x ++ [.lst []])).length
  have hA : M = A + 1 := by simp [M, A]
  have wlt : w0 < A := (List.getElem?_eq_some_iff.mp hwx).1
  let r1 : Store := x ++ [.lst []] ++ [.lst []]
  have s5 : evS (R 399) Γ.gl NN (.par 5 6 (.lst .nil) (.lst .nil)) evC (S ps5 x) = .ok (.nx (E1 v0 (.int n) (.loc w0) a.val (.loc A) M none none none none none tl)) (S ps5 r1) := (par_v (lst_v nil_v (by simp [SZ])) (lst_v nil_v (by simp [SZ]))).trans rfl
  have hM1 : (S ps5 r1)[M]? = some (.lst []) := get_last (S ps5 (x ++ [Cell.lst []])) (Cell.lst [])
  have K0 : K1 M [] [] (S ps5 r1) := ⟨by omega, hM1, .nil, by simp, by simp⟩
  obtain ⟨vs, ls, ps6, r6', y7, y8, y9, y10, y11, K, hls, g1, el1⟩ := loop1_run (M := M) 396 v0 (.int n) (.loc w0) a.val (.loc A) tl n 0 ps5 r1 [] [] none none none none none K0 (by simp; omega)
  have hls : ls.length = n := by simpa using hls
  have s6 : evS (R 399) Γ.gl NN (.for_ (.name 7) .rng1 (.var 2) .noE body1) (E1 v0 (.int n) (.loc w0) a.val (.loc A) M none none none none none tl) (S ps5 r1) = .ok (.nx (E1 v0 (.int n) (.loc w0) a.val (.loc A) M y7 y8 y9 y10 y11 tl)) (S ps6 r6') := for_1 (n := n) (var_v rfl) (by unfold SZ; omega) el1
  let X : Store := S ps6 r6'
  have hwX : X[w0]? = some (.lst (a.tok.map .str)) := by
    refine g1.2 w0 _ hw0 (by omega) ?_
    have e : S ps5 r1 = S ps5 x ++ ([.lst []] ++ [.lst []]) := by simp [r1]
    rw [e, List.getElem?_append_left wlt]
    exact hwx
  let tl2 : List (Option PV) := [none, none, none, none, none, none, none, none, none]
  have s7 : evS (R 399) Γ.gl NN (.asg (.names [12, 13]) (.tup (.cons (.lit (.int 0)) (.cons (.lit (.int 0)) .nil)))) (E1 v0 (.int n) (.loc w0) a.val (.loc A) M y7 y8 y9 y10 y11 tl) X = .ok (.nx (E2 v0 (.loc 0) (.int n) (.loc w0) a.val (.loc A) M y7 y8 y9 y10 y11 0 0 tl2)) X := names_v (vs := [.int 0, .int 0]) (tup_v (cons_p lit_v (cons_p lit_v nil_v)) (by simp [SZ])) rfl
  obtain ⟨q7, el2⟩ := loop2_run K (R 399) v0 (.loc 0) (.int n) (.loc w0) a.val (.loc A) y8 y9 y10 y11 tl2 n 0 y7 (by omega)
  let stop : Nat := if 40 < ls.length then stopAt 40 ls else 0
  let evD : Env := E2 v0 (.loc 0) (.int n) (.loc w0) a.val (.loc A) M q7 y8 y9 y10 y11 stop (stopAt ls.length ls) tl2
  have s8 : evS (R 399) Γ.gl NN (.for_ (.name 7) .rng1 (.var 2) .noE body2) (E2 v0 (.loc 0) (.int n) (.loc w0) a.val (.loc A) M y7 y8 y9 y10 y11 0 0 tl2) X = .ok (.nx evD) X := for_1 (n := n) (var_v rfl) (by unfold SZ; omega) el2
  obtain ⟨Y, w', x7, x9, x10, x14, x15, x16, x17, x18, x19, x20, KY, hY, el3⟩ := loop3_run (a := a) 398 v0 (.loc 0) (.int n) (.loc A) y8 y11 (some (.int (stop : Nat))) (some (.int (stopAt ls.length ls : Nat))) none none ls.length (Nat.le_refl _) X w0 q7 y9 y10 none none none none none none none K hw0 (by omega) (by rw [List.drop_length]; exact hwX)
  rw [List.drop_length] at el3
  let evE' : Env := E3 v0 (.loc 0) (.int n) w' (form a ls) (.loc A) M x7 y8 x9 x10 y11 (some (.int (stop : Nat))) (some (.int (stopAt ls.length ls : Nat))) x14 x15 x16 x17 x18 x19 x20 none none
  have s9 : evS (R 399) Γ.gl NN (.for_ (.name 7) (.rng3 (-1)) (.bin .sub (.var 2) (.lit (.int 1))) (.bin .sub (.lit (.int 0)) (.lit (.int 1))) body3) evD X = .ok (.nx evE') Y := by
    have h1 : evE (R 399) Γ.gl NN (.bin .sub (.var 2) (.lit (.int 1))) evD X = .ok (.int ((ls.length : Int) - 1)) X := by
      rw [hls]
      exact bin_v (var_v rfl) lit_v rfl
    have h2 : evE (R 399) Γ.gl NN (.bin .sub (.lit (.int 0)) (.lit (.int 1))) evD X = .ok (.int (-1)) X := bin_v lit_v lit_v rfl
    have h3 : rng3Of (-1) (.int ((ls.length : Int) - 1)) (.int (-1)) = some (.vals ((List.range ls.length).map fun k => .int ((ls.length : Int) - 1 + (k : Nat) * (-1)))) := by
      unfold rng3Of
      dsimp only
      rw [if_pos (by unfold R62; omega)]
      have : ((ls.length : Int) - 1 - -1).toNat = ls.length := by omega
      rw [this]
    unfold evS Vm.forM iterM
    dsimp only
    rw [h1, Res.bind_ok, h2, Res.bind_ok, h3]
    exact el3
  -- the text
  let ws := toks a ls
  have hwl := toks_len a ls
  have hT : TxtOk ws := ⟨toks_ne a ls, toks_wd ha K.ok, by show (toks a ls).length ≤ 1000; omega⟩
  have ejoin : evE (R 399) Γ.gl NN (.mth1 .join (.lit (.str [32])) (.var 3)) evE' Y = .ok (.str (jn ws)) Y := join_v (u := .loc w') (st2 := Y) (ys := ws) lit_v (var_v rfl) (join_s (v := .loc w') (by
    show lv Y (.loc w') = _
    unfold lv
    dsimp only
    rw [hY]) (fun w hw => (hT.wd w hw).1) hT.few)
  let evF : Env := E3 v0 (.loc 0) (.int n) w' (form a ls) (.loc A) M x7 y8 x9 x10 y11 (some (.int (stop : Nat))) (some (.int (stopAt ls.length ls : Nat))) x14 x15 x16 x17 x18 x19 x20 (some (.str (jn ws))) none
  have s10 : evS (R 399) Γ.gl NN (.asg (.name 21) (.mth1 .join (.lit (.str [32])) (.var 3))) evE' Y = .ok (.nx evF) Y := (asg_nm ejoin).trans rfl
  have hfx := form_fx a ls
  have head : ∀ (res : Res Flow), (∀ ss, r15.c.body = .cons (.asg (.name 1) (.call 10 (.cons (.var 0) (.cons (.lit (.int 0)) (.cons (.lit (.int 700)) .nil))))) (.cons (.asg (.name 2) (.bin .add (.lit (.int 1)) (.bin .mod (.call 9 (.cons (.var 1) .nil)) (.lit (.int 6))))) (.cons (.if_ (.cmp .eq (.bin .mod (.call 9 (.cons (.var 1) .nil)) (.lit (.int 2))) (.lit (.int 0))) (.cons (.asg (.name 2) (.bin .add (.lit (.int 36)) (.bin .mod (.call 9 (.cons (.var 1) .nil)) (.lit (.int 9))))) .nil) .nil) (.cons (.asg (.names [3, 4]) (.call 11 (.cons (.var 1) .nil))) (.cons (.par 5 6 (.lst .nil) (.lst .nil)) (.cons (.for_ (.name 7) .rng1 (.var 2) .noE body1) (.cons (.asg (.names [12, 13]) (.tup (.cons (.lit (.int 0)) (.cons (.lit (.int 0)) .nil)))) (.cons (.for_ (.name 7) .rng1 (.var 2) .noE body2) (.cons (.for_ (.name 7) (.rng3 (-1)) (.bin .sub (.var 2) (.lit (.int 1))) (.bin .sub (.lit (.int 0)) (.lit (.int 1))) body3) (.cons (.asg (.name 21) (.mth1 .join (.lit (.str [32])) (.var 3))) ss))))))))) → evS (R 399) Γ.gl NN ss evF Y = res) → evS (R 399) Γ.gl NN r15.c.body ev0 [] = res := fun res h => by
    refine Eq.trans ?_ (h _ rfl)
    refine (ec _).trans ?_
    refine (cons_nx s4).trans ?_
    refine (cons_nx s5).trans ?_
    refine (cons_nx s6).trans ?_
    refine (cons_nx s7).trans ?_
    refine (cons_nx s8).trans ?_
    refine (cons_nx s9).trans ?_
    exact cons_nx s10
  have c40 := gt_v (c := R 399) (ev := evF) (st := Y) (i := 2) (n := 40) (N := 40) (j := n) rfl rfl
  by_cases big : 40 < n
  · rw [decide_eq_true big] at c40
    have hst : stop = stopAt 40 ls := if_pos (by omega)
    have pn := parse_no (a := a) K.ok (by omega)
    have lr := law_read_no (d := 392) (st := Y) hT pn
    let Z : Store := PS Y ws (stopAt 40 ls) ++ [.lst [.int 0, .int (stopAt 40 ls : Nat)]]
    have e14 : evE (R 399) Γ.gl NN (.call 14 (.cons (.var 21) .nil)) evF Y = .ok (.loc (PS Y ws (stopAt 40 ls)).length) Z := call_v (cons_p (var_v rfl) nil_v) lr
    have elst : evE (R 399) Γ.gl NN (.lst (.cons (.lit (.int 0)) (.cons (.var 12) .nil))) evF Z = .ok (.tl [.int 0, .int (stop : Nat)]) Z := lst_v (cons_p lit_v (cons_p (var_v rfl) nil_v)) (by simp [SZ])
    have z1 : (Z ++ [Cell.lst [.int 0, .int (stop : Nat)]])[(PS Y ws (stopAt 40 ls)).length]? = some (.lst ([(0 : Int), (stop : Int)].map .int)) := by
      rw [List.getElem?_append_left (by simp [Z]), hst]
      exact get_last (PS Y ws (stopAt 40 ls)) _
    have z2 : (Z ++ [Cell.lst [.int 0, .int (stop : Nat)]])[Z.length]? = some (.lst ([(0 : Int), (stop : Int)].map .int)) := get_last _ _
    have sm := same_lst (d := 397) (by simp [SZ]) z1 z2
    have eall : evE (R 399) Γ.gl NN (.call 6 (.cons (.call 14 (.cons (.var 21) .nil)) (.cons (.lst (.cons (.lit (.int 0)) (.cons (.var 12) .nil))) .nil))) evF Y = .ok (.bl true) (Z ++ [Cell.lst [.int 0, .int (stop : Nat)]]) := call_v (cons_p e14 (cons_v elst nil_v)) sm
    refine ⟨Z ++ [Cell.lst [.int 0, .int (stop : Nat)]], (hrun (head (.ok (.rt (.bl true)) (Z ++ [Cell.lst [.int 0, .int (stop : Nat)]])) fun ss hss => ?_)).trans ?_⟩
    · cases hss
      exact cons_rt ((if_t c40).trans (cons_rt (ret_v eall)))
    · rfl
  · rw [decide_eq_false big] at c40
    have few : ls.length ≤ 40 := by omega
    have pt := parse_toks ha K.ok few
    have lr := law_read_ok (d := 392) (st := Y) hT pt rfl
    let Y2 : Store := PS Y ws ws.length
    have e14 : evE (R 399) Γ.gl NN (.call 14 (.cons (.var 21) .nil)) evF Y = .ok (form a ls) Y2 := call_v (cons_p (var_v rfl) nil_v) lr
    have fb := formF_b a ls
    have sm : ∀ st, R 399 6 [form a ls, form a ls] st = .ok (.bl true) st := fun st => by
      have h1 := enc_pl (formF a ls)
      rw [formF_enc] at h1
      exact same_pl 398 h1 (by omega)
    have s11 : evE (R 399) Γ.gl NN (.not (.call 6 (.cons (.call 14 (.cons (.var 21) .nil)) (.cons (.var 4) .nil)))) evF Y = .ok (.bl false) Y2 := not_v (x := true) (call_v (cons_p e14 (cons_p (var_v rfl) nil_v (hfx _)) (hfx _)) (sm _))
    -- written and read again
    obtain ⟨x2, et⟩ := text_run (d := 398) (formF_good ha K.ok) (by omega) (by omega) Y2
    rw [formF_enc] at et
    let Y3 : Store := Y2 ++ x2
    have wd2 : TxtOk (ht 0 (formF a ls)) := ⟨ht_ne _ _, ht_wd _ (formF_good ha K.ok) 0, by have := ht_size (formF a ls) 0; omega⟩
    have p2 := parse_ht ha K.ok few
    have lr2 := law_read_ok (d := 392) (st := Y3) wd2 p2 rfl
    let Y4 : Store := PS Y3 (ht 0 (formF a ls)) (ht 0 (formF a ls)).length
    have e19 : evE (R 399) Γ.gl NN (.call 14 (.cons (.call 4 (.cons (.var 4) .nil)) .nil)) evF Y2 = .ok (form a ls) Y4 := call_v (cons_p (call_v (cons_p (var_v rfl) nil_v (hfx _)) et) nil_v) lr2
    have s12 : evE (R 399) Γ.gl NN (.call 6 (.cons (.call 14 (.cons (.call 4 (.cons (.var 4) .nil)) .nil)) (.cons (.var 4) .nil))) evF Y2 = .ok (.bl true) Y4 := call_v (cons_p e19 (cons_p (var_v rfl) nil_v (hfx _)) (hfx _)) (sm _)
    refine ⟨Y4, (hrun (head (.ok (.rt (.bl true)) Y4) fun ss hss => ?_)).trans ?_⟩
    · cases hss
      refine (cons_nx ((if_f c40).trans rfl)).trans ?_
      refine (cons_nx ((if_f s11).trans rfl)).trans ?_
      exact cons_rt (ret_v s12)
    · rfl
end K83

set_option maxHeartbeats 8000000
namespace K83
open Vm
theorem law_true (ns : List Int) (h : ns.length ≤ 63) : Vm.TrueAt (Vm.run (tabs pg).fn pg.gl NN 400 15) ns := law_run ns
end K83
namespace K83
open Vm PySem L2
theorem b0 : BindsOk r0 := fun _ _ _ _ _ _ us hl => match us, hl with | [_], _ => rfl
theorem b1 : BindsOk r1 := fun _ _ _ _ _ _ us hl => match us, hl with | [_, _], _ => rfl
theorem b2 : BindsOk r2 := fun _ _ _ _ _ _ us hl => match us, hl with | [_], _ => rfl
theorem b3 : BindsOk r3 := fun _ _ _ _ _ _ us hl => match us, hl with | [_, _], _ => rfl
theorem b4 : BindsOk r4 := fun _ _ _ _ _ _ us hl => match us, hl with | [_], _ => rfl
theorem b5 : BindsOk r5 := fun _ _ _ _ _ _ us hl => match us, hl with | [_], _ => rfl
theorem b6 : BindsOk r6 := fun _ _ _ _ _ _ us hl => match us, hl with | [_, _], _ => rfl
theorem b7 : BindsOk r7 := fun _ _ _ _ _ _ us hl => match us, hl with | [_, _], _ => rfl
theorem b8 : BindsOk r8 := fun _ _ _ _ _ _ us hl => match us, hl with | [_, _, _, _], _ => rfl
theorem b9 : BindsOk r9 := fun _ _ _ _ _ _ us hl => match us, hl with | [_], _ => rfl
theorem b10 : BindsOk r10 := fun _ _ _ _ _ _ us hl => match us, hl with | [_, _, _], _ => rfl
theorem b11 : BindsOk r11 := fun _ _ _ _ _ _ us hl => match us, hl with | [_], _ => rfl
theorem b12 : BindsOk r12 := fun _ _ _ _ _ _ us hl => match us, hl with | [_, _, _], _ => rfl
theorem b13 : BindsOk r13 := fun _ _ _ _ _ _ us hl => match us, hl with | [_, _, _, _, _], _ => rfl
theorem b14 : BindsOk r14 := fun _ _ _ _ _ _ us hl => match us, hl with | [_], _ => rfl
theorem b15 : BindsOk r15 := fun _ _ _ _ _ _ us hl => match us, hl with | [_], _ => rfl
theorem b16 : BindsOk r16 := fun _ _ _ _ _ _ us hl => match us, hl with | [_, _], _ => rfl
theorem b17 : BindsOk r17 := fun _ _ _ _ _ _ us hl => match us, hl with | [_], _ => rfl
theorem b18 : BindsOk r18 := fun _ _ _ _ _ _ us hl => match us, hl with | [_], _ => rfl
theorem b19 : BindsOk r19 := fun _ _ _ _ _ _ us hl => match us, hl with | [_, _], _ => rfl
theorem b20 : BindsOk r20 := fun _ _ _ _ _ _ us hl => match us, hl with | [_, _], _ => rfl
theorem b21 : BindsOk r21 := fun _ _ _ _ _ _ us hl => match us, hl with | [_, _], _ => rfl
theorem b22 : BindsOk r22 := fun _ _ _ _ _ _ us hl => match us, hl with | [_, _, _], _ => rfl
theorem b23 : BindsOk r23 := fun _ _ _ _ _ _ us hl => match us, hl with | [_, _, _], _ => rfl
theorem b24 : BindsOk r24 := fun _ _ _ _ _ _ us hl => match us, hl with | [_], _ => rfl
theorem all_mk {w : World} {K : PySem.W.Frag} {h : Heap} {mg : Str → Option Value} {fa : Addr} (X : K.In h) (G : h.Ns mainGlobals mg) (hfa : mg "law" = some (.ref fa))
    {f0 f1 f2 f3 f4 f5 f6 f7 f8 f9 f10 f11 f12 f13 f14 f15 f16 f17 f18 f19 f20 f21 f22 f23 f24 C0 g4 g5 g6 ZBadFault ZWordsError ZBadText xie0 xce0 xde0 xNe0 xw0_0 xie1 xce1 xde1 xNe1 xw1_0 : Addr} {od0 an0 od1 an1 od2 an2 od3 an3 od4 an4 od5 an5 od6 an6 od7 an7 od8 an8 od9 an9 od10 an10 od11 an11 od12 an12 od13 an13 od14 an14 od15 an15 od16 an16 od17 an17 od18 an18 od19 an19 od20 an20 od21 an21 od22 an22 od23 an23 od24 an24 xdde0 xode0 xane0 xcdde0 xclde0 xdde1 xode1 xane1 xcdde1 xclde1 : Option Addr} {sl0 sl1 sl2 sl3 sl4 sl5 sl6 sl7 sl8 sl9 sl10 sl11 sl12 sl13 sl14 sl15 sl16 sl17 sl18 sl19 sl20 sl21 sl22 sl23 sl24 xosle0 xccse0 xcsle0 xosle1 xccse1 xcsle1 : Array (Option Value)} {oc0 kV0 dc0 pm0 cd0 ct0 oc1 kV1 dc1 pm1 cd1 ct1 oc2 kV2 dc2 pm2 cd2 ct2 oc3 kV3 dc3 pm3 cd3 ct3 oc4 kV4 dc4 pm4 cd4 ct4 oc5 kV5 dc5 pm5 cd5 ct5 oc6 kV6 dc6 pm6 cd6 ct6 oc7 kV7 dc7 pm7 cd7 ct7 oc8 kV8 dc8 pm8 cd8 ct8 oc9 kV9 dc9 pm9 cd9 ct9 oc10 kV10 dc10 pm10 cd10 ct10 oc11 kV11 dc11 pm11 cd11 ct11 oc12 kV12 dc12 pm12 cd12 ct12 oc13 kV13 dc13 pm13 cd13 ct13 oc14 kV14 dc14 pm14 cd14 ct14 oc15 kV15 dc15 pm15 cd15 ct15 oc16 kV16 dc16 pm16 cd16 ct16 oc17 kV17 dc17 pm17 cd17 ct17 oc18 kV18 dc18 pm18 cd18 ct18 oc19 kV19 dc19 pm19 cd19 ct19 oc20 kV20 dc20 pm20 cd20 ct20 oc21 kV21 dc21 pm21 cd21 ct21 oc22 kV22 dc22 pm22 cd22 ct22 oc23 kV23 dc23 pm23 cd23 ct23 oc24 kV24 dc24 pm24 cd24 ct24 xoce0 xdoce0 xpme0 xcte0 xccle0 xcle0 xoce1 xdoce1 xpme1 xcte1 xccle1 xcle1 : Value} {t0 t1 t2 t3 xtfe0 xtfe1 : Tok} {xvse0 xvse1 : Array Value} {dn4 dn5 dn6 : Nat} {xne0 xqe0 xfe0 xne1 xqe1 xfe1 : Str} {xbse0 xsube0 xbse1 xsube1 : List Value} {xsne0 xsne1 : List Str} {xabe0 xabe1 : Bool} {xcoe0 xcoe1 : Option Bool} {xk0e0 xk1e0 xk2e0 xk3e0 xk5e0 xk0e1 xk1e1 xk2e1 xk3e1 xk5e1 : Option Value} {de4 de5 de6 : Array DictEntry}
    (atf0 : PySem.W.nsIn K mainGlobals "is_name" = some (some (.ref f0)))
    (atf1 : PySem.W.nsIn K mainGlobals "is_number" = some (some (.ref f1)))
    (atf2 : PySem.W.nsIn K mainGlobals "sign_behind" = some (some (.ref f2)))
    (atf3 : PySem.W.nsIn K mainGlobals "held_expression" = some (some (.ref f3)))
    (atf4 : PySem.W.nsIn K mainGlobals "expression_text" = some (some (.ref f4)))
    (atf5 : PySem.W.nsIn K mainGlobals "read_expression" = some (some (.ref f5)))
    (atf6 : PySem.W.nsIn K mainGlobals "_law_same" = some (some (.ref f6)))
    (atf7 : PySem.W.nsIn K mainGlobals "_law_number" = some (some (.ref f7)))
    (atf8 : PySem.W.nsIn K mainGlobals "_law_draws" = some (some (.ref f8)))
    (atf9 : PySem.W.nsIn K mainGlobals "_law_pick" = some (some (.ref f9)))
    (atf10 : PySem.W.nsIn K mainGlobals "_law_picks" = some (some (.ref f10)))
    (atf11 : PySem.W.nsIn K mainGlobals "_law_plain" = some (some (.ref f11)))
    (atf12 : PySem.W.nsIn K mainGlobals "_law_behind" = some (some (.ref f12)))
    (atf13 : PySem.W.nsIn K mainGlobals "_law_joined" = some (some (.ref f13)))
    (atf14 : PySem.W.nsIn K mainGlobals "_law_read" = some (some (.ref f14)))
    (atf15 : PySem.W.nsIn K mainGlobals "law" = some (some (.ref f15)))
    (atC0 : PySem.W.nsIn K mainGlobals "ExpressionWords" = some (some (.ref C0)))
    (pgC0 : PySem.W.plainGet K C0 Str.empty = true)
    (hdC0 : PySem.W.hasDictIn K C0 = true)
    (poC0 : PySem.W.plainOver K C0 = true)
    (saC0 : PySem.W.findIn K (.ref C0) "__setattr__" = some (some (.builtin "object.__setattr__")))
    (mkC0 : PySem.W.makesIn K C0 = true)
    (kpC0 : PySem.W.keepIn K (.ref C0) = true)
    (nC0_0 : PySem.W.findIn K (.ref C0) "words" = some none)
    (nC0_1 : PySem.W.findIn K (.ref C0) "at" = some none)
    (mC0_0 : PySem.W.findIn K (.ref C0) "__init__" = some (some (.ref f16)))
    (mC0_1 : PySem.W.findIn K (.ref C0) "refuse" = some (some (.ref f17)))
    (mC0_2 : PySem.W.findIn K (.ref C0) "next" = some (some (.ref f18)))
    (mC0_3 : PySem.W.findIn K (.ref C0) "plain" = some (some (.ref f19)))
    (mC0_4 : PySem.W.findIn K (.ref C0) "behind" = some (some (.ref f20)))
    (mC0_5 : PySem.W.findIn K (.ref C0) "one" = some (some (.ref f21)))
    (mC0_6 : PySem.W.findIn K (.ref C0) "part" = some (some (.ref f22)))
    (mC0_7 : PySem.W.findIn K (.ref C0) "chain" = some (some (.ref f23)))
    (mC0_8 : PySem.W.findIn K (.ref C0) "read" = some (some (.ref f24)))
    (l0 : K.lookup f0 = some ⟨oc0, od0, .func (PySem.W.fnOf "is_name" "is_name" (defArgs (topS 8)) (defBody (topS 8)) (defScope (topS 8)) .none kV0 dc0 pm0 an0 cd0 ct0), sl0⟩)
    (c0 : PySem.W.codeIn K cd0 "is_name" = true)
    (kp0 : PySem.W.keepIn K (.ref f0) = true)
    (l1 : K.lookup f1 = some ⟨oc1, od1, .func (PySem.W.fnOf "is_number" "is_number" (defArgs (topS 9)) (defBody (topS 9)) (defScope (topS 9)) .none kV1 dc1 pm1 an1 cd1 ct1), sl1⟩)
    (c1 : PySem.W.codeIn K cd1 "is_number" = true)
    (kp1 : PySem.W.keepIn K (.ref f1) = true)
    (l2 : K.lookup f2 = some ⟨oc2, od2, .func (PySem.W.fnOf "sign_behind" "sign_behind" (defArgs (topS 15)) (defBody (topS 15)) (defScope (topS 15)) .none kV2 dc2 pm2 an2 cd2 ct2), sl2⟩)
    (c2 : PySem.W.codeIn K cd2 "sign_behind" = true)
    (kp2 : PySem.W.keepIn K (.ref f2) = true)
    (l3 : K.lookup f3 = some ⟨oc3, od3, .func (PySem.W.fnOf "held_expression" "held_expression" (defArgs (topS 16)) (defBody (topS 16)) (defScope (topS 16)) .none kV3 dc3 pm3 an3 cd3 ct3), sl3⟩)
    (c3 : PySem.W.codeIn K cd3 "held_expression" = true)
    (kp3 : PySem.W.keepIn K (.ref f3) = true)
    (l4 : K.lookup f4 = some ⟨oc4, od4, .func (PySem.W.fnOf "expression_text" "expression_text" (defArgs (topS 17)) (defBody (topS 17)) (defScope (topS 17)) .none kV4 dc4 pm4 an4 cd4 ct4), sl4⟩)
    (c4 : PySem.W.codeIn K cd4 "expression_text" = true)
    (kp4 : PySem.W.keepIn K (.ref f4) = true)
    (l5 : K.lookup f5 = some ⟨oc5, od5, .func (PySem.W.fnOf "read_expression" "read_expression" (defArgs (topS 19)) (defBody (topS 19)) (defScope (topS 19)) .none kV5 dc5 pm5 an5 cd5 ct5), sl5⟩)
    (c5 : PySem.W.codeIn K cd5 "read_expression" = true)
    (kp5 : PySem.W.keepIn K (.ref f5) = true)
    (l6 : K.lookup f6 = some ⟨oc6, od6, .func (PySem.W.fnOf "_law_same" "_law_same" (defArgs (topS 21)) (defBody (topS 21)) (defScope (topS 21)) .none kV6 dc6 pm6 an6 cd6 ct6), sl6⟩)
    (c6 : PySem.W.codeIn K cd6 "_law_same" = true)
    (kp6 : PySem.W.keepIn K (.ref f6) = true)
    (l7 : K.lookup f7 = some ⟨oc7, od7, .func (PySem.W.fnOf "_law_number" "_law_number" (defArgs (topS 22)) (defBody (topS 22)) (defScope (topS 22)) .none kV7 dc7 pm7 an7 cd7 ct7), sl7⟩)
    (c7 : PySem.W.codeIn K cd7 "_law_number" = true)
    (kp7 : PySem.W.keepIn K (.ref f7) = true)
    (l8 : K.lookup f8 = some ⟨oc8, od8, .func (PySem.W.fnOf "_law_draws" "_law_draws" (defArgs (topS 23)) (defBody (topS 23)) (defScope (topS 23)) .none kV8 dc8 pm8 an8 cd8 ct8), sl8⟩)
    (c8 : PySem.W.codeIn K cd8 "_law_draws" = true)
    (kp8 : PySem.W.keepIn K (.ref f8) = true)
    (l9 : K.lookup f9 = some ⟨oc9, od9, .func (PySem.W.fnOf "_law_pick" "_law_pick" (defArgs (topS 24)) (defBody (topS 24)) (defScope (topS 24)) .none kV9 dc9 pm9 an9 cd9 ct9), sl9⟩)
    (c9 : PySem.W.codeIn K cd9 "_law_pick" = true)
    (kp9 : PySem.W.keepIn K (.ref f9) = true)
    (l10 : K.lookup f10 = some ⟨oc10, od10, .func (PySem.W.fnOf "_law_picks" "_law_picks" (defArgs (topS 25)) (defBody (topS 25)) (defScope (topS 25)) .none kV10 dc10 pm10 an10 cd10 ct10), sl10⟩)
    (c10 : PySem.W.codeIn K cd10 "_law_picks" = true)
    (kp10 : PySem.W.keepIn K (.ref f10) = true)
    (l11 : K.lookup f11 = some ⟨oc11, od11, .func (PySem.W.fnOf "_law_plain" "_law_plain" (defArgs (topS 26)) (defBody (topS 26)) (defScope (topS 26)) .none kV11 dc11 pm11 an11 cd11 ct11), sl11⟩)
    (c11 : PySem.W.codeIn K cd11 "_law_plain" = true)
    (kp11 : PySem.W.keepIn K (.ref f11) = true)
    (l12 : K.lookup f12 = some ⟨oc12, od12, .func (PySem.W.fnOf "_law_behind" "_law_behind" (defArgs (topS 27)) (defBody (topS 27)) (defScope (topS 27)) .none kV12 dc12 pm12 an12 cd12 ct12), sl12⟩)
    (c12 : PySem.W.codeIn K cd12 "_law_behind" = true)
    (kp12 : PySem.W.keepIn K (.ref f12) = true)
    (l13 : K.lookup f13 = some ⟨oc13, od13, .func (PySem.W.fnOf "_law_joined" "_law_joined" (defArgs (topS 28)) (defBody (topS 28)) (defScope (topS 28)) .none kV13 dc13 pm13 an13 cd13 ct13), sl13⟩)
    (c13 : PySem.W.codeIn K cd13 "_law_joined" = true)
    (kp13 : PySem.W.keepIn K (.ref f13) = true)
    (l14 : K.lookup f14 = some ⟨oc14, od14, .func (PySem.W.fnOf "_law_read" "_law_read" (defArgs (topS 29)) (defBody (topS 29)) (defScope (topS 29)) .none kV14 dc14 pm14 an14 cd14 ct14), sl14⟩)
    (c14 : PySem.W.codeIn K cd14 "_law_read" = true)
    (kp14 : PySem.W.keepIn K (.ref f14) = true)
    (l15 : K.lookup f15 = some ⟨oc15, od15, .func (PySem.W.fnOf "law" "law" (defArgs (topS 30)) (defBody (topS 30)) (defScope (topS 30)) .none kV15 dc15 pm15 an15 cd15 ct15), sl15⟩)
    (c15 : PySem.W.codeIn K cd15 "law" = true)
    (kp15 : PySem.W.keepIn K (.ref f15) = true)
    (fn16 : PySem.W.isFn K (.ref f16) = true)
    (l16 : K.lookup f16 = some ⟨oc16, od16, .func (PySem.W.fnOf "__init__" "ExpressionWords.__init__" (defArgs (inClass (topS 18) 0)) (defBody (inClass (topS 18) 0)) (defScope (inClass (topS 18) 0)) .none kV16 dc16 pm16 an16 cd16 ct16), sl16⟩)
    (c16 : PySem.W.codeIn K cd16 "ExpressionWords.__init__" = true)
    (kp16 : PySem.W.keepIn K (.ref f16) = true)
    (fn17 : PySem.W.isFn K (.ref f17) = true)
    (l17 : K.lookup f17 = some ⟨oc17, od17, .func (PySem.W.fnOf "refuse" "ExpressionWords.refuse" (defArgs (inClass (topS 18) 1)) (defBody (inClass (topS 18) 1)) (defScope (inClass (topS 18) 1)) .none kV17 dc17 pm17 an17 cd17 ct17), sl17⟩)
    (c17 : PySem.W.codeIn K cd17 "ExpressionWords.refuse" = true)
    (kp17 : PySem.W.keepIn K (.ref f17) = true)
    (fn18 : PySem.W.isFn K (.ref f18) = true)
    (l18 : K.lookup f18 = some ⟨oc18, od18, .func (PySem.W.fnOf "next" "ExpressionWords.next" (defArgs (inClass (topS 18) 2)) (defBody (inClass (topS 18) 2)) (defScope (inClass (topS 18) 2)) .none kV18 dc18 pm18 an18 cd18 ct18), sl18⟩)
    (c18 : PySem.W.codeIn K cd18 "ExpressionWords.next" = true)
    (kp18 : PySem.W.keepIn K (.ref f18) = true)
    (fn19 : PySem.W.isFn K (.ref f19) = true)
    (l19 : K.lookup f19 = some ⟨oc19, od19, .func (PySem.W.fnOf "plain" "ExpressionWords.plain" (defArgs (inClass (topS 18) 3)) (defBody (inClass (topS 18) 3)) (defScope (inClass (topS 18) 3)) .none kV19 dc19 pm19 an19 cd19 ct19), sl19⟩)
    (c19 : PySem.W.codeIn K cd19 "ExpressionWords.plain" = true)
    (kp19 : PySem.W.keepIn K (.ref f19) = true)
    (fn20 : PySem.W.isFn K (.ref f20) = true)
    (l20 : K.lookup f20 = some ⟨oc20, od20, .func (PySem.W.fnOf "behind" "ExpressionWords.behind" (defArgs (inClass (topS 18) 4)) (defBody (inClass (topS 18) 4)) (defScope (inClass (topS 18) 4)) .none kV20 dc20 pm20 an20 cd20 ct20), sl20⟩)
    (c20 : PySem.W.codeIn K cd20 "ExpressionWords.behind" = true)
    (kp20 : PySem.W.keepIn K (.ref f20) = true)
    (fn21 : PySem.W.isFn K (.ref f21) = true)
    (l21 : K.lookup f21 = some ⟨oc21, od21, .func (PySem.W.fnOf "one" "ExpressionWords.one" (defArgs (inClass (topS 18) 5)) (defBody (inClass (topS 18) 5)) (defScope (inClass (topS 18) 5)) .none kV21 dc21 pm21 an21 cd21 ct21), sl21⟩)
    (c21 : PySem.W.codeIn K cd21 "ExpressionWords.one" = true)
    (kp21 : PySem.W.keepIn K (.ref f21) = true)
    (fn22 : PySem.W.isFn K (.ref f22) = true)
    (l22 : K.lookup f22 = some ⟨oc22, od22, .func (PySem.W.fnOf "part" "ExpressionWords.part" (defArgs (inClass (topS 18) 6)) (defBody (inClass (topS 18) 6)) (defScope (inClass (topS 18) 6)) .none kV22 dc22 pm22 an22 cd22 ct22), sl22⟩)
    (c22 : PySem.W.codeIn K cd22 "ExpressionWords.part" = true)
    (kp22 : PySem.W.keepIn K (.ref f22) = true)
    (fn23 : PySem.W.isFn K (.ref f23) = true)
    (l23 : K.lookup f23 = some ⟨oc23, od23, .func (PySem.W.fnOf "chain" "ExpressionWords.chain" (defArgs (inClass (topS 18) 7)) (defBody (inClass (topS 18) 7)) (defScope (inClass (topS 18) 7)) .none kV23 dc23 pm23 an23 cd23 ct23), sl23⟩)
    (c23 : PySem.W.codeIn K cd23 "ExpressionWords.chain" = true)
    (kp23 : PySem.W.keepIn K (.ref f23) = true)
    (fn24 : PySem.W.isFn K (.ref f24) = true)
    (l24 : K.lookup f24 = some ⟨oc24, od24, .func (PySem.W.fnOf "read" "ExpressionWords.read" (defArgs (inClass (topS 18) 8)) (defBody (inClass (topS 18) 8)) (defScope (inClass (topS 18) 8)) .none kV24 dc24 pm24 an24 cd24 ct24), sl24⟩)
    (c24 : PySem.W.codeIn K cd24 "ExpressionWords.read" = true)
    (kp24 : PySem.W.keepIn K (.ref f24) = true)
    (cst0 : PySem.W.nsIn K mainGlobals "SMALL" = some (some (.str "abcdefghijklmnopqrstuvwxyz" t0)))
    (cst1 : PySem.W.nsIn K mainGlobals "FIGURES" = some (some (.str "0123456789" t1)))
    (cst2 : PySem.W.nsIn K mainGlobals "MOST_SIGNS" = some (some (.int 6 t2)))
    (cst3 : PySem.W.nsIn K mainGlobals "MOST_HELD" = some (some (.int 40 t3)))
    (atg4 : PySem.W.nsIn K mainGlobals "LEVELS" = some (some (.ref g4)))
    (dl4 : K.lookup g4 = some ⟨.type "dict", none, .dict de4 dn4, #[]⟩)
    (dk4 : PySem.W.KeysLit w.params de4.toList)
    (ds4 : (g4 == sysModules) = false)
    (dr4 : relD [([111, 114], (.int 0)), ([97, 110, 100], (.int 1)), ([116, 104, 101, 110], (.int 2))] de4.toList = true)
    (atg5 : PySem.W.nsIn K mainGlobals "SIGNS" = some (some (.ref g5)))
    (dl5 : K.lookup g5 = some ⟨.type "dict", none, .dict de5 dn5, #[]⟩)
    (dk5 : PySem.W.KeysLit w.params de5.toList)
    (ds5 : (g5 == sysModules) = false)
    (dr5 : relD [([111, 114], (.str [124])), ([97, 110, 100], (.str [38])), ([116, 104, 101, 110], (.str [59]))] de5.toList = true)
    (atg6 : PySem.W.nsIn K mainGlobals "BEHIND" = some (some (.ref g6)))
    (dl6 : K.lookup g6 = some ⟨.type "dict", none, .dict de6 dn6, #[]⟩)
    (dk6 : PySem.W.KeysLit w.params de6.toList)
    (ds6 : (g6 == sysModules) = false)
    (dr6 : relD [([98, 97, 99, 107], (.str [94])), ([102, 105, 114, 115, 116], (.str [36])), ([101, 110, 100, 115], (.str [64]))] de6.toList = true)
    (z0 : PySem.W.nsIn K mainGlobals "abs" = some none)
    (z1 : PySem.W.nsIn K mainGlobals "bool" = some none)
    (z2 : PySem.W.nsIn K mainGlobals "int" = some none)
    (z3 : PySem.W.nsIn K mainGlobals "isinstance" = some none)
    (z4 : PySem.W.nsIn K mainGlobals "len" = some none)
    (z5 : PySem.W.nsIn K mainGlobals "list" = some none)
    (z6 : PySem.W.nsIn K mainGlobals "range" = some none)
    (z7 : PySem.W.nsIn K mainGlobals "str" = some none)
    (z8 : PySem.W.nsIn K mainGlobals "sum" = some none)
    (z9 : PySem.W.nsIn K mainGlobals "tuple" = some none)
    (sup : PySem.W.nsIn K mainGlobals "super" = some none)
    (opq : PySem.W.nsIn K cStatics "thirdparty.any" = some none)
    (gsd : PySem.W.specialIn K (.builtin "object.__class__") "__get__" = some (some (.builtin "getset_descriptor.__get__")))
    (gst : PySem.W.takesIn K (.builtin "object.__class__") = some true)
    (atZBadFault : PySem.W.nsIn K mainGlobals "BadFault" = some (some (.ref ZBadFault)))
    (icBadFault : PySem.W.isClsIn K ZBadFault = true)
    (tyBadFault : PySem.W.typeIn K (.ref ZBadFault) = some (.type "type"))
    (zbValueError : PySem.W.nsIn K mainGlobals "ValueError" = some none)
    (atZWordsError : PySem.W.nsIn K mainGlobals "WordsError" = some (some (.ref ZWordsError)))
    (icWordsError : PySem.W.isClsIn K ZWordsError = true)
    (tyWordsError : PySem.W.typeIn K (.ref ZWordsError) = some (.type "type"))
    (atZBadText : PySem.W.nsIn K mainGlobals "BadText" = some (some (.ref ZBadText)))
    (xbBadText : PySem.W.subIn K (.ref ZBadText) (.type "BaseException") = some true)
    (xhBadText : PySem.W.hasDictIn K ZBadText = true)
    (xtBadText : PySem.W.typeIn K (.ref ZBadText) = some (.type "type"))
    (xLe0 : K.lookup ZBadFault = some (excClassObj xne0 xqe0 ZBadFault xNe0 xbse0 [.ref xw0_0, .type "ValueError", .type "Exception", .type "BaseException", .type "object"] true xsne0 xsube0 xabe0 xcoe0 xdde0 xk0e0 xk1e0 xk2e0 xk3e0 xk5e0 "ValueError.__new__"))
    (xiCe0 : PySem.W.findIn K (.ref ZBadFault) "__init__" = some (some (.ref xie0)))
    (xtCe0 : PySem.W.typeIn K (.ref xie0) = some (.type "function"))
    (xle0 : K.lookup xie0 = some ⟨xoce0, xode0, .func (PySem.W.ksFn "__init__" "BadFault.__init__" (defArgs (inClass (topS 2) 0)) (defBody (inClass (topS 2) 0)) (defScope (inClass (topS 2) 0)) .none .none xdoce0 xpme0 xane0 (.ref xde0) xcte0 xce0), xosle0⟩)
    (xcde0 : PySem.W.codeIn K (.ref xde0) "BadFault.__init__" = true)
    (xco1e0 : K.lookup xde0 = some ⟨xccle0, xcdde0, .fields xvse0, xccse0⟩)
    (xv2e0 : xvse0[2]? = some (.str xfe0 xtfe0))
    (xfie0 : ((PySem.Challenge.pw_wordsbeside_k83_texts_of_expressions_of.main.file : Str) == xfe0) = true)
    (xcee0 : K.lookup xce0 = some ⟨xcle0, xclde0, .cell (some (.ref ZBadFault)), xcsle0⟩)
    (xsue0 : PySem.W.mroIn K ZBadFault (.ref ZBadFault) = some true)
    (xupe0 : PySem.W.ks_superIn K ZBadFault ZBadFault "__init__" = some (some (.builtin "ValueError.__init__")))
    (xvee0 : PySem.W.subIn K (.ref ZBadFault) (.type "ValueError") = some true)
    (xinie0 : PySem.W.excInitIn K ZBadFault [.type "ValueError", .type "Exception", .type "BaseException", .type "object"] "ValueError.__new__" = true)
    (xsae0 : PySem.W.findIn K (.ref ZBadFault) "__setattr__" = some (some (.builtin "object.__setattr__")))
    (xgae0 : PySem.W.findIn K (.ref ZBadFault) "__getattribute__" = some (some (.builtin "BaseException.__getattribute__")))
    (xgge0 : PySem.W.findIn K (.ref ZBadFault) "__getattr__" = some none)
    (xno0_0 : PySem.W.findIn K (.ref ZBadFault) "fault" = some none)
    (xno0_1 : PySem.W.findIn K (.ref ZBadFault) "line" = some none)
    (xno0_2 : PySem.W.findIn K (.ref ZBadFault) "word" = some none)
    (xkpe0 : PySem.W.keepIn K (.ref ZBadFault) = true)
    (xexe0 : PySem.W.subIn K (.ref ZBadFault) (.type "BaseException") = some true)
    (xtye0 : PySem.W.typeIn K (.ref ZBadFault) = some (.type "type"))
    (xhde0 : PySem.W.hasDictIn K ZBadFault = true)
    (xice0 : PySem.W.isClsIn K ZBadFault = true)
    (xcl1e0 : PySem.W.findIn K (.ref ZBadFault) "__class__" = some (some (.builtin "object.__class__")))
    (xobe0 : PySem.W.mroIn K ZBadFault (.type "object") = some true)
    (ks0_BadFault : PySem.W.subIn K (.ref ZBadFault) (.ref ZBadFault) = some true)
    (kq0_BadFault : ZBadFault = ZBadFault → (true : Bool) = true)
    (ks0_ValueError : PySem.W.subIn K (.ref ZBadFault) (.type "ValueError") = some true)
    (ks0_WordsError : PySem.W.subIn K (.ref ZBadFault) (.ref ZWordsError) = some true)
    (kq0_WordsError : ZBadFault = ZWordsError → (true : Bool) = true)
    (xs0_BadText : PySem.W.subIn K (.ref ZBadFault) (.ref ZBadText) = some false)
    (xLe1 : K.lookup ZBadText = some (excClassObj xne1 xqe1 ZBadText xNe1 xbse1 [.ref xw1_0, .type "ValueError", .type "Exception", .type "BaseException", .type "object"] true xsne1 xsube1 xabe1 xcoe1 xdde1 xk0e1 xk1e1 xk2e1 xk3e1 xk5e1 "ValueError.__new__"))
    (xiCe1 : PySem.W.findIn K (.ref ZBadText) "__init__" = some (some (.ref xie1)))
    (xtCe1 : PySem.W.typeIn K (.ref xie1) = some (.type "function"))
    (xle1 : K.lookup xie1 = some ⟨xoce1, xode1, .func (PySem.W.ksFn "__init__" "BadText.__init__" (defArgs (inClass (topS 3) 0)) (defBody (inClass (topS 3) 0)) (defScope (inClass (topS 3) 0)) .none .none xdoce1 xpme1 xane1 (.ref xde1) xcte1 xce1), xosle1⟩)
    (xcde1 : PySem.W.codeIn K (.ref xde1) "BadText.__init__" = true)
    (xco1e1 : K.lookup xde1 = some ⟨xccle1, xcdde1, .fields xvse1, xccse1⟩)
    (xv2e1 : xvse1[2]? = some (.str xfe1 xtfe1))
    (xfie1 : ((PySem.Challenge.pw_wordsbeside_k83_texts_of_expressions_of.main.file : Str) == xfe1) = true)
    (xcee1 : K.lookup xce1 = some ⟨xcle1, xclde1, .cell (some (.ref ZBadText)), xcsle1⟩)
    (xsue1 : PySem.W.mroIn K ZBadText (.ref ZBadText) = some true)
    (xupe1 : PySem.W.ks_superIn K ZBadText ZBadText "__init__" = some (some (.builtin "ValueError.__init__")))
    (xvee1 : PySem.W.subIn K (.ref ZBadText) (.type "ValueError") = some true)
    (xinie1 : PySem.W.excInitIn K ZBadText [.type "ValueError", .type "Exception", .type "BaseException", .type "object"] "ValueError.__new__" = true)
    (xsae1 : PySem.W.findIn K (.ref ZBadText) "__setattr__" = some (some (.builtin "object.__setattr__")))
    (xgae1 : PySem.W.findIn K (.ref ZBadText) "__getattribute__" = some (some (.builtin "BaseException.__getattribute__")))
    (xgge1 : PySem.W.findIn K (.ref ZBadText) "__getattr__" = some none)
    (xno1_0 : PySem.W.findIn K (.ref ZBadText) "fault" = some none)
    (xno1_1 : PySem.W.findIn K (.ref ZBadText) "line" = some none)
    (xno1_2 : PySem.W.findIn K (.ref ZBadText) "word" = some none)
    (xkpe1 : PySem.W.keepIn K (.ref ZBadText) = true)
    (xexe1 : PySem.W.subIn K (.ref ZBadText) (.type "BaseException") = some true)
    (xtye1 : PySem.W.typeIn K (.ref ZBadText) = some (.type "type"))
    (xhde1 : PySem.W.hasDictIn K ZBadText = true)
    (xice1 : PySem.W.isClsIn K ZBadText = true)
    (xcl1e1 : PySem.W.findIn K (.ref ZBadText) "__class__" = some (some (.builtin "object.__class__")))
    (xobe1 : PySem.W.mroIn K ZBadText (.type "object") = some true)
    (ks1_BadFault : PySem.W.subIn K (.ref ZBadText) (.ref ZBadFault) = some false)
    (kq1_BadFault : ZBadText = ZBadFault → (false : Bool) = true)
    (ks1_ValueError : PySem.W.subIn K (.ref ZBadText) (.type "ValueError") = some true)
    (ks1_WordsError : PySem.W.subIn K (.ref ZBadText) (.ref ZWordsError) = some true)
    (kq1_WordsError : ZBadText = ZWordsError → (true : Bool) = true)
    (xs1_BadText : PySem.W.subIn K (.ref ZBadText) (.ref ZBadText) = some true)
    : ∃ fd : FuncData, (∀ (s : Shared) (v : Value), BindsTo s fd ⟨[v], []⟩ [("script", v)]) ∧ ∀ base : Heap, K.In base → base.Ns mainGlobals mg →
      FnOk PySem.Challenge.pw_wordsbeside_k83_texts_of_expressions_of w K mg base (L2.CX PySem.Challenge.pw_wordsbeside_k83_texts_of_expressions_of w) 135 fa fd ["script"] (spK pg NN 400 15 K) := by
  letI : ClsMap := cmOf K pg
  have e := hfa.symm.trans (PySem.W.mg_of X G atf15)
  cases e
  have ca0 : ClsMap.cl 0 = C0 := cm_at (K := K) (p := pg) (cl := cls0) rfl atC0
  have ea0 : (tbOf K pg).cl 0 = ZBadFault := tb_at (K := K) (p := pg) (er := err0) rfl atZBadFault
  have ea1 : (tbOf K pg).cl 1 = ZBadText := tb_at (K := K) (p := pg) (er := err1) rfl atZBadText
  have t0' := row_mk (mg := mg) r0 b0 (fun _ => PySem.W.mg_of X G atf0) l0 c0 kp0
  have t1' := row_mk (mg := mg) r1 b1 (fun _ => PySem.W.mg_of X G atf1) l1 c1 kp1
  have t2' := row_mk (mg := mg) r2 b2 (fun _ => PySem.W.mg_of X G atf2) l2 c2 kp2
  have t3' := row_mk (mg := mg) r3 b3 (fun _ => PySem.W.mg_of X G atf3) l3 c3 kp3
  have t4' := row_mk (mg := mg) r4 b4 (fun _ => PySem.W.mg_of X G atf4) l4 c4 kp4
  have t5' := row_mk (mg := mg) r5 b5 (fun _ => PySem.W.mg_of X G atf5) l5 c5 kp5
  have t6' := row_mk (mg := mg) r6 b6 (fun _ => PySem.W.mg_of X G atf6) l6 c6 kp6
  have t7' := row_mk (mg := mg) r7 b7 (fun _ => PySem.W.mg_of X G atf7) l7 c7 kp7
  have t8' := row_mk (mg := mg) r8 b8 (fun _ => PySem.W.mg_of X G atf8) l8 c8 kp8
  have t9' := row_mk (mg := mg) r9 b9 (fun _ => PySem.W.mg_of X G atf9) l9 c9 kp9
  have t10' := row_mk (mg := mg) r10 b10 (fun _ => PySem.W.mg_of X G atf10) l10 c10 kp10
  have t11' := row_mk (mg := mg) r11 b11 (fun _ => PySem.W.mg_of X G atf11) l11 c11 kp11
  have t12' := row_mk (mg := mg) r12 b12 (fun _ => PySem.W.mg_of X G atf12) l12 c12 kp12
  have t13' := row_mk (mg := mg) r13 b13 (fun _ => PySem.W.mg_of X G atf13) l13 c13 kp13
  have t14' := row_mk (mg := mg) r14 b14 (fun _ => PySem.W.mg_of X G atf14) l14 c14 kp14
  have t15' := row_mk (mg := mg) r15 b15 (fun _ => PySem.W.mg_of X G atf15) l15 c15 kp15
  have t16' := row_mk (mg := mg) r16 b16 (fun h => (by cases h)) l16 c16 kp16
  have t17' := row_mk (mg := mg) r17 b17 (fun h => (by cases h)) l17 c17 kp17
  have t18' := row_mk (mg := mg) r18 b18 (fun h => (by cases h)) l18 c18 kp18
  have t19' := row_mk (mg := mg) r19 b19 (fun h => (by cases h)) l19 c19 kp19
  have t20' := row_mk (mg := mg) r20 b20 (fun h => (by cases h)) l20 c20 kp20
  have t21' := row_mk (mg := mg) r21 b21 (fun h => (by cases h)) l21 c21 kp21
  have t22' := row_mk (mg := mg) r22 b22 (fun h => (by cases h)) l22 c22 kp22
  have t23' := row_mk (mg := mg) r23 b23 (fun h => (by cases h)) l23 c23 kp23
  have t24' := row_mk (mg := mg) r24 b24 (fun h => (by cases h)) l24 c24 kp24
  have ht : ∀ (f : Nat) r, pg.rows[f]? = some r → ∃ a fd, RowTxt K mg r a fd := fun f r hf => by
    match f, hf with
    | 0, hf => cases hf; exact ⟨_, _, t0'⟩
    | 1, hf => cases hf; exact ⟨_, _, t1'⟩
    | 2, hf => cases hf; exact ⟨_, _, t2'⟩
    | 3, hf => cases hf; exact ⟨_, _, t3'⟩
    | 4, hf => cases hf; exact ⟨_, _, t4'⟩
    | 5, hf => cases hf; exact ⟨_, _, t5'⟩
    | 6, hf => cases hf; exact ⟨_, _, t6'⟩
    | 7, hf => cases hf; exact ⟨_, _, t7'⟩
    | 8, hf => cases hf; exact ⟨_, _, t8'⟩
    | 9, hf => cases hf; exact ⟨_, _, t9'⟩
    | 10, hf => cases hf; exact ⟨_, _, t10'⟩
    | 11, hf => cases hf; exact ⟨_, _, t11'⟩
    | 12, hf => cases hf; exact ⟨_, _, t12'⟩
    | 13, hf => cases hf; exact ⟨_, _, t13'⟩
    | 14, hf => cases hf; exact ⟨_, _, t14'⟩
    | 15, hf => cases hf; exact ⟨_, _, t15'⟩
    | 16, hf => cases hf; exact ⟨_, _, t16'⟩
    | 17, hf => cases hf; exact ⟨_, _, t17'⟩
    | 18, hf => cases hf; exact ⟨_, _, t18'⟩
    | 19, hf => cases hf; exact ⟨_, _, t19'⟩
    | 20, hf => cases hf; exact ⟨_, _, t20'⟩
    | 21, hf => cases hf; exact ⟨_, _, t21'⟩
    | 22, hf => cases hf; exact ⟨_, _, t22'⟩
    | 23, hf => cases hf; exact ⟨_, _, t23'⟩
    | 24, hf => cases hf; exact ⟨_, _, t24'⟩
    | n + 25, hf => cases hf
  have hg : GlTxt K mg w pg.gl pg.gname pg.kd pg.free := by
    refine ⟨fun g hd => ?_, fun g x hx hk => ?_, ?_⟩
    · match g, hd with
      | 0, h => cases h
      | 1, h => cases h
      | 2, h => cases h
      | 3, h => cases h
      | 4, _ => exact ⟨[([111, 114], (.int 0)), ([97, 110, 100], (.int 1)), ([116, 104, 101, 110], (.int 2))], g4, rfl, PySem.W.mg_of X G atg4, ⟨de4, dn4, ⟨dl4, dk4, ds4⟩, relD_ok dr4⟩⟩
      | 5, _ => exact ⟨[([111, 114], (.str [124])), ([97, 110, 100], (.str [38])), ([116, 104, 101, 110], (.str [59]))], g5, rfl, PySem.W.mg_of X G atg5, ⟨de5, dn5, ⟨dl5, dk5, ds5⟩, relD_ok dr5⟩⟩
      | 6, _ => exact ⟨[([98, 97, 99, 107], (.str [94])), ([102, 105, 114, 115, 116], (.str [36])), ([101, 110, 100, 115], (.str [64]))], g6, rfl, PySem.W.mg_of X G atg6, ⟨de6, dn6, ⟨dl6, dk6, ds6⟩, relD_ok dr6⟩⟩
      | n + 7, h => cases h
    · match g, hx, hk with
      | 0, hx, _ => cases hx; exact glStr X G cst0 (by decide +kernel)
      | 1, hx, _ => cases hx; exact glStr X G cst1 (by decide +kernel)
      | 2, hx, _ => cases hx; exact glInt X G cst2
      | 3, hx, _ => cases hx; exact glInt X G cst3
      | 4, _, hk => cases hk
      | 5, _, hk => cases hk
      | 6, _, hk => cases hk
      | n + 7, hx, _ => cases hx
    · exact List.forall_mem_cons.mpr ⟨PySem.W.mg_none_of X G z0, List.forall_mem_cons.mpr ⟨PySem.W.mg_none_of X G z1, List.forall_mem_cons.mpr ⟨PySem.W.mg_none_of X G z2, List.forall_mem_cons.mpr ⟨PySem.W.mg_none_of X G z3, List.forall_mem_cons.mpr ⟨PySem.W.mg_none_of X G z4, List.forall_mem_cons.mpr ⟨PySem.W.mg_none_of X G z5, List.forall_mem_cons.mpr ⟨PySem.W.mg_none_of X G z6, List.forall_mem_cons.mpr ⟨PySem.W.mg_none_of X G z7, List.forall_mem_cons.mpr ⟨PySem.W.mg_none_of X G z8, List.forall_mem_cons.mpr ⟨PySem.W.mg_none_of X G z9, fun _ hx => (by cases hx)⟩⟩⟩⟩⟩⟩⟩⟩⟩⟩
  have hc : ∀ (c : Nat) cl, pg.cls[c]? = some cl → ClTxt K mg pg c cl := fun c cl hc => by
    match c, hc with
    | 0, hc =>
      cases hc
      refine ⟨by rw [ca0]; exact ⟨pgC0, hdC0, poC0, saC0⟩, fun f hf => ?_, fun m fi hm => ?_, ?_⟩
      · rw [ca0]
        exact (List.forall_mem_cons.mpr ⟨noattr_of nC0_0 (by decide +kernel), List.forall_mem_cons.mpr ⟨noattr_of nC0_1 (by decide +kernel), fun _ hx => (by cases hx)⟩⟩ : ∀ f ∈ cls0.fields, NoAttr K C0 (⟨f.toArray⟩ : Str)) f hf
      · rw [ca0]
        have key : ∀ p ∈ cls0.meths, ∃ r a fd, pg.rows[p.2]? = some r ∧ RowTxt K mg r a fd ∧ Meth K C0 (⟨p.1.toArray⟩ : Str) a := List.forall_mem_cons.mpr ⟨⟨_, _, _, rfl, t16', meth_of mC0_0 fn16 kp16 (by decide +kernel)⟩, List.forall_mem_cons.mpr ⟨⟨_, _, _, rfl, t17', meth_of mC0_1 fn17 kp17 (by decide +kernel)⟩, List.forall_mem_cons.mpr ⟨⟨_, _, _, rfl, t18', meth_of mC0_2 fn18 kp18 (by decide +kernel)⟩, List.forall_mem_cons.mpr ⟨⟨_, _, _, rfl, t19', meth_of mC0_3 fn19 kp19 (by decide +kernel)⟩, List.forall_mem_cons.mpr ⟨⟨_, _, _, rfl, t20', meth_of mC0_4 fn20 kp20 (by decide +kernel)⟩, List.forall_mem_cons.mpr ⟨⟨_, _, _, rfl, t21', meth_of mC0_5 fn21 kp21 (by decide +kernel)⟩, List.forall_mem_cons.mpr ⟨⟨_, _, _, rfl, t22', meth_of mC0_6 fn22 kp22 (by decide +kernel)⟩, List.forall_mem_cons.mpr ⟨⟨_, _, _, rfl, t23', meth_of mC0_7 fn23 kp23 (by decide +kernel)⟩, List.forall_mem_cons.mpr ⟨⟨_, _, _, rfl, t24', meth_of mC0_8 fn24 kp24 (by decide +kernel)⟩, fun _ hx => (by cases hx)⟩⟩⟩⟩⟩⟩⟩⟩⟩
        exact key (m, fi) (meths_mem hm)
      · rw [ca0]
        exact ⟨_, _, _, rfl, t16', ⟨mkC0, mC0_0, fn16, kpC0⟩, PySem.W.mg_of X G atC0⟩
    | n + 1, hc => cases hc
  have he : ∀ (c : Nat) er, pg.errs[c]? = some er → ExCls PySem.Challenge.pw_wordsbeside_k83_texts_of_expressions_of K mg er.name ((tbOf K pg).cl c) (er.ks.map (tbOf K pg).fn) := fun c er hc => by
    match c, hc with
    | 0, hc =>
      cases hc
      rw [ea0]
      have xt : ExTxt PySem.Challenge.pw_wordsbeside_k83_texts_of_expressions_of K ZBadFault xie0 xce0 xde0 (defScope (inClass (topS 2) 0)) _ := { cls := ⟨_, _, _, _, _, _, _, _, _, _, _, _, _, _, _, xLe0, by rfl⟩, fn := ⟨_, _, _, xle0⟩, self := ⟨_, rfl, rfl⟩, code := ⟨_, _, _, _, _, _, xco1e0, xv2e0, xfie0⟩, cell := ⟨_, _, _, xcee0⟩, sub := xsue0, opq := opq, up := xupe0, ve := xvee0, ini := ⟨_, F.excBase_ValueError, xinie0⟩, top := by decide +kernel, ks := by decide +kernel, kc := by decide +kernel, ka := by decide +kernel, kf := rfl }
      have xl : StLines ((defBody (inClass (topS 2) 0)).drop 2) [] := .nil
      have xe : ExFn PySem.Challenge.pw_wordsbeside_k83_texts_of_expressions_of K ZBadFault xie0 xce0 xde0 (defScope (inClass (topS 2) 0)) _ "fault" [] := { t := xt, sa := xsae0, iC := xiCe0, tC := xtCe0, few := by decide, loc := List.forall_mem_cons.mpr ⟨⟨by decide +kernel, by decide +kernel, xno0_0⟩, fun _ hx => (by cases hx)⟩, nocell := by decide +kernel, co := rfl, gen := rfl, nd := by decide +kernel, fn := ⟨"BadFault.__init__", defArgs (inClass (topS 2) 0), _, _, _, _, ⟨7, 8, 7, 13⟩, ⟨7, 8, 7, 15⟩, ⟨7, 8, 7, 24⟩, ⟨7, 8, 7, 31⟩, ⟨7, 8, 7, 31⟩, ⟨8, 8, 8, 12⟩, ⟨8, 8, 8, 18⟩, ⟨8, 21, 8, 26⟩, ⟨8, 8, 8, 26⟩, [], ("fault", ⟨7, 25, 7, 30⟩), _, rfl, rfl, xl, xcde0, fun s us hl => (match us, hl with | [_, _], _ => .of_eq rfl), fun L => sup_eval _ rfl (by decide) rfl⟩ }
      exact ⟨PySem.W.mg_of X G atZBadFault, xkpe0, xexe0, xtye0, ⟨_, _, _, _, _, _, _, rfl, xe⟩, PySem.W.mg_none_of X G sup⟩
    | 1, hc =>
      cases hc
      rw [ea1]
      have xt : ExTxt PySem.Challenge.pw_wordsbeside_k83_texts_of_expressions_of K ZBadText xie1 xce1 xde1 (defScope (inClass (topS 3) 0)) _ := { cls := ⟨_, _, _, _, _, _, _, _, _, _, _, _, _, _, _, xLe1, by rfl⟩, fn := ⟨_, _, _, xle1⟩, self := ⟨_, rfl, rfl⟩, code := ⟨_, _, _, _, _, _, xco1e1, xv2e1, xfie1⟩, cell := ⟨_, _, _, xcee1⟩, sub := xsue1, opq := opq, up := xupe1, ve := xvee1, ini := ⟨_, F.excBase_ValueError, xinie1⟩, top := by decide +kernel, ks := by decide +kernel, kc := by decide +kernel, ka := by decide +kernel, kf := rfl }
      have xl : StLines ((defBody (inClass (topS 3) 0)).drop 2) ["word"] := .cons (.nil)
      have xe : ExFn PySem.Challenge.pw_wordsbeside_k83_texts_of_expressions_of K ZBadText xie1 xce1 xde1 (defScope (inClass (topS 3) 0)) _ "line" ["word"] := { t := xt, sa := xsae1, iC := xiCe1, tC := xtCe1, few := by decide, loc := List.forall_mem_cons.mpr ⟨⟨by decide +kernel, by decide +kernel, xno1_1⟩, List.forall_mem_cons.mpr ⟨⟨by decide +kernel, by decide +kernel, xno1_2⟩, fun _ hx => (by cases hx)⟩⟩, nocell := by decide +kernel, co := rfl, gen := rfl, nd := by decide +kernel, fn := ⟨"BadText.__init__", defArgs (inClass (topS 3) 0), _, _, _, _, ⟨12, 8, 12, 13⟩, ⟨12, 8, 12, 15⟩, ⟨12, 8, 12, 24⟩, ⟨12, 8, 12, 36⟩, ⟨12, 8, 12, 36⟩, ⟨13, 8, 13, 12⟩, ⟨13, 8, 13, 17⟩, ⟨13, 20, 13, 24⟩, ⟨13, 8, 13, 24⟩, [("word", ⟨12, 31, 12, 35⟩)], ("line", ⟨12, 25, 12, 29⟩), _, rfl, rfl, xl, xcde1, fun s us hl => (match us, hl with | [_, _, _], _ => .of_eq rfl), fun L => sup_eval _ rfl (by decide) rfl⟩ }
      exact ⟨PySem.W.mg_of X G atZBadText, xkpe1, xexe1, xtye1, ⟨_, _, _, _, _, _, _, rfl, xe⟩, PySem.W.mg_none_of X G sup⟩
    | n + 2, hc => cases hc
  have hE : ∀ c, c < pg.errs.length → ∀ n, ErrTxt (tbOf K pg) K mg ((tabs pg).ut n) c := fun c hc n => by
    match c, hc with
    | 0, _ =>
      refine ⟨by rw [ea0]; exact ⟨xgae0, xgge0, xexe0, xhde0⟩, fun f hf => ?_, by rw [ea0]; exact xice0, by rw [ea0]; exact xcl1e0, gsd, gst, by rw [ea0]; exact xobe0, fun z cs hz => ?_⟩
      · rw [ea0]
        have hf : f ∈ [0, 1, 2] := hf
        exact (List.forall_mem_cons.mpr ⟨xno0_0, List.forall_mem_cons.mpr ⟨xno0_1, List.forall_mem_cons.mpr ⟨xno0_2, fun _ hx => (by cases hx)⟩⟩⟩ : ∀ f ∈ [0, 1, 2], PySem.W.findIn K (.ref ZBadFault) ((tbOf K pg).fn f) = some none) f hf
      · rw [ea0]
        exact (List.forall_mem_cons.mpr ⟨⟨.ref ZBadFault, .ref ZBadFault, ⟨rfl, fun u r => r, .inl (PySem.W.mg_of X G atZBadFault)⟩, kit_ref icBadFault tyBadFault ks0_BadFault kq0_BadFault⟩, List.forall_mem_cons.mpr ⟨⟨.ty "ValueError", .type "ValueError", ⟨rfl, fun u r => r, .inr ⟨PySem.W.mg_none_of X G zbValueError, by decide +kernel, by decide⟩⟩, kit_ty (by decide +kernel) ks0_ValueError⟩, List.forall_mem_cons.mpr ⟨⟨.ref ZWordsError, .ref ZWordsError, ⟨rfl, fun u r => r, .inl (PySem.W.mg_of X G atZWordsError)⟩, kit_ref icWordsError tyWordsError ks0_WordsError kq0_WordsError⟩, fun _ hx => (by cases hx)⟩⟩⟩ : ∀ p ∈ pg.isin, ∃ v cv, ClsNm mg p.1 v cv ∧ PySem.W.kitOne K (.ref ZBadFault) cv = some (p.2.contains 0)) (z, cs) (strs_mem hz)
    | 1, _ =>
      refine ⟨by rw [ea1]; exact ⟨xgae1, xgge1, xexe1, xhde1⟩, fun f hf => ?_, by rw [ea1]; exact xice1, by rw [ea1]; exact xcl1e1, gsd, gst, by rw [ea1]; exact xobe1, fun z cs hz => ?_⟩
      · rw [ea1]
        have hf : f ∈ [0, 1, 2] := hf
        exact (List.forall_mem_cons.mpr ⟨xno1_0, List.forall_mem_cons.mpr ⟨xno1_1, List.forall_mem_cons.mpr ⟨xno1_2, fun _ hx => (by cases hx)⟩⟩⟩ : ∀ f ∈ [0, 1, 2], PySem.W.findIn K (.ref ZBadText) ((tbOf K pg).fn f) = some none) f hf
      · rw [ea1]
        exact (List.forall_mem_cons.mpr ⟨⟨.ref ZBadFault, .ref ZBadFault, ⟨rfl, fun u r => r, .inl (PySem.W.mg_of X G atZBadFault)⟩, kit_ref icBadFault tyBadFault ks1_BadFault kq1_BadFault⟩, List.forall_mem_cons.mpr ⟨⟨.ty "ValueError", .type "ValueError", ⟨rfl, fun u r => r, .inr ⟨PySem.W.mg_none_of X G zbValueError, by decide +kernel, by decide⟩⟩, kit_ty (by decide +kernel) ks1_ValueError⟩, List.forall_mem_cons.mpr ⟨⟨.ref ZWordsError, .ref ZWordsError, ⟨rfl, fun u r => r, .inl (PySem.W.mg_of X G atZWordsError)⟩, kit_ref icWordsError tyWordsError ks1_WordsError kq1_WordsError⟩, fun _ hx => (by cases hx)⟩⟩⟩ : ∀ p ∈ pg.isin, ∃ v cv, ClsNm mg p.1 v cv ∧ PySem.W.kitOne K (.ref ZBadText) cv = some (p.2.contains 1)) (z, cs) (strs_mem hz)
    | n + 2, hc => exact absurd hc (by show ¬ n + 2 < 2; omega)
  have hx : ∀ x cs, pg.exm.lookup x = some cs → ∃ C, (mg x = some C ∨ (mg x = none ∧ bootBuiltins x = some C ∧ x ≠ "__name__")) ∧ ∀ c, c < pg.errs.length → PySem.W.exmOne K (.ref ((tbOf K pg).cl c)) C = some (cs.contains c) := fun x cs hl => by
    have hBadText : ∀ c, c < pg.errs.length → PySem.W.exmOne K (.ref ((tbOf K pg).cl c)) (.ref ZBadText) = some (([1] : List Nat).contains c) := fun c hc => by
      match c, hc with
        | 0, _ => rw [ea0]; exact PySem.W.exm_ref xbBadText xhBadText xtBadText xs0_BadText
        | 1, _ => rw [ea1]; exact PySem.W.exm_ref xbBadText xhBadText xtBadText xs1_BadText
        | n + 2, hc => exact absurd hc (by show ¬ n + 2 < 2; omega)
    exact (List.forall_mem_cons.mpr ⟨⟨.ref ZBadText, .inl (PySem.W.mg_of X G atZBadText), hBadText⟩, fun _ hx => (by cases hx)⟩ : ∀ p ∈ pg.exm, ∃ C, (mg p.1 = some C ∨ (mg p.1 = none ∧ bootBuiltins p.1 = some C ∧ p.1 ≠ "__name__")) ∧ ∀ c, c < pg.errs.length → PySem.W.exmOne K (.ref ((tbOf K pg).cl c)) C = some (p.2.contains c)) (x, cs) (strs_mem hl)
  have T : PgTxt PySem.Challenge.pw_wordsbeside_k83_texts_of_expressions_of w (tbOf K pg) K mg pg := ⟨ht, hc, he, rfl, hE, hx, hg⟩
  exact ⟨_, fun s v => .of_eq rfl, fun base _ _ => (all_ok (T := tbOf K pg) (NN := NN) pg_ok T 400 15 r15 rfl _ _ t15').1.ok (by decide) (by decide)⟩
end K83
open PySem PySem.W
open PyProof.Rows
set_option maxHeartbeats 0 in
theorem PySem.Challenge.cw_wordsbeside_k83_texts_of_expressions_of_holds : PySem.Challenge.rw_wordsbeside_k83_texts_of_expressions_of.Holds := by
  w_on; o_law; k_head; (case hw => w_witness2)
  k_fill
  refine L2.walk_of (l := PySem.Challenge.rw_wordsbeside_k83_texts_of_expressions_of) (n := 63) (k := 135) (x := "script") (CX := fun w => L2.CX PySem.Challenge.rw_wordsbeside_k83_texts_of_expressions_of.prog w) (sp := fun w => Vm.spK K83.pg K83.NN 400 15 _) rfl (by decide) rfl ⟨rfl, by decide, by decide⟩ (fun w h Y => PySem.W.kIn_of Y) ?F (fun _ H a ns hl hO hS => @Vm.sp_law (Vm.cmOf _ K83.pg) _ _ _ _ _ _ hO hS (K83.law_true ns hl)) (fun _ H s e s' z => Vm.cx_no z)
  case F =>
    intro w mg fa h KX G hmg
    refine' K83.all_mk KX G hmg ?atf0 ?atf1 ?atf2 ?atf3 ?atf4 ?atf5 ?atf6 ?atf7 ?atf8 ?atf9 ?atf10 ?atf11 ?atf12 ?atf13 ?atf14 ?atf15 ?atC0 ?pgC0 ?hdC0 ?poC0 ?saC0 ?mkC0 ?kpC0 ?nC0_0 ?nC0_1 ?mC0_0 ?mC0_1 ?mC0_2 ?mC0_3 ?mC0_4 ?mC0_5 ?mC0_6 ?mC0_7 ?mC0_8 ?l0 ?c0 ?kp0 ?l1 ?c1 ?kp1 ?l2 ?c2 ?kp2 ?l3 ?c3 ?kp3 ?l4 ?c4 ?kp4 ?l5 ?c5 ?kp5 ?l6 ?c6 ?kp6 ?l7 ?c7 ?kp7 ?l8 ?c8 ?kp8 ?l9 ?c9 ?kp9 ?l10 ?c10 ?kp10 ?l11 ?c11 ?kp11 ?l12 ?c12 ?kp12 ?l13 ?c13 ?kp13 ?l14 ?c14 ?kp14 ?l15 ?c15 ?kp15 ?fn16 ?l16 ?c16 ?kp16 ?fn17 ?l17 ?c17 ?kp17 ?fn18 ?l18 ?c18 ?kp18 ?fn19 ?l19 ?c19 ?kp19 ?fn20 ?l20 ?c20 ?kp20 ?fn21 ?l21 ?c21 ?kp21 ?fn22 ?l22 ?c22 ?kp22 ?fn23 ?l23 ?c23 ?kp23 ?fn24 ?l24 ?c24 ?kp24 ?cst0 ?cst1 ?cst2 ?cst3 ?atg4 ?dl4 ?dk4 ?ds4 ?dr4 ?atg5 ?dl5 ?dk5 ?ds5 ?dr5 ?atg6 ?dl6 ?dk6 ?ds6 ?dr6 ?z0 ?z1 ?z2 ?z3 ?z4 ?z5 ?z6 ?z7 ?z8 ?z9 ?sup ?opq ?gsd ?gst ?atZBadFault ?icBadFault ?tyBadFault ?zbValueError ?atZWordsError ?icWordsError ?tyWordsError ?atZBadText ?xbBadText ?xhBadText ?xtBadText ?xLe0 ?xiCe0 ?xtCe0 ?xle0 ?xcde0 ?xco1e0 ?xv2e0 ?xfie0 ?xcee0 ?xsue0 ?xupe0 ?xvee0 ?xinie0 ?xsae0 ?xgae0 ?xgge0 ?xno0_0 ?xno0_1 ?xno0_2 ?xkpe0 ?xexe0 ?xtye0 ?xhde0 ?xice0 ?xcl1e0 ?xobe0 ?ks0_BadFault ?kq0_BadFault ?ks0_ValueError ?ks0_WordsError ?kq0_WordsError ?xs0_BadText ?xLe1 ?xiCe1 ?xtCe1 ?xle1 ?xcde1 ?xco1e1 ?xv2e1 ?xfie1 ?xcee1 ?xsue1 ?xupe1 ?xvee1 ?xinie1 ?xsae1 ?xgae1 ?xgge1 ?xno1_0 ?xno1_1 ?xno1_2 ?xkpe1 ?xexe1 ?xtye1 ?xhde1 ?xice1 ?xcl1e1 ?xobe1 ?ks1_BadFault ?kq1_BadFault ?ks1_ValueError ?ks1_WordsError ?kq1_WordsError ?xs1_BadText
    (case atf0 => k_is)
    (case atf1 => k_is)
    (case atf2 => k_is)
    (case atf3 => k_is)
    (case atf4 => k_is)
    (case atf5 => k_is)
    (case atf6 => k_is)
    (case atf7 => k_is)
    (case atf8 => k_is)
    (case atf9 => k_is)
    (case atf10 => k_is)
    (case atf11 => k_is)
    (case atf12 => k_is)
    (case atf13 => k_is)
    (case atf14 => k_is)
    (case atf15 => k_is)
    (case atC0 => k_is)
    (case pgC0 => k_is)
    (case hdC0 => k_is)
    (case poC0 => k_is)
    (case saC0 => k_is)
    (case mkC0 => k_is)
    (case kpC0 => k_is)
    (case nC0_0 => k_is)
    (case nC0_1 => k_is)
    (case mC0_0 => k_is)
    (case mC0_1 => k_is)
    (case mC0_2 => k_is)
    (case mC0_3 => k_is)
    (case mC0_4 => k_is)
    (case mC0_5 => k_is)
    (case mC0_6 => k_is)
    (case mC0_7 => k_is)
    (case mC0_8 => k_is)
    (case l0 => k_is)
    (case c0 => k_is)
    (case kp0 => k_is)
    (case l1 => k_is)
    (case c1 => k_is)
    (case kp1 => k_is)
    (case l2 => k_is)
    (case c2 => k_is)
    (case kp2 => k_is)
    (case l3 => k_is)
    (case c3 => k_is)
    (case kp3 => k_is)
    (case l4 => k_is)
    (case c4 => k_is)
    (case kp4 => k_is)
    (case l5 => k_is)
    (case c5 => k_is)
    (case kp5 => k_is)
    (case l6 => k_is)
    (case c6 => k_is)
    (case kp6 => k_is)
    (case l7 => k_is)
    (case c7 => k_is)
    (case kp7 => k_is)
    (case l8 => k_is)
    (case c8 => k_is)
    (case kp8 => k_is)
    (case l9 => k_is)
    (case c9 => k_is)
    (case kp9 => k_is)
    (case l10 => k_is)
    (case c10 => k_is)
    (case kp10 => k_is)
    (case l11 => k_is)
    (case c11 => k_is)
    (case kp11 => k_is)
    (case l12 => k_is)
    (case c12 => k_is)
    (case kp12 => k_is)
    (case l13 => k_is)
    (case c13 => k_is)
    (case kp13 => k_is)
    (case l14 => k_is)
    (case c14 => k_is)
    (case kp14 => k_is)
    (case l15 => k_is)
    (case c15 => k_is)
    (case kp15 => k_is)
    (case fn16 => k_is)
    (case l16 => k_is)
    (case c16 => k_is)
    (case kp16 => k_is)
    (case fn17 => k_is)
    (case l17 => k_is)
    (case c17 => k_is)
    (case kp17 => k_is)
    (case fn18 => k_is)
    (case l18 => k_is)
    (case c18 => k_is)
    (case kp18 => k_is)
    (case fn19 => k_is)
    (case l19 => k_is)
    (case c19 => k_is)
    (case kp19 => k_is)
    (case fn20 => k_is)
    (case l20 => k_is)
    (case c20 => k_is)
    (case kp20 => k_is)
    (case fn21 => k_is)
    (case l21 => k_is)
    (case c21 => k_is)
    (case kp21 => k_is)
    (case fn22 => k_is)
    (case l22 => k_is)
    (case c22 => k_is)
    (case kp22 => k_is)
    (case fn23 => k_is)
    (case l23 => k_is)
    (case c23 => k_is)
    (case kp23 => k_is)
    (case fn24 => k_is)
    (case l24 => k_is)
    (case c24 => k_is)
    (case kp24 => k_is)
    (case cst0 => k_is)
    (case cst1 => k_is)
    (case cst2 => k_is)
    (case cst3 => k_is)
    (case atg4 => k_is)
    (case dl4 => k_is)
    (case dk4 => exact ⟨⟨_, _, rfl, rfl⟩, ⟨_, _, rfl, rfl⟩, ⟨_, _, rfl, rfl⟩, trivial⟩)
    (case ds4 => decide +kernel)
    (case dr4 => rfl)
    (case atg5 => k_is)
    (case dl5 => k_is)
    (case dk5 => exact ⟨⟨_, _, rfl, rfl⟩, ⟨_, _, rfl, rfl⟩, ⟨_, _, rfl, rfl⟩, trivial⟩)
    (case ds5 => decide +kernel)
    (case dr5 => rfl)
    (case atg6 => k_is)
    (case dl6 => k_is)
    (case dk6 => exact ⟨⟨_, _, rfl, rfl⟩, ⟨_, _, rfl, rfl⟩, ⟨_, _, rfl, rfl⟩, trivial⟩)
    (case ds6 => decide +kernel)
    (case dr6 => rfl)
    (case z0 => k_is)
    (case z1 => k_is)
    (case z2 => k_is)
    (case z3 => k_is)
    (case z4 => k_is)
    (case z5 => k_is)
    (case z6 => k_is)
    (case z7 => k_is)
    (case z8 => k_is)
    (case z9 => k_is)
    (case sup => k_is)
    (case opq => k_is)
    (case gsd => k_is)
    (case gst => k_is)
    (case atZBadFault => k_is)
    (case icBadFault => k_is)
    (case tyBadFault => k_is)
    (case zbValueError => k_is)
    (case atZWordsError => k_is)
    (case icWordsError => k_is)
    (case tyWordsError => k_is)
    (case atZBadText => k_is)
    (case xbBadText => k_is)
    (case xhBadText => k_is)
    (case xtBadText => k_is)
    (case xLe0 => k_is)
    (case xiCe0 => k_is)
    (case xtCe0 => k_is)
    (case xle0 => k_is)
    (case xcde0 => k_is)
    (case xco1e0 => k_is)
    (case xv2e0 => rfl)
    (case xfie0 => decide +kernel)
    (case xcee0 => k_is)
    (case xsue0 => k_is)
    (case xupe0 => ks_is)
    (case xvee0 => k_is)
    (case xinie0 => kx_is)
    (case xsae0 => k_is)
    (case xgae0 => k_is)
    (case xgge0 => k_is)
    (case xno0_0 => k_is)
    (case xno0_1 => k_is)
    (case xno0_2 => k_is)
    (case xkpe0 => k_is)
    (case xexe0 => k_is)
    (case xtye0 => k_is)
    (case xhde0 => k_is)
    (case xice0 => k_is)
    (case xcl1e0 => k_is)
    (case xobe0 => k_is)
    (case ks0_BadFault => k_is)
    (case kq0_BadFault => first | exact fun _ => rfl | (intro h; exact absurd h (by decide)))
    (case ks0_ValueError => k_is)
    (case ks0_WordsError => k_is)
    (case kq0_WordsError => first | exact fun _ => rfl | (intro h; exact absurd h (by decide)))
    (case xs0_BadText => first | rfl | k_is)
    (case xLe1 => k_is)
    (case xiCe1 => k_is)
    (case xtCe1 => k_is)
    (case xle1 => k_is)
    (case xcde1 => k_is)
    (case xco1e1 => k_is)
    (case xv2e1 => rfl)
    (case xfie1 => decide +kernel)
    (case xcee1 => k_is)
    (case xsue1 => k_is)
    (case xupe1 => ks_is)
    (case xvee1 => k_is)
    (case xinie1 => kx_is)
    (case xsae1 => k_is)
    (case xgae1 => k_is)
    (case xgge1 => k_is)
    (case xno1_0 => k_is)
    (case xno1_1 => k_is)
    (case xno1_2 => k_is)
    (case xkpe1 => k_is)
    (case xexe1 => k_is)
    (case xtye1 => k_is)
    (case xhde1 => k_is)
    (case xice1 => k_is)
    (case xcl1e1 => k_is)
    (case xobe1 => k_is)
    (case ks1_BadFault => k_is)
    (case kq1_BadFault => first | exact fun _ => rfl | (intro h; exact absurd h (by decide)))
    (case ks1_ValueError => k_is)
    (case ks1_WordsError => k_is)
    (case kq1_WordsError => first | exact fun _ => rfl | (intro h; exact absurd h (by decide)))
    (case xs1_BadText => first | rfl | k_is)

