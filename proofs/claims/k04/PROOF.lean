import PyProof.Rows.All
import Wide.All
import OpenK.AllK
import Wide.FinOn
import HandS.ForMost
import HandS.ForExc
import HandS.Wide
import HandS.Flow
import HandS.IsInst
import HandS.Property
import HandS.Deep
import HandS.Conv
import HandS.EndBits
import HandS.Exc
import HandS.ExcInit
import KE.KExcSuper
import HandS.TupAny
import HandS.SortInts
import HandS.RaiseMore
import KE.GoesMore
import HandS.CallSlots
import HandS.Text
import HandS.Style
import HandS.ClsMeth
import HandS.HeadNt
import HandS.GenList
import HandS.GenYield
import HandS.ExcField
import HandS.Defaults
import HandS.HeadHook1
import HandS.HeadHook2
import KE.KStateDown
import HandS.Head0
import HandS.Head1
import HandS.Head2
import HandS.HeadEnd
import PyProof.Rows.RegReprOcc
import PySem.Challenge.RW_slitstairs_k04_whole_all_columns_counted
set_option Elab.async false
set_option linter.all false
section
set_option maxRecDepth 100007
/-! A functional reading of a part of Python: values as trees, one owner for each list that changes. -/
namespace Z
open PySem L2

/-- a value that does not change any more, as a tree -/
inductive D where
  | non | bl (b : Bool) | int (i : Int) | str (x : List Nat)
  | tup (ds : List D) | lst (ds : List D) | obj (c : Nat) (fs : List (Nat × D)) | dct (t : Bool) (kvs : List (D × D)) | set (ds : List D)
  | scr (ns : List Int)
deriving Inhabited

/-- what a slot may own -/
inductive O where
  | val (d : D) | lst (ds : List D) | obj (c : Nat) (fs : List (Nat × D)) | dct (t : Bool) (kvs : List (D × D)) | set (ds : List D)
deriving Inhabited

@[simp] def O.pk : O → D
  | .val d => d
  | .lst ds => .lst ds
  | .obj c fs => .obj c fs
  | .dct t kvs => .dct t kvs
  | .set ds => .set ds

abbrev Zs := List (Option O)
@[simp] def rd (z : Zs) (i : Nat) : Option O := (z[i]?).join

inductive R (α : Type) where
  | ok (a : α) (z : Zs) | exc (c : Nat) (fs : List (Nat × D)) (z : Zs) | bad
def R.bind {α β : Type} (r : R α) (f : α → Zs → R β) : R β :=
  match r with
  | .ok a z => f a z
  | .exc c fs z => .exc c fs z
  | .bad => .bad

/-- where an operand is: made just now, or in a slot -/
inductive Hd where
  | tmp (o : O) | slot (i : Nat)

@[simp] def peek (h : Hd) (z : Zs) : Option D :=
  match h with
  | .tmp o => some o.pk
  | .slot i => (rd z i).map O.pk
/-- its value for good: a slot's own thing is shared from now on -/
@[simp] def take (h : Hd) (z : Zs) : Option (O × Zs) :=
  match h with
  | .tmp o => some (o, z)
  | .slot i => match rd z i with
    | some (.val d) => some (.val d, z)
    | some o => some (.val o.pk, z.set i (some (.val o.pk)))
    | none => none
@[simp] def takeD (h : Hd) (z : Zs) : Option (D × Zs) := (take h z).map fun p => (p.1.pk, p.2)

inductive Bop where | add | sub | mul | fdiv | mod | pow | shl | shr | band | bor | bxor
deriving DecidableEq
inductive Cop where | eq | ne | lt | le | gt | ge | is | isnot | inn | notin
deriving DecidableEq

/-! ### == of trees -/
mutual
def eqD : D → D → Bool
  | .non, .non => true
  | .bl a, .bl b => a == b
  | .bl a, .int b => (if a then 1 else 0) == b
  | .int a, .bl b => a == (if b then 1 else 0)
  | .int a, .int b => a == b
  | .str a, .str b => a == b
  | .tup xs, .tup ys => eqDs xs ys
  | .lst xs, .lst ys => eqDs xs ys
  | _, _ => false
def eqDs : List D → List D → Bool
  | [], [] => true
  | x :: xs, y :: ys => eqD x y && eqDs xs ys
  | _, _ => false
end
mutual
/-- plain data: == on it is eqD -/
def plain : D → Bool
  | .non => true | .bl _ => true | .int _ => true | .str _ => true
  | .tup xs => plains xs
  | .lst xs => plains xs
  | _ => false
def plains : List D → Bool
  | [] => true
  | x :: xs => plain x && plains xs
end
end Z
end

section
set_option maxRecDepth 100007
set_option maxHeartbeats 2000007
/-! An own exception's __init__ that says super().__init__(..). -/
namespace Z
open PySem PySem.Spec PyProof.Rows L2

/-- the frame of such an __init__ -/
def cxS (CX : CXT) (P : Program) (w : World) (K : PySem.W.Frag) (mg : Str → Option Value) (base : Heap) (N : List Str) (qual : Str) (scope : Scope) (f : Addr) (cd : Value) (cc : Addr) (A : Around) (outer : List Env) (s : Shared) (H : Hp) (E : XK) : Cx where
  prog := P
  w := w
  K := K
  mg := mg
  base := base
  A := A.deeper (PySem.W.ksEnv qual scope s.heap.objs.size f cd cc)
  N := N
  s_0 := s
  H_0 := H
  env := PySem.W.ksEnv qual scope s.heap.objs.size f cd cc
  outer := outer
  stack := PySem.W.ksEnv qual scope s.heap.objs.size f cd cc :: outer
  ex := []
  calm := true
  fn := fun _ => false
  pn := []
  xe := fun e s' => wpAny (model P w) (A.deeper (PySem.W.ksEnv qual scope s.heap.objs.size f cd cc)) (leaving (PySem.W.ksEnv qual scope s.heap.objs.size f cd cc) e) (fun _ s'' => CX outer H s E e s'') (fun e' s'' => CX outer H s E e' s'') s'
structure InScope (ps : List Str) (sc : Scope) : Prop where
  kind : sc.kind = .function
  co : sc.isCoroutine = false
  gen : sc.isGenerator = false
  nd : ps.Nodup
  par : ∀ x ∈ ps, sc.names.lookup x = some .local
  nocell : ∀ x ∈ sc.names, x.2 ≠ .cell
  fr : ∀ x ∈ sc.names, x.2 ≠ .free ∨ x.1 = "__class__"
  sup : sc.names.lookup ("super" : Str) = some .globalImplicit
  cls : sc.names.lookup ("__class__" : Str) = some .free
theorem rev_lookup {x : Str} {u : Value} : ∀ {ps : List Str} {us : List Value} {i : Nat}, ps.Nodup → ps[i]? = some x → us[i]? = some u → (ps.zip us).reverse.lookup x = some u
  | [], _, _, _, h, _ => by simp at h
  | _ :: _, [], _, _, _, h => by simp at h
  | p :: ps, v :: us, i, nd, h1, h2 => by
    rw [List.zip_cons_cons, List.reverse_cons, List.lookup_append]
    cases i with
    | zero =>
      simp at h1 h2
      subst h1 h2
      have : (ps.zip us).reverse.lookup p = none := List.lookup_eq_none_iff.mpr fun q hq => by
        rw [List.mem_reverse] at hq
        obtain ⟨q1, q2⟩ := q
        have := (List.of_mem_zip hq).1
        simp only [bne_iff_ne, ne_eq]
        intro e
        subst e
        exact (List.nodup_cons.mp nd).1 this
      rw [this]
      simp [List.lookup]
    | succ i =>
      rw [rev_lookup (List.nodup_cons.mp nd).2 (by simpa using h1) (by simpa using h2)]
      rfl
theorem inv_startS {CX : CXT} {P : Program} {w : World} {K : PySem.W.Frag} {mg : Str → Option Value} {base : Heap} {ps : List Str} {qual : Str} {scope : Scope} {f cc : Addr} {cd : Value} {A : Around} {outer : List Env} {s : Shared} {H : Hp} {E : XK} {us : List Value} {vs : List V} {oc : Obj} {D : Value} {h1 : Heap} {tk : Nat}
    (S : InScope ps scope) (hd : A.handled = none) (e0 : Env0 P w K mg base A outer s H) (hl : vs.length = ps.length) (r : Vals vs us) (hc : K.lookup cc = some oc) (hcd : oc.data = .cell (some D))
    (hns : h1.Ns s.heap.objs.size (fun x => (ps.zip us).reverse.lookup x)) (hk : ∀ b o, s.heap.get? b = some o → h1.get? b = some o) :
    Inv (cxS CX P w K mg base ps qual scope f cd cc A outer s H E) [] (L2.start ps vs) H { s with heap := h1, toks := tk } := by
  have noA : ∀ b : Addr, b ∉ (cxS CX P w K mg base ps qual scope f cd cc A outer s H E).ex := fun b z => absurd (show b ∈ ([] : List Addr) from z) (by simp)
  have hcb : base.get? cc = some oc := e0.mod.kin _ _ hc
  have one : ∀ {x : Str} {c : Addr}, ([("__class__", cc)] : List (Str × Addr)).lookup x = some c → x = "__class__" ∧ c = cc := fun {x c} h => by
    rw [List.lookup_cons] at h
    split at h
    · rename_i e
      cases h
      exact ⟨eq_of_beq e, rfl⟩
    · cases h
  refine ⟨⟨e0.mod, S.kind, rfl, rfl, Nat.le_refl _, fun y z c h1 h2 => ?_, fun y hy => ?_, fun y c h _ => ?_, fun _ => hd, Around.frames_deeper e0.frames, .inr ⟨rfl, rfl⟩, fun b z => absurd z (noA b), e0.bs, e0.bsz, fun b _ _ => noA b, fun b z => absurd z (noA b), e0.funs, e0.frf⟩,
    rfl, e0.bare, Un.kept hk, ⟨_, hns, fun i y v h1 h2 h3 => ?_⟩, fun y c h => ?_, e0.hok.fresh (Nat.le_refl _), fun y c h => ?_, fun p hp => absurd (show p ∈ ([] : List (Addr × Obj)) from hp) (by simp), e0.hok.kept hk, ?_⟩
  · rw [(one h1).1, (one h2).1]
  · have hy : scope.names.lookup y = some .cell ∨ scope.names.lookup y = some .free := hy
    rcases hy with hy | hy
    · exact absurd rfl (S.nocell _ (PySem.mem_of_lookup hy))
    · rcases S.fr _ (PySem.mem_of_lookup hy) with h | h
      · exact absurd rfl h
      · have h : y = "__class__" := h
        exact ⟨cc, by rw [h]; rfl⟩
  · exact absurd h Bool.false_ne_true
  · have hi : i < vs.length := by
      unfold L2.start at h2
      by_cases hi : i < vs.length
      · exact hi
      · rw [List.getElem?_append_right (by simpa using hi)] at h2
        rw [List.getElem?_replicate] at h2
        split at h2 <;> cases h2
    have ha : vs[i]? = some v := by
      unfold L2.start at h2
      rw [List.getElem?_append_left (by simpa using hi), List.getElem?_map] at h2
      cases e : vs[i]? with
      | none => rw [e] at h2; cases h2
      | some a => rw [e] at h2; cases h2; rfl
    obtain ⟨u, hu, rv⟩ := r.get ha
    exact ⟨u, rv, .inl ⟨S.par y (List.mem_of_getElem? h1), rev_lookup S.nd h1 hu⟩⟩
  · obtain ⟨_, rfl⟩ := one h
    exact ⟨_, _, hk _ _ (e0.bs _ _ hcb).1, hcd⟩
  · obtain ⟨_, rfl⟩ := one h
    exact (e0.bs _ _ hcb).2
  · unfold L2.start
    show _ = ps.length
    rw [List.length_append, List.length_map, List.length_replicate]
    omega
/-- what is to be known of the module for super() in f, a method of the class C over ValueError -/
structure SupC (P : Program) (K : PySem.W.Frag) (mg : Str → Option Value) (C f cc : Addr) (cd : Value) (x0 : Str) : Prop where
  fd : ∃ oc od fd osl ar, K.lookup f = some ⟨oc, od, .func fd, osl⟩ ∧ (fd.params.posonlyargs ++ fd.params.args).head? = some ar ∧ ar.arg = x0
  code : ∃ cda ccl cdd vs ccs file tf, cd = .ref cda ∧ K.lookup cda = some ⟨ccl, cdd, .fields vs, ccs⟩ ∧ vs[2]? = some (.str file tf) ∧ ((P.main.file : Str) == file) = true
  cell : ∃ cl cld csl, K.lookup cc = some ⟨cl, cld, .cell (some (.ref C)), csl⟩
  sub : PySem.W.mroIn K C (.ref C) = some true
  top : (P.main.scope.names.lookup ("super" : Str)).isSome = false
  nog : mg "super" = none
  opq : PySem.W.nsIn K cStatics "thirdparty.any" = some none
  sup : PySem.W.ks_superIn K C C "__init__" = some (some (.builtin "ValueError.__init__"))
  val : PySem.W.subIn K (.ref C) (.type "ValueError") = some true
theorem cw1 {M : Model} {A : Around} {E : Value → Shared → Prop} {s : Shared} {i : String} {u x : Addr} {pos : Pos} {env : Env} {e : Expr} {rest : List Expr} {Q : Value → Shared → Prop}
    (h : wpAny M A (spliced (backTo pos (starEach (e :: rest) env))) (fun vs s₁ => PySem.W.KxsAt i u x s₁.heap ∧ wpAny M A (call (.ref u) vs) Q E s₁) E s)
    (he : starEach (e :: rest) env = (false, eval e env) :: starEach rest env := by rfl) (hplain : (backTo pos (starEach rest env)).any (·.1) = false := by rfl) :
    wpAny M A (callWith pos (.ref u) [] (backTo pos (starEach (e :: rest) env)) []) Q E s := by
  rw [he] at h ⊢
  refine PySem.W.kxs_callWith (i := i) (x := x) (by show (false || (backTo pos (starEach rest env)).any (·.1)) = false; rw [hplain]; rfl) ?_
  exact PySem.Calls.evalArgs_plain h
section
variable {X : Cx} {pins : List (Addr × Obj)} {σ : L2.St} {H : Hp} {s : Shared} {a C u : Addr} {Q : Value → Shared → Prop} {E : Value → Shared → Prop} {A : Around}
/-- super().__init__ called -/
theorem mw_call {us : List Value} (T : OexC X.K C) (I : Inv X pins σ H s) (e : H a = some (exo a C none)) (hu : s.heap.get? u = some (PySem.W.kxs_mw "ValueError.__init__" a)) (hl : us.length ≤ sizeLine) (h : ∀ s', Inv X pins σ H s' → Q .none s') :
    wpAny (model X.prog X.w) A (call (.ref u) us) Q E s := by
  obtain ⟨nm, q, N, bs, bm, sn, sub, ab, col, dd, k0, k1, k2, k3, k5, hC, hbm⟩ := T.cls
  obtain ⟨t1, ho⟩ := exo_at I.hok e
  have hCs := I.kIn _ _ hC
  obtain ⟨hp, g, d, t, os⟩ := s
  refine wpAny_call (codeAny_of_tree ?_)
  show wpAny _ A.in1 (callAny (.ref u) ⟨us, []⟩) _ _ _
  simp only [callAny]
  refine wpAny_bind (wpAny_load hu ?_)
  simp only [PySem.W.kxs_mw, show (Value.type "method-wrapper" == Value.type "method" || Value.type "method-wrapper" == Value.type "builtin_function_or_method" || Value.type "method-wrapper" == Value.type "method-wrapper") = true by decide, if_true]
  refine PySem.W.KFB.if_so (by decide) ?_
  refine wpAny_bind (PySem.W.check_bound_init F.excBase_ValueError.toExcCallFacts hCs ho rfl ?_)
  refine wpAny_bind (wpAny_pure (wpAny_pure ?_))
  refine ⟨plainId_quiet F.excBase_ValueError.init.plain _, codeAny_builtin F.excBase_ValueError.initEntry ?_⟩
  refine PySem.W.exc_init_tree (cls := .ref C) (t0 := t1) (dv := none) (c2 := .none) (c3 := .none) (b4 := .bool false) ho hl fun h' k hx _ => ?_
  have J := I.write (t' := t) (x := a) (e := a) (o := exo a C none) (by rw [e]; exact True.intro) (.inl rfl) k ⟨_, hx⟩ (exo_ok hx)
  have eu : upd H a (exo a C none) = H := by
    funext b
    by_cases hb : b = a
    · rw [hb, upd_same, e]
    · rw [upd_ne hb]
  rw [eu] at J
  exact h _ J
end
theorem mcall_eqS {o : Expr} {m : Str} {apos pos : Pos} {env : Env} {args : List Expr} (hst : (backTo pos (starEach args env)).all (!·.1) = true) (hn : args.length < 30) (hl : (apos.endLine == pos.line) = true) :
    eval (.Call (.Attribute o m apos) args [] pos) env = (do
      let ov ← attributeBase o m env (eval o env)
      standAt apos.atName
      let (f, first) ← holding [ov] (getMethod ov m (do return (← importBound o env).getD true))
      callWith pos f first (backTo pos (starEach args env)) []) := by
  have hform : methodCallForm (args.length + ([] : List Keyword).length) (backTo pos (starEach args env)) (backToKw pos (keywordEach [] env)) = true := by
    unfold methodCallForm
    rw [hst]
    have : (backToKw pos (keywordEach [] env)) = [] := rfl
    rw [this]
    simp
    omega
  have e1 : eval (.Call (.Attribute o m apos) args [] pos) env = (do
      let ov ← attributeBase o m env (eval o env)
      standAt apos.atName
      methodCall o m apos pos env ov (args.length + ([] : List Keyword).length) (backTo pos (starEach args env)) (backToKw pos (keywordEach [] env))) := by
    rw [eval]
  rw [e1]
  congr 1
  funext ov
  congr 1
  funext _
  unfold methodCall
  rw [hform]
  have e2 : calleeOf true o env ov m = getMethod ov m (do return (← importBound o env).getD true) := rfl
  have e3 : methodCallPos true o env apos pos = pure pos := by
    unfold methodCallPos
    rw [hl]
    rfl
  rw [e2, e3]
  rfl
section
variable {CX : CXT} {P : Program} {w : World} {K : PySem.W.Frag} {mg : Str → Option Value} {base : Heap} {ps : List Str} {qual : Str} {scope : Scope} {f cc a C : Addr} {cd : Value} {A : Around} {outer : List Env} {s0 s : Shared} {H0 H : Hp} {E : XK} {σ : L2.St} {x0 : Str}
/-- super().__init__(e, ..), the first statement -/
theorem super_ok {body : List Stmt} {e : Expr} {es : List Expr} {ta : TA} {p0 p1 p2 pos : Pos} {Q : Value → Shared → Prop} {R : Hp → Prop} (S : InScope ps scope) (T : OexC K C) (U : SupC P K mg C f cc cd x0) (hx0 : ps[0]? = some x0)
    (I : Inv (cxS CX P w K mg base ps qual scope f cd cc A outer s0 H0 E) [] σ H s) (h0 : σ[0]? = some (some (.ref a))) (ha : H a = some (exo a C none))
    (pa : PA (cxS CX P w K mg base ps qual scope f cd cc A outer s0 H0 E) (e :: es) ta) (h : ta σ H fun us H1 => us.length ≤ 1000 ∧ H1 a = some (exo a C none) ∧ R H1)
    (hq : ∀ s' H1, Inv (cxS CX P w K mg base ps qual scope f cd cc A outer s0 H0 E) [] σ H1 s' → R H1 → Q .none s')
    (he : starEach (e :: es) (cxS CX P w K mg base ps qual scope f cd cc A outer s0 H0 E).env = (false, eval e (cxS CX P w K mg base ps qual scope f cd cc A outer s0 H0 E).env) :: starEach es (cxS CX P w K mg base ps qual scope f cd cc A outer s0 H0 E).env := by rfl)
    (hplain : (backTo pos (starEach es (cxS CX P w K mg base ps qual scope f cd cc A outer s0 H0 E).env)).any (·.1) = false := by rfl)
    (hst : (backTo pos (starEach (e :: es) (cxS CX P w K mg base ps qual scope f cd cc A outer s0 H0 E).env)).all (!·.1) = true) (hn : (e :: es).length < 30) (hl : (p2.endLine == pos.line) = true) :
    _root_.PySem.wpAt (model P w) (cxS CX P w K mg base ps qual scope f cd cc A outer s0 H0 E).A (.func body (cxS CX P w K mg base ps qual scope f cd cc A outer s0 H0 E).env)
      (eval (.Call (.Attribute (.Call (.Name "super" p0) [] [] p1) "__init__" p2) (e :: es) [] pos) (cxS CX P w K mg base ps qual scope f cd cc A outer s0 H0 E).env) Q (cxS CX P w K mg base ps qual scope f cd cc A outer s0 H0 E).xe s := by
  obtain ⟨oc, od, fd, osl, ar, hf, har, rfl⟩ := U.fd
  obtain ⟨cda, ccl, cdd, vs, ccs, file, tf, rfl, hcode, hvs, hfile⟩ := U.code
  obtain ⟨cl, cld, csl, hcell⟩ := U.cell
  obtain ⟨nm, q, N, bs, bm, sn, sub, ab, col, dd, k0, k1, k2, k3, k5, hC, hbm⟩ := T.cls
  have X : K.In s.heap := I.kIn
  obtain ⟨t1, ho⟩ := exo_at I.hok ha
  have hcl : PySem.W.clsIn K C = some { name := nm, bases := bs, mro := .ref C :: bm, ns := N, qualname := q, hasDict := true, slotNames := sn, subclasses := sub, abstract := ab, collection := col, hasDel := false } := by unfold PySem.W.clsIn; rw [hC] <;> rfl
  obtain ⟨m, hns, hlk⟩ := id I.loc
  obtain ⟨us0, rs, lk⟩ := hlk 0 ar.arg (.ref a) hx0 h0 (.inl (S.par _ (List.mem_of_getElem? hx0)))
  obtain rfl : us0 = Value.ref a := rs
  have hloc : m ar.arg = some (.ref a) := by
    rcases lk with ⟨_, h⟩ | ⟨h, _⟩
    · exact h
    · have e1 : scope.names.lookup ar.arg = some .local := S.par _ (List.mem_of_getElem? hx0)
      rcases h with h | h
      · have h : scope.names.lookup ar.arg = some .cell := h
        rw [e1] at h; cases h
      · have h : scope.names.lookup ar.arg = some .free := h
        rw [e1] at h; cases h
  obtain ⟨mb, hb1, hb2⟩ := I.mod.blt
  have hsz := I.lt
  refine PySem.ks_wpAt_MethodCall ?_ (mcall_eqS hst hn hl)
  · refine PySem.ks_wpAt_super_base (env := (cxS CX P w K mg base ps qual scope f (.ref cda) cc A outer s0 H0 E).env) S.sup S.cls (by decide) rfl (X _ _ hf) rfl har rfl (X _ _ hcode) rfl hvs hfile U.top ?_
    refine PySem.W.ks_loadName_global S.kind S.sup (PySem.Calls.loadGlobal_builtin (by rw [I.ok.glob]; exact I.mod.glob.keeps I.bk) U.nog (by rw [I.ok.blt]; exact hb1.keeps I.bk) ((hb2 _ (by decide)).trans PyProof.Rows.Boot.«super») ⟨rfl, ?_⟩)
    refine wpAny_loadName_free S.kind S.cls rfl ⟨_, X _ _ hcell, rfl⟩ ?_
    refine wpAny_loadName_local S.kind (S.par _ (List.mem_of_getElem? hx0)) hns hloc ?_
    obtain ⟨hh, g, d, t, os⟩ := s
    refine PySem.ks_wpAny_isType_cls (X _ _ hC) rfl ⟨rfl, ?_⟩
    refine PySem.ks_wpAny_call_super (X _ _ hC) rfl ho rfl (fun c z => nomatch z) (PySem.W.looks_mroIn X U.sub) fun h' eso k => ?_
    have I1 := I.kept (t' := t) k
    have X1 : K.In h' := I1.kIn
    have hI : PySem.W.Looks (model P w) h' (isInstance (.ref a) (.type "ValueError")) true := (PySem.W.InstAt.type (od := none) ⟨k _ _ ho, rfl, rfl, trivial⟩).andThen (PySem.W.looks_subIn X1 U.val)
    have hac : a ≠ C := fun z => by
      have e1 := X _ _ hC
      have e2 : hh.get? a = _ := ho
      rw [z, e1] at e2
      cases e2
    have hsup := U.sup
    unfold PySem.W.ks_superIn at hsup
    rw [hcl] at hsup
    refine PySem.W.kxs_getMethod PySem.W.kxs_ValueError eso (PySem.W.looks_opaque X1 U.opq) (l₀ := .ref C :: bm) (fun A Q E s k q => wpAny_bind ((PySem.W.looks_clsIn X1 hcl) A _ E s k (wpAny_pure q))) rfl X1 hsup hI hac (by decide) ?_
    have k2 : ∀ b o, h'.get? b = some o → (h'.push (PySem.W.kxs_mw "ValueError.__init__" a)).get? b = some o := fun b o z => Heap.get?_push_of_some _ z
    have I2 := I1.kept (t' := t + 1) k2
    have hu : (h'.push (PySem.W.kxs_mw "ValueError.__init__" a)).get? h'.objs.size = some (PySem.W.kxs_mw "ValueError.__init__" a) := Heap.get?_push_at rfl rfl
    have Hu : H h'.objs.size = none := I1.hok.fresh (Nat.le_refl _)
    have nl : h'.objs.size ≠ (cxS CX P w K mg base ps qual scope f (.ref cda) cc A outer s0 H0 E).env.locals := Nat.ne_of_gt I1.lt
    have nf := I1.nofs (Nat.le_refl h'.objs.size)
    have I3 := I2.pins_of (pins' := [(h'.objs.size, PySem.W.kxs_mw "ValueError.__init__" a)]) fun p hp => by
      have hp : p ∈ ([] : List (Addr × Obj)) ++ [(h'.objs.size, PySem.W.kxs_mw "ValueError.__init__" a)] := hp
      rcases List.mem_append.mp hp with z | z
      · cases z
      · rw [List.mem_singleton.mp z]
        exact ⟨hu, Hu, nl, nf, fun v z => nomatch z⟩
    refine cw1 (i := "ValueError.__init__") (x := a) (thn (pa.run pos _ _ σ H _ I3 h) fun us s1 ⟨vs1, H1, J, r1, hlen, ha1, hr⟩ => ⟨?_, ?_⟩) he hplain
    · exact (J.pin (h'.objs.size, PySem.W.kxs_mw "ValueError.__init__" a) (List.mem_append_right _ List.mem_cons_self)).1
    · have hlen2 : us.length ≤ sizeLine := by
        rw [← Paired.length r1, sizeLine_eq]
        omega
      exact mw_call T J ha1 (J.pin (h'.objs.size, PySem.W.kxs_mw "ValueError.__init__" a) (List.mem_append_right _ List.mem_cons_self)).1 hlen2 fun s' J' => hq s' H1 (J'.pins_of fun p hp => absurd (show p ∈ ([] : List (Addr × Obj)) ++ [] from hp) (by simp)) hr
end
end Z
end

section
set_option maxRecDepth 100007
set_option maxHeartbeats 2000007
/-! The promise of such an __init__; such an exception made. -/
namespace Z
open PySem PySem.Spec PyProof.Rows L2
/-! ### the arguments of super().__init__ -/
inductive AK where
  | kon (x : Str) | par (j : Nat) | strP (j : Nat)
deriving DecidableEq
def AK.ok (vs : List V) : AK → Prop
  | .kon _ => True
  | .par j => ∃ v, vs[j]? = some v
  | .strP j => ∃ i : Int, vs[j]? = some (.int i) ∧ i.natAbs.log2 < 1920
def AK.te : AK → TE
  | .kon x => tC (.str x)
  | .par j => tVar j
  | .strP j => tCB (fun xs H Q => ∃ i : Int, xs = [.int i] ∧ i.natAbs.log2 < 1920 ∧ Q (.str (toString i)) H) (tCons (tVar j) tNil)
def okNmE (x : Str) : Bool := !(x == ("__debug__" : Str)) && !(x == ("__classdict__" : Str))
def chkAK (ps : List Str) (sc : Scope) : AK → Expr → Bool
  | .kon x, .Constant (.str y) _ _ => decide (x = y)
  | .par j, .Name y _ => decide (ps[j]? = some y) && okNmE y
  | .strP j, .Call (.Name z _) [.Name y _] [] _ => decide (z = ("str" : Str)) && decide (sc.names.lookup ("str" : Str) = some .globalImplicit) && decide (ps[j]? = some y) && okNmE y
  | _, _ => false
def chkAKs (ps : List Str) (sc : Scope) : List AK → List Expr → Bool
  | [], [] => true
  | a :: as, e :: es => chkAK ps sc a e && chkAKs ps sc as es
  | _, _ => false
def tAKs : List AK → TA
  | [] => tNil
  | a :: as => tCons a.te (tAKs as)
theorem okNmE_ok {x : Str} (h : okNmE x = true) : (x == ("__debug__" : Str)) = false ∧ (x == ("__classdict__" : Str)) = false := by
  unfold okNmE at h
  simp only [Bool.and_eq_true, Bool.not_eq_true'] at h
  exact h
theorem chkAK_star {ps : List Str} {sc : Scope} {a : AK} {e : Expr} {env : Env} (h : chkAK ps sc a e = true) (es : List Expr) : starEach (e :: es) env = (false, eval e env) :: starEach es env := by
  unfold chkAK at h
  split at h <;> first | rfl | cases h
section
variable {X : Cx} {ps : List Str}
theorem ak_ok {a : AK} {e : Expr} (hN : X.N = ps) (hp : ∀ x ∈ ps, X.env.scope.names.lookup x = some .local) (hs : X.mg "str" = none) (h : chkAK ps X.env.scope a e = true) : PE X e a.te := by
  unfold chkAK at h
  split at h
  · have := of_decide_eq_true h
    subst this
    exact pe_str
  · simp only [Bool.and_eq_true, decide_eq_true_eq] at h
    obtain ⟨h1, h2⟩ := h
    obtain ⟨h3, h4⟩ := okNmE_ok h2
    exact pe_var (by rw [hN]; exact h1) (.inl (hp _ (List.mem_of_getElem? h1))) h3 h4
  · simp only [Bool.and_eq_true, decide_eq_true_eq] at h
    obtain ⟨⟨⟨rfl, h0⟩, h1⟩, h2⟩ := h
    obtain ⟨h3, h4⟩ := okNmE_ok h2
    exact pe_callTy call_str_int h0 hs PyProof.Rows.Boot.«str» (pa_cons (pe_var (by rw [hN]; exact h1) (.inl (hp _ (List.mem_of_getElem? h1))) h3 h4) pa_nil) (by decide) (by decide)
  · cases h
theorem aks_ok (hN : X.N = ps) (hp : ∀ x ∈ ps, X.env.scope.names.lookup x = some .local) (hs : X.mg "str" = none) : ∀ {as : List AK} {es : List Expr}, chkAKs ps X.env.scope as es = true → PA X es (tAKs as)
  | [], [], _ => pa_nil
  | [], _ :: _, h => by cases h
  | _ :: _, [], h => by cases h
  | a :: as, e :: es, h => by
    unfold chkAKs at h
    rw [Bool.and_eq_true] at h
    exact pa_cons (ak_ok hN hp hs h.1) (aks_ok hN hp hs h.2) (chkAK_star h.1 es)
end
theorem chkAKs_star {ps : List Str} {sc : Scope} {env : Env} {pos : Pos} : ∀ {as : List AK} {es : List Expr}, chkAKs ps sc as es = true → (backTo pos (starEach es env)).any (·.1) = false ∧ (backTo pos (starEach es env)).all (!·.1) = true ∧ es.length = as.length
  | [], [], _ => ⟨rfl, rfl, rfl⟩
  | [], _ :: _, h => by cases h
  | _ :: _, [], h => by cases h
  | a :: as, e :: es, h => by
    unfold chkAKs at h
    rw [Bool.and_eq_true] at h
    obtain ⟨h1, h2, h3⟩ := chkAKs_star (env := env) (pos := pos) h.2
    rw [chkAK_star h.1 es]
    exact ⟨h1, h2, by rw [List.length_cons, List.length_cons, h3]⟩
theorem ak_run {a : AK} {vs : List V} {H : Hp} {Q : VK} (h : a.ok vs) (q : ∀ v, Q v H) : a.te (vs.map some) H Q := by
  have key : ∀ {j : Nat} {v : V}, vs[j]? = some v → (vs.map some)[j]? = some (some v) := fun {j v} e => by rw [List.getElem?_map, e]; rfl
  cases a with
  | kon x => exact q _
  | par j =>
    obtain ⟨v, e⟩ := h
    exact ⟨v, key e, q v⟩
  | strP j =>
    obtain ⟨i, e, hz⟩ := h
    exact ⟨_, key e, i, rfl, hz, q _⟩
theorem aks_run {vs : List V} {H : Hp} : ∀ {as : List AK} {Q : List V → Hp → Prop}, (∀ a ∈ as, a.ok vs) → (∀ us, us.length = as.length → Q us H) → tAKs as (vs.map some) H Q
  | [], Q, _, q => q [] rfl
  | a :: as, Q, h, q => ak_run (h a (by simp)) fun v => aks_run (fun b hb => h b (by simp [hb])) fun us hu => q (v :: us) (by simp [hu])
/-! ### the stores -/
def addF (vs : List V) : List (Str × Nat) → List (Str × V) → List (Str × V)
  | [], fs => fs
  | (f, j) :: r, fs => addF vs r ((f, vs.getD j .non) :: fs)
def chkSts (ps : List Str) : List (Str × Nat) → List Stmt → Bool
  | [], [] => true
  | (f, j) :: r, .Assign [.Attribute (.Name x _) f' _] (.Name y _) _ :: ss => decide (f' = f) && decide (ps[0]? = some x) && decide (ps[j]? = some y) && okNmE x && okNmE y && chkSts ps r ss
  | _, _ => false
def tSts (K : PySem.W.Frag) : List (Str × Nat) → TS
  | [] => tNext
  | (f, j) :: r => tSeq (tOst K f (tVar 0) (tVar j)) (tSts K r)
theorem sts_ok {X : Cx} {ps : List Str} (hN : X.N = ps) (hp : ∀ x ∈ ps, X.env.scope.names.lookup x = some .local) : ∀ {l : List (Str × Nat)} {ss : List Stmt}, chkSts ps l ss = true → PSs X ss (tSts X.K l)
  | [], [], _ => pss_nil
  | [], _ :: _, h => by unfold chkSts at h; cases h
  | p :: l, [], h => by unfold chkSts at h; cases h
  | p :: l, s :: ss, h => by
    unfold chkSts at h
    split at h
    · rename_i e1 e2; cases e1
    · rename_i f j r x px f' pf y py pos ss' e1 e2
      cases e1
      cases e2
      simp only [Bool.and_eq_true, decide_eq_true_eq] at h
      obtain ⟨⟨⟨⟨⟨rfl, h1⟩, h2⟩, h3⟩, h4⟩, h5⟩ := h
      obtain ⟨a1, a2⟩ := okNmE_ok h3
      obtain ⟨b1, b2⟩ := okNmE_ok h4
      exact pss_cons (ps_ost (pe_var (by rw [hN]; exact h1) (.inl (hp _ (List.mem_of_getElem? h1))) a1 a2) (pe_var (by rw [hN]; exact h2) (.inl (hp _ (List.mem_of_getElem? h2))) b1 b2)) (sts_ok hN hp h5)
    · cases h
section
variable {K : PySem.W.Frag} {C a dx : Addr} {vs : List V} {D : Ends}
theorem tSts_old (T : OexC K C) (h0 : vs[0]? = some (.ref a)) (da : dx ≠ a) : ∀ {l : List (Str × Nat)} {fs : List (Str × V)} {H : Hp}, H a = some (exo a C (some dx)) → H dx = some (exd dx fs) → fs.length + l.length ≤ 900 →
    (∀ p ∈ l, PySem.W.findIn K (.ref C) p.1 = some none ∧ p.2 < vs.length) → (∀ H' : Hp, (∀ b, b ≠ dx → H' b = H b) → H' dx = some (exd dx (addF vs l fs)) → D.nx (vs.map some) H') → tSts K l D (vs.map some) H
  | [], fs, H, ea, ed, hl, hp, q => q H (fun _ _ => rfl) ed
  | (f, j) :: r, fs, H, ea, ed, hl, hp, q => by
    obtain ⟨h1, h2⟩ := hp (f, j) (by simp)
    rw [List.length_cons] at hl
    have ej : vs[j]? = some vs[j] := List.getElem?_eq_getElem h2
    have ev : vs.getD j .non = vs[j] := by rw [List.getD_eq_getElem?_getD, ej]; rfl
    refine ⟨vs[j], by rw [List.getElem?_map, ej]; rfl, .ref a, by rw [List.getElem?_map, h0]; rfl, a, C, rfl, T, h1, .inr ⟨dx, fs, ea, ed, by omega, ?_⟩⟩
    refine tSts_old T h0 da (l := r) (fs := (f, vs[j]) :: fs) (by rw [upd_ne (Ne.symm da)]; exact ea) upd_same (by rw [List.length_cons]; omega) (fun p hp' => hp p (by simp [hp'])) fun H' k e => q H' (fun b hb => by rw [k b hb, upd_ne hb]) ?_
    show H' dx = some (exd dx (addF vs r ((f, vs.getD j .non) :: fs)))
    rw [ev]
    exact e
theorem tSts_new (T : OexC K C) (h0 : vs[0]? = some (.ref a)) {f : Str} {j : Nat} {r : List (Str × Nat)} {H : Hp} (ea : H a = some (exo a C none)) (hl : r.length ≤ 800) (hp : ∀ p ∈ (f, j) :: r, PySem.W.findIn K (.ref C) p.1 = some none ∧ p.2 < vs.length)
    (q : ∀ (d : Addr) (H' : Hp), d ≠ a → H d = none → (∀ b, b ≠ a → b ≠ d → H' b = H b) → H' a = some (exo a C (some d)) → H' d = some (exd d (addF vs ((f, j) :: r) [])) → D.nx (vs.map some) H') : tSts K ((f, j) :: r) D (vs.map some) H := by
  obtain ⟨h1, h2⟩ := hp (f, j) (by simp)
  have ej : vs[j]? = some vs[j] := List.getElem?_eq_getElem h2
  have ev : vs.getD j .non = vs[j] := by rw [List.getD_eq_getElem?_getD, ej]; rfl
  refine ⟨vs[j], by rw [List.getElem?_map, ej]; rfl, .ref a, by rw [List.getElem?_map, h0]; rfl, a, C, rfl, T, h1, .inl ⟨ea, fun d hd da => ?_⟩⟩
  refine tSts_old T h0 da (l := r) (fs := [(f, vs[j])]) upd_same (by rw [upd_ne da]; exact upd_same) (by simp; omega) (fun p hp' => hp p (by simp [hp'])) fun H' k e => q d H' da hd (fun b hb hb2 => by rw [k b hb2, upd_ne hb, upd_ne hb2]) (by rw [k a (Ne.symm da)]; exact upd_same) ?_
  show H' d = some (exd d (addF vs r ((f, vs.getD j .non) :: [])))
  rw [ev]
  exact e
end
/-- the promise -/
def spI (C : Addr) (n : Nat) (l : List (Str × Nat)) (aks : List AK) : Sp := fun vs H Q E => vs.length = n + 1 ∧ ∃ a, vs[0]? = some (.ref a) ∧ H a = some (exo a C none) ∧ (∀ k ∈ aks, k.ok vs) ∧
  ∀ (d : Addr) (H' : Hp), d ≠ a → H d = none → (∀ b, b ≠ a → b ≠ d → H' b = H b) → H' a = some (exo a C (some d)) → H' d = some (exd d (addF vs l [])) → Q .non H'
def chkInit (ps : List Str) (sc : Scope) (l : List (Str × Nat)) (aks : List AK) : List Stmt → Bool
  | .Expr (.Call (.Attribute (.Call (.Name x _) [] [] _) m ap) (e :: es) [] p) _ :: ss => decide (x = ("super" : Str)) && decide (m = ("__init__" : Str)) && (ap.endLine == p.line) && decide ((e :: es).length < 30) && chkAKs ps sc aks (e :: es) && chkSts ps l ss && !l.isEmpty && decide (l.length ≤ 100) && l.all (fun p => decide (p.2 < ps.length)) && decide (aks.length ≤ 100)
  | _ => false
theorem fn_init {CX : CXT} {P : Program} {w : World} {K : PySem.W.Frag} {mg : Str → Option Value} {base : Heap} {k : Nat} {f C cc : Addr} {name qual : Str} {params : Arguments} {body : List Stmt} {scope : Scope} {dV kV doc pm cdv ct oc : Value} {an od : Option Addr}
    {osl : Array (Option Value)} {ps : List Str} {x0 : Str} {l : List (Str × Nat)} {aks : List AK} {n : Nat} (lk : K.lookup f = some ⟨oc, od, .func (PySem.W.ksFn name qual params body scope dV kV doc pm an cdv ct cc), osl⟩) (hcd : PySem.W.codeIn K cdv qual = true) (S : InScope ps scope)
    (T : OexC K C) (U : SupC P K mg C f cc cdv x0) (hx0 : ps[0]? = some x0) (hst : mg "str" = none) (hn : ps.length = n + 1) (hf : ∀ p ∈ l, PySem.W.findIn K (.ref C) p.1 = some none) (hb : chkInit ps scope l aks body = true) :
    FnOk P w K mg base CX (k + 1) f (PySem.W.ksFn name qual params body scope dV kV doc pm an cdv ct cc) ps (spI C n l aks) := by
  refine ⟨fun vs H Q E h => by rw [h.1, hn], fun A outer s H args us vs Q E hr e0 hbd r hsp => ?_⟩
  obtain ⟨hl, a, h0, ha, hak, hq⟩ := hsp
  have hlp : vs.length = ps.length := by rw [hl, hn]
  have KX : K.In s.heap := e0.mod.kin.keeps fun b o e => (e0.bs b o e).1
  have lim : s.heap.NoLimit := e0.mod.nolimit.keeps fun b o e => (e0.bs b o e).1
  obtain ⟨cl, cld, csl, hcell⟩ := U.cell
  unfold chkInit at hb
  split at hb
  · rename_i x px p1 m ap e es p pe ss
    simp only [Bool.and_eq_true, decide_eq_true_eq] at hb
    obtain ⟨⟨⟨⟨⟨⟨⟨⟨⟨rfl, rfl⟩, b1⟩, b2⟩, b3⟩, b4⟩, b5⟩, b6⟩, b7⟩, b8⟩ := hb
    refine PySem.ks_codeAny_call_defAt (fd := PySem.W.ksFn name qual params _ scope dV kV doc pm an cdv ct cc) (binds := ps.zip us) hr.depth (KX _ _ lk) rfl lim (PySem.W.codeRec_of KX hcd) rfl hbd S.nocell (fun y hy => S.par _ (List.of_mem_zip (a := y.1) (b := y.2) hy).1) (fun h₁ hns hk => ?_) S.co S.gen S.kind
    have I := inv_startS (CX := CX) (w := w) (f := f) (qual := qual) (cd := cdv) (E := E) (tk := s.toks + (ps.zip us).length) S hr.hd e0 hlp r hcell rfl hns hk
    have e1 : L2.start ps vs = vs.map some := by
      unfold L2.start
      rw [hlp, Nat.sub_self]
      simp
    rw [e1] at I
    have hp : ∀ x ∈ ps, scope.names.lookup x = some .local := S.par
    obtain ⟨c1, c2, c3⟩ := chkAKs_star (env := (cxS CX P w K mg base ps qual scope f cdv cc A outer s H E).env) (pos := p) b3
    have c0 : starEach (e :: es) (cxS CX P w K mg base ps qual scope f cdv cc A outer s H E).env = (false, eval e (cxS CX P w K mg base ps qual scope f cdv cc A outer s H E).env) :: starEach es (cxS CX P w K mg base ps qual scope f cdv cc A outer s H E).env := by
      cases aks with
      | nil => unfold chkAKs at b3; cases b3
      | cons k ks =>
        unfold chkAKs at b3
        rw [Bool.and_eq_true] at b3
        exact chkAK_star b3.1 es
    have fin : ∀ {σ' : L2.St} {H' : Hp} {v : V} {u : Value} {s' : Shared}, Inv (cxS CX P w K mg base ps qual scope f cdv cc A outer s H E) [] σ' H' s' → RelV v u → Q v H' → CE outer P w H s Q u s' :=
      fun {σ' H' v u s'} J rv q => ⟨v, H', J.os, J.bare, J.base, J.hok, rv, q⟩
    refine PySem.ks_wpAt_execs_cons (PySem.ks_wpAt_Expr_any (super_ok (R := fun H1 => H1 = H) S T U hx0 I (by rw [List.getElem?_map, h0]; rfl) ha (aks_ok rfl hp hst b3) (aks_run hak fun us hu => ⟨by rw [hu]; omega, ha, rfl⟩) (fun s' H1 J hr1 => ?_) c0 ?_ c2 b2 b1) I.quiet rfl)
    · subst hr1
      refine wpAt_of_wpAny (wpAny_mono ((sts_ok rfl hp b4).run [] s' _ _ { nx := fun _ H' => Q .non H', rt := Q } J ?_) (fun fl s2 hs => ?_) fun e s2 hs => hs)
      · cases l with
        | nil => cases b5
        | cons q0 r0 =>
          obtain ⟨f0, j0⟩ := q0
          exact tSts_new T h0 ha (by simp at b6; omega) (fun p hp => ⟨hf p hp, by rw [hlp]; simpa using List.all_eq_true.mp b7 p hp⟩) fun d H' h1 h2 h3 h4 h5 => hq d H' h1 h2 h3 h4 h5
      · cases fl with
        | ret u =>
          obtain ⟨v, σ', H', J, rv, q⟩ := hs
          exact fin J rv q
        | next =>
          obtain ⟨σ', H', J, q⟩ := hs
          exact fin (v := V.non) (u := Value.none) J rfl q
        | brk =>
          obtain ⟨_, _, _, q⟩ := hs
          exact False.elim q
        | cont =>
          obtain ⟨_, _, _, q⟩ := hs
          exact False.elim q
    · have := c1
      rw [c0] at this
      exact this
  · cases hb
/-- an own exception class: the parameters behind self, the fields in the order of the stores with their parameters (from 1), what super().__init__ gets -/
structure Xc where
  n : Nat
  l : List (Nat × Nat)
  aks : List AK
end Z
end

section
set_option maxRecDepth 100007
/-! What a value stands for in the abstract heap. -/
namespace Z
open PySem L2

/-- the written part, the names by number, the classes by number -/
structure Gx where
  K : PySem.W.Frag
  nm : List Str
  cls : Nat → Addr
  /-- the slot of an except clause's name, and the exception -/
  hold : Option (Nat × Addr) := none
  /-- what is known of the shared part of the heap besides -/
  amb : Hp → (Addr → Prop) → Prop := fun _ _ => True
  ambL : ∀ (H H' : Hp) (F F' : Addr → Prop), amb H F → (∀ a, F a → F' a) → (∀ a o, F a → H a = some o → H' a = some o) → amb H' F' := by intros; trivial

def Gx.name (G : Gx) (i : Nat) : Str := G.nm.getD i Str.empty

abbrev Fz := Addr → Prop
def KLst (K : PySem.W.Frag) (a : Addr) (xs : List V) : Prop :=
  ∃ (o : Obj) (its : Array Value) (n : Nat), K.lookup a = some o ∧ o.cls = .type "list" ∧ o.dict = none ∧ o.data = .seq its n ∧ its.size ≤ sizeLine ∧ Vals xs its.toList
def KTup (K : PySem.W.Frag) (a : Addr) (xs : List V) : Prop :=
  ∃ (o : Obj) (its : Array Value) (n : Nat), K.lookup a = some o ∧ o.cls = .type "tuple" ∧ o.data = .seq its n ∧ its.size ≤ sizeLine ∧ Vals xs its.toList
def TupAt (K : PySem.W.Frag) (H : Hp) (F : Fz) (a : Addr) (xs : List V) : Prop := (F a ∧ H a = some (.tup xs)) ∨ (xs = [] ∧ KTup K a xs)

theorem TupAt.own {K : PySem.W.Frag} {H : Hp} {F : Fz} {a : Addr} {xs : List V} (h : TupAt K H F a xs) (n : xs ≠ []) : H a = some (.tup xs) := h.elim (fun h => h.2) fun h => (n h.1).elim

/-- the signs of a text -/
def txtOk (x : List Nat) : Bool := x.all (· < 0x110000)
/-- a dict's key as a tree -/
def keyD : Key → D
  | .inl i => .int i
  | .inr x => .str x.cps.toList
def DK (x : Key) (d : D) : Prop := d = keyD x

mutual
inductive RepD (G : Gx) (H : Hp) (F : Fz) : V → D → Prop
  | non : RepD G H F .non .non
  | bl (b : Bool) : RepD G H F (.bl b) (.bl b)
  | int (i : Int) : RepD G H F (.int i) (.int i)
  | str {x : List Nat} : txtOk x = true → RepD G H F (.str ⟨x.toArray⟩) (.str x)
  | tup {a : Addr} {vs : List V} {ds : List D} : TupAt G.K H F a vs → RepDs G H F vs ds → RepD G H F (.ref a) (.tup ds)
  | lst {a : Addr} {vs : List V} {ds : List D} : F a → H a = some (.lst vs) → RepDs G H F vs ds → RepD G H F (.ref a) (.lst ds)
  | obj {a dx : Addr} {c : Nat} {fvs : List (Str × V)} {fs : List (Nat × D)} : F a → H a = some (.ins (G.cls c) dx fvs) → RepFs G H F fvs fs → RepD G H F (.ref a) (.obj c fs)
  | dct {a : Addr} {kvs : List (Key × V)} {ds : List (D × D)} : F a → H a = some (.dK kvs) → RepKs G H F kvs ds → RepD G H F (.ref a) (.dct false ds)
  | dctT {a : Addr} {kvs : List (List Key × V)} {ds : List (D × D)} : F a → H a = some (.dT kvs) → RepTs G H F kvs ds → RepD G H F (.ref a) (.dct true ds)
  | scr {a : Addr} {ns : List Int} : (F a ∧ Rd H a (.lst (ns.map V.int))) ∨ KLst G.K a (ns.map V.int) → RepD G H F (.ref a) (.scr ns)
inductive RepDs (G : Gx) (H : Hp) (F : Fz) : List V → List D → Prop
  | nil : RepDs G H F [] []
  | cons {v : V} {d : D} {vs : List V} {ds : List D} : RepD G H F v d → RepDs G H F vs ds → RepDs G H F (v :: vs) (d :: ds)
inductive RepFs (G : Gx) (H : Hp) (F : Fz) : List (Str × V) → List (Nat × D) → Prop
  | nil : RepFs G H F [] []
  | cons {x : Str} {n : Nat} {v : V} {d : D} {vs : List (Str × V)} {ds : List (Nat × D)} : n < G.nm.length → x = G.name n → RepD G H F v d → RepFs G H F vs ds → RepFs G H F ((x, v) :: vs) ((n, d) :: ds)
inductive RepKs (G : Gx) (H : Hp) (F : Fz) : List (Key × V) → List (D × D) → Prop
  | nil : RepKs G H F [] []
  | cons {k : Key} {v : V} {e d : D} {vs : List (Key × V)} {ds : List (D × D)} : e = keyD k → RepD G H F v d → RepKs G H F vs ds → RepKs G H F ((k, v) :: vs) ((e, d) :: ds)
inductive RepTs (G : Gx) (H : Hp) (F : Fz) : List (List Key × V) → List (D × D) → Prop
  | nil : RepTs G H F [] []
  | cons {k : List Key} {v : V} {e d : D} {vs : List (List Key × V)} {ds : List (D × D)} : e = .tup (k.map keyD) → RepD G H F v d → RepTs G H F vs ds → RepTs G H F ((k, v) :: vs) ((e, d) :: ds)
end

/-- a later heap: what is shared stays -/
def Lat (H : Hp) (F : Fz) (H' : Hp) (F' : Fz) : Prop := (∀ a, F a → F' a) ∧ ∀ a o, F a → H a = some o → H' a = some o
theorem Lat.refl {H : Hp} {F : Fz} : Lat H F H F := ⟨fun _ h => h, fun _ _ _ h => h⟩
theorem Lat.trans {H H1 H2 : Hp} {F F1 F2 : Fz} (a : Lat H F H1 F1) (b : Lat H1 F1 H2 F2) : Lat H F H2 F2 :=
  ⟨fun x h => b.1 x (a.1 x h), fun x o f h => b.2 x o (a.1 x f) (a.2 x o f h)⟩

theorem TupAt.lat {K : PySem.W.Frag} {H H' : Hp} {F F' : Fz} {a : Addr} {xs : List V} (l : Lat H F H' F') (h : TupAt K H F a xs) : TupAt K H' F' a xs := h.elim (fun h => .inl ⟨l.1 a h.1, l.2 a _ h.1 h.2⟩) .inr
theorem TupAt.sq {K : PySem.W.Frag} {H : Hp} {F : Fz} {a : Addr} {xs : List V} (h : TupAt K H F a xs) : SqT K H a xs := h.elim (fun h => .inl (.inl h.2)) fun h => .inr h.2

section
variable {G : Gx} {H H' : Hp} {F F' : Fz}
mutual
theorem RepD.lat (l : Lat H F H' F') : ∀ {v : V} {d : D}, RepD G H F v d → RepD G H' F' v d
  | _, _, .non => .non
  | _, _, .bl b => .bl b
  | _, _, .int i => .int i
  | _, _, .str h => .str h
  | _, _, .tup h r => .tup (h.lat l) (RepDs.lat l r)
  | _, _, .lst f h r => .lst (l.1 _ f) (l.2 _ _ f h) (RepDs.lat l r)
  | _, _, .obj f h r => .obj (l.1 _ f) (l.2 _ _ f h) (RepFs.lat l r)
  | _, _, .dct f h r => .dct (l.1 _ f) (l.2 _ _ f h) (RepKs.lat l r)
  | _, _, .dctT f h r => .dctT (l.1 _ f) (l.2 _ _ f h) (RepTs.lat l r)
  | _, _, .scr h => .scr (by
      rcases h with ⟨f, h | ⟨o, h⟩⟩ | h
      · exact .inl ⟨l.1 _ f, .inl (l.2 _ _ f h)⟩
      · exact .inl ⟨l.1 _ f, .inr ⟨o, l.2 _ _ f h⟩⟩
      · exact .inr h)
theorem RepDs.lat (l : Lat H F H' F') : ∀ {vs : List V} {ds : List D}, RepDs G H F vs ds → RepDs G H' F' vs ds
  | _, _, .nil => .nil
  | _, _, .cons h r => .cons (RepD.lat l h) (RepDs.lat l r)
theorem RepFs.lat (l : Lat H F H' F') : ∀ {vs : List (Str × V)} {ds : List (Nat × D)}, RepFs G H F vs ds → RepFs G H' F' vs ds
  | _, _, .nil => .nil
  | _, _, .cons a b h r => .cons a b (RepD.lat l h) (RepFs.lat l r)
theorem RepKs.lat (l : Lat H F H' F') : ∀ {vs : List (Key × V)} {ds : List (D × D)}, RepKs G H F vs ds → RepKs G H' F' vs ds
  | _, _, .nil => .nil
  | _, _, .cons b h r => .cons b (RepD.lat l h) (RepKs.lat l r)
theorem RepTs.lat (l : Lat H F H' F') : ∀ {vs : List (List Key × V)} {ds : List (D × D)}, RepTs G H F vs ds → RepTs G H' F' vs ds
  | _, _, .nil => .nil
  | _, _, .cons b h r => .cons b (RepD.lat l h) (RepTs.lat l r)
end
end

/-- what a slot owns, and the objects that are its own -/
inductive RepO (G : Gx) (H : Hp) (F : Fz) : V → O → List Addr → Prop
  | val {v : V} {d : D} : RepD G H F v d → RepO G H F v (.val d) []
  | lst {a : Addr} {vs : List V} {ds : List D} : H a = some (.lst vs) → RepDs G H F vs ds → RepO G H F (.ref a) (.lst ds) [a]
  | obj {a dx : Addr} {c : Nat} {fvs : List (Str × V)} {fs : List (Nat × D)} : H a = some (.ins (G.cls c) dx fvs) → RepFs G H F fvs fs → RepO G H F (.ref a) (.obj c fs) [a]
  | dct {a : Addr} {kvs : List (Key × V)} {ds : List (D × D)} : H a = some (.dK kvs) → RepKs G H F kvs ds → RepO G H F (.ref a) (.dct false ds) [a]
  | dctT {a : Addr} {kvs : List (List Key × V)} {ds : List (D × D)} : H a = some (.dT kvs) → RepTs G H F kvs ds → RepO G H F (.ref a) (.dct true ds) [a]

/-- a heap in which the objects not at fp stay -/
def Stay (fp : List Addr) (H H' : Hp) : Prop := ∀ a o, a ∉ fp → H a = some o → H' a = some o
theorem Stay.refl {fp : List Addr} {H : Hp} : Stay fp H H := fun _ _ _ h => h
theorem Stay.trans {fp fp' : List Addr} {H H1 H2 : Hp} (x : Stay fp H H1) (y : Stay fp' H1 H2) (hs : ∀ a o, a ∉ fp → H a = some o → a ∉ fp') : Stay fp H H2 :=
  fun a o h e => y a o (hs a o h e) (x a o h e)

theorem RepO.there {G : Gx} {H : Hp} {F : Fz} {v : V} {o : O} {f : List Addr} (r : RepO G H F v o f) : ∀ a ∈ f, ∃ u, H a = some u := by
  cases r with
  | val _ => intro a h; cases h
  | lst h _ => intro b hb; rw [List.mem_singleton.mp hb]; exact ⟨_, h⟩
  | obj h _ => intro b hb; rw [List.mem_singleton.mp hb]; exact ⟨_, h⟩
  | dct h _ => intro b hb; rw [List.mem_singleton.mp hb]; exact ⟨_, h⟩
  | dctT h _ => intro b hb; rw [List.mem_singleton.mp hb]; exact ⟨_, h⟩
/-- it stays what it is while its own objects stay -/
theorem RepO.stay {G : Gx} {H H' : Hp} {F F' : Fz} {v : V} {o : O} {f fp : List Addr} (r : RepO G H F v o f) (l : Lat H F H' F') (st : Stay fp H H') (dj : ∀ a ∈ f, a ∉ fp) : RepO G H' F' v o f := by
  cases r with
  | val h => exact .val (h.lat l)
  | lst h r => exact .lst (st _ _ (dj _ (by simp)) h) (r.lat l)
  | obj h r => exact .obj (st _ _ (dj _ (by simp)) h) (r.lat l)
  | dct h r => exact .dct (st _ _ (dj _ (by simp)) h) (r.lat l)
  | dctT h r => exact .dctT (st _ _ (dj _ (by simp)) h) (r.lat l)
end Z
end

section
set_option maxRecDepth 100007
/-! States, steps, and the readings of expressions. -/
namespace Z
open PySem L2

abbrev Ows := Nat → List Addr
def Own (ow : Ows) : Addr → Prop := fun a => ∃ i, a ∈ ow i

/-- the slots σ over H stand for z -/
structure SRep (G : Gx) (H : Hp) (F : Fz) (σ : L2.St) (z : Zs) (ow : Ows) : Prop where
  len : z.length = σ.length
  rep : ∀ i o, rd z i = some o → ∃ v, σ[i]? = some (some v) ∧ RepO G H F v o (ow i)
  emp : ∀ i, rd z i = none → ow i = []
  dj : ∀ i j a, a ∈ ow i → a ∈ ow j → i = j
  nf : ∀ i a, a ∈ ow i → ¬ F a
  ft : ∀ a, F a → ∃ o, H a = some o
  am : G.amb H F
  ho : ∀ i a, G.hold = some (i, a) → σ[i]? = some (some (.ref a))

def StayP (P : Addr → Prop) (H H' : Hp) : Prop := ∀ a o, ¬ P a → H a = some o → H' a = some o
/-- from (H, F), where P may change, to (H', F'), where P' is owned -/
structure Stp (H : Hp) (F : Fz) (P : Addr → Prop) (H' : Hp) (F' : Fz) (P' : Addr → Prop) : Prop where
  lat : Lat H F H' F'
  there : ∀ a o, H a = some o → ∃ o', H' a = some o'
  stay : StayP P H H'
  fr : ∀ a, F' a → F a ∨ P a ∨ H a = none
  fp : ∀ a, P' a → P a ∨ H a = none
  nf : ∀ a, P' a → ¬ F' a
  tr : ∀ a, P' a → ∃ o, H' a = some o
  ft : ∀ a, F' a → ∃ o, H' a = some o

section
variable {G : Gx} {H H1 H2 H' : Hp} {F F1 F2 F' : Fz} {P P1 P2 P' f1 : Addr → Prop}
theorem none_of {a : Addr} (h : ∀ o, H a = some o → False) : H a = none := by
  cases e : H a with
  | none => rfl
  | some o => exact (h o e).elim
theorem Stp.back (s : Stp H F P H1 F1 P1) {a : Addr} (h : H1 a = none) : H a = none := none_of fun o e => by
  obtain ⟨o', e'⟩ := s.there a o e
  rw [h] at e'; cases e'
theorem Stp.refl (nf : ∀ a, P a → ¬ F a) (tr : ∀ a, P a → ∃ o, H a = some o) (ft : ∀ a, F a → ∃ o, H a = some o) : Stp H F P H F P :=
  ⟨Lat.refl, fun a o e => ⟨o, e⟩, fun _ _ _ e => e, fun _ h => .inl h, fun _ h => .inl h, nf, tr, ft⟩
theorem Stp.weak (s : Stp H F P H1 F1 P1) (h : ∀ a, P2 a → P1 a) : Stp H F P H1 F1 P2 :=
  ⟨s.lat, s.there, s.stay, s.fr, fun a p => s.fp a (h a p), fun a p => s.nf a (h a p), fun a p => s.tr a (h a p), s.ft⟩
/-- the frame: what was made on the way (f1) is left alone by the second step -/
theorem Stp.frame (s1 : Stp H F P H1 F1 (fun a => P1 a ∨ f1 a)) (dj : ∀ a, f1 a → ¬ P1 a) (s2 : Stp H1 F1 P1 H2 F2 P2) : Stp H F P H2 F2 (fun a => P2 a ∨ f1 a) ∧ ∀ a, f1 a → ¬ P2 a := by
  refine ⟨⟨s1.lat.trans s2.lat, fun a o e => ?_, fun a o np e => ?_, fun a h => ?_, fun a h => ?_, fun a h => ?_, fun a h => ?_, s2.ft⟩, fun a h p => ?_⟩
  · obtain ⟨o1, e1⟩ := s1.there a o e
    exact s2.there a o1 e1
  · refine s2.stay a o (fun p => ?_) (s1.stay a o np e)
    rcases s1.fp a (.inl p) with q | q
    · exact np q
    · rw [e] at q; cases q
  · rcases s2.fr a h with q | q | q
    · exact s1.fr a q
    · rcases s1.fp a (.inl q) with r | r
      · exact .inr (.inl r)
      · exact .inr (.inr r)
    · exact .inr (.inr (s1.back q))
  · rcases h with h | h
    · rcases s2.fp a h with q | q
      · exact s1.fp a (.inl q)
      · exact .inr (s1.back q)
    · exact s1.fp a (.inr h)
  · rcases h with h | h
    · exact s2.nf a h
    · intro q
      rcases s2.fr a q with r | r | r
      · exact s1.nf a (.inr h) r
      · exact dj a h r
      · obtain ⟨o, e⟩ := s1.tr a (.inr h)
        rw [r] at e; cases e
  · rcases h with h | h
    · exact s2.tr a h
    · obtain ⟨o, e⟩ := s1.tr a (.inr h)
      exact s2.there a o e
  · rcases s2.fp a p with r | r
    · exact dj a h r
    · obtain ⟨o, e⟩ := s1.tr a (.inr h)
      rw [r] at e; cases e
theorem Stp.trans (s1 : Stp H F P H1 F1 P1) (s2 : Stp H1 F1 P1 H2 F2 P2) : Stp H F P H2 F2 P2 :=
  ((s1.weak (P2 := fun a => P1 a ∨ False) fun a h => h.elim id False.elim).frame (fun _ h => h.elim) s2).1.weak fun a h => .inl h
theorem RepO.stp {v : V} {o : O} {f : List Addr} (r : RepO G H F v o f) (s : Stp H F P H' F' P') (dj : ∀ a ∈ f, ¬ P a) : RepO G H' F' v o f := by
  cases r with
  | val h => exact .val (h.lat s.lat)
  | lst h r => exact .lst (s.stay _ _ (dj _ (by simp)) h) (r.lat s.lat)
  | obj h r => exact .obj (s.stay _ _ (dj _ (by simp)) h) (r.lat s.lat)
  | dct h r => exact .dct (s.stay _ _ (dj _ (by simp)) h) (r.lat s.lat)
  | dctT h r => exact .dctT (s.stay _ _ (dj _ (by simp)) h) (r.lat s.lat)
theorem SRep.own {σ : L2.St} {z : Zs} {ow : Ows} (s : SRep G H F σ z ow) : ∀ a, Own ow a → ∃ o, H a = some o := fun a ⟨i, h⟩ => by
  cases e : rd z i with
  | none => rw [s.emp i e] at h; cases h
  | some o =>
    obtain ⟨v, _, r⟩ := s.rep i o e
    exact r.there a h
theorem SRep.nfo {σ : L2.St} {z : Zs} {ow : Ows} (s : SRep G H F σ z ow) : ∀ a, Own ow a → ¬ F a := fun a ⟨i, h⟩ => s.nf i a h
theorem SRep.refl {σ : L2.St} {z : Zs} {ow : Ows} (s : SRep G H F σ z ow) : Stp H F (Own ow) H F (Own ow) := Stp.refl s.nfo s.own s.ft
/-- a step that leaves the slots' own things alone -/
theorem SRep.stp {σ : L2.St} {z : Zs} {ow : Ows} (s : SRep G H F σ z ow) (st : Stp H F P H' F' P') (dj : ∀ a, Own ow a → ¬ P a) : SRep G H' F' σ z ow := by
  refine ⟨s.len, fun i o e => ?_, s.emp, s.dj, fun i a h q => ?_, st.ft, G.ambL _ _ _ _ s.am st.lat.1 st.lat.2, s.ho⟩
  · obtain ⟨v, e1, r⟩ := s.rep i o e
    exact ⟨v, e1, r.stp st fun a h => dj a ⟨i, h⟩⟩
  · rcases st.fr a q with x | x | x
    · exact s.nf i a h x
    · exact dj a ⟨i, h⟩ x
    · obtain ⟨o, e⟩ := s.own a ⟨i, h⟩
      rw [x] at e; cases e
end

/-! ### slots taken out and put back -/
theorem rd_set_ne {z : Zs} {i j : Nat} {x : Option O} (h : i ≠ j) : rd (z.set i x) j = rd z j := by
  unfold rd; rw [List.getElem?_set_ne h]
theorem rd_set_self {z : Zs} {i : Nat} {x : Option O} (h : i < z.length) : rd (z.set i x) i = x := by
  unfold rd; rw [List.getElem?_set_self h]; rfl
theorem rd_lt {z : Zs} {i : Nat} {o : O} (h : rd z i = some o) : i < z.length := by
  unfold rd at h
  cases e : z[i]? with
  | none => rw [e] at h; cases h
  | some x => exact (List.getElem?_eq_some_iff.mp e).1
theorem rd_ge {z : Zs} {i : Nat} (h : z.length ≤ i) : rd z i = none := by
  unfold rd; rw [List.getElem?_eq_none h]; rfl
def ow0 (ow : Ows) (i : Nat) : Ows := fun j => if j = i then [] else ow j
def ow1 (ow : Ows) (i : Nat) (f : List Addr) : Ows := fun j => if j = i then f else ow j
section
variable {G : Gx} {H : Hp} {F : Fz} {σ : L2.St} {z : Zs} {ow : Ows}
theorem SRep.lend (s : SRep G H F σ z ow) (i : Nat) : SRep G H F σ (z.set i none) (ow0 ow i) := by
  refine ⟨by rw [List.length_set]; exact s.len, fun j o e => ?_, fun j e => ?_, fun j k a h1 h2 => ?_, fun j a h => ?_, s.ft, s.am, s.ho⟩
  · by_cases hj : j = i
    · subst hj
      by_cases hl : j < z.length
      · rw [rd_set_self hl] at e; cases e
      · rw [rd_ge (by rw [List.length_set]; omega)] at e; cases e
    · rw [rd_set_ne (Ne.symm hj)] at e
      obtain ⟨v, e1, r⟩ := s.rep j o e
      exact ⟨v, e1, by unfold ow0; rw [if_neg hj]; exact r⟩
  · by_cases hj : j = i
    · unfold ow0; rw [if_pos hj]
    · rw [rd_set_ne (Ne.symm hj)] at e
      unfold ow0; rw [if_neg hj]; exact s.emp j e
  · unfold ow0 at h1 h2
    split at h1
    · cases h1
    · split at h2
      · cases h2
      · exact s.dj j k a h1 h2
  · unfold ow0 at h
    split at h
    · cases h
    · exact s.nf j a h
/-- slot i given a thing whose own objects are apart -/
theorem SRep.give {i : Nat} {v : V} {o : O} {f : List Addr} (s : SRep G H F σ z ow) (hi : σ[i]? = some (some v)) (r : RepO G H F v o f) (dj : ∀ a ∈ f, ¬ Own (ow0 ow i) a) (nf : ∀ a ∈ f, ¬ F a) : SRep G H F σ (z.set i (some o)) (ow1 ow i f) := by
  have hl : i < z.length := by
    rw [s.len]; exact (List.getElem?_eq_some_iff.mp hi).1
  refine ⟨by rw [List.length_set]; exact s.len, fun j o' e => ?_, fun j e => ?_, fun j k a h1 h2 => ?_, fun j a h => ?_, s.ft, s.am, s.ho⟩
  · by_cases hj : j = i
    · subst hj
      rw [rd_set_self hl] at e
      cases e
      exact ⟨v, hi, by unfold ow1; rw [if_pos rfl]; exact r⟩
    · rw [rd_set_ne (Ne.symm hj)] at e
      obtain ⟨v', e1, r'⟩ := s.rep j o' e
      exact ⟨v', e1, by unfold ow1; rw [if_neg hj]; exact r'⟩
  · by_cases hj : j = i
    · subst hj
      rw [rd_set_self hl] at e; cases e
    · rw [rd_set_ne (Ne.symm hj)] at e
      unfold ow1; rw [if_neg hj]; exact s.emp j e
  · unfold ow1 at h1 h2
    split at h1
    · rename_i hj
      split at h2
      · rename_i hk; rw [hj, hk]
      · rename_i hk
        exact (dj a h1 ⟨k, by unfold ow0; rw [if_neg hk]; exact h2⟩).elim
    · rename_i hj
      split at h2
      · exact (dj a h2 ⟨j, by unfold ow0; rw [if_neg hj]; exact h1⟩).elim
      · exact s.dj j k a h1 h2
  · unfold ow1 at h
    split at h
    · exact nf a h
    · exact s.nf j a h
theorem own_ow0 {i : Nat} {a : Addr} (h : Own (ow0 ow i) a) : Own ow a := by
  obtain ⟨j, h⟩ := h
  unfold ow0 at h
  split at h
  · cases h
  · exact ⟨j, h⟩
theorem own_ow1 {i : Nat} {f : List Addr} {a : Addr} (h : Own (ow1 ow i f) a) : Own (ow0 ow i) a ∨ a ∈ f := by
  obtain ⟨j, h⟩ := h
  unfold ow1 at h
  split at h
  · exact .inr h
  · rename_i hj
    exact .inl ⟨j, by unfold ow0; rw [if_neg hj]; exact h⟩
/-- a slot of the frame gets a new value -/
theorem SRep.store {i : Nat} {v : V} {o : O} {f : List Addr} (hn : ∀ a, G.hold ≠ some (i, a)) (s : SRep G H F σ z ow) (hi : i < σ.length) (r : RepO G H F v o f) (dj : ∀ a ∈ f, ¬ Own (ow0 ow i) a) (nf : ∀ a ∈ f, ¬ F a) : SRep G H F (σ.set i (some v)) (z.set i (some o)) (ow1 ow i f) := by
  have s' : SRep G H F (σ.set i (some v)) (z.set i none) (ow0 ow i) := by
    have l := s.lend i
    refine ⟨by rw [List.length_set, List.length_set]; exact s.len, fun j o' e => ?_, l.emp, l.dj, l.nf, s.ft, s.am, fun k a e => by
      have hk : i ≠ k := fun q => hn a (q ▸ e)
      rw [List.getElem?_set_ne hk]; exact s.ho k a e⟩
    obtain ⟨v', e1, r'⟩ := l.rep j o' e
    have hj : i ≠ j := by
      intro h
      subst h
      rw [rd_set_self (by rw [s.len]; exact hi)] at e; cases e
    exact ⟨v', by rw [List.getElem?_set_ne hj]; exact e1, r'⟩
  have g := s'.give (i := i) (v := v) (o := o) (f := f) (by rw [List.getElem?_set_self hi]) r (fun a h q => dj a h (by
    obtain ⟨j, h2⟩ := q
    unfold ow0 at h2
    split at h2
    · cases h2
    · rename_i hj
      exact ⟨j, by unfold ow0; rw [if_neg hj]; exact h2⟩)) nf
  rw [List.set_set] at g
  have e : ow1 (ow0 ow i) i f = ow1 ow i f := by
    funext j; unfold ow1 ow0; split <;> rfl
  rw [e] at g
  exact g
/-- a slot forgotten -/
theorem SRep.drop (s : SRep G H F σ z ow) (i : Nat) (hn : ∀ a, G.hold ≠ some (i, a)) (x : Option V) : SRep G H F (σ.set i x) (z.set i none) (ow0 ow i) := by
  have l := s.lend i
  refine ⟨by rw [List.length_set, List.length_set]; exact s.len, fun j o' e => ?_, l.emp, l.dj, l.nf, s.ft, s.am, fun k a e => by
      have hk : i ≠ k := fun q => hn a (q ▸ e)
      rw [List.getElem?_set_ne hk]; exact s.ho k a e⟩
  obtain ⟨v', e1, r'⟩ := l.rep j o' e
  have hj : i ≠ j := by
    intro h
    subst h
    by_cases hl : i < z.length
    · rw [rd_set_self hl] at e; cases e
    · rw [rd_ge (by rw [List.length_set]; omega)] at e; cases e
  exact ⟨v', by rw [List.getElem?_set_ne hj]; exact e1, r'⟩
end
end Z
end

section
set_option maxRecDepth 100007
/-! Operands, what they are read as, sharing. -/
namespace Z
open PySem L2
section
variable {G : Gx} {H H1 H2 H' : Hp} {F F1 F2 F' : Fz} {P P1 P2 P' : Addr → Prop} {σ : L2.St} {z z' : Zs} {ow : Ows} {v : V} {o : O} {f g : List Addr}

/-- read as a tree: the root may be owned -/
inductive RepR (G : Gx) (H : Hp) (F : Fz) : V → D → Prop
  | of {v : V} {d : D} : RepD G H F v d → RepR G H F v d
  | lst {a : Addr} {vs : List V} {ds : List D} : H a = some (.lst vs) → RepDs G H F vs ds → RepR G H F (.ref a) (.lst ds)
  | obj {a dx : Addr} {c : Nat} {fvs : List (Str × V)} {fs : List (Nat × D)} : H a = some (.ins (G.cls c) dx fvs) → RepFs G H F fvs fs → RepR G H F (.ref a) (.obj c fs)
  | dct {a : Addr} {kvs : List (Key × V)} {ds : List (D × D)} : H a = some (.dK kvs) → RepKs G H F kvs ds → RepR G H F (.ref a) (.dct false ds)
  | dctT {a : Addr} {kvs : List (List Key × V)} {ds : List (D × D)} : H a = some (.dT kvs) → RepTs G H F kvs ds → RepR G H F (.ref a) (.dct true ds)
theorem RepO.r (h : RepO G H F v o f) : RepR G H F v o.pk := by
  cases h with
  | val h => exact .of h
  | lst h r => exact .lst h r
  | obj h r => exact .obj h r
  | dct h r => exact .dct h r
  | dctT h r => exact .dctT h r

/-! ### sharing -/
def plus (F : Fz) (f : List Addr) : Fz := fun a => F a ∨ a ∈ f
theorem lat_plus : Lat H F H (plus F f) := ⟨fun _ h => .inl h, fun _ _ _ h => h⟩
theorem RepO.freeze (h : RepO G H F v o f) : RepD G H (plus F f) v o.pk := by
  cases h with
  | val h => exact h.lat lat_plus
  | lst h r => exact .lst (.inr (by simp)) h (r.lat lat_plus)
  | obj h r => exact .obj (.inr (by simp)) h (r.lat lat_plus)
  | dct h r => exact .dct (.inr (by simp)) h (r.lat lat_plus)
  | dctT h r => exact .dctT (.inr (by simp)) h (r.lat lat_plus)
/-- f leaves what is owned and is shared -/
theorem Stp.share (s : Stp H F P H1 F1 (fun a => P1 a ∨ a ∈ f)) (dj : ∀ a ∈ f, ¬ P1 a) : Stp H F P H1 (plus F1 f) P1 := by
  refine ⟨s.lat.trans lat_plus, s.there, s.stay, fun a h => ?_, fun a h => s.fp a (.inl h), fun a h q => ?_, fun a h => s.tr a (.inl h), fun a h => h.elim (s.ft a) fun h => s.tr a (.inr h)⟩
  · rcases h with h | h
    · exact s.fr a h
    · rcases s.fp a (.inr h) with q | q
      · exact .inr (.inl q)
      · exact .inr (.inr q)
  · rcases q with q | q
    · exact s.nf a (.inl h) q
    · exact dj a q h
theorem RepO.plus {f' : List Addr} (r : RepO G H F v o f) : RepO G H (plus F f') v o f := by
  cases r with
  | val h => exact .val (h.lat lat_plus)
  | lst h r => exact .lst h (r.lat lat_plus)
  | obj h r => exact .obj h (r.lat lat_plus)
  | dct h r => exact .dct h (r.lat lat_plus)
  | dctT h r => exact .dctT h (r.lat lat_plus)
theorem SRep.plus (s : SRep G H F σ z ow) (dj : ∀ a ∈ f, ¬ Own ow a) (tr : ∀ a ∈ f, ∃ u, H a = some u) : SRep G H (plus F f) σ z ow := by
  refine ⟨s.len, fun i o e => ?_, s.emp, s.dj, fun i a h q => ?_, fun a h => h.elim (s.ft a) (tr a), G.ambL _ _ _ _ s.am (fun _ h => .inl h) (fun _ _ _ h => h), s.ho⟩
  · obtain ⟨v, e1, r⟩ := s.rep i o e
    exact ⟨v, e1, r.plus⟩
  · rcases q with q | q
    · exact s.nf i a h q
    · exact dj a q ⟨i, h⟩
/-- a slot's own thing is shared -/
theorem SRep.share {i : Nat} (s : SRep G H F σ z ow) (e : rd z i = some o) : ∃ v, σ[i]? = some (some v) ∧ RepD G H (Z.plus F (ow i)) v o.pk ∧ SRep G H (Z.plus F (ow i)) σ (z.set i (some (.val o.pk))) (ow0 ow i) := by
  obtain ⟨v, e1, r⟩ := s.rep i o e
  have d := r.freeze
  have dj : ∀ a ∈ ow i, ¬ Own (ow0 ow i) a := fun a h ⟨j, h2⟩ => by
    unfold ow0 at h2
    split at h2
    · cases h2
    · rename_i hj
      exact hj (s.dj j i a h2 h)
  have s2 : SRep G H (Z.plus F (ow i)) σ (z.set i none) (ow0 ow i) := (s.lend i).plus dj r.there
  have s3 := s2.give (i := i) e1 (.val d) (f := []) (fun a h => by cases h) (fun a h => by cases h)
  rw [List.set_set] at s3
  have : ow1 (ow0 ow i) i [] = ow0 ow i := by
    funext j; unfold ow1 ow0; split <;> rfl
  rw [this] at s3
  exact ⟨v, e1, d, s3⟩
theorem own_split {i : Nat} {a : Addr} (h : Own ow a) : Own (ow0 ow i) a ∨ a ∈ ow i := by
  obtain ⟨j, h⟩ := h
  by_cases hj : j = i
  · subst hj; exact .inr h
  · exact .inl ⟨j, by unfold ow0; rw [if_neg hj]; exact h⟩
theorem ow0_dj (s : SRep G H F σ z ow) {i : Nat} : ∀ a ∈ ow i, ¬ Own (ow0 ow i) a := fun a h ⟨j, h2⟩ => by
  unfold ow0 at h2
  split at h2
  · cases h2
  · rename_i hj
    exact hj (s.dj j i a h2 h)

/-! ### operands -/
def HRep (G : Gx) (H : Hp) (F : Fz) (σ : L2.St) (v : V) (h : Hd) (f : List Addr) : Prop :=
  match h with
  | .tmp o => RepO G H F v o f
  | .slot i => f = [] ∧ σ[i]? = some (some v)
inductive HReps (G : Gx) (H : Hp) (F : Fz) (σ : L2.St) : List V → List Hd → List Addr → Prop
  | nil : HReps G H F σ [] [] []
  | cons {v : V} {h : Hd} {vs : List V} {hs : List Hd} {f g : List Addr} : HRep G H F σ v h f → HReps G H F σ vs hs g → (∀ a ∈ f, a ∉ g) → HReps G H F σ (v :: vs) (h :: hs) (f ++ g)
theorem HRep.stp {h : Hd} (r : HRep G H F σ v h f) (s : Stp H F P H' F' P') (dj : ∀ a ∈ f, ¬ P a) : HRep G H' F' σ v h f := by
  cases h with
  | tmp o => exact RepO.stp r s dj
  | slot i => exact r
theorem HReps.stp {vs : List V} {hs : List Hd} (r : HReps G H F σ vs hs f) (s : Stp H F P H' F' P') (dj : ∀ a ∈ f, ¬ P a) : HReps G H' F' σ vs hs f := by
  induction r with
  | nil => exact .nil
  | cons h _ d ih => exact .cons (h.stp s fun a x => dj a (by simp [x])) (ih fun a x => dj a (by simp [x])) d
theorem HRep.peek {h : Hd} {d : D} (r : HRep G H F σ v h f) (s : SRep G H F σ z ow) (e : peek h z = some d) : RepR G H F v d := by
  cases h with
  | tmp o => cases e; exact RepO.r r
  | slot i =>
    obtain ⟨_, e1⟩ := r
    unfold Z.peek at e
    cases q : rd z i with
    | none => simp only [q] at e; cases e
    | some o =>
      simp only [q, Option.map_some, Option.some.injEq] at e
      obtain ⟨v', e2, r⟩ := s.rep i o q
      rw [e1] at e2
      cases e2
      rw [← e]
      exact r.r
theorem RepO.val_inv {d : D} (r : RepO G H F v (.val d) f) : f = [] ∧ RepD G H F v d := by
  cases r with
  | val h => exact ⟨rfl, h⟩
theorem take_slot {i : Nat} : take (.slot i) z = match rd z i with
    | some (.val d) => some (.val d, z)
    | some o => some (.val o.pk, z.set i (some (.val o.pk)))
    | none => none := rfl
/-- taken for good -/
theorem HRep.take {h : Hd} (r : HRep G H F σ v h f) (s : SRep G H F σ z ow) (dj : ∀ a ∈ f, ¬ Own ow a) (nf : ∀ a ∈ f, ¬ F a) (tr : ∀ a ∈ f, ∃ u, H a = some u) (e : take h z = some (o, z')) :
    ∃ F' ow' f', SRep G H F' σ z' ow' ∧ RepO G H F' v o f' ∧ Stp H F (fun a => Own ow a ∨ a ∈ f) H F' (fun a => Own ow' a ∨ a ∈ f') ∧ ∀ a ∈ f', ¬ Own ow' a := by
  have st0 : Stp H F (fun a => Own ow a ∨ a ∈ f) H F (fun a => Own ow a ∨ a ∈ f) := Stp.refl (fun a h => h.elim (s.nfo a) (nf a)) (fun a h => h.elim (s.own a) (tr a)) s.ft
  cases h with
  | tmp o' =>
    cases e
    exact ⟨F, ow, f, s, r, st0, dj⟩
  | slot i =>
    obtain ⟨rfl, e1⟩ := r
    rw [take_slot] at e
    cases q : rd z i with
    | none => simp only [q] at e; cases e
    | some o' =>
      simp only [q] at e
      obtain ⟨v', e2, ro⟩ := s.rep i o' q
      rw [e1] at e2
      cases e2
      cases o' with
      | val d =>
        cases e
        exact ⟨F, ow, [], s, .val ro.val_inv.2, st0, fun a h => by cases h⟩
      | _ =>
        cases e
        obtain ⟨v2, e3, rd', s'⟩ := s.share q
        rw [e1] at e3
        cases e3
        refine ⟨_, ow0 ow i, [], s', .val rd', ?_, fun a h => by cases h⟩
        refine (Stp.share (P1 := Own (ow0 ow i)) (f := ow i) (st0.weak fun a h => ?_) (ow0_dj s)).weak fun a h => ?_
        · rcases h with h | h
          · exact .inl (own_ow0 h)
          · exact .inl ⟨i, h⟩
        · rcases h with h | h
          · exact h
          · cases h
end
end Z
end

section
set_option maxRecDepth 100007
/-! Readings: what an expression's run gives, over the abstract heap. -/
namespace Z
open PySem L2

abbrev Rel (α β : Type) := Hp → Fz → β → α → List Addr → Prop
/-- from (H, F, ow): every way out is as r says -/
def RunG {α β : Type} (G : Gx) (W : WX) (σ : L2.St) (rel : Rel α β) (H : Hp) (F : Fz) (ow : Ows) (r : R α) (Q : β → Hp → Prop) : Prop :=
  match r with
  | .ok a z' => ∀ v H' F' ow' f, Stp H F (Own ow) H' F' (fun x => Own ow' x ∨ x ∈ f) → SRep G H' F' σ z' ow' → rel H' F' v a f → (∀ x ∈ f, ¬ Own ow' x) → Q v H'
  | .exc c fs z' => ∀ d H' F' ow' fvs, Stp H F (Own ow) H' F' (Own ow') → SRep G H' F' σ z' ow' → (H' d = some (.xd fvs) ∧ F' d) → RepFs G H' F' fvs fs → W (.ref (G.cls c)) (some d) σ H'
  | .bad => False
def tG {α β : Type} (G : Gx) (W : WX) (rel : L2.St → Rel α β) (m : Zs → R α) : L2.St → Hp → (β → Hp → Prop) → Prop := fun σ H Q => ∃ z ow F, SRep G H F σ z ow ∧ RunG G W σ (rel σ) H F ow (m z) Q
def relE (G : Gx) (σ : L2.St) : Rel Hd V := fun H F v h f => HRep G H F σ v h f
def relA (G : Gx) (σ : L2.St) : Rel (List Hd) (List V) := fun H F vs hs f => HReps G H F σ vs hs f
def relT (σ : L2.St) : Rel Bool Bool := fun _ _ b a f => b = a ∧ f = []
def tZ (G : Gx) (W : WX) (m : Zs → R Hd) : TE := tG G W (relE G) m
def tZA (G : Gx) (W : WX) (m : Zs → R (List Hd)) : TA := tG G W (relA G) m
def tZT (G : Gx) (W : WX) (m : Zs → R Bool) : TT := tG G W relT m

theorem PE.imp {X : Cx} {e : Expr} {t t' : TE} (h : PE X e t) (k : ∀ σ H Q, t' σ H Q → t σ H Q) : PE X e t' := ⟨fun pins s σ H Q I q => h.run pins s σ H Q I (k σ H Q q)⟩
theorem PT.imp {X : Cx} {e : Expr} {t t' : TT} (h : PT X e t) (k : ∀ σ H Q, t' σ H Q → t σ H Q) : PT X e t' := ⟨fun pins s σ H Q I q => h.run pins s σ H Q I (k σ H Q q)⟩
theorem PA.imp {X : Cx} {e : List Expr} {t t' : TA} (h : PA X e t) (k : ∀ σ H Q, t' σ H Q → t σ H Q) : PA X e t' := ⟨fun pos pins s σ H Q I q => h.run pos pins s σ H Q I (k σ H Q q)⟩
theorem PS.imp {X : Cx} {st : Stmt} {t t' : TS} (h : PS X st t) (k : ∀ D σ H, t' D σ H → t D σ H) : PS X st t' := ⟨fun pins s σ H D I q => h.run pins s σ H D I (k D σ H q)⟩
theorem PSs.imp {X : Cx} {st : List Stmt} {t t' : TS} (h : PSs X st t) (k : ∀ D σ H, t' D σ H → t D σ H) : PSs X st t' := ⟨fun pins s σ H D I q => h.run pins s σ H D I (k D σ H q)⟩

section
variable {G : Gx} {W : WX} {σ : L2.St} {H H1 H2 H' : Hp} {F F1 F2 F' : Fz} {P P1 P2 P' fP : Addr → Prop} {z z' : Zs} {ow ow1 ow2 : Ows} {v : V} {o : O} {f g : List Addr}

/-- a first part, run behind a step from the start, with fP made on the way; then the rest -/
theorem RunG.bind {α β γ δ : Type} {rel1 : Rel α β} {rel2 : Rel γ δ} {r : R α} {k : α → Zs → R γ} {Q : δ → Hp → Prop} {Q1 : β → Hp → Prop}
    (s1 : Stp H F (Own ow) H1 F1 (fun x => Own ow1 x ∨ fP x)) (dj : ∀ x, fP x → ¬ Own ow1 x) (h : RunG G W σ rel2 H F ow (r.bind k) Q)
    (hk : ∀ a z2 v H2 F2 ow2 g, r = .ok a z2 → Stp H1 F1 (Own ow1) H2 F2 (fun x => Own ow2 x ∨ x ∈ g) → SRep G H2 F2 σ z2 ow2 → rel1 H2 F2 v a g → (∀ x ∈ g, ¬ Own ow2 x) →
      Stp H F (Own ow) H2 F2 (fun x => Own ow2 x ∨ x ∈ g ∨ fP x) → (∀ x, fP x → ¬ Own ow2 x ∧ x ∉ g) → RunG G W σ rel2 H F ow (k a z2) Q → Q1 v H2) : RunG G W σ rel1 H1 F1 ow1 r Q1 := by
  cases r with
  | ok a z2 =>
    intro v H2 F2 ow2 g st s2 r2 d2
    obtain ⟨st2, dj2⟩ := s1.frame dj st
    exact hk a z2 v H2 F2 ow2 g rfl st s2 r2 d2 (st2.weak fun x h => by
      rcases h with h | h | h
      · exact .inl (.inl h)
      · exact .inl (.inr h)
      · exact .inr h) (fun x hx => ⟨fun q => dj2 x hx (.inl q), fun q => dj2 x hx (.inr q)⟩) h
  | exc c fs z' =>
    intro d H2 F2 ow2 fvs st s2 e r2
    exact h d H2 F2 ow2 fvs ((s1.frame dj st).1.weak fun x h => .inl h) s2 e r2
  | bad => exact h
theorem SRep.refl0 (s : SRep G H F σ z ow) : Stp H F (Own ow) H F (fun x => Own ow x ∨ False) := s.refl.weak fun x h => h.elim id False.elim
/-- the first part of all -/
theorem RunG.first {α β γ δ : Type} {rel1 : Rel α β} {rel2 : Rel γ δ} {r : R α} {k : α → Zs → R γ} {Q : δ → Hp → Prop} {Q1 : β → Hp → Prop} (s : SRep G H F σ z ow) (h : RunG G W σ rel2 H F ow (r.bind k) Q)
    (hk : ∀ a z2 v H2 F2 ow2 g, r = .ok a z2 → Stp H F (Own ow) H2 F2 (fun x => Own ow2 x ∨ x ∈ g) → SRep G H2 F2 σ z2 ow2 → rel1 H2 F2 v a g → (∀ x ∈ g, ¬ Own ow2 x) → RunG G W σ rel2 H F ow (k a z2) Q → Q1 v H2) : RunG G W σ rel1 H F ow r Q1 :=
  RunG.bind s.refl0 (fun _ h => h.elim) h fun a z2 v H2 F2 ow2 g e st s2 r2 d2 _ _ h2 => hk a z2 v H2 F2 ow2 g e st s2 r2 d2 h2
/-- something new beside what is owned -/
theorem Stp.alloc (s : Stp H F P H1 F1 P1) (t : Stp H1 F1 (fun _ => False) H2 F2 P2) : Stp H F P H2 F2 (fun x => P2 x ∨ P1 x) ∧ ∀ x, P1 x → ¬ P2 x :=
  Stp.frame (s.weak (P2 := fun x => False ∨ P1 x) fun x h => h.elim False.elim id) (fun _ _ h => h) t
/-- the end of a run by an operation that only makes things -/
theorem RunG.fin {rel : Rel Hd V} {Q : V → Hp → Prop} {h : Hd} (run : RunG G W σ rel H F ow (.ok h z) Q) (st : Stp H F (Own ow) H1 F1 (Own ow1)) (s : SRep G H1 F1 σ z ow1) (t : Stp H1 F1 (fun _ => False) H2 F2 (fun x => x ∈ g)) (r : rel H2 F2 v h g) : Q v H2 := by
  obtain ⟨a1, a2⟩ := st.alloc t
  exact run v H2 F2 ow1 g (a1.weak fun x h => h.symm) (s.stp t fun _ _ h => h) r fun x hx ho => a2 x ho hx

/-! ### operations on values -/
@[simp] def ap1 (f : D → Option O) (x : Hd) (z : Zs) : R Hd := match peek x z with
  | some d => match f d with
    | some o => .ok (.tmp o) z
    | none => .bad
  | none => .bad
@[simp] def ap2 (f : D → D → Option O) (x y : Hd) (z : Zs) : R Hd := match peek x z, peek y z with
  | some d, some e => match f d e with
    | some o => .ok (.tmp o) z
    | none => .bad
  | _, _ => .bad
@[simp] def peeks : List Hd → Zs → Option (List D)
  | [], _ => some []
  | h :: hs, z => match peek h z, peeks hs z with
    | some d, some ds => some (d :: ds)
    | _, _ => none
@[simp] def apN (f : List D → Option O) (xs : List Hd) (z : Zs) : R Hd := match peeks xs z with
  | some ds => match f ds with
    | some o => .ok (.tmp o) z
    | none => .bad
  | none => .bad
inductive RepRs (G : Gx) (H : Hp) (F : Fz) : List V → List D → Prop
  | nil : RepRs G H F [] []
  | cons {v : V} {d : D} {vs : List V} {ds : List D} : RepR G H F v d → RepRs G H F vs ds → RepRs G H F (v :: vs) (d :: ds)
theorem HReps.peeks : ∀ {vs : List V} {hs : List Hd} {ds : List D} {f : List Addr}, HReps G H F σ vs hs f → SRep G H F σ z ow → peeks hs z = some ds → RepRs G H F vs ds
  | _, _, ds, _, .nil, _, e => by
    cases e; exact .nil
  | _, _, ds, _, .cons (h := h) (hs := hs) r rs _, s, e => by
    unfold Z.peeks at e
    cases e1 : peek h z with
    | none => rw [e1] at e; cases e
    | some d =>
      cases e2 : Z.peeks hs z with
      | none => rw [e1, e2] at e; cases e
      | some ds' =>
        rw [e1, e2] at e
        cases e
        exact .cons (r.peek s e1) (HReps.peeks rs s e2)
/-- what is shared is tracked -/
def FT (H : Hp) (F : Fz) : Prop := ∀ a, F a → ∃ o, H a = some o
/-- what an operation makes of values -/
def Makes (G : Gx) (H : Hp) (F : Fz) (o : O) (Q : VK) : Prop := ∀ v H' F' g, Stp H F (fun _ => False) H' F' (fun x => x ∈ g) → RepO G H' F' v o g → Q v H'
def rV1 (G : Gx) (f : D → Option O) : V → Hp → VK → Prop := fun x H Q => ∃ F d o, FT H F ∧ RepR G H F x d ∧ f d = some o ∧ Makes G H F o Q
def rV2 (G : Gx) (f : D → D → Option O) : R2 := fun x y H Q => ∃ F d e o, FT H F ∧ RepR G H F x d ∧ RepR G H F y e ∧ f d e = some o ∧ Makes G H F o Q
def rVN (G : Gx) (f : List D → Option O) : List V → Hp → VK → Prop := fun xs H Q => ∃ F ds o, FT H F ∧ RepRs G H F xs ds ∧ f ds = some o ∧ Makes G H F o Q

theorem RunG.ap1 {Q : VK} {f1 : D → Option O} {h : Hd} (run : RunG G W σ (relE G σ) H F ow (Z.ap1 f1 h z) Q) (st : Stp H F (Own ow) H1 F1 (fun x => Own ow1 x ∨ fP x)) (s : SRep G H1 F1 σ z ow1) (r : HRep G H1 F1 σ v h f) : rV1 G f1 v H1 Q := by
  unfold Z.ap1 at run
  cases e1 : peek h z with
  | none => rw [e1] at run; exact run.elim
  | some d =>
    simp only [e1] at run
    cases e2 : f1 d with
    | none => simp only [e2] at run; exact run.elim
    | some o =>
      simp only [e2] at run
      exact ⟨F1, d, o, s.ft, r.peek s e1, e2, fun v3 H3 F3 g t r3 => RunG.fin run (st.weak fun x h => .inl h) s t r3⟩
theorem RunG.ap2 {Q : VK} {f2 : D → D → Option O} {h h' : Hd} {v' : V} (run : RunG G W σ (relE G σ) H F ow (Z.ap2 f2 h h' z) Q) (st : Stp H F (Own ow) H1 F1 (fun x => Own ow1 x ∨ fP x)) (s : SRep G H1 F1 σ z ow1) (r : HRep G H1 F1 σ v h f) (r' : HRep G H1 F1 σ v' h' g) : rV2 G f2 v v' H1 Q := by
  unfold Z.ap2 at run
  cases e1 : peek h z with
  | none => rw [e1] at run; exact run.elim
  | some d =>
    cases e2 : peek h' z with
    | none => rw [e1, e2] at run; exact run.elim
    | some d' =>
      simp only [e1, e2] at run
      cases e3 : f2 d d' with
      | none => simp only [e3] at run; exact run.elim
      | some o =>
        simp only [e3] at run
        exact ⟨F1, d, d', o, s.ft, r.peek s e1, r'.peek s e2, e3, fun v3 H3 F3 g t r3 => RunG.fin run (st.weak fun x h => .inl h) s t r3⟩
theorem RunG.apN {Q : VK} {fN : List D → Option O} {hs : List Hd} {vs : List V} (run : RunG G W σ (relE G σ) H F ow (Z.apN fN hs z) Q) (st : Stp H F (Own ow) H1 F1 (fun x => Own ow1 x ∨ fP x)) (s : SRep G H1 F1 σ z ow1) (r : HReps G H1 F1 σ vs hs f) : rVN G fN vs H1 Q := by
  unfold Z.apN at run
  cases e1 : Z.peeks hs z with
  | none => rw [e1] at run; exact run.elim
  | some ds =>
    simp only [e1] at run
    cases e2 : fN ds with
    | none => simp only [e2] at run; exact run.elim
    | some o =>
      simp only [e2] at run
      exact ⟨F1, ds, o, s.ft, r.peeks s e1, e2, fun v3 H3 F3 g t r3 => RunG.fin run (st.weak fun x h => .inl h) s t r3⟩

/-- two operands, then an operation -/
theorem op2_read {m1 m2 : Zs → R Hd} {f2 : D → D → Option O} {Q : VK} (h : tZ G W (fun z => (m1 z).bind fun x z1 => (m2 z1).bind fun y z2 => Z.ap2 f2 x y z2) σ H Q) : tOp (rV2 G f2) (tZ G W m1) (tZ G W m2) σ H Q := by
  obtain ⟨z, ow, F, s, run⟩ := h
  refine ⟨z, ow, F, s, RunG.first s run fun x z1 v1 H1 F1 ow1 f1 _ st1 s1 r1 d1 run1 => ?_⟩
  refine ⟨z1, ow1, F1, s1, RunG.bind st1 d1 run1 fun y z2 v2 H2 F2 ow2 f2 _ st2 s2 r2 d2 st d run2 => ?_⟩
  exact RunG.ap2 run2 st s2 (HRep.stp r1 st2 d1) r2
theorem op1_read {m1 : Zs → R Hd} {f1 : D → Option O} {Q : VK} (h : tZ G W (fun z => (m1 z).bind fun x z1 => Z.ap1 f1 x z1) σ H Q) : tUn (rV1 G f1) (tZ G W m1) σ H Q := by
  obtain ⟨z, ow, F, s, run⟩ := h
  exact ⟨z, ow, F, s, RunG.first s run fun x z1 v1 H1 F1 ow1 f1 _ st1 s1 r1 d1 run1 => RunG.ap1 run1 st1 s1 r1⟩
theorem opN_read {mA : Zs → R (List Hd)} {fN : List D → Option O} {Q : VK} (h : tZ G W (fun z => (mA z).bind fun x z1 => Z.apN fN x z1) σ H Q) : tCB (rVN G fN) (tZA G W mA) σ H Q := by
  obtain ⟨z, ow, F, s, run⟩ := h
  exact ⟨z, ow, F, s, RunG.first s run fun x z1 v1 H1 F1 ow1 f1 _ st1 s1 r1 d1 run1 => RunG.apN run1 st1 s1 r1⟩
end
end Z
end

section
set_option maxRecDepth 100007
/-! Expressions: names, constants, operators, displays. -/
namespace Z
open PySem L2
section
variable {G : Gx} {W : WX} {σ : L2.St} {H H1 H2 H' : Hp} {F F1 F2 F' : Fz} {P P1 P2 P' fP : Addr → Prop} {z z' : Zs} {ow ow1 ow2 : Ows} {v : V} {o : O} {f g : List Addr}

theorem takeD_eq {h : Hd} {d : D} (e : takeD h z = some (d, z')) : ∃ o, take h z = some (o, z') ∧ d = o.pk := by
  unfold takeD at e
  cases q : take h z with
  | none => rw [q] at e; cases e
  | some p =>
    rw [q] at e
    simp only [Option.map_some, Option.some.injEq, Prod.mk.injEq] at e
    obtain ⟨rfl, rfl⟩ := e
    exact ⟨p.1, rfl, rfl⟩
theorem HRep.takeD {h : Hd} {d : D} (r : HRep G H F σ v h f) (s : SRep G H F σ z ow) (dj : ∀ a ∈ f, ¬ Own ow a) (nf : ∀ a ∈ f, ¬ F a) (tr : ∀ a ∈ f, ∃ u, H a = some u) (e : takeD h z = some (d, z')) :
    ∃ F' ow', SRep G H F' σ z' ow' ∧ RepD G H F' v d ∧ Stp H F (fun a => Own ow a ∨ a ∈ f) H F' (Own ow') := by
  obtain ⟨o, e2, rfl⟩ := takeD_eq e
  obtain ⟨F1, ow1, f1, s1, r1, st, dj1⟩ := r.take s dj nf tr e2
  exact ⟨Z.plus F1 f1, ow1, s1.plus dj1 r1.there, r1.freeze, st.share dj1⟩
@[simp] def takeDs : List Hd → Zs → Option (List D × Zs)
  | [], z => some ([], z)
  | h :: hs, z => match takeD h z with
    | some (d, z1) => match takeDs hs z1 with
      | some (ds, z2) => some (d :: ds, z2)
      | none => none
    | none => none
theorem HReps.takeDs : ∀ {vs : List V} {hs : List Hd} {F : Fz} {z z' : Zs} {ow : Ows} {f : List Addr} {ds : List D}, HReps G H F σ vs hs f → SRep G H F σ z ow → (∀ a ∈ f, ¬ Own ow a) → (∀ a ∈ f, ¬ F a) → (∀ a ∈ f, ∃ u, H a = some u) → Z.takeDs hs z = some (ds, z') →
    ∃ F' ow', SRep G H F' σ z' ow' ∧ RepDs G H F' vs ds ∧ Stp H F (fun a => Own ow a ∨ a ∈ f) H F' (Own ow')
  | _, _, F, z, z', ow, _, ds, .nil, s, dj, nf, tr, e => by
    cases e
    exact ⟨F, ow, s, .nil, (Stp.refl (P := fun a => Own ow a ∨ a ∈ []) (fun a h => h.elim (s.nfo a) (nf a)) (fun a h => h.elim (s.own a) (tr a)) s.ft).weak fun a h => .inl h⟩
  | _, _, F, z, z', ow, _, ds, .cons (h := h) (hs := hs) (v := v) (vs := vs) (f := f) (g := g) r rs d, s, dj, nf, tr, e => by
    unfold Z.takeDs at e
    cases e1 : Z.takeD h z with
    | none => rw [e1] at e; cases e
    | some p =>
      obtain ⟨d1, z1⟩ := p
      cases e2 : Z.takeDs hs z1 with
      | none => simp only [e1, e2] at e; cases e
      | some q =>
        obtain ⟨ds2, z2⟩ := q
        simp only [e1, e2] at e
        cases e
        obtain ⟨F1, ow1, s1, rd1, st1⟩ := r.takeD s (fun a h => dj a (by simp [h])) (fun a h => nf a (by simp [h])) (fun a h => tr a (by simp [h])) e1
        -- the rest is apart
        have dg : ∀ a ∈ g, ¬ (Own ow a ∨ a ∈ f) := fun a h q => q.elim (dj a (by simp [h])) fun q => d a q h
        have dj1 : ∀ a ∈ g, ¬ Own ow1 a := fun a h q => by
          rcases st1.fp a q with x | x
          · exact dg a h x
          · obtain ⟨u, e⟩ := tr a (by simp [h])
            rw [x] at e; cases e
        have nf1 : ∀ a ∈ g, ¬ F1 a := fun a h q => by
          rcases st1.fr a q with x | x | x
          · exact nf a (by simp [h]) x
          · exact dg a h x
          · obtain ⟨u, e⟩ := tr a (by simp [h])
            rw [x] at e; cases e
        obtain ⟨F2, ow2, s2, rds, st2⟩ := HReps.takeDs (rs.stp st1 dg) s1 dj1 nf1 (fun a h => tr a (by simp [h])) e2
        refine ⟨F2, ow2, s2, .cons (rd1.lat st2.lat) rds, ?_⟩
        have t1 : Stp H F (fun a => Own ow a ∨ a ∈ f ++ g) H F1 (fun a => Own ow1 a ∨ a ∈ g) := by
          refine ⟨st1.lat, st1.there, fun a o np e => st1.stay a o (fun q => np (q.elim .inl fun q => .inr (by simp [q]))) e, fun a h => ?_, fun a h => ?_, fun a h => h.elim (st1.nf a) (nf1 a), fun a h => h.elim (st1.tr a) fun h => tr a (by simp [h]), st1.ft⟩
          · rcases st1.fr a h with x | x | x
            · exact .inl x
            · exact .inr (.inl (x.elim .inl fun x => .inr (by simp [x])))
            · exact .inr (.inr x)
          · rcases h with h | h
            · rcases st1.fp a h with x | x
              · exact .inl (x.elim .inl fun x => .inr (by simp [x]))
              · exact .inr x
            · exact .inl (.inr (by simp [h]))
        exact t1.trans st2
end

/-! ### arguments, names, constants -/
section
variable {G : Gx} {W : WX} {X : Cx} {a b e : Expr} {es : List Expr} {pos : Pos} {m1 m2 m3 : Zs → R Hd} {mA mB : Zs → R (List Hd)}
@[simp] def evNil : Zs → R (List Hd) := fun z => .ok [] z
@[simp] def evCons (m1 : Zs → R Hd) (mA : Zs → R (List Hd)) : Zs → R (List Hd) := fun z => (m1 z).bind fun x z1 => (mA z1).bind fun xs z2 => .ok (x :: xs) z2
theorem za_nil : PA X [] (tZA G W evNil) := PA.imp pa_nil fun σ H Q h => by
  obtain ⟨z, ow, F, s, run⟩ := h
  exact run [] H F ow [] (s.refl.weak fun x h => h.elim id fun h => by cases h) s .nil fun x h => by cases h
theorem za_cons (ha : PE X e (tZ G W m1)) (hr : PA X es (tZA G W mA)) (hs : starEach (e :: es) X.env = (false, eval e X.env) :: starEach es X.env) : PA X (e :: es) (tZA G W (evCons m1 mA)) := PA.imp (pa_cons ha hr hs) fun σ H Q h => by
  obtain ⟨z, ow, F, s, run⟩ := h
  refine ⟨z, ow, F, s, RunG.first s run fun x z1 v1 H1 F1 ow1 f1 _ st1 s1 r1 d1 run1 => ?_⟩
  refine ⟨z1, ow1, F1, s1, RunG.bind st1 d1 run1 fun y z2 v2 H2 F2 ow2 f2 _ st2 s2 r2 d2 st d run2 => ?_⟩
  refine run2 (v1 :: v2) H2 F2 ow2 (f1 ++ f2) (st.weak fun x h => ?_) s2 (.cons (HRep.stp r1 st2 d1) r2 fun x h => (d x h).2) fun x h => ?_
  · rcases h with h | h
    · exact .inl h
    · rcases List.mem_append.mp h with h | h
      · exact .inr (.inr h)
      · exact .inr (.inl h)
  · rcases List.mem_append.mp h with h | h
    · exact (d x h).1
    · exact d2 x h
@[simp] def evSlot (i : Nat) : Zs → R Hd := fun z => match rd z i with
  | some _ => .ok (.slot i) z
  | none => .bad
theorem z_name {i : Nat} {x : Str} (hN : X.N[i]? = some x) (hv : Vis X.env.scope x) (hd : (x == ("__debug__" : Str)) = false) (hcd : (x == ("__classdict__" : Str)) = false) : PE X (.Name x pos) (tZ G W (evSlot i)) := PE.imp (pe_var hN hv hd hcd) fun σ H Q h => by
  obtain ⟨z, ow, F, s, run⟩ := h
  unfold evSlot at run
  cases e : rd z i with
  | none => simp only [e] at run; exact run.elim
  | some o =>
    simp only [e] at run
    obtain ⟨v, e1, _⟩ := s.rep i o e
    exact ⟨v, e1, run v H F ow [] (s.refl.weak fun x h => h.elim id fun h => by cases h) s ⟨rfl, e1⟩ fun x h => by cases h⟩
@[simp] def evD (d : D) : Zs → R Hd := fun z => .ok (.tmp (.val d)) z
/-- a constant -/
theorem z_const {v : V} {d : D} (he : PE X e (tC v)) (hr : ∀ H F, RepD G H F v d) : PE X e (tZ G W (evD d)) := PE.imp he fun σ H Q h => by
  obtain ⟨z, ow, F, s, run⟩ := h
  exact run v H F ow [] (s.refl.weak fun x h => h.elim id fun h => by cases h) s (RepO.val (hr H F)) fun x h => by cases h
theorem z_int {i j} : PE X (.Constant (.int i) j pos) (tZ G W (evD (.int i))) := z_const pe_int fun _ _ => .int i
theorem z_bool {i j} : PE X (.Constant (.bool i) j pos) (tZ G W (evD (.bl i))) := z_const pe_bl fun _ _ => .bl i
theorem z_none {j} : PE X (.Constant .none j pos) (tZ G W (evD .non)) := z_const pe_non fun _ _ => .non
theorem z_str {x : List Nat} {j} (h : txtOk x = true) : PE X (.Constant (.str ⟨x.toArray⟩) j pos) (tZ G W (evD (.str x))) := z_const pe_str fun _ _ => .str h
/-! ### operators -/
@[simp] def evOp2 (f : D → D → Option O) (m1 m2 : Zs → R Hd) : Zs → R Hd := fun z => (m1 z).bind fun x z1 => (m2 z1).bind fun y z2 => ap2 f x y z2
@[simp] def evOp1 (f : D → Option O) (m1 : Zs → R Hd) : Zs → R Hd := fun z => (m1 z).bind fun x z1 => ap1 f x z1
@[simp] def evOpN (f : List D → Option O) (mA : Zs → R (List Hd)) : Zs → R Hd := fun z => (mA z).bind fun x z1 => apN f x z1
theorem z_bin {op : Operator} {f2 : D → D → Option O} (ho : OpR X (binaryOp op) (rV2 G f2)) (ha : PE X a (tZ G W m1)) (hb : PE X b (tZ G W m2)) : PE X (.BinOp a op b pos) (tZ G W (evOp2 f2 m1 m2)) := PE.imp (pe_op ho ha hb) fun _ _ _ h => op2_read h
theorem z_un {op : UnaryOp} {f1 : D → Option O} (ho : UnR X (unaryOp op) (rV1 G f1)) (ha : PE X a (tZ G W m1)) : PE X (.UnaryOp op a pos) (tZ G W (evOp1 f1 m1)) := PE.imp (pe_un ho ha) fun _ _ _ h => op1_read h
theorem z_cmp {op : CmpOp} {f2 : D → D → Option O} (ho : OpR X (compareOp op) (rV2 G f2)) (ha : PE X a (tZ G W m1)) (hb : PE X b (tZ G W m2)) (hm : behindInMarks op b = false) : PE X (.Compare a [op] [b] pos) (tZ G W (evOp2 f2 m1 m2)) := PE.imp (pe_cmpR ho ha hb hm) fun _ _ _ h => op2_read h
theorem z_callB {id : String} {x : Str} {p : Pos} {fN : List D → Option O} (hc : CallR X (.builtin id) (rVN G fN)) (hg : Gl X x) (hm : X.mg x = none) (hv : bootBuiltins x = some (.builtin id)) (ha : PA X (e :: es) (tZA G W mA)) (hn : x ≠ "__name__") (hdb : (x == ("__debug__" : Str)) = false)
    (he : starEach (e :: es) X.env = (false, eval e X.env) :: starEach es X.env) (hpl : (backTo pos (starEach es X.env)).any (·.1) = false) : PE X (.Call (.Name x p) (e :: es) [] pos) (tZ G W (evOpN fN mA)) :=
  PE.imp (pe_callB hc hg hm hv ha hn hdb he hpl) fun _ _ _ h => opN_read h
theorem z_callTy {T : String} {x : Str} {p : Pos} {fN : List D → Option O} (hc : CallR X (.type T) (rVN G fN)) (hg : Gl X x) (hm : X.mg x = none) (hv : bootBuiltins x = some (.type T)) (ha : PA X (e :: es) (tZA G W mA)) (hn : x ≠ "__name__") (hdb : (x == ("__debug__" : Str)) = false)
    (he : starEach (e :: es) X.env = (false, eval e X.env) :: starEach es X.env) (hpl : (backTo pos (starEach es X.env)).any (·.1) = false) : PE X (.Call (.Name x p) (e :: es) [] pos) (tZ G W (evOpN fN mA)) :=
  PE.imp (pe_callTy hc hg hm hv ha hn hdb he hpl) fun _ _ _ h => opN_read h
end
end Z
end

section
set_option maxRecDepth 100007
/-! Operations on values: what they make, and that the machine does so. -/
namespace Z
open PySem L2 PyProof.Rows
/-! ### data -/
mutual
def toP : D → PyData
  | .non => .none | .bl b => .bool b | .int i => .int i | .str x => .str ⟨x.toArray⟩
  | .tup ds => .tuple (toPs ds)
  | .lst ds => .list (toPs ds)
  | _ => .none
def toPs : List D → List PyData
  | [] => []
  | d :: ds => toP d :: toPs ds
end
/-- plain data of depth at most n -/
def flat : D → Bool
  | .non => true | .bl _ => true | .int _ => true | .str _ => true
  | _ => false
def plainN : Nat → D → Bool
  | 0, d => flat d
  | n + 1, d => match d with
    | .tup ds => ds.all (plainN n)
    | .lst ds => ds.all (plainN n)
    | d => flat d
theorem plainN_nest {n : Nat} {d : D} (h : plainN n d = true) : flat d = true ∨ (∃ m ds, n = m + 1 ∧ (d = .tup ds ∨ d = .lst ds) ∧ ds.all (plainN m) = true) := by
  cases n with
  | zero => exact .inl h
  | succ n =>
    cases d with
    | tup ds => exact .inr ⟨n, ds, rfl, .inl rfl, h⟩
    | lst ds => exact .inr ⟨n, ds, rfl, .inr rfl, h⟩
    | _ => exact .inl h
theorem str_beq (a b : List Nat) : ((⟨a.toArray⟩ : Str) == ⟨b.toArray⟩) = (a == b) := by
  by_cases h : a = b
  · subst h; simp
  · have : ¬ (⟨a.toArray⟩ : Str) = ⟨b.toArray⟩ := fun e => h (by
      have := congrArg (fun s : Str => s.cps.toList) e
      simpa using this)
    rw [beq_eq_false_iff_ne.mpr this, beq_eq_false_iff_ne.mpr h]
mutual
theorem eqv_toP : ∀ (n m : Nat) (d e : D), plainN n d = true → plainN m e = true → PyData.eqv (toP d) (toP e) = eqD d e
  | n, m, d, e, hd, he => by
    rcases plainN_nest hd with fd | ⟨n', ds, rfl, hd' | hd', ad⟩
    · rcases plainN_nest he with fe | ⟨m', es, rfl, he' | he', ae⟩
      · cases d <;> simp only [flat, Bool.false_eq_true] at fd <;> cases e <;> simp only [flat, Bool.false_eq_true] at fe <;> simp only [toP, PyData.eqv, eqD]
        exact str_beq _ _
      · subst he'; cases d <;> simp only [flat, Bool.false_eq_true] at fd <;> simp only [toP, PyData.eqv, eqD]
      · subst he'; cases d <;> simp only [flat, Bool.false_eq_true] at fd <;> simp only [toP, PyData.eqv, eqD]
    · subst hd'
      rcases plainN_nest he with fe | ⟨m', es, rfl, he' | he', ae⟩
      · cases e <;> simp only [flat, Bool.false_eq_true] at fe <;> simp only [toP, PyData.eqv, eqD]
      · subst he'
        simp only [toP, PyData.eqv, eqD]
        exact eqvAll_toPs n' m' ds es ad ae
      · subst he'; simp only [toP, PyData.eqv, eqD]
    · subst hd'
      rcases plainN_nest he with fe | ⟨m', es, rfl, he' | he', ae⟩
      · cases e <;> simp only [flat, Bool.false_eq_true] at fe <;> simp only [toP, PyData.eqv, eqD]
      · subst he'; simp only [toP, PyData.eqv, eqD]
      · subst he'
        simp only [toP, PyData.eqv, eqD]
        exact eqvAll_toPs n' m' ds es ad ae
  termination_by n _ _ _ => (n, 0)
theorem eqvAll_toPs : ∀ (n m : Nat) (ds es : List D), ds.all (plainN n) = true → es.all (plainN m) = true → PyData.eqvAll (toPs ds) (toPs es) = eqDs ds es
  | n, m, [], [], _, _ => by simp only [toPs, PyData.eqvAll, eqDs]
  | n, m, [], _ :: _, _, _ => by simp only [toPs, PyData.eqvAll, eqDs]
  | n, m, _ :: _, [], _, _ => by simp only [toPs, PyData.eqvAll, eqDs]
  | n, m, d :: ds, e :: es, hd, he => by
    rw [List.all_cons, Bool.and_eq_true] at hd he
    simp only [toPs, PyData.eqvAll, eqDs]
    rw [eqv_toP n m d e hd.1 he.1, eqvAll_toPs n m ds es hd.2 he.2]
  termination_by n _ ds _ => (n, ds.length + 1)
end
theorem strOk_eq (x : List Nat) : PyData.strOk (⟨x.toArray⟩ : Str) = txtOk x := by
  unfold PyData.strOk txtOk
  simp
section
variable {G : Gx} {H H1 H2 H' : Hp} {F F1 F2 F' : Fz} {v : V} {d : D}
mutual
theorem dp_of : ∀ (n : Nat) {v : V} {d : D}, RepD G H F v d → plainN n d = true → Dp G.K H v (toP d) ∧ (toP d).canLay0 = true ∧ (toP d).depth ≤ n
  | n, _, _, .non, _ => ⟨by simp only [toP]; exact .non, by simp only [toP, PyData.canLay0], by simp only [toP, PyData.depth]; omega⟩
  | n, _, _, .bl b, _ => ⟨by simp only [toP]; exact .bl b, by simp only [toP, PyData.canLay0], by simp only [toP, PyData.depth]; omega⟩
  | n, _, _, .int i, _ => ⟨by simp only [toP]; exact .int i, by simp only [toP, PyData.canLay0], by simp only [toP, PyData.depth]; omega⟩
  | n, _, _, .str (x := x) h, _ => ⟨by simp only [toP]; exact .str _, by simp only [toP, PyData.canLay0]; rw [strOk_eq]; exact h, by simp only [toP, PyData.depth]; omega⟩
  | n, _, _, .tup h r, p => by
    cases n with
    | zero => cases p
    | succ n =>
      obtain ⟨a, b, c⟩ := dp_ofs n r p
      exact ⟨by simp only [toP]; exact .tup h.sq a, by simp only [toP, PyData.canLay0]; exact b, by simp only [toP, PyData.depth]; omega⟩
  | n, _, _, .lst f h r, p => by
    cases n with
    | zero => cases p
    | succ n =>
      obtain ⟨a, b, c⟩ := dp_ofs n r p
      exact ⟨by simp only [toP]; exact .lst (SqL.of h) a, by simp only [toP, PyData.canLay0]; exact b, by simp only [toP, PyData.depth]; omega⟩
  | n, _, _, .obj _ _ _, p => by cases n <;> cases p
  | n, _, _, .dct _ _ _, p => by cases n <;> cases p
  | n, _, _, .dctT _ _ _, p => by cases n <;> cases p
  | n, _, _, .scr _, p => by cases n <;> cases p
theorem dp_ofs : ∀ (n : Nat) {vs : List V} {ds : List D}, RepDs G H F vs ds → ds.all (plainN n) = true → DpAll G.K H vs (toPs ds) ∧ PyData.canLayAll0 (toPs ds) = true ∧ PyData.depthAll (toPs ds) ≤ n
  | n, _, _, .nil, _ => ⟨by simp only [toPs]; exact .nil, by simp only [toPs, PyData.canLayAll0], by simp only [toPs, PyData.depthAll]; omega⟩
  | n, _, _, .cons h r, p => by
    rw [List.all_cons, Bool.and_eq_true] at p
    obtain ⟨a, b, c⟩ := dp_of n h p.1
    obtain ⟨a', b', c'⟩ := dp_ofs n r p.2
    exact ⟨by simp only [toPs]; exact .cons a a', by simp only [toPs, PyData.canLayAll0, b, b', Bool.and_self], by simp only [toPs, PyData.depthAll]; omega⟩
end
theorem dp_ofR (n : Nat) (r : RepR G H F v d) (p : plainN n d = true) : Dp G.K H v (toP d) ∧ (toP d).canLay0 = true ∧ (toP d).depth ≤ n := by
  cases r with
  | of r => exact dp_of n r p
  | lst h r =>
    cases n with
    | zero => cases p
    | succ n =>
      obtain ⟨a, b, c⟩ := dp_ofs n r p
      exact ⟨by simp only [toP]; exact .lst (SqL.of h) a, by simp only [toP, PyData.canLay0]; exact b, by simp only [toP, PyData.depth]; omega⟩
  | obj _ _ => cases n <;> cases p
  | dct _ _ => cases n <;> cases p
  | dctT _ _ => cases n <;> cases p
theorem shaped_of {n : Nat} {p : PyData} (h : p.canLay0 = true) (d : p.depth ≤ n) (hn : n ≤ 64) : SeqAt.shaped p = true := by
  unfold SeqAt.shaped
  rw [h, Bool.true_and]
  exact decide_eq_true (by omega)
/-! ### what is made -/
theorem Makes.val {o : D} {Q : VK} (m : Makes G H F (.val o) Q) (ft : FT H F) (r : RepD G H F v o) : Q v H :=
  m v H F [] ⟨Lat.refl, fun a o e => ⟨o, e⟩, fun _ _ _ e => e, fun _ h => .inl h, fun _ h => (by cases h), fun _ h => (by cases h), fun _ h => (by cases h), ft⟩ (.val r)
theorem ext_new {p : Addr} {u : HO} (hp : H p = none) : ∀ a o, H a = some o → upd H p u a = some o := fun a o e => by
  rw [upd_ne (ne_of_none e hp)]; exact e
theorem lat_new {p : Addr} {u : HO} (hp : H p = none) : Lat H F (upd H p u) F := ⟨fun _ h => h, fun a o _ e => ext_new hp a o e⟩
/-- a new object that is owned -/
theorem stp_new {p : Addr} {u : HO} (ft : FT H F) (hp : H p = none) : Stp H F (fun _ => False) (upd H p u) F (fun x => x ∈ [p]) := by
  refine ⟨lat_new hp, fun a o e => ⟨o, ext_new hp a o e⟩, fun a o _ e => ext_new hp a o e, fun _ h => .inl h, fun a h => ?_, fun a h q => ?_, fun a h => ?_, fun a h => ?_⟩
  · rw [List.mem_singleton.mp h]; exact .inr hp
  · rw [List.mem_singleton.mp h] at q
    obtain ⟨o, e⟩ := ft p q
    rw [hp] at e; cases e
  · rw [List.mem_singleton.mp h]; exact ⟨_, upd_same⟩
  · obtain ⟨o, e⟩ := ft a h
    exact ⟨o, ext_new hp a o e⟩
/-- a new object that is shared at once -/
theorem stp_newF {p : Addr} {u : HO} (ft : FT H F) (hp : H p = none) : Stp H F (fun _ => False) (upd H p u) (plus F [p]) (fun x => x ∈ ([] : List Addr)) := by
  refine ⟨⟨fun _ h => .inl h, fun a o _ e => ext_new hp a o e⟩, fun a o e => ⟨o, ext_new hp a o e⟩, fun a o _ e => ext_new hp a o e, fun a h => ?_, fun a h => (by cases h), fun a h q => (by cases h), fun a h => (by cases h), fun a h => ?_⟩
  · rcases h with h | h
    · exact .inl h
    · rw [List.mem_singleton.mp h]; exact .inr (.inr hp)
  · rcases h with h | h
    · obtain ⟨o, e⟩ := ft a h
      exact ⟨o, ext_new hp a o e⟩
    · rw [List.mem_singleton.mp h]; exact ⟨_, upd_same⟩
theorem Makes.lst {ds : List D} {vs : List V} {Q : VK} (m : Makes G H F (.lst ds) Q) (ft : FT H F) (r : RepDs G H F vs ds) : ∀ p, H p = none → Q (.ref p) (upd H p (.lst vs)) := fun p hp =>
  m _ _ F [p] (stp_new ft hp) (.lst upd_same (r.lat (lat_new hp)))
theorem Makes.tup {ds : List D} {vs : List V} {Q : VK} (m : Makes G H F (.val (.tup ds)) Q) (ft : FT H F) (r : RepDs G H F vs ds) : ∀ p, H p = none → Q (.ref p) (upd H p (.tup vs)) := fun p hp =>
  m _ _ (plus F [p]) [] (stp_newF ft hp) (.val (.tup (.inl ⟨.inr (by simp), upd_same⟩) (r.lat ⟨fun _ h => .inl h, fun a o _ e => ext_new hp a o e⟩)))
theorem Makes.val' {o : D} {Q : VK} (m : Makes G H F (.val o) Q) (ft : FT H F) (r : ∀ F, RepD G H F v o) : Q v H := m.val ft (r F)

/-! ### lists of values -/
theorem RepDs.length {vs : List V} {ds : List D} (r : RepDs G H F vs ds) : vs.length = ds.length := by
  induction ds generalizing vs with
  | nil => cases r; rfl
  | cons d ds ih => cases r with | cons h r => rw [List.length_cons, List.length_cons, ih r]
theorem RepDs.append {vs ws : List V} {ds es : List D} (r : RepDs G H F vs ds) (s : RepDs G H F ws es) : RepDs G H F (vs ++ ws) (ds ++ es) := by
  induction ds generalizing vs with
  | nil => cases r; exact s
  | cons d ds ih => cases r with | cons h r => exact .cons h (ih r)
theorem RepDs.get {vs : List V} {ds : List D} {i : Nat} {d : D} (r : RepDs G H F vs ds) (e : ds[i]? = some d) : ∃ v, vs[i]? = some v ∧ RepD G H F v d := by
  induction ds generalizing vs i with
  | nil => simp at e
  | cons d0 ds ih =>
    cases r with
    | cons h r =>
      cases i with
      | zero => simp at e; subst e; exact ⟨_, rfl, h⟩
      | succ i =>
        obtain ⟨v, e1, r1⟩ := ih r (by simpa using e)
        exact ⟨v, by simpa using e1, r1⟩
theorem RepDs.take {vs : List V} {ds : List D} (r : RepDs G H F vs ds) (n : Nat) : RepDs G H F (vs.take n) (ds.take n) := by
  induction ds generalizing vs n with
  | nil => cases r; simp; exact .nil
  | cons d0 ds ih =>
    cases r with
    | cons h r =>
      cases n with
      | zero => exact .nil
      | succ n => exact .cons h (ih r n)
theorem RepDs.drop {vs : List V} {ds : List D} (r : RepDs G H F vs ds) (n : Nat) : RepDs G H F (vs.drop n) (ds.drop n) := by
  induction ds generalizing vs n with
  | nil => cases r; simp; exact .nil
  | cons d0 ds ih =>
    cases r with
    | cons h r =>
      cases n with
      | zero => exact .cons h r
      | succ n => exact ih r n
theorem RepDs.set {vs : List V} {ds : List D} {d : D} (r : RepDs G H F vs ds) (n : Nat) (h : RepD G H F v d) : RepDs G H F (vs.set n v) (ds.set n d) := by
  induction ds generalizing vs n with
  | nil => cases r; exact .nil
  | cons d0 ds ih =>
    cases r with
    | cons h0 r =>
      cases n with
      | zero => exact .cons h r
      | succ n => exact .cons h0 (ih r n)
theorem RepDs.map {vs : List V} {α : Type} {g : α → V} {k : α → D} (hk : ∀ a, RepD G H F (g a) (k a)) : ∀ xs : List α, RepDs G H F (xs.map g) (xs.map k)
  | [] => .nil
  | x :: xs => .cons (hk x) (RepDs.map (vs := vs) hk xs)
theorem RepDs.reverse {vs : List V} {ds : List D} (r : RepDs G H F vs ds) : RepDs G H F vs.reverse ds.reverse := by
  induction ds generalizing vs with
  | nil => cases r; exact .nil
  | cons d ds ih =>
    cases r with
    | cons h r =>
      rw [List.reverse_cons, List.reverse_cons]
      exact (ih r).append (.cons h .nil)
end
end Z
end

section
set_option maxRecDepth 100007
/-! Operators by trees, and that the machine does so. -/
namespace Z
open PySem L2 PyProof.Rows
section
variable {G : Gx} {H : Hp} {F : Fz} {v : V} {d : D}
theorem RepR.int {i : Int} (r : RepR G H F v (.int i)) : v = .int i := by
  cases r with | of r => cases r; rfl
theorem RepR.bl {b : Bool} (r : RepR G H F v (.bl b)) : v = .bl b := by
  cases r with | of r => cases r; rfl
theorem RepR.non (r : RepR G H F v .non) : v = .non := by
  cases r with | of r => cases r; rfl
theorem RepR.str {x : List Nat} (r : RepR G H F v (.str x)) : v = .str ⟨x.toArray⟩ ∧ txtOk x = true := by
  cases r with | of r => cases r with | str h => exact ⟨rfl, h⟩
theorem RepR.lsts {ds : List D} (r : RepR G H F v (.lst ds)) : ∃ a vs, v = .ref a ∧ H a = some (.lst vs) ∧ RepDs G H F vs ds := by
  cases r with
  | of r => cases r with | lst f h r => exact ⟨_, _, rfl, h, r⟩
  | lst h r => exact ⟨_, _, rfl, h, r⟩
theorem RepR.tups {ds : List D} (r : RepR G H F v (.tup ds)) : ∃ a vs, v = .ref a ∧ TupAt G.K H F a vs ∧ RepDs G H F vs ds := by
  cases r with
  | of r => cases r with | tup h r => exact ⟨_, _, rfl, h, r⟩
theorem RepR.objs {c : Nat} {fs : List (Nat × D)} (r : RepR G H F v (.obj c fs)) : ∃ a dx fvs, v = .ref a ∧ H a = some (.ins (G.cls c) dx fvs) ∧ RepFs G H F fvs fs := by
  cases r with
  | of r => cases r with | obj f h r => exact ⟨_, _, _, rfl, h, r⟩
  | obj h r => exact ⟨_, _, _, rfl, h, r⟩
theorem RepR.scrs {ns : List Int} (r : RepR G H F v (.scr ns)) : ∃ a, v = .ref a ∧ SqL G.K H a (ns.map V.int) := by
  cases r with
  | of r => cases r with
    | scr h => exact ⟨_, rfl, h.elim (fun h => .inl h.2) .inr⟩
end

def MulOk (i j : Int) : Prop := ((-(2 ^ 64) < i ∧ i < 2 ^ 64) ∨ (-(2 ^ 64) < j ∧ j < 2 ^ 64)) ∨ i.natAbs.log2 + j.natAbs.log2 < 1000000
instance (i j : Int) : Decidable (MulOk i j) := inferInstanceAs (Decidable (_ ∨ _))
@[simp] def arith (op : Bop) (i j : Int) : Option Int := match op with
  | .add => some (i + j)
  | .sub => some (i - j)
  | .mul => if MulOk i j then some (i * j) else none
  | .fdiv => if 0 < j ∧ j.natAbs.log2 < 9000 then some (i / j) else if j < 0 ∧ j.natAbs < 1073741824 then some (i.fdiv j) else none
  | .mod => if 0 < j then some (i % j) else if j < 0 then some (i.fmod j) else none
  | .pow => if 0 ≤ j ∧ j ≤ 1000000 ∧ i.natAbs < 2 ^ 64 then some (i ^ j.toNat) else none
  | .shl => if 0 ≤ j ∧ j ≤ 1000000 ∧ i.natAbs < 2 ^ 64 then some (i * 2 ^ j.toNat) else none
  | .shr => if 0 ≤ j then some (i / 2 ^ j.toNat) else none
  | .band => some (Builtin.bitAnd i j)
  | .bor => some (Builtin.bitOr i j)
  | .bxor => some (Builtin.bitXor i j)
@[simp] def binOp (op : Bop) : D → D → Option O
  | .int i, .int j => (arith op i j).map fun n => .val (.int n)
  | .str a, .str b => if op = .add ∧ a.length + b.length ≤ sizeLine then some (.val (.str (a ++ b))) else none
  | .lst a, .lst b => if op = .add ∧ a.length + b.length ≤ sizeLine then some (.lst (a ++ b)) else none
  | .tup a, .tup b => if op = .add ∧ a.isEmpty = false ∧ a.length + b.length ≤ sizeLine then some (.val (.tup (a ++ b))) else none
  | .lst a, .int k => if op = .mul ∧ -(2 ^ 63) ≤ k ∧ k < 2 ^ 63 ∧ a.length * k.toNat ≤ sizeLine then some (.lst (List.replicate k.toNat a).flatten) else none
  | .int i, .bl b => if op = .add then some (.val (.int (i + if b then 1 else 0))) else none
  | .str a, .int k => if op = .mul ∧ 1 ≤ k ∧ k < 2 ^ 31 ∧ a.length * k.toNat ≤ sizeLine then some (.val (.str (List.replicate k.toNat a).flatten)) else none
  | _, _ => none
def opOf : Bop → Operator
  | .add => .Add | .sub => .Sub | .mul => .Mult | .fdiv => .FloorDiv | .mod => .Mod | .pow => .Pow | .shl => .LShift | .shr => .RShift | .band => .BitAnd | .bor => .BitOr | .bxor => .BitXor

section
variable {G : Gx} {X : Cx}
/-- an operation on two ints alone -/
theorem opII {f : Value → Value → Sem Value} {op : Bop} (hop : op ≠ .add) (hop2 : op ≠ .mul) (h : ∀ i j n, arith op i j = some n → ∀ (pins : List (Addr × Obj)) (s : Shared) (σ : L2.St) (H : Hp) (v u : Value) (Q : VK), Inv X pins σ H s → RelV (.int i) v → RelV (.int j) u → Q (.int n) H →
    wpAny (model X.prog X.w) X.A (f v u) (EP X pins σ Q) X.xe s) : OpR X f (rV2 G (binOp op)) := by
  intro pins s σ H x y v u Q I rx ry hh
  obtain ⟨F, d, e, o, ft, rd, re, hf, mk⟩ := hh
  cases d <;> cases e <;> simp only [binOp, hop, hop2, false_and, if_false, reduceCtorEq] at hf
  rename_i i j
  cases ha : arith op i j with
  | none => rw [ha] at hf; cases hf
  | some n =>
    rw [ha] at hf
    cases hf
    cases rd.int
    cases re.int
    exact h i j n ha pins s σ H v u Q I rx ry (mk.val ft (.int n))
theorem b_sub : OpR X (binaryOp .Sub) (rV2 G (binOp .sub)) := opII (by decide) (by decide) fun i j n e pins s σ H v u Q I rx ry q => by
  cases e
  exact op_sub pins s σ H _ _ v u Q I rx ry ⟨i, j, rfl, rfl, q⟩
theorem b_fdiv : OpR X (binaryOp .FloorDiv) (rV2 G (binOp .fdiv)) := opII (by decide) (by decide) fun i j n e pins s σ H v u Q I rx ry q => by
  simp only [arith] at e
  split at e
  · rename_i h
    cases e
    exact op_fdivW pins s σ H _ _ v u Q I rx ry ⟨i, j, rfl, rfl, h, q⟩
  · split at e
    · rename_i h
      cases e
      exact op_fdivN pins s σ H _ _ v u Q I rx ry ⟨i, j, rfl, rfl, ⟨by omega, h.2⟩, q⟩
    · cases e
theorem b_mod : OpR X (binaryOp .Mod) (rV2 G (binOp .mod)) := opII (by decide) (by decide) fun i j n e pins s σ H v u Q I rx ry q => by
  simp only [arith] at e
  split at e
  · rename_i h
    cases e
    exact op_mod pins s σ H _ _ v u Q I rx ry ⟨i, j, rfl, rfl, h, q⟩
  · split at e
    · rename_i h
      cases e
      exact op_modN pins s σ H _ _ v u Q I rx ry ⟨i, j, rfl, rfl, by omega, q⟩
    · cases e
theorem b_pow : OpR X (binaryOp .Pow) (rV2 G (binOp .pow)) := opII (by decide) (by decide) fun i j n e pins s σ H v u Q I rx ry q => by
  simp only [arith] at e
  split at e
  · rename_i h
    cases e
    exact op_pow pins s σ H _ _ v u Q I rx ry ⟨i, j, rfl, rfl, h, q⟩
  · cases e
theorem b_shl : OpR X (binaryOp .LShift) (rV2 G (binOp .shl)) := opII (by decide) (by decide) fun i j n e pins s σ H v u Q I rx ry q => by
  simp only [arith] at e
  split at e
  · rename_i h
    cases e
    exact op_shl pins s σ H _ _ v u Q I rx ry ⟨i, j, rfl, rfl, h, q⟩
  · cases e
theorem b_shr : OpR X (binaryOp .RShift) (rV2 G (binOp .shr)) := opII (by decide) (by decide) fun i j n e pins s σ H v u Q I rx ry q => by
  simp only [arith] at e
  split at e
  · rename_i h
    cases e
    exact op_shr pins s σ H _ _ v u Q I rx ry ⟨i, j, rfl, rfl, h, q⟩
  · cases e
theorem b_and : OpR X (binaryOp .BitAnd) (rV2 G (binOp .band)) := opII (by decide) (by decide) fun i j n e pins s σ H v u Q I rx ry q => by
  cases e
  exact op_and pins s σ H _ _ v u Q I rx ry ⟨i, j, rfl, rfl, q⟩
theorem b_or : OpR X (binaryOp .BitOr) (rV2 G (binOp .bor)) := opII (by decide) (by decide) fun i j n e pins s σ H v u Q I rx ry q => by
  cases e
  exact op_or pins s σ H _ _ v u Q I rx ry ⟨i, j, rfl, rfl, q⟩
theorem b_xor : OpR X (binaryOp .BitXor) (rV2 G (binOp .bxor)) := opII (by decide) (by decide) fun i j n e pins s σ H v u Q I rx ry q => by
  cases e
  exact op_xor pins s σ H _ _ v u Q I rx ry ⟨i, j, rfl, rfl, q⟩
theorem txtOk_append {a b : List Nat} (h : txtOk a = true) (k : txtOk b = true) : txtOk (a ++ b) = true := by
  unfold txtOk at *; rw [List.all_append, h, k]; rfl
theorem str_append (a b : List Nat) : (⟨a.toArray⟩ : Str) ++ ⟨b.toArray⟩ = ⟨(a ++ b).toArray⟩ := by
  show Str.append _ _ = _
  unfold Str.append
  simp
theorem str_len (a : List Nat) : (⟨a.toArray⟩ : Str).length = a.length := by
  unfold Str.length; simp
theorem b_add (hK : G.K = X.K) : OpR X (binaryOp .Add) (rV2 G (binOp .add)) := by
  intro pins s σ H x y v u Q I rx ry hh
  obtain ⟨F, d, e, o, ft, rd, re, hf, mk⟩ := hh
  cases d <;> cases e <;> simp only [binOp, true_and, if_true, reduceCtorEq, false_and, if_false] at hf
  · rename_i i b
    cases hf
    cases rd.int
    cases re.bl
    refine op_add_ib pins s σ H _ _ v u Q I rx ry ⟨i, b, rfl, rfl, ?_⟩
    have := mk.val ft (.int _)
    cases b <;> exact this
  · rename_i i j
    simp only [arith, Option.map_some, Option.some.injEq] at hf
    subst hf
    cases rd.int
    cases re.int
    exact op_add pins s σ H _ _ v u Q I rx ry ⟨i, j, rfl, rfl, mk.val ft (.int _)⟩
  · rename_i a b
    split at hf
    · rename_i h
      cases hf
      obtain ⟨rfl, t1⟩ := rd.str
      obtain ⟨rfl, t2⟩ := re.str
      refine op_add_str pins s σ H _ _ v u Q I rx ry ⟨_, _, rfl, rfl, by rw [str_len, str_len]; exact h, ?_⟩
      rw [str_append]
      exact mk.val ft (.str (txtOk_append t1 t2))
    · cases hf
  · rename_i a b
    split at hf
    · rename_i h
      cases hf
      obtain ⟨p, vs, rfl, hp, r1⟩ := rd.tups
      obtain ⟨p', ws, rfl, hp', r2⟩ := re.tups
      have l1 := r1.length
      have l2 := r2.length
      refine op_catT pins s σ H _ _ v u Q I rx ry ⟨p, p', vs, ws, rfl, rfl, hK ▸ hp.sq, hK ▸ hp'.sq, ?_, by omega, fun e => ?_, fun e q hq => ?_⟩
      · intro e
        subst e
        cases a with
        | nil => exact absurd h.1 (by decide)
        | cons _ _ => cases l1
      · subst e
        have : b = [] := by cases b with | nil => rfl | cons _ _ => cases l2
        subst this
        rw [List.append_nil] at mk
        exact mk.val ft (.tup hp r1)
      · exact mk.tup ft (r1.append r2) q hq
    · cases hf
  · rename_i a b
    split at hf
    · rename_i h
      cases hf
      obtain ⟨p, vs, rfl, hp, r1⟩ := rd.lsts
      obtain ⟨p', ws, rfl, hp', r2⟩ := re.lsts
      exact op_cat pins s σ H _ _ v u Q I rx ry ⟨p, p', vs, ws, rfl, rfl, hp, hp', by rw [r1.length, r2.length]; exact h, fun q hq => mk.lst ft (r1.append r2) q hq⟩
    · cases hf
theorem RepDs.rep {H : Hp} {F : Fz} {vs : List V} {ds : List D} (r : RepDs G H F vs ds) : ∀ k : Nat, RepDs G H F (List.replicate k vs).flatten (List.replicate k ds).flatten
  | 0 => .nil
  | k + 1 => by
    rw [List.replicate_succ, List.replicate_succ, List.flatten_cons, List.flatten_cons]
    exact r.append (RepDs.rep r k)
theorem fold_arr (a : List Nat) : ∀ (k : Nat) (b : Array Nat), (List.replicate k a.toArray).foldl (· ++ ·) b = b ++ (List.replicate k a).flatten.toArray
  | 0, b => by simp
  | k + 1, b => by
    rw [List.replicate_succ, List.foldl_cons, fold_arr a k, List.replicate_succ, List.flatten_cons]
    simp [Array.append_assoc]
theorem txtOk_rep {a : List Nat} (h : txtOk a = true) : ∀ k : Nat, txtOk (List.replicate k a).flatten = true
  | 0 => rfl
  | k + 1 => by rw [List.replicate_succ, List.flatten_cons]; exact txtOk_append h (txtOk_rep h k)
theorem op_mul_str : OpR X (binaryOp .Mult) (fun x y H Q => ∃ (a : List Nat) (k : Int), x = .str ⟨a.toArray⟩ ∧ y = .int k ∧ 1 ≤ k ∧ k < 2 ^ 31 ∧ a.length * k.toNat ≤ sizeLine ∧ Q (.str ⟨(List.replicate k.toNat a).flatten.toArray⟩) H) := by
  intro pins s σ H x y v u Q I rx ry h
  obtain ⟨a, k, rfl, rfl, h1, h2, hz, q⟩ := h
  obtain ⟨t, rfl⟩ := rx
  obtain ⟨t', rfl⟩ := ry
  have sl : sizeLine = 2 ^ 24 := rfl
  have ln := str_len a
  have hk : ¬ k < 1 := by omega
  refine P.mul_str (by
      have h3 : ¬ k ≥ 2 ^ 63 := by omega
      have h4 : ¬ k < -(2 ^ 63 : Int) := by omega
      rw [decide_eq_false h3, decide_eq_false h4]; rfl) (fun _ _ => ?_) (fun _ _ => ?_) ?_
  · have h5 : ((⟨a.toArray⟩ : Str).length : Int) ≤ (2 ^ 63 - 1) / k := by
      rw [ln, Int.le_ediv_iff_mul_le (by omega)]
      have h6 : ((a.length * k.toNat : Nat) : Int) ≤ 2 ^ 24 := by omega
      rw [Int.natCast_mul, Int.toNat_of_nonneg (by omega)] at h6
      omega
    omega
  · unfold Builtin.Str.tooLong
    rw [ln]
    exact decide_eq_false (by omega)
  · rw [if_neg hk]
    split
    · rename_i h7
      have e : (⟨(List.replicate k.toNat a).flatten.toArray⟩ : Str) = ⟨a.toArray⟩ := by
        rw [Bool.or_eq_true, beq_iff_eq, beq_iff_eq, ln] at h7
        rcases h7 with rfl | h7
        · simp
        · have : a = [] := List.length_eq_zero_iff.mp h7
          subst this
          simp
      rw [e] at q
      exact ⟨.str ⟨a.toArray⟩, H, I, ⟨_, rfl⟩, q⟩
    · have e : (⟨(List.replicate k.toNat (⟨a.toArray⟩ : Str).cps).foldl (· ++ ·) #[]⟩ : Str) = ⟨(List.replicate k.toNat a).flatten.toArray⟩ := by
        rw [fold_arr]; simp
      rw [e]
      refine ⟨?_, .str ⟨(List.replicate k.toNat a).flatten.toArray⟩, H, I.tok _, ⟨_, rfl⟩, q⟩
      rw [str_len]
      rw [List.length_flatten]
      simp
      rw [Nat.mul_comm]
      exact hz
theorem b_mul : OpR X (binaryOp .Mult) (rV2 G (binOp .mul)) := by
  intro pins s σ H x y v u Q I rx ry hh
  obtain ⟨F, d, e, o, ft, rd, re, hf, mk⟩ := hh
  cases d <;> cases e <;> simp only [binOp, true_and, if_true, reduceCtorEq, false_and, if_false] at hf
  · rename_i i j
    simp only [arith] at hf
    split at hf
    · rename_i h
      cases hf
      cases rd.int
      cases re.int
      rcases h with h | h
      · exact op_mul pins s σ H _ _ v u Q I rx ry ⟨i, j, rfl, rfl, h, mk.val ft (.int _)⟩
      · exact op_mulW pins s σ H _ _ v u Q I rx ry ⟨i, j, rfl, rfl, h, mk.val ft (.int _)⟩
    · cases hf
  · rename_i a k
    split at hf
    · rename_i h
      cases hf
      obtain ⟨rfl, t1⟩ := rd.str
      cases re.int
      exact op_mul_str pins s σ H _ _ v u Q I rx ry ⟨a, k, rfl, rfl, h.1, h.2.1, h.2.2, mk.val ft (.str (txtOk_rep t1 _))⟩
    · cases hf
  · rename_i a k
    split at hf
    · rename_i h
      cases hf
      obtain ⟨p, vs, rfl, hp, r1⟩ := rd.lsts
      cases re.int
      exact op_rep pins s σ H _ _ v u Q I rx ry ⟨p, k, vs, rfl, rfl, hp, h.1, h.2.1, by rw [r1.length]; exact h.2.2, fun q hq => mk.lst ft (r1.rep _) q hq⟩
    · cases hf
theorem bop_ok (hK : G.K = X.K) : ∀ op, OpR X (binaryOp (opOf op)) (rV2 G (binOp op))
  | .add => b_add hK | .sub => b_sub | .mul => b_mul | .fdiv => b_fdiv | .mod => b_mod | .pow => b_pow | .shl => b_shl | .shr => b_shr | .band => b_and | .bor => b_or | .bxor => b_xor
@[simp] def negOp : D → Option O
  | .int i => some (.val (.int (-i)))
  | _ => none
theorem u_neg : UnR X (unaryOp .USub) (rV1 G negOp) := by
  intro pins s σ H x v Q I rx hh
  obtain ⟨F, d, o, ft, rd, hf, mk⟩ := hh
  cases d <;> simp only [negOp, reduceCtorEq] at hf
  cases hf
  cases rd.int
  exact un_neg pins s σ H _ v Q I rx ⟨_, rfl, mk.val ft (.int _)⟩
end
end Z
end

section
set_option maxRecDepth 100007
/-! Comparisons. -/
namespace Z
open PySem L2 PyProof.Rows
def lexI : List D → List D → Option Bool
  | [], [] => some false
  | [], .int _ :: r => (lexI [] r).map fun _ => true
  | .int _ :: r, [] => (lexI r []).map fun _ => false
  | .int x :: xs, .int y :: ys => (lexI xs ys).map fun b => if x = y then b else decide (x < y)
  | _, _ => none
def isNon : D → Bool
  | .non => true
  | _ => false
@[simp] def cmpOp (op : Cop) (d e : D) : Option Bool := match op with
  | .eq => if plainN 8 d && plainN 8 e then some (eqD d e) else none
  | .ne => if plainN 8 d && plainN 8 e then some (!eqD d e) else none
  | .lt => match d, e with
    | .int i, .int j => some (decide (i < j))
    | .tup a, .tup b => lexI a b
    | _, _ => none
  | .le => match d, e with
    | .int i, .int j => some (decide (i ≤ j))
    | _, _ => none
  | .gt => match d, e with
    | .int i, .int j => some (decide (j < i))
    | _, _ => none
  | .ge => match d, e with
    | .int i, .int j => some (decide (j ≤ i))
    | _, _ => none
  | .is => match e with
    | .non => some (isNon d)
    | _ => none
  | .isnot => match e with
    | .non => some (!isNon d)
    | _ => none
  | .inn => match e with
    | .lst ds => if plainN 7 d && ds.all (plainN 7) then some (ds.any fun z => eqD z d) else none
    | .tup ds => if plainN 7 d && ds.all (plainN 7) then some (ds.any fun z => eqD z d) else none
    | _ => none
  | .notin => match e with
    | .lst ds => if plainN 7 d && ds.all (plainN 7) then some (!ds.any fun z => eqD z d) else none
    | .tup ds => if plainN 7 d && ds.all (plainN 7) then some (!ds.any fun z => eqD z d) else none
    | _ => none
@[simp] def cmpO (op : Cop) (d e : D) : Option O := (cmpOp op d e).map fun b => .val (.bl b)
def copOf : Cop → CmpOp
  | .eq => .Eq | .ne => .NotEq | .lt => .Lt | .le => .LtE | .gt => .Gt | .ge => .GtE | .is => .Is | .isnot => .IsNot | .inn => .In | .notin => .NotIn
section
variable {G : Gx} {X : Cx}
theorem opBL {f : Value → Value → Sem Value} {op : Cop} (h : ∀ F d e b, cmpOp op d e = some b → ∀ (pins : List (Addr × Obj)) (s : Shared) (σ : L2.St) (H : Hp) (x y : V) (v u : Value) (Q : VK), Inv X pins σ H s → RelV x v → RelV y u → FT H F → RepR G H F x d → RepR G H F y e → Q (.bl b) H →
    wpAny (model X.prog X.w) X.A (f v u) (EP X pins σ Q) X.xe s) : OpR X f (rV2 G (cmpO op)) := by
  intro pins s σ H x y v u Q I rx ry hh
  obtain ⟨F, d, e, o, ft, rd, re, hf, mk⟩ := hh
  unfold cmpO at hf
  cases hb : cmpOp op d e with
  | none => rw [hb] at hf; cases hf
  | some b =>
    rw [hb] at hf
    cases hf
    exact h F d e b hb pins s σ H x y v u Q I rx ry ft rd re (mk.val ft (.bl b))
theorem c_eq (hK : G.K = X.K) (hu : X.A.units + 65 < cLine) : OpR X (compareOp .Eq) (rV2 G (cmpO .eq)) := opBL fun F d e b hb pins s σ H x y v u Q I rx ry ft rd re q => by
  simp only [cmpOp] at hb
  split at hb
  · rename_i hp
    cases hb
    rw [Bool.and_eq_true] at hp
    obtain ⟨p1, q1, r1⟩ := dp_ofR 8 rd hp.1
    obtain ⟨p2, q2, r2⟩ := dp_ofR 8 re hp.2
    rw [hK] at p1 p2
    exact op_eqD (by omega) pins s σ H x y v u Q I rx ry ⟨_, _, p1, p2, shaped_of q1 r1 (by decide), shaped_of q2 r2 (by decide), by rw [eqv_toP 8 8 d e hp.1 hp.2]; exact q⟩
  · cases hb
theorem c_ne (hK : G.K = X.K) (hu : X.A.units + 65 < cLine) : OpR X (compareOp .NotEq) (rV2 G (cmpO .ne)) := opBL fun F d e b hb pins s σ H x y v u Q I rx ry ft rd re q => by
  simp only [cmpOp] at hb
  split at hb
  · rename_i hp
    cases hb
    rw [Bool.and_eq_true] at hp
    obtain ⟨p1, q1, r1⟩ := dp_ofR 8 rd hp.1
    obtain ⟨p2, q2, r2⟩ := dp_ofR 8 re hp.2
    rw [hK] at p1 p2
    exact op_neD (by omega) pins s σ H x y v u Q I rx ry ⟨_, _, p1, p2, shaped_of q1 r1 (by decide), shaped_of q2 r2 (by decide), by rw [eqv_toP 8 8 d e hp.1 hp.2]; exact q⟩
  · cases hb
theorem lexI_ok {H : Hp} {F : Fz} : ∀ (a b : List D) (vs ws : List V) (r : Bool), RepDs G H F vs a → RepDs G H F ws b → lexI a b = some r → ∃ ns ms, vs = ns.map V.int ∧ ws = ms.map V.int ∧ HT.lexLt ns ms = r
  | [], [], _, _, r, .nil, .nil, e => ⟨[], [], rfl, rfl, by simp only [lexI] at e; cases e; rfl⟩
  | [], y :: ys, _, _, r, .nil, .cons h t, e => by
    cases y <;> simp only [lexI, reduceCtorEq] at e
    cases e1 : lexI [] ys with
    | none => rw [e1] at e; cases e
    | some b =>
      rw [e1] at e
      cases e
      obtain ⟨ns, ms, h1, h2, h3⟩ := lexI_ok [] ys _ _ b .nil t e1
      cases h
      cases ns with
      | nil => exact ⟨[], _ :: ms, rfl, by rw [h2]; rfl, rfl⟩
      | cons _ _ => cases h1
  | x :: xs, [], _, _, r, .cons h t, .nil, e => by
    cases x <;> simp only [lexI, reduceCtorEq] at e
    cases e1 : lexI xs [] with
    | none => rw [e1] at e; cases e
    | some b =>
      rw [e1] at e
      cases e
      obtain ⟨ns, ms, h1, h2, h3⟩ := lexI_ok xs [] _ _ b t .nil e1
      cases h
      cases ms with
      | nil => exact ⟨_ :: ns, [], by rw [h1]; rfl, rfl, rfl⟩
      | cons _ _ => cases h2
  | x :: xs, y :: ys, _, _, r, .cons h t, .cons h' t', e => by
    cases x <;> cases y <;> simp only [lexI, reduceCtorEq] at e
    cases e1 : lexI xs ys with
    | none => rw [e1] at e; cases e
    | some b =>
      rw [e1] at e
      cases e
      obtain ⟨ns, ms, h1, h2, h3⟩ := lexI_ok xs ys _ _ b t t' e1
      cases h
      cases h'
      refine ⟨_ :: ns, _ :: ms, by rw [h1]; rfl, by rw [h2]; rfl, ?_⟩
      rw [HT.lexLt_cons, h3]
theorem c_lt (hK : G.K = X.K) (hu : X.A.units + 65 < cLine) : OpR X (compareOp .Lt) (rV2 G (cmpO .lt)) := opBL fun F d e b hb pins s σ H x y v u Q I rx ry ft rd re q => by
  cases d <;> cases e <;> simp only [cmpOp, reduceCtorEq] at hb
  · cases hb
    cases rd.int
    cases re.int
    exact op_lt pins s σ H _ _ v u Q I rx ry ⟨_, _, rfl, rfl, q⟩
  · obtain ⟨p, vs, rfl, hp, r1⟩ := rd.tups
    obtain ⟨p', ws, rfl, hp', r2⟩ := re.tups
    obtain ⟨ns, ms, rfl, rfl, h3⟩ := lexI_ok _ _ _ _ b r1 r2 hb
    exact op_ltT (by omega) pins s σ H _ _ v u Q I rx ry ⟨p, p', ns, ms, rfl, rfl, hK ▸ hp.sq, hK ▸ hp'.sq, by rw [h3]; exact q⟩
theorem c_le : OpR X (compareOp .LtE) (rV2 G (cmpO .le)) := opBL fun F d e b hb pins s σ H x y v u Q I rx ry ft rd re q => by
  cases d <;> cases e <;> simp only [cmpOp, reduceCtorEq] at hb
  cases hb
  cases rd.int
  cases re.int
  exact op_le pins s σ H _ _ v u Q I rx ry ⟨_, _, rfl, rfl, q⟩
theorem c_gt : OpR X (compareOp .Gt) (rV2 G (cmpO .gt)) := opBL fun F d e b hb pins s σ H x y v u Q I rx ry ft rd re q => by
  cases d <;> cases e <;> simp only [cmpOp, reduceCtorEq] at hb
  cases hb
  cases rd.int
  cases re.int
  exact op_gt pins s σ H _ _ v u Q I rx ry ⟨_, _, rfl, rfl, q⟩
theorem c_ge : OpR X (compareOp .GtE) (rV2 G (cmpO .ge)) := opBL fun F d e b hb pins s σ H x y v u Q I rx ry ft rd re q => by
  cases d <;> cases e <;> simp only [cmpOp, reduceCtorEq] at hb
  cases hb
  cases rd.int
  cases re.int
  exact op_ge pins s σ H _ _ v u Q I rx ry ⟨_, _, rfl, rfl, q⟩
theorem RepR.non_iff {H : Hp} {F : Fz} {v : V} {d : D} (r : RepR G H F v d) : decide (v = .non) = isNon d := by
  cases r with
  | of r => cases r <;> simp [isNon]
  | _ => simp [isNon]
theorem c_is : OpR X (compareOp .Is) (rV2 G (cmpO .is)) := opBL fun F d e b hb pins s σ H x y v u Q I rx ry ft rd re q => by
  cases e <;> simp only [cmpOp, reduceCtorEq, Option.some.injEq] at hb
  cases re.non
  exact op_isN pins s σ H _ _ v u Q I rx ry ⟨rfl, by rw [rd.non_iff, hb]; exact q⟩
theorem c_isnot : OpR X (compareOp .IsNot) (rV2 G (cmpO .isnot)) := opBL fun F d e b hb pins s σ H x y v u Q I rx ry ft rd re q => by
  cases e <;> simp only [cmpOp, reduceCtorEq, Option.some.injEq] at hb
  cases re.non
  refine op_notN pins s σ H _ _ v u Q I rx ry ⟨rfl, ?_⟩
  rw [rd.non_iff, hb]
  exact q
theorem any_toPs (d : D) (hd : plainN 7 d = true) : ∀ ds : List D, ds.all (plainN 7) = true → ((toPs ds).any fun z => PyData.eqv z (toP d)) = ds.any fun z => eqD z d
  | [], _ => rfl
  | e :: es, h => by
    rw [List.all_cons, Bool.and_eq_true] at h
    simp only [toPs, List.any_cons]
    rw [eqv_toP 7 7 e d h.1 hd, any_toPs d hd es h.2]
theorem plain8 {ds : List D} (h : ds.all (plainN 7) = true) : plainN 8 (.lst ds) = true ∧ plainN 8 (.tup ds) = true := ⟨h, h⟩
theorem c_in (hK : G.K = X.K) (hu : X.A.units + 65 < cLine) : OpR X (compareOp .In) (rV2 G (cmpO .inn)) := opBL fun F d e b hb pins s σ H x y v u Q I rx ry ft rd re q => by
  cases e <;> simp only [cmpOp, reduceCtorEq] at hb
  all_goals
    split at hb
    rename_i ds hp
    cases hb
    rw [Bool.and_eq_true] at hp
    obtain ⟨p1, q1, r1⟩ := dp_ofR 7 rd hp.1
    rw [hK] at p1
    obtain ⟨as, s1⟩ := Dp.reads I _ x v p1 rx
    first
    | (obtain ⟨p2, q2, r2⟩ := dp_ofR 8 re (plain8 hp.2).1
       rw [hK] at p2
       simp only [toP] at p2 q2
       obtain ⟨bs, s2⟩ := Dp.reads I _ y u p2 ry
       refine SeqAt.in_list_reads s2 s1 (by simpa only [PyData.canLay0] using q2) q1 (by omega) ⟨.bl _, H, I, rfl, ?_⟩
       rw [any_toPs d hp.1 ds hp.2]
       exact q)
    | (obtain ⟨p2, q2, r2⟩ := dp_ofR 8 re (plain8 hp.2).2
       rw [hK] at p2
       simp only [toP] at p2 q2
       obtain ⟨bs, s2⟩ := Dp.reads I _ y u p2 ry
       refine SeqAt.in_tuple_reads s2 s1 (by simpa only [PyData.canLay0] using q2) q1 (by omega) ⟨.bl _, H, I, rfl, ?_⟩
       rw [any_toPs d hp.1 ds hp.2]
       exact q)
    cases hb
theorem c_notin (hK : G.K = X.K) (hu : X.A.units + 65 < cLine) : OpR X (compareOp .NotIn) (rV2 G (cmpO .notin)) := opBL fun F d e b hb pins s σ H x y v u Q I rx ry ft rd re q => by
  cases e <;> simp only [cmpOp, reduceCtorEq] at hb
  all_goals
    split at hb
    rename_i ds hp
    cases hb
    rw [Bool.and_eq_true] at hp
    obtain ⟨p1, q1, r1⟩ := dp_ofR 7 rd hp.1
    rw [hK] at p1
    obtain ⟨as, s1⟩ := Dp.reads I _ x v p1 rx
    first
    | (obtain ⟨p2, q2, r2⟩ := dp_ofR 8 re (plain8 hp.2).1
       rw [hK] at p2
       simp only [toP] at p2 q2
       obtain ⟨bs, s2⟩ := Dp.reads I _ y u p2 ry
       refine SeqAt.notIn_list_reads s2 s1 (by simpa only [PyData.canLay0] using q2) q1 (by omega) ⟨.bl _, H, I, rfl, ?_⟩
       rw [any_toPs d hp.1 ds hp.2]
       exact q)
    | (obtain ⟨p2, q2, r2⟩ := dp_ofR 8 re (plain8 hp.2).2
       rw [hK] at p2
       simp only [toP] at p2 q2
       obtain ⟨bs, s2⟩ := Dp.reads I _ y u p2 ry
       refine SeqAt.notIn_tuple_reads s2 s1 (by simpa only [PyData.canLay0] using q2) q1 (by omega) ⟨.bl _, H, I, rfl, ?_⟩
       rw [any_toPs d hp.1 ds hp.2]
       exact q)
    cases hb
theorem cop_ok (hK : G.K = X.K) (hu : X.A.units + 65 < cLine) : ∀ op, OpR X (compareOp (copOf op)) (rV2 G (cmpO op))
  | .eq => c_eq hK hu | .ne => c_ne hK hu | .lt => c_lt hK hu | .le => c_le | .gt => c_gt | .ge => c_ge | .is => c_is | .isnot => c_isnot | .inn => c_in hK hu | .notin => c_notin hK hu
end
end Z
end

section
set_option maxRecDepth 100007
/-! Tests, and, or, not, the conditional expression; displays. -/
namespace Z
open PySem L2 PyProof.Rows
@[simp] def truD : D → Option Bool
  | .non => some false
  | .bl b => some b
  | .int i => some (i != 0)
  | .str x => if x.length ≤ sizeLine then some (!x.isEmpty) else none
  | .tup ds => some (!ds.isEmpty)
  | .lst ds => some (!ds.isEmpty)
  | .scr ns => some (!ns.isEmpty)
  | _ => none
section
variable {G : Gx} {H : Hp} {F : Fz} {v : V} {d : D}
theorem isEmpty_len {α β : Type} {xs : List α} {ys : List β} (h : xs.length = ys.length) : xs.isEmpty = ys.isEmpty := by
  cases xs <;> cases ys <;> first | rfl | cases h
theorem truD_ok {b : Bool} (r : RepR G H F v d) (h : truD d = some b) : TruV G.K v H b := by
  cases d with
  | non => cases r.non; cases h; rfl
  | bl c => cases r.bl; cases h; rfl
  | int i => cases r.int; cases h; rfl
  | str x =>
    obtain ⟨rfl, _⟩ := r.str
    simp only [truD] at h
    split at h
    · rename_i hl
      cases h
      refine ⟨by rw [str_len]; exact hl, ?_⟩
      rw [str_len]
      cases x with
      | nil => rfl
      | cons a t =>
        have : (((a :: t).length : Int) != 0) = true := by
          rw [bne_iff_ne, List.length_cons]
          omega
        rw [this]; rfl
    · cases h
  | tup ds =>
    obtain ⟨a, vs, rfl, hp, r1⟩ := r.tups
    cases h
    exact .inr (.inl ⟨vs, hp.sq, by rw [isEmpty_len r1.length]⟩)
  | lst ds =>
    obtain ⟨a, vs, rfl, hp, r1⟩ := r.lsts
    cases h
    exact .inl ⟨vs, SqL.of hp, by rw [isEmpty_len r1.length]⟩
  | scr ns =>
    obtain ⟨a, rfl, hp⟩ := r.scrs
    cases h
    exact .inl ⟨_, hp, by cases ns <;> rfl⟩
  | _ => cases h
end

@[simp] def evTru (m1 : Zs → R Hd) : Zs → R Bool := fun z => (m1 z).bind fun x z1 => match (peek x z1).bind truD with
  | some b => .ok b z1
  | none => .bad
@[simp] def evBl (m1 : Zs → R Hd) : Zs → R Bool := fun z => (m1 z).bind fun x z1 => match peek x z1 with
  | some (.bl b) => .ok b z1
  | _ => .bad
@[simp] def evAndT (c1 c2 : Zs → R Bool) : Zs → R Bool := fun z => (c1 z).bind fun b z1 => if b = true then c2 z1 else .ok false z1
@[simp] def evOrT (c1 c2 : Zs → R Bool) : Zs → R Bool := fun z => (c1 z).bind fun b z1 => if b = true then .ok true z1 else c2 z1
@[simp] def evNotT (c1 : Zs → R Bool) : Zs → R Bool := fun z => (c1 z).bind fun b z1 => .ok (!b) z1
def andK (x : Hd) (z : Zs) (r : R Hd) : Option Bool → R Hd
  | some true => r
  | some false => .ok x z
  | none => .bad
def orK (x : Hd) (z : Zs) (r : R Hd) : Option Bool → R Hd
  | some true => .ok x z
  | some false => r
  | none => .bad
@[simp] def evAndV (m1 m2 : Zs → R Hd) : Zs → R Hd := fun z => (m1 z).bind fun x z1 => andK x z1 (m2 z1) ((peek x z1).bind truD)
@[simp] def evOrV (m1 m2 : Zs → R Hd) : Zs → R Hd := fun z => (m1 z).bind fun x z1 => orK x z1 (m2 z1) ((peek x z1).bind truD)
@[simp] def evNotV (m1 : Zs → R Hd) : Zs → R Hd := evOp1 (fun d => (truD d).map fun b => .val (.bl (!b))) m1
@[simp] def evIf (c : Zs → R Bool) (m1 m2 : Zs → R Hd) : Zs → R Hd := fun z => (c z).bind fun b z1 => if b = true then m1 z1 else m2 z1

section
variable {G : Gx} {W : WX} {X : Cx} {a b c e : Expr} {es rest : List Expr} {pos : Pos} {m1 m2 m3 : Zs → R Hd} {c1 c2 : Zs → R Bool} {σ : L2.St} {H : Hp}
theorem RunG.val {z : Zs} {F F1 : Fz} {H1 : Hp} {ow ow1 : Ows} {fP : Addr → Prop} {k : Bool} {Q : Bool → Hp → Prop} (run : RunG G W σ (relT σ) H F ow (.ok k z) Q) (st : Stp H F (Own ow) H1 F1 (fun x => Own ow1 x ∨ fP x)) (s : SRep G H1 F1 σ z ow1) : Q k H1 :=
  run k H1 F1 ow1 [] (st.weak fun x h => h.elim .inl fun h => by cases h) s ⟨rfl, rfl⟩ fun x h => by cases h
theorem zt_tru (hK : G.K = X.K) (ha : PE X a (tZ G W m1)) (he : ∀ whole, isTrue a X.env whole = (do let v ← whole; standAt a.pos; holding [v] (truthy v))) : PT X a (tZT G W (evTru m1)) := PT.imp (pt_truth ha he) fun σ H Q h => by
  obtain ⟨z, ow, F, s, run⟩ := h
  refine ⟨z, ow, F, s, RunG.first s run fun x z1 v1 H1 F1 ow1 f1 _ st1 s1 r1 d1 run1 => ?_⟩
  cases e1 : peek x z1 with
  | none => simp only [e1, Option.bind_none] at run1; exact run1.elim
  | some d =>
    simp only [e1, Option.bind_some] at run1
    cases e2 : truD d with
    | none => simp only [e2] at run1; exact run1.elim
    | some k =>
      simp only [e2] at run1
      exact ⟨k, by rw [← hK]; exact truD_ok (r1.peek s1 e1) e2, RunG.val run1 st1 s1⟩
theorem bl_read {Q : Bool → Hp → Prop} (h : tZT G W (evBl m1) σ H Q) : tZ G W m1 σ H (fun x H' => ∃ k, x = .bl k ∧ Q k H') := by
  obtain ⟨z, ow, F, s, run⟩ := h
  refine ⟨z, ow, F, s, RunG.first s run fun x z1 v1 H1 F1 ow1 f1 _ st1 s1 r1 d1 run1 => ?_⟩
  cases e1 : peek x z1 with
  | none => simp only [e1] at run1; exact run1.elim
  | some d =>
    cases d <;> simp only [e1] at run1 <;> try exact run1.elim
    have r2 : RepR G H1 F1 v1 _ := r1.peek s1 e1
    exact ⟨_, r2.bl, RunG.val run1 st1 s1⟩
theorem zt_cmp {op : CmpOp} {f2 : D → D → Option O} (ho : OpR X (compareOp op) (rV2 G f2)) (ha : PE X a (tZ G W m1)) (hb : PE X b (tZ G W m2)) (hm : behindInMarks op b = false) : PT X (.Compare a [op] [b] pos) (tZT G W (evBl (evOp2 f2 m1 m2))) := PT.imp (pt_cmpR ho ha hb hm) fun σ H Q h => op2_read (bl_read h)
theorem zt_and1 (ha : PT X a (tZT G W c1)) : PW X (.BoolOp .And [a] pos) (tZT G W c1) := pw_and1 ha
theorem zt_or1 (ha : PT X a (tZT G W c1)) : PW X (.BoolOp .Or [a] pos) (tZT G W c1) := pw_or1 ha
theorem PW.imp {X : Cx} {e : Expr} {t t' : TT} (h : PW X e t) (k : ∀ σ H Q, t' σ H Q → t σ H Q) : PW X e t' := ⟨fun w pins s σ H Q I q => h.run w pins s σ H Q I (k σ H Q q)⟩
theorem zt_and (ha : PT X a (tZT G W c1)) (hb : PW X (.BoolOp .And (b :: rest) pos) (tZT G W c2)) : PW X (.BoolOp .And (a :: b :: rest) pos) (tZT G W (evAndT c1 c2)) := PW.imp (pw_and ha hb) fun σ H Q h => by
  obtain ⟨z, ow, F, s, run⟩ := h
  refine ⟨z, ow, F, s, RunG.first s run fun x z1 v1 H1 F1 ow1 f1 _ st1 s1 r1 d1 run1 => ?_⟩
  obtain ⟨rfl, rfl⟩ := r1
  cases v1 with
  | true =>
    refine ⟨z1, ow1, F1, s1, ?_⟩
    have run1 : RunG G W σ (relT σ) H F ow ((c2 z1).bind fun b z2 => .ok b z2) Q := by
      cases e : c2 z1 <;> simp only [if_true, e] at run1 <;> exact run1
    exact RunG.bind st1 d1 run1 fun y z2 v2 H2 F2 ow2 f2 _ st2 s2 r2 d2 st d run2 => by
      obtain ⟨rfl, rfl⟩ := r2
      exact RunG.val run2 st s2
  | false =>
    simp only [Bool.false_eq_true, if_false] at run1 ⊢
    exact RunG.val run1 st1 s1
theorem zt_or (ha : PT X a (tZT G W c1)) (hb : PW X (.BoolOp .Or (b :: rest) pos) (tZT G W c2)) : PW X (.BoolOp .Or (a :: b :: rest) pos) (tZT G W (evOrT c1 c2)) := PW.imp (pw_or ha hb) fun σ H Q h => by
  obtain ⟨z, ow, F, s, run⟩ := h
  refine ⟨z, ow, F, s, RunG.first s run fun x z1 v1 H1 F1 ow1 f1 _ st1 s1 r1 d1 run1 => ?_⟩
  obtain ⟨rfl, rfl⟩ := r1
  cases v1 with
  | false =>
    refine ⟨z1, ow1, F1, s1, ?_⟩
    have run1 : RunG G W σ (relT σ) H F ow ((c2 z1).bind fun b z2 => .ok b z2) Q := by
      cases e : c2 z1 <;> simp only [if_false, Bool.false_eq_true, e] at run1 <;> exact run1
    exact RunG.bind st1 d1 run1 fun y z2 v2 H2 F2 ow2 f2 _ st2 s2 r2 d2 st d run2 => by
      obtain ⟨rfl, rfl⟩ := r2
      exact RunG.val run2 st s2
  | true =>
    simp only [if_true] at run1 ⊢
    exact RunG.val run1 st1 s1
theorem zt_not (ha : PT X a (tZT G W c1)) : PT X (.UnaryOp .Not a pos) (tZT G W (evNotT c1)) := PT.imp (pt_not ha) fun σ H Q h => by
  obtain ⟨z, ow, F, s, run⟩ := h
  refine ⟨z, ow, F, s, RunG.first s run fun x z1 v1 H1 F1 ow1 f1 _ st1 s1 r1 d1 run1 => ?_⟩
  obtain ⟨rfl, rfl⟩ := r1
  exact RunG.val run1 st1 s1
/-- a run that ends as it is -/
theorem RunG.same {z1 : Zs} {F F1 : Fz} {H1 : Hp} {ow ow1 : Ows} {fP : Addr → Prop} {Q : V → Hp → Prop} {m : Zs → R Hd} (run : RunG G W σ (relE G σ) H F ow (m z1) Q) (st : Stp H F (Own ow) H1 F1 (fun x => Own ow1 x ∨ fP x)) (s : SRep G H1 F1 σ z1 ow1) (d1 : ∀ x, fP x → ¬ Own ow1 x) : tZ G W m σ H1 Q := by
  refine ⟨z1, ow1, F1, s, ?_⟩
  have run : RunG G W σ (relE G σ) H F ow ((m z1).bind fun b z2 => .ok b z2) Q := by
    cases e : m z1 <;> rw [e] at run <;> exact run
  exact RunG.bind st d1 run fun y z2 v2 H2 F2 ow2 f2 _ st2 s2 r2 d2 st d run2 =>
    run2 v2 H2 F2 ow2 f2 (st.weak fun x h => h.elim .inl fun h => .inr (.inl h)) s2 r2 d2
theorem z_one {op} (ha : PE X a (tZ G W m1)) : PE X (.BoolOp op [a] pos) (tZ G W m1) := pe_one ha
theorem z_and (hK : G.K = X.K) (ha : PE X a (tZ G W m1)) (hb : PE X (.BoolOp .And (b :: rest) pos) (tZ G W m2)) : PE X (.BoolOp .And (a :: b :: rest) pos) (tZ G W (evAndV m1 m2)) := PE.imp (pe_andT ha hb) fun σ H Q h => by
  obtain ⟨z, ow, F, s, run⟩ := h
  refine ⟨z, ow, F, s, RunG.first s run fun x z1 v1 H1 F1 ow1 f1 _ st1 s1 r1 d1 run1 => ?_⟩
  cases e1 : peek x z1 with
  | none => simp only [e1, Option.bind_none, andK] at run1; exact run1.elim
  | some d =>
    simp only [e1, Option.bind_some] at run1
    cases e2 : truD d with
    | none => simp only [e2, andK] at run1; exact run1.elim
    | some k =>
      have t : TruV X.K v1 H1 k := by rw [← hK]; exact truD_ok (r1.peek s1 e1) e2
      cases k with
      | true =>
        simp only [e2, andK] at run1
        exact ⟨true, t, by rw [if_pos rfl]; exact RunG.same run1 st1 s1 d1⟩
      | false =>
        simp only [e2, andK] at run1
        exact ⟨false, t, by rw [if_neg Bool.false_ne_true]; exact run1 v1 H1 F1 ow1 f1 st1 s1 r1 d1⟩
theorem z_or (hK : G.K = X.K) (ha : PE X a (tZ G W m1)) (hb : PE X (.BoolOp .Or (b :: rest) pos) (tZ G W m2)) : PE X (.BoolOp .Or (a :: b :: rest) pos) (tZ G W (evOrV m1 m2)) := PE.imp (pe_orT ha hb) fun σ H Q h => by
  obtain ⟨z, ow, F, s, run⟩ := h
  refine ⟨z, ow, F, s, RunG.first s run fun x z1 v1 H1 F1 ow1 f1 _ st1 s1 r1 d1 run1 => ?_⟩
  cases e1 : peek x z1 with
  | none => simp only [e1, Option.bind_none, orK] at run1; exact run1.elim
  | some d =>
    simp only [e1, Option.bind_some] at run1
    cases e2 : truD d with
    | none => simp only [e2, orK] at run1; exact run1.elim
    | some k =>
      have t : TruV X.K v1 H1 k := by rw [← hK]; exact truD_ok (r1.peek s1 e1) e2
      cases k with
      | false =>
        simp only [e2, orK] at run1
        exact ⟨false, t, by rw [if_neg Bool.false_ne_true]; exact RunG.same run1 st1 s1 d1⟩
      | true =>
        simp only [e2, orK] at run1
        exact ⟨true, t, by rw [if_pos rfl]; exact run1 v1 H1 F1 ow1 f1 st1 s1 r1 d1⟩
theorem z_not (hK : G.K = X.K) (ha : PE X a (tZ G W m1)) : PE X (.UnaryOp .Not a pos) (tZ G W (evNotV m1)) := PE.imp (pe_notT ha) fun σ H Q h => by
  have h := op1_read h
  obtain ⟨z, ow, F, s, run⟩ := h
  refine ⟨z, ow, F, s, ?_⟩
  cases e : m1 z with
  | ok x z1 =>
    rw [e] at run
    intro v H1 F1 ow1 f1 st1 s1 r1 d1
    obtain ⟨F2, d, o, ft, rd, hf, mk⟩ := run v H1 F1 ow1 f1 st1 s1 r1 d1
    cases e2 : truD d with
    | none => simp only [e2] at hf; cases hf
    | some k =>
      simp only [e2, Option.map_some, Option.some.injEq] at hf
      subst hf
      exact ⟨k, by rw [← hK]; exact truD_ok rd e2, mk.val ft (.bl _)⟩
  | exc c fs z1 => rw [e] at run; exact run
  | bad => rw [e] at run; exact run
theorem z_if {c : Expr} (hc : PT X c (tZT G W c1)) (ha : PE X a (tZ G W m1)) (hb : PE X b (tZ G W m2)) : PE X (.IfExp c a b pos) (tZ G W (evIf c1 m1 m2)) := PE.imp (pe_ifExp hc ha hb) fun σ H Q h => by
  obtain ⟨z, ow, F, s, run⟩ := h
  refine ⟨z, ow, F, s, RunG.first s run fun x z1 v1 H1 F1 ow1 f1 _ st1 s1 r1 d1 run1 => ?_⟩
  obtain ⟨rfl, rfl⟩ := r1
  cases v1 with
  | true =>
    simp only [if_true] at run1 ⊢
    exact RunG.same run1 st1 s1 d1
  | false =>
    simp only [Bool.false_eq_true, if_false] at run1 ⊢
    exact RunG.same run1 st1 s1 d1
end

/-! ### displays -/
@[simp] def evTup (mA : Zs → R (List Hd)) : Zs → R Hd := fun z => (mA z).bind fun hs z1 => match takeDs hs z1 with
  | some (ds, z2) => if ds.length ≤ sizeLine then .ok (.tmp (.val (.tup ds))) z2 else .bad
  | none => .bad
@[simp] def evLst (mA : Zs → R (List Hd)) : Zs → R Hd := fun z => (mA z).bind fun hs z1 => match takeDs hs z1 with
  | some (ds, z2) => if ds.length ≤ sizeLine then .ok (.tmp (.lst ds)) z2 else .bad
  | none => .bad
section
variable {G : Gx} {W : WX} {X : Cx} {es : List Expr} {pos : Pos} {mA : Zs → R (List Hd)} {σ : L2.St} {H : Hp}
/-- what was made is taken, then a run over what is left -/
theorem taken {z1 z2 : Zs} {F F1 : Fz} {H1 : Hp} {ow ow1 : Ows} {vs : List V} {hs : List Hd} {f : List Addr} {ds : List D} (st : Stp H F (Own ow) H1 F1 (fun x => Own ow1 x ∨ x ∈ f)) (s : SRep G H1 F1 σ z1 ow1) (r : HReps G H1 F1 σ vs hs f) (d : ∀ x ∈ f, ¬ Own ow1 x) (e : takeDs hs z1 = some (ds, z2)) :
    ∃ F2 ow2, SRep G H1 F2 σ z2 ow2 ∧ RepDs G H1 F2 vs ds ∧ Stp H F (Own ow) H1 F2 (Own ow2) := by
  obtain ⟨F2, ow2, s2, r2, st2⟩ := r.takeDs s d (fun a h => st.nf a (.inr h)) (fun a h => st.tr a (.inr h)) e
  exact ⟨F2, ow2, s2, r2, st.trans st2⟩
theorem z_tup {x1} (h : PA X es (tZA G W mA)) : PE X (.Tuple es x1 pos) (tZ G W (evTup mA)) := PE.imp (pe_tup h) fun σ H Q h => by
  obtain ⟨z, ow, F, s, run⟩ := h
  refine ⟨z, ow, F, s, RunG.first s run fun hs z1 v1 H1 F1 ow1 f1 _ st1 s1 r1 d1 run1 => ?_⟩
  cases e1 : takeDs hs z1 with
  | none => simp only [e1] at run1; exact run1.elim
  | some p =>
    obtain ⟨ds, z2⟩ := p
    simp only [e1] at run1
    split at run1
    · rename_i hl
      obtain ⟨F2, ow2, s2, r2, st2⟩ := taken st1 s1 r1 d1 e1
      refine ⟨by rw [r2.length]; exact hl, fun p hp => ?_⟩
      exact RunG.fin run1 st2 s2 (stp_newF s2.ft hp) (g := []) (RepO.val (.tup (.inl ⟨.inr (by simp), upd_same⟩) (r2.lat ⟨fun _ h => .inl h, fun a o _ e => ext_new hp a o e⟩)))
    · exact run1.elim
theorem z_lst (h : PA X es (tZA G W mA)) : PE X (.List es pos) (tZ G W (evLst mA)) := PE.imp (pe_lst h) fun σ H Q h => by
  obtain ⟨z, ow, F, s, run⟩ := h
  refine ⟨z, ow, F, s, RunG.first s run fun hs z1 v1 H1 F1 ow1 f1 _ st1 s1 r1 d1 run1 => ?_⟩
  cases e1 : takeDs hs z1 with
  | none => simp only [e1] at run1; exact run1.elim
  | some p =>
    obtain ⟨ds, z2⟩ := p
    simp only [e1] at run1
    split at run1
    · rename_i hl
      obtain ⟨F2, ow2, s2, r2, st2⟩ := taken st1 s1 r1 d1 e1
      refine ⟨by rw [r2.length]; exact hl, fun p hp => ?_⟩
      exact RunG.fin run1 st2 s2 (stp_new s2.ft hp) (g := [p]) (RepO.lst upd_same (r2.lat (lat_new hp)))
    · exact run1.elim
end
end Z
end

section
set_option maxRecDepth 100007
/-! Subscripts, slices, what a dict holds; built-in functions. -/
namespace Z
open PySem L2 PyProof.Rows
/-! ### keys -/
@[simp] def isK : D → Bool
  | .int _ => true
  | .str _ => true
  | _ => false
/-- a key of the kind t (true: tuples) -/
@[simp] def okKey (t : Bool) (k : D) : Bool := match t, k with
  | false, k => isK k
  | true, .tup ds => !ds.isEmpty && ds.all isK
  | _, _ => false
def lookD (kvs : List (D × D)) (k : D) : Option D := (kvs.find? fun p => eqD p.1 k).map (·.2)
@[simp] def ixO (d e : D) : Option O := match d, e with
  | .lst ds, .int i => (atI ds i).map .val
  | .tup ds, .int i => (atI ds i).map .val
  | .scr ns, .int i => (atI ns i).map fun n => .val (.int n)
  | .str x, .int i => if x.length ≤ sizeLine then (atI x i).map fun c => .val (.str [c]) else none
  | .dct t kvs, k => if okKey t k then (lookD kvs k).map .val else none
  | _, _ => none
section
variable {G : Gx} {H : Hp} {F : Fz} {v : V} {d : D}
theorem eq_keyD : ∀ a b : Key, eqD (keyD a) (keyD b) = decide (a = b)
  | .inl i, .inl j => by
    simp only [keyD, eqD]
    by_cases h : i = j
    · subst h; simp
    · simp [h]
  | .inr x, .inr y => by
    simp only [keyD, eqD]
    by_cases h : x = y
    · subst h; simp
    · have h2 : x.cps.toList ≠ y.cps.toList := fun e => h (by
        cases x; cases y
        simp only [Str.mk.injEq]
        exact Array.toList_inj.mp e)
      rw [decide_eq_false (fun e => h (Sum.inr.inj e))]
      exact beq_eq_false_iff_ne.mpr h2
  | .inl i, .inr y => by simp only [keyD, eqD]; simp
  | .inr x, .inl j => by simp only [keyD, eqD]; simp
theorem eq_keyDs : ∀ a b : List Key, eqDs (a.map keyD) (b.map keyD) = decide (a = b)
  | [], [] => by simp [eqDs]
  | [], _ :: _ => by simp [eqDs]
  | _ :: _, [] => by simp [eqDs]
  | x :: xs, y :: ys => by
    simp only [List.map_cons, eqDs, eq_keyD, eq_keyDs xs ys, List.cons.injEq]
    by_cases h : x = y <;> by_cases h2 : xs = ys <;> simp [h, h2]
theorem isK_key {k : D} (r : RepD G H F v k) (h : isK k = true) : ∃ q : Key, k = keyD q ∧ v = kV q := by
  cases r <;> simp only [isK, Bool.false_eq_true] at h
  · exact ⟨.inl _, rfl, rfl⟩
  · rename_i x _
    exact ⟨.inr ⟨x.toArray⟩, by simp [keyD], rfl⟩
theorem isKs_keys : ∀ {vs : List V} {ks : List D}, RepDs G H F vs ks → ks.all isK = true → ∃ qs : List Key, ks = qs.map keyD ∧ vs = qs.map kV
  | _, _, .nil, _ => ⟨[], rfl, rfl⟩
  | _, _, .cons r rs, h => by
    rw [List.all_cons, Bool.and_eq_true] at h
    obtain ⟨q, rfl, rfl⟩ := isK_key r h.1
    obtain ⟨qs, rfl, rfl⟩ := isKs_keys rs h.2
    exact ⟨q :: qs, rfl, rfl⟩
theorem RepR.dd (r : RepR G H F v d) (h : ∀ c fs, d ≠ .obj c fs) (h2 : ∀ ds, d ≠ .lst ds) (h3 : ∀ t ds, d ≠ .dct t ds) : RepD G H F v d := by
  cases r with
  | of r => exact r
  | lst _ _ => exact absurd rfl (h2 _)
  | obj _ _ => exact absurd rfl (h _ _)
  | dct _ _ => exact absurd rfl (h3 _ _)
  | dctT _ _ => exact absurd rfl (h3 _ _)
theorem lookK (q : Key) : ∀ {kvs : List (Key × V)} {ds : List (D × D)}, RepKs G H F kvs ds → match lookD ds (keyD q) with
    | some d => ∃ v, valV kvs q = some v ∧ RepD G H F v d
    | none => valV kvs q = none
  | _, _, .nil => rfl
  | _, _, .cons (k := k) (v := v) (d := d) (vs := vs) (ds := ds) he r rs => by
    subst he
    have ih := lookK q rs
    unfold lookD at ih ⊢
    rw [List.find?_cons]
    by_cases h : k = q
    · have e : eqD (keyD k) (keyD q) = true := by rw [eq_keyD]; exact decide_eq_true h
      simp only [e, Option.map_some]
      exact ⟨v, valV_pos h, r⟩
    · have e : eqD (keyD k) (keyD q) = false := by rw [eq_keyD]; exact decide_eq_false h
      simp only [e]
      have e2 : valV ((k, v) :: vs) q = valV vs q := valV_neg h
      rw [e2]
      exact ih
theorem lookT (q : List Key) : ∀ {kvs : List (List Key × V)} {ds : List (D × D)}, RepTs G H F kvs ds → match lookD ds (.tup (q.map keyD)) with
    | some d => ∃ v, valV kvs q = some v ∧ RepD G H F v d
    | none => valV kvs q = none
  | _, _, .nil => rfl
  | _, _, .cons (k := k) (v := v) (d := d) (vs := vs) (ds := ds) he r rs => by
    subst he
    have ih := lookT q rs
    unfold lookD at ih ⊢
    rw [List.find?_cons]
    by_cases h : k = q
    · have e : eqD (.tup (k.map keyD)) (.tup (q.map keyD)) = true := by simp only [eqD]; rw [eq_keyDs]; exact decide_eq_true h
      simp only [e, Option.map_some]
      exact ⟨v, valV_pos h, r⟩
    · have e : eqD (.tup (k.map keyD)) (.tup (q.map keyD)) = false := by simp only [eqD]; rw [eq_keyDs]; exact decide_eq_false h
      simp only [e]
      have e2 : valV ((k, v) :: vs) q = valV vs q := valV_neg h
      rw [e2]
      exact ih
theorem RepR.dcts {t : Bool} {kvs : List (D × D)} (r : RepR G H F v (.dct t kvs)) : ∃ a, v = .ref a ∧ ((t = false ∧ ∃ hs, H a = some (.dK hs) ∧ RepKs G H F hs kvs) ∨ (t = true ∧ ∃ hs, H a = some (.dT hs) ∧ RepTs G H F hs kvs)) := by
  cases r with
  | of r => cases r with
    | dct f h r => exact ⟨_, rfl, .inl ⟨rfl, _, h, r⟩⟩
    | dctT f h r => exact ⟨_, rfl, .inr ⟨rfl, _, h, r⟩⟩
  | dct h r => exact ⟨_, rfl, .inl ⟨rfl, _, h, r⟩⟩
  | dctT h r => exact ⟨_, rfl, .inr ⟨rfl, _, h, r⟩⟩
/-- a good key asked of a dict -/
theorem map_nil_nil {qs : List Key} (h : qs.map kV = []) : qs.map keyD = [] := by
  cases qs with
  | nil => rfl
  | cons _ _ => cases h
theorem dget_ok {t : Bool} {kvs : List (D × D)} {y : V} {k : D} (r : RepR G H F v (.dct t kvs)) (rk : RepR G H F y k) (h : okKey t k = true) : ∃ a o, v = .ref a ∧ DGet H a y o ∧ match lookD kvs k with
    | some d => ∃ w, o = some w ∧ RepD G H F w d
    | none => o = none := by
  obtain ⟨a, rfl, ⟨rfl, hs, ha, rs⟩ | ⟨rfl, hs, ha, rs⟩⟩ := r.dcts
  · have rk' : RepD G H F y k := rk.dd (fun c fs e => by subst e; cases h) (fun ds e => by subst e; cases h) (fun t ds e => by subst e; cases h)
    obtain ⟨q, rfl, rfl⟩ := isK_key rk' h
    exact ⟨a, valV hs q, rfl, DGet.k ha, lookK q rs⟩
  · cases k <;> simp only [okKey, Bool.false_eq_true] at h
    obtain ⟨b, vs, rfl, hb, rb⟩ := rk.tups
    rw [Bool.and_eq_true] at h
    obtain ⟨qs, rfl, rfl⟩ := isKs_keys rb h.2
    exact ⟨a, valV hs qs, rfl, DGet.t ha (hb.own fun e => by rw [map_nil_nil e] at h; cases h.1), lookT qs rs⟩
theorem ixN_lt {n : Nat} {i : Int} {j : Nat} (h : ixN n i = some j) : j < n := (ixN_seq h).2.1
theorem atI_rep {vs : List V} {ds : List D} {i : Int} {e : D} (r : RepDs G H F vs ds) (h : atI ds i = some e) : ∃ w, atI vs i = some w ∧ RepD G H F w e := by
  unfold atI at h ⊢
  rw [r.length]
  cases q : ixN ds.length i with
  | none => rw [q] at h; cases h
  | some j =>
    rw [q] at h
    exact r.get h
end
section
variable {G : Gx} {X : Cx}
theorem ix_dict (hu : X.A.units + 1 < cLine) : IxR X (fun x y H Q => ∃ a v, x = .ref a ∧ DGet H a y (some v) ∧ Q v H) := by
  intro value slice pins s σ H x y v u Q I rx ry h hs
  obtain ⟨a, w, rfl, g, q⟩ := h
  cases rx
  exact tail_any (dict_typeIs I g) PySem.F.slot_dict_getitem.lookup (d_getItem hu I g ry fun w' s3 I3 rw' => ⟨w, H, I3, rw', q⟩) hs
theorem ix_ok (hK : G.K = X.K) (hu : X.A.units + 65 < cLine) : IxR X (rV2 G ixO) := by
  intro value slice pins s σ H x y v u Q I rx ry hh hs
  obtain ⟨F, d, e, o, ft, rd, re, hf, mk⟩ := hh
  cases d
  case dct t kvs =>
    simp only [ixO] at hf
    split at hf
    · rename_i hk
      obtain ⟨a, oo, rfl, g, l⟩ := dget_ok rd re hk
      cases e1 : lookD kvs e with
      | none => rw [e1] at hf; cases hf
      | some d' =>
        rw [e1] at hf
        simp only [e1] at l
        cases hf
        obtain ⟨w, rfl, rw'⟩ := l
        exact ix_dict (by omega) value slice pins s σ H _ y v u Q I rx ry ⟨a, w, rfl, g, mk.val ft rw'⟩ hs
    · cases hf
  all_goals
    cases e <;> simp only [ixO, reduceCtorEq] at hf
  · rename_i x i
    split at hf
    · rename_i hl
      obtain ⟨rfl, t1⟩ := rd.str
      cases re.int
      cases e1 : atI x i with
      | none => rw [e1] at hf; cases hf
      | some c =>
        rw [e1] at hf
        cases hf
        refine ix_str value slice pins s σ H _ _ v u Q I rx ry ⟨_, i, c, rfl, rfl, by rw [str_len]; exact hl, by simpa using e1, ?_⟩ hs
        have hc : txtOk [c] = true := by
          unfold txtOk at *
          have hm : c ∈ x := by
            unfold atI at e1
            cases q : ixN x.length i with
            | none => rw [q] at e1; cases e1
            | some j => rw [q] at e1; exact List.mem_of_getElem? e1
          simpa using List.all_eq_true.mp t1 c hm
        exact mk.val ft (.str hc)
    · cases hf
  · rename_i ds i
    obtain ⟨p, vs, rfl, hp, r1⟩ := rd.tups
    cases re.int
    cases e1 : atI ds i with
    | none => rw [e1] at hf; cases hf
    | some d' =>
      rw [e1] at hf
      cases hf
      obtain ⟨w, ew, rw'⟩ := atI_rep r1 e1
      exact ix_tup value slice pins s σ H _ _ v u Q I rx ry ⟨p, vs, i, w, rfl, rfl, hK ▸ hp.sq, ew, mk.val ft rw'⟩ hs
  · rename_i ds i
    obtain ⟨p, vs, rfl, hp, r1⟩ := rd.lsts
    cases re.int
    cases e1 : atI ds i with
    | none => rw [e1] at hf; cases hf
    | some d' =>
      rw [e1] at hf
      cases hf
      obtain ⟨w, ew, rw'⟩ := atI_rep r1 e1
      exact ix_list value slice pins s σ H _ _ v u Q I rx ry ⟨p, vs, i, w, rfl, rfl, SqL.of hp, ew, mk.val ft rw'⟩ hs
  · rename_i ns i
    obtain ⟨p, rfl, hp⟩ := rd.scrs
    cases re.int
    cases e1 : atI ns i with
    | none => rw [e1] at hf; cases hf
    | some n =>
      rw [e1] at hf
      cases hf
      have ew : atI (ns.map V.int) i = some (.int n) := by
        unfold atI at e1 ⊢
        rw [List.length_map]
        cases q : ixN ns.length i with
        | none => rw [q] at e1; cases e1
        | some j =>
          rw [q] at e1
          simp only [Option.bind_some] at e1 ⊢
          rw [List.getElem?_map, e1]; rfl
      exact ix_list value slice pins s σ H _ _ v u Q I rx ry ⟨p, _, i, _, rfl, rfl, by rw [← hK]; exact hp, ew, mk.val ft (.int n)⟩ hs
variable {W : WX} {a b : Expr} {pos : Pos} {m1 m2 : Zs → R Hd}
theorem z_ix (hK : G.K = X.K) (hu : X.A.units + 65 < cLine) (ha : PE X a (tZ G W m1)) (hb : PE X b (tZ G W m2)) (hs : PlainIx b) : PE X (.Subscript a b pos) (tZ G W (evOp2 ixO m1 m2)) := PE.imp (pe_ix (ix_ok hK hu) ha hb hs) fun _ _ _ h => op2_read h
/-- k in d -/
@[simp] def inO (neg : Bool) (k d : D) : Option O := match d with
  | .dct t kvs => if okKey t k then some (.val (.bl (if neg then !(lookD kvs k).isSome else (lookD kvs k).isSome))) else none
  | _ => cmpO (if neg then .notin else .inn) k d
theorem in_ok (hK : G.K = X.K) (hu : X.A.units + 65 < cLine) : OpR X (compareOp .In) (rV2 G (inO false)) := by
  intro pins s σ H x y v u Q I rx ry hh
  obtain ⟨F, d, e, o, ft, rd, re, hf, mk⟩ := hh
  cases e
  case dct t kvs =>
    simp only [inO] at hf
    split at hf
    · rename_i hk
      obtain ⟨a, oo, rfl, g, l⟩ := dget_ok re rd hk
      cases hf
      cases ry
      refine d_in (by omega) I g rx fun s3 I3 => ⟨.bl oo.isSome, H, I3, rfl, ?_⟩
      have e : oo.isSome = (lookD kvs d).isSome := by
        cases e1 : lookD kvs d with
        | none => simp only [e1] at l; rw [l]; rfl
        | some d' => simp only [e1] at l; obtain ⟨w, rfl, _⟩ := l; rfl
      rw [e]
      exact mk.val ft (.bl _)
    · cases hf
  all_goals exact c_in hK hu pins s σ H x y v u Q I rx ry ⟨F, d, _, o, ft, rd, re, hf, mk⟩
theorem notin_ok (hK : G.K = X.K) (hu : X.A.units + 65 < cLine) : OpR X (compareOp .NotIn) (rV2 G (inO true)) := by
  intro pins s σ H x y v u Q I rx ry hh
  obtain ⟨F, d, e, o, ft, rd, re, hf, mk⟩ := hh
  cases e
  case dct t kvs =>
    simp only [inO] at hf
    split at hf
    · rename_i hk
      obtain ⟨a, oo, rfl, g, l⟩ := dget_ok re rd hk
      cases hf
      cases ry
      refine d_notIn (by omega) I g rx fun s3 I3 => ⟨.bl (!oo.isSome), H, I3, rfl, ?_⟩
      have e : oo.isSome = (lookD kvs d).isSome := by
        cases e1 : lookD kvs d with
        | none => simp only [e1] at l; rw [l]; rfl
        | some d' => simp only [e1] at l; obtain ⟨w, rfl, _⟩ := l; rfl
      rw [e]
      exact mk.val ft (.bl _)
    · cases hf
  all_goals exact c_notin hK hu pins s σ H x y v u Q I rx ry ⟨F, d, _, o, ft, rd, re, hf, mk⟩
end
/-! ### slices -/
def cutL {α : Type} (xs : List α) (lo hi : Option Int) : List α := (xs.drop (HT.sIx xs.length 0 lo)).take (HT.sIx xs.length xs.length hi - HT.sIx xs.length 0 lo)
def slO (d : D) (lo hi : Option Int) : Option O := match d with
  | .lst ds => some (.lst (cutL ds lo hi))
  | .tup ds => some (.val (.tup (cutL ds lo hi)))
  | .str x => if x.length ≤ sizeLine then some (.val (.str (cutL x lo hi))) else none
  | _ => none
def rVS (G : Gx) : V → Option Int → Option Int → Hp → VK → Prop := fun x lo hi H Q => ∃ F d o, FT H F ∧ RepR G H F x d ∧ slO d lo hi = some o ∧ Makes G H F o Q
section
variable {G : Gx} {X : Cx}
theorem cutL_rep {H : Hp} {F : Fz} {vs : List V} {ds : List D} (r : RepDs G H F vs ds) (lo hi : Option Int) : RepDs G H F (cutV vs lo hi) (cutL ds lo hi) := by
  unfold cutV cutL
  rw [r.length]
  exact (r.drop _).take _
theorem whole_cut {α : Type} {xs : List α} {lo hi : Option Int} (h : HT.sIx xs.length 0 lo = 0 ∧ HT.sIx xs.length xs.length hi = xs.length) : cutL xs lo hi = xs := by
  unfold cutL
  rw [h.1, h.2, List.drop_zero, Nat.sub_zero, List.take_length]
theorem sl_ok (hK : G.K = X.K) : SlR X (rVS G) := by
  have all : SlR X (fun x lo hi H Q => rSlL X.K x lo hi H Q ∨ (rSlA X.K x lo hi H Q ∨ rSlS x lo hi H Q)) := SlR.or sl_list (SlR.or sl_tupA sl_str)
  intro pins s σ H x v vl vu lo hi sl Q I rx hs pl pu hh
  refine all pins s σ H x v vl vu lo hi sl Q I rx hs pl pu ?_
  obtain ⟨F, d, o, ft, rd, hf, mk⟩ := hh
  cases d <;> simp only [slO, reduceCtorEq] at hf
  · rename_i x0
    split at hf
    · rename_i hl
      obtain ⟨rfl, t1⟩ := rd.str
      cases hf
      refine .inr (.inr ⟨_, rfl, by rw [str_len]; exact hl, ?_⟩)
      have e : cutS ⟨x0.toArray⟩ lo hi = ⟨(cutL x0 lo hi).toArray⟩ := by
        unfold cutS cutL
        rw [str_len]
      rw [e]
      refine mk.val ft (.str ?_)
      unfold txtOk at *
      rw [List.all_eq_true] at *
      intro c hc
      exact t1 c (List.mem_of_mem_drop (List.mem_of_mem_take hc))
    · cases hf
  · rename_i ds
    obtain ⟨p, vs, rfl, hp, r1⟩ := rd.tups
    cases hf
    refine .inr (.inl ⟨p, vs, rfl, hK ▸ hp.sq, fun h => ?_, fun h q hq => mk.tup ft (cutL_rep r1 lo hi) q hq⟩)
    rw [r1.length] at h
    rw [whole_cut h] at mk
    exact mk.val ft (.tup hp r1)
  · obtain ⟨p, vs, rfl, hp, r1⟩ := rd.lsts
    cases hf
    exact .inl ⟨p, vs, rfl, SqL.of hp, fun q hq => mk.lst ft (cutL_rep r1 lo hi) q hq⟩
/-- a part of a slice -/
@[simp] def toPart (x : Hd) (z : Zs) : Option Int := match peek x z with
  | some (.int i) => some i
  | _ => none
@[simp] def evPart : Option (Zs → R Hd) → Zs → R (Option Int)
  | none, z => .ok none z
  | some m, z => (m z).bind fun x z1 => match toPart x z1 with
    | some i => .ok (some i) z1
    | none => .bad
@[simp] def evSl (m1 : Zs → R Hd) (lo hi : Option (Zs → R Hd)) : Zs → R Hd := fun z => (m1 z).bind fun x z1 => (evPart lo z1).bind fun l z2 => (evPart hi z2).bind fun h z3 => match peek x z3 with
  | some d => match slO d l h with
    | some o => .ok (.tmp o) z3
    | none => .bad
  | none => .bad
def relP : Rel (Option Int) (Option Int) := fun _ _ b a f => b = a ∧ f = []
def tZP (G : Gx) (W : WX) (m : Zs → R (Option Int)) : TO := tG G W (fun _ => relP) m
theorem PO.imp {X : Cx} {e : Option Expr} {t t' : TO} (h : PO X e t) (k : ∀ σ H Q, t' σ H Q → t σ H Q) : PO X e t' := ⟨fun pins s σ H Q I q => h.run pins s σ H Q I (k σ H Q q)⟩
variable {W : WX} {e lo' hi' : Expr} {pos p2 : Pos} {m1 m2 m3 : Zs → R Hd} {ml mh : Option (Zs → R Hd)} {lo hi : Option Expr}
theorem zp_none : PO X none (tZP G W (evPart none)) := PO.imp po_none fun σ H Q h => by
  obtain ⟨z, ow, F, s, run⟩ := h
  exact run none H F ow [] (s.refl.weak fun x h => h.elim id fun h => by cases h) s ⟨rfl, rfl⟩ fun x h => by cases h
theorem zp_some (h : PE X e (tZ G W m1)) : PO X (some e) (tZP G W (evPart (some m1))) := PO.imp (po_some h) fun σ H Q h => by
  obtain ⟨z, ow, F, s, run⟩ := h
  refine ⟨z, ow, F, s, RunG.first s run fun x z1 v1 H1 F1 ow1 f1 _ st1 s1 r1 d1 run1 => ?_⟩
  unfold toPart at run1
  cases e1 : peek x z1 with
  | none => simp only [e1] at run1; exact run1.elim
  | some d =>
    cases d <;> simp only [e1] at run1 <;> try exact run1.elim
    have r2 : RepR G H1 F1 v1 _ := r1.peek s1 e1
    exact ⟨_, r2.int, run1 _ H1 F1 ow1 [] (st1.weak fun x h => h.elim .inl fun h => by cases h) s1 ⟨rfl, rfl⟩ fun x h => by cases h⟩
theorem z_sl (hK : G.K = X.K) (he : PE X e (tZ G W m1)) (hl : PO X lo (tZP G W (evPart ml))) (hh : PO X hi (tZP G W (evPart mh))) : PE X (.Subscript e (.Slice lo hi none p2) pos) (tZ G W (evSl m1 ml mh)) := PE.imp (pe_slice (sl_ok hK) he hl hh) fun σ H Q h => by
  obtain ⟨z, ow, F, s, run⟩ := h
  refine ⟨z, ow, F, s, RunG.first s run fun x z1 v1 H1 F1 ow1 f1 _ st1 s1 r1 d1 run1 => ?_⟩
  refine ⟨z1, ow1, F1, s1, RunG.bind st1 d1 run1 fun y z2 v2 H2 F2 ow2 f2 _ st2 s2 r2 d2 st d run2 => ?_⟩
  obtain ⟨rfl, rfl⟩ := r2
  refine ⟨z2, ow2, F2, s2, RunG.bind (fP := fun x => x ∈ f1) (st.weak fun x h => h.elim .inl fun h => .inr (.inr h)) (fun x h => (d x h).1) run2 fun y z3 v3 H3 F3 ow3 f3 _ st3 s3 r3 d3 stt dd run3 => ?_⟩
  obtain ⟨rfl, rfl⟩ := r3
  have r1' : HRep G H3 F3 σ v1 x f1 := (HRep.stp r1 st2 d1).stp st3 (fun a h => (d a h).1)
  cases e1 : peek x z3 with
  | none => simp only [e1] at run3; exact run3.elim
  | some d =>
    simp only [e1] at run3
    cases e2 : slO d v2 v3 with
    | none => simp only [e2] at run3; exact run3.elim
    | some o =>
      simp only [e2] at run3
      exact ⟨F3, d, o, s3.ft, r1'.peek s3 e1, e2, fun v4 H4 F4 g t r4 => RunG.fin run3 (stt.weak fun x h => .inl h) s3 t r4⟩
end
end Z
end

section
set_option maxRecDepth 100007
/-! Built-in functions. -/
namespace Z
open PySem L2 PyProof.Rows
@[simp] def lenD : D → Option Nat
  | .lst ds => some ds.length
  | .tup ds => some ds.length
  | .scr ns => some ns.length
  | .str x => if x.length ≤ sizeLine then some x.length else none
  | .dct false kvs => some kvs.length
  | _ => none
@[simp] def biLen : List D → Option O
  | [d] => (lenD d).map fun n => .val (.int n)
  | _ => none
@[simp] def biAbs : List D → Option O
  | [.int i] => some (.val (.int (if i < 0 then -i else i)))
  | _ => none
@[simp] def biInt : List D → Option O
  | [.int i] => some (.val (.int i))
  | [.bl b] => some (.val (.int (if b then 1 else 0)))
  | _ => none
@[simp] def biBool : List D → Option O
  | [.int i] => some (.val (.bl (i != 0)))
  | [.bl b] => some (.val (.bl b))
  | _ => none
def intTxt (i : Int) : List Nat := (Str.ofString (toString i)).cps.toList
def biStr : List D → Option O
  | [.int i] => if i.natAbs.log2 < 1920 ∧ txtOk (intTxt i) = true then some (.val (.str (intTxt i))) else none
  | [.str x] => some (.val (.str x))
  | _ => none
def allI : List D → Option (List Int)
  | [] => some []
  | .int i :: r => (allI r).map fun ns => i :: ns
  | _ => none
def allB : List D → Option (List Bool)
  | [] => some []
  | .bl i :: r => (allB r).map fun ns => i :: ns
  | _ => none
def maxL : Int → List Int → Int
  | m, [] => m
  | m, x :: r => maxL (if x > m then x else m) r
def minL : Int → List Int → Int
  | m, [] => m
  | m, x :: r => minL (if x < m then x else m) r
def biMax : List D → Option O
  | [.int i, .int j] => some (.val (.int (if j > i then j else i)))
  | [.lst ds] => match allI ds with
    | some (n :: ns) => some (.val (.int (maxL n ns)))
    | _ => none
  | _ => none
def biMin : List D → Option O
  | [.int i, .int j] => some (.val (.int (if j < i then j else i)))
  | [.lst ds] => match allI ds with
    | some (n :: ns) => some (.val (.int (minL n ns)))
    | _ => none
  | _ => none
@[simp] def biTuple : List D → Option O
  | [.lst ds] => some (.val (.tup ds))
  | [.tup ds] => some (.val (.tup ds))
  | _ => none
@[simp] def biList : List D → Option O
  | [.lst ds] => some (.lst ds)
  | [.tup ds] => some (.lst ds)
  | [.scr ns] => some (.lst (ns.map .int))
  | _ => none
def biSum : List D → Option O
  | [.lst ds] => (allI ds).map fun ns => .val (.int ns.sum)
  | _ => none
def biAny : List D → Option O
  | [.lst ds] => (allB ds).map fun ns => .val (.bl (ns.any id))
  | _ => none
def biAll : List D → Option O
  | [.lst ds] => (allB ds).map fun ns => .val (.bl (ns.all id))
  | _ => none
def insI (x : Int) : List Int → List Int
  | [] => [x]
  | y :: r => if x ≤ y then x :: y :: r else y :: insI x r
def sortI : List Int → List Int
  | [] => []
  | x :: r => insI x (sortI r)
def biSorted : List D → Option O
  | [.lst ds] => (allI ds).map fun ns => .lst ((sortI ns).map .int)
  | _ => none
section
variable {G : Gx} {H : Hp} {F : Fz}
theorem allI_rep : ∀ {vs : List V} {ds : List D} {ns : List Int}, RepDs G H F vs ds → allI ds = some ns → vs = ns.map V.int ∧ ds = ns.map D.int
  | _, _, ns, .nil, h => by cases h; exact ⟨rfl, rfl⟩
  | _, d :: ds, ns, .cons r rs, h => by
    cases d <;> simp only [allI, reduceCtorEq] at h
    cases e : allI ds with
    | none => rw [e] at h; cases h
    | some ms =>
      rw [e] at h
      cases h
      cases r
      obtain ⟨rfl, rfl⟩ := allI_rep rs e
      exact ⟨rfl, rfl⟩
theorem allB_rep : ∀ {vs : List V} {ds : List D} {ns : List Bool}, RepDs G H F vs ds → allB ds = some ns → vs = ns.map V.bl
  | _, _, ns, .nil, h => by cases h; rfl
  | _, d :: ds, ns, .cons r rs, h => by
    cases d <;> simp only [allB, reduceCtorEq] at h
    cases e : allB ds with
    | none => rw [e] at h; cases h
    | some ms =>
      rw [e] at h
      cases h
      cases r
      obtain rfl := allB_rep rs e
      rfl
theorem repInts (ns : List Int) : RepDs G H F (ns.map V.int) (ns.map D.int) := by
  induction ns with
  | nil => exact .nil
  | cons n ns ih => exact .cons (.int n) ih
theorem RepKs.len : ∀ {hs : List (Key × V)} {kvs : List (D × D)}, RepKs G H F hs kvs → hs.length = kvs.length
  | _, _, .nil => rfl
  | _, _, .cons _ _ r => by rw [List.length_cons, List.length_cons, RepKs.len r]
theorem maxL_mem : ∀ (m : Int) (l : List Int), maxL m l ∈ m :: l
  | m, [] => by simp [maxL]
  | m, x :: r => by
    have := maxL_mem (if x > m then x else m) r
    simp only [maxL]
    rcases List.mem_cons.mp this with h | h
    · rw [h]; split <;> simp
    · exact List.mem_cons_of_mem _ (List.mem_cons_of_mem _ h)
theorem maxL_ge : ∀ (m : Int) (l : List Int), ∀ y ∈ m :: l, y ≤ maxL m l
  | m, [], y, h => by
    simp only [List.mem_singleton] at h
    rw [h]; exact Int.le_refl _
  | m, x :: r, y, h => by
    simp only [maxL]
    have ih := maxL_ge (if x > m then x else m) r
    have h0 := ih _ (List.mem_cons_self)
    rcases List.mem_cons.mp h with h | h
    · rw [h]; split at h0 <;> split <;> omega
    · rcases List.mem_cons.mp h with h | h
      · rw [h]; split at h0 <;> split <;> omega
      · exact ih y (List.mem_cons_of_mem _ h)
theorem minL_mem : ∀ (m : Int) (l : List Int), minL m l ∈ m :: l
  | m, [] => by simp [minL]
  | m, x :: r => by
    have := minL_mem (if x < m then x else m) r
    simp only [minL]
    rcases List.mem_cons.mp this with h | h
    · rw [h]; split <;> simp
    · exact List.mem_cons_of_mem _ (List.mem_cons_of_mem _ h)
theorem minL_le : ∀ (m : Int) (l : List Int), ∀ y ∈ m :: l, minL m l ≤ y
  | m, [], y, h => by
    simp only [List.mem_singleton] at h
    rw [h]; exact Int.le_refl _
  | m, x :: r, y, h => by
    simp only [minL]
    have ih := minL_le (if x < m then x else m) r
    have h0 := ih _ (List.mem_cons_self)
    rcases List.mem_cons.mp h with h | h
    · rw [h]; split at h0 <;> split <;> omega
    · rcases List.mem_cons.mp h with h | h
      · rw [h]; split at h0 <;> split <;> omega
      · exact ih y (List.mem_cons_of_mem _ h)
theorem insI_perm (x : Int) : ∀ l, (insI x l).Perm (x :: l)
  | [] => .refl _
  | y :: r => by
    unfold insI
    split
    · exact .refl _
    · exact ((insI_perm x r).cons y).trans (.swap x y r)
theorem sortI_perm : ∀ l, (sortI l).Perm l
  | [] => .refl _
  | x :: r => (insI_perm x _).trans ((sortI_perm r).cons x)
theorem insI_sorted (x : Int) : ∀ l, l.Pairwise (· ≤ ·) → (insI x l).Pairwise (· ≤ ·)
  | [], _ => by simp [insI]
  | y :: r, h => by
    unfold insI
    split
    · rename_i hx
      refine List.pairwise_cons.mpr ⟨fun z hz => ?_, h⟩
      rcases List.mem_cons.mp hz with rfl | hz
      · exact hx
      · exact Int.le_trans hx ((List.pairwise_cons.mp h).1 z hz)
    · rename_i hx
      refine List.pairwise_cons.mpr ⟨fun z hz => ?_, insI_sorted x r (List.pairwise_cons.mp h).2⟩
      rcases List.mem_cons.mp ((insI_perm x r).mem_iff.mp hz) with rfl | hz
      · omega
      · exact (List.pairwise_cons.mp h).1 z hz
theorem sortI_sorted : ∀ l, (sortI l).Pairwise (· ≤ ·)
  | [] => .nil
  | x :: r => insI_sorted x _ (sortI_sorted r)
theorem sorted_unique : ∀ (a b : List Int), a.Perm b → a.Pairwise (· ≤ ·) → b.Pairwise (· ≤ ·) → a = b := fun a b p ha hb =>
  p.eq_of_pairwise (fun x y _ _ h1 h2 => Int.le_antisymm h1 h2) ha hb
end
section
variable {G : Gx} {X : Cx}
theorem repRs1 {H : Hp} {F : Fz} {xs : List V} {d : D} (r : RepRs G H F xs [d]) : ∃ x, xs = [x] ∧ RepR G H F x d := by
  cases r with
  | cons h t => cases t; exact ⟨_, rfl, h⟩
theorem repRs2 {H : Hp} {F : Fz} {xs : List V} {d e : D} (r : RepRs G H F xs [d, e]) : ∃ x y, xs = [x, y] ∧ RepR G H F x d ∧ RepR G H F y e := by
  cases r with
  | cons h t => cases t with
    | cons h2 t => cases t; exact ⟨_, _, rfl, h, h2⟩
theorem bi_len (hK : G.K = X.K) : CallR X (.builtin "len") (rVN G biLen) := by
  intro pins s σ H xs us Q I rs hh
  obtain ⟨F, ds, o, ft, rd, hf, mk⟩ := hh
  unfold biLen at hf
  split at hf
  · rename_i d
    obtain ⟨x, rfl, r⟩ := repRs1 rd
    cases e : lenD d with
    | none => rw [e] at hf; cases hf
    | some n =>
      rw [e] at hf
      cases hf
      have q := mk.val ft (.int (n : Int))
      cases d <;> simp only [lenD, reduceCtorEq] at e
      · split at e
        · rename_i hl
          cases e
          obtain ⟨rfl, _⟩ := r.str
          refine call_len_str pins s σ H _ us Q I rs ⟨_, rfl, by rw [str_len]; exact hl, ?_⟩
          rw [str_len]; exact q
        · cases e
      · cases e
        obtain ⟨p, vs, rfl, hp, r1⟩ := r.tups
        refine call_len_seq pins s σ H _ us Q I rs ⟨p, vs, rfl, .inr (hK ▸ hp.sq), ?_⟩
        rw [r1.length]; exact q
      · cases e
        obtain ⟨p, vs, rfl, hp, r1⟩ := r.lsts
        refine call_len_seq pins s σ H _ us Q I rs ⟨p, vs, rfl, .inl (SqL.of hp), ?_⟩
        rw [r1.length]; exact q
      · rename_i t kvs
        cases t
        · simp only [Option.some.injEq] at e
          subst e
          obtain ⟨p, rfl, ⟨_, hs, hp, r1⟩ | ⟨h, _⟩⟩ := r.dcts
          · obtain ⟨u, rfl, rx⟩ := vals1 rs
            cases rx
            have hl : hs.length = kvs.length := r1.len
            exact d_len I (.inl hp) fun t s' I' => ⟨.int kvs.length, H, I', ⟨t, by rw [hl]⟩, q⟩
          · cases h
        · cases e
      · cases e
        obtain ⟨p, rfl, hp⟩ := r.scrs
        refine call_len_seq pins s σ H _ us Q I rs ⟨p, _, rfl, .inl (by rw [← hK]; exact hp), ?_⟩
        rw [List.length_map]; exact q
  · cases hf
theorem bi_abs : CallR X (.builtin "abs") (rVN G biAbs) := by
  intro pins s σ H xs us Q I rs hh
  obtain ⟨F, ds, o, ft, rd, hf, mk⟩ := hh
  unfold biAbs at hf
  split at hf
  · obtain ⟨x, rfl, r⟩ := repRs1 rd
    cases hf
    cases r.int
    exact call_abs pins s σ H _ us Q I rs ⟨_, rfl, mk.val ft (.int _)⟩
  · cases hf
theorem bi_int : CallR X (.type "int") (rVN G biInt) := by
  intro pins s σ H xs us Q I rs hh
  obtain ⟨F, ds, o, ft, rd, hf, mk⟩ := hh
  unfold biInt at hf
  split at hf
  · obtain ⟨x, rfl, r⟩ := repRs1 rd
    cases hf
    cases r.int
    exact call_int1 pins s σ H _ us Q I rs (.inl ⟨_, rfl, mk.val ft (.int _)⟩)
  · obtain ⟨x, rfl, r⟩ := repRs1 rd
    cases hf
    cases r.bl
    exact call_int1 pins s σ H _ us Q I rs (.inr ⟨_, rfl, mk.val ft (.int _)⟩)
  · cases hf
theorem bi_bool : CallR X (.type "bool") (rVN G biBool) := by
  intro pins s σ H xs us Q I rs hh
  obtain ⟨F, ds, o, ft, rd, hf, mk⟩ := hh
  unfold biBool at hf
  split at hf
  · obtain ⟨x, rfl, r⟩ := repRs1 rd
    cases hf
    cases r.int
    exact call_bool1 pins s σ H _ us Q I rs (.inl ⟨_, rfl, mk.val ft (.bl _)⟩)
  · obtain ⟨x, rfl, r⟩ := repRs1 rd
    cases hf
    cases r.bl
    exact call_bool1 pins s σ H _ us Q I rs (.inr ⟨_, rfl, mk.val ft (.bl _)⟩)
  · cases hf
theorem bi_str : CallR X (.type "str") (rVN G biStr) := by
  intro pins s σ H xs us Q I rs hh
  obtain ⟨F, ds, o, ft, rd, hf, mk⟩ := hh
  unfold biStr at hf
  split at hf
  · obtain ⟨x, rfl, r⟩ := repRs1 rd
    split at hf
    · rename_i hc
      cases hf
      cases r.int
      refine call_str_int pins s σ H _ us Q I rs ⟨_, rfl, hc.1, ?_⟩
      have := mk.val ft (.str hc.2)
      simpa [intTxt] using this
    · cases hf
  · obtain ⟨x, rfl, r⟩ := repRs1 rd
    cases hf
    obtain ⟨rfl, t⟩ := r.str
    exact SkE.call_str_str pins s σ H _ us Q I rs ⟨_, rfl, mk.val ft (.str t)⟩
  · cases hf
theorem bi_max (hK : G.K = X.K) (hc : X.calm = true) : CallR X (.builtin "max") (rVN G biMax) := by
  intro pins s σ H xs us Q I rs hh
  obtain ⟨F, ds, o, ft, rd, hf, mk⟩ := hh
  unfold biMax at hf
  split at hf
  · obtain ⟨x, y, rfl, r, r2⟩ := repRs2 rd
    cases hf
    cases r.int
    cases r2.int
    exact call_max2 hc pins s σ H _ us Q I rs ⟨_, _, rfl, mk.val ft (.int _)⟩
  · obtain ⟨x, rfl, r⟩ := repRs1 rd
    split at hf
    · rename_i n ns e
      cases hf
      obtain ⟨p, vs, rfl, hp, r1⟩ := r.lsts
      obtain ⟨rfl, _⟩ := allI_rep r1 e
      refine cr_max hc pins s σ H _ us Q I rs ⟨p, n :: ns, rfl, SqL.of hp, by simp, fun m hm hy => ?_⟩
      have : m = maxL n ns := Int.le_antisymm (maxL_ge n ns m hm) (hy _ (maxL_mem n ns))
      rw [this]
      exact mk.val ft (.int _)
    · cases hf
  · cases hf
theorem bi_min (hK : G.K = X.K) (hc : X.calm = true) : CallR X (.builtin "min") (rVN G biMin) := by
  intro pins s σ H xs us Q I rs hh
  obtain ⟨F, ds, o, ft, rd, hf, mk⟩ := hh
  unfold biMin at hf
  split at hf
  · obtain ⟨x, y, rfl, r, r2⟩ := repRs2 rd
    cases hf
    cases r.int
    cases r2.int
    exact call_min2 hc pins s σ H _ us Q I rs ⟨_, _, rfl, mk.val ft (.int _)⟩
  · obtain ⟨x, rfl, r⟩ := repRs1 rd
    split at hf
    · rename_i n ns e
      cases hf
      obtain ⟨p, vs, rfl, hp, r1⟩ := r.lsts
      obtain ⟨rfl, _⟩ := allI_rep r1 e
      refine cr_min hc pins s σ H _ us Q I rs ⟨p, n :: ns, rfl, SqL.of hp, by simp, fun m hm hy => ?_⟩
      have : m = minL n ns := Int.le_antisymm (hy _ (minL_mem n ns)) (minL_le n ns m hm)
      rw [this]
      exact mk.val ft (.int _)
    · cases hf
  · cases hf
theorem bi_tuple (hK : G.K = X.K) : CallR X (.type "tuple") (rVN G biTuple) := by
  intro pins s σ H xs us Q I rs hh
  obtain ⟨F, ds, o, ft, rd, hf, mk⟩ := hh
  unfold biTuple at hf
  split at hf
  · obtain ⟨x, rfl, r⟩ := repRs1 rd
    cases hf
    obtain ⟨p, vs, rfl, hp, r1⟩ := r.lsts
    exact call_tuple_of pins s σ H _ us Q I rs ⟨p, vs, rfl, .inl ⟨SqL.of hp, fun l hl => mk.tup ft r1 l hl⟩⟩
  · obtain ⟨x, rfl, r⟩ := repRs1 rd
    cases hf
    obtain ⟨p, vs, rfl, hp, r1⟩ := r.tups
    exact call_tuple_of pins s σ H _ us Q I rs ⟨p, vs, rfl, .inr ⟨hK ▸ hp.sq, mk.val ft (.tup hp r1)⟩⟩
  · cases hf
theorem bi_list (hK : G.K = X.K) : CallR X (.type "list") (rVN G biList) := by
  intro pins s σ H xs us Q I rs hh
  obtain ⟨F, ds, o, ft, rd, hf, mk⟩ := hh
  unfold biList at hf
  split at hf
  · obtain ⟨x, rfl, r⟩ := repRs1 rd
    cases hf
    obtain ⟨p, vs, rfl, hp, r1⟩ := r.lsts
    exact call_list_of pins s σ H _ us Q I rs ⟨p, vs, rfl, .inl (SqL.of hp), fun l hl => mk.lst ft r1 l hl⟩
  · obtain ⟨x, rfl, r⟩ := repRs1 rd
    cases hf
    obtain ⟨p, vs, rfl, hp, r1⟩ := r.tups
    exact call_list_of pins s σ H _ us Q I rs ⟨p, vs, rfl, .inr (hK ▸ hp.sq), fun l hl => mk.lst ft r1 l hl⟩
  · obtain ⟨x, rfl, r⟩ := repRs1 rd
    cases hf
    obtain ⟨p, rfl, hp⟩ := r.scrs
    exact call_list_of pins s σ H _ us Q I rs ⟨p, _, rfl, .inl (by rw [← hK]; exact hp), fun l hl => mk.lst ft (repInts _) l hl⟩
  · cases hf
theorem bi_sum (hc : X.calm = true) : CallR X (.builtin "sum") (rVN G biSum) := by
  intro pins s σ H xs us Q I rs hh
  obtain ⟨F, ds, o, ft, rd, hf, mk⟩ := hh
  unfold biSum at hf
  split at hf
  · rename_i ds
    obtain ⟨x, rfl, r⟩ := repRs1 rd
    cases e : allI ds with
    | none => rw [e] at hf; cases hf
    | some ns =>
      rw [e] at hf
      cases hf
      obtain ⟨p, vs, rfl, hp, r1⟩ := r.lsts
      obtain ⟨rfl, _⟩ := allI_rep r1 e
      exact cr_sum hc pins s σ H _ us Q I rs ⟨p, ns, rfl, SqL.of hp, mk.val ft (.int _)⟩
  · cases hf
theorem bi_any (hc : X.calm = true) : CallR X (.builtin "any") (rVN G biAny) := by
  intro pins s σ H xs us Q I rs hh
  obtain ⟨F, ds, o, ft, rd, hf, mk⟩ := hh
  unfold biAny at hf
  split at hf
  · rename_i ds
    obtain ⟨x, rfl, r⟩ := repRs1 rd
    cases e : allB ds with
    | none => rw [e] at hf; cases hf
    | some ns =>
      rw [e] at hf
      cases hf
      obtain ⟨p, vs, rfl, hp, r1⟩ := r.lsts
      obtain rfl := allB_rep r1 e
      exact cr_any hc pins s σ H _ us Q I rs ⟨p, ns, rfl, SqL.of hp, mk.val ft (.bl _)⟩
  · cases hf
theorem bi_all (hc : X.calm = true) : CallR X (.builtin "all") (rVN G biAll) := by
  intro pins s σ H xs us Q I rs hh
  obtain ⟨F, ds, o, ft, rd, hf, mk⟩ := hh
  unfold biAll at hf
  split at hf
  · rename_i ds
    obtain ⟨x, rfl, r⟩ := repRs1 rd
    cases e : allB ds with
    | none => rw [e] at hf; cases hf
    | some ns =>
      rw [e] at hf
      cases hf
      obtain ⟨p, vs, rfl, hp, r1⟩ := r.lsts
      obtain rfl := allB_rep r1 e
      exact cr_all hc pins s σ H _ us Q I rs ⟨p, ns, rfl, SqL.of hp, mk.val ft (.bl _)⟩
  · cases hf
theorem bi_sorted : CallR X (.builtin "sorted") (rVN G biSorted) := by
  intro pins s σ H xs us Q I rs hh
  obtain ⟨F, ds, o, ft, rd, hf, mk⟩ := hh
  unfold biSorted at hf
  split at hf
  · rename_i ds
    obtain ⟨x, rfl, r⟩ := repRs1 rd
    cases e : allI ds with
    | none => rw [e] at hf; cases hf
    | some ns =>
      rw [e] at hf
      cases hf
      obtain ⟨p, vs, rfl, hp, r1⟩ := r.lsts
      obtain ⟨rfl, _⟩ := allI_rep r1 e
      refine cr_sortedI pins s σ H _ us Q I rs ⟨p, ns, rfl, SqL.of hp, fun ns' q h1 h2 hq => ?_⟩
      have : ns' = sortI ns := sorted_unique _ _ (h1.trans (sortI_perm ns).symm) h2 (sortI_sorted ns)
      rw [this]
      exact mk.lst ft (repInts _) q hq
  · cases hf
end
end Z
end

section
set_option maxRecDepth 100007
/-! Statements: blocks, if, return, targets, assignments. -/
namespace Z
open PySem L2 PyProof.Rows
inductive S where
  | nxt (z : Zs) | ret (o : O) (z : Zs) | brk (z : Zs) | cnt (z : Zs) | exc (c : Nat) (fs : List (Nat × D)) (z : Zs) | bad
def R.bindS {α : Type} (r : R α) (f : α → Zs → S) : S :=
  match r with
  | .ok a z => f a z
  | .exc c fs z => .exc c fs z
  | .bad => .bad
abbrev Ro := Nat → Bool
/-- slots that keep their address -/
def Kp (ro : Ro) (σ σ' : L2.St) : Prop := ∀ i, ro i = true → σ'[i]? = σ[i]?
theorem Kp.refl {ro : Ro} {σ : L2.St} : Kp ro σ σ := fun _ _ => rfl
theorem Kp.trans {ro : Ro} {a b c : L2.St} (h : Kp ro a b) (k : Kp ro b c) : Kp ro a c := fun i e => (k i e).trans (h i e)
def RunS (G : Gx) (W : WX) (ro : Ro) (σ : L2.St) (H : Hp) (F : Fz) (ow : Ows) (r : S) (D : Ends) : Prop :=
  match r with
  | .nxt z' => ∀ σ' H' F' ow', Stp H F (Own ow) H' F' (Own ow') → SRep G H' F' σ' z' ow' → Kp ro σ σ' → D.nx σ' H'
  | .brk z' => ∀ σ' H' F' ow', Stp H F (Own ow) H' F' (Own ow') → SRep G H' F' σ' z' ow' → Kp ro σ σ' → D.bk σ' H'
  | .cnt z' => ∀ σ' H' F' ow', Stp H F (Own ow) H' F' (Own ow') → SRep G H' F' σ' z' ow' → Kp ro σ σ' → D.ct σ' H'
  | .ret o z' => ∀ v σ' H' F' ow' f, Stp H F (Own ow) H' F' (fun x => Own ow' x ∨ x ∈ f) → SRep G H' F' σ' z' ow' → RepO G H' F' v o f → (∀ x ∈ f, ¬ Own ow' x) → Kp ro σ σ' → D.rt v H'
  | .exc c fs z' => ∀ d σ' H' F' ow' fvs, Stp H F (Own ow) H' F' (Own ow') → SRep G H' F' σ' z' ow' → (H' d = some (.xd fvs) ∧ F' d) → RepFs G H' F' fvs fs → Kp ro σ σ' → W (.ref (G.cls c)) (some d) σ' H'
  | .bad => False
def tZS (G : Gx) (W : WX) (ro : Ro) (m : Zs → S) : TS := fun D σ H => ∃ z ow F, SRep G H F σ z ow ∧ RunS G W ro σ H F ow (m z) D
section
variable {G : Gx} {W : WX} {ro : Ro} {σ σ1 : L2.St} {H H1 H2 H' : Hp} {F F1 F2 F' : Fz} {P P1 P2 P' fP : Addr → Prop} {z z' : Zs} {ow ow1 ow2 : Ows} {v : V} {o : O} {f g : List Addr} {D : Ends}
theorem RunS.shift {r : S} (run : RunS G W ro σ H F ow r D) (st : Stp H F (Own ow) H1 F1 (Own ow1)) (k : Kp ro σ σ1) : RunS G W ro σ1 H1 F1 ow1 r D := by
  cases r with
  | nxt z' => exact fun σ' H' F' ow' s r k' => run σ' H' F' ow' (st.trans s) r (k.trans k')
  | brk z' => exact fun σ' H' F' ow' s r k' => run σ' H' F' ow' (st.trans s) r (k.trans k')
  | cnt z' => exact fun σ' H' F' ow' s r k' => run σ' H' F' ow' (st.trans s) r (k.trans k')
  | ret o z' => exact fun v σ' H' F' ow' f s r ro' d k' => run v σ' H' F' ow' f (st.trans s) r ro' d (k.trans k')
  | exc c fs z' => exact fun d σ' H' F' ow' fvs s r e rf k' => run d σ' H' F' ow' fvs (st.trans s) r e rf (k.trans k')
  | bad => exact run
/-- an expression first -/
theorem RunS.first {α β : Type} {rel1 : Rel α β} {r : R α} {k : α → Zs → S} {Q1 : β → Hp → Prop} (s : SRep G H F σ z ow) (h : RunS G W ro σ H F ow (r.bindS k) D)
    (hk : ∀ a z2 v H2 F2 ow2 g, r = .ok a z2 → Stp H F (Own ow) H2 F2 (fun x => Own ow2 x ∨ x ∈ g) → SRep G H2 F2 σ z2 ow2 → rel1 H2 F2 v a g → (∀ x ∈ g, ¬ Own ow2 x) → RunS G W ro σ H F ow (k a z2) D → Q1 v H2) : RunG G W σ rel1 H F ow r Q1 := by
  cases r with
  | ok a z2 => exact fun v H2 F2 ow2 g st s2 r2 d2 => hk a z2 v H2 F2 ow2 g rfl st s2 r2 d2 h
  | exc c fs z' => exact fun d H2 F2 ow2 fvs st s2 e r2 => h d σ H2 F2 ow2 fvs st s2 e r2 Kp.refl
  | bad => exact h
/-- a further expression, something kept beside it -/
theorem RunS.bind {α β : Type} {rel1 : Rel α β} {r : R α} {k : α → Zs → S} {Q1 : β → Hp → Prop}
    (s1 : Stp H F (Own ow) H1 F1 (fun x => Own ow1 x ∨ fP x)) (dj : ∀ x, fP x → ¬ Own ow1 x) (h : RunS G W ro σ H F ow (r.bindS k) D)
    (hk : ∀ a z2 v H2 F2 ow2 g, r = .ok a z2 → Stp H1 F1 (Own ow1) H2 F2 (fun x => Own ow2 x ∨ x ∈ g) → SRep G H2 F2 σ z2 ow2 → rel1 H2 F2 v a g → (∀ x ∈ g, ¬ Own ow2 x) →
      Stp H F (Own ow) H2 F2 (fun x => Own ow2 x ∨ x ∈ g ∨ fP x) → (∀ x, fP x → ¬ Own ow2 x ∧ x ∉ g) → RunS G W ro σ H F ow (k a z2) D → Q1 v H2) : RunG G W σ rel1 H1 F1 ow1 r Q1 := by
  cases r with
  | ok a z2 =>
    intro v H2 F2 ow2 g st s2 r2 d2
    obtain ⟨st2, dj2⟩ := s1.frame dj st
    exact hk a z2 v H2 F2 ow2 g rfl st s2 r2 d2 (st2.weak fun x h => by
      rcases h with h | h | h
      · exact .inl (.inl h)
      · exact .inl (.inr h)
      · exact .inr h) (fun x hx => ⟨fun q => dj2 x hx (.inl q), fun q => dj2 x hx (.inr q)⟩) h
  | exc c fs z' =>
    intro d H2 F2 ow2 fvs st s2 e r2
    exact h d σ H2 F2 ow2 fvs ((s1.frame dj st).1.weak fun x h => .inl h) s2 e r2 Kp.refl
  | bad => exact h
end

@[simp] def exSkip : Zs → S := fun z => .nxt z
@[simp] def exSeq (m1 m2 : Zs → S) : Zs → S := fun z => match m1 z with
  | .nxt z1 => m2 z1
  | r => r
@[simp] def exIf (c : Zs → R Bool) (m1 m2 : Zs → S) : Zs → S := fun z => (c z).bindS fun b z1 => if b = true then m1 z1 else m2 z1
@[simp] def exRet (ro : Ro) (m : Zs → R Hd) : Zs → S := fun z => (m z).bindS fun h z1 => match h with
  | .tmp o => .ret o z1
  | .slot i => if ro i = true then (match take (.slot i) z1 with
    | some (o, z2) => .ret o z2
    | none => .bad) else (match rd z1 i with
    | some o => .ret o (z1.set i none)
    | none => .bad)
@[simp] def exRetN : Zs → S := fun z => .ret (.val .non) z
@[simp] def exDrop (m : Zs → R Hd) : Zs → S := fun z => (m z).bindS fun _ z1 => .nxt z1
section
variable {G : Gx} {W : WX} {ro : Ro} {X : Cx} {st : Stmt} {rest : List Stmt} {a b e : Expr} {pos : Pos} {m1 m2 : Zs → S} {me : Zs → R Hd} {c1 : Zs → R Bool}
theorem zs_nil : PSs X [] (tZS G W ro exSkip) := PSs.imp pss_nil fun D σ H h => by
  obtain ⟨z, ow, F, s, run⟩ := h
  exact run σ H F ow s.refl s Kp.refl
theorem zs_pass : PS X (.Pass pos) (tZS G W ro exSkip) := PS.imp ps_pass fun D σ H h => by
  obtain ⟨z, ow, F, s, run⟩ := h
  exact run σ H F ow s.refl s Kp.refl
theorem zs_break : PS X (.Break pos) (tZS G W ro .brk) := PS.imp ps_break fun D σ H h => by
  obtain ⟨z, ow, F, s, run⟩ := h
  exact run σ H F ow s.refl s Kp.refl
theorem zs_continue : PS X (.Continue pos) (tZS G W ro .cnt) := PS.imp ps_continue fun D σ H h => by
  obtain ⟨z, ow, F, s, run⟩ := h
  exact run σ H F ow s.refl s Kp.refl
theorem seq_read {D : Ends} {σ : L2.St} {H : Hp} (h : tZS G W ro (exSeq m1 m2) D σ H) : tSeq (tZS G W ro m1) (tZS G W ro m2) D σ H := by
  obtain ⟨z, ow, F, s, run⟩ := h
  refine ⟨z, ow, F, s, ?_⟩
  unfold exSeq at run
  cases e : m1 z <;> simp only [e] at run <;> try exact run
  intro σ1 H1 F1 ow1 st1 s1 k1
  exact ⟨_, ow1, F1, s1, run.shift st1 k1⟩
theorem zs_cons (h1 : PS X st (tZS G W ro m1)) (h2 : PSs X rest (tZS G W ro m2)) : PSs X (st :: rest) (tZS G W ro (exSeq m1 m2)) := PSs.imp (pss_cons h1 h2) fun D σ H h => seq_read h
theorem zs_if {c : Expr} {p q : List Stmt} (hc : PT X c (tZT G W c1)) (ha : PSs X p (tZS G W ro m1)) (hb : PSs X q (tZS G W ro m2)) : PS X (.If c p q pos) (tZS G W ro (exIf c1 m1 m2)) := PS.imp (ps_if hc ha hb) fun D σ H h => by
  obtain ⟨z, ow, F, s, run⟩ := h
  refine ⟨z, ow, F, s, RunS.first s run fun x z1 v1 H1 F1 ow1 f1 _ st1 s1 r1 d1 run1 => ?_⟩
  obtain ⟨rfl, rfl⟩ := r1
  have st1 : Stp H F (Own ow) H1 F1 (Own ow1) := st1.weak fun x h => .inl h
  cases v1 with
  | true =>
    simp only [if_true] at run1 ⊢
    exact ⟨z1, ow1, F1, s1, run1.shift st1 Kp.refl⟩
  | false =>
    simp only [Bool.false_eq_true, if_false] at run1 ⊢
    exact ⟨z1, ow1, F1, s1, run1.shift st1 Kp.refl⟩
theorem zs_ret (he : PE X e (tZ G W me)) : PS X (.Return (some e) pos) (tZS G W ro (exRet ro me)) := PS.imp (ps_ret he) fun D σ H h => by
  obtain ⟨z, ow, F, s, run⟩ := h
  refine ⟨z, ow, F, s, RunS.first s run fun x z1 v1 H1 F1 ow1 f1 _ st1 s1 r1 d1 run1 => ?_⟩
  cases x with
  | tmp o => exact run1 v1 σ H1 F1 ow1 f1 st1 s1 r1 d1 Kp.refl
  | slot i =>
    simp only at run1
    split at run1
    · cases e1 : take (.slot i) z1 with
      | none => simp only [e1] at run1; exact run1.elim
      | some p =>
        obtain ⟨o, z2⟩ := p
        simp only [e1] at run1
        obtain ⟨F2, ow2, f2, s2, r2, st2, d2⟩ := HRep.take r1 s1 d1 (fun a h => st1.nf a (.inr h)) (fun a h => st1.tr a (.inr h)) e1
        exact run1 v1 σ H1 F2 ow2 f2 (st1.trans st2) s2 r2 d2 Kp.refl
    · cases e1 : rd z1 i with
      | none => simp only [e1] at run1; exact run1.elim
      | some o =>
        simp only [e1] at run1
        obtain ⟨rfl, ei⟩ := r1
        obtain ⟨v', e2, ro'⟩ := s1.rep i o e1
        rw [ei] at e2
        cases e2
        refine run1 v1 σ H1 F1 (ow0 ow1 i) (ow1 i) (st1.weak fun x h => ?_) (s1.lend i) ro' (ow0_dj s1) Kp.refl
        rcases h with h | h
        · exact .inl (own_ow0 h)
        · exact .inl ⟨i, h⟩
theorem zs_retN : PS X (.Return none pos) (tZS G W ro exRetN) := PS.imp ps_retN fun D σ H h => by
  obtain ⟨z, ow, F, s, run⟩ := h
  exact run .non σ H F ow [] (s.refl.weak fun x h => h.elim id fun h => by cases h) s (.val .non) (fun x h => by cases h) Kp.refl
theorem zs_drop (he : PE X e (tZ G W me)) (hs : swapsWith e none pos.line X.env = pure false) : PS X (.Expr e pos) (tZS G W ro (exDrop me)) := PS.imp (ps_expr he hs) fun D σ H h => by
  obtain ⟨z, ow, F, s, run⟩ := h
  exact ⟨z, ow, F, s, RunS.first s run fun x z1 v1 H1 F1 ow1 f1 _ st1 s1 r1 d1 run1 => run1 σ H1 F1 ow1 (st1.weak fun x h => .inl h) s1 Kp.refl⟩
end

/-! ### targets -/
inductive Tg where
  | nm (i : Nat) | tp (ts : Tg) | nil | cons (t ts : Tg)
@[simp] def setS (ro : Ro) (i : Nat) (o : O) (z : Zs) : Option Zs := if ro i = true then none else if i < z.length then some (z.set i (some o)) else none
mutual
@[simp] def asg1 (ro : Ro) : Tg → D → Zs → Option Zs
  | .nm i, d, z => setS ro i (.val d) z
  | .tp ts, .tup ds, z => asgN ro ts ds z
  | _, _, _ => none
@[simp] def asgN (ro : Ro) : Tg → List D → Zs → Option Zs
  | .nil, [], z => some z
  | .cons t ts, d :: ds, z => match asg1 ro t d z with
    | some z1 => asgN ro ts ds z1
    | none => none
  | _, _, _ => none
end
section
variable {G : Gx} {ro : Ro} {H : Hp} {F : Fz} {σ : L2.St} {z z' : Zs} {ow : Ows} {v : V} {d : D} {i : Nat} {o : O}
/-- an except clause's name is not stored to -/
def Hro (G : Gx) (ro : Ro) : Prop := ∀ i a, G.hold = some (i, a) → ro i = true
theorem hro_none {G : Gx} {ro : Ro} (h : G.hold = none) : Hro G ro := fun i a e => by rw [h] at e; cases e
theorem setS_ok (hro : Hro G ro) (s : SRep G H F σ z ow) {f : List Addr} (r : RepO G H F v o f) (dj : ∀ a ∈ f, ¬ Own (ow0 ow i) a) (nf : ∀ a ∈ f, ¬ F a) (e : setS ro i o z = some z') : SRep G H F (σ.set i (some v)) z' (ow1 ow i f) ∧ Kp ro σ (σ.set i (some v)) := by
  unfold setS at e
  split at e
  · cases e
  · rename_i hr
    split at e
    · rename_i hl
      cases e
      refine ⟨s.store (fun a e => hr (hro _ _ e)) (by rw [← s.len]; exact hl) r dj nf, fun j hj => ?_⟩
      rw [List.getElem?_set_ne]
      intro h
      subst h
      exact hr hj
    · cases e
theorem own_val {a : Addr} (h : Own (ow1 ow i []) a) : Own ow a := by
  rcases own_ow1 h with h | h
  · exact own_ow0 h
  · cases h
/-- a target's reading -/
def gZ (G : Gx) (ro : Ro) (k : D → Zs → Option Zs) : TG := fun v σ H Q => ∃ F z ow d z', SRep G H F σ z ow ∧ RepD G H F v d ∧ k d z = some z' ∧ ∀ σ' ow', SRep G H F σ' z' ow' → (∀ a, Own ow' a → Own ow a) → Kp ro σ σ' → Q σ' H
def gZs (G : Gx) (ro : Ro) (k : List D → Zs → Option Zs) : TGs := fun vs σ H Q => ∃ F z ow ds z', SRep G H F σ z ow ∧ RepDs G H F vs ds ∧ k ds z = some z' ∧ ∀ σ' ow', SRep G H F σ' z' ow' → (∀ a, Own ow' a → Own ow a) → Kp ro σ σ' → Q σ' H
theorem PG.imp {X : Cx} {e : Expr} {t t' : TG} (h : PG X e t) (k : ∀ v σ H Q, t' v σ H Q → t v σ H Q) : PG X e t' := ⟨fun pins s σ H v u Q I r q => h.run pins s σ H v u Q I r (k v σ H Q q)⟩
theorem PGs.imp {X : Cx} {e : List Expr} {t t' : TGs} (h : PGs X e t) (k : ∀ v σ H Q, t' v σ H Q → t v σ H Q) : PGs X e t' := ⟨fun pins s σ H v u Q I r q => h.run pins s σ H v u Q I r (k v σ H Q q)⟩
variable {X : Cx} {pos : Pos} {t ts : Tg}
theorem zg_name (hro : Hro G ro) {x : Str} (hN : X.N.Nodup) (hi : X.N[i]? = some x) (hx : Loc X.env.scope x) (hf : X.fn x = true ∨ X.env.scope.names.lookup x = some .local) : PG X (.Name x pos) (gZ G ro (asg1 ro (.nm i))) := PG.imp (pg_name hN hi hx hf) fun v σ H Q h => by
  obtain ⟨F, z, ow, d, z', s, r, e, q⟩ := h
  simp only [asg1] at e
  obtain ⟨s', k⟩ := setS_ok hro s (.val r) (f := []) (fun a h => by cases h) (fun a h => by cases h) e
  exact q _ _ s' (fun a h => own_val h) k
theorem zg_nil : PGs X [] (gZs G ro (asgN ro .nil)) := PGs.imp pgs_nil fun v σ H Q h => by
  obtain ⟨F, z, ow, ds, z', s, r, e, q⟩ := h
  cases r with
  | nil =>
    simp only [asgN, Option.some.injEq] at e
    subst e
    exact ⟨rfl, q σ ow s (fun a h => h) Kp.refl⟩
  | cons _ _ => simp only [asgN, reduceCtorEq] at e
theorem zg_cons {e : Expr} {es : List Expr} (h1 : PG X e (gZ G ro (asg1 ro t))) (h2 : PGs X es (gZs G ro (asgN ro ts))) (hs : (assignEach (e :: es) X.env).map (·.2) = assign e X.env :: (assignEach es X.env).map (·.2)) : PGs X (e :: es) (gZs G ro (asgN ro (.cons t ts))) := PGs.imp (pgs_cons h1 h2 hs) fun v σ H Q h => by
  obtain ⟨F, z, ow, ds, z', s, r, e, q⟩ := h
  cases r with
  | nil => simp only [asgN, reduceCtorEq] at e
  | cons r rs =>
    rename_i v0 d vs0 ds
    rw [asgN] at e
    cases e1 : asg1 ro t d z with
    | none => rw [e1] at e; cases e
    | some z1 =>
      rw [e1] at e
      exact ⟨_, _, rfl, F, z, ow, _, z1, s, r, e1, fun σ1 ow1 s1 o1 k1 => ⟨F, z1, ow1, _, z', s1, rs, e, fun σ2 ow2 s2 o2 k2 => q σ2 ow2 s2 (fun a h => o1 a (o2 a h)) (k1.trans k2)⟩⟩
def Tg.len : Tg → Nat
  | .cons _ ts => ts.len + 1
  | _ => 0
theorem asgN_len : ∀ {ts : Tg} {ds : List D} {z z' : Zs}, asgN ro ts ds z = some z' → ds.length = ts.len
  | .nil, [], _, _, _ => rfl
  | .cons t ts, d :: ds, z, z', e => by
    simp only [asgN] at e
    cases e1 : asg1 ro t d z with
    | none => simp only [e1] at e; cases e
    | some z1 =>
      simp only [e1] at e
      rw [List.length_cons, asgN_len e]; rfl
  | .nil, _ :: _, _, _, e => by simp only [asgN, reduceCtorEq] at e
  | .cons _ _, [], _, _, e => by simp only [asgN, reduceCtorEq] at e
  | .nm _, _, _, _, e => by simp only [asgN, reduceCtorEq] at e
  | .tp _, _, _, _, e => by simp only [asgN, reduceCtorEq] at e
theorem zg_tup {es : List Expr} {k : Nat} (hK : G.K = X.K) (hc : X.calm = true) (h : PGs X es (gZs G ro (asgN ro ts))) (hn : (assignEach es X.env).length = ts.len) (hst : (assignEach es X.env).findIdx? (·.1) = none) : PG X (.Tuple es k pos) (gZ G ro (asg1 ro (.tp ts))) := PG.imp (pg_tup hc h hn hst) fun v σ H Q h => by
  obtain ⟨F, z, ow, d, z', s, r, e, q⟩ := h
  cases d <;> simp only [asg1, reduceCtorEq] at e
  cases r with
  | tup hp rs => exact ⟨_, _, rfl, hK ▸ hp.sq, by rw [rs.length]; exact asgN_len e, F, z, ow, _, z', s, rs, e, q⟩
end

/-! ### assignments -/
@[simp] def exAsgN (ro : Ro) (i : Nat) (m : Zs → R Hd) : Zs → S := fun z => (m z).bindS fun h z1 => match take h z1 with
  | some (o, z2) => match setS ro i o z2 with
    | some z3 => .nxt z3
    | none => .bad
  | none => .bad
@[simp] def exAsgT (ro : Ro) (t : Tg) (m : Zs → R Hd) : Zs → S := fun z => (m z).bindS fun h z1 => match takeD h z1 with
  | some (d, z2) => match asg1 ro t d z2 with
    | some z3 => .nxt z3
    | none => .bad
  | none => .bad
section
variable {G : Gx} {W : WX} {ro : Ro} {X : Cx} {e tg : Expr} {pos pos' : Pos} {me : Zs → R Hd} {t : Tg}
theorem zs_asgN (hro : Hro G ro) {i : Nat} {x : Str} (hN : X.N.Nodup) (hi : X.N[i]? = some x) (hx : Loc X.env.scope x) (he : PE X e (tZ G W me)) (hs : swapsWith e (some (.Name x pos')) pos.line X.env = pure false) (hf : X.fn x = true ∨ X.env.scope.names.lookup x = some .local) : PS X (.Assign [.Name x pos'] e pos) (tZS G W ro (exAsgN ro i me)) :=
  PS.imp (ps_set hN hi hx he hs hf) fun D σ H h => by
  obtain ⟨z, ow, F, s, run⟩ := h
  refine ⟨z, ow, F, s, RunS.first s run fun x z1 v1 H1 F1 ow1 f1 _ st1 s1 r1 d1 run1 => ?_⟩
  cases e1 : take x z1 with
  | none => simp only [e1] at run1; exact run1.elim
  | some p =>
    obtain ⟨o, z2⟩ := p
    simp only [e1] at run1
    cases e2 : setS ro i o z2 with
    | none => simp only [e2] at run1; exact run1.elim
    | some z3 =>
      simp only [e2] at run1
      obtain ⟨F2, ow2, f2, s2, r2, st2, d2⟩ := HRep.take r1 s1 d1 (fun a h => st1.nf a (.inr h)) (fun a h => st1.tr a (.inr h)) e1
      have st := st1.trans st2
      obtain ⟨s3, k3⟩ := setS_ok hro s2 r2 (fun a h q => d2 a h (own_ow0 q)) (fun a h => st.nf a (.inr h)) e2
      refine run1 _ H1 F2 _ (st.weak fun a h => ?_) s3 k3
      rcases own_ow1 h with h | h
      · exact .inl (own_ow0 h)
      · exact .inr h
theorem zs_asgT (he : PE X e (tZ G W me)) (hg : PG X tg (gZ G ro (asg1 ro t))) (hs : swapsWithSole [tg] e pos.line X.env = pure false) (hw : swappedStores [tg] e X.env = pure none) (h1 : (assignEach [tg] X.env).map (·.2) = [assign tg X.env]) : PS X (.Assign [tg] e pos) (tZS G W ro (exAsgT ro t me)) :=
  PS.imp (ps_asg he hg hs hw h1) fun D σ H h => by
  obtain ⟨z, ow, F, s, run⟩ := h
  refine ⟨z, ow, F, s, RunS.first s run fun x z1 v1 H1 F1 ow1 f1 _ st1 s1 r1 d1 run1 => ?_⟩
  cases e1 : takeD x z1 with
  | none => simp only [e1] at run1; exact run1.elim
  | some p =>
    obtain ⟨d, z2⟩ := p
    simp only [e1] at run1
    cases e2 : asg1 ro t d z2 with
    | none => simp only [e2] at run1; exact run1.elim
    | some z3 =>
      simp only [e2] at run1
      obtain ⟨F2, ow2, s2, r2, st2⟩ := HRep.takeD r1 s1 d1 (fun a h => st1.nf a (.inr h)) (fun a h => st1.tr a (.inr h)) e1
      exact ⟨F2, z2, ow2, d, z3, s2, r2, e2, fun σ' ow' s' o' k' => run1 σ' H1 F2 ow' ((st1.trans st2).weak o') s' k'⟩
end
end Z
end

section
set_option maxRecDepth 100007
/-! Statements that change a thing in its place; loops. -/
namespace Z
open PySem L2 PyProof.Rows
section
variable {G : Gx} {W : WX} {ro : Ro} {σ : L2.St} {H H' : Hp} {F : Fz} {z : Zs} {ow : Ows} {v : V} {o o' : O} {f : List Addr}
theorem RepO.lst_inv {ds : List D} (r : RepO G H F v (.lst ds) f) : ∃ a vs, v = .ref a ∧ f = [a] ∧ H a = some (.lst vs) ∧ RepDs G H F vs ds := by
  cases r with
  | lst h r => exact ⟨_, _, rfl, rfl, h, r⟩
theorem RepO.obj_inv {c : Nat} {fs : List (Nat × D)} (r : RepO G H F v (.obj c fs) f) : ∃ a dx fvs, v = .ref a ∧ f = [a] ∧ H a = some (.ins (G.cls c) dx fvs) ∧ RepFs G H F fvs fs := by
  cases r with
  | obj h r => exact ⟨_, _, _, rfl, rfl, h, r⟩
theorem RepO.dct_inv {t : Bool} {kvs : List (D × D)} (r : RepO G H F v (.dct t kvs) f) : ∃ a, v = .ref a ∧ f = [a] ∧ ((t = false ∧ ∃ hs, H a = some (.dK hs) ∧ RepKs G H F hs kvs) ∨ (t = true ∧ ∃ hs, H a = some (.dT hs) ∧ RepTs G H F hs kvs)) := by
  cases r with
  | dct h r => exact ⟨_, rfl, rfl, .inl ⟨rfl, _, h, r⟩⟩
  | dctT h r => exact ⟨_, rfl, rfl, .inr ⟨rfl, _, h, r⟩⟩
/-- an owned object is changed -/
theorem stp_mut {P : Addr → Prop} {a : Addr} {u : HO} (ha : P a) (nf : ∀ x, P x → ¬ F x) (tr : ∀ x, P x → ∃ o, H x = some o) (ft : FT H F) : Stp H F P (upd H a u) F P := by
  have hF : ∀ x, F x → x ≠ a := fun x h e => nf a ha (e ▸ h)
  refine ⟨⟨fun _ h => h, fun x o fx e => by rw [upd_ne (hF x fx)]; exact e⟩, fun x o e => ?_, fun x o np e => ?_, fun _ h => .inl h, fun _ h => .inl h, nf, fun x h => ?_, fun x h => ?_⟩
  · by_cases hx : x = a
    · subst hx; exact ⟨u, upd_same⟩
    · exact ⟨o, by rw [upd_ne hx]; exact e⟩
  · have : x ≠ a := fun e => np (e ▸ ha)
    rw [upd_ne this]; exact e
  · by_cases hx : x = a
    · subst hx; exact ⟨u, upd_same⟩
    · rw [upd_ne hx]; exact tr x h
  · rw [upd_ne (hF x h)]; exact ft x h
theorem SRep.mut {i : Nat} {a : Addr} {u : HO} (s : SRep G H F σ z ow) (e : rd z i = some o) (ea : ow i = [a]) (hv : σ[i]? = some (some v)) (r' : RepO G (upd H a u) F v o' [a]) :
    SRep G (upd H a u) F σ (z.set i (some o')) ow ∧ Stp H F (Own ow) (upd H a u) F (Own ow) := by
  have hown : Own ow a := ⟨i, by rw [ea]; simp⟩
  have st := stp_mut (u := u) hown s.nfo s.own s.ft
  refine ⟨?_, st⟩
  have l := s.lend i
  have t1 : Stp H F (fun x => x = a) (upd H a u) F (fun x => x = a) := stp_mut rfl (fun x h => by rw [h]; exact s.nfo a hown) (fun x h => by rw [h]; exact s.own a hown) s.ft
  have l2 := l.stp t1 fun x h q => by
    subst q
    exact ow0_dj s (i := i) x (by rw [ea]; simp) h
  have l3 := l2.give (i := i) hv r' (fun b hb q => by
    rw [List.mem_singleton.mp hb] at q
    obtain ⟨j, hj⟩ := q
    unfold ow0 at hj
    split at hj
    · cases hj
    · rename_i hn
      exact hn (s.dj j i a hj (by rw [ea]; simp))) (fun b hb => by rw [List.mem_singleton.mp hb]; exact s.nfo a hown)
  rw [List.set_set] at l3
  have e2 : ow1 (ow0 ow i) i [a] = ow := by
    funext j; unfold ow1 ow0
    split
    · rename_i h; rw [h, ea]
    · rfl
  rw [e2] at l3
  exact l3
end

/-! ### x.append(e), x[k] = e, o.f = e, x op= e -/
def putD (kvs : List (D × D)) (k v : D) : List (D × D) :=
  if (kvs.any fun p => eqD p.1 k) = true then kvs.map (fun p => if eqD p.1 k = true then (p.1, v) else p) else kvs ++ [(k, v)]
@[simp] def putN (f : Nat) (d : D) : List (Nat × D) → List (Nat × D)
  | [] => [(f, d)]
  | (g, x) :: r => if g = f then (g, d) :: r else (g, x) :: putN f d r
@[simp] def exApp (i : Nat) (m : Zs → R Hd) : Zs → S := fun z => match rd z i with
  | some (.lst _) => (m z).bindS fun h z1 => match takeD h z1 with
    | some (d, z2) => match rd z2 i with
      | some (.lst ds) => if ds.length < sizeLine then .nxt (z2.set i (some (.lst (ds ++ [d])))) else .bad
      | _ => .bad
    | none => .bad
  | _ => .bad
/-- the thing with its new item -/
@[simp] def stIx (o : O) (k d : D) : Option O := match o with
  | .lst ds => match k with
    | .int n => (ixN ds.length n).map fun j => .lst (ds.set j d)
    | _ => none
  | .dct t kvs => if okKey t k = true ∧ kvs.length < sizeLine then some (.dct t (putD kvs k d)) else none
  | _ => none
@[simp] def exSetIx (i : Nat) (mi m : Zs → R Hd) : Zs → S := fun z => (m z).bindS fun h z1 => match rd z1 i with
  | some _ => (mi z1).bindS fun hi z2 => match takeD h z2 with
    | some (d, z3) => match peek hi z3, rd z3 i with
      | some k, some o => match stIx o k d with
        | some o' => .nxt (z3.set i (some o'))
        | none => .bad
      | _, _ => .bad
    | none => .bad
  | none => .bad
section
variable {G : Gx} {W : WX} {ro : Ro} {X : Cx} {e k : Expr} {pos apos cpos p1 p2 : Pos} {me mi : Zs → R Hd} {i : Nat} {x : Str}
theorem zs_app (hK : G.K = X.K) (hN : X.N[i]? = some x) (hv : Vis X.env.scope x) (hd : (x == ("__debug__" : Str)) = false) (hcd : (x == ("__classdict__" : Str)) = false) (he : PE X e (tZ G W me)) (hs : starEach [e] X.env = [(false, eval e X.env)])
    (hbase : attributeBase (.Name x p1) "append" X.env (eval (.Name x p1) X.env) = eval (.Name x p1) X.env) (hline : (apos.endLine == cpos.line) = true)
    (hsw : swapsWith (.Call (.Attribute (.Name x p1) "append" apos) [e] [] cpos) none pos.line X.env = pure false) :
    PS X (.Expr (.Call (.Attribute (.Name x p1) "append" apos) [e] [] cpos) pos) (tZS G W ro (exApp i me)) := by
  have hs' : starEach (e :: []) X.env = (false, eval e X.env) :: starEach [] X.env := hs
  have hfew : ((backTo cpos (starEach [e] X.env)).all (fun x => !x.1) && (backToKw cpos (keywordEach [] X.env)).all (fun x => x.1.isSome) && decide (([e] : List Expr).length + ([] : List Keyword).length + (if ([] : List Keyword).isEmpty then 0 else 1) < 30)) = true := by
    rw [hs]; rfl
  refine PS.imp (ps_expr (pe_bm PySem.F.plainAttrs_list PySem.F.slot_list_append PySem.F.type_list_append mt_append (pe_var hN hv hd hcd) (pa_cons he pa_nil hs') hbase hfew hline hs' (by rfl)) hsw) fun D σ H h => ?_
  obtain ⟨z, ow, F, s, run⟩ := h
  unfold exApp at run
  cases e0 : rd z i with
  | none => simp only [e0] at run; exact run.elim
  | some o0 =>
    cases o0 <;> simp only [e0] at run <;> try exact run.elim
    rename_i ds0
    obtain ⟨v, ei, r0⟩ := s.rep i _ e0
    obtain ⟨a, vs0, rfl, ea, ha, rs0⟩ := r0.lst_inv
    refine ⟨.ref a, ei, .inl ⟨rfl, _, by rw [← hK]; exact SqL.of ha⟩, ?_⟩
    refine ⟨z, ow, F, s, RunS.first s run fun h z1 v1 H1 F1 ow1 f1 _ st1 s1 r1 d1 run1 => ?_⟩
    cases e1 : takeD h z1 with
    | none => simp only [e1] at run1; exact run1.elim
    | some p =>
      obtain ⟨d, z2⟩ := p
      simp only [e1] at run1
      cases e2 : rd z2 i with
      | none => simp only [e2] at run1; exact run1.elim
      | some o2 =>
        cases o2 <;> simp only [e2] at run1 <;> try exact run1.elim
        rename_i ds
        split at run1
        · rename_i hl
          obtain ⟨F2, ow2, s2, r2, st2⟩ := HRep.takeD r1 s1 d1 (fun a h => st1.nf a (.inr h)) (fun a h => st1.tr a (.inr h)) e1
          obtain ⟨v', ei', ro2⟩ := s2.rep i _ e2
          rw [ei] at ei'
          cases ei'
          obtain ⟨a', vs, eq, ea2, ha2, rs⟩ := ro2.lst_inv
          cases eq
          refine ⟨a, vs, v1, rfl, rfl, ha2, by rw [rs.length]; exact hl, ?_⟩
          have lt : Lat H1 F2 (upd H1 a (.lst (vs ++ [v1]))) F2 := (stp_mut (P := fun x => x = a) rfl (fun x h => by rw [h]; exact s2.nfo a ⟨i, by rw [ea2]; simp⟩) (fun x h => by rw [h]; exact ⟨_, ha2⟩) s2.ft).lat
          obtain ⟨s3, st3⟩ := s2.mut (o' := .lst (ds ++ [d])) (u := .lst (vs ++ [v1])) e2 ea2 ei (.lst upd_same ((rs.append (.cons r2 .nil)).lat lt))
          exact run1 σ _ F2 ow2 ((st1.trans st2).trans st3) s3 Kp.refl
        · exact run1.elim
theorem putKs {H : Hp} {F : Fz} {v : V} {d : D} (q : Key) (r : RepD G H F v d) : ∀ {hs : List (Key × V)} {ds : List (D × D)}, RepKs G H F hs ds → RepKs G H F (putK hs q v) (putD ds (keyD q) d) := by
  intro hs ds rs
  have hany : ∀ {hs : List (Key × V)} {ds : List (D × D)}, RepKs G H F hs ds → (hs.any fun kv => decide (kv.1 = q)) = ds.any fun p => eqD p.1 (keyD q) := by
    intro hs ds rs
    induction ds generalizing hs with
    | nil => cases rs; rfl
    | cons p ds ih =>
      cases rs with
      | cons he h t =>
        subst he
        simp only [List.any_cons, eq_keyD]
        rw [ih t]
  have hmap : ∀ {hs : List (Key × V)} {ds : List (D × D)}, RepKs G H F hs ds → RepKs G H F (hs.map fun kv => if kv.1 = q then (kv.1, v) else kv) (ds.map fun p => if eqD p.1 (keyD q) = true then (p.1, d) else p) := by
    intro hs ds rs
    induction ds generalizing hs with
    | nil => cases rs; exact .nil
    | cons p ds ih =>
      cases rs with
      | cons he h t =>
        rename_i k0 v0 _ _ _
        subst he
        simp only [List.map_cons, eq_keyD]
        by_cases hk : k0 = q
        · simp only [hk, if_true, decide_true]
          exact .cons rfl r (ih t)
        · simp only [hk, if_false, decide_false, Bool.false_eq_true]
          exact .cons rfl h (ih t)
  have happ : ∀ {hs : List (Key × V)} {ds : List (D × D)}, RepKs G H F hs ds → RepKs G H F (hs ++ [(q, v)]) (ds ++ [(keyD q, d)]) := by
    intro hs ds rs
    induction ds generalizing hs with
    | nil => cases rs; exact .cons rfl r .nil
    | cons p ds ih => cases rs with | cons he h t => exact .cons he h (ih t)
  unfold putK putD
  rw [hany rs]
  split
  · exact hmap rs
  · exact happ rs
theorem putTs {H : Hp} {F : Fz} {v : V} {d : D} (q : List Key) (r : RepD G H F v d) : ∀ {hs : List (List Key × V)} {ds : List (D × D)}, RepTs G H F hs ds → RepTs G H F (putK hs q v) (putD ds (.tup (q.map keyD)) d) := by
  intro hs ds rs
  have hk0 : ∀ k : List Key, eqD (.tup (k.map keyD)) (.tup (q.map keyD)) = decide (k = q) := fun k => by simp only [eqD]; exact eq_keyDs k q
  have hany : ∀ {hs : List (List Key × V)} {ds : List (D × D)}, RepTs G H F hs ds → (hs.any fun kv => decide (kv.1 = q)) = ds.any fun p => eqD p.1 (.tup (q.map keyD)) := by
    intro hs ds rs
    induction ds generalizing hs with
    | nil => cases rs; rfl
    | cons p ds ih =>
      cases rs with
      | cons he h t =>
        subst he
        simp only [List.any_cons, hk0]
        rw [ih t]
  have hmap : ∀ {hs : List (List Key × V)} {ds : List (D × D)}, RepTs G H F hs ds → RepTs G H F (hs.map fun kv => if kv.1 = q then (kv.1, v) else kv) (ds.map fun p => if eqD p.1 (.tup (q.map keyD)) = true then (p.1, d) else p) := by
    intro hs ds rs
    induction ds generalizing hs with
    | nil => cases rs; exact .nil
    | cons p ds ih =>
      cases rs with
      | cons he h t =>
        rename_i k0 v0 _ _ _
        subst he
        simp only [List.map_cons, hk0]
        by_cases hk : k0 = q
        · simp only [hk, if_true, decide_true]
          exact .cons rfl r (ih t)
        · simp only [hk, if_false, decide_false, Bool.false_eq_true]
          exact .cons rfl h (ih t)
  have happ : ∀ {hs : List (List Key × V)} {ds : List (D × D)}, RepTs G H F hs ds → RepTs G H F (hs ++ [(q, v)]) (ds ++ [(.tup (q.map keyD), d)]) := by
    intro hs ds rs
    induction ds generalizing hs with
    | nil => cases rs; exact .cons rfl r .nil
    | cons p ds ih => cases rs with | cons he h t => exact .cons he h (ih t)
  unfold putK putD
  rw [hany rs]
  split
  · exact hmap rs
  · exact happ rs
theorem RepKs.len' {H : Hp} {F : Fz} : ∀ {hs : List (List Key × V)} {kvs : List (D × D)}, RepTs G H F hs kvs → hs.length = kvs.length
  | _, _, .nil => rfl
  | _, _, .cons _ _ r => by rw [List.length_cons, List.length_cons, RepKs.len' r]
def rSetLD : V → V → V → Hp → (Hp → Prop) → Prop := fun o i v H Q => rSetL o i v H Q ∨ ∃ a H', o = .ref a ∧ DPut H a i v H' ∧ Q H'
theorem set_ld (hu : X.A.units + 65 < cLine) : PSet X rSetLD := by
  intro pins s σ H o i v ov iv u Q I r1 r2 r3 h
  rcases h with h | ⟨a, H', rfl, dp, q⟩
  · exact set_list pins s σ H o i v ov iv u Q I r1 r2 r3 h
  · cases r1
    exact d_setItem (by omega) I dp r2 r3 fun s' I' => ⟨H', I', q⟩
theorem zs_setIx (hu : X.A.units + 65 < cLine) (hN : X.N[i]? = some x) (hv : Vis X.env.scope x) (hd : (x == ("__debug__" : Str)) = false) (hcd : (x == ("__classdict__" : Str)) = false) (he : PE X e (tZ G W me)) (hk : PE X k (tZ G W mi))
    (ha : ∀ v, assign (.Subscript (.Name x p1) k p2) X.env v = (do let ov ← holding [v] (eval (.Name x p1) X.env); let iv ← holding [v, ov] (eval k X.env); standAt p2; holding [v, ov, iv] (setItem ov iv v); release [v, ov, iv] []))
    (hs : swapsWithSole [.Subscript (.Name x p1) k p2] e pos.line X.env = pure false) (hw : swappedStores [.Subscript (.Name x p1) k p2] e X.env = pure none) (h1 : (assignEach [.Subscript (.Name x p1) k p2] X.env).map (·.2) = [assign (.Subscript (.Name x p1) k p2) X.env]) :
    PS X (.Assign [.Subscript (.Name x p1) k p2] e pos) (tZS G W ro (exSetIx i mi me)) := by
  refine PS.imp (ps_asg he (pg_sub (pe_var hN hv hd hcd) hk (set_ld hu) ha) hs hw h1) fun D σ H h => ?_
  obtain ⟨z, ow, F, s, run⟩ := h
  refine ⟨z, ow, F, s, RunS.first s run fun h z1 v1 H1 F1 ow1 f1 _ st1 s1 r1 d1 run1 => ?_⟩
  cases e0 : rd z1 i with
  | none => simp only [e0] at run1; exact run1.elim
  | some o0 =>
    simp only [e0] at run1
    obtain ⟨v, ei, r0⟩ := s1.rep i _ e0
    refine ⟨v, ei, z1, ow1, F1, s1, RunS.bind st1 d1 run1 fun hi z2 v2 H2 F2 ow2 f2 _ st2 s2 r2 d2 st d run2 => ?_⟩
    cases e1 : takeD h z2 with
    | none => simp only [e1] at run2; exact run2.elim
    | some p =>
      obtain ⟨dd, z3⟩ := p
      simp only [e1] at run2
      have r1' : HRep G H2 F2 σ v1 h f1 := HRep.stp r1 st2 d1
      -- what was made for the value is shared; the key is beside it
      obtain ⟨F3, ow3, s3, r3, st3⟩ := HRep.takeD r1' s2 (fun a h => (d a h).1) (fun a h => st.nf a (.inr (.inr h))) (fun a h => st.tr a (.inr (.inr h))) e1
      have dk : ∀ a ∈ f2, ¬ (Own ow2 a ∨ a ∈ f1) := fun a ha q => q.elim (d2 a ha) fun q => (d a q).2 ha
      have r2' : HRep G H2 F3 σ v2 hi f2 := HRep.stp r2 st3 dk
      cases e2 : peek hi z3 with
      | none => simp only [e2] at run2; exact run2.elim
      | some kk =>
        cases e3 : rd z3 i with
        | none => simp only [e2, e3] at run2; exact run2.elim
        | some o3 =>
          simp only [e2, e3] at run2
          cases e4 : stIx o3 kk dd with
          | none => simp only [e4] at run2; exact run2.elim
          | some o4 =>
            simp only [e4] at run2
            have rk : RepR G H2 F3 v2 kk := HRep.peek r2' s3 e2
            obtain ⟨v', ei', ro3⟩ := s3.rep i _ e3
            rw [ei] at ei'
            cases ei'
            have stt : Stp H F (Own ow) H2 F3 (Own ow3) := (st.weak (P2 := fun x => Own ow2 x ∨ x ∈ f1) fun x h => h.elim .inl fun h => .inr (.inr h)).trans st3
            cases o3 <;> simp only [stIx, reduceCtorEq] at e4
            · rename_i ds
              cases kk <;> simp only [reduceCtorEq] at e4
              rename_i n
              cases e5 : ixN ds.length n with
              | none => rw [e5] at e4; cases e4
              | some j =>
                rw [e5] at e4
                cases e4
                obtain ⟨a, vs, rfl, ea, ha, rs⟩ := ro3.lst_inv
                cases rk.int
                refine .inl ⟨a, vs, n, j, rfl, rfl, ha, by rw [rs.length]; exact e5, ?_⟩
                have lt : Lat H2 F3 (upd H2 a (.lst (vs.set j v1))) F3 := (stp_mut (P := fun x => x = a) rfl (fun x h => by rw [h]; exact s3.nfo a ⟨i, by rw [ea]; simp⟩) (fun x h => by rw [h]; exact ⟨_, ha⟩) s3.ft).lat
                obtain ⟨s5, st5⟩ := s3.mut (o' := .lst (ds.set j dd)) (u := .lst (vs.set j v1)) e3 ea ei (.lst upd_same ((rs.set j r3).lat lt))
                exact run2 σ _ F3 ow3 (stt.trans st5) s5 Kp.refl
            · rename_i t kvs
              split at e4
              · rename_i hok
                cases e4
                obtain ⟨a, rfl, ea, ⟨rfl, hs, ha, rs⟩ | ⟨rfl, hs, ha, rs⟩⟩ := ro3.dct_inv
                · have rk' : RepD G H2 F3 v2 kk := rk.dd (fun c fs e => by subst e; cases hok.1) (fun ds e => by subst e; cases hok.1) (fun t ds e => by subst e; cases hok.1)
                  obtain ⟨q, rfl, rfl⟩ := isK_key rk' hok.1
                  refine .inr ⟨a, _, rfl, DPut.k ha (by rw [rs.len]; exact hok.2), ?_⟩
                  have lt : Lat H2 F3 (upd H2 a (.dK (putK hs q v1))) F3 := (stp_mut (P := fun x => x = a) rfl (fun x h => by rw [h]; exact s3.nfo a ⟨i, by rw [ea]; simp⟩) (fun x h => by rw [h]; exact ⟨_, ha⟩) s3.ft).lat
                  obtain ⟨s5, st5⟩ := s3.mut (o' := .dct false (putD kvs (keyD q) dd)) (u := .dK (putK hs q v1)) e3 ea ei (.dct upd_same ((putKs q r3 rs).lat lt))
                  exact run2 σ _ F3 ow3 (stt.trans st5) s5 Kp.refl
                · have hk2 := hok.1
                  cases kk <;> simp only [okKey, Bool.false_eq_true] at hk2
                  obtain ⟨b, ws, rfl, hb, rb⟩ := rk.tups
                  rw [Bool.and_eq_true] at hk2
                  obtain ⟨qs, rfl, rfl⟩ := isKs_keys rb hk2.2
                  refine .inr ⟨a, _, rfl, DPut.t ha (hb.own fun e => by rw [map_nil_nil e] at hk2; cases hk2.1) (by rw [RepKs.len' rs]; exact hok.2), ?_⟩
                  have lt : Lat H2 F3 (upd H2 a (.dT (putK hs qs v1))) F3 := (stp_mut (P := fun x => x = a) rfl (fun x h => by rw [h]; exact s3.nfo a ⟨i, by rw [ea]; simp⟩) (fun x h => by rw [h]; exact ⟨_, ha⟩) s3.ft).lat
                  obtain ⟨s5, st5⟩ := s3.mut (o' := .dct true (putD kvs (.tup (qs.map keyD)) dd)) (u := .dT (putK hs qs v1)) e3 ea ei (.dctT upd_same ((putTs qs r3 rs).lat lt))
                  exact run2 σ _ F3 ow3 (stt.trans st5) s5 Kp.refl
              · cases e4
end
end Z
end

section
set_option maxRecDepth 100007
/-! o.f = e, x op= e; while; for over lists, tuples, texts, ranges, enumerate, zip. -/
namespace Z
open PySem L2 PyProof.Rows
/-- what is known of the names and classes by number -/
structure GOk (G : Gx) (flds : Nat → List Nat) : Prop where
  nd : G.nm.Nodup
  cl : ∀ c f, f ∈ flds c → Cls G.K (G.cls c)
  na : ∀ c f, f ∈ flds c → NoAttr G.K (G.cls c) (G.name f) ∧ f < G.nm.length
@[simp] def lookN (f : Nat) (fs : List (Nat × D)) : Option D := (fs.find? fun p => p.1 == f).map (·.2)
section
variable {G : Gx} {H : Hp} {F : Fz} {flds : Nat → List Nat}
theorem GOk.inj (g : GOk G flds) {i j : Nat} (hi : i < G.nm.length) (hj : j < G.nm.length) (h : G.name i = G.name j) : i = j := by
  unfold Gx.name at h
  rw [List.getD_eq_getElem?_getD, List.getD_eq_getElem?_getD, List.getElem?_eq_getElem hi, List.getElem?_eq_getElem hj] at h
  exact (List.getElem_inj g.nd).mp h
theorem putFs (g : GOk G flds) {f : Nat} (hf : f < G.nm.length) {v : V} {d : D} (r : RepD G H F v d) : ∀ {vs : List (Str × V)} {fs : List (Nat × D)}, RepFs G H F vs fs → RepFs G H F (putF (G.name f) v vs) (putN f d fs)
  | _, _, .nil => .cons hf rfl r .nil
  | _, _, .cons (n := n) (vs := vs) hn hx h t => by
    subst hx
    unfold putF putN
    by_cases e : n = f
    · subst e
      simp only [if_true]
      exact .cons hf rfl r t
    · have e2 : ¬ G.name n = G.name f := fun q => e (g.inj hn hf q)
      simp only [e, e2, if_false]
      exact .cons hn rfl h (putFs g hf r t)
theorem lookFs (g : GOk G flds) {f : Nat} (hf : f < G.nm.length) : ∀ {vs : List (Str × V)} {fs : List (Nat × D)}, RepFs G H F vs fs → match lookN f fs with
    | some d => ∃ v, vs.lookup (G.name f) = some v ∧ RepD G H F v d
    | none => vs.lookup (G.name f) = none
  | _, _, .nil => rfl
  | _, _, .cons (n := n) (v := v) (d := d) (vs := vs) (ds := ds) hn hx h t => by
    subst hx
    have ih := lookFs g hf t
    unfold lookN at ih ⊢
    rw [List.find?_cons]
    by_cases e : n = f
    · subst e
      have e1 : (n == n) = true := beq_self_eq_true n
      simp only [e1, Option.map_some]
      exact ⟨v, by simp [List.lookup_cons], h⟩
    · have e1 : (n == f) = false := beq_eq_false_iff_ne.mpr e
      have e2 : (G.name f == G.name n) = false := beq_eq_false_iff_ne.mpr fun q => e (g.inj hn hf q.symm)
      simp only [e1]
      have e3 : ((G.name n, v) :: vs).lookup (G.name f) = vs.lookup (G.name f) := by rw [List.lookup_cons, e2]
      rw [e3]
      exact ih
theorem RepFs.len : ∀ {vs : List (Str × V)} {fs : List (Nat × D)}, RepFs G H F vs fs → vs.length = fs.length
  | _, _, .nil => rfl
  | _, _, .cons _ _ _ t => by rw [List.length_cons, List.length_cons, RepFs.len t]
end
@[simp] def exSetFld (flds : Nat → List Nat) (i f : Nat) (m : Zs → R Hd) : Zs → S := fun z => (m z).bindS fun h z1 => match takeD h z1 with
  | some (d, z2) => match rd z2 i with
    | some (.obj c fs) => if (flds c).contains f = true ∧ fs.length < 1000 then .nxt (z2.set i (some (.obj c (putN f d fs)))) else .bad
    | _ => .bad
  | none => .bad
@[simp] def augOp (op : Bop) : D → D → Option D
  | .int i, .int j => match op with
    | .add => some (.int (i + j))
    | .sub => some (.int (i - j))
    | .mul => (arith .mul i j).map .int
    | .fdiv => if 0 < j ∧ j < 1073741824 then some (.int (i / j)) else none
    | .mod => if 0 < j then some (.int (i % j)) else none
    | _ => none
  | .str a, .str b => if op = .add ∧ a.length + b.length ≤ sizeLine then some (.str (a ++ b)) else none
  | _, _ => none
@[simp] def exAug (ro : Ro) (op : Bop) (i : Nat) (m : Zs → R Hd) : Zs → S := fun z => match rd z i with
  | some (.val d0) => (m z).bindS fun h z1 => match peek h z1 with
    | some e => match augOp op d0 e with
      | some d => match setS ro i (.val d) z1 with
        | some z2 => .nxt z2
        | none => .bad
      | none => .bad
    | none => .bad
  | _ => .bad
section
variable {G : Gx} {W : WX} {ro : Ro} {X : Cx} {e : Expr} {pos p1 p2 : Pos} {me : Zs → R Hd} {i f : Nat} {x : Str} {flds : Nat → List Nat}
theorem zs_setFld (hK : G.K = X.K) (g : GOk G flds) (hN : X.N[i]? = some x) (hv : Vis X.env.scope x) (hd : (x == ("__debug__" : Str)) = false) (hcd : (x == ("__classdict__" : Str)) = false) (he : PE X e (tZ G W me)) (hs : swapsWith e (some (.Attribute (.Name x p1) (G.name f) p2)) pos.line X.env = pure false) :
    PS X (.Assign [.Attribute (.Name x p1) (G.name f) p2] e pos) (tZS G W ro (exSetFld flds i f me)) := by
  refine PS.imp (ps_fld (pe_var hN hv hd hcd) he hs) fun D σ H h => ?_
  obtain ⟨z, ow, F, s, run⟩ := h
  refine ⟨z, ow, F, s, RunS.first s run fun h z1 v1 H1 F1 ow1 f1 _ st1 s1 r1 d1 run1 => ?_⟩
  cases e1 : takeD h z1 with
  | none => simp only [e1] at run1; exact run1.elim
  | some p =>
    obtain ⟨d, z2⟩ := p
    simp only [e1] at run1
    cases e2 : rd z2 i with
    | none => simp only [e2] at run1; exact run1.elim
    | some o2 =>
      cases o2 <;> simp only [e2] at run1 <;> try exact run1.elim
      rename_i c fs
      split at run1
      · rename_i hc
        obtain ⟨F2, ow2, s2, r2, st2⟩ := HRep.takeD r1 s1 d1 (fun a h => st1.nf a (.inr h)) (fun a h => st1.tr a (.inr h)) e1
        obtain ⟨v, ei, ro2⟩ := s2.rep i _ e2
        obtain ⟨a, dx, fvs, rfl, ea, ha, rs⟩ := ro2.obj_inv
        have hm : f ∈ flds c := by simpa using hc.1
        refine ⟨.ref a, ei, a, G.cls c, dx, fvs, rfl, ha, by rw [← hK]; exact g.cl c f hm, by rw [← hK]; exact (g.na c f hm).1, by rw [rs.len]; exact hc.2, ?_⟩
        have lt : Lat H1 F2 (upd H1 a (.ins (G.cls c) dx (putF (G.name f) v1 fvs))) F2 := (stp_mut (P := fun x => x = a) rfl (fun x h => by rw [h]; exact s2.nfo a ⟨i, by rw [ea]; simp⟩) (fun x h => by rw [h]; exact ⟨_, ha⟩) s2.ft).lat
        obtain ⟨s3, st3⟩ := s2.mut (o' := .obj c (putN f d fs)) (u := .ins (G.cls c) dx (putF (G.name f) v1 fvs)) e2 ea ei (.obj upd_same ((putFs g (g.na c f hm).2 r2 rs).lat lt))
        exact run1 σ _ F2 ow2 ((st1.trans st2).trans st3) s3 Kp.refl
      · exact run1.elim
/-- x op= e, by values -/
def rAug (G : Gx) (op : Bop) : R2 := fun x y H Q => ∃ F d e r, FT H F ∧ RepR G H F x d ∧ RepR G H F y e ∧ augOp op d e = some r ∧ ∀ v, RepD G H F v r → Q v H
theorem aug_ok : ∀ op, OpR X (inplaceOp (opOf op)) (rAug G op) := by
  intro op pins s σ H x y v u Q I rx ry hh
  obtain ⟨F, d, e, r, ft, rd, re, hf, mk⟩ := hh
  cases d <;> cases e <;> simp only [augOp, reduceCtorEq] at hf
  · rename_i i j
    cases rd.int
    cases re.int
    cases op <;> simp only [reduceCtorEq, opOf, Option.some.injEq] at hf ⊢
    · subst hf
      exact iop_add pins s σ H _ _ v u Q I rx ry ⟨i, j, rfl, rfl, mk _ (.int _)⟩
    · subst hf
      exact iop_sub pins s σ H _ _ v u Q I rx ry ⟨i, j, rfl, rfl, mk _ (.int _)⟩
    · cases ha : arith .mul i j with
      | none => rw [ha] at hf; cases hf
      | some n =>
        rw [ha] at hf
        cases hf
        simp only [arith] at ha
        split at ha
        · rename_i hm
          cases ha
          rcases hm with hm | hm
          · exact iop_mul pins s σ H _ _ v u Q I rx ry ⟨i, j, rfl, rfl, hm, mk _ (.int _)⟩
          · obtain ⟨t, rfl⟩ := rx
            obtain ⟨t', rfl⟩ := ry
            exact (opI (X := X) (f := inplaceOp .Mult) (C := CMulW) (fun i j t u s Q E c q => PyProof.Rows.imul_int q (CMulW.ok c))) pins s σ H (.int i) (.int j) _ _ Q I ⟨t, rfl⟩ ⟨t', rfl⟩ ⟨i, j, rfl, rfl, hm, mk _ (.int _)⟩
        · cases ha
    · split at hf
      · rename_i hc
        cases hf
        exact iop_fdiv pins s σ H _ _ v u Q I rx ry ⟨i, j, rfl, rfl, hc, mk _ (.int _)⟩
      · cases hf
    · split at hf
      · rename_i hc
        cases hf
        exact iop_mod pins s σ H _ _ v u Q I rx ry ⟨i, j, rfl, rfl, hc, mk _ (.int _)⟩
      · cases hf
  · split at hf
    · rename_i a b hc
      obtain ⟨rfl, hl⟩ := hc
      cases hf
      obtain ⟨rfl, t1⟩ := rd.str
      obtain ⟨rfl, t2⟩ := re.str
      refine iop_add_str pins s σ H _ _ v u Q I rx ry ⟨_, _, rfl, rfl, by rw [str_len, str_len]; exact hl, ?_⟩
      rw [str_append]
      exact mk _ (.str (txtOk_append t1 t2))
    · cases hf
theorem zs_aug (hro : Hro G ro) {op : Bop} (hN : X.N.Nodup) (hi : X.N[i]? = some x) (hx : Loc X.env.scope x) (he : PE X e (tZ G W me)) (hf : X.fn x = true ∨ X.env.scope.names.lookup x = some .local) : PS X (.AugAssign (.Name x p1) (opOf op) e pos) (tZS G W ro (exAug ro op i me)) := by
  refine PS.imp (ps_aug (ti := rAug G op) hN hi hx he (aug_ok op) hf) fun D σ H h => ?_
  obtain ⟨z, ow, F, s, run⟩ := h
  unfold exAug at run
  cases e0 : rd z i with
  | none => simp only [e0] at run; exact run.elim
  | some o0 =>
    cases o0 <;> simp only [e0] at run <;> try exact run.elim
    rename_i d0
    obtain ⟨v, ei, r0⟩ := s.rep i _ e0
    refine ⟨v, ei, z, ow, F, s, RunS.first s run fun h z1 v1 H1 F1 ow1 f1 _ st1 s1 r1 d1 run1 => ?_⟩
    cases e1 : peek h z1 with
    | none => simp only [e1] at run1; exact run1.elim
    | some ee =>
      simp only [e1] at run1
      cases e2 : augOp op d0 ee with
      | none => simp only [e2] at run1; exact run1.elim
      | some d =>
        simp only [e2] at run1
        cases e3 : setS ro i (.val d) z1 with
        | none => simp only [e3] at run1; exact run1.elim
        | some z2 =>
          simp only [e3] at run1
          refine ⟨F1, d0, ee, d, s1.ft, .of (r0.val_inv.2.lat st1.lat), HRep.peek r1 s1 e1, e2, fun w rw' => ?_⟩
          obtain ⟨s2, k2⟩ := setS_ok hro s1 (.val rw') (f := []) (fun a h => by cases h) (fun a h => by cases h) e3
          exact run1 _ H1 F1 _ (st1.weak fun a h => .inl (own_val h)) s2 k2
end
/-! ### while -/
def whileF (c : Zs → R Bool) (b : Zs → S) : Nat → Zs → S
  | 0, _ => .bad
  | n + 1, z => (c z).bindS fun t z1 => if t = true then (match b z1 with
    | .nxt z2 => whileF c b n z2
    | .cnt z2 => whileF c b n z2
    | .brk z2 => .nxt z2
    | r => r) else .nxt z1
section
variable {G : Gx} {W : WX} {ro : Ro} {X : Cx} {c1 : Zs → R Bool} {mb : Zs → S} {pos : Pos}
theorem zs_while {n : Nat} {c : Expr} {body : List Stmt} (hp : PassesOwn (model X.prog X.w) X.A X.env X.xe) (hc : PT X c (tZT G W c1)) (hb : PSs X body (tZS G W ro mb)) : PS X (.While c body [] pos) (tZS G W ro (whileF c1 mb n)) := PS.imp (ps_while hp hc hb) fun D σ H h => by
  obtain ⟨z, ow, F, s, run⟩ := h
  refine ⟨fun m σ2 H2 => ∃ z2 ow2 F2, SRep G H2 F2 σ2 z2 ow2 ∧ RunS G W ro σ2 H2 F2 ow2 (whileF c1 mb m z2) D, ⟨n, z, ow, F, s, run⟩, fun m σ2 H2 hw => ?_⟩
  obtain ⟨z2, ow2, F2, s2, run2⟩ := hw
  cases m with
  | zero => exact run2.elim
  | succ m =>
    unfold whileF at run2
    refine ⟨z2, ow2, F2, s2, RunS.first s2 run2 fun t z3 v3 H3 F3 ow3 f3 _ st3 s3 r3 d3 run3 => ?_⟩
    obtain ⟨rfl, rfl⟩ := r3
    have st3 : Stp H2 F2 (Own ow2) H3 F3 (Own ow3) := st3.weak fun x h => .inl h
    cases v3 with
    | false =>
      simp only [Bool.false_eq_true, if_false] at run3 ⊢
      exact run3 σ2 H3 F3 ow3 st3 s3 Kp.refl
    | true =>
      simp only [if_true] at run3 ⊢
      refine ⟨fun σ' H' => ∃ z2 ow2 F2, SRep G H' F2 σ' z2 ow2 ∧ RunS G W ro σ' H' F2 ow2 (whileF c1 mb m z2) D, fun σ' H' hN => ⟨m, Nat.lt_succ_self m, hN⟩, z3, ow3, F3, s3, ?_⟩
      cases e : mb z3 with
      | nxt z4 => simp only [e] at run3; exact fun σ4 H4 F4 ow4 st4 s4 k4 => ⟨z4, ow4, F4, s4, run3.shift (st3.trans st4) k4⟩
      | cnt z4 => simp only [e] at run3; exact fun σ4 H4 F4 ow4 st4 s4 k4 => ⟨z4, ow4, F4, s4, run3.shift (st3.trans st4) k4⟩
      | brk z4 => simp only [e] at run3; exact fun σ4 H4 F4 ow4 st4 s4 k4 => run3 σ4 H4 F4 ow4 (st3.trans st4) s4 k4
      | ret o z4 => simp only [e] at run3; exact fun v σ4 H4 F4 ow4 f st4 s4 r4 d4 k4 => run3 v σ4 H4 F4 ow4 f (st3.trans st4) s4 r4 d4 k4
      | exc c fs z4 => simp only [e] at run3; exact fun d σ4 H4 F4 ow4 fvs st4 s4 e4 r4 k4 => run3 d σ4 H4 F4 ow4 fvs (st3.trans st4) s4 e4 r4 k4
      | bad => simp only [e] at run3; exact run3
end

/-! ### for -/
def forF (tgt : D → Zs → Option Zs) (b : Zs → S) : List D → Zs → S
  | [], z => .nxt z
  | d :: ds, z => match tgt d z with
    | none => .bad
    | some z1 => match b z1 with
      | .nxt z2 => forF tgt b ds z2
      | .cnt z2 => forF tgt b ds z2
      | .brk z2 => .nxt z2
      | r => r
/-- what was lent to the loop goes back -/
@[simp] def backZ (rs : Option (Nat × O)) (z : Zs) : Zs := match rs with
  | none => z
  | some (i, o) => z.set i (some o)
@[simp] def S.back (rs : Option (Nat × O)) : S → S
  | .nxt z => .nxt (backZ rs z)
  | .ret o z => .ret o (backZ rs z)
  | .exc c fs z => .exc c fs (backZ rs z)
  | .brk z => .brk (backZ rs z)
  | .cnt z => .cnt (backZ rs z)
  | .bad => .bad
@[simp] def roL (ro : Ro) (l : Option Nat) : Ro := match l with
  | none => ro
  | some i => fun j => ro j || (j == i)
def exFor (tgt : D → Zs → Option Zs) (mi : Zs → R (List D × Option (Nat × O))) (b : Zs → S) : Zs → S := fun z => (mi z).bindS fun p z1 => (forF tgt b p.1 z1).back p.2
/-- J walks ds, while what is shared and what stands at f stays -/
def Yields (G : Gx) (H : Hp) (F : Fz) (f : List Addr) (J : It) (ds : List D) : Prop :=
  ∀ H' F', Lat H F H' F' → FT H' F' → (∀ a ∈ f, ∀ o, H a = some o → H' a = some o) → ∀ i,
    (∀ d, ds[i]? = some d → J.go i H' ∧ ∀ x H'', J.yld i H' x H'' → ∃ F'', Stp H' F' (fun _ => False) H'' F'' (fun x => x ∈ ([] : List Addr)) ∧ RepD G H'' F'' x d) ∧ (ds.length ≤ i → J.stop i H')
/-- what was lent -/
def Lent (G : Gx) (H : Hp) (F : Fz) (σ : L2.St) (f : List Addr) (rs : Option (Nat × O)) : Prop := ∀ i o, rs = some (i, o) → ∃ v, σ[i]? = some (some v) ∧ RepO G H F v o f
def relI (G : Gx) (l : Option Nat) (σ : L2.St) : Rel (List D × Option (Nat × O)) It := fun H F J p f => Yields G H F f J p.1 ∧ Lent G H F σ f p.2 ∧ ∀ i o, p.2 = some (i, o) → l = some i
def iZ (G : Gx) (W : WX) (l : Option Nat) (m : Zs → R (List D × Option (Nat × O))) : TI := tG G W (relI G l) m
theorem PI.imp {X : Cx} {tg e : Expr} {t t' : TI} (h : PI X tg e t) (k : ∀ σ H Q, t' σ H Q → t σ H Q) : PI X tg e t' := ⟨fun pins s σ H Q I q => h.run pins s σ H Q I (k σ H Q q)⟩
section
variable {G : Gx} {W : WX} {ro : Ro} {X : Cx} {pos : Pos} {tg iter : Expr} {body : List Stmt} {mb : Zs → S} {tgt : D → Zs → Option Zs} {mi : Zs → R (List D × Option (Nat × O))} {l : Option Nat}
theorem back_rep {H : Hp} {F : Fz} {σ : L2.St} {z : Zs} {ow : Ows} {f : List Addr} {rs : Option (Nat × O)} (s : SRep G H F σ z ow) (hf : ∀ a ∈ f, ¬ Own ow a) (nf : ∀ a ∈ f, ¬ F a)
    (hr : Lent G H F σ f rs) : ∃ ow', SRep G H F σ (backZ rs z) ow' ∧ ∀ a, Own ow' a → Own ow a ∨ a ∈ f := by
  cases rs with
  | none => exact ⟨ow, s, fun a h => .inl h⟩
  | some p =>
    obtain ⟨i, o⟩ := p
    obtain ⟨v, ei, r⟩ := hr i o rfl
    refine ⟨ow1 ow i f, s.give ei r (fun a h q => hf a h (own_ow0 q)) nf, fun a h => ?_⟩
    rcases own_ow1 h with h | h
    · exact .inl (own_ow0 h)
    · exact .inr h
theorem kp_ro {a b : L2.St} (h : Kp (roL ro l) a b) : Kp ro a b := fun i e => h i (by
  unfold roL; cases l with
  | none => exact e
  | some j => simp [e])
theorem kp_l {a b : L2.St} {i : Nat} (h : Kp (roL ro l) a b) (e : l = some i) : b[i]? = a[i]? := h i (by subst e; simp [roL])
theorem zs_for (hp : PassesOwn (model X.prog X.w) X.A X.env X.xe) (hc : X.calm = true) (hi : PI X tg iter (iZ G W l mi)) (hg : PG X tg (gZ G (roL ro l) tgt)) (hb : PSs X body (tZS G W (roL ro l) mb)) (hs : ∀ x, foldedSetIterable iter X.env x = pure x) :
    PS X (.For tg iter body [] pos) (tZS G W ro (exFor tgt mi mb)) := PS.imp (ps_for hp hc hi hg hb hs) fun D σ H h => by
  obtain ⟨z, ow, F, s, run⟩ := h
  refine ⟨z, ow, F, s, RunS.first s run fun p z1 J H1 F1 ow1 f _ st1 s1 r1 d1 run1 => ?_⟩
  obtain ⟨ds, rs⟩ := p
  obtain ⟨yl, hrs, hl⟩ := r1
  simp only at yl hrs hl run1
  -- the way back, from any later state
  have fin : ∀ (σ4 : L2.St) (H4 : Hp) (F4 : Fz) (ow4 : Ows) (z4 : Zs) (g : List Addr), SRep G H4 F4 σ4 z4 ow4 → Stp H1 F1 (Own ow1) H4 F4 (fun x => Own ow4 x ∨ x ∈ g) → Kp (roL ro l) σ σ4 → (∀ x ∈ g, ¬ Own ow4 x) →
      ∃ ow5, SRep G H4 F4 σ4 (backZ rs z4) ow5 ∧ Stp H F (Own ow) H4 F4 (fun x => Own ow5 x ∨ x ∈ g) ∧ ∀ x ∈ g, ¬ Own ow5 x := by
    intro σ4 H4 F4 ow4 z4 g s4 st4 k4 d4
    obtain ⟨c1, c2⟩ := st1.frame d1 st4
    have hr : Lent G H4 F4 σ4 f rs := fun i o e => by
      obtain ⟨v, ei, r⟩ := hrs i o e
      exact ⟨v, by rw [kp_l k4 (hl i o e)]; exact ei, r.stp st4 d1⟩
    obtain ⟨ow5, s5, o5⟩ := back_rep s4 (f := f) (fun a h q => c2 a h (.inl q)) (fun a h => c1.nf a (.inr h)) hr
    refine ⟨ow5, s5, c1.weak fun x h => ?_, fun x h q => ?_⟩
    · rcases h with h | h
      · rcases o5 x h with h | h
        · exact .inl (.inl h)
        · exact .inr h
      · exact .inl (.inr h)
    · rcases o5 x q with q | q
      · exact d4 x h q
      · exact c2 x q (.inr h)
  have fin0 : ∀ (σ4 : L2.St) (H4 : Hp) (F4 : Fz) (ow4 : Ows) (z4 : Zs), SRep G H4 F4 σ4 z4 ow4 → Stp H1 F1 (Own ow1) H4 F4 (Own ow4) → Kp (roL ro l) σ σ4 → ∃ ow5, SRep G H4 F4 σ4 (backZ rs z4) ow5 ∧ Stp H F (Own ow) H4 F4 (Own ow5) := by
    intro σ4 H4 F4 ow4 z4 s4 st4 k4
    obtain ⟨ow5, a, b, _⟩ := fin σ4 H4 F4 ow4 z4 [] s4 (st4.weak fun x h => h.elim id fun h => by cases h) k4 (fun x h => by cases h)
    exact ⟨ow5, a, b.weak fun x h => .inl h⟩
  refine ⟨fun i m σ2 H2 => ∃ z2 ow2 F2, SRep G H2 F2 σ2 z2 ow2 ∧ Stp H1 F1 (Own ow1) H2 F2 (Own ow2) ∧ Kp (roL ro l) σ σ2 ∧ i + m = ds.length ∧ RunS G W ro σ H F ow ((forF tgt mb (ds.drop i) z2).back rs) D,
    ⟨ds.length, z1, ow1, F1, s1, s1.refl, Kp.refl, Nat.zero_add _, by rw [List.drop_zero]; exact run1⟩, fun i m σ2 H2 hw => ?_⟩
  obtain ⟨z2, ow2, F2, s2, st2, k2, him, run2⟩ := hw
  obtain ⟨y1, y2⟩ := yl H2 F2 st2.lat s2.ft (fun a ha o e => st2.stay a o (d1 a ha) e) i
  by_cases hi : i < ds.length
  · have ed : ds[i]? = some ds[i] := List.getElem?_eq_getElem hi
    obtain ⟨go, yy⟩ := y1 _ ed
    refine .inr ⟨go, fun σ' H' => ∃ z2 ow2 F2, SRep G H' F2 σ' z2 ow2 ∧ Stp H1 F1 (Own ow1) H' F2 (Own ow2) ∧ Kp (roL ro l) σ σ' ∧ i + 1 + (m - 1) = ds.length ∧ RunS G W ro σ H F ow ((forF tgt mb (ds.drop (i + 1)) z2).back rs) D, fun σ' H' hN => ⟨m - 1, by omega, hN⟩, fun x H' hy => ?_⟩
    obtain ⟨F', sA, rd⟩ := yy x H' hy
    have s2' : SRep G H' F' σ2 z2 ow2 := s2.stp sA fun _ _ h => h
    rw [List.drop_eq_getElem_cons hi] at run2
    unfold forF at run2
    cases e1 : tgt ds[i] z2 with
    | none => rw [e1] at run2; exact run2.elim
    | some z3 =>
      rw [e1] at run2
      refine ⟨F', z2, ow2, _, z3, s2', rd, e1, fun σ3 ow3 s3 o3 k3 => ⟨z3, ow3, F', s3, ?_⟩⟩
      have st3 : Stp H1 F1 (Own ow1) H' F' (Own ow3) := (st2.alloc sA).1.weak fun x h => .inr (o3 x h)
      have kk : Kp (roL ro l) σ σ3 := k2.trans k3
      cases e : mb z3 with
      | nxt z4 => simp only [e] at run2; exact fun σ4 H4 F4 ow4 st4 s4 k4 => ⟨z4, ow4, F4, s4, st3.trans st4, kk.trans k4, by omega, run2⟩
      | cnt z4 => simp only [e] at run2; exact fun σ4 H4 F4 ow4 st4 s4 k4 => ⟨z4, ow4, F4, s4, st3.trans st4, kk.trans k4, by omega, run2⟩
      | brk z4 =>
        simp only [e] at run2
        intro σ4 H4 F4 ow4 st4 s4 k4
        obtain ⟨ow5, s5, st5⟩ := fin0 σ4 H4 F4 ow4 z4 s4 (st3.trans st4) (kk.trans k4)
        exact run2 σ4 H4 F4 ow5 st5 s5 (kp_ro (kk.trans k4))
      | ret o z4 =>
        simp only [e] at run2
        intro v σ4 H4 F4 ow4 g st4 s4 r4 d4 k4
        obtain ⟨ow5, s5, st5, d5⟩ := fin σ4 H4 F4 ow4 z4 g s4 (st3.trans st4) (kk.trans k4) d4
        exact run2 v σ4 H4 F4 ow5 g st5 s5 r4 d5 (kp_ro (kk.trans k4))
      | exc c fs z4 =>
        simp only [e] at run2
        intro d σ4 H4 F4 ow4 fvs st4 s4 e4 r4 k4
        obtain ⟨ow5, s5, st5⟩ := fin0 σ4 H4 F4 ow4 z4 s4 (st3.trans st4) (kk.trans k4)
        exact run2 d σ4 H4 F4 ow5 fvs st5 s5 e4 r4 (kp_ro (kk.trans k4))
      | bad => simp only [e] at run2; exact run2
  · have h0 : ds.length ≤ i := by omega
    rw [List.drop_eq_nil_of_le h0] at run2
    refine .inl ⟨y2 h0, ?_⟩
    obtain ⟨ow5, s5, st5⟩ := fin0 σ2 H2 F2 ow2 z2 s2 st2 k2
    exact run2 σ2 H2 F2 ow5 st5 s5 (kp_ro k2)
end
end Z
end

section
set_option maxRecDepth 100007
/-! enumerate over a tuple. -/
namespace Z
open PySem L2 PyProof.Rows
theorem new_enumT (l : Addr) (items : Array Value) (n : Nat) (dct : Option Addr) (sl : Array (Option Value)) :
    Meets (Builtin.«enumerate.__new__» ⟨[.type "enumerate", .ref l], []⟩) (fun _ R s => s.heap.get? l = some { cls := .type "tuple", dict := dct, data := .seq items n, slots := sl } ∧
      R (.ok (.ret (.ref (s.heap.push { cls := .type "tuple_iterator", data := .fields #[.ref l, .int 0 0] }).objs.size)))
        { s with heap := (s.heap.push { cls := .type "tuple_iterator", data := .fields #[.ref l, .int 0 0] }).push { cls := .type "enumerate", data := .fields #[.none, .bool false, .ref s.heap.objs.size, rawInt 0, .none, .none] } }) :=
  .of_wp fun prog w A R s hh => by
    obtain ⟨hp, g, d, tk, os⟩ := s
    obtain ⟨hl, hh⟩ := hh
    have hsub := sub_enumerate
    have hT : Heap.IsTuple (Shared.heap ⟨hp, g, d, tk, os⟩) l items := ⟨_, hl, rfl, n, rfl⟩
    wp_walk using AutoSeq1.wpAny_loadPart' hl
    refine wpAny_stack_any fun st => wpAny_pure ?_
    split
    · rename_i c _ _ _ _ _
      cases (c == Value.type "enumerate")
      · wp_walk using AutoSeq1.wpAny_loadPart' hl, wpAny_pyIter_tuple hT
        exact ⟨_, rfl, hh⟩
      · wp_walk using AutoSeq1.wpAny_loadPart' hl, wpAny_pyIter_tuple hT
        exact ⟨_, rfl, hh⟩
    · wp_walk using AutoSeq1.wpAny_loadPart' hl, wpAny_pyIter_tuple hT
      exact ⟨_, rfl, hh⟩
theorem call_enumT {prog : Program} {w : World} {A : Around} {E : Value → Shared → Prop} {s : Shared} {l : Addr} {items : Array Value} {Q : Value → Shared → Prop} (hL : s.heap.IsTuple l items)
    (h : ∀ h', IsEnum h' (s.heap.objs.size + 1) s.heap.objs.size 0 .none → h'.IsTupleIter s.heap.objs.size l 0 → (∀ b o, s.heap.get? b = some o → h'.get? b = some o) → Q (.ref (s.heap.objs.size + 1)) { s with heap := h' }) : wpAny (model prog w) A (call (.type "enumerate") [.ref l]) Q E s := by
  obtain ⟨⟨c, dct, dt, sl⟩, hl, hc, n, hd⟩ := hL
  obtain rfl : c = .type "tuple" := hc
  obtain rfl : dt = .seq items n := hd
  refine callType_new F.called_enumerate (by decide) (F.typeCall_enumerate_1 _) (F.newCall_enumerate_1 _) (fun obj => F.args_object_init_2 obj _) F.entry_enumerate_new (new_enumT l items n dct sl) ⟨hl, ?_⟩
  have hz : (s.heap.push { cls := .type "tuple_iterator", data := .fields #[.ref l, .int 0 0] }).objs.size = s.heap.objs.size + 1 := Heap.size_push ..
  show _ ∧ _
  rw [hz]
  have he : IsEnum ((s.heap.push { cls := .type "tuple_iterator", data := .fields #[.ref l, .int 0 0] }).push { cls := .type "enumerate", data := .fields #[.none, .bool false, .ref s.heap.objs.size, rawInt 0, .none, .none] }) (s.heap.objs.size + 1) s.heap.objs.size 0 .none := by
    rw [← hz]
    exact Heap.get?_push_size _ rfl
  exact ⟨⟨_, he, rfl⟩, h _ he ⟨_, Heap.get?_push_of_some _ (Heap.get?_push_size _ rfl), rfl, rfl⟩ fun b o x => Heap.get?_push_of_some _ (Heap.get?_push_of_some _ x)⟩
/-- the tuple at a, each item in a new pair -/
def IteT (K : PySem.W.Frag) (a : Addr) : It :=
  ⟨fun i H => ∃ (xs : List V) (x : V), SqT K H a xs ∧ xs[i]? = some x, fun i H v H' => ∃ T x, v = .ref T ∧ H T = none ∧ H' = upd H T (.tup [.int (i : Nat), x]) ∧ ∀ xs, SqT K H a xs → xs[i]? = some x, fun i H => ∃ xs : List V, SqT K H a xs ∧ xs.length ≤ i⟩
theorem isEnum_ne {h : Heap} {e it a : Addr} {i : Int} {old : Value} {items : Array Value} (he : IsEnum h e it i old) (ht : h.IsTuple a items) : e ≠ a := fun q => by
  obtain ⟨o, ho, hc, _⟩ := ht
  subst q
  have := he.symm.trans ho
  cases this
  have hc : Value.type "enumerate" = Value.type "tuple" := hc
  exact absurd hc (by decide)
theorem turn_enumT {P : Program} {w : World} {K : PySem.W.Frag} {elts : List Expr} {kk : Nat} {tpos : Pos} (a e it : Addr) (hai : a ≠ it) :
    Turn P w K (.Tuple elts kk tpos) (IteT K a) [e, it] e (fun i h => (∃ old, IsEnum h e it ((i : Nat) : Int) old) ∧ h.IsTupleIter it a i ∧ e ≠ it) where
  mem := by simp
  obj := fun i h st b hb => by
    obtain ⟨⟨old, he⟩, ⟨o, ho, hc, hd⟩, _⟩ := st
    rcases (show b = e ∨ b = it by simpa using hb) with q | q
    · subst q; exact ⟨_, he, fun v z => nomatch z⟩
    · subst q; exact ⟨o, ho, fun v z => by rw [hd] at z; cases z⟩
  keep := fun i h h' st k => ⟨st.1.elim fun old he => ⟨old, k e (by simp) _ he⟩, st.2.1.at fun o q => k it (by simp) o q, st.2.2⟩
  item := by
    intro X hP hw hK hc i pins s σ H E I hf st hg
    subst hP hw hK
    obtain ⟨⟨old, he⟩, hit, hne⟩ := st
    obtain ⟨xs, x, hq, hx⟩ := hg
    obtain ⟨its, rv, p, hz⟩ := I.tuple hq
    have hT : s.heap.IsTuple a its.toArray := p
    have hii : i < its.toArray.size := by
      rw [List.size_toArray, ← rv.length]
      exact (List.getElem?_eq_some_iff.mp hx).1
    have hel : e < s.heap.objs.size := Heap.lt_size he
    have hil : it < s.heap.objs.size := by
      obtain ⟨_, q, _⟩ := hit
      exact Heap.lt_size q
    have hea := isEnum_ne he hT
    refine wpAny_pyNext_enum_itemD (Draws.tuple (show X.A.in1.handled = none from I.ok.hd hc) it a hai its.toArray) he ⟨hit, hT⟩ hii hne (by simp [hne, hea]) fun y h' tk hy ho hst hTn hsz hk => ?_
    refine ⟨_, rfl, wpAny_letOwnedTupleGo_enum (s := { s with heap := h', toks := tk + 1 }) ho fun h'' he' sb => ?_⟩
    obtain ⟨u, hu, ru⟩ := rv.get hx
    have hyu : y = u := by
      have : its[i]? = some y := by simpa using hy
      rw [hu] at this
      exact (Option.some.inj this).symm
    subst hyu
    have hT2 : h''.get? s.heap.objs.size = some { cls := .type "tuple", data := .seq #[.int i tk, y] } := (sb.2 _ (Nat.ne_of_gt hel)).trans hTn
    have new : ObjOk X.prog X.w (upd H s.heap.objs.size (.tup [.int (i : Nat), x])) h'' s.heap.objs.size (.tup [.int (i : Nat), x]) :=
      ⟨by show 2 ≤ sizeLine; decide, [.int i tk, y], .cons ⟨_, rfl⟩ (.cons ru .nil), ⟨_, hT2, rfl, _, rfl⟩⟩
    have I1 : Inv X pins σ (upd H s.heap.objs.size (.tup [.int (i : Nat), x])) { s with heap := h'', toks := tk + 1 } :=
      I.turnedNew (ch := [e, it]) (fun b ob hb q => (sb.2 b (fun z => hb (by simp [z]))).trans (hk b ob (fun z => hb (by simp [z])) (fun z => hb (by simp [z])) q)) hf (Nat.le_refl _) new
    refine ⟨.ref s.heap.objs.size, _, I1, rfl, ⟨_, x, rfl, I.hok.fresh (Nat.le_refl _), rfl, fun ys hy => by rw [I.tuple_inj hy hq]; exact hx⟩, ⟨⟨y, ?_⟩, hst.1.at fun o q => (sb.2 it (Ne.symm hne)).trans q, hne⟩, fun b hb => ?_⟩
    · rw [show ((i + 1 : Nat) : Int) = (i : Int) + 1 by omega]
      exact he'
    · have hb' : b < s.heap.objs.size := by
        rcases (show b = e ∨ b = it by simpa using hb) with q | q
        · rw [q]; exact hel
        · rw [q]; exact hil
      rw [upd_ne (Nat.ne_of_lt hb')]
      exact (hf b hb).1
  done := by
    intro X hP hw hK hc i pins s σ H E I hf st hg
    subst hP hw hK
    obtain ⟨⟨old, he⟩, hit, hne⟩ := st
    obtain ⟨xs, hq, hx⟩ := hg
    obtain ⟨its, rv, p, hz⟩ := I.tuple hq
    obtain ⟨f0, f1, f2, f3, f4, f5⟩ := hf it (by simp)
    have hl := rv.length
    have hT : wpAny (model X.prog X.w) X.A (pyNext (.ref e)) (fun r s1 => r = none ∧ Inv X pins σ H s1) E s := by
      have hTy : s.TypeIs (.ref e) "enumerate" := ⟨_, he, rfl⟩
      unfold pyNext
      refine wpAny_bind (wpAny_attempt (wpAny_callSpecial?_slot (name := Str.ofString "__next__") hTy F.slot_enumerate_next (wpAny_call_entry F.slot_enumerate_next hTy F.entry_enumerate_next ?_ (F.args_enumerate_next_1 _))))
      show wpAny _ _ (field (.ref e) 2 >>= _) _ _ _
      refine wpAny_bind (wpAny_field he rfl (x := .ref it) rfl ?_)
      refine wpAny_bind (wpAny_nextOf_tuple_end (show X.A.in1.handled = none from I.ok.hd hc) hit (show s.heap.IsTuple a its.toArray from p) (by simp; omega) fun h' x eb hx' => ?_)
      obtain ⟨o, ho, hcc⟩ := hx'
      refine wpAny_bind (wpAny_isInstance (T := "StopIteration") (b := true) ⟨o, ho, hcc⟩ isSubtype_stop ?_)
      exact wpAny_pure ⟨rfl, I.turned (t' := s.toks) (fun b o hb q => eb b o hb q) f0 f1 f3 f4 f5⟩
    exact hT
  self := fun A i s Q E st h => wpAny_pyIter_enum st.1.choose_spec h
theorem nextOf_text_end {prog : Program} {w : World} {A : Around} {E : Value → Shared → Prop} {s : Shared} {it : Addr} {x : Str} {t : Tok} {i : Nat} {Q : Value → Shared → Prop} (hh : A.handled = none) (hit : s.heap.IsStrIter it (strIterType x) x t i) (hx : x.cps[i]? = none)
    (hE : ∀ h' e, Heap.ExtBut it s.heap h' → (∃ o, h'.get? e = some o ∧ o.cls = .type "StopIteration") → E (.ref e) { s with heap := h' }) : wpAny (model prog w) A (Builtin.SmallTypes.nextOf (.ref it)) Q E s := by
  cases ha : x.cps.all (· < 128)
  · simp only [strIterType, ha, Bool.false_eq_true, if_false] at hit
    exact wpAny_nextOf_wide_end hh hit hx hE
  · simp only [strIterType, ha, if_true] at hit
    exact wpAny_nextOf_ascii_end hh hit hx hE
/-- a text's signs, each in a new pair -/
def IteS (x : Str) : It :=
  ⟨fun i _ => i < x.cps.size, fun i H v H' => ∃ T c, v = .ref T ∧ H T = none ∧ x.cps[i]? = some c ∧ H' = upd H T (.tup [.int (i : Nat), .str ⟨#[c]⟩]), fun i _ => x.cps.size ≤ i⟩
theorem turn_enumS {P : Program} {w : World} {K : PySem.W.Frag} {elts : List Expr} {kk : Nat} {tpos : Pos} (x : Str) (t : Tok) (e it : Addr) :
    Turn P w K (.Tuple elts kk tpos) (IteS x) [e, it] e (fun i h => (∃ old, IsEnum h e it ((i : Nat) : Int) old) ∧ h.IsStrIter it (strIterType x) x t i ∧ e ≠ it) where
  mem := by simp
  obj := fun i h st b hb => by
    obtain ⟨⟨old, he⟩, ⟨o, ho, hc, hd⟩, _⟩ := st
    rcases (show b = e ∨ b = it by simpa using hb) with q | q
    · subst q; exact ⟨_, he, fun v z => nomatch z⟩
    · subst q; exact ⟨o, ho, fun v z => by rw [hd] at z; cases z⟩
  keep := fun i h h' st k => ⟨st.1.elim fun old he => ⟨old, k e (by simp) _ he⟩, (by obtain ⟨o, ho, r⟩ := st.2.1; exact ⟨o, k it (by simp) o ho, r⟩), st.2.2⟩
  item := by
    intro X hP hw hK hc i pins s σ H E I hf st hg
    subst hP hw hK
    obtain ⟨⟨old, he⟩, hit, hne⟩ := st
    have hii : i < x.cps.size := hg
    have hel : e < s.heap.objs.size := Heap.lt_size he
    have hil : it < s.heap.objs.size := by
      obtain ⟨_, q, _⟩ := hit
      exact Heap.lt_size q
    refine wpAny_pyNext_enum_itemD (Draws.text (show X.A.in1.handled = none from I.ok.hd hc) it x t) he hit hii hne (by simp [hne]) fun y h' tk hy ho hst hTn hsz hk => ?_
    refine ⟨_, rfl, wpAny_letOwnedTupleGo_enum (s := { s with heap := h', toks := tk + 1 }) ho fun h'' he' sb => ?_⟩
    obtain ⟨c, u, hxc, rfl⟩ := hy
    have hT2 : h''.get? s.heap.objs.size = some { cls := .type "tuple", data := .seq #[.int i tk, .str ⟨#[c]⟩ u] } := (sb.2 _ (Nat.ne_of_gt hel)).trans hTn
    have new : ObjOk X.prog X.w (upd H s.heap.objs.size (.tup [.int (i : Nat), .str ⟨#[c]⟩])) h'' s.heap.objs.size (.tup [.int (i : Nat), .str ⟨#[c]⟩]) :=
      ⟨by show 2 ≤ sizeLine; decide, [.int i tk, .str ⟨#[c]⟩ u], .cons ⟨tk, rfl⟩ (.cons ⟨u, rfl⟩ .nil), ⟨_, hT2, rfl, _, rfl⟩⟩
    have I1 : Inv X pins σ (upd H s.heap.objs.size (.tup [.int (i : Nat), .str ⟨#[c]⟩])) { s with heap := h'', toks := tk + 1 } :=
      I.turnedNew (ch := [e, it]) (fun b ob hb q => (sb.2 b (fun z => hb (by simp [z]))).trans (hk b ob (fun z => hb (by simp [z])) (fun z => hb (by simp [z])) q)) hf (Nat.le_refl _) new
    refine ⟨.ref s.heap.objs.size, _, I1, rfl, ⟨_, c, rfl, I.hok.fresh (Nat.le_refl _), hxc, rfl⟩, ⟨⟨.str ⟨#[c]⟩ u, ?_⟩, ?_, hne⟩, fun b hb => ?_⟩
    · rw [show ((i + 1 : Nat) : Int) = (i : Int) + 1 by omega]
      exact he'
    · obtain ⟨o, q, r⟩ := hst
      exact ⟨o, (sb.2 it (Ne.symm hne)).trans q, r⟩
    · have hb' : b < s.heap.objs.size := by
        rcases (show b = e ∨ b = it by simpa using hb) with q | q
        · rw [q]; exact hel
        · rw [q]; exact hil
      rw [upd_ne (Nat.ne_of_lt hb')]
      exact (hf b hb).1
  done := by
    intro X hP hw hK hc i pins s σ H E I hf st hg
    subst hP hw hK
    obtain ⟨⟨old, he⟩, hit, hne⟩ := st
    have hx : x.cps.size ≤ i := hg
    obtain ⟨f0, f1, f2, f3, f4, f5⟩ := hf it (by simp)
    have hT : wpAny (model X.prog X.w) X.A (pyNext (.ref e)) (fun r s1 => r = none ∧ Inv X pins σ H s1) E s := by
      have hTy : s.TypeIs (.ref e) "enumerate" := ⟨_, he, rfl⟩
      unfold pyNext
      refine wpAny_bind (wpAny_attempt (wpAny_callSpecial?_slot (name := Str.ofString "__next__") hTy F.slot_enumerate_next (wpAny_call_entry F.slot_enumerate_next hTy F.entry_enumerate_next ?_ (F.args_enumerate_next_1 _))))
      show wpAny _ _ (field (.ref e) 2 >>= _) _ _ _
      refine wpAny_bind (wpAny_field he rfl (x := .ref it) rfl ?_)
      refine wpAny_bind (nextOf_text_end (show X.A.in1.handled = none from I.ok.hd hc) hit (by simp; omega) fun h' y eb hx' => ?_)
      obtain ⟨o, ho, hcc⟩ := hx'
      refine wpAny_bind (wpAny_isInstance (T := "StopIteration") (b := true) ⟨o, ho, hcc⟩ isSubtype_stop ?_)
      exact wpAny_pure ⟨rfl, I.turned (t' := s.toks) (fun b o hb q => eb b o hb q) f0 f1 f3 f4 f5⟩
    exact hT
  self := fun A i s Q E st h => wpAny_pyIter_enum st.1.choose_spec h
section
variable {X : Cx} {pins : List (Addr × Obj)} {σ : L2.St} {s1 : Shared} {H1 : Hp} {R : It → Hp → Prop} {a : Addr} {xs : List V} {u : Value} {kk : Nat} {tpos : Pos} {elts : List Expr}
theorem enum_t (I1 : Inv X pins σ H1 s1) (r1 : Vals [.ref a] [u]) (hq : SqT X.K H1 a xs) (q : R (IteT X.K a) H1) : wpAny (model X.prog X.w) X.A (call (.type "enumerate") [u]) (fun v s2 => wpAny (model X.prog X.w) X.A (pyIter v) (PIE X pins σ (.Tuple elts kk tpos) R) X.xe s2) X.xe s1 := by
  cases r1 with | cons ru _ =>
  cases (show u = Value.ref a from ru)
  obtain ⟨its, rv, p', hz⟩ := I1.tuple hq
  have hT : s1.heap.IsTuple a its.toArray := p'
  have hal : a < s1.heap.objs.size := by
    obtain ⟨_, q, _⟩ := hT
    exact Heap.lt_size q
  refine call_enumT hT fun h' he hit hk => wpAny_pyIter_enum he ?_
  have I2 : Inv X pins σ H1 { s1 with heap := h' } := I1.kept (t' := s1.toks) hk
  refine ⟨s1.heap.objs.size + 1, [s1.heap.objs.size + 1, s1.heap.objs.size], _, _, H1, rfl, I2, turn_enumT a (s1.heap.objs.size + 1) s1.heap.objs.size (Nat.ne_of_lt hal), ⟨⟨.none, he⟩, hit, Nat.succ_ne_self _⟩, fun b hb => ?_, q⟩
  have hle : s1.heap.objs.size ≤ b := by
    rcases (show b = s1.heap.objs.size + 1 ∨ b = s1.heap.objs.size by simpa using hb) with q | q
    · rw [q]; exact Nat.le_succ _
    · rw [q]; exact Nat.le_refl _
  exact I1.fpOk hle (I1.hok.fresh hle)
theorem enum_s {x : Str} (I1 : Inv X pins σ H1 s1) (r1 : Vals [.str x] [u]) (q : R (IteS x) H1) : wpAny (model X.prog X.w) X.A (call (.type "enumerate") [u]) (fun v s2 => wpAny (model X.prog X.w) X.A (pyIter v) (PIE X pins σ (.Tuple elts kk tpos) R) X.xe s2) X.xe s1 := by
  cases r1 with | cons ru _ =>
  obtain ⟨t, rfl⟩ := (show ∃ t, u = Value.str x t from ru)
  refine call_enumerate_str fun h' he hit hsz hk => wpAny_pyIter_enum he ?_
  have I2 : Inv X pins σ H1 { s1 with heap := h' } := I1.kept (t' := s1.toks) hk
  refine ⟨s1.heap.objs.size + 1, [s1.heap.objs.size + 1, s1.heap.objs.size], _, _, H1, rfl, I2, turn_enumS x t (s1.heap.objs.size + 1) s1.heap.objs.size, ⟨⟨.none, he⟩, hit, Nat.succ_ne_self _⟩, fun b hb => ?_, q⟩
  have hle : s1.heap.objs.size ≤ b := by
    rcases (show b = s1.heap.objs.size + 1 ∨ b = s1.heap.objs.size by simpa using hb) with q | q
    · rw [q]; exact Nat.le_succ _
    · rw [q]; exact Nat.le_refl _
  exact I1.fpOk hle (I1.hok.fresh hle)
theorem enum_l (I1 : Inv X pins σ H1 s1) (r1 : Vals [.ref a] [u]) (hq : SqL X.K H1 a xs) (q : R (Ite X.K a) H1) : wpAny (model X.prog X.w) X.A (call (.type "enumerate") [u]) (fun v s2 => wpAny (model X.prog X.w) X.A (pyIter v) (PIE X pins σ (.Tuple elts kk tpos) R) X.xe s2) X.xe s1 := by
  cases r1 with | cons ru _ =>
  cases (show u = Value.ref a from ru)
  obtain ⟨its, rv, p', hz⟩ := I1.list hq
  refine call_enumerate_list p'.isList fun h' he hit hsz hk => wpAny_pyIter_enum he ?_
  have I2 : Inv X pins σ H1 { s1 with heap := h' } := I1.kept (t' := s1.toks) hk
  refine ⟨s1.heap.objs.size + 1, [s1.heap.objs.size + 1, s1.heap.objs.size], _, _, H1, rfl, I2, turn_enum a (s1.heap.objs.size + 1) s1.heap.objs.size, ⟨⟨.none, he⟩, hit, Nat.succ_ne_self _⟩, fun b hb => ?_, q⟩
  have hle : s1.heap.objs.size ≤ b := by
    rcases (show b = s1.heap.objs.size + 1 ∨ b = s1.heap.objs.size by simpa using hb) with q | q
    · rw [q]; exact Nat.le_succ _
    · rw [q]; exact Nat.le_refl _
  exact I1.fpOk hle (I1.hok.fresh hle)
end
end Z
end

section
set_option maxRecDepth 100007
/-! What a loop walks. -/
namespace Z
open PySem L2 PyProof.Rows
theorem PI.or {X : Cx} {tg e : Expr} {t u : TI} (h : PI X tg e t) (k : PI X tg e u) : PI X tg e (fun σ H R => t σ H R ∨ u σ H R) := ⟨fun pins s σ H Q I q => q.elim (h.run pins s σ H Q I) (k.run pins s σ H Q I)⟩
/-- the items of what is walked -/
@[simp] def itemsD : D → Option (List D)
  | .lst ds => some ds
  | .tup ds => some ds
  | .scr ns => some (ns.map .int)
  | .str x => some (x.map fun c => .str [c])
  | _ => none
abbrev MI := Zs → R (List D × Option (Nat × O))
/-- claimed for a loop: lent (l), or taken -/
@[simp] def clm (l : Option Nat) (h : Hd) (z : Zs) : Option (O × Option (Nat × O) × Zs) := match l with
  | none => match take h z with
    | some (o, z') => some (o, none, z')
    | none => none
  | some i => match h with
    | .slot j => if j = i then (match rd z i with
      | some o => some (o, some (i, o), z.set i none)
      | none => none) else none
    | .tmp _ => none
@[simp] def evSeq (l : Option Nat) (m : Zs → R Hd) : MI := fun z => (m z).bind fun h z1 => match clm l h z1 with
  | some (o, rs, z2) => match itemsD o.pk with
    | some ds => .ok (ds, rs) z2
    | none => .bad
  | none => .bad
@[simp] def evEnum (l : Option Nat) (m : Zs → R Hd) : MI := fun z => (m z).bind fun h z1 => match clm l h z1 with
  | some (o, rs, z2) => match o.pk with
    | .lst ds => .ok (ds.zipIdx.map fun p => .tup [.int p.2, p.1], rs) z2
    | .scr ns => .ok (ns.zipIdx.map fun p => .tup [.int p.2, .int p.1], rs) z2
    | .tup ds => .ok (ds.zipIdx.map fun p => .tup [.int p.2, p.1], rs) z2
    | .str x => .ok (x.zipIdx.map fun p => .tup [.int p.2, .str [p.1]], rs) z2
    | _ => .bad
  | none => .bad
def rgOk (i : Int) : Prop := -(2 ^ 62) ≤ i ∧ i < 2 ^ 62
instance (i : Int) : Decidable (rgOk i) := inferInstanceAs (Decidable (_ ∧ _))
def upTo (i : Int) (n : Nat) : List D := (List.range n).map fun (k : Nat) => D.int (i + (k : Int))
def rgItems : List D → Option (List D)
  | [.int j] => if rgOk j then some (upTo 0 j.toNat) else none
  | [.int i, .int j] => if rgOk i ∧ rgOk j then some (upTo i (j - i).toNat) else none
  | [.int i, .int j, .int c] => if c = -1 then (if rgOk i ∧ rgOk j then some ((List.range (i - j).toNat).map fun (k : Nat) => D.int (i - (k : Int))) else none) else
      if c ≠ 0 ∧ c.natAbs < 1073741824 ∧ Builtin.Range.small i j c = true ∧ 0 ≤ Builtin.Range.rangeSize i j c then some ((List.range (Builtin.Range.rangeSize i j c).toNat).map fun (k : Nat) => D.int (i + (k : Int) * c)) else none
  | _ => none
@[simp] def evRng (mA : Zs → R (List Hd)) : MI := fun z => (mA z).bind fun hs z1 => match peeks hs z1 with
  | some ds => match rgItems ds with
    | some xs => .ok (xs, none) z1
    | none => .bad
  | none => .bad
section
variable {G : Gx} {W : WX} {X : Cx} {tg e : Expr} {pos : Pos} {m1 : Zs → R Hd} {mA : Zs → R (List Hd)} {l : Option Nat} {σ : L2.St} {H H1 : Hp} {F F1 : Fz} {ow ow1 : Ows} {f : List Addr} {v : V} {h : Hd} {o : O} {z z' : Zs} {rs : Option (Nat × O)}
/-- what is claimed stands apart from what the slots own -/
theorem clm_ok (r : HRep G H1 F1 σ v h f) (s : SRep G H1 F1 σ z ow1) (st : Stp H F (Own ow) H1 F1 (fun x => Own ow1 x ∨ x ∈ f)) (d : ∀ x ∈ f, ¬ Own ow1 x) (e : clm l h z = some (o, rs, z')) :
    ∃ F2 ow2 f2, SRep G H1 F2 σ z' ow2 ∧ RepO G H1 F2 v o f2 ∧ Stp H F (Own ow) H1 F2 (fun x => Own ow2 x ∨ x ∈ f2) ∧ (∀ x ∈ f2, ¬ Own ow2 x) ∧ Lent G H1 F2 σ f2 rs ∧ ∀ i o, rs = some (i, o) → l = some i := by
  unfold clm at e
  cases l with
  | none =>
    simp only at e
    cases e1 : take h z with
    | none => rw [e1] at e; cases e
    | some p =>
      obtain ⟨o', z2⟩ := p
      rw [e1] at e
      cases e
      obtain ⟨F2, ow2, f2, s2, r2, st2, d2⟩ := HRep.take r s d (fun a h => st.nf a (.inr h)) (fun a h => st.tr a (.inr h)) e1
      exact ⟨F2, ow2, f2, s2, r2, st.trans st2, d2, (fun i o e => by cases e), fun i o e => by cases e⟩
  | some i =>
    cases h with
    | tmp _ => cases e
    | slot j =>
      simp only at e
      split at e
      · rename_i hj
        subst hj
        obtain ⟨rfl, ej⟩ := r
        cases e1 : rd z j with
        | none => rw [e1] at e; cases e
        | some o' =>
          rw [e1] at e
          cases e
          obtain ⟨v', e2, r'⟩ := s.rep j _ e1
          rw [ej] at e2
          cases e2
          refine ⟨F1, ow0 ow1 j, ow1 j, s.lend j, r', st.weak fun x h => ?_, ow0_dj s, fun i o e => ?_, fun i o e => ?_⟩
          · rcases h with h | h
            · exact .inl (own_ow0 h)
            · exact .inl ⟨j, h⟩
          · cases e
            exact ⟨v, ej, r'⟩
          · cases e
            rfl
      · cases e
theorem stp0 {H : Hp} {F : Fz} (ft : FT H F) : Stp H F (fun _ => False) H F (fun x => x ∈ ([] : List Addr)) :=
  ⟨Lat.refl, fun a o e => ⟨o, e⟩, fun _ _ _ e => e, fun _ h => .inl h, fun _ h => (by cases h), fun _ h => (by cases h), fun _ h => (by cases h), ft⟩
theorem yl_list {a : Addr} {ds : List D} (hs : ∀ H' F', Lat H F H' F' → (∀ a ∈ f, ∀ o, H a = some o → H' a = some o) → ∃ vs, SqL G.K H' a vs ∧ RepDs G H' F' vs ds) : Yields G H F f (Itl G.K a) ds := by
  intro H' F' lt ft hf i
  obtain ⟨vs, hq, rs⟩ := hs H' F' lt hf
  refine ⟨fun d e => ?_, fun hi => ⟨vs, hq, by rw [rs.length]; exact hi⟩⟩
  obtain ⟨w, ew, rw'⟩ := rs.get e
  refine ⟨⟨vs, w, hq, ew⟩, fun x H'' hy => ?_⟩
  obtain ⟨rfl, hx⟩ := hy
  have := hx vs hq
  rw [ew] at this
  cases this
  exact ⟨F', stp0 ft, rw'⟩
theorem yl_tup {a : Addr} {ds : List D} (hs : ∀ H' F', Lat H F H' F' → ∃ vs, SqT G.K H' a vs ∧ RepDs G H' F' vs ds) : Yields G H F f (Itt G.K a) ds := by
  intro H' F' lt ft hf i
  obtain ⟨vs, hq, rs⟩ := hs H' F' lt
  refine ⟨fun d e => ?_, fun hi => ⟨vs, hq, by rw [rs.length]; exact hi⟩⟩
  obtain ⟨w, ew, rw'⟩ := rs.get e
  refine ⟨⟨vs, w, hq, ew⟩, fun x H'' hy => ?_⟩
  obtain ⟨rfl, hx⟩ := hy
  have := hx vs hq
  rw [ew] at this
  cases this
  exact ⟨F', stp0 ft, rw'⟩
theorem yl_str {x : List Nat} (ht : txtOk x = true) : Yields G H F f (Its ⟨x.toArray⟩) (x.map fun c => .str [c]) := by
  intro H' F' lt ft hf i
  refine ⟨fun d e => ?_, fun hi => ?_⟩
  · rw [List.getElem?_map] at e
    cases ec : x[i]? with
    | none => rw [ec] at e; cases e
    | some c =>
      rw [ec] at e
      cases e
      refine ⟨by show i < x.toArray.size; rw [List.size_toArray]; exact (List.getElem?_eq_some_iff.mp ec).1, fun w H'' hy => ?_⟩
      obtain ⟨rfl, c', e2, rfl⟩ := hy
      have e3 : x[i]? = some c' := by simpa using e2
      rw [ec] at e3
      cases e3
      refine ⟨F', stp0 ft, .str ?_⟩
      unfold txtOk at *
      simpa using List.all_eq_true.mp ht c (List.mem_of_getElem? ec)
  · show x.toArray.size ≤ i
    rw [List.length_map] at hi
    rw [List.size_toArray]; exact hi
theorem scr_stay {a : Addr} {ns : List Int} (h : (F a ∧ Rd H a (.lst (ns.map V.int))) ∨ KLst G.K a (ns.map V.int)) {H' : Hp} {F' : Fz} (lt : Lat H F H' F') : SqL G.K H' a (ns.map V.int) := by
  rcases h with ⟨fa, h | ⟨o, h⟩⟩ | h
  · exact .inl (.inl (lt.2 _ _ fa h))
  · exact .inl (.inr ⟨o, lt.2 _ _ fa h⟩)
  · exact .inr h
theorem z_seq (hK : G.K = X.K) (he : PE X e (tZ G W m1)) : PI X tg e (iZ G W l (evSeq l m1)) := PI.imp (PI.or (pi_list he) (PI.or (pi_tup he) (pi_str he))) fun σ H Rr h => by
  obtain ⟨z, ow, F, s, run⟩ := h
  cases e0 : m1 z with
  | bad => unfold evSeq at run; rw [e0] at run; exact run.elim
  | exc c fs z1 =>
    unfold evSeq at run; rw [e0] at run
    exact .inl ⟨z, ow, F, s, by rw [e0]; exact run⟩
  | ok h z1 =>
    unfold evSeq at run; rw [e0] at run
    simp only [R.bind] at run
    cases e1 : clm l h z1 with
    | none => simp only [e1] at run; exact run.elim
    | some p =>
      obtain ⟨o, rs, z2⟩ := p
      simp only [e1] at run
      cases e2 : itemsD o.pk with
      | none => simp only [e2] at run; exact run.elim
      | some ds =>
        simp only [e2] at run
        have fin : ∀ v H1 F1 ow1 f, Stp H F (Own ow) H1 F1 (fun x => Own ow1 x ∨ x ∈ f) → SRep G H1 F1 σ z1 ow1 → HRep G H1 F1 σ v h f → (∀ x ∈ f, ¬ Own ow1 x) →
            ∃ F2 f2, RepO G H1 F2 v o f2 ∧ FT H1 F2 ∧ ∀ J, Yields G H1 F2 f2 J ds → Rr J H1 := by
          intro v H1 F1 ow1 f st s1 r1 d1
          obtain ⟨F2, ow2, f2, s2, r2, st2, d2, ln, hl⟩ := clm_ok r1 s1 st d1 e1
          exact ⟨F2, f2, r2, s2.ft, fun J hy => run J H1 F2 ow2 f2 st2 s2 ⟨hy, ln, hl⟩ d2⟩
        cases o with
        | val d =>
          cases d <;> simp only [O.pk, itemsD, reduceCtorEq, Option.some.injEq] at e2
          · subst e2
            refine .inr (.inr ⟨z, ow, F, s, ?_⟩)
            rw [e0]
            intro v H1 F1 ow1 f st s1 r1 d1
            obtain ⟨F2, f2, r2, ft, k⟩ := fin v H1 F1 ow1 f st s1 r1 d1
            obtain ⟨rfl, r3⟩ := r2.val_inv
            cases r3 with
            | str ht => exact ⟨_, rfl, k _ (yl_str ht)⟩
          · subst e2
            refine .inr (.inl ⟨z, ow, F, s, ?_⟩)
            rw [e0]
            intro v H1 F1 ow1 f st s1 r1 d1
            obtain ⟨F2, f2, r2, ft, k⟩ := fin v H1 F1 ow1 f st s1 r1 d1
            obtain ⟨rfl, r3⟩ := r2.val_inv
            cases r3 with
            | tup hp rs => exact ⟨_, rfl, ⟨_, hK ▸ hp.sq⟩, by rw [← hK]; exact k _ (yl_tup fun H' F' lt => ⟨_, (hp.lat lt).sq, rs.lat lt⟩)⟩
          · subst e2
            refine .inl ⟨z, ow, F, s, ?_⟩
            rw [e0]
            intro v H1 F1 ow1 f st s1 r1 d1
            obtain ⟨F2, f2, r2, ft, k⟩ := fin v H1 F1 ow1 f st s1 r1 d1
            obtain ⟨rfl, r3⟩ := r2.val_inv
            cases r3 with
            | lst fa ha rs => exact ⟨_, rfl, ⟨_, by rw [← hK]; exact SqL.of ha⟩, by rw [← hK]; exact k _ (yl_list fun H' F' lt hf => ⟨_, SqL.of (lt.2 _ _ fa ha), rs.lat lt⟩)⟩
          · subst e2
            refine .inl ⟨z, ow, F, s, ?_⟩
            rw [e0]
            intro v H1 F1 ow1 f st s1 r1 d1
            obtain ⟨F2, f2, r2, ft, k⟩ := fin v H1 F1 ow1 f st s1 r1 d1
            obtain ⟨rfl, r3⟩ := r2.val_inv
            cases r3 with
            | scr hs => exact ⟨_, rfl, ⟨_, by rw [← hK]; exact scr_stay hs Lat.refl⟩, by rw [← hK]; exact k _ (yl_list fun H' F' lt hf => ⟨_, scr_stay hs lt, repInts _⟩)⟩
        | lst ds' =>
          simp only [O.pk, itemsD, Option.some.injEq] at e2
          subst e2
          refine .inl ⟨z, ow, F, s, ?_⟩
          rw [e0]
          intro v H1 F1 ow1 f st s1 r1 d1
          obtain ⟨F2, f2, r2, ft, k⟩ := fin v H1 F1 ow1 f st s1 r1 d1
          obtain ⟨a, vs, rfl, ea, ha, rs⟩ := r2.lst_inv
          exact ⟨_, rfl, ⟨_, by rw [← hK]; exact SqL.of ha⟩, by rw [← hK]; exact k _ (yl_list fun H' F' lt hf => ⟨_, SqL.of (hf a (by rw [ea]; simp) _ ha), rs.lat lt⟩)⟩
        | _ => simp only [O.pk, itemsD, reduceCtorEq] at e2
theorem yl_rng {lo : Int} {n : Nat} : Yields G H F f (Itr lo n) (upTo lo n) := by
  intro H' F' lt ft hf i
  unfold upTo
  refine ⟨fun d e => ?_, fun hi => ?_⟩
  · rw [List.getElem?_map] at e
    by_cases hi : i < n
    · rw [List.getElem?_range hi] at e
      cases e
      refine ⟨hi, fun x H'' hy => ?_⟩
      obtain ⟨rfl, rfl⟩ := hy
      exact ⟨F', stp0 ft, .int _⟩
    · rw [List.getElem?_eq_none (by rw [List.length_range]; omega)] at e; cases e
  · rw [List.length_map, List.length_range] at hi
    exact hi
theorem yl_rngC {lo c : Int} {n : Nat} {g : Nat → Int} (hg : ∀ k, g k = lo + (k : Int) * c) : Yields G H F f (Itc lo c n) ((List.range n).map fun (k : Nat) => D.int (g k)) := by
  intro H' F' lt ft hf i
  refine ⟨fun d e => ?_, fun hi => ?_⟩
  · rw [List.getElem?_map] at e
    by_cases hi : i < n
    · rw [List.getElem?_range hi] at e
      cases e
      refine ⟨hi, fun x H'' hy => ?_⟩
      obtain ⟨rfl, rfl⟩ := hy
      exact ⟨F', stp0 ft, by show RepD _ _ _ _ (D.int (g i)); rw [hg]; exact .int _⟩
    · rw [List.getElem?_eq_none (by rw [List.length_range]; omega)] at e; cases e
  · rw [List.length_map, List.length_range] at hi
    exact hi
theorem rng_read {hs : List Hd} {ds xs : List D} {vs : List V} {z1 : Zs} {J : It} {Rr : It → Hp → Prop} (run : RunG G W σ (relI G l σ) H F ow (.ok (xs, none) z1) Rr) (st1 : Stp H F (Own ow) H1 F1 (fun x => Own ow1 x ∨ x ∈ f)) (s1 : SRep G H1 F1 σ z1 ow1) (y : Yields G H1 F1 [] J xs) : Rr J H1 :=
  run J H1 F1 ow1 [] (st1.weak fun x h => h.elim .inl fun h => by cases h) s1 ⟨y, fun i o e => (by cases e), fun i o e => by cases e⟩ fun x h => by cases h
theorem repRs3 {G : Gx} {H : Hp} {F : Fz} {xs : List V} {d e c : D} (r : RepRs G H F xs [d, e, c]) : ∃ x y w, xs = [x, y, w] ∧ RepR G H F x d ∧ RepR G H F y e ∧ RepR G H F w c := by
  cases r with
  | cons h t => cases t with
    | cons h2 t => cases t with
      | cons h3 t => cases t; exact ⟨_, _, _, rfl, h, h2, h3⟩
variable {a b c : Expr} {p : Pos}
theorem z_rng1 (hg : Gl X "range") (hm : X.mg "range" = none) (ha : PA X [a] (tZA G W mA)) (hs : starEach [a] X.env = [(false, eval a X.env)]) (h1 : ∀ z hs z1 ds, mA z = .ok hs z1 → peeks hs z1 = some ds → ds.length = 1) : PI X tg (.Call (.Name "range" p) [a] [] pos) (iZ G W l (evRng mA)) := PI.imp (pi_range1 hg hm ha hs) fun σ H Rr h => by
  obtain ⟨z, ow, F, s, run⟩ := h
  refine ⟨z, ow, F, s, RunG.first s run fun hs z1 v1 H1 F1 ow1 f1 e0 st1 s1 r1 d1 run1 => ?_⟩
  cases e1 : peeks hs z1 with
  | none => simp only [e1] at run1; exact run1.elim
  | some ds =>
    have hl := h1 z hs z1 ds e0 e1
    simp only [e1] at run1
    have rr := HReps.peeks r1 s1 e1
    cases e2 : rgItems ds with
    | none => simp only [e2] at run1; exact run1.elim
    | some xs =>
      simp only [e2] at run1
      unfold rgItems at e2
      split at e2
      · split at e2
        · rename_i hr
          cases e2
          obtain ⟨x, rfl, rx⟩ := repRs1 rr
          exact ⟨_, by rw [rx.int], hr.1, hr.2, rng_read (hs := hs) (ds := []) (vs := []) run1 st1 s1 yl_rng⟩
        · cases e2
      · cases hl
      · cases hl
      · cases e2
theorem z_rng2 (hg : Gl X "range") (hm : X.mg "range" = none) (ha : PA X [a, b] (tZA G W mA)) (hs : starEach [a, b] X.env = [(false, eval a X.env), (false, eval b X.env)]) (hs2 : starEach [b] X.env = [(false, eval b X.env)]) (h1 : ∀ z hs z1 ds, mA z = .ok hs z1 → peeks hs z1 = some ds → ds.length = 2) : PI X tg (.Call (.Name "range" p) [a, b] [] pos) (iZ G W l (evRng mA)) := PI.imp (pi_range2 hg hm ha hs hs2) fun σ H Rr h => by
  obtain ⟨z, ow, F, s, run⟩ := h
  refine ⟨z, ow, F, s, RunG.first s run fun hs z1 v1 H1 F1 ow1 f1 e0 st1 s1 r1 d1 run1 => ?_⟩
  cases e1 : peeks hs z1 with
  | none => simp only [e1] at run1; exact run1.elim
  | some ds =>
    have hl := h1 z hs z1 ds e0 e1
    simp only [e1] at run1
    have rr := HReps.peeks r1 s1 e1
    cases e2 : rgItems ds with
    | none => simp only [e2] at run1; exact run1.elim
    | some xs =>
      simp only [e2] at run1
      unfold rgItems at e2
      split at e2
      · cases hl
      · split at e2
        · rename_i hr
          cases e2
          obtain ⟨x, y, rfl, rx, ry⟩ := repRs2 rr
          exact ⟨_, _, by rw [rx.int, ry.int], ⟨hr.1.1, hr.1.2, hr.2.1, hr.2.2⟩, rng_read (hs := hs) (ds := []) (vs := []) run1 st1 s1 yl_rng⟩
        · cases e2
      · cases hl
      · cases e2
theorem z_rng3 (hg : Gl X "range") (hm : X.mg "range" = none) (ha : PA X [a, b, c] (tZA G W mA)) (hs : starEach [a, b, c] X.env = (false, eval a X.env) :: starEach [b, c] X.env) (hpl : (backTo pos (starEach [b, c] X.env)).any (·.1) = false) (h1 : ∀ z hs z1 ds, mA z = .ok hs z1 → peeks hs z1 = some ds → ds.length = 3) : PI X tg (.Call (.Name "range" p) [a, b, c] [] pos) (iZ G W l (evRng mA)) := PI.imp (pi_range3 hg hm ha hs hpl) fun σ H Rr h => by
  obtain ⟨z, ow, F, s, run⟩ := h
  refine ⟨z, ow, F, s, RunG.first s run fun hs z1 v1 H1 F1 ow1 f1 e0 st1 s1 r1 d1 run1 => ?_⟩
  cases e1 : peeks hs z1 with
  | none => simp only [e1] at run1; exact run1.elim
  | some ds =>
    have hl := h1 z hs z1 ds e0 e1
    simp only [e1] at run1
    have rr := HReps.peeks r1 s1 e1
    cases e2 : rgItems ds with
    | none => simp only [e2] at run1; exact run1.elim
    | some xs =>
      simp only [e2] at run1
      unfold rgItems at e2
      split at e2
      · cases hl
      · cases hl
      · rename_i i j c
        obtain ⟨x, y, w, rfl, rx, ry, rw'⟩ := repRs3 rr
        split at e2
        · rename_i hc
          subst hc
          split at e2
          · rename_i hr
            cases e2
            refine ⟨_, _, _, _, by rw [rx.int, ry.int, rw'.int], RgC.neg hr.1.1 hr.1.2 hr.2.1 hr.2.2, rng_read (hs := hs) (ds := []) (vs := []) run1 st1 s1 (yl_rngC (g := fun k => i - (k : Int)) fun k => by omega)⟩
          · cases e2
        · split at e2
          · rename_i hr
            cases e2
            refine ⟨_, _, _, (Builtin.Range.rangeSize i j c).toNat, by rw [rx.int, ry.int, rw'.int], ⟨hr.1, hr.2.1, hr.2.2.1, by omega⟩, rng_read (hs := hs) (ds := []) (vs := []) run1 st1 s1 (yl_rngC (g := fun k => i + (k : Int) * c) fun k => rfl)⟩
          · cases e2
      · cases e2
/-- pairs of place and item, each a new tuple -/
theorem yl_enum {a : Addr} {ds : List D} (hs : ∀ H' F', Lat H F H' F' → (∀ a ∈ f, ∀ o, H a = some o → H' a = some o) → ∃ vs, SqL G.K H' a vs ∧ RepDs G H' F' vs ds) : Yields G H F f (Ite G.K a) (ds.zipIdx.map fun p => .tup [.int p.2, p.1]) := by
  intro H' F' lt ft hf i
  obtain ⟨vs, hq, rs⟩ := hs H' F' lt hf
  refine ⟨fun d e => ?_, fun hi => ⟨vs, hq, by rw [rs.length]; simpa using hi⟩⟩
  rw [List.getElem?_map, List.getElem?_zipIdx] at e
  cases e1 : ds[i]? with
  | none => rw [e1] at e; cases e
  | some d1 =>
    rw [e1] at e
    simp only [Option.map_some, Option.some.injEq] at e
    subst e
    obtain ⟨w, ew, rw'⟩ := rs.get e1
    refine ⟨⟨vs, w, hq, ew⟩, fun x H'' hy => ?_⟩
    obtain ⟨T, x', rfl, hT, rfl, hx⟩ := hy
    have := hx vs hq
    rw [ew] at this
    cases this
    refine ⟨_, stp_newF ft hT, .tup (.inl ⟨.inr (by simp), upd_same⟩) (.cons ?_ (.cons (rw'.lat ⟨fun _ h => .inl h, fun a o _ e => ext_new hT a o e⟩) .nil))⟩
    simpa using RepD.int (G := G) _
theorem yl_enumT {a : Addr} {ds : List D} (hs : ∀ H' F', Lat H F H' F' → (∀ a ∈ f, ∀ o, H a = some o → H' a = some o) → ∃ vs, SqT G.K H' a vs ∧ RepDs G H' F' vs ds) : Yields G H F f (IteT G.K a) (ds.zipIdx.map fun p => .tup [.int p.2, p.1]) := by
  intro H' F' lt ft hf i
  obtain ⟨vs, hq, rs⟩ := hs H' F' lt hf
  refine ⟨fun d e => ?_, fun hi => ⟨vs, hq, by rw [rs.length]; simpa using hi⟩⟩
  rw [List.getElem?_map, List.getElem?_zipIdx] at e
  cases e1 : ds[i]? with
  | none => rw [e1] at e; cases e
  | some d1 =>
    rw [e1] at e
    simp only [Option.map_some, Option.some.injEq] at e
    subst e
    obtain ⟨w, ew, rw'⟩ := rs.get e1
    refine ⟨⟨vs, w, hq, ew⟩, fun x H'' hy => ?_⟩
    obtain ⟨T, x', rfl, hT, rfl, hx⟩ := hy
    have := hx vs hq
    rw [ew] at this
    cases this
    refine ⟨_, stp_newF ft hT, .tup (.inl ⟨.inr (by simp), upd_same⟩) (.cons ?_ (.cons (rw'.lat ⟨fun _ h => .inl h, fun a o _ e => ext_new hT a o e⟩) .nil))⟩
    simpa using RepD.int (G := G) _
theorem yl_enumS {x : List Nat} (ht : txtOk x = true) : Yields G H F f (IteS ⟨x.toArray⟩) (x.zipIdx.map fun p => .tup [.int p.2, .str [p.1]]) := by
  intro H' F' lt ft hf i
  refine ⟨fun d e => ?_, fun hi => by show x.toArray.size ≤ i; simpa using hi⟩
  rw [List.getElem?_map, List.getElem?_zipIdx] at e
  cases e1 : x[i]? with
  | none => rw [e1] at e; cases e
  | some c =>
    rw [e1] at e
    simp only [Option.map_some, Option.some.injEq] at e
    subst e
    have hi : i < x.length := (List.getElem?_eq_some_iff.mp e1).1
    refine ⟨by show i < x.toArray.size; simpa using hi, fun v H'' hy => ?_⟩
    obtain ⟨T, c', rfl, hT, hc, rfl⟩ := hy
    have hcc : c' = c := by
      have : x.toArray[i]? = some c' := hc
      rw [List.getElem?_toArray, e1] at this
      exact (Option.some.inj this).symm
    subst hcc
    refine ⟨_, stp_newF ft hT, .tup (.inl ⟨.inr (by simp), upd_same⟩) (.cons ?_ (.cons (.str ?_) .nil))⟩
    · simpa using RepD.int (G := G) _
    · unfold txtOk at *
      have := List.all_eq_true.mp ht c' (List.mem_of_getElem? e1)
      simpa using this
/-- over a list, a tuple, a text -/
theorem pi_enumB {ta : TA} {elts : List Expr} {kk : Nat} {tpos : Pos} (hg : Gl X "enumerate") (hm : X.mg "enumerate" = none) (ha : PA X [e] ta) (hs : starEach [e] X.env = [(false, eval e X.env)]) : PI X (.Tuple elts kk tpos) (.Call (.Name "enumerate" p) [e] [] pos)
    (fun σ H R => ta σ H fun vs H1 => (∃ a xs, vs = [.ref a] ∧ SqL X.K H1 a xs ∧ R (Ite X.K a) H1) ∨ (∃ a xs, vs = [.ref a] ∧ SqT X.K H1 a xs ∧ R (IteT X.K a) H1) ∨ ∃ x, vs = [.str x] ∧ R (IteS x) H1) := by
  refine ⟨fun pins s σ H R I h => ?_⟩
  refine Call_ (ld_blt I hg hm boot_enumerate (PyProof.Rows.callWith_type1 (thn (ha.run pos pins s σ H _ I h) fun us s1 ⟨vs, H1, I1, r1, q1⟩ => ?_) hs rfl))
  obtain ⟨u, rfl⟩ : ∃ u, us = [u] := by
    rcases q1 with ⟨a, xs, rfl, _⟩ | ⟨a, xs, rfl, _⟩ | ⟨x, rfl, _⟩
    · obtain ⟨u, e, _⟩ := vals1 r1
      exact ⟨u, e⟩
    · obtain ⟨u, e, _⟩ := vals1 r1
      exact ⟨u, e⟩
    · obtain ⟨u, e, _⟩ := vals1 r1
      exact ⟨u, e⟩
  rcases q1 with ⟨a, xs, rfl, hq, q⟩ | ⟨a, xs, rfl, hq, q⟩ | ⟨x, rfl, q⟩
  · exact enum_l I1 r1 hq q
  · exact enum_t I1 r1 hq q
  · exact enum_s I1 r1 q
theorem z_enum {elts : List Expr} {kk : Nat} {tpos : Pos} (hK : G.K = X.K) (hg : Gl X "enumerate") (hm : X.mg "enumerate" = none) (he : PE X e (tZ G W m1)) (hs : starEach [e] X.env = [(false, eval e X.env)]) : PI X (.Tuple elts kk tpos) (.Call (.Name "enumerate" p) [e] [] pos) (iZ G W l (evEnum l m1)) := PI.imp (pi_enumB hg hm (pa_cons he pa_nil hs) hs) fun σ H Rr h => by
  obtain ⟨z, ow, F, s, run⟩ := h
  refine ⟨z, ow, F, s, RunG.first s run fun h z1 v1 H1 F1 ow1 f1 e0 st1 s1 r1 d1 run1 => ?_⟩
  cases e1 : clm l h z1 with
  | none => simp only [e1] at run1; exact run1.elim
  | some p =>
    obtain ⟨o, rs, z2⟩ := p
    simp only [e1] at run1
    obtain ⟨F2, ow2, f2, s2, r2, st2, d2, ln, hl⟩ := clm_ok r1 s1 st1 d1 e1
    cases o with
    | val d =>
      obtain ⟨rfl, r3⟩ := r2.val_inv
      cases d <;> simp only [O.pk] at run1 <;> try exact run1.elim
      · cases r3 with
        | str ht => exact .inr (.inr ⟨_, rfl, run1 _ H1 F2 ow2 [] st2 s2 ⟨yl_enumS ht, ln, hl⟩ d2⟩)
      · cases r3 with
        | tup hp rs' =>
          refine .inr (.inl ⟨_, _, rfl, hK ▸ hp.sq, ?_⟩)
          rw [← hK]
          exact run1 _ H1 F2 ow2 [] st2 s2 ⟨yl_enumT fun H' F' lt hf => ⟨_, (hp.lat lt).sq, rs'.lat lt⟩, ln, hl⟩ d2
      · cases r3 with
        | lst fa ha rs' =>
          refine .inl ⟨_, _, rfl, by rw [← hK]; exact SqL.of ha, ?_⟩
          rw [← hK]
          exact run1 _ H1 F2 ow2 [] st2 s2 ⟨yl_enum fun H' F' lt hf => ⟨_, SqL.of (lt.2 _ _ fa ha), rs'.lat lt⟩, ln, hl⟩ d2
      · rename_i ns
        cases r3 with
        | scr hq =>
          refine .inl ⟨_, _, rfl, by rw [← hK]; exact scr_stay hq Lat.refl, ?_⟩
          rw [← hK]
          refine run1 _ H1 F2 ow2 [] st2 s2 ⟨?_, ln, hl⟩ d2
          have y : Yields G H1 F2 [] (Ite G.K _) ((ns.map D.int).zipIdx.map fun p => .tup [.int p.2, p.1]) := yl_enum fun H' F' lt hf => ⟨_, scr_stay hq lt, repInts _⟩
          have e : ((ns.map D.int).zipIdx.map fun p => D.tup [.int p.2, p.1]) = ns.zipIdx.map fun p => D.tup [.int p.2, .int p.1] := by
            rw [List.zipIdx_map, List.map_map]
            rfl
          rw [e] at y
          exact y
    | lst ds' =>
      simp only [O.pk] at run1
      obtain ⟨a, vs, rfl, ea, ha, rs'⟩ := r2.lst_inv
      refine .inl ⟨_, _, rfl, by rw [← hK]; exact SqL.of ha, ?_⟩
      rw [← hK]
      exact run1 _ H1 F2 ow2 f2 st2 s2 ⟨yl_enum fun H' F' lt hf => ⟨_, SqL.of (hf a (by rw [ea]; simp) _ ha), rs'.lat lt⟩, ln, hl⟩ d2
    | _ => simp only [O.pk] at run1; exact run1.elim
end
end Z
end

section
set_option maxRecDepth 100007
/-! List comprehensions. -/
namespace Z
open PySem L2 PyProof.Rows
@[simp] def wipeZ (z : Zs) : List Nat → Zs
  | [] => z
  | v :: vs => (wipeZ z vs).set v none
/-- the slots of vs as they were in z1 -/
@[simp] def unwipe (z1 : Zs) : List Nat → Zs → Zs
  | [], z => z
  | v :: vs, z => (unwipe z1 vs z).set v (rd z1 v)
def owW (ow : Ows) : List Nat → Ows
  | [] => ow
  | v :: vs => ow0 (owW ow vs) v
section
variable {G : Gx} {H H1 H2 : Hp} {F F1 F2 : Fz} {σ : L2.St} {z z1 z2 : Zs} {ow ow1 ow2 : Ows}
theorem wipeZ_len (vs : List Nat) : (wipeZ z vs).length = z.length := by
  induction vs with
  | nil => rfl
  | cons v vs ih => unfold wipeZ; rw [List.length_set]; exact ih
theorem unwipe_len (vs : List Nat) : (unwipe z1 vs z).length = z.length := by
  induction vs with
  | nil => rfl
  | cons v vs ih => unfold unwipe; rw [List.length_set]; exact ih
theorem rd_unwipe (vs : List Nat) (hl : z1.length = z.length) (i : Nat) : rd (unwipe z1 vs z) i = if i ∈ vs then rd z1 i else rd z i := by
  induction vs with
  | nil => simp [unwipe]
  | cons v vs ih =>
    unfold unwipe
    by_cases h : v = i
    · subst h
      by_cases hv : v < z.length
      · rw [rd_set_self (by rw [unwipe_len]; exact hv)]; simp
      · rw [rd_ge (by rw [List.length_set, unwipe_len]; omega)]
        rw [rd_ge (z := z1) (i := v) (by omega), if_pos (by simp)]
    · rw [rd_set_ne h, ih]
      have : (i ∈ v :: vs) = (i ∈ vs) := by
        rw [List.mem_cons]
        simp [Ne.symm h]
      simp only [this]
theorem SRep.wipe (hh : G.hold = none) (s : SRep G H F σ z ow) : ∀ vs : List Nat, SRep G H F (L2.wipe σ vs) (wipeZ z vs) (owW ow vs)
  | [] => s
  | v :: vs => (SRep.wipe hh s vs).drop v (fun a e => by rw [hh] at e; cases e) none
theorem owW_sub : ∀ {vs : List Nat} {a : Addr}, Own (owW ow vs) a → Own ow a
  | [], _, h => h
  | _ :: _, _, h => owW_sub (own_ow0 h)
theorem owW_out : ∀ {vs : List Nat} {i : Nat}, owW ow vs i = if i ∈ vs then [] else ow i
  | [], i => by simp [owW]
  | v :: vs, i => by
    unfold owW ow0
    by_cases h : i = v
    · simp [h]
    · rw [if_neg h, owW_out (vs := vs)]
      have : (i ∈ v :: vs) = (i ∈ vs) := by
        rw [List.mem_cons]
        simp [h]
      simp only [this]
theorem setS_len {ro : Ro} {i : Nat} {o : O} {z' : Zs} (e : setS ro i o z = some z') : z'.length = z.length := by
  unfold setS at e
  split at e
  · cases e
  · split at e
    · cases e; exact List.length_set
    · cases e
/-- back in the frame: the wiped slots as they were, the others as the block left them -/
theorem SRep.unwipe {vs : List Nat} (s1 : SRep G H1 F1 σ z1 ow1) (s2 : SRep G H2 F2 (L2.wipe σ vs) z2 ow2) {P : Addr → Prop} (st : Stp H1 F1 (Own (owW ow1 vs)) H2 F2 (fun x => Own ow2 x ∨ P x)) :
    ∃ ow3, SRep G H2 F2 σ (Z.unwipe z1 vs z2) ow3 ∧ (∀ a, Own ow3 a → Own ow2 a ∨ (∃ i, i ∈ vs ∧ a ∈ ow1 i)) := by
  have hl : z1.length = z2.length := by rw [s1.len, s2.len, wipe_length]
  have nw : ∀ i, i ∈ vs → ∀ a ∈ ow1 i, ¬ Own (owW ow1 vs) a := fun i hi a ha ⟨j, hj⟩ => by
    rw [owW_out] at hj
    split at hj
    · cases hj
    · rename_i hn
      exact hn (s1.dj j i a hj ha ▸ hi)
  have n2 : ∀ i, i ∈ vs → ∀ a ∈ ow1 i, ¬ Own ow2 a := fun i hi a ha h => by
    rcases st.fp a (.inl h) with q | q
    · exact nw i hi a ha q
    · obtain ⟨o, e⟩ := s1.own a ⟨i, ha⟩
      rw [q] at e; cases e
  refine ⟨fun i => if i ∈ vs then ow1 i else ow2 i, ⟨by rw [unwipe_len, s2.len, wipe_length], fun i o e => ?_, fun i e => ?_, fun i j a h1 h2 => ?_, fun i a h => ?_, s2.ft, s2.am, s1.ho⟩, fun a ⟨i, h⟩ => ?_⟩
  · rw [rd_unwipe vs hl] at e
    split at e
    · rename_i hi
      obtain ⟨v, e1, r⟩ := s1.rep i o e
      exact ⟨v, e1, by simp only [hi, if_true]; exact r.stp st (nw i hi)⟩
    · rename_i hi
      obtain ⟨v, e1, r⟩ := s2.rep i o e
      exact ⟨v, by rw [wipe_out hi] at e1; exact e1, by simp only [hi, if_false]; exact r⟩
  · rw [rd_unwipe vs hl] at e
    split at e
    · rename_i hi; simp only [hi, if_true]; exact s1.emp i e
    · rename_i hi; simp only [hi, if_false]; exact s2.emp i e
  · split at h1
    · rename_i hi
      split at h2
      · exact s1.dj i j a h1 h2
      · exact (n2 i hi a h1 ⟨j, h2⟩).elim
    · rename_i hi
      split at h2
      · rename_i hj
        exact (n2 j hj a h2 ⟨i, h1⟩).elim
      · exact s2.dj i j a h1 h2
  · split at h
    · rename_i hi
      intro q
      rcases st.fr a q with x | x | x
      · exact s1.nf i a h x
      · exact nw i hi a h x
      · obtain ⟨o, e⟩ := s1.own a ⟨i, h⟩
        rw [x] at e; cases e
    · exact s2.nf i a h
  · have h : a ∈ (if i ∈ vs then ow1 i else ow2 i) := h
    split at h
    · rename_i hi; exact .inr ⟨i, hi, h⟩
    · exact .inl ⟨i, h⟩
end

/-- the turns of a comprehension: what is made so far, the block's slots -/
def compF (vs : List Nat) (tgt : D → Zs → Option Zs) (c : Zs → R Bool) (me : Zs → R Hd) : List D → List D → Zs → Option (List D × Zs)
  | [], acc, z => some (acc, z)
  | d :: ds, acc, z => match tgt d z with
    | none => none
    | some z1 => match c z1 with
      | .ok b z2 => if b = true then (match me z2 with
        | .ok h z3 => match takeD h z3 with
          | some (e, z4) => if acc.length < sizeLine then compF vs tgt c me ds (acc ++ [e]) (wipeZ z4 vs) else none
          | none => none
        | _ => none) else compF vs tgt c me ds acc (wipeZ z2 vs)
      | _ => none
def evComp (vs : List Nat) (tgt : D → Zs → Option Zs) (c : Zs → R Bool) (me : Zs → R Hd) (mi : MI) : Zs → R Hd := fun z => (mi z).bind fun p z1 => match compF vs tgt c me p.1 [] (wipeZ z1 vs) with
  | some (out, z2) => .ok (.tmp (.lst out)) (backZ p.2 (unwipe z1 vs z2))
  | none => .bad
/-- in a block nothing is raised -/
def W0 : WX := fun _ _ _ _ => False
@[simp] def roV (vs : List Nat) : Ro := fun i => !vs.contains i
@[simp] def evYes : Zs → R Bool := fun z => .ok true z
section
variable {G : Gx} {W : WX} {σ : L2.St} {H : Hp} {Q : VK} {vs : List Nat} {tgt : D → Zs → Option Zs} {c1 : Zs → R Bool} {me : Zs → R Hd} {mi : MI} {l : Option Nat}
theorem wipe_eq {σ2 : L2.St} (hlen : σ2.length = σ.length) (k : Kp (roV vs) (L2.wipe σ vs) σ2) : L2.wipe σ2 vs = L2.wipe σ vs := by
  apply List.ext_getElem?
  intro i
  by_cases hi : i ∈ vs
  · have h1 : ∀ τ : L2.St, (L2.wipe τ vs)[i]? = some none ∨ (L2.wipe τ vs)[i]? = none := fun τ => by
      cases e : (L2.wipe τ vs)[i]? with
      | none => exact .inr rfl
      | some x =>
        cases x with
        | none => exact .inl rfl
        | some v => exact absurd hi (wipe_some e).2
    have hl : ∀ τ : L2.St, (L2.wipe τ vs)[i]? = none ↔ τ.length ≤ i := fun τ => by rw [List.getElem?_eq_none_iff, wipe_length]
    rcases h1 σ2 with a | a <;> rcases h1 σ with b | b
    · rw [a, b]
    · have := (hl σ).mp b
      have c := (hl σ2).mpr (by omega)
      rw [a] at c; cases c
    · have := (hl σ2).mp a
      have c := (hl σ).mpr (by omega)
      rw [b] at c; cases c
    · rw [a, b]
  · rw [wipe_out hi, k i (by unfold roV; simp [hi])]
theorem comp_read (hh : G.hold = none) (ht : ∀ d z z', tgt d z = some z' → z'.length = z.length) (h : tZ G W (evComp vs tgt c1 me mi) σ H Q) : tLc (iZ G W l mi) (gZ G (roV vs) tgt) (tZT G W0 c1) (tZ G W0 me) vs σ H Q := by
  obtain ⟨z, ow, F, s, run⟩ := h
  refine ⟨z, ow, F, s, RunG.first s run fun p z1 J H1 F1 ow1 f _ st1 s1 r1 d1 run1 => fun Da hDa => ?_⟩
  obtain ⟨ds, rs⟩ := p
  obtain ⟨yl, hrs, hl⟩ := r1
  simp only at yl hrs hl run1
  cases ec : compF vs tgt c1 me ds [] (wipeZ z1 vs) with
  | none => simp only [ec] at run1; exact run1.elim
  | some p =>
  obtain ⟨out, zE⟩ := p
  simp only [ec] at run1
  have sW := SRep.wipe hh s1 vs
  have hD1 : ∀ a, Own ow1 a → a ≠ Da := fun a ha e => by
    obtain ⟨o, q⟩ := s1.own a ha
    rw [e, hDa] at q; cases q
  refine ⟨fun i m H2 => ∃ z2 ow2 F2 acc av, SRep G H2 F2 (L2.wipe σ vs) z2 ow2 ∧ Stp H1 F1 (Own (owW ow1 vs)) H2 F2 (fun x => Own ow2 x ∨ x ∈ [Da]) ∧ ¬ Own ow2 Da ∧ H2 Da = some (.lst av) ∧ RepDs G H2 F2 av acc ∧ i + m = ds.length ∧ compF vs tgt c1 me (ds.drop i) acc z2 = some (out, zE),
    ⟨ds.length, wipeZ z1 vs, owW ow1 vs, F1, [], [], ?_, ?_, ?_, upd_same, .nil, Nat.zero_add _, by rw [List.drop_zero]; exact ec⟩, fun i m H2 hw => ?_⟩
  · exact sW.stp (stp_new s1.ft hDa) fun _ _ h => h
  · exact (sW.refl.alloc (stp_new s1.ft hDa)).1.weak fun x h => h.symm
  · intro h; exact hD1 Da (owW_sub h) rfl
  obtain ⟨z2, ow2, F2, acc, av, s2, st2, nD, hD, racc, him, ecc⟩ := hw
  have hfs : ∀ a ∈ f, ¬ Own (owW ow1 vs) a := fun a h q => d1 a h (owW_sub q)
  obtain ⟨y1, y2⟩ := yl H2 F2 st2.lat s2.ft (fun a ha o e => st2.stay a o (hfs a ha) e) i
  by_cases hi : i < ds.length
  · have ed : ds[i]? = some ds[i] := List.getElem?_eq_getElem hi
    obtain ⟨go, yy⟩ := y1 _ ed
    refine .inr ⟨go, fun H' => ∃ z2 ow2 F2 acc av, SRep G H' F2 (L2.wipe σ vs) z2 ow2 ∧ Stp H1 F1 (Own (owW ow1 vs)) H' F2 (fun x => Own ow2 x ∨ x ∈ [Da]) ∧ ¬ Own ow2 Da ∧ H' Da = some (.lst av) ∧ RepDs G H' F2 av acc ∧ i + 1 + (m - 1) = ds.length ∧ compF vs tgt c1 me (ds.drop (i + 1)) acc z2 = some (out, zE), fun H' hN => ⟨m - 1, by omega, hN⟩, fun x H' hy => ?_⟩
    obtain ⟨F', sA, rd'⟩ := yy x H' hy
    have s2' : SRep G H' F' (L2.wipe σ vs) z2 ow2 := s2.stp sA fun _ _ h => h
    have hD' : H' Da = some (.lst av) := sA.stay _ _ (fun h => h) hD
    rw [List.drop_eq_getElem_cons hi] at ecc
    unfold compF at ecc
    cases e1 : tgt ds[i] z2 with
    | none => rw [e1] at ecc; cases ecc
    | some z3 =>
      simp only [e1] at ecc
      refine ⟨F', z2, ow2, _, z3, s2', rd', e1, fun σ3 ow3 s3 o3 k3 => ?_⟩
      have hw3 : L2.wipe σ3 vs = L2.wipe σ vs := wipe_eq (by
        have a := s3.len
        have b := s2'.len
        have c := ht _ _ _ e1
        rw [wipe_length] at b
        omega) k3
      have nD3 : ¬ Own ow3 Da := fun h => nD (o3 _ h)
      have stA : Stp H1 F1 (Own (owW ow1 vs)) H' F' (fun x => Own ow3 x ∨ x ∈ [Da]) := (st2.alloc sA).1.weak fun x h => .inr (h.elim (fun h => .inl (o3 x h)) .inr)
      have dD : ∀ {o : Ows}, ¬ Own o Da → ∀ x, x ∈ [Da] → ¬ Own o x := fun n x h q => n (by rw [List.mem_singleton.mp h] at q; exact q)
      have racc' := racc.lat sA.lat
      refine ⟨hw3, z3, ow3, F', s3, ?_⟩
      cases e2 : c1 z3 with
      | bad => simp only [e2] at ecc; cases ecc
      | exc _ _ _ => simp only [e2] at ecc; cases ecc
      | ok b z4 =>
        simp only [e2] at ecc
        intro v H3 F3 ow4 f3 st3 s4 r3 d3
        obtain ⟨rfl, rfl⟩ := r3
        have st3 : Stp H' F' (Own ow3) H3 F3 (Own ow4) := st3.weak fun x h => .inl h
        have nD4 : ¬ Own ow4 Da := fun h => by
          rcases st3.fp _ h with q | q
          · exact nD3 q
          · rw [hD'] at q; cases q
        have hD3 : H3 Da = some (.lst av) := st3.stay _ _ nD3 hD'
        have t3 : Stp H1 F1 (Own (owW ow1 vs)) H3 F3 (fun x => Own ow4 x ∨ x ∈ [Da]) := (stA.frame (dD nD3) st3).1
        cases v with
        | false =>
          simp only [Bool.false_eq_true, if_false] at ecc ⊢
          have s5 := SRep.wipe hh s4 vs
          rw [hw3] at s5
          exact ⟨wipeZ z4 vs, owW ow4 vs, F3, acc, av, s5, t3.weak fun x h => h.elim (fun h => .inl (owW_sub h)) .inr, fun h => nD4 (owW_sub h), hD3, racc'.lat st3.lat, by omega, ecc⟩
        | true =>
          simp only [if_true] at ecc ⊢
          refine ⟨z4, ow4, F3, s4, ?_⟩
          cases e3 : me z4 with
          | bad => simp only [e3] at ecc; cases ecc
          | exc _ _ _ => simp only [e3] at ecc; cases ecc
          | ok h z5 =>
            simp only [e3] at ecc
            intro y H4 F4 ow5 g st4 s5 r4 d4
            cases e4 : takeD h z5 with
            | none => simp only [e4] at ecc; cases ecc
            | some p =>
              obtain ⟨e, z6⟩ := p
              simp only [e4] at ecc
              split at ecc
              · rename_i hlen
                obtain ⟨F5, ow6, s6, r5, st5⟩ := HRep.takeD r4 s5 d4 (fun a h => st4.nf a (.inr h)) (fun a h => st4.tr a (.inr h)) e4
                have st45 : Stp H3 F3 (Own ow4) H4 F5 (Own ow6) := st4.trans st5
                have hD4 : H4 Da = some (.lst av) := st45.stay _ _ nD4 hD3
                have nD6 : ¬ Own ow6 Da := fun h => by
                  rcases st45.fp _ h with q | q
                  · exact nD4 q
                  · rw [hD3] at q; cases q
                have t5 : Stp H1 F1 (Own (owW ow1 vs)) H4 F5 (fun x => Own ow6 x ∨ x ∈ [Da]) := (t3.frame (dD nD4) st45).1
                have nf : ¬ F5 Da := t5.nf _ (.inr (by simp))
                have mt : Stp H4 F5 (fun x => x = Da) (upd H4 Da (.lst (av ++ [y]))) F5 (fun x => x = Da) := stp_mut rfl (fun x h => by rw [h]; exact nf) (fun x h => by rw [h]; exact ⟨_, hD4⟩) s6.ft
                have s7 := SRep.wipe hh (s6.stp mt fun x h q => nD6 (by rw [q] at h; exact h)) vs
                rw [hw3] at s7
                have racc2 := (racc'.lat st3.lat).lat st45.lat
                refine ⟨av, hD4, by rw [racc2.length]; exact hlen, wipeZ z6 vs, owW ow6 vs, F5, acc ++ [e], av ++ [y], s7, ?_, fun h => nD6 (owW_sub h), upd_same, (racc2.append (.cons r5 .nil)).lat mt.lat, by omega, ecc⟩
                exact (t5.trans (stp_mut (.inr (by simp)) t5.nf t5.tr s6.ft)).weak fun x h => h.elim (fun h => .inl (owW_sub h)) .inr
              · cases ecc
  · have h0 : ds.length ≤ i := by omega
    rw [List.drop_eq_nil_of_le h0] at ecc
    simp only [compF, Option.some.injEq, Prod.mk.injEq] at ecc
    obtain ⟨rfl, rfl⟩ := ecc
    refine .inl ⟨y2 h0, ?_⟩
    obtain ⟨ow3, s3, o3⟩ := s1.unwipe s2 st2
    have nw : ∀ i, i ∈ vs → ∀ a ∈ ow1 i, ¬ Own (owW ow1 vs) a := fun i hi a ha ⟨j, hj⟩ => by
      rw [owW_out] at hj
      split at hj
      · cases hj
      · rename_i hn
        exact hn (s1.dj j i a hj ha ▸ hi)
    have sp : Stp H F (Own ow) H1 F1 (fun x => Own (owW ow1 vs) x ∨ ((∃ i, i ∈ vs ∧ x ∈ ow1 i) ∨ x ∈ f)) := st1.weak fun x h => by
      rcases h with h | ⟨i, _, h⟩ | h
      · exact .inl (owW_sub h)
      · exact .inl ⟨i, h⟩
      · exact .inr h
    obtain ⟨c1', c2⟩ := sp.frame (fun x h => h.elim (fun ⟨i, hi, h⟩ => nw i hi x h) (hfs x)) st2
    have hf3 : ∀ a ∈ f, ¬ Own ow3 a := fun a h q => by
      rcases o3 a q with q | ⟨i, hi, q⟩
      · exact c2 a (.inr h) (.inl q)
      · exact d1 a h ⟨i, q⟩
    obtain ⟨ow5, s5, o5⟩ := back_rep s3 (f := f) hf3 (fun a h => c1'.nf a (.inr (.inr h))) fun i o e => by
      obtain ⟨v, ei, r⟩ := hrs i o e
      exact ⟨v, ei, r.stp st2 hfs⟩
    have nD5 : ¬ Own ow5 Da := fun h => by
      rcases o5 _ h with h | h
      · rcases o3 _ h with h | ⟨i, hi, h⟩
        · exact nD h
        · exact c2 Da (.inl ⟨i, hi, h⟩) (.inr (by simp))
      · exact c2 Da (.inr h) (.inr (by simp))
    refine run1 (.ref Da) H2 F2 ow5 [Da] (c1'.weak fun x h => ?_) s5 (RepO.lst hD racc) fun x h q => nD5 (by rw [List.mem_singleton.mp h] at q; exact q)
    rcases h with h | h
    · rcases o5 _ h with h | h
      · rcases o3 _ h with h | h
        · exact .inl (.inl h)
        · exact .inr (.inl h)
      · exact .inr (.inr h)
    · exact .inl (.inr h)
theorem asg1_len {ro : Ro} : (∀ (t : Tg) (d : D) (z z' : Zs), asg1 ro t d z = some z' → z'.length = z.length) ∧ ∀ (t : Tg) (ds : List D) (z z' : Zs), asgN ro t ds z = some z' → z'.length = z.length := by
  have key : ∀ t : Tg, (∀ (d : D) (z z' : Zs), asg1 ro t d z = some z' → z'.length = z.length) ∧ ∀ (ds : List D) (z z' : Zs), asgN ro t ds z = some z' → z'.length = z.length := by
    intro t
    induction t with
    | nm i => exact ⟨fun d z z' e => setS_len (by simpa only [asg1] using e), fun ds z z' e => by simp only [asgN, reduceCtorEq] at e⟩
    | tp ts ih =>
      refine ⟨fun d z z' e => ?_, fun ds z z' e => by simp only [asgN, reduceCtorEq] at e⟩
      cases d <;> simp only [asg1, reduceCtorEq] at e
      exact ih.2 _ _ _ e
    | nil =>
      refine ⟨fun d z z' e => by simp only [asg1, reduceCtorEq] at e, fun ds z z' e => ?_⟩
      cases ds <;> simp only [asgN, reduceCtorEq, Option.some.injEq] at e
      rw [e]
    | cons t ts ih1 ih2 =>
      refine ⟨fun d z z' e => by simp only [asg1, reduceCtorEq] at e, fun ds z z' e => ?_⟩
      cases ds with
      | nil => simp only [asgN, reduceCtorEq] at e
      | cons d ds =>
        rw [asgN] at e
        cases e1 : asg1 ro t d z with
        | none => rw [e1] at e; cases e
        | some z1 =>
          rw [e1] at e
          rw [ih2.2 _ _ _ e, ih1.1 _ _ _ e1]
  exact ⟨fun t => (key t).1, fun t => (key t).2⟩
end
section
variable {G : Gx} {W : WX} {X : Cx} {t : Tg} {c1 : Zs → R Bool} {me : Zs → R Hd} {mi : MI} {l : Option Nat} {elt tg iter c : Expr} {ifs : List Expr} {scope : Scope} {own : List (Str × Nat)} {pos : Pos}
theorem PTs.imp {X : Cx} {e : List Expr} {t t' : TT} (h : PTs X e t) (k : ∀ σ H Q, t' σ H Q → t σ H Q) : PTs X e t' := ⟨fun pins s σ H Q I q => h.run pins s σ H Q I (k σ H Q q)⟩
theorem zts_nil : PTs X [] (tZT G W evYes) := PTs.imp pts_nil fun σ H Q h => by
  obtain ⟨z, ow, F, s, run⟩ := h
  exact RunG.val run (s.refl.weak (P2 := fun x => Own ow x ∨ False) fun x h => h.elim id False.elim) s
theorem zts_one (h : PT X c (tZT G W c1)) : PTs X [c] (tZT G W c1) := pts_one h
/-- [elt for tg in iter if ..] -/
theorem z_comp (hh : G.hold = none) (hc : X.calm = true) (hN : X.N.Nodup) (hi : PI X tg iter (iZ G W l mi)) (ok : BlkOk X.N X.env.scope scope own)
    (hg : ∀ (s : Shared) (H : Hp) (C : Addr) (cl : List (Str × Addr)) (fp : List Addr), PG (X.blk s H scope (compEnvC scope cl C X.env) fp) tg (gZ G (roV (own.map (·.2))) (asg1 (roV (own.map (·.2))) t)))
    (ht : ∀ (s : Shared) (H : Hp) (C : Addr) (cl : List (Str × Addr)) (fp : List Addr), PTs (X.blk s H scope (compEnvC scope cl C X.env) fp) ifs (tZT G W0 c1))
    (he : ∀ (s : Shared) (H : Hp) (C : Addr) (cl : List (Str × Addr)) (fp : List Addr), PE (X.blk s H scope (compEnvC scope cl C X.env) fp) elt (tZ G W0 me))
    (hs : ∀ x, foldedSetIterable iter X.env x = pure x) : PE X (.ListComp elt [⟨tg, iter, ifs, 0⟩] scope pos) (tZ G W (evComp (own.map (·.2)) (asg1 (roV (own.map (·.2))) t) c1 me mi)) :=
  PE.imp (pe_lc hc hN hi ok hg ht he hs) fun σ H Q h => comp_read hh (fun d z z' e => asg1_len.1 _ _ _ _ e) h
/-- x = [elt for ..] on one line, x a local name -/
theorem zs_asgLc (hh : G.hold = none) {ro : Ro} {i : Nat} {y : Str} {py spos : Pos} (hc : X.calm = true) (hN : X.N.Nodup) (hy : X.N[i]? = some y) (hyl : X.env.scope.names.lookup y = some .local) (hsw : swapsWith (.ListComp elt [⟨tg, iter, ifs, 0⟩] scope pos) (some (.Name y py)) spos.line X.env = pure true)
    (hi : PI X tg iter (iZ G W l mi)) (ok : BlkOk X.N X.env.scope scope own)
    (hg : ∀ (s : Shared) (H : Hp) (C : Addr) (cl : List (Str × Addr)) (fp : List Addr), PG (X.blk s H scope (compEnvC scope cl C X.env) fp) tg (gZ G (roV (own.map (·.2))) (asg1 (roV (own.map (·.2))) t)))
    (ht : ∀ (s : Shared) (H : Hp) (C : Addr) (cl : List (Str × Addr)) (fp : List Addr), PTs (X.blk s H scope (compEnvC scope cl C X.env) fp) ifs (tZT G W0 c1))
    (he : ∀ (s : Shared) (H : Hp) (C : Addr) (cl : List (Str × Addr)) (fp : List Addr), PE (X.blk s H scope (compEnvC scope cl C X.env) fp) elt (tZ G W0 me))
    (hs : ∀ x, foldedSetIterable iter X.env x = pure x) : PS X (.Assign [.Name y py] (.ListComp elt [⟨tg, iter, ifs, 0⟩] scope pos) spos) (tZS G W ro (exAsgN ro i (evComp (own.map (·.2)) (asg1 (roV (own.map (·.2))) t) c1 me mi))) :=
  PS.imp (ps_setLc hc hN hy hyl hsw hi ok hg ht he hs) fun D σ H h => by
  obtain ⟨z, ow, F, s, run⟩ := h
  refine comp_read hh (W := W) (fun d z z' e => asg1_len.1 _ _ _ _ e) ⟨z, ow, F, s, RunS.first s run fun x z1 v1 H1 F1 ow1 f1 _ st1 s1 r1 d1 run1 => ?_⟩
  cases e1 : take x z1 with
  | none => simp only [e1] at run1; exact run1.elim
  | some p =>
    obtain ⟨o, z2⟩ := p
    simp only [e1] at run1
    cases e2 : setS ro i o z2 with
    | none => simp only [e2] at run1; exact run1.elim
    | some z3 =>
      simp only [e2] at run1
      obtain ⟨F2, ow2, f2, s2, r2, st2, d2⟩ := HRep.take r1 s1 d1 (fun a h => st1.nf a (.inr h)) (fun a h => st1.tr a (.inr h)) e1
      have st := st1.trans st2
      obtain ⟨s3, k3⟩ := setS_ok (hro_none hh) s2 r2 (fun a h q => d2 a h (own_ow0 q)) (fun a h => st.nf a (.inr h)) e2
      refine run1 _ H1 F2 _ (st.weak fun a h => ?_) s3 k3
      rcases own_ow1 h with h | h
      · exact .inl (own_ow0 h)
      · exact .inr h
end
end Z
end

section
set_option maxRecDepth 100007
/-! Calls: what is lent to the callee, what comes back. -/
namespace Z
open PySem L2 PyProof.Rows
inductive RR where
  | ret (o : O) (outs : List (Option O)) | exc (c : Nat) (fs : List (Nat × D)) (outs : List (Option O)) | bad
/-- the operands handed over: a parameter that is lent (true) gets the thing itself -/
def lendA : List Bool → List Hd → Zs → Option (List O × Zs)
  | [], [], z => some ([], z)
  | false :: ms, h :: hs, z => match takeD h z with
    | some (d, z1) => match lendA ms hs z1 with
      | some (os, z2) => some (.val d :: os, z2)
      | none => none
    | none => none
  | true :: ms, .tmp o :: hs, z => match lendA ms hs z with
    | some (os, z2) => some (o :: os, z2)
    | none => none
  | true :: ms, .slot i :: hs, z => match rd z i with
    | some o => match lendA ms hs (z.set i none) with
      | some (os, z2) => some (o :: os, z2)
      | none => none
    | none => none
  | _, _, _ => none
def backA : List Bool → List Hd → List (Option O) → Zs → Zs
  | true :: ms, .slot i :: hs, some o :: outs, z => backA ms hs outs (z.set i (some o))
  | _ :: ms, _ :: hs, _ :: outs, z => backA ms hs outs z
  | _, _, _, z => z
def evCall (run : List O → RR) (modes : List Bool) (dfs : List D) (mA : Zs → R (List Hd)) : Zs → R Hd := fun z => (mA z).bind fun hs z1 => match lendA modes hs z1 with
  | some (os, z2) => match run (os ++ dfs.map .val) with
    | .ret o outs => .ok (.tmp o) (backA modes hs outs z2)
    | .exc c fs outs => .exc c fs (backA modes hs outs z2)
    | .bad => .bad
  | none => .bad
section
variable {G : Gx} {H H1 H2 H' : Hp} {F F1 F2 F' : Fz} {σ : L2.St} {z z' : Zs} {ow ow1 : Ows} {f g : List Addr}
inductive RepOs (G : Gx) (H : Hp) (F : Fz) : List V → List O → List Addr → Prop
  | nil : RepOs G H F [] [] []
  | cons {v : V} {o : O} {vs : List V} {os : List O} {f g : List Addr} : RepO G H F v o f → RepOs G H F vs os g → (∀ a ∈ f, a ∉ g) → RepOs G H F (v :: vs) (o :: os) (f ++ g)
/-- the lent parameters at the end -/
inductive Outs (G : Gx) (H : Hp) (F : Fz) : List Bool → List V → List (Option O) → List Addr → Prop
  | nil {vs : List V} {os : List (Option O)} : Outs G H F [] vs os []
  | keep {v : V} {o : O} {ms : List Bool} {vs : List V} {os : List (Option O)} {f g : List Addr} : RepO G H F v o f → Outs G H F ms vs os g → (∀ a ∈ f, a ∉ g) → Outs G H F (true :: ms) (v :: vs) (some o :: os) (f ++ g)
  | drop {v : V} {o : Option O} {ms : List Bool} {vs : List V} {os : List (Option O)} {g : List Addr} : Outs G H F ms vs os g → Outs G H F (false :: ms) (v :: vs) (o :: os) g
theorem RepOs.there {vs : List V} {os : List O} (r : RepOs G H F vs os f) : ∀ a ∈ f, ∃ u, H a = some u := by
  induction r with
  | nil => intro a h; cases h
  | cons h _ _ ih =>
    intro a ha
    rcases List.mem_append.mp ha with ha | ha
    · exact h.there a ha
    · exact ih a ha
theorem RepOs.stp {P P' : Addr → Prop} {vs : List V} {os : List O} (r : RepOs G H F vs os f) (s : Stp H F P H' F' P') (dj : ∀ a ∈ f, ¬ P a) : RepOs G H' F' vs os f := by
  induction r with
  | nil => exact .nil
  | cons h _ d ih => exact .cons (h.stp s fun a x => dj a (by simp [x])) (ih fun a x => dj a (by simp [x])) d
theorem RepOs.length {vs : List V} {os : List O} (r : RepOs G H F vs os f) : vs.length = os.length := by
  induction r with
  | nil => rfl
  | cons _ _ _ ih => rw [List.length_cons, List.length_cons, ih]
theorem RepOs.lat {vs : List V} {os : List O} (r : RepOs G H F vs os f) (lt : Lat H F H F') : RepOs G H F' vs os f := by
  induction r with
  | nil => exact .nil
  | cons h _ d ih =>
    refine .cons ?_ ih d
    cases h with
    | val h => exact .val (h.lat lt)
    | lst h r => exact .lst h (r.lat lt)
    | obj h r => exact .obj h (r.lat lt)
    | dct h r => exact .dct h (r.lat lt)
    | dctT h r => exact .dctT h (r.lat lt)
theorem lend_ok : ∀ {ms : List Bool} {vs : List V} {hs : List Hd} {F : Fz} {z z' : Zs} {ow : Ows} {f : List Addr} {os : List O}, HReps G H F σ vs hs f → SRep G H F σ z ow → (∀ a ∈ f, ¬ Own ow a) → (∀ a ∈ f, ¬ F a) → (∀ a ∈ f, ∃ u, H a = some u) → lendA ms hs z = some (os, z') →
    ∃ F' ow' f', SRep G H F' σ z' ow' ∧ RepOs G H F' vs os f' ∧ Stp H F (fun a => Own ow a ∨ a ∈ f) H F' (fun a => Own ow' a ∨ a ∈ f') ∧ (∀ a ∈ f', ¬ Own ow' a) := by
  intro ms
  induction ms with
  | nil =>
    intro vs hs F z z' ow f os r s dj nf tr e
    cases r with
    | nil =>
      simp only [lendA, Option.some.injEq, Prod.mk.injEq] at e
      obtain ⟨rfl, rfl⟩ := e
      exact ⟨F, ow, [], s, .nil, Stp.refl (fun a h => h.elim (s.nfo a) (nf a)) (fun a h => h.elim (s.own a) (tr a)) s.ft, fun a h => by cases h⟩
    | cons _ _ _ => simp only [lendA, reduceCtorEq] at e
  | cons m ms ih =>
    intro vs hs F z z' ow f os r s dj nf tr e
    cases r with
    | nil => cases m <;> simp only [lendA, reduceCtorEq] at e
    | cons r rs d =>
      rename_i v h vs hs f g
      cases m with
      | false =>
        simp only [lendA] at e
        cases e1 : takeD h z with
        | none => rw [e1] at e; cases e
        | some p =>
          obtain ⟨d1, z1⟩ := p
          simp only [e1] at e
          cases e2 : lendA ms hs z1 with
          | none => simp only [e2] at e; cases e
          | some q =>
            obtain ⟨os2, z2⟩ := q
            simp only [e2, Option.some.injEq, Prod.mk.injEq] at e
            obtain ⟨rfl, rfl⟩ := e
            obtain ⟨F1, ow1, s1, rd1, st1⟩ := r.takeD s (fun a h => dj a (by simp [h])) (fun a h => nf a (by simp [h])) (fun a h => tr a (by simp [h])) e1
            have dg : ∀ a ∈ g, ¬ (Own ow a ∨ a ∈ f) := fun a h q => q.elim (dj a (by simp [h])) fun q => d a q h
            have dj1 : ∀ a ∈ g, ¬ Own ow1 a := fun a h q => by
              rcases st1.fp a q with x | x
              · exact dg a h x
              · obtain ⟨u, e⟩ := tr a (by simp [h])
                rw [x] at e; cases e
            have nf1 : ∀ a ∈ g, ¬ F1 a := fun a h q => by
              rcases st1.fr a q with x | x | x
              · exact nf a (by simp [h]) x
              · exact dg a h x
              · obtain ⟨u, e⟩ := tr a (by simp [h])
                rw [x] at e; cases e
            obtain ⟨F2, ow2, f2, s2, ros, st2, d2⟩ := ih (rs.stp st1 dg) s1 dj1 nf1 (fun a h => tr a (by simp [h])) e2
            refine ⟨F2, ow2, [] ++ f2, s2, .cons (.val (rd1.lat st2.lat)) ros (fun a h => by cases h), ?_, d2⟩
            have t1 : Stp H F (fun a => Own ow a ∨ a ∈ f ++ g) H F1 (fun a => Own ow1 a ∨ a ∈ g) := by
              refine ⟨st1.lat, st1.there, fun a o np e => st1.stay a o (fun q => np (q.elim .inl fun q => .inr (by simp [q]))) e, fun a h => ?_, fun a h => ?_, fun a h => h.elim (st1.nf a) (nf1 a), fun a h => h.elim (st1.tr a) fun h => tr a (by simp [h]), st1.ft⟩
              · rcases st1.fr a h with x | x | x
                · exact .inl x
                · exact .inr (.inl (x.elim .inl fun x => .inr (by simp [x])))
                · exact .inr (.inr x)
              · rcases h with h | h
                · rcases st1.fp a h with x | x
                  · exact .inl (x.elim .inl fun x => .inr (by simp [x]))
                  · exact .inr x
                · exact .inl (.inr (by simp [h]))
            exact t1.trans st2
      | true =>
        cases h with
        | tmp o =>
          simp only [lendA] at e
          cases e2 : lendA ms hs z with
          | none => simp only [e2] at e; cases e
          | some q =>
            obtain ⟨os2, z2⟩ := q
            simp only [e2, Option.some.injEq, Prod.mk.injEq] at e
            obtain ⟨rfl, rfl⟩ := e
            obtain ⟨F2, ow2, f2, s2, ros, st2, d2⟩ := ih rs s (fun a h => dj a (by simp [h])) (fun a h => nf a (by simp [h])) (fun a h => tr a (by simp [h])) e2
            have hf : ∀ a ∈ f, ¬ (Own ow a ∨ a ∈ g) := fun a h q => q.elim (dj a (by simp [h])) fun q => d a h q
            have r' : RepO G H F _ o f := r
            have t0 : Stp H F (fun a => Own ow a ∨ a ∈ f ++ g) H F (fun a => (Own ow a ∨ a ∈ g) ∨ a ∈ f) := (Stp.refl (P := fun a => Own ow a ∨ a ∈ f ++ g) (fun a h => h.elim (s.nfo a) (nf a)) (fun a h => h.elim (s.own a) (tr a)) s.ft).weak fun a h => by
              rcases h with (h | h) | h
              · exact .inl h
              · exact .inr (by simp [h])
              · exact .inr (by simp [h])
            obtain ⟨c1, c2⟩ := t0.frame hf st2
            refine ⟨F2, ow2, f ++ f2, s2, .cons (r'.stp st2 hf) ros (fun a h q => c2 a h (.inr q)), c1.weak fun a h => ?_, fun a h q => ?_⟩
            · rcases h with h | h
              · exact .inl (.inl h)
              · rcases List.mem_append.mp h with h | h
                · exact .inr h
                · exact .inl (.inr h)
            · rcases List.mem_append.mp h with h | h
              · exact c2 a h (.inl q)
              · exact d2 a h q
        | slot i =>
          simp only [lendA] at e
          cases e1 : rd z i with
          | none => simp only [e1] at e; cases e
          | some o =>
            simp only [e1] at e
            cases e2 : lendA ms hs (z.set i none) with
            | none => simp only [e2] at e; cases e
            | some q =>
              obtain ⟨os2, z2⟩ := q
              simp only [e2, Option.some.injEq, Prod.mk.injEq] at e
              obtain ⟨rfl, rfl⟩ := e
              obtain ⟨rfl, ei⟩ := r
              obtain ⟨v', e3, r'⟩ := s.rep i o e1
              rw [ei] at e3
              cases e3
              obtain ⟨F2, ow2, f2, s2, ros, st2, d2⟩ := ih rs (s.lend i) (fun a h q => dj a (by simp [h]) (own_ow0 q)) (fun a h => nf a (by simp [h])) (fun a h => tr a (by simp [h])) e2
              have hf : ∀ a ∈ ow i, ¬ (Own (ow0 ow i) a ∨ a ∈ g) := fun a h q => q.elim (ow0_dj s a h) fun q => dj a (by simp [q]) ⟨i, h⟩
              have t0 : Stp H F (fun a => Own ow a ∨ a ∈ [] ++ g) H F (fun a => (Own (ow0 ow i) a ∨ a ∈ g) ∨ a ∈ ow i) := (Stp.refl (P := fun a => Own ow a ∨ a ∈ [] ++ g) (fun a h => h.elim (s.nfo a) (nf a)) (fun a h => h.elim (s.own a) (tr a)) s.ft).weak fun a h => by
                rcases h with (h | h) | h
                · exact .inl (own_ow0 h)
                · exact .inr (by simp [h])
                · exact .inl ⟨i, h⟩
              obtain ⟨c1, c2⟩ := t0.frame hf st2
              refine ⟨F2, ow2, ow i ++ f2, s2, .cons (r'.stp st2 hf) ros (fun a h q => c2 a h (.inr q)), c1.weak fun a h => ?_, fun a h q => ?_⟩
              · rcases h with h | h
                · exact .inl (.inl h)
                · rcases List.mem_append.mp h with h | h
                  · exact .inr h
                  · exact .inl (.inr h)
              · rcases List.mem_append.mp h with h | h
                · exact c2 a h (.inl q)
                · exact d2 a h q
theorem back_ok : ∀ {ms : List Bool} {vs : List V} {hs : List Hd} {F0 : Fz} {H0 : Hp} {z : Zs} {ow : Ows} {f g : List Addr} {outs : List (Option O)}, HReps G H0 F0 σ vs hs f → Outs G H F ms vs outs g → SRep G H F σ z ow → (∀ a ∈ g, ¬ Own ow a) → (∀ a ∈ g, ¬ F a) →
    ∃ ow', SRep G H F σ (backA ms hs outs z) ow' ∧ ∀ a, Own ow' a → Own ow a ∨ a ∈ g := by
  intro ms
  induction ms with
  | nil =>
    intro vs hs F0 H0 z ow f g outs r ro s dj nf
    cases ro
    exact ⟨ow, by cases hs <;> exact s, fun a h => .inl h⟩
  | cons m ms ih =>
    intro vs hs F0 H0 z ow f g outs r ro s dj nf
    cases r with
    | nil => cases ro
    | cons r rs d =>
      rename_i v h vs hs f1 g1
      cases ro with
      | drop ro =>
        obtain ⟨ow', s', k⟩ := ih rs ro s dj nf
        refine ⟨ow', ?_, k⟩
        unfold backA
        exact s'
      | keep r1 ro d1 =>
        rename_i o os f2 g2
        cases h with
        | tmp _ =>
          obtain ⟨ow', s', k⟩ := ih rs ro s (fun a h => dj a (by simp [h])) (fun a h => nf a (by simp [h]))
          refine ⟨ow', ?_, fun a h => (k a h).elim .inl fun h => .inr (by simp [h])⟩
          unfold backA
          exact s'
        | slot i =>
          obtain ⟨rfl, ei⟩ := r
          have s1 := s.give ei r1 (fun a h q => dj a (by simp [h]) (own_ow0 q)) (fun a h => nf a (by simp [h]))
          obtain ⟨ow', s', k⟩ := ih rs ro s1 (fun a h q => by
            rcases own_ow1 q with q | q
            · exact dj a (by simp [h]) (own_ow0 q)
            · exact d1 a q h) (fun a h => nf a (by simp [h]))
          refine ⟨ow', s', fun a h => ?_⟩
          rcases k a h with h | h
          · rcases own_ow1 h with h | h
            · exact .inl (own_ow0 h)
            · exact .inr (by simp [h])
          · exact .inr (by simp [h])
end
theorem Outs.pre {G : Gx} {H : Hp} {F : Fz} : ∀ {ms ms' : List Bool} {vs vs' : List V} {outs : List (Option O)} {g : List Addr}, Outs G H F (ms ++ ms') (vs ++ vs') outs g → ms.length = vs.length → (∀ m ∈ ms', m = false) → Outs G H F ms vs outs g
  | [], ms', vs, vs', outs, g, h, hl, hf => by
    have : g = [] := by
      have e : vs = [] := by cases vs with | nil => rfl | cons _ _ => cases hl
      subst e
      have key : ∀ {ms' : List Bool} {vs' : List V} {outs : List (Option O)} {g : List Addr}, Outs G H F ms' vs' outs g → (∀ m ∈ ms', m = false) → g = [] := by
        intro ms' vs' outs g h hf
        induction h with
        | nil => rfl
        | keep _ _ _ _ => exact absurd (hf true (by simp)) (by decide)
        | drop _ ih => exact ih fun m hm => hf m (by simp [hm])
      exact key h hf
    subst this
    exact .nil
  | m :: ms, ms', [], vs', outs, g, h, hl, hf => by cases hl
  | m :: ms, ms', v :: vs, vs', outs, g, h, hl, hf => by
    cases h with
    | keep r ro d => exact .keep r (Outs.pre ro (by simpa using hl) hf) d
    | drop ro => exact .drop (Outs.pre ro (by simpa using hl) hf)
theorem lendA_len : ∀ {ms : List Bool} {hs : List Hd} {z z' : Zs} {os : List O}, lendA ms hs z = some (os, z') → ms.length = hs.length ∧ os.length = ms.length := by
  intro ms
  induction ms with
  | nil =>
    intro hs z z' os e
    cases hs with
    | nil => simp only [lendA, Option.some.injEq, Prod.mk.injEq] at e; exact ⟨rfl, by rw [← e.1]; rfl⟩
    | cons _ _ => simp only [lendA, reduceCtorEq] at e
  | cons m ms ih =>
    intro hs z z' os e
    cases hs with
    | nil => cases m <;> simp only [lendA, reduceCtorEq] at e
    | cons h hs =>
      cases m with
      | false =>
        simp only [lendA] at e
        cases e1 : takeD h z with
        | none => rw [e1] at e; cases e
        | some p =>
          simp only [e1] at e
          cases e2 : lendA ms hs p.2 with
          | none => simp only [e2] at e; cases e
          | some q =>
            simp only [e2, Option.some.injEq, Prod.mk.injEq] at e
            obtain ⟨a, b⟩ := ih e2
            exact ⟨by rw [List.length_cons, List.length_cons, a], by rw [← e.1, List.length_cons, List.length_cons, b]⟩
      | true =>
        cases h with
        | tmp o =>
          simp only [lendA] at e
          cases e2 : lendA ms hs z with
          | none => simp only [e2] at e; cases e
          | some q =>
            simp only [e2, Option.some.injEq, Prod.mk.injEq] at e
            obtain ⟨a, b⟩ := ih e2
            exact ⟨by rw [List.length_cons, List.length_cons, a], by rw [← e.1, List.length_cons, List.length_cons, b]⟩
        | slot i =>
          simp only [lendA] at e
          cases e1 : rd z i with
          | none => rw [e1] at e; cases e
          | some o =>
            simp only [e1] at e
            cases e2 : lendA ms hs (z.set i none) with
            | none => simp only [e2] at e; cases e
            | some q =>
              simp only [e2, Option.some.injEq, Prod.mk.injEq] at e
              obtain ⟨a, b⟩ := ih e2
              exact ⟨by rw [List.length_cons, List.length_cons, a], by rw [← e.1, List.length_cons, List.length_cons, b]⟩
theorem HReps.len {G : Gx} {H : Hp} {F : Fz} {σ : L2.St} {vs : List V} {hs : List Hd} {f : List Addr} (r : HReps G H F σ vs hs f) : vs.length = hs.length := by
  induction r with
  | nil => rfl
  | cons _ _ _ ih => rw [List.length_cons, List.length_cons, ih]
theorem RepOs.appendV {G : Gx} {H : Hp} {F : Fz} {vs ws : List V} {os : List O} {ds : List D} {f : List Addr} (r : RepOs G H F vs os f) (s : RepDs G H F ws ds) : RepOs G H F (vs ++ ws) (os ++ ds.map .val) f := by
  have key : ∀ {ws : List V} {ds : List D}, RepDs G H F ws ds → RepOs G H F ws (ds.map .val) [] := by
    intro ws ds s
    induction ds generalizing ws with
    | nil => cases s; exact .nil
    | cons d ds ih => cases s with | cons h t => exact .cons (f := []) (.val h) (ih t) (fun a h => by cases h)
  induction r with
  | nil => exact key s
  | cons h _ d ih => exact .cons h ih d
/-- what a def promises -/
def spZ (G : Gx) (run : List O → RR) (modes : List Bool) : Sp := fun vs H Q E => vs.length = modes.length ∧ ∃ F os f, FT H F ∧ RepOs G H F vs os f ∧ (∀ a ∈ f, ¬ F a) ∧
  match run os with
  | .ret o outs => ∀ v H' F' g g', Stp H F (fun x => x ∈ f) H' F' (fun x => x ∈ g ∨ x ∈ g') → RepO G H' F' v o g → Outs G H' F' modes vs outs g' → (∀ a ∈ g, a ∉ g') → Q v H'
  | .exc c fs outs => ∀ d H' F' g' fvs, Stp H F (fun x => x ∈ f) H' F' (fun x => x ∈ g') → (H' d = some (.xd fvs) ∧ F' d) → RepFs G H' F' fvs fs → Outs G H' F' modes vs outs g' → E (.ref (G.cls c)) (some d) H'
  | .bad => False
end Z
end

section
set_option maxRecDepth 100007
/-! Calls of defs, methods, properties, classes. -/
namespace Z
open PySem L2 PyProof.Rows
/-- the names with two bars -/
inductive Dun where | eq | contains | len | str | bool | neg | add | sub | mul | and_ | iter | call
deriving DecidableEq
def Dun.nm : Dun → Str
  | .eq => "__eq__" | .contains => "__contains__" | .len => "__len__" | .str => "__str__" | .bool => "__bool__" | .neg => "__neg__" | .add => "__add__" | .sub => "__sub__" | .mul => "__mul__" | .and_ => "__and__" | .iter => "__iter__" | .call => "__call__"
/-- types, own classes by number -/
inductive Ty where | own (c : Nat) | int | bl | str | non | tup | lst | dct
deriving DecidableEq
/-- what a generator hands out, all of it; or how it breaks off -/
inductive RG where
  | ret (ds : List D) | exc (c : Nat) (fs : List (Nat × D)) | bad
/-- the defs by number: what they give, which parameters are lent, the defaults; the classes: methods, properties, __init__, fields -/
structure Ct where
  run : Nat → List O → RR
  modes : Nat → List Bool
  dfs : Nat → List D
  meth : Nat → Nat → Option Nat
  prop : Nat → Nat → Option Nat
  init : Nat → Option Nat
  flds : Nat → List Nat
  gk : Nat → D
  wf : Nat
  dun : Nat → Dun → Option Nat
  isi : Ty → Ty → Option Bool
  ic : Nat → Bool
  exc : Nat → Option Xc := fun _ => none
  exm : Nat → Nat → Option Bool := fun _ _ => none
  xfl : Nat → Nat → Bool := fun _ _ => false
  gen : Nat → Option (List D → RG) := fun _ => none
/-- the def number f stands at a and keeps its promise -/
def FnAt (P : Program) (w : World) (K : PySem.W.Frag) (mg : Str → Option Value) (base : Heap) (G : Gx) (C : Ct) (k f : Nat) (a : Addr) : Prop :=
  ∃ fd ps, FnOk P w K mg base (L2.CX P w) k a fd ps (spZ G (C.run f) (C.modes f)) ∧
    ∀ j, j ≤ (C.dfs f).length → ∃ dvs ds, Vals dvs ds ∧ Binds K fd ps ds ∧ dvs.length = j ∧ ∀ H F, RepDs G H F dvs ((C.dfs f).drop ((C.dfs f).length - j))
/-- the modes of n arguments that are given, the others being defaults -/
def given (C : Ct) (f n : Nat) : Option (List Bool × List D) :=
  if n ≤ (C.modes f).length ∧ (C.modes f).length - n ≤ (C.dfs f).length ∧ ((C.modes f).drop n).all (fun m => !m) = true then some ((C.modes f).take n, (C.dfs f).drop ((C.dfs f).length - ((C.modes f).length - n))) else none
/-- the call of def f with operands -/
def apF (C : Ct) (f : Nat) (hs : List Hd) (z1 : Zs) : R Hd := match given C f hs.length with
  | some (ms, dfs) => match lendA ms hs z1 with
    | some (os, z2) => match C.run f (os ++ dfs.map .val) with
      | .ret o outs => .ok (.tmp o) (backA ms hs outs z2)
      | .exc c fs outs => .exc c fs (backA ms hs outs z2)
      | .bad => .bad
    | none => .bad
  | none => .bad
section
variable {P : Program} {w : World} {K : PySem.W.Frag} {mg : Str → Option Value} {base : Heap} {G : Gx} {C : Ct} {W : WX} {k f : Nat} {a : Addr}
/-- a promise used: the operands stand for z1, the end is as apF says -/
theorem apF_ok {σ : L2.St} {H H1 : Hp} {F F1 : Fz} {ow ow1 : Ows} {hs : List Hd} {vs : List V} {z1 : Zs} {fp : List Addr} {Q : VK} (fn : FnAt P w K mg base G C k f a) (run : RunG G W σ (relE G σ) H F ow (apF C f hs z1) Q) (st : Stp H F (Own ow) H1 F1 (fun x => Own ow1 x ∨ x ∈ fp)) (s : SRep G H1 F1 σ z1 ow1) (r : HReps G H1 F1 σ vs hs fp) (d : ∀ x ∈ fp, ¬ Own ow1 x) :
    ∃ fd ps dvs ds, FnOk P w K mg base (L2.CX P w) k a fd ps (spZ G (C.run f) (C.modes f)) ∧ Vals dvs ds ∧ Binds K fd ps ds ∧ spZ G (C.run f) (C.modes f) (vs ++ dvs) H1 Q (WE W σ) := by
  obtain ⟨fd, ps, fn, df⟩ := fn
  unfold apF at run
  cases eg : given C f hs.length with
  | none => simp only [eg] at run; exact run.elim
  | some p =>
    obtain ⟨ms, dfs⟩ := p
    simp only [eg] at run
    unfold given at eg
    split at eg
    · rename_i hg
      simp only [Option.some.injEq, Prod.mk.injEq] at eg
      obtain ⟨rfl, rfl⟩ := eg
      obtain ⟨dvs, ds, hv, hb, hj, hd⟩ := df _ hg.2.1
      refine ⟨fd, ps, dvs, ds, fn, hv, hb, ?_⟩
      cases el : lendA ((C.modes f).take hs.length) hs z1 with
      | none => simp only [el] at run; exact run.elim
      | some q =>
        obtain ⟨os, z2⟩ := q
        simp only [el] at run
        obtain ⟨F2, ow2, f2, s2, ros, st2, d2⟩ := lend_ok r s d (fun a h => st.nf a (.inr h)) (fun a h => st.tr a (.inr h)) el
        have stt := st.trans st2
        have hlen := r.len
        refine ⟨?_, F2, _, f2, s2.ft, ros.appendV (hd H1 F2), fun a h => st2.nf a (.inr h), ?_⟩
        · rw [List.length_append, hj, hlen]; omega
        · have hms : (C.modes f).take hs.length ++ (C.modes f).drop hs.length = C.modes f := List.take_append_drop _ _
          have hfalse : ∀ m ∈ (C.modes f).drop hs.length, m = false := fun m hm => by
            have := List.all_eq_true.mp hg.2.2 m hm
            cases m
            · rfl
            · cases this
          have hl2 : ((C.modes f).take hs.length).length = vs.length := by rw [List.length_take, hlen]; omega
          have swap : Stp H F (Own ow) H1 F2 (fun x => x ∈ f2 ∨ Own ow2 x) := stt.weak fun x h => h.symm
          cases er : C.run f (os ++ List.map .val ((C.dfs f).drop ((C.dfs f).length - ((C.modes f).length - hs.length)))) with
          | bad => simp only [er] at run; exact run.elim
          | ret o outs =>
            simp only [er] at run ⊢
            intro v H' F' g g' stc ro ou dg
            rw [← hms] at ou
            have ou := ou.pre hl2 hfalse
            obtain ⟨c1, c2⟩ := swap.frame (fun x h q => d2 x q h) stc
            have s3 := s2.stp stc fun x h q => d2 x q h
            obtain ⟨ow5, s5, o5⟩ := back_ok r ou s3 (fun a h q => c2 a q (.inr h)) (fun a h => stc.nf a (.inr h))
            refine run v H' F' ow5 g (c1.weak fun x h => ?_) s5 ro fun x h q => ?_
            · rcases h with h | h
              · rcases o5 x h with h | h
                · exact .inr h
                · exact .inl (.inr h)
              · exact .inl (.inl h)
            · rcases o5 x q with q | q
              · exact c2 x q (.inl h)
              · exact dg x h q
          | exc c fs outs =>
            simp only [er] at run ⊢
            intro dd H' F' g' fvs stc e rf ou
            rw [← hms] at ou
            have ou := ou.pre hl2 hfalse
            obtain ⟨c1, c2⟩ := swap.frame (fun x h q => d2 x q h) stc
            have s3 := s2.stp stc fun x h q => d2 x q h
            obtain ⟨ow5, s5, o5⟩ := back_ok r ou s3 (fun a h q => c2 a q h) (fun a h => stc.nf a h)
            exact run dd H' F' ow5 fvs (c1.weak fun x h => (o5 x h).elim .inr .inl) s5 e rf
    · cases eg
end
section
variable {G : Gx} {C : Ct} {W : WX} {X : Cx} {k f : Nat} {a : Addr} {e o : Expr} {es : List Expr} {x m : Str} {p pos apos : Pos} {mA : Zs → R (List Hd)} {mo : Zs → R Hd}
abbrev FnX (X : Cx) (G : Gx) (C : Ct) (k f : Nat) (a : Addr) : Prop := FnAt X.prog X.w X.K X.mg X.base G C k f a
@[simp] def evCallF (C : Ct) (f : Nat) (mA : Zs → R (List Hd)) : Zs → R Hd := fun z => (mA z).bind fun hs z1 => apF C f hs z1
/-- f(e, ..) -/
theorem z_call (fn : FnX X G C k f a) (tk : Takes X W) (hr : Room k X.A) (hg : Gl X x) (hm : X.mg x = some (.ref a)) (hk : PySem.W.keepIn X.K (.ref a) = true) (ha : PA X (e :: es) (tZA G W mA)) (hdb : (x == ("__debug__" : Str)) = false)
    (he : starEach (e :: es) X.env = (false, eval e X.env) :: starEach es X.env) (hpl : (backTo pos (starEach es X.env)).any (·.1) = false) : PE X (.Call (.Name x p) (e :: es) [] pos) (tZ G W (evCallF C f mA)) := by
  refine ⟨fun pins s σ H Q I h => ?_⟩
  obtain ⟨z, ow, F, sr, run⟩ := h
  refine wpAny_Call_Name_kw (ld_glob I hg hm ?_ hdb)
  have hA : tZA G W mA σ H (fun vs H1 => ∃ fd ps dvs ds, FnOk X.prog X.w X.K X.mg X.base (L2.CX X.prog X.w) k a fd ps (spZ G (C.run f) (C.modes f)) ∧ Vals dvs ds ∧ Binds X.K fd ps ds ∧ spZ G (C.run f) (C.modes f) (vs ++ dvs) H1 Q (WE W σ)) :=
    ⟨z, ow, F, sr, RunG.first sr run fun hs z1 v1 H1 F1 ow1 f1 _ st1 s1 r1 d1 run1 => apF_ok fn run1 st1 s1 r1 d1⟩
  refine PySem.W.callWith_K (h₀ := X.base) I.ok.mod.kin hk (thn (ha.run pos pins s σ H _ I hA) fun us s1 ⟨vs, H1, I1, r, fd, ps, dvs, ds, fn, hv, hb, q⟩ => ⟨I1.kIn, ?_⟩) he hpl
  exact run_fnSD fn hr hb hv (passAt tk σ) I1 r q
/-- f() -/
theorem z_call0 (fn : FnX X G C k f a) (tk : Takes X W) (hr : Room k X.A) (hg : Gl X x) (hm : X.mg x = some (.ref a)) (hk : PySem.W.keepIn X.K (.ref a) = true) (hdb : (x == ("__debug__" : Str)) = false) : PE X (.Call (.Name x p) [] [] pos) (tZ G W (evCallF C f evNil)) := by
  refine ⟨fun pins s σ H Q I h => ?_⟩
  obtain ⟨z, ow, F, sr, run⟩ := h
  refine wpAny_Call_Name_kw (ld_glob I hg hm ?_ hdb)
  obtain ⟨fd, ps, dvs, ds, fn, hv, hb, q⟩ := apF_ok (hs := []) (vs := []) (fp := []) fn run (sr.refl.weak fun x h => h.elim id fun h => by cases h) sr .nil (fun x h => by cases h)
  exact PySem.W.callWith_K0 I.kIn hk (run_fnSD (us := []) (vs := []) fn hr hb hv (passAt tk σ) I .nil q)
theorem mcall_eq {env : Env} {args : List Expr} (hb : attributeBase o m env (eval o env) = eval o env) (hst : (backTo pos (starEach args env)).all (!·.1) = true) (hn : args.length < 30) (hl : (apos.endLine == pos.line) = true) :
    eval (.Call (.Attribute o m apos) args [] pos) env = (do
      let ov ← eval o env
      standAt apos.atName
      let (f, first) ← holding [ov] (getMethod ov m (do return (← importBound o env).getD true))
      callWith pos f first (backTo pos (starEach args env)) (backToKw pos (keywordEach [] env))) := by
  have hform : methodCallForm (args.length + ([] : List Keyword).length) (backTo pos (starEach args env)) (backToKw pos (keywordEach [] env)) = true := by
    unfold methodCallForm
    rw [hst]
    have : (backToKw pos (keywordEach [] env)) = [] := rfl
    rw [this]
    simp
    omega
  have e1 : eval (.Call (.Attribute o m apos) args [] pos) env = (do
      let ov ← attributeBase o m env (eval o env)
      standAt apos.atName
      methodCall o m apos pos env ov (args.length + ([] : List Keyword).length) (backTo pos (starEach args env)) (backToKw pos (keywordEach [] env))) := by
    rw [eval]
  rw [e1, hb]
  congr 1
  funext ov
  congr 1
  funext _
  unfold methodCall
  rw [hform]
  have e2 : calleeOf true o env ov m = getMethod ov m (do return (← importBound o env).getD true) := rfl
  have e3 : methodCallPos true o env apos pos = pure pos := by
    unfold methodCallPos
    rw [hl]
    rfl
  rw [e2, e3]
  rfl
/-- methods of the class c -/
def MethAt (X : Cx) (G : Gx) (C : Ct) (k : Nat) : Prop := ∀ c m f, C.meth c m = some f → m < G.nm.length ∧ Cls X.K (G.cls c) ∧ ∃ a, Meth X.K (G.cls c) (G.name m) a ∧ FnX X G C k f a
@[simp] def evMeth (C : Ct) (m : Nat) (mo : Zs → R Hd) (mA : Zs → R (List Hd)) : Zs → R Hd := fun z => (mo z).bind fun h z1 => match peek h z1 with
  | some (.obj c fs) => match C.meth c m, lookN m fs with
    | some f, none => (mA z1).bind fun hs z2 => apF C f (h :: hs) z2
    | _, _ => .bad
  | _ => .bad
theorem z_meth {mn : Nat} (hK : G.K = X.K) (g : GOk G C.flds) (me : MethAt X G C k) (tk : Takes X W) (hr : Room k X.A) (ho : PE X o (tZ G W mo)) (ha : PA X (e :: es) (tZA G W mA)) (hab : attributeBase o (G.name mn) X.env (eval o X.env) = eval o X.env)
    (he : starEach (e :: es) X.env = (false, eval e X.env) :: starEach es X.env) (hpl : (backTo pos (starEach es X.env)).any (·.1) = false) (hall : (backTo pos (starEach (e :: es) X.env)).all (!·.1) = true) (hn : (e :: es).length < 30) (hl : (apos.endLine == pos.line) = true) :
    PE X (.Call (.Attribute o (G.name mn) apos) (e :: es) [] pos) (tZ G W (evMeth C mn mo mA)) := by
  refine ⟨fun pins s σ H Q I h => ?_⟩
  obtain ⟨z, ow, F, sr, run⟩ := h
  have hO : tZ G W mo σ H (fun x H1 => ∃ a0 dx fs c f a, x = .ref a0 ∧ H1 a0 = some (.ins (G.cls c) dx fs) ∧ fs.lookup (G.name mn) = none ∧ Cls X.K (G.cls c) ∧ Meth X.K (G.cls c) (G.name mn) a ∧
      tZA G W mA σ H1 fun vs H2 => ∃ fd ps dvs ds, FnOk X.prog X.w X.K X.mg X.base (L2.CX X.prog X.w) k a fd ps (spZ G (C.run f) (C.modes f)) ∧ Vals dvs ds ∧ Binds X.K fd ps ds ∧ spZ G (C.run f) (C.modes f) ((x :: vs) ++ dvs) H2 Q (WE W σ)) := by
    refine ⟨z, ow, F, sr, RunG.first sr run fun h z1 v1 H1 F1 ow1 f1 _ st1 s1 r1 d1 run1 => ?_⟩
    cases e1 : peek h z1 with
    | none => simp only [e1] at run1; exact run1.elim
    | some d =>
      cases d <;> simp only [e1] at run1 <;> try exact run1.elim
      rename_i c fs
      have r2 : RepR G H1 F1 v1 (.obj c fs) := HRep.peek r1 s1 e1
      obtain ⟨a0, dx, fvs, rfl, ha0, rfs⟩ := r2.objs
      cases e2 : C.meth c mn with
      | none => simp only [e2] at run1; exact run1.elim
      | some f =>
        cases e3 : lookN mn fs with
        | some _ => simp only [e2, e3] at run1; exact run1.elim
        | none =>
          simp only [e2, e3] at run1
          obtain ⟨hmn, cl, a, hm, fn⟩ := me c mn f e2
          have hlk := lookFs g hmn rfs
          rw [e3] at hlk
          refine ⟨a0, dx, fvs, c, f, a, rfl, ha0, hlk, cl, hm, z1, ow1, F1, s1, RunG.bind st1 d1 run1 fun hs z2 v2 H2 F2 ow2 f2 _ st2 s2 r2' d2 st d run2 => ?_⟩
          refine apF_ok (vs := .ref a0 :: v2) (fp := f1 ++ f2) fn run2 (st.weak fun x h => ?_) s2 (.cons (HRep.stp r1 st2 d1) r2' fun x h => (d x h).2) fun x h => ?_
          · rcases h with h | h
            · exact .inl h
            · rcases List.mem_append.mp h with h | h
              · exact .inr (.inr h)
              · exact .inr (.inl h)
          · rcases List.mem_append.mp h with h | h
            · exact (d x h).1
            · exact d2 x h
  refine PySem.W.methodCall_KW (thn (ho.run pins s σ H _ I hO) fun u s1 ⟨x, H1, I1, rx, a0, dx, fs, c, f, a, ex, ea, l, cl, hm, q⟩ => ?_) (mcall_eq hab hall hn hl)
  subst ex
  obtain rfl : u = Value.ref a0 := rx
  refine getmeth_ok I1 ea cl hm l ?_
  refine PySem.W.callWith_K (first := [.ref a0]) (h₀ := X.base) I.ok.mod.kin hm.kp (thn (ha.run pos pins s1 σ H1 _ I1 q) fun us s2 ⟨vs, H2, I2, r, fd, ps, dvs, ds, fn, hv, hb, q2⟩ => ⟨I2.kIn, ?_⟩) he hpl
  exact run_fnSD (us := .ref a0 :: us) (vs := .ref a0 :: vs) fn hr hb hv (passAt tk σ) I2 (.cons rfl r) q2
theorem z_meth0 {mn : Nat} (hK : G.K = X.K) (g : GOk G C.flds) (me : MethAt X G C k) (tk : Takes X W) (hr : Room k X.A) (ho : PE X o (tZ G W mo)) (hab : attributeBase o (G.name mn) X.env (eval o X.env) = eval o X.env) (hl : (apos.endLine == pos.line) = true) :
    PE X (.Call (.Attribute o (G.name mn) apos) [] [] pos) (tZ G W (evMeth C mn mo evNil)) := by
  refine ⟨fun pins s σ H Q I h => ?_⟩
  obtain ⟨z, ow, F, sr, run⟩ := h
  have hO : tZ G W mo σ H (fun x H1 => ∃ a0 dx fs c f a, x = .ref a0 ∧ H1 a0 = some (.ins (G.cls c) dx fs) ∧ fs.lookup (G.name mn) = none ∧ Cls X.K (G.cls c) ∧ Meth X.K (G.cls c) (G.name mn) a ∧
      ∃ fd ps dvs ds, FnOk X.prog X.w X.K X.mg X.base (L2.CX X.prog X.w) k a fd ps (spZ G (C.run f) (C.modes f)) ∧ Vals dvs ds ∧ Binds X.K fd ps ds ∧ spZ G (C.run f) (C.modes f) ([x] ++ dvs) H1 Q (WE W σ)) := by
    refine ⟨z, ow, F, sr, RunG.first sr run fun h z1 v1 H1 F1 ow1 f1 _ st1 s1 r1 d1 run1 => ?_⟩
    cases e1 : peek h z1 with
    | none => simp only [e1] at run1; exact run1.elim
    | some d =>
      cases d <;> simp only [e1] at run1 <;> try exact run1.elim
      rename_i c fs
      have r2 : RepR G H1 F1 v1 (.obj c fs) := HRep.peek r1 s1 e1
      obtain ⟨a0, dx, fvs, rfl, ha0, rfs⟩ := r2.objs
      cases e2 : C.meth c mn with
      | none => simp only [e2] at run1; exact run1.elim
      | some f =>
        cases e3 : lookN mn fs with
        | some _ => simp only [e2, e3] at run1; exact run1.elim
        | none =>
          simp only [e2, e3, evNil, R.bind] at run1
          obtain ⟨hmn, cl, a, hm, fn⟩ := me c mn f e2
          have hlk := lookFs g hmn rfs
          rw [e3] at hlk
          refine ⟨a0, dx, fvs, c, f, a, rfl, ha0, hlk, cl, hm, ?_⟩
          have := apF_ok (vs := [.ref a0]) (fp := f1 ++ []) fn run1 (st1.weak fun x h => h.elim .inl fun h => .inr (by simpa using h)) s1 (.cons r1 .nil fun x h => by simp) fun x h => d1 x (by simpa using h)
          exact this
  refine PySem.W.methodCall_KW (thn (ho.run pins s σ H _ I hO) fun u s1 ⟨x, H1, I1, rx, a0, dx, fs, c, f, a, ex, ea, l, cl, hm, fd, ps, dvs, ds, fn, hv, hb, q⟩ => ?_) (mcall_eq hab rfl (by decide) hl)
  subst ex
  obtain rfl : u = Value.ref a0 := rx
  refine getmeth_ok I1 ea cl hm l ?_
  exact PySem.W.callWith_K0 (first := [.ref a0]) I1.kIn hm.kp (run_fnSD (us := [.ref a0]) (vs := [.ref a0]) fn hr hb hv (passAt tk σ) I1 (.cons rfl .nil) q)
end
end Z
end

section
set_option maxRecDepth 100007
/-! Attributes, properties, classes called. -/
namespace Z
open PySem L2 PyProof.Rows
/-- properties of the class c -/
def PropAt (X : Cx) (G : Gx) (C : Ct) (k : Nat) : Prop := ∀ c n f, C.prop c n = some f → n < G.nm.length ∧ Cls X.K (G.cls c) ∧ ∃ p a, PropOf X.K (G.cls c) (G.name n) p a ∧ FnX X G C k f a
@[simp] def noX (r : R Hd) : R Hd := match r with
  | .exc _ _ _ => .bad
  | r => r
@[simp] def evAttr (C : Ct) (n : Nat) (mo : Zs → R Hd) : Zs → R Hd := fun z => (mo z).bind fun h z1 => match peek h z1 with
  | some (.obj c fs) => match C.prop c n with
    | some f => noX (apF C f [h] z1)
    | none => if (C.flds c).contains n = true then (match lookN n fs with
      | some d => .ok (.tmp (.val d)) z1
      | none => .bad) else .bad
  | _ => .bad
section
variable {G : Gx} {C : Ct} {W : WX} {X : Cx} {k f : Nat} {a : Addr} {e o : Expr} {es : List Expr} {x m : Str} {p pos apos : Pos} {mA : Zs → R (List Hd)} {mo : Zs → R Hd}
theorem RunG.noX {σ : L2.St} {H : Hp} {F : Fz} {ow : Ows} {r : R Hd} {Q : VK} (run : RunG G W σ (relE G σ) H F ow (Z.noX r) Q) (W1 : WX) : RunG G W1 σ (relE G σ) H F ow r Q := by
  cases r with
  | ok h z => exact run
  | exc c fs z => exact run.elim
  | bad => exact run.elim
/-- e.f -/
theorem z_attr {n : Nat} (hK : G.K = X.K) (g : GOk G C.flds) (pr : PropAt X G C k) (hr : Room (k + 1) X.A) (he : PE X e (tZ G W mo)) (hab : attributeBase e (G.name n) X.env (eval e X.env) = eval e X.env) : PE X (.Attribute e (G.name n) pos) (tZ G W (evAttr C n mo)) := by
  refine ⟨fun pins s σ H Q I h => ?_⟩
  obtain ⟨z, ow, F, sr, run⟩ := h
  have hO : tZ G W mo σ H (fun x H1 => ∃ a0 dx fs c, x = .ref a0 ∧ H1 a0 = some (.ins (G.cls c) dx fs) ∧ Cls X.K (G.cls c) ∧ ((NoAttr X.K (G.cls c) (G.name n) ∧ ∃ v, fs.lookup (G.name n) = some v ∧ Q v H1) ∨
      ∃ p a f fd ps dvs ds, PropOf X.K (G.cls c) (G.name n) p a ∧ FnOk X.prog X.w X.K X.mg X.base (L2.CX X.prog X.w) k a fd ps (spZ G (C.run f) (C.modes f)) ∧ Vals dvs ds ∧ Binds X.K fd ps ds ∧ spZ G (C.run f) (C.modes f) ([x] ++ dvs) H1 Q (WE (fun _ _ _ _ => False) σ))) := by
    refine ⟨z, ow, F, sr, RunG.first sr run fun h z1 v1 H1 F1 ow1 f1 _ st1 s1 r1 d1 run1 => ?_⟩
    cases e1 : peek h z1 with
    | none => simp only [e1] at run1; exact run1.elim
    | some d =>
      cases d <;> simp only [e1] at run1 <;> try exact run1.elim
      rename_i c fs
      have r2 : RepR G H1 F1 v1 (.obj c fs) := HRep.peek r1 s1 e1
      obtain ⟨a0, dx, fvs, rfl, ha0, rfs⟩ := r2.objs
      cases e2 : C.prop c n with
      | none =>
        simp only [e2] at run1
        split at run1
        · rename_i hc
          have hc : n ∈ C.flds c := by simpa using hc
          cases e3 : lookN n fs with
          | none => simp only [e3] at run1; exact run1.elim
          | some d =>
            simp only [e3] at run1
            have hlk := lookFs g (g.na c n hc).2 rfs
            rw [e3] at hlk
            obtain ⟨v, hv, rv⟩ := hlk
            exact ⟨a0, dx, fvs, c, rfl, ha0, hK ▸ g.cl c n hc, .inl ⟨hK ▸ (g.na c n hc).1, v, hv, run1 v H1 F1 ow1 [] (st1.weak fun x h => h.elim .inl fun h => by cases h) s1 (.val rv) fun x h => by cases h⟩⟩
        · exact run1.elim
      | some f =>
        simp only [e2] at run1
        obtain ⟨hmn, cl, p, a, hm, fn⟩ := pr c n f e2
        obtain ⟨fd, ps, dvs, ds, fn, hv, hb, q⟩ := apF_ok (W := fun _ _ _ _ => False) (vs := [.ref a0]) (fp := f1 ++ []) fn (run1.noX _) (st1.weak fun x h => h.elim .inl fun h => .inr (by simpa using h)) s1 (.cons r1 .nil fun x h => by simp) fun x h => d1 x (by simpa using h)
        exact ⟨a0, dx, fvs, c, rfl, ha0, cl, .inr ⟨p, a, f, fd, ps, dvs, ds, hm, fn, hv, hb, q⟩⟩
  refine attr_of hab (thn (he.run pins s σ H _ I hO) fun u s1 ⟨x, H1, I1, rx, a0, dx, fs, c, ex, ea, cl, q⟩ => ?_)
  subst ex
  obtain rfl : u = Value.ref a0 := rx
  rcases q with ⟨na, v, l, q⟩ | ⟨p, a, f, fd, ps, dvs, ds, hp, fn, hv, hb, q⟩
  · exact getattr_ok I1 ea cl na l fun u' s2 I2 ru => ⟨v, H1, I2, ru, q⟩
  · exact getprop_ok I1 ea cl hp fn hr hb hv passL q
/-! ### a class called -/
def evMkA (C : Ct) (c : Nat) (hs : List Hd) (z1 : Zs) : R Hd := match C.init c with
  | some f => match given C f (hs.length + 1) with
    | some (true :: ms, dfs) => match lendA ms hs z1 with
      | some (os, z2) => match C.run f (.obj c [] :: (os ++ dfs.map .val)) with
        | .ret (.val .non) (some o :: outs) => .ok (.tmp o) (backA ms hs outs z2)
        | .exc c fs (_ :: outs) => .exc c fs (backA ms hs outs z2)
        | _ => .bad
      | none => .bad
    | _ => .bad
  | none => .bad
@[simp] def evMk (C : Ct) (c : Nat) (mA : Zs → R (List Hd)) : Zs → R Hd := fun z => (mA z).bind fun hs z1 => evMkA C c hs z1
def MkAt (X : Cx) (G : Gx) (C : Ct) (k c : Nat) : Prop := ∀ f, C.init c = some f → ∃ a, Mk X.K (G.cls c) a ∧ FnX X G C k f a
end
section
variable {P : Program} {w : World} {K : PySem.W.Frag} {mg : Str → Option Value} {base : Heap} {G : Gx} {C : Ct} {W : WX} {k f c : Nat} {a : Addr}
theorem stp_old {H : Hp} {F : Fz} {p : Addr} {u : HO} (ft : FT H F) (hp : H p = none) : Stp H F (fun _ => False) (upd H p u) F (fun _ => False) := (stp_new ft hp).weak fun _ h => h.elim
theorem mk_ok {σ : L2.St} {H H1 : Hp} {F F1 : Fz} {ow ow1 : Ows} {hs : List Hd} {vs : List V} {z1 : Zs} {fp : List Addr} {Q : VK} (ei : C.init c = some f) (fn : FnAt P w K mg base G C k f a) (run : RunG G W σ (relE G σ) H F ow (evMkA C c hs z1) Q) (st : Stp H F (Own ow) H1 F1 (fun x => Own ow1 x ∨ x ∈ fp)) (s : SRep G H1 F1 σ z1 ow1) (r : HReps G H1 F1 σ vs hs fp) (d : ∀ x ∈ fp, ¬ Own ow1 x) :
    ∃ fd ps dvs ds, FnOk P w K mg base (L2.CX P w) k a fd ps (spZ G (C.run f) (C.modes f)) ∧ Vals dvs ds ∧ Binds K fd ps ds ∧ ∀ x dx, H1 x = none → H1 dx = none → dx ≠ x →
      spZ G (C.run f) (C.modes f) (.ref x :: (vs ++ dvs)) (upd (upd H1 dx (.own x)) x (.ins (G.cls c) dx [])) (fun v H2 => v = .non ∧ Q (.ref x) H2) (WE W σ) := by
  obtain ⟨fd, ps, fn, df⟩ := fn
  unfold evMkA at run
  simp only [ei] at run
  cases eg : given C f (hs.length + 1) with
  | none => simp only [eg] at run; exact run.elim
  | some p =>
    obtain ⟨ms0, dfs⟩ := p
    cases ms0 with
    | nil => simp only [eg] at run; exact run.elim
    | cons m ms =>
    cases m with
    | false => simp only [eg] at run; exact run.elim
    | true =>
    simp only [eg] at run
    unfold given at eg
    split at eg
    · rename_i hg
      simp only [Option.some.injEq, Prod.mk.injEq] at eg
      obtain ⟨ems, rfl⟩ := eg
      obtain ⟨dvs, ds, hv, hb, hj, hd⟩ := df _ hg.2.1
      refine ⟨fd, ps, dvs, ds, fn, hv, hb, fun x dx hx hdx ndx => ?_⟩
      cases el : lendA ms hs z1 with
      | none => simp only [el] at run; exact run.elim
      | some q =>
        obtain ⟨os, z2⟩ := q
        simp only [el] at run
        obtain ⟨F2, ow2, f2, s2, ros, st2, d2⟩ := lend_ok r s d (fun a h => st.nf a (.inr h)) (fun a h => st.tr a (.inr h)) el
        have stt := st.trans st2
        have hlen := r.len
        have hlm : (C.modes f).length = hs.length + 1 + ((C.modes f).length - (hs.length + 1)) := by omega
        have hx1 : upd H1 dx (.own x) x = none := by rw [upd_ne ndx.symm]; exact hx
        have stA := stp_old (u := .own x) s2.ft hdx
        have stB := stp_new (H := upd H1 dx (.own x)) (u := .ins (G.cls c) dx []) (fun a h => by
          obtain ⟨o, e⟩ := s2.ft a h
          exact ⟨o, ext_new hdx a o e⟩) hx1
        have stN : Stp H1 F2 (fun _ => False) (upd (upd H1 dx (.own x)) x (.ins (G.cls c) dx [])) F2 (fun y => y ∈ [x]) := stA.trans stB
        have xf2 : x ∉ f2 := fun h => by
          obtain ⟨o, e⟩ := st2.tr x (.inr h)
          rw [hx] at e; cases e
        have xow : ¬ Own ow2 x := fun h => by
          obtain ⟨o, e⟩ := st2.tr x (.inl h)
          rw [hx] at e; cases e
        have s3 := s2.stp stN fun _ _ h => h
        refine ⟨?_, F2, .obj c [] :: (os ++ ((C.dfs f).drop ((C.dfs f).length - ((C.modes f).length - (hs.length + 1)))).map .val), [x] ++ f2, s3.ft, .cons (.obj upd_same .nil) (((ros.stp stN fun _ _ h => h)).appendV (hd _ F2)) (fun a h q => by rw [List.mem_singleton.mp h] at q; exact xf2 q), fun a h q => ?_, ?_⟩
        · rw [List.length_cons, List.length_append, hj, hlen]; omega
        · rcases List.mem_append.mp h with h | h
          · rw [List.mem_singleton.mp h] at q
            obtain ⟨o, e⟩ := s2.ft x q
            rw [hx] at e; cases e
          · exact st2.nf a (.inr h) q
        · have hms : (true :: ms) ++ (C.modes f).drop (hs.length + 1) = C.modes f := by rw [← ems]; exact List.take_append_drop _ _
          have hfalse : ∀ m ∈ (C.modes f).drop (hs.length + 1), m = false := fun m hm => by
            have := List.all_eq_true.mp hg.2.2 m hm
            cases m
            · rfl
            · cases this
          have hl2 : ms.length = vs.length := by
            have := congrArg List.length ems
            rw [List.length_take, List.length_cons] at this
            rw [hlen]; omega
          obtain ⟨stM, dM⟩ := stt.alloc (t := stN)
          have swap : Stp H F (Own ow) (upd (upd H1 dx (.own x)) x (.ins (G.cls c) dx [])) F2 (fun y => y ∈ [x] ++ f2 ∨ Own ow2 y) := stM.weak fun y h => by
            rcases h with h | h
            · rcases List.mem_append.mp h with h | h
              · exact .inl h
              · exact .inr (.inr h)
            · exact .inr (.inl h)
          have dsw : ∀ y, Own ow2 y → ¬ y ∈ [x] ++ f2 := fun y q h => by
            rcases List.mem_append.mp h with h | h
            · rw [List.mem_singleton.mp h] at q; exact xow q
            · exact d2 y h q
          cases er : C.run f (.obj c [] :: (os ++ List.map .val ((C.dfs f).drop ((C.dfs f).length - ((C.modes f).length - (hs.length + 1)))))) with
          | bad => simp only [er] at run; exact run.elim
          | ret o outs =>
            simp only [er] at run ⊢
            split at run <;> first | exact run.elim | skip
            rotate_left
            · rename_i heq
              cases heq
            rename_i o' outs' heq
            cases heq
            intro v H' F' g g' stc ro ou dg
            cases ro with | val rv =>
            cases rv
            refine ⟨rfl, ?_⟩
            rw [← hms] at ou
            have ou : Outs G H' F' ((true :: ms) ++ (C.modes f).drop (hs.length + 1)) ((.ref x :: vs) ++ dvs) (some o' :: outs') g' := ou
            have ou := ou.pre (by rw [List.length_cons, List.length_cons, hl2]) hfalse
            cases ou with
            | @keep _ _ _ _ _ g1 g2 r1 ou1 dk =>
            have ou := ou1
            obtain ⟨c1, c2⟩ := swap.frame dsw stc
            have s4 := s3.stp stc dsw
            obtain ⟨ow5, s5, o5⟩ := back_ok r ou s4 (fun a h q => c2 a q (.inr (by simp [h]))) (fun a h => stc.nf a (.inr (by simp [h])))
            refine run (.ref x) H' F' ow5 g1 (c1.weak fun y h => ?_) s5 r1 fun y h q => ?_
            · rcases h with h | h
              · rcases o5 y h with h | h
                · exact .inr h
                · exact .inl (.inr (by simp [h]))
              · exact .inl (.inr (by simp [h]))
            · rcases o5 y q with q | q
              · exact c2 y q (.inr (by simp [h]))
              · exact dk y h q
          | exc c2 fs outs =>
            simp only [er] at run ⊢
            split at run <;> try exact run.elim
            · rename_i heq
              cases heq
            · rename_i c3 fs3 o3 outs' heq
              cases heq
              intro dd H' F' g' fvs stc e rf ou
              rw [← hms] at ou
              have ou : Outs G H' F' ((true :: ms) ++ (C.modes f).drop (hs.length + 1)) ((.ref x :: vs) ++ dvs) (o3 :: outs') g' := ou
              have ou := ou.pre (by rw [List.length_cons, List.length_cons, hl2]) hfalse
              cases ou with
              | @keep _ _ _ _ _ g1 g2 r1 ou1 dk =>
              have ou := ou1
              obtain ⟨c1, c2⟩ := swap.frame dsw stc
              have s4 := s3.stp stc dsw
              obtain ⟨ow5, s5, o5⟩ := back_ok r ou s4 (fun a h q => c2 a q (by simp [h])) (fun a h => stc.nf a (by simp [h]))
              exact run dd H' F' ow5 fvs (c1.weak fun y h => (o5 y h).elim .inr fun h => .inl (by simp [h])) s5 e rf
    · cases eg
end
section
variable {G : Gx} {C : Ct} {W : WX} {X : Cx} {k c : Nat} {f fa : Addr} {e : Expr} {es : List Expr} {x : Str} {p pos : Pos} {mA : Zs → R (List Hd)} {sp : Sp} {fd : FuncData} {ps : List Str} {ds : List Value} {dvs : List V}
theorem run_makeS {CX : CXT} {Cc : Addr} {pins : List (Addr × Obj)} {σ : L2.St} {H : Hp} {s : Shared} {Q : VK} {E : XK} {us : List Value} {vs : List V} (M : Mk X.K Cc f) (F : FnOk X.prog X.w X.K X.mg X.base CX k f fd ps sp) (hr : Room (k + 1) X.A) (hb : Binds X.K fd ps ds) (hd : Vals dvs ds)
    (hx : PassesAt CX X σ E) (I : Inv X pins σ H s) (r : Vals vs us)
    (h : ∀ x dx, H x = none → H dx = none → dx ≠ x → sp (.ref x :: (vs ++ dvs)) (upd (upd H dx (.own x)) x (.ins Cc dx [])) (fun v H2 => v = .non ∧ Q (.ref x) H2) E) :
    wpAny (model X.prog X.w) X.A (call (.ref Cc) us) (EP X pins σ Q) X.xe s := by
  have hq := h (s.heap.objs.size + 1) s.heap.objs.size (I.hok.fresh (Nat.le_succ _)) (I.hok.fresh (Nat.le_refl _)) (Nat.ne_of_lt (Nat.lt_succ_self _))
  have I2 := Inv.made (C := Cc) I
  have r2 : Vals (V.ref (s.heap.objs.size + 1) :: (vs ++ dvs)) (Value.ref (s.heap.objs.size + 1) :: (us ++ ds)) := .cons rfl (r.append hd)
  have hl : (Value.ref (s.heap.objs.size + 1) :: us ++ ds).length = ps.length := by
    have e := r2.length
    rw [F.len _ _ _ _ hq] at e
    exact e.symm
  refine wpAny_call (make_map (f := f) I.kIn M.makes M.init (beq_iff_eq.mp M.fn) (codeAny_mono (F.run _ X.stack _ _ ⟨Value.ref (s.heap.objs.size + 1) :: us, []⟩ (Value.ref (s.heap.objs.size + 1) :: (us ++ ds)) _ _ E (hr.make Cc us [])
    (I2.env0.make Cc us []) (hb _ (Value.ref (s.heap.objs.size + 1) :: us) I2.kIn hl) r2 hq) fun r s' hq' => ?_))
  cases r with
  | error e => exact hx pins _ _ e s' I2 hq'
  | ok fl =>
    cases fl with
    | ret u =>
      obtain ⟨v, H', I3, rv, ev, q3⟩ := I2.after hq'
      subst ev
      exact ⟨rv, ⟨V.ref (s.heap.objs.size + 1), H', I3, rfl, q3⟩⟩
    | next => exact False.elim hq'
    | brk => exact False.elim hq'
    | cont => exact False.elim hq'
/-- C(e, ..) -/
theorem z_mk (mk : MkAt X G C k c) (tk : Takes X W) (hr : Room (k + 1) X.A) (hg : Gl X x) (hm : X.mg x = some (.ref (G.cls c))) (hk : PySem.W.keepIn X.K (.ref (G.cls c)) = true) (ha : PA X (e :: es) (tZA G W mA)) (hdb : (x == ("__debug__" : Str)) = false)
    (he : starEach (e :: es) X.env = (false, eval e X.env) :: starEach es X.env) (hpl : (backTo pos (starEach es X.env)).any (·.1) = false) : PE X (.Call (.Name x p) (e :: es) [] pos) (tZ G W (evMk C c mA)) := by
  refine ⟨fun pins s σ H Q I h => ?_⟩
  obtain ⟨z, ow, F, sr, run⟩ := h
  refine wpAny_Call_Name_kw (ld_glob I hg hm ?_ hdb)
  have hA : tZA G W mA σ H (fun vs H1 => ∃ f fa fd ps dvs ds, Mk X.K (G.cls c) fa ∧ FnOk X.prog X.w X.K X.mg X.base (L2.CX X.prog X.w) k fa fd ps (spZ G (C.run f) (C.modes f)) ∧ Vals dvs ds ∧ Binds X.K fd ps ds ∧ ∀ x dx, H1 x = none → H1 dx = none → dx ≠ x →
      spZ G (C.run f) (C.modes f) (.ref x :: (vs ++ dvs)) (upd (upd H1 dx (.own x)) x (.ins (G.cls c) dx [])) (fun v H2 => v = .non ∧ Q (.ref x) H2) (WE W σ)) :=
    ⟨z, ow, F, sr, RunG.first sr run fun hs z1 v1 H1 F1 ow1 f1 _ st1 s1 r1 d1 run1 => by
      cases ei : C.init c with
      | none => unfold evMkA at run1; simp only [ei] at run1; exact run1.elim
      | some f =>
        obtain ⟨fa, M, fn⟩ := mk f ei
        obtain ⟨fd, ps, dvs, ds, fn, hv, hb, q⟩ := mk_ok ei fn run1 st1 s1 r1 d1
        exact ⟨f, fa, fd, ps, dvs, ds, M, fn, hv, hb, q⟩⟩
  refine PySem.W.callWith_K (h₀ := X.base) I.ok.mod.kin hk (thn (ha.run pos pins s σ H _ I hA) fun us s1 ⟨vs, H1, I1, r, f, fa, fd, ps, dvs, ds, M, fn, hv, hb, q⟩ => ⟨I1.kIn, ?_⟩) he hpl
  exact run_makeS M fn hr hb hv (passAt tk σ) I1 r q
theorem z_mk0 (mk : MkAt X G C k c) (tk : Takes X W) (hr : Room (k + 1) X.A) (hg : Gl X x) (hm : X.mg x = some (.ref (G.cls c))) (hk : PySem.W.keepIn X.K (.ref (G.cls c)) = true) (hdb : (x == ("__debug__" : Str)) = false) : PE X (.Call (.Name x p) [] [] pos) (tZ G W (evMk C c evNil)) := by
  refine ⟨fun pins s σ H Q I h => ?_⟩
  obtain ⟨z, ow, F, sr, run⟩ := h
  refine wpAny_Call_Name_kw (ld_glob I hg hm ?_ hdb)
  cases ei : C.init c with
  | none => simp only [evMk, evNil, R.bind, evMkA, ei] at run; exact run.elim
  | some f =>
    obtain ⟨fa, M, fn⟩ := mk f ei
    obtain ⟨fd, ps, dvs, ds, fn, hv, hb, q⟩ := mk_ok (hs := []) (vs := []) (fp := []) ei fn run (sr.refl.weak fun x h => h.elim id fun h => by cases h) sr .nil (fun x h => by cases h)
    exact PySem.W.callWith_K0 I.kIn hk (run_makeS (us := []) (vs := []) M fn hr hb hv (passAt tk σ) I .nil q)
end
end Z
end

section
set_option maxRecDepth 100007
/-! Chains; what is known by the text's form alone. -/
namespace Z
open PySem L2 PyProof.Rows
@[simp] def evChain (f f' : D → D → Option O) (m1 m2 m3 : Zs → R Hd) : Zs → R Hd := fun z => (m1 z).bind fun x z1 => (m2 z1).bind fun y z2 => match peek x z2, peek y z2 with
  | some d, some e => match f d e with
    | some (.val (.bl true)) => (m3 z2).bind fun w z3 => ap2 f' y w z3
    | some (.val (.bl false)) => .ok (.tmp (.val (.bl false))) z2
    | _ => .bad
  | _, _ => .bad
@[simp] def evIfT (c : Zs → R Bool) (c1 c2 : Zs → R Bool) : Zs → R Bool := fun z => (c z).bind fun b z1 => if b = true then c1 z1 else c2 z1
section
variable {G : Gx} {W : WX} {X : Cx} {a b c e : Expr} {es rest : List Expr} {pos : Pos} {m1 m2 m3 : Zs → R Hd} {c1 c2 c3 : Zs → R Bool} {σ : L2.St} {H : Hp} {f f' : D → D → Option O}
theorem chain_read {Q : VK} (h : tZ G W (evChain f f' m1 m2 m3) σ H Q) : tChain (rV2 G f) (rV2 G f') (tZ G W m1) (tZ G W m2) (tZ G W m3) σ H Q := by
  obtain ⟨z, ow, F, s, run⟩ := h
  refine ⟨z, ow, F, s, RunG.first s run fun x z1 v1 H1 F1 ow1 f1 _ st1 s1 r1 d1 run1 => ?_⟩
  refine ⟨z1, ow1, F1, s1, RunG.bind st1 d1 run1 fun y z2 v2 H2 F2 ow2 f2 _ st2 s2 r2 d2 st d run2 => ?_⟩
  have r1' := HRep.stp r1 st2 d1
  cases e1 : peek x z2 with
  | none => simp only [e1] at run2; exact run2.elim
  | some dx =>
    cases e2 : peek y z2 with
    | none => simp only [e1, e2] at run2; exact run2.elim
    | some dy =>
      simp only [e1, e2] at run2
      cases e3 : f dx dy with
      | none => simp only [e3] at run2; exact run2.elim
      | some o =>
        have key : ∀ b, o = .val (.bl b) → ∀ (K : V → Hp → Prop), (∀ H3 F3, Stp H2 F2 (fun _ => False) H3 F3 (fun x => x ∈ ([] : List Addr)) → K (.bl b) H3) → Makes G H2 F2 o K := fun b eb K hk v3 H3 F3 g t r3 => by
          subst eb
          cases r3 with | val r3 =>
          cases r3
          exact hk H3 F3 t
        cases o with
        | val dd =>
          cases dd with
          | bl bb =>
            refine ⟨F2, dx, dy, _, s2.ft, r1'.peek s2 e1, HRep.peek r2 s2 e2, e3, key bb rfl _ fun H3 F3 t => ⟨bb, rfl, ?_⟩⟩
            obtain ⟨a1, a2⟩ := st.alloc t
            have s3 := s2.stp t fun _ _ h => h
            cases bb with
            | false =>
              simp only [e3] at run2
              simp only [Bool.false_eq_true, if_false]
              exact run2 (.bl false) H3 F3 ow2 [] (a1.weak fun x h => h.elim (fun h => .inr (.inl h)) fun h => by cases h) s3 (.val (.bl false)) fun x h => by cases h
            | true =>
              simp only [e3] at run2
              simp only [if_true]
              refine ⟨z2, ow2, F3, s3, RunG.bind (fP := fun x => x ∈ f2 ∨ x ∈ f1) (a1.weak fun x h => ?_) (fun x h q => ?_) run2 fun w z3 v4 H4 F4 ow4 f4 _ st4 s4 r4 d4 stt dd run3 => ?_⟩
              · rcases h with h | h
                · exact .inr (.inl h)
                · exact .inr (.inr h)
              · rcases h with h | h
                · exact d2 x h q
                · exact (d x h).1 q
              · have r2' : HRep G H3 F3 σ v2 y f2 := HRep.stp (P := fun _ => False) r2 t fun _ _ h => h
                exact RunG.ap2 run3 (stt.weak fun x h => h) s4 (HRep.stp r2' st4 d2) r4
          | _ => simp only [e3] at run2; exact run2.elim
        | _ => simp only [e3] at run2; exact run2.elim
theorem z_chain {op op' : CmpOp} (ho : OpR X (compareOp op) (rV2 G f)) (ho' : OpR X (compareOp op') (rV2 G f')) (ha : PE X a (tZ G W m1)) (hb : PE X b (tZ G W m2)) (hc : PE X c (tZ G W m3)) (hm : lastMarks [op, op'] [b, c] = false) :
    PE X (.Compare a [op, op'] [b, c] pos) (tZ G W (evChain f f' m1 m2 m3)) := PE.imp (pe_chain ho ho' ha hb hc hm) fun _ _ _ h => chain_read h
theorem zt_chain {op op' : CmpOp} (ho : OpR X (compareOp op) (rV2 G f)) (ho' : OpR X (compareOp op') (rV2 G f')) (ha : PE X a (tZ G W m1)) (hb : PE X b (tZ G W m2)) (hc : PE X c (tZ G W m3)) (hm : lastMarks [op, op'] [b, c] = false) :
    PT X (.Compare a [op, op'] [b, c] pos) (tZT G W (evBl (evChain f f' m1 m2 m3))) := PT.imp (pt_chain ho ho' ha hb hc hm) fun _ _ _ h => chain_read (bl_read h)
theorem pt_ife {tA t1 t2 : TT} (hc : PT X c tA) (ha : PT X a t1) (hb : PT X b t2) : PT X (.IfExp c a b pos) (fun σ H Q => tA σ H fun k H1 => if k = true then t1 σ H1 Q else t2 σ H1 Q) := by
  refine ⟨fun pins s σ H Q I h => ?_⟩
  rw [PySem.isTrue]
  refine wpAny_bind (thn (hc.run pins s σ H _ I h) fun d s1 ⟨H1, I1, q1⟩ => ?_)
  cases d with
  | true => exact ha.run pins s1 σ H1 Q I1 q1
  | false => exact hb.run pins s1 σ H1 Q I1 q1
theorem zt_ife (hc : PT X c (tZT G W c1)) (ha : PT X a (tZT G W c2)) (hb : PT X b (tZT G W c3)) : PT X (.IfExp c a b pos) (tZT G W (evIfT c1 c2 c3)) := PT.imp (pt_ife hc ha hb) fun σ H Q h => by
  obtain ⟨z, ow, F, s, run⟩ := h
  refine ⟨z, ow, F, s, RunG.first s run fun x z1 v1 H1 F1 ow1 f1 _ st1 s1 r1 d1 run1 => ?_⟩
  obtain ⟨rfl, rfl⟩ := r1
  have go : ∀ {r : R Bool}, RunG G W σ (relT σ) H F ow r Q → RunG G W σ (relT σ) H1 F1 ow1 r Q := fun {r} h => RunG.bind (k := fun b z => .ok b z) (Q := Q) (fP := fun _ => False) (st1.weak fun x h => h.elim .inl False.elim) (fun _ h => h.elim) (by cases r <;> exact h) fun a z2 v H2 F2 ow2 g _ st2 s2 r2 d2 st _ run2 => by
    obtain ⟨rfl, rfl⟩ := r2
    exact run2 v H2 F2 ow2 [] (st.weak fun x h => h.elim .inl fun h => by cases h) s2 ⟨rfl, rfl⟩ fun x h => by cases h
  cases v1 with
  | true =>
    simp only [if_true] at run1 ⊢
    exact ⟨z1, ow1, F1, s1, go run1⟩
  | false =>
    simp only [Bool.false_eq_true, if_false] at run1 ⊢
    exact ⟨z1, ow1, F1, s1, go run1⟩
/-- a constant of the module -/
theorem z_glob {v : V} {u : Value} {d : D} {x : Str} (hg : Gl X x) (hm : X.mg x = some u) (ru : RelV v u) (hr : ∀ H F, RepD G H F v d) (hdb : (x == ("__debug__" : Str)) = false) : PE X (.Name x pos) (tZ G W (evD d)) := z_const (pe_glob hg hm ru hdb) hr
end
/-! ### forms -/
def isStar : Expr → Bool
  | .Starred _ _ => true
  | _ => false
theorem star_cons {e : Expr} {es : List Expr} {env : Env} (h : isStar e = false) : starEach (e :: es) env = (false, eval e env) :: starEach es env := by
  cases e <;> first | rfl | cases h
def noStars (es : List Expr) : Bool := es.all fun e => !isStar e
theorem noStars_cons {e : Expr} {es : List Expr} (h : noStars (e :: es) = true) : isStar e = false ∧ noStars es = true := by
  unfold noStars at h ⊢
  rw [List.all_cons, Bool.and_eq_true] at h
  exact ⟨by simpa using h.1, h.2⟩
theorem star_any {env : Env} {pos : Pos} : ∀ {es : List Expr}, noStars es = true → (backTo pos (starEach es env)).any (·.1) = false
  | [], _ => rfl
  | e :: es, h => by
    obtain ⟨h1, h2⟩ := noStars_cons h
    rw [star_cons h1]
    exact star_any h2
theorem star_all {env : Env} {pos : Pos} : ∀ {es : List Expr}, noStars es = true → (backTo pos (starEach es env)).all (!·.1) = true
  | [], _ => rfl
  | e :: es, h => by
    obtain ⟨h1, h2⟩ := noStars_cons h
    rw [star_cons h1]
    exact star_all h2
def isComp : Expr → Bool
  | .ListComp .. => true | .SetComp .. => true | .DictComp .. => true
  | _ => false
theorem swaps_no {e : Expr} {t : Option Expr} {l : Nat} {env : Env} (h : isComp e = false) : swapsWith e t l env = pure false := by
  cases e <;> first | rfl | cases h
def isSetE : Expr → Bool
  | .Set .. => true
  | _ => false
theorem fold_no {e : Expr} {env : Env} (h : isSetE e = false) : ∀ x, foldedSetIterable e env x = pure x := by
  intro x
  cases e <;> first | rfl | cases h
def isSup : Expr → Bool
  | .Call (.Name id _) [] [] _ => id == ("super" : Str)
  | _ => false
theorem attr_no {o : Expr} {m : Str} {env : Env} {w : Sem Value} (h : isSup o = false) : attributeBase o m env w = w := by
  unfold attributeBase
  split
  · rename_i id p pos
    have h : (id == ("super" : Str)) = false := h
    have h : (id != ("super" : Str)) = true := by unfold bne; rw [h]; rfl
    rw [h]
    rfl
  · rfl
/-- no test of its own kind -/
def isTst : Expr → Bool
  | .UnaryOp .Not _ _ => true | .BoolOp .. => true | .IfExp .. => true | .Compare .. => true
  | _ => false
theorem true_no {a : Expr} {env : Env} (h : isTst a = false) : ∀ whole, isTrue a env whole = (do let v ← whole; standAt a.pos; holding [v] (truthy v)) := by
  intro whole
  cases a <;> first | rfl | (cases h; done) | skip
  rename_i op x p
  cases op <;> first | rfl | cases h
def isSlc : Expr → Bool
  | .Slice .. => true
  | _ => false
theorem plain_ix {b : Expr} (h : isSlc b = false) : PlainIx b := by
  intro o i
  cases b <;> first | rfl | cases h
def isPar (tg e : Expr) : Bool := match tg, e with
  | .Tuple .., .Tuple .. => true
  | .List .., .Tuple .. => true
  | _, _ => false
theorem swapped_no {tg e : Expr} {env : Env} (h : isPar tg e = false) : swappedStores [tg] e env = pure none := by
  unfold swappedStores
  cases tg <;> cases e <;> first | rfl | cases h
theorem assign_cons {e : Expr} {es : List Expr} {env : Env} (h : isStar e = false) : assignEach (e :: es) env = (false, assign e env) :: assignEach es env := by
  cases e <;> first | rfl | cases h
theorem assign_len {env : Env} : ∀ {es : List Expr}, noStars es = true → (assignEach es env).length = es.length
  | [], _ => rfl
  | e :: es, h => by
    obtain ⟨h1, h2⟩ := noStars_cons h
    rw [assign_cons h1, List.length_cons, List.length_cons, assign_len h2]
theorem assign_star {env : Env} : ∀ {es : List Expr}, noStars es = true → (assignEach es env).findIdx? (·.1) = none
  | [], _ => rfl
  | e :: es, h => by
    obtain ⟨h1, h2⟩ := noStars_cons h
    rw [assign_cons h1, List.findIdx?_cons, assign_star h2]
    rfl
end Z
end

section
set_option maxRecDepth 100007
/-! Own ==, in, len; isinstance. -/
namespace Z
open PySem L2 PyProof.Rows
def DunAt (X : Cx) (G : Gx) (C : Ct) (k : Nat) : Prop := ∀ c u f, C.dun c u = some f → Cls X.K (G.cls c) ∧ ∃ a, Meth X.K (G.cls c) u.nm a ∧ FnX X G C k f a
def tyV (G : Gx) : Ty → Value
  | .own c => .ref (G.cls c) | .int => .type "int" | .bl => .type "bool" | .str => .type "str" | .non => .type "NoneType" | .tup => .type "tuple" | .lst => .type "list" | .dct => .type "dict"
@[simp] def tyD : D → Ty
  | .non => .non | .bl _ => .bl | .int _ => .int | .str _ => .str | .tup _ => .tup | .lst _ => .lst | .scr _ => .lst | .obj c _ => .own c | .dct _ _ => .dct | .set _ => .dct
/-- what isinstance asks of an own class -/
structure IcAt (K : PySem.W.Frag) (C : Addr) : Prop where
  cl : Cls K C
  ha : PySem.W.findIn K (.ref C) "__class__" = some (some (.builtin "object.__class__"))
  hn : PySem.W.specialIn K (.builtin "object.__class__") "__get__" = some (some (.builtin "getset_descriptor.__get__"))
  ht : PySem.W.takesIn K (.builtin "object.__class__") = some true
  hm : PySem.W.mroIn K C (.type "object") = some true
  ne : PySem.W.findIn K (.ref C) "__ne__" = some (some (.builtin "object.__ne__"))
structure IsAt (K : PySem.W.Frag) (G : Gx) (C : Ct) : Prop where
  kit : ∀ t u b, C.isi t u = some b → PySem.W.kitOne K (tyV G t) (tyV G u) = some b
  ic : ∀ c, C.ic c = true → IcAt K (G.cls c)
/-! ### a != b by an own __eq__ -/
section
open PySem.W Builtin
variable {prog : Program} {w : World} {A : Around} {E : Value → Shared → Prop} {s : Shared} {K : Frag} {x C : Addr} {h₀ : Heap} {L : Addr} {m : Str → Option Value} {ox : Obj} {od : Option Obj} {f : Addr} {b tb : Value}
theorem ne_entry {Q : Fin → Shared → Prop} (hu : A.units < cLine) (X : K.In s.heap) (I : InstAt s.heap x ox C od) (hs : findIn K (.ref C) "__eq__" = some (some (.ref f))) (hf : isFn K (.ref f) = true)
    (h : wpAny (model prog w) A (call (.ref f) [.ref x, b]) (fun v s' => ∃ r, v = .bool r ∧ Q (.done (.ret (.bool (!r)))) s') E s) : wpAny (model prog w) A (Builtin.«object.__ne__» ⟨[.ref x, b], []⟩) Q E s := by
  unfold Builtin.«object.__ne__»
  refine wpAny_bind (m := slotArgs "__ne__" 1 _) (wpAny_pure ?_)
  refine wpAny_bind (m := cRoomFor _ _) (wpAny_cRoomFor hu ?_)
  refine wpAny_bind (m := callSpecialIfBound? (.ref x) (Str.ofString "__eq__") _) (ifBound_K X I hs hf (wpAny_mono h (fun r s' hq => ?_) fun _ _ y => y))
  obtain ⟨c, rfl, hq⟩ := hq
  refine wpAny_bind (wpAny_truthy_bool ?_)
  exact wpAny_pure hq
theorem ifBoundB_K {M : Model} {name : Str} {id : String} {args : List Value} {Q : Option Value → Shared → Prop} (X : K.In s.heap) (I : InstAt s.heap x ox C od) (hs : findIn K (.ref C) name = some (some (.builtin id)))
    (hb : ∀ self, bindSpecial (.builtin id) self = pure (.builtin id, [self])) (h : wpAny M A (call (.builtin id) (.ref x :: args)) (fun v => Q (some v)) E s) : wpAny M A (callSpecialIfBound? (.ref x) name args) Q E s := by
  simp only [callSpecialIfBound?, bindSpecialIfBound?]
  refine wpAny_holding (wpAny_bind (wpAny_bind (wpAny_bind (I.type.here ((looks_findIn X hs).here ?_)))))
  refine wpAny_bind (wpAny_askSetting (wpAny_ite ?_))
  have fin : wpAny M A (call (.builtin id) ([.ref x] ++ args) >>= fun v => pure (some v)) Q E s := wpAny_bind (wpAny_mono h (fun v s' h' => wpAny_pure h') fun _ _ h' => h')
  split
  · exact wpAny_bind ((Looks.of_pure (hb _)).here (wpAny_pure (by exact fin)))
  · exact wpAny_tryCatch (wpAny_bind ((Looks.of_pure (hb _)).here (wpAny_pure (by exact fin))))
theorem ne_K {Q : Value → Shared → Prop} (hu : A.units + 1 < cLine) (F : Fr h₀ L s.heap m) (X₀ : K.In h₀) (I : InstAt s.heap x ox C od) (hb : Looks (model prog w) s.heap (typeOf b) tb) (hn : notFirst K C tb = true)
    (hne : findIn K (.ref C) "__ne__" = some (some (.builtin "object.__ne__"))) (hm : mroIn K C (.type "object") = some true) (hs : findIn K (.ref C) "__eq__" = some (some (.ref f))) (hf : isFn K (.ref f) = true)
    (h : wpAny (model prog w) A.in1 (call (.ref f) [.ref x, b]) (fun v s' => ∃ r, v = .bool r ∧ Q (.bool (!r)) s') E s) : wpAny (model prog w) A (richCompare .NotEq (.ref x) b) Q E s := by
  have X := X₀.keeps F.keep
  have one : wpAny (model prog w) A (tryCompare (.ref x) (cmpInfo .NotEq).2.1 b) (fun r s' => ∃ v, r = some v ∧ Q v s') E s := by
    unfold tryCompare
    refine wpAny_bind (ifBoundB_K X I hne PySem.F.cmp_object.ne.bind ?_)
    refine wpAny_call (codeAny_call_builtin PySem.F.cmp_object.ne.plain PySem.F.cmpEntry_ne (check_slot (i := "object.__ne__") (owner := "object") (n := "__ne__") PySem.F.cmpKind_ne PySem.F.cmpSplit_ne (I.type.andThen (looks_mroIn X hm)) (PySem.F.cmpArgs_ne _ _) ?_))
    refine ne_entry (by show A.in1.units < cLine; exact hu) X I hs hf (wpAny_mono h (fun v s' hv => ?_) fun _ _ e => e)
    obtain ⟨r, rfl, hq⟩ := hv
    exact ⟨r, rfl, wpAny_pure ⟨_, rfl, hq⟩⟩
  unfold richCompare
  simp only [oneThing_ref]
  refine wpAny_holding (wpAny_bind (wpAny_cRoomFor (Nat.lt_of_succ_lt hu) ?_))
  refine wpAny_bind (I.type.here (wpAny_bind (hb.here ?_)))
  split
  · rename_i q
    have e : subIn K tb (.ref C) = some false := by
      rcases Bool.or_eq_true_iff.mp hn with e | e
      · rw [beq_iff_eq.mp e] at q; simp at q
      · exact beq_iff_eq.mp e
    refine wpAny_bind ((looks_subIn X e).here ?_)
    simp only [Bool.false_eq_true, if_false]
    refine wpAny_bind (wpAny_mono one (fun r s' z => ?_) fun _ _ e => e)
    obtain ⟨v, rfl, hq⟩ := z
    exact wpAny_pure hq
  · refine wpAny_bind (wpAny_pure ?_)
    simp only [Bool.false_eq_true, if_false]
    refine wpAny_bind (wpAny_mono one (fun r s' z => ?_) fun _ _ e => e)
    obtain ⟨v, rfl, hq⟩ := z
    exact wpAny_pure hq
end
section
variable {G : Gx} {C : Ct} {W : WX} {X : Cx} {k f : Nat} {a : Addr} {H H1 : Hp} {F : Fz} {v : V} {d e : D}
theorem tyx_ok {K : PySem.W.Frag} (hK : G.K = K) (is : IsAt K G C) (hc : ∀ c, tyD d = .own c → C.ic c = true) (r : RepR G H F v d) : TyX K H v (tyV G (tyD d)) := by
  cases d with
  | non => cases r.non; exact .base .non
  | bl b => cases r.bl; exact .base (.bl b)
  | int i => cases r.int; exact .base (.int i)
  | str x =>
    obtain ⟨rfl, _⟩ := r.str
    exact .base (.str _)
  | tup ds =>
    obtain ⟨a, vs, rfl, hp, _⟩ := r.tups
    rcases hp with hp | ⟨_, o, its, n, h1, h2, _⟩
    · exact .base (.tup hp.2)
    · exact .kTuple (hK ▸ h1) h2
  | lst ds =>
    obtain ⟨a, vs, rfl, hp, _⟩ := r.lsts
    exact .base (.lst hp)
  | scr ns =>
    cases r with
    | of r =>
      cases r with
      | scr h =>
        rcases h with ⟨_, h | ⟨o, h⟩⟩ | ⟨o, its, n, h1, h2, _⟩
        · exact .base (.lst h)
        · exact .base (.frz h)
        · exact .kList (hK ▸ h1) h2
  | obj c fs =>
    obtain ⟨a, dx, fvs, rfl, ha, _⟩ := r.objs
    obtain ⟨h1, h2, h3, h4, h5, _⟩ := is.ic c (hc c rfl)
    exact .base (.ins ha h1 h2 h3 h4 h5)
  | dct t kvs =>
    obtain ⟨a, rfl, ⟨_, _, ha, _⟩ | ⟨_, _, ha, _⟩⟩ := r.dcts
    · exact .base (.dK ha)
    · exact .base (.dT ha)
  | set ds => cases r with | of r => cases r
@[simp] def icD (C : Ct) : D → Bool
  | .obj c _ => C.ic c
  | .set _ => false
  | _ => true
theorem icD_ok {d : D} (h : icD C d = true) : ∀ c, tyD d = .own c → C.ic c = true := fun c e => by
  cases d <;> simp only [tyD, reduceCtorEq, Ty.own.injEq] at e
  subst e; exact h
@[simp] def isiD (C : Ct) (t : Ty) (d : D) : Option O := if icD C d = true then (C.isi (tyD d) t).map fun b => .val (.bl b) else none
theorem isiD_ok {t : Ty} {o : O} (h : isiD C t d = some o) : ∃ b, C.isi (tyD d) t = some b ∧ o = .val (.bl b) ∧ ∀ c, tyD d = .own c → C.ic c = true := by
  unfold isiD at h
  split at h
  · rename_i hc
    obtain ⟨b, h1, h2⟩ := Option.map_eq_some_iff.mp h
    exact ⟨b, h1, h2.symm, icD_ok hc⟩
  · cases h
/-- isinstance(e, an own class) -/
theorem z_isi {y : Str} {p py pos : Pos} {c : Nat} {ex : Expr} {m1 : Zs → R Hd} (hK : G.K = X.K) (is : IsAt X.K G C) (hg : Gl X "isinstance") (hm : X.mg "isinstance" = none) (he : PE X ex (tZ G W m1)) (hgy : Gl X y) (hmy : X.mg y = some (.ref (G.cls c))) (hdy : (y == ("__debug__" : Str)) = false) (hs : isStar ex = false) :
    PE X (.Call (.Name "isinstance" p) [ex, .Name y py] [] pos) (tZ G W (evOp1 (isiD C (.own c)) m1)) := by
  refine PE.imp (pe_callB call_isi hg hm (by decide +kernel) (pa_cons he (pa_cons (pe_glob hgy hmy (v := .ref (G.cls c)) rfl hdy) pa_nil rfl) (star_cons hs)) (by decide) (by decide) (star_cons hs) rfl) fun σ H Q h => ?_
  obtain ⟨z, ow, F, s, run⟩ := h
  refine ⟨z, ow, F, s, RunG.first s run fun x z1 v1 H1 F1 ow1 f1 _ st1 s1 r1 d1 run1 => ?_⟩
  unfold Z.ap1 at run1
  cases e1 : peek x z1 with
  | none => rw [e1] at run1; exact run1.elim
  | some d =>
    simp only [e1] at run1
    cases e2 : isiD C (.own c) d with
    | none => simp only [e2] at run1; exact run1.elim
    | some o =>
      simp only [e2] at run1
      obtain ⟨b, h1, rfl, h3⟩ := isiD_ok e2
      have rr : RepR G H1 F1 v1 d := HRep.peek r1 s1 e1
      refine ⟨v1, .ref (G.cls c), _, _, b, rfl, .own _, tyx_ok hK is h3 rr, is.kit _ _ _ h1, ?_⟩
      exact run1 (.bl b) H1 F1 ow1 [] (st1.weak fun x h => h.elim .inl fun h => by cases h) s1 (.val (.bl b)) fun x h => by cases h
/-- isinstance(e, a built-in type) -/
def tyB : Ty → Option Str
  | .int => some "int" | .bl => some "bool" | .str => some "str" | .tup => some "tuple" | .lst => some "list" | .dct => some "dict" | _ => none
theorem z_isiB {y : Str} {p py pos : Pos} {t : Ty} {ex : Expr} {m1 : Zs → R Hd} (hK : G.K = X.K) (is : IsAt X.K G C) (hg : Gl X "isinstance") (hm : X.mg "isinstance" = none) (he : PE X ex (tZ G W m1)) (hgy : Gl X y) (hmy : X.mg y = none) (ht : tyB t = some y) (hs : isStar ex = false) :
    PE X (.Call (.Name "isinstance" p) [ex, .Name y py] [] pos) (tZ G W (evOp1 (isiD C t) m1)) := by
  have key : ∀ T : String, tyV G t = .type T → bootBuiltins y = some (.type T) → y ≠ "__name__" → (y == ("__debug__" : Str)) = false → PE X (.Call (.Name "isinstance" p) [ex, .Name y py] [] pos) (tZ G W (evOp1 (isiD C t) m1)) := fun T hT hb hn hd => by
    refine PE.imp (pe_callB call_isi hg hm (by decide +kernel) (pa_cons he (pa_cons (pe_bltn hgy hmy hb (v := .ty T) rfl hn hd) pa_nil rfl) (star_cons hs)) (by decide) (by decide) (star_cons hs) rfl) fun σ H Q h => ?_
    obtain ⟨z, ow, F, s, run⟩ := h
    refine ⟨z, ow, F, s, RunG.first s run fun x z1 v1 H1 F1 ow1 f1 _ st1 s1 r1 d1 run1 => ?_⟩
    unfold Z.ap1 at run1
    cases e1 : peek x z1 with
    | none => rw [e1] at run1; exact run1.elim
    | some d =>
      simp only [e1] at run1
      cases e2 : isiD C t d with
      | none => simp only [e2] at run1; exact run1.elim
      | some o =>
        simp only [e2] at run1
        obtain ⟨b, h1, rfl, h3⟩ := isiD_ok e2
        have rr : RepR G H1 F1 v1 d := HRep.peek r1 s1 e1
        refine ⟨v1, .ty T, _, _, b, rfl, .ty T, tyx_ok hK is h3 rr, hT ▸ is.kit _ _ _ h1, ?_⟩
        exact run1 (.bl b) H1 F1 ow1 [] (st1.weak fun x h => h.elim .inl fun h => by cases h) s1 (.val (.bl b)) fun x h => by cases h
  cases t <;> simp only [tyB, Option.some.injEq, reduceCtorEq] at ht <;> subst ht
  · exact key "int" rfl (by decide +kernel) (by decide) (by decide)
  · exact key "bool" rfl (by decide +kernel) (by decide) (by decide)
  · exact key "str" rfl (by decide +kernel) (by decide) (by decide)
  · exact key "tuple" rfl (by decide +kernel) (by decide) (by decide)
  · exact key "list" rfl (by decide +kernel) (by decide) (by decide)
  · exact key "dict" rfl (by decide +kernel) (by decide) (by decide)
/-! ### a def called with values only -/
def dunF (C : Ct) (f : Nat) (ds : List D) : Option O := if ds.length = (C.modes f).length then (match C.run f (ds.map .val) with
  | .ret o _ => some o
  | _ => none) else none
theorem repOs_val {vs : List V} {ds : List D} (r : RepDs G H F vs ds) : RepOs G H F vs (ds.map .val) [] := by
  induction ds generalizing vs with
  | nil => cases r; exact .nil
  | cons d ds ih => cases r with | cons h t => exact .cons (f := []) (.val h) (ih t) fun a h => by cases h
theorem val_ok {P : Program} {w : World} {K : PySem.W.Frag} {mg : Str → Option Value} {base : Heap} {vs : List V} {ds : List D} {o : O} {Q : VK} (fn : FnAt P w K mg base G C k f a) (ft : FT H F) (r : RepDs G H F vs ds) (e : dunF C f ds = some o) (mk : Makes G H F o Q) (E : XK) :
    ∃ fd ps, FnOk P w K mg base (L2.CX P w) k a fd ps (spZ G (C.run f) (C.modes f)) ∧ Binds K fd ps [] ∧ spZ G (C.run f) (C.modes f) vs H Q E := by
  obtain ⟨fd, ps, fn, df⟩ := fn
  obtain ⟨dvs, ds0, hv, hb, hj, _⟩ := df 0 (Nat.zero_le _)
  have : dvs = [] := List.length_eq_zero_iff.mp hj
  subst this
  cases hv
  unfold dunF at e
  split at e
  · rename_i hl
    refine ⟨fd, ps, fn, hb, by rw [r.length, hl], F, ds.map .val, [], ft, repOs_val r, (fun a h => by cases h), ?_⟩
    cases er : C.run f (ds.map .val) with
    | bad => rw [er] at e; cases e
    | exc _ _ _ => rw [er] at e; cases e
    | ret o' outs =>
      rw [er] at e
      cases e
      intro v H' F' g g' st ro _ _
      exact mk v H' F' g ⟨st.lat, st.there, fun a o _ e => st.stay a o (fun h => by cases h) e, fun a h => (st.fr a h).elim .inl fun h => .inr (h.elim (fun h => by cases h) .inr), fun a h => (st.fp a (.inl h)).elim (fun h => by cases h) .inr, fun a h => st.nf a (.inl h), fun a h => st.tr a (.inl h), st.ft⟩ ro
  · cases e
/-- the def runs, one level down or at the same -/
theorem run_at {A : Around} {pins : List (Addr × Obj)} {σ : L2.St} {s : Shared} {Q : VK} {us : List Value} {vs : List V} {fd : FuncData} {ps : List Str} {sp : Sp} {E' : Value → Shared → Prop} (hA : A.frames = X.A.frames) (hr : Room k A) (fn : FnOk X.prog X.w X.K X.mg X.base (L2.CX X.prog X.w) k a fd ps sp) (hb : Binds X.K fd ps [])
    (I : Inv X pins σ H s) (r : Vals vs us) (h : sp vs H Q E0) : wpAny (model X.prog X.w) A (call (.ref a) us) (EP X pins σ Q) E' s := by
  have hl : us.length = ps.length := by rw [← r.length]; exact fn.len _ _ _ _ h
  have e0 : Env0 X.prog X.w X.K X.mg X.base A X.stack s H := by
    have e := I.env0
    exact ⟨by rw [hA]; exact e.frames, e.mod, e.bs, e.bsz, e.funs, e.frf, e.hok, e.bare⟩
  refine wpAny_call (codeAny_mono (fn.run A X.stack s H ⟨us, []⟩ us vs Q E0 hr e0 (by have := hb s us I.kIn (by simpa using hl); simpa using this) r h) fun r s' hq => ?_)
  cases r with
  | error e => exact (passL (X := X.nox) pins σ H s e s' (I.wish _) hq).elim
  | ok fl =>
    cases fl with
    | ret u => exact I.after hq
    | next => exact hq.elim
    | brk => exact hq.elim
    | cont => exact hq.elim
/-- an operation on two values that are shared -/
def rVD2 (G : Gx) (f : D → D → Option O) : R2 := fun x y H Q => ∃ F d e o, FT H F ∧ RepD G H F x d ∧ RepD G H F y e ∧ f d e = some o ∧ Makes G H F o Q
def onlyB (o : Option O) : Option O := match o with
  | some (.val (.bl b)) => some (.val (.bl b))
  | _ => none
theorem onlyB_ok {o : Option O} {o' : O} (h : onlyB o = some o') : ∃ b, o = some (.val (.bl b)) ∧ o' = .val (.bl b) := by
  unfold onlyB at h
  split at h
  · cases h; exact ⟨_, rfl, rfl⟩
  · cases h
def okNf (C : Ct) (t : Ty) (c : Nat) : Bool := decide (t = .own c) || decide (C.isi t (.own c) = some false)
def eqDu (C : Ct) (d e : D) : Option O := match d with
  | .obj c _ => match C.dun c .eq with
    | some f => if okNf C (tyD e) c = true ∧ icD C e = true then onlyB (dunF C f [d, e]) else none
    | none => none
  | _ => none
def neDu (C : Ct) (d e : D) : Option O := match d with
  | .obj c _ => match C.dun c .eq with
    | some f => if okNf C (tyD e) c = true ∧ icD C e = true ∧ C.ic c = true then (match onlyB (dunF C f [d, e]) with
      | some (.val (.bl b)) => some (.val (.bl (!b)))
      | _ => none) else none
    | none => none
  | _ => none
def inDu (C : Ct) (neg : Bool) (d e : D) : Option O := match e with
  | .obj c _ => match C.dun c .contains with
    | some f => match onlyB (dunF C f [e, d]) with
      | some (.val (.bl b)) => some (.val (.bl (if neg = true then !b else b)))
      | _ => none
    | none => none
  | _ => none
theorem mk_bl {b : Bool} {Q : VK} {c : Bool} (mk : Makes G H F (.val (.bl c)) Q) (g : Bool → Bool) (hg : g b = c) : Makes G H F (.val (.bl b)) (fun v H' => ∃ b', v = .bl b' ∧ Q (.bl (g b')) H') := fun v H' F' gg st ro => by
  cases ro with | val r =>
  cases r
  exact ⟨b, rfl, by rw [hg]; exact mk (.bl c) H' F' [] (st.weak fun a h => by cases h) (.val (.bl c))⟩
theorem dun_eq (hK : G.K = X.K) (is : IsAt X.K G C) (du : DunAt X G C k) (hr : Room k X.A) (hu : X.A.units < cLine) : OpR X (compareOp .Eq) (rVD2 G (eqDu C)) := by
  intro pins s σ H x y v u Q I rx ry hh
  obtain ⟨F, d, e, o, ft, rd, re, hf, mk⟩ := hh
  unfold eqDu at hf
  cases d <;> simp only [reduceCtorEq] at hf
  rename_i c fs
  cases e1 : C.dun c .eq with
  | none => simp only [e1, reduceCtorEq] at hf
  | some f =>
    simp only [e1] at hf
    split at hf
    · rename_i hnf
      obtain ⟨b, h1, rfl⟩ := onlyB_ok hf
      obtain ⟨cl, a, hm, fn⟩ := du c .eq f e1
      obtain ⟨a0, dx, fvs, ex, ha, _⟩ := (RepR.of rd).objs
      subst ex
      cases (show v = Value.ref a0 from rx)
      have ty : TyX X.K H y (tyV G (tyD e)) := tyx_ok hK is (icD_ok hnf.2) (RepR.of re)
      obtain ⟨P, Z1, p, _⟩ := kit_of I ry ty
      obtain ⟨mA, J, _⟩ := ins_get I.hok ha
      obtain ⟨od, J, _⟩ := J.look
      obtain ⟨m, hF⟩ := I.fr
      obtain ⟨fd, ps, fo, hb, q⟩ := val_ok fn ft (.cons rd (.cons re .nil)) h1 (mk_bl mk id rfl) E0
      have nf : PySem.W.notFirst X.K (G.cls c) (tyV G (tyD e)) = true := by
        unfold PySem.W.notFirst
        have h := hnf.1
        unfold okNf at h
        simp only [Bool.or_eq_true, decide_eq_true_eq] at h
        rcases h with h | h
        · rw [h]
          simp [tyV]
        · have := is.kit _ _ _ h
          unfold PySem.W.kitOne at this
          split at this
          · cases this
          · have h2 : PySem.W.kitCls X.K (tyV G (tyD e)) (.ref (G.cls c)) = some false := this
            simp only [PySem.W.kitCls] at h2
            split at h2
            · rw [h2]; simp
            · cases h2
      refine PySem.W.cmp_K (op := .Eq) (tb := tyV G (tyD e)) hu hF I.ok.mod.kin J ?_ nf hm.at_ hm.fn ?_
      · exact Z1.ty _ _ I.kIn p
      · exact wpAny_mono (run_at rfl hr fo hb I (.cons rx (.cons ry .nil)) q) (fun r s' hq => by
          obtain ⟨v', H', I', rv, b', rfl, hq⟩ := hq
          cases rv
          exact ⟨.bl b', H', I', rfl, hq⟩) fun _ _ x => x
    · cases hf
theorem dun_ne (hK : G.K = X.K) (is : IsAt X.K G C) (du : DunAt X G C k) (hr : Room (k + 1) X.A) (hu : X.A.units + 1 < cLine) : OpR X (compareOp .NotEq) (rVD2 G (neDu C)) := by
  intro pins s σ H x y v u Q I rx ry hh
  obtain ⟨F, d, e, o, ft, rd, re, hf, mk⟩ := hh
  unfold neDu at hf
  cases d <;> simp only [reduceCtorEq] at hf
  rename_i c fs
  cases e1 : C.dun c .eq with
  | none => simp only [e1, reduceCtorEq] at hf
  | some f =>
    simp only [e1] at hf
    split at hf
    · rename_i hnf
      cases e2 : onlyB (dunF C f [.obj c fs, e]) with
      | none => simp only [e2, reduceCtorEq] at hf
      | some o' =>
      obtain ⟨b, h1, rfl⟩ := onlyB_ok e2
      simp only [e2, Option.some.injEq] at hf
      subst hf
      obtain ⟨cl, a, hm, fn⟩ := du c .eq f e1
      obtain ⟨a0, dx, fvs, ex, ha, _⟩ := (RepR.of rd).objs
      subst ex
      cases (show v = Value.ref a0 from rx)
      have ty : TyX X.K H y (tyV G (tyD e)) := tyx_ok hK is (icD_ok hnf.2.1) (RepR.of re)
      obtain ⟨P, Z1, p, _⟩ := kit_of I ry ty
      obtain ⟨mA, J, _⟩ := ins_get I.hok ha
      obtain ⟨od, J, _⟩ := J.look
      obtain ⟨m, hF⟩ := I.fr
      obtain ⟨fd, ps, fo, hb, q⟩ := val_ok fn ft (.cons rd (.cons re .nil)) h1 (mk_bl mk (fun b => !b) rfl) E0
      have nf : PySem.W.notFirst X.K (G.cls c) (tyV G (tyD e)) = true := by
        unfold PySem.W.notFirst
        have h := hnf.1
        unfold okNf at h
        simp only [Bool.or_eq_true, decide_eq_true_eq] at h
        rcases h with h | h
        · rw [h]
          simp [tyV]
        · have := is.kit _ _ _ h
          unfold PySem.W.kitOne at this
          split at this
          · cases this
          · have h2 : PySem.W.kitCls X.K (tyV G (tyD e)) (.ref (G.cls c)) = some false := this
            simp only [PySem.W.kitCls] at h2
            split at h2
            · rw [h2]; simp
            · cases h2
      refine ne_K (tb := tyV G (tyD e)) hu hF I.ok.mod.kin J ?_ nf (is.ic c hnf.2.2).ne (is.ic c hnf.2.2).hm hm.at_ hm.fn ?_
      · exact Z1.ty _ _ I.kIn p
      · exact wpAny_mono (run_at rfl hr.in1 fo hb I (.cons rx (.cons ry .nil)) q) (fun r s' hq => by
          obtain ⟨v', H', I', rv, b', rfl, hq⟩ := hq
          cases rv
          exact ⟨b', rfl, .bl (!b'), H', I', rfl, hq⟩) fun _ _ x => x
    · cases hf
theorem dun_in (du : DunAt X G C k) (hr : Room k X.A) (neg : Bool) : OpR X (compareOp (if neg = true then .NotIn else .In)) (rVD2 G (inDu C neg)) := by
  intro pins s σ H x y v u Q I rx ry hh
  obtain ⟨F, d, e, o, ft, rd, re, hf, mk⟩ := hh
  unfold inDu at hf
  cases e <;> simp only [reduceCtorEq] at hf
  rename_i c fs
  cases e1 : C.dun c .contains with
  | none => simp only [e1, reduceCtorEq] at hf
  | some f =>
    simp only [e1] at hf
    cases e2 : onlyB (dunF C f [.obj c fs, d]) with
    | none => simp only [e2, reduceCtorEq] at hf
    | some o' =>
      obtain ⟨b, h1, rfl⟩ := onlyB_ok e2
      simp only [e2, Option.some.injEq] at hf
      subst hf
      obtain ⟨cl, a, hm, fn⟩ := du c .contains f e1
      obtain ⟨a0, dx, fvs, ex, ha, _⟩ := (RepR.of re).objs
      subst ex
      cases (show u = Value.ref a0 from ry)
      obtain ⟨mA, J, _⟩ := ins_get I.hok ha
      obtain ⟨od, J, _⟩ := J.look
      obtain ⟨m, hF⟩ := I.fr
      obtain ⟨fd, ps, fo, hb, q⟩ := val_ok fn ft (.cons re (.cons rd .nil)) h1 (mk_bl mk (fun b => if neg = true then !b else b) rfl) E0
      cases neg with
      | false =>
        refine PySem.W.in_K hF I.ok.mod.kin J hm.at_ hm.fn (wpAny_mono (run_at rfl hr fo hb I (.cons ry (.cons rx .nil)) q) (fun r s' hq => ?_) fun _ _ x => x)
        obtain ⟨v', H', I', rv, b', rfl, hq⟩ := hq
        cases rv
        exact wpAny_truthy_bool ⟨.bl b', H', I', rfl, hq⟩
      | true =>
        refine PySem.W.notIn_K hF I.ok.mod.kin J hm.at_ hm.fn (wpAny_mono (run_at rfl hr fo hb I (.cons ry (.cons rx .nil)) q) (fun r s' hq => ?_) fun _ _ x => x)
        obtain ⟨v', H', I', rv, b', rfl, hq⟩ := hq
        cases rv
        exact wpAny_truthy_bool ⟨.bl (!b'), H', I', rfl, hq⟩
end
end Z
end

section
set_option maxRecDepth 100007
/-! Own len; comparisons with own ==; the empty dict. -/
namespace Z
open PySem L2 PyProof.Rows
/-- comparison, also in a dict -/
@[simp] def cmpF : Cop → D → D → Option O
  | .inn => inO false | .notin => inO true | op => cmpO op
@[simp] def isObj : D → Bool
  | .obj _ _ => true
  | _ => false
@[simp] def duC : Cop → D → D → Bool
  | .eq, d, _ => isObj d
  | .ne, d, _ => isObj d
  | .inn, _, e => isObj e
  | .notin, _, e => isObj e
  | _, _, _ => false
def dunC (C : Ct) : Cop → D → D → Option O
  | .eq, d, e => eqDu C d e
  | .ne, d, e => neDu C d e
  | .inn, d, e => inDu C false d e
  | .notin, d, e => inDu C true d e
  | _, _, _ => none
@[simp] def ap2D (f : D → D → Option O) (x y : Hd) (z : Zs) : R Hd := match takeD x z with
  | some (d, z1) => match takeD y z1 with
    | some (e, z2) => match f d e with
      | some o => .ok (.tmp o) z2
      | none => .bad
    | none => .bad
  | none => .bad
@[simp] def apC (C : Ct) (op : Cop) (x y : Hd) (z : Zs) : R Hd := match peek x z, peek y z with
  | some d, some e => if duC op d e = true then ap2D (dunC C op) x y z else ap2 (cmpF op) x y z
  | _, _ => .bad
@[simp] def evCmp (C : Ct) (op : Cop) (m1 m2 : Zs → R Hd) : Zs → R Hd := fun z => (m1 z).bind fun x z1 => (m2 z1).bind fun y z2 => apC C op x y z2
def rCmp (G : Gx) (C : Ct) (op : Cop) : R2 := fun x y H Q => rV2 G (cmpF op) x y H Q ∨ rVD2 G (dunC C op) x y H Q
section
variable {G : Gx} {C : Ct} {W : WX} {X : Cx} {σ : L2.St} {H H1 : Hp} {F F1 : Fz} {z : Zs} {ow ow1 : Ows} {v v' : V} {fp gp : List Addr} {fP : Addr → Prop}
theorem RunG.ap2D {Q : VK} {f2 : D → D → Option O} {h h' : Hd} (run : RunG G W σ (relE G σ) H F ow (Z.ap2D f2 h h' z) Q) (st : Stp H F (Own ow) H1 F1 (fun x => Own ow1 x ∨ x ∈ gp ∨ x ∈ fp)) (s : SRep G H1 F1 σ z ow1) (r : HRep G H1 F1 σ v h fp) (r' : HRep G H1 F1 σ v' h' gp) (d1 : ∀ x ∈ fp, ¬ Own ow1 x ∧ x ∉ gp) (d2 : ∀ x ∈ gp, ¬ Own ow1 x) : rVD2 G f2 v v' H1 Q := by
  unfold Z.ap2D at run
  cases e1 : takeD h z with
  | none => rw [e1] at run; exact run.elim
  | some p =>
    obtain ⟨d, z1⟩ := p
    simp only [e1] at run
    obtain ⟨F2, ow2, s2, rd, st2⟩ := r.takeD s (fun a h => (d1 a h).1) (fun a h => st.nf a (.inr (.inr h))) (fun a h => st.tr a (.inr (.inr h))) e1
    have tg : ∀ a ∈ gp, ∃ u, H1 a = some u := fun a h => st.tr a (.inr (.inl h))
    have n2 : ∀ a ∈ gp, ¬ (Own ow1 a ∨ a ∈ fp) := fun a h q => q.elim (d2 a h) fun q => (d1 a q).2 h
    have dj2 : ∀ a ∈ gp, ¬ Own ow2 a := fun a h q => by
      rcases st2.fp a q with x | x
      · exact n2 a h x
      · obtain ⟨u, e⟩ := tg a h
        rw [x] at e; cases e
    have nf2 : ∀ a ∈ gp, ¬ F2 a := fun a h q => by
      rcases st2.fr a q with x | x | x
      · exact st.nf a (.inr (.inl h)) x
      · exact n2 a h x
      · obtain ⟨u, e⟩ := tg a h
        rw [x] at e; cases e
    have r2 : HRep G H1 F2 σ v' h' gp := HRep.stp r' st2 n2
    have dst : ∀ x, (x ∈ gp) → ¬ (Own ow1 x ∨ x ∈ fp) := n2
    cases e2 : takeD h' z1 with
    | none => simp only [e2] at run; exact run.elim
    | some q =>
      obtain ⟨e, z2⟩ := q
      simp only [e2] at run
      obtain ⟨F3, ow3, s3, re, st3⟩ := r2.takeD s2 dj2 nf2 tg e2
      cases e3 : f2 d e with
      | none => simp only [e3] at run; exact run.elim
      | some o =>
        simp only [e3] at run
        have stA : Stp H F (Own ow) H1 F2 (fun x => Own ow2 x ∨ x ∈ gp) := by
          have a1 : Stp H F (Own ow) H1 F1 (fun x => (Own ow1 x ∨ x ∈ fp) ∨ x ∈ gp) := st.weak fun x h => by
            rcases h with (h | h) | h
            · exact .inl h
            · exact .inr (.inr h)
            · exact .inr (.inl h)
          exact (a1.frame dst st2).1
        exact ⟨F3, d, e, o, s3.ft, rd.lat st3.lat, re, e3, fun v3 H3 F4 g t r3 => RunG.fin run (stA.trans st3) s3 t r3⟩
theorem cmp_read {Q : VK} {op : Cop} {m1 m2 : Zs → R Hd} (h : tZ G W (evCmp C op m1 m2) σ H Q) : tOp (rCmp G C op) (tZ G W m1) (tZ G W m2) σ H Q := by
  obtain ⟨z, ow, F, s, run⟩ := h
  refine ⟨z, ow, F, s, RunG.first s run fun x z1 v1 H1 F1 ow1 f1 _ st1 s1 r1 d1 run1 => ?_⟩
  refine ⟨z1, ow1, F1, s1, RunG.bind st1 d1 run1 fun y z2 v2 H2 F2 ow2 f2 _ st2 s2 r2 d2 st d run2 => ?_⟩
  unfold apC at run2
  cases e1 : peek x z2 with
  | none => rw [e1] at run2; exact run2.elim
  | some dx =>
    cases e2 : peek y z2 with
    | none => rw [e1, e2] at run2; exact run2.elim
    | some dy =>
      simp only [e1, e2] at run2
      split at run2
      · exact .inr (RunG.ap2D run2 st s2 (HRep.stp r1 st2 d1) r2 d d2)
      · exact .inl (RunG.ap2 run2 st s2 (HRep.stp r1 st2 d1) r2)
theorem z_cmpC {op : Cop} {a b : Expr} {pos : Pos} {m1 m2 : Zs → R Hd} (ho : OpR X (compareOp (copOf op)) (rCmp G C op)) (ha : PE X a (tZ G W m1)) (hb : PE X b (tZ G W m2)) (hm : behindInMarks (copOf op) b = false) : PE X (.Compare a [copOf op] [b] pos) (tZ G W (evCmp C op m1 m2)) := PE.imp (pe_cmpR ho ha hb hm) fun _ _ _ h => cmp_read h
theorem zt_cmpC {op : Cop} {a b : Expr} {pos : Pos} {m1 m2 : Zs → R Hd} (ho : OpR X (compareOp (copOf op)) (rCmp G C op)) (ha : PE X a (tZ G W m1)) (hb : PE X b (tZ G W m2)) (hm : behindInMarks (copOf op) b = false) : PT X (.Compare a [copOf op] [b] pos) (tZT G W (evBl (evCmp C op m1 m2))) := PT.imp (pt_cmpR ho ha hb hm) fun σ H Q h => cmp_read (bl_read h)
theorem rcmp_ok {k : Nat} (hK : G.K = X.K) (is : IsAt X.K G C) (du : DunAt X G C k) (hr : Room (k + 1) X.A) (hu : X.A.units + 65 < cLine) (op : Cop) : OpR X (compareOp (copOf op)) (rCmp G C op) := by
  have h1 : OpR X (compareOp (copOf op)) (rV2 G (cmpF op)) := by
    cases op
    case inn => exact in_ok hK hu
    case notin => exact notin_ok hK hu
    all_goals exact cop_ok hK hu _
  refine OpR.or h1 ?_
  cases op
  case eq => exact dun_eq hK is du (hr.mono (Nat.le_succ k)) (by omega)
  case ne => exact dun_ne hK is du hr (by omega)
  case inn => exact dun_in du (hr.mono (Nat.le_succ k)) false
  case notin => exact dun_in du (hr.mono (Nat.le_succ k)) true
  all_goals
    intro pins s σ H x y v u Q I rx ry hh
    obtain ⟨F, d, e, o, ft, rd, re, hf, mk⟩ := hh
    simp only [dunC, reduceCtorEq] at hf
/-! ### len of an own thing -/
def lenDu (C : Ct) (d : D) : Option O := match d with
  | .obj c _ => match C.dun c .len with
    | some f => match dunF C f [d] with
      | some (.val (.int n)) => if 0 ≤ n ∧ n < 9223372036854775808 then some (.val (.int n)) else none
      | _ => none
    | none => none
  | _ => none
@[simp] def evLen (C : Ct) (mA : Zs → R (List Hd)) : Zs → R Hd := fun z => (mA z).bind fun hs z1 => match hs with
  | [h] => match peek h z1 with
    | some d => if isObj d = true then (match takeD h z1 with
      | some (d', z2) => match lenDu C d' with
        | some o => .ok (.tmp o) z2
        | none => .bad
      | none => .bad) else apN biLen [h] z1
    | none => .bad
  | _ => .bad
def rVD1 (G : Gx) (f : D → Option O) : List V → Hp → VK → Prop := fun xs H Q => ∃ F x d o, xs = [x] ∧ FT H F ∧ RepD G H F x d ∧ f d = some o ∧ Makes G H F o Q
theorem len_own {k : Nat} (du : DunAt X G C k) (hr : Room (k + 1) X.A) : CallR X (.builtin "len") (rVD1 G (lenDu C)) := by
  intro pins s σ H xs us Q I rs hh
  obtain ⟨F, x, d, o, rfl, ft, rd, hf, mk⟩ := hh
  unfold lenDu at hf
  cases d <;> simp only [reduceCtorEq] at hf
  rename_i c fs
  cases e1 : C.dun c .len with
  | none => simp only [e1, reduceCtorEq] at hf
  | some f =>
    simp only [e1] at hf
    cases e2 : dunF C f [.obj c fs] with
    | none => simp only [e2, reduceCtorEq] at hf
    | some o' =>
      simp only [e2] at hf
      split at hf <;> first | (cases hf; done) | skip
      rename_i n heq
      split at hf
      · rename_i hn
        cases heq
        cases hf
        obtain ⟨cl, a, hm, fn⟩ := du c .len f e1
        obtain ⟨a0, dx, fvs, ex, ha, _⟩ := (RepR.of rd).objs
        subst ex
        obtain ⟨u, rfl, ru⟩ := vals1 rs
        cases (show u = Value.ref a0 from ru)
        obtain ⟨mA, J, _⟩ := ins_get I.hok ha
        obtain ⟨od, J, _⟩ := J.look
        obtain ⟨m, hF⟩ := I.fr
        have mk' : Makes G H F (.val (.int n)) (fun v H' => v = .int n ∧ Q (.int n) H') := fun v H' F' gg st ro => by
          cases ro with | val r =>
          cases r
          exact ⟨rfl, mk (.int n) H' F' [] (st.weak fun a h => by cases h) (.val (.int n))⟩
        obtain ⟨fd, ps, fo, hb, q⟩ := val_ok fn ft (.cons rd .nil) e2 mk' E0
        refine PySem.W.len_K hF I.ok.mod.kin J hm.at_ hm.fn (wpAny_mono (run_at rfl hr.in1 fo hb I rs q) (fun r s' hq => ?_) fun _ _ x => x)
        obtain ⟨v', H', I', rv, rfl, hq⟩ := hq
        obtain ⟨t, rfl⟩ := (show ∃ t, r = Value.int n t from rv)
        exact ⟨⟨hn.1, by have := hn.2; omega⟩, .int n, H', I'.tok _, ⟨_, rfl⟩, hq⟩
      · cases hf
theorem z_len {k : Nat} {e : Expr} {es : List Expr} {p pos : Pos} {mA : Zs → R (List Hd)} (hK : G.K = X.K) (du : DunAt X G C k) (hr : Room (k + 1) X.A) (hg : Gl X "len") (hm : X.mg "len" = none) (ha : PA X (e :: es) (tZA G W mA)) (hs : noStars (e :: es) = true) : PE X (.Call (.Name "len" p) (e :: es) [] pos) (tZ G W (evLen C mA)) := by
  have hc : CallR X (.builtin "len") (fun xs H Q => rVN G biLen xs H Q ∨ rVD1 G (lenDu C) xs H Q) := by
    intro pins s σ H xs us Q I rs hh
    rcases hh with hh | hh
    · exact bi_len hK pins s σ H xs us Q I rs hh
    · exact len_own du hr pins s σ H xs us Q I rs hh
  refine PE.imp (pe_callB hc hg hm (by decide +kernel) ha (by decide) (by decide) (star_cons (noStars_cons hs).1) (star_any (noStars_cons hs).2)) fun σ H Q h => ?_
  obtain ⟨z, ow, F, s, run⟩ := h
  refine ⟨z, ow, F, s, RunG.first s run fun hs z1 vs H1 F1 ow1 f1 _ st1 s1 r1 d1 run1 => ?_⟩
  cases hs with
  | nil => exact run1.elim
  | cons h hs =>
    cases hs with
    | cons _ _ => exact run1.elim
    | nil =>
      simp only at run1
      cases e1 : peek h z1 with
      | none => simp only [e1] at run1; exact run1.elim
      | some d =>
        simp only [e1] at run1
        split at run1
        · right
          cases r1 with
          | cons r rs dj =>
            rename_i v vs f g
            cases rs
            cases e2 : takeD h z1 with
            | none => simp only [e2] at run1; exact run1.elim
            | some p =>
              obtain ⟨d', z2⟩ := p
              simp only [e2] at run1
              obtain ⟨F2, ow2, s2, rd, st2⟩ := r.takeD s1 (fun a h => d1 a (by simp [h])) (fun a h => st1.nf a (.inr (by simp [h]))) (fun a h => st1.tr a (.inr (by simp [h]))) e2
              cases e3 : lenDu C d' with
              | none => simp only [e3] at run1; exact run1.elim
              | some o =>
                simp only [e3] at run1
                exact ⟨F2, _, d', o, rfl, s2.ft, rd, e3, fun v3 H3 F4 g t r3 => RunG.fin run1 ((st1.weak fun x h => h.elim .inl fun h => .inr (by simpa using h)).trans st2) s2 t r3⟩
        · exact .inl (RunG.apN run1 st1 s1 r1)
/-! ### the empty dict -/
@[simp] def evDct0 (t : Bool) : Zs → R Hd := fun z => .ok (.tmp (.dct t [])) z
theorem z_dct0 {pos : Pos} (t : Bool) : PE X (.Dict [] [] pos) (tZ G W (evDct0 t)) := by
  cases t with
  | false =>
    refine PE.imp pe_dnewK fun σ H Q h => ?_
    obtain ⟨z, ow, F, s, run⟩ := h
    exact fun p hp => RunG.fin run s.refl s (stp_new s.ft hp) (g := [p]) (RepO.dct upd_same .nil)
  | true =>
    refine PE.imp pe_dnewT fun σ H Q h => ?_
    obtain ⟨z, ow, F, s, run⟩ := h
    exact fun p hp => RunG.fin run s.refl s (stp_new s.ft hp) (g := [p]) (RepO.dctT upd_same .nil)
end
end Z
end

section
set_option maxRecDepth 100007
/-! Methods of a text. -/
namespace Z
open PySem PySem.Spec PyProof.Rows L2
section
variable {G : Gx} {W : WX} {X : Cx} {o e : Expr} {es : List Expr} {apos pos : Pos} {mo : Zs → R Hd} {mA : Zs → R (List Hd)} {f : List D → Option O}
@[simp] def evMs (f : List D → Option O) (mo : Zs → R Hd) (mA : Zs → R (List Hd)) : Zs → R Hd := fun z => (mo z).bind fun h z1 => match peek h z1 with
  | some (.str x) => (mA z1).bind fun hs z2 => apN (fun ds => f (.str x :: ds)) hs z2
  | _ => .bad
def rMs (G : Gx) (f : List D → Option O) : V → List V → Hp → VK → Prop := fun v vs H Q => ∃ x, v = .str ⟨x.toArray⟩ ∧ txtOk x = true ∧ rVN G (fun ds => f (.str x :: ds)) vs H Q
theorem z_ms {id : String} {name : Str} (slot : Slot "str" name id) (hty : typeOf (.builtin id) = pure (.type "method_descriptor")) (hm : MtR X id (rMs G f)) (ho : PE X o (tZ G W mo)) (ha : PA X (e :: es) (tZA G W mA)) (hbase : attributeBase o name X.env (eval o X.env) = eval o X.env)
    (hfew : ((backTo pos (starEach (e :: es) X.env)).all (fun x => !x.1) && (backToKw pos (keywordEach [] X.env)).all (fun x => x.1.isSome)
      && decide ((e :: es).length + ([] : List Keyword).length + (if ([] : List Keyword).isEmpty then 0 else 1) < 30)) = true)
    (hline : (apos.endLine == pos.line) = true) (hs : starEach (e :: es) X.env = (false, eval e X.env) :: starEach es X.env) (hplain : (backTo pos (starEach es X.env)).any (·.1) = false) :
    PE X (.Call (.Attribute o name apos) (e :: es) [] pos) (tZ G W (evMs f mo mA)) :=
  PE.imp (pe_bm F.plainAttrs_str slot hty hm ho ha hbase hfew hline hs hplain) fun σ H Q h => by
    obtain ⟨z, ow, F, s, run⟩ := h
    refine ⟨z, ow, F, s, RunG.first s run fun h z1 v1 H1 F1 ow1 f1 _ st1 s1 r1 d1 run1 => ?_⟩
    cases e1 : peek h z1 with
    | none => simp only [e1] at run1; exact run1.elim
    | some d =>
      cases d <;> simp only [e1] at run1 <;> try exact run1.elim
      rename_i x
      have r2 : RepR G H1 F1 v1 (.str x) := HRep.peek r1 s1 e1
      obtain ⟨rfl, tx⟩ := r2.str
      refine ⟨rfl, z1, ow1, F1, s1, RunG.bind st1 d1 run1 fun hs z2 v2 H2 F2 ow2 f2 _ st2 s2 r2' d2 st d run2 => ?_⟩
      exact ⟨x, rfl, tx, RunG.apN run2 st s2 r2'⟩
def msCount : List D → Option O
  | [.str x, .str y] => some (.val (.int (Txt.count ⟨x.toArray⟩ ⟨y.toArray⟩)))
  | _ => none
theorem mtz_count : MtR X "str.count" (rMs G msCount) := by
  intro pins s σ H v vs u us Q I rv rs hh
  obtain ⟨x, rfl, tx, F, ds, o, ft, rd, hf, mk⟩ := hh
  replace hf : msCount (.str x :: ds) = some o := hf
  unfold msCount at hf
  split at hf
  · rename_i x' y he
    cases he
    obtain ⟨w, rfl, r⟩ := repRs1 rd
    cases hf
    obtain ⟨rfl, _⟩ := r.str
    exact mt_count pins s σ H _ _ u us Q I rv rs ⟨_, _, rfl, rfl, mk.val ft (.int _)⟩
  · cases hf
end
end Z
end

section
set_option maxRecDepth 100007
/-! list(range(..)), tuple(range(..)). -/
namespace Z
open PySem PySem.Spec PyProof.Rows L2
section
variable {G : Gx} {W : WX} {X : Cx} {a b : Expr} {p p2 pos : Pos} {m1 m2 : Zs → R Hd}
def lrgF (t : Bool) : D → D → Option O
  | .int i, .int j => if rgOk i ∧ rgOk j ∧ (j - i).toNat ≤ 16777216 then some (if t then .val (.tup (upTo i (j - i).toNat)) else .lst (upTo i (j - i).toNat)) else none
  | _, _ => none
theorem upTo_rep (H : Hp) (F : Fz) (i j : Int) : RepDs G H F (rgV i j) (upTo i (j - i).toNat) := by
  unfold rgV upTo
  generalize List.range (j - i).toNat = l
  induction l with
  | nil => exact .nil
  | cons x l ih => exact .cons (.int _) ih
theorem lrgF_ok {t : Bool} {H : Hp} {F : Fz} {v w : V} {d e : D} {o : O} {Q : VK} (h : lrgF t d e = some o) (ft : FT H F) (r1 : RepR G H F v d) (r2 : RepR G H F w e) (mk : Makes G H F o Q) :
    ∃ i j, v = .int i ∧ w = .int j ∧ RgOk i j ∧ ((t = false → ∀ q, H q = none → Q (.ref q) (upd H q (.lst (rgV i j)))) ∧ (t = true → ∀ q, H q = none → Q (.ref q) (upd H q (.tup (rgV i j))))) := by
  unfold lrgF at h
  split at h
  · split at h
    · rename_i i j hc
      obtain ⟨⟨c1, c2⟩, ⟨c3, c4⟩, c5⟩ := hc
      cases r1.int
      cases r2.int
      refine ⟨i, j, rfl, rfl, ⟨c1, c2, c3, c4, c5⟩, fun ht => ?_, fun ht => ?_⟩
      · subst ht; cases h; exact mk.lst ft (upTo_rep H F i j)
      · subst ht; cases h; exact mk.tup ft (upTo_rep H F i j)
    · cases h
  · cases h
theorem lrg1_read {t : Bool} {σ : L2.St} {H : Hp} {Q : VK} (h : tZ G W (evOp1 (lrgF t (.int 0)) m1) σ H Q) : (t = false → tLstRg (tRg1 (tZ G W m1)) σ H Q) ∧ (t = true → tTupRg (tRg1 (tZ G W m1)) σ H Q) := by
  obtain ⟨z, ow, F, s, run⟩ := h
  refine ⟨fun ht => ⟨z, ow, F, s, RunG.first s run fun x z1 v1 H1 F1 ow1 f1 _ st1 s1 r1 d1 run1 => ?_⟩, fun ht => ⟨z, ow, F, s, RunG.first s run fun x z1 v1 H1 F1 ow1 f1 _ st1 s1 r1 d1 run1 => ?_⟩⟩ <;>
  · obtain ⟨F2, d, o, ft, r2, hf, mk⟩ := RunG.ap1 run1 st1 s1 r1
    obtain ⟨i, j, hi, hj, hr, q1, q2⟩ := lrgF_ok (w := v1) hf ft (.of (.int 0)) r2 mk
    cases hi
    exact ⟨j, hj, hr, by first | exact q1 ht | exact q2 ht⟩
theorem lrg2_read {t : Bool} {σ : L2.St} {H : Hp} {Q : VK} (h : tZ G W (evOp2 (lrgF t) m1 m2) σ H Q) : (t = false → tLstRg (tRg2 (tZ G W m1) (tZ G W m2)) σ H Q) ∧ (t = true → tTupRg (tRg2 (tZ G W m1) (tZ G W m2)) σ H Q) := by
  obtain ⟨z, ow, F, s, run⟩ := h
  refine ⟨fun ht => ⟨z, ow, F, s, RunG.first s run fun x z1 v1 H1 F1 ow1 f1 _ st1 s1 r1 d1 run1 => ?_⟩, fun ht => ⟨z, ow, F, s, RunG.first s run fun x z1 v1 H1 F1 ow1 f1 _ st1 s1 r1 d1 run1 => ?_⟩⟩ <;>
  · refine ⟨z1, ow1, F1, s1, RunG.bind st1 d1 run1 fun y z2 v2 H2 F2 ow2 f2 _ st2 s2 r2 d2 st d run2 => ?_⟩
    obtain ⟨F3, d, e, o, ft, r3, r4, hf, mk⟩ := RunG.ap2 run2 st s2 (HRep.stp r1 st2 d1) r2
    obtain ⟨i, j, hi, hj, hr, q1, q2⟩ := lrgF_ok hf ft r3 r4 mk
    exact ⟨i, j, hi, hj, hr, by first | exact q1 ht | exact q2 ht⟩
def lrgNm (t : Bool) : Str := if t then "tuple" else "list"
theorem z_lrg1 (t : Bool) (hc : X.calm = true) (hg : Gl X (lrgNm t)) (hm : X.mg (lrgNm t) = none) (hg2 : Gl X "range") (hm2 : X.mg "range" = none) (ha : PE X a (tZ G W m1)) (na : starEach [a] X.env = [(false, eval a X.env)])
    (nb : starEach [.Call (.Name "range" p2) [a] [] pos] X.env = [(false, eval (.Call (.Name "range" p2) [a] [] pos) X.env)]) {pos2 : Pos} : PE X (.Call (.Name (lrgNm t) p) [.Call (.Name "range" p2) [a] [] pos] [] pos2) (tZ G W (evOp1 (lrgF t (.int 0)) m1)) := by
  cases t
  · exact PE.imp (pe_listRg hc hg hm (prg_1 hg2 hm2 ha na) nb) fun _ _ _ h => (lrg1_read h).1 rfl
  · exact PE.imp (pe_tupRg hc hg hm (prg_1 hg2 hm2 ha na) nb) fun _ _ _ h => (lrg1_read h).2 rfl
theorem z_lrg2 (t : Bool) (hc : X.calm = true) (hg : Gl X (lrgNm t)) (hm : X.mg (lrgNm t) = none) (hg2 : Gl X "range") (hm2 : X.mg "range" = none) (ha : PE X a (tZ G W m1)) (hb : PE X b (tZ G W m2)) (na : starEach [a, b] X.env = (false, eval a X.env) :: starEach [b] X.env) (na2 : starEach [b] X.env = [(false, eval b X.env)]) (hpl : (backTo pos (starEach [b] X.env)).any (·.1) = false)
    (nb : starEach [.Call (.Name "range" p2) [a, b] [] pos] X.env = [(false, eval (.Call (.Name "range" p2) [a, b] [] pos) X.env)]) {pos2 : Pos} : PE X (.Call (.Name (lrgNm t) p) [.Call (.Name "range" p2) [a, b] [] pos] [] pos2) (tZ G W (evOp2 (lrgF t) m1 m2)) := by
  cases t
  · exact PE.imp (pe_listRg hc hg hm (prg_2 hg2 hm2 ha hb na na2 hpl) nb) fun _ _ _ h => (lrg2_read h).1 rfl
  · exact PE.imp (pe_tupRg hc hg hm (prg_2 hg2 hm2 ha hb na na2 hpl) nb) fun _ _ _ h => (lrg2_read h).2 rfl
end
end Z
end

section
set_option maxRecDepth 100007
/-! x[::-1] of texts, lists, tuples. -/
namespace Z
open PySem PySem.Spec PyProof.Rows L2
theorem rev_ids (z : List Nat) : ((Builtin.Str.strSliceIndices none none (-1) z.length).filterMap ((⟨z.toArray⟩ : Str).cps[·]?)) = z.reverse := by
  have e : Builtin.Str.strSliceIndices none none (-1) z.length = (List.range z.length).reverse := by
    have h2 : Builtin.Str.strSliceIndices none none (-1) z.length = sliceRange ((z.length : Int) - 1) (-1) (-1) := by
      simp [Builtin.Str.strSliceIndices]
    rw [h2, PySem.W.krv_sliceRange, PySem.W.krv_range]
  rw [e, List.filterMap_reverse]
  congr 1
  have := PySem.W.krv_all z.toArray
  simpa using this
def tRevS (te : TE) : TE := fun σ H Q => te σ H fun x H1 => ∃ z : List Nat, x = .str ⟨z.toArray⟩ ∧ z.length ≤ sizeLine ∧ Q (.str ⟨z.reverse.toArray⟩) H1
def tRevLS (K : PySem.W.Frag) (te : TE) : TE := fun σ H Q => te σ H fun x H1 => (∃ a xs, x = .ref a ∧ SqL K H1 a xs ∧ ∀ p, H1 p = none → Q (.ref p) (upd H1 p (.lst xs.reverse))) ∨ ∃ z : List Nat, x = .str ⟨z.toArray⟩ ∧ z.length ≤ sizeLine ∧ Q (.str ⟨z.reverse.toArray⟩) H1
section
variable {G : Gx} {W : WX} {X : Cx} {m1 : Zs → R Hd} {e : Expr} {te : TE} {k : Nat} {p1 p2 p3 pos : Pos}
theorem pe_revLS (he : PE X e te) : PE X (.Subscript e (.Slice none none (some (.UnaryOp .USub (.Constant (.int 1) k p1) p2)) p3) pos) (tRevLS X.K te) := by
  refine ⟨fun pins s σ H Q I h => ?_⟩
  refine Subscript_ (thn (he.run pins s σ H _ I h) fun v s1 ⟨x, H1, I1, r1, q1⟩ => ?_)
  have hst : PO X (some (.UnaryOp .USub (.Constant (.int 1) k p1) p2)) (tPart (tUn (rU fun i => .int (-i)) (tC (.int 1)))) := po_some (pe_un un_neg pe_int)
  refine wpAny_Slice (thn (po_none.run pins s1 σ H1 (fun o H2 => o = none ∧ H2 = H1) I1 ⟨rfl, rfl⟩) fun vl s2 ⟨l, H2, I2, pl, el, e2⟩ => ?_)
  subst el e2
  refine thn (po_none.run pins s2 σ H2 (fun o H3 => o = none ∧ H3 = H2) I2 ⟨rfl, rfl⟩) fun vu s3 ⟨u, H3, I3, pu, eu, e3⟩ => ?_
  subst eu e3
  refine thn (hst.run pins s3 σ H3 (fun o H4 => o = some (-1) ∧ H4 = H3) I3 ⟨1, rfl, -1, rfl, rfl, rfl⟩) fun vs s4 ⟨o, H4, I4, ps, eo, e4⟩ => ?_
  subst eo e4
  have I5 : Inv X pins σ H4 { s4 with heap := s4.heap.push { cls := .type "slice", data := .fields #[vl, vu, vs] } } := I4.kept (t' := s4.toks) fun b ob q => Heap.get?_push_of_some _ q
  rcases q1 with ⟨a, xs, ex, hx, q⟩ | ⟨z, ex, hz, q⟩
  · subst ex
    cases r1
    obtain ⟨its, r, ht, hz⟩ := I5.list hx
    have hlen := r.length
    show wpAny (model X.prog X.w) X.A (subscriptTail e (.Slice none none (some (.UnaryOp .USub (.Constant (.int 1) k p1) p2)) p3) (.ref a) (.ref s4.heap.objs.size)) (EP X pins σ Q) X.xe { s4 with heap := s4.heap.push { cls := .type "slice", data := .fields #[vl, vu, vs] } }
    refine tail_any (ops := [.ref a, .ref s4.heap.objs.size]) ht.isList.typeIs (PySem.slot_list_getitem.lookup) ?_ (by with_unfolding_all rfl)
    refine wpAny_getItem_list_slice ht.isList (Heap.IsSliceOf.new _ vl vu vs) pl pu ps (by decide) ?_ (by rw [List.size_toArray]; omega)
    rw [PySem.W.krv_pick]
    refine ⟨.ref _, _, I5.laid (t' := s4.toks) (o := .lst xs.reverse) (fun b ob q => Heap.get?_push_of_some _ q) (Nat.le_refl _) ?_, rfl, q _ (I5.hok.fresh (Nat.le_refl _))⟩
    exact ⟨by rw [List.length_reverse]; exact hz, _, 0, r.reverse, Heap.get?_push_size _ rfl⟩
  · subst ex
    obtain ⟨t, rfl⟩ := r1
    obtain ⟨l, rfl, el⟩ := IsPart.raw pl
    obtain ⟨u, rfl, eu⟩ := IsPart.raw pu
    obtain ⟨st, rfl, es⟩ := IsPart.raw ps
    have hs : slicePicked ⟨z.toArray⟩ l u st = Builtin.Str.strSliceIndices none none (-1) z.length := by
      unfold slicePicked
      rw [el, eu, es]
      simp [Str.length]
    show wpAny (model X.prog X.w) X.A (subscriptTail e (.Slice none none (some (.UnaryOp .USub (.Constant (.int 1) k p1) p2)) p3) (.str ⟨z.toArray⟩ t) (.ref s4.heap.objs.size)) (EP X pins σ Q) X.xe { s4 with heap := s4.heap.push { cls := .type "slice", data := .fields #[partValue l, partValue u, partValue st] } }
    refine tail_any (ops := [.str ⟨z.toArray⟩ t, .ref s4.heap.objs.size]) (typeIs_str _ _ _) F.slot_str_getitem.lookup ?_ (by with_unfolding_all rfl)
    refine wpAny_getItem_str_slice (l := l) (u := u) (st := st) ⟨_, Heap.get?_push_size _ rfl, rfl, rfl⟩ (by rw [es]; rfl) ?_
    unfold sliceMade
    rw [hs, rev_ids, es]
    have hl : (⟨z.reverse.toArray⟩ : Str).length ≤ sizeLine := by
      have : (⟨z.reverse.toArray⟩ : Str).length = z.length := by simp [Str.length]
      rw [this]; exact hz
    exact ⟨hl, .str _, H4, I5.tok _, ⟨_, rfl⟩, q⟩
def revF : D → Option O
  | .str x => if x.length ≤ sizeLine then some (.val (.str x.reverse)) else none
  | .lst ds => some (.lst ds.reverse)
  | _ => none
theorem RepDs.app2 {H : Hp} {F : Fz} {us : List V} {es : List D} (r2 : RepDs G H F us es) : ∀ {vs : List V} {ds : List D}, RepDs G H F vs ds → RepDs G H F (vs ++ us) (ds ++ es)
  | _, _, .nil => r2
  | _, _, .cons a r => .cons a (RepDs.app2 r2 r)
theorem RepDs.rev {H : Hp} {F : Fz} : ∀ {vs : List V} {ds : List D}, RepDs G H F vs ds → RepDs G H F vs.reverse ds.reverse
  | _, _, .nil => .nil
  | _, _, .cons a r => by
    rw [List.reverse_cons, List.reverse_cons]; exact RepDs.app2 (.cons a .nil) (RepDs.rev r)
theorem z_rev (hK : G.K = X.K) (he : PE X e (tZ G W m1)) : PE X (.Subscript e (.Slice none none (some (.UnaryOp .USub (.Constant (.int 1) k p1) p2)) p3) pos) (tZ G W (evOp1 revF m1)) := PE.imp (pe_revLS he) fun σ H Q h => by
  obtain ⟨z, ow, F, s, run⟩ := h
  refine ⟨z, ow, F, s, RunG.first s run fun x z1 v1 H1 F1 ow1 f1 _ st1 s1 r1 d1 run1 => ?_⟩
  obtain ⟨F2, d, o, ft, r2, hf, mk⟩ := RunG.ap1 run1 st1 s1 r1
  cases d <;> simp only [revF, reduceCtorEq] at hf
  · rename_i x0
    split at hf
    · rename_i hl
      obtain ⟨rfl, t1⟩ := r2.str
      cases hf
      refine .inr ⟨_, rfl, hl, mk.val ft (.str ?_)⟩
      unfold txtOk at *
      rw [List.all_eq_true] at *
      exact fun c hc => t1 c (List.mem_reverse.mp hc)
    · cases hf
  · obtain ⟨p, vs, rfl, hp, r3⟩ := r2.lsts
    cases hf
    exact .inl ⟨p, vs, rfl, SqL.of hp, mk.lst ft r3.rev⟩
end
end Z
end

section
set_option maxRecDepth 100007
/-! isinstance with a tuple of classes. -/
namespace Z
open PySem L2 PyProof.Rows
@[simp] def anyI (C : Ct) (t : Ty) : List Ty → Option Bool
  | [] => some false
  | u :: us => match C.isi t u, anyI C t us with
    | some a, some b => some (a || b)
    | _, _ => none
@[simp] def isiDT (C : Ct) (ts : List Ty) (d : D) : Option O := if icD C d = true then (anyI C (tyD d) ts).map fun b => .val (.bl b) else none
theorem isiDT_ok {C : Ct} {ts : List Ty} {d : D} {o : O} (h : isiDT C ts d = some o) : ∃ b, anyI C (tyD d) ts = some b ∧ o = .val (.bl b) ∧ ∀ c, tyD d = .own c → C.ic c = true := by
  unfold isiDT at h
  split at h
  · rename_i hc
    obtain ⟨b, h1, h2⟩ := Option.map_eq_some_iff.mp h
    exact ⟨b, h1, h2.symm, icD_ok hc⟩
  · cases h
section
variable {G : Gx} {C : Ct} {W : WX} {X : Cx} {H : Hp}
theorem kitAny_of {K : PySem.W.Frag} (is : IsAt K G C) {t : Ty} : ∀ {ts : List Ty} {b : Bool}, anyI C t ts = some b → PySem.W.kitAny K (tyV G t) (ts.map (tyV G)) = some b
  | [], b, h => by
    cases h; rfl
  | u :: us, b, h => by
    unfold anyI at h
    cases e1 : C.isi t u with
    | none => simp only [e1] at h; cases h
    | some a =>
      cases e2 : anyI C t us with
      | none => simp only [e1, e2] at h; cases h
      | some c =>
        simp only [e1, e2, Option.some.injEq] at h
        subst h
        refine kitAny_cons (is.kit _ _ _ e1) (fun ha => ?_) fun ha => by rw [ha]; rfl
        rw [ha]
        exact kitAny_of is e2
/-- an expression that is a class -/
def CE (X : Cx) (G : Gx) (t : Ty) (e : Expr) : Prop := ∃ v, ClsV v (tyV G t) ∧ PE X e (tC v) ∧ isStar e = false
theorem ce_own {y : Str} {py : Pos} {c : Nat} (hgy : Gl X y) (hmy : X.mg y = some (.ref (G.cls c))) (hdy : (y == ("__debug__" : Str)) = false) : CE X G (.own c) (.Name y py) := ⟨.ref (G.cls c), .own _, pe_glob hgy hmy (v := .ref (G.cls c)) rfl hdy, rfl⟩
theorem ce_ty {y : Str} {py : Pos} {t : Ty} (hgy : Gl X y) (hmy : X.mg y = none) (ht : tyB t = some y) : CE X G t (.Name y py) := by
  have key : ∀ T : String, tyV G t = .type T → bootBuiltins y = some (.type T) → y ≠ "__name__" → (y == ("__debug__" : Str)) = false → CE X G t (.Name y py) := fun T hT hb hn hd =>
    ⟨.ty T, by rw [hT]; exact .ty T, pe_bltn hgy hmy hb (v := .ty T) rfl hn hd, rfl⟩
  cases t <;> simp only [tyB, Option.some.injEq, reduceCtorEq] at ht <;> subst ht
  · exact key "int" rfl (by decide +kernel) (by decide) (by decide)
  · exact key "bool" rfl (by decide +kernel) (by decide) (by decide)
  · exact key "str" rfl (by decide +kernel) (by decide) (by decide)
  · exact key "tuple" rfl (by decide +kernel) (by decide) (by decide)
  · exact key "list" rfl (by decide +kernel) (by decide) (by decide)
  · exact key "dict" rfl (by decide +kernel) (by decide) (by decide)
def tAC (vs : List V) : TA := fun _ H Q => Q vs H
theorem pa_cls : ∀ {ts : List Ty} {es : List Expr}, Paired (fun t e => CE X G t e) ts es → ∃ vs, vs.length = ts.length ∧ Paired ClsV vs (ts.map (tyV G)) ∧ PA X es (tAC vs)
  | _, _, .nil => ⟨[], rfl, .nil, PA.imp pa_nil fun _ _ _ h => h⟩
  | _, _, .cons h t => by
    obtain ⟨v, k, p, st⟩ := h
    obtain ⟨vs, hl, ks, ps⟩ := pa_cls t
    exact ⟨v :: vs, by simp [hl], .cons k ks, PA.imp (pa_cons p ps (star_cons st)) fun σ H Q h => h⟩
/-- isinstance(e, (classes)) -/
theorem z_isiT {p pt pos : Pos} {x1 : Nat} {ex : Expr} {es : List Expr} {ts : List Ty} {m1 : Zs → R Hd} (hK : G.K = X.K) (is : IsAt X.K G C) (hg : Gl X "isinstance") (hm : X.mg "isinstance" = none) (he : PE X ex (tZ G W m1)) (hc : Paired (fun t e => CE X G t e) ts es) (hl : ts.length ≤ 100) (hs : isStar ex = false) :
    PE X (.Call (.Name "isinstance" p) [ex, .Tuple es x1 pt] [] pos) (tZ G W (evOp1 (isiDT C ts) m1)) := by
  obtain ⟨vs, hvl, ks, pa⟩ := pa_cls hc
  refine PE.imp (pe_callB call_isiT hg hm (by decide +kernel) (pa_cons he (pa_cons (pe_tup pa) pa_nil rfl) (star_cons hs)) (by decide) (by decide) (star_cons hs) rfl) fun σ H Q h => ?_
  obtain ⟨z, ow, F, s, run⟩ := h
  refine ⟨z, ow, F, s, RunG.first s run fun x z1 v1 H1 F1 ow1 f1 _ st1 s1 r1 d1 run1 => ?_⟩
  refine ⟨by rw [hvl]; exact Nat.le_trans hl (by decide), fun t ht => ?_⟩
  unfold Z.ap1 at run1
  cases e1 : peek x z1 with
  | none => rw [e1] at run1; exact run1.elim
  | some d =>
    simp only [e1] at run1
    cases e2 : isiDT C ts d with
    | none => simp only [e2] at run1; exact run1.elim
    | some o =>
      simp only [e2] at run1
      obtain ⟨b, h1, rfl, h3⟩ := isiDT_ok e2
      have nw : Stp H1 F1 (fun _ => False) (upd H1 t (.tup vs)) F1 (fun x => x ∈ ([] : List Addr)) := (stp_new s1.ft ht).weak fun _ h => by cases h
      have s2 := s1.stp nw fun _ _ h => h
      have rr2 : RepR G (upd H1 t (.tup vs)) F1 v1 d := HRep.peek (HRep.stp r1 nw fun _ _ h => h) s2 e1
      refine ⟨v1, t, vs, _, _, b, rfl, upd_same, ks, tyx_ok hK is h3 rr2, kitAny_of is h1, ?_⟩
      exact RunG.fin run1 (st1.weak fun x h => .inl h) s1 nw (g := []) (show relE G σ _ _ _ (.tmp (.val (.bl b))) [] from .val (.bl b))
end
end Z
end

section
set_option maxRecDepth 100007
/-! join. -/
namespace Z
open PySem PySem.Spec PyProof.Rows L2
def strsD : List D → Option (List (List Nat))
  | [] => some []
  | .str x :: ds => (strsD ds).map (x :: ·)
  | _ => none
/-- the texts xs with sep between them -/
def joinN (S : List Nat) : List (List Nat) → List Nat
  | [] => []
  | [p] => p
  | p :: q :: r => p ++ (S ++ joinN S (q :: r))
def joinF (s : List Nat) (ds : List D) : Option O := match strsD ds with
  | some xs => if (xs.map List.length).sum + xs.length * s.length ≤ 16777216 then some (.val (.str (joinN s xs))) else none
  | none => none
def msJoin : List D → Option O
  | [.str s, .lst ds] => joinF s ds
  | [.str s, .tup ds] => joinF s ds
  | _ => none
section
variable {G : Gx} {W : WX} {X : Cx}
theorem strs_ok {H : Hp} {F : Fz} : ∀ {vs : List V} {ds : List D} {xs : List (List Nat)}, RepDs G H F vs ds → strsD ds = some xs → vs = (xs.map fun x => (⟨x.toArray⟩ : Str)).map V.str ∧ ∀ x ∈ xs, txtOk x = true
  | _, _, _, .nil, h => by cases h; exact ⟨rfl, fun _ h => by cases h⟩
  | _, _, _, .cons (d := d) r rs, h => by
    cases d <;> simp only [strsD, reduceCtorEq] at h
    rename_i x
    obtain ⟨ys, h1, rfl⟩ := Option.map_eq_some_iff.mp h
    obtain ⟨rfl, t1⟩ := (RepR.of r).str
    obtain ⟨rfl, t2⟩ := strs_ok rs h1
    exact ⟨rfl, fun y hy => (List.mem_cons.mp hy).elim (fun e => e ▸ t1) (t2 y)⟩
theorem join_tx (s : List Nat) : ∀ xs : List (List Nat), Txt.join ⟨s.toArray⟩ (xs.map fun x => (⟨x.toArray⟩ : Str)) = ⟨(joinN s xs).toArray⟩ := by
  intro xs
  rw [TL.join_eq]
  induction xs with
  | nil => rfl
  | cons x r ih =>
    cases r with
    | nil => rfl
    | cons y r =>
      show (⟨x.toArray⟩ : Str) ++ ⟨s.toArray⟩ ++ Str.join ⟨s.toArray⟩ ((y :: r).map fun x => (⟨x.toArray⟩ : Str)) = _
      rw [ih, str_append, str_append]
      show _ = (⟨(x ++ (s ++ joinN s (y :: r))).toArray⟩ : Str)
      rw [List.append_assoc]
theorem join_txt {s : List Nat} (hs : txtOk s = true) : ∀ {xs : List (List Nat)}, (∀ x ∈ xs, txtOk x = true) → txtOk (joinN s xs) = true
  | [], _ => rfl
  | [p], h => h p (by simp)
  | p :: q :: r, h => txtOk_append (h p (by simp)) (txtOk_append hs (join_txt hs fun x hx => h x (by simp [List.mem_cons.mp hx])))
theorem joinF_ok {H : Hp} {F : Fz} {vs : List V} {s : List Nat} {ds : List D} {o : O} {Q : VK} (hs : txtOk s = true) (ft : FT H F) (r : RepDs G H F vs ds) (h : joinF s ds = some o) (mk : Makes G H F o Q) :
    ∃ ys : List Str, vs = ys.map V.str ∧ (ys.map (·.length)).sum + ys.length * (⟨s.toArray⟩ : Str).length ≤ 16777216 ∧ Q (.str (Txt.join ⟨s.toArray⟩ ys)) H := by
  unfold joinF at h
  cases e : strsD ds with
  | none => simp only [e, reduceCtorEq] at h
  | some xs =>
    simp only [e] at h
    split at h
    · rename_i hl
      cases h
      obtain ⟨rfl, tx⟩ := strs_ok r e
      refine ⟨_, rfl, ?_, ?_⟩
      · rw [List.map_map, List.length_map, str_len]
        have : ((fun y : Str => y.length) ∘ fun x : List Nat => (⟨x.toArray⟩ : Str)) = List.length := funext fun x => str_len x
        rw [this]; exact hl
      · rw [join_tx]
        exact mk.val ft (.str (join_txt hs tx))
    · cases h
theorem mtz_join (hK : G.K = X.K) : MtR X "str.join" (rMs G msJoin) := by
  intro pins s σ H v vs u us Q I rv rs hh
  obtain ⟨x, rfl, tx, F, ds, o, ft, rd, hf, mk⟩ := hh
  replace hf : msJoin (.str x :: ds) = some o := hf
  unfold msJoin at hf
  split at hf
  · rename_i x' ys he
    cases he
    obtain ⟨w, rfl, r⟩ := repRs1 rd
    obtain ⟨p, ws, rfl, hp, r⟩ := r.lsts
    obtain ⟨zs, rfl, hl, q⟩ := joinF_ok tx ft r hf mk
    exact mt_join pins s σ H _ _ u us Q I rv rs ⟨_, p, zs, rfl, rfl, .inl (SqL.of hp), hl, q⟩
  · rename_i x' ys he
    cases he
    obtain ⟨w, rfl, r⟩ := repRs1 rd
    obtain ⟨p, ws, rfl, hp, r⟩ := r.tups
    obtain ⟨zs, rfl, hl, q⟩ := joinF_ok tx ft r hf mk
    exact mt_join pins s σ H _ _ u us Q I rv rs ⟨_, p, zs, rfl, rfl, .inr (hK ▸ hp.sq), hl, q⟩
  · cases hf
end
end Z
end

section
set_option maxRecDepth 100007
/-! A staticmethod called by its class. -/
namespace Z
open PySem L2 PyProof.Rows
/-- C.m is a staticmethod, its def at g -/
structure SMet (K : PySem.W.Frag) (C : Addr) (m : Str) (g : Addr) : Prop where
  rd : ClX.CRead K C (.type "type")
  at_ : ∃ p rest, PySem.W.findCls K (.ref C) (.type "type") m = some (.get (.builtin "staticmethod.__get__") (.ref p) .none (.ref C)) ∧ PySem.W.recIn K p "staticmethod" = some (.ref g :: rest)
  kp : PySem.W.keepIn K (.ref g) = true
section
variable {G : Gx} {C : Ct} {W : WX} {X : Cx} {k f : Nat} {a Cc : Addr} {e o : Expr} {es : List Expr} {x m : Str} {p pos apos : Pos} {mA : Zs → R (List Hd)}
theorem getsm_ok {A : Around} {E : Value → Shared → Prop} {pins : List (Addr × Obj)} {σ : L2.St} {H : Hp} {s : Shared} {pl : Sem Bool} {Q : Value × List Value → Shared → Prop} (I : Inv X pins σ H s) (sm : SMet X.K Cc m a)
    (h : ∀ s', Inv X pins σ H s' → Q (.ref a, []) s') : wpAny (model X.prog X.w) A (getMethod (.ref Cc) m pl) Q E s := by
  obtain ⟨p, rest, h1, h2⟩ := sm.at_
  refine PySem.W.method_cls I.kIn sm.rd.ga ?_
  refine PySem.W.cls_bind I.kIn sm.rd.rd h1 ?_
  refine wpAny_call (PySem.W.sm_get (s := { s with toks := s.toks + 1 }) I.kIn h2 (PySem.W.handed_on rfl ?_))
  exact h _ (I.tok _)
/-- C.m(e, ..) -/
theorem z_scall (fn : FnX X G C k f a) (tk : Takes X W) (hr : Room k X.A) (hg : Gl X x) (hm : X.mg x = some (.ref Cc)) (sm : SMet X.K Cc m a) (ha : PA X (e :: es) (tZA G W mA)) (hdb : (x == ("__debug__" : Str)) = false)
    (hbase : attributeBase (.Name x p) m X.env (eval (.Name x p) X.env) = eval (.Name x p) X.env) (hst : (backTo pos (starEach (e :: es) X.env)).all (!·.1) = true) (hn : (e :: es).length < 30) (hl : (apos.endLine == pos.line) = true)
    (he : starEach (e :: es) X.env = (false, eval e X.env) :: starEach es X.env) (hpl : (backTo pos (starEach es X.env)).any (·.1) = false) : PE X (.Call (.Attribute (.Name x p) m apos) (e :: es) [] pos) (tZ G W (evCallF C f mA)) := by
  have hx : PE X (.Name x p) (tC (.ref Cc)) := pe_glob hg hm (v := .ref Cc) rfl hdb
  refine ⟨fun pins s σ H Q I h => ?_⟩
  obtain ⟨z, ow, F, sr, run⟩ := h
  refine PySem.W.methodCall_KW (thn (hx.run pins s σ H (fun v H1 => v = .ref Cc ∧ H1 = H) I ⟨rfl, rfl⟩) fun u s1 ⟨v, H1, I1, r1, q1⟩ => ?_) (mcall_eq hbase hst hn hl)
  obtain ⟨rfl, rfl⟩ := q1
  obtain rfl : u = Value.ref Cc := r1
  refine getsm_ok I1 sm fun s2 I2 => ?_
  have hA : tZA G W mA σ H1 (fun vs H1 => ∃ fd ps dvs ds, FnOk X.prog X.w X.K X.mg X.base (L2.CX X.prog X.w) k a fd ps (spZ G (C.run f) (C.modes f)) ∧ Vals dvs ds ∧ Binds X.K fd ps ds ∧ spZ G (C.run f) (C.modes f) (vs ++ dvs) H1 Q (WE W σ)) :=
    ⟨z, ow, F, sr, RunG.first sr run fun hs z1 v1 H1 F1 ow1 f1 _ st1 s1 r1 d1 run1 => apF_ok fn run1 st1 s1 r1 d1⟩
  refine PySem.W.callWith_K (h₀ := X.base) (first := []) I2.ok.mod.kin sm.kp (thn (ha.run pos pins s2 σ H1 _ I2 hA) fun us s3 ⟨vs, H2, I3, r, fd, ps, dvs, ds, fn, hv, hb, q⟩ => ⟨I3.kIn, ?_⟩) he hpl
  exact run_fnSD fn hr hb hv (passAt tk σ) I3 r q
end
end Z
end

section
set_option maxRecDepth 100007
/-! A loop over a slot's own list, which may be read in the loop. -/
namespace Z
open PySem L2 PyProof.Rows
mutual
def sameD : D → D → Bool
  | .non, .non => true
  | .bl a, .bl b => a == b
  | .int a, .int b => a == b
  | .str a, .str b => a == b
  | .tup a, .tup b => sameDs a b
  | .lst a, .lst b => sameDs a b
  | .obj c a, .obj e b => c == e && sameFs a b
  | _, _ => false
def sameDs : List D → List D → Bool
  | [], [] => true
  | a :: as, b :: bs => sameD a b && sameDs as bs
  | _, _ => false
def sameFs : List (Nat × D) → List (Nat × D) → Bool
  | [], [] => true
  | (i, a) :: as, (j, b) :: bs => i == j && (sameD a b && sameFs as bs)
  | _, _ => false
end
mutual
theorem sameD_eq : ∀ {a b : D}, sameD a b = true → a = b
  | .non, b, h => by cases b <;> simp [sameD] at h; rfl
  | .bl x, b, h => by cases b <;> simp [sameD] at h; rw [h]
  | .int x, b, h => by cases b <;> simp [sameD] at h; rw [h]
  | .str x, b, h => by cases b <;> simp [sameD] at h; rw [h]
  | .tup x, b, h => by cases b <;> simp [sameD] at h; rw [sameDs_eq h]
  | .lst x, b, h => by cases b <;> simp [sameD] at h; rw [sameDs_eq h]
  | .obj c x, b, h => by cases b <;> simp [sameD] at h; rw [h.1, sameFs_eq h.2]
  | .dct _ _, b, h => by cases b <;> simp [sameD] at h
  | .set _, b, h => by cases b <;> simp [sameD] at h
  | .scr _, b, h => by cases b <;> simp [sameD] at h
theorem sameDs_eq : ∀ {a b : List D}, sameDs a b = true → a = b
  | [], b, h => by cases b <;> simp [sameDs] at h; rfl
  | x :: xs, b, h => by
    cases b <;> simp [sameDs] at h
    rw [sameD_eq h.1, sameDs_eq h.2]
theorem sameFs_eq : ∀ {a b : List (Nat × D)}, sameFs a b = true → a = b
  | [], b, h => by cases b <;> simp [sameFs] at h; rfl
  | (i, x) :: xs, b, h => by
    cases b with
    | nil => simp [sameFs] at h
    | cons q b =>
      obtain ⟨j, y⟩ := q
      simp [sameFs] at h
      rw [h.1, sameD_eq h.2.1, sameFs_eq h.2.2]
end
/-- the slot still owns these items -/
def sameAt (i : Nat) (ds : List D) (z : Zs) : Bool := match rd z i with
  | some (.lst es) => sameDs es ds
  | _ => false
theorem sameAt_ok {i : Nat} {ds : List D} {z : Zs} (h : sameAt i ds z = true) : rd z i = some (.lst ds) := by
  unfold sameAt at h
  split at h
  · rename_i es e
    rw [e, sameDs_eq h]
  · cases h
def forK (tgt : D → Zs → Option Zs) (b : Zs → S) (i : Nat) (ds0 : List D) : List D → Zs → S
  | [], z => .nxt z
  | d :: ds, z => match tgt d z with
    | none => .bad
    | some z1 => match b z1 with
      | .nxt z2 => if sameAt i ds0 z2 = true then forK tgt b i ds0 ds z2 else .bad
      | .cnt z2 => if sameAt i ds0 z2 = true then forK tgt b i ds0 ds z2 else .bad
      | .brk z2 => .nxt z2
      | r => r
def itm (en : Bool) (ds : List D) : List D := if en = true then ds.zipIdx.map fun p => .tup [.int p.2, p.1] else ds
def evIt (en : Bool) (i : Nat) : MI := if en = true then evEnum none (evSlot i) else evSeq none (evSlot i)
def exForK (tgt : D → Zs → Option Zs) (i : Nat) (en : Bool) (b : Zs → S) : Zs → S := fun z => match rd z i with
  | some (.lst ds) => forK tgt b i ds (itm en ds) z
  | _ => exFor tgt (evIt en i) b z
section
variable {G : Gx} {W : WX} {ro : Ro} {X : Cx} {pos : Pos} {tg iter : Expr} {body : List Stmt} {mb : Zs → S} {tgt : D → Zs → Option Zs} {i0 : Nat} {en : Bool}
theorem PS.or {st : Stmt} {t u : TS} (h : PS X st t) (k : PS X st u) : PS X st (fun D σ H => t D σ H ∨ u D σ H) := ⟨fun pins s σ H D I q => q.elim (h.run pins s σ H D I) (k.run pins s σ H D I)⟩
theorem iZ_l {m : MI} {l : Option Nat} {e : Expr} (h : PI X tg e (iZ G W none m)) : PI X tg e (iZ G W l m) := PI.imp h fun σ H R q => by
  obtain ⟨z, ow, F, s, run⟩ := q
  refine ⟨z, ow, F, s, ?_⟩
  cases e : m z with
  | bad => rw [e] at run; exact run
  | exc c fs z1 => rw [e] at run; exact run
  | ok a z1 =>
    rw [e] at run
    intro v H' F' ow' f st s' r d
    refine run v H' F' ow' f st s' ⟨r.1, r.2.1, fun i o e => ?_⟩ d
    have := r.2.2 i o e
    cases this
/-- .. the slot owning a list -/
theorem zs_forKo (hp : PassesOwn (model X.prog X.w) X.A X.env X.xe) (hc : X.calm = true) (hi : PI X tg iter (fun σ H R => ∃ a xs, σ[i0]? = some (some (.ref a)) ∧ SqL G.K H a xs ∧ R (if en = true then Ite G.K a else Itl G.K a) H)) (hg : PG X tg (gZ G (roL ro (some i0)) tgt)) (hb : PSs X body (tZS G W (roL ro (some i0)) mb)) (hs : ∀ x, foldedSetIterable iter X.env x = pure x) :
    PS X (.For tg iter body [] pos) (fun D σ H => ∃ z ow F ds, SRep G H F σ z ow ∧ rd z i0 = some (.lst ds) ∧ RunS G W ro σ H F ow (forK tgt mb i0 ds (itm en ds) z) D) := PS.imp (ps_for hp hc hi hg hb hs) fun D σ H h => by
  obtain ⟨z, ow, F, ds, s, e0, run⟩ := h
  have at_ : ∀ {σ2 : L2.St} {H2 : Hp} {F2 : Fz} {z2 : Zs} {ow2 : Ows}, SRep G H2 F2 σ2 z2 ow2 → rd z2 i0 = some (.lst ds) → ∃ a vs, σ2[i0]? = some (some (.ref a)) ∧ H2 a = some (.lst vs) ∧ RepDs G H2 F2 vs ds := by
    intro σ2 H2 F2 z2 ow2 s2 e2
    obtain ⟨v, ev, r⟩ := s2.rep i0 _ e2
    obtain ⟨a, vs, rfl, _, ha, rs⟩ := r.lst_inv
    exact ⟨a, vs, ev, ha, rs⟩
  obtain ⟨a, vs0, ea, ha0, rs0⟩ := at_ s e0
  refine ⟨a, vs0, ea, SqL.of ha0, ?_⟩
  have yl : ∀ {σ2 : L2.St} {H2 : Hp} {F2 : Fz} {z2 : Zs} {ow2 : Ows}, SRep G H2 F2 σ2 z2 ow2 → rd z2 i0 = some (.lst ds) → σ2[i0]? = some (some (.ref a)) → ∀ i,
      (∀ d, (itm en ds)[i]? = some d → (if en = true then Ite G.K a else Itl G.K a).go i H2 ∧ ∀ x H'', (if en = true then Ite G.K a else Itl G.K a).yld i H2 x H'' → ∃ F'', Stp H2 F2 (fun _ => False) H'' F'' (fun x => x ∈ ([] : List Addr)) ∧ RepD G H'' F'' x d) ∧ ((itm en ds).length ≤ i → (if en = true then Ite G.K a else Itl G.K a).stop i H2) := by
    intro σ2 H2 F2 z2 ow2 s2 e2 ea2 i
    obtain ⟨a', vs2, ea', ha2, rs2⟩ := at_ s2 e2
    rw [ea2] at ea'
    cases ea'
    unfold itm
    cases en with
    | true => exact (yl_enum (G := G) (H := H2) (F := F2) (f := [a]) (a := a) (ds := ds) fun H' F' lt hf => ⟨vs2, SqL.of (hf a (by simp) _ ha2), rs2.lat lt⟩) H2 F2 Lat.refl s2.ft (fun _ _ _ e => e) i
    | false => exact (yl_list (G := G) (H := H2) (F := F2) (f := [a]) (a := a) (ds := ds) fun H' F' lt hf => ⟨vs2, SqL.of (hf a (by simp) _ ha2), rs2.lat lt⟩) H2 F2 Lat.refl s2.ft (fun _ _ _ e => e) i
  refine ⟨fun i m σ2 H2 => ∃ z2 ow2 F2, SRep G H2 F2 σ2 z2 ow2 ∧ Stp H F (Own ow) H2 F2 (Own ow2) ∧ Kp (roL ro (some i0)) σ σ2 ∧ i + m = (itm en ds).length ∧ rd z2 i0 = some (.lst ds) ∧ RunS G W ro σ H F ow (forK tgt mb i0 ds ((itm en ds).drop i) z2) D,
    ⟨(itm en ds).length, z, ow, F, s, s.refl, Kp.refl, Nat.zero_add _, e0, by rw [List.drop_zero]; exact run⟩, fun i m σ2 H2 hw => ?_⟩
  obtain ⟨z2, ow2, F2, s2, st2, k2, him, e2, run2⟩ := hw
  obtain ⟨y1, y2⟩ := yl s2 e2 (by rw [kp_l k2 rfl]; exact ea) i
  by_cases hi : i < (itm en ds).length
  · have ed : (itm en ds)[i]? = some (itm en ds)[i] := List.getElem?_eq_getElem hi
    obtain ⟨go, yy⟩ := y1 _ ed
    refine .inr ⟨go, fun σ' H' => ∃ z2 ow2 F2, SRep G H' F2 σ' z2 ow2 ∧ Stp H F (Own ow) H' F2 (Own ow2) ∧ Kp (roL ro (some i0)) σ σ' ∧ i + 1 + (m - 1) = (itm en ds).length ∧ rd z2 i0 = some (.lst ds) ∧ RunS G W ro σ H F ow (forK tgt mb i0 ds ((itm en ds).drop (i + 1)) z2) D, fun σ' H' hN => ⟨m - 1, by omega, hN⟩, fun x H' hy => ?_⟩
    obtain ⟨F', sA, rd'⟩ := yy x H' hy
    have s2' : SRep G H' F' σ2 z2 ow2 := s2.stp sA fun _ _ h => h
    rw [List.drop_eq_getElem_cons hi] at run2
    unfold forK at run2
    cases e1 : tgt (itm en ds)[i] z2 with
    | none => rw [e1] at run2; exact run2.elim
    | some z3 =>
      rw [e1] at run2
      refine ⟨F', z2, ow2, _, z3, s2', rd', e1, fun σ3 ow3 s3 o3 k3 => ⟨z3, ow3, F', s3, ?_⟩⟩
      have st3 : Stp H F (Own ow) H' F' (Own ow3) := (st2.alloc sA).1.weak fun x h => .inr (o3 x h)
      have kk : Kp (roL ro (some i0)) σ σ3 := k2.trans k3
      cases e : mb z3 with
      | nxt z4 =>
        simp only [e] at run2
        split at run2
        · rename_i hsm
          exact fun σ4 H4 F4 ow4 st4 s4 k4 => ⟨z4, ow4, F4, s4, st3.trans st4, kk.trans k4, by omega, sameAt_ok hsm, run2⟩
        · exact run2.elim
      | cnt z4 =>
        simp only [e] at run2
        split at run2
        · rename_i hsm
          exact fun σ4 H4 F4 ow4 st4 s4 k4 => ⟨z4, ow4, F4, s4, st3.trans st4, kk.trans k4, by omega, sameAt_ok hsm, run2⟩
        · exact run2.elim
      | brk z4 =>
        simp only [e] at run2
        exact fun σ4 H4 F4 ow4 st4 s4 k4 => run2 σ4 H4 F4 ow4 (st3.trans st4) s4 (kp_ro (kk.trans k4))
      | ret o z4 =>
        simp only [e] at run2
        intro v σ4 H4 F4 ow4 g st4 s4 r4 d4 k4
        exact run2 v σ4 H4 F4 ow4 g (st3.trans st4) s4 r4 d4 (kp_ro (kk.trans k4))
      | exc c fs z4 =>
        simp only [e] at run2
        exact fun d σ4 H4 F4 ow4 fvs st4 s4 e4 r4 k4 => run2 d σ4 H4 F4 ow4 fvs (st3.trans st4) s4 e4 r4 (kp_ro (kk.trans k4))
      | bad => simp only [e] at run2; exact run2
  · have h0 : (itm en ds).length ≤ i := by omega
    rw [List.drop_eq_nil_of_le h0] at run2
    exact .inl ⟨y2 h0, run2 σ2 H2 F2 ow2 st2 s2 (kp_ro k2)⟩
theorem zs_forK (hp : PassesOwn (model X.prog X.w) X.A X.env X.xe) (hc : X.calm = true) (hi : PI X tg iter (fun σ H R => ∃ a xs, σ[i0]? = some (some (.ref a)) ∧ SqL G.K H a xs ∧ R (if en = true then Ite G.K a else Itl G.K a) H)) (hi2 : PI X tg iter (iZ G W none (evIt en i0)))
    (hg : PG X tg (gZ G (roL ro (some i0)) tgt)) (hb : PSs X body (tZS G W (roL ro (some i0)) mb)) (hs : ∀ x, foldedSetIterable iter X.env x = pure x) : PS X (.For tg iter body [] pos) (tZS G W ro (exForK tgt i0 en mb)) :=
  PS.imp (PS.or (zs_forKo hp hc hi hg hb hs) (zs_for hp hc (iZ_l hi2) hg hb hs)) fun D σ H h => by
    obtain ⟨z, ow, F, s, run⟩ := h
    unfold exForK at run
    cases e : rd z i0 with
    | none => rw [e] at run; exact .inr ⟨z, ow, F, s, run⟩
    | some o =>
      rw [e] at run
      cases o with
      | lst ds => exact .inl ⟨z, ow, F, ds, s, e, run⟩
      | _ => exact .inr ⟨z, ow, F, s, run⟩
theorem keep_seq {x : Str} {p : Pos} (hK : G.K = X.K) (hN : X.N[i0]? = some x) (hv : Vis X.env.scope x) (hd : (x == ("__debug__" : Str)) = false) (hcd : (x == ("__classdict__" : Str)) = false) : PI X tg (.Name x p) (fun σ H R => ∃ a xs, σ[i0]? = some (some (.ref a)) ∧ SqL G.K H a xs ∧ R (if false = true then Ite G.K a else Itl G.K a) H) :=
  PI.imp (pi_list (pe_var hN hv hd hcd)) fun σ H R h => by
    obtain ⟨a, xs, h1, h2, h3⟩ := h
    rw [hK] at h2 h3
    exact ⟨.ref a, h1, a, rfl, ⟨xs, h2⟩, h3⟩
theorem keep_enum {x : Str} {p p2 tpos : Pos} {elts : List Expr} {kk : Nat} (hK : G.K = X.K) (hg : Gl X "enumerate") (hm : X.mg "enumerate" = none) (hN : X.N[i0]? = some x) (hv : Vis X.env.scope x) (hd : (x == ("__debug__" : Str)) = false) (hcd : (x == ("__classdict__" : Str)) = false) (hs : starEach [.Name x p] X.env = [(false, eval (.Name x p) X.env)]) :
    PI X (.Tuple elts kk tpos) (.Call (.Name "enumerate" p2) [.Name x p] [] pos) (fun σ H R => ∃ a xs, σ[i0]? = some (some (.ref a)) ∧ SqL G.K H a xs ∧ R (if true = true then Ite G.K a else Itl G.K a) H) :=
  PI.imp (pi_enumB hg hm (pa_cons (pe_var hN hv hd hcd) pa_nil hs) hs) fun σ H R h => by
    obtain ⟨a, xs, h1, h2, h3⟩ := h
    rw [hK] at h2 h3
    exact ⟨.ref a, h1, .inl ⟨a, xs, rfl, h2, h3⟩⟩
end
end Z
end

section
set_option maxRecDepth 100007
/-! A for in a generator's body. -/
namespace Z
open PySem L2 PyProof.Rows
section
variable {M : Model} {A : Around} {R : GenEnd} {Y : Protocol} {n : Nat} {s₀ : Shared} {c : Code} {fs : List Frame} {s : Shared} {env : Env}
  {K : Flow → Sem PySem.Fin} {H : Value → Sem PySem.Fin} {gd : Bool → Bool} {lv : List Value → List Value}
theorem seg_For {target iter : Expr} {body : List Stmt} {pos : Pos} (hs : ∀ x, foldedSetIterable iter env x = pure x)
    (h : wpAny M (A.over c fs) (eval iter env) (fun x s₁ => wpAny M (A.over c fs) (pyIter x) (fun it s₂ => ∀ p, Seg M A R Y n s₀ (.forLoop target it body [] env) (M.den (.forLoop target it body [] env))
      (.ret (fun r => ((match r with | .ok f => (.pure f : Sem Flow) | .error e => .raise e).onRaise (cameBack env)).wrap K H gd lv) none (gd false) (lv []) c p [] :: fs) s₂) (fun x s' => Seg M A R Y n s₀ c (H x) fs s') s₁) (fun x s' => Seg M A R Y n s₀ c (H x) fs s') s) :
    Seg M A R Y n s₀ c ((exec (.For target iter body [] pos) env).wrap K H gd lv) fs s := by
  rw [exec_For]
  rw [Sem.bind_eq_wrap', Sem.wrap_wrap]
  refine seg_wrap (wpAny_standAt ?_)
  rw [Sem.bind_eq_wrap', Sem.wrap_wrap]
  refine seg_wrap (wpAny_mono h (fun x s1 h1 => ?_) fun _ _ z => z)
  rw [Sem.bind_eq_wrap', Sem.wrap_wrap]
  refine seg_wrap (wpAny_of_eq (hs x) ?_)
  rw [Sem.bind_eq_wrap', Sem.wrap_wrap]
  refine seg_wrap (wpAny_standAt ?_)
  rw [Sem.bind_eq_wrap', Sem.wrap_wrap]
  refine seg_wrap (wpAny_holding (wpAny_mono h1 (fun it s2 h2 => ?_) fun _ _ z => z))
  exact seg_call h2
end
section
variable {prog : Program} {w : World} {A : Around} {R : GenEnd} {Y : Protocol} {n : Nat} {s₀ : Shared} {fs : List Frame} {s : Shared} {env : Env}
def noteW (env : Env) (e : Value) : Sem PySem.Fin := (do noteFrame e env; theTreesLotGoes e : Sem Unit).wrap (fun _ => .raise e) .raise id id
theorem seg_forLoop {target : Expr} {it : Value} {body : List Stmt}
    (h : wpAny (model prog w) (A.over (.forLoop target it body [] env) fs) (pyNext it) (fun r s1 => match r with
      | none => Seg (model prog w) A R Y n s₀ (.forLoop target it body [] env) (.pure (.again (.block [] env))) fs s1
      | some v => wpAny (model prog w) (A.over (.forLoop target it body [] env) fs) (letOwnedTupleGo target it v) (fun _ s2 => wpAny (model prog w) (A.over (.forLoop target it body [] env) fs) (assign target env v) (fun _ s3 =>
          Seg (model prog w) A R Y n s₀ (.forLoop target it body [] env) ((execs body env).wrap (fun f => match f with
            | .next | .cont => .pure (.again (.forLoop target it body [] env))
            | .brk => .pure (.done .next)
            | .ret v => .pure (.done (.ret v))) (noteW env) id id) fs s3) (fun x s' => Seg (model prog w) A R Y n s₀ (.forLoop target it body [] env) (noteW env x) fs s') s2) (fun x s' => Seg (model prog w) A R Y n s₀ (.forLoop target it body [] env) (noteW env x) fs s') s1)
      (fun x s' => Seg (model prog w) A R Y n s₀ (.forLoop target it body [] env) (noteW env x) fs s') s) :
    Seg (model prog w) A R Y n s₀ (.forLoop target it body [] env) ((model prog w).den (.forLoop target it body [] env)) fs s := by
  show Seg _ A R Y n s₀ _ ((forTurn target it body [] env).onRaise (fun x => do noteFrame x env; theTreesLotGoes x)) fs s
  have hnote : ∀ x, ((do noteFrame x env; theTreesLotGoes x : Sem Unit).bind fun _ => (Sem.raise x : Sem PySem.Fin)) = noteW env x := fun x => by rw [Sem.bind_eq_wrap]; rfl
  have ee : ∀ (x : Value) (s' : Shared), Seg (model prog w) A R Y n s₀ (.forLoop target it body [] env) (noteW env x) fs s' → Seg (model prog w) A R Y n s₀ (.forLoop target it body [] env) ((do noteFrame x env; theTreesLotGoes x : Sem Unit).bind fun _ => (Sem.raise x : Sem PySem.Fin)) fs s' := fun x s' h => by rw [hnote]; exact h
  unfold forTurn
  rw [Sem.onRaise_eq_wrap, Sem.bind_eq_wrap', Sem.wrap_wrap]
  refine seg_wrap (wpAny_standAt ?_)
  rw [Sem.bind_eq_wrap', Sem.wrap_wrap]
  refine seg_wrap (wpAny_onRaise (wpAny_mono h (fun r s1 h1 => ?_) fun x s' hx => wpAny_standAt (ee x s' hx)))
  cases r with
  | none => exact h1
  | some v =>
    show Seg _ A R Y n s₀ _ (Sem.wrap _ _ _ _ (letOwnedTupleGo target it v >>= _)) fs s1
    rw [Sem.bind_eq_wrap', Sem.wrap_wrap]
    refine seg_wrap (wpAny_mono h1 (fun _ s2 h2 => ?_) fun x s' hx => ee x s' hx)
    rw [Sem.bind_eq_wrap', Sem.wrap_wrap]
    refine seg_wrap (wpAny_mono h2 (fun _ s3 h3 => ?_) fun x s' hx => ee x s' hx)
    rw [Sem.bind_eq_wrap', Sem.wrap_wrap]
    rw [Sem.wrap_congr (execs body env) _ _ (K' := fun f => match f with
            | .next | .cont => .pure (.again (.forLoop target it body [] env))
            | .brk => .pure (.done .next)
            | .ret v => .pure (.done (.ret v))) (H' := noteW env)
        (fun f => by cases f <;> rfl)
        (fun e => by exact hnote e)]
    exact h3
end
/-! ### for -/
def tGFor (wi : TI) (g : TG) (tb : TGn) : TGn := fun D ys σ H => wi σ H fun J H1 => ∃ W : Nat → Nat → List V → L2.St → Hp → Prop, (∃ m, W 0 m ys σ H1) ∧ ∀ i m ys σ H, W i m ys σ H →
  (J.stop i H ∧ D.nx ys σ H) ∨ (J.go i H ∧ ∃ N : List V → L2.St → Hp → Prop, (∀ ys' σ' H', N ys' σ' H' → ∃ m', m' < m ∧ W (i + 1) m' ys' σ' H') ∧ ∀ x H', J.yld i H x H' → g x σ H' fun σ2 H2 => tb { D with nx := N, ct := N, bk := D.nx } ys σ2 H2)
section
variable {X : Cx} {tg iter : Expr} {body : List Stmt} {wi : TI} {g : TG} {tb : TGn} {pos : Pos}
theorem gs_for (hp : PassesOwn (model X.prog X.w) X.A X.env X.xe) (hc : X.calm = true) (hi : PI X tg iter wi) (hg : PG X tg g) (hb : GSs X body tb) (hs : ∀ x, foldedSetIterable iter X.env x = pure x) : GS X (.For tg iter body [] pos) (tGFor wi g tb) := by
  refine ⟨fun A S ip R n ys s₀ c fs K J gd lv s σ H D g0 hn k hI ht => ?_⟩
  obtain ⟨acc0, cc0, r0, I0⟩ := hI
  refine seg_For hs ?_
  rw [g0.over]
  refine wpAny_mono (hi.run ((S, lstObj acc0 cc0) :: ip) s σ H _ I0 ht) (fun v s1 h1 => wpAny_mono h1 (fun itv s2 h2 => ?_) fun x s' hx => k.exc n s₀ x s' hx) fun x s' hx => k.exc n s₀ x s' hx
  obtain ⟨it, fp, tn, Jt, H2, e, I2, T, st2, f2, W, ⟨m0, w0⟩, turn⟩ := h2
  subst e
  intro p
  have stat : ∀ {H' : Hp} {acc : Array Value} {cc : Nat}, (∀ b ∈ fp, H' b = none) → ∀ b ∈ fp, FpOk X ((S, lstObj acc cc) :: ip) H' b := fun {H' acc cc} hn b hb => by
    obtain ⟨_, q1, q2, q3, q4, q5⟩ := f2 b hb
    refine ⟨hn b hb, q1, q2, q3, q4, fun pp hpp => ?_⟩
    rcases List.mem_append.mp hpp with h | h
    · exact q5 pp (List.mem_append_left _ h)
    · rcases List.mem_cons.mp h with rfl | h
      · exact q5 (S, lstObj acc0 cc0) (List.mem_append_right _ List.mem_cons_self)
      · exact q5 pp (List.mem_append_right _ (List.mem_cons_of_mem _ h))
  have hfS : ∀ b ∈ fp, b ≠ S := fun b hb e => (f2 b hb).2.2.2.2.2 (S, lstObj acc0 cc0) (List.mem_append_right _ List.mem_cons_self) e.symm
  have gl := fun (kk : Result → Sem PySem.Fin) => gc_loop (k := kk) (c' := .forLoop tg (.ref it) body [] X.env) (l := lv []) (kp := []) (p := p) g0 rfl rfl
  have loop : ∀ (m i n : Nat) (ys : List V) (s₀ s : Shared) (σ : L2.St) (H : Hp), n + ys.length = sizeLine → W i m ys σ H → GI X S ip ys σ H s → tn i s.heap → (∀ b ∈ fp, H b = none) →
      Seg (model X.prog X.w) A R (GY X S) n s₀ (.forLoop tg (.ref it) body [] X.env) ((model X.prog X.w).den (.forLoop tg (.ref it) body [] X.env))
        (.ret (fun r => ((match r with | .ok f => (.pure f : Sem Flow) | .error e => .raise e).onRaise (cameBack X.env)).wrap K J gd lv) none (gd false) (lv []) c p [] :: fs) s := by
    intro m
    induction m using Nat.strongRecOn with
    | ind m ih =>
      intro i n ys s₀ s σ H hn w hI st fr
      have ee : ∀ (n : Nat) (s₀ : Shared) (x : Value) (s' : Shared), X.xe x s' → Seg (model X.prog X.w) A R (GY X S) n s₀ (.forLoop tg (.ref it) body [] X.env) (noteW X.env x)
          (.ret (fun r => ((match r with | .ok f => (.pure f : Sem Flow) | .error e => .raise e).onRaise (cameBack X.env)).wrap K J gd lv) none (gd false) (lv []) c p [] :: fs) s' := fun n s₀ x s' hx => by
        refine seg_wrap ?_
        rw [(gl _).over]
        refine wpAny_bind (wpAny_mono (hp x s' hx) (fun _ s'' hcb => wpAny_theTreesLotGoes ?_) fun y s'' hcb => ?_)
        · exact seg_leaf (.error x) (seg_cameBack g0 k hcb)
        · exact seg_leaf (.error y) (seg_cameBack g0 k hcb)
      obtain ⟨acc, cc, r, I⟩ := hI
      refine seg_forLoop ?_
      rw [(gl _).over]
      rcases turn i m ys σ H w with ⟨stop, qn⟩ | ⟨go, N, hN, step⟩
      · refine wpAny_mono (T.done X rfl rfl rfl hc i _ s σ H X.xe I (stat fr) st stop) (fun r' s4 h4 => ?_) fun x s' hx => ee n s₀ x s' hx
        obtain ⟨rfl, I4⟩ := h4
        exact seg_again rfl (seg_leaf (.ok .next) (k.ok n ys s₀ s4 .next hn ⟨σ, H, ⟨acc, cc, r, I4⟩, qn⟩))
      · refine wpAny_mono (T.item X rfl rfl rfl hc i _ s σ H X.xe I (stat fr) st go) (fun r' s4 h4 => ?_) fun x s' hx => ee n s₀ x s' hx
        obtain ⟨u, rfl, h4⟩ := h4
        refine wpAny_mono h4 (fun _ s5 h5 => ?_) fun x s' hx => ee n s₀ x s' hx
        obtain ⟨x, H5, I5, r5, y5, st5, fr5⟩ := h5
        have I5' := I5.pinned (stat fr5) (T.obj _ _ st5)
        refine wpAny_mono (hg.run _ s5 σ H5 x u _ I5' r5 (step x H5 y5)) (fun _ s6 h6 => ?_) fun x s' hx => ee n s₀ x s' hx
        obtain ⟨σ6, H6, I6, q6⟩ := h6
        have gip : ∀ q ∈ ip ++ pinsAt fp s5.heap, q.1 ≠ S := fun q hq => by
          rcases List.mem_append.mp hq with h | h
          · exact g0.ip q h
          · exact hfS q.1 (of_pinsAt h).1
        have gb : GC X S (ip ++ pinsAt fp s5.heap) A (.forLoop tg (.ref it) body [] X.env) (.ret (fun r => ((match r with | .ok f => (.pure f : Sem Flow) | .error e => .raise e).onRaise (cameBack X.env)).wrap K J gd lv) none (gd false) (lv []) c p [] :: fs) id := { pn := g0.pn, ip := gip, apart := g0.apart, over := (gl _).over, split := (gl _).split, guard := (gl _).guard, gd := rfl }
        refine hb.run A S (ip ++ pinsAt fp s5.heap) R n ys s₀ _ _ _ _ id id s6 σ6 H6 { D with nx := N, ct := N, bk := D.nx } gb hn ⟨fun n' ys' s₀' s7 f hn' hs7 => ?_, fun n' s₀' x s7 hx => ee n' s₀' x s7 hx⟩ ⟨acc, cc, r, I6⟩ q6
        have again : ∀ {σ7 : L2.St} {H7 : Hp}, GI X S (ip ++ pinsAt fp s5.heap) ys' σ7 H7 s7 → N ys' σ7 H7 → Seg (model X.prog X.w) A R (GY X S) n' s₀' (.forLoop tg (.ref it) body [] X.env) (.pure (.again (.forLoop tg (.ref it) body [] X.env))) (.ret (fun r => ((match r with | .ok f => (.pure f : Sem Flow) | .error e => .raise e).onRaise (cameBack X.env)).wrap K J gd lv) none (gd false) (lv []) c p [] :: fs) s7 := fun {σ7 H7} G7 n7 => by
          obtain ⟨acc7, cc7, r7, I7⟩ := G7
          obtain ⟨m', hm, w7⟩ := hN ys' σ7 H7 n7
          have mp : ∀ {b o}, b ∈ fp → s5.heap.get? b = some o → (b, o) ∈ X.pn ++ ((S, lstObj acc7 cc7) :: (ip ++ pinsAt fp s5.heap)) := fun hb e => List.mem_append_right _ (List.mem_cons_of_mem _ (List.mem_append_right _ (mem_pinsAt hb e)))
          refine seg_again rfl (ih m' hm (i + 1) n' ys' s₀' s7 σ7 H7 hn' w7 ⟨acc7, cc7, r7, I7.unpinned (pins := (S, lstObj acc7 cc7) :: ip)⟩ (T.keep _ _ _ st5 fun b hb o e => (I7.pin (b, o) (mp hb e)).1) fun b hb => ?_)
          obtain ⟨o, e, d⟩ := T.obj _ _ st5 b hb
          exact (I7.pin (b, o) (mp hb e)).2.1
        have back : ∀ {ys : List V} {σ7 : L2.St} {H7 : Hp}, GI X S (ip ++ pinsAt fp s5.heap) ys σ7 H7 s7 → GI X S ip ys σ7 H7 s7 := fun {ys σ7 H7} G7 => by
          obtain ⟨acc7, cc7, r7, I7⟩ := G7
          exact ⟨acc7, cc7, r7, I7.unpinned (pins := (S, lstObj acc7 cc7) :: ip)⟩
        cases f with
        | next => obtain ⟨σ7, H7, G7, n7⟩ := hs7; exact again G7 n7
        | cont => obtain ⟨σ7, H7, G7, n7⟩ := hs7; exact again G7 n7
        | brk =>
          obtain ⟨σ7, H7, G7, q7⟩ := hs7
          exact seg_leaf (.ok .next) (k.ok n' ys' s₀' s7 .next hn' ⟨σ7, H7, back G7, q7⟩)
        | ret v =>
          obtain ⟨x7, σ7, H7, G7, r7, q7⟩ := hs7
          exact seg_leaf (.ok (.ret v)) (k.ok n' ys' s₀' s7 (.ret v) hn' ⟨x7, σ7, H7, back G7, r7, q7⟩)
  exact loop m0 0 n ys s₀ s2 σ H2 hn w0 ⟨acc0, cc0, r0, I2⟩ st2 fun b hb => (f2 b hb).1
end
end Z
end

section
set_option maxRecDepth 100007
/-! Generators' bodies: what is handed out, and the slots. -/
namespace Z
open PySem L2 PyProof.Rows
inductive GR where
  | nxt (z : Zs) (ds : List D) | brk (z : Zs) (ds : List D) | cnt (z : Zs) (ds : List D) | exc (c : Nat) (fs : List (Nat × D)) (z : Zs) | bad
/-- from (H, F, ow): every way on is as r says -/
def RunY (G : Gx) (W : WX) (ro : Ro) (σ : L2.St) (H : Hp) (F : Fz) (ow : Ows) (r : GR) (D : GEnds) : Prop :=
  match r with
  | .nxt z' ds => ∀ ys σ' H' F' ow', Stp H F (Own ow) H' F' (Own ow') → SRep G H' F' σ' z' ow' → RepDs G H' F' ys ds → Kp ro σ σ' → D.nx ys σ' H'
  | .brk z' ds => ∀ ys σ' H' F' ow', Stp H F (Own ow) H' F' (Own ow') → SRep G H' F' σ' z' ow' → RepDs G H' F' ys ds → Kp ro σ σ' → D.bk ys σ' H'
  | .cnt z' ds => ∀ ys σ' H' F' ow', Stp H F (Own ow) H' F' (Own ow') → SRep G H' F' σ' z' ow' → RepDs G H' F' ys ds → Kp ro σ σ' → D.ct ys σ' H'
  | .exc c fs z' => ∀ d σ' H' F' ow' fvs, Stp H F (Own ow) H' F' (Own ow') → SRep G H' F' σ' z' ow' → (H' d = some (.xd fvs) ∧ F' d) → RepFs G H' F' fvs fs → Kp ro σ σ' → W (.ref (G.cls c)) (some d) σ' H'
  | .bad => False
def tGZ (G : Gx) (W : WX) (ro : Ro) (m : Zs → List D → GR) : TGn := fun D ys σ H => ∃ z ow F ds, SRep G H F σ z ow ∧ RepDs G H F ys ds ∧ RunY G W ro σ H F ow (m z ds) D
theorem GS.imp {X : Cx} {st : Stmt} {t t' : TGn} (h : GS X st t) (k : ∀ D ys σ H, t' D ys σ H → t D ys σ H) : GS X st t' := ⟨fun A S ip R n ys s₀ c fs K J gd lv s σ H D g hn kk hI ht => h.run A S ip R n ys s₀ c fs K J gd lv s σ H D g hn kk hI (k D ys σ H ht)⟩
theorem GSs.imp {X : Cx} {st : List Stmt} {t t' : TGn} (h : GSs X st t) (k : ∀ D ys σ H, t' D ys σ H → t D ys σ H) : GSs X st t' := ⟨fun A S ip R n ys s₀ c fs K J gd lv s σ H D g hn kk hI ht => h.run A S ip R n ys s₀ c fs K J gd lv s σ H D g hn kk hI (k D ys σ H ht)⟩
def gSkip : Zs → List D → GR := fun z ds => .nxt z ds
def gSeq (a b : Zs → List D → GR) : Zs → List D → GR := fun z ds => match a z ds with
  | .nxt z1 ds1 => b z1 ds1
  | r => r
def gPl (m : Zs → S) : Zs → List D → GR := fun z ds => match m z with
  | .nxt z1 => .nxt z1 ds
  | .brk z1 => .brk z1 ds
  | .cnt z1 => .cnt z1 ds
  | .exc c fs z1 => .exc c fs z1
  | _ => .bad
def gYld (me : Zs → R Hd) : Zs → List D → GR := fun z ds => if ds.length < sizeLine then (match me z with
  | .ok h z1 => (match takeD h z1 with
    | some (d, z2) => .nxt z2 (ds ++ [d])
    | none => .bad)
  | .exc c fs z1 => .exc c fs z1
  | .bad => .bad) else .bad
def forG (tgt : D → Zs → Option Zs) (b : Zs → List D → GR) : List D → Zs → List D → GR
  | [], z, ys => .nxt z ys
  | d :: ds, z, ys => match tgt d z with
    | none => .bad
    | some z1 => match b z1 ys with
      | .nxt z2 ys2 => forG tgt b ds z2 ys2
      | .cnt z2 ys2 => forG tgt b ds z2 ys2
      | .brk z2 ys2 => .nxt z2 ys2
      | r => r
/-- nothing is lent to such a loop -/
def gFor (tgt : D → Zs → Option Zs) (mi : MI) (b : Zs → List D → GR) : Zs → List D → GR := fun z ys => match mi z with
  | .ok (ds, none) z1 => forG tgt b ds z1 ys
  | .exc c fs z1 => .exc c fs z1
  | _ => .bad
section
variable {G : Gx} {W : WX} {ro : Ro} {X : Cx} {pos : Pos} {st : Stmt} {rest : List Stmt} {m1 m2 : Zs → List D → GR} {m : Zs → S} {me : Zs → R Hd}
theorem RunY.shift {σ σ1 : L2.St} {H H1 : Hp} {F F1 : Fz} {ow ow1 : Ows} {r : GR} {D : GEnds} (run : RunY G W ro σ H F ow r D) (st : Stp H F (Own ow) H1 F1 (Own ow1)) (k : Kp ro σ σ1) : RunY G W ro σ1 H1 F1 ow1 r D := by
  cases r with
  | nxt z' ds => exact fun ys σ' H' F' ow' s r rd k' => run ys σ' H' F' ow' (st.trans s) r rd (k.trans k')
  | brk z' ds => exact fun ys σ' H' F' ow' s r rd k' => run ys σ' H' F' ow' (st.trans s) r rd (k.trans k')
  | cnt z' ds => exact fun ys σ' H' F' ow' s r rd k' => run ys σ' H' F' ow' (st.trans s) r rd (k.trans k')
  | exc c fs z' => exact fun d σ' H' F' ow' fvs s r e rf k' => run d σ' H' F' ow' fvs (st.trans s) r e rf (k.trans k')
  | bad => exact run
theorem gz_nil : GSs X [] (tGZ G W ro gSkip) := GSs.imp gss_nil fun D ys σ H h => by
  obtain ⟨z, ow, F, ds, s, rd, run⟩ := h
  exact run ys σ H F ow s.refl s rd Kp.refl
theorem gz_cons (h1 : GS X st (tGZ G W ro m1)) (h2 : GSs X rest (tGZ G W ro m2)) : GSs X (st :: rest) (tGZ G W ro (gSeq m1 m2)) := GSs.imp (gss_cons h1 h2) fun D ys σ H h => by
  obtain ⟨z, ow, F, ds, s, rd, run⟩ := h
  refine ⟨z, ow, F, ds, s, rd, ?_⟩
  unfold gSeq at run
  cases e : m1 z ds with
  | nxt z1 ds1 =>
    rw [e] at run
    exact fun ys1 σ1 H1 F1 ow1 st1 s1 rd1 k1 => ⟨z1, ow1, F1, ds1, s1, rd1, run.shift st1 k1⟩
  | brk z1 ds1 => rw [e] at run; exact run
  | cnt z1 ds1 => rw [e] at run; exact run
  | exc c fs z1 => rw [e] at run; exact run
  | bad => rw [e] at run; exact run
theorem gz_pl (h : PS X st (tZS G W ro m)) : GS X st (tGZ G W ro (gPl m)) := GS.imp (gs_ps h) fun D ys σ H h => by
  obtain ⟨z, ow, F, ds, s, rd, run⟩ := h
  refine ⟨z, ow, F, s, ?_⟩
  unfold gPl at run
  cases e : m z with
  | nxt z1 => rw [e] at run; exact fun σ1 H1 F1 ow1 st1 s1 k1 => run ys σ1 H1 F1 ow1 st1 s1 (rd.lat st1.lat) k1
  | brk z1 => rw [e] at run; exact fun σ1 H1 F1 ow1 st1 s1 k1 => run ys σ1 H1 F1 ow1 st1 s1 (rd.lat st1.lat) k1
  | cnt z1 => rw [e] at run; exact fun σ1 H1 F1 ow1 st1 s1 k1 => run ys σ1 H1 F1 ow1 st1 s1 (rd.lat st1.lat) k1
  | ret o z1 => rw [e] at run; exact run.elim
  | exc c fs z1 => rw [e] at run; exact fun d σ1 H1 F1 ow1 fvs st1 s1 e1 rf k1 => run d σ1 H1 F1 ow1 fvs st1 s1 e1 rf k1
  | bad => rw [e] at run; exact run
theorem gz_yld {e : Expr} {yp : Pos} (he : PE X e (tZ G W me)) (hco : X.env.scope.isCoroutine = false) (hi : interactive X.env = false) : GS X (.Expr (.Yield (some e) yp) pos) (tGZ G W ro (gYld me)) := GS.imp (gs_yield he hco hi) fun D ys σ H h => by
  obtain ⟨z, ow, F, ds, s, rd, run⟩ := h
  unfold gYld at run
  have hlen : ys.length = ds.length := rd.length
  split at run
  · rename_i hlt
    refine ⟨hlen ▸ hlt, z, ow, F, s, ?_⟩
    cases e : me z with
    | ok x z1 =>
      rw [e] at run
      simp only at run
      intro v H1 F1 ow1 f st1 s1 r1 d1
      cases e2 : takeD x z1 with
      | none => rw [e2] at run; exact run.elim
      | some p =>
        obtain ⟨d, z2⟩ := p
        simp only [e2] at run
        obtain ⟨F2, ow2, s2, rd2, st2⟩ := HRep.takeD r1 s1 d1 (fun a h => st1.nf a (.inr h)) (fun a h => st1.tr a (.inr h)) e2
        have stt := st1.trans st2
        exact run (ys ++ [v]) σ H1 F2 ow2 stt s2 (RepDs.append (rd.lat stt.lat) (.cons rd2 .nil)) Kp.refl
    | exc c fs z1 => rw [e] at run; exact fun d H1 F1 ow1 fvs st1 s1 e1 rf => run d σ H1 F1 ow1 fvs st1 s1 e1 rf Kp.refl
    | bad => rw [e] at run; exact run.elim
  · exact run.elim
theorem gz_for {tg iter : Expr} {body : List Stmt} {mb : Zs → List D → GR} {tgt : D → Zs → Option Zs} {mi : MI} (hp : PassesOwn (model X.prog X.w) X.A X.env X.xe) (hc : X.calm = true) (hi : PI X tg iter (iZ G W none mi)) (hg : PG X tg (gZ G ro tgt)) (hb : GSs X body (tGZ G W ro mb)) (hs : ∀ x, foldedSetIterable iter X.env x = pure x) :
    GS X (.For tg iter body [] pos) (tGZ G W ro (gFor tgt mi mb)) := GS.imp (gs_for hp hc hi hg hb hs) fun D ys σ H h => by
  obtain ⟨z, ow, F, ys0, s, rd0, run⟩ := h
  refine ⟨z, ow, F, s, ?_⟩
  unfold gFor at run
  cases e : mi z with
  | bad => rw [e] at run; exact run.elim
  | exc c fs z1 => rw [e] at run; exact fun d H1 F1 ow1 fvs st1 s1 e1 rf => run d σ H1 F1 ow1 fvs st1 s1 e1 rf Kp.refl
  | ok p z1 =>
    obtain ⟨ds, rs⟩ := p
    cases rs with
    | some q => rw [e] at run; exact run.elim
    | none =>
    rw [e] at run
    intro J H1 F1 ow1 f st1 s1 r1 d1
    obtain ⟨yl, _, _⟩ := r1
    simp only at yl run
    have st1' : Stp H F (Own ow) H1 F1 (Own ow1) := st1.weak fun x h => .inl h
    have run1 := run
    refine ⟨fun i m ys σ2 H2 => ∃ z2 ow2 F2 ys2, SRep G H2 F2 σ2 z2 ow2 ∧ RepDs G H2 F2 ys ys2 ∧ Stp H1 F1 (Own ow1) H2 F2 (Own ow2) ∧ Kp ro σ σ2 ∧ i + m = ds.length ∧ RunY G W ro σ H F ow (forG tgt mb (ds.drop i) z2 ys2) D,
      ⟨ds.length, z1, ow1, F1, ys0, s1, rd0.lat st1.lat, s1.refl, Kp.refl, Nat.zero_add _, by rw [List.drop_zero]; exact run1⟩, fun i m ys σ2 H2 hw => ?_⟩
    obtain ⟨z2, ow2, F2, ys2, s2, rd2, st2, k2, him, run2⟩ := hw
    obtain ⟨y1, y2⟩ := yl H2 F2 st2.lat s2.ft (fun a ha o e => st2.stay a o (d1 a ha) e) i
    by_cases hi : i < ds.length
    · have ed : ds[i]? = some ds[i] := List.getElem?_eq_getElem hi
      obtain ⟨go, yy⟩ := y1 _ ed
      refine .inr ⟨go, fun ys' σ' H' => ∃ z2 ow2 F2 ys2, SRep G H' F2 σ' z2 ow2 ∧ RepDs G H' F2 ys' ys2 ∧ Stp H1 F1 (Own ow1) H' F2 (Own ow2) ∧ Kp ro σ σ' ∧ i + 1 + (m - 1) = ds.length ∧ RunY G W ro σ H F ow (forG tgt mb (ds.drop (i + 1)) z2 ys2) D, fun ys' σ' H' hN => ⟨m - 1, by omega, hN⟩, fun x H' hy => ?_⟩
      obtain ⟨F', sA, rdx⟩ := yy x H' hy
      have s2' : SRep G H' F' σ2 z2 ow2 := s2.stp sA fun _ _ h => h
      rw [List.drop_eq_getElem_cons hi] at run2
      unfold forG at run2
      cases e1 : tgt ds[i] z2 with
      | none => rw [e1] at run2; exact run2.elim
      | some z3 =>
        rw [e1] at run2
        refine ⟨F', z2, ow2, _, z3, s2', rdx, e1, fun σ3 ow3 s3 o3 k3 => ⟨z3, ow3, F', ys2, s3, rd2.lat sA.lat, ?_⟩⟩
        have st3 : Stp H1 F1 (Own ow1) H' F' (Own ow3) := (st2.alloc sA).1.weak fun x h => .inr (o3 x h)
        have kk : Kp ro σ σ3 := k2.trans k3
        cases e : mb z3 ys2 with
        | nxt z4 y4 => simp only [e] at run2; exact fun ys4 σ4 H4 F4 ow4 st4 s4 rd4 k4 => ⟨z4, ow4, F4, y4, s4, rd4, st3.trans st4, kk.trans k4, by omega, run2⟩
        | cnt z4 y4 => simp only [e] at run2; exact fun ys4 σ4 H4 F4 ow4 st4 s4 rd4 k4 => ⟨z4, ow4, F4, y4, s4, rd4, st3.trans st4, kk.trans k4, by omega, run2⟩
        | brk z4 y4 => simp only [e] at run2; exact fun ys4 σ4 H4 F4 ow4 st4 s4 rd4 k4 => run2 ys4 σ4 H4 F4 ow4 (st1'.trans (st3.trans st4)) s4 rd4 (kk.trans k4)
        | exc c fs z4 => simp only [e] at run2; exact fun d σ4 H4 F4 ow4 fvs st4 s4 e4 r4 k4 => run2 d σ4 H4 F4 ow4 fvs (st1'.trans (st3.trans st4)) s4 e4 r4 (kk.trans k4)
        | bad => simp only [e] at run2; exact run2
    · have h0 : ds.length ≤ i := by omega
      rw [List.drop_eq_nil_of_le h0] at run2
      exact .inl ⟨y2 h0, run2 ys σ2 H2 F2 ow2 (st1'.trans st2) s2 rd2 k2⟩
end
end Z
end

section
set_option maxRecDepth 100007
/-! list(f(..)), f a generator's def. -/
namespace Z
open PySem L2 PyProof.Rows
def spY (G : Gx) (run : List D → RG) (n : Nat) : SpG := fun vs H cont E => vs.length = n ∧ ∃ F ds, FT H F ∧ RepDs G H F vs ds ∧ match run ds with
  | .ret out => ∀ ws H' F', Stp H F (fun _ => False) H' F' (fun _ => False) → RepDs G H' F' ws out → cont ws H'
  | .exc c fs => ∀ d H' F' fvs, Stp H F (fun _ => False) H' F' (fun _ => False) → (H' d = some (.xd fvs) ∧ F' d) → RepFs G H' F' fvs fs → E (.ref (G.cls c)) (some d) H'
  | .bad => False
def GenAt (X : Cx) (G : Gx) (run : List D → RG) (n k : Nat) (a : Addr) : Prop := ∃ fd ps, GFn X.prog X.w X.K X.mg X.base k a fd ps (spY G run n) ∧ Binds X.K fd ps []
@[simp] def evLgen (xc : Nat → Bool) (run : List D → RG) (n : Nat) (mA : Zs → R (List Hd)) : Zs → R Hd := fun z => (mA z).bind fun hs z1 => match takeDs hs z1 with
  | some (ds, z2) => if ds.length = n then (match run ds with
    | .ret out => .ok (.tmp (.lst out)) z2
    | .exc c fs => if xc c = true then .exc c fs z2 else .bad
    | .bad => .bad) else .bad
  | none => .bad
def NoStp (K : PySem.W.Frag) (G : Gx) (xc : Nat → Bool) : Prop := ∀ c, xc c = true → PySem.W.subIn K (.ref (G.cls c)) (.type "StopIteration") = some false
section
variable {G : Gx} {W : WX} {X : Cx} {k n : Nat} {a : Addr} {e : Expr} {es : List Expr} {x : Str} {p p2 pos pos2 : Pos} {mA : Zs → R (List Hd)} {xc : Nat → Bool} {run : List D → RG}
theorem z_lgen (gn : GenAt X G run n k a) (ns : NoStp X.K G xc) (tk : Takes X W) (hr : Room (k + 3) X.A) (hg : Gl X "list") (hmg : X.mg "list" = none) (hg2 : Gl X x) (hm2 : X.mg x = some (.ref a)) (hk : PySem.W.keepIn X.K (.ref a) = true) (ha : PA X (e :: es) (tZA G W mA)) (hdb : (x == ("__debug__" : Str)) = false)
    (he : starEach (e :: es) X.env = (false, eval e X.env) :: starEach es X.env) (hpl : (backTo pos2 (starEach es X.env)).any (·.1) = false) (hs1 : starEach [.Call (.Name x p2) (e :: es) [] pos2] X.env = [(false, eval (.Call (.Name x p2) (e :: es) [] pos2) X.env)]) :
    PE X (.Call (.Name "list" p) [.Call (.Name x p2) (e :: es) [] pos2] [] pos) (tZ G W (evLgen xc run n mA)) := by
  obtain ⟨fd, ps, FG, bG⟩ := gn
  refine ⟨fun pins s σ H Q I h => ?_⟩
  obtain ⟨z, ow, F, sr, rn⟩ := h
  have nst : NoStop X.K (fun cls d H => WE W σ cls d H ∧ PySem.W.subIn X.K cls (.type "StopIteration") = some false) := fun cls d H h => h.2
  have inner := (pgen_call (E := fun cls d H => WE W σ cls d H ∧ PySem.W.subIn X.K cls (.type "StopIteration") = some false) (p := p2) (pos' := pos2) FG (hr.mono (by omega)) hg2 hm2 hk bG .nil ha hdb he hpl).run pins s σ H (fun out H2 => ∀ q, H2 q = none → Q (.ref q) (upd H2 q (.lst out))) I
    ⟨z, ow, F, sr, RunG.first sr rn fun hs z1 v1 H1 F1 ow1 f1 _ st1 s1 r1 d1 run1 => by
      cases et : takeDs hs z1 with
      | none => simp only [et] at run1; exact run1.elim
      | some q =>
        obtain ⟨ds, z2⟩ := q
        simp only [et] at run1
        split at run1
        · rename_i hn
          obtain ⟨F2, ow2, s2, rd, st2⟩ := HReps.takeDs r1 s1 d1 (fun a h => st1.nf a (.inr h)) (fun a h => st1.tr a (.inr h)) et
          have stt := st1.trans st2
          rw [List.append_nil]
          refine ⟨by rw [rd.length, hn], F2, ds, s2.ft, rd, ?_⟩
          cases er : run ds with
          | bad => simp only [er] at run1; exact run1.elim
          | ret out =>
            simp only [er] at run1 ⊢
            intro ws H' F' st3 rw q hq
            have s3 := s2.stp st3 fun _ _ h => h
            have st4 : Stp H F (Own ow) H' F' (Own ow2) := (stt.alloc st3).1.weak fun x h => .inr h
            exact RunG.fin run1 st4 s3 (stp_new s3.ft hq) (g := [q]) (RepO.lst upd_same (rw.lat (lat_new hq)))
          | exc c fs =>
            simp only [er] at run1 ⊢
            split at run1
            · rename_i hc
              intro d H' F' fvs st3 e3 rf
              have s3 := s2.stp st3 fun _ _ h => h
              have st4 : Stp H F (Own ow) H' F' (Own ow2) := (stt.alloc st3).1.weak fun x h => .inr h
              exact ⟨run1 d H' F' ow2 fvs st4 s3 e3 rf, ns c hc⟩
            · exact run1.elim
        · exact run1.elim⟩
  refine wpAny_Call_Name_kw (ld_blt I hg hmg (by decide +kernel : bootBuiltins "list" = some (.type "list")) ?_ (by decide) (by decide))
  refine PyProof.Rows.callWith_type1 ?_ hs1 rfl
  rw [hs1]
  show wpAny _ _ (spliced ((false, eval (.Call (.Name x p2) (e :: es) [] pos2) X.env) :: backTo pos [])) _ _ s
  refine Calls.spliced_cons (thn inner fun u s1 ⟨H1, sc, ex, I1, hex, hG⟩ => Calls.spliced_nil ?_)
  have hsz : sc.heap.objs.size ≤ s1.heap.objs.size := by
    obtain ⟨_, _, _, _, h1, h2, _⟩ := hG
    exact Nat.le_of_lt (Nat.lt_of_le_of_lt h1 h2)
  refine call_list_new hr I1.ok.frames hG (fun S s' acc c H' ys q0 q1 q2 hl q3 q4 q5 q6 q7 q8 => ?_) fun e' s' g hc => ?_
  · exact ⟨.ref S, upd H' S (.lst ys), I1.drained (Nat.le_trans hsz q0) hl q1 q2 hex q3 q4 q5 q6 q7, rfl, q8 S q7⟩
  · have kin : X.K.In s'.heap := by
      obtain ⟨_, _, _, _, _, _, fl, _, ub, _⟩ := id hc
      refine I1.ok.mod.kin.keeps fun b o eb => fl.1 b o (ub.keep b o (I1.bs b o eb).1 (I1.bs b o eb).2 fun hm => ?_)
      have hm2 := List.mem_cons.mp (I1.stkSub b hm)
      rcases hm2 with z | z
      · have h1 := Heap.lt_size eb
        have h2 := Nat.le_trans I1.ok.bsz I1.ok.above
        rw [z] at h1
        exact (Nat.lt_irrefl _ (Nat.lt_of_lt_of_le h1 h2)).elim
      · exact I1.ok.nofr eb z
    refine ⟨notStop_of nst kin hc, passAt tk σ pins H1 sc e' _ I1 ?_⟩
    obtain ⟨a, B, H', cls, d, z1, fl, z2, ub, z3, z4, z5, z6⟩ := hc
    exact ⟨a, B, H', cls, d, z1, fl, z2, ub, z3, z4, allBare_setGen z5 rfl, z6.1⟩
end
end Z
end

section
set_option maxRecDepth 100007
set_option maxHeartbeats 2000007
/-! raise of an own exception. -/
namespace Z
open PySem L2 PyProof.Rows
def AK.okD (ds : List D) : AK → Bool
  | .kon _ => true
  | .par j => decide (1 ≤ j) && decide (j - 1 < ds.length)
  | .strP j => decide (1 ≤ j) && (match ds[j - 1]? with
    | some (.int i) => decide (i.natAbs.log2 < 1920)
    | _ => false)
def addD (ds : List D) : List (Nat × Nat) → List (Nat × D) → List (Nat × D)
  | [], fs => fs
  | (f, j) :: r, fs => addD ds r ((f, ds.getD (j - 1) .non) :: fs)
def Xc.ok (xc : Xc) (ds : List D) : Bool := decide (ds.length = xc.n) && xc.aks.all (fun a => a.okD ds)
def exRaise (xc : Option Xc) (c : Nat) (mA : Zs → R (List Hd)) : Zs → S := match xc with
  | none => fun _ => .bad
  | some xc => fun z => (mA z).bindS fun hs z1 => match takeDs hs z1 with
    | some (ds, z2) => if xc.ok ds = true then .exc c (addD ds xc.l []) z2 else .bad
    | none => .bad
section
variable {G : Gx} {H : Hp} {F : Fz} {vs : List V} {ds : List D} {a : Addr}
theorem repDs_get (r : RepDs G H F vs ds) : ∀ {i : Nat} {d : D}, ds[i]? = some d → ∃ v, vs[i]? = some v ∧ RepD G H F v d := by
  induction ds generalizing vs with
  | nil => intro i d e; simp at e
  | cons d0 ds ih =>
    cases r with
    | cons h t =>
      intro i d e
      cases i with
      | zero => simp at e; subst e; exact ⟨_, rfl, h⟩
      | succ i => exact ih t (by simpa using e)
theorem ak_okD {k : AK} (r : RepDs G H F vs ds) (h : k.okD ds = true) : k.ok (.ref a :: vs) := by
  have sh : ∀ {j : Nat}, 1 ≤ j → (V.ref a :: vs)[j]? = vs[j - 1]? := fun {j} hj => by
    obtain ⟨i, rfl⟩ : ∃ i, j = i + 1 := ⟨j - 1, by omega⟩
    simp
  cases k with
  | kon x => trivial
  | par j =>
    unfold AK.okD at h
    simp only [Bool.and_eq_true, decide_eq_true_eq] at h
    have hl : j - 1 < vs.length := by rw [r.length]; exact h.2
    exact ⟨_, (sh h.1).trans (List.getElem?_eq_getElem hl)⟩
  | strP j =>
    unfold AK.okD at h
    simp only [Bool.and_eq_true, decide_eq_true_eq] at h
    obtain ⟨h1, h2⟩ := h
    split at h2
    · rename_i i e
      obtain ⟨v, e1, rv⟩ := repDs_get r e
      cases rv
      exact ⟨i, (sh h1).trans e1, of_decide_eq_true h2⟩
    · cases h2
/-- the fields as texts -/
def xl (G : Gx) (l : List (Nat × Nat)) : List (Str × Nat) := l.map fun p => (G.name p.1, p.2)
theorem addF_rep (r : RepDs G H F vs ds) : ∀ {l : List (Nat × Nat)} {fvs : List (Str × V)} {fs : List (Nat × D)}, (∀ p ∈ l, p.1 < G.nm.length ∧ 1 ≤ p.2 ∧ p.2 - 1 < ds.length) → RepFs G H F fvs fs → RepFs G H F (addF (.ref a :: vs) (xl G l) fvs) (addD ds l fs)
  | [], fvs, fs, _, q => q
  | (f, j) :: l, fvs, fs, hp, q => by
    obtain ⟨h1, h2, h3⟩ := hp (f, j) (by simp)
    have h2 : 1 ≤ j := h2
    have h3 : j - 1 < ds.length := h3
    obtain ⟨i, rfl⟩ : ∃ i, j = i + 1 := ⟨j - 1, by omega⟩
    have e : ds[i]? = some ds[i] := List.getElem?_eq_getElem (by omega)
    obtain ⟨v, e1, rv⟩ := repDs_get r e
    have ev : (V.ref a :: vs).getD (i + 1) .non = v := by rw [List.getD_eq_getElem?_getD, List.getElem?_cons_succ, e1]; rfl
    have ed : ds.getD (i + 1 - 1) .non = ds[i] := by rw [List.getD_eq_getElem?_getD, Nat.add_sub_cancel, e]; rfl
    show RepFs G H F (addF _ (xl G l) ((G.name f, (V.ref a :: vs).getD (i + 1) .non) :: fvs)) (addD ds l ((f, ds.getD (i + 1 - 1) .non) :: fs))
    rw [ev, ed]
    exact addF_rep r (fun p hp' => hp p (by simp [hp'])) (.cons h1 rfl rv q)
end
/-- what is to be known to raise the class c -/
structure ExAt (P : Program) (w : World) (K : PySem.W.Frag) (mg : Str → Option Value) (base : Heap) (G : Gx) (c : Nat) (xc : Xc) (k : Nat) : Prop where
  T : OexC K (G.cls c)
  make : ∃ fI fd ps, PySem.W.findIn K (.ref (G.cls c)) "__init__" = some (some (.ref fI)) ∧ PySem.W.typeIn K (.ref fI) = some (.type "function") ∧ FnOk P w K mg base (L2.CX P w) k fI fd ps (spI (G.cls c) xc.n (xl G xc.l) xc.aks) ∧ Binds K fd ps []
  fl : ∀ p ∈ xc.l, p.1 < G.nm.length ∧ 1 ≤ p.2 ∧ p.2 - 1 < xc.n
  sm : xc.n ≤ 900
section
variable {G : Gx} {W : WX} {ro : Ro} {X : Cx} {e : Expr} {es : List Expr} {pos p p2 : Pos} {x : Str} {mA : Zs → R (List Hd)} {c k : Nat} {xc : Option Xc}
theorem zs_raise (ex : ∀ q, xc = some q → ExAt X.prog X.w X.K X.mg X.base G c q k) (hc : X.calm = true) (tk : Takes X W) (hr : Room (k + 1) X.A) (hg : Gl X x) (hm : X.mg x = some (.ref (G.cls c))) (ha : PA X (e :: es) (tZA G W mA)) (hdb : (x == ("__debug__" : Str)) = false)
    (he : starEach (e :: es) X.env = (false, eval e X.env) :: starEach es X.env) (hpl : (backTo p2 (starEach es X.env)).any (·.1) = false) : PS X (.Raise (some (.Call (.Name x p) (e :: es) [] p2)) none pos) (tZS G W ro (exRaise xc c mA)) := by
  cases xc with
  | none =>
    refine PS.imp ps_never fun D σ H h => ?_
    obtain ⟨z, ow, F, s, run⟩ := h
    exact run.elim
  | some q =>
    obtain ⟨T, ⟨fI, fd, ps, i1, i2, fn, hb⟩, fl, sm⟩ := ex q rfl
    refine PS.imp (ps_raise hc tk (pmk_oex (CX := L2.CX X.prog X.w) (dvs := []) T i1 i2 fn hr hb .nil (passes_call tk fun _ _ _ _ z => z.elim) hg hm ha hdb he hpl)) fun D σ H h => ?_
    obtain ⟨z, ow, F, s, run⟩ := h
    refine ⟨z, ow, F, s, RunS.first s run fun hs z1 v1 H1 F1 ow1 f1 _ st1 s1 r1 d1 run1 => ?_⟩
    cases e1 : takeDs hs z1 with
    | none => simp only [e1] at run1; exact run1.elim
    | some pr =>
      obtain ⟨ds, z2⟩ := pr
      simp only [e1] at run1
      split at run1
      · rename_i hok
        obtain ⟨F2, ow2, s2, r2, st2⟩ := taken st1 s1 r1 d1 e1
        unfold Xc.ok at hok
        simp only [Bool.and_eq_true, decide_eq_true_eq, List.all_eq_true] at hok
        obtain ⟨hl, hak⟩ := hok
        have hv : v1.length = q.n := by rw [r2.length]; exact hl
        refine ⟨by omega, fun a ha1 => ?_⟩
        rw [List.append_nil]
        refine ⟨by rw [List.length_cons, hv], a, rfl, upd_same, fun k hk => ak_okD r2 (hak k hk), fun d H' da hd keep ea ed => ⟨rfl, d, _, ea, ed, ?_, ?_⟩⟩
        · rw [upd_ne da] at hd; exact hd
        · have hd1 : H1 d = none := by rw [upd_ne da] at hd; exact hd
          have eH : upd (del H' a) d (.xd (addF (.ref a :: v1) (xl G q.l) [])) = upd H1 d (.xd (addF (.ref a :: v1) (xl G q.l) [])) := by
            funext b
            by_cases hbd : b = d
            · rw [hbd, upd_same, upd_same]
            · rw [upd_ne hbd, upd_ne hbd]
              by_cases hba : b = a
              · rw [hba, del_same, ha1]
              · rw [del_ne hba, keep b hba hbd, upd_ne hba]
          rw [eH]
          have st3 := stp_newF (u := .xd (addF (.ref a :: v1) (xl G q.l) [])) s2.ft hd1
          have s3 := s2.stp st3 fun _ _ h => h
          refine run1 d σ _ (Z.plus F2 [d]) ow2 _ ((st2.alloc st3).1.weak fun x h => .inr h) s3 ⟨upd_same, .inr (by simp)⟩ ?_ Kp.refl
          exact addF_rep (r2.lat st3.lat) (fun p hp => by have := fl p hp; rw [hl]; exact this) .nil
      · exact run1.elim
end
end Z
end

section
set_option maxRecDepth 100007
set_option maxHeartbeats 2000007
/-! try: several except clauses, each with a name. -/
namespace L2
open PySem PySem.Spec PyProof.Rows
/-- what the clauses wish of an exception of the body, one after the other; slot i is the clause's name's -/
def wAny (K : PySem.W.Frag) (Wout : WX) (D : Ends) : List (Value × Nat × (Addr → Value → Option Addr → TS)) → WX
  | [] => Wout
  | (c, i, ts) :: r => fun cls d σ H => ∃ b, PySem.W.exmOne K cls c = some b ∧ (b = true → ∀ a, H a = none → ts a cls d { nx := fun σ' H' => D.nx (σ'.set i none) H', rt := D.rt, bk := fun σ' H' => D.bk (σ'.set i none) H', ct := fun σ' H' => D.ct (σ'.set i none) H' } (σ.set i (some (.ref a))) H) ∧
    (b = false → wAny K Wout D r cls d σ H)
inductive HdsA (X : Cx) : List ExceptHandler → List (Value × Nat × (Addr → Value → Option Addr → TS)) → Prop
  | nil : HdsA X [] []
  | cons {x n : Str} {c : Value} {i : Nat} {ts : Addr → Value → Option Addr → TS} {b₀ : Stmt} {suite : List Stmt} {np pos' : Pos} {hds : List ExceptHandler} {l : List (Value × Nat × (Addr → Value → Option Addr → TS))} (hi : X.N[i]? = some n) (hln : X.env.kindOf n = some .local) (hc : Names X x c)
      (hsu : ∀ (a : Addr) (oe : Obj) (cls : Value) (d : Option Addr) (pn : List (Addr × Obj)), Zc cls d oe → (∃ vs, oe.data = .fields vs) → PSs (X.suite a ((a, oe) :: pn)) (b₀ :: suite) (ts a cls d)) (r : HdsA X hds l) :
      HdsA X (.ExceptHandler (some (.Name x np)) (some n) (b₀ :: suite) pos' :: hds) ((c, i, ts) :: l)
section
variable {X : Cx} {body : List Stmt} {h₀ : ExceptHandler} {hds : List ExceptHandler} {l : List (Value × Nat × (Addr → Value → Option Addr → TS))} {pos : Pos} {tb : WX → TS} {Wout : WX}
theorem ps_try_any (hs : X.stack = X.env :: X.outer) (hf : X.env.frame = some X.env.locals) (hN : X.N.Nodup) (tk : Takes X Wout)
    (hb : ∀ (W : WX) (pn : List (Addr × Obj)) (xe : Value → Shared → Prop), Takes (X.tr pn xe) W → PassesOwn (model X.prog X.w) X.A X.env xe → PSs (X.tr pn xe) body (tb W))
    (hh : HdsA X (h₀ :: hds) l) : PS X (.Try body (h₀ :: hds) [] [] pos) (fun D σ H => tb (wAny X.K Wout D l) D σ H) := by
  refine ⟨fun pins s σ H D I h => ?_⟩
  have ok := I.ok
  have hfr : X.A.frames = some (X.env :: X.outer) := by rw [ok.frames, hs]
  refine wpAny_Try_except ?_
  refine wpAny_mono ((hb (wAny X.K Wout D l) (X.pn ++ pins) (fun e s₁ => wpAny (model X.prog X.w) X.A (noteFrame e X.env) (fun _ s₂ => wpAny (model X.prog X.w) X.A (setFlight e none) (fun _ s₃ =>
    wpAny (model X.prog X.w) X.A (handleBy e X.env (h₀ :: hds)) (SP X pins D) X.xe s₃) X.xe s₂) X.xe s₁) (fun u s' xx => ?_) PassesOwn.looking).run [] s σ H D (I.toTry _) h) (fun f s1 hsp => ?_) (fun e s1 he => he)
  · -- the catch
    obtain ⟨a, B, sI, pins', σ', H', cls, d, rfl, J', nb, up, sky, na, os, ag, w⟩ := xx
    have J : Inv X pins σ' H' sI := J'.ofTry ok
    have sky' : Sky B (X.env :: X.outer) a (Zc cls d) X.env.locals s'.heap := by rw [← hs]; exact sky
    show wpAny (model X.prog X.w) X.A (noteFrame (.ref a) X.env) _ _ _
    refine Sky.land Zc.steady hfr hf sky' fun h3 fl3 up3 => ?_
    have J3 : Inv X pins σ' H' { s' with heap := h3 } := J.landed nb fl3.1 (up.trans up3) os ag
    obtain ⟨oe3, vs3, he3, hz3, hd3⟩ := fl3.there
    have notFr : ∀ {h : Heap} {o : Obj} {vs : Array Value}, h.FunFrames B (X.env :: X.outer) → h.get? a = some o → o.data = .fields vs → a ∉ frs (X.env :: X.outer) := fun {h o vs} ff e dd hm => by
      obtain ⟨_, o', e', hnf⟩ := ff.mem hm
      rw [e] at e'; cases e'
      exact hnf _ dd
    have nfr := notFr fl3.2.2.1 he3 hd3
    have nL : a ≠ X.env.locals := fun z => nfr (List.mem_filterMap.mpr ⟨X.env, List.mem_cons_self, by rw [hf, z]⟩)
    have nF : a ∉ X.fs := fun hm => by
      obtain ⟨e, he, q⟩ := List.mem_filterMap.mp hm
      exact nfr (List.mem_filterMap.mpr ⟨e, List.mem_cons_of_mem _ he, q⟩)
    have S3 := J3.suite he3 hd3 na nL nF
    have go : ∀ {hds' : List ExceptHandler} {l' : List (Value × Nat × (Addr → Value → Option Addr → TS))}, HdsA X hds' l' → wAny X.K Wout D l' cls d σ' H' →
        wpAny (model X.prog X.w) X.A (handleBy (.ref a) X.env hds') (SP X pins D) X.xe { s' with heap := h3 } := by
      intro hds' l' hk
      induction hk with
      | nil =>
        intro w
        refine wpAny_handleBy_nil ?_
        obtain ⟨k1, k2, k3, oe, vs, T, oT, ts', he, hz, hd, h1, hr⟩ := id fl3
        unfold PySem.passOn
        refine wpAny_bind (wpAny_field he hd h1 ?_)
        rw [if_neg (show ¬ ((Value.ref T == Value.none) = true) from by simp)]
        have fin : wpAny (model X.prog X.w) X.A (setFlight (.ref a) X.env.frame) (fun _ s4 => wpAny (model X.prog X.w) X.A (throw (.ref a) : Sem Flow) (SP X pins D) X.xe s4) X.xe { s' with heap := h3 } := by
          rw [hf]
          refine HandSPX.setFlight_upZ fl3 fun h4 hh4 up4 => wpAny_throw (tk _ _ ?_)
          exact ⟨a, B, sI, pins, σ', H', cls, d, rfl, J, nb, (up.trans up3).trans up4, .inr (.inr (by rw [hs]; exact hh4)), na, os, ag, w⟩
        first
          | exact wpAny_bind (wpAny_pure (wpAny_bind fin))
          | exact wpAny_bind fin
      | @cons x n c i ts b₀ suite np pos' hds2 l2 hi hln hc hsu r ih =>
        intro w
        obtain ⟨b, hb1, hyes, hno⟩ := w
        have hloc : Loc X.env.scope n := .inl hln
        refine wpAny_handleBy_cons (codeAny_handlers_test ?_) (by intro q; cases q)
        have LT : PySem.W.Looks (model X.prog X.w) h3 (typeOf (.ref a)) cls := fun A Q E s k q => wpAny_typeOf_ref (k _ _ he3) (by rw [hz3.1]; exact q)
        have LM := PySem.W.exm_one (M := model X.prog X.w) (J3.kIn) LT hb1
        have test : ∀ {Q : Value → Shared → Prop} {E : Value → Shared → Prop}, Q c { s' with heap := h3 } → wpAny (model X.prog X.w) (X.A.mark (some (.ref a))) (eval (.Name x np) X.env) Q E { s' with heap := h3 } := fun {Q E} q => by
          obtain ⟨hg, hdbg, hm | ⟨hm, hv, hnn⟩⟩ := hc
          · exact ld_glob (X := X.suite a ((a, oe3) :: (X.pn ++ pins))) S3 hg hm q hdbg
          · exact ld_blt (X := X.suite a ((a, oe3) :: (X.pn ++ pins))) S3 hg hm hv q hnn hdbg
        refine test (LM.here ?_)
        cases b with
        | true =>
          refine codeAny_handlers_suite_as ?_
          refine HandSPX.lands_againZ fl3 fun h4 fl4 up4 => ?_
          have J4 : Inv X pins σ' H' { s' with heap := h4 } := J.landed nb fl4.1 ((up.trans up3).trans up4) os ag
          obtain ⟨oe4, vs4, he4, hz4, hd4⟩ := fl4.there
          have S4 := J4.suite he4 hd4 na nL nF
          refine store_ok (X := X.suite a ((a, oe4) :: (X.pn ++ pins))) (v := .ref a) S4 hN hi hloc rfl (fun s5 S5 => ?_) (.inr hln)
          refine wpAny_mono ((hsu a oe4 cls d (X.pn ++ pins) hz4 ⟨_, hd4⟩).run [] s5 _ H' _ S5 (hyes rfl a na)) (fun f s6 hsp => ?_) (fun _ _ z => False.elim z)
          have end_ : ∀ {σ6 : L2.St} {H6 : Hp} {Q : Shared → Prop}, Inv (X.suite a ((a, oe4) :: (X.pn ++ pins))) [] σ6 H6 s6 → (∀ s7, Inv X pins (σ6.set i none) H6 s7 → Q s7) →
              wpAny (model X.prog X.w) X.A (do bindName X.env n .none; unbindBehindTheSuite X.env n pos') (fun _ s7 => Q s7) X.xe s6 := fun {σ6 H6 Q} S6 hq => gone_ok (S6.unsuite ok) hN hi hln hq
          cases f with
          | next =>
            obtain ⟨σ6, H6, S6, q6⟩ := hsp
            exact end_ S6 fun s7 J7 => ⟨_, _, J7, q6⟩
          | brk =>
            obtain ⟨σ6, H6, S6, q6⟩ := hsp
            exact end_ S6 fun s7 J7 => ⟨_, _, J7, q6⟩
          | cont =>
            obtain ⟨σ6, H6, S6, q6⟩ := hsp
            exact end_ S6 fun s7 J7 => ⟨_, _, J7, q6⟩
          | ret u =>
            obtain ⟨v6, σ6, H6, S6, r6, q6⟩ := hsp
            exact end_ S6 fun s7 J7 => ⟨_, _, _, J7, r6, q6⟩
        | false =>
          show wpAny _ X.A (handleBy (.ref a) X.env hds2) _ _ _
          exact ih (hno rfl)
    exact go hh w
  · cases f with
    | next =>
      obtain ⟨σ', H', J', q⟩ := hsp
      exact wpAny_execs_nil ⟨σ', H', J'.ofTry ok, q⟩
    | brk =>
      obtain ⟨σ', H', J', q⟩ := hsp
      exact ⟨σ', H', J'.ofTry ok, q⟩
    | cont =>
      obtain ⟨σ', H', J', q⟩ := hsp
      exact ⟨σ', H', J'.ofTry ok, q⟩
    | ret u =>
      obtain ⟨v, σ', H', J', r, q⟩ := hsp
      exact ⟨v, σ', H', J'.ofTry ok, r, q⟩
end
end L2
end

section
set_option maxRecDepth 100007
set_option maxHeartbeats 2000007
/-! try over trees. -/
namespace Z
open PySem L2 PyProof.Rows
/-! ### the same trees under another guard -/
section
variable {K : PySem.W.Frag} {nm : List Str} {cls : Nat → Addr} {h h' : Option (Nat × Addr)} {a a' : Hp → (Addr → Prop) → Prop}
  {l : ∀ (H H' : Hp) (F F' : Addr → Prop), a H F → (∀ x, F x → F' x) → (∀ x o, F x → H x = some o → H' x = some o) → a H' F'}
  {l' : ∀ (H H' : Hp) (F F' : Addr → Prop), a' H F → (∀ x, F x → F' x) → (∀ x o, F x → H x = some o → H' x = some o) → a' H' F'} {H : Hp} {F : Fz}
mutual
theorem RepD.gx : ∀ {v : V} {d : D}, RepD ⟨K, nm, cls, h, a, l⟩ H F v d → RepD ⟨K, nm, cls, h', a', l'⟩ H F v d
  | _, _, .non => .non
  | _, _, .bl b => .bl b
  | _, _, .int i => .int i
  | _, _, .str t => .str t
  | _, _, .tup t r => .tup t (RepDs.gx r)
  | _, _, .lst f t r => .lst f t (RepDs.gx r)
  | _, _, .obj f t r => .obj f t (RepFs.gx r)
  | _, _, .dct f t r => .dct f t (RepKs.gx r)
  | _, _, .dctT f t r => .dctT f t (RepTs.gx r)
  | _, _, .scr t => .scr t
theorem RepDs.gx : ∀ {vs : List V} {ds : List D}, RepDs ⟨K, nm, cls, h, a, l⟩ H F vs ds → RepDs ⟨K, nm, cls, h', a', l'⟩ H F vs ds
  | _, _, .nil => .nil
  | _, _, .cons t r => .cons (RepD.gx t) (RepDs.gx r)
theorem RepFs.gx : ∀ {vs : List (Str × V)} {ds : List (Nat × D)}, RepFs ⟨K, nm, cls, h, a, l⟩ H F vs ds → RepFs ⟨K, nm, cls, h', a', l'⟩ H F vs ds
  | _, _, .nil => .nil
  | _, _, .cons x y t r => .cons x y (RepD.gx t) (RepFs.gx r)
theorem RepKs.gx : ∀ {vs : List (Key × V)} {ds : List (D × D)}, RepKs ⟨K, nm, cls, h, a, l⟩ H F vs ds → RepKs ⟨K, nm, cls, h', a', l'⟩ H F vs ds
  | _, _, .nil => .nil
  | _, _, .cons y t r => .cons y (RepD.gx t) (RepKs.gx r)
theorem RepTs.gx : ∀ {vs : List (List Key × V)} {ds : List (D × D)}, RepTs ⟨K, nm, cls, h, a, l⟩ H F vs ds → RepTs ⟨K, nm, cls, h', a', l'⟩ H F vs ds
  | _, _, .nil => .nil
  | _, _, .cons y t r => .cons y (RepD.gx t) (RepTs.gx r)
end
theorem RepO.gx {v : V} {o : O} {f : List Addr} (r : RepO ⟨K, nm, cls, h, a, l⟩ H F v o f) : RepO ⟨K, nm, cls, h', a', l'⟩ H F v o f := by
  cases r with
  | val r => exact .val r.gx
  | lst t r => exact .lst t r.gx
  | obj t r => exact .obj t r.gx
  | dct t r => exact .dct t r.gx
  | dctT t r => exact .dctT t r.gx
theorem SRep.gx {σ : L2.St} {z : Zs} {ow : Ows} (s : SRep ⟨K, nm, cls, h, a, l⟩ H F σ z ow) (am : a' H F) (ho : ∀ i x, h' = some (i, x) → σ[i]? = some (some (.ref x))) : SRep ⟨K, nm, cls, h', a', l'⟩ H F σ z ow :=
  ⟨s.len, fun i o e => let ⟨v, e1, r⟩ := s.rep i o e; ⟨v, e1, r.gx⟩, s.emp, s.dj, s.nf, s.ft, am, ho⟩
end
/-- the guard of an except suite: slot i holds the exception at a, its dict at dd stands for fs -/
def Gx.sui (G : Gx) (i : Nat) (a dd : Addr) (fvs : List (Str × V)) (fs : List (Nat × D)) : Gx where
  K := G.K
  nm := G.nm
  cls := G.cls
  hold := some (i, a)
  amb := fun H F => F dd ∧ H dd = some (.xd fvs) ∧ RepFs G H F fvs fs
  ambL := fun H H' F F' q h1 h2 => ⟨h1 _ q.1, h2 _ _ q.1 q.2.1, q.2.2.lat ⟨h1, h2⟩⟩
theorem SRep.own_xd {G : Gx} {H : Hp} {F : Fz} {σ : L2.St} {z : Zs} {ow : Ows} (s : SRep G H F σ z ow) {d : Addr} {fvs : List (Str × V)} (e : H d = some (.xd fvs)) : ¬ Own ow d := fun ⟨i, h⟩ => by
  cases e1 : rd z i with
  | none => rw [s.emp i e1] at h; cases h
  | some o =>
    obtain ⟨v, _, r⟩ := s.rep i o e1
    generalize ow i = f at r h
    cases r with
    | val _ => cases h
    | lst t _ => rw [List.mem_singleton.mp h, t] at e; cases e
    | obj t _ => rw [List.mem_singleton.mp h, t] at e; cases e
    | dct t _ => rw [List.mem_singleton.mp h, t] at e; cases e
    | dctT t _ => rw [List.mem_singleton.mp h, t] at e; cases e
/-! ### the meaning -/
abbrev Su := Nat → List (Nat × D) → Zs → S
/-- an except suite's end: its name goes -/
def suEnd (i : Nat) : S → S
  | .nxt z => .nxt (z.set i none)
  | .brk z => .brk (z.set i none)
  | .cnt z => .cnt (z.set i none)
  | .ret o z => .ret o (z.set i none)
  | _ => .bad
def exHan (exm : Nat → Nat → Option Bool) (ro : Ro) : List (Nat × Nat × Su) → Nat → List (Nat × D) → Zs → S
  | [], c, fs, z => .exc c fs z
  | (c', i, su) :: r, c, fs, z => match exm c c' with
    | some true => if i < z.length ∧ ro i = false then suEnd i (su c fs (z.set i none)) else .bad
    | some false => exHan exm ro r c fs z
    | none => .bad
def exTry (exm : Nat → Nat → Option Bool) (ro : Ro) (body : Zs → S) (hs : List (Nat × Nat × Su)) : Zs → S := fun z => match body z with
  | .exc c fs z1 => exHan exm ro hs c fs z1
  | r => r
/-- the clauses as they are read -/
def suT (G : Gx) (ro : Ro) (i : Nat) (su : Su) : Addr → Value → Option Addr → TS := fun a cls d D σ H => ∃ c dd fvs fs, cls = .ref (G.cls c) ∧ d = some dd ∧ tZS (G.sui i a dd fvs fs) (fun _ _ _ _ => False) (roL ro (some i)) (su c fs) D σ H
def hdL (G : Gx) (ro : Ro) (hs : List (Nat × Nat × Su)) : List (Value × Nat × (Addr → Value → Option Addr → TS)) := hs.map fun q => (.ref (G.cls q.1), q.2.1, suT G ro q.2.1 q.2.2)
section
variable {G : Gx} {W : WX} {ro : Ro} {X : Cx} {exm : Nat → Nat → Option Bool}
theorem han_ok (am : ∀ H F, G.amb H F) (hh : G.hold = none) (hx : ∀ c c' b, exm c c' = some b → PySem.W.exmOne G.K (.ref (G.cls c)) (.ref (G.cls c')) = some b) {En : Ends} {c : Nat} {fs : List (Nat × D)} : ∀ {hs : List (Nat × Nat × Su)} {σ : L2.St} {H : Hp} {F : Fz} {ow : Ows} {z1 : Zs} {d : Addr} {fvs : List (Str × V)},
    SRep G H F σ z1 ow → H d = some (.xd fvs) → F d → RepFs G H F fvs fs → RunS G W ro σ H F ow (exHan exm ro hs c fs z1) En → wAny G.K W En (hdL G ro hs) (.ref (G.cls c)) (some d) σ H
  | [], σ, H, F, ow, z1, d, fvs, s, e, f, rf, run => run d σ H F ow fvs s.refl s ⟨e, f⟩ rf Kp.refl
  | (c', i, su) :: r, σ, H, F, ow, z1, d, fvs, s, e, f, rf, run => by
    cases e1 : exm c c' with
    | none => simp only [exHan, e1] at run; exact run.elim
    | some b =>
      refine ⟨b, hx _ _ _ e1, fun hb a ha => ?_, fun hb => ?_⟩
      · subst hb
        simp only [exHan, e1] at run
        split at run
        · rename_i hc
          obtain ⟨hi, hr⟩ := hc
          have hn : ∀ a, G.hold ≠ some (i, a) := fun a q => by rw [hh] at q; cases q
          have hl : i < σ.length := by rw [← s.len]; exact hi
          have s0 := s.drop i hn (some (.ref a))
          obtain ⟨K, nm, cls, hold, amb, ambL⟩ := G
          have kp : ∀ {σ2 : L2.St}, Kp (roL ro (some i)) (σ.set i (some (.ref a))) σ2 → Kp ro σ (σ2.set i none) := fun {σ2} k2 j hj => by
            have hji : i ≠ j := fun q => by rw [← q, hr] at hj; cases hj
            have := k2 j (by unfold roL; simp [hj])
            rw [List.getElem?_set_ne hji, this, List.getElem?_set_ne hji]
          have back : ∀ {σ2 : L2.St} {H2 : Hp} {F2 : Fz} {ow2 : Ows} {z2 : Zs}, SRep (Gx.sui ⟨K, nm, cls, hold, amb, ambL⟩ i a d fvs fs) H2 F2 σ2 z2 ow2 → SRep ⟨K, nm, cls, hold, amb, ambL⟩ H2 F2 (σ2.set i none) (z2.set i none) (ow0 ow2 i) := fun {σ2 H2 F2 ow2 z2} s2 =>
            (SRep.gx s2 (am _ _) (fun j x q => by rw [show hold = none from hh] at q; cases q)).drop i hn none
          have st0 : Stp H F (Own ow) H F (Own (ow0 ow i)) := s.refl.weak fun a h => own_ow0 h
          refine ⟨c, d, fvs, fs, rfl, rfl, z1.set i none, ow0 ow i, F, SRep.gx s0 ⟨f, e, rf⟩ (fun j x q => by cases q; exact List.getElem?_set_self hl), ?_⟩
          show RunS (Gx.sui ⟨K, nm, cls, hold, amb, ambL⟩ i a d fvs fs) (fun _ _ _ _ => False) (roL ro (some i)) (σ.set i (some (.ref a))) H F (ow0 ow i) (su c fs (z1.set i none)) _
          cases er : su c fs (z1.set i none) with
          | nxt z2 =>
            rw [er] at run
            exact fun σ2 H2 F2 ow2 st s2 k2 => run _ H2 F2 _ ((st0.trans st).weak fun a h => own_ow0 h) (back s2) (kp k2)
          | brk z2 =>
            rw [er] at run
            exact fun σ2 H2 F2 ow2 st s2 k2 => run _ H2 F2 _ ((st0.trans st).weak fun a h => own_ow0 h) (back s2) (kp k2)
          | cnt z2 =>
            rw [er] at run
            exact fun σ2 H2 F2 ow2 st s2 k2 => run _ H2 F2 _ ((st0.trans st).weak fun a h => own_ow0 h) (back s2) (kp k2)
          | ret o z2 =>
            rw [er] at run
            exact fun v σ2 H2 F2 ow2 g st s2 r2 d2 k2 => run v _ H2 F2 _ g ((st0.trans st).weak fun a h => h.imp own_ow0 id) (back s2) r2.gx (fun x hx q => d2 x hx (own_ow0 q)) (kp k2)
          | exc c2 fs2 z2 => rw [er] at run; exact run.elim
          | bad => rw [er] at run; exact run.elim
        · exact run.elim
      · subst hb
        simp only [exHan, e1] at run
        exact han_ok am hh hx s e f rf run
theorem zs_try {body : List Stmt} {h₀ : ExceptHandler} {hds : List ExceptHandler} {pos : Pos} {mb : Zs → S} {hl : List (Nat × Nat × Su)} (am : ∀ H F, G.amb H F) (hh : G.hold = none) (hK : G.K = X.K) (hx : ∀ c c' b, exm c c' = some b → PySem.W.exmOne G.K (.ref (G.cls c)) (.ref (G.cls c')) = some b)
    (hs : X.stack = X.env :: X.outer) (hf : X.env.frame = some X.env.locals) (hN : X.N.Nodup) (tk : Takes X W)
    (hb : ∀ (W' : WX) (pn : List (Addr × Obj)) (xe : Value → Shared → Prop), Takes (X.tr pn xe) W' → PassesOwn (model X.prog X.w) X.A X.env xe → PSs (X.tr pn xe) body (tZS G W' ro mb))
    (hd : HdsA X (h₀ :: hds) (hdL G ro hl)) : PS X (.Try body (h₀ :: hds) [] [] pos) (tZS G W ro (exTry exm ro mb hl)) :=
  PS.imp (ps_try_any (tb := fun W' => tZS G W' ro mb) hs hf hN tk hb hd) fun D σ H h => by
  obtain ⟨z, ow, F, s, run⟩ := h
  refine ⟨z, ow, F, s, ?_⟩
  unfold exTry at run
  cases e : mb z with
  | exc c fs z1 =>
    simp only [e] at run
    intro d σ' H' F' ow' fvs st s' ef rf k
    rw [← hK]
    exact han_ok am hh hx s' ef.1 ef.2 rf (run.shift st k)
  | nxt z1 => simp only [e] at run; exact run
  | brk z1 => simp only [e] at run; exact run
  | cnt z1 => simp only [e] at run; exact run
  | ret o z1 => simp only [e] at run; exact run
  | bad => simp only [e] at run; exact run
/-- a suite read for each exception -/
theorem suT_of {st : List Stmt} {i : Nat} {su : Su} {a : Addr} {cls : Value} {d : Option Addr} (h : ∀ c dd fvs fs, cls = .ref (G.cls c) → d = some dd → PSs X st (tZS (G.sui i a dd fvs fs) (fun _ _ _ _ => False) (roL ro (some i)) (su c fs))) : PSs X st (suT G ro i su a cls d) :=
  ⟨fun pins s σ H D I q => by
    obtain ⟨c, dd, fvs, fs, e1, e2, q⟩ := q
    exact (h c dd fvs fs e1 e2).run pins s σ H D I q⟩
end
end Z
end

section
set_option maxRecDepth 100007
set_option maxHeartbeats 2000007
/-! Small except suites: return or keep what the error's fields hold. -/
namespace Z
open PySem L2 PyProof.Rows
mutual
/-- an expression of a suite: a field of the error, a constant, a slot, a tuple, a list -/
inductive Xp where
  | fld (f : Nat) | kon (d : D) | lc (i : Nat) | tup (as : Xs) | lst (as : Xs)
inductive Xs where
  | nil | cons (e : Xp) (es : Xs)
end
/-- a suite -/
inductive Xt where
  | ret (e : Xp) | asg (i : Nat) (e : Xp)
/-- fl: which fields a class's errors have -/
def xpFld (fl : Nat → Nat → Bool) (c : Nat) (fs : List (Nat × D)) (f : Nat) : Zs → R Hd := fun z => if fl c f = true then (match lookN f fs with
  | some d => .ok (.tmp (.val d)) z
  | none => .bad) else .bad
mutual
@[simp] def xpE (fl : Nat → Nat → Bool) (c : Nat) (fs : List (Nat × D)) : Xp → Zs → R Hd
  | .fld f => xpFld fl c fs f
  | .kon d => evD d
  | .lc i => evSlot i
  | .tup as => evTup (xpA fl c fs as)
  | .lst as => evLst (xpA fl c fs as)
@[simp] def xpA (fl : Nat → Nat → Bool) (c : Nat) (fs : List (Nat × D)) : Xs → Zs → R (List Hd)
  | .nil => evNil
  | .cons e es => evCons (xpE fl c fs e) (xpA fl c fs es)
end
@[simp] def xtS (fl : Nat → Nat → Bool) (ro : Ro) : Xt → Su
  | .ret e => fun c fs => exRet ro (xpE fl c fs e)
  | .asg i e => fun c fs => exAsgN ro i (xpE fl c fs e)
section
variable {G : Gx} {H : Hp} {F : Fz}
theorem lookFx (nd : G.nm.Nodup) {f : Nat} (hf : f < G.nm.length) : ∀ {vs : List (Str × V)} {fs : List (Nat × D)} {d : D}, RepFs G H F vs fs → lookN f fs = some d → ∃ v, vs.lookup (G.name f) = some v ∧ RepD G H F v d
  | _, _, d, .nil, e => by cases e
  | _, _, d, .cons (n := n) hn hx r rs, e => by
    subst hx
    unfold lookN at e
    rw [List.find?_cons] at e
    by_cases h : n = f
    · subst h
      simp only [beq_self_eq_true, Option.map_some, Option.some.injEq] at e
      subst e
      exact ⟨_, by simp [List.lookup], r⟩
    · have h1 : (n == f) = false := by simpa using h
      simp only [h1] at e
      obtain ⟨v, e1, r1⟩ := lookFx nd hf rs (by unfold lookN; exact e)
      refine ⟨v, ?_, r1⟩
      have h2 : (G.name f == G.name n) = false := by
        rw [beq_eq_false_iff_ne]
        intro q
        unfold Gx.name at q
        rw [List.getD_eq_getElem?_getD, List.getD_eq_getElem?_getD, List.getElem?_eq_getElem hf, List.getElem?_eq_getElem hn] at q
        exact h ((List.getElem_inj nd).mp q).symm
      rw [List.lookup_cons, h2]
      exact e1
end
/-- what is to be known of the classes' fields -/
def XfAt (K : PySem.W.Frag) (G : Gx) (fl : Nat → Nat → Bool) : Prop := ∀ c f, fl c f = true → XfC K (G.cls c) ∧ PySem.W.findIn K (.ref (G.cls c)) (G.name f) = some none ∧ f < G.nm.length
section
variable {G : Gx} {X : Cx} {fl : Nat → Nat → Bool} {a dd : Addr} {oe : Obj} {pn : List (Addr × Obj)} {c i : Nat} {fvs : List (Str × V)} {fs : List (Nat × D)} {W : WX}
theorem z_xf (nd : G.nm.Nodup) (xf : XfAt X.K G fl) {n : Str} {p pos : Pos} {f : Nat} (hz : Zc (.ref (G.cls c)) (some dd) oe) (hf : ∃ vs, oe.data = .fields vs) (hN : X.N[i]? = some n) (hv : Vis X.env.scope n) (hd : (n == ("__debug__" : Str)) = false) (hcd : (n == ("__classdict__" : Str)) = false) :
    PE (X.suite a ((a, oe) :: pn)) (.Attribute (.Name n p) (G.name f) pos) (tZ (G.sui i a dd fvs fs) W (xpFld fl c fs f)) := by
  by_cases hc : fl c f = true
  · obtain ⟨T, hno, hl⟩ := xf c f hc
    refine PE.imp (pe_xf (X := X) (cls := .ref (G.cls c)) (d := some dd) (te := tVar i) T hno hz hf (pe_var (X := X.suite a ((a, oe) :: pn)) hN hv hd hcd) (attr_no rfl)) fun σ H Q h => ?_
    obtain ⟨z, ow, F, s, run⟩ := h
    obtain ⟨h1, h2, h3⟩ := s.am
    unfold xpFld at run
    rw [if_pos hc] at run
    cases e : lookN f fs with
    | none => rw [e] at run; exact run.elim
    | some d =>
      rw [e] at run
      obtain ⟨v, e1, r⟩ := lookFx nd hl h3 e
      refine ⟨_, s.ho i a rfl, rfl, rfl, dd, fvs, v, rfl, h2, e1, ?_⟩
      obtain ⟨K, nm, cls, hold, amb, ambL⟩ := G
      exact run v H F ow [] (s.refl.weak fun x h => h.elim id fun h => by cases h) s (RepO.val r.gx) fun x h => by cases h
  · refine ⟨fun pins s σ H Q I h => ?_⟩
    obtain ⟨z, ow, F, sr, run⟩ := h
    unfold xpFld at run
    rw [if_neg hc] at run
    exact run.elim
end
/-! ### the check -/
def chkK2 : D → Const → Bool
  | .int i, .int j => decide (i = j)
  | .bl a, .bool b => a == b
  | .non, .none => true
  | .str x, .str s => decide (s = ⟨x.toArray⟩) && txtOk x
  | _, _ => false
/-- N: the slots' names; ls: those that are plain locals; i: the error's slot -/
structure Xc2 where
  N : List Str
  ls : List (Str × NameKind)
  nm : List Str
  i : Nat
def Xc2.var (q : Xc2) (j : Nat) (x : Str) : Bool := decide (q.N[j]? = some x) && decide (q.ls.lookup x = some .local) && okNmE x
mutual
def chkXp (q : Xc2) : Xp → Expr → Bool
  | .fld f, e => match e with
    | .Attribute (.Name x _) y _ => q.var q.i x && decide (f < q.nm.length) && decide (y = q.nm.getD f Str.empty)
    | _ => false
  | .kon d, e => match e with
    | .Constant c _ _ => chkK2 d c
    | _ => false
  | .lc j, e => match e with
    | .Name x _ => q.var j x
    | _ => false
  | .tup as, e => match e with
    | .Tuple es _ _ => chkXs q as es
    | _ => false
  | .lst as, e => match e with
    | .List es _ => chkXs q as es
    | _ => false
def chkXs (q : Xc2) : Xs → List Expr → Bool
  | .nil, [] => true
  | .cons e es, x :: xs => !isStar x && chkXp q e x && chkXs q es xs
  | _, _ => false
end
def chkXt (q : Xc2) : Xt → List Stmt → Bool
  | .ret e, [.Return (some x) _] => chkXp q e x
  | .asg j e, [.Assign [.Name x _] v _] => q.var j x && !isComp v && chkXp q e v
  | _, _ => false
section
variable {G : Gx} {X : Cx} {fl : Nat → Nat → Bool} {a dd : Addr} {oe : Obj} {pn : List (Addr × Obj)} {c : Nat} {fvs : List (Str × V)} {fs : List (Nat × D)} {W : WX} {q : Xc2}
/-- what the checks lean on -/
structure XsOk (X : Cx) (G : Gx) (fl : Nat → Nat → Bool) (q : Xc2) : Prop where
  hK : G.K = X.K
  N : X.N = q.N
  nN : q.N.Nodup
  ls : X.env.scope.names = q.ls
  nm : G.nm = q.nm
  nd : G.nm.Nodup
  xf : XfAt X.K G fl
theorem XsOk.var (o : XsOk X G fl q) {j : Nat} {x : Str} (h : q.var j x = true) : X.N[j]? = some x ∧ X.env.scope.names.lookup x = some .local ∧ (x == ("__debug__" : Str)) = false ∧ (x == ("__classdict__" : Str)) = false := by
  unfold Xc2.var at h
  simp only [Bool.and_eq_true, decide_eq_true_eq] at h
  obtain ⟨h3, h4⟩ := okNmE_ok h.2
  exact ⟨by rw [o.N]; exact h.1.1, by rw [o.ls]; exact h.1.2, h3, h4⟩
mutual
theorem xp_ok (o : XsOk X G fl q) (hz : Zc (.ref (G.cls c)) (some dd) oe) (hf : ∃ vs, oe.data = .fields vs) : ∀ (e : Xp) {x : Expr}, chkXp q e x = true → PE (X.suite a ((a, oe) :: pn)) x (tZ (G.sui q.i a dd fvs fs) W (xpE fl c fs e))
  | .fld f, x, h => by
    unfold chkXp at h
    split at h
    · simp only [Bool.and_eq_true, decide_eq_true_eq] at h
      obtain ⟨a1, a2, a3, a4⟩ := o.var h.1.1
      have e : _ = G.name f := h.2.trans (by unfold Gx.name; rw [o.nm])
      rw [e]
      exact z_xf o.nd o.xf hz hf a1 (.inl a2) a3 a4
    · cases h
  | .kon d, x, h => by
    unfold chkXp at h
    split at h
    · rename_i k j p
      cases d <;> cases k <;> simp only [chkK2, Bool.false_eq_true] at h
      · exact z_none
      · have h := eq_of_beq h
        subst h
        exact z_bool
      · have h := of_decide_eq_true h
        subst h
        exact z_int
      · rw [Bool.and_eq_true, decide_eq_true_eq] at h
        rw [h.1]
        exact z_str h.2
    · cases h
  | .lc j, x, h => by
    unfold chkXp at h
    split at h
    · obtain ⟨a1, a2, a3, a4⟩ := o.var h
      exact z_name (X := X.suite a ((a, oe) :: pn)) a1 (.inl a2) a3 a4
    · cases h
  | .tup as, x, h => by
    unfold chkXp at h
    split at h
    · exact z_tup (xs_ok o hz hf as h)
    · cases h
  | .lst as, x, h => by
    unfold chkXp at h
    split at h
    · exact z_lst (xs_ok o hz hf as h)
    · cases h
theorem xs_ok (o : XsOk X G fl q) (hz : Zc (.ref (G.cls c)) (some dd) oe) (hf : ∃ vs, oe.data = .fields vs) : ∀ (es : Xs) {xs : List Expr}, chkXs q es xs = true → PA (X.suite a ((a, oe) :: pn)) xs (tZA (G.sui q.i a dd fvs fs) W (xpA fl c fs es))
  | .nil, xs, h => by
    cases xs with
    | nil => exact za_nil
    | cons _ _ => simp only [chkXs, Bool.false_eq_true] at h
  | .cons e es, xs, h => by
    cases xs with
    | nil => simp only [chkXs, Bool.false_eq_true] at h
    | cons x xs =>
      simp only [chkXs, Bool.and_eq_true, Bool.not_eq_true'] at h
      exact za_cons (xp_ok o hz hf e h.1.2) (xs_ok o hz hf es h.2) (star_cons h.1.1)
end
theorem xt_ok (o : XsOk X G fl q) {ro : Ro} (hz : Zc (.ref (G.cls c)) (some dd) oe) (hf : ∃ vs, oe.data = .fields vs) : ∀ (t : Xt) {st : List Stmt}, chkXt q t st = true → PSs (X.suite a ((a, oe) :: pn)) st (tZS (G.sui q.i a dd fvs fs) W (roL ro (some q.i)) (xtS fl (roL ro (some q.i)) t c fs))
  | .ret e, st, h => by
    unfold chkXt at h
    split at h
    · rename_i e0 x p h0
      cases h0
      exact PSs.imp (pss_one (zs_ret (xp_ok o hz hf e h))) fun D σ H h => h
    · rename_i h0; cases h0
    · cases h
  | .asg j e, st, h => by
    unfold chkXt at h
    split at h
    · rename_i h0; cases h0
    · rename_i j0 e0 x px v p h0
      cases h0
      simp only [Bool.and_eq_true, Bool.not_eq_true'] at h
      obtain ⟨a1, a2, a3, a4⟩ := o.var h.1.1
      refine PSs.imp (pss_one (zs_asgN (X := X.suite a ((a, oe) :: pn)) (fun k b e => ?_) (by show X.N.Nodup; rw [o.N]; exact o.nN) a1 (.inl a2) (xp_ok o hz hf e h.2) (swaps_no h.1.2) (.inr a2))) fun D σ H h => h
      cases e
      simp [roL]
    · cases h
end
end Z
end

section
set_option maxRecDepth 100007
/-! The trees and what they give. -/
namespace Z
open PySem L2 PyProof.Rows
inductive B1 where | len | abs | int | bool | str | max | min | tuple | list | sum | any | all | sorted
deriving DecidableEq
@[simp] def B1.fn : B1 → List D → Option O
  | .len => biLen | .abs => biAbs | .int => biInt | .bool => biBool | .str => biStr | .max => biMax | .min => biMin | .tuple => biTuple | .list => biList | .sum => biSum | .any => biAny | .all => biAll | .sorted => biSorted
def B1.nm : B1 → Str
  | .len => "len" | .abs => "abs" | .int => "int" | .bool => "bool" | .str => "str" | .max => "max" | .min => "min" | .tuple => "tuple" | .list => "list" | .sum => "sum" | .any => "any" | .all => "all" | .sorted => "sorted"
@[simp] def evBi (C : Ct) (b : B1) (mA : Zs → R (List Hd)) : Zs → R Hd := match b with
  | .len => evLen C mA
  | b => evOpN b.fn mA
inductive Ms where | count | join
deriving DecidableEq
@[simp] def Ms.fn : Ms → List D → Option O
  | .count => msCount
  | .join => msJoin
def Ms.nm : Ms → Str
  | .count => "count"
  | .join => "join"
mutual
inductive Ex where
  | lc (i : Nat) | kon (d : D) | gk (j : Nat)
  | bin (op : Bop) (a b : Ex) | neg (a : Ex) | not (a : Ex)
  | cmp (op : Cop) (a b : Ex) | chn (op op' : Cop) (a b c : Ex)
  | and (as : Es) | or (as : Es) | ife (c a b : Ex)
  | tup (as : Es) | lst (as : Es)
  | ix (a b : Ex) | sl (a : Ex) (lo hi : Eo)
  | bi (b : B1) (as : Es)
  | call (f : Nat) (as : Es) | mk (c : Nat) (as : Es) | meth (o : Ex) (m : Nat) (as : Es) | attr (o : Ex) (n : Nat)
  | comp (own : List Nat) (t : Tg) (it : It1) (c : Eo) (e : Ex)
  | stop | isi (e : Ex) (t : Ty) | dct0 (t : Bool)
  | ms (m : Ms) (o : Ex) (as : Es)
  | rev (e : Ex) | lrg1 (t : Bool) (e : Ex) | lrg2 (t : Bool) (a b : Ex)
  | isiT (e : Ex) (ts : List Ty) | scall (f : Nat) (as : Es)
  | lgen (g n : Nat) (as : Es)
inductive Es where
  | nil | cons (e : Ex) (es : Es)
inductive Eo where
  | none | some (e : Ex)
inductive It1 where
  | seq (l : Option Nat) (e : Ex) | rng (as : Es) | enum (l : Option Nat) (e : Ex)
end
def It1.l : It1 → Option Nat
  | .seq l _ => l | .rng _ => none | .enum l _ => l
@[simp] def evLg (C : Ct) (g n : Nat) (mA : Zs → R (List Hd)) : Zs → R Hd := match C.gen g with
  | some run => evLgen (fun c => (C.exc c).isSome) run n mA
  | none => fun _ => .bad
abbrev Vt := (Zs → R Hd) × (Zs → R Bool)
@[simp] def andV : List Vt → Zs → R Hd
  | [] => fun _ => .bad
  | [m] => m.1
  | m :: ms => evAndV m.1 (andV ms)
@[simp] def orV : List Vt → Zs → R Hd
  | [] => fun _ => .bad
  | [m] => m.1
  | m :: ms => evOrV m.1 (orV ms)
@[simp] def andT : List Vt → Zs → R Bool
  | [] => fun _ => .bad
  | [m] => m.2
  | m :: ms => evAndT m.2 (andT ms)
@[simp] def orT : List Vt → Zs → R Bool
  | [] => fun _ => .bad
  | [m] => m.2
  | m :: ms => evOrT m.2 (orT ms)
mutual
@[simp] def ev (C : Ct) : Ex → (Zs → R Hd) × (Zs → R Bool)
  | .lc i => (evSlot i, evTru (evSlot i))
  | .kon d => (evD d, evTru (evD d))
  | .gk j => (evD (C.gk j), evTru (evD (C.gk j)))
  | .bin op a b => (evOp2 (binOp op) (ev C a).1 (ev C b).1, evTru (evOp2 (binOp op) (ev C a).1 (ev C b).1))
  | .neg a => (evOp1 negOp (ev C a).1, evTru (evOp1 negOp (ev C a).1))
  | .not a => (evNotV (ev C a).1, evNotT (ev C a).2)
  | .cmp op a b => (evCmp C op (ev C a).1 (ev C b).1, evBl (evCmp C op (ev C a).1 (ev C b).1))
  | .chn op op' a b c => (evChain (cmpF op) (cmpF op') (ev C a).1 (ev C b).1 (ev C c).1, evBl (evChain (cmpF op) (cmpF op') (ev C a).1 (ev C b).1 (ev C c).1))
  | .and as => (andV (evL C as), andT (evL C as))
  | .or as => (orV (evL C as), orT (evL C as))
  | .ife c a b => (evIf (ev C c).2 (ev C a).1 (ev C b).1, evIfT (ev C c).2 (ev C a).2 (ev C b).2)
  | .tup as => (evTup (evA C as), evTru (evTup (evA C as)))
  | .lst as => (evLst (evA C as), evTru (evLst (evA C as)))
  | .ix a b => (evOp2 ixO (ev C a).1 (ev C b).1, evTru (evOp2 ixO (ev C a).1 (ev C b).1))
  | .sl a lo hi => (evSl (ev C a).1 (evEo C lo) (evEo C hi), evTru (evSl (ev C a).1 (evEo C lo) (evEo C hi)))
  | .bi b as => (evBi C b (evA C as), evTru (evBi C b (evA C as)))
  | .isi e t => (evOp1 (isiD C t) (ev C e).1, evTru (evOp1 (isiD C t) (ev C e).1))
  | .dct0 t => (evDct0 t, evTru (evDct0 t))
  | .isiT e ts => (evOp1 (isiDT C ts) (ev C e).1, evTru (evOp1 (isiDT C ts) (ev C e).1))
  | .scall f as => (evCallF C f (evA C as), evTru (evCallF C f (evA C as)))
  | .lgen g n as => (evLg C g n (evA C as), evTru (evLg C g n (evA C as)))
  | .ms m o as => (evMs m.fn (ev C o).1 (evA C as), evTru (evMs m.fn (ev C o).1 (evA C as)))
  | .rev e => (evOp1 revF (ev C e).1, evTru (evOp1 revF (ev C e).1))
  | .lrg1 t e => (evOp1 (lrgF t (.int 0)) (ev C e).1, evTru (evOp1 (lrgF t (.int 0)) (ev C e).1))
  | .lrg2 t a b => (evOp2 (lrgF t) (ev C a).1 (ev C b).1, evTru (evOp2 (lrgF t) (ev C a).1 (ev C b).1))
  | .call f as => (evCallF C f (evA C as), evTru (evCallF C f (evA C as)))
  | .mk c as => (evMk C c (evA C as), evTru (evMk C c (evA C as)))
  | .meth o m as => (evMeth C m (ev C o).1 (evA C as), evTru (evMeth C m (ev C o).1 (evA C as)))
  | .attr o n => (evAttr C n (ev C o).1, evTru (evAttr C n (ev C o).1))
  | .comp own t it c e => (evComp own (asg1 (roV own) t) (evEc C c) (ev C e).1 (evI C it), evTru (evComp own (asg1 (roV own) t) (evEc C c) (ev C e).1 (evI C it)))
  | .stop => (fun _ => .bad, fun _ => .bad)
@[simp] def evA (C : Ct) : Es → Zs → R (List Hd)
  | .nil => evNil
  | .cons e es => evCons (ev C e).1 (evA C es)
@[simp] def evL (C : Ct) : Es → List ((Zs → R Hd) × (Zs → R Bool))
  | .nil => []
  | .cons e es => ev C e :: evL C es
@[simp] def evEo (C : Ct) : Eo → Option (Zs → R Hd)
  | .none => none
  | .some e => some (ev C e).1
@[simp] def evEc (C : Ct) : Eo → Zs → R Bool
  | .none => evYes
  | .some e => (ev C e).2
@[simp] def evI (C : Ct) : It1 → MI
  | .seq l e => evSeq l (ev C e).1
  | .rng as => evRng (evA C as)
  | .enum l e => evEnum l (ev C e).1
end
def evE (C : Ct) (e : Ex) : Zs → R Hd := (ev C e).1
def evC (C : Ct) (e : Ex) : Zs → R Bool := (ev C e).2
/-! the values of several operands, each as it is -/
def takeM (hs : List Hd) : List Bool := hs.map fun | .tmp _ => true | .slot _ => false
def setsS (ro : Ro) : List Nat → List O → Zs → Option Zs
  | [], [], z => some z
  | i :: is, o :: os, z => match setS ro i o z with
    | some z1 => setsS ro is os z1
    | none => none
  | _, _, _ => none
def exPar (ro : Ro) (is : List Nat) (mA : Zs → R (List Hd)) : Zs → S := fun z => (mA z).bindS fun hs z1 => match lendA (takeM hs) hs z1 with
  | some (os, z2) => match setsS ro is os z2 with
    | some z3 => .nxt z3
    | none => .bad
  | none => .bad
/-! statements -/
inductive Sm where
  | nil | seq (s r : Sm)
  | pass | brk | cnt | retN | ret (e : Ex) | drop (e : Ex)
  | asg (i : Nat) (e : Ex) | asgT (t : Tg) (e : Ex) | par (is : List Nat) (as : Es)
  | app (i : Nat) (e : Ex) | setIx (i : Nat) (k e : Ex) | setFld (i n : Nat) (e : Ex) | aug (op : Bop) (i : Nat) (e : Ex)
  | stop
  | rais (c : Nat) (as : Es) | tryx (a : Sm) (hs : List (Nat × Nat × Xt))
  | ife (c : Ex) (a b : Sm) | whl (c : Ex) (a : Sm) | frl (t : Tg) (it : It1) (a : Sm)
  | frk (t : Tg) (i : Nat) (en : Bool) (a : Sm)
@[simp] def evS (C : Ct) : Ro → Sm → Zs → S
  | _, .nil => exSkip
  | ro, .seq s r => exSeq (evS C ro s) (evS C ro r)
  | _, .pass => exSkip
  | _, .brk => .brk
  | _, .cnt => .cnt
  | _, .retN => exRetN
  | ro, .ret e => exRet ro (ev C e).1
  | _, .drop e => exDrop (ev C e).1
  | ro, .asg i e => exAsgN ro i (ev C e).1
  | ro, .asgT t e => exAsgT ro t (ev C e).1
  | ro, .par is as => exPar ro is (evA C as)
  | _, .app i e => exApp i (ev C e).1
  | _, .setIx i k e => exSetIx i (ev C k).1 (ev C e).1
  | _, .setFld i n e => exSetFld C.flds i n (ev C e).1
  | ro, .aug op i e => exAug ro op i (ev C e).1
  | _, .stop => fun _ => .bad
  | _, .rais c as => exRaise (C.exc c) c (evA C as)
  | ro, .tryx a hs => exTry C.exm ro (evS C ro a) (hs.map fun q => (q.1, q.2.1, xtS C.xfl (roL ro (some q.2.1)) q.2.2))
  | ro, .ife c a b => exIf (ev C c).2 (evS C ro a) (evS C ro b)
  | ro, .whl c a => whileF (ev C c).2 (evS C ro a) C.wf
  | ro, .frk t i en a => exForK (asg1 (roL ro (some i)) t) i en (evS C (roL ro (some i)) a)
  | ro, .frl t it a => exFor (asg1 (roL ro it.l) t) (evI C it) (evS C (roL ro it.l) a)
/-! defs -/
structure Df where
  np : Nat
  ns : Nat
  modes : List Bool
  dfs : List D
  body : Sm
@[simp] def Df.ro (d : Df) : Ro := fun i => d.modes.getD i false
@[simp] def outsOf : List Bool → Nat → Zs → Option (List (Option O))
  | [], _, _ => some []
  | true :: ms, i, z => match rd z i, outsOf ms (i + 1) z with
    | some o, some os => some (some o :: os)
    | _, _ => none
  | false :: ms, i, z => match outsOf ms (i + 1) z with
    | some os => some (none :: os)
    | none => none
def runD (C : Ct) (d : Df) (os : List O) : RR :=
  if os.length = d.np then
    match evS C d.ro d.body (os.map some ++ List.replicate (d.ns - d.np) none) with
    | .nxt z => match outsOf d.modes 0 z with
      | some outs => .ret (.val .non) outs
      | none => .bad
    | .ret o z => match outsOf d.modes 0 z with
      | some outs => .ret o outs
      | none => .bad
    | .exc c fs z => match outsOf d.modes 0 z with
      | some outs => .exc c fs outs
      | none => .bad
    | _ => .bad
  else .bad
/-! generators -/
inductive Gm where
  | nil | seq (a r : Gm) | pl (s : Sm) | yld (e : Ex) | frl (t : Tg) (it : It1) (a : Gm)
@[simp] def evG (C : Ct) (ro : Ro) : Gm → Zs → List D → GR
  | .nil => gSkip
  | .seq a r => gSeq (evG C ro a) (evG C ro r)
  | .pl s => gPl (evS C ro s)
  | .yld e => gYld (ev C e).1
  | .frl t it a => gFor (asg1 ro t) (evI C it) (evG C ro a)
structure Dg where
  np : Nat
  ns : Nat
  body : Gm
def runG (C : Ct) (d : Dg) (ds : List D) : RG := if ds.length = d.np then
    match evG C (fun _ => false) d.body ((ds.map O.val).map some ++ List.replicate (d.ns - d.np) none) [] with
    | .nxt _ out => .ret out
    | .exc c fs _ => .exc c fs
    | _ => .bad
  else .bad
/-- the program: defs, classes, constants -/
structure Pr where
  defs : List Df
  meth : List (Nat × Nat × Nat)
  prop : List (Nat × Nat × Nat)
  init : List (Nat × Nat)
  flds : List (Nat × List Nat)
  gks : List D
  wf : Nat
  dun : List (Nat × Dun × Nat) := []
  isi : List ((Ty × Ty) × Bool) := []
  ic : List Nat := []
  exc : List (Nat × Xc) := []
  exm : List ((Nat × Nat) × Bool) := []
  xfl : List (Nat × List Nat) := []
  gens : List Dg := []
def look2 (l : List (Nat × Nat × Nat)) (c n : Nat) : Option Nat := (l.find? fun p => p.1 == c && p.2.1 == n).map (·.2.2)
def Pr.ct (p : Pr) : Nat → Ct
  | 0 => ⟨fun _ _ => .bad, fun f => ((p.defs[f]?).map Df.modes).getD [], fun f => ((p.defs[f]?).map Df.dfs).getD [], look2 p.meth, look2 p.prop, fun c => p.init.lookup c, fun c => (p.flds.lookup c).getD [], fun j => p.gks.getD j .non, p.wf, fun c u => (p.dun.find? fun q => decide (q.1 = c ∧ q.2.1 = u)).map (·.2.2), fun t u => p.isi.lookup (t, u), fun c => p.ic.contains c, fun c => p.exc.lookup c, fun a b => p.exm.lookup (a, b), fun c f => ((p.xfl.lookup c).getD []).contains f, fun _ => none⟩
  | n + 1 => ⟨fun f os => match p.defs[f]? with
      | some d => runD (p.ct n) d os
      | none => .bad, fun f => ((p.defs[f]?).map Df.modes).getD [], fun f => ((p.defs[f]?).map Df.dfs).getD [], look2 p.meth, look2 p.prop, fun c => p.init.lookup c, fun c => (p.flds.lookup c).getD [], fun j => p.gks.getD j .non, p.wf, fun c u => (p.dun.find? fun q => decide (q.1 = c ∧ q.2.1 = u)).map (·.2.2), fun t u => p.isi.lookup (t, u), fun c => p.ic.contains c, fun c => p.exc.lookup c, fun a b => p.exm.lookup (a, b), fun c f => ((p.xfl.lookup c).getD []).contains f, fun g => (p.gens[g]?).map fun d => runG (p.ct n) d⟩
end Z
end

section
set_option maxRecDepth 100007
/-! The check of a tree against the text, for expressions. -/
namespace Z
open PySem L2 PyProof.Rows
structure Tab where
  defs : List (Str × Nat)
  clss : List (Str × Nat)
  gks : List (Str × Nat)
  blts : List Str
  nm : List Str
  excs : List (Str × Nat) := []
  file : Str := Str.empty
  /-- staticmethods: class, name, def -/
  smeths : List (Str × Str × Nat) := []
  /-- generators: name, number, parameters -/
  gens : List (Str × Nat × Nat) := []
structure Sc where
  N : List Str
  ks : List (Str × NameKind)
  fk : Option (List (Str × NameKind))
def Sc.vis (sc : Sc) (x : Str) : Bool := decide (sc.ks.lookup x = some .local) || decide (sc.ks.lookup x = some .cell) || decide (sc.ks.lookup x = some .free)
def Sc.loc (sc : Sc) (x : Str) : Bool := decide (sc.ks.lookup x = some .local) || decide (sc.ks.lookup x = some .cell)
def Sc.gl (sc : Sc) (x : Str) : Bool := decide (sc.ks.lookup x = some .globalImplicit)
def Sc.fnc (sc : Sc) (x : Str) : Bool := decide (sc.ks.lookup x = some .local) || (match sc.fk with
  | none => true
  | some ks => ks.lookup x == some .cell)
def okNm (x : Str) : Bool := !(x == ("__debug__" : Str)) && !(x == ("__classdict__" : Str))
def Sc.var (sc : Sc) (i : Nat) (x : Str) : Bool := decide (sc.N[i]? = some x) && sc.vis x && okNm x
def Sc.st (sc : Sc) (i : Nat) (x : Str) : Bool := decide (sc.N[i]? = some x) && sc.loc x && sc.fnc x
def chkK : D → Const → Bool
  | .int i, .int j => decide (i = j)
  | .bl a, .bool b => a == b
  | .non, .none => true
  | .str x, .str s => decide (s = ⟨x.toArray⟩) && txtOk x
  | _, _ => false
def relab (outer names : List (Str × NameKind)) : List (Str × NameKind) := names.map fun (n, k) => if (k == NameKind.free && outer.lookup n == some .cell) then (n, NameKind.cell) else (n, k)
/-- the inner block of a comprehension -/
def Sc.blk (sc : Sc) (scope : Scope) : Sc := ⟨sc.N, relab sc.ks scope.names, some scope.names⟩
def chkTgs (sc : Sc) : Tg → Expr → Bool
  | .nm i, .Name x _ => sc.st i x
  | _, _ => false
mutual
def chkT (sc : Sc) : Tg → Expr → Bool
  | .nm i, e => match e with
    | .Name x _ => sc.st i x
    | _ => false
  | .tp ts, e => match e with
    | .Tuple es _ _ => chkTs sc ts es && noStars es
    | _ => false
  | _, _ => false
def chkTs (sc : Sc) : Tg → List Expr → Bool
  | .nil, [] => true
  | .cons t ts, e :: es => chkT sc t e && chkTs sc ts es
  | _, _ => false
end
def blkOk (N : List Str) (ks : List (Str × NameKind)) (scope : Scope) (own : List Nat) : Bool :=
  decide (scope.kind = .function) && scope.names.all (fun y => decide (scope.names.lookup y.1 = some y.2)) && own.all (fun i => decide (i < N.length)) &&
  scope.names.all (fun y => decide (y.2 ≠ .free) || decide (ks.lookup y.1 = some .cell) || decide (ks.lookup y.1 = some .free)) &&
  scope.names.all (fun y => !(decide (y.2 = .local) || decide (y.2 = .cell)) || own.any (fun i => decide (N[i]? = some y.1)) || !N.contains y.1)
def blt (T : Tab) (sc : Sc) (x : Str) : Bool := sc.gl x && T.blts.contains x
def copC (op : Cop) (o : CmpOp) (b : Expr) : Bool := decide (o = copOf op) && !behindInMarks o b
def isTupE : Expr → Bool
  | .Tuple .. => true
  | _ => false
def chkC1 (T : Tab) (sc : Sc) (t : Ty) (w : Str) : Bool := sc.gl w && okNm w && (match t with
      | .own c => decide ((w, c) ∈ T.clss)
      | t => decide (tyB t = some w) && T.blts.contains w)
def chkCls (T : Tab) (sc : Sc) : List Ty → List Expr → Bool
  | [], [] => true
  | t :: ts, .Name w _ :: ws => chkC1 T sc t w && chkCls T sc ts ws
  | _, _ => false
mutual
def chk (T : Tab) : Sc → Ex → Expr → Bool
  | sc, .lc i, a => match a with
    | .Name x _ => sc.var i x
    | _ => false
  | sc, .kon d, a => match a with
    | .Constant c _ _ => chkK d c
    | _ => false
  | sc, .gk j, a => match a with
    | .Name x _ => sc.gl x && okNm x && decide ((x, j) ∈ T.gks)
    | _ => false
  | sc, .bin op a b, e => match e with
    | .BinOp x o y _ => decide (o = opOf op) && chk T sc a x && chk T sc b y
    | _ => false
  | sc, .neg a, e => match e with
    | .UnaryOp .USub x _ => chk T sc a x
    | _ => false
  | sc, .not a, e => match e with
    | .UnaryOp .Not x _ => chk T sc a x
    | _ => false
  | sc, .cmp op a b, e => match e with
    | .Compare x [o] [y] _ => copC op o y && chk T sc a x && chk T sc b y
    | _ => false
  | sc, .chn op op' a b c, e => match e with
    | .Compare x [o, o'] [y, z] _ => decide (o = copOf op) && decide (o' = copOf op') && !lastMarks [o, o'] [y, z] && chk T sc a x && chk T sc b y && chk T sc c z
    | _ => false
  | sc, .and as, e => match e with
    | .BoolOp .And es _ => !es.isEmpty && chkA T sc as es
    | _ => false
  | sc, .or as, e => match e with
    | .BoolOp .Or es _ => !es.isEmpty && chkA T sc as es
    | _ => false
  | sc, .ife c a b, e => match e with
    | .IfExp z x y _ => chk T sc c z && chk T sc a x && chk T sc b y
    | _ => false
  | sc, .tup as, e => match e with
    | .Tuple es _ _ => chkA T sc as es
    | _ => false
  | sc, .lst as, e => match e with
    | .List es _ => chkA T sc as es
    | _ => false
  | sc, .ix a b, e => match e with
    | .Subscript x y _ => !isSlc y && chk T sc a x && chk T sc b y
    | _ => false
  | sc, .sl a lo hi, e => match e with
    | .Subscript x (.Slice l h none _) _ => chk T sc a x && chkO T sc lo l && chkO T sc hi h
    | _ => false
  | sc, .bi b as, e => match e with
    | .Call (.Name x _) (y :: es) [] _ => decide (x = b.nm) && blt T sc x && chkA T sc as (y :: es)
    | _ => false
  | sc, .call f as, e => match e with
    | .Call (.Name x _) es [] _ => sc.gl x && okNm x && decide ((x, f) ∈ T.defs) && chkA T sc as es
    | _ => false
  | sc, .mk c as, e => match e with
    | .Call (.Name x _) es [] _ => sc.gl x && okNm x && decide ((x, c) ∈ T.clss) && chkA T sc as es
    | _ => false
  | sc, .meth o m as, e => match e with
    | .Call (.Attribute x y ap) es [] p => decide (m < T.nm.length) && decide (y = T.nm.getD m Str.empty) && !isSup x && decide (es.length < 30) && (ap.endLine == p.line) && chk T sc o x && chkA T sc as es
    | _ => false
  | sc, .attr o n, e => match e with
    | .Attribute x y _ => decide (n < T.nm.length) && decide (y = T.nm.getD n Str.empty) && !isSup x && chk T sc o x
    | _ => false
  | sc, .comp own t it c el, e => match e with
    | .ListComp x [⟨tg, iter, ifs, 0⟩] scope _ => blkOk sc.N sc.ks scope own && !isSetE iter && chkI T sc it tg iter && chkT (sc.blk scope) t tg && chk T (sc.blk scope) el x && chkC T (sc.blk scope) c ifs
    | _ => false
  | _, .stop, _ => true
  | sc, .isi e t, x => match x with
    | .Call (.Name y _) [z, .Name w _] [] _ => decide (y = ("isinstance" : Str)) && blt T sc y && !isStar z && chk T sc e z && sc.gl w && okNm w && (match t with
      | .own c => decide ((w, c) ∈ T.clss)
      | t => decide (tyB t = some w) && T.blts.contains w)
    | _ => false
  | sc, .ms m o as, e => match e with
    | .Call (.Attribute x y ap) (z :: es) [] p => decide (y = m.nm) && !isSup x && decide ((z :: es).length < 30) && (ap.endLine == p.line) && chk T sc o x && chkA T sc as (z :: es)
    | _ => false
  | sc, .rev e, x => match x with
    | .Subscript y (.Slice none none (some (.UnaryOp .USub (.Constant (.int 1) _ _) _)) _) _ => chk T sc e y
    | _ => false
  | sc, .lrg1 t e, x => match x with
    | .Call (.Name y _) [.Call (.Name z _) [a] [] _] [] _ => decide (y = lrgNm t) && blt T sc y && (decide (z = ("range" : Str)) && blt T sc z) && !isStar a && chk T sc e a
    | _ => false
  | sc, .lrg2 t e e2, x => match x with
    | .Call (.Name y _) [.Call (.Name z _) [a, b] [] _] [] _ => decide (y = lrgNm t) && blt T sc y && (decide (z = ("range" : Str)) && blt T sc z) && (!isStar a && !isStar b) && chk T sc e a && chk T sc e2 b
    | _ => false
  | sc, .isiT e ts, x => match x with
    | .Call (.Name y _) [z, .Tuple ws _ _] [] _ => decide (y = ("isinstance" : Str)) && blt T sc y && !isStar z && chk T sc e z && chkCls T sc ts ws && decide (ts.length ≤ 100)
    | _ => false
  | sc, .scall f as, x => match x with
    | .Call (.Attribute (.Name w _) y ap) (z :: es) [] p => sc.gl w && okNm w && decide ((w, y, f) ∈ T.smeths) && decide ((z :: es).length < 30) && (ap.endLine == p.line) && chkA T sc as (z :: es)
    | _ => false
  | sc, .lgen g n as, x => match x with
    | .Call (.Name y _) [.Call (.Name z _) (a :: es) [] _] [] _ => decide (y = ("list" : Str)) && blt T sc y && sc.gl z && okNm z && decide ((z, g, n) ∈ T.gens) && chkA T sc as (a :: es)
    | _ => false
  | _, .dct0 _, x => match x with
    | .Dict [] [] _ => true
    | _ => false
def chkA (T : Tab) : Sc → Es → List Expr → Bool
  | _, .nil, [] => true
  | sc, .cons e es, x :: xs => !isStar x && chk T sc e x && chkA T sc es xs
  | _, _, _ => false
def chkO (T : Tab) : Sc → Eo → Option Expr → Bool
  | _, .none, none => true
  | sc, .some e, some x => chk T sc e x
  | _, _, _ => false
def chkC (T : Tab) : Sc → Eo → List Expr → Bool
  | _, .none, [] => true
  | sc, .some e, [x] => chk T sc e x
  | _, _, _ => false
def chkI (T : Tab) : Sc → It1 → Expr → Expr → Bool
  | sc, .seq _ e, _, x => chk T sc e x
  | sc, .rng as, _, x => match x with
    | .Call (.Name y _) es [] _ => decide (y = ("range" : Str)) && blt T sc y && chkA T sc as es && decide (0 < es.length) && decide (es.length < 4)
    | _ => false
  | sc, .enum _ e, tg, x => match x with
    | .Call (.Name y _) [x] [] _ => decide (y = ("enumerate" : Str)) && blt T sc y && !isStar x && chk T sc e x && isTupE tg
    | _ => false
end
end Z
end

section
set_option maxRecDepth 100007
/-! The check is sound: expressions. -/
namespace Z
open PySem L2 PyProof.Rows
structure XOk (T : Tab) (G : Gx) (C : Ct) (k : Nat) (sc : Sc) (X : Cx) : Prop where
  hK : G.K = X.K
  nm : G.nm = T.nm
  rm : Room (k + 1) X.A
  cm : X.calm = true
  g : GOk G C.flds
  N : X.N = sc.N
  nd : sc.N.Nodup
  ks : X.env.scope.names = sc.ks
  kd : X.env.scope.kind = .function
  fn : ∀ x, (match sc.fk with | none => true | some ks => ks.lookup x == some .cell) = true → X.fn x = true
  df : ∀ x f, (x, f) ∈ T.defs → ∃ a, X.mg x = some (.ref a) ∧ PySem.W.keepIn X.K (.ref a) = true ∧ FnX X G C k f a
  cs : ∀ x c, (x, c) ∈ T.clss → X.mg x = some (.ref (G.cls c)) ∧ PySem.W.keepIn X.K (.ref (G.cls c)) = true ∧ MkAt X G C k c
  gk : ∀ x j, (x, j) ∈ T.gks → ∃ u v, X.mg x = some u ∧ RelV v u ∧ ∀ H F, RepD G H F v (C.gk j)
  bl : ∀ x, x ∈ T.blts → X.mg x = none
  me : MethAt X G C k
  pr : PropAt X G C k
  is : IsAt X.K G C
  du : DunAt X G C k
  hh : G.hold = none
  ex : ∀ c q, C.exc c = some q → ExAt X.prog X.w X.K X.mg X.base G c q k
  xn : ∀ x c, (x, c) ∈ T.excs → X.mg x = some (.ref (G.cls c))
  xm : ∀ c c' b, C.exm c c' = some b → PySem.W.exmOne G.K (.ref (G.cls c)) (.ref (G.cls c')) = some b
  xf : XfAt X.K G C.xfl
  am : ∀ H F, G.amb H F
  sm : ∀ x m f, (x, m, f) ∈ T.smeths → ∃ a Cc, X.mg x = some (.ref Cc) ∧ SMet X.K Cc m a ∧ FnX X G C k f a
  gn : ∀ x g n, (x, g, n) ∈ T.gens → ∀ run, C.gen g = some run → ∃ a j, j + 3 ≤ k + 1 ∧ X.mg x = some (.ref a) ∧ PySem.W.keepIn X.K (.ref a) = true ∧ GenAt X G run n j a
  np : NoStp X.K G fun c => (C.exc c).isSome
section
variable {T : Tab} {G : Gx} {C : Ct} {k : Nat} {sc : Sc} {X : Cx} {W : WX}
theorem XOk.hu (o : XOk T G C k sc X) : X.A.units + 65 < cLine := by have := o.rm.un; omega
theorem XOk.r0 (o : XOk T G C k sc X) : Room k X.A := o.rm.mono (Nat.le_succ k)
theorem XOk.vis (o : XOk T G C k sc X) {x : Str} (h : sc.vis x = true) : Vis X.env.scope x := by
  unfold Sc.vis at h
  unfold Vis
  rw [o.ks]
  simp only [Bool.or_eq_true, decide_eq_true_eq] at h
  rcases h with (h | h) | h
  · exact .inl h
  · exact .inr (.inl h)
  · exact .inr (.inr h)
theorem XOk.loc (o : XOk T G C k sc X) {x : Str} (h : sc.loc x = true) : Loc X.env.scope x := by
  unfold Sc.loc at h
  unfold L2.Loc
  rw [o.ks]
  simpa only [Bool.or_eq_true, decide_eq_true_eq] using h
theorem XOk.gl (o : XOk T G C k sc X) {x : Str} (h : sc.gl x = true) : Gl X x := by
  unfold Sc.gl at h
  unfold Gl Env.kindOf
  rw [o.ks]
  simpa only [decide_eq_true_eq] using h
theorem XOk.fnc (o : XOk T G C k sc X) {x : Str} (h : sc.fnc x = true) : X.fn x = true ∨ X.env.scope.names.lookup x = some .local := by
  unfold Sc.fnc at h
  rw [Bool.or_eq_true] at h
  rcases h with h | h
  · right
    rw [o.ks]
    simpa only [decide_eq_true_eq] using h
  · exact .inl (o.fn x h)
theorem okNm_ok {x : Str} (h : okNm x = true) : (x == ("__debug__" : Str)) = false ∧ (x == ("__classdict__" : Str)) = false := by
  unfold okNm at h
  rw [Bool.and_eq_true] at h
  exact ⟨by simpa using h.1, by simpa using h.2⟩
theorem XOk.var (o : XOk T G C k sc X) {i : Nat} {x : Str} (h : sc.var i x = true) : X.N[i]? = some x ∧ Vis X.env.scope x ∧ (x == ("__debug__" : Str)) = false ∧ (x == ("__classdict__" : Str)) = false := by
  unfold Sc.var at h
  simp only [Bool.and_eq_true, decide_eq_true_eq] at h
  exact ⟨o.N ▸ h.1.1, o.vis h.1.2, okNm_ok h.2⟩
theorem XOk.st (o : XOk T G C k sc X) {i : Nat} {x : Str} (h : sc.st i x = true) : X.N.Nodup ∧ X.N[i]? = some x ∧ Loc X.env.scope x ∧ (X.fn x = true ∨ X.env.scope.names.lookup x = some .local) := by
  unfold Sc.st at h
  simp only [Bool.and_eq_true, decide_eq_true_eq] at h
  exact ⟨o.N ▸ o.nd, o.N ▸ h.1.1, o.loc h.1.2, o.fnc h.2⟩
theorem relab_eq {sc0 : Scope} {env : Env} (h : env.scope.kind = .function) : (relabel sc0 env).names = relab env.scope.names sc0.names := by
  unfold relabel relab Env.kindOf
  rw [h]
  simp
theorem XOk.blk (o : XOk T G C k sc X) {scope : Scope} (hk : scope.kind = .function) (s : Shared) (H : Hp) (C' : Addr) (cl : List (Str × Addr)) (fp : List Addr) : XOk T G C k (sc.blk scope) (X.blk s H scope (compEnvC scope cl C' X.env) fp) := by
  refine ⟨o.hK, o.nm, o.rm, o.cm, o.g, o.N, o.nd, ?_, hk, fun x h => h, o.df, o.cs, o.gk, o.bl, o.me, o.pr, o.is, o.du, o.hh, o.ex, o.xn, o.xm, o.xf, o.am, o.sm, o.gn, o.np⟩
  show (relabel scope X.env).names = relab sc.ks scope.names
  rw [relab_eq o.kd, o.ks]
theorem blkOk_ok (o : XOk T G C k sc X) {scope : Scope} {own : List Nat} (h : blkOk sc.N sc.ks scope own = true) : ∃ ow, ow.map (·.2) = own ∧ BlkOk X.N X.env.scope scope ow ∧ scope.kind = .function := by
  unfold blkOk at h
  simp only [Bool.and_eq_true, decide_eq_true_eq, List.all_eq_true] at h
  obtain ⟨⟨⟨⟨h1, h2⟩, h3⟩, h4⟩, h5⟩ := h
  have e : (own.map fun i => (sc.N.getD i Str.empty, i)).map (·.2) = own := by
    rw [List.map_map]
    conv => rhs; rw [← List.map_id own]
    rfl
  have e1 : ∀ i, i ∈ own → sc.N[i]? = some (sc.N.getD i Str.empty) := fun i hi => by
    have hl : i < sc.N.length := h3 i hi
    rw [List.getD_eq_getElem?_getD, List.getElem?_eq_getElem hl]; rfl
  refine ⟨own.map fun i => (sc.N.getD i Str.empty, i), e, ⟨h1, h2, fun p hp => ?_, fun y hy hf => ?_, fun y hy hf => ?_⟩, h1⟩
  · obtain ⟨i, hi, rfl⟩ := List.mem_map.mp hp
    rw [o.N]
    exact e1 i hi
  · rw [o.ks]
    have := h4 y hy
    simp only [Bool.or_eq_true, decide_eq_true_eq] at this
    rcases this with (h | h) | h
    · exact (h hf).elim
    · exact .inl h
    · exact .inr h
  · have := h5 y hy
    rw [o.N]
    simp only [Bool.or_eq_true, Bool.not_eq_true', Bool.or_eq_false_iff, decide_eq_false_iff_not, List.any_eq_true, decide_eq_true_eq, List.contains_eq_mem] at this
    rcases this with (h | ⟨i, hi, h⟩) | h
    · rcases hf with hf | hf
      · exact (h.1 hf).elim
      · exact (h.2 hf).elim
    · left
      rw [List.map_map]
      refine List.mem_map.mpr ⟨i, hi, ?_⟩
      have := e1 i hi
      rw [h] at this
      exact (Option.some.inj this).symm
    · exact .inr (by simpa using h)
mutual
theorem chkT_ok (o : XOk T G C k sc X) {ro : Ro} : ∀ (t : Tg) {e : Expr}, chkT sc t e = true → PG X e (gZ G ro (asg1 ro t))
  | .nm i, e, h => by
    unfold chkT at h
    split at h
    · obtain ⟨a, b, c, d⟩ := o.st h
      exact zg_name (hro_none o.hh) a b c d
    · cases h
  | .tp ts, e, h => by
    unfold chkT at h
    split at h
    · rw [Bool.and_eq_true] at h
      obtain ⟨a, b⟩ := chkTs_ok o ts h.1
      exact zg_tup o.hK o.cm a (by rw [assign_len h.2, b]) (assign_star h.2)
    · cases h
  | .nil, e, h => by simp only [chkT, Bool.false_eq_true] at h
  | .cons _ _, e, h => by simp only [chkT, Bool.false_eq_true] at h
theorem chkTs_ok (o : XOk T G C k sc X) {ro : Ro} : ∀ (t : Tg) {es : List Expr}, chkTs sc t es = true → PGs X es (gZs G ro (asgN ro t)) ∧ es.length = t.len
  | .nil, [], h => ⟨zg_nil, rfl⟩
  | .cons t ts, e :: es, h => by
    simp only [chkTs, Bool.and_eq_true] at h
    obtain ⟨a, b⟩ := chkTs_ok o ts (ro := ro) h.2
    have hs : isStar e = false := by
      cases e <;> first | rfl | skip
      cases t <;> simp only [chkT, Bool.false_eq_true] at h <;> exact h.1.elim
    exact ⟨zg_cons (chkT_ok o t h.1) a (by rw [assign_cons hs]; rfl), by rw [List.length_cons, b]; rfl⟩
  | .nil, _ :: _, h => by simp only [chkTs, Bool.false_eq_true] at h
  | .cons _ _, [], h => by simp only [chkTs, Bool.false_eq_true] at h
  | .nm _, es, h => by cases es <;> simp only [chkTs, Bool.false_eq_true] at h
  | .tp _, es, h => by cases es <;> simp only [chkTs, Bool.false_eq_true] at h
end
theorem cmpF_ok (o : XOk T G C k sc X) (op : Cop) : OpR X (compareOp (copOf op)) (rV2 G (cmpF op)) := by
  cases op
  case inn => exact in_ok o.hK o.hu
  case notin => exact notin_ok o.hK o.hu
  all_goals exact cop_ok o.hK o.hu _
theorem both {a : Expr} {m : Zs → R Hd} (hK : G.K = X.K) (h : PE X a (tZ G W m)) (ht : isTst a = false) : PE X a (tZ G W m) ∧ PT X a (tZT G W (evTru m)) := ⟨h, zt_tru hK h (true_no ht)⟩
theorem bi_ok (o : XOk T G C k sc X) (b : B1) {e : Expr} {es : List Expr} {p pos : Pos} {mA : Zs → R (List Hd)} (hg : Gl X b.nm) (hm : X.mg b.nm = none) (ha : PA X (e :: es) (tZA G W mA)) (hs : noStars (e :: es) = true) : PE X (.Call (.Name b.nm p) (e :: es) [] pos) (tZ G W (evBi C b mA)) := by
  have h1 := star_cons (env := X.env) (noStars_cons hs).1 (es := es)
  have h2 := star_any (env := X.env) (pos := pos) (noStars_cons hs).2
  cases b
  case len => exact z_len o.hK o.du o.rm hg hm ha hs
  case abs => exact z_callB bi_abs hg hm (by decide +kernel) ha (by decide) (by decide) h1 h2
  case int => exact z_callTy bi_int hg hm (by decide +kernel) ha (by decide) (by decide) h1 h2
  case bool => exact z_callTy bi_bool hg hm (by decide +kernel) ha (by decide) (by decide) h1 h2
  case str => exact z_callTy bi_str hg hm (by decide +kernel) ha (by decide) (by decide) h1 h2
  case max => exact z_callB (bi_max o.hK o.cm) hg hm (by decide +kernel) ha (by decide) (by decide) h1 h2
  case min => exact z_callB (bi_min o.hK o.cm) hg hm (by decide +kernel) ha (by decide) (by decide) h1 h2
  case tuple => exact z_callTy (bi_tuple o.hK) hg hm (by decide +kernel) ha (by decide) (by decide) h1 h2
  case list => exact z_callTy (bi_list o.hK) hg hm (by decide +kernel) ha (by decide) (by decide) h1 h2
  case sum => exact z_callB (bi_sum o.cm) hg hm (by decide +kernel) ha (by decide) (by decide) h1 h2
  case any => exact z_callB (bi_any o.cm) hg hm (by decide +kernel) ha (by decide) (by decide) h1 h2
  case all => exact z_callB (bi_all o.cm) hg hm (by decide +kernel) ha (by decide) (by decide) h1 h2
  case sorted => exact z_callB bi_sorted hg hm (by decide +kernel) ha (by decide) (by decide) h1 h2
def Es.len : Es → Nat
  | .nil => 0
  | .cons _ es => es.len + 1
theorem evA_len : ∀ {as : Es} {z z1 : Zs} {hs : List Hd}, evA C as z = .ok hs z1 → hs.length = as.len
  | .nil, z, z1, hs, h => by
    simp only [evA, evNil, R.ok.injEq] at h
    rw [← h.1]; rfl
  | .cons e es, z, z1, hs, h => by
    simp only [evA, evCons] at h
    cases e1 : (ev C e).1 z with
    | bad => rw [e1] at h; cases h
    | exc c fs z' => rw [e1] at h; cases h
    | ok a z2 =>
      rw [e1] at h
      simp only [R.bind] at h
      cases e2 : evA C es z2 with
      | bad => rw [e2] at h; cases h
      | exc c fs z' => rw [e2] at h; cases h
      | ok b z3 =>
        rw [e2] at h
        simp only [R.ok.injEq] at h
        rw [← h.1, List.length_cons, evA_len e2]; rfl
theorem peeks_len : ∀ {hs : List Hd} {z : Zs} {ds : List D}, peeks hs z = some ds → ds.length = hs.length
  | [], z, ds, h => by cases h; rfl
  | h1 :: hs, z, ds, h => by
    simp only [peeks] at h
    split at h
    · rename_i e1 e2
      cases h
      rw [List.length_cons, List.length_cons, peeks_len e2]
    · cases h
theorem chkA_len : ∀ {as : Es} {es : List Expr}, chkA T sc as es = true → es.length = as.len
  | .nil, [], _ => rfl
  | .cons a as, e :: es, h => by
    simp only [chkA, Bool.and_eq_true] at h
    rw [List.length_cons, chkA_len h.2]; rfl
  | .nil, _ :: _, h => by simp only [chkA, Bool.false_eq_true] at h
  | .cons _ _, [], h => by simp only [chkA, Bool.false_eq_true] at h
end
end Z
end

section
set_option maxRecDepth 100007
/-! The check is sound: expressions (2). -/
namespace Z
open PySem L2 PyProof.Rows
section
variable {T : Tab} {G : Gx} {C : Ct} {k : Nat}
abbrev BothE (T : Tab) (G : Gx) (C : Ct) (k : Nat) (e : Ex) : Prop := ∀ (sc : Sc) (X : Cx) (W : WX) (a : Expr), XOk T G C k sc X → Takes X W → chk T sc e a = true → PE X a (tZ G W (ev C e).1) ∧ PT X a (tZT G W (ev C e).2)
abbrev BoolsE (X : Cx) (G : Gx) (W : WX) (C : Ct) (as : Es) (es : List Expr) : Prop := es ≠ [] → ∀ pos, (PE X (.BoolOp .And es pos) (tZ G W (andV (evL C as))) ∧ PW X (.BoolOp .And es pos) (tZT G W (andT (evL C as)))) ∧ (PE X (.BoolOp .Or es pos) (tZ G W (orV (evL C as))) ∧ PW X (.BoolOp .Or es pos) (tZT G W (orT (evL C as))))
abbrev AllE (T : Tab) (G : Gx) (C : Ct) (k : Nat) (as : Es) : Prop := ∀ (sc : Sc) (X : Cx) (W : WX) (es : List Expr), XOk T G C k sc X → Takes X W → chkA T sc as es = true → PA X es (tZA G W (evA C as)) ∧ noStars es = true ∧ BoolsE X G W C as es
abbrev OptE (T : Tab) (G : Gx) (C : Ct) (k : Nat) (c : Eo) : Prop := (∀ (sc : Sc) (X : Cx) (W : WX) (a : Option Expr), XOk T G C k sc X → Takes X W → chkO T sc c a = true → PO X a (tZP G W (evPart (evEo C c)))) ∧
  ∀ (sc : Sc) (X : Cx) (W : WX) (a : List Expr), XOk T G C k sc X → Takes X W → chkC T sc c a = true → PTs X a (tZT G W (evEc C c))
abbrev ItE (T : Tab) (G : Gx) (C : Ct) (k : Nat) (it : It1) : Prop := ∀ (sc : Sc) (X : Cx) (W : WX) (tg a : Expr), XOk T G C k sc X → Takes X W → chkI T sc it tg a = true → PI X tg a (iZ G W it.l (evI C it))
theorem e_lc (i : Nat) : BothE T G C k (.lc i) := fun sc X W a o tk h => by
  unfold chk at h
  split at h
  · obtain ⟨a, b, c, d⟩ := o.var h
    exact both o.hK (z_name a b c d) rfl
  · cases h
theorem e_kon (d : D) : BothE T G C k (.kon d) := fun sc X W a o tk h => by
  unfold chk at h
  split at h
  · refine both o.hK ?_ rfl
    rename_i c j p
    cases d <;> cases c <;> simp only [chkK, Bool.false_eq_true] at h
    · exact z_none
    · have h := eq_of_beq h
      subst h
      exact z_bool
    · have h := of_decide_eq_true h
      subst h
      exact z_int
    · rw [Bool.and_eq_true, decide_eq_true_eq] at h
      rw [h.1]
      exact z_str h.2
  · cases h
theorem e_gk (j : Nat) : BothE T G C k (.gk j) := fun sc X W a o tk h => by
  unfold chk at h
  split at h
  · simp only [Bool.and_eq_true, decide_eq_true_eq] at h
    obtain ⟨u, v, h1, h2, h3⟩ := o.gk _ _ h.2
    exact both o.hK (z_glob (o.gl h.1.1) h1 h2 h3 (okNm_ok h.1.2).1) rfl
  · cases h
theorem e_bin (op : Bop) (a b : Ex) (ha : BothE T G C k a) (hb : BothE T G C k b) : BothE T G C k (.bin op a b) := fun sc X W x o tk h => by
  unfold chk at h
  split at h
  · simp only [Bool.and_eq_true, decide_eq_true_eq] at h
    rw [h.1.1]
    exact both o.hK (z_bin (bop_ok o.hK op) (ha sc X W _ o tk h.1.2).1 (hb sc X W _ o tk h.2).1) rfl
  · cases h
theorem e_neg (a : Ex) (ha : BothE T G C k a) : BothE T G C k (.neg a) := fun sc X W x o tk h => by
  unfold chk at h
  split at h
  · exact both o.hK (z_un u_neg (ha sc X W _ o tk h).1) rfl
  · cases h
theorem e_not (a : Ex) (ha : BothE T G C k a) : BothE T G C k (.not a) := fun sc X W x o tk h => by
  unfold chk at h
  split at h
  · exact ⟨z_not o.hK (ha sc X W _ o tk h).1, zt_not (ha sc X W _ o tk h).2⟩
  · cases h
theorem e_cmp (op : Cop) (a b : Ex) (ha : BothE T G C k a) (hb : BothE T G C k b) : BothE T G C k (.cmp op a b) := fun sc X W x o tk h => by
  unfold chk at h
  split at h
  · unfold copC at h
    simp only [Bool.and_eq_true, decide_eq_true_eq, Bool.not_eq_true'] at h
    have hm := h.1.1.2
    rw [h.1.1.1] at hm ⊢
    exact ⟨z_cmpC (rcmp_ok o.hK o.is o.du o.rm o.hu op) (ha sc X W _ o tk h.1.2).1 (hb sc X W _ o tk h.2).1 hm, zt_cmpC (rcmp_ok o.hK o.is o.du o.rm o.hu op) (ha sc X W _ o tk h.1.2).1 (hb sc X W _ o tk h.2).1 hm⟩
  · cases h
theorem e_chn (op op' : Cop) (a b c : Ex) (ha : BothE T G C k a) (hb : BothE T G C k b) (hc : BothE T G C k c) : BothE T G C k (.chn op op' a b c) := fun sc X W x o tk h => by
  unfold chk at h
  split at h
  · simp only [Bool.and_eq_true, decide_eq_true_eq, Bool.not_eq_true'] at h
    obtain ⟨⟨⟨⟨⟨h1, h2⟩, hm⟩, h4⟩, h5⟩, h6⟩ := h
    rw [h1, h2] at hm ⊢
    exact ⟨z_chain (cmpF_ok o op) (cmpF_ok o op') (ha sc X W _ o tk h4).1 (hb sc X W _ o tk h5).1 (hc sc X W _ o tk h6).1 hm, zt_chain (cmpF_ok o op) (cmpF_ok o op') (ha sc X W _ o tk h4).1 (hb sc X W _ o tk h5).1 (hc sc X W _ o tk h6).1 hm⟩
  · cases h
theorem ne_of_isEmpty {es : List Expr} (h : (!es.isEmpty) = true) : es ≠ [] := fun e => by rw [e] at h; cases h
theorem e_and (as : Es) (ha : AllE T G C k as) : BothE T G C k (.and as) := fun sc X W x o tk h => by
  unfold chk at h
  split at h
  · rw [Bool.and_eq_true] at h
    obtain ⟨a, b, c⟩ := ha sc X W _ o tk h.2
    exact ⟨(c (ne_of_isEmpty h.1) _).1.1, (c (ne_of_isEmpty h.1) _).1.2.pt⟩
  · cases h
theorem e_or (as : Es) (ha : AllE T G C k as) : BothE T G C k (.or as) := fun sc X W x o tk h => by
  unfold chk at h
  split at h
  · rw [Bool.and_eq_true] at h
    obtain ⟨a, b, c⟩ := ha sc X W _ o tk h.2
    exact ⟨(c (ne_of_isEmpty h.1) _).2.1, (c (ne_of_isEmpty h.1) _).2.2.pt⟩
  · cases h
theorem e_ife (c a b : Ex) (hc : BothE T G C k c) (ha : BothE T G C k a) (hb : BothE T G C k b) : BothE T G C k (.ife c a b) := fun sc X W x o tk h => by
  unfold chk at h
  split at h
  · simp only [Bool.and_eq_true] at h
    exact ⟨z_if (hc sc X W _ o tk h.1.1).2 (ha sc X W _ o tk h.1.2).1 (hb sc X W _ o tk h.2).1, zt_ife (hc sc X W _ o tk h.1.1).2 (ha sc X W _ o tk h.1.2).2 (hb sc X W _ o tk h.2).2⟩
  · cases h
theorem e_tup (as : Es) (ha : AllE T G C k as) : BothE T G C k (.tup as) := fun sc X W x o tk h => by
  unfold chk at h
  split at h
  · exact both o.hK (z_tup (ha sc X W _ o tk h).1) rfl
  · cases h
theorem e_lst (as : Es) (ha : AllE T G C k as) : BothE T G C k (.lst as) := fun sc X W x o tk h => by
  unfold chk at h
  split at h
  · exact both o.hK (z_lst (ha sc X W _ o tk h).1) rfl
  · cases h
theorem e_ix (a b : Ex) (ha : BothE T G C k a) (hb : BothE T G C k b) : BothE T G C k (.ix a b) := fun sc X W x o tk h => by
  unfold chk at h
  split at h
  · simp only [Bool.and_eq_true, Bool.not_eq_true'] at h
    exact both o.hK (z_ix o.hK o.hu (ha sc X W _ o tk h.1.2).1 (hb sc X W _ o tk h.2).1 (plain_ix h.1.1)) rfl
  · cases h
theorem e_sl (a : Ex) (lo hi : Eo) (ha : BothE T G C k a) (hl : OptE T G C k lo) (hh : OptE T G C k hi) : BothE T G C k (.sl a lo hi) := fun sc X W x o tk h => by
  unfold chk at h
  split at h
  · simp only [Bool.and_eq_true] at h
    exact both o.hK (z_sl o.hK (ha sc X W _ o tk h.1.1).1 (hl.1 sc X W _ o tk h.1.2) (hh.1 sc X W _ o tk h.2)) rfl
  · cases h
theorem XOk.blt {sc : Sc} {X : Cx} (o : XOk T G C k sc X) {x : Str} (h : Z.blt T sc x = true) : Gl X x ∧ X.mg x = none := by
  unfold Z.blt at h
  rw [Bool.and_eq_true] at h
  exact ⟨o.gl h.1, o.bl x (by simpa using h.2)⟩
theorem e_bi (b : B1) (as : Es) (ha : AllE T G C k as) : BothE T G C k (.bi b as) := fun sc X W x o tk h => by
  unfold chk at h
  split at h
  · simp only [Bool.and_eq_true, decide_eq_true_eq] at h
    obtain ⟨hg, hm⟩ := o.blt h.1.2
    rw [h.1.1] at hg hm ⊢
    obtain ⟨h1, h2, _⟩ := ha sc X W _ o tk h.2
    exact both o.hK (bi_ok o b hg hm h1 h2) rfl
  · cases h
theorem e_call (f : Nat) (as : Es) (ha : AllE T G C k as) : BothE T G C k (.call f as) := fun sc X W x o tk h => by
  unfold chk at h
  split at h
  · simp only [Bool.and_eq_true, decide_eq_true_eq] at h
    obtain ⟨⟨⟨hg, hn⟩, hf⟩, hA⟩ := h
    obtain ⟨a, hm, hk, fn⟩ := o.df _ _ hf
    obtain ⟨h1, h2, _⟩ := ha sc X W _ o tk hA
    refine both o.hK ?_ rfl
    rename_i es _ _
    cases es with
    | nil =>
      cases as with
      | nil => exact z_call0 fn tk o.r0 (o.gl hg) hm hk (okNm_ok hn).1
      | cons _ _ => simp only [chkA, Bool.false_eq_true] at hA
    | cons e es => exact z_call fn tk o.r0 (o.gl hg) hm hk h1 (okNm_ok hn).1 (star_cons (noStars_cons h2).1) (star_any (noStars_cons h2).2)
  · cases h
theorem e_mk (c : Nat) (as : Es) (ha : AllE T G C k as) : BothE T G C k (.mk c as) := fun sc X W x o tk h => by
  unfold chk at h
  split at h
  · simp only [Bool.and_eq_true, decide_eq_true_eq] at h
    obtain ⟨⟨⟨hg, hn⟩, hf⟩, hA⟩ := h
    obtain ⟨hm, hk, fn⟩ := o.cs _ _ hf
    obtain ⟨h1, h2, _⟩ := ha sc X W _ o tk hA
    refine both o.hK ?_ rfl
    rename_i es _ _
    cases es with
    | nil =>
      cases as with
      | nil => exact z_mk0 fn tk o.rm (o.gl hg) hm hk (okNm_ok hn).1
      | cons _ _ => simp only [chkA, Bool.false_eq_true] at hA
    | cons e es => exact z_mk fn tk o.rm (o.gl hg) hm hk h1 (okNm_ok hn).1 (star_cons (noStars_cons h2).1) (star_any (noStars_cons h2).2)
  · cases h
theorem XOk.name {sc : Sc} {X : Cx} (o : XOk T G C k sc X) {m : Nat} (h : m < T.nm.length) : T.nm.getD m Str.empty = G.name m := by
  unfold Gx.name
  rw [o.nm]
theorem e_meth (q : Ex) (m : Nat) (as : Es) (hq : BothE T G C k q) (ha : AllE T G C k as) : BothE T G C k (.meth q m as) := fun sc X W x o tk h => by
  unfold chk at h
  split at h
  · simp only [Bool.and_eq_true, decide_eq_true_eq, Bool.not_eq_true'] at h
    obtain ⟨⟨⟨⟨⟨⟨hm, hy⟩, hs⟩, hl⟩, hp⟩, hQ⟩, hA⟩ := h
    rw [o.name hm] at hy
    obtain ⟨h1, h2, _⟩ := ha sc X W _ o tk hA
    refine both o.hK ?_ rfl
    rw [hy]
    rename_i es _ _
    cases es with
    | nil =>
      cases as with
      | nil => exact z_meth0 o.hK o.g o.me tk o.r0 (hq sc X W _ o tk hQ).1 (attr_no hs) hp
      | cons _ _ => simp only [chkA, Bool.false_eq_true] at hA
    | cons e es => exact z_meth o.hK o.g o.me tk o.r0 (hq sc X W _ o tk hQ).1 h1 (attr_no hs) (star_cons (noStars_cons h2).1) (star_any (noStars_cons h2).2) (star_all h2) hl hp
  · cases h
theorem ms_ok (m : Ms) {X : Cx} {W : WX} (hK : G.K = X.K) {x e : Expr} {es : List Expr} {ap pos : Pos} {mo : Zs → R Hd} {mA : Zs → R (List Hd)} (ho : PE X x (tZ G W mo)) (ha : PA X (e :: es) (tZA G W mA)) (h2 : noStars (e :: es) = true) (hs : isSup x = false) (hl : (e :: es).length < 30) (hp : (ap.endLine == pos.line) = true) :
    PE X (.Call (.Attribute x m.nm ap) (e :: es) [] pos) (tZ G W (evMs m.fn mo mA)) := by
  have hfew : ((backTo pos (starEach (e :: es) X.env)).all (fun x => !x.1) && (backToKw pos (keywordEach [] X.env)).all (fun x => x.1.isSome)
      && decide ((e :: es).length + ([] : List Keyword).length + (if ([] : List Keyword).isEmpty then 0 else 1) < 30)) = true := by
    rw [Bool.and_eq_true, Bool.and_eq_true]
    exact ⟨⟨star_all h2, rfl⟩, decide_eq_true hl⟩
  cases m
  case count => exact z_ms F.slot_str_count F.type_str_count mtz_count ho ha (attr_no hs) hfew hp (star_cons (noStars_cons h2).1) (star_any (noStars_cons h2).2)
  case join => exact z_ms F.slot_str_join F.type_str_join (mtz_join hK) ho ha (attr_no hs) hfew hp (star_cons (noStars_cons h2).1) (star_any (noStars_cons h2).2)
theorem chkC1_ok {sc : Sc} {X : Cx} {t : Ty} {w : Str} {p : Pos} (o : XOk T G C k sc X) (h : chkC1 T sc t w = true) : CE X G t (.Name w p) := by
  unfold chkC1 at h
  simp only [Bool.and_eq_true] at h
  obtain ⟨⟨hg, hn⟩, h⟩ := h
  cases t
  case own c =>
    simp only [decide_eq_true_eq] at h
    exact ce_own (o.gl hg) (o.cs _ _ h).1 (okNm_ok hn).1
  all_goals
    simp only [Bool.and_eq_true, decide_eq_true_eq] at h
    exact ce_ty (o.gl hg) (o.bl w (by simpa using h.2)) h.1
theorem chkCls_ok {sc : Sc} {X : Cx} (o : XOk T G C k sc X) : ∀ {ts : List Ty} {ws : List Expr}, chkCls T sc ts ws = true → Paired (fun t e => CE X G t e) ts ws
  | [], [], _ => .nil
  | [], _ :: _, h => by simp [chkCls] at h
  | _ :: _, [], h => by simp [chkCls] at h
  | t :: ts, w :: ws, h => by
    cases w <;> simp only [chkCls, Bool.false_eq_true, Bool.and_eq_true] at h
    exact .cons (chkC1_ok o h.1) (chkCls_ok o h.2)
theorem e_isiT (q : Ex) (ts : List Ty) (hq : BothE T G C k q) : BothE T G C k (.isiT q ts) := fun sc X W x o tk h => by
  unfold chk at h
  split at h
  · simp only [Bool.and_eq_true, decide_eq_true_eq, Bool.not_eq_true'] at h
    obtain ⟨⟨⟨⟨⟨hy, hb⟩, hs⟩, hQ⟩, hc⟩, hl⟩ := h
    obtain ⟨g1, m1⟩ := o.blt hb
    subst hy
    exact both o.hK (z_isiT o.hK o.is g1 m1 (hq sc X W _ o tk hQ).1 (chkCls_ok o hc) hl hs) rfl
  · cases h
theorem e_scall (f : Nat) (as : Es) (ha : AllE T G C k as) : BothE T G C k (.scall f as) := fun sc X W x o tk h => by
  unfold chk at h
  split at h
  · simp only [Bool.and_eq_true, decide_eq_true_eq] at h
    obtain ⟨⟨⟨⟨⟨hg, hn⟩, hf⟩, hl⟩, hp⟩, hA⟩ := h
    obtain ⟨a, Cc, hm, hs, fn⟩ := o.sm _ _ _ hf
    obtain ⟨h1, h2, _⟩ := ha sc X W _ o tk hA
    exact both o.hK (z_scall fn tk o.r0 (o.gl hg) hm hs h1 (okNm_ok hn).1 (attr_no rfl) (star_all h2) hl hp (star_cons (noStars_cons h2).1) (star_any (noStars_cons h2).2)) rfl
  · cases h
theorem e_ms (m : Ms) (q : Ex) (as : Es) (hq : BothE T G C k q) (ha : AllE T G C k as) : BothE T G C k (.ms m q as) := fun sc X W x o tk h => by
  unfold chk at h
  split at h
  · simp only [Bool.and_eq_true, decide_eq_true_eq, Bool.not_eq_true'] at h
    obtain ⟨⟨⟨⟨⟨hy, hs⟩, hl⟩, hp⟩, hQ⟩, hA⟩ := h
    obtain ⟨h1, h2, _⟩ := ha sc X W _ o tk hA
    refine both o.hK ?_ rfl
    rw [hy]
    exact ms_ok m o.hK (hq sc X W _ o tk hQ).1 h1 h2 hs hl hp
  · cases h
theorem e_rev (q : Ex) (hq : BothE T G C k q) : BothE T G C k (.rev q) := fun sc X W x o tk h => by
  unfold chk at h
  split at h
  · exact both o.hK (z_rev o.hK (hq sc X W _ o tk h).1) rfl
  · cases h
theorem e_lrg1 (t : Bool) (q : Ex) (hq : BothE T G C k q) : BothE T G C k (.lrg1 t q) := fun sc X W x o tk h => by
  unfold chk at h
  split at h
  · simp only [Bool.and_eq_true, decide_eq_true_eq, Bool.not_eq_true'] at h
    obtain ⟨⟨⟨⟨hy, hb⟩, hz, hb2⟩, hs⟩, hQ⟩ := h
    obtain ⟨g1, m1⟩ := o.blt hb
    obtain ⟨g2, m2⟩ := o.blt hb2
    subst hy hz
    exact both o.hK (z_lrg1 t o.cm g1 m1 g2 m2 (hq sc X W _ o tk hQ).1 (star_cons hs) (star_cons rfl)) rfl
  · cases h
theorem e_lrg2 (t : Bool) (q r : Ex) (hq : BothE T G C k q) (hr : BothE T G C k r) : BothE T G C k (.lrg2 t q r) := fun sc X W x o tk h => by
  unfold chk at h
  split at h
  · simp only [Bool.and_eq_true, decide_eq_true_eq, Bool.not_eq_true'] at h
    obtain ⟨⟨⟨⟨⟨hy, hb⟩, hz, hb2⟩, hs, hs2⟩, hQ⟩, hR⟩ := h
    obtain ⟨g1, m1⟩ := o.blt hb
    obtain ⟨g2, m2⟩ := o.blt hb2
    subst hy hz
    exact both o.hK (z_lrg2 t o.cm g1 m1 g2 m2 (hq sc X W _ o tk hQ).1 (hr sc X W _ o tk hR).1 (star_cons hs) (star_cons hs2) (by rw [star_cons hs2]; rfl) (star_cons rfl)) rfl
  · cases h
theorem e_attr (q : Ex) (m : Nat) (hq : BothE T G C k q) : BothE T G C k (.attr q m) := fun sc X W x o tk h => by
  unfold chk at h
  split at h
  · simp only [Bool.and_eq_true, decide_eq_true_eq, Bool.not_eq_true'] at h
    obtain ⟨⟨⟨hm, hy⟩, hs⟩, hQ⟩ := h
    rw [o.name hm] at hy
    rw [hy]
    exact both o.hK (z_attr o.hK o.g o.pr o.rm (hq sc X W _ o tk hQ).1 (attr_no hs)) rfl
  · cases h
theorem chk_comp {sc : Sc} {own : List Nat} {t : Tg} {it : It1} {c : Eo} {el : Ex} {x : Expr} (h : chk T sc (.comp own t it c el) x = true) : ∃ e tg iter ifs scope p, x = .ListComp e [⟨tg, iter, ifs, 0⟩] scope p ∧
    blkOk sc.N sc.ks scope own = true ∧ isSetE iter = false ∧ chkI T sc it tg iter = true ∧ chkT (sc.blk scope) t tg = true ∧ chk T (sc.blk scope) el e = true ∧ chkC T (sc.blk scope) c ifs = true := by
  unfold chk at h
  split at h
  · simp only [Bool.and_eq_true, Bool.not_eq_true'] at h
    obtain ⟨⟨⟨⟨⟨hb, hs⟩, hI⟩, hT⟩, hE⟩, hC⟩ := h
    exact ⟨_, _, _, _, _, _, rfl, hb, hs, hI, hT, hE, hC⟩
  · cases h
theorem e_comp (own : List Nat) (t : Tg) (it : It1) (c : Eo) (el : Ex) (hi : ItE T G C k it) (hc : OptE T G C k c) (he : BothE T G C k el) : BothE T G C k (.comp own t it c el) := fun sc X W x o tk h => by
  unfold chk at h
  split at h
  · simp only [Bool.and_eq_true, Bool.not_eq_true'] at h
    obtain ⟨⟨⟨⟨⟨hb, hs⟩, hI⟩, hT⟩, hE⟩, hC⟩ := h
    obtain ⟨ow, e, ok, hk⟩ := blkOk_ok o hb
    subst e
    refine both o.hK (z_comp o.hh o.cm (o.N ▸ o.nd) (hi sc X W _ _ o tk hI) ok (fun s H C' cl fp => chkT_ok (o.blk hk s H C' cl fp) t hT) (fun s H C' cl fp => hc.2 _ _ W0 _ (o.blk hk s H C' cl fp) takes0 hC) (fun s H C' cl fp => (he _ _ W0 _ (o.blk hk s H C' cl fp) takes0 hE).1) (fold_no hs)) rfl
  · cases h
theorem a_nil : AllE T G C k .nil := fun sc X W es o tk h => by
  cases es with
  | nil => exact ⟨za_nil, rfl, fun h => (h rfl).elim⟩
  | cons _ _ => simp only [chkA, Bool.false_eq_true] at h
theorem a_cons (e : Ex) (as : Es) (he : BothE T G C k e) (ha : AllE T G C k as) : AllE T G C k (.cons e as) := fun sc X W es o tk h => by
  cases es with
  | nil => simp only [chkA, Bool.false_eq_true] at h
  | cons x xs =>
    simp only [chkA, Bool.and_eq_true, Bool.not_eq_true'] at h
    obtain ⟨⟨hs, h1⟩, h2⟩ := h
    obtain ⟨a, b⟩ := he sc X W _ o tk h1
    obtain ⟨c, d, f⟩ := ha sc X W _ o tk h2
    refine ⟨za_cons a c (star_cons hs), ?_, fun _ pos => ?_⟩
    · unfold noStars at d ⊢
      rw [List.all_cons, hs, d]; rfl
    · cases xs with
      | nil =>
        cases as with
        | nil => exact ⟨⟨z_one a, zt_and1 b⟩, ⟨z_one a, zt_or1 b⟩⟩
        | cons _ _ => simp only [chkA, Bool.false_eq_true] at h2
      | cons y ys =>
        cases as with
        | nil => simp only [chkA, Bool.false_eq_true] at h2
        | cons e2 as2 =>
          obtain ⟨⟨f1, f2⟩, f3, f4⟩ := f (by simp) pos
          exact ⟨⟨z_and o.hK a f1, zt_and b f2⟩, ⟨z_or o.hK a f3, zt_or b f4⟩⟩
theorem o_none : OptE T G C k .none := ⟨fun sc X W a o tk h => by
  cases a with
  | none => exact zp_none
  | some _ => simp only [chkO, Bool.false_eq_true] at h, fun sc X W a o tk h => by
  cases a with
  | nil => exact zts_nil
  | cons _ _ => simp only [chkC, Bool.false_eq_true] at h⟩
theorem o_some (e : Ex) (he : BothE T G C k e) : OptE T G C k (.some e) := ⟨fun sc X W a o tk h => by
  cases a with
  | none => simp only [chkO, Bool.false_eq_true] at h
  | some x =>
    simp only [chkO] at h
    exact zp_some (he sc X W _ o tk h).1, fun sc X W a o tk h => by
  cases a with
  | nil => simp only [chkC, Bool.false_eq_true] at h
  | cons x xs =>
    cases xs with
    | nil =>
      simp only [chkC] at h
      exact zts_one (he sc X W _ o tk h).2
    | cons _ _ => simp only [chkC, Bool.false_eq_true] at h⟩
theorem i_seq (l : Option Nat) (e : Ex) (he : BothE T G C k e) : ItE T G C k (.seq l e) := fun sc X W tg a o tk h => by
  simp only [chkI] at h
  exact z_seq o.hK (he sc X W _ o tk h).1
theorem i_enum (l : Option Nat) (e : Ex) (he : BothE T G C k e) : ItE T G C k (.enum l e) := fun sc X W tg a o tk h => by
  unfold chkI at h
  split at h
  · simp only [Bool.and_eq_true, decide_eq_true_eq, Bool.not_eq_true'] at h
    obtain ⟨⟨⟨⟨hy, hb⟩, hs⟩, he'⟩, ht⟩ := h
    obtain ⟨hg, hm⟩ := o.blt hb
    subst hy
    cases tg <;> first | (cases ht; done) | skip
    exact z_enum o.hK hg hm (he sc X W _ o tk he').1 (star_cons hs)
  · cases h
theorem i_rng (as : Es) (ha : AllE T G C k as) : ItE T G C k (.rng as) := fun sc X W tg a o tk h => by
  unfold chkI at h
  split at h
  · simp only [Bool.and_eq_true, decide_eq_true_eq, Bool.not_eq_true'] at h
    obtain ⟨⟨⟨⟨hy, hb⟩, hA⟩, h1⟩, h2⟩ := h
    obtain ⟨hg, hm⟩ := o.blt hb
    subst hy
    obtain ⟨p, q, _⟩ := ha sc X W _ o tk hA
    have hl := chkA_len hA
    rename_i es _ _
    have hn : ∀ z hs z1 ds, evA C as z = .ok hs z1 → peeks hs z1 = some ds → ds.length = es.length := fun z hs z1 ds e1 e2 => by rw [peeks_len e2, evA_len e1, hl]
    match es, p, q, hn, h1, h2 with
    | [a], p, q, hn, _, _ => exact z_rng1 hg hm p (star_cons (noStars_cons q).1) hn
    | [a, b], p, q, hn, _, _ =>
      have e2 : starEach [b] X.env = [(false, eval b X.env)] := star_cons (noStars_cons (noStars_cons q).2).1
      exact z_rng2 hg hm p (by rw [star_cons (noStars_cons q).1, e2]) e2 hn
    | [a, b, c], p, q, hn, _, _ => exact z_rng3 hg hm p (star_cons (noStars_cons q).1) (star_any (noStars_cons q).2) hn
    | [], _, _, _, h1, _ => exact absurd h1 (by decide)
    | _ :: _ :: _ :: _ :: _, _, _, _, _, h2 => exact absurd h2 (by simp only [List.length_cons]; omega)
  · cases h
theorem e_dct0 (t : Bool) : BothE T G C k (.dct0 t) := fun sc X W x o tk h => by
  unfold chk at h
  split at h
  · exact both o.hK (z_dct0 t) rfl
  · cases h
theorem e_isi (e : Ex) (t : Ty) (he : BothE T G C k e) : BothE T G C k (.isi e t) := fun sc X W x o tk h => by
  unfold chk at h
  split at h
  · simp only [Bool.and_eq_true, decide_eq_true_eq, Bool.not_eq_true'] at h
    obtain ⟨⟨⟨⟨⟨⟨hy, hb⟩, hs⟩, h1⟩, hg⟩, hn⟩, ht⟩ := h
    obtain ⟨hg0, hm0⟩ := o.blt hb
    subst hy
    refine both o.hK ?_ rfl
    cases t
    case own c =>
      have ht := of_decide_eq_true ht
      exact z_isi o.hK o.is hg0 hm0 (he sc X W _ o tk h1).1 (o.gl hg) (o.cs _ _ ht).1 (okNm_ok hn).1 hs
    all_goals
      simp only [Bool.and_eq_true, decide_eq_true_eq] at ht
      exact z_isiB o.hK o.is hg0 hm0 (he sc X W _ o tk h1).1 (o.gl hg) (o.bl _ (by simpa using ht.2)) ht.1 hs
  · cases h
theorem e_lgen (g n : Nat) (as : Es) (ha : AllE T G C k as) : BothE T G C k (.lgen g n as) := fun sc X W x o tk h => by
  cases eg : C.gen g with
  | none =>
    have e1 : evLg C g n (evA C as) = fun _ => .bad := by unfold evLg; rw [eg]
    show PE X x (tZ G W (evLg C g n (evA C as))) ∧ PT X x (tZT G W (evTru (evLg C g n (evA C as))))
    rw [e1]
    exact ⟨⟨fun pins s σ H Q I h => by
      obtain ⟨_, _, _, _, h⟩ := h
      exact h.elim⟩, ⟨fun pins s σ H Q I h => by
      obtain ⟨_, _, _, _, h⟩ := h
      exact h.elim⟩⟩
  | some run =>
    have e1 : evLg C g n (evA C as) = evLgen (fun c => (C.exc c).isSome) run n (evA C as) := by unfold evLg; rw [eg]
    show PE X x (tZ G W (evLg C g n (evA C as))) ∧ PT X x (tZT G W (evTru (evLg C g n (evA C as))))
    rw [e1]
    unfold chk at h
    split at h
    · simp only [Bool.and_eq_true, decide_eq_true_eq] at h
      obtain ⟨⟨⟨⟨⟨hy, hb⟩, hz⟩, hn⟩, hg⟩, hA⟩ := h
      obtain ⟨g1, m1⟩ := o.blt hb
      subst hy
      obtain ⟨a, j, hj, hm, hk, gn⟩ := o.gn _ _ _ hg run eg
      obtain ⟨h1, h2, _⟩ := ha sc X W _ o tk hA
      exact both o.hK (z_lgen gn o.np tk (o.rm.mono hj) g1 m1 (o.gl hz) hm hk h1 (okNm_ok hn).1 (star_cons (noStars_cons h2).1) (star_any (noStars_cons h2).2) (star_cons rfl)) rfl
    · cases h
theorem e_stop : BothE T G C k .stop := fun sc X W x o tk h => ⟨⟨fun pins s σ H Q I h => by
  obtain ⟨_, _, _, _, h⟩ := h
  exact h.elim⟩, ⟨fun pins s σ H Q I h => by
  obtain ⟨_, _, _, _, h⟩ := h
  exact h.elim⟩⟩
mutual
theorem ex_ok : ∀ e : Ex, BothE T G C k e
  | .lc i => e_lc i
  | .kon d => e_kon d
  | .gk j => e_gk j
  | .bin op a b => e_bin op a b (ex_ok a) (ex_ok b)
  | .neg a => e_neg a (ex_ok a)
  | .not a => e_not a (ex_ok a)
  | .cmp op a b => e_cmp op a b (ex_ok a) (ex_ok b)
  | .chn op op' a b c => e_chn op op' a b c (ex_ok a) (ex_ok b) (ex_ok c)
  | .and as => e_and as (es_ok as)
  | .or as => e_or as (es_ok as)
  | .ife c a b => e_ife c a b (ex_ok c) (ex_ok a) (ex_ok b)
  | .tup as => e_tup as (es_ok as)
  | .lst as => e_lst as (es_ok as)
  | .ix a b => e_ix a b (ex_ok a) (ex_ok b)
  | .sl a lo hi => e_sl a lo hi (ex_ok a) (eo_ok lo) (eo_ok hi)
  | .bi b as => e_bi b as (es_ok as)
  | .call f as => e_call f as (es_ok as)
  | .mk c as => e_mk c as (es_ok as)
  | .meth q m as => e_meth q m as (ex_ok q) (es_ok as)
  | .attr q n => e_attr q n (ex_ok q)
  | .comp own t it c el => e_comp own t it c el (it_ok it) (eo_ok c) (ex_ok el)
  | .stop => e_stop
  | .isi e t => e_isi e t (ex_ok e)
  | .dct0 t => e_dct0 t
  | .ms m q as => e_ms m q as (ex_ok q) (es_ok as)
  | .rev q => e_rev q (ex_ok q)
  | .lrg1 t q => e_lrg1 t q (ex_ok q)
  | .lrg2 t q r => e_lrg2 t q r (ex_ok q) (ex_ok r)
  | .isiT e ts => e_isiT e ts (ex_ok e)
  | .scall f as => e_scall f as (es_ok as)
  | .lgen g n as => e_lgen g n as (es_ok as)
theorem es_ok : ∀ as : Es, AllE T G C k as
  | .nil => a_nil
  | .cons e es => a_cons e es (ex_ok e) (es_ok es)
theorem eo_ok : ∀ c : Eo, OptE T G C k c
  | .none => o_none
  | .some e => o_some e (ex_ok e)
theorem it_ok : ∀ it : It1, ItE T G C k it
  | .seq l e => i_seq l e (ex_ok e)
  | .rng as => i_rng as (es_ok as)
  | .enum l e => i_enum l e (ex_ok e)
end
end
end Z
end

section
set_option maxRecDepth 100007
/-! Several names at once. -/
namespace Z
open PySem L2 PyProof.Rows
theorem any_star (vs : List Expr) (h : noStars vs = true) : (vs.any fun | .Starred .. => true | _ => false) = false := by
  induction vs with
  | nil => rfl
  | cons e es ih =>
    obtain ⟨h1, h2⟩ := noStars_cons h
    rw [List.any_cons, ih h2, Bool.or_false]
    cases e <;> first | rfl | cases h1
def lineOf (ts : List Expr) : Nat := (ts.head?.map (·.pos.line)).getD 0
def nmsOf (ks : List (Str × NameKind)) (line : Nat) (ts : List Expr) : List Str := ts.filterMap fun
    | .Name id pos => if ks.lookup id == some .local && pos.line == line then some id else none
    | _ => none
theorem swapped_yes {ts vs : List Expr} {xs : List Str} {kt k2 : Nat} {pt pt2 : Pos} {env : Env} (hb : env.blockKind = .function) (hl : ts.length = 2 ∨ ts.length = 3) (hv : vs.length = ts.length) (hn : nmsOf env.scope.names (lineOf ts) ts = xs) (hx : xs.length = ts.length) (hd : xs.eraseDups.length = xs.length)
    (hs : noStars vs = true) (h1 : vs.all (foldedForSure 8) = false) (h2 : vs.all (constantsAlone 8) = false) : swappedStores [.Tuple ts kt pt] (.Tuple vs k2 pt2) env = pure (some xs) := by
  have h3 := any_star _ hs
  have h4 : (ts.length == 2 || ts.length == 3) = true := by rcases hl with h | h <;> rw [h] <;> rfl
  have hn' : (ts.filterMap fun | .Name id pos => if env.kindOf id == some .local && pos.line == lineOf ts then some id else none | _ => none) = xs := hn
  unfold lineOf at hn'
  have h5 : (!(ts.length == 2 || ts.length == 3) || vs.length != ts.length || env.blockKind != .function) = false := by rw [h4, hv, hb]; simp
  unfold swappedStores
  refine (if_neg (by rw [h5]; decide)).trans ?_
  refine (if_neg (by rw [Bool.not_eq_true]; exact h3)).trans ?_
  refine (if_neg (by
    rw [Bool.not_eq_true, Bool.or_eq_false_iff]
    refine ⟨?_, ?_⟩
    · exact (congrArg (fun l : List Str => l.length != ts.length) hn').trans (by simp [hx])
    · exact (congrArg (fun l : List Str => l.eraseDups.length != l.length) hn').trans (by simp [hd]))).trans ?_
  refine (if_neg (by rw [h1]; decide)).trans ?_
  rw [h2]
  exact congrArg (fun l : List Str => (pure (some l) : Sem (Option (List Str)))) hn'
theorem swapped_len {ts vs : List Expr} {kt k2 : Nat} {pt pt2 : Pos} {env : Env} (hl : (ts.length == 2 || ts.length == 3) = false) : swappedStores [.Tuple ts kt pt] (.Tuple vs k2 pt2) env = pure none := by
  unfold swappedStores
  simp only [hl]
  rfl
def setAll (σ : L2.St) : List Nat → List V → L2.St
  | i :: is, v :: vs => setAll (σ.set i (some v)) is vs
  | _, _ => σ
section
variable {G : Gx} {W : WX} {ro : Ro} {X : Cx} {σ : L2.St} {H : Hp} {F : Fz} {ow : Ows} {z z' : Zs}
theorem sets_ok (hro : Hro G ro) : ∀ {is : List Nat} {os : List O} {vs : List V} {σ : L2.St} {ow : Ows} {z : Zs} {f : List Addr}, SRep G H F σ z ow → RepOs G H F vs os f → (∀ a ∈ f, ¬ Own ow a) → (∀ a ∈ f, ¬ F a) → setsS ro is os z = some z' →
    ∃ ow', SRep G H F (setAll σ is vs) z' ow' ∧ Kp ro σ (setAll σ is vs) ∧ ∀ a, Own ow' a → Own ow a ∨ a ∈ f := by
  intro is
  induction is with
  | nil =>
    intro os vs σ ow z f s r d nf e
    cases r with
    | nil =>
      simp only [setsS, Option.some.injEq] at e
      subst e
      exact ⟨ow, s, Kp.refl, fun a h => .inl h⟩
    | cons _ _ _ => simp only [setsS, reduceCtorEq] at e
  | cons i is ih =>
    intro os vs σ ow z f s r d nf e
    cases r with
    | nil => simp only [setsS, reduceCtorEq] at e
    | @cons v o vs os f g r rs dj =>
      simp only [setsS] at e
      cases e1 : setS ro i o z with
      | none => rw [e1] at e; cases e
      | some z1 =>
        rw [e1] at e
        obtain ⟨s1, k1⟩ := setS_ok hro s r (fun a h q => d a (by simp [h]) (own_ow0 q)) (fun a h => nf a (by simp [h])) e1
        obtain ⟨ow', s2, k2, o2⟩ := ih s1 rs (fun a h q => by
          rcases own_ow1 q with q | q
          · exact d a (by simp [h]) (own_ow0 q)
          · exact dj a q h) (fun a h => nf a (by simp [h])) e
        refine ⟨ow', s2, k1.trans k2, fun a h => ?_⟩
        rcases o2 a h with h | h
        · rcases own_ow1 h with h | h
          · exact .inl (own_ow0 h)
          · exact .inr (by simp [h])
        · exact .inr (by simp [h])
theorem par_read (hro : Hro G ro) {is : List Nat} {mA : Zs → R (List Hd)} {D : Ends} (h : tZS G W ro (exPar ro is mA) D σ H) : tZA G W mA σ H fun vs H1 => vs.length = is.length ∧ D.nx (setAll σ is vs) H1 := by
  obtain ⟨z, ow, F, s, run⟩ := h
  refine ⟨z, ow, F, s, RunS.first s run fun hs z1 vs H1 F1 ow1 f1 _ st1 s1 r1 d1 run1 => ?_⟩
  cases e1 : lendA (takeM hs) hs z1 with
  | none => simp only [e1] at run1; exact run1.elim
  | some p =>
    obtain ⟨os, z2⟩ := p
    simp only [e1] at run1
    cases e2 : setsS ro is os z2 with
    | none => simp only [e2] at run1; exact run1.elim
    | some z3 =>
      simp only [e2] at run1
      obtain ⟨F2, ow2, f2, s2, ros, st2, d2⟩ := lend_ok r1 s1 d1 (fun a h => st1.nf a (.inr h)) (fun a h => st1.tr a (.inr h)) e1
      obtain ⟨ow3, s3, k3, o3⟩ := sets_ok hro s2 ros d2 (fun a h => st2.nf a (.inr h)) e2
      have hl : ∀ {is : List Nat} {os : List O} {z : Zs}, setsS ro is os z = some z3 → os.length = is.length := by
        intro is
        induction is with
        | nil =>
          intro os z e
          cases os with
          | nil => rfl
          | cons _ _ => simp only [setsS, reduceCtorEq] at e
        | cons i is ih =>
          intro os z e
          cases os with
          | nil => simp only [setsS, reduceCtorEq] at e
          | cons o os =>
            simp only [setsS] at e
            cases e3 : setS ro i o z with
            | none => rw [e3] at e; cases e
            | some z4 =>
              rw [e3] at e
              rw [List.length_cons, List.length_cons, ih e]
      exact ⟨by rw [ros.length, hl e2], run1 _ H1 F2 ow3 ((st1.trans st2).weak o3) s3 k3⟩
theorem zs_par2 (hro : Hro G ro) {i j : Nat} {x y : Str} {a b : Expr} {mA : Zs → R (List Hd)} {px py pt pos : Pos} {kt k2 pt2} (hc : X.calm = true) (hN : X.N.Nodup) (hi : X.N[i]? = some x) (hj : X.N[j]? = some y) (hij : i ≠ j)
    (hx : X.env.scope.names.lookup x = some .local) (hy : X.env.scope.names.lookup y = some .local) (ha : PA X [a, b] (tZA G W mA))
    (hw : swappedStores [.Tuple [.Name x px, .Name y py] kt pt] (.Tuple [a, b] k2 pt2) X.env = pure (some [x, y])) :
    PS X (.Assign [.Tuple [.Name x px, .Name y py] kt pt] (.Tuple [a, b] k2 pt2) pos) (tZS G W ro (exPar ro [i, j] mA)) := PS.imp (ps_par hc hN hi hj hij hx hy ha hw (by rfl)) fun D σ H h => by
  obtain ⟨z, ow, F, s, run⟩ := par_read hro h
  refine ⟨z, ow, F, s, RunG.first (k := fun a z => .ok a z) (rel2 := relA G σ) (Q := fun vs H1 => vs.length = 2 ∧ D.nx (setAll σ [i, j] vs) H1) s (by cases e : mA z <;> rw [e] at run <;> exact run) fun hs z1 vs H1 F1 ow1 f1 _ st1 s1 r1 d1 run1 => ?_⟩
  have := run1 vs H1 F1 ow1 f1 st1 s1 r1 d1
  match vs, this with
  | [v, w], h => exact ⟨v, w, rfl, h.2⟩
theorem zs_par3 (hro : Hro G ro) {i j l : Nat} {x y w : Str} {a b c : Expr} {mA : Zs → R (List Hd)} {px py pz pt pos : Pos} {kt k2 pt2} (hc : X.calm = true) (hN : X.N.Nodup) (hi : X.N[i]? = some x) (hj : X.N[j]? = some y) (hl : X.N[l]? = some w) (hij : i ≠ j) (hil : i ≠ l) (hjl : j ≠ l)
    (hx : X.env.scope.names.lookup x = some .local) (hy : X.env.scope.names.lookup y = some .local) (hz : X.env.scope.names.lookup w = some .local) (ha : PA X [a, b, c] (tZA G W mA))
    (hw : swappedStores [.Tuple [.Name x px, .Name y py, .Name w pz] kt pt] (.Tuple [a, b, c] k2 pt2) X.env = pure (some [x, y, w])) :
    PS X (.Assign [.Tuple [.Name x px, .Name y py, .Name w pz] kt pt] (.Tuple [a, b, c] k2 pt2) pos) (tZS G W ro (exPar ro [i, j, l] mA)) := PS.imp (ps_par3 hc hN hi hj hl hij hil hjl hx hy hz ha hw (by rfl)) fun D σ H h => by
  obtain ⟨z, ow, F, s, run⟩ := par_read hro h
  refine ⟨z, ow, F, s, RunG.first (k := fun a z => .ok a z) (rel2 := relA G σ) (Q := fun vs H1 => vs.length = 3 ∧ D.nx (setAll σ [i, j, l] vs) H1) s (by cases e : mA z <;> rw [e] at run <;> exact run) fun hs z1 vs H1 F1 ow1 f1 _ st1 s1 r1 d1 run1 => ?_⟩
  have := run1 vs H1 F1 ow1 f1 st1 s1 r1 d1
  match vs, this with
  | [u, v, w], h => exact ⟨u, v, w, rfl, h.2⟩
end
end Z
end

section
set_option maxRecDepth 100007
/-! The check of statements, and that it is sound. -/
namespace Z
open PySem L2 PyProof.Rows
def swLc (sc : Sc) (t : Str) (pos : Pos) (scope : Scope) (p : Pos) : Bool := (sc.ks.lookup t == some .local) && pos.line == p.line && !(scope.names.any fun (n, k) => n == t && (k == .local || k == .cell))
def swOk (sc : Sc) (x : Str) (px : Pos) (e : Ex) (v : Expr) : Bool := match v with
  | .ListComp _ _ scope p => (match e with
    | .comp .. => true
    | _ => false) && (!swLc sc x px scope p || decide (sc.ks.lookup x = some .local))
  | v => !isComp v
def chkPar (sc : Sc) : List Nat → List Expr → Bool
  | [i, j], [.Name x px, .Name y py] => decide (sc.N[i]? = some x) && decide (sc.N[j]? = some y) && decide (i ≠ j) && decide (sc.ks.lookup x = some .local) && decide (sc.ks.lookup y = some .local) && decide (nmsOf sc.ks px.line [.Name x px, .Name y py] = [x, y]) && decide ([x, y].eraseDups.length = 2)
  | [i, j, l], [.Name x px, .Name y py, .Name w pw] => decide (sc.N[i]? = some x) && decide (sc.N[j]? = some y) && decide (sc.N[l]? = some w) && decide (i ≠ j) && decide (i ≠ l) && decide (j ≠ l) && decide (sc.ks.lookup x = some .local) && decide (sc.ks.lookup y = some .local) && decide (sc.ks.lookup w = some .local) && decide (nmsOf sc.ks px.line [.Name x px, .Name y py, .Name w pw] = [x, y, w]) && decide ([x, y, w].eraseDups.length = 3)
  | _, _ => false
def parNo (tg v : Expr) : Bool := match tg, v with
  | .Tuple ts _ _, .Tuple vs _ _ => !(ts.length == 2 || ts.length == 3)
  | tg, v => !isPar tg v
def chkHs (T : Tab) (sc : Sc) : List ExceptHandler → List (Nat × Nat × Xt) → Bool
  | [], [] => true
  | .ExceptHandler (some (.Name x _)) (some n) st _ :: r, (c, i, t) :: l => sc.gl x && okNm x && decide ((x, c) ∈ T.excs) && decide (sc.N[i]? = some n) && decide (sc.ks.lookup n = some .local) && !st.isEmpty && chkXt ⟨sc.N, sc.ks, T.nm, i⟩ t st && chkHs T sc r l
  | _, _ => false
mutual
def chkS (T : Tab) (sc : Sc) : Sm → Stmt → Bool
  | .pass, s => match s with
    | .Pass _ => true
    | _ => false
  | .brk, s => match s with
    | .Break _ => true
    | _ => false
  | .cnt, s => match s with
    | .Continue _ => true
    | _ => false
  | .retN, s => match s with
    | .Return none _ => true
    | _ => false
  | .ret e, s => match s with
    | .Return (some x) _ => chk T sc e x
    | _ => false
  | .drop e, s => match s with
    | .Expr x _ => !isComp x && chk T sc e x
    | _ => false
  | .asg i e, s => match s with
    | .Assign [.Name x px] v _ => sc.st i x && chk T sc e v && swOk sc x px e v
    | _ => false
  | .asgT t e, s => match s with
    | .Assign [tg] v _ => chkT sc t tg && chk T sc e v && !isComp v && !isStar tg && parNo tg v
    | _ => false
  | .par is as, s => match s with
    | .Assign [.Tuple ts _ _] (.Tuple vs _ _) _ => chkPar sc is ts && chkA T sc as vs && decide (vs.length = ts.length) && !vs.all (foldedForSure 8) && !vs.all (constantsAlone 8)
    | _ => false
  | .app i e, s => match s with
    | .Expr (.Call (.Attribute (.Name x _) y ap) [v] [] cp) _ => sc.var i x && decide (y = ("append" : Str)) && !isStar v && (ap.endLine == cp.line) && chk T sc e v
    | _ => false
  | .setIx i k e, s => match s with
    | .Assign [.Subscript (.Name x _) y _] v _ => sc.var i x && !isSlc y && !isComp v && chk T sc k y && chk T sc e v
    | _ => false
  | .setFld i n e, s => match s with
    | .Assign [.Attribute (.Name x _) y _] v _ => sc.var i x && decide (n < T.nm.length) && decide (y = T.nm.getD n Str.empty) && !isComp v && chk T sc e v
    | _ => false
  | .aug op i e, s => match s with
    | .AugAssign (.Name x _) o v _ => sc.st i x && decide (o = opOf op) && chk T sc e v
    | _ => false
  | .ife c a b, s => match s with
    | .If x p q _ => chk T sc c x && chkB T sc a p && chkB T sc b q
    | _ => false
  | .whl c a, s => match s with
    | .While x p [] _ => chk T sc c x && chkB T sc a p
    | _ => false
  | .frk t i en a, s => match s with
    | .For tg x p [] _ => (match x with
      | .Name y _ => !en && sc.var i y
      | .Call (.Name f _) [.Name y _] [] _ => en && decide (f = ("enumerate" : Str)) && blt T sc f && sc.var i y && isTupE tg
      | _ => false) && chkT sc t tg && chkB T sc a p && !isSetE x
    | _ => false
  | .frl t it a, s => match s with
    | .For tg x p [] _ => chkI T sc it tg x && chkT sc t tg && chkB T sc a p && !isSetE x
    | _ => false
  | .rais c as, s => match s with
    | .Raise (some (.Call (.Name x _) (e :: es) [] _)) none _ => sc.gl x && okNm x && decide ((x, c) ∈ T.excs) && chkA T sc as (e :: es)
    | _ => false
  | .tryx a hs, s => match s with
    | .Try p hds [] [] _ => !hds.isEmpty && chkB T sc a p && chkHs T sc hds hs
    | _ => false
  | .stop, s => true
  | _, _ => false
def chkB (T : Tab) (sc : Sc) : Sm → List Stmt → Bool
  | .nil, [] => true
  | .seq s r, x :: xs => chkS T sc s x && chkB T sc r xs
  | _, _ => false
end
section
variable {T : Tab} {G : Gx} {C : Ct} {k : Nat} {sc : Sc} {X : Cx} {W : WX}
theorem XOk.bk (o : XOk T G C k sc X) : X.env.blockKind = .function := by
  unfold Env.blockKind
  rw [o.kd]
  rfl
theorem swaps_lc {e : Expr} {gs : List Comprehension} {scope : Scope} {p : Pos} {t : Str} {pos : Pos} {l : Nat} (o : XOk T G C k sc X) : swapsWith (.ListComp e gs scope p) (some (.Name t pos)) l X.env = pure (swLc sc t pos scope p) := by
  unfold swapsWith swLc
  simp only [o.bk]
  unfold Env.kindOf
  rw [o.ks]
  rfl
theorem s_asg (i : Nat) (e : Ex) (o : XOk T G C k sc X) (tk : Takes X W) {ro : Ro} {x : Str} {px pos : Pos} {v : Expr} (h1 : sc.st i x = true) (h2 : chk T sc e v = true) (h3 : swOk sc x px e v = true) : PS X (.Assign [.Name x px] v pos) (tZS G W ro (exAsgN ro i (ev C e).1)) := by
  obtain ⟨a, b, c, d⟩ := o.st h1
  by_cases hc : isComp v = true
  · cases v <;> first | (cases hc; done) | skip
    · rename_i el gs scope p
      simp only [swOk, Bool.and_eq_true] at h3
      cases e <;> first | (exact (Bool.false_ne_true h3.1).elim) | skip
      rename_i own t it cc ee
      have hsw := swaps_lc (e := el) (gs := gs) (scope := scope) (p := p) (t := x) (pos := px) (l := pos.line) o
      cases hv : swLc sc x px scope p with
      | false =>
        rw [hv] at hsw
        exact zs_asgN (hro_none o.hh) a b c ((ex_ok (T := T) (G := G) (C := C) (k := k) _) sc X W _ o tk h2).1 hsw d
      | true =>
        rw [hv] at hsw h3
        have hyl : X.env.scope.names.lookup x = some .local := by
          rw [o.ks]
          simpa using h3.2
        obtain ⟨_, _, _, _, _, _, heq, hb, hs, hI, hT, hE, hC⟩ := chk_comp h2
        cases heq
        obtain ⟨ow, e, ok, hk⟩ := blkOk_ok o hb
        subst e
        exact zs_asgLc o.hh o.cm (o.N ▸ o.nd) b hyl hsw ((it_ok it) sc X W _ _ o tk hI) ok (fun s H C' cl fp => chkT_ok (o.blk hk s H C' cl fp) t hT) (fun s H C' cl fp => (eo_ok cc).2 _ _ W0 _ (o.blk hk s H C' cl fp) takes0 hC) (fun s H C' cl fp => ((ex_ok ee) _ _ W0 _ (o.blk hk s H C' cl fp) takes0 hE).1) (fold_no hs)
    · simp only [swOk, isComp, Bool.not_true, Bool.false_eq_true] at h3
    · simp only [swOk, isComp, Bool.not_true, Bool.false_eq_true] at h3
  · exact zs_asgN (hro_none o.hh) a b c ((ex_ok (T := T) (G := G) (C := C) (k := k) _) sc X W _ o tk h2).1 (swaps_no (by simpa using hc)) d
theorem s_asgT (t : Tg) (e : Ex) (o : XOk T G C k sc X) (tk : Takes X W) {ro : Ro} {pos : Pos} {tg v : Expr} (h1 : chkT sc t tg = true) (h2 : chk T sc e v = true) (h3 : isComp v = false) (h4 : isStar tg = false) (h5 : parNo tg v = true) : PS X (.Assign [tg] v pos) (tZS G W ro (exAsgT ro t (ev C e).1)) := by
  refine zs_asgT ((ex_ok (T := T) (G := G) (C := C) (k := k) _) sc X W _ o tk h2).1 (chkT_ok o t h1) (swaps_no h3) ?_ (by rw [assign_cons h4]; rfl)
  unfold parNo at h5
  split at h5
  · exact swapped_len (by simpa using h5)
  · exact swapped_no (by simpa using h5)
theorem s_par (is : List Nat) (as : Es) (o : XOk T G C k sc X) (tk : Takes X W) {ro : Ro} {ts vs : List Expr} {kt k2 : Nat} {pt pt2 pos : Pos} (h1 : chkPar sc is ts = true) (h2 : chkA T sc as vs = true) (h3 : vs.length = ts.length) (h4 : vs.all (foldedForSure 8) = false) (h5 : vs.all (constantsAlone 8) = false) : PS X (.Assign [.Tuple ts kt pt] (.Tuple vs k2 pt2) pos) (tZS G W ro (exPar ro is (evA C as))) := by
  obtain ⟨p, q, _⟩ := (es_ok (T := T) (G := G) (C := C) (k := k) as) sc X W _ o tk h2
  unfold chkPar at h1
  split at h1
  · simp only [Bool.and_eq_true, decide_eq_true_eq] at h1
    obtain ⟨⟨⟨⟨⟨⟨a1, a2⟩, a3⟩, a4⟩, a5⟩, a6⟩, a7⟩ := h1
    match vs, h3 with
    | [a, b], _ => exact zs_par2 (hro_none o.hh) o.cm (o.N ▸ o.nd) (o.N ▸ a1) (o.N ▸ a2) a3 (by rw [o.ks]; exact a4) (by rw [o.ks]; exact a5) p (swapped_yes o.bk (.inl rfl) rfl (by rw [o.ks]; exact a6) rfl a7 q h4 h5)
  · simp only [Bool.and_eq_true, decide_eq_true_eq] at h1
    obtain ⟨⟨⟨⟨⟨⟨⟨⟨⟨⟨a1, a2⟩, a3⟩, b1⟩, b2⟩, b3⟩, a4⟩, a5⟩, a8⟩, a6⟩, a7⟩ := h1
    match vs, h3 with
    | [a, b, c], _ => exact zs_par3 (hro_none o.hh) o.cm (o.N ▸ o.nd) (o.N ▸ a1) (o.N ▸ a2) (o.N ▸ a3) b1 b2 b3 (by rw [o.ks]; exact a4) (by rw [o.ks]; exact a5) (by rw [o.ks]; exact a8) p (swapped_yes o.bk (.inr rfl) rfl (by rw [o.ks]; exact a6) rfl a7 q h4 h5)
  · cases h1
theorem sub_assign {y o : Expr} {p : Pos} {env : Env} (h : isSlc y = false) : ∀ v, assign (.Subscript o y p) env v = (do let ov ← holding [v] (eval o env); let iv ← holding [v, ov] (eval y env); standAt p; holding [v, ov, iv] (setItem ov iv v); release [v, ov, iv] []) := by
  intro v
  cases y <;> first | rfl | cases h
theorem XOk.tr (o : XOk T G C k sc X) (pn : List (Addr × Obj)) (xe : Value → Shared → Prop) : XOk T G C k sc (X.tr pn xe) :=
  ⟨o.hK, o.nm, o.rm, o.cm, o.g, o.N, o.nd, o.ks, o.kd, o.fn, o.df, o.cs, o.gk, o.bl, o.me, o.pr, o.is, o.du, o.hh, o.ex, o.xn, o.xm, o.xf, o.am, o.sm, o.gn, o.np⟩
theorem hds_ok (o : XOk T G C k sc X) {ro : Ro} : ∀ {hds : List ExceptHandler} {hs : List (Nat × Nat × Xt)}, chkHs T sc hds hs = true → HdsA X hds (hdL G ro (hs.map fun q => (q.1, q.2.1, xtS C.xfl (roL ro (some q.2.1)) q.2.2)))
  | [], [], _ => .nil
  | [], _ :: _, h => by unfold chkHs at h; cases h
  | hd :: r, [], h => by unfold chkHs at h; split at h <;> first | (rename_i h0 h1; cases h0; done) | (rename_i h0 h1; cases h1; done) | (rename_i h0; cases h0; done) | cases h
  | hd :: r, q :: l, h => by
    unfold chkHs at h
    split at h
    · rename_i e1 e2; cases e1
    · rename_i x px n st ph r' c i t l' e1 e2
      cases e1
      cases e2
      simp only [Bool.and_eq_true, Bool.not_eq_true', decide_eq_true_eq] at h
      obtain ⟨⟨⟨⟨⟨⟨⟨a1, a2⟩, a3⟩, a4⟩, a5⟩, a6⟩, a7⟩, a8⟩ := h
      cases st with
      | nil => cases a6
      | cons b0 st =>
        have ln : X.env.kindOf n = some .local := by show X.env.scope.names.lookup n = _; rw [o.ks]; exact a5
        refine .cons (by rw [o.N]; exact a4) ln ⟨o.gl a1, (okNm_ok a2).1, .inl (o.xn _ _ a3)⟩ (fun a oe cls d pn hz hf => suT_of fun c0 dd fvs fs e1 e2 => ?_) (hds_ok o a8)
        subst e1 e2
        exact xt_ok (q := ⟨sc.N, sc.ks, T.nm, i⟩) ⟨o.hK, o.N, o.nd, o.ks, o.nm, o.g.nd, o.xf⟩ hz hf t a7
    · cases h
mutual
theorem sm_ok : ∀ (s : Sm) {X : Cx} {W : WX} (o : XOk T G C k sc X) (hs : X.stack = X.env :: X.outer ∧ X.env.frame = some X.env.locals) (tk : Takes X W) (hp : PassesOwn (model X.prog X.w) X.A X.env X.xe) {ro : Ro} {st : Stmt}, chkS T sc s st = true → PS X st (tZS G W ro (evS C ro s))
  | .nil, X, W, o, hs, tk, hp, ro, st, h => by simp only [chkS, Bool.false_eq_true] at h
  | .seq _ _, X, W, o, hs, tk, hp, ro, st, h => by simp only [chkS, Bool.false_eq_true] at h
  | .pass, X, W, o, hs, tk, hp, ro, st, h => by
    unfold chkS at h
    split at h
    · exact zs_pass
    · cases h
  | .brk, X, W, o, hs, tk, hp, ro, st, h => by
    unfold chkS at h
    split at h
    · exact zs_break
    · cases h
  | .cnt, X, W, o, hs, tk, hp, ro, st, h => by
    unfold chkS at h
    split at h
    · exact zs_continue
    · cases h
  | .retN, X, W, o, hs, tk, hp, ro, st, h => by
    unfold chkS at h
    split at h
    · exact zs_retN
    · cases h
  | .ret e, X, W, o, hs, tk, hp, ro, st, h => by
    unfold chkS at h
    split at h
    · exact zs_ret ((ex_ok e) sc X W _ o tk h).1
    · cases h
  | .drop e, X, W, o, hs, tk, hp, ro, st, h => by
    unfold chkS at h
    split at h
    · simp only [Bool.and_eq_true, Bool.not_eq_true'] at h
      exact zs_drop ((ex_ok e) sc X W _ o tk h.2).1 (swaps_no h.1)
    · cases h
  | .asg i e, X, W, o, hs, tk, hp, ro, st, h => by
    unfold chkS at h
    split at h
    · simp only [Bool.and_eq_true] at h
      exact s_asg i e o tk h.1.1 h.1.2 h.2
    · cases h
  | .asgT t e, X, W, o, hs, tk, hp, ro, st, h => by
    unfold chkS at h
    split at h
    · simp only [Bool.and_eq_true, Bool.not_eq_true'] at h
      exact s_asgT t e o tk h.1.1.1.1 h.1.1.1.2 h.1.1.2 h.1.2 h.2
    · cases h
  | .par is as, X, W, o, hs, tk, hp, ro, st, h => by
    unfold chkS at h
    split at h
    · simp only [Bool.and_eq_true, Bool.not_eq_true', decide_eq_true_eq] at h
      exact s_par is as o tk h.1.1.1.1 h.1.1.1.2 h.1.1.2 h.1.2 h.2
    · cases h
  | .app i e, X, W, o, hs, tk, hp, ro, st, h => by
    unfold chkS at h
    split at h
    · simp only [Bool.and_eq_true, Bool.not_eq_true', decide_eq_true_eq] at h
      obtain ⟨⟨⟨⟨a1, a2⟩, a3⟩, a4⟩, a5⟩ := h
      obtain ⟨b1, b2, b3, b4⟩ := o.var a1
      subst a2
      exact zs_app o.hK b1 b2 b3 b4 ((ex_ok e) sc X W _ o tk a5).1 (star_cons a3) (attr_no rfl) a4 (swaps_no rfl)
    · cases h
  | .setIx i y e, X, W, o, hs, tk, hp, ro, st, h => by
    unfold chkS at h
    split at h
    · simp only [Bool.and_eq_true, Bool.not_eq_true', decide_eq_true_eq] at h
      obtain ⟨⟨⟨⟨a1, a2⟩, a3⟩, a4⟩, a5⟩ := h
      obtain ⟨b1, b2, b3, b4⟩ := o.var a1
      exact zs_setIx o.hu b1 b2 b3 b4 ((ex_ok e) sc X W _ o tk a5).1 ((ex_ok y) sc X W _ o tk a4).1 (sub_assign a2) (by exact (show swapsWithSole [_] _ _ _ = _ from by unfold swapsWithSole; exact swaps_no a3)) (swapped_no rfl) (by rw [assign_cons rfl]; rfl)
    · cases h
  | .setFld i n e, X, W, o, hs, tk, hp, ro, st, h => by
    unfold chkS at h
    split at h
    · simp only [Bool.and_eq_true, Bool.not_eq_true', decide_eq_true_eq] at h
      obtain ⟨⟨⟨⟨a1, a2⟩, a3⟩, a4⟩, a5⟩ := h
      obtain ⟨b1, b2, b3, b4⟩ := o.var a1
      rw [o.name a2] at a3
      rw [a3]
      exact zs_setFld o.hK o.g b1 b2 b3 b4 ((ex_ok e) sc X W _ o tk a5).1 (swaps_no a4)
    · cases h
  | .aug op i e, X, W, o, hs, tk, hp, ro, st, h => by
    unfold chkS at h
    split at h
    · simp only [Bool.and_eq_true, decide_eq_true_eq] at h
      obtain ⟨a, b, c, d⟩ := o.st h.1.1
      rw [h.1.2]
      exact zs_aug (hro_none o.hh) a b c ((ex_ok e) sc X W _ o tk h.2).1 d
    · cases h
  | .ife c a b, X, W, o, hs, tk, hp, ro, st, h => by
    unfold chkS at h
    split at h
    · simp only [Bool.and_eq_true] at h
      exact zs_if ((ex_ok c) sc X W _ o tk h.1.1).2 (sb_ok a o hs tk hp h.1.2) (sb_ok b o hs tk hp h.2)
    · cases h
  | .whl c a, X, W, o, hs, tk, hp, ro, st, h => by
    unfold chkS at h
    split at h
    · simp only [Bool.and_eq_true] at h
      exact zs_while hp ((ex_ok c) sc X W _ o tk h.1).2 (sb_ok a o hs tk hp h.2)
    · cases h
  | .frk t i en a, X, W, o, hs, tk, hp, ro, st, h => by
    unfold chkS at h
    split at h
    · rename_i tg x p pos
      simp only [Bool.and_eq_true, Bool.not_eq_true'] at h
      obtain ⟨⟨⟨h1, h2⟩, h3⟩, h4⟩ := h
      split at h1
      · rename_i y py
        simp only [Bool.and_eq_true, Bool.not_eq_true'] at h1
        obtain ⟨rfl, hv⟩ := h1
        obtain ⟨v1, v2, v3, v4⟩ := o.var hv
        exact zs_forK hp o.cm (keep_seq o.hK v1 v2 v3 v4) (z_seq o.hK (z_name v1 v2 v3 v4)) (chkT_ok o t h2) (sb_ok a o hs tk hp h3) (fold_no h4)
      · rename_i f pf y py pos2
        simp only [Bool.and_eq_true, decide_eq_true_eq] at h1
        obtain ⟨⟨⟨⟨rfl, hf⟩, hb⟩, hv⟩, ht⟩ := h1
        obtain ⟨g1, m1⟩ := o.blt hb
        subst hf
        obtain ⟨v1, v2, v3, v4⟩ := o.var hv
        cases tg <;> simp only [isTupE, Bool.false_eq_true] at ht
        exact zs_forK hp o.cm (keep_enum o.hK g1 m1 v1 v2 v3 v4 (star_cons rfl)) (z_enum o.hK g1 m1 (z_name v1 v2 v3 v4) (star_cons rfl)) (chkT_ok o t h2) (sb_ok a o hs tk hp h3) (fold_no h4)
      · cases h1
    · cases h
  | .frl t it a, X, W, o, hs, tk, hp, ro, st, h => by
    unfold chkS at h
    split at h
    · simp only [Bool.and_eq_true, Bool.not_eq_true'] at h
      exact zs_for hp o.cm ((it_ok it) sc X W _ _ o tk h.1.1.1) (chkT_ok o t h.1.1.2) (sb_ok a o hs tk hp h.1.2) (fold_no h.2)
    · cases h
  | .rais c as, X, W, o, hs, tk, hp, ro, st, h => by
    unfold chkS at h
    split at h
    · rename_i x px e es p2 pos
      simp only [Bool.and_eq_true, decide_eq_true_eq] at h
      obtain ⟨⟨⟨a1, a2⟩, a3⟩, a4⟩ := h
      obtain ⟨pa, ns, _⟩ := (es_ok as) sc X W _ o tk a4
      exact zs_raise (fun q e => o.ex c q e) o.cm tk o.rm (o.gl a1) (o.xn _ _ a3) pa (okNm_ok a2).1 (star_cons (noStars_cons ns).1) (star_any (noStars_cons ns).2)
    · cases h
  | .tryx a hl, X, W, o, hs, tk, hp, ro, st, h => by
    unfold chkS at h
    split at h
    · rename_i p hds pos
      simp only [Bool.and_eq_true, Bool.not_eq_true'] at h
      obtain ⟨⟨a1, a2⟩, a3⟩ := h
      cases hds with
      | nil => cases a1
      | cons h0 hds => exact zs_try o.am o.hh o.hK o.xm hs.1 hs.2 (by rw [o.N]; exact o.nd) tk (fun W' pn xe tk' hp' => sb_ok a (o.tr pn xe) hs tk' hp' a2) (hds_ok o a3)
    · cases h
  | .stop, X, W, o, hs, tk, hp, ro, st, h => ⟨fun pins s σ H D I h => by
    obtain ⟨_, _, _, _, h⟩ := h
    exact h.elim⟩
theorem sb_ok : ∀ (s : Sm) {X : Cx} {W : WX} (o : XOk T G C k sc X) (hs : X.stack = X.env :: X.outer ∧ X.env.frame = some X.env.locals) (tk : Takes X W) (hp : PassesOwn (model X.prog X.w) X.A X.env X.xe) {ro : Ro} {st : List Stmt}, chkB T sc s st = true → PSs X st (tZS G W ro (evS C ro s))
  | .nil, X, W, o, hs, tk, hp, ro, st, h => by
    cases st with
    | nil => exact zs_nil
    | cons _ _ => simp only [chkB, Bool.false_eq_true] at h
  | .seq s r, X, W, o, hs, tk, hp, ro, st, h => by
    cases st with
    | nil => simp only [chkB, Bool.false_eq_true] at h
    | cons x xs =>
      simp only [chkB, Bool.and_eq_true] at h
      exact zs_cons (sm_ok s o hs tk hp h.1) (sb_ok r o hs tk hp h.2)
  | .pass, X, W, o, hs, tk, hp, ro, st, h => by cases st <;> simp only [chkB, Bool.false_eq_true] at h
  | .brk, X, W, o, hs, tk, hp, ro, st, h => by cases st <;> simp only [chkB, Bool.false_eq_true] at h
  | .cnt, X, W, o, hs, tk, hp, ro, st, h => by cases st <;> simp only [chkB, Bool.false_eq_true] at h
  | .retN, X, W, o, hs, tk, hp, ro, st, h => by cases st <;> simp only [chkB, Bool.false_eq_true] at h
  | .ret _, X, W, o, hs, tk, hp, ro, st, h => by cases st <;> simp only [chkB, Bool.false_eq_true] at h
  | .stop, X, W, o, hs, tk, hp, ro, st, h => by cases st <;> simp only [chkB, Bool.false_eq_true] at h
  | .drop _, X, W, o, hs, tk, hp, ro, st, h => by cases st <;> simp only [chkB, Bool.false_eq_true] at h
  | .asg _ _, X, W, o, hs, tk, hp, ro, st, h => by cases st <;> simp only [chkB, Bool.false_eq_true] at h
  | .asgT _ _, X, W, o, hs, tk, hp, ro, st, h => by cases st <;> simp only [chkB, Bool.false_eq_true] at h
  | .par _ _, X, W, o, hs, tk, hp, ro, st, h => by cases st <;> simp only [chkB, Bool.false_eq_true] at h
  | .app _ _, X, W, o, hs, tk, hp, ro, st, h => by cases st <;> simp only [chkB, Bool.false_eq_true] at h
  | .setIx _ _ _, X, W, o, hs, tk, hp, ro, st, h => by cases st <;> simp only [chkB, Bool.false_eq_true] at h
  | .setFld _ _ _, X, W, o, hs, tk, hp, ro, st, h => by cases st <;> simp only [chkB, Bool.false_eq_true] at h
  | .aug _ _ _, X, W, o, hs, tk, hp, ro, st, h => by cases st <;> simp only [chkB, Bool.false_eq_true] at h
  | .ife _ _ _, X, W, o, hs, tk, hp, ro, st, h => by cases st <;> simp only [chkB, Bool.false_eq_true] at h
  | .whl _ _, X, W, o, hs, tk, hp, ro, st, h => by cases st <;> simp only [chkB, Bool.false_eq_true] at h
  | .rais _ _, X, W, o, hs, tk, hp, ro, st, h => by cases st <;> simp only [chkB, Bool.false_eq_true] at h
  | .tryx _ _, X, W, o, hs, tk, hp, ro, st, h => by cases st <;> simp only [chkB, Bool.false_eq_true] at h
  | .frk _ _ _ _, X, W, o, hs, tk, hp, ro, st, h => by cases st <;> simp only [chkB, Bool.false_eq_true] at h
  | .frl _ _ _, X, W, o, hs, tk, hp, ro, st, h => by cases st <;> simp only [chkB, Bool.false_eq_true] at h
end
end
/-! generators -/
mutual
def chkG (T : Tab) (sc : Sc) : Gm → Stmt → Bool
  | .pl s, st => chkS T sc s st
  | .yld e, st => match st with
    | .Expr (.Yield (some x) _) _ => chk T sc e x
    | _ => false
  | .frl t it a, st => match st with
    | .For tg x p [] _ => decide (it.l = none) && chkI T sc it tg x && chkT sc t tg && chkGB T sc a p && !isSetE x
    | _ => false
  | _, _ => false
def chkGB (T : Tab) (sc : Sc) : Gm → List Stmt → Bool
  | .nil, [] => true
  | .seq a r, x :: xs => chkG T sc a x && chkGB T sc r xs
  | _, _ => false
end
section
variable {T : Tab} {G : Gx} {C : Ct} {k : Nat} {sc : Sc}
mutual
theorem gm_ok : ∀ (s : Gm) {X : Cx} {W : WX} (o : XOk T G C k sc X) (hs : X.stack = X.env :: X.outer ∧ X.env.frame = some X.env.locals) (tk : Takes X W) (hp : PassesOwn (model X.prog X.w) X.A X.env X.xe) (hco : X.env.scope.isCoroutine = false) {ro : Ro} {st : Stmt}, chkG T sc s st = true → GS X st (tGZ G W ro (evG C ro s))
  | .nil, X, W, o, hs, tk, hp, hco, ro, st, h => by simp only [chkG, Bool.false_eq_true] at h
  | .seq _ _, X, W, o, hs, tk, hp, hco, ro, st, h => by simp only [chkG, Bool.false_eq_true] at h
  | .pl s, X, W, o, hs, tk, hp, hco, ro, st, h => by
    unfold chkG at h
    exact gz_pl (sm_ok s o hs tk hp h)
  | .yld e, X, W, o, hs, tk, hp, hco, ro, st, h => by
    unfold chkG at h
    split at h
    · exact gz_yld ((ex_ok e) sc X W _ o tk h).1 hco (by unfold interactive; rw [o.kd]; rfl)
    · cases h
  | .frl t it a, X, W, o, hs, tk, hp, hco, ro, st, h => by
    unfold chkG at h
    split at h
    · simp only [Bool.and_eq_true, Bool.not_eq_true', decide_eq_true_eq] at h
      obtain ⟨⟨⟨⟨h0, h1⟩, h2⟩, h3⟩, h4⟩ := h
      have hI := (it_ok it) sc X W _ _ o tk h1
      rw [h0] at hI
      exact gz_for hp o.cm hI (chkT_ok o t h2) (gb_ok a o hs tk hp hco h3) (fold_no h4)
    · cases h
theorem gb_ok : ∀ (s : Gm) {X : Cx} {W : WX} (o : XOk T G C k sc X) (hs : X.stack = X.env :: X.outer ∧ X.env.frame = some X.env.locals) (tk : Takes X W) (hp : PassesOwn (model X.prog X.w) X.A X.env X.xe) (hco : X.env.scope.isCoroutine = false) {ro : Ro} {st : List Stmt}, chkGB T sc s st = true → GSs X st (tGZ G W ro (evG C ro s))
  | .nil, X, W, o, hs, tk, hp, hco, ro, st, h => by
    cases st with
    | nil => exact gz_nil
    | cons a b => simp only [chkGB, Bool.false_eq_true] at h
  | .seq a r, X, W, o, hs, tk, hp, hco, ro, st, h => by
    cases st with
    | nil => simp only [chkGB, Bool.false_eq_true] at h
    | cons x xs =>
      simp only [chkGB, Bool.and_eq_true] at h
      exact gz_cons (gm_ok a o hs tk hp hco h.1) (gb_ok r o hs tk hp hco h.2)
  | .pl s, X, W, o, hs, tk, hp, hco, ro, st, h => by
    cases st <;> simp only [chkGB, Bool.false_eq_true] at h
  | .yld e, X, W, o, hs, tk, hp, hco, ro, st, h => by
    cases st <;> simp only [chkGB, Bool.false_eq_true] at h
  | .frl t it a, X, W, o, hs, tk, hp, hco, ro, st, h => by
    cases st <;> simp only [chkGB, Bool.false_eq_true] at h
end
end
end Z
end

section
set_option maxRecDepth 100007
/-! Defs keep their promises. -/
namespace Z
open PySem L2 PyProof.Rows
section
variable {G : Gx} {H H' : Hp} {F F' : Fz} {σ σ' : L2.St} {z z' : Zs} {ow ow' : Ows}
/-- the slots at a def's start -/
theorem srep_start {vs : List V} {os : List O} {f : List Addr} (n : Nat) (r : RepOs G H F vs os f) (ft : FT H F) (nf : ∀ a ∈ f, ¬ F a) (am : G.amb H F) (hh : G.hold = none) : ∃ ow, SRep G H F (vs.map some ++ List.replicate n none) (os.map some ++ List.replicate n none) ow ∧ ∀ a, Own ow a ↔ a ∈ f := by
  induction r with
  | nil =>
    refine ⟨fun _ => [], ⟨by simp, fun i o e => ?_, fun _ _ => rfl, fun _ _ _ h => (by cases h), fun _ _ h => (by cases h), ft, am, fun i a e => by rw [hh] at e; cases e⟩, fun a => ⟨fun ⟨_, h⟩ => (by cases h), fun h => (by cases h)⟩⟩
    unfold rd at e
    simp only [List.map_nil, List.nil_append] at e
    cases h : (List.replicate n (none : Option O))[i]? with
    | none => rw [h] at e; cases e
    | some x =>
      rw [h] at e
      have hx := List.eq_of_mem_replicate (List.mem_of_getElem? h)
      subst hx
      cases e
  | @cons v o vs os f g h r d ih =>
    obtain ⟨ow, s, ho⟩ := ih fun a h => nf a (by simp [h])
    refine ⟨fun i => match i with
      | 0 => f
      | i + 1 => ow i, ⟨?_, fun i o' e => ?_, fun i e => ?_, fun i j a hi hj => ?_, fun i a hi => ?_, ft, am, fun i a e => by rw [hh] at e; cases e⟩, fun a => ⟨fun ⟨i, h⟩ => ?_, fun h => ?_⟩⟩
    · have := s.len
      simp only [List.map_cons, List.cons_append, List.length_cons] at this ⊢
      rw [this]
    · cases i with
      | zero =>
        cases e
        exact ⟨v, rfl, h⟩
      | succ i => exact s.rep i o' e
    · cases i with
      | zero => cases e
      | succ i => exact s.emp i e
    · cases i with
      | zero =>
        cases j with
        | zero => rfl
        | succ j => exact (d a hi ((ho a).mp ⟨j, hj⟩)).elim
      | succ i =>
        cases j with
        | zero => exact (d a hj ((ho a).mp ⟨i, hi⟩)).elim
        | succ j => rw [s.dj i j a hi hj]
    · cases i with
      | zero => exact nf a (by simp [hi])
      | succ i => exact s.nf i a hi
    · cases i with
      | zero => simp [show a ∈ f from h]
      | succ i => simp [(ho a).mp ⟨i, h⟩]
    · rcases List.mem_append.mp h with h | h
      · exact ⟨0, h⟩
      · obtain ⟨i, h⟩ := (ho a).mpr h
        exact ⟨i + 1, h⟩
/-- what was lent, at a def's end -/
theorem outs_ok (s : SRep G H' F' σ' z' ow') : ∀ {ms : List Bool} {vs : List V} {i : Nat} {outs : List (Option O)}, ms.length = vs.length → (∀ j v, ms[j]? = some true → vs[j]? = some v → σ'[i + j]? = some (some v)) → outsOf ms i z' = some outs →
    ∃ g, Outs G H' F' ms vs outs g ∧ ∀ a ∈ g, ∃ j, i ≤ j ∧ a ∈ ow' j := by
  intro ms
  induction ms with
  | nil =>
    intro vs i outs hl hk e
    exact ⟨[], .nil, fun a h => by cases h⟩
  | cons m ms ih =>
    intro vs i outs hl hk e
    cases vs with
    | nil => cases hl
    | cons v vs =>
      have hk' : ∀ j w, ms[j]? = some true → vs[j]? = some w → σ'[i + 1 + j]? = some (some w) := fun j w h1 h2 => by
        have := hk (j + 1) w (by simpa using h1) (by simpa using h2)
        rw [← this]; congr 1; omega
      cases m with
      | false =>
        simp only [outsOf] at e
        cases e1 : outsOf ms (i + 1) z' with
        | none => rw [e1] at e; cases e
        | some os =>
          rw [e1] at e
          cases e
          obtain ⟨g, h, k⟩ := ih (by simpa using hl) hk' e1
          exact ⟨g, .drop h, fun a ha => by
            obtain ⟨j, h1, h2⟩ := k a ha
            exact ⟨j, by omega, h2⟩⟩
      | true =>
        simp only [outsOf] at e
        cases e0 : rd z' i with
        | none => rw [e0] at e; cases e
        | some o =>
          cases e1 : outsOf ms (i + 1) z' with
          | none => rw [e0, e1] at e; cases e
          | some os =>
            rw [e0, e1] at e
            cases e
            obtain ⟨g, h, k⟩ := ih (by simpa using hl) hk' e1
            obtain ⟨v', ev, r⟩ := s.rep i o e0
            have := hk 0 v rfl rfl
            rw [Nat.add_zero, ev] at this
            cases this
            refine ⟨ow' i ++ g, .keep r h fun a h1 h2 => ?_, fun a ha => ?_⟩
            · obtain ⟨j, h3, h4⟩ := k a h2
              have := s.dj i j a h1 h4
              omega
            · rcases List.mem_append.mp ha with ha | ha
              · exact ⟨i, Nat.le_refl _, ha⟩
              · obtain ⟨j, h1, h2⟩ := k a ha
                exact ⟨j, by omega, h2⟩
end
section
variable {P : Program} {w : World} {K : PySem.W.Frag} {mg : Str → Option Value} {base : Heap} {G : Gx} {T : Tab} {C : Ct} {k : Nat}
/-- the text st is the tree d, with slots N and parameters ps -/
structure Is (T : Tab) (d : Df) (st : Stmt) (N ps : List Str) : Prop where
  sc : FnScope N ps (defScope st)
  np : d.np = ps.length
  ns : d.ns = N.length
  ml : d.modes.length = ps.length
  ok : chkB T ⟨N, (defScope st).names, none⟩ d.body (defBody st) = true
theorem def_ok (am : ∀ H F, G.amb H F) (hh : G.hold = none) {d : Df} {st : Stmt} {N ps : List Str} {f : Addr} {name qual : Str} {dV kV doc pm cdv ct oc : Value} {an od : Option Addr} {osl : Array (Option Value)} (is : Is T d st N ps)
    (lk : K.lookup f = some ⟨oc, od, .func (PySem.W.fnOf name qual (defArgs st) (defBody st) (defScope st) dV kV doc pm an cdv ct), osl⟩) (hcd : PySem.W.codeIn K cdv qual = true)
    (xo : ∀ X : Cx, X.prog = P → X.w = w → X.K = K → X.mg = mg → X.base = base → Room (k + 1) X.A → X.calm = true → X.N = N → X.env.scope = defScope st → X.fn = (fun _ => true) → XOk T G C k ⟨N, (defScope st).names, none⟩ X) :
    FnOk P w K mg base (L2.CX P w) (k + 2) f (PySem.W.fnOf name qual (defArgs st) (defBody st) (defScope st) dV kV doc pm an cdv ct) ps (spZ G (runD C d) d.modes) := by
  refine fn_of lk hcd is.sc (fun vs H Q E h => by rw [h.1, is.ml]) fun A outer s H vs Q E hr h => ?_
  obtain ⟨hl, F, os, f0, ft, ro, nf, h⟩ := h
  have xk := xo (cxOf (L2.CX P w) P w K mg base N qual (defScope st) f cdv A outer s H E) rfl rfl rfl rfl rfl hr rfl rfl rfl rfl
  refine ⟨_, sb_ok d.body xk ⟨rfl, rfl⟩ (takes_of rfl rfl rfl rfl) (passes_of rfl) (ro := d.ro) is.ok, ?_⟩
  obtain ⟨ow, sr, ho⟩ := srep_start (d.ns - d.np) ro ft nf (am H F) hh
  have e1 : L2.start N vs = vs.map some ++ List.replicate (d.ns - d.np) none := by
    unfold L2.start
    rw [is.ns, is.np, hl, is.ml]
  have hkp : ∀ {σ' : L2.St}, Kp d.ro (L2.start N vs) σ' → ∀ j v, d.modes[j]? = some true → vs[j]? = some v → σ'[0 + j]? = some (some v) := fun {σ'} kp j v h1 h2 => by
    have : d.ro j = true := by
      unfold Df.ro
      rw [List.getD_eq_getElem?_getD, h1]; rfl
    rw [Nat.zero_add, kp j this, e1, List.getElem?_append_left (by rw [List.length_map]; exact (List.getElem?_eq_some_iff.mp h2).1), List.getElem?_map, h2]; rfl
  refine ⟨os.map some ++ List.replicate (d.ns - d.np) none, ow, F, by rw [e1]; exact sr, ?_⟩
  unfold runD at h
  by_cases hn : os.length = d.np
  · rw [if_pos hn] at h
    cases er : evS C d.ro d.body (os.map some ++ List.replicate (d.ns - d.np) none) with
    | bad => rw [er] at h; exact h.elim
    | brk z => rw [er] at h; exact h.elim
    | cnt z => rw [er] at h; exact h.elim
    | nxt z =>
      rw [er] at h
      simp only at h
      cases eo : outsOf d.modes 0 z with
      | none => rw [eo] at h; exact h.elim
      | some outs =>
        rw [eo] at h
        intro σ' H' F' ow' st' s' kp
        obtain ⟨g, hg, kg⟩ := outs_ok s' hl.symm (hkp kp) eo
        refine h .non H' F' [] g ⟨st'.lat, st'.there, fun a o np e => st'.stay a o (fun q => np ((ho a).mp q)) e, fun a h => ?_, fun a h => ?_, fun a h => ?_, fun a h => ?_, st'.ft⟩ (.val .non) hg fun a h => by cases h
        · rcases st'.fr a h with x | x | x
          · exact .inl x
          · exact .inr (.inl ((ho a).mp x))
          · exact .inr (.inr x)
        · rcases h with h | h
          · cases h
          · obtain ⟨j, _, hj⟩ := kg a h
            rcases st'.fp a ⟨j, hj⟩ with x | x
            · exact .inl ((ho a).mp x)
            · exact .inr x
        · rcases h with h | h
          · cases h
          · obtain ⟨j, _, hj⟩ := kg a h
            exact st'.nf a ⟨j, hj⟩
        · rcases h with h | h
          · cases h
          · obtain ⟨j, _, hj⟩ := kg a h
            exact st'.tr a ⟨j, hj⟩
    | ret o z =>
      rw [er] at h
      simp only at h
      cases eo : outsOf d.modes 0 z with
      | none => rw [eo] at h; exact h.elim
      | some outs =>
        rw [eo] at h
        intro v σ' H' F' ow' fr st' s' rv dj kp
        obtain ⟨g, hg, kg⟩ := outs_ok s' hl.symm (hkp kp) eo
        refine h v H' F' fr g ⟨st'.lat, st'.there, fun a o np e => st'.stay a o (fun q => np ((ho a).mp q)) e, fun a h => ?_, fun a h => ?_, fun a h => ?_, fun a h => ?_, st'.ft⟩ rv hg fun a h q => ?_
        · rcases st'.fr a h with x | x | x
          · exact .inl x
          · exact .inr (.inl ((ho a).mp x))
          · exact .inr (.inr x)
        · rcases h with h | h
          · rcases st'.fp a (.inr h) with x | x
            · exact .inl ((ho a).mp x)
            · exact .inr x
          · obtain ⟨j, _, hj⟩ := kg a h
            rcases st'.fp a (.inl ⟨j, hj⟩) with x | x
            · exact .inl ((ho a).mp x)
            · exact .inr x
        · rcases h with h | h
          · exact st'.nf a (.inr h)
          · obtain ⟨j, _, hj⟩ := kg a h
            exact st'.nf a (.inl ⟨j, hj⟩)
        · rcases h with h | h
          · exact st'.tr a (.inr h)
          · obtain ⟨j, _, hj⟩ := kg a h
            exact st'.tr a (.inl ⟨j, hj⟩)
        · obtain ⟨j, _, hj⟩ := kg a q
          exact dj a h ⟨j, hj⟩
    | exc c fs z =>
      rw [er] at h
      simp only at h
      cases eo : outsOf d.modes 0 z with
      | none => rw [eo] at h; exact h.elim
      | some outs =>
        rw [eo] at h
        intro dd σ' H' F' ow' fvs st' s' ed rf kp
        obtain ⟨g, hg, kg⟩ := outs_ok s' hl.symm (hkp kp) eo
        refine h dd H' F' g fvs ⟨st'.lat, st'.there, fun a o np e => st'.stay a o (fun q => np ((ho a).mp q)) e, fun a h => ?_, fun a h => ?_, fun a h => ?_, fun a h => ?_, st'.ft⟩ ed rf hg
        · rcases st'.fr a h with x | x | x
          · exact .inl x
          · exact .inr (.inl ((ho a).mp x))
          · exact .inr (.inr x)
        · obtain ⟨j, _, hj⟩ := kg a h
          rcases st'.fp a ⟨j, hj⟩ with x | x
          · exact .inl ((ho a).mp x)
          · exact .inr x
        · obtain ⟨j, _, hj⟩ := kg a h
          exact st'.nf a ⟨j, hj⟩
        · obtain ⟨j, _, hj⟩ := kg a h
          exact st'.tr a ⟨j, hj⟩
  · rw [if_neg hn] at h
    exact h.elim
end
/-- the text st is the generator d -/
structure IsG (T : Tab) (d : Dg) (st : Stmt) (N ps : List Str) : Prop where
  sc : GScope N ps (defScope st)
  np : d.np = ps.length
  ns : d.ns = N.length
  ok : chkGB T ⟨N, (defScope st).names, none⟩ d.body (defBody st) = true
section
variable {P : Program} {w : World} {K : PySem.W.Frag} {mg : Str → Option Value} {base : Heap} {G : Gx} {T : Tab} {C : Ct} {k : Nat}
theorem stp_no {H H' : Hp} {F F' : Fz} {o o' : Addr → Prop} (s : Stp H F o H' F' o') (h : ∀ a, ¬ o a) : Stp H F (fun _ => False) H' F' (fun _ => False) :=
  ⟨s.lat, s.there, fun a x np e => s.stay a x (h a) e, fun a hf => by
    rcases s.fr a hf with x | x | x
    · exact .inl x
    · exact (h a x).elim
    · exact .inr (.inr x), fun a h => h.elim, fun a h => h.elim, fun a h => h.elim, s.ft⟩
theorem reps_vals {H : Hp} {F : Fz} : ∀ {vs : List V} {ds : List D}, RepDs G H F vs ds → RepOs G H F vs (ds.map O.val) []
  | [], _, r => by
    cases r
    exact .nil
  | v :: vs, _, r => by
    cases r with
    | cons h r => exact .cons (f := []) (.val h) (reps_vals r) (fun a h => by cases h)
theorem gdef_ok (am : ∀ H F, G.amb H F) (hh : G.hold = none) {d : Dg} {st : Stmt} {N ps : List Str} {f : Addr} {name qual : Str} {dV kV doc pm cdv ct oc : Value} {an od : Option Addr} {osl : Array (Option Value)} (is : IsG T d st N ps)
    (lk : K.lookup f = some ⟨oc, od, .func (PySem.W.fnOf name qual (defArgs st) (defBody st) (defScope st) dV kV doc pm an cdv ct), osl⟩) (hcd : PySem.W.codeIn K cdv qual = true)
    (xo : ∀ X : Cx, X.prog = P → X.w = w → X.K = K → X.mg = mg → X.base = base → Room (k + 1) X.A → X.calm = true → X.N = N → X.env.scope = defScope st → X.fn = (fun _ => true) → XOk T G C k ⟨N, (defScope st).names, none⟩ X) :
    GFn P w K mg base (k + 2) f (PySem.W.fnOf name qual (defArgs st) (defBody st) (defScope st) dV kV doc pm an cdv ct) ps (spY G (runG C d) d.np) := by
  refine gfn_of lk hcd is.sc (fun vs H Q E h => by rw [h.1, is.np]) fun A outer s H vs Q E pn hr h => ?_
  obtain ⟨hl, F, ds, ft, rd, h⟩ := h
  have xk := xo (gcxOf P w K mg base N qual (defScope st) f cdv A outer s H E pn) rfl rfl rfl rfl rfl hr rfl rfl rfl rfl
  refine ⟨_, gb_ok d.body xk ⟨rfl, rfl⟩ takes_gcx owns_gcx is.sc.co (ro := fun _ => false) is.ok, ?_⟩
  obtain ⟨ow, sr, ho⟩ := srep_start (d.ns - d.np) (reps_vals rd) ft (fun a h => by cases h) (am H F) hh
  have e1 : L2.start N vs = vs.map some ++ List.replicate (d.ns - d.np) none := by
    unfold L2.start
    rw [is.ns, hl]
  have no : ∀ a, ¬ Own ow a := fun a h => by
    have := (ho a).mp h
    cases this
  refine ⟨(ds.map O.val).map some ++ List.replicate (d.ns - d.np) none, ow, F, [], by rw [e1]; exact sr, .nil, ?_⟩
  unfold runG at h
  by_cases hn : ds.length = d.np
  · rw [if_pos hn] at h
    cases er : evG C (fun _ => false) d.body ((ds.map O.val).map some ++ List.replicate (d.ns - d.np) none) [] with
    | bad => rw [er] at h; exact h.elim
    | brk z out => rw [er] at h; exact h.elim
    | cnt z out => rw [er] at h; exact h.elim
    | nxt z out =>
      rw [er] at h
      exact fun ys σ' H' F' ow' st' s' rd' kp => h ys H' F' (stp_no st' no) rd'
    | exc c fs z =>
      rw [er] at h
      exact fun dd σ' H' F' ow' fvs st' s' ed rf kp => h dd H' F' fvs (stp_no st' no) ed rf
  · rw [if_neg hn] at h
    exact h.elim
end
/-- where the generator stands, and what it is -/
def GDefAt (K : PySem.W.Frag) (T : Tab) (d : Dg) (a : Addr) : Prop := ∃ (st : Stmt) (N ps : List Str) (name qual : Str) (dvs : List V) (kws : List (Str × V)) (fd : FuncData), IsG T d st N ps ∧ FunD K name qual (defArgs st) (defBody st) (defScope st) dvs kws a fd ∧ Binds K fd ps []
/-- where the def f stands, and what it is -/
structure DefAt (K : PySem.W.Frag) (T : Tab) (d : Df) (a : Addr) : Prop where
  ex : ∃ (st : Stmt) (N ps : List Str) (name qual : Str) (dvs : List V) (kws : List (Str × V)) (fd : FuncData), Is T d st N ps ∧ FunD K name qual (defArgs st) (defBody st) (defScope st) dvs kws a fd ∧
    ∀ G : Gx, G.K = K → ∀ j, j ≤ d.dfs.length → ∃ dvs ds, Vals dvs ds ∧ Binds K fd ps ds ∧ dvs.length = j ∧ ∀ H F, RepDs G H F dvs (d.dfs.drop (d.dfs.length - j))
/-- the text's file, and that it hides no super -/
def POk (P : Program) (f : Str) : Prop := ((P.main.file : Str) == f) = true ∧ (P.main.scope.names.lookup ("super" : Str)).isSome = false
/-- what is known of the module -/
structure Wk (K : PySem.W.Frag) (mg : Str → Option Value) (G : Gx) (T : Tab) (p : Pr) (adr : Nat → Addr) : Prop where
  hK : G.K = K
  nm : G.nm = T.nm
  g : GOk G fun c => (p.flds.lookup c).getD []
  fn : ∀ f d, p.defs[f]? = some d → DefAt K T d (adr f)
  df : ∀ x f, (x, f) ∈ T.defs → f < p.defs.length ∧ mg x = some (.ref (adr f)) ∧ PySem.W.keepIn K (.ref (adr f)) = true
  cs : ∀ x c, (x, c) ∈ T.clss → mg x = some (.ref (G.cls c)) ∧ PySem.W.keepIn K (.ref (G.cls c)) = true ∧ ∀ f, p.init.lookup c = some f → f < p.defs.length ∧ Mk K (G.cls c) (adr f)
  gk : ∀ x j, (x, j) ∈ T.gks → ∃ u v, mg x = some u ∧ RelV v u ∧ ∀ H F, RepD G H F v (p.gks.getD j .non)
  bl : ∀ x, x ∈ T.blts → mg x = none
  me : ∀ c m f, look2 p.meth c m = some f → m < G.nm.length ∧ f < p.defs.length ∧ Cls K (G.cls c) ∧ Meth K (G.cls c) (G.name m) (adr f)
  is : IsAt K G (p.ct 0)
  du : ∀ c u f, (p.ct 0).dun c u = some f → f < p.defs.length ∧ Cls K (G.cls c) ∧ Meth K (G.cls c) u.nm (adr f)
  pr : ∀ c m f, look2 p.prop c m = some f → m < G.nm.length ∧ f < p.defs.length ∧ Cls K (G.cls c) ∧ ∃ q, PropOf K (G.cls c) (G.name m) q (adr f)
  am : ∀ H F, G.amb H F
  hh : G.hold = none
  ex : ∀ c q, p.exc.lookup c = some q → ∀ (P : Program) (w : World) (base : Heap) (k : Nat), POk P T.file → ExAt P w K mg base G c q (k + 1)
  xn : ∀ x c, (x, c) ∈ T.excs → mg x = some (.ref (G.cls c))
  xm : ∀ c c' b, p.exm.lookup (c, c') = some b → PySem.W.exmOne G.K (.ref (G.cls c)) (.ref (G.cls c')) = some b
  xf : XfAt K G fun c f => ((p.xfl.lookup c).getD []).contains f
  sm : ∀ x m f, (x, m, f) ∈ T.smeths → f < p.defs.length ∧ ∃ Cc, mg x = some (.ref Cc) ∧ SMet K Cc m (adr f)
  gn : ∀ x g n, (x, g, n) ∈ T.gens → ∃ d a, p.gens[g]? = some d ∧ d.np = n ∧ mg x = some (.ref a) ∧ PySem.W.keepIn K (.ref a) = true ∧ GDefAt K T d a
  ns : NoStp K G fun c => (p.exc.lookup c).isSome
section
variable {P : Program} {w : World} {K : PySem.W.Frag} {mg : Str → Option Value} {base : Heap} {G : Gx} {T : Tab} {p : Pr} {adr : Nat → Addr}
theorem ct_modes (p : Pr) (n f : Nat) : (p.ct n).modes f = ((p.defs[f]?).map Df.modes).getD [] := by cases n <;> rfl
theorem ct_dfs (p : Pr) (n f : Nat) : (p.ct n).dfs f = ((p.defs[f]?).map Df.dfs).getD [] := by cases n <;> rfl
theorem ct_meth (p : Pr) (n : Nat) : (p.ct n).meth = look2 p.meth := by cases n <;> rfl
theorem ct_prop (p : Pr) (n : Nat) : (p.ct n).prop = look2 p.prop := by cases n <;> rfl
theorem ct_init (p : Pr) (n : Nat) : (p.ct n).init = fun c => p.init.lookup c := by cases n <;> rfl
theorem ct_flds (p : Pr) (n : Nat) : (p.ct n).flds = fun c => (p.flds.lookup c).getD [] := by cases n <;> rfl
theorem ct_gk (p : Pr) (n : Nat) : (p.ct n).gk = fun j => p.gks.getD j .non := by cases n <;> rfl
theorem ct_dun (p : Pr) (n : Nat) : (p.ct n).dun = (p.ct 0).dun := by cases n <;> rfl
theorem ct_exc (p : Pr) (n : Nat) : (p.ct n).exc = fun c => p.exc.lookup c := by cases n <;> rfl
theorem ct_exm (p : Pr) (n : Nat) : (p.ct n).exm = fun a b => p.exm.lookup (a, b) := by cases n <;> rfl
theorem ct_xfl (p : Pr) (n : Nat) : (p.ct n).xfl = fun c f => ((p.xfl.lookup c).getD []).contains f := by cases n <;> rfl
theorem ct_is {n : Nat} (h : IsAt K G (p.ct 0)) : IsAt K G (p.ct n) := by cases n <;> exact ⟨h.kit, h.ic⟩
theorem ct_gen0 (p : Pr) (g : Nat) : (p.ct 0).gen g = none := rfl
theorem ct_gen (p : Pr) (n g : Nat) : (p.ct (n + 1)).gen g = (p.gens[g]?).map fun d => runG (p.ct n) d := rfl
theorem xok_of (wk : Wk K mg G T p adr) (hP : POk P T.file) : ∀ (n : Nat), (∀ m, m ≤ n → ∀ f, f < p.defs.length → FnAt P w K mg base G (p.ct m) (4 * m + 1) f (adr f)) → ∀ {N : List Str} {sc : Scope}, N.Nodup → sc.kind = .function →
    ∀ X : Cx, X.prog = P → X.w = w → X.K = K → X.mg = mg → X.base = base → Room (4 * n + 2) X.A → X.calm = true → X.N = N → X.env.scope = sc → X.fn = (fun _ => true) → XOk T G (p.ct n) (4 * n + 1) ⟨N, sc.names, none⟩ X := by
  intro n
  induction n with
  | zero =>
    intro ih N sc nd kd X hPr hw hKX hmg hba hr hcm hN hsc hfn
    subst hPr hw hKX hmg hba
    refine ⟨wk.hK, wk.nm, hr, hcm, by rw [ct_flds]; exact wk.g, hN, nd, by rw [hsc], by rw [hsc]; exact kd, fun x _ => by rw [hfn], fun x f h => ?_, fun x c h => ?_, fun x j h => ?_, wk.bl, fun c m f h => ?_, fun c m f h => ?_, ct_is wk.is, fun c u f h => ?_, wk.hh, fun c q h => ?_, wk.xn, fun c c' b h => ?_, by rw [ct_xfl]; exact wk.xf, wk.am, fun x m f h => ?_, fun x g n h run hrun => ?_, by rw [ct_exc]; exact wk.ns⟩
    all_goals have ih := ih 0 (Nat.le_refl 0)
    · obtain ⟨a, b, c⟩ := wk.df x f h
      exact ⟨adr f, b, c, ih f a⟩
    · obtain ⟨a, b, d⟩ := wk.cs x c h
      refine ⟨a, b, fun f hf => ?_⟩
      rw [ct_init] at hf
      obtain ⟨q, r⟩ := d f hf
      exact ⟨adr f, r, ih f q⟩
    · rw [ct_gk]
      exact wk.gk x j h
    · rw [ct_meth] at h
      obtain ⟨a, b, d, e⟩ := wk.me c m f h
      exact ⟨a, d, adr f, e, ih f b⟩
    · rw [ct_prop] at h
      obtain ⟨a, b, d, q, e⟩ := wk.pr c m f h
      exact ⟨a, d, q, adr f, e, ih f b⟩
    · obtain ⟨a, b, d⟩ := wk.du c u f h
      exact ⟨b, adr f, d, ih f a⟩
    · rw [ct_exc] at h
      exact wk.ex c q h _ _ _ _ hP
    · rw [ct_exm] at h
      exact wk.xm c c' b h
    · obtain ⟨a, Cc, b, d⟩ := wk.sm x m f h
      exact ⟨adr f, Cc, b, d, ih f a⟩
    · rw [ct_gen0] at hrun
      cases hrun
  | succ n ihn =>
    intro ih N sc nd kd X hPr hw hKX hmg hba hr hcm hN hsc hfn
    subst hPr hw hKX hmg hba
    refine ⟨wk.hK, wk.nm, hr, hcm, by rw [ct_flds]; exact wk.g, hN, nd, by rw [hsc], by rw [hsc]; exact kd, fun x _ => by rw [hfn], fun x f h => ?_, fun x c h => ?_, fun x j h => ?_, wk.bl, fun c m f h => ?_, fun c m f h => ?_, ct_is wk.is, fun c u f h => ?_, wk.hh, fun c q h => ?_, wk.xn, fun c c' b h => ?_, by rw [ct_xfl]; exact wk.xf, wk.am, fun x m f h => ?_, fun x g n2 h run hrun => ?_, by rw [ct_exc]; exact wk.ns⟩
    · obtain ⟨a, b, c⟩ := wk.df x f h
      exact ⟨adr f, b, c, ih _ (Nat.le_refl _) f a⟩
    · obtain ⟨a, b, d⟩ := wk.cs x c h
      refine ⟨a, b, fun f hf => ?_⟩
      rw [ct_init] at hf
      obtain ⟨q, r⟩ := d f hf
      exact ⟨adr f, r, ih _ (Nat.le_refl _) f q⟩
    · rw [ct_gk]
      exact wk.gk x j h
    · rw [ct_meth] at h
      obtain ⟨a, b, d, e⟩ := wk.me c m f h
      exact ⟨a, d, adr f, e, ih _ (Nat.le_refl _) f b⟩
    · rw [ct_prop] at h
      obtain ⟨a, b, d, q, e⟩ := wk.pr c m f h
      exact ⟨a, d, q, adr f, e, ih _ (Nat.le_refl _) f b⟩
    · obtain ⟨a, b, d⟩ := wk.du c u f h
      exact ⟨b, adr f, d, ih _ (Nat.le_refl _) f a⟩
    · rw [ct_exc] at h
      exact wk.ex c q h _ _ _ _ hP
    · rw [ct_exm] at h
      exact wk.xm c c' b h
    · obtain ⟨a, Cc, b, d⟩ := wk.sm x m f h
      exact ⟨adr f, Cc, b, d, ih _ (Nat.le_refl _) f a⟩
    · obtain ⟨d, a, e1, e2, e3, e4, st, N', ps, name, qual, dvs, kws, fd, is, FD, bG⟩ := wk.gn x g n2 h
      rw [ct_gen, e1] at hrun
      cases hrun
      obtain ⟨oc, od, dV, kV, doc, pm, an, cdv, ct, osl, rfl, lk, hcd, _, _⟩ := FD.ex
      subst e2
      exact ⟨a, 4 * n + 1 + 2, by omega, e3, e4, _, ps, gdef_ok wk.am wk.hh (k := 4 * n + 1) is lk hcd (fun X' h1 h2 h3 h4 h5 hr' hcm' hN' hsc' hfn' => ihn (fun m hm f hf => ih m (by omega) f hf) is.sc.nd is.sc.kind X' h1 h2 h3 h4 h5 hr' hcm' hN' hsc' hfn'), bG⟩
theorem tab_one (wk : Wk K mg G T p adr) (hP : POk P T.file) {n f : Nat} {d : Df} {st : Stmt} {N ps : List Str} {name qual : Str} {dvs0 : List V} {kws0 : List (Str × V)} {fd : FuncData} (ih : ∀ m, m ≤ n → ∀ f, f < p.defs.length → FnAt P w K mg base G (p.ct m) (4 * m + 1) f (adr f)) (hf : p.defs[f]? = some d) (is : Is T d st N ps)
    (FD : FunD K name qual (defArgs st) (defBody st) (defScope st) dvs0 kws0 (adr f) fd) : FnOk P w K mg base (L2.CX P w) (4 * (n + 1) + 1) (adr f) fd ps (spZ G ((p.ct (n + 1)).run f) ((p.ct (n + 1)).modes f)) := by
  obtain ⟨oc, od, dV, kV, doc, pm, an, cdv, ct, osl, rfl, lk, hcd, _, _⟩ := FD.ex
  have e1 : (p.ct (n + 1)).run f = runD (p.ct n) d := by
    funext os
    show (match p.defs[f]? with | some d => runD (p.ct n) d os | none => RR.bad) = _
    rw [hf]
  have e2 : (p.ct (n + 1)).modes f = d.modes := by rw [ct_modes, hf]; rfl
  rw [e1, e2]
  exact (def_ok wk.am wk.hh (k := 4 * n + 1) is lk hcd fun X hPr hw hKX hmg hba hr hcm hN hsc hfn => xok_of wk hP n ih is.sc.nd is.sc.kind X hPr hw hKX hmg hba hr hcm hN hsc hfn).mono (by omega)
theorem tab_ok (wk : Wk K mg G T p adr) (hP : POk P T.file) : ∀ n m, m ≤ n → ∀ f, f < p.defs.length → FnAt P w K mg base G (p.ct m) (4 * m + 1) f (adr f) := by
  intro n
  induction n with
  | zero =>
    intro m hm f hf
    obtain rfl : m = 0 := by omega
    obtain ⟨st, N, ps, name, qual, dvs0, kws0, fd, is, FD, df⟩ := (wk.fn f _ (List.getElem?_eq_getElem hf)).ex
    obtain ⟨oc, od, dV, kV, doc, pm, an, cdv, ct, osl, rfl, lk, hcd, _, _⟩ := FD.ex
    refine ⟨_, ps, fn_of (k := 0) lk hcd is.sc (fun vs H Q E h => ?_) (fun A outer s H vs Q E hr h => ?_), ?_⟩
    · obtain ⟨_, _, _, _, _, _, _, h⟩ := h
      exact h.elim
    · obtain ⟨_, _, _, _, _, _, _, h⟩ := h
      exact h.elim
    · rw [ct_dfs, List.getElem?_eq_getElem hf]
      exact df G wk.hK
  | succ n ih =>
    intro m hm f hf
    by_cases h : m ≤ n
    · exact ih m h f hf
    · obtain rfl : m = n + 1 := by omega
      obtain ⟨st, N, ps, name, qual, dvs0, kws0, fd, is, FD, df⟩ := (wk.fn f _ (List.getElem?_eq_getElem hf)).ex
      refine ⟨fd, ps, tab_one wk hP ih (List.getElem?_eq_getElem hf) is FD, ?_⟩
      rw [ct_dfs, List.getElem?_eq_getElem hf]
      exact df G wk.hK
/-- the law's own promise -/
theorem sp_law {n f : Nat} {H : Hp} {a : Addr} {ns : List Int} (hm : (p.ct n).modes f = [false]) (hK : G.K = K) (hS : SqL K H a (ns.map V.int)) (h : ∃ outs, (p.ct n).run f [.val (.scr ns)] = .ret (.val (.bl true)) outs) :
    spZ G ((p.ct n).run f) ((p.ct n).modes f) [.ref a] H (fun v _ => v = .bl true) fun _ _ _ => False := by
  obtain ⟨outs, h⟩ := h
  refine ⟨by rw [hm]; rfl, ?_⟩
  have key : ∃ F : Fz, FT H F ∧ RepD G H F (.ref a) (.scr ns) := by
    rcases hS with hS | hS
    · refine ⟨fun x => x = a, fun x hx => ?_, .scr (.inl ⟨rfl, hS⟩)⟩
      rw [hx]
      rcases hS with h | ⟨o, h⟩ <;> exact ⟨_, h⟩
    · exact ⟨fun _ => False, fun _ h => h.elim, .scr (.inr (hK ▸ hS))⟩
  obtain ⟨F, ft, r⟩ := key
  refine ⟨F, [.val (.scr ns)], [] ++ [], ft, .cons (.val r) .nil (fun a h => by cases h), (fun a h => by cases h), ?_⟩
  rw [h]
  intro v H' F' g g' _ ro _ _
  cases ro with | val r =>
  cases r
  rfl
end
end Z
end

section
set_option maxRecDepth 100007
set_option maxHeartbeats 2000007
/-! Own exception classes: what is read off the module. -/
namespace Z
open PySem L2 PyProof.Rows
abbrev FnT : Type := Option (Str × Str × Arguments × FuncBody × Scope × Addr × List Str × Addr)
def FnT.of (fd : FuncData) : FnT := some (fd.name, fd.qualname, fd.params, fd.body, fd.scope, fd.globals, fd.closure.map (·.1), fd.builtins)
def seeFn (K : PySem.W.Frag) (a : Addr) : FnT := match K.lookup a with
  | some o => (match o.data with
    | .func fd => FnT.of fd
    | _ => none)
  | none => none
/-- the class x and its __init__ -/
structure DefX where
  x : Str
  qual : Str
  st : Stmt
  ps : List Str
  l : List (Str × Nat)
  aks : List AK
def DefX.C (K : PySem.W.Frag) (d : DefX) : Addr := He.ga K d.x
def DefX.f (K : PySem.W.Frag) (d : DefX) : Addr := He.ma K (d.C K) "__init__"
def DefX.val (d : DefX) : FnT := some ("__init__", d.qual, defArgs d.st, .stmts (defBody d.st), defScope d.st, mainGlobals, ["__class__"], builtinsNs)
/-- what its text says -/
structure IsX (d : DefX) : Prop where
  sc : InScope d.ps (defScope d.st)
  ck : chkInit d.ps (defScope d.st) d.l d.aks (defBody d.st) = true
  bd : ∀ (kV doc pm : Value) (an : Option Addr) (cdv ct : Value) (cc : Addr) (us : List Value), us.length = d.ps.length → bindArgs (PySem.W.ksFn "__init__" d.qual (defArgs d.st) (defBody d.st) (defScope d.st) .none kV doc pm an cdv ct cc) ⟨us, []⟩ = pure (d.ps.zip us)
  x0 : ∃ ar, ((defArgs d.st).posonlyargs ++ (defArgs d.st).args).head? = some ar ∧ d.ps[0]? = some ar.arg
def clsB (K : PySem.W.Frag) (C : Addr) : Bool := match K.lookup C with
  | some ⟨.type "type", _, .cls cd, sl⟩ => (match cd.mro, sl.toList with
    | .ref C' :: bm, [_, _, _, _, some (.builtin n), _] => decide (C' = C) && (decide (n = "ValueError.__new__") && (!cd.hasDel && (cd.hasDict && PySem.HandSPX.refsVE bm)))
    | _, _ => false)
  | _ => false
theorem clsB_ok {K : PySem.W.Frag} {C : Addr} (q : clsB K C = true) : ∃ nm qn N bs bm sn sub ab col dd k0 k1 k2 k3 k5, K.lookup C = some (excClassObj nm qn C N bs bm true sn sub ab col dd k0 k1 k2 k3 k5 "ValueError.__new__") ∧ PySem.HandSPX.refsVE bm = true := by
  unfold clsB at q
  split at q
  · rename_i dd cd sl ho
    split at q
    · rename_i C' bm k0 k1 k2 k3 n k5 hm hs
      simp only [Bool.and_eq_true, decide_eq_true_eq, Bool.not_eq_true'] at q
      obtain ⟨rfl, rfl, hdel, hdct, ht⟩ := q
      obtain ⟨nm, bs, mro, ns, qn, hd, sn, sub, ab, col, del⟩ := cd
      dsimp only at hm hdel hdct
      subst hm hdel hdct
      have hsl : sl = #[k0, k1, k2, k3, some (.builtin "ValueError.__new__"), k5] := by
        obtain ⟨l⟩ := sl
        simp only at hs
        rw [hs]
      subst hsl
      exact ⟨nm, qn, ns, bs, bm, sn, sub, ab, col, dd, k0, k1, k2, k3, k5, ho, ht⟩
    · cases q
  · cases q
def cellB (K : PySem.W.Frag) (c C : Addr) : Bool := match K.lookup c with
  | some o => (match o.data with
    | .cell (some (.ref D)) => decide (D = C)
    | _ => false)
  | none => false
def fileB (K : PySem.W.Frag) (cd : Value) (file : Str) : Bool := match cd with
  | .ref a => (match K.lookup a with
    | some o => (match o.data with
      | .fields vs => (match (vs[2]? : Option Value) with
        | some (.str f _) => file == f
        | _ => false)
      | _ => false)
    | none => false)
  | _ => false
theorem cellB_ok {K : PySem.W.Frag} {c C : Addr} (h : cellB K c C = true) : ∃ cl cld csl, K.lookup c = some ⟨cl, cld, .cell (some (.ref C)), csl⟩ := by
  unfold cellB at h
  cases e : K.lookup c with
  | none => rw [e] at h; cases h
  | some o =>
    rw [e] at h
    obtain ⟨cl, cld, dt, csl⟩ := o
    simp only at h
    split at h
    · have h := of_decide_eq_true h
      subst h
      exact ⟨cl, cld, csl, rfl⟩
    · cases h
theorem fileB_ok {K : PySem.W.Frag} {cd : Value} {file : Str} (h : fileB K cd file = true) : ∃ cda ccl cdd vs ccs tf, cd = .ref cda ∧ K.lookup cda = some ⟨ccl, cdd, .fields vs, ccs⟩ ∧ vs[2]? = some (.str file tf) := by
  unfold fileB at h
  cases cd <;> simp only at h <;> first | (cases h; done) | skip
  rename_i a
  cases e : K.lookup a with
  | none => rw [e] at h; cases h
  | some o =>
    rw [e] at h
    obtain ⟨cl, cld, dt, csl⟩ := o
    simp only at h
    split at h
    · rename_i vs
      split at h
      · rename_i f tf hv
        have h := eq_of_beq h
        subst h
        exact ⟨a, cl, cld, vs, csl, tf, rfl, e, hv⟩
      · cases h
    · cases h
def initB (K : PySem.W.Frag) (C f : Addr) (file qual : Str) : Bool := match K.lookup f with
  | some o => (match o.data with
    | .func fd => PySem.W.codeIn K fd.code qual && (decide (fd.defaults = .none) && (fileB K fd.code file && (match fd.closure with
      | [(n, c)] => decide (n = ("__class__" : Str)) && cellB K c C
      | _ => false)))
    | _ => false)
  | none => false
def DefX.ok (K : PySem.W.Frag) (file : Str) (d : DefX) : Bool :=
  He.eqO (PySem.W.findIn K (.ref (d.C K)) "__init__") (some (some (.ref (d.f K)))) && (decide (PySem.W.typeIn K (.ref (d.f K)) = some (.type "function")) && (clsB K (d.C K) && (He.eqO (PySem.W.findIn K (.ref (d.C K)) "__setattr__") (some (some (.builtin "object.__setattr__"))) &&
  (decide (PySem.W.subIn K (.ref (d.C K)) (.type "BaseException") = some true) && (decide (PySem.W.typeIn K (.ref (d.C K)) = some (.type "type")) && (PySem.W.keepIn K (.ref (d.C K)) && (decide (PySem.W.mroIn K (d.C K) (.ref (d.C K)) = some true) &&
  (He.eqO (PySem.W.nsIn K cStatics "thirdparty.any") (some none) && (He.eqO (PySem.W.ks_superIn K (d.C K) (d.C K) "__init__") (some (some (.builtin "ValueError.__init__"))) && (decide (PySem.W.subIn K (.ref (d.C K)) (.type "ValueError") = some true) &&
  (d.l.all (fun p => He.eqO (PySem.W.findIn K (.ref (d.C K)) p.1) (some none)) && initB K (d.C K) (d.f K) file d.qual)))))))))))
theorem DefX.exAt {K : PySem.W.Frag} {mg : Str → Option Value} {d : DefX} {file : Str} (is : IsX d) (e : seeFn K (d.f K) = d.val) (h : d.ok K file = true) (hst : mg "str" = none) (hsu : mg "super" = none) {G : Gx} {c : Nat} {q : Xc} (hc : G.cls c = d.C K) (hl : d.l = xl G q.l) (ha : d.aks = q.aks)
    (hn : d.ps.length = q.n + 1) (fl : ∀ p ∈ q.l, p.1 < G.nm.length ∧ 1 ≤ p.2 ∧ p.2 - 1 < q.n) (sm : q.n ≤ 900) (P : Program) (w : World) (base : Heap) (k : Nat) (hP : POk P file) : ExAt P w K mg base G c q (k + 1) := by
  unfold DefX.ok at h
  obtain ⟨h1, h⟩ := He.ba h
  obtain ⟨h2, h⟩ := He.ba h
  obtain ⟨h3, h⟩ := He.ba h
  obtain ⟨h4, h⟩ := He.ba h
  obtain ⟨h5, h⟩ := He.ba h
  obtain ⟨h6, h⟩ := He.ba h
  obtain ⟨h7, h⟩ := He.ba h
  obtain ⟨h8, h⟩ := He.ba h
  obtain ⟨h9, h⟩ := He.ba h
  obtain ⟨h10, h⟩ := He.ba h
  obtain ⟨h11, h⟩ := He.ba h
  obtain ⟨h12, h13⟩ := He.ba h
  have T : OexC K (d.C K) := ⟨clsB_ok h3, He.eqO_ok h4, of_decide_eq_true h5, of_decide_eq_true h6, h7⟩
  unfold initB at h13
  unfold seeFn at e
  cases ho : K.lookup (d.f K) with
  | none => rw [ho] at h13; cases h13
  | some o =>
    rw [ho] at h13 e
    obtain ⟨oc, od, dt, sl⟩ := o
    cases dt <;> simp only at h13 e <;> first | (cases h13; done) | skip
    rename_i fd
    obtain ⟨a1, h13⟩ := He.ba h13
    obtain ⟨a2, h13⟩ := He.ba h13
    obtain ⟨a3, a4⟩ := He.ba h13
    obtain ⟨n1, n2, n3, n4, n5, n6, n7, n8, n9, n10, n11, n12, n13, n14, n15⟩ := fd
    unfold FnT.of DefX.val at e
    simp only [Option.some.injEq, Prod.mk.injEq] at e
    obtain ⟨rfl, rfl, rfl, rfl, rfl, rfl, e7, rfl⟩ := e
    simp only at a1 a2 a3 a4
    have a2 := of_decide_eq_true a2
    subst a2
    cases n7 with
    | nil => cases e7
    | cons p r =>
    obtain ⟨n, cc⟩ := p
    cases r with
    | cons _ _ => cases a4
    | nil =>
      obtain ⟨b1, b2⟩ := He.ba a4
      have b1 := of_decide_eq_true b1
      subst b1
      obtain ⟨cl, cld, csl, hcc⟩ := cellB_ok b2
      obtain ⟨cda, ccl, cdd, vs, ccs, tf, ecd, hcd, hvs⟩ := fileB_ok a3
      subst ecd
      obtain ⟨ar, har, hx0⟩ := is.x0
      have U : SupC P K mg (d.C K) (d.f K) cc (.ref cda) ar.arg := ⟨⟨oc, od, _, sl, ar, ho, har, rfl⟩, ⟨cda, ccl, cdd, vs, ccs, _, tf, rfl, hcd, hvs, hP.1⟩, ⟨cl, cld, csl, hcc⟩, of_decide_eq_true h8, hP.2, hsu, He.eqO_ok h9, He.eqO_ok h10, of_decide_eq_true h11⟩
      refine ⟨hc ▸ T, ⟨d.f K, PySem.W.ksFn "__init__" d.qual (defArgs d.st) (defBody d.st) (defScope d.st) .none n9 n10 n11 n12 (.ref cda) n14 cc, d.ps, by rw [hc]; exact He.eqO_ok h1, of_decide_eq_true h2, ?_, .all fun us hu => is.bd _ _ _ _ _ _ cc us hu⟩, fl, sm⟩
      rw [hc, ← hl, ← ha]
      exact fn_init ho a1 is.sc T U hx0 hst hn (fun p hp => He.eqO_ok (List.all_eq_true.mp h12 p hp)) is.ck
end Z
end

section
set_option maxRecDepth 100007
/-! The head: facts of the module by one run. -/
namespace Z
open PySem L2 PyProof.Rows
/-- the getter of a property -/
def prA (K : PySem.W.Frag) (C : Addr) (m : Str) : Addr := match PySem.W.recIn K (He.ma K C m) "property" with
  | some (.ref g :: _) => g
  | _ => 0
/-- where a def stands: a global; a class and its method; a class and its property -/
inductive Pl where
  | glo (x : Str) | meth (x m : Str) | prop (x m : Str) | smeth (x m : Str)
deriving DecidableEq
def Pl.at_ (K : PySem.W.Frag) : Pl → Addr
  | .glo x => He.ga K x
  | .meth x m => He.ma K (He.ga K x) m
  | .prop x m => prA K (He.ga K x) m
  | .smeth x m => He5.wf K (He.ga K x) "staticmethod" m
/-- a type by name -/
inductive Tn where
  | own (x : Str) | ty (n : String)
def Tn.v (K : PySem.W.Frag) : Tn → Value
  | .own x => .ref (He.ga K x)
  | .ty n => .type n
inductive Fb where
  | fa (f : He.Fa) | prop (x m : Str) | ktup (p : Pl) (i : Nat) | isi (t u : Tn) (b : Bool) | ic (x : Str) | xf (x : Str) | sm (x m : Str) | ns (x : Str)
def icB (K : PySem.W.Frag) (C : Addr) : Bool := He.eqO (PySem.W.findIn K (.ref C) "__class__") (some (some (.builtin "object.__class__"))) && (He.eqO (PySem.W.specialIn K (.builtin "object.__class__") "__get__") (some (some (.builtin "getset_descriptor.__get__"))) &&
  (decide (PySem.W.takesIn K (.builtin "object.__class__") = some true) && (decide (PySem.W.mroIn K C (.type "object") = some true) && He.eqO (PySem.W.findIn K (.ref C) "__ne__") (some (some (.builtin "object.__ne__"))))))
theorem icB_ok {K : PySem.W.Frag} {C : Addr} (c : Cls K C) (h : icB K C = true) : IcAt K C := by
  unfold icB at h
  obtain ⟨h1, h⟩ := He.ba h
  obtain ⟨h2, h⟩ := He.ba h
  obtain ⟨h3, h⟩ := He.ba h
  obtain ⟨h4, h5⟩ := He.ba h
  exact ⟨c, He.eqO_ok h1, He.eqO_ok h2, of_decide_eq_true h3, of_decide_eq_true h4, He.eqO_ok h5⟩
/-- the i-th default of the def at p -/
def dfl1 (p : Pl) (i : Nat) (K : PySem.W.Frag) : Addr := match K.lookup (p.at_ K) with
  | some o => (match o.data with
    | .func fd => (match fd.defaults with
      | .ref T => (match K.lookup T with
        | some o2 => (match o2.data with
          | .seq its _ => (match its.toList[i]? with
            | some (.ref a) => a
            | _ => 0)
          | _ => 0)
        | none => 0)
      | _ => 0)
    | _ => 0)
  | none => 0
def ktB (K : PySem.W.Frag) (a : Addr) : Bool := match K.lookup a with
  | some o => decide (o.cls = .type "tuple") && (match o.data with
    | .seq its _ => its.toList.isEmpty
    | _ => false)
  | none => false
def prB (K : PySem.W.Frag) (C : Addr) (m : Str) : Bool := He.eqO (PySem.W.findIn K (.ref C) m) (some (some (.ref (He.ma K C m)))) && (He.eqO (PySem.W.specialIn K (.ref (He.ma K C m)) "__get__") (some (some (.builtin "property.__get__"))) &&
  (decide (PySem.W.takesIn K (.ref (He.ma K C m)) = some true) && (match PySem.W.recIn K (He.ma K C m) "property" with
    | some (.ref _ :: _) => true
    | _ => false)))
def smB (K : PySem.W.Frag) (C : Addr) (m : Str) : Bool := He5.wrapB K C "staticmethod" "staticmethod.__get__" m && (PySem.W.readsIn K C (.type "type") && He.eqO (PySem.W.specialIn K (.ref C) "__getattribute__") (some (some (.builtin "type.__getattribute__"))))
theorem smB_ok {K : PySem.W.Frag} {C : Addr} {m : Str} (h : smB K C m = true) (kp : PySem.W.keepIn K (.ref (He5.wf K C "staticmethod" m)) = true) : SMet K C m (He5.wf K C "staticmethod" m) := by
  unfold smB at h
  obtain ⟨h1, h⟩ := He.ba h
  obtain ⟨h2, h3⟩ := He.ba h
  obtain ⟨h4, r, h5⟩ := He5.wrapB_ok h1
  exact ⟨⟨h2, He.eqO_ok h3⟩, ⟨_, r, h4, h5⟩, kp⟩
def Fb.ok (K : PySem.W.Frag) : Fb → Bool
  | .fa f => f.ok K
  | .prop x m => prB K (He.ga K x) m
  | .ktup p i => ktB K (dfl1 p i K)
  | .isi t u b => decide (PySem.W.kitOne K (t.v K) (u.v K) = some b)
  | .ic x => icB K (He.ga K x)
  | .xf x => xfB K (He.ga K x)
  | .sm x m => smB K (He.ga K x) m
  | .ns x => decide (PySem.W.subIn K (.ref (He.ga K x)) (.type "StopIteration") = some false)
theorem prB_ok {K : PySem.W.Frag} {C : Addr} {m : Str} (h : prB K C m = true) : PropOf K C m (He.ma K C m) (prA K C m) := by
  unfold prB at h
  obtain ⟨h1, h⟩ := He.ba h
  obtain ⟨h2, h⟩ := He.ba h
  obtain ⟨h3, h⟩ := He.ba h
  refine ⟨He.eqO_ok h1, He.eqO_ok h2, of_decide_eq_true h3, ?_⟩
  unfold prA
  cases e : PySem.W.recIn K (He.ma K C m) "property" with
  | none => rw [e] at h; cases h
  | some l =>
    rw [e] at h
    cases l with
    | nil => cases h
    | cons v r =>
      cases v <;> first | (cases h; done) | exact ⟨r, rfl⟩
theorem ktB_ok {K : PySem.W.Frag} {a : Addr} (h : ktB K a = true) : KTup K a [] := by
  unfold ktB at h
  cases e : K.lookup a with
  | none => rw [e] at h; cases h
  | some o =>
    rw [e] at h
    obtain ⟨h1, h2⟩ := He.ba h
    cases e2 : o.data <;> rw [e2] at h2 <;> first | (cases h2; done) | skip
    rename_i its n
    have e3 : its.toList = [] := by
      cases e4 : its.toList with
      | nil => rfl
      | cons _ _ => simp only [e4] at h2; cases h2
    refine ⟨o, its, n, e, of_decide_eq_true h1, e2, ?_, by rw [e3]; exact .nil⟩
    have : its.size = 0 := by rw [← Array.length_toList, e3]; rfl
    rw [this]; exact Nat.zero_le _
/-- one def of the text -/
structure DefZ where
  pl : Pl
  name : Str
  qual : Str
  st : Stmt
  dfl : List He.Dv := []
  kwd : List (Str × He.Dv) := []
def DefZ.dvs (K : PySem.W.Frag) (d : DefZ) : List V := d.dfl.map (He.Dv.v K)
def DefZ.kws (K : PySem.W.Frag) (d : DefZ) : List (Str × V) := d.kwd.map fun q => (q.1, q.2.v K)
def DefZ.val (d : DefZ) : FnT := some (d.name, d.qual, defArgs d.st, .stmts (defBody d.st), defScope d.st, mainGlobals, [], builtinsNs)
def DefZ.ok (K : PySem.W.Frag) (d : DefZ) : Bool := PySem.W.keepIn K (.ref (d.pl.at_ K)) && (match K.lookup (d.pl.at_ K) with
  | some o => (match o.data with
    | .func fd => PySem.W.codeIn K fd.code d.qual && (He.dflB K fd.defaults (d.dvs K) && He.kwdB K fd.kwdefaults (d.kws K))
    | _ => false)
  | none => false)
theorem DefZ.funD {K : PySem.W.Frag} {d : DefZ} (e : seeFn K (d.pl.at_ K) = d.val) (c : d.ok K = true) : ∃ fd, FunD K d.name d.qual (defArgs d.st) (defBody d.st) (defScope d.st) (d.dvs K) (d.kws K) (d.pl.at_ K) fd := by
  unfold DefZ.ok at c
  obtain ⟨kp, c⟩ := He.ba c
  unfold seeFn at e
  cases q : K.lookup (d.pl.at_ K) with
  | none => rw [q] at c; cases c
  | some o =>
    rw [q] at c e
    cases q2 : o.data <;> simp only [q2] at c e <;> first | (cases c; done) | skip
    rename_i fd
    obtain ⟨k1, c⟩ := He.ba c
    obtain ⟨k2, k3⟩ := He.ba c
    unfold FnT.of DefZ.val at e
    simp only [Option.some.injEq, Prod.mk.injEq] at e
    obtain ⟨h1, h2, h3, h4, h5, h6, h7, h8⟩ := e
    obtain ⟨oc, od, dt, sl⟩ := o
    simp only at q2
    subst q2
    obtain ⟨n1, n2, n3, n4, n5, n6, n7, n8, n9, n10, n11, n12, n13, n14, n15⟩ := fd
    simp only at h1 h2 h3 h4 h5 h6 h7 h8 k1 k2 k3
    have h7 := List.map_eq_nil_iff.mp h7
    subst h1 h2 h3 h4 h5 h6 h7 h8
    exact ⟨_, ⟨oc, od, n8, n9, n10, n11, n12, n13, n14, sl, rfl, q, k1, He.dflB_ok k2, He.kwdB_ok k3⟩, kp⟩
abbrev AlZ : Type := Bool × List FnT
/-- what is asked of the module -/
structure Hk where
  fb : List Fb
  fn : List DefZ
  fx : List DefX
  file : Str
def seeZ (q : Hk) (K : PySem.W.Frag) : AlZ := ((q.fb.all fun f => f.ok K) && ((q.fn.all fun d => d.ok K) && q.fx.all fun d => d.ok K q.file), (q.fn.map fun d => seeFn K (d.pl.at_ K)) ++ q.fx.map fun d => seeFn K (d.f K))
def valZ (q : Hk) : AlZ := (true, q.fn.map DefZ.val ++ q.fx.map DefX.val)
def SaysZ (q : Hk) (K : PySem.W.Frag) : Prop := seeZ q K = valZ q
/-- what the module's names and the statics reach in n steps -/
def asX (g : Addr → Option Obj) : Nat → List Addr
  | 0 => [mainGlobals, cStatics]
  | n + 1 => He.growD g (asX g n)
def seeG (n : Nat) (q : Hk) (g : Addr → Option Obj) : AlZ := seeZ q (He.frG g (asX g n))
def hookZ (n : Nat) (q : Hk) : PySem.W.Hook where
  α := AlZ
  obs := fun s => seeG n q s.heap.get?
  val := fun _ => valZ q
  says := fun _ h => ∃ K : PySem.W.Frag, K.In h ∧ SaysZ q K
  of := fun _ _ e => ⟨_, He.frG_in, e⟩
  keeps := fun _ _ _ ⟨K, hK, c⟩ k => ⟨K, PySem.W.Frag.In.keeps hK k, c⟩
theorem seeG_eq {n : Nat} {q : Hk} {g : Addr → Option Obj} {s : Shared} (h : ∀ a, g a = s.heap.get? a) : seeG n q g = (hookZ n q).obs s := by
  have e : g = s.heap.get? := funext h
  rw [e]; rfl
section
variable {q : Hk} {K : PySem.W.Frag}
theorem SaysZ.two (c : SaysZ q K) : ((q.fb.all fun f => f.ok K) && ((q.fn.all fun d => d.ok K) && q.fx.all fun d => d.ok K q.file)) = true ∧ (q.fn.map fun d => seeFn K (d.pl.at_ K)) = q.fn.map DefZ.val ∧ (q.fx.map fun d => seeFn K (d.f K)) = q.fx.map DefX.val := by
  have h1 : ((q.fb.all fun f => f.ok K) && ((q.fn.all fun d => d.ok K) && q.fx.all fun d => d.ok K q.file)) = true := congrArg (fun z : AlZ => z.1) c
  have h2 : (q.fn.map fun d => seeFn K (d.pl.at_ K)) ++ (q.fx.map fun d => seeFn K (d.f K)) = q.fn.map DefZ.val ++ q.fx.map DefX.val := congrArg (fun z : AlZ => z.2) c
  obtain ⟨h3, h4⟩ := List.append_inj h2 (by rw [List.length_map, List.length_map])
  exact ⟨h1, h3, h4⟩
theorem SaysZ.fact (c : SaysZ q K) {f : Fb} (h : f ∈ q.fb) : f.ok K = true := List.all_eq_true.mp (He.ba c.two.1).1 f h
theorem SaysZ.def_ (c : SaysZ q K) (i : Nat) {d : DefZ} (h : q.fn[i]? = some d) : ∃ fd, FunD K d.name d.qual (defArgs d.st) (defBody d.st) (defScope d.st) (d.dvs K) (d.kws K) (d.pl.at_ K) fd := by
  have c2 := (He.ba (He.ba c.two.1).2).1
  have e2 : (q.fn.map fun d => seeFn K (d.pl.at_ K))[i]? = (q.fn.map DefZ.val)[i]? := by rw [c.two.2.1]
  rw [List.getElem?_map, List.getElem?_map, h] at e2
  exact DefZ.funD (Option.some.inj e2) (List.all_eq_true.mp c2 d (List.mem_of_getElem? h))
theorem SaysZ.defx (c : SaysZ q K) {d : DefX} (h : d ∈ q.fx) : seeFn K (d.f K) = d.val ∧ d.ok K q.file = true :=
  ⟨List.map_inj_left.mp c.two.2.2 d h, List.all_eq_true.mp (He.ba (He.ba c.two.1).2).2 d h⟩
end
/-- the law's end: like walk_ofE, the script's numbers bounded in bits -/
theorem walk_z {l : PySem.W.OpenLaw} {n k : Nat} {q : Program} {loose : List Str} {XP : (Str → Option Value) → Heap → Prop} {YP : World → Heap → Prop} {d : DefRec} {CX : World → CXT} {x : Str}
    (hn : l.most = some n) (hn2 : n ≤ sizeLine) (hdf : d.params.defaults = []) (hr : Room k callerA)
    (F : ∀ (w : World) (mg : Str → Option Value) (fa : Addr) (h : Heap), YP w h → h.Ns mainGlobals mg → mg d.name = some (.ref fa) →
      ∃ (K : PySem.W.Frag) (fd : FuncData) (sp : Sp), K.In h ∧ (∀ (s : Shared) (u : Value), BindsTo s fd ⟨[u], []⟩ [(x, u)]) ∧
        (∀ (H : Hp) (a : Addr) (ns : List Int), ns.length ≤ n → (∀ z ∈ ns, Builtin.Int.intBits z ≤ 1048576) → SqL K H a (ns.map V.int) → sp [.ref a] H (fun v _ => v = .bl true) fun _ _ _ => False) ∧
        ∀ base : Heap, K.In base → base.Ns mainGlobals mg → FnOk l.prog w K mg base (CX w) k fa fd [x] sp)
    (hCX : ∀ (w : World) (H : Hp) (s : Shared) (e : Value) (s' : Shared), CX w [] H s (fun _ _ _ => False) e s' → False) :
    PySem.W.WalkO q loose XP YP l.row.toRowW d [] (fun f vs => PySem.call f vs) := by
  refine Att.attach_callB hn hdf fun w s₀ s₁ mg mb fa o pm cd doc a vs ns G Y ho hd hcd hmg hobj hints hlen hbits hg => ?_
  obtain ⟨K, fd, sp, KX, hb, hsp, hF⟩ := F w mg fa _ Y G.T.g hmg
  exact law_call KX G.T.g G.T.b G.T.builtins G.T.nolimit hg hobj hints (Nat.le_trans hlen hn2) hr hF hb (fun H hO hS => hsp H a ns hlen hbits hS) fun H e s' => hCX w H s₁ e s'
end Z
end

section
set_option maxRecDepth 100007
/-! From a law's data to what is known of the module. -/
namespace Z
open PySem L2 PyProof.Rows
structure Dat where
  p : Pr
  T : Tab
  fn : List DefZ
  cn : List Str
  fx : List Fb := []
  /-- the own exception classes, numbered behind the others -/
  en : List Str := []
  xs : List DefX := []
  gn : List DefZ := []
def Fb.ofPl : Pl → Fb
  | .glo x => .fa (.glo x)
  | .meth x m => .fa (.meth x m)
  | .prop x m => .prop x m
  | .smeth x m => .sm x m
def gkFb (x : Str) : D → List Fb
  | .int i => [.fa (.int x i)]
  | .str y => [.fa (.str x ⟨y.toArray⟩)]
  | _ => []
def Dat.cl (S : Dat) (c : Nat) : Str := (S.cn ++ S.en).getD c Str.empty
def Dat.nm (S : Dat) (m : Nat) : Str := S.T.nm.getD m Str.empty
def Dat.tn (S : Dat) : Ty → Tn
  | .own c => .own (S.cl c) | .int => .ty "int" | .bl => .ty "bool" | .str => .ty "str" | .non => .ty "NoneType" | .tup => .ty "tuple" | .lst => .ty "list" | .dct => .ty "dict"
def Dat.fb (S : Dat) : List Fb := S.fn.map (fun z => Fb.ofPl z.pl) ++ (S.cn.flatMap (fun x => [.fa (.glo x), .fa (.cls x), .fa (.keep x)]) ++ (S.p.init.map (fun q => .fa (.mkr (S.cl q.1))) ++
  (S.p.flds.flatMap (fun q => q.2.map fun f => .fa (.noat (S.cl q.1) (S.nm f))) ++ (S.T.gks.flatMap (fun q => gkFb q.1 (S.p.gks.getD q.2 .non)) ++ (S.T.blts.map (fun x => .fa (.free x)) ++ (S.p.isi.map (fun q => .isi (S.tn q.1.1) (S.tn q.1.2) q.2) ++ (S.p.ic.map (fun c => .ic (S.cl c)) ++ (S.en.flatMap (fun x => [.fa (.glo x), .fa (.keep x)]) ++ (S.p.exm.map (fun q => .fa (.exm (S.cl q.1.1) (S.cl q.1.2) q.2)) ++ (S.p.xfl.flatMap (fun q => .xf (S.cl q.1) :: q.2.map fun f => .fa (.noat (S.cl q.1) (S.nm f))) ++ (S.p.exc.map (fun q => .ns (S.cl q.1)) ++ (S.gn.map (fun z => Fb.ofPl z.pl) ++ S.fx))))))))))))
def okGk : D → Bool
  | .int _ => true
  | .str y => txtOk y
  | _ => false
def Dat.ok (S : Dat) : Bool :=
  decide (S.T.nm.Nodup) && decide (S.fn.length = S.p.defs.length) &&
  S.T.defs.all (fun q => decide ((S.fn[q.2]?).map DefZ.pl = some (.glo q.1))) &&
  S.T.clss.all (fun q => decide (S.cn[q.2]? = some q.1)) &&
  S.p.init.all (fun q => decide (q.1 < S.cn.length) && decide ((S.fn[q.2]?).map DefZ.pl = some (.meth (S.cl q.1) "__init__"))) &&
  S.p.meth.all (fun q => decide (q.1 < S.cn.length) && decide (q.2.1 < S.T.nm.length) && decide ((S.fn[q.2.2]?).map DefZ.pl = some (.meth (S.cl q.1) (S.nm q.2.1)))) &&
  S.p.prop.all (fun q => decide (q.1 < S.cn.length) && decide (q.2.1 < S.T.nm.length) && decide ((S.fn[q.2.2]?).map DefZ.pl = some (.prop (S.cl q.1) (S.nm q.2.1)))) &&
  S.p.flds.all (fun q => decide (q.1 < S.cn.length) && q.2.all fun f => decide (f < S.T.nm.length)) &&
  S.T.gks.all (fun q => okGk (S.p.gks.getD q.2 .non)) &&
  S.p.dun.all (fun q => decide (q.1 < S.cn.length) && decide ((S.fn[q.2.2]?).map DefZ.pl = some (.meth (S.cl q.1) q.2.1.nm))) &&
  S.p.ic.all (fun c => decide (c < S.cn.length)) &&
  S.T.excs.all (fun q => decide ((S.cn ++ S.en)[q.2]? = some q.1) && decide (S.cn.length ≤ q.2)) &&
  S.p.exc.all (fun q => S.xs.any (fun d => decide (d.x = S.cl q.1) && (decide (d.l = q.2.l.map fun p => (S.nm p.1, p.2)) && (decide (d.aks = q.2.aks) && (decide (d.ps.length = q.2.n + 1) && (q.2.l.all (fun p => decide (p.1 < S.T.nm.length) && (decide (1 ≤ p.2) && decide (p.2 - 1 < q.2.n))) && decide (q.2.n ≤ 900))))))) &&
  (S.p.exc.isEmpty || (S.T.blts.contains "str" && S.T.blts.contains "super")) &&
  S.p.xfl.all (fun q => q.2.all fun f => decide (f < S.T.nm.length)) &&
  S.T.smeths.all (fun q => S.cn.contains q.1 && decide ((S.fn[q.2.2]?).map DefZ.pl = some (.smeth q.1 q.2.1))) &&
  S.T.gens.all (fun q => decide ((S.gn[q.2.1]?).map DefZ.pl = some (.glo q.1)) && decide ((S.p.gens[q.2.1]?).map Dg.np = some q.2.2))
def Dat.hk (S : Dat) : Hk := ⟨S.fb, S.fn ++ S.gn, S.xs, S.T.file⟩
def Dat.gx (S : Dat) (K : PySem.W.Frag) : Gx := { K := K, nm := S.T.nm, cls := fun c => He.ga K (S.cl c) }
def Dat.adr (S : Dat) (K : PySem.W.Frag) (f : Nat) : Addr := match S.fn[f]? with
  | some z => z.pl.at_ K
  | none => 0
/-- what is to be shown of a def by itself -/
def Dat.Def (S : Dat) (d : Df) (z : DefZ) : Prop := ∀ (K : PySem.W.Frag), (∀ f ∈ S.fb, f.ok K = true) → ∀ fd, FunD K z.name z.qual (defArgs z.st) (defBody z.st) (defScope z.st) (z.dvs K) (z.kws K) (z.pl.at_ K) fd → DefAt K S.T d (z.pl.at_ K)
def Dat.GDef (S : Dat) (d : Dg) (z : DefZ) : Prop := ∀ (K : PySem.W.Frag) (fd : FuncData), FunD K z.name z.qual (defArgs z.st) (defBody z.st) (defScope z.st) (z.dvs K) (z.kws K) (z.pl.at_ K) fd → GDefAt K S.T d (z.pl.at_ K)
theorem gdef_plain {S : Dat} {d : Dg} {z : DefZ} {N ps : List Str} (is : IsG S.T d z.st N ps) (h1 : z.dfl = [])
    (h : ∀ (kV doc pm : Value) (an : Option Addr) (cdv ct : Value) (us : List Value), us.length = ps.length → bindArgs (PySem.W.fnOf z.name z.qual (defArgs z.st) (defBody z.st) (defScope z.st) .none kV doc pm an cdv ct) ⟨us, []⟩ = pure (ps.zip us)) : S.GDef d z := fun K fd F => by
  have e : z.dvs K = [] := by unfold DefZ.dvs; rw [h1]; rfl
  rw [e] at F
  exact ⟨z.st, N, ps, z.name, z.qual, _, _, fd, is, F, FunD.bindsN F h⟩
theorem def_plain {S : Dat} {d : Df} {z : DefZ} {N ps : List Str} (is : Is S.T d z.st N ps) (h1 : z.dfl = []) (h3 : d.dfs = [])
    (h : ∀ (kV doc pm : Value) (an : Option Addr) (cdv ct : Value) (us : List Value), us.length = ps.length → bindArgs (PySem.W.fnOf z.name z.qual (defArgs z.st) (defBody z.st) (defScope z.st) .none kV doc pm an cdv ct) ⟨us, []⟩ = pure (ps.zip us)) : S.Def d z := fun K _ fd F => by
  refine ⟨z.st, N, ps, z.name, z.qual, _, _, fd, is, F, fun G hG j hj => ?_⟩
  have e : z.dvs K = [] := by unfold DefZ.dvs; rw [h1]; rfl
  rw [e] at F
  rw [h3] at hj ⊢
  have : j = 0 := by simpa using hj
  subst this
  exact ⟨[], [], .nil, FunD.bindsN F h, rfl, fun H F => .nil⟩
theorem look2_mem {l : List (Nat × Nat × Nat)} {c m f : Nat} (h : look2 l c m = some f) : (c, m, f) ∈ l := by
  unfold look2 at h
  obtain ⟨q, h1, h2⟩ := Option.map_eq_some_iff.mp h
  have h3 := List.find?_some h1
  simp only [Bool.and_eq_true, beq_iff_eq] at h3
  have h4 := List.mem_of_find?_eq_some h1
  obtain ⟨a, b, d⟩ := q
  obtain ⟨rfl, rfl⟩ := h3
  cases h2
  exact h4
theorem lookup_mem' {α β : Type} [BEq α] [LawfulBEq α] {l : List (α × β)} {c : α} {b : β} (h : l.lookup c = some b) : (c, b) ∈ l := by
  induction l with
  | nil => cases h
  | cons q l ih =>
    rw [List.lookup_cons] at h
    split at h
    · rename_i e
      cases h
      rw [eq_of_beq e]
      simp
    · exact List.mem_cons_of_mem _ (ih h)
theorem lookup_mem {β : Type} {l : List (Nat × β)} {c : Nat} {b : β} (h : l.lookup c = some b) : (c, b) ∈ l := by
  induction l with
  | nil => cases h
  | cons q l ih =>
    rw [List.lookup_cons] at h
    split at h
    · rename_i e
      cases h
      rw [eq_of_beq e]
      simp
    · exact List.mem_cons_of_mem _ (ih h)
section
variable {S : Dat} {K : PySem.W.Frag} {h : Heap} {mg : Str → Option Value}
theorem adr_of {f : Nat} {q : Pl} (e : (S.fn[f]?).map DefZ.pl = some q) : S.adr K f = q.at_ K ∧ f < S.fn.length := by
  obtain ⟨z, h1, rfl⟩ := Option.map_eq_some_iff.mp e
  unfold Dat.adr
  rw [h1]
  exact ⟨rfl, (List.getElem?_eq_some_iff.mp h1).1⟩
theorem cl_mem {c : Nat} (hc : c < S.cn.length) : S.cl c ∈ S.cn := by
  unfold Dat.cl
  rw [List.getD_eq_getElem?_getD, List.getElem?_append_left hc, List.getElem?_eq_getElem hc]
  exact List.getElem_mem hc
theorem fb_fn {f : Nat} {q : Pl} (e : (S.fn[f]?).map DefZ.pl = some q) : Fb.ofPl q ∈ S.fb := by
  obtain ⟨z, h1, rfl⟩ := Option.map_eq_some_iff.mp e
  unfold Dat.fb
  exact List.mem_append_left _ (List.mem_map.mpr ⟨z, List.mem_of_getElem? h1, rfl⟩)
theorem fb_cn {c : Nat} (hc : c < S.cn.length) : Fb.fa (.glo (S.cl c)) ∈ S.fb ∧ Fb.fa (.cls (S.cl c)) ∈ S.fb ∧ Fb.fa (.keep (S.cl c)) ∈ S.fb := by
  have : ∀ f ∈ [Fb.fa (.glo (S.cl c)), .fa (.cls (S.cl c)), .fa (.keep (S.cl c))], f ∈ S.fb := fun f hf => by
    unfold Dat.fb
    exact List.mem_append_right _ (List.mem_append_left _ (List.mem_flatMap.mpr ⟨S.cl c, cl_mem hc, hf⟩))
  exact ⟨this _ (by simp), this _ (by simp), this _ (by simp)⟩
theorem wk_of (hB : S.ok = true) (c : ∀ f ∈ S.fb, f.ok K = true) (X : K.In h) (G : h.Ns mainGlobals mg) (hd : ∀ (f : Nat) (d : Df) (z : DefZ), S.p.defs[f]? = some d → S.fn[f]? = some z → DefAt K S.T d (z.pl.at_ K))
    (hk : ∀ (f : Nat) (z : DefZ), S.fn[f]? = some z → PySem.W.keepIn K (.ref (z.pl.at_ K)) = true)
    (hg : ∀ (g : Nat) (d : Dg) (z : DefZ), S.p.gens[g]? = some d → S.gn[g]? = some z → GDefAt K S.T d (z.pl.at_ K) ∧ PySem.W.keepIn K (.ref (z.pl.at_ K)) = true) (hxs : ∀ d ∈ S.xs, IsX d ∧ seeFn K (d.f K) = d.val ∧ d.ok K S.T.file = true) : Wk K mg (S.gx K) S.T S.p (S.adr K) := by
  unfold Dat.ok at hB
  simp only [Bool.and_eq_true, decide_eq_true_eq, List.all_eq_true] at hB
  obtain ⟨⟨⟨⟨⟨⟨⟨⟨⟨⟨⟨⟨⟨⟨⟨⟨b1, b2⟩, b3⟩, b4⟩, b5⟩, b6⟩, b7⟩, b8⟩, b9⟩, b10⟩, b11⟩, b12⟩, b13⟩, b14⟩, b15⟩, b16⟩, b17⟩ := hB
  have fl : ∀ cc f, f ∈ ((S.p.flds.lookup cc).getD []) → ∃ fs, (cc, fs) ∈ S.p.flds ∧ f ∈ fs := fun cc f hf => by
    cases e : S.p.flds.lookup cc with
    | none => rw [e] at hf; cases hf
    | some fs =>
      rw [e] at hf
      exact ⟨fs, lookup_mem e, hf⟩
  refine ⟨rfl, rfl, ⟨b1, fun cc f hf => ?_, fun cc f hf => ?_⟩, fun f d hf => ?_, fun x f hx => ?_, fun x cc hx => ?_, fun x j hx => ?_, fun x hx => ?_, fun cc m f hm => ?_, ⟨fun t u b htu => ?_, fun cc hcc => ?_⟩, fun cc u f hu => ?_, fun cc m f hm => ?_, fun _ _ => trivial, rfl, fun cc q hq P w base k hP => ?_, fun x cc hx => ?_, fun c1 c2 b hm => ?_, fun cc f hf => ?_, fun x m f hx => ?_, fun x g n hx => ?_, fun cc hc => ?_⟩
  · obtain ⟨fs, h1, h2⟩ := fl cc f hf
    have := b8 _ h1
    exact He.cls_ok (c _ (fb_cn this.1).2.1)
  · obtain ⟨fs, h1, h2⟩ := fl cc f hf
    have := (b8 _ h1).2 f h2
    refine ⟨He.noat_ok (x := S.cl cc) (f := S.nm f) (c (.fa (.noat (S.cl cc) (S.nm f))) ?_), this⟩
    unfold Dat.fb
    exact List.mem_append_right _ (List.mem_append_right _ (List.mem_append_right _ (List.mem_append_left _ (List.mem_flatMap.mpr ⟨(cc, fs), h1, List.mem_map.mpr ⟨f, h2, rfl⟩⟩))))
  · have hl : f < S.fn.length := by rw [b2]; exact (List.getElem?_eq_some_iff.mp hf).1
    have := hd f d _ hf (List.getElem?_eq_getElem hl)
    unfold Dat.adr
    rw [List.getElem?_eq_getElem hl]
    exact this
  · have e := b3 _ hx
    obtain ⟨h1, h2⟩ := adr_of (K := K) e
    have h3 := c _ (fb_fn e)
    refine ⟨b2 ▸ h2, ?_, ?_⟩
    · rw [h1]
      exact He.glo_ok X G h3
    · obtain ⟨z, h4, h5⟩ := Option.map_eq_some_iff.mp e
      have := hk f z h4
      rw [h1, ← h5]
      exact this
  · have e := b4 _ hx
    have hc : cc < S.cn.length := (List.getElem?_eq_some_iff.mp e).1
    have ex : S.cl cc = x := by
      unfold Dat.cl
      rw [List.getD_eq_getElem?_getD, List.getElem?_append_left hc, e]; rfl
    obtain ⟨f1, f2, f3⟩ := fb_cn hc
    refine ⟨?_, He.keep_ok (c _ f3), fun f hf => ?_⟩
    · rw [← ex]
      exact He.glo_ok X G (c _ f1)
    · have hm := lookup_mem hf
      obtain ⟨h1, h2⟩ := b5 _ hm
      obtain ⟨h3, h4⟩ := adr_of (K := K) h2
      refine ⟨b2 ▸ h4, ?_⟩
      rw [h3]
      refine He.mkr_ok (x := S.cl cc) (c (.fa (.mkr (S.cl cc))) ?_)
      unfold Dat.fb
      exact List.mem_append_right _ (List.mem_append_right _ (List.mem_append_left _ (List.mem_map.mpr ⟨_, hm, rfl⟩)))
  · have hg := b9 _ hx
    have hm : ∀ f ∈ gkFb x (S.p.gks.getD j .non), f.ok K = true := fun f hf => by
      refine c f ?_
      unfold Dat.fb
      exact List.mem_append_right _ (List.mem_append_right _ (List.mem_append_right _ (List.mem_append_right _ (List.mem_append_left _ (List.mem_flatMap.mpr ⟨_, hx, hf⟩)))))
    cases e : S.p.gks.getD j .non <;> simp only [e, okGk, Bool.false_eq_true] at hg hm
    · rename_i i
      obtain ⟨t, ht⟩ := He.int_ok X G (hm (.fa (.int x i)) (by simp [gkFb]))
      exact ⟨_, .int i, ht, ⟨t, rfl⟩, fun H F => .int i⟩
    · rename_i y
      obtain ⟨t, ht⟩ := He.str_ok X G (hm (.fa (.str x ⟨y.toArray⟩)) (by simp [gkFb]))
      exact ⟨_, .str ⟨y.toArray⟩, ht, ⟨t, rfl⟩, fun H F => .str hg⟩
  · refine He.free_ok X G (c (.fa (.free x)) ?_)
    unfold Dat.fb
    exact List.mem_append_right _ (List.mem_append_right _ (List.mem_append_right _ (List.mem_append_right _ (List.mem_append_right _ (List.mem_append_left _ (List.mem_map.mpr ⟨x, hx, rfl⟩))))))
  · obtain ⟨⟨h1, h2⟩, h3⟩ := b6 _ (look2_mem hm)
    obtain ⟨h4, h5⟩ := adr_of (K := K) h3
    refine ⟨h2, b2 ▸ h5, He.cls_ok (c _ (fb_cn h1).2.1), ?_⟩
    rw [h4]
    exact He.meth_ok (c _ (fb_fn h3))
  · have e : ∀ t, tyV (S.gx K) t = (S.tn t).v K := fun t => by cases t <;> rfl
    have hm := lookup_mem' (show S.p.isi.lookup (t, u) = some b from htu)
    have := c (.isi (S.tn t) (S.tn u) b) (by
      unfold Dat.fb
      exact List.mem_append_right _ (List.mem_append_right _ (List.mem_append_right _ (List.mem_append_right _ (List.mem_append_right _ (List.mem_append_right _ (List.mem_append_left _ (List.mem_map.mpr ⟨_, hm, rfl⟩))))))))
    rw [e, e]
    exact of_decide_eq_true this
  · have hm : cc ∈ S.p.ic := by simpa using (show S.p.ic.contains cc = true from hcc)
    have hl : cc < S.cn.length := b11 _ hm
    have := c (.ic (S.cl cc)) (by
      unfold Dat.fb
      exact List.mem_append_right _ (List.mem_append_right _ (List.mem_append_right _ (List.mem_append_right _ (List.mem_append_right _ (List.mem_append_right _ (List.mem_append_right _ (List.mem_append_left _ (List.mem_map.mpr ⟨_, hm, rfl⟩)))))))))
    exact icB_ok (He.cls_ok (c _ (fb_cn hl).2.1)) this
  · obtain ⟨q, h1, h2⟩ := Option.map_eq_some_iff.mp (show (S.p.dun.find? fun q => decide (q.1 = cc ∧ q.2.1 = u)).map (·.2.2) = some f from hu)
    have h3 : q.1 = cc ∧ q.2.1 = u := by have := List.find?_some h1; exact of_decide_eq_true this
    obtain ⟨qa, qb, qc⟩ := q
    obtain ⟨rfl, rfl⟩ := h3
    cases h2
    obtain ⟨h4, h5⟩ := b10 _ (List.mem_of_find?_eq_some h1)
    obtain ⟨h6, h7⟩ := adr_of (K := K) h5
    refine ⟨b2 ▸ h7, He.cls_ok (c _ (fb_cn h4).2.1), ?_⟩
    rw [h6]
    exact He.meth_ok (c _ (fb_fn h5))
  · obtain ⟨⟨h1, h2⟩, h3⟩ := b7 _ (look2_mem hm)
    obtain ⟨h4, h5⟩ := adr_of (K := K) h3
    refine ⟨h2, b2 ▸ h5, He.cls_ok (c _ (fb_cn h1).2.1), He.ma K (He.ga K (S.cl cc)) (S.nm m), ?_⟩
    rw [h4]
    exact prB_ok (c _ (fb_fn h3))
  · have hm := lookup_mem hq
    obtain ⟨d, hd1, hd2⟩ := List.any_eq_true.mp (b13 _ hm)
    simp only [Bool.and_eq_true, decide_eq_true_eq, List.all_eq_true] at hd2
    obtain ⟨e1, e2, e3, e4, e5, e6⟩ := hd2
    obtain ⟨i1, i2, i3⟩ := hxs d hd1
    have hb : ("str" : Str) ∈ S.T.blts ∧ ("super" : Str) ∈ S.T.blts := by
      rw [Bool.or_eq_true] at b14
      rcases b14 with h | h
      · rw [List.isEmpty_iff] at h
        rw [h] at hm; cases hm
      · rw [Bool.and_eq_true] at h
        exact ⟨by simpa using h.1, by simpa using h.2⟩
    have fr : ∀ x ∈ S.T.blts, mg x = none := fun x hx => by
      refine He.free_ok X G (c (.fa (.free x)) ?_)
      unfold Dat.fb
      exact List.mem_append_right _ (List.mem_append_right _ (List.mem_append_right _ (List.mem_append_right _ (List.mem_append_right _ (List.mem_append_left _ (List.mem_map.mpr ⟨x, hx, rfl⟩))))))
    refine DefX.exAt i1 i2 i3 (fr _ hb.1) (fr _ hb.2) (by show He.ga K (S.cl cc) = He.ga K d.x; rw [e1]) (by rw [e2]; rfl) e3 e4 (fun p hp => ?_) e6 P w base k hP
    exact e5 p hp
  · have h1 := b12 _ hx
    have hg : x ∈ S.en ∧ S.cl cc = x := by
      have e := h1.1
      refine ⟨?_, ?_⟩
      · rw [List.getElem?_append_right h1.2] at e
        exact List.mem_of_getElem? e
      · unfold Dat.cl
        rw [List.getD_eq_getElem?_getD, e]; rfl
    have : mg x = some (.ref (He.ga K x)) := by
      refine He.glo_ok X G (c (.fa (.glo x)) ?_)
      unfold Dat.fb
      exact List.mem_append_right _ (List.mem_append_right _ (List.mem_append_right _ (List.mem_append_right _ (List.mem_append_right _ (List.mem_append_right _ (List.mem_append_right _ (List.mem_append_right _ (List.mem_append_left _ (List.mem_flatMap.mpr ⟨x, hg.1, by simp⟩)))))))))
    rw [this]
    show _ = some (Value.ref (He.ga K (S.cl cc)))
    rw [hg.2]
  · have hm := lookup_mem' hm
    refine He.exm_ok (c (.fa (.exm (S.cl c1) (S.cl c2) b)) ?_)
    unfold Dat.fb
    exact List.mem_append_right _ (List.mem_append_right _ (List.mem_append_right _ (List.mem_append_right _ (List.mem_append_right _ (List.mem_append_right _ (List.mem_append_right _ (List.mem_append_right _ (List.mem_append_right _ (List.mem_append_left _ (List.mem_map.mpr ⟨_, hm, rfl⟩))))))))))
  · have hf : ((S.p.xfl.lookup cc).getD []).contains f = true := hf
    cases el : S.p.xfl.lookup cc with
    | none => rw [el] at hf; cases hf
    | some fs =>
      rw [el] at hf
      have hf : f ∈ fs := by simpa using hf
      have hm := lookup_mem el
      have mem : ∀ g ∈ (Fb.xf (S.cl cc) :: fs.map fun f => Fb.fa (.noat (S.cl cc) (S.nm f))), g.ok K = true := fun g hg => by
        refine c g ?_
        unfold Dat.fb
        exact List.mem_append_right _ (List.mem_append_right _ (List.mem_append_right _ (List.mem_append_right _ (List.mem_append_right _ (List.mem_append_right _ (List.mem_append_right _ (List.mem_append_right _ (List.mem_append_right _ (List.mem_append_right _ (List.mem_append_left _ (List.mem_flatMap.mpr ⟨_, hm, hg⟩)))))))))))
      exact ⟨xfB_ok (mem (.xf (S.cl cc)) (by simp)), He.noat_ok (x := S.cl cc) (mem (.fa (.noat (S.cl cc) (S.nm f))) (List.mem_cons_of_mem _ (List.mem_map.mpr ⟨f, hf, rfl⟩))), b15 _ hm f hf⟩
  · obtain ⟨h1, h2⟩ := b16 _ hx
    obtain ⟨h4, h5⟩ := adr_of (K := K) h2
    have h1 : x ∈ S.cn := by simpa using h1
    obtain ⟨i, hi⟩ := List.mem_iff_getElem?.mp h1
    have hc : i < S.cn.length := (List.getElem?_eq_some_iff.mp hi).1
    have ex : S.cl i = x := by
      unfold Dat.cl
      rw [List.getD_eq_getElem?_getD, List.getElem?_append_left hc, hi]; rfl
    refine ⟨b2 ▸ h5, He.ga K x, ?_, ?_⟩
    · rw [← ex]
      exact He.glo_ok X G (c _ (fb_cn hc).1)
    · obtain ⟨z, q1, q2⟩ := Option.map_eq_some_iff.mp h2
      have kp := hk f z q1
      rw [q2] at kp
      rw [h4]
      exact smB_ok (c _ (fb_fn h2)) kp
  · obtain ⟨h1, h2⟩ := b17 _ hx
    obtain ⟨z, q1, q2⟩ := Option.map_eq_some_iff.mp h1
    obtain ⟨d, q3, q4⟩ := Option.map_eq_some_iff.mp h2
    obtain ⟨g1, g2⟩ := hg g d z q3 q1
    refine ⟨d, z.pl.at_ K, q3, q4, ?_, g2, g1⟩
    rw [q2]
    refine He.glo_ok X G (c (.fa (.glo x)) ?_)
    have : (Fb.ofPl z.pl) = .fa (.glo x) := by rw [q2]; rfl
    rw [← this]
    unfold Dat.fb
    iterate 12 refine List.mem_append_right _ ?_
    exact List.mem_append_left _ (List.mem_map.mpr ⟨z, List.mem_of_getElem? q1, rfl⟩)
  · obtain ⟨q, hq⟩ := Option.isSome_iff_exists.mp hc
    have hm := lookup_mem hq
    refine of_decide_eq_true (c (.ns (S.cl cc)) ?_)
    unfold Dat.fb
    iterate 11 refine List.mem_append_right _ ?_
    exact List.mem_append_left _ (List.mem_map.mpr ⟨_, hm, rfl⟩)
end
end Z
end

section
set_option maxRecDepth 100007
/-! A law's end. -/
namespace Z
open PySem L2 PyProof.Rows
theorem cx_none {P : Program} {w : World} {H : Hp} {s : Shared} {e : Value} {s' : Shared} (h : L2.CX P w [] H s (fun _ _ _ => False) e s') : False := by
  obtain ⟨_, _, _, _, _, _, _, _, _, _, _, _, z⟩ := h
  exact z.elim
theorem end_of {S : Dat} {n fi : Nat} {x name : Str} {z : DefZ} {d : Df} {g : Nat} {N : List Str} {P : Program} (hB : S.ok = true) (hxs : ∀ d ∈ S.xs, IsX d) (hP : POk P S.T.file) (hd : ∀ (f : Nat) (d : Df) (z : DefZ), S.p.defs[f]? = some d → S.fn[f]? = some z → S.Def d z) (hgn : ∀ (g : Nat) (d : Dg) (z : DefZ), S.p.gens[g]? = some d → S.gn[g]? = some z → S.GDef d z)
    (zl : S.fn[fi]? = some z) (dl : S.p.defs[fi]? = some d) (is : Is S.T d z.st N [x]) (hp : z.pl = .glo name) (hm : d.modes = [false]) (h1 : z.dfl = [])
    (hb : ∀ (kV doc pm : Value) (an : Option Addr) (cdv ct : Value) (us : List Value), us.length = ([x] : List Str).length → bindArgs (PySem.W.fnOf z.name z.qual (defArgs z.st) (defBody z.st) (defScope z.st) .none kV doc pm an cdv ct) ⟨us, []⟩ = pure (([x] : List Str).zip us))
    (math : ∀ ns : List Int, ns.length ≤ 63 → (∀ i ∈ ns, Builtin.Int.intBits i ≤ 1048576) → ∃ outs, (S.p.ct (n + 1)).run fi [.val (.scr ns)] = .ret (.val (.bl true)) outs) (w : World) (mg : Str → Option Value) (fa : Addr) (h : Heap) (Y : (hookZ g S.hk).says w h) (G : h.Ns mainGlobals mg) (hmg : mg name = some (.ref fa)) :
    ∃ (K : PySem.W.Frag) (fd : FuncData) (sp : Sp), K.In h ∧ (∀ (s : Shared) (u : Value), BindsTo s fd ⟨[u], []⟩ [(x, u)]) ∧
        (∀ (H : Hp) (a : Addr) (ns : List Int), ns.length ≤ 63 → (∀ z ∈ ns, Builtin.Int.intBits z ≤ 1048576) → SqL K H a (ns.map V.int) → sp [.ref a] H (fun v _ => v = .bl true) fun _ _ _ => False) ∧
        ∀ base : Heap, K.In base → base.Ns mainGlobals mg → FnOk P w K mg base (L2.CX P w) (4 * (n + 1) + 1) fa fd [x] sp := by
  obtain ⟨K, KX, c⟩ := Y
  have cf : ∀ f ∈ S.fb, f.ok K = true := fun f hf => c.fact hf
  have df1 : ∀ {f : Nat} {z : DefZ}, S.fn[f]? = some z → S.hk.fn[f]? = some z := fun {f z} h => by
    show (S.fn ++ S.gn)[f]? = some z
    rw [List.getElem?_append_left (List.getElem?_eq_some_iff.mp h).1]; exact h
  have df2 : ∀ {f : Nat} {z : DefZ}, S.gn[f]? = some z → S.hk.fn[S.fn.length + f]? = some z := fun {f z} h => by
    show (S.fn ++ S.gn)[_]? = some z
    rw [List.getElem?_append_right (by omega), Nat.add_sub_cancel_left]; exact h
  have wk := wk_of hB cf KX G (fun f d z h1 h2 => by
    obtain ⟨fd, F⟩ := c.def_ f (df1 h2)
    exact hd f d z h1 h2 K cf fd F) (fun f z h2 => by
    obtain ⟨fd, F⟩ := c.def_ f (df1 h2)
    exact F.kp) (fun g d z h1 h2 => by
    obtain ⟨fd, F⟩ := c.def_ _ (df2 h2)
    exact ⟨hgn g d z h1 h2 K fd F, F.kp⟩) fun d hd => ⟨hxs d hd, c.defx hd⟩
  have hfl : fi < S.p.defs.length := (List.getElem?_eq_some_iff.mp dl).1
  have ha : S.adr K fi = fa := by
    have e : (S.fn[fi]?).map DefZ.pl = some (.glo name) := by rw [zl]; exact congrArg some hp
    have h3 := He.glo_ok KX G (cf _ (fb_fn e))
    rw [(adr_of (K := K) e).1]
    rw [hmg] at h3
    cases h3
    rfl
  obtain ⟨fd0, F0⟩ := c.def_ fi (df1 zl)
  have e0 : z.dvs K = [] := by unfold DefZ.dvs; rw [h1]; rfl
  rw [e0] at F0
  have hmod : (S.p.ct (n + 1)).modes fi = [false] := by rw [ct_modes, dl]; exact hm
  have e1 : z.pl.at_ K = fa := by
    have : S.adr K fi = z.pl.at_ K := by unfold Dat.adr; rw [zl]
    rw [← this]; exact ha
  rw [e1] at F0
  refine ⟨K, fd0, spZ (S.gx K) ((S.p.ct (n + 1)).run fi) ((S.p.ct (n + 1)).modes fi), KX, fun s u => FunD.bindsA (ps := [x]) F0 hb s [u] rfl, fun H a ns hl hbt hS => sp_law hmod rfl hS (math ns hl hbt), fun base KB NB => ?_⟩
  have wkB := wk_of (h := base) hB cf KB NB (fun f d z h1 h2 => by
    obtain ⟨fd, F⟩ := c.def_ f (df1 h2)
    exact hd f d z h1 h2 K cf fd F) (fun f z h2 => by
    obtain ⟨fd, F⟩ := c.def_ f (df1 h2)
    exact F.kp) (fun g d z h1 h2 => by
    obtain ⟨fd, F⟩ := c.def_ _ (df2 h2)
    exact ⟨hgn g d z h1 h2 K fd F, F.kp⟩) fun d hd => ⟨hxs d hd, c.defx hd⟩
  have e2 : S.adr K fi = z.pl.at_ K := by unfold Dat.adr; rw [zl]
  have F1 : FunD K z.name z.qual (defArgs z.st) (defBody z.st) (defScope z.st) [] (z.kws K) (S.adr K fi) fd0 := by rw [e2, e1]; exact F0
  have := tab_one (P := P) (w := w) (base := base) wkB hP (tab_ok wkB hP n) dl is F1
  rw [ha] at this
  exact this
end Z
end

section
set_option maxRecDepth 100007
/-! Reading trees: words for simp. -/
namespace Z
open PySem L2 PyProof.Rows
theorem run_eq {p : Pr} {n f : Nat} {d : Df} (h : p.defs[f]? = some d) (os : List O) : (p.ct (n + 1)).run f os = runD (p.ct n) d os := by
  show (match p.defs[f]? with | some d => runD (p.ct n) d os | none => RR.bad) = _
  rw [h]
section
variable {C : Ct} {z : Zs} {ro : Ro}
@[simp] theorem R.bind_ok {α β : Type} (a : α) (z : Zs) (f : α → Zs → R β) : (R.ok a z).bind f = f a z := rfl
@[simp] theorem R.bind_bad {α β : Type} (f : α → Zs → R β) : (R.bad : R α).bind f = .bad := rfl
@[simp] theorem R.bind_exc {α β : Type} (c : Nat) (fs : List (Nat × D)) (z : Zs) (f : α → Zs → R β) : (R.exc c fs z : R α).bind f = .exc c fs z := rfl
@[simp] theorem R.bindS_ok {α : Type} (a : α) (z : Zs) (f : α → Zs → S) : (R.ok a z).bindS f = f a z := rfl
@[simp] theorem R.bindS_bad {α : Type} (f : α → Zs → S) : (R.bad : R α).bindS f = .bad := rfl
@[simp] theorem R.bindS_exc {α : Type} (c : Nat) (fs : List (Nat × D)) (z : Zs) (f : α → Zs → S) : (R.exc c fs z : R α).bindS f = .exc c fs z := rfl
end
/-- how a turn of a loop goes on -/
@[simp] def Turn1 (I : Zs → Prop) (Post : S → Prop) : S → Prop
  | .nxt z => I z
  | .cnt z => I z
  | .brk z => Post (.nxt z)
  | .ret o z => Post (.ret o z)
  | .exc c fs z => Post (.exc c fs z)
  | .bad => False
theorem forF_run {tgt : D → Zs → Option Zs} {b : Zs → S} (I : Nat → Zs → Prop) (Post : S → Prop) : ∀ (ds : List D) (k : Nat) (z0 : Zs), I k z0 → (∀ i d z, ds[i]? = some d → I (k + i) z → ∃ z1, tgt d z = some z1 ∧ Turn1 (I (k + i + 1)) Post (b z1)) →
    (∀ z, I (k + ds.length) z → Post (.nxt z)) → Post (forF tgt b ds z0)
  | [], k, z0, h0, step, fin => fin z0 h0
  | d :: ds, k, z0, h0, step, fin => by
    obtain ⟨z1, e1, h1⟩ := step 0 d z0 rfl h0
    rw [forF, e1]
    have ih : ∀ z2, I (k + 1) z2 → Post (forF tgt b ds z2) := fun z2 h2 => forF_run I Post ds (k + 1) z2 h2 (fun i d z e h => by
      have := step (i + 1) d z (by simpa using e) (by rw [show k + (i + 1) = k + 1 + i by omega]; exact h)
      rwa [show k + (i + 1) + 1 = k + 1 + i + 1 by omega] at this) fun z h => fin z (by rw [List.length_cons, show k + (ds.length + 1) = k + 1 + ds.length by omega]; exact h)
    simp only
    cases e2 : b z1 with
    | nxt z2 => rw [e2] at h1; exact ih z2 h1
    | cnt z2 => rw [e2] at h1; exact ih z2 h1
    | brk z2 => rw [e2] at h1; exact h1
    | ret o z2 => rw [e2] at h1; exact h1
    | exc c fs z2 => rw [e2] at h1; exact h1
    | bad => rw [e2] at h1; exact h1.elim
/-- the turns of a comprehension, what is made so far and the slots being as I says -/
theorem compF_run {vs : List Nat} {tgt : D → Zs → Option Zs} {c : Zs → R Bool} {me : Zs → R Hd} (I : Nat → List D → Zs → Prop) : ∀ (ds acc : List D) (k : Nat) (z : Zs), I k acc z → (∀ i d acc z, ds[i]? = some d → I (k + i) acc z → ∃ z1, tgt d z = some z1 ∧ ∃ b z2, c z1 = .ok b z2 ∧ (if b = true then
      ∃ h z3 e z4, me z2 = .ok h z3 ∧ takeD h z3 = some (e, z4) ∧ acc.length < sizeLine ∧ I (k + i + 1) (acc ++ [e]) (wipeZ z4 vs) else I (k + i + 1) acc (wipeZ z2 vs))) →
    ∃ out z', compF vs tgt c me ds acc z = some (out, z') ∧ I (k + ds.length) out z'
  | [], acc, k, z, h0, step => ⟨acc, z, rfl, h0⟩
  | d :: ds, acc, k, z, h0, step => by
    obtain ⟨z1, e1, b, z2, e2, h⟩ := step 0 d acc z rfl h0
    have ih : ∀ acc2 z5, I (k + 1) acc2 z5 → ∃ out z', compF vs tgt c me ds acc2 z5 = some (out, z') ∧ I (k + (d :: ds).length) out z' := fun acc2 z5 h5 => by
      have := compF_run I ds acc2 (k + 1) z5 h5 fun i d acc z e h => by
        have := step (i + 1) d acc z (by simpa using e) (by rw [show k + (i + 1) = k + 1 + i by omega]; exact h)
        rwa [show k + (i + 1) + 1 = k + 1 + i + 1 by omega] at this
      rwa [List.length_cons, show k + (ds.length + 1) = k + 1 + ds.length by omega]
    rw [compF, e1]
    simp only [e2]
    cases b with
    | false =>
      simp only [Bool.false_eq_true, if_false] at h ⊢
      exact ih _ _ h
    | true =>
      simp only [if_true] at h ⊢
      obtain ⟨hd, z3, e, z4, e3, e4, hl, h5⟩ := h
      simp only [e3, e4, if_pos hl]
      exact ih _ _ h5
/-- .. where each turn makes one item and leaves the slots as they were -/
theorem compF_map {vs : List Nat} {tgt : D → Zs → Option Zs} {c : Zs → R Bool} {me : Zs → R Hd} {zb : Zs} (g : D → D) : ∀ (ds acc : List D), (∀ d ∈ ds, ∃ z1, tgt d zb = some z1 ∧ ∃ z2 h z3 z4, c z1 = .ok true z2 ∧ me z2 = .ok h z3 ∧ takeD h z3 = some (g d, z4) ∧ wipeZ z4 vs = zb) →
    acc.length + ds.length ≤ sizeLine → compF vs tgt c me ds acc zb = some (acc ++ ds.map g, zb)
  | [], acc, _, _ => by rw [compF, List.map_nil, List.append_nil]
  | d :: ds, acc, h, hl => by
    obtain ⟨z1, e1, z2, hd, z3, z4, e2, e3, e4, e5⟩ := h d (by simp)
    rw [List.length_cons] at hl
    rw [compF, e1]
    simp only [e2, if_true, e3, e4]
    rw [if_pos (by omega), e5, compF_map g ds (acc ++ [g d]) (fun d hd => h d (by simp [hd])) (by rw [List.length_append, List.length_singleton]; omega), List.map_cons, List.append_assoc]
    rfl
@[simp] theorem andK_t (x : Hd) (z : Zs) (r : R Hd) : andK x z r (some true) = r := rfl
@[simp] theorem andK_f (x : Hd) (z : Zs) (r : R Hd) : andK x z r (some false) = .ok x z := rfl
@[simp] theorem orK_t (x : Hd) (z : Zs) (r : R Hd) : orK x z r (some true) = .ok x z := rfl
@[simp] theorem orK_f (x : Hd) (z : Zs) (r : R Hd) : orK x z r (some false) = r := rfl
@[simp] theorem andK_bl (b c : Bool) (z : Zs) : andK (.tmp (.val (.bl b))) z (.ok (.tmp (.val (.bl c))) z) (some b) = .ok (.tmp (.val (.bl (b && c)))) z := by cases b <;> rfl
@[simp] theorem orK_bl (b c : Bool) (z : Zs) : orK (.tmp (.val (.bl b))) z (.ok (.tmp (.val (.bl c))) z) (some b) = .ok (.tmp (.val (.bl (b || c)))) z := by cases b <;> rfl
@[simp] theorem ite_and (p : Prop) [Decidable p] (q : Bool) (z : Zs) : (if p then (R.ok q z : R Bool) else R.ok false z) = R.ok (decide p && q) z := by
  by_cases h : p <;> simp [h]
@[simp] theorem ite_or (p : Prop) [Decidable p] (q : Bool) (z : Zs) : (if p then (R.ok true z : R Bool) else R.ok q z) = R.ok (decide p || q) z := by
  by_cases h : p <;> simp [h]
/-! ### steps -/
section
variable {C : Ct} {z z1 z2 : Zs} {ro : Ro} {s r a b : Sm} {x : S} {o : O} {e c : Ex} {t : Tg} {it : It1} {ds : List D} {rs : Option (Nat × O)}
theorem seq_nxt (h : evS C ro s z = .nxt z1) (h2 : evS C ro r z1 = x) : evS C ro (.seq s r) z = x := by
  show exSeq _ _ z = _
  unfold exSeq
  rw [h]
  exact h2
theorem seq_ret (h : evS C ro s z = .ret o z1) : evS C ro (.seq s r) z = .ret o z1 := by
  show exSeq _ _ z = _
  unfold exSeq
  rw [h]
theorem ife_t (h : (ev C c).2 z = .ok true z1) (h2 : evS C ro a z1 = x) : evS C ro (.ife c a b) z = x := by
  show exIf _ _ _ z = _
  unfold exIf
  rw [h]
  exact h2
theorem ife_f (h : (ev C c).2 z = .ok false z1) (h2 : evS C ro b z1 = x) : evS C ro (.ife c a b) z = x := by
  show exIf _ _ _ z = _
  unfold exIf
  rw [h]
  exact h2
theorem st_nil : evS C ro .nil z = .nxt z := rfl
theorem st_retn : evS C ro .retN z = .ret (.val .non) z := rfl
theorem frl_ok (h : evI C it z = .ok (ds, rs) z1) : evS C ro (.frl t it b) z = (forF (asg1 (roL ro it.l) t) (evS C (roL ro it.l) b) ds z1).back rs := by
  show exFor _ _ _ z = _
  unfold exFor
  rw [h]
  rfl
theorem st_ret (h : (ev C e).1 z = .ok (.tmp o) z1) : evS C ro (.ret e) z = .ret o z1 := by
  show exRet _ _ z = _
  unfold exRet
  rw [h]
  rfl
theorem st_asg {i : Nat} {h : Hd} (h1 : (ev C e).1 z = .ok h z1) (h2 : take h z1 = some (o, z2)) (hi : ro i = false) (hl : i < z2.length) : evS C ro (.asg i e) z = .nxt (z2.set i (some o)) := by
  show exAsgN _ _ _ z = _
  unfold exAsgN
  rw [h1]
  show (match take h z1 with
    | some (o, z2) => (match setS ro i o z2 with
      | some z3 => S.nxt z3
      | none => .bad)
    | none => .bad) = _
  rw [h2]
  unfold setS
  simp [hi, hl]
theorem st_app {i : Nat} {h : Hd} {d : D} {ds0 ds1 : List D} (h0 : rd z i = some (.lst ds0)) (h1 : (ev C e).1 z = .ok h z1) (h2 : takeD h z1 = some (d, z2)) (h3 : rd z2 i = some (.lst ds1)) (hl : ds1.length < sizeLine) : evS C ro (.app i e) z = .nxt (z2.set i (some (.lst (ds1 ++ [d])))) := by
  show exApp _ _ z = _
  unfold exApp
  rw [h0]
  simp only [h1, R.bindS_ok, h2, h3, if_pos hl]
theorem runD_ret {d : Df} {os : List O} {outs : List (Option O)} (h0 : os.length = d.np) (h : evS C d.ro d.body (os.map some ++ List.replicate (d.ns - d.np) none) = .ret o z) (h2 : outsOf d.modes 0 z = some outs) : runD C d os = .ret o outs := by
  unfold runD
  rw [if_pos h0, h]
  simp only [h2]
theorem runD_nxt {d : Df} {os : List O} {outs : List (Option O)} (h0 : os.length = d.np) (h : evS C d.ro d.body (os.map some ++ List.replicate (d.ns - d.np) none) = .nxt z) (h2 : outsOf d.modes 0 z = some outs) : runD C d os = .ret (.val .non) outs := by
  unfold runD
  rw [if_pos h0, h]
  simp only [h2]
end
/-- a product of small numbers -/
theorem mulOk_l {i j : Int} (h1 : 0 ≤ i) (h2 : i < 4294967296) : MulOk i j := .inl (.inl ⟨by omega, by omega⟩)
theorem mulOk_r {i j : Int} (h1 : 0 ≤ j) (h2 : j < 4294967296) : MulOk i j := .inl (.inr ⟨by omega, by omega⟩)
end Z
end

section
set_option maxRecDepth 100007
set_option maxHeartbeats 4000007
/-! The law's hand: numbers drawn off a script. -/
namespace Z
open PySem L2 PyProof.Rows
def dMix : Df := ⟨2, 4, [true, true], [], .seq (.asg 2 (.bin .mod (.bi .int (.cons (.bin .add (.bin .add (.bin .mul (.lc 0) (.kon (.int 48271))) (.bin .mul (.lc 1) (.kon (.int 16807)))) (.kon (.int 11))) .nil)) (.kon (.int 2147483647)))) (.seq (.asg 3 (.bin .mod (.bi .int (.cons (.bin .add (.bin .add (.bin .mul (.lc 2) (.lc 2)) (.bin .mul (.bin .fdiv (.lc 2) (.kon (.int 127))) (.kon (.int 40692)))) (.bin .mul (.lc 1) (.kon (.int 69621)))) .nil)) (.kon (.int 2147483399)))) (.seq (.ret (.bin .fdiv (.bin .mod (.bi .int (.cons (.bin .add (.bin .fdiv (.bin .mul (.lc 3) (.lc 3)) (.kon (.int 1009))) (.lc 2)) .nil)) (.kon (.int 2147483563))) (.kon (.int 16)))) .nil))⟩
def mixI (n t : Int) : Int :=
  let once := (n * 48271 + t * 16807 + 11) % 2147483647
  let twice := (once * once + once / 127 * 40692 + t * 69621) % 2147483399
  (twice * twice / 1009 + once) % 2147483563 / 16
theorem run_mix (C : Ct) (a b : Int) (ha : 0 ≤ a ∧ a < 4294967296) (hb : 0 ≤ b ∧ b < 4294967296) : runD C dMix [.val (.int a), .val (.int b)] = .ret (.val (.int (mixI a b))) [some (.val (.int a)), some (.val (.int b))] := by
  have h1 : MulOk a 48271 := mulOk_l ha.1 ha.2
  have h2 : MulOk b 16807 := mulOk_l hb.1 hb.2
  have h3 : MulOk b 69621 := mulOk_l hb.1 hb.2
  have h4 : MulOk ((a * 48271 + b * 16807 + 11) % 2147483647) ((a * 48271 + b * 16807 + 11) % 2147483647) := mulOk_l (by omega) (by omega)
  have h5 : MulOk ((a * 48271 + b * 16807 + 11) % 2147483647 / 127) 40692 := mulOk_l (by omega) (by omega)
  generalize e1 : (a * 48271 + b * 16807 + 11) % 2147483647 = x at h4 h5
  have h6 : MulOk ((x * x + x / 127 * 40692 + b * 69621) % 2147483399) ((x * x + x / 127 * 40692 + b * 69621) % 2147483399) := mulOk_l (by omega) (by omega)
  have e2 : mixI a b = ((x * x + x / 127 * 40692 + b * 69621) % 2147483399 * ((x * x + x / 127 * 40692 + b * 69621) % 2147483399) / 1009 + x) % 2147483563 / 16 := by
    unfold mixI
    rw [e1]
  rw [e2]
  have lg : Nat.log2 127 < 9000 ∧ Nat.log2 1009 < 9000 ∧ Nat.log2 16 < 9000 := by decide +kernel
  simp [runD, dMix, evS, exSeq, exAsgN, exRet, ev, evA, evBi, evOpN, apN, evOp2, ap2, evSlot, evD, evCons, evNil, rd, peek, peeks, take, setS, binOp, arith, B1.fn, biInt, Df.ro, outsOf, O.pk, h1, h2, h3, h4, h5, h6, e1, lg]

def dHand : Df := ⟨1, 4, [true], [], .seq (.asg 1 (.kon (.int 0))) (.seq (.frl (.tp (.cons (.nm 2) (.cons (.nm 3) .nil))) (.enum (some 0) (.lc 0)) (.seq (.asg 1 (.bin .mod (.bi .int (.cons (.bin .add (.bin .mul (.lc 1) (.kon (.int 31))) (.bin .mul (.bi .int (.cons (.lc 3) .nil)) (.bin .add (.lc 2) (.kon (.int 7))))) .nil)) (.kon (.int 2147483629)))) .nil)) (.seq (.ret (.lst (.cons (.comp [3] (.nm 3) (.seq (some 0) (.lc 0)) .none (.bi .abs (.cons (.bi .int (.cons (.lc 3) .nil)) .nil))) (.cons (.kon (.int 0)) (.cons (.kon (.int 0)) (.cons (.lc 1) .nil)))))) .nil))⟩
theorem mixI_b (n t : Int) : 0 ≤ mixI n t ∧ mixI n t < 134217723 := by
  unfold mixI
  simp only
  omega
/-- the hand: the cells, the place, the rest, the total -/
def handO (cells : List Int) (i r t : Int) : O := .lst [.lst (cells.map .int), .int i, .int r, .int t]
theorem run_hand (C : Ct) (ns : List Int) (hl : ns.length ≤ 63) : ∃ t, 0 ≤ t ∧ t < 2147483629 ∧ runD C dHand [.val (.scr ns)] = .ret (handO (ns.map fun i => if i < 0 then -i else i) 0 0 t) [some (.val (.scr ns))] := by
  have sl : (63 : Nat) ≤ sizeLine := by decide
  have key : ∃ t, 0 ≤ t ∧ t < 2147483629 ∧ ∃ a b, forF (asg1 (roL dHand.ro (some 0)) (.tp (.cons (.nm 2) (.cons (.nm 3) .nil)))) (evS C (roL dHand.ro (some 0)) (.seq (.asg 1 (.bin .mod (.bi .int (.cons (.bin .add (.bin .mul (.lc 1) (.kon (.int 31))) (.bin .mul (.bi .int (.cons (.lc 3) .nil)) (.bin .add (.lc 2) (.kon (.int 7))))) .nil)) (.kon (.int 2147483629)))) .nil)) (ns.zipIdx.map fun p => D.tup [.int p.2, .int p.1]) [none, some (.val (.int 0)), none, none] = .nxt [none, some (.val (.int t)), a, b] := by
    refine forF_run (fun _ z => ∃ t a b, 0 ≤ t ∧ t < 2147483629 ∧ z = [none, some (.val (.int t)), a, b]) (fun r => ∃ t, 0 ≤ t ∧ t < 2147483629 ∧ ∃ a b, r = .nxt [none, some (.val (.int t)), a, b]) _ 0 _ ⟨0, none, none, by decide, by decide, rfl⟩ (fun i d z e h => ?_) (fun z h => ?_)
    · obtain ⟨t, a, b, h1, h2, rfl⟩ := h
      rw [List.getElem?_map, List.getElem?_zipIdx] at e
      obtain ⟨p, e1, rfl⟩ := Option.map_eq_some_iff.mp e
      obtain ⟨n, e2, rfl⟩ := Option.map_eq_some_iff.mp e1
      have hi : i < ns.length := (List.getElem?_eq_some_iff.mp e2).1
      have m1 : MulOk t 31 := mulOk_l h1 (by omega)
      have m2 : MulOk n ((i : Int) + 7) := mulOk_r (by omega) (by omega)
      refine ⟨[none, some (.val (.int t)), some (.val (.int (i : Int))), some (.val (.int n))], ?_, ?_⟩
      · simp [asg1, asgN, setS, roL, dHand, Df.ro]
      · simp [setS, roL, dHand, Df.ro, evS, exSeq, exAsgN, ev, evA, evBi, evOpN, apN, evOp2, ap2, evSlot, evD, evCons, evNil, rd, peek, peeks, take, binOp, arith, B1.fn, biInt, O.pk, m1, m2, exSkip, Turn1]
        omega
    · obtain ⟨t, a, b, h1, h2, rfl⟩ := h
      exact ⟨t, h1, h2, a, b, rfl⟩
  obtain ⟨t, h1, h2, a, b, key⟩ := key
  refine ⟨t, h1, h2, ?_⟩
  have cp := compF_map (vs := [3]) (tgt := asg1 (roV [3]) (.nm 3)) (c := evYes) (me := evOpN biAbs (evCons (evOpN biInt (evCons (evSlot 3) evNil)) evNil)) (zb := [none, some (.val (.int t)), a, none]) (fun d => match d with
      | .int i => .int (if i < 0 then -i else i)
      | d => d) (ns.map .int) [] (fun d hd => by
    obtain ⟨n, _, rfl⟩ := List.mem_map.mp hd
    refine ⟨[none, some (.val (.int t)), a, some (.val (.int n))], by simp [asg1, setS, roV], _, .tmp (.val (.int (if n < 0 then -n else n))), [none, some (.val (.int t)), a, some (.val (.int n))], [none, some (.val (.int t)), a, some (.val (.int n))], rfl, ?_, rfl, by simp [wipeZ]⟩
    simp [evOpN, evCons, evSlot, evNil, apN, rd, peeks, peek, biInt, biAbs, O.pk]) (by simp; omega)
  rw [List.map_map, List.nil_append] at cp
  have eg : (ns.map (fun i : Int => if i < 0 then -i else i)).map D.int = List.map ((fun d : D => match d with | .int i => .int (if i < 0 then -i else i) | d => d) ∘ D.int) ns := by
    rw [List.map_map]
    rfl
  refine runD_ret (z := [some (.val (.scr ns)), some (.val (.int t)), a, b]) rfl (seq_nxt (z1 := [some (.val (.scr ns)), some (.val (.int 0)), none, none]) rfl (seq_nxt (z1 := [some (.val (.scr ns)), some (.val (.int t)), a, b]) ((frl_ok (z1 := [none, some (.val (.int 0)), none, none]) (ds := ns.zipIdx.map fun p => D.tup [.int p.2, .int p.1]) (rs := some (0, .val (.scr ns))) rfl).trans (by rw [show (It1.enum (some 0) (.lc 0)).l = some 0 from rfl, key]; rfl)) (seq_ret (st_ret ?_)))) rfl
  show evLst (evCons (evComp [3] (asg1 (roV [3]) (.nm 3)) evYes (evOpN biAbs (evCons (evOpN biInt (evCons (evSlot 3) evNil)) evNil)) (evSeq (some 0) (evSlot 0))) (evCons (evD (.int 0)) (evCons (evD (.int 0)) (evCons (evSlot 1) evNil)))) _ = _
  have c1 : evComp [3] (asg1 (roV [3]) (.nm 3)) evYes (evOpN biAbs (evCons (evOpN biInt (evCons (evSlot 3) evNil)) evNil)) (evSeq (some 0) (evSlot 0)) [some (.val (.scr ns)), some (.val (.int t)), a, b] = .ok (.tmp (.lst ((ns.map (fun i : Int => if i < 0 then -i else i)).map D.int))) [some (.val (.scr ns)), some (.val (.int t)), a, b] := by
    have q : evSeq (some 0) (evSlot 0) [some (.val (.scr ns)), some (.val (.int t)), a, b] = .ok (ns.map .int, some (0, .val (.scr ns))) [none, some (.val (.int t)), a, b] := rfl
    unfold evComp
    rw [q, R.bind_ok, show wipeZ [none, some (.val (.int t)), a, b] [3] = [none, some (.val (.int t)), a, none] from rfl, cp, eg]
    rfl
  generalize evComp [3] (asg1 (roV [3]) (.nm 3)) evYes (evOpN biAbs (evCons (evOpN biInt (evCons (evSlot 3) evNil)) evNil)) (evSeq (some 0) (evSlot 0)) = m at c1 ⊢
  simp [c1, handO]
  omega
def dDraw (f : Nat) : Df := ⟨2, 4, [true, true], [], .seq (.ife (.and (.cons (.cmp .eq (.ix (.lc 0) (.kon (.int 2))) (.kon (.int 0))) (.cons (.cmp .lt (.ix (.lc 0) (.kon (.int 1))) (.bi .len (.cons (.ix (.lc 0) (.kon (.int 0))) .nil))) .nil))) (.seq (.asg 2 (.ix (.ix (.lc 0) (.kon (.int 0))) (.ix (.lc 0) (.kon (.int 1))))) (.seq (.setIx 0 (.kon (.int 1)) (.bin .add (.ix (.lc 0) (.kon (.int 1))) (.kon (.int 1)))) (.seq (.ife (.cmp .lt (.lc 2) (.bin .pow (.kon (.int 10)) (.kon (.int 18)))) (.seq (.ret (.bin .mod (.bi .int (.cons (.call f (.cons (.bin .mod (.bi .int (.cons (.lc 2) .nil)) (.kon (.int 2147483647))) (.cons (.ix (.lc 0) (.kon (.int 1))) .nil))) .nil)) (.lc 1))) .nil) .nil) (.seq (.setIx 0 (.kon (.int 2)) (.lc 2)) .nil)))) .nil) (.seq (.ife (.cmp .gt (.ix (.lc 0) (.kon (.int 2))) (.kon (.int 0))) (.seq (.asg 3 (.ix (.lc 0) (.kon (.int 2)))) (.seq (.setIx 0 (.kon (.int 2)) (.bin .fdiv (.lc 3) (.lc 1))) (.seq (.ret (.bin .mod (.bi .int (.cons (.lc 3) .nil)) (.lc 1))) .nil))) .nil) (.seq (.setIx 0 (.kon (.int 3)) (.bin .mod (.bi .int (.cons (.bin .add (.ix (.lc 0) (.kon (.int 3))) (.kon (.int 1))) .nil)) (.kon (.int 2147483629)))) (.seq (.ret (.bin .mod (.bi .int (.cons (.call f (.cons (.ix (.lc 0) (.kon (.int 3))) (.cons (.ix (.lc 0) (.kon (.int 1))) .nil))) .nil)) (.lc 1))) .nil)))⟩
@[simp] theorem plain_int {n : Nat} (i : Int) : plainN n (.int i) = true := by cases n <;> rfl
theorem at4 (a b c d : D) : atI [a, b, c, d] 0 = some a ∧ atI [a, b, c, d] 1 = some b ∧ atI [a, b, c, d] 2 = some c ∧ atI [a, b, c, d] 3 = some d := ⟨rfl, rfl, rfl, rfl⟩
structure HandOk (cells : List Int) (i r t : Int) : Prop where
  pos : ∀ c ∈ cells, 0 ≤ c
  i0 : 0 ≤ i
  i1 : i ≤ cells.length
  r0 : 0 ≤ r
  t0 : 0 ≤ t
  t1 : t < 2147483629
  len : cells.length ≤ 63
theorem run_draw (C : Ct) (f : Nat) (hm : C.modes f = [true, true]) (hf : ∀ a b : Int, 0 ≤ a ∧ a < 4294967296 → 0 ≤ b ∧ b < 4294967296 → C.run f [.val (.int a), .val (.int b)] = .ret (.val (.int (mixI a b))) [some (.val (.int a)), some (.val (.int b))])
    {cells : List Int} {i r t m : Int} (h : HandOk cells i r t) (h0 : 0 < m) (h1 : m < 4294967296) : ∃ x i' r' t', 0 ≤ x ∧ x < m ∧ HandOk cells i' r' t' ∧ runD C (dDraw f) [handO cells i r t, .val (.int m)] = .ret (.val (.int x)) [some (handO cells i' r' t'), some (.val (.int m))] := by
  have hlog : m.natAbs.log2 < 9000 := by
    have : m.natAbs < 2 ^ 32 := by omega
    have := Nat.log2_lt (n := m.natAbs) (k := 32) (by omega)
    omega
  have fin : ∀ y : Int, 0 ≤ y % m ∧ y % m < m := fun y => ⟨Int.emod_nonneg _ (by omega), Int.emod_lt_of_pos _ h0⟩
  by_cases hr : r = 0 ∧ i < cells.length
  · obtain ⟨rfl, hi⟩ := hr
    have hn : i.toNat < cells.length := by have := h.i0; omega
    have hat : atI (cells.map D.int) i = some (D.int cells[i.toNat]) := by
      unfold atI ixN
      rw [List.length_map, if_pos h.i0, if_pos hi]
      simp [hn]
    have c0 : 0 ≤ cells[i.toNat] := h.pos _ (List.getElem_mem hn)
    have hok : ∀ r', 0 ≤ r' → HandOk cells (i + 1) r' t := fun r' hr' => ⟨h.pos, by have := h.i0; omega, by omega, hr', h.t0, h.t1, h.len⟩
    generalize cells[i.toNat] = c at hat c0
    by_cases hc : c < 1000000000000000000
    · have hf1 := hf (c % 2147483647) (i + 1) ⟨Int.emod_nonneg _ (by decide), by omega⟩ ⟨by have := h.i0; omega, by have := h.len; omega⟩
      refine ⟨mixI (c % 2147483647) (i + 1) % m, i + 1, 0, t, (fin _).1, (fin _).2, hok 0 (by decide), ?_⟩
      simp [runD, dDraw, handO, eqD, plain_int, at4, ixN, h0, hlog, hi, hat, hc, apF, given, hm, lendA, backA, hf1]
    · refine ⟨c % m, i + 1, c / m, t, (fin _).1, (fin _).2, hok _ (Int.ediv_nonneg c0 (by omega)), ?_⟩
      have c1 : 0 < c := by omega
      have c2 : c ≠ 0 := by omega
      simp [runD, dDraw, handO, eqD, plain_int, at4, ixN, h0, hlog, hi, hat, hc, c1, c2]
  · by_cases hr0 : r > 0
    · refine ⟨r % m, i, r / m, t, (fin _).1, (fin _).2, ⟨h.pos, h.i0, h.i1, Int.ediv_nonneg h.r0 (by omega), h.t0, h.t1, h.len⟩, ?_⟩
      have : r ≠ 0 := by omega
      simp [runD, dDraw, handO, eqD, plain_int, at4, ixN, this, hr0, h0, hlog]
    · have r0 : r = 0 := by have := h.r0; omega
      subst r0
      have hi : ¬ i < (cells.length : Int) := fun q => hr ⟨rfl, q⟩
      have hf1 := hf ((t + 1) % 2147483629) i ⟨Int.emod_nonneg _ (by decide), by omega⟩ ⟨h.i0, by have := h.i1; have := h.len; omega⟩
      refine ⟨mixI ((t + 1) % 2147483629) i % m, i, 0, (t + 1) % 2147483629, (fin _).1, (fin _).2, ⟨h.pos, h.i0, h.i1, by decide, Int.emod_nonneg _ (by decide), Int.emod_lt_of_pos _ (by decide), h.len⟩, ?_⟩
      simp [runD, dDraw, handO, eqD, plain_int, at4, ixN, h0, hlog, hi, apF, given, hm, lendA, backA, hf1]
end Z
end

section
set_option maxRecDepth 100007
set_option maxHeartbeats 4000007
/-! Words of columns; tables with what is known of some calls put in. -/
namespace Z
open PySem L2 PyProof.Rows
theorem sl_100000 : 200000 ≤ sizeLine := by decide
/-! ### draws -/
structure Hst where
  cells : List Int
  i : Int
  r : Int
  t : Int
  ok : HandOk cells i r t
def Hst.o (s : Hst) : O := handO s.cells s.i s.r s.t
structure DrawOk (C : Ct) (f : Nat) : Prop where
  mo : C.modes f = [true, true]
  df : C.dfs f = []
  run : ∀ (s : Hst) (m : Int), 0 < m → m < 4294967296 → ∃ (x : Int) (s' : Hst), 0 ≤ x ∧ x < m ∧ C.run f [s.o, .val (.int m)] = .ret (.val (.int x)) [some s'.o, some (.val (.int m))]
/-- a table in which some calls are answered at once -/
def memo (C : Ct) (g : Nat → List O → Option RR) : Ct := { C with run := fun f os => match g f os with
  | some r => r
  | none => C.run f os }
theorem memo_eq {C : Ct} {g : Nat → List O → Option RR} (h : ∀ f os r, g f os = some r → C.run f os = r) : memo C g = C := by
  have e : (fun f os => match g f os with
    | some r => r
    | none => C.run f os) = C.run := by
    funext f os
    cases e : g f os with
    | none => rfl
    | some r => exact (h f os r e).symm
  unfold memo
  rw [e]
@[simp] theorem plain_str {n : Nat} (x : List Nat) : plainN n (.str x) = true := by cases n <;> rfl
@[simp] theorem plain_bl {n : Nat} (x : Bool) : plainN n (.bl x) = true := by cases n <;> rfl
@[simp] theorem plain_non {n : Nat} : plainN n .non = true := by cases n <;> rfl
/-! ### ranges -/
theorem rg1_int {j : Int} (h0 : 0 ≤ j) (h1 : j < 1000000000) : rgItems [D.int j] = some (upTo 0 j.toNat) := by
  have r1 : rgOk j := ⟨by omega, by omega⟩
  show (if rgOk j then some (upTo 0 j.toNat) else none) = _
  rw [if_pos r1]
theorem rg2_int {i j : Int} (h0 : 0 ≤ i) (h1 : i < 1000000000) (h2 : -1000000000 < j) (h3 : j < 1000000000) : rgItems [D.int i, D.int j] = some (upTo i (j - i).toNat) := by
  have r1 : rgOk i ∧ rgOk j := ⟨⟨by omega, by omega⟩, ⟨by omega, by omega⟩⟩
  show (if rgOk i ∧ rgOk j then some (upTo i (j - i).toNat) else none) = _
  rw [if_pos r1]
theorem evI_rng1 {C : Ct} {e : Ex} {z z1 : Zs} {h : Hd} {d : D} {u : List D} (h1 : (ev C e).1 z = .ok h z1) (h2 : peek h z1 = some d) (h3 : rgItems [d] = some u) : evI C (.rng (.cons e .nil)) z = .ok (u, none) z1 := by
  show ((evCons (ev C e).1 evNil z).bind _) = _
  unfold evCons evNil
  rw [h1]
  simp only [R.bind_ok, peeks, h2, h3]
theorem evI_rng2 {C : Ct} {e f : Ex} {z z1 z2 : Zs} {h h' : Hd} {d d' : D} {u : List D} (h1 : (ev C e).1 z = .ok h z1) (h2 : (ev C f).1 z1 = .ok h' z2) (h3 : peek h z2 = some d) (h4 : peek h' z2 = some d') (h5 : rgItems [d, d'] = some u) : evI C (.rng (.cons e (.cons f .nil))) z = .ok (u, none) z2 := by
  show ((evCons (ev C e).1 (evCons (ev C f).1 evNil) z).bind _) = _
  unfold evCons evNil
  rw [h1]
  simp only [R.bind_ok, h2, peeks, h3, h4, h5]
/-! ### words -/
/-- the words with k signs more, d of them down, from height h -/
def gw : Nat → Nat → Nat → List (List Nat)
  | 0, _, _ => [[]]
  | k + 1, d, h => (match d with
    | 0 => []
    | d + 1 => (gw k d (h + 1)).map (100 :: ·)) ++ (match h with
    | 0 => []
    | h + 1 => (gw k d h).map (111 :: ·))
def Wn (n : Nat) : List (List Nat) := gw (2 * n) n 0
def WW : List (List Nat) := Wn 1 ++ (Wn 2 ++ (Wn 3 ++ (Wn 4 ++ (Wn 5 ++ Wn 6))))
theorem gw_d {k d h : Nat} {w : List Nat} (m : w ∈ gw k d (h + 1)) : 100 :: w ∈ gw (k + 1) (d + 1) h := by
  unfold gw
  exact List.mem_append_left _ (List.mem_map.mpr ⟨w, m, rfl⟩)
theorem gw_o {k d h : Nat} {w : List Nat} (m : w ∈ gw k d h) : 111 :: w ∈ gw (k + 1) d (h + 1) := by
  unfold gw
  exact List.mem_append_right _ (List.mem_map.mpr ⟨w, m, rfl⟩)
def dWord (f : Nat) : Df := ⟨2, 7, [true, true], [], .seq (.asg 2 (.kon (.str []))) (.seq (.asg 3 (.kon (.int 0))) (.seq (.frl (.nm 4) (.rng (.cons (.bin .mul (.kon (.int 2)) (.lc 1)) .nil)) (.seq (.asg 5 (.cmp .gt (.lc 3) (.kon (.int 0)))) (.seq (.asg 6 (.cmp .lt (.ms .count (.lc 2) (.cons (.kon (.str [100])) .nil)) (.lc 1))) (.seq (.ife (.and (.cons (.lc 6) (.cons (.or (.cons (.not (.lc 5)) (.cons (.cmp .eq (.call f (.cons (.lc 0) (.cons (.kon (.int 2)) .nil))) (.kon (.int 0))) .nil))) .nil))) (.seq (.asg 2 (.bin .add (.lc 2) (.kon (.str [100])))) (.seq (.asg 3 (.bin .add (.lc 3) (.kon (.int 1)))) .nil)) (.seq (.asg 2 (.bin .add (.lc 2) (.kon (.str [111])))) (.seq (.asg 3 (.bin .sub (.lc 3) (.kon (.int 1)))) .nil))) .nil)))) (.seq (.ret (.lc 2)) .nil)))⟩

theorem cnt_one (w : List Nat) (c : Nat) : Txt.count ⟨w.toArray⟩ ⟨[c].toArray⟩ = (w.count c : Int) := by
  have e : Txt.count ⟨w.toArray⟩ ⟨#[c]⟩ = PyProof.Rows.cnt c w := count_is _ c
  refine e.trans ?_
  induction w with
  | nil => rfl
  | cons a w ih =>
    rw [cnt_cons, ih (count_is _ c), List.count_cons]
    by_cases h : a = c
    · simp [h]; omega
    · simp [h]
abbrev bWord (f : Nat) : Sm := .seq (.asg 5 (.cmp .gt (.lc 3) (.kon (.int 0)))) (.seq (.asg 6 (.cmp .lt (.ms .count (.lc 2) (.cons (.kon (.str [100])) .nil)) (.lc 1))) (.seq (.ife (.and (.cons (.lc 6) (.cons (.or (.cons (.not (.lc 5)) (.cons (.cmp .eq (.call f (.cons (.lc 0) (.cons (.kon (.int 2)) .nil))) (.kon (.int 0))) .nil))) .nil))) (.seq (.asg 2 (.bin .add (.lc 2) (.kon (.str [100])))) (.seq (.asg 3 (.bin .add (.lc 3) (.kon (.int 1)))) .nil)) (.seq (.asg 2 (.bin .add (.lc 2) (.kon (.str [111])))) (.seq (.asg 3 (.bin .sub (.lc 3) (.kon (.int 1)))) .nil))) .nil))
structure WI (n : Nat) (k : Nat) (w : List Nat) (h : Int) where
  d : Nat
  g : Nat
  hg : h = g
  cd : (w.count 100 : Int) + d = n
  kk : k = 2 * d + g
  ok : ∀ v ∈ gw k d g, w ++ v ∈ Wn n
theorem word_turn (C : Ct) (f : Nat) (hd : DrawOk C f) {ro : Ro} (h2 : ro 2 = false) (h3 : ro 3 = false) (h5 : ro 5 = false) (h6 : ro 6 = false) (n k : Nat) (hl : n ≤ 6) (s : Hst) (w : List Nat) (h : Int) (wi : WI n (k + 1) w h) (hw : w.length ≤ 12) (t a b : Option O) :
    ∃ s' w' h' a' b', Nonempty (WI n k w' h') ∧ w'.length = w.length + 1 ∧ evS C ro (bWord f) [some s.o, some (.val (.int n)), some (.val (.str w)), some (.val (.int h)), t, a, b] = .nxt [some (Hst.o s'), some (.val (.int n)), some (.val (.str w')), some (.val (.int h')), t, a', b'] := by
  obtain ⟨d, g, rfl, cd, kk, ok⟩ := wi
  have sl : (100 : Nat) ≤ sizeLine := by decide
  have b1 : w.length + 1 ≤ sizeLine := by omega
  have goD : ∀ d', d = d' + 1 → Nonempty (WI n k (w ++ [100]) ((g : Int) + 1)) := fun d' e => by
    subst e
    refine ⟨⟨d', g + 1, by omega, ?_, by omega, fun v hv => ?_⟩⟩
    · rw [List.count_append]; simp; omega
    · rw [List.append_assoc]; exact ok _ (gw_d hv)
  have goO : ∀ g', g = g' + 1 → Nonempty (WI n k (w ++ [111]) ((g : Int) - 1)) := fun g' e => by
    subst e
    refine ⟨⟨d, g', by omega, ?_, by omega, fun v hv => ?_⟩⟩
    · rw [List.count_append]; simp; omega
    · rw [List.append_assoc]; exact ok _ (gw_o hv)
  have ct : msCount [.str w, .str [100]] = some (.val (.int (w.count 100 : Nat))) := by
    show some (O.val (.int (Txt.count ⟨w.toArray⟩ ⟨[100].toArray⟩))) = _
    rw [cnt_one]
  obtain ⟨x, s', x0, x1, e1⟩ := hd.run s 2 (by decide) (by decide)
  have hm := hd.mo
  have hf := hd.df
  by_cases hd0 : d = 0
  · subst hd0
    have c1 : ¬ ((w.count 100 : Int) < n) := by omega
    obtain ⟨g', rfl⟩ : ∃ g', g = g' + 1 := ⟨g - 1, by omega⟩
    have c2 : (0 : Int) < (g' : Int) + 1 := by omega
    refine ⟨s, _, _, some (.val (.bl true)), some (.val (.bl false)), goO g' rfl, by simp, ?_⟩
    simp [h2, h3, h5, h6, ct, c1, c2, b1]
  · obtain ⟨d', rfl⟩ : ∃ d', d = d' + 1 := ⟨d - 1, by omega⟩
    have c1 : ((w.count 100 : Int) < n) := by omega
    by_cases hg0 : g = 0
    · subst hg0
      refine ⟨s, _, _, some (.val (.bl false)), some (.val (.bl true)), goD d' rfl, by simp, ?_⟩
      simp [h2, h3, h5, h6, ct, c1, b1]
    · obtain ⟨g', rfl⟩ : ∃ g', g = g' + 1 := ⟨g - 1, by omega⟩
      have c2 : (0 : Int) < (g' : Int) + 1 := by omega
      by_cases hx : x = 0
      · subst hx
        refine ⟨s', _, _, some (.val (.bl true)), some (.val (.bl true)), goD d' rfl, by simp, ?_⟩
        simp [h2, h3, h5, h6, ct, c1, c2, b1, apF, given, lendA, backA, hm, hf, e1, plain_int, eqD]
      · refine ⟨s', _, _, some (.val (.bl true)), some (.val (.bl true)), goO g' rfl, by simp, ?_⟩
        simp [h2, h3, h5, h6, ct, c1, c2, b1, apF, given, lendA, backA, hm, hf, e1, plain_int, eqD, hx]
theorem run_word (C : Ct) (f : Nat) (hd : DrawOk C f) (s : Hst) (n : Nat) (h1 : 1 ≤ n) (h6 : n ≤ 6) : ∃ w s', w ∈ Wn n ∧ runD C (dWord f) [s.o, .val (.int n)] = .ret (.val (.str w)) [some (Hst.o s'), some (.val (.int n))] := by
  have sl : (100 : Nat) ≤ sizeLine := by decide
  have mo : MulOk 2 (n : Int) := mulOk_l (by decide) (by decide)
  have key : ∃ w s' h t a b, w ∈ Wn n ∧ forF (asg1 (dWord f).ro (.nm 4)) (evS C (dWord f).ro (bWord f)) (upTo 0 (2 * n)) [some s.o, some (.val (.int n)), some (.val (.str [])), some (.val (.int 0)), none, none, none] = .nxt [some (Hst.o s'), some (.val (.int n)), some (.val (.str w)), some (.val (.int h)), t, a, b] := by
    refine forF_run (fun i z => ∃ k w h s' t a b, i + k = 2 * n ∧ w.length = i ∧ Nonempty (WI n k w h) ∧ z = [some (Hst.o s'), some (.val (.int n)), some (.val (.str w)), some (.val (.int h)), t, a, b]) (fun r => ∃ w s' h t a b, w ∈ Wn n ∧ r = .nxt [some (Hst.o s'), some (.val (.int n)), some (.val (.str w)), some (.val (.int h)), t, a, b]) _ 0 _ ⟨2 * n, [], 0, s, none, none, none, by omega, rfl, ⟨⟨n, 0, rfl, by simp, rfl, fun v hv => hv⟩⟩, rfl⟩ (fun i d z e h => ?_) (fun z h => ?_)
    · obtain ⟨k, w, h, s', t, a, b, hk, hw, ⟨wi⟩, rfl⟩ := h
      have hi : i < 2 * n := by have := (List.getElem?_eq_some_iff.mp e).1; unfold upTo at this; simpa using this
      obtain ⟨k', rfl⟩ : ∃ k', k = k' + 1 := ⟨k - 1, by omega⟩
      obtain ⟨s2, w2, h2, a2, b2, wi2, hl2, st⟩ := word_turn C f hd (ro := (dWord f).ro) rfl rfl rfl rfl n k' h6 s' w h wi (by omega) (some (.val d)) a b
      refine ⟨[some s'.o, some (.val (.int n)), some (.val (.str w)), some (.val (.int h)), some (.val d), a, b], rfl, ?_⟩
      rw [st]
      exact ⟨k', w2, h2, s2, _, a2, b2, by omega, by omega, wi2, rfl⟩
    · obtain ⟨k, w, h, s', t, a, b, hk, hw, ⟨wi⟩, rfl⟩ := h
      have hk0 : k = 0 := by unfold upTo at hk; simp at hk; omega
      subst hk0
      have := wi.ok [] (by rw [gw]; simp)
      rw [List.append_nil] at this
      exact ⟨w, s', h, t, a, b, this, rfl⟩
  obtain ⟨w, s', h, t, a, b, hw, key⟩ := key
  refine ⟨w, s', hw, ?_⟩
  refine runD_ret (z := [some (Hst.o s'), some (.val (.int n)), none, some (.val (.int h)), t, a, b]) rfl (seq_nxt (z1 := [some s.o, some (.val (.int n)), some (.val (.str [])), none, none, none, none]) rfl (seq_nxt (z1 := [some s.o, some (.val (.int n)), some (.val (.str [])), some (.val (.int 0)), none, none, none]) rfl (seq_nxt (z1 := [some (Hst.o s'), some (.val (.int n)), some (.val (.str w)), some (.val (.int h)), t, a, b]) ((frl_ok (z1 := [some s.o, some (.val (.int n)), some (.val (.str [])), some (.val (.int 0)), none, none, none]) (ds := upTo 0 (2 * n)) (rs := none) ?_).trans ?_) (seq_ret rfl)))) rfl
  · have e : (2 * (n : Int)).toNat = 2 * n := by omega
    have g := rg1_int (j := 2 * (n : Int)) (by omega) (by omega)
    rw [e] at g
    generalize upTo 0 (2 * n) = u at g
    exact evI_rng1 (h := .tmp (.val (.int (2 * (n : Int))))) (by simp [mo]) rfl g
  · show S.back none (forF (asg1 (dWord f).ro (.nm 4)) (evS C (dWord f).ro (bWord f)) _ _) = _
    rw [key]
    rfl
end Z
end

section
set_option maxRecDepth 100007
set_option maxHeartbeats 4000007
/-! A word near a word. -/
namespace Z
open PySem L2 PyProof.Rows
def okH : Int → List Nat → Bool
  | _, [] => true
  | h, c :: r => decide (0 ≤ h + (if c = 100 then 1 else -1)) && okH (h + (if c = 100 then 1 else -1)) r
def nearV (w : List Nat) (t : Int) : List Nat := match atI w (t - 1), atI w t with
  | some a, some b => if a = b then w else if okH 0 (cutL w none (some (t - 1)) ++ [b] ++ [a] ++ cutL w (some (t + 1)) none) = true then cutL w none (some (t - 1)) ++ [b] ++ [a] ++ cutL w (some (t + 1)) none else w
  | _, _ => w
def dNear (f : Nat) : Df := ⟨2, 6, [true, true], [], .seq (.asg 2 (.bin .add (.kon (.int 1)) (.call f (.cons (.lc 0) (.cons (.bin .sub (.bi .len (.cons (.lc 1) .nil)) (.kon (.int 1))) .nil))))) (.seq (.ife (.cmp .eq (.ix (.lc 1) (.bin .sub (.lc 2) (.kon (.int 1)))) (.ix (.lc 1) (.lc 2))) (.seq (.ret (.lc 1)) .nil) .nil) (.seq (.asg 3 (.bin .add (.bin .add (.bin .add (.sl (.lc 1) .none (.some (.bin .sub (.lc 2) (.kon (.int 1))))) (.ix (.lc 1) (.lc 2))) (.ix (.lc 1) (.bin .sub (.lc 2) (.kon (.int 1))))) (.sl (.lc 1) (.some (.bin .add (.lc 2) (.kon (.int 1)))) .none))) (.seq (.asg 4 (.kon (.int 0))) (.seq (.frl (.nm 5) (.seq (some 3) (.lc 3)) (.seq (.asg 4 (.bin .add (.lc 4) (.ife (.cmp .eq (.lc 5) (.kon (.str [100]))) (.kon (.int 1)) (.neg (.kon (.int 1)))))) (.seq (.ife (.cmp .lt (.lc 4) (.kon (.int 0))) (.seq (.ret (.lc 1)) .nil) .nil) .nil))) (.seq (.ret (.lc 3)) .nil)))))⟩
abbrev bNear : Sm := .seq (.asg 4 (.bin .add (.lc 4) (.ife (.cmp .eq (.lc 5) (.kon (.str [100]))) (.kon (.int 1)) (.neg (.kon (.int 1)))))) (.seq (.ife (.cmp .lt (.lc 4) (.kon (.int 0))) (.seq (.ret (.lc 1)) .nil) .nil) .nil)
theorem near_loop (C : Ct) {ro : Ro} (h1 : ro 1 = true) (h4 : ro 4 = false) (h5 : ro 5 = false) (s0 s2 : Option O) (w : List Nat) : ∀ (v : List Nat) (h : Int) (x : Option O), ∃ h' x', forF (asg1 ro (.nm 5)) (evS C ro bNear) (v.map fun c => D.str [c]) [s0, some (.val (.str w)), s2, none, some (.val (.int h)), x] =
    if okH h v = true then .nxt [s0, some (.val (.str w)), s2, none, some (.val (.int h')), x'] else .ret (.val (.str w)) [s0, some (.val (.str w)), s2, none, some (.val (.int h')), x']
  | [], h, x => ⟨h, x, rfl⟩
  | c :: r, h, x => by
    have tg : asg1 ro (.nm 5) (.str [c]) [s0, some (.val (.str w)), s2, none, some (.val (.int h)), x] = some [s0, some (.val (.str w)), s2, none, some (.val (.int h)), some (.val (.str [c]))] := by simp [h5]
    obtain ⟨h', x', ih⟩ := near_loop C h1 h4 h5 s0 s2 w r (h + (if c = 100 then 1 else -1)) (some (.val (.str [c])))
    rw [List.map_cons, forF, tg]
    by_cases hc : c = 100
    · subst hc
      by_cases hp : 0 ≤ h + 1
      · refine ⟨h', x', ?_⟩
        have np : ¬ (h + 1 < 0) := by omega
        have st : evS C ro bNear [s0, some (.val (.str w)), s2, none, some (.val (.int h)), some (.val (.str [100]))] = .nxt [s0, some (.val (.str w)), s2, none, some (.val (.int (h + 1))), some (.val (.str [100]))] := by simp [h4, eqD, np]
        simp only [st]
        rw [okH]
        simp only [if_true, hp, decide_true, Bool.true_and] at ih ⊢
        exact ih
      · refine ⟨h + 1, some (.val (.str [100])), ?_⟩
        have np : h + 1 < 0 := by omega
        have st : evS C ro bNear [s0, some (.val (.str w)), s2, none, some (.val (.int h)), some (.val (.str [100]))] = .ret (.val (.str w)) [s0, some (.val (.str w)), s2, none, some (.val (.int (h + 1))), some (.val (.str [100]))] := by simp [h1, h4, eqD, np]
        simp only [st]
        rw [okH]
        simp [hp]
    · by_cases hp : 0 ≤ h + -1
      · refine ⟨h', x', ?_⟩
        have np : ¬ (h + -1 < 0) := by omega
        have st : evS C ro bNear [s0, some (.val (.str w)), s2, none, some (.val (.int h)), some (.val (.str [c]))] = .nxt [s0, some (.val (.str w)), s2, none, some (.val (.int (h + -1))), some (.val (.str [c]))] := by simp [h4, eqD, np, hc]
        simp only [st]
        rw [okH]
        simp only [hc, if_false, hp, decide_true, Bool.true_and] at ih ⊢
        exact ih
      · refine ⟨h + -1, some (.val (.str [c])), ?_⟩
        have np : h + -1 < 0 := by omega
        have st : evS C ro bNear [s0, some (.val (.str w)), s2, none, some (.val (.int h)), some (.val (.str [c]))] = .ret (.val (.str w)) [s0, some (.val (.str w)), s2, none, some (.val (.int (h + -1))), some (.val (.str [c]))] := by simp [h1, h4, eqD, np, hc]
        simp only [st]
        rw [okH]
        simp [hp, hc]
theorem cutL_len (w : List Nat) (lo hi : Option Int) : (cutL w lo hi).length ≤ w.length := by
  unfold cutL
  rw [List.length_take, List.length_drop]
  omega
theorem run_near (C : Ct) (f : Nat) (hd : DrawOk C f) (s : Hst) (w : List Nat) (h2 : 2 ≤ w.length) (hl : w.length ≤ 100) : ∃ (x : Nat) (s' : Hst), x + 1 < w.length ∧ runD C (dNear f) [s.o, .val (.str w)] = .ret (.val (.str (nearV w (1 + x)))) [some s'.o, some (.val (.str w))] := by
  have sl : (1000 : Nat) ≤ sizeLine := by decide
  have b1 : w.length ≤ sizeLine := by omega
  obtain ⟨x, s', x0, x1, e1⟩ := hd.run s ((w.length : Int) - 1) (by omega) (by omega)
  have hm := hd.mo
  have hf := hd.df
  refine ⟨x.toNat, s', by omega, ?_⟩
  have ex : ((x.toNat : Nat) : Int) = x := by omega
  rw [ex]
  obtain ⟨a, ha⟩ : ∃ a, atI w (1 + x - 1) = some a := by
    unfold atI ixN
    rw [if_pos (by omega), if_pos (by omega)]
    exact ⟨_, List.getElem?_eq_getElem (by omega)⟩
  obtain ⟨b, hb⟩ : ∃ b, atI w (1 + x) = some b := by
    unfold atI ixN
    rw [if_pos (by omega), if_pos (by omega)]
    exact ⟨_, List.getElem?_eq_getElem (by omega)⟩
  have l1 := cutL_len w none (some (1 + x - 1))
  have l2 := cutL_len w (some (1 + x + 1)) none
  unfold nearV
  rw [ha, hb]
  simp only
  by_cases hab : a = b
  · subst hab
    simp [runD, dNear, apF, given, lendA, backA, hm, hf, e1, b1, ha, hb, eqD]
  · generalize e3 : cutL w none (some (1 + x - 1)) = p at *
    generalize e4 : cutL w (some (1 + x + 1)) none = q at *
    obtain ⟨h', x', lp⟩ := near_loop C (ro := roL (dNear f).ro (some 3)) rfl rfl rfl (some s'.o) (some (.val (.int (1 + x)))) w (p ++ [b] ++ [a] ++ q) 0 none
    rw [if_neg hab]
    have pre : ∀ {y : S}, evS C (dNear f).ro (.seq (.frl (.nm 5) (.seq (some 3) (.lc 3)) bNear) (.seq (.ret (.lc 3)) .nil)) [some s'.o, some (.val (.str w)), some (.val (.int (1 + x))), some (.val (.str (p ++ [b] ++ [a] ++ q))), some (.val (.int 0)), none] = y → evS C (dNear f).ro (dNear f).body [some s.o, some (.val (.str w)), none, none, none, none] = y := fun {y} hy => by
      refine seq_nxt (z1 := [some s'.o, some (.val (.str w)), some (.val (.int (1 + x))), none, none, none]) ?_ (seq_nxt (z1 := [some s'.o, some (.val (.str w)), some (.val (.int (1 + x))), none, none, none]) ?_ (seq_nxt (z1 := [some s'.o, some (.val (.str w)), some (.val (.int (1 + x))), some (.val (.str (p ++ [b] ++ [a] ++ q))), none, none]) ?_ (seq_nxt (z1 := [some s'.o, some (.val (.str w)), some (.val (.int (1 + x))), some (.val (.str (p ++ [b] ++ [a] ++ q))), some (.val (.int 0)), none]) rfl hy)))
      · simp [dNear, apF, given, lendA, backA, hm, hf, e1, b1]
      · simp [b1, ha, hb, eqD, hab]
      · have b2 : p.length + 1 ≤ sizeLine := by omega
        have b3 : p.length + 1 + 1 ≤ sizeLine := by omega
        have b4 : p.length + (q.length + 1 + 1) ≤ sizeLine := by omega
        have b5 : p.length + 1 + 1 + q.length ≤ sizeLine := by omega
        simp [dNear, slO, b1, ha, hb, e3, e4, b2, b3, b4, b5]
    have it : evI C (.seq (some 3) (.lc 3)) [some s'.o, some (.val (.str w)), some (.val (.int (1 + x))), some (.val (.str (p ++ [b] ++ [a] ++ q))), some (.val (.int 0)), none] = .ok ((p ++ [b] ++ [a] ++ q).map fun c => D.str [c], some (3, .val (.str (p ++ [b] ++ [a] ++ q)))) [some s'.o, some (.val (.str w)), some (.val (.int (1 + x))), none, some (.val (.int 0)), none] := rfl
    generalize p ++ [b] ++ [a] ++ q = v at *
    by_cases hok : okH 0 v = true
    · rw [if_pos hok] at lp ⊢
      refine runD_ret (z := [some s'.o, some (.val (.str w)), some (.val (.int (1 + x))), none, some (.val (.int h')), x']) rfl (pre (seq_nxt (z1 := [some s'.o, some (.val (.str w)), some (.val (.int (1 + x))), some (.val (.str v)), some (.val (.int h')), x']) ((frl_ok it).trans ?_) (seq_ret rfl))) rfl
      show S.back (some (3, O.val (.str v))) (forF (asg1 (roL (dNear f).ro (some 3)) (.nm 5)) (evS C (roL (dNear f).ro (some 3)) bNear) _ _) = _
      rw [lp]
      rfl
    · rw [if_neg hok] at lp ⊢
      refine runD_ret (z := [some s'.o, some (.val (.str w)), some (.val (.int (1 + x))), some (.val (.str v)), some (.val (.int h')), x']) rfl (pre (seq_ret ((frl_ok it).trans ?_))) rfl
      show S.back (some (3, O.val (.str v))) (forF (asg1 (roL (dNear f).ro (some 3)) (.nm 5)) (evS C (roL (dNear f).ro (some 3)) bNear) _ _) = _
      rw [lp]
      rfl
/-- the words of one size are closed under this -/
def nearOk (n : Nat) : Bool := (Wn n).all fun w => (List.range (2 * n - 1)).all fun x => (Wn n).contains (nearV w (1 + x))
theorem near_ok : ∀ n, n ≤ 6 → nearOk n = true := by decide +kernel
theorem near_mem {n : Nat} (h6 : n ≤ 6) {w : List Nat} (hw : w ∈ Wn n) {x : Nat} (hx : x + 1 < 2 * n) : nearV w (1 + x) ∈ Wn n := by
  have := near_ok n h6
  unfold nearOk at this
  rw [List.all_eq_true] at this
  have := List.all_eq_true.mp (this w hw) x (List.mem_range.mpr (by omega))
  simpa using this
theorem gw_len : ∀ {k d h : Nat} {w : List Nat}, w ∈ gw k d h → w.length = k
  | 0, _, _, w, m => by
    unfold gw at m
    rw [List.mem_singleton.mp m]; rfl
  | k + 1, d, h, w, m => by
    unfold gw at m
    rcases List.mem_append.mp m with m | m
    · split at m
      · cases m
      · obtain ⟨v, hv, rfl⟩ := List.mem_map.mp m
        rw [List.length_cons, gw_len hv]
    · split at m
      · cases m
      · obtain ⟨v, hv, rfl⟩ := List.mem_map.mp m
        rw [List.length_cons, gw_len hv]
theorem Wn_len {n : Nat} {w : List Nat} (m : w ∈ Wn n) : w.length = 2 * n := gw_len m
end Z
end

section
set_option maxRecDepth 100007
set_option maxHeartbeats 4000007
/-! A column's heights and places. -/
namespace Z
open PySem L2 PyProof.Rows
def stp (c : Nat) : Int := if c = 100 then 1 else -1
def hgt : Int → List Nat → List Int
  | _, [] => []
  | h, c :: r => (h + stp c) :: hgt (h + stp c) r
def hts (w : List Nat) : List Int := 0 :: hgt 0 w
def plc : Int → Int → List Nat → List (Int × Int)
  | _, _, [] => []
  | x, y, c :: r => (if c = 100 then (x, y - 1) else (x + 1, y)) :: plc (if c = 100 then x else x + 1) (if c = 100 then y - 1 else y) r
def pt (p : Int × Int) : D := .tup [.int p.1, .int p.2]
def plcs (n : Int) (w : List Nat) : List (Int × Int) := (0, n) :: plc 0 n w
theorem hgt_len : ∀ (h : Int) (w : List Nat), (hgt h w).length = w.length
  | _, [] => rfl
  | h, c :: r => by rw [hgt, List.length_cons, List.length_cons, hgt_len]
theorem plc_len : ∀ (x y : Int) (w : List Nat), (plc x y w).length = w.length
  | _, _, [] => rfl
  | x, y, c :: r => by rw [plc, List.length_cons, List.length_cons, plc_len]
def dHts (nw : Nat) : Df := ⟨1, 3, [true], [], .seq (.asg 1 (.lst (.cons (.kon (.int 0)) .nil))) (.seq (.frl (.nm 2) (.seq none (.attr (.lc 0) nw)) (.seq (.app 1 (.ife (.cmp .eq (.lc 2) (.kon (.str [100]))) (.bin .add (.ix (.lc 1) (.neg (.kon (.int 1)))) (.kon (.int 1))) (.bin .sub (.ix (.lc 1) (.neg (.kon (.int 1)))) (.kon (.int 1))))) .nil)) (.seq (.ret (.bi .tuple (.cons (.lc 1) .nil))) .nil))⟩
abbrev bHts : Sm := .seq (.app 1 (.ife (.cmp .eq (.lc 2) (.kon (.str [100]))) (.bin .add (.ix (.lc 1) (.neg (.kon (.int 1)))) (.kon (.int 1))) (.bin .sub (.ix (.lc 1) (.neg (.kon (.int 1)))) (.kon (.int 1))))) .nil
theorem at_last {xs : List D} {d : D} : atI (xs ++ [d]) (-1) = some d := by
  unfold atI ixN
  rw [if_neg (by decide), List.length_append, List.length_singleton, if_pos (by omega)]
  have e : ((-1 : Int) + ((xs.length + 1 : Nat) : Int)).toNat = xs.length := by omega
  rw [Option.bind_some, e]
  simp
theorem hts_loop (C : Ct) {ro : Ro} (h2 : ro 2 = false) (s0 : Option O) : ∀ (w : List Nat) (acc : List D) (h : Int) (x : Option O), acc.length + w.length ≤ 100000 → ∃ x', forF (asg1 ro (.nm 2)) (evS C ro bHts) (w.map fun c => D.str [c]) [s0, some (.lst (acc ++ [.int h])), x] =
    .nxt [s0, some (.lst (acc ++ [.int h] ++ (hgt h w).map D.int)), x']
  | [], acc, h, x, _ => ⟨x, by rw [hgt, List.map_nil, List.map_nil, List.append_nil]; rfl⟩
  | c :: r, acc, h, x, hl => by
    have sl := sl_100000
    rw [List.length_cons] at hl
    have b1 : acc.length + 1 < sizeLine := by omega
    obtain ⟨x', ih⟩ := hts_loop C h2 s0 r (acc ++ [.int h]) (h + stp c) (some (.val (.str [c]))) (by rw [List.length_append, List.length_singleton]; omega)
    refine ⟨x', ?_⟩
    have tg : asg1 ro (.nm 2) (.str [c]) [s0, some (.lst (acc ++ [.int h])), x] = some [s0, some (.lst (acc ++ [.int h])), some (.val (.str [c]))] := by simp [h2]
    have st : evS C ro bHts [s0, some (.lst (acc ++ [.int h])), some (.val (.str [c]))] = .nxt [s0, some (.lst (acc ++ [.int h] ++ [.int (h + stp c)])), some (.val (.str [c]))] := by
      have al : atI (acc ++ [D.int h]) (-1) = some (.int h) := at_last
      by_cases hc : c = 100
      · subst hc; simp [eqD, al, b1, stp, -List.append_assoc]
      · simp [eqD, al, b1, stp, hc, Int.sub_eq_add_neg, -List.append_assoc]
    rw [List.map_cons, forF, tg]
    simp only [st]
    rw [ih, hgt, List.map_cons]
    simp
theorem run_hts (C : Ct) {nw c : Nat} {fs : List (Nat × D)} {w : List Nat} {o : O} (ho : o = .obj c fs ∨ o = .val (.obj c fs)) (hp : C.prop c nw = none) (hf : (C.flds c).contains nw = true) (hl : lookN nw fs = some (.str w)) (hw : w.length ≤ 1000) : runD C (dHts nw) [o] = .ret (.val (.tup ((hts w).map D.int))) [some o] := by
  obtain ⟨x', lp⟩ := hts_loop C (ro := (dHts nw).ro) rfl (some o) w [] 0 none (by simp; omega)
  have it : evI C (.seq none (.attr (.lc 0) nw)) [some o, some (.lst [.int 0]), none] = .ok (w.map fun c => D.str [c], none) [some o, some (.lst [.int 0]), none] := by
    rcases ho with rfl | rfl <;> simp [hp, hf, hl, clm, itemsD, -lookN, -List.contains_eq_mem]
  have sl := sl_100000
  refine runD_ret (z := [some o, some (.lst ((hts w).map D.int)), x']) rfl (seq_nxt (z1 := [some o, some (.lst [.int 0]), none]) rfl (seq_nxt (z1 := [some o, some (.lst ((hts w).map D.int)), x']) ((frl_ok it).trans ?_) (seq_ret ?_))) rfl
  · show S.back none (forF (asg1 (dHts nw).ro (.nm 2)) (evS C (dHts nw).ro bHts) _ _) = _
    rw [show ([some o, some (.lst [.int 0]), none] : Zs) = [some o, some (.lst ([] ++ [.int 0])), none] from rfl, lp]
    rfl
  · generalize (hts w).map D.int = l
    simp
def dPlc (nw ns : Nat) : Df := ⟨1, 5, [true], [], .seq (.par [1, 2] (.cons (.kon (.int 0)) (.cons (.attr (.lc 0) ns) .nil))) (.seq (.asg 3 (.lst (.cons (.tup (.cons (.lc 1) (.cons (.lc 2) .nil))) .nil))) (.seq (.frl (.nm 4) (.seq none (.attr (.lc 0) nw)) (.seq (.ife (.cmp .eq (.lc 4) (.kon (.str [100]))) (.seq (.asg 2 (.bin .sub (.lc 2) (.kon (.int 1)))) .nil) (.seq (.asg 1 (.bin .add (.lc 1) (.kon (.int 1)))) .nil)) (.seq (.app 3 (.tup (.cons (.lc 1) (.cons (.lc 2) .nil)))) .nil))) (.seq (.ret (.bi .tuple (.cons (.lc 3) .nil))) .nil)))⟩
abbrev bPlc : Sm := .seq (.ife (.cmp .eq (.lc 4) (.kon (.str [100]))) (.seq (.asg 2 (.bin .sub (.lc 2) (.kon (.int 1)))) .nil) (.seq (.asg 1 (.bin .add (.lc 1) (.kon (.int 1)))) .nil)) (.seq (.app 3 (.tup (.cons (.lc 1) (.cons (.lc 2) .nil)))) .nil)
theorem plc_loop (C : Ct) {ro : Ro} (h1 : ro 1 = false) (h2 : ro 2 = false) (h4 : ro 4 = false) (s0 : Option O) : ∀ (w : List Nat) (acc : List D) (x y : Int) (q : Option O), acc.length + w.length ≤ 100000 → ∃ x' y' q', forF (asg1 ro (.nm 4)) (evS C ro bPlc) (w.map fun c => D.str [c]) [s0, some (.val (.int x)), some (.val (.int y)), some (.lst acc), q] =
    .nxt [s0, some (.val (.int x')), some (.val (.int y')), some (.lst (acc ++ (plc x y w).map pt)), q']
  | [], acc, x, y, q, _ => ⟨x, y, q, by rw [plc, List.map_nil, List.map_nil, List.append_nil]; rfl⟩
  | c :: r, acc, x, y, q, hl => by
    have sl := sl_100000
    rw [List.length_cons] at hl
    have b1 : acc.length < sizeLine := by omega
    have b2 : 2 ≤ sizeLine := by omega
    have tg : asg1 ro (.nm 4) (.str [c]) [s0, some (.val (.int x)), some (.val (.int y)), some (.lst acc), q] = some [s0, some (.val (.int x)), some (.val (.int y)), some (.lst acc), some (.val (.str [c]))] := by simp [h4]
    rw [List.map_cons, forF, tg]
    by_cases hc : c = 100
    · subst hc
      obtain ⟨x', y', q', ih⟩ := plc_loop C h1 h2 h4 s0 r (acc ++ [pt (x, y - 1)]) x (y - 1) (some (.val (.str [100]))) (by rw [List.length_append, List.length_singleton]; omega)
      refine ⟨x', y', q', ?_⟩
      have st : evS C ro bPlc [s0, some (.val (.int x)), some (.val (.int y)), some (.lst acc), some (.val (.str [100]))] = .nxt [s0, some (.val (.int x)), some (.val (.int (y - 1))), some (.lst (acc ++ [pt (x, y - 1)])), some (.val (.str [100]))] := by
        simp [eqD, b1, b2, h2, pt]
      simp only [st]
      rw [ih, plc, List.map_cons]
      simp
    · obtain ⟨x', y', q', ih⟩ := plc_loop C h1 h2 h4 s0 r (acc ++ [pt (x + 1, y)]) (x + 1) y (some (.val (.str [c]))) (by rw [List.length_append, List.length_singleton]; omega)
      refine ⟨x', y', q', ?_⟩
      have st : evS C ro bPlc [s0, some (.val (.int x)), some (.val (.int y)), some (.lst acc), some (.val (.str [c]))] = .nxt [s0, some (.val (.int (x + 1))), some (.val (.int y)), some (.lst (acc ++ [pt (x + 1, y)])), some (.val (.str [c]))] := by
        simp [eqD, b1, b2, h1, pt, hc]
      simp only [st]
      rw [ih, plc, List.map_cons]
      simp [hc]
theorem run_plc (C : Ct) {nw ns c : Nat} {fs : List (Nat × D)} {w : List Nat} {n : Int} {o : O} (ho : o = .obj c fs ∨ o = .val (.obj c fs)) (hp : C.prop c nw = none) (hf : (C.flds c).contains nw = true) (hl : lookN nw fs = some (.str w)) (hp2 : C.prop c ns = none) (hf2 : (C.flds c).contains ns = true) (hl2 : lookN ns fs = some (.int n)) (hw : w.length ≤ 1000) : runD C (dPlc nw ns) [o] = .ret (.val (.tup ((plcs n w).map pt))) [some o] := by
  have sl := sl_100000
  have b2 : 2 ≤ sizeLine := by omega
  obtain ⟨x', y', q', lp⟩ := plc_loop C (ro := (dPlc nw ns).ro) rfl rfl rfl (some o) w [pt (0, n)] 0 n none (by simp; omega)
  have it : evI C (.seq none (.attr (.lc 0) nw)) [some o, some (.val (.int 0)), some (.val (.int n)), some (.lst [pt (0, n)]), none] = .ok (w.map fun c => D.str [c], none) [some o, some (.val (.int 0)), some (.val (.int n)), some (.lst [pt (0, n)]), none] := by
    rcases ho with rfl | rfl <;> simp [hp, hf, hl, clm, itemsD, -lookN, -List.contains_eq_mem]
  refine runD_ret (z := [some o, some (.val (.int x')), some (.val (.int y')), some (.lst ((plcs n w).map pt)), q']) rfl (seq_nxt (z1 := [some o, some (.val (.int 0)), some (.val (.int n)), none, none]) ?_ (seq_nxt (z1 := [some o, some (.val (.int 0)), some (.val (.int n)), some (.lst [pt (0, n)]), none]) ?_ (seq_nxt (z1 := [some o, some (.val (.int x')), some (.val (.int y')), some (.lst ((plcs n w).map pt)), q']) ((frl_ok it).trans ?_) (seq_ret ?_)))) rfl
  · rcases ho with rfl | rfl <;> simp [dPlc, exPar, takeM, lendA, setsS, hp2, hf2, hl2, -lookN, -List.contains_eq_mem]
  · simp [dPlc, b2, show 1 ≤ sizeLine by omega, pt]
  · show S.back none (forF (asg1 (dPlc nw ns).ro (.nm 4)) (evS C (dPlc nw ns).ro bPlc) _ _) = _
    rw [lp]
    rfl
  · generalize (plcs n w).map pt = l
    simp
end Z
end

section
set_option maxRecDepth 100007
/-! A program's table with what is known of some calls put in at all depths; ends of defs. -/
namespace Z
open PySem L2 PyProof.Rows
def tyC : Ty → Nat
  | .int => 0 | .bl => 1 | .str => 2 | .non => 3 | .tup => 4 | .lst => 5 | .dct => 6 | .own c => 7 + c
theorem tyC_inj {t u : Ty} (h : tyC t = tyC u) : t = u := by
  cases t <;> cases u <;> simp only [tyC] at h <;> first | rfl | omega | (congr 1; omega)
/-- what isinstance answers, by numbers -/
def isiC (l : List ((Ty × Ty) × Bool)) (t u : Ty) : Option Bool := match l with
  | [] => none
  | q :: l => match tyC q.1.1 == tyC t with
    | true => (match tyC q.1.2 == tyC u with
      | true => some q.2
      | false => isiC l t u)
    | false => isiC l t u
theorem isiC_eq (t u : Ty) : ∀ l : List ((Ty × Ty) × Bool), isiC l t u = l.lookup (t, u)
  | [] => rfl
  | ((a, b), c) :: l => by
    rw [List.lookup_cons, isiC]
    simp only
    by_cases h1 : a = t
    · by_cases h2 : b = u
      · subst h1 h2; simp
      · have n2 : (tyC b == tyC u) = false := by simp; exact fun h => h2 (tyC_inj h)
        have n3 : ((t, u) == (a, b)) = false := by simp; exact fun _ h => h2 h.symm
        subst h1
        simp only [beq_self_eq_true, n2, n3]
        exact isiC_eq _ _ l
    · have n2 : (tyC a == tyC t) = false := by simp; exact fun h => h1 (tyC_inj h)
      have n3 : ((t, u) == (a, b)) = false := by simp; exact fun h => (h1 h.symm).elim
      simp only [n2, n3]
      exact isiC_eq t u l
def ctM (p : Pr) (b : Nat) (g : Nat → List O → Option RR) : Nat → Ct
  | 0 => p.ct b
  | n + 1 => { p.ct (b + n + 1) with isi := isiC p.isi, gen := (fun y => (p.gens[y]?).map fun d => runG (ctM p b g n) d), run := fun f os => match g f os with
    | some r => r
    | none => match p.defs[f]? with
      | some d => runD (ctM p b g n) d os
      | none => .bad }
theorem ctM_eq {p : Pr} {b : Nat} {g : Nat → List O → Option RR} (h : ∀ n f os r, g f os = some r → (p.ct (b + n + 1)).run f os = r) : ∀ n, ctM p b g n = p.ct (b + n)
  | 0 => rfl
  | n + 1 => by
    have e : (fun f os => match g f os with
      | some r => r
      | none => match p.defs[f]? with
        | some d => runD (ctM p b g n) d os
        | none => RR.bad) = (p.ct (b + n + 1)).run := by
      funext f os
      cases e : g f os with
      | none => simp only; rw [ctM_eq h n]; rfl
      | some r => exact (h n f os r e).symm
    have e2 : isiC p.isi = (p.ct (b + n + 1)).isi := by
      funext t u
      exact isiC_eq t u p.isi
    have e3 : (fun y => (p.gens[y]?).map fun d => runG (ctM p b g n) d) = (p.ct (b + n + 1)).gen := by
      rw [ctM_eq h n]; rfl
    show ({ p.ct (b + n + 1) with isi := isiC p.isi, gen := (fun y => (p.gens[y]?).map fun d => runG (ctM p b g n) d), run := (fun f os => match g f os with
      | some r => r
      | none => match p.defs[f]? with
        | some d => runD (ctM p b g n) d os
        | none => RR.bad) } : Ct) = p.ct (b + n + 1)
    rw [e, e2, e3]
/-- how a def ends -/
def fin (ms : List Bool) : S → RR
  | .nxt z => match outsOf ms 0 z with
    | some outs => .ret (.val .non) outs
    | none => .bad
  | .ret o z => match outsOf ms 0 z with
    | some outs => .ret o outs
    | none => .bad
  | .exc c fs z => match outsOf ms 0 z with
    | some outs => .exc c fs outs
    | none => .bad
  | _ => .bad
theorem runD_fin {C : Ct} {d : Df} {os : List O} (h : os.length = d.np) : runD C d os = fin d.modes (evS C d.ro d.body (os.map some ++ List.replicate (d.ns - d.np) none)) := by
  unfold runD
  rw [if_pos h]
  generalize evS C d.ro d.body (os.map some ++ List.replicate (d.ns - d.np) none) = x
  cases x <;> rfl
theorem all_eq {α β : Type} {l : List α} {f g : α → β} (h : l.map f = l.map g) : ∀ a ∈ l, f a = g a := List.map_inj_left.mp h
end Z
end

section
set_option maxRecDepth 100007
set_option maxHeartbeats 0
namespace K04
open PySem PySem.Spec PyProof.Rows L2 Z
abbrev prog : Program := PySem.Challenge.pw_slitstairs_k04_whole_all_columns_counted
def top (i : Nat) : Stmt := prog.main.body.getD i (.Pass ⟨0, 0, 0, 0⟩)
def inn (i j : Nat) : Stmt := match top i with
  | .ClassDef _ _ _ b _ _ _ _ _ _ _ => b.getD j (.Pass ⟨0, 0, 0, 0⟩)
  | _ => .Pass ⟨0, 0, 0, 0⟩
/-- _wall -/
def d0 : Df := ⟨1, 1, [true], [], .seq (.whl (.kon (.bl true)) (.seq .pass .nil)) .nil⟩
def z0 : DefZ := { pl := .glo "_wall", name := "_wall", qual := "_wall", st := top 0 }
/-- is_whole -/
def d1 : Df := ⟨3, 3, [true, true, true], [], .seq (.ret (.and (.cons (.isi (.lc 0) .int) (.cons (.not (.isi (.lc 0) .bl)) (.cons (.chn .le .le (.lc 1) (.lc 0) (.lc 2)) .nil))))) .nil⟩
def z1 : DefZ := { pl := .glo "is_whole", name := "is_whole", qual := "is_whole", st := top 9 }
/-- word_fault -/
def d2 : Df := ⟨1, 3, [true], [], .seq (.ife (.or (.cons (.not (.isi (.lc 0) .str)) (.cons (.not (.chn .le .le (.kon (.int 2)) (.bi .len (.cons (.lc 0) .nil)) (.bin .mul (.kon (.int 2)) (.gk 0)))) .nil))) (.seq (.ret (.kon (.str [119, 111, 114, 100]))) .nil) .nil) (.seq (.ife (.comp [1] (.nm 1) (.seq (some 0) (.lc 0)) (.some (.and (.cons (.cmp .ne (.lc 1) (.kon (.str [100]))) (.cons (.cmp .ne (.lc 1) (.kon (.str [111]))) .nil)))) (.lc 1)) (.seq (.ret (.kon (.str [119, 111, 114, 100]))) .nil) .nil) (.seq (.ife (.cmp .ne (.ms .count (.lc 0) (.cons (.kon (.str [100])) .nil)) (.ms .count (.lc 0) (.cons (.kon (.str [111])) .nil))) (.seq (.ret (.kon (.str [99, 111, 117, 110, 116]))) .nil) .nil) (.seq (.asg 2 (.kon (.int 0))) (.seq (.frl (.nm 1) (.seq (some 0) (.lc 0)) (.seq (.aug .add 2 (.ife (.cmp .eq (.lc 1) (.kon (.str [100]))) (.kon (.int 1)) (.neg (.kon (.int 1))))) (.seq (.ife (.cmp .lt (.lc 2) (.kon (.int 0))) (.seq (.ret (.kon (.str [98, 101, 108, 111, 119]))) .nil) .nil) .nil))) (.seq (.ret (.kon .non)) .nil)))))⟩
def z2 : DefZ := { pl := .glo "word_fault", name := "word_fault", qual := "word_fault", st := top 10 }
/-- Column.__init__ -/
def d3 : Df := ⟨2, 3, [true, true], [], .seq (.asg 2 (.call 2 (.cons (.lc 1) .nil))) (.seq (.ife (.cmp .isnot (.lc 2) (.kon .non)) (.seq (.rais 4 (.cons (.lc 2) .nil)) .nil) .nil) (.seq (.setFld 0 1 (.lc 1)) (.seq (.setFld 0 0 (.bin .fdiv (.bi .len (.cons (.lc 1) .nil)) (.kon (.int 2)))) .nil)))⟩
def z3 : DefZ := { pl := .meth "Column" "__init__", name := "__init__", qual := "Column.__init__", st := inn 11 0 }
/-- Column.heights -/
def d4 : Df := ⟨1, 3, [true], [], .seq (.asg 1 (.lst (.cons (.kon (.int 0)) .nil))) (.seq (.frl (.nm 2) (.seq none (.attr (.lc 0) 1)) (.seq (.app 1 (.ife (.cmp .eq (.lc 2) (.kon (.str [100]))) (.bin .add (.ix (.lc 1) (.neg (.kon (.int 1)))) (.kon (.int 1))) (.bin .sub (.ix (.lc 1) (.neg (.kon (.int 1)))) (.kon (.int 1))))) .nil)) (.seq (.ret (.bi .tuple (.cons (.lc 1) .nil))) .nil))⟩
def z4 : DefZ := { pl := .prop "Column" "heights", name := "heights", qual := "Column.heights", st := inn 11 1 }
/-- Column.places -/
def d5 : Df := ⟨1, 1, [true], [], .seq (.drop (.call 0 (.cons (.kon (.int 0)) .nil))) .nil⟩
def z5 : DefZ := { pl := .prop "Column" "places", name := "places", qual := "Column.places", st := inn 11 2 }
/-- Column.runs -/
def d6 : Df := ⟨1, 1, [true], [], .seq (.drop (.call 0 (.cons (.kon (.int 1)) .nil))) .nil⟩
def z6 : DefZ := { pl := .prop "Column" "runs", name := "runs", qual := "Column.runs", st := inn 11 3 }
/-- Column.creases -/
def d7 : Df := ⟨1, 1, [true], [], .seq (.drop (.call 0 (.cons (.kon (.int 2)) .nil))) .nil⟩
def z7 : DefZ := { pl := .prop "Column" "creases", name := "creases", qual := "Column.creases", st := inn 11 4 }
/-- Column.hollows -/
def d8 : Df := ⟨1, 1, [true], [], .seq (.drop (.call 0 (.cons (.kon (.int 3)) .nil))) .nil⟩
def z8 : DefZ := { pl := .prop "Column" "hollows", name := "hollows", qual := "Column.hollows", st := inn 11 5 }
/-- Column.ridges -/
def d9 : Df := ⟨1, 1, [true], [], .seq (.drop (.call 0 (.cons (.kon (.int 4)) .nil))) .nil⟩
def z9 : DefZ := { pl := .prop "Column" "ridges", name := "ridges", qual := "Column.ridges", st := inn 11 6 }
/-- Column.many -/
def d10 : Df := ⟨3, 3, [true, true, true], [], .seq (.ife (.not (.call 1 (.cons (.lc 2) (.cons (.kon (.int 0)) (.cons (.bi .len (.cons (.attr (.lc 0) 1) .nil)) .nil))))) (.seq (.rais 5 (.cons (.lc 2) .nil)) .nil) .nil) (.seq (.ret (.ms .count (.sl (.attr (.lc 0) 1) .none (.some (.lc 2))) (.cons (.lc 1) .nil))) .nil)⟩
def z10 : DefZ := { pl := .meth "Column" "many", name := "many", qual := "Column.many", st := inn 11 7 }
/-- Column.place -/
def d11 : Df := ⟨2, 2, [true, true], [], .seq (.drop (.call 0 (.cons (.kon (.int 5)) .nil))) .nil⟩
def z11 : DefZ := { pl := .meth "Column" "place", name := "place", qual := "Column.place", st := inn 11 8 }
/-- Column.height -/
def d12 : Df := ⟨2, 2, [true, true], [], .seq (.ife (.not (.call 1 (.cons (.lc 1) (.cons (.kon (.int 0)) (.cons (.bi .len (.cons (.attr (.lc 0) 1) .nil)) .nil))))) (.seq (.rais 5 (.cons (.lc 1) .nil)) .nil) .nil) (.seq (.ret (.ix (.attr (.lc 0) 2) (.lc 1))) .nil)⟩
def z12 : DefZ := { pl := .meth "Column" "height", name := "height", qual := "Column.height", st := inn 11 9 }
/-- Column.mirrored -/
def d13 : Df := ⟨1, 1, [true], [], .seq (.drop (.call 0 (.cons (.kon (.int 6)) .nil))) .nil⟩
def z13 : DefZ := { pl := .meth "Column" "mirrored", name := "mirrored", qual := "Column.mirrored", st := inn 11 10 }
/-- Column.of_heights -/
def d14 : Df := ⟨1, 1, [true], [], .seq (.drop (.call 0 (.cons (.kon (.int 7)) .nil))) .nil⟩
def z14 : DefZ := { pl := .smeth "Column" "of_heights", name := "of_heights", qual := "Column.of_heights", st := inn 11 11 }
/-- Column.__eq__ -/
def d15 : Df := ⟨2, 2, [true, true], [], .seq (.ret (.and (.cons (.isi (.lc 1) (.own 0)) (.cons (.cmp .eq (.attr (.lc 0) 1) (.attr (.lc 1) 1)) .nil)))) .nil⟩
def z15 : DefZ := { pl := .meth "Column" "__eq__", name := "__eq__", qual := "Column.__eq__", st := inn 11 12 }
/-- Column.__str__ -/
def d16 : Df := ⟨1, 1, [true], [], .seq (.ret (.bi .str (.cons (.attr (.lc 0) 1) .nil))) .nil⟩
def z16 : DefZ := { pl := .meth "Column" "__str__", name := "__str__", qual := "Column.__str__", st := inn 11 13 }
/-- Column.__len__ -/
def d17 : Df := ⟨1, 1, [true], [], .seq (.ret (.bi .len (.cons (.attr (.lc 0) 1) .nil))) .nil⟩
def z17 : DefZ := { pl := .meth "Column" "__len__", name := "__len__", qual := "Column.__len__", st := inn 11 14 }
/-- Column.__iter__ -/
def d18 : Df := ⟨1, 1, [true], [], .seq .stop .nil⟩
def z18 : DefZ := { pl := .meth "Column" "__iter__", name := "__iter__", qual := "Column.__iter__", st := inn 11 15 }
/-- check_size -/
def d19 : Df := ⟨1, 1, [true], [], .seq (.ife (.not (.call 1 (.cons (.lc 0) (.cons (.kon (.int 1)) (.cons (.gk 0) .nil))))) (.seq (.rais 3 (.cons (.lc 0) .nil)) .nil) .nil) .nil⟩
def z19 : DefZ := { pl := .glo "check_size", name := "check_size", qual := "check_size", st := top 13 }
/-- rests_of -/
def d20 : Df := ⟨1, 6, [true], [], .seq (.asg 1 (.lst (.cons (.bin .add (.lst (.cons (.kon (.int 1)) .nil)) (.bin .mul (.lst (.cons (.kon (.int 0)) .nil)) (.bin .add (.bin .mul (.kon (.int 2)) (.lc 0)) (.kon (.int 1))))) .nil))) (.seq (.frl (.nm 2) (.rng (.cons (.kon (.int 1)) (.cons (.bin .add (.bin .mul (.kon (.int 2)) (.lc 0)) (.kon (.int 1))) .nil))) (.seq (.asg 3 (.ix (.lc 1) (.neg (.kon (.int 1))))) (.seq (.asg 4 (.lst .nil)) (.seq (.frl (.nm 5) (.rng (.cons (.bin .add (.bin .mul (.kon (.int 2)) (.lc 0)) (.kon (.int 1))) .nil)) (.seq (.app 4 (.bin .add (.ix (.lc 3) (.bin .add (.lc 5) (.kon (.int 1)))) (.ife (.cmp .gt (.lc 5) (.kon (.int 0))) (.ix (.lc 3) (.bin .sub (.lc 5) (.kon (.int 1)))) (.kon (.int 0))))) .nil)) (.seq (.app 1 (.bin .add (.lc 4) (.lst (.cons (.kon (.int 0)) .nil)))) .nil))))) (.seq (.ret (.lc 1)) .nil))⟩
def z20 : DefZ := { pl := .glo "rests_of", name := "rests_of", qual := "rests_of", st := top 14 }
/-- how_many_columns -/
def d21 : Df := ⟨1, 1, [true], [], .seq (.drop (.call 19 (.cons (.lc 0) .nil))) (.seq (.ret (.ix (.ix (.call 20 (.cons (.lc 0) .nil)) (.bin .mul (.kon (.int 2)) (.lc 0))) (.kon (.int 0)))) .nil)⟩
def z21 : DefZ := { pl := .glo "how_many_columns", name := "how_many_columns", qual := "how_many_columns", st := top 16 }
/-- column_index -/
def d22 : Df := ⟨1, 6, [true], [], .seq (.asg 1 (.call 20 (.cons (.attr (.lc 0) 0) .nil))) (.seq (.asg 2 (.attr (.lc 0) 2)) (.seq (.asg 3 (.kon (.int 0))) (.seq (.frl (.tp (.cons (.nm 4) (.cons (.nm 5) .nil))) (.enum none (.attr (.lc 0) 1)) (.seq (.ife (.cmp .eq (.lc 5) (.kon (.str [111]))) (.seq (.aug .add 3 (.ix (.ix (.lc 1) (.bin .sub (.bin .sub (.bi .len (.cons (.attr (.lc 0) 1) .nil)) (.lc 4)) (.kon (.int 1)))) (.bin .add (.ix (.lc 2) (.lc 4)) (.kon (.int 1))))) .nil) .nil) .nil)) (.seq (.ret (.lc 3)) .nil))))⟩
def z22 : DefZ := { pl := .glo "column_index", name := "column_index", qual := "column_index", st := top 17 }
/-- column_at -/
def d23 : Df := ⟨2, 8, [true, true], [], .seq (.drop (.call 19 (.cons (.lc 0) .nil))) (.seq (.asg 2 (.call 20 (.cons (.lc 0) .nil))) (.seq (.ife (.not (.call 1 (.cons (.lc 1) (.cons (.kon (.int 0)) (.cons (.bin .sub (.ix (.ix (.lc 2) (.bin .mul (.kon (.int 2)) (.lc 0))) (.kon (.int 0))) (.kon (.int 1))) .nil))))) (.seq (.rais 2 (.cons (.lc 1) .nil)) .nil) .nil) (.seq (.asg 3 (.kon (.str []))) (.seq (.asg 4 (.kon (.int 0))) (.seq (.asg 5 (.lc 1)) (.seq (.frl (.nm 6) (.rng (.cons (.bin .mul (.kon (.int 2)) (.lc 0)) .nil)) (.seq (.asg 7 (.ix (.ix (.lc 2) (.bin .sub (.bin .sub (.bin .mul (.kon (.int 2)) (.lc 0)) (.lc 6)) (.kon (.int 1)))) (.bin .add (.lc 4) (.kon (.int 1))))) (.seq (.ife (.cmp .lt (.lc 5) (.lc 7)) (.seq (.asg 3 (.bin .add (.lc 3) (.kon (.str [100])))) (.seq (.asg 4 (.bin .add (.lc 4) (.kon (.int 1)))) .nil)) (.seq (.asg 5 (.bin .sub (.lc 5) (.lc 7))) (.seq (.asg 3 (.bin .add (.lc 3) (.kon (.str [111])))) (.seq (.asg 4 (.bin .sub (.lc 4) (.kon (.int 1)))) .nil)))) .nil))) (.seq (.ret (.mk 0 (.cons (.lc 3) .nil))) .nil)))))))⟩
def z23 : DefZ := { pl := .glo "column_at", name := "column_at", qual := "column_at", st := top 18 }
/-- plain_column -/
def d24 : Df := ⟨1, 1, [true], [], .seq (.drop (.call 19 (.cons (.lc 0) .nil))) (.seq (.ret (.mk 0 (.cons (.bin .add (.bin .mul (.kon (.str [100])) (.lc 0)) (.bin .mul (.kon (.str [111])) (.lc 0))) .nil))) .nil)⟩
def z24 : DefZ := { pl := .glo "plain_column", name := "plain_column", qual := "plain_column", st := top 19 }
/-- steep_column -/
def d25 : Df := ⟨1, 1, [true], [], .seq (.drop (.call 19 (.cons (.lc 0) .nil))) (.seq (.ret (.mk 0 (.cons (.bin .mul (.kon (.str [100, 111])) (.lc 0)) .nil))) .nil)⟩
def z25 : DefZ := { pl := .glo "steep_column", name := "steep_column", qual := "steep_column", st := top 20 }
/-- _law_mix -/
def d26 : Df := ⟨2, 4, [true, true], [], .seq (.asg 2 (.bin .mod (.bi .int (.cons (.bin .add (.bin .add (.bin .mul (.lc 0) (.kon (.int 48271))) (.bin .mul (.lc 1) (.kon (.int 16807)))) (.kon (.int 11))) .nil)) (.kon (.int 2147483647)))) (.seq (.asg 3 (.bin .mod (.bi .int (.cons (.bin .add (.bin .add (.bin .mul (.lc 2) (.lc 2)) (.bin .mul (.bin .fdiv (.lc 2) (.kon (.int 127))) (.kon (.int 40692)))) (.bin .mul (.lc 1) (.kon (.int 69621)))) .nil)) (.kon (.int 2147483399)))) (.seq (.ret (.bin .fdiv (.bin .mod (.bi .int (.cons (.bin .add (.bin .fdiv (.bin .mul (.lc 3) (.lc 3)) (.kon (.int 1009))) (.lc 2)) .nil)) (.kon (.int 2147483563))) (.kon (.int 16)))) .nil))⟩
def z26 : DefZ := { pl := .glo "_law_mix", name := "_law_mix", qual := "_law_mix", st := top 22 }
/-- _law_hand -/
def d27 : Df := ⟨1, 4, [true], [], .seq (.asg 1 (.kon (.int 0))) (.seq (.frl (.tp (.cons (.nm 2) (.cons (.nm 3) .nil))) (.enum (some 0) (.lc 0)) (.seq (.asg 1 (.bin .mod (.bi .int (.cons (.bin .add (.bin .mul (.lc 1) (.kon (.int 31))) (.bin .mul (.bi .int (.cons (.lc 3) .nil)) (.bin .add (.lc 2) (.kon (.int 7))))) .nil)) (.kon (.int 2147483629)))) .nil)) (.seq (.ret (.lst (.cons (.comp [3] (.nm 3) (.seq (some 0) (.lc 0)) .none (.bi .abs (.cons (.bi .int (.cons (.lc 3) .nil)) .nil))) (.cons (.kon (.int 0)) (.cons (.kon (.int 0)) (.cons (.lc 1) .nil)))))) .nil))⟩
def z27 : DefZ := { pl := .glo "_law_hand", name := "_law_hand", qual := "_law_hand", st := top 23 }
/-- _law_draw -/
def d28 : Df := ⟨2, 4, [true, true], [], .seq (.ife (.and (.cons (.cmp .eq (.ix (.lc 0) (.kon (.int 2))) (.kon (.int 0))) (.cons (.cmp .lt (.ix (.lc 0) (.kon (.int 1))) (.bi .len (.cons (.ix (.lc 0) (.kon (.int 0))) .nil))) .nil))) (.seq (.asg 2 (.ix (.ix (.lc 0) (.kon (.int 0))) (.ix (.lc 0) (.kon (.int 1))))) (.seq (.setIx 0 (.kon (.int 1)) (.bin .add (.ix (.lc 0) (.kon (.int 1))) (.kon (.int 1)))) (.seq (.ife (.cmp .lt (.lc 2) (.bin .pow (.kon (.int 10)) (.kon (.int 18)))) (.seq (.ret (.bin .mod (.bi .int (.cons (.call 26 (.cons (.bin .mod (.bi .int (.cons (.lc 2) .nil)) (.kon (.int 2147483647))) (.cons (.ix (.lc 0) (.kon (.int 1))) .nil))) .nil)) (.lc 1))) .nil) .nil) (.seq (.setIx 0 (.kon (.int 2)) (.lc 2)) .nil)))) .nil) (.seq (.ife (.cmp .gt (.ix (.lc 0) (.kon (.int 2))) (.kon (.int 0))) (.seq (.asg 3 (.ix (.lc 0) (.kon (.int 2)))) (.seq (.setIx 0 (.kon (.int 2)) (.bin .fdiv (.lc 3) (.lc 1))) (.seq (.ret (.bin .mod (.bi .int (.cons (.lc 3) .nil)) (.lc 1))) .nil))) .nil) (.seq (.setIx 0 (.kon (.int 3)) (.bin .mod (.bi .int (.cons (.bin .add (.ix (.lc 0) (.kon (.int 3))) (.kon (.int 1))) .nil)) (.kon (.int 2147483629)))) (.seq (.ret (.bin .mod (.bi .int (.cons (.call 26 (.cons (.ix (.lc 0) (.kon (.int 3))) (.cons (.ix (.lc 0) (.kon (.int 1))) .nil))) .nil)) (.lc 1))) .nil)))⟩
def z28 : DefZ := { pl := .glo "_law_draw", name := "_law_draw", qual := "_law_draw", st := top 24 }
/-- _law_word -/
def d29 : Df := ⟨2, 7, [true, true], [], .seq (.asg 2 (.kon (.str []))) (.seq (.asg 3 (.kon (.int 0))) (.seq (.frl (.nm 4) (.rng (.cons (.bin .mul (.kon (.int 2)) (.lc 1)) .nil)) (.seq (.asg 5 (.cmp .gt (.lc 3) (.kon (.int 0)))) (.seq (.asg 6 (.cmp .lt (.ms .count (.lc 2) (.cons (.kon (.str [100])) .nil)) (.lc 1))) (.seq (.ife (.and (.cons (.lc 6) (.cons (.or (.cons (.not (.lc 5)) (.cons (.cmp .eq (.call 28 (.cons (.lc 0) (.cons (.kon (.int 2)) .nil))) (.kon (.int 0))) .nil))) .nil))) (.seq (.asg 2 (.bin .add (.lc 2) (.kon (.str [100])))) (.seq (.asg 3 (.bin .add (.lc 3) (.kon (.int 1)))) .nil)) (.seq (.asg 2 (.bin .add (.lc 2) (.kon (.str [111])))) (.seq (.asg 3 (.bin .sub (.lc 3) (.kon (.int 1)))) .nil))) .nil)))) (.seq (.ret (.lc 2)) .nil)))⟩
def z29 : DefZ := { pl := .glo "_law_word", name := "_law_word", qual := "_law_word", st := top 25 }
/-- _law_all_words -/
def d30 : Df := ⟨1, 5, [true], [], .seq (.asg 1 (.lst (.cons (.kon (.str [])) .nil))) (.seq (.frl (.nm 2) (.rng (.cons (.bin .mul (.kon (.int 2)) (.lc 0)) .nil)) (.seq (.asg 3 (.lst .nil)) (.seq (.frl (.nm 4) (.seq none (.bi .list (.cons (.lc 1) .nil))) (.seq (.ife (.cmp .lt (.ms .count (.lc 4) (.cons (.kon (.str [100])) .nil)) (.lc 0)) (.seq (.app 3 (.bin .add (.lc 4) (.kon (.str [100])))) .nil) .nil) (.seq (.ife (.cmp .gt (.ms .count (.lc 4) (.cons (.kon (.str [100])) .nil)) (.ms .count (.lc 4) (.cons (.kon (.str [111])) .nil))) (.seq (.app 3 (.bin .add (.lc 4) (.kon (.str [111])))) .nil) .nil) .nil))) (.seq (.asg 1 (.lc 3)) .nil)))) (.seq (.ret (.lc 1)) .nil))⟩
def z30 : DefZ := { pl := .glo "_law_all_words", name := "_law_all_words", qual := "_law_all_words", st := top 26 }
/-- _law_refused -/
def d31 : Df := ⟨3, 5, [true, true, true], [], .seq (.tryx (.seq (.ife (.cmp .eq (.lc 0) (.kon (.int 0))) (.seq (.asg 3 (.bi .len (.cons (.lgen 0 1 (.cons (.lc 1) .nil)) .nil))) .nil) (.seq (.ife (.cmp .eq (.lc 0) (.kon (.int 1))) (.seq (.asg 3 (.call 21 (.cons (.lc 1) .nil))) .nil) (.seq (.ife (.cmp .eq (.lc 0) (.kon (.int 2))) (.seq (.asg 3 (.attr (.call 24 (.cons (.lc 1) .nil)) 1)) .nil) (.seq (.ife (.cmp .eq (.lc 0) (.kon (.int 3))) (.seq (.asg 3 (.attr (.call 25 (.cons (.lc 1) .nil)) 1)) .nil) (.seq (.asg 3 (.attr (.call 23 (.cons (.lc 1) (.cons (.lc 2) .nil))) 1)) .nil)) .nil)) .nil)) .nil)) .nil) [(3, 4, .ret (.tup (.cons (.kon (.str [115, 105, 122, 101])) (.cons (.fld 0) .nil)))), (2, 4, .ret (.tup (.cons (.kon (.str [110, 117, 109, 98, 101, 114])) (.cons (.fld 3) .nil))))]) (.seq (.ret (.tup (.cons (.kon (.str [116, 111, 108, 100])) (.cons (.lc 3) .nil)))) .nil)⟩
def z31 : DefZ := { pl := .glo "_law_refused", name := "_law_refused", qual := "_law_refused", st := top 27 }
/-- law -/
def d32 : Df := ⟨1, 14, [false], [], .seq (.asg 1 (.call 27 (.cons (.lc 0) .nil))) (.seq (.asg 2 (.bin .add (.kon (.int 1)) (.call 28 (.cons (.lc 1) (.cons (.kon (.int 6)) .nil))))) (.seq (.asg 3 (.call 30 (.cons (.lc 2) .nil))) (.seq (.asg 4 (.call 29 (.cons (.lc 1) (.cons (.lc 2) .nil)))) (.seq (.frl (.nm 5) (.rng (.cons (.kon (.int 2)) .nil)) (.seq (.asg 6 (.lgen 0 1 (.cons (.lc 2) .nil))) (.seq (.ife (.or (.cons (.not (.bi .all (.cons (.comp [7] (.nm 7) (.seq (some 6) (.lc 6)) .none (.isi (.lc 7) (.own 0))) .nil))) (.cons (.cmp .ne (.comp [7] (.nm 7) (.seq (some 6) (.lc 6)) .none (.attr (.lc 7) 1)) (.lc 3)) .nil))) (.seq (.ret (.kon (.bl false))) .nil) .nil) (.seq (.asg 8 (.call 21 (.cons (.lc 2) .nil))) (.seq (.ife (.or (.cons (.not (.isi (.lc 8) .int)) (.cons (.isi (.lc 8) .bl) (.cons (.cmp .ne (.lc 8) (.bi .len (.cons (.lc 3) .nil))) .nil)))) (.seq (.ret (.kon (.bl false))) .nil) .nil) (.seq (.ife (.cmp .ne (.comp [7] (.nm 7) (.seq (some 6) (.lc 6)) .none (.call 22 (.cons (.lc 7) .nil))) (.lrg1 false (.bi .len (.cons (.lc 3) .nil)))) (.seq (.ret (.kon (.bl false))) .nil) .nil) (.seq (.ife (.cmp .ne (.comp [9] (.nm 9) (.rng (.cons (.bi .len (.cons (.lc 3) .nil)) .nil)) .none (.attr (.call 23 (.cons (.lc 2) (.cons (.lc 9) .nil))) 1)) (.lc 3)) (.seq (.ret (.kon (.bl false))) .nil) .nil) .nil))))))) (.seq (.asg 10 (.call 22 (.cons (.mk 0 (.cons (.lc 4) .nil)) .nil))) (.seq (.ife (.or (.cons (.isi (.lc 10) .bl) (.cons (.cmp .ne (.ix (.lc 3) (.lc 10)) (.lc 4)) (.cons (.cmp .ne (.call 23 (.cons (.lc 2) (.cons (.lc 10) .nil))) (.mk 0 (.cons (.lc 4) .nil))) .nil)))) (.seq (.ret (.kon (.bl false))) .nil) .nil) (.seq (.ife (.or (.cons (.cmp .ne (.call 24 (.cons (.lc 2) .nil)) (.mk 0 (.cons (.bin .add (.bin .mul (.kon (.str [100])) (.lc 2)) (.bin .mul (.kon (.str [111])) (.lc 2))) .nil))) (.cons (.cmp .ne (.call 25 (.cons (.lc 2) .nil)) (.mk 0 (.cons (.bin .mul (.kon (.str [100, 111])) (.lc 2)) .nil))) .nil))) (.seq (.ret (.kon (.bl false))) .nil) .nil) (.seq (.ife (.or (.cons (.cmp .ne (.attr (.call 24 (.cons (.lc 2) .nil)) 1) (.ix (.lc 3) (.kon (.int 0)))) (.cons (.cmp .ne (.attr (.call 25 (.cons (.lc 2) .nil)) 1) (.ix (.lc 3) (.neg (.kon (.int 1))))) .nil))) (.seq (.ret (.kon (.bl false))) .nil) .nil) (.seq (.asg 11 (.ix (.lst (.cons (.neg (.kon (.int 1))) (.cons (.bi .len (.cons (.lc 3) .nil)) (.cons (.kon .non) (.cons (.kon (.bl true)) (.cons (.kon (.str [48])) (.cons (.bin .add (.bi .len (.cons (.lc 3) .nil)) (.bin .pow (.kon (.int 10)) (.kon (.int 20)))) (.cons (.neg (.bin .pow (.kon (.int 10)) (.kon (.int 20)))) (.cons (.kon (.bl false)) .nil))))))))) (.call 28 (.cons (.lc 1) (.cons (.kon (.int 8)) .nil))))) (.seq (.asg 6 (.call 31 (.cons (.kon (.int 4)) (.cons (.lc 2) (.cons (.lc 11) .nil))))) (.seq (.ife (.or (.cons (.cmp .ne (.lc 6) (.tup (.cons (.kon (.str [110, 117, 109, 98, 101, 114])) (.cons (.lc 11) .nil)))) (.cons (.cmp .ne (.isi (.ix (.lc 6) (.kon (.int 1))) .bl) (.isi (.lc 11) .bl)) .nil))) (.seq (.ret (.kon (.bl false))) .nil) .nil) (.seq (.asg 12 (.ix (.lst (.cons (.kon (.int 0)) (.cons (.kon (.int 7)) (.cons (.neg (.kon (.int 1))) (.cons (.kon .non) (.cons (.kon (.bl true)) (.cons (.kon (.str [50])) (.cons (.bin .pow (.kon (.int 10)) (.kon (.int 20))) (.cons (.lst (.cons (.kon (.int 2)) .nil)) (.cons (.kon (.bl false)) .nil)))))))))) (.call 28 (.cons (.lc 1) (.cons (.kon (.int 9)) .nil))))) (.seq (.asg 13 (.call 28 (.cons (.lc 1) (.cons (.kon (.int 5)) .nil)))) (.seq (.asg 6 (.call 31 (.cons (.lc 13) (.cons (.lc 12) (.cons (.ife (.cmp .eq (.call 28 (.cons (.lc 1) (.cons (.kon (.int 2)) .nil))) (.kon (.int 0))) (.lc 11) (.kon (.int 0))) .nil))))) (.seq (.ife (.or (.cons (.cmp .ne (.lc 6) (.tup (.cons (.kon (.str [115, 105, 122, 101])) (.cons (.lc 12) .nil)))) (.cons (.cmp .ne (.isi (.ix (.lc 6) (.kon (.int 1))) .bl) (.isi (.lc 12) .bl)) .nil))) (.seq (.ret (.kon (.bl false))) .nil) .nil) (.seq (.ret (.cmp .eq (.ix (.call 31 (.cons (.lc 13) (.cons (.lc 2) (.cons (.kon (.int 0)) .nil)))) (.kon (.int 0))) (.kon (.str [116, 111, 108, 100])))) .nil))))))))))))))))⟩
def z32 : DefZ := { pl := .glo "law", name := "law", qual := "law", st := top 28 }
/-- all_columns -/
def g0 : Dg := ⟨1, 2, .seq (.pl (.drop (.call 19 (.cons (.lc 0) .nil)))) (.seq (.frl (.nm 1) (.rng (.cons (.call 21 (.cons (.lc 0) .nil)) .nil)) (.seq (.yld (.call 23 (.cons (.lc 0) (.cons (.lc 1) .nil)))) .nil)) .nil)⟩
def y0 : DefZ := { pl := .glo "all_columns", name := "all_columns", qual := "all_columns", st := top 15 }
def x0 : DefX := ⟨"NoSuch", "NoSuch.__init__", inn 3 0, ["self", "number"], [("number", 1)], [.kon "no such number"]⟩
def x1 : DefX := ⟨"BadSize", "BadSize.__init__", inn 4 0, ["self", "size"], [("size", 1)], [.kon "size"]⟩
def x2 : DefX := ⟨"BadColumn", "BadColumn.__init__", inn 5 0, ["self", "what"], [("what", 1)], [.kon "column", .par 1]⟩
def x3 : DefX := ⟨"BadBoundary", "BadBoundary.__init__", inn 6 0, ["self", "boundary"], [("boundary", 1)], [.kon "boundary"]⟩
def pr : Pr := { defs := [d0, d1, d2, d3, d4, d5, d6, d7, d8, d9, d10, d11, d12, d13, d14, d15, d16, d17, d18, d19, d20, d21, d22, d23, d24, d25, d26, d27, d28, d29, d30, d31, d32], meth := [(0, 9, 10), (0, 10, 11), (0, 11, 12), (0, 12, 13), (0, 13, 15), (0, 14, 16), (0, 15, 17), (0, 16, 18)], prop := [(0, 2, 4), (0, 4, 5), (0, 5, 6), (0, 6, 7), (0, 7, 8), (0, 8, 9)], init := [(0, 3)], flds := [(0, [1, 0])], gks := [.int 6], wf := 2000000, dun := [(0, .eq, 15), (0, .len, 17)], isi := [((.int, .own 0), false), ((.bl, .own 0), false), ((.str, .own 0), false), ((.non, .own 0), false), ((.tup, .own 0), false), ((.lst, .own 0), false), ((.dct, .own 0), false), ((.own 0, .own 0), true), ((.int, .bl), false), ((.bl, .bl), true), ((.str, .bl), false), ((.non, .bl), false), ((.tup, .bl), false), ((.lst, .bl), false), ((.dct, .bl), false), ((.own 0, .bl), false), ((.int, .int), true), ((.bl, .int), true), ((.str, .int), false), ((.non, .int), false), ((.tup, .int), false), ((.lst, .int), false), ((.dct, .int), false), ((.own 0, .int), false), ((.int, .str), false), ((.bl, .str), false), ((.str, .str), true), ((.non, .str), false), ((.tup, .str), false), ((.lst, .str), false), ((.dct, .str), false), ((.own 0, .str), false)], ic := [0], exc := [(2, ⟨1, [(3, 1)], [.kon "no such number"]⟩), (3, ⟨1, [(0, 1)], [.kon "size"]⟩), (4, ⟨1, [(17, 1)], [.kon "column", .par 1]⟩), (5, ⟨1, [(18, 1)], [.kon "boundary"]⟩)], exm := [((2, 3), false), ((2, 2), true), ((3, 3), true), ((3, 2), false), ((4, 3), false), ((4, 2), false), ((5, 3), false), ((5, 2), false)], xfl := [(2, [3]), (3, [0]), (4, [17]), (5, [18])], gens := [g0] }
def tab : Tab := { defs := [("_wall", 0), ("is_whole", 1), ("word_fault", 2), ("check_size", 19), ("rests_of", 20), ("how_many_columns", 21), ("column_index", 22), ("column_at", 23), ("plain_column", 24), ("steep_column", 25), ("_law_mix", 26), ("_law_hand", 27), ("_law_draw", 28), ("_law_word", 29), ("_law_all_words", 30), ("_law_refused", 31), ("law", 32)], clss := [("Column", 0)], gks := [("MOST_SIZE", 0)], blts := ["abs", "all", "bool", "enumerate", "int", "isinstance", "len", "list", "range", "str", "super", "tuple"], nm := ["size", "word", "heights", "number", "places", "runs", "creases", "hollows", "ridges", "many", "place", "height", "mirrored", "__eq__", "__str__", "__len__", "__iter__", "what", "boundary"], excs := [("CardError", 1), ("NoSuch", 2), ("BadSize", 3), ("BadColumn", 4), ("BadBoundary", 5)], file := "/claim/cut.py", smeths := [("Column", "of_heights", 14)], gens := [("all_columns", 0, 1)] }
def sp : Dat := { p := pr, T := tab, fn := [z0, z1, z2, z3, z4, z5, z6, z7, z8, z9, z10, z11, z12, z13, z14, z15, z16, z17, z18, z19, z20, z21, z22, z23, z24, z25, z26, z27, z28, z29, z30, z31, z32], cn := ["Column"], en := ["CardError", "NoSuch", "BadSize", "BadColumn", "BadBoundary"], xs := [x0, x1, x2, x3], gn := [y0] }
theorem is0 : Is tab d0 z0.st ["k"] ["k"] := ⟨⟨rfl, rfl, rfl, by decide +kernel, rfl, by decide +kernel, by decide +kernel⟩, rfl, rfl, rfl, by decide +kernel⟩
theorem bn0 (kV doc pm : Value) (an : Option Addr) (cdv ct : Value) (us : List Value) (hl : us.length = (["k"] : List Str).length) : bindArgs (PySem.W.fnOf z0.name z0.qual (defArgs z0.st) (defBody z0.st) (defScope z0.st) .none kV doc pm an cdv ct) ⟨us, []⟩ = pure ((["k"] : List Str).zip us) := match us, hl with | [_], _ => rfl
theorem is1 : Is tab d1 z1.st ["thing", "low", "high"] ["thing", "low", "high"] := ⟨⟨rfl, rfl, rfl, by decide +kernel, rfl, by decide +kernel, by decide +kernel⟩, rfl, rfl, rfl, by decide +kernel⟩
theorem bn1 (kV doc pm : Value) (an : Option Addr) (cdv ct : Value) (us : List Value) (hl : us.length = (["thing", "low", "high"] : List Str).length) : bindArgs (PySem.W.fnOf z1.name z1.qual (defArgs z1.st) (defBody z1.st) (defScope z1.st) .none kV doc pm an cdv ct) ⟨us, []⟩ = pure ((["thing", "low", "high"] : List Str).zip us) := match us, hl with | [_, _, _], _ => rfl
theorem is2 : Is tab d2 z2.st ["thing", "letter", "above"] ["thing"] := ⟨⟨rfl, rfl, rfl, by decide +kernel, rfl, by decide +kernel, by decide +kernel⟩, rfl, rfl, rfl, by decide +kernel⟩
theorem bn2 (kV doc pm : Value) (an : Option Addr) (cdv ct : Value) (us : List Value) (hl : us.length = (["thing"] : List Str).length) : bindArgs (PySem.W.fnOf z2.name z2.qual (defArgs z2.st) (defBody z2.st) (defScope z2.st) .none kV doc pm an cdv ct) ⟨us, []⟩ = pure ((["thing"] : List Str).zip us) := match us, hl with | [_], _ => rfl
theorem is3 : Is tab d3 z3.st ["self", "word", "what"] ["self", "word"] := ⟨⟨rfl, rfl, rfl, by decide +kernel, rfl, by decide +kernel, by decide +kernel⟩, rfl, rfl, rfl, by decide +kernel⟩
theorem bn3 (kV doc pm : Value) (an : Option Addr) (cdv ct : Value) (us : List Value) (hl : us.length = (["self", "word"] : List Str).length) : bindArgs (PySem.W.fnOf z3.name z3.qual (defArgs z3.st) (defBody z3.st) (defScope z3.st) .none kV doc pm an cdv ct) ⟨us, []⟩ = pure ((["self", "word"] : List Str).zip us) := match us, hl with | [_, _], _ => rfl
theorem is4 : Is tab d4 z4.st ["self", "above", "letter"] ["self"] := ⟨⟨rfl, rfl, rfl, by decide +kernel, rfl, by decide +kernel, by decide +kernel⟩, rfl, rfl, rfl, by decide +kernel⟩
theorem bn4 (kV doc pm : Value) (an : Option Addr) (cdv ct : Value) (us : List Value) (hl : us.length = (["self"] : List Str).length) : bindArgs (PySem.W.fnOf z4.name z4.qual (defArgs z4.st) (defBody z4.st) (defScope z4.st) .none kV doc pm an cdv ct) ⟨us, []⟩ = pure ((["self"] : List Str).zip us) := match us, hl with | [_], _ => rfl
theorem is5 : Is tab d5 z5.st ["self"] ["self"] := ⟨⟨rfl, rfl, rfl, by decide +kernel, rfl, by decide +kernel, by decide +kernel⟩, rfl, rfl, rfl, by decide +kernel⟩
theorem bn5 (kV doc pm : Value) (an : Option Addr) (cdv ct : Value) (us : List Value) (hl : us.length = (["self"] : List Str).length) : bindArgs (PySem.W.fnOf z5.name z5.qual (defArgs z5.st) (defBody z5.st) (defScope z5.st) .none kV doc pm an cdv ct) ⟨us, []⟩ = pure ((["self"] : List Str).zip us) := match us, hl with | [_], _ => rfl
theorem is6 : Is tab d6 z6.st ["self"] ["self"] := ⟨⟨rfl, rfl, rfl, by decide +kernel, rfl, by decide +kernel, by decide +kernel⟩, rfl, rfl, rfl, by decide +kernel⟩
theorem bn6 (kV doc pm : Value) (an : Option Addr) (cdv ct : Value) (us : List Value) (hl : us.length = (["self"] : List Str).length) : bindArgs (PySem.W.fnOf z6.name z6.qual (defArgs z6.st) (defBody z6.st) (defScope z6.st) .none kV doc pm an cdv ct) ⟨us, []⟩ = pure ((["self"] : List Str).zip us) := match us, hl with | [_], _ => rfl
theorem is7 : Is tab d7 z7.st ["self"] ["self"] := ⟨⟨rfl, rfl, rfl, by decide +kernel, rfl, by decide +kernel, by decide +kernel⟩, rfl, rfl, rfl, by decide +kernel⟩
theorem bn7 (kV doc pm : Value) (an : Option Addr) (cdv ct : Value) (us : List Value) (hl : us.length = (["self"] : List Str).length) : bindArgs (PySem.W.fnOf z7.name z7.qual (defArgs z7.st) (defBody z7.st) (defScope z7.st) .none kV doc pm an cdv ct) ⟨us, []⟩ = pure ((["self"] : List Str).zip us) := match us, hl with | [_], _ => rfl
theorem is8 : Is tab d8 z8.st ["self"] ["self"] := ⟨⟨rfl, rfl, rfl, by decide +kernel, rfl, by decide +kernel, by decide +kernel⟩, rfl, rfl, rfl, by decide +kernel⟩
theorem bn8 (kV doc pm : Value) (an : Option Addr) (cdv ct : Value) (us : List Value) (hl : us.length = (["self"] : List Str).length) : bindArgs (PySem.W.fnOf z8.name z8.qual (defArgs z8.st) (defBody z8.st) (defScope z8.st) .none kV doc pm an cdv ct) ⟨us, []⟩ = pure ((["self"] : List Str).zip us) := match us, hl with | [_], _ => rfl
theorem is9 : Is tab d9 z9.st ["self"] ["self"] := ⟨⟨rfl, rfl, rfl, by decide +kernel, rfl, by decide +kernel, by decide +kernel⟩, rfl, rfl, rfl, by decide +kernel⟩
theorem bn9 (kV doc pm : Value) (an : Option Addr) (cdv ct : Value) (us : List Value) (hl : us.length = (["self"] : List Str).length) : bindArgs (PySem.W.fnOf z9.name z9.qual (defArgs z9.st) (defBody z9.st) (defScope z9.st) .none kV doc pm an cdv ct) ⟨us, []⟩ = pure ((["self"] : List Str).zip us) := match us, hl with | [_], _ => rfl
theorem is10 : Is tab d10 z10.st ["self", "letter", "boundary"] ["self", "letter", "boundary"] := ⟨⟨rfl, rfl, rfl, by decide +kernel, rfl, by decide +kernel, by decide +kernel⟩, rfl, rfl, rfl, by decide +kernel⟩
theorem bn10 (kV doc pm : Value) (an : Option Addr) (cdv ct : Value) (us : List Value) (hl : us.length = (["self", "letter", "boundary"] : List Str).length) : bindArgs (PySem.W.fnOf z10.name z10.qual (defArgs z10.st) (defBody z10.st) (defScope z10.st) .none kV doc pm an cdv ct) ⟨us, []⟩ = pure ((["self", "letter", "boundary"] : List Str).zip us) := match us, hl with | [_, _, _], _ => rfl
theorem is11 : Is tab d11 z11.st ["self", "boundary"] ["self", "boundary"] := ⟨⟨rfl, rfl, rfl, by decide +kernel, rfl, by decide +kernel, by decide +kernel⟩, rfl, rfl, rfl, by decide +kernel⟩
theorem bn11 (kV doc pm : Value) (an : Option Addr) (cdv ct : Value) (us : List Value) (hl : us.length = (["self", "boundary"] : List Str).length) : bindArgs (PySem.W.fnOf z11.name z11.qual (defArgs z11.st) (defBody z11.st) (defScope z11.st) .none kV doc pm an cdv ct) ⟨us, []⟩ = pure ((["self", "boundary"] : List Str).zip us) := match us, hl with | [_, _], _ => rfl
theorem is12 : Is tab d12 z12.st ["self", "boundary"] ["self", "boundary"] := ⟨⟨rfl, rfl, rfl, by decide +kernel, rfl, by decide +kernel, by decide +kernel⟩, rfl, rfl, rfl, by decide +kernel⟩
theorem bn12 (kV doc pm : Value) (an : Option Addr) (cdv ct : Value) (us : List Value) (hl : us.length = (["self", "boundary"] : List Str).length) : bindArgs (PySem.W.fnOf z12.name z12.qual (defArgs z12.st) (defBody z12.st) (defScope z12.st) .none kV doc pm an cdv ct) ⟨us, []⟩ = pure ((["self", "boundary"] : List Str).zip us) := match us, hl with | [_, _], _ => rfl
theorem is13 : Is tab d13 z13.st ["self"] ["self"] := ⟨⟨rfl, rfl, rfl, by decide +kernel, rfl, by decide +kernel, by decide +kernel⟩, rfl, rfl, rfl, by decide +kernel⟩
theorem bn13 (kV doc pm : Value) (an : Option Addr) (cdv ct : Value) (us : List Value) (hl : us.length = (["self"] : List Str).length) : bindArgs (PySem.W.fnOf z13.name z13.qual (defArgs z13.st) (defBody z13.st) (defScope z13.st) .none kV doc pm an cdv ct) ⟨us, []⟩ = pure ((["self"] : List Str).zip us) := match us, hl with | [_], _ => rfl
theorem is14 : Is tab d14 z14.st ["heights"] ["heights"] := ⟨⟨rfl, rfl, rfl, by decide +kernel, rfl, by decide +kernel, by decide +kernel⟩, rfl, rfl, rfl, by decide +kernel⟩
theorem bn14 (kV doc pm : Value) (an : Option Addr) (cdv ct : Value) (us : List Value) (hl : us.length = (["heights"] : List Str).length) : bindArgs (PySem.W.fnOf z14.name z14.qual (defArgs z14.st) (defBody z14.st) (defScope z14.st) .none kV doc pm an cdv ct) ⟨us, []⟩ = pure ((["heights"] : List Str).zip us) := match us, hl with | [_], _ => rfl
theorem is15 : Is tab d15 z15.st ["self", "other"] ["self", "other"] := ⟨⟨rfl, rfl, rfl, by decide +kernel, rfl, by decide +kernel, by decide +kernel⟩, rfl, rfl, rfl, by decide +kernel⟩
theorem bn15 (kV doc pm : Value) (an : Option Addr) (cdv ct : Value) (us : List Value) (hl : us.length = (["self", "other"] : List Str).length) : bindArgs (PySem.W.fnOf z15.name z15.qual (defArgs z15.st) (defBody z15.st) (defScope z15.st) .none kV doc pm an cdv ct) ⟨us, []⟩ = pure ((["self", "other"] : List Str).zip us) := match us, hl with | [_, _], _ => rfl
theorem is16 : Is tab d16 z16.st ["self"] ["self"] := ⟨⟨rfl, rfl, rfl, by decide +kernel, rfl, by decide +kernel, by decide +kernel⟩, rfl, rfl, rfl, by decide +kernel⟩
theorem bn16 (kV doc pm : Value) (an : Option Addr) (cdv ct : Value) (us : List Value) (hl : us.length = (["self"] : List Str).length) : bindArgs (PySem.W.fnOf z16.name z16.qual (defArgs z16.st) (defBody z16.st) (defScope z16.st) .none kV doc pm an cdv ct) ⟨us, []⟩ = pure ((["self"] : List Str).zip us) := match us, hl with | [_], _ => rfl
theorem is17 : Is tab d17 z17.st ["self"] ["self"] := ⟨⟨rfl, rfl, rfl, by decide +kernel, rfl, by decide +kernel, by decide +kernel⟩, rfl, rfl, rfl, by decide +kernel⟩
theorem bn17 (kV doc pm : Value) (an : Option Addr) (cdv ct : Value) (us : List Value) (hl : us.length = (["self"] : List Str).length) : bindArgs (PySem.W.fnOf z17.name z17.qual (defArgs z17.st) (defBody z17.st) (defScope z17.st) .none kV doc pm an cdv ct) ⟨us, []⟩ = pure ((["self"] : List Str).zip us) := match us, hl with | [_], _ => rfl
theorem is18 : Is tab d18 z18.st ["self"] ["self"] := ⟨⟨rfl, rfl, rfl, by decide +kernel, rfl, by decide +kernel, by decide +kernel⟩, rfl, rfl, rfl, by decide +kernel⟩
theorem bn18 (kV doc pm : Value) (an : Option Addr) (cdv ct : Value) (us : List Value) (hl : us.length = (["self"] : List Str).length) : bindArgs (PySem.W.fnOf z18.name z18.qual (defArgs z18.st) (defBody z18.st) (defScope z18.st) .none kV doc pm an cdv ct) ⟨us, []⟩ = pure ((["self"] : List Str).zip us) := match us, hl with | [_], _ => rfl
theorem is19 : Is tab d19 z19.st ["size"] ["size"] := ⟨⟨rfl, rfl, rfl, by decide +kernel, rfl, by decide +kernel, by decide +kernel⟩, rfl, rfl, rfl, by decide +kernel⟩
theorem bn19 (kV doc pm : Value) (an : Option Addr) (cdv ct : Value) (us : List Value) (hl : us.length = (["size"] : List Str).length) : bindArgs (PySem.W.fnOf z19.name z19.qual (defArgs z19.st) (defBody z19.st) (defScope z19.st) .none kV doc pm an cdv ct) ⟨us, []⟩ = pure ((["size"] : List Str).zip us) := match us, hl with | [_], _ => rfl
theorem is20 : Is tab d20 z20.st ["size", "table", "left", "last", "row", "above"] ["size"] := ⟨⟨rfl, rfl, rfl, by decide +kernel, rfl, by decide +kernel, by decide +kernel⟩, rfl, rfl, rfl, by decide +kernel⟩
theorem bn20 (kV doc pm : Value) (an : Option Addr) (cdv ct : Value) (us : List Value) (hl : us.length = (["size"] : List Str).length) : bindArgs (PySem.W.fnOf z20.name z20.qual (defArgs z20.st) (defBody z20.st) (defScope z20.st) .none kV doc pm an cdv ct) ⟨us, []⟩ = pure ((["size"] : List Str).zip us) := match us, hl with | [_], _ => rfl
theorem is21 : Is tab d21 z21.st ["size"] ["size"] := ⟨⟨rfl, rfl, rfl, by decide +kernel, rfl, by decide +kernel, by decide +kernel⟩, rfl, rfl, rfl, by decide +kernel⟩
theorem bn21 (kV doc pm : Value) (an : Option Addr) (cdv ct : Value) (us : List Value) (hl : us.length = (["size"] : List Str).length) : bindArgs (PySem.W.fnOf z21.name z21.qual (defArgs z21.st) (defBody z21.st) (defScope z21.st) .none kV doc pm an cdv ct) ⟨us, []⟩ = pure ((["size"] : List Str).zip us) := match us, hl with | [_], _ => rfl
theorem is22 : Is tab d22 z22.st ["column", "table", "heights", "number", "t", "letter"] ["column"] := ⟨⟨rfl, rfl, rfl, by decide +kernel, rfl, by decide +kernel, by decide +kernel⟩, rfl, rfl, rfl, by decide +kernel⟩
theorem bn22 (kV doc pm : Value) (an : Option Addr) (cdv ct : Value) (us : List Value) (hl : us.length = (["column"] : List Str).length) : bindArgs (PySem.W.fnOf z22.name z22.qual (defArgs z22.st) (defBody z22.st) (defScope z22.st) .none kV doc pm an cdv ct) ⟨us, []⟩ = pure ((["column"] : List Str).zip us) := match us, hl with | [_], _ => rfl
theorem is23 : Is tab d23 z23.st ["size", "number", "table", "word", "above", "rest", "t", "first"] ["size", "number"] := ⟨⟨rfl, rfl, rfl, by decide +kernel, rfl, by decide +kernel, by decide +kernel⟩, rfl, rfl, rfl, by decide +kernel⟩
theorem bn23 (kV doc pm : Value) (an : Option Addr) (cdv ct : Value) (us : List Value) (hl : us.length = (["size", "number"] : List Str).length) : bindArgs (PySem.W.fnOf z23.name z23.qual (defArgs z23.st) (defBody z23.st) (defScope z23.st) .none kV doc pm an cdv ct) ⟨us, []⟩ = pure ((["size", "number"] : List Str).zip us) := match us, hl with | [_, _], _ => rfl
theorem is24 : Is tab d24 z24.st ["size"] ["size"] := ⟨⟨rfl, rfl, rfl, by decide +kernel, rfl, by decide +kernel, by decide +kernel⟩, rfl, rfl, rfl, by decide +kernel⟩
theorem bn24 (kV doc pm : Value) (an : Option Addr) (cdv ct : Value) (us : List Value) (hl : us.length = (["size"] : List Str).length) : bindArgs (PySem.W.fnOf z24.name z24.qual (defArgs z24.st) (defBody z24.st) (defScope z24.st) .none kV doc pm an cdv ct) ⟨us, []⟩ = pure ((["size"] : List Str).zip us) := match us, hl with | [_], _ => rfl
theorem is25 : Is tab d25 z25.st ["size"] ["size"] := ⟨⟨rfl, rfl, rfl, by decide +kernel, rfl, by decide +kernel, by decide +kernel⟩, rfl, rfl, rfl, by decide +kernel⟩
theorem bn25 (kV doc pm : Value) (an : Option Addr) (cdv ct : Value) (us : List Value) (hl : us.length = (["size"] : List Str).length) : bindArgs (PySem.W.fnOf z25.name z25.qual (defArgs z25.st) (defBody z25.st) (defScope z25.st) .none kV doc pm an cdv ct) ⟨us, []⟩ = pure ((["size"] : List Str).zip us) := match us, hl with | [_], _ => rfl
theorem is26 : Is tab d26 z26.st ["_law_number", "_law_turn", "_law_once", "_law_twice"] ["_law_number", "_law_turn"] := ⟨⟨rfl, rfl, rfl, by decide +kernel, rfl, by decide +kernel, by decide +kernel⟩, rfl, rfl, rfl, by decide +kernel⟩
theorem bn26 (kV doc pm : Value) (an : Option Addr) (cdv ct : Value) (us : List Value) (hl : us.length = (["_law_number", "_law_turn"] : List Str).length) : bindArgs (PySem.W.fnOf z26.name z26.qual (defArgs z26.st) (defBody z26.st) (defScope z26.st) .none kV doc pm an cdv ct) ⟨us, []⟩ = pure ((["_law_number", "_law_turn"] : List Str).zip us) := match us, hl with | [_, _], _ => rfl
theorem is27 : Is tab d27 z27.st ["_law_script", "_law_total", "_law_k", "_law_cell"] ["_law_script"] := ⟨⟨rfl, rfl, rfl, by decide +kernel, rfl, by decide +kernel, by decide +kernel⟩, rfl, rfl, rfl, by decide +kernel⟩
theorem bn27 (kV doc pm : Value) (an : Option Addr) (cdv ct : Value) (us : List Value) (hl : us.length = (["_law_script"] : List Str).length) : bindArgs (PySem.W.fnOf z27.name z27.qual (defArgs z27.st) (defBody z27.st) (defScope z27.st) .none kV doc pm an cdv ct) ⟨us, []⟩ = pure ((["_law_script"] : List Str).zip us) := match us, hl with | [_], _ => rfl
theorem is28 : Is tab d28 z28.st ["_law_hand_here", "_law_many", "_law_cell", "_law_rest"] ["_law_hand_here", "_law_many"] := ⟨⟨rfl, rfl, rfl, by decide +kernel, rfl, by decide +kernel, by decide +kernel⟩, rfl, rfl, rfl, by decide +kernel⟩
theorem bn28 (kV doc pm : Value) (an : Option Addr) (cdv ct : Value) (us : List Value) (hl : us.length = (["_law_hand_here", "_law_many"] : List Str).length) : bindArgs (PySem.W.fnOf z28.name z28.qual (defArgs z28.st) (defBody z28.st) (defScope z28.st) .none kV doc pm an cdv ct) ⟨us, []⟩ = pure ((["_law_hand_here", "_law_many"] : List Str).zip us) := match us, hl with | [_, _], _ => rfl
theorem is29 : Is tab d29 z29.st ["_law_hand_here", "_law_size", "_law_word_here", "_law_height", "_law_t", "_law_may_out", "_law_may_down"] ["_law_hand_here", "_law_size"] := ⟨⟨rfl, rfl, rfl, by decide +kernel, rfl, by decide +kernel, by decide +kernel⟩, rfl, rfl, rfl, by decide +kernel⟩
theorem bn29 (kV doc pm : Value) (an : Option Addr) (cdv ct : Value) (us : List Value) (hl : us.length = (["_law_hand_here", "_law_size"] : List Str).length) : bindArgs (PySem.W.fnOf z29.name z29.qual (defArgs z29.st) (defBody z29.st) (defScope z29.st) .none kV doc pm an cdv ct) ⟨us, []⟩ = pure ((["_law_hand_here", "_law_size"] : List Str).zip us) := match us, hl with | [_, _], _ => rfl
theorem is30 : Is tab d30 z30.st ["_law_size", "_law_words", "_law_t", "_law_longer", "_law_word_here"] ["_law_size"] := ⟨⟨rfl, rfl, rfl, by decide +kernel, rfl, by decide +kernel, by decide +kernel⟩, rfl, rfl, rfl, by decide +kernel⟩
theorem bn30 (kV doc pm : Value) (an : Option Addr) (cdv ct : Value) (us : List Value) (hl : us.length = (["_law_size"] : List Str).length) : bindArgs (PySem.W.fnOf z30.name z30.qual (defArgs z30.st) (defBody z30.st) (defScope z30.st) .none kV doc pm an cdv ct) ⟨us, []⟩ = pure ((["_law_size"] : List Str).zip us) := match us, hl with | [_], _ => rfl
theorem is31 : Is tab d31 z31.st ["_law_way", "_law_size", "_law_number", "_law_told", "e"] ["_law_way", "_law_size", "_law_number"] := ⟨⟨rfl, rfl, rfl, by decide +kernel, rfl, by decide +kernel, by decide +kernel⟩, rfl, rfl, rfl, by decide +kernel⟩
theorem bn31 (kV doc pm : Value) (an : Option Addr) (cdv ct : Value) (us : List Value) (hl : us.length = (["_law_way", "_law_size", "_law_number"] : List Str).length) : bindArgs (PySem.W.fnOf z31.name z31.qual (defArgs z31.st) (defBody z31.st) (defScope z31.st) .none kV doc pm an cdv ct) ⟨us, []⟩ = pure ((["_law_way", "_law_size", "_law_number"] : List Str).zip us) := match us, hl with | [_, _, _], _ => rfl
theorem is32 : Is tab d32 z32.st ["_law_script", "_law_hand_here", "_law_size", "_law_words", "_law_drawn", "_law_turn", "_law_told", "_law_column", "_law_many", "_law_k", "_law_number", "_law_far", "_law_odd", "_law_way"] ["_law_script"] := ⟨⟨rfl, rfl, rfl, by decide +kernel, rfl, by decide +kernel, by decide +kernel⟩, rfl, rfl, rfl, by decide +kernel⟩
theorem bn32 (kV doc pm : Value) (an : Option Addr) (cdv ct : Value) (us : List Value) (hl : us.length = (["_law_script"] : List Str).length) : bindArgs (PySem.W.fnOf z32.name z32.qual (defArgs z32.st) (defBody z32.st) (defScope z32.st) .none kV doc pm an cdv ct) ⟨us, []⟩ = pure ((["_law_script"] : List Str).zip us) := match us, hl with | [_], _ => rfl
theorem ig0 : IsG tab g0 y0.st ["size", "number"] ["size"] := ⟨⟨rfl, rfl, rfl, by decide +kernel, rfl, by decide +kernel, by decide +kernel⟩, rfl, rfl, by decide +kernel⟩
theorem bg0 (kV doc pm : Value) (an : Option Addr) (cdv ct : Value) (us : List Value) (hl : us.length = (["size"] : List Str).length) : bindArgs (PySem.W.fnOf y0.name y0.qual (defArgs y0.st) (defBody y0.st) (defScope y0.st) .none kV doc pm an cdv ct) ⟨us, []⟩ = pure ((["size"] : List Str).zip us) := match us, hl with | [_], _ => rfl
@[simp] theorem ge0 (n : Nat) : (pr.ct (n + 1)).gen 0 = some fun ds => runG (pr.ct n) g0 ds := rfl
@[simp] theorem mo0 (n : Nat) : (pr.ct n).modes 0 = [true] := by cases n <;> rfl
@[simp] theorem df0 (n : Nat) : (pr.ct n).dfs 0 = [] := by cases n <;> rfl
theorem ru0 (n : Nat) (os : List O) : (pr.ct (n + 1)).run 0 os = runD (pr.ct n) d0 os := run_eq rfl os
@[simp] theorem mo1 (n : Nat) : (pr.ct n).modes 1 = [true, true, true] := by cases n <;> rfl
@[simp] theorem df1 (n : Nat) : (pr.ct n).dfs 1 = [] := by cases n <;> rfl
theorem ru1 (n : Nat) (os : List O) : (pr.ct (n + 1)).run 1 os = runD (pr.ct n) d1 os := run_eq rfl os
@[simp] theorem mo2 (n : Nat) : (pr.ct n).modes 2 = [true] := by cases n <;> rfl
@[simp] theorem df2 (n : Nat) : (pr.ct n).dfs 2 = [] := by cases n <;> rfl
theorem ru2 (n : Nat) (os : List O) : (pr.ct (n + 1)).run 2 os = runD (pr.ct n) d2 os := run_eq rfl os
@[simp] theorem mo3 (n : Nat) : (pr.ct n).modes 3 = [true, true] := by cases n <;> rfl
@[simp] theorem df3 (n : Nat) : (pr.ct n).dfs 3 = [] := by cases n <;> rfl
theorem ru3 (n : Nat) (os : List O) : (pr.ct (n + 1)).run 3 os = runD (pr.ct n) d3 os := run_eq rfl os
@[simp] theorem mo4 (n : Nat) : (pr.ct n).modes 4 = [true] := by cases n <;> rfl
@[simp] theorem df4 (n : Nat) : (pr.ct n).dfs 4 = [] := by cases n <;> rfl
theorem ru4 (n : Nat) (os : List O) : (pr.ct (n + 1)).run 4 os = runD (pr.ct n) d4 os := run_eq rfl os
@[simp] theorem mo5 (n : Nat) : (pr.ct n).modes 5 = [true] := by cases n <;> rfl
@[simp] theorem df5 (n : Nat) : (pr.ct n).dfs 5 = [] := by cases n <;> rfl
theorem ru5 (n : Nat) (os : List O) : (pr.ct (n + 1)).run 5 os = runD (pr.ct n) d5 os := run_eq rfl os
@[simp] theorem mo6 (n : Nat) : (pr.ct n).modes 6 = [true] := by cases n <;> rfl
@[simp] theorem df6 (n : Nat) : (pr.ct n).dfs 6 = [] := by cases n <;> rfl
theorem ru6 (n : Nat) (os : List O) : (pr.ct (n + 1)).run 6 os = runD (pr.ct n) d6 os := run_eq rfl os
@[simp] theorem mo7 (n : Nat) : (pr.ct n).modes 7 = [true] := by cases n <;> rfl
@[simp] theorem df7 (n : Nat) : (pr.ct n).dfs 7 = [] := by cases n <;> rfl
theorem ru7 (n : Nat) (os : List O) : (pr.ct (n + 1)).run 7 os = runD (pr.ct n) d7 os := run_eq rfl os
@[simp] theorem mo8 (n : Nat) : (pr.ct n).modes 8 = [true] := by cases n <;> rfl
@[simp] theorem df8 (n : Nat) : (pr.ct n).dfs 8 = [] := by cases n <;> rfl
theorem ru8 (n : Nat) (os : List O) : (pr.ct (n + 1)).run 8 os = runD (pr.ct n) d8 os := run_eq rfl os
@[simp] theorem mo9 (n : Nat) : (pr.ct n).modes 9 = [true] := by cases n <;> rfl
@[simp] theorem df9 (n : Nat) : (pr.ct n).dfs 9 = [] := by cases n <;> rfl
theorem ru9 (n : Nat) (os : List O) : (pr.ct (n + 1)).run 9 os = runD (pr.ct n) d9 os := run_eq rfl os
@[simp] theorem mo10 (n : Nat) : (pr.ct n).modes 10 = [true, true, true] := by cases n <;> rfl
@[simp] theorem df10 (n : Nat) : (pr.ct n).dfs 10 = [] := by cases n <;> rfl
theorem ru10 (n : Nat) (os : List O) : (pr.ct (n + 1)).run 10 os = runD (pr.ct n) d10 os := run_eq rfl os
@[simp] theorem mo11 (n : Nat) : (pr.ct n).modes 11 = [true, true] := by cases n <;> rfl
@[simp] theorem df11 (n : Nat) : (pr.ct n).dfs 11 = [] := by cases n <;> rfl
theorem ru11 (n : Nat) (os : List O) : (pr.ct (n + 1)).run 11 os = runD (pr.ct n) d11 os := run_eq rfl os
@[simp] theorem mo12 (n : Nat) : (pr.ct n).modes 12 = [true, true] := by cases n <;> rfl
@[simp] theorem df12 (n : Nat) : (pr.ct n).dfs 12 = [] := by cases n <;> rfl
theorem ru12 (n : Nat) (os : List O) : (pr.ct (n + 1)).run 12 os = runD (pr.ct n) d12 os := run_eq rfl os
@[simp] theorem mo13 (n : Nat) : (pr.ct n).modes 13 = [true] := by cases n <;> rfl
@[simp] theorem df13 (n : Nat) : (pr.ct n).dfs 13 = [] := by cases n <;> rfl
theorem ru13 (n : Nat) (os : List O) : (pr.ct (n + 1)).run 13 os = runD (pr.ct n) d13 os := run_eq rfl os
@[simp] theorem mo14 (n : Nat) : (pr.ct n).modes 14 = [true] := by cases n <;> rfl
@[simp] theorem df14 (n : Nat) : (pr.ct n).dfs 14 = [] := by cases n <;> rfl
theorem ru14 (n : Nat) (os : List O) : (pr.ct (n + 1)).run 14 os = runD (pr.ct n) d14 os := run_eq rfl os
@[simp] theorem mo15 (n : Nat) : (pr.ct n).modes 15 = [true, true] := by cases n <;> rfl
@[simp] theorem df15 (n : Nat) : (pr.ct n).dfs 15 = [] := by cases n <;> rfl
theorem ru15 (n : Nat) (os : List O) : (pr.ct (n + 1)).run 15 os = runD (pr.ct n) d15 os := run_eq rfl os
@[simp] theorem mo16 (n : Nat) : (pr.ct n).modes 16 = [true] := by cases n <;> rfl
@[simp] theorem df16 (n : Nat) : (pr.ct n).dfs 16 = [] := by cases n <;> rfl
theorem ru16 (n : Nat) (os : List O) : (pr.ct (n + 1)).run 16 os = runD (pr.ct n) d16 os := run_eq rfl os
@[simp] theorem mo17 (n : Nat) : (pr.ct n).modes 17 = [true] := by cases n <;> rfl
@[simp] theorem df17 (n : Nat) : (pr.ct n).dfs 17 = [] := by cases n <;> rfl
theorem ru17 (n : Nat) (os : List O) : (pr.ct (n + 1)).run 17 os = runD (pr.ct n) d17 os := run_eq rfl os
@[simp] theorem mo18 (n : Nat) : (pr.ct n).modes 18 = [true] := by cases n <;> rfl
@[simp] theorem df18 (n : Nat) : (pr.ct n).dfs 18 = [] := by cases n <;> rfl
theorem ru18 (n : Nat) (os : List O) : (pr.ct (n + 1)).run 18 os = runD (pr.ct n) d18 os := run_eq rfl os
@[simp] theorem mo19 (n : Nat) : (pr.ct n).modes 19 = [true] := by cases n <;> rfl
@[simp] theorem df19 (n : Nat) : (pr.ct n).dfs 19 = [] := by cases n <;> rfl
theorem ru19 (n : Nat) (os : List O) : (pr.ct (n + 1)).run 19 os = runD (pr.ct n) d19 os := run_eq rfl os
@[simp] theorem mo20 (n : Nat) : (pr.ct n).modes 20 = [true] := by cases n <;> rfl
@[simp] theorem df20 (n : Nat) : (pr.ct n).dfs 20 = [] := by cases n <;> rfl
theorem ru20 (n : Nat) (os : List O) : (pr.ct (n + 1)).run 20 os = runD (pr.ct n) d20 os := run_eq rfl os
@[simp] theorem mo21 (n : Nat) : (pr.ct n).modes 21 = [true] := by cases n <;> rfl
@[simp] theorem df21 (n : Nat) : (pr.ct n).dfs 21 = [] := by cases n <;> rfl
theorem ru21 (n : Nat) (os : List O) : (pr.ct (n + 1)).run 21 os = runD (pr.ct n) d21 os := run_eq rfl os
@[simp] theorem mo22 (n : Nat) : (pr.ct n).modes 22 = [true] := by cases n <;> rfl
@[simp] theorem df22 (n : Nat) : (pr.ct n).dfs 22 = [] := by cases n <;> rfl
theorem ru22 (n : Nat) (os : List O) : (pr.ct (n + 1)).run 22 os = runD (pr.ct n) d22 os := run_eq rfl os
@[simp] theorem mo23 (n : Nat) : (pr.ct n).modes 23 = [true, true] := by cases n <;> rfl
@[simp] theorem df23 (n : Nat) : (pr.ct n).dfs 23 = [] := by cases n <;> rfl
theorem ru23 (n : Nat) (os : List O) : (pr.ct (n + 1)).run 23 os = runD (pr.ct n) d23 os := run_eq rfl os
@[simp] theorem mo24 (n : Nat) : (pr.ct n).modes 24 = [true] := by cases n <;> rfl
@[simp] theorem df24 (n : Nat) : (pr.ct n).dfs 24 = [] := by cases n <;> rfl
theorem ru24 (n : Nat) (os : List O) : (pr.ct (n + 1)).run 24 os = runD (pr.ct n) d24 os := run_eq rfl os
@[simp] theorem mo25 (n : Nat) : (pr.ct n).modes 25 = [true] := by cases n <;> rfl
@[simp] theorem df25 (n : Nat) : (pr.ct n).dfs 25 = [] := by cases n <;> rfl
theorem ru25 (n : Nat) (os : List O) : (pr.ct (n + 1)).run 25 os = runD (pr.ct n) d25 os := run_eq rfl os
@[simp] theorem mo26 (n : Nat) : (pr.ct n).modes 26 = [true, true] := by cases n <;> rfl
@[simp] theorem df26 (n : Nat) : (pr.ct n).dfs 26 = [] := by cases n <;> rfl
theorem ru26 (n : Nat) (os : List O) : (pr.ct (n + 1)).run 26 os = runD (pr.ct n) d26 os := run_eq rfl os
@[simp] theorem mo27 (n : Nat) : (pr.ct n).modes 27 = [true] := by cases n <;> rfl
@[simp] theorem df27 (n : Nat) : (pr.ct n).dfs 27 = [] := by cases n <;> rfl
theorem ru27 (n : Nat) (os : List O) : (pr.ct (n + 1)).run 27 os = runD (pr.ct n) d27 os := run_eq rfl os
@[simp] theorem mo28 (n : Nat) : (pr.ct n).modes 28 = [true, true] := by cases n <;> rfl
@[simp] theorem df28 (n : Nat) : (pr.ct n).dfs 28 = [] := by cases n <;> rfl
theorem ru28 (n : Nat) (os : List O) : (pr.ct (n + 1)).run 28 os = runD (pr.ct n) d28 os := run_eq rfl os
@[simp] theorem mo29 (n : Nat) : (pr.ct n).modes 29 = [true, true] := by cases n <;> rfl
@[simp] theorem df29 (n : Nat) : (pr.ct n).dfs 29 = [] := by cases n <;> rfl
theorem ru29 (n : Nat) (os : List O) : (pr.ct (n + 1)).run 29 os = runD (pr.ct n) d29 os := run_eq rfl os
@[simp] theorem mo30 (n : Nat) : (pr.ct n).modes 30 = [true] := by cases n <;> rfl
@[simp] theorem df30 (n : Nat) : (pr.ct n).dfs 30 = [] := by cases n <;> rfl
theorem ru30 (n : Nat) (os : List O) : (pr.ct (n + 1)).run 30 os = runD (pr.ct n) d30 os := run_eq rfl os
@[simp] theorem mo31 (n : Nat) : (pr.ct n).modes 31 = [true, true, true] := by cases n <;> rfl
@[simp] theorem df31 (n : Nat) : (pr.ct n).dfs 31 = [] := by cases n <;> rfl
theorem ru31 (n : Nat) (os : List O) : (pr.ct (n + 1)).run 31 os = runD (pr.ct n) d31 os := run_eq rfl os
@[simp] theorem mo32 (n : Nat) : (pr.ct n).modes 32 = [false] := by cases n <;> rfl
@[simp] theorem df32 (n : Nat) : (pr.ct n).dfs 32 = [] := by cases n <;> rfl
theorem ru32 (n : Nat) (os : List O) : (pr.ct (n + 1)).run 32 os = runD (pr.ct n) d32 os := run_eq rfl os
@[simp] theorem me0_9 (n : Nat) : (pr.ct n).meth 0 9 = some 10 := by cases n <;> rfl
@[simp] theorem me0_10 (n : Nat) : (pr.ct n).meth 0 10 = some 11 := by cases n <;> rfl
@[simp] theorem me0_11 (n : Nat) : (pr.ct n).meth 0 11 = some 12 := by cases n <;> rfl
@[simp] theorem me0_12 (n : Nat) : (pr.ct n).meth 0 12 = some 13 := by cases n <;> rfl
@[simp] theorem me0_13 (n : Nat) : (pr.ct n).meth 0 13 = some 15 := by cases n <;> rfl
@[simp] theorem me0_14 (n : Nat) : (pr.ct n).meth 0 14 = some 16 := by cases n <;> rfl
@[simp] theorem me0_15 (n : Nat) : (pr.ct n).meth 0 15 = some 17 := by cases n <;> rfl
@[simp] theorem me0_16 (n : Nat) : (pr.ct n).meth 0 16 = some 18 := by cases n <;> rfl
@[simp] theorem po0_2 (n : Nat) : (pr.ct n).prop 0 2 = some 4 := by cases n <;> rfl
@[simp] theorem po0_4 (n : Nat) : (pr.ct n).prop 0 4 = some 5 := by cases n <;> rfl
@[simp] theorem po0_5 (n : Nat) : (pr.ct n).prop 0 5 = some 6 := by cases n <;> rfl
@[simp] theorem po0_6 (n : Nat) : (pr.ct n).prop 0 6 = some 7 := by cases n <;> rfl
@[simp] theorem po0_7 (n : Nat) : (pr.ct n).prop 0 7 = some 8 := by cases n <;> rfl
@[simp] theorem po0_8 (n : Nat) : (pr.ct n).prop 0 8 = some 9 := by cases n <;> rfl
@[simp] theorem fl0 (n : Nat) : (pr.ct n).flds 0 = [1, 0] := by cases n <;> rfl
@[simp] theorem pn0_1 (n : Nat) : (pr.ct n).prop 0 1 = none := by cases n <;> rfl
@[simp] theorem pn0_0 (n : Nat) : (pr.ct n).prop 0 0 = none := by cases n <;> rfl
@[simp] theorem in0 (n : Nat) : (pr.ct n).init 0 = some 3 := by cases n <;> rfl
@[simp] theorem du0_eq (n : Nat) : (pr.ct n).dun 0 .eq = some 15 := by cases n <;> rfl
@[simp] theorem du0_len (n : Nat) : (pr.ct n).dun 0 .len = some 17 := by cases n <;> rfl
@[simp] theorem ic0 (n : Nat) : (pr.ct n).ic 0 = true := by cases n <;> rfl
@[simp] theorem isi0 (n : Nat) : (pr.ct n).isi (.int) (.own 0) = some false := by cases n <;> rfl
@[simp] theorem isi1 (n : Nat) : (pr.ct n).isi (.bl) (.own 0) = some false := by cases n <;> rfl
@[simp] theorem isi2 (n : Nat) : (pr.ct n).isi (.str) (.own 0) = some false := by cases n <;> rfl
@[simp] theorem isi3 (n : Nat) : (pr.ct n).isi (.non) (.own 0) = some false := by cases n <;> rfl
@[simp] theorem isi4 (n : Nat) : (pr.ct n).isi (.tup) (.own 0) = some false := by cases n <;> rfl
@[simp] theorem isi5 (n : Nat) : (pr.ct n).isi (.lst) (.own 0) = some false := by cases n <;> rfl
@[simp] theorem isi6 (n : Nat) : (pr.ct n).isi (.dct) (.own 0) = some false := by cases n <;> rfl
@[simp] theorem isi7 (n : Nat) : (pr.ct n).isi (.own 0) (.own 0) = some true := by cases n <;> rfl
@[simp] theorem isi8 (n : Nat) : (pr.ct n).isi (.int) (.bl) = some false := by cases n <;> rfl
@[simp] theorem isi9 (n : Nat) : (pr.ct n).isi (.bl) (.bl) = some true := by cases n <;> rfl
@[simp] theorem isi10 (n : Nat) : (pr.ct n).isi (.str) (.bl) = some false := by cases n <;> rfl
@[simp] theorem isi11 (n : Nat) : (pr.ct n).isi (.non) (.bl) = some false := by cases n <;> rfl
@[simp] theorem isi12 (n : Nat) : (pr.ct n).isi (.tup) (.bl) = some false := by cases n <;> rfl
@[simp] theorem isi13 (n : Nat) : (pr.ct n).isi (.lst) (.bl) = some false := by cases n <;> rfl
@[simp] theorem isi14 (n : Nat) : (pr.ct n).isi (.dct) (.bl) = some false := by cases n <;> rfl
@[simp] theorem isi15 (n : Nat) : (pr.ct n).isi (.own 0) (.bl) = some false := by cases n <;> rfl
@[simp] theorem isi16 (n : Nat) : (pr.ct n).isi (.int) (.int) = some true := by cases n <;> rfl
@[simp] theorem isi17 (n : Nat) : (pr.ct n).isi (.bl) (.int) = some true := by cases n <;> rfl
@[simp] theorem isi18 (n : Nat) : (pr.ct n).isi (.str) (.int) = some false := by cases n <;> rfl
@[simp] theorem isi19 (n : Nat) : (pr.ct n).isi (.non) (.int) = some false := by cases n <;> rfl
@[simp] theorem isi20 (n : Nat) : (pr.ct n).isi (.tup) (.int) = some false := by cases n <;> rfl
@[simp] theorem isi21 (n : Nat) : (pr.ct n).isi (.lst) (.int) = some false := by cases n <;> rfl
@[simp] theorem isi22 (n : Nat) : (pr.ct n).isi (.dct) (.int) = some false := by cases n <;> rfl
@[simp] theorem isi23 (n : Nat) : (pr.ct n).isi (.own 0) (.int) = some false := by cases n <;> rfl
@[simp] theorem isi24 (n : Nat) : (pr.ct n).isi (.int) (.str) = some false := by cases n <;> rfl
@[simp] theorem isi25 (n : Nat) : (pr.ct n).isi (.bl) (.str) = some false := by cases n <;> rfl
@[simp] theorem isi26 (n : Nat) : (pr.ct n).isi (.str) (.str) = some true := by cases n <;> rfl
@[simp] theorem isi27 (n : Nat) : (pr.ct n).isi (.non) (.str) = some false := by cases n <;> rfl
@[simp] theorem isi28 (n : Nat) : (pr.ct n).isi (.tup) (.str) = some false := by cases n <;> rfl
@[simp] theorem isi29 (n : Nat) : (pr.ct n).isi (.lst) (.str) = some false := by cases n <;> rfl
@[simp] theorem isi30 (n : Nat) : (pr.ct n).isi (.dct) (.str) = some false := by cases n <;> rfl
@[simp] theorem isi31 (n : Nat) : (pr.ct n).isi (.own 0) (.str) = some false := by cases n <;> rfl
theorem ix0 : IsX x0 := ⟨⟨rfl, rfl, rfl, by decide +kernel, by decide +kernel, by decide +kernel, by decide +kernel, by decide +kernel, by decide +kernel⟩, by decide +kernel, fun _ _ _ _ _ _ _ us hl => match us, hl with | [_, _], _ => rfl, ⟨_, rfl, rfl⟩⟩
@[simp] theorem ex2 (n : Nat) : (pr.ct n).exc 2 = some ⟨1, [(3, 1)], [.kon "no such number"]⟩ := by cases n <;> rfl
theorem ix1 : IsX x1 := ⟨⟨rfl, rfl, rfl, by decide +kernel, by decide +kernel, by decide +kernel, by decide +kernel, by decide +kernel, by decide +kernel⟩, by decide +kernel, fun _ _ _ _ _ _ _ us hl => match us, hl with | [_, _], _ => rfl, ⟨_, rfl, rfl⟩⟩
@[simp] theorem ex3 (n : Nat) : (pr.ct n).exc 3 = some ⟨1, [(0, 1)], [.kon "size"]⟩ := by cases n <;> rfl
theorem ix2 : IsX x2 := ⟨⟨rfl, rfl, rfl, by decide +kernel, by decide +kernel, by decide +kernel, by decide +kernel, by decide +kernel, by decide +kernel⟩, by decide +kernel, fun _ _ _ _ _ _ _ us hl => match us, hl with | [_, _], _ => rfl, ⟨_, rfl, rfl⟩⟩
@[simp] theorem ex4 (n : Nat) : (pr.ct n).exc 4 = some ⟨1, [(17, 1)], [.kon "column", .par 1]⟩ := by cases n <;> rfl
theorem ix3 : IsX x3 := ⟨⟨rfl, rfl, rfl, by decide +kernel, by decide +kernel, by decide +kernel, by decide +kernel, by decide +kernel, by decide +kernel⟩, by decide +kernel, fun _ _ _ _ _ _ _ us hl => match us, hl with | [_, _], _ => rfl, ⟨_, rfl, rfl⟩⟩
@[simp] theorem ex5 (n : Nat) : (pr.ct n).exc 5 = some ⟨1, [(18, 1)], [.kon "boundary"]⟩ := by cases n <;> rfl
@[simp] theorem exm2_3 (n : Nat) : (pr.ct n).exm 2 3 = some false := by cases n <;> rfl
@[simp] theorem exm2_2 (n : Nat) : (pr.ct n).exm 2 2 = some true := by cases n <;> rfl
@[simp] theorem exm3_3 (n : Nat) : (pr.ct n).exm 3 3 = some true := by cases n <;> rfl
@[simp] theorem exm3_2 (n : Nat) : (pr.ct n).exm 3 2 = some false := by cases n <;> rfl
@[simp] theorem exm4_3 (n : Nat) : (pr.ct n).exm 4 3 = some false := by cases n <;> rfl
@[simp] theorem exm4_2 (n : Nat) : (pr.ct n).exm 4 2 = some false := by cases n <;> rfl
@[simp] theorem exm5_3 (n : Nat) : (pr.ct n).exm 5 3 = some false := by cases n <;> rfl
@[simp] theorem exm5_2 (n : Nat) : (pr.ct n).exm 5 2 = some false := by cases n <;> rfl
@[simp] theorem xfl2_3 (n : Nat) : (pr.ct n).xfl 2 3 = true := by cases n <;> rfl
@[simp] theorem xfl3_0 (n : Nat) : (pr.ct n).xfl 3 0 = true := by cases n <;> rfl
@[simp] theorem xfl4_17 (n : Nat) : (pr.ct n).xfl 4 17 = true := by cases n <;> rfl
@[simp] theorem xfl5_18 (n : Nat) : (pr.ct n).xfl 5 18 = true := by cases n <;> rfl
theorem all_xs : ∀ d ∈ sp.xs, IsX d := by
  intro d h; simp only [sp, List.mem_cons, List.not_mem_nil, or_false] at h; rcases h with rfl | rfl | rfl | rfl
  · exact ix0
  · exact ix1
  · exact ix2
  · exact ix3
theorem p_ok : POk prog sp.T.file := ⟨by kernel_rfl, by kernel_rfl⟩
theorem sp_ok : sp.ok = true := by decide +kernel
theorem all_defs : ∀ (f : Nat) (d : Df) (z : DefZ), sp.p.defs[f]? = some d → sp.fn[f]? = some z → sp.Def d z
  | 0, _, _, rfl, rfl => def_plain is0 rfl rfl bn0
  | 1, _, _, rfl, rfl => def_plain is1 rfl rfl bn1
  | 2, _, _, rfl, rfl => def_plain is2 rfl rfl bn2
  | 3, _, _, rfl, rfl => def_plain is3 rfl rfl bn3
  | 4, _, _, rfl, rfl => def_plain is4 rfl rfl bn4
  | 5, _, _, rfl, rfl => def_plain is5 rfl rfl bn5
  | 6, _, _, rfl, rfl => def_plain is6 rfl rfl bn6
  | 7, _, _, rfl, rfl => def_plain is7 rfl rfl bn7
  | 8, _, _, rfl, rfl => def_plain is8 rfl rfl bn8
  | 9, _, _, rfl, rfl => def_plain is9 rfl rfl bn9
  | 10, _, _, rfl, rfl => def_plain is10 rfl rfl bn10
  | 11, _, _, rfl, rfl => def_plain is11 rfl rfl bn11
  | 12, _, _, rfl, rfl => def_plain is12 rfl rfl bn12
  | 13, _, _, rfl, rfl => def_plain is13 rfl rfl bn13
  | 14, _, _, rfl, rfl => def_plain is14 rfl rfl bn14
  | 15, _, _, rfl, rfl => def_plain is15 rfl rfl bn15
  | 16, _, _, rfl, rfl => def_plain is16 rfl rfl bn16
  | 17, _, _, rfl, rfl => def_plain is17 rfl rfl bn17
  | 18, _, _, rfl, rfl => def_plain is18 rfl rfl bn18
  | 19, _, _, rfl, rfl => def_plain is19 rfl rfl bn19
  | 20, _, _, rfl, rfl => def_plain is20 rfl rfl bn20
  | 21, _, _, rfl, rfl => def_plain is21 rfl rfl bn21
  | 22, _, _, rfl, rfl => def_plain is22 rfl rfl bn22
  | 23, _, _, rfl, rfl => def_plain is23 rfl rfl bn23
  | 24, _, _, rfl, rfl => def_plain is24 rfl rfl bn24
  | 25, _, _, rfl, rfl => def_plain is25 rfl rfl bn25
  | 26, _, _, rfl, rfl => def_plain is26 rfl rfl bn26
  | 27, _, _, rfl, rfl => def_plain is27 rfl rfl bn27
  | 28, _, _, rfl, rfl => def_plain is28 rfl rfl bn28
  | 29, _, _, rfl, rfl => def_plain is29 rfl rfl bn29
  | 30, _, _, rfl, rfl => def_plain is30 rfl rfl bn30
  | 31, _, _, rfl, rfl => def_plain is31 rfl rfl bn31
  | 32, _, _, rfl, rfl => def_plain is32 rfl rfl bn32
  | _ + 33, _, _, h, _ => by simp [sp, pr] at h
theorem all_gens : ∀ (g : Nat) (d : Dg) (z : DefZ), sp.p.gens[g]? = some d → sp.gn[g]? = some z → sp.GDef d z
  | 0, _, _, rfl, rfl => gdef_plain ig0 rfl bg0
  | _ + 1, _, _, h, _ => by simp [sp, pr] at h
abbrev Rw : PySem.W.OpenRow := PySem.W.OpenLaw.row PySem.Challenge.rw_slitstairs_k04_whole_all_columns_counted
abbrev hk : PySem.W.Hook := hookZ 6 sp.hk
def ob (s : PySem.W.SharedT) : AlZ := seeG 6 sp.hk (HandSHeadRun.getT s)
theorem ob_eq (s : PySem.W.SharedT) : ob s = hk.obs s.abs := seeG_eq (HandSHeadRun.getT_eq s)
def loose : List Str := (["_wall", "CardError", "NoSuch", "BadSize", "BadColumn", "BadBoundary", "MOST_SIZE", "is_whole", "word_fault", "Column", "check_size", "rests_of", "all_columns", "how_many_columns", "column_index", "column_at", "plain_column", "steep_column", "_law_mix", "_law_hand", "_law_draw", "_law_word", "_law_all_words", "_law_refused"] : List Str)
theorem run (w : World) : HandSHeadRun.RunEq Rw (PySem.W.view Rw.prog [28]) hk ob 4000 loose w := by
  intro os
  kernel_rfl
theorem fin_ (math : ∀ ns : List Int, ns.length ≤ 63 → (∀ i ∈ ns, Builtin.Int.intBits i ≤ 1048576) → ∃ outs, (sp.p.ct (40 + 1)).run 32 [.val (.scr ns)] = .ret (.val (.bl true)) outs) : PySem.Challenge.rw_slitstairs_k04_whole_all_columns_counted.Holds := by
  w_on; o_law
  refine HandSHeadRun.head_any (r := Rw) (q := PySem.W.view Rw.prog [28]) (H := hk) (ob := ob) (M := 4000) (loose := loose) (d := HandSHeadRun.topDef Rw.prog 28) (kwd := []) ob_eq (by kernel_rfl) (fun s => by kernel_rfl) run (by kernel_rfl) (by kernel_rfl) (by kernel_rfl) (by rfl) (by first | assumption | decide +kernel) (by decide +kernel) ⟨rfl, rfl, rfl, rfl, rfl, by decide +kernel⟩ ?hw ?hc
  case hw => w_witness2
  case hc =>
    refine walk_z (l := PySem.Challenge.rw_slitstairs_k04_whole_all_columns_counted) (n := 63) (x := "_law_script") (CX := fun w => L2.CX Rw.prog w) rfl (by decide) (by kernel_rfl) (k := 165) ⟨rfl, by decide, by decide⟩ (fun w mg fa h Y G hmg => end_of (g := 6) (n := 40) (name := "law") sp_ok all_xs p_ok all_defs all_gens (zl := (rfl : sp.fn[32]? = some z32)) (dl := (rfl : sp.p.defs[32]? = some d32)) is32 rfl rfl rfl bn32 math w mg fa h Y G hmg) (fun w H s e s' h => ?_)
    exact cx_none h
end K04
end

section
set_option maxRecDepth 100007
set_option maxHeartbeats 0
namespace K04
open Z PySem L2 PyProof.Rows
/-! ### draws -/
theorem drawOk (n : Nat) : DrawOk (pr.ct (n + 2)) 28 := ⟨mo28 _, df28 _, fun s m h0 h1 => by
  obtain ⟨x, i', r', t', a1, a2, ok, e⟩ := run_draw (pr.ct (n + 1)) 26 (mo26 _) (fun a b ha hb => by rw [ru26]; exact run_mix _ a b ha hb) s.ok h0 h1
  refine ⟨x, ⟨s.cells, i', r', t', ok⟩, a1, a2, ?_⟩
  rw [ru28]
  exact e⟩
theorem word (n : Nat) (s : Hst) (k : Nat) (h1 : 1 ≤ k) (h6 : k ≤ 6) : ∃ w s', w ∈ Wn k ∧ (pr.ct (n + 3)).run 29 [s.o, .val (.int k)] = .ret (.val (.str w)) [some (Hst.o s'), some (.val (.int k))] := by
  rw [ru29]
  exact run_word _ 28 (drawOk n) s k h1 h6
theorem hand_ok (n : Nat) (ns : List Int) (hl : ns.length ≤ 63) : ∃ s : Hst, (pr.ct (n + 1)).run 27 [.val (.scr ns)] = .ret s.o [some (.val (.scr ns))] := by
  obtain ⟨t, t0, t1, e⟩ := run_hand (pr.ct n) ns hl
  refine ⟨⟨ns.map fun i => if i < 0 then -i else i, 0, 0, t, ⟨fun c hc => ?_, by decide, by simp, by decide, t0, t1, by rw [List.length_map]; exact hl⟩⟩, ?_⟩
  · obtain ⟨i, _, rfl⟩ := List.mem_map.mp hc
    split <;> omega
  · rw [ru27]
    exact e
/-! ### words and tables -/
def wl1 : List (List Nat) := [[100, 111]]
def wl2 : List (List Nat) := [[100, 100, 111, 111], [100, 111, 100, 111]]
def wl3 : List (List Nat) := [[100, 100, 100, 111, 111, 111], [100, 100, 111, 100, 111, 111], [100, 100, 111, 111, 100, 111], [100, 111, 100, 100, 111, 111], [100, 111, 100, 111, 100, 111]]
def wl4 : List (List Nat) := [[100, 100, 100, 100, 111, 111, 111, 111], [100, 100, 100, 111, 100, 111, 111, 111], [100, 100, 100, 111, 111, 100, 111, 111], [100, 100, 100, 111, 111, 111, 100, 111], [100, 100, 111, 100, 100, 111, 111, 111], [100, 100, 111, 100, 111, 100, 111, 111], [100, 100, 111, 100, 111, 111, 100, 111], [100, 100, 111, 111, 100, 100, 111, 111], [100, 100, 111, 111, 100, 111, 100, 111], [100, 111, 100, 100, 100, 111, 111, 111], [100, 111, 100, 100, 111, 100, 111, 111], [100, 111, 100, 100, 111, 111, 100, 111], [100, 111, 100, 111, 100, 100, 111, 111], [100, 111, 100, 111, 100, 111, 100, 111]]
def wl5 : List (List Nat) := [[100, 100, 100, 100, 100, 111, 111, 111, 111, 111], [100, 100, 100, 100, 111, 100, 111, 111, 111, 111], [100, 100, 100, 100, 111, 111, 100, 111, 111, 111], [100, 100, 100, 100, 111, 111, 111, 100, 111, 111], [100, 100, 100, 100, 111, 111, 111, 111, 100, 111], [100, 100, 100, 111, 100, 100, 111, 111, 111, 111], [100, 100, 100, 111, 100, 111, 100, 111, 111, 111], [100, 100, 100, 111, 100, 111, 111, 100, 111, 111], [100, 100, 100, 111, 100, 111, 111, 111, 100, 111], [100, 100, 100, 111, 111, 100, 100, 111, 111, 111], [100, 100, 100, 111, 111, 100, 111, 100, 111, 111], [100, 100, 100, 111, 111, 100, 111, 111, 100, 111], [100, 100, 100, 111, 111, 111, 100, 100, 111, 111], [100, 100, 100, 111, 111, 111, 100, 111, 100, 111], [100, 100, 111, 100, 100, 100, 111, 111, 111, 111], [100, 100, 111, 100, 100, 111, 100, 111, 111, 111], [100, 100, 111, 100, 100, 111, 111, 100, 111, 111], [100, 100, 111, 100, 100, 111, 111, 111, 100, 111], [100, 100, 111, 100, 111, 100, 100, 111, 111, 111], [100, 100, 111, 100, 111, 100, 111, 100, 111, 111], [100, 100, 111, 100, 111, 100, 111, 111, 100, 111], [100, 100, 111, 100, 111, 111, 100, 100, 111, 111], [100, 100, 111, 100, 111, 111, 100, 111, 100, 111], [100, 100, 111, 111, 100, 100, 100, 111, 111, 111], [100, 100, 111, 111, 100, 100, 111, 100, 111, 111], [100, 100, 111, 111, 100, 100, 111, 111, 100, 111], [100, 100, 111, 111, 100, 111, 100, 100, 111, 111], [100, 100, 111, 111, 100, 111, 100, 111, 100, 111], [100, 111, 100, 100, 100, 100, 111, 111, 111, 111], [100, 111, 100, 100, 100, 111, 100, 111, 111, 111], [100, 111, 100, 100, 100, 111, 111, 100, 111, 111], [100, 111, 100, 100, 100, 111, 111, 111, 100, 111], [100, 111, 100, 100, 111, 100, 100, 111, 111, 111], [100, 111, 100, 100, 111, 100, 111, 100, 111, 111], [100, 111, 100, 100, 111, 100, 111, 111, 100, 111], [100, 111, 100, 100, 111, 111, 100, 100, 111, 111], [100, 111, 100, 100, 111, 111, 100, 111, 100, 111], [100, 111, 100, 111, 100, 100, 100, 111, 111, 111], [100, 111, 100, 111, 100, 100, 111, 100, 111, 111], [100, 111, 100, 111, 100, 100, 111, 111, 100, 111], [100, 111, 100, 111, 100, 111, 100, 100, 111, 111], [100, 111, 100, 111, 100, 111, 100, 111, 100, 111]]
def wl6 : List (List Nat) := [[100, 100, 100, 100, 100, 100, 111, 111, 111, 111, 111, 111], [100, 100, 100, 100, 100, 111, 100, 111, 111, 111, 111, 111], [100, 100, 100, 100, 100, 111, 111, 100, 111, 111, 111, 111], [100, 100, 100, 100, 100, 111, 111, 111, 100, 111, 111, 111], [100, 100, 100, 100, 100, 111, 111, 111, 111, 100, 111, 111], [100, 100, 100, 100, 100, 111, 111, 111, 111, 111, 100, 111], [100, 100, 100, 100, 111, 100, 100, 111, 111, 111, 111, 111], [100, 100, 100, 100, 111, 100, 111, 100, 111, 111, 111, 111], [100, 100, 100, 100, 111, 100, 111, 111, 100, 111, 111, 111], [100, 100, 100, 100, 111, 100, 111, 111, 111, 100, 111, 111], [100, 100, 100, 100, 111, 100, 111, 111, 111, 111, 100, 111], [100, 100, 100, 100, 111, 111, 100, 100, 111, 111, 111, 111], [100, 100, 100, 100, 111, 111, 100, 111, 100, 111, 111, 111], [100, 100, 100, 100, 111, 111, 100, 111, 111, 100, 111, 111], [100, 100, 100, 100, 111, 111, 100, 111, 111, 111, 100, 111], [100, 100, 100, 100, 111, 111, 111, 100, 100, 111, 111, 111], [100, 100, 100, 100, 111, 111, 111, 100, 111, 100, 111, 111], [100, 100, 100, 100, 111, 111, 111, 100, 111, 111, 100, 111], [100, 100, 100, 100, 111, 111, 111, 111, 100, 100, 111, 111], [100, 100, 100, 100, 111, 111, 111, 111, 100, 111, 100, 111], [100, 100, 100, 111, 100, 100, 100, 111, 111, 111, 111, 111], [100, 100, 100, 111, 100, 100, 111, 100, 111, 111, 111, 111], [100, 100, 100, 111, 100, 100, 111, 111, 100, 111, 111, 111], [100, 100, 100, 111, 100, 100, 111, 111, 111, 100, 111, 111], [100, 100, 100, 111, 100, 100, 111, 111, 111, 111, 100, 111], [100, 100, 100, 111, 100, 111, 100, 100, 111, 111, 111, 111], [100, 100, 100, 111, 100, 111, 100, 111, 100, 111, 111, 111], [100, 100, 100, 111, 100, 111, 100, 111, 111, 100, 111, 111], [100, 100, 100, 111, 100, 111, 100, 111, 111, 111, 100, 111], [100, 100, 100, 111, 100, 111, 111, 100, 100, 111, 111, 111], [100, 100, 100, 111, 100, 111, 111, 100, 111, 100, 111, 111], [100, 100, 100, 111, 100, 111, 111, 100, 111, 111, 100, 111], [100, 100, 100, 111, 100, 111, 111, 111, 100, 100, 111, 111], [100, 100, 100, 111, 100, 111, 111, 111, 100, 111, 100, 111], [100, 100, 100, 111, 111, 100, 100, 100, 111, 111, 111, 111], [100, 100, 100, 111, 111, 100, 100, 111, 100, 111, 111, 111], [100, 100, 100, 111, 111, 100, 100, 111, 111, 100, 111, 111], [100, 100, 100, 111, 111, 100, 100, 111, 111, 111, 100, 111], [100, 100, 100, 111, 111, 100, 111, 100, 100, 111, 111, 111], [100, 100, 100, 111, 111, 100, 111, 100, 111, 100, 111, 111], [100, 100, 100, 111, 111, 100, 111, 100, 111, 111, 100, 111], [100, 100, 100, 111, 111, 100, 111, 111, 100, 100, 111, 111], [100, 100, 100, 111, 111, 100, 111, 111, 100, 111, 100, 111], [100, 100, 100, 111, 111, 111, 100, 100, 100, 111, 111, 111], [100, 100, 100, 111, 111, 111, 100, 100, 111, 100, 111, 111], [100, 100, 100, 111, 111, 111, 100, 100, 111, 111, 100, 111], [100, 100, 100, 111, 111, 111, 100, 111, 100, 100, 111, 111], [100, 100, 100, 111, 111, 111, 100, 111, 100, 111, 100, 111], [100, 100, 111, 100, 100, 100, 100, 111, 111, 111, 111, 111], [100, 100, 111, 100, 100, 100, 111, 100, 111, 111, 111, 111], [100, 100, 111, 100, 100, 100, 111, 111, 100, 111, 111, 111], [100, 100, 111, 100, 100, 100, 111, 111, 111, 100, 111, 111], [100, 100, 111, 100, 100, 100, 111, 111, 111, 111, 100, 111], [100, 100, 111, 100, 100, 111, 100, 100, 111, 111, 111, 111], [100, 100, 111, 100, 100, 111, 100, 111, 100, 111, 111, 111], [100, 100, 111, 100, 100, 111, 100, 111, 111, 100, 111, 111], [100, 100, 111, 100, 100, 111, 100, 111, 111, 111, 100, 111], [100, 100, 111, 100, 100, 111, 111, 100, 100, 111, 111, 111], [100, 100, 111, 100, 100, 111, 111, 100, 111, 100, 111, 111], [100, 100, 111, 100, 100, 111, 111, 100, 111, 111, 100, 111], [100, 100, 111, 100, 100, 111, 111, 111, 100, 100, 111, 111], [100, 100, 111, 100, 100, 111, 111, 111, 100, 111, 100, 111], [100, 100, 111, 100, 111, 100, 100, 100, 111, 111, 111, 111], [100, 100, 111, 100, 111, 100, 100, 111, 100, 111, 111, 111], [100, 100, 111, 100, 111, 100, 100, 111, 111, 100, 111, 111], [100, 100, 111, 100, 111, 100, 100, 111, 111, 111, 100, 111], [100, 100, 111, 100, 111, 100, 111, 100, 100, 111, 111, 111], [100, 100, 111, 100, 111, 100, 111, 100, 111, 100, 111, 111], [100, 100, 111, 100, 111, 100, 111, 100, 111, 111, 100, 111], [100, 100, 111, 100, 111, 100, 111, 111, 100, 100, 111, 111], [100, 100, 111, 100, 111, 100, 111, 111, 100, 111, 100, 111], [100, 100, 111, 100, 111, 111, 100, 100, 100, 111, 111, 111], [100, 100, 111, 100, 111, 111, 100, 100, 111, 100, 111, 111], [100, 100, 111, 100, 111, 111, 100, 100, 111, 111, 100, 111], [100, 100, 111, 100, 111, 111, 100, 111, 100, 100, 111, 111], [100, 100, 111, 100, 111, 111, 100, 111, 100, 111, 100, 111], [100, 100, 111, 111, 100, 100, 100, 100, 111, 111, 111, 111], [100, 100, 111, 111, 100, 100, 100, 111, 100, 111, 111, 111], [100, 100, 111, 111, 100, 100, 100, 111, 111, 100, 111, 111], [100, 100, 111, 111, 100, 100, 100, 111, 111, 111, 100, 111], [100, 100, 111, 111, 100, 100, 111, 100, 100, 111, 111, 111], [100, 100, 111, 111, 100, 100, 111, 100, 111, 100, 111, 111], [100, 100, 111, 111, 100, 100, 111, 100, 111, 111, 100, 111], [100, 100, 111, 111, 100, 100, 111, 111, 100, 100, 111, 111], [100, 100, 111, 111, 100, 100, 111, 111, 100, 111, 100, 111], [100, 100, 111, 111, 100, 111, 100, 100, 100, 111, 111, 111], [100, 100, 111, 111, 100, 111, 100, 100, 111, 100, 111, 111], [100, 100, 111, 111, 100, 111, 100, 100, 111, 111, 100, 111], [100, 100, 111, 111, 100, 111, 100, 111, 100, 100, 111, 111], [100, 100, 111, 111, 100, 111, 100, 111, 100, 111, 100, 111], [100, 111, 100, 100, 100, 100, 100, 111, 111, 111, 111, 111], [100, 111, 100, 100, 100, 100, 111, 100, 111, 111, 111, 111], [100, 111, 100, 100, 100, 100, 111, 111, 100, 111, 111, 111], [100, 111, 100, 100, 100, 100, 111, 111, 111, 100, 111, 111], [100, 111, 100, 100, 100, 100, 111, 111, 111, 111, 100, 111], [100, 111, 100, 100, 100, 111, 100, 100, 111, 111, 111, 111], [100, 111, 100, 100, 100, 111, 100, 111, 100, 111, 111, 111], [100, 111, 100, 100, 100, 111, 100, 111, 111, 100, 111, 111], [100, 111, 100, 100, 100, 111, 100, 111, 111, 111, 100, 111], [100, 111, 100, 100, 100, 111, 111, 100, 100, 111, 111, 111], [100, 111, 100, 100, 100, 111, 111, 100, 111, 100, 111, 111], [100, 111, 100, 100, 100, 111, 111, 100, 111, 111, 100, 111], [100, 111, 100, 100, 100, 111, 111, 111, 100, 100, 111, 111], [100, 111, 100, 100, 100, 111, 111, 111, 100, 111, 100, 111], [100, 111, 100, 100, 111, 100, 100, 100, 111, 111, 111, 111], [100, 111, 100, 100, 111, 100, 100, 111, 100, 111, 111, 111], [100, 111, 100, 100, 111, 100, 100, 111, 111, 100, 111, 111], [100, 111, 100, 100, 111, 100, 100, 111, 111, 111, 100, 111], [100, 111, 100, 100, 111, 100, 111, 100, 100, 111, 111, 111], [100, 111, 100, 100, 111, 100, 111, 100, 111, 100, 111, 111], [100, 111, 100, 100, 111, 100, 111, 100, 111, 111, 100, 111], [100, 111, 100, 100, 111, 100, 111, 111, 100, 100, 111, 111], [100, 111, 100, 100, 111, 100, 111, 111, 100, 111, 100, 111], [100, 111, 100, 100, 111, 111, 100, 100, 100, 111, 111, 111], [100, 111, 100, 100, 111, 111, 100, 100, 111, 100, 111, 111], [100, 111, 100, 100, 111, 111, 100, 100, 111, 111, 100, 111], [100, 111, 100, 100, 111, 111, 100, 111, 100, 100, 111, 111], [100, 111, 100, 100, 111, 111, 100, 111, 100, 111, 100, 111], [100, 111, 100, 111, 100, 100, 100, 100, 111, 111, 111, 111], [100, 111, 100, 111, 100, 100, 100, 111, 100, 111, 111, 111], [100, 111, 100, 111, 100, 100, 100, 111, 111, 100, 111, 111], [100, 111, 100, 111, 100, 100, 100, 111, 111, 111, 100, 111], [100, 111, 100, 111, 100, 100, 111, 100, 100, 111, 111, 111], [100, 111, 100, 111, 100, 100, 111, 100, 111, 100, 111, 111], [100, 111, 100, 111, 100, 100, 111, 100, 111, 111, 100, 111], [100, 111, 100, 111, 100, 100, 111, 111, 100, 100, 111, 111], [100, 111, 100, 111, 100, 100, 111, 111, 100, 111, 100, 111], [100, 111, 100, 111, 100, 111, 100, 100, 100, 111, 111, 111], [100, 111, 100, 111, 100, 111, 100, 100, 111, 100, 111, 111], [100, 111, 100, 111, 100, 111, 100, 100, 111, 111, 100, 111], [100, 111, 100, 111, 100, 111, 100, 111, 100, 100, 111, 111], [100, 111, 100, 111, 100, 111, 100, 111, 100, 111, 100, 111]]
def tl1 : List D := [.lst [.int 1, .int 0, .int 0, .int 0], .lst [.int 0, .int 1, .int 0, .int 0], .lst [.int 1, .int 0, .int 1, .int 0]]
def tl2 : List D := [.lst [.int 1, .int 0, .int 0, .int 0, .int 0, .int 0], .lst [.int 0, .int 1, .int 0, .int 0, .int 0, .int 0], .lst [.int 1, .int 0, .int 1, .int 0, .int 0, .int 0], .lst [.int 0, .int 2, .int 0, .int 1, .int 0, .int 0], .lst [.int 2, .int 0, .int 3, .int 0, .int 1, .int 0]]
def tl3 : List D := [.lst [.int 1, .int 0, .int 0, .int 0, .int 0, .int 0, .int 0, .int 0], .lst [.int 0, .int 1, .int 0, .int 0, .int 0, .int 0, .int 0, .int 0], .lst [.int 1, .int 0, .int 1, .int 0, .int 0, .int 0, .int 0, .int 0], .lst [.int 0, .int 2, .int 0, .int 1, .int 0, .int 0, .int 0, .int 0], .lst [.int 2, .int 0, .int 3, .int 0, .int 1, .int 0, .int 0, .int 0], .lst [.int 0, .int 5, .int 0, .int 4, .int 0, .int 1, .int 0, .int 0], .lst [.int 5, .int 0, .int 9, .int 0, .int 5, .int 0, .int 1, .int 0]]
def tl4 : List D := [.lst [.int 1, .int 0, .int 0, .int 0, .int 0, .int 0, .int 0, .int 0, .int 0, .int 0], .lst [.int 0, .int 1, .int 0, .int 0, .int 0, .int 0, .int 0, .int 0, .int 0, .int 0], .lst [.int 1, .int 0, .int 1, .int 0, .int 0, .int 0, .int 0, .int 0, .int 0, .int 0], .lst [.int 0, .int 2, .int 0, .int 1, .int 0, .int 0, .int 0, .int 0, .int 0, .int 0], .lst [.int 2, .int 0, .int 3, .int 0, .int 1, .int 0, .int 0, .int 0, .int 0, .int 0], .lst [.int 0, .int 5, .int 0, .int 4, .int 0, .int 1, .int 0, .int 0, .int 0, .int 0], .lst [.int 5, .int 0, .int 9, .int 0, .int 5, .int 0, .int 1, .int 0, .int 0, .int 0], .lst [.int 0, .int 14, .int 0, .int 14, .int 0, .int 6, .int 0, .int 1, .int 0, .int 0], .lst [.int 14, .int 0, .int 28, .int 0, .int 20, .int 0, .int 7, .int 0, .int 1, .int 0]]
def tl5 : List D := [.lst [.int 1, .int 0, .int 0, .int 0, .int 0, .int 0, .int 0, .int 0, .int 0, .int 0, .int 0, .int 0], .lst [.int 0, .int 1, .int 0, .int 0, .int 0, .int 0, .int 0, .int 0, .int 0, .int 0, .int 0, .int 0], .lst [.int 1, .int 0, .int 1, .int 0, .int 0, .int 0, .int 0, .int 0, .int 0, .int 0, .int 0, .int 0], .lst [.int 0, .int 2, .int 0, .int 1, .int 0, .int 0, .int 0, .int 0, .int 0, .int 0, .int 0, .int 0], .lst [.int 2, .int 0, .int 3, .int 0, .int 1, .int 0, .int 0, .int 0, .int 0, .int 0, .int 0, .int 0], .lst [.int 0, .int 5, .int 0, .int 4, .int 0, .int 1, .int 0, .int 0, .int 0, .int 0, .int 0, .int 0], .lst [.int 5, .int 0, .int 9, .int 0, .int 5, .int 0, .int 1, .int 0, .int 0, .int 0, .int 0, .int 0], .lst [.int 0, .int 14, .int 0, .int 14, .int 0, .int 6, .int 0, .int 1, .int 0, .int 0, .int 0, .int 0], .lst [.int 14, .int 0, .int 28, .int 0, .int 20, .int 0, .int 7, .int 0, .int 1, .int 0, .int 0, .int 0], .lst [.int 0, .int 42, .int 0, .int 48, .int 0, .int 27, .int 0, .int 8, .int 0, .int 1, .int 0, .int 0], .lst [.int 42, .int 0, .int 90, .int 0, .int 75, .int 0, .int 35, .int 0, .int 9, .int 0, .int 1, .int 0]]
def tl6 : List D := [.lst [.int 1, .int 0, .int 0, .int 0, .int 0, .int 0, .int 0, .int 0, .int 0, .int 0, .int 0, .int 0, .int 0, .int 0], .lst [.int 0, .int 1, .int 0, .int 0, .int 0, .int 0, .int 0, .int 0, .int 0, .int 0, .int 0, .int 0, .int 0, .int 0], .lst [.int 1, .int 0, .int 1, .int 0, .int 0, .int 0, .int 0, .int 0, .int 0, .int 0, .int 0, .int 0, .int 0, .int 0], .lst [.int 0, .int 2, .int 0, .int 1, .int 0, .int 0, .int 0, .int 0, .int 0, .int 0, .int 0, .int 0, .int 0, .int 0], .lst [.int 2, .int 0, .int 3, .int 0, .int 1, .int 0, .int 0, .int 0, .int 0, .int 0, .int 0, .int 0, .int 0, .int 0], .lst [.int 0, .int 5, .int 0, .int 4, .int 0, .int 1, .int 0, .int 0, .int 0, .int 0, .int 0, .int 0, .int 0, .int 0], .lst [.int 5, .int 0, .int 9, .int 0, .int 5, .int 0, .int 1, .int 0, .int 0, .int 0, .int 0, .int 0, .int 0, .int 0], .lst [.int 0, .int 14, .int 0, .int 14, .int 0, .int 6, .int 0, .int 1, .int 0, .int 0, .int 0, .int 0, .int 0, .int 0], .lst [.int 14, .int 0, .int 28, .int 0, .int 20, .int 0, .int 7, .int 0, .int 1, .int 0, .int 0, .int 0, .int 0, .int 0], .lst [.int 0, .int 42, .int 0, .int 48, .int 0, .int 27, .int 0, .int 8, .int 0, .int 1, .int 0, .int 0, .int 0, .int 0], .lst [.int 42, .int 0, .int 90, .int 0, .int 75, .int 0, .int 35, .int 0, .int 9, .int 0, .int 1, .int 0, .int 0, .int 0], .lst [.int 0, .int 132, .int 0, .int 165, .int 0, .int 110, .int 0, .int 44, .int 0, .int 10, .int 0, .int 1, .int 0, .int 0], .lst [.int 132, .int 0, .int 297, .int 0, .int 275, .int 0, .int 154, .int 0, .int 54, .int 0, .int 11, .int 0, .int 1, .int 0]]
def Wl : Nat → List (List Nat)
  | 1 => wl1 | 2 => wl2 | 3 => wl3 | 4 => wl4 | 5 => wl5 | 6 => wl6 | _ => []
def Tl : Nat → List D
  | 1 => tl1 | 2 => tl2 | 3 => tl3 | 4 => tl4 | 5 => tl5 | 6 => tl6 | _ => []
theorem wl_ok : ∀ n, 1 ≤ n → n ≤ 6 → Wl n = Wn n := fun n h1 h6 => by
  have : n = 1 ∨ n = 2 ∨ n = 3 ∨ n = 4 ∨ n = 5 ∨ n = 6 := by omega
  rcases this with rfl | rfl | rfl | rfl | rfl | rfl <;> decide +kernel
def mapR {α β : Type} (g : α → β) : List α → List β
  | [] => []
  | a :: l => g a :: mapR g l
theorem mapR_eq {α β : Type} (g : α → β) : ∀ l : List α, mapR g l = l.map g
  | [] => rfl
  | a :: l => by rw [mapR, mapR_eq g l, List.map_cons]
theorem all_of {α β : Type} {f g : α → β} {l : List α} (h : l.map f = mapR g l) : ∀ a ∈ l, f a = g a := by
  rw [mapR_eq] at h
  exact List.map_inj_left.mp h
def six : List Nat := [1, 2, 3, 4, 5, 6]
theorem six_of {n : Nat} (h1 : 1 ≤ n) (h6 : n ≤ 6) : n ∈ six := by
  have : n = 1 ∨ n = 2 ∨ n = 3 ∨ n = 4 ∨ n = 5 ∨ n = 6 := by omega
  rcases this with rfl | rfl | rfl | rfl | rfl | rfl <;> simp [six]
theorem of_six {n : Nat} (h : n ∈ six) : 1 ≤ n ∧ n ≤ 6 := by
  simp [six] at h; omega
/-- the table of a size -/
theorem tb_all (k : Nat) : six.map (fun (n : Nat) => (pr.ct (k + 1)).run 20 [.val (.int (n : Int))]) = mapR (fun n => .ret (.lst (Tl n)) [some (.val (.int (n : Int)))]) six := by kernel_rfl
def k1 : Nat → List O → Option RR
  | 20, [.val (.int n)] => if (decide (0 < n) && decide (n < 7)) = true then some (.ret (.lst (Tl n.toNat)) [some (.val (.int n))]) else none
  | _, _ => none
theorem k1_ok (n f : Nat) (os : List O) (r : RR) (h : k1 f os = some r) : (pr.ct (0 + n + 1)).run f os = r := by
  unfold k1 at h
  split at h
  · rename_i i
    split at h
    · rename_i hc
      cases h
      simp only [Bool.and_eq_true, decide_eq_true_eq] at hc
      have := all_of (tb_all (0 + n)) i.toNat (six_of (by omega) (by omega))
      rw [show ((i.toNat : Nat) : Int) = i by omega] at this
      exact this
    · cases h
  · cases h
theorem tab1 (n : Nat) : ctM pr 0 k1 n = pr.ct n := by
  rw [ctM_eq k1_ok, Nat.zero_add]
end K04
end

section
set_option maxRecDepth 100007
set_option maxHeartbeats 0
namespace K04
open Z PySem L2 PyProof.Rows
def co (n : Nat) (w : List Nat) : List (Nat × D) := [(1, .str w), (0, .int n)]
def upN : Nat → Nat → List Nat
  | 0, _ => []
  | m + 1, i => i :: upN m (i + 1)
theorem upN_mem : ∀ {m i j : Nat}, i ≤ j → j < i + m → j ∈ upN m i
  | 0, i, j, h1, h2 => by omega
  | m + 1, i, j, h1, h2 => by
    unfold upN
    by_cases h : j = i
    · subst h; simp
    · exact List.mem_cons_of_mem _ (upN_mem (by omega) (by omega))
def okC (r : RR) (n k : Nat) (w : List Nat) : Bool := match r with
  | .ret (.obj 0 [(1, .str a), (0, .int m)]) [some (.val (.int i)), some (.val (.int j))] => (a == w && m == (n : Int)) && (i == (n : Int) && j == (k : Int))
  | _ => false
theorem okC_ok {r : RR} {n k : Nat} {w : List Nat} (h : okC r n k w = true) : r = .ret (.obj 0 (co n w)) [some (.val (.int n)), some (.val (.int k))] := by
  unfold okC at h
  split at h
  · simp only [Bool.and_eq_true, beq_iff_eq] at h
    obtain ⟨⟨rfl, rfl⟩, rfl, rfl⟩ := h
    rfl
  · cases h
def okCs (C : Ct) (n : Nat) : Nat → List (List Nat) → Bool
  | _, [] => true
  | k, w :: ws => okC (C.run 23 [.val (.int (n : Int)), .val (.int (k : Int))]) n k w && okCs C n (k + 1) ws
theorem okCs_ok {C : Ct} {n : Nat} : ∀ {ws : List (List Nat)} {k : Nat}, okCs C n k ws = true → ∀ j w, ws[j]? = some w → C.run 23 [.val (.int (n : Int)), .val (.int ((k + j : Nat) : Int))] = .ret (.obj 0 (co n w)) [some (.val (.int n)), some (.val (.int ((k + j : Nat) : Int)))]
  | [], k, h, j, w, e => by cases e
  | v :: ws, k, h, j, w, e => by
    unfold okCs at h
    rw [Bool.and_eq_true] at h
    cases j with
    | zero =>
      cases e
      exact okC_ok h.1
    | succ j =>
      have := okCs_ok h.2 j w e
      rw [show k + 1 + j = k + (j + 1) by omega] at this
      exact this
theorem okCs_app {C : Ct} {n : Nat} {a b : List (List Nat)} : ∀ {k : Nat}, okCs C n k a = true → okCs C n (k + a.length) b = true → okCs C n k (a ++ b) = true := by
  induction a with
  | nil => intro k _ h; simpa using h
  | cons x a ih =>
    intro k h1 h2
    unfold okCs at h1
    rw [Bool.and_eq_true] at h1
    rw [List.cons_append, okCs, Bool.and_eq_true]
    exact ⟨h1.1, ih h1.2 (by rw [List.length_cons] at h2; rw [show k + 1 + a.length = k + (a.length + 1) by omega]; exact h2)⟩
theorem at1 (q : Nat) : okCs (ctM pr 0 k1 (q + 6)) 1 0 wl1 = true := by kernel_rfl
theorem at2 (q : Nat) : okCs (ctM pr 0 k1 (q + 6)) 2 0 wl2 = true := by kernel_rfl
theorem at3 (q : Nat) : okCs (ctM pr 0 k1 (q + 6)) 3 0 wl3 = true := by kernel_rfl
theorem at4 (q : Nat) : okCs (ctM pr 0 k1 (q + 6)) 4 0 wl4 = true := by kernel_rfl
theorem at5 (q : Nat) : okCs (ctM pr 0 k1 (q + 6)) 5 0 wl5 = true := by kernel_rfl
theorem at6a (q : Nat) : okCs (ctM pr 0 k1 (q + 6)) 6 0 (wl6.take 33) = true := by kernel_rfl
theorem at6b (q : Nat) : okCs (ctM pr 0 k1 (q + 6)) 6 33 ((wl6.drop 33).take 33) = true := by kernel_rfl
theorem at6c (q : Nat) : okCs (ctM pr 0 k1 (q + 6)) 6 66 ((wl6.drop 66).take 33) = true := by kernel_rfl
theorem at6d (q : Nat) : okCs (ctM pr 0 k1 (q + 6)) 6 99 (wl6.drop 99) = true := by kernel_rfl
theorem at6 (q : Nat) : okCs (ctM pr 0 k1 (q + 6)) 6 0 wl6 = true := by
  have e : wl6 = wl6.take 33 ++ ((wl6.drop 33).take 33 ++ ((wl6.drop 66).take 33 ++ wl6.drop 99)) := by decide +kernel
  have h := okCs_app (at6a q) (okCs_app (by exact at6b q) (okCs_app (by exact at6c q) (by exact at6d q)))
  rw [← e] at h
  exact h
theorem at_all (q : Nat) {n : Nat} (h1 : 1 ≤ n) (h6 : n ≤ 6) : ∀ (j : Nat) w, (Wl n)[j]? = some w → (pr.ct (q + 6)).run 23 [.val (.int (n : Int)), .val (.int (j : Int))] = .ret (.obj 0 (co n w)) [some (.val (.int n)), some (.val (.int (j : Int)))] := by
  intro j w hw
  have : n = 1 ∨ n = 2 ∨ n = 3 ∨ n = 4 ∨ n = 5 ∨ n = 6 := by omega
  have key : okCs (ctM pr 0 k1 (q + 6)) n 0 (Wl n) = true := by
    rcases this with rfl | rfl | rfl | rfl | rfl | rfl
    · exact at1 q
    · exact at2 q
    · exact at3 q
    · exact at4 q
    · exact at5 q
    · exact at6 q
  rw [tab1] at key
  have := okCs_ok key j w hw
  rw [Nat.zero_add] at this
  exact this
/-! ### the table with these -/
def k2 : Nat → List O → Option RR
  | 20, os => k1 20 os
  | 23, [.val (.int n), .val (.int k)] => if (decide (0 < n) && (decide (n < 7) && decide (0 ≤ k))) = true then (match (Wl n.toNat)[k.toNat]? with
    | some w => some (.ret (.obj 0 [(1, .str w), (0, .int n)]) [some (.val (.int n)), some (.val (.int k))])
    | none => none) else none
  | _, _ => none
theorem k2_ok (n f : Nat) (os : List O) (r : RR) (h : k2 f os = some r) : (pr.ct (6 + n + 1)).run f os = r := by
  unfold k2 at h
  split at h
  · have := k1_ok (6 + n) 20 os r h
    rw [Nat.zero_add] at this
    exact this
  · rename_i i k
    split at h
    · rename_i hc
      simp only [Bool.and_eq_true, decide_eq_true_eq] at hc
      split at h
      · rename_i w e
        cases h
        have := at_all (n + 1) (n := i.toNat) (by omega) (by omega) _ w e
        rw [show ((i.toNat : Nat) : Int) = i by omega, show ((k.toNat : Nat) : Int) = k by omega, show n + 1 + 6 = 6 + n + 1 by omega] at this
        rw [this]
        unfold co
        rw [show ((i.toNat : Nat) : Int) = i by omega]
      · cases h
    · cases h
  · cases h
theorem tab2 (n : Nat) : ctM pr 6 k2 n = pr.ct (6 + n) := ctM_eq k2_ok n
end K04
end

section
set_option maxRecDepth 100007
set_option maxHeartbeats 0
namespace K04
open Z PySem L2 PyProof.Rows
abbrev CC : Ct := ctM pr 6 k2 34
theorem C40 : CC = pr.ct 40 := tab2 34
abbrev t0 : Sm := .asg 1 (.call 27 (.cons (.lc 0) .nil))
abbrev t1 : Sm := .asg 2 (.bin .add (.kon (.int 1)) (.call 28 (.cons (.lc 1) (.cons (.kon (.int 6)) .nil))))
abbrev t2 : Sm := .asg 3 (.call 30 (.cons (.lc 2) .nil))
abbrev t3 : Sm := .asg 4 (.call 29 (.cons (.lc 1) (.cons (.lc 2) .nil)))
abbrev t5 : Sm := .asg 10 (.call 22 (.cons (.mk 0 (.cons (.lc 4) .nil)) .nil))
abbrev t6 : Sm := .ife (.or (.cons (.isi (.lc 10) .bl) (.cons (.cmp .ne (.ix (.lc 3) (.lc 10)) (.lc 4)) (.cons (.cmp .ne (.call 23 (.cons (.lc 2) (.cons (.lc 10) .nil))) (.mk 0 (.cons (.lc 4) .nil))) .nil)))) (.seq (.ret (.kon (.bl false))) .nil) .nil
abbrev t7 : Sm := .ife (.or (.cons (.cmp .ne (.call 24 (.cons (.lc 2) .nil)) (.mk 0 (.cons (.bin .add (.bin .mul (.kon (.str [100])) (.lc 2)) (.bin .mul (.kon (.str [111])) (.lc 2))) .nil))) (.cons (.cmp .ne (.call 25 (.cons (.lc 2) .nil)) (.mk 0 (.cons (.bin .mul (.kon (.str [100, 111])) (.lc 2)) .nil))) .nil))) (.seq (.ret (.kon (.bl false))) .nil) .nil
abbrev t8 : Sm := .ife (.or (.cons (.cmp .ne (.attr (.call 24 (.cons (.lc 2) .nil)) 1) (.ix (.lc 3) (.kon (.int 0)))) (.cons (.cmp .ne (.attr (.call 25 (.cons (.lc 2) .nil)) 1) (.ix (.lc 3) (.neg (.kon (.int 1))))) .nil))) (.seq (.ret (.kon (.bl false))) .nil) .nil
abbrev t9 : Sm := .asg 11 (.ix (.lst (.cons (.neg (.kon (.int 1))) (.cons (.bi .len (.cons (.lc 3) .nil)) (.cons (.kon .non) (.cons (.kon (.bl true)) (.cons (.kon (.str [48])) (.cons (.bin .add (.bi .len (.cons (.lc 3) .nil)) (.bin .pow (.kon (.int 10)) (.kon (.int 20)))) (.cons (.neg (.bin .pow (.kon (.int 10)) (.kon (.int 20)))) (.cons (.kon (.bl false)) .nil))))))))) (.call 28 (.cons (.lc 1) (.cons (.kon (.int 8)) .nil))))
abbrev t10 : Sm := .asg 6 (.call 31 (.cons (.kon (.int 4)) (.cons (.lc 2) (.cons (.lc 11) .nil))))
abbrev t11 : Sm := .ife (.or (.cons (.cmp .ne (.lc 6) (.tup (.cons (.kon (.str [110, 117, 109, 98, 101, 114])) (.cons (.lc 11) .nil)))) (.cons (.cmp .ne (.isi (.ix (.lc 6) (.kon (.int 1))) .bl) (.isi (.lc 11) .bl)) .nil))) (.seq (.ret (.kon (.bl false))) .nil) .nil
abbrev t12 : Sm := .asg 12 (.ix (.lst (.cons (.kon (.int 0)) (.cons (.kon (.int 7)) (.cons (.neg (.kon (.int 1))) (.cons (.kon .non) (.cons (.kon (.bl true)) (.cons (.kon (.str [50])) (.cons (.bin .pow (.kon (.int 10)) (.kon (.int 20))) (.cons (.lst (.cons (.kon (.int 2)) .nil)) (.cons (.kon (.bl false)) .nil)))))))))) (.call 28 (.cons (.lc 1) (.cons (.kon (.int 9)) .nil))))
abbrev t13 : Sm := .asg 13 (.call 28 (.cons (.lc 1) (.cons (.kon (.int 5)) .nil)))
abbrev t14 : Sm := .asg 6 (.call 31 (.cons (.lc 13) (.cons (.lc 12) (.cons (.ife (.cmp .eq (.call 28 (.cons (.lc 1) (.cons (.kon (.int 2)) .nil))) (.kon (.int 0))) (.lc 11) (.kon (.int 0))) .nil))))
abbrev t15 : Sm := .ife (.or (.cons (.cmp .ne (.lc 6) (.tup (.cons (.kon (.str [115, 105, 122, 101])) (.cons (.lc 12) .nil)))) (.cons (.cmp .ne (.isi (.ix (.lc 6) (.kon (.int 1))) .bl) (.isi (.lc 12) .bl)) .nil))) (.seq (.ret (.kon (.bl false))) .nil) .nil
abbrev t16 : Sm := .ret (.cmp .eq (.ix (.call 31 (.cons (.lc 13) (.cons (.lc 2) (.cons (.kon (.int 0)) .nil)))) (.kon (.int 0))) (.kon (.str [116, 111, 108, 100])))
abbrev b0 : Sm := .asg 6 (.lgen 0 1 (.cons (.lc 2) .nil))
abbrev b1 : Sm := .ife (.or (.cons (.not (.bi .all (.cons (.comp [7] (.nm 7) (.seq (some 6) (.lc 6)) .none (.isi (.lc 7) (.own 0))) .nil))) (.cons (.cmp .ne (.comp [7] (.nm 7) (.seq (some 6) (.lc 6)) .none (.attr (.lc 7) 1)) (.lc 3)) .nil))) (.seq (.ret (.kon (.bl false))) .nil) .nil
abbrev b2 : Sm := .asg 8 (.call 21 (.cons (.lc 2) .nil))
abbrev b3 : Sm := .ife (.or (.cons (.not (.isi (.lc 8) .int)) (.cons (.isi (.lc 8) .bl) (.cons (.cmp .ne (.lc 8) (.bi .len (.cons (.lc 3) .nil))) .nil)))) (.seq (.ret (.kon (.bl false))) .nil) .nil
abbrev b4 : Sm := .ife (.cmp .ne (.comp [7] (.nm 7) (.seq (some 6) (.lc 6)) .none (.call 22 (.cons (.lc 7) .nil))) (.lrg1 false (.bi .len (.cons (.lc 3) .nil)))) (.seq (.ret (.kon (.bl false))) .nil) .nil
abbrev b5 : Sm := .ife (.cmp .ne (.comp [9] (.nm 9) (.rng (.cons (.bi .len (.cons (.lc 3) .nil)) .nil)) .none (.attr (.call 23 (.cons (.lc 2) (.cons (.lc 9) .nil))) 1)) (.lc 3)) (.seq (.ret (.kon (.bl false))) .nil) .nil
def cols (n : Nat) : List D := (Wl n).map fun w => .obj 0 [(1, .str w), (0, .int n)]
theorem words_all : six.map (fun (n : Nat) => CC.run 30 [.val (.int (n : Int))]) = mapR (fun (n : Nat) => .ret (.val (.lst ((Wl n).map D.str))) [some (.val (.int (n : Int)))]) six := by kernel_rfl
theorem b0_all (a0 a1 a4 a5 a6 a7 a8 a9 a10 a11 a12 a13 : Option O) : six.map (fun (n : Nat) => evS CC d32.ro (b0) [a0, a1, some (.val (.int (n : Int))), some (.val (.lst ((Wl n).map D.str))), a4, a5, a6, a7, a8, a9, a10, a11, a12, a13]) = mapR (fun (n : Nat) => .nxt [a0, a1, some (.val (.int (n : Int))), some (.val (.lst ((Wl n).map D.str))), a4, a5, some (.lst (cols n)), a7, a8, a9, a10, a11, a12, a13]) six := by kernel_rfl
theorem b1_all (a0 a1 a4 a5 a7 a8 a9 a10 a11 a12 a13 : Option O) : six.map (fun (n : Nat) => evS CC d32.ro (b1) [a0, a1, some (.val (.int (n : Int))), some (.val (.lst ((Wl n).map D.str))), a4, a5, some (.lst (cols n)), a7, a8, a9, a10, a11, a12, a13]) = mapR (fun (n : Nat) => .nxt [a0, a1, some (.val (.int (n : Int))), some (.val (.lst ((Wl n).map D.str))), a4, a5, some (.lst (cols n)), a7, a8, a9, a10, a11, a12, a13]) six := by kernel_rfl
theorem b23_all (a0 a1 a4 a5 a7 a8 a9 a10 a11 a12 a13 : Option O) : six.map (fun (n : Nat) => evS CC d32.ro (.seq b2 (.seq b3 .nil)) [a0, a1, some (.val (.int (n : Int))), some (.val (.lst ((Wl n).map D.str))), a4, a5, some (.lst (cols n)), a7, a8, a9, a10, a11, a12, a13]) = mapR (fun (n : Nat) => .nxt [a0, a1, some (.val (.int (n : Int))), some (.val (.lst ((Wl n).map D.str))), a4, a5, some (.lst (cols n)), a7, some (.val (.int ((Wl n).length : Nat))), a9, a10, a11, a12, a13]) six := by kernel_rfl
theorem b4_all (a0 a1 a4 a5 a7 a8 a9 a10 a11 a12 a13 : Option O) : six.map (fun (n : Nat) => evS CC d32.ro (b4) [a0, a1, some (.val (.int (n : Int))), some (.val (.lst ((Wl n).map D.str))), a4, a5, some (.lst (cols n)), a7, a8, a9, a10, a11, a12, a13]) = mapR (fun (n : Nat) => .nxt [a0, a1, some (.val (.int (n : Int))), some (.val (.lst ((Wl n).map D.str))), a4, a5, some (.lst (cols n)), a7, a8, a9, a10, a11, a12, a13]) six := by kernel_rfl
theorem b5_all (a0 a1 a4 a5 a6 a7 a8 a9 a10 a11 a12 a13 : Option O) : six.map (fun (n : Nat) => evS CC d32.ro (b5) [a0, a1, some (.val (.int (n : Int))), some (.val (.lst ((Wl n).map D.str))), a4, a5, a6, a7, a8, a9, a10, a11, a12, a13]) = mapR (fun (n : Nat) => .nxt [a0, a1, some (.val (.int (n : Int))), some (.val (.lst ((Wl n).map D.str))), a4, a5, a6, a7, a8, a9, a10, a11, a12, a13]) six := by kernel_rfl
theorem t7_all (a0 a1 a4 a5 a6 a7 a8 a9 a10 a11 a12 a13 : Option O) : six.map (fun (n : Nat) => evS CC d32.ro (t7) [a0, a1, some (.val (.int (n : Int))), some (.val (.lst ((Wl n).map D.str))), a4, a5, a6, a7, a8, a9, a10, a11, a12, a13]) = mapR (fun (n : Nat) => .nxt [a0, a1, some (.val (.int (n : Int))), some (.val (.lst ((Wl n).map D.str))), a4, a5, a6, a7, a8, a9, a10, a11, a12, a13]) six := by kernel_rfl
theorem t8_all (a0 a1 a4 a5 a6 a7 a8 a9 a10 a11 a12 a13 : Option O) : six.map (fun (n : Nat) => evS CC d32.ro (t8) [a0, a1, some (.val (.int (n : Int))), some (.val (.lst ((Wl n).map D.str))), a4, a5, a6, a7, a8, a9, a10, a11, a12, a13]) = mapR (fun (n : Nat) => .nxt [a0, a1, some (.val (.int (n : Int))), some (.val (.lst ((Wl n).map D.str))), a4, a5, a6, a7, a8, a9, a10, a11, a12, a13]) six := by kernel_rfl
end K04
end

section
set_option maxRecDepth 100007
set_option maxHeartbeats 0
namespace K04
open Z PySem L2 PyProof.Rows
theorem mem_cut {α : Type} (m : Nat) : ∀ (n : Nat) (l : List α), l.length ≤ n * m → ∀ a ∈ l, ∃ k, k < n ∧ a ∈ (l.drop (m * k)).take m
  | 0, l, h, a, ha => by
    have : l = [] := List.length_eq_zero_iff.mp (by omega)
    subst this; cases ha
  | n + 1, l, h, a, ha => by
    rw [← List.take_append_drop m l] at ha
    rcases List.mem_append.mp ha with ha | ha
    · exact ⟨0, by omega, by rw [Nat.mul_zero, List.drop_zero]; exact ha⟩
    · obtain ⟨k, hk, h2⟩ := mem_cut m n (l.drop m) (by rw [List.length_drop]; rw [Nat.succ_mul] at h; omega) a ha
      refine ⟨k + 1, by omega, ?_⟩
      rw [List.drop_drop, show m + m * k = m * (k + 1) by rw [Nat.mul_succ, Nat.add_comm]] at h2
      exact h2
def zs (n k : Nat) : List (List Nat × Nat) := ((Wl n).zipIdx.drop (33 * k)).take 33
theorem wd1_0 (a0 a1 a5 a6 a7 a8 a9 a10 a11 a12 a13 : Option O) : (zs 1 0).map (fun p => evS CC d32.ro (.seq t5 (.seq t6 .nil)) [a0, a1, some (.val (.int (1 : Nat))), some (.val (.lst ((Wl 1).map D.str))), some (.val (.str p.1)), a5, a6, a7, a8, a9, a10, a11, a12, a13]) = mapR (fun p => .nxt [a0, a1, some (.val (.int (1 : Nat))), some (.val (.lst ((Wl 1).map D.str))), some (.val (.str p.1)), a5, a6, a7, a8, a9, some (.val (.int (p.2 : Nat))), a11, a12, a13]) (zs 1 0) := by kernel_rfl
theorem wd2_0 (a0 a1 a5 a6 a7 a8 a9 a10 a11 a12 a13 : Option O) : (zs 2 0).map (fun p => evS CC d32.ro (.seq t5 (.seq t6 .nil)) [a0, a1, some (.val (.int (2 : Nat))), some (.val (.lst ((Wl 2).map D.str))), some (.val (.str p.1)), a5, a6, a7, a8, a9, a10, a11, a12, a13]) = mapR (fun p => .nxt [a0, a1, some (.val (.int (2 : Nat))), some (.val (.lst ((Wl 2).map D.str))), some (.val (.str p.1)), a5, a6, a7, a8, a9, some (.val (.int (p.2 : Nat))), a11, a12, a13]) (zs 2 0) := by kernel_rfl
theorem wd3_0 (a0 a1 a5 a6 a7 a8 a9 a10 a11 a12 a13 : Option O) : (zs 3 0).map (fun p => evS CC d32.ro (.seq t5 (.seq t6 .nil)) [a0, a1, some (.val (.int (3 : Nat))), some (.val (.lst ((Wl 3).map D.str))), some (.val (.str p.1)), a5, a6, a7, a8, a9, a10, a11, a12, a13]) = mapR (fun p => .nxt [a0, a1, some (.val (.int (3 : Nat))), some (.val (.lst ((Wl 3).map D.str))), some (.val (.str p.1)), a5, a6, a7, a8, a9, some (.val (.int (p.2 : Nat))), a11, a12, a13]) (zs 3 0) := by kernel_rfl
theorem wd4_0 (a0 a1 a5 a6 a7 a8 a9 a10 a11 a12 a13 : Option O) : (zs 4 0).map (fun p => evS CC d32.ro (.seq t5 (.seq t6 .nil)) [a0, a1, some (.val (.int (4 : Nat))), some (.val (.lst ((Wl 4).map D.str))), some (.val (.str p.1)), a5, a6, a7, a8, a9, a10, a11, a12, a13]) = mapR (fun p => .nxt [a0, a1, some (.val (.int (4 : Nat))), some (.val (.lst ((Wl 4).map D.str))), some (.val (.str p.1)), a5, a6, a7, a8, a9, some (.val (.int (p.2 : Nat))), a11, a12, a13]) (zs 4 0) := by kernel_rfl
theorem wd5_0 (a0 a1 a5 a6 a7 a8 a9 a10 a11 a12 a13 : Option O) : (zs 5 0).map (fun p => evS CC d32.ro (.seq t5 (.seq t6 .nil)) [a0, a1, some (.val (.int (5 : Nat))), some (.val (.lst ((Wl 5).map D.str))), some (.val (.str p.1)), a5, a6, a7, a8, a9, a10, a11, a12, a13]) = mapR (fun p => .nxt [a0, a1, some (.val (.int (5 : Nat))), some (.val (.lst ((Wl 5).map D.str))), some (.val (.str p.1)), a5, a6, a7, a8, a9, some (.val (.int (p.2 : Nat))), a11, a12, a13]) (zs 5 0) := by kernel_rfl
theorem wd5_1 (a0 a1 a5 a6 a7 a8 a9 a10 a11 a12 a13 : Option O) : (zs 5 1).map (fun p => evS CC d32.ro (.seq t5 (.seq t6 .nil)) [a0, a1, some (.val (.int (5 : Nat))), some (.val (.lst ((Wl 5).map D.str))), some (.val (.str p.1)), a5, a6, a7, a8, a9, a10, a11, a12, a13]) = mapR (fun p => .nxt [a0, a1, some (.val (.int (5 : Nat))), some (.val (.lst ((Wl 5).map D.str))), some (.val (.str p.1)), a5, a6, a7, a8, a9, some (.val (.int (p.2 : Nat))), a11, a12, a13]) (zs 5 1) := by kernel_rfl
theorem wd6_0 (a0 a1 a5 a6 a7 a8 a9 a10 a11 a12 a13 : Option O) : (zs 6 0).map (fun p => evS CC d32.ro (.seq t5 (.seq t6 .nil)) [a0, a1, some (.val (.int (6 : Nat))), some (.val (.lst ((Wl 6).map D.str))), some (.val (.str p.1)), a5, a6, a7, a8, a9, a10, a11, a12, a13]) = mapR (fun p => .nxt [a0, a1, some (.val (.int (6 : Nat))), some (.val (.lst ((Wl 6).map D.str))), some (.val (.str p.1)), a5, a6, a7, a8, a9, some (.val (.int (p.2 : Nat))), a11, a12, a13]) (zs 6 0) := by kernel_rfl
theorem wd6_1 (a0 a1 a5 a6 a7 a8 a9 a10 a11 a12 a13 : Option O) : (zs 6 1).map (fun p => evS CC d32.ro (.seq t5 (.seq t6 .nil)) [a0, a1, some (.val (.int (6 : Nat))), some (.val (.lst ((Wl 6).map D.str))), some (.val (.str p.1)), a5, a6, a7, a8, a9, a10, a11, a12, a13]) = mapR (fun p => .nxt [a0, a1, some (.val (.int (6 : Nat))), some (.val (.lst ((Wl 6).map D.str))), some (.val (.str p.1)), a5, a6, a7, a8, a9, some (.val (.int (p.2 : Nat))), a11, a12, a13]) (zs 6 1) := by kernel_rfl
theorem wd6_2 (a0 a1 a5 a6 a7 a8 a9 a10 a11 a12 a13 : Option O) : (zs 6 2).map (fun p => evS CC d32.ro (.seq t5 (.seq t6 .nil)) [a0, a1, some (.val (.int (6 : Nat))), some (.val (.lst ((Wl 6).map D.str))), some (.val (.str p.1)), a5, a6, a7, a8, a9, a10, a11, a12, a13]) = mapR (fun p => .nxt [a0, a1, some (.val (.int (6 : Nat))), some (.val (.lst ((Wl 6).map D.str))), some (.val (.str p.1)), a5, a6, a7, a8, a9, some (.val (.int (p.2 : Nat))), a11, a12, a13]) (zs 6 2) := by kernel_rfl
theorem wd6_3 (a0 a1 a5 a6 a7 a8 a9 a10 a11 a12 a13 : Option O) : (zs 6 3).map (fun p => evS CC d32.ro (.seq t5 (.seq t6 .nil)) [a0, a1, some (.val (.int (6 : Nat))), some (.val (.lst ((Wl 6).map D.str))), some (.val (.str p.1)), a5, a6, a7, a8, a9, a10, a11, a12, a13]) = mapR (fun p => .nxt [a0, a1, some (.val (.int (6 : Nat))), some (.val (.lst ((Wl 6).map D.str))), some (.val (.str p.1)), a5, a6, a7, a8, a9, some (.val (.int (p.2 : Nat))), a11, a12, a13]) (zs 6 3) := by kernel_rfl
theorem wd1 (a0 a1 a5 a6 a7 a8 a9 a10 a11 a12 a13 : Option O) : ∀ p ∈ (Wl 1).zipIdx, evS CC d32.ro (.seq t5 (.seq t6 .nil)) [a0, a1, some (.val (.int (1 : Nat))), some (.val (.lst ((Wl 1).map D.str))), some (.val (.str p.1)), a5, a6, a7, a8, a9, a10, a11, a12, a13] = .nxt [a0, a1, some (.val (.int (1 : Nat))), some (.val (.lst ((Wl 1).map D.str))), some (.val (.str p.1)), a5, a6, a7, a8, a9, some (.val (.int (p.2 : Nat))), a11, a12, a13] := fun p hp => by
  obtain ⟨k, hk, h⟩ := mem_cut 33 1 _ (by decide +kernel) p hp
  have hh : k = 0 := by omega
  rcases hh with rfl
  · exact all_of (wd1_0 a0 a1 a5 a6 a7 a8 a9 a10 a11 a12 a13) p h
theorem wd2 (a0 a1 a5 a6 a7 a8 a9 a10 a11 a12 a13 : Option O) : ∀ p ∈ (Wl 2).zipIdx, evS CC d32.ro (.seq t5 (.seq t6 .nil)) [a0, a1, some (.val (.int (2 : Nat))), some (.val (.lst ((Wl 2).map D.str))), some (.val (.str p.1)), a5, a6, a7, a8, a9, a10, a11, a12, a13] = .nxt [a0, a1, some (.val (.int (2 : Nat))), some (.val (.lst ((Wl 2).map D.str))), some (.val (.str p.1)), a5, a6, a7, a8, a9, some (.val (.int (p.2 : Nat))), a11, a12, a13] := fun p hp => by
  obtain ⟨k, hk, h⟩ := mem_cut 33 1 _ (by decide +kernel) p hp
  have hh : k = 0 := by omega
  rcases hh with rfl
  · exact all_of (wd2_0 a0 a1 a5 a6 a7 a8 a9 a10 a11 a12 a13) p h
theorem wd3 (a0 a1 a5 a6 a7 a8 a9 a10 a11 a12 a13 : Option O) : ∀ p ∈ (Wl 3).zipIdx, evS CC d32.ro (.seq t5 (.seq t6 .nil)) [a0, a1, some (.val (.int (3 : Nat))), some (.val (.lst ((Wl 3).map D.str))), some (.val (.str p.1)), a5, a6, a7, a8, a9, a10, a11, a12, a13] = .nxt [a0, a1, some (.val (.int (3 : Nat))), some (.val (.lst ((Wl 3).map D.str))), some (.val (.str p.1)), a5, a6, a7, a8, a9, some (.val (.int (p.2 : Nat))), a11, a12, a13] := fun p hp => by
  obtain ⟨k, hk, h⟩ := mem_cut 33 1 _ (by decide +kernel) p hp
  have hh : k = 0 := by omega
  rcases hh with rfl
  · exact all_of (wd3_0 a0 a1 a5 a6 a7 a8 a9 a10 a11 a12 a13) p h
theorem wd4 (a0 a1 a5 a6 a7 a8 a9 a10 a11 a12 a13 : Option O) : ∀ p ∈ (Wl 4).zipIdx, evS CC d32.ro (.seq t5 (.seq t6 .nil)) [a0, a1, some (.val (.int (4 : Nat))), some (.val (.lst ((Wl 4).map D.str))), some (.val (.str p.1)), a5, a6, a7, a8, a9, a10, a11, a12, a13] = .nxt [a0, a1, some (.val (.int (4 : Nat))), some (.val (.lst ((Wl 4).map D.str))), some (.val (.str p.1)), a5, a6, a7, a8, a9, some (.val (.int (p.2 : Nat))), a11, a12, a13] := fun p hp => by
  obtain ⟨k, hk, h⟩ := mem_cut 33 1 _ (by decide +kernel) p hp
  have hh : k = 0 := by omega
  rcases hh with rfl
  · exact all_of (wd4_0 a0 a1 a5 a6 a7 a8 a9 a10 a11 a12 a13) p h
theorem wd5 (a0 a1 a5 a6 a7 a8 a9 a10 a11 a12 a13 : Option O) : ∀ p ∈ (Wl 5).zipIdx, evS CC d32.ro (.seq t5 (.seq t6 .nil)) [a0, a1, some (.val (.int (5 : Nat))), some (.val (.lst ((Wl 5).map D.str))), some (.val (.str p.1)), a5, a6, a7, a8, a9, a10, a11, a12, a13] = .nxt [a0, a1, some (.val (.int (5 : Nat))), some (.val (.lst ((Wl 5).map D.str))), some (.val (.str p.1)), a5, a6, a7, a8, a9, some (.val (.int (p.2 : Nat))), a11, a12, a13] := fun p hp => by
  obtain ⟨k, hk, h⟩ := mem_cut 33 2 _ (by decide +kernel) p hp
  have hh : k = 0 ∨ k = 1 := by omega
  rcases hh with rfl | rfl
  · exact all_of (wd5_0 a0 a1 a5 a6 a7 a8 a9 a10 a11 a12 a13) p h
  · exact all_of (wd5_1 a0 a1 a5 a6 a7 a8 a9 a10 a11 a12 a13) p h
theorem wd6 (a0 a1 a5 a6 a7 a8 a9 a10 a11 a12 a13 : Option O) : ∀ p ∈ (Wl 6).zipIdx, evS CC d32.ro (.seq t5 (.seq t6 .nil)) [a0, a1, some (.val (.int (6 : Nat))), some (.val (.lst ((Wl 6).map D.str))), some (.val (.str p.1)), a5, a6, a7, a8, a9, a10, a11, a12, a13] = .nxt [a0, a1, some (.val (.int (6 : Nat))), some (.val (.lst ((Wl 6).map D.str))), some (.val (.str p.1)), a5, a6, a7, a8, a9, some (.val (.int (p.2 : Nat))), a11, a12, a13] := fun p hp => by
  obtain ⟨k, hk, h⟩ := mem_cut 33 4 _ (by decide +kernel) p hp
  have hh : k = 0 ∨ k = 1 ∨ k = 2 ∨ k = 3 := by omega
  rcases hh with rfl | rfl | rfl | rfl
  · exact all_of (wd6_0 a0 a1 a5 a6 a7 a8 a9 a10 a11 a12 a13) p h
  · exact all_of (wd6_1 a0 a1 a5 a6 a7 a8 a9 a10 a11 a12 a13) p h
  · exact all_of (wd6_2 a0 a1 a5 a6 a7 a8 a9 a10 a11 a12 a13) p h
  · exact all_of (wd6_3 a0 a1 a5 a6 a7 a8 a9 a10 a11 a12 a13) p h
theorem wd {n : Nat} (h1 : 1 ≤ n) (h6 : n ≤ 6) {w : List Nat} (hw : w ∈ Wl n) (a0 a1 a5 a6 a7 a8 a9 a10 a11 a12 a13 : Option O) : ∃ k : Nat, evS (pr.ct 40) d32.ro (.seq t5 (.seq t6 .nil)) [a0, a1, some (.val (.int (n : Int))), some (.val (.lst ((Wl n).map D.str))), some (.val (.str w)), a5, a6, a7, a8, a9, a10, a11, a12, a13] = .nxt [a0, a1, some (.val (.int (n : Int))), some (.val (.lst ((Wl n).map D.str))), some (.val (.str w)), a5, a6, a7, a8, a9, some (.val (.int (k : Nat))), a11, a12, a13] := by
  rw [← C40]
  obtain ⟨k, hk⟩ := List.mem_iff_getElem?.mp hw
  have hp : (w, k) ∈ (Wl n).zipIdx := List.mk_mem_zipIdx_iff_getElem?.mpr hk
  refine ⟨k, ?_⟩
  have : n = 1 ∨ n = 2 ∨ n = 3 ∨ n = 4 ∨ n = 5 ∨ n = 6 := by omega
  rcases this with rfl | rfl | rfl | rfl | rfl | rfl
  · exact wd1 a0 a1 a5 a6 a7 a8 a9 a10 a11 a12 a13 (w, k) hp
  · exact wd2 a0 a1 a5 a6 a7 a8 a9 a10 a11 a12 a13 (w, k) hp
  · exact wd3 a0 a1 a5 a6 a7 a8 a9 a10 a11 a12 a13 (w, k) hp
  · exact wd4 a0 a1 a5 a6 a7 a8 a9 a10 a11 a12 a13 (w, k) hp
  · exact wd5 a0 a1 a5 a6 a7 a8 a9 a10 a11 a12 a13 (w, k) hp
  · exact wd6 a0 a1 a5 a6 a7 a8 a9 a10 a11 a12 a13 (w, k) hp
def farL (n : Nat) : List D := [.int (-1), .int ((Wl n).length : Nat), .non, .bl true, .str [48], .int (((Wl n).length : Nat) + 100000000000000000000), .int (-100000000000000000000), .bl false]
def farP : List (Nat × D) := six.flatMap fun n => (farL n).map fun d => (n, d)
def oddL : List D := [.int 0, .int 7, .int (-1), .non, .bl true, .str [50], .int 100000000000000000000, .lst [.int 2], .bl false]
def ways : List Int := [0, 1, 2, 3, 4]
def oddP : List (Int × D) := ways.flatMap fun i => oddL.map fun e => (i, e)
def wayP : List (Int × Nat) := ways.flatMap fun i => six.map fun n => (i, n)
theorem far_all (a0 a1 a4 a5 a6 a7 a8 a9 a10 a12 a13 : Option O) : farP.map (fun p => evS CC d32.ro (.seq t10 (.seq t11 .nil)) [a0, a1, some (.val (.int (p.1 : Nat))), some (.val (.lst ((Wl p.1).map D.str))), a4, a5, a6, a7, a8, a9, a10, some (.val p.2), a12, a13]) = mapR (fun p => .nxt [a0, a1, some (.val (.int (p.1 : Nat))), some (.val (.lst ((Wl p.1).map D.str))), a4, a5, some (.val (.tup [.str [110, 117, 109, 98, 101, 114], p.2])), a7, a8, a9, a10, some (.val p.2), a12, a13]) farP := by kernel_rfl
theorem ref_all (d : D) : oddP.map (fun p => (ctM pr 0 k1 40).run 31 [.val (.int p.1), .val p.2, .val d]) = mapR (fun p => .ret (.val (.tup [.str [115, 105, 122, 101], p.2])) [some (.val (.int p.1)), some (.val p.2), some (.val d)]) oddP := by kernel_rfl
theorem t15_all (a0 a1 a2 a3 a4 a5 a7 a8 a9 a10 a11 a13 : Option O) : oddL.map (fun d => evS CC d32.ro t15 [a0, a1, a2, a3, a4, a5, some (.val (.tup [.str [115, 105, 122, 101], d])), a7, a8, a9, a10, a11, some (.val d), a13]) = mapR (fun d => .nxt [a0, a1, a2, a3, a4, a5, some (.val (.tup [.str [115, 105, 122, 101], d])), a7, a8, a9, a10, a11, some (.val d), a13]) oddL := by kernel_rfl
theorem t16_all (a0 a1 a4 a5 a6 a7 a8 a9 a10 a11 a12 : Option O) : wayP.map (fun p => evS CC d32.ro t16 [a0, a1, some (.val (.int (p.2 : Nat))), some (.val (.lst ((Wl p.2).map D.str))), a4, a5, a6, a7, a8, a9, a10, a11, a12, some (.val (.int p.1))]) = mapR (fun p => .ret (.val (.bl true)) [a0, a1, some (.val (.int (p.2 : Nat))), some (.val (.lst ((Wl p.2).map D.str))), a4, a5, a6, a7, a8, a9, a10, a11, a12, some (.val (.int p.1))]) wayP := by kernel_rfl
end K04
end

section
set_option maxRecDepth 100007
set_option maxHeartbeats 8000007
namespace K04
open Z PySem L2 PyProof.Rows
theorem dr40 : DrawOk (pr.ct 40) 28 := drawOk 38
theorem sq1 {a m m' : Zs → S} {z z1 : Zs} {x : S} (h : exSeq a m z = .nxt z1) (hm : ∀ z2, m z2 = .nxt z1 → m' z2 = x) : exSeq a m' z = x := by
  unfold exSeq at h ⊢
  cases e : a z with
  | nxt z2 => rw [e] at h; exact hm z2 h
  | ret _ _ => rw [e] at h; cases h
  | brk _ => rw [e] at h; cases h
  | cnt _ => rw [e] at h; cases h
  | exc _ _ _ => rw [e] at h; cases h
  | bad => rw [e] at h; cases h
theorem sk1 {r : Zs → S} {z z1 : Zs} {x : S} (h : exSkip z = .nxt z1) (hr : r z1 = x) : r z = x := by
  cases h; exact hr
theorem blk2 {C : Ct} {ro : Ro} {a b r : Sm} {z z1 : Zs} {x : S} (h : evS C ro (.seq a (.seq b .nil)) z = .nxt z1) (hr : evS C ro r z1 = x) : evS C ro (.seq a (.seq b r)) z = x :=
  sq1 h fun _ h => sq1 h fun _ h => sk1 h hr
theorem wl_len {n : Nat} (h1 : 1 ≤ n) (h6 : n ≤ 6) : (Wl n).length ≤ 132 := by
  have : n = 1 ∨ n = 2 ∨ n = 3 ∨ n = 4 ∨ n = 5 ∨ n = 6 := by omega
  rcases this with rfl | rfl | rfl | rfl | rfl | rfl <;> decide +kernel
theorem t2_x (m : Int) (l : List D) (a0 a1 a3 a4 a5 a6 a7 a8 a9 a10 a11 a12 a13 : Option O) (e : (pr.ct 40).run 30 [.val (.int m)] = .ret (.val (.lst l)) [some (.val (.int m))]) : evS (pr.ct 40) d32.ro t2 [a0, a1, some (.val (.int m)), a3, a4, a5, a6, a7, a8, a9, a10, a11, a12, a13] = .nxt [a0, a1, some (.val (.int m)), some (.val (.lst l)), a4, a5, a6, a7, a8, a9, a10, a11, a12, a13] := by
  simp [d32, apF, given, lendA, backA, e]
theorem t3_x (m : Int) (s s2 : Hst) (w : List Nat) (a0 a3 a4 a5 a6 a7 a8 a9 a10 a11 a12 a13 : Option O) (e : (pr.ct 40).run 29 [s.o, .val (.int m)] = .ret (.val (.str w)) [some (Hst.o s2), some (.val (.int m))]) : evS (pr.ct 40) d32.ro t3 [a0, some (Hst.o s), some (.val (.int m)), a3, a4, a5, a6, a7, a8, a9, a10, a11, a12, a13] = .nxt [a0, some (Hst.o s2), some (.val (.int m)), a3, some (.val (.str w)), a5, a6, a7, a8, a9, a10, a11, a12, a13] := by
  simp [d32, apF, given, lendA, backA, e]
theorem t2_e {n : Nat} (h1 : 1 ≤ n) (h6 : n ≤ 6) : (pr.ct 40).run 30 [.val (.int (n : Int))] = .ret (.val (.lst ((Wl n).map D.str))) [some (.val (.int (n : Int)))] := by
  rw [← C40]
  exact all_of words_all n (six_of h1 h6)
abbrev bL : Sm := .seq b0 (.seq b1 (.seq b2 (.seq b3 (.seq b4 (.seq b5 .nil)))))
section
variable {n : Nat} (h1 : 1 ≤ n) (h6 : n ≤ 6)
include h1 h6
theorem turn (a0 a1 a4 a5 a6 a7 a8 a9 a10 a11 a12 a13 : Option O) : evS (pr.ct 40) d32.ro bL [a0, a1, some (.val (.int (n : Int))), some (.val (.lst ((Wl n).map D.str))), a4, a5, a6, a7, a8, a9, a10, a11, a12, a13] = .nxt [a0, a1, some (.val (.int (n : Int))), some (.val (.lst ((Wl n).map D.str))), a4, a5, some (.lst (cols n)), a7, some (.val (.int ((Wl n).length : Nat))), a9, a10, a11, a12, a13] := by
  have u0 := all_of (b0_all a0 a1 a4 a5 a6 a7 a8 a9 a10 a11 a12 a13) n (six_of h1 h6)
  have u1 := all_of (b1_all a0 a1 a4 a5 a7 a8 a9 a10 a11 a12 a13) n (six_of h1 h6)
  have u2 := all_of (b23_all a0 a1 a4 a5 a7 a8 a9 a10 a11 a12 a13) n (six_of h1 h6)
  have u4 := all_of (b4_all a0 a1 a4 a5 a7 (some (.val (.int ((Wl n).length : Nat)))) a9 a10 a11 a12 a13) n (six_of h1 h6)
  have u5 := all_of (b5_all a0 a1 a4 a5 (some (.lst (cols n))) a7 (some (.val (.int ((Wl n).length : Nat)))) a9 a10 a11 a12 a13) n (six_of h1 h6)
  rw [C40] at u0 u1 u2 u4 u5
  exact seq_nxt u0 (seq_nxt u1 (blk2 u2 (seq_nxt u4 (seq_nxt u5 rfl))))
theorem t2_ok (a0 a1 a3 a4 a5 a6 a7 a8 a9 a10 a11 a12 a13 : Option O) : evS (pr.ct 40) d32.ro t2 [a0, a1, some (.val (.int (n : Int))), a3, a4, a5, a6, a7, a8, a9, a10, a11, a12, a13] = .nxt [a0, a1, some (.val (.int (n : Int))), some (.val (.lst ((Wl n).map D.str))), a4, a5, a6, a7, a8, a9, a10, a11, a12, a13] := t2_x _ _ a0 a1 a3 a4 a5 a6 a7 a8 a9 a10 a11 a12 a13 (t2_e h1 h6)
theorem t3_ok (s : Hst) (a0 a3 a4 a5 a6 a7 a8 a9 a10 a11 a12 a13 : Option O) : ∃ s' w, w ∈ Wl n ∧ evS (pr.ct 40) d32.ro t3 [a0, some (Hst.o s), some (.val (.int (n : Int))), a3, a4, a5, a6, a7, a8, a9, a10, a11, a12, a13] = .nxt [a0, some (Hst.o s'), some (.val (.int (n : Int))), a3, some (.val (.str w)), a5, a6, a7, a8, a9, a10, a11, a12, a13] := by
  obtain ⟨w, s2, hw, e2⟩ := word 37 s n h1 h6
  exact ⟨s2, w, by rw [wl_ok n h1 h6]; exact hw, t3_x _ s s2 w a0 a3 a4 a5 a6 a7 a8 a9 a10 a11 a12 a13 e2⟩
theorem t9_ok (s : Hst) (a0 a2 a4 a5 a6 a7 a8 a9 a10 a11 a12 a13 : Option O) : ∃ s' d, (n, d) ∈ farP ∧ evS (pr.ct 40) d32.ro t9 [a0, some (Hst.o s), a2, some (.val (.lst ((Wl n).map D.str))), a4, a5, a6, a7, a8, a9, a10, a11, a12, a13] = .nxt [a0, some (Hst.o s'), a2, some (.val (.lst ((Wl n).map D.str))), a4, a5, a6, a7, a8, a9, a10, some (.val d), a12, a13] := by
  obtain ⟨x, s', x0, x1, e1⟩ := dr40.run s 8 (by decide) (by decide)
  have sl := sl_100000
  have hl := wl_len h1 h6
  have b8 : 8 ≤ sizeLine := by omega
  have b1 : (Wl n).length ≤ sizeLine := by omega
  have key : ∀ d, atI (farL n) x = some d → evS (pr.ct 40) d32.ro t9 [a0, some (Hst.o s), a2, some (.val (.lst ((Wl n).map D.str))), a4, a5, a6, a7, a8, a9, a10, a11, a12, a13] = .nxt [a0, some (Hst.o s'), a2, some (.val (.lst ((Wl n).map D.str))), a4, a5, a6, a7, a8, a9, a10, some (.val d), a12, a13] := by
    intro d hd
    unfold farL at hd
    simp [d32, apF, given, lendA, backA, e1, b1, b8, hd]
  have mem : ∀ d, d ∈ farL n → (n, d) ∈ farP := fun d hd => List.mem_flatMap.mpr ⟨n, six_of h1 h6, List.mem_map.mpr ⟨d, hd, rfl⟩⟩
  have hx : x = 0 ∨ x = 1 ∨ x = 2 ∨ x = 3 ∨ x = 4 ∨ x = 5 ∨ x = 6 ∨ x = 7 := by omega
  rcases hx with rfl | rfl | rfl | rfl | rfl | rfl | rfl | rfl
  · exact ⟨s', .int (-1), mem _ (by simp [farL]), key _ rfl⟩
  · exact ⟨s', .int ((Wl n).length : Nat), mem _ (by simp [farL]), key _ rfl⟩
  · exact ⟨s', .non, mem _ (by simp [farL]), key _ rfl⟩
  · exact ⟨s', .bl true, mem _ (by simp [farL]), key _ rfl⟩
  · exact ⟨s', .str [48], mem _ (by simp [farL]), key _ rfl⟩
  · exact ⟨s', .int (((Wl n).length : Nat) + 100000000000000000000), mem _ (by simp [farL]), key _ rfl⟩
  · exact ⟨s', .int (-100000000000000000000), mem _ (by simp [farL]), key _ rfl⟩
  · exact ⟨s', .bl false, mem _ (by simp [farL]), key _ rfl⟩
end
theorem t1_ok (s : Hst) : ∃ (s' : Hst) (n : Nat), 1 ≤ n ∧ n ≤ 6 ∧ ∀ (a0 a2 a3 a4 a5 a6 a7 a8 a9 a10 a11 a12 a13 : Option O), evS (pr.ct 40) d32.ro t1 [a0, some (Hst.o s), a2, a3, a4, a5, a6, a7, a8, a9, a10, a11, a12, a13] = .nxt [a0, some (Hst.o s'), some (.val (.int (n : Int))), a3, a4, a5, a6, a7, a8, a9, a10, a11, a12, a13] := by
  obtain ⟨x, s', x0, x1, e1⟩ := dr40.run s 6 (by decide) (by decide)
  refine ⟨s', (1 + x).toNat, by omega, by omega, fun a0 a2 a3 a4 a5 a6 a7 a8 a9 a10 a11 a12 a13 => ?_⟩
  rw [show (((1 + x).toNat : Nat) : Int) = 1 + x by omega]
  simp [d32, apF, given, lendA, backA, e1]
theorem t12_ok (s : Hst) (a0 a2 a3 a4 a5 a6 a7 a8 a9 a10 a11 a12 a13 : Option O) : ∃ s' d, d ∈ oddL ∧ evS (pr.ct 40) d32.ro t12 [a0, some (Hst.o s), a2, a3, a4, a5, a6, a7, a8, a9, a10, a11, a12, a13] = .nxt [a0, some (Hst.o s'), a2, a3, a4, a5, a6, a7, a8, a9, a10, a11, some (.val d), a13] := by
  obtain ⟨x, s', x0, x1, e1⟩ := dr40.run s 9 (by decide) (by decide)
  have sl := sl_100000
  have b9 : 9 ≤ sizeLine := by omega
  have b1 : 1 ≤ sizeLine := by omega
  have key : ∀ d, atI oddL x = some d → evS (pr.ct 40) d32.ro t12 [a0, some (Hst.o s), a2, a3, a4, a5, a6, a7, a8, a9, a10, a11, a12, a13] = .nxt [a0, some (Hst.o s'), a2, a3, a4, a5, a6, a7, a8, a9, a10, a11, some (.val d), a13] := by
    intro d hd
    unfold oddL at hd
    simp [d32, apF, given, lendA, backA, e1, b1, b9, hd]
  have hx : x = 0 ∨ x = 1 ∨ x = 2 ∨ x = 3 ∨ x = 4 ∨ x = 5 ∨ x = 6 ∨ x = 7 ∨ x = 8 := by omega
  rcases hx with rfl | rfl | rfl | rfl | rfl | rfl | rfl | rfl | rfl
  · exact ⟨s', .int 0, by simp [oddL], key _ rfl⟩
  · exact ⟨s', .int 7, by simp [oddL], key _ rfl⟩
  · exact ⟨s', .int (-1), by simp [oddL], key _ rfl⟩
  · exact ⟨s', .non, by simp [oddL], key _ rfl⟩
  · exact ⟨s', .bl true, by simp [oddL], key _ rfl⟩
  · exact ⟨s', .str [50], by simp [oddL], key _ rfl⟩
  · exact ⟨s', .int 100000000000000000000, by simp [oddL], key _ rfl⟩
  · exact ⟨s', .lst [.int 2], by simp [oddL], key _ rfl⟩
  · exact ⟨s', .bl false, by simp [oddL], key _ rfl⟩
theorem t13_ok (s : Hst) (a0 a2 a3 a4 a5 a6 a7 a8 a9 a10 a11 a12 a13 : Option O) : ∃ s' i, i ∈ ways ∧ evS (pr.ct 40) d32.ro t13 [a0, some (Hst.o s), a2, a3, a4, a5, a6, a7, a8, a9, a10, a11, a12, a13] = .nxt [a0, some (Hst.o s'), a2, a3, a4, a5, a6, a7, a8, a9, a10, a11, a12, some (.val (.int i))] := by
  obtain ⟨x, s', x0, x1, e1⟩ := dr40.run s 5 (by decide) (by decide)
  refine ⟨s', x, ?_, ?_⟩
  · have hx : x = 0 ∨ x = 1 ∨ x = 2 ∨ x = 3 ∨ x = 4 := by omega
    rcases hx with rfl | rfl | rfl | rfl | rfl <;> decide
  · simp [d32, apF, given, lendA, backA, e1]
theorem t14_ok (s : Hst) {i : Int} (hi : i ∈ ways) {d : D} (hd : d ∈ oddL) (e : D) (a0 a2 a3 a4 a5 a6 a7 a8 a9 a10 : Option O) : ∃ s', evS (pr.ct 40) d32.ro t14 [a0, some (Hst.o s), a2, a3, a4, a5, a6, a7, a8, a9, a10, some (.val e), some (.val d), some (.val (.int i))] = .nxt [a0, some (Hst.o s'), a2, a3, a4, a5, some (.val (.tup [.str [115, 105, 122, 101], d])), a7, a8, a9, a10, some (.val e), some (.val d), some (.val (.int i))] := by
  obtain ⟨x, s', x0, x1, e1⟩ := dr40.run s 2 (by decide) (by decide)
  have hp : (i, d) ∈ oddP := List.mem_flatMap.mpr ⟨i, hi, List.mem_map.mpr ⟨d, hd, rfl⟩⟩
  have r1 := all_of (ref_all e) _ hp
  have r2 := all_of (ref_all (.int 0)) _ hp
  rw [tab1] at r1 r2
  simp only at r1 r2
  refine ⟨s', ?_⟩
  by_cases hx : x = 0
  · subst hx
    simp [d32, apF, given, lendA, backA, e1, r1, eqD]
  · simp [d32, apF, given, lendA, backA, e1, r2, eqD, hx]
theorem law_math (ns : List Int) (hl : ns.length ≤ 63) : ∃ outs, (pr.ct (40 + 1)).run 32 [.val (.scr ns)] = .ret (.val (.bl true)) outs := by
  obtain ⟨s, e0⟩ := hand_ok 39 ns hl
  have e0 : (pr.ct 40).run 27 [.val (.scr ns)] = _ := e0
  obtain ⟨sa, n, h1, h6, e1⟩ := t1_ok s
  have u1 := e1 (some (.val (.scr ns))) none none none none none none none none none none none none
  have u2 := t2_ok h1 h6 (some (.val (.scr ns))) (some sa.o) none none none none none none none none none none none
  obtain ⟨sb, w, hw, u3⟩ := t3_ok h1 h6 sa (some (.val (.scr ns))) (some (.val (.lst ((Wl n).map D.str)))) none none none none none none none none none none
  have v1 := turn h1 h6 (some (.val (.scr ns))) (some sb.o) (some (.val (.str w))) (some (.val (.int 0))) none none none none none none none none
  have v2 := turn h1 h6 (some (.val (.scr ns))) (some sb.o) (some (.val (.str w))) (some (.val (.int 1))) (some (.lst (cols n))) none (some (.val (.int ((Wl n).length : Nat)))) none none none none none
  obtain ⟨k, u5⟩ := wd h1 h6 hw (some (.val (.scr ns))) (some sb.o) (some (.val (.int 1))) (some (.lst (cols n))) none (some (.val (.int ((Wl n).length : Nat)))) none none none none none
  have u7 := all_of (t7_all (some (.val (.scr ns))) (some sb.o) (some (.val (.str w))) (some (.val (.int 1))) (some (.lst (cols n))) none (some (.val (.int ((Wl n).length : Nat)))) none (some (.val (.int (k : Nat)))) none none none) n (six_of h1 h6)
  have u8 := all_of (t8_all (some (.val (.scr ns))) (some sb.o) (some (.val (.str w))) (some (.val (.int 1))) (some (.lst (cols n))) none (some (.val (.int ((Wl n).length : Nat)))) none (some (.val (.int (k : Nat)))) none none none) n (six_of h1 h6)
  rw [C40] at u7 u8
  obtain ⟨sc, d, hd, u9⟩ := t9_ok h1 h6 sb (some (.val (.scr ns))) (some (.val (.int (n : Int)))) (some (.val (.str w))) (some (.val (.int 1))) (some (.lst (cols n))) none (some (.val (.int ((Wl n).length : Nat)))) none (some (.val (.int (k : Nat)))) none none none
  have u10 := all_of (far_all (some (.val (.scr ns))) (some sc.o) (some (.val (.str w))) (some (.val (.int 1))) (some (.lst (cols n))) none (some (.val (.int ((Wl n).length : Nat)))) none (some (.val (.int (k : Nat)))) none none) (n, d) hd
  rw [C40] at u10
  simp only at u10
  obtain ⟨sd, f, hf, u12⟩ := t12_ok sc (some (.val (.scr ns))) (some (.val (.int (n : Int)))) (some (.val (.lst ((Wl n).map D.str)))) (some (.val (.str w))) (some (.val (.int 1))) (some (.val (.tup [.str [110, 117, 109, 98, 101, 114], d]))) none (some (.val (.int ((Wl n).length : Nat)))) none (some (.val (.int (k : Nat)))) (some (.val d)) none none
  obtain ⟨se, i, hi, u13⟩ := t13_ok sd (some (.val (.scr ns))) (some (.val (.int (n : Int)))) (some (.val (.lst ((Wl n).map D.str)))) (some (.val (.str w))) (some (.val (.int 1))) (some (.val (.tup [.str [110, 117, 109, 98, 101, 114], d]))) none (some (.val (.int ((Wl n).length : Nat)))) none (some (.val (.int (k : Nat)))) (some (.val d)) (some (.val f)) none
  obtain ⟨sf, u14⟩ := t14_ok se hi hf d (some (.val (.scr ns))) (some (.val (.int (n : Int)))) (some (.val (.lst ((Wl n).map D.str)))) (some (.val (.str w))) (some (.val (.int 1))) (some (.val (.tup [.str [110, 117, 109, 98, 101, 114], d]))) none (some (.val (.int ((Wl n).length : Nat)))) none (some (.val (.int (k : Nat))))
  have u15 := all_of (t15_all (some (.val (.scr ns))) (some sf.o) (some (.val (.int (n : Int)))) (some (.val (.lst ((Wl n).map D.str)))) (some (.val (.str w))) (some (.val (.int 1))) none (some (.val (.int ((Wl n).length : Nat)))) none (some (.val (.int (k : Nat)))) (some (.val d)) (some (.val (.int i)))) f hf
  have hp : (i, n) ∈ wayP := List.mem_flatMap.mpr ⟨i, hi, List.mem_map.mpr ⟨n, six_of h1 h6, rfl⟩⟩
  have u16 := all_of (t16_all (some (.val (.scr ns))) (some sf.o) (some (.val (.str w))) (some (.val (.int 1))) (some (.val (.tup [.str [115, 105, 122, 101], f]))) none (some (.val (.int ((Wl n).length : Nat)))) none (some (.val (.int (k : Nat)))) (some (.val d)) (some (.val f))) (i, n) hp
  rw [C40] at u15 u16
  simp only at u16
  rw [ru32]
  refine ⟨_, runD_ret rfl (seq_nxt (z1 := [some (.val (.scr ns)), some s.o] ++ List.replicate 12 none) ?_ (seq_nxt u1 (seq_nxt u2 (seq_nxt u3 (seq_nxt (z1 := [some (.val (.scr ns)), some sb.o, some (.val (.int (n : Int))), some (.val (.lst ((Wl n).map D.str))), some (.val (.str w)), some (.val (.int 1)), some (.lst (cols n)), none, some (.val (.int ((Wl n).length : Nat))), none, none, none, none, none]) ?_ (blk2 u5 (seq_nxt u7 (seq_nxt u8 (seq_nxt u9 (blk2 u10 (seq_nxt u12 (seq_nxt u13 (seq_nxt u14 (seq_nxt u15 (seq_ret u16))))))))))))))) rfl⟩
  · simp [d32, apF, given, lendA, backA, e0]
  · refine (frl_ok (ds := [.int 0, .int 1]) (rs := none) (z1 := [some (.val (.scr ns)), some sb.o, some (.val (.int (n : Int))), some (.val (.lst ((Wl n).map D.str))), some (.val (.str w)), none, none, none, none, none, none, none, none, none]) rfl).trans ?_
    have tg : ∀ (i : Int) (q0 q1 q2 q3 q4 q5 q6 q7 q8 q9 q10 q11 q12 q13 : Option O), asg1 d32.ro (.nm 5) (.int i) [q0, q1, q2, q3, q4, q5, q6, q7, q8, q9, q10, q11, q12, q13] = some [q0, q1, q2, q3, q4, some (.val (.int i)), q6, q7, q8, q9, q10, q11, q12, q13] := fun i q0 q1 q2 q3 q4 q5 q6 q7 q8 q9 q10 q11 q12 q13 => rfl
    show S.back none (forF (asg1 d32.ro _) (evS (pr.ct 40) d32.ro bL) _ _) = _
    simp only [forF, tg, v1, v2]
    rfl
end K04
theorem PySem.Challenge.cw_slitstairs_k04_whole_all_columns_counted_holds : PySem.Challenge.rw_slitstairs_k04_whole_all_columns_counted.Holds :=
  K04.fin_ fun ns hl _ => K04.law_math ns hl
end
