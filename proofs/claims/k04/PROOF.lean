import PyProof.Rows.All
import Wide.All
import OpenK.AllK
import Wide.FinOn
import KE.KStateDown
import KE.KExcSuper
import HandS.ForMost
import HandS.Exc
import HandS.WordsExc
import HandS.TryOnly
import HandS.ExcOwn
import HandS.Defaults
import HandS.ExcInit
import HandS.ClsMeth
import HandS.Head0
import HandS.Head1
import HandS.Head2
import HandS.HeadEnd
import HandS.HeadHook1
import HandS.HeadHook2
import HandS.Property
import HandS.More
import HandS.IsInst
import HandS.RaiseMore
import HandS.Comp
import KE.LtData
import HandS.ExcValue
import KE.KExcIs
import PySem.Challenge.RW_latebridges_k04_errors
set_option Elab.async false
set_option linter.all false
set_option maxRecDepth 100000
set_option maxHeartbeats 4000000

namespace PySem
namespace XEx
open PySem.W PySem.Calls PyProof.Rows PySem.HandSPX
/-- the stores behind super().__init__(..): self.f = f -/
inductive Stores : List Str → List Stmt → Prop where
  | nil : Stores [] []
  | cons {f : Str} {fs : List Str} {st : List Stmt} {q1 q2 q3 q4 : Pos} (r : Stores fs st) : Stores (f :: fs) (.Assign [.Attribute (.Name "self" q1) f q2] (.Name f q3) q4 :: st)
/-- the exception's own dict: d holds the pairs ps (the last stored first) -/
def DictIs (h : Heap) (lo e : Addr) (d : Option Addr) (ps : List (Str × Value)) : Prop :=
  match d with
  | none => ps = []
  | some dx => lo ≤ dx ∧ dx ≠ e ∧ ps ≠ [] ∧ h.Ns1 dx (fun y => ps.lookup y)
section
variable {prog : Program} {w : World} {M : Model} {A : Around} {E : Value → Shared → Prop} {R : Result → Shared → Prop} {s : Shared} {K : Frag}
theorem ldL {env : Env} {m : Str → Option Value} {x : Str} {pos : Pos} {v : Value} {Q : Value → Shared → Prop} (hn : s.heap.Ns env.locals m) (hv : m x = some v) (h : Q v s)
    (hk : env.scope.kind = .function) (hl : env.kindOf x = some .local) (hd : (x == ("__debug__" : Str)) = false) : wpAny M A (eval (.Name x pos) env) Q E s := wpAny_Name (wpAny_loadName_local hk hl hn hv h) hd
theorem lookup_cons (f y : Str) (v : Value) (ps : List (Str × Value)) : ((f, v) :: ps).lookup y = if y = f then some v else ps.lookup y := by
  by_cases h : y = f
  · subst h
    simp [List.lookup]
  · have e : (y == f) = false := by simpa using h
    rw [if_neg h]
    simp [List.lookup, e]
/-- all stores, one after the other -/
theorem stores_run {env : Env} {C x lo : Addr} {cd : ClassData} {m : Str → Option Value} (hk : env.scope.kind = .function) (hcd : W.clsIn K C = some cd) (hm : refsVE cd.mro = true) (hh : cd.hasDict = true) (sa : findIn K (.ref C) "__setattr__" = some (some (.builtin "object.__setattr__")))
    (hself : m "self" = some (.ref x)) (kself : env.kindOf "self" = some .local) (hlo : lo ≤ env.locals) (hxL : x ≠ env.locals) (hKx : K.lookup x = none) :
    ∀ {fs : List Str} {st : List Stmt} {vs : List Value} {ps : List (Str × Value)} {d : Option Addr} {s : Shared} {t1 : Addr} {Q : Flow → Shared → Prop}, Stores fs st → fs.length = vs.length → ps.length + fs.length ≤ 1000 →
      (∀ f ∈ fs, env.kindOf f = some .local ∧ (f == ("__debug__" : Str)) = false ∧ findIn K (.ref C) f = some none) → (∀ p ∈ fs.zip vs, m p.1 = some p.2) →
      K.In s.heap → s.heap.Ns env.locals m → s.heap.get? x = some { cls := .ref C, dict := d, data := .fields #[.ref t1, .none, .none, .none, .bool false, .none] } → DictIs s.heap lo x d ps → (∀ dx, d = some dx → K.lookup dx = none ∧ dx ≠ env.locals) →
      (∀ h' tk d', (∀ b o, b ≠ x → (∀ dx, d = some dx → b ≠ dx) → s.heap.get? b = some o → h'.get? b = some o) →
        h'.get? x = some { cls := .ref C, dict := d', data := .fields #[.ref t1, .none, .none, .none, .bool false, .none] } → DictIs h' lo x d' ((fs.zip vs).reverse ++ ps) → Q .next { s with heap := h', toks := tk }) →
      wpAny (model prog w) A (execs st env) Q E s := by
  intro fs
  induction fs with
  | nil =>
    intro st vs ps d s t1 Q S hl hz hf hv X hn hx hd hdx hq
    cases S
    refine wpAny_execs_nil ?_
    have z := hq s.heap s.toks d (fun b o _ _ q => q) hx hd
    exact z
  | cons f fs ih =>
    intro st vs ps d s t1 Q S hl hz hf hv X hn hx hd hdx hq
    cases S with
    | cons r =>
    cases vs with
    | nil => cases hl
    | cons v vs =>
      obtain ⟨kf, df, nf⟩ := hf f List.mem_cons_self
      have mf : m f = some v := hv (f, v) (by simp)
      refine wpAny_execs_cons (plainObj_wpAny_Assign_Attribute ?_)
      refine ldL hn mf (ldL hn hself ?_ hk kself (by decide)) hk kf df
      cases d with
      | none =>
        have hps : ps = [] := hd
        subst hps
        refine set_plain X (ox := { cls := .ref C, dict := none, data := .fields #[.ref t1, .none, .none, .none, .bool false, .none] }) (od := none) ⟨hx, rfl, rfl, trivial⟩ sa ?_
        obtain ⟨hp, g, dr, t, os⟩ := s
        refine exc_osa X hx hcd hm hh nf (fun h' tk' dx k dn dne hx' hn' => ?_)
        have keep : ∀ b o, b ≠ x → hp.get? b = some o → h'.get? b = some o := k
        refine ih (ps := [(f, v)]) (d := some dx) (s := ⟨h', g, dr, tk', os⟩) r (Nat.succ.inj hl) (by simp only [List.length_cons, List.length_nil] at hz ⊢; omega) (fun y hy => hf y (List.mem_cons_of_mem _ hy)) (fun p hp => hv p (by simp [hp])) (fun b o e => ?_) ?_ hx' ?_ (fun dy e => ?_) (fun h2 tk d' k2 hx2 hd2 => ?_)
        · refine keep b o (fun z => ?_) (X b o e)
          rw [z, hKx] at e
          cases e
        · obtain ⟨oL, es, ep, hL, rest⟩ := hn
          exact ⟨oL, es, ep, keep _ _ (Ne.symm hxL) hL, rest⟩
        · refine ⟨Nat.le_trans hlo (Nat.le_trans (Nat.le_of_lt hn.lt) dn), dne, by simp, ?_⟩
          have e : (fun y => ([(f, v)] : List (Str × Value)).lookup y) = (fun y => if y = f then some v else none) := by
            funext y
            rw [lookup_cons]
            rfl
          rw [e]
          exact hn'
        · cases e
          refine ⟨?_, ?_⟩
          · cases q : K.lookup dx with
            | none => rfl
            | some o => exact absurd (Nat.lt_of_lt_of_le (Heap.lt_size (X _ _ q)) dn) (Nat.lt_irrefl _)
          · intro z
            have h1 : env.locals < hp.objs.size := hn.lt
            rw [← z] at h1
            exact absurd (Nat.lt_of_lt_of_le h1 dn) (Nat.lt_irrefl _)
        · refine hq h2 tk d' (fun b o hb _ q => k2 b o hb (fun dy e => ?_) (keep b o hb q)) hx2 ?_
          · cases e
            exact Nat.ne_of_lt (Nat.lt_of_lt_of_le (Heap.lt_size q) dn)
          · have e : ((f :: fs).zip (v :: vs)).reverse ++ ([] : List (Str × Value)) = (fs.zip vs).reverse ++ [(f, v)] := by simp
            rw [e]
            exact hd2
      | some dx =>
        obtain ⟨dlo, dne, hne, hns⟩ := hd
        obtain ⟨hp, g, dr, t, os⟩ := s
        obtain ⟨oD, esD, epD, hoD, _⟩ := id hns
        refine set_plain X (ox := { cls := .ref C, dict := some dx, data := .fields #[.ref t1, .none, .none, .none, .bool false, .none] }) (od := some oD) ⟨hx, rfl, rfl, hoD⟩ sa ?_
        have hw : Within (fun y => ps.lookup y) (ps.map (·.1)) := fun y hy => by
          cases q : ps.lookup y with
          | none => exact absurd q hy
          | some u =>
            have : ∀ (l : List (Str × Value)), l.lookup y = some u → y ∈ l.map (·.1) := by
              intro l
              induction l with
              | nil => intro h; cases h
              | cons p l ih =>
                intro h
                obtain ⟨g, z⟩ := p
                rw [lookup_cons] at h
                by_cases e : y = g
                · rw [e]; exact List.mem_cons_self ..
                · rw [if_neg e] at h; exact List.mem_cons_of_mem _ (ih h)
            exact this ps q
        refine PySem.OEX.osa_old X hx hns hw (by rw [List.length_map]; omega) hcd hm hh nf (fun h' tk' k hn' => ?_)
        have hx' : h'.get? x = some { cls := .ref C, dict := some dx, data := .fields #[.ref t1, .none, .none, .none, .bool false, .none] } := k _ _ (Ne.symm dne) hx
        obtain ⟨kd1, kd2⟩ := hdx dx rfl
        refine ih (ps := (f, v) :: ps) (d := some dx) (s := ⟨h', g, dr, tk', os⟩) r (Nat.succ.inj hl) (by simp only [List.length_cons] at hz ⊢; omega) (fun y hy => hf y (List.mem_cons_of_mem _ hy)) (fun p hp => hv p (by simp [hp])) (fun b o e => ?_) ?_ hx' ?_ (fun dy e => ?_) (fun h2 tk d' k2 hx2 hd2 => ?_)
        · refine k b o (fun z => ?_) (X b o e)
          rw [z, kd1] at e
          cases e
        · obtain ⟨oL, es, ep, hL, rest⟩ := hn
          exact ⟨oL, es, ep, k _ _ (Ne.symm kd2) hL, rest⟩
        · refine ⟨dlo, dne, by simp, ?_⟩
          have e : (fun y => ((f, v) :: ps).lookup y) = (fun y => if y = f then some v else ps.lookup y) := by
            funext y
            rw [lookup_cons]
          rw [e]
          exact hn'
        · cases e
          exact ⟨kd1, kd2⟩
        · refine hq h2 tk d' (fun b o hb hbd q => k2 b o hb (fun dy e => ?_) (k b o (hbd dx rfl) q)) hx2 ?_
          · cases e
            exact hbd dx rfl
          · have e : ((f :: fs).zip (v :: vs)).reverse ++ ps = (fs.zip vs).reverse ++ (f, v) :: ps := by simp
            rw [e]
            exact hd2

/-- the bound ValueError.__init__ called: the args are laid anew -/
theorem call_bwV {h : Heap} {g : Array GenState} {d : Drawn} {t : Nat} {os : OsState} {nm q : Str} {C N : Addr} {bs bm : List Value} {hdct : Bool} {sn : List Str} {sub : List Value} {ab : Bool} {col : Option Bool} {dd : Option Addr} {k0 k1 k2 k3 k5 : Option Value}
    {u e t0 : Addr} {rest : List Value} {Q : Value → Shared → Prop}
    (hC : h.get? C = some (excClassObj nm q C N bs bm hdct sn sub ab col dd k0 k1 k2 k3 k5 "ValueError.__new__")) (he : h.get? e = some (excO C t0)) (hu : h.get? u = some (kxs_mw "ValueError.__init__" e)) (hrest : rest.length ≤ sizeLine)
    (hq : ∀ h' t1, (∀ b o, b ≠ e → h.get? b = some o → h'.get? b = some o) → h'.get? e = some (excO C t1) → Q .none ⟨h', g, d, t, os⟩) :
    wpAny (model prog w) A (call (.ref u) rest) Q E ⟨h, g, d, t, os⟩ := by
  refine wpAny_call (codeAny_of_tree ?_)
  show wpAny _ A.in1 (callAny (.ref u) ⟨rest, []⟩) _ _ _
  simp only [callAny]
  refine wpAny_bind (wpAny_load hu ?_)
  simp only [kxs_mw, show (Value.type "method-wrapper" == Value.type "method" || Value.type "method-wrapper" == Value.type "builtin_function_or_method" || Value.type "method-wrapper" == Value.type "method-wrapper") = true by decide, if_true]
  refine W.KFB.if_so (by decide) ?_
  refine wpAny_bind (check_bound_init F.excBase_ValueError.toExcCallFacts hC he rfl ?_)
  refine wpAny_bind (wpAny_pure (wpAny_pure ?_))
  refine ⟨Code.quiet_builtin _ (by decide +kernel), codeAny_builtin F.excBase_ValueError.initEntry ?_⟩
  rw [Around.under_plainId F.excBase_ValueError.init.plain _]
  wp_walk
  refine hq _ h.objs.size (fun b o hb ho => ?_) ?_
  · rw [Heap.get?_update_other _ _ (Ne.symm hb)]
    exact Heap.get?_push_of_some _ ho
  · rw [Heap.get?_update_self _ (Heap.get?_push_of_some _ he) rfl]
    rfl

theorem lookup_rev {k : Str} {v : Value} : ∀ {l : List (Str × Value)}, (l.map (·.1)).Nodup → (k, v) ∈ l → l.reverse.lookup k = some v := by
  intro l
  have key : ∀ (l : List (Str × Value)), (l.map (·.1)).Nodup → (k, v) ∈ l → l.lookup k = some v := by
    intro l
    induction l with
    | nil => intro _ h; cases h
    | cons p l ih =>
      intro nd h
      obtain ⟨f, u⟩ := p
      rw [lookup_cons]
      rw [List.map_cons, List.nodup_cons] at nd
      rcases List.mem_cons.mp h with e | h
      · cases e
        rw [if_pos rfl]
      · have ne : k ≠ f := fun e => nd.1 (by
          rw [← e]
          exact List.mem_map_of_mem (f := (·.1)) h)
        rw [if_neg ne]
        exact ih nd.2 h
  intro nd h
  refine key l.reverse ?_ (List.mem_reverse.mpr h)
  rw [List.map_reverse]
  exact List.pairwise_reverse.mpr (nd.imp fun {a b} h => Ne.symm h)
def superPl (o : Expr) (env : Env) : Sem Bool := do return (← importBound o env).getD true
theorem he_super {o : Expr} {name : Str} {p2 p3 p4 : Pos} {x : Const} {j : Nat} {env : Env} (hline : (p2.endLine == p4.line) = true) :
    eval (.Call (.Attribute o name p2) [.Constant x j p3] [] p4) env = (do
      let ov ← attributeBase o name env (eval o env)
      standAt p2.atName
      let (f, first) ← holding [ov] (getMethod ov name (superPl o env))
      callWith p4 f first (backTo p4 (starEach [.Constant x j p3] env)) []) := by
  rw [arm_eval_Call]
  have hform : methodCallForm ([Expr.Constant x j p3].length + ([] : List Keyword).length) (backTo p4 (starEach [.Constant x j p3] env)) (backToKw p4 (keywordEach [] env)) = true := rfl
  have hpos : methodCallPos true o env p2 p4 = pure p4 := by unfold methodCallPos; simp [hline]
  unfold methodCall
  rw [hform, hpos]
  simp only [pure_bind]
  rfl
/-- what the text says of such an __init__ -/
structure IText (fs : List Str) (params : Arguments) (body : List Stmt) (scope : Scope) : Prop where
  bd : ∃ (p0 p1 p2 p3 p4 p5 : Pos) (j : Nat) (txt : Str) (stores : List Stmt), body = .Expr (.Call (.Attribute (.Call (.Name "super" p0) [] [] p1) "__init__" p2) [.Constant (.str txt) j p3] [] p4) p5 :: stores ∧ Stores fs stores ∧ (p2.endLine == p4.line) = true
  hks : scope.names.lookup ("super" : Str) = some .globalImplicit
  hkc : scope.names.lookup ("__class__" : Str) = some .free
  hself : scope.names.lookup ("self" : Str) = some .local
  hf : ∀ f ∈ fs, scope.names.lookup f = some .local ∧ (f == ("__debug__" : Str)) = false
  hcell : ∀ x ∈ scope.names, x.2 ≠ .cell
  hco : scope.isCoroutine = false
  hgen : scope.isGenerator = false
  hk : scope.kind = .function
  hp : ∃ ar, (params.posonlyargs ++ params.args).head? = some ar ∧ ar.arg = ("self" : Str)
  bind : ∀ (name qual : Str) (cl : List (Str × Addr)) (kV doc pm : Value) (an : Option Addr) (cdv ct : Value) (us : List Value), us.length = fs.length + 1 → bindArgs (fnX name qual params body scope cl .none kV doc pm an cdv ct) ⟨us, []⟩ = pure ((("self" : Str) :: fs).zip us)
  nd : (("self" : Str) :: fs).Nodup
  len : fs.length ≤ 100
/-- what the written part says of the class at C -/
structure XCls (P : Program) (K : Frag) (C : Addr) (fs : List Str) (params : Arguments) (body : List Stmt) (scope : Scope) : Prop where
  cls : ∃ nm q N bs bm sn sub ab col dd k0 k1 k2 k3 k5, K.lookup C = some (excClassObj nm q C N bs bm true sn sub ab col dd k0 k1 k2 k3 k5 "ValueError.__new__") ∧ refsVE bm = true
  sa : findIn K (.ref C) "__setattr__" = some (some (.builtin "object.__setattr__"))
  ga : findIn K (.ref C) "__getattribute__" = some (some (.builtin "BaseException.__getattribute__"))
  gg : findIn K (.ref C) "__getattr__" = some none
  noF : ∀ f ∈ fs, findIn K (.ref C) f = some none
  kC : keepIn K (.ref C) = true
  exC : subIn K (.ref C) (.type "BaseException") = some true
  veC : subIn K (.ref C) (.type "ValueError") = some true
  tyC : typeIn K (.ref C) = some (.type "type")
  hdC : hasDictIn K C = true
  te : exmOne K (.ref C) (.ref C) = some true
  op : nsIn K cStatics "thirdparty.any" = some none
  sup : nsIn K mainGlobals "super" = some none
  sI : ks_superIn K C C "__init__" = some (some (.builtin "ValueError.__init__"))
  mC : mroIn K C (.ref C) = some true
  top : (P.main.scope.names.lookup ("super" : Str)).isSome = false
  fn : ∃ (fI : Addr) (name qual : Str) (oc : Value) (od : Option Addr) (kV doc pm : Value) (an : Option Addr) (cda cc : Addr) (ct ccl cl : Value) (cdd cld : Option Addr) (vs : Array Value) (file : Str) (tf : Tok) (osl ccs csl : Array (Option Value)),
    findIn K (.ref C) "__init__" = some (some (.ref fI)) ∧ typeIn K (.ref fI) = some (.type "function") ∧
    K.lookup fI = some ⟨oc, od, .func (fnX name qual params body scope [(("__class__" : Str), cc)] .none kV doc pm an (.ref cda) ct), osl⟩ ∧ codeIn K (.ref cda) qual = true ∧
    K.lookup cda = some ⟨ccl, cdd, .fields vs, ccs⟩ ∧ vs[2]? = some (.str file tf) ∧ ((P.main.file : Str) == file) = true ∧ K.lookup cc = some ⟨cl, cld, .cell (some (.ref C)), csl⟩
/-- a made exception -/
structure Made (h h' : Heap) (e C : Addr) (d : Option Addr) (ps : List (Str × Value)) : Prop where
  keep : ∀ b o, h.get? b = some o → h'.get? b = some o
  new : h.objs.size ≤ e
  obj : ∃ oe vs, h'.get? e = some oe ∧ oe.cls = .ref C ∧ oe.dict = d ∧ oe.data = .fields vs ∧ vs[1]? = some .none
  dct : DictIs h' h.objs.size e d ps
theorem zip_keys : ∀ {fs : List Str} {us : List Value}, fs.length = us.length → (fs.zip us).map (·.1) = fs
  | [], [], _ => rfl
  | f :: fs, u :: us, h => by
    rw [List.zip_cons_cons, List.map_cons, zip_keys (Nat.succ.inj h)]
  | [], _ :: _, h => by cases h
  | _ :: _, [], h => by cases h
theorem zip_fst_mem {p : Str × Value} : ∀ {fs : List Str} {us : List Value}, p ∈ fs.zip us → p.1 ∈ fs
  | [], _, h => by simp at h
  | _ :: _, [], h => by simp at h
  | f :: fs, u :: us, h => by
    rw [List.zip_cons_cons] at h
    rcases List.mem_cons.mp h with e | h
    · rw [e]; exact List.mem_cons_self ..
    · exact List.mem_cons_of_mem _ (zip_fst_mem h)
theorem exc_made {prog : Program} {w : World} {A : Around} {R : Result → Shared → Prop} {s : Shared} {K : Frag} {C : Addr} {fs : List Str} {params : Arguments} {body : List Stmt} {scope : Scope} {mg mb : Str → Option Value}
    (T : XCls prog K C fs params body scope) (I : IText fs params body scope) {us : List Value} (X : K.In s.heap) (hlim : s.heap.NoLimit) (G : s.heap.Ns mainGlobals mg) (B : s.heap.Ns builtinsNs mb) (hmb : mb "super" = bootBuiltins "super")
    (hroom : A.depth + 1 < recursionLimit) (hl : fs.length = us.length)
    (hq : ∀ h' tk e d, Made s.heap h' e C d (fs.zip us).reverse → R (.ok (.ret (.ref e))) { s with heap := h', toks := tk }) :
    codeAny (model prog w) A (.call (.ref C) ⟨us, []⟩) R s := by
  obtain ⟨nm, q, N, bs, bm, sn, sub, ab, col, dd, k0, k1, k2, k3, k5, hC, hbm⟩ := T.cls
  obtain ⟨fI, name, qual, oc, od, kV, doc, pm, an, cda, cc, ct, ccl, cl, cdd, cld, cvs, file, tf, osl, ccs, csl, iC, tI, ho, hcd, hcda, hfile0, hfile, hcc⟩ := T.fn
  obtain ⟨ar, har, harg⟩ := I.hp
  have hcl : clsIn K C = some { name := nm, bases := bs, mro := .ref C :: bm, ns := N, qualname := q, hasDict := true, slotNames := sn, subclasses := sub, abstract := ab, collection := col, hasDel := false } := by unfold clsIn; rw [hC] <;> rfl
  obtain ⟨hp, g, dr, tk, os⟩ := s
  have k : ∀ b o, hp.get? b = some o → ((hp.push (kdv_tup us)).push (excO C hp.objs.size)).get? b = some o := fun b o e => Heap.get?_push_of_some _ (Heap.get?_push_of_some _ e)
  have hget : ((hp.push (kdv_tup us)).push (excO C hp.objs.size)).get? (hp.objs.size + 1) = some (excO C hp.objs.size) := by heap_get
  have hnx : K.lookup (hp.objs.size + 1) = none := by
    cases e : K.lookup (hp.objs.size + 1) with
    | none => rfl
    | some o =>
      have z : hp.get? (hp.objs.size + 1) = some o := X _ _ e
      exact absurd (Nat.lt_of_succ_lt (Heap.lt_size z)) (Nat.lt_irrefl _)
  have hsz : us.length ≤ sizeLine := by
    rw [← hl, sizeLine_eq]
    exact Nat.le_trans I.len (by decide)
  refine call_own F.excBase_ValueError (fun X => refsVE_contains X bm hbm) (X _ _ hC) (looks_findIn X iC) (fun self => bind_fn X self tI) hsz ?_
  -- the own __init__
  generalize hx0 : hp.objs.size + 1 = x at *
  generalize hh0 : (hp.push (kdv_tup us)).push (excO C hp.objs.size) = h0 at *
  have X0 : K.In h0 := X.keeps k
  have hsize0 : h0.objs.size = hp.objs.size + 2 := by
    rw [← hh0, Heap.size_push, Heap.size_push]
  refine ks_codeAny_call_defAt (s := ⟨h0, g, dr, tk, os⟩) (fd := fnX name qual params body scope [(("__class__" : Str), cc)] .none kV doc pm an (.ref cda) ct) (body := body) (binds := (("self" : Str), .ref x) :: fs.zip us) hroom (X0 _ _ ho) rfl (hlim.keeps k) (codeRec_of X0 hcd) rfl
    (BindsTo.of_eq (I.bind name qual _ kV doc pm an _ ct (.ref x :: us) (by rw [List.length_cons, hl]))) I.hcell (fun y hy => ?_) (fun h₁ hns hk₁ => ?_) I.hco I.hgen I.hk
  · rcases List.mem_cons.mp hy with e | hy
    · rw [e]; exact I.hself
    · exact (I.hf _ (zip_fst_mem hy)).1
  have X1 : K.In h₁ := X0.keeps hk₁
  have kk : ∀ b o, hp.get? b = some o → h₁.get? b = some o := fun b o e => hk₁ b o (k b o e)
  have hx1 : h₁.get? x = some (excO C hp.objs.size) := hk₁ _ _ hget
  have hxL : x ≠ h0.objs.size := by
    rw [hsize0, ← hx0]
    exact Nat.ne_of_lt (Nat.lt_succ_self _)
  have hnd : ((((("self" : Str), Value.ref x) :: fs.zip us)).map (·.1)).Nodup := by
    rw [List.map_cons, zip_keys hl]
    exact I.nd
  have mself : (((("self" : Str), Value.ref x) :: fs.zip us)).reverse.lookup ("self" : Str) = some (Value.ref x) := lookup_rev hnd List.mem_cons_self
  obtain ⟨p0, p1, p2, p3, p4, p5, j, txt, stores, hb, hst, hline⟩ := I.bd
  rw [hb]
  have hD1 : h₁.get? C = some (excClassObj nm q C N bs bm true sn sub ab col dd k0 k1 k2 k3 k5 "ValueError.__new__") := X1 _ _ hC
  have hxC : x ≠ C := fun z => by rw [z, hC] at hnx; cases hnx
  -- super().__init__("..")
  refine ks_wpAt_execs_cons (ks_wpAt_Expr_any (ks_wpAt_MethodCall (pl := superPl _ _) ?_ (he_super hline)) (by show (scope.kind == _ && _) = false; rw [I.hk]; rfl) (by rfl))
  refine ks_wpAt_super_base I.hks I.hkc rfl rfl (X1 _ _ ho) rfl har rfl (X1 _ _ hcda) rfl hfile0 hfile T.top ?_
  refine ks_loadName_global I.hk I.hks (loadGlobal_builtin (G.keeps kk) (mg_none_of X G T.sup) (B.keeps kk) (hmb.trans (by decide +kernel : bootBuiltins "super" = some (.type "super"))) ⟨rfl, ?_⟩)
  refine wpAny_loadName_free I.hk I.hkc rfl ⟨_, X1 _ _ hcc, rfl⟩ ?_
  rw [harg]
  refine wpAny_loadName_local I.hk I.hself hns mself ?_
  refine ks_wpAny_isType_cls hD1 rfl ⟨rfl, ?_⟩
  refine ks_wpAny_call_super hD1 rfl hx1 rfl (fun c e => by cases e) (looks_mroIn X1 T.mC) (fun h2 e2 k2 => ?_)
  have X2 : K.In h2 := X1.keeps k2
  have hx2 : h2.get? x = some (excO C hp.objs.size) := k2 _ _ hx1
  have I2 : InstAt h2 x (excO C hp.objs.size) C none := ⟨hx2, rfl, rfl, trivial⟩
  have hsI : alongIn K "__init__" (((Value.ref C :: bm).dropWhile (· != .ref C)).drop 1) = some (some (.builtin "ValueError.__init__")) := by
    have z := T.sI
    unfold ks_superIn at z
    rw [hcl] at z
    exact z
  refine kxs_getMethod kxs_ValueError e2 (looks_opaque X2 T.op) (l₀ := .ref C :: bm) (fun A Q E s k q => wpAny_bind ((looks_clsIn X2 hcl) A _ E s k (wpAny_pure q))) rfl X2 hsI (I2.type.andThen (looks_subIn X2 T.veC)) hxC rfl ?_
  have e3 : (h2.push (kxs_mw "ValueError.__init__" x)).get? h2.objs.size = some (kxs_mw "ValueError.__init__" x) := Heap.get?_push_at rfl rfl
  have k3 : ∀ b o, h2.get? b = some o → (h2.push (kxs_mw "ValueError.__init__" x)).get? b = some o := fun b o e => Heap.get?_push_of_some _ e
  refine kxs_callWith (i := "ValueError.__init__") (x := x) rfl (evalArgs_plain (spliced_more (wpAny_Constant_str (spliced_none ⟨e3, ?_⟩))))
  refine call_bwV (k3 _ _ (X2 _ _ hC)) (k3 _ _ hx2) e3 (by rw [sizeLine_eq]; exact Nat.le_trans (Nat.le_refl 1) (by decide)) (fun h4 t1 k4 hx4 => ?_)
  -- the stores
  have old1 : ∀ b o, h₁.get? b = some o → b ≠ x → h4.get? b = some o := fun b o e ne => k4 b o ne (k3 _ _ (k2 _ _ e))
  have xlt : hp.objs.size ≤ x := by rw [← hx0]; exact Nat.le_succ _
  have hne : ∀ {b : Addr} {o : Obj}, hp.get? b = some o → b ≠ x := fun {b o} e => Nat.ne_of_lt (Nat.lt_of_lt_of_le (Heap.lt_size e) xlt)
  have X4 : K.In h4 := fun b o e => old1 b o (kk b o (X b o e)) (hne (X b o e))
  have hns4 : h4.Ns h0.objs.size (fun y => ((("self" : Str), Value.ref x) :: fs.zip us).reverse.lookup y) := by
    obtain ⟨oL, es, ep, hL, rest⟩ := hns
    exact ⟨oL, es, ep, old1 _ _ hL (Ne.symm hxL), rest⟩
  refine wpAt_of_wpAny ?_
  refine stores_run (env := callEnv (fnX name qual params _ scope [(("__class__" : Str), cc)] .none kV doc pm an (.ref cda) ct) h0.objs.size fI) (m := fun y => ((("self" : Str), Value.ref x) :: fs.zip us).reverse.lookup y) (K := K) (C := C) (x := x) (lo := hp.objs.size) (d := none) (ps := []) (s := ⟨h4, g, dr, _, os⟩) (vs := us) I.hk hcl (show refsVE (.ref C :: bm) = true from hbm) rfl T.sa mself I.hself (by show hp.objs.size ≤ h0.objs.size; rw [hsize0]; exact Nat.le_add_right _ _) hxL hnx hst hl (by
      show 0 + fs.length ≤ 1000
      have := I.len
      omega) (fun f hf => ⟨(I.hf f hf).1, (I.hf f hf).2, T.noF f hf⟩) (fun p hp' => lookup_rev hnd (List.mem_cons_of_mem _ hp')) X4 hns4 hx4 rfl (fun dx e => by cases e) (fun h' tk' d' k5' hx5 hd5 => ?_)
  have keep : ∀ b o, hp.get? b = some o → h'.get? b = some o := fun b o e => k5' b o (hne e) (fun dx z => by cases z) (old1 b o (kk b o e) (hne e))
  rw [List.append_nil] at hd5
  exact ⟨rfl, hq h' tk' x d' ⟨keep, xlt, ⟨_, _, hx5, rfl, rfl, rfl, rfl⟩, hd5⟩⟩
end
end XEx
end PySem

namespace L2
open PySem PySem.Spec PyProof.Rows PySem.XEx
theorem relO_rev {vs : List V} {us : List Value} : ∀ {fs : List Str}, Vals vs us → ∀ f, RelO ((fs.zip vs).reverse.lookup f) ((fs.zip us).reverse.lookup f) := by
  have key : ∀ {l1 : List (Str × V)} {l2 : List (Str × Value)}, Paired (fun (p : Str × V) (q : Str × Value) => p.1 = q.1 ∧ RelV p.2 q.2) l1 l2 → ∀ f, RelO (l1.lookup f) (l2.lookup f) := by
    intro l1 l2 h
    induction h with
    | nil => intro f; trivial
    | @cons p q l1 l2 r _ ih =>
      intro f
      obtain ⟨g, v⟩ := p
      obtain ⟨g', u⟩ := q
      obtain ⟨e, rv⟩ := r
      have e' : g = g' := e
      subst e'
      rw [lookup_put, XEx.lookup_cons]
      by_cases h : f = g
      · rw [if_pos h, if_pos h]; exact rv
      · rw [if_neg h, if_neg h]; exact ih f
  have app : ∀ {l1 m1 : List (Str × V)} {l2 m2 : List (Str × Value)}, Paired (fun (p : Str × V) (q : Str × Value) => p.1 = q.1 ∧ RelV p.2 q.2) l1 l2 → Paired (fun (p : Str × V) (q : Str × Value) => p.1 = q.1 ∧ RelV p.2 q.2) m1 m2 → Paired (fun (p : Str × V) (q : Str × Value) => p.1 = q.1 ∧ RelV p.2 q.2) (l1 ++ m1) (l2 ++ m2) := by
    intro l1 m1 l2 m2 h1 h2
    induction h1 with
    | nil => exact h2
    | cons r _ ih => exact .cons r ih
  have zp : ∀ {vs : List V} {us : List Value} {fs : List Str}, Vals vs us → Paired (fun (p : Str × V) (q : Str × Value) => p.1 = q.1 ∧ RelV p.2 q.2) (fs.zip vs).reverse (fs.zip us).reverse := by
    intro vs us fs r
    induction r generalizing fs with
    | nil => simp; exact .nil
    | @cons v u vs us r _ ih =>
      cases fs with
      | nil => simp; exact .nil
      | cons f fs =>
        rw [List.zip_cons_cons, List.zip_cons_cons, List.reverse_cons, List.reverse_cons]
        exact app ih (.cons ⟨rfl, r⟩ .nil)
  intro fs r
  exact key (zp r)
/-- X(..): an exception of a class with an own __init__ that says super().__init__("..") and stores its arguments -/
def tMkX (C : Addr) (fs : List Str) (ta : TA) : St → Hp → XK → Prop := fun σ H Q => ta σ H fun vs H1 => vs.length = fs.length ∧ (fs = [] → Q (.ref C) none H1) ∧ (fs ≠ [] → ∀ d, H1 d = none → Q (.ref C) (some d) (upd H1 d (.xd (fs.zip vs).reverse)))
section
variable {X : Cx} {C : Addr} {fs : List Str} {params : Arguments} {body : List Stmt} {scope : Scope} {k : Nat}
theorem run_mkx {pins : List (Addr × Obj)} {σ : St} {H : Hp} {s : Shared} {Q : XK} {us : List Value} {vs : List V} (T : XCls X.prog X.K C fs params body scope) (I : IText fs params body scope) (hr : Room k X.A) (I1 : Inv X pins σ H s) (r : Vals vs us) (hl : vs.length = fs.length)
    (q0 : fs = [] → Q (.ref C) none H) (q1 : fs ≠ [] → ∀ d, H d = none → Q (.ref C) (some d) (upd H d (.xd (fs.zip vs).reverse))) :
    wpAny (model X.prog X.w) X.A (call (.ref C) us) (MkP X pins σ Q) X.xe s := by
  obtain ⟨mb, hB, hmb⟩ := I1.ok.mod.blt
  have hlim := I1.nolimit
  refine wpAny_call (exc_made (mg := X.mg) (mb := mb) T I I1.kIn hlim (I1.ok.mod.glob.keeps I1.bk) (hB.keeps I1.bk) (hmb _ (by decide +kernel)) (by have := hr.dp; omega) (by rw [← hl, r.length]) fun h' tk e d M => ?_)
  obtain ⟨hp, g, dr, t, os⟩ := s
  obtain ⟨oe, fv, hoe, hc, hd, hdat, h1⟩ := M.obj
  have hne : H e = none := I1.hok.fresh M.new
  have hge : hp.get? e = none := by
    cases z : hp.get? e with
    | none => rfl
    | some o => exact absurd (Nat.lt_of_lt_of_le (Heap.lt_size z) M.new) (Nat.lt_irrefl _)
  cases d with
  | none =>
    have hz : (fs.zip us).reverse = [] := M.dct
    have hfs : fs = [] := by
      cases fs with
      | nil => rfl
      | cons f fs =>
        cases us with
        | nil =>
          rw [r.length] at hl
          cases hl
        | cons u us => simp at hz
    exact ⟨e, oe, fv, ⟨hp, g, dr, t, os⟩, H, .ref C, none, rfl, I1, M.keep, hge, hoe, ⟨hc, hd⟩, hdat, h1, hne, rfl, I1.bare, raises_own T.exC T.tyC, q0 hfs⟩
  | some dx =>
    obtain ⟨dlo, dne, hpn, hns⟩ := M.dct
    have hfs : fs ≠ [] := fun z => by
      rw [z] at hpn
      simp at hpn
    obtain ⟨G', g1, g2⟩ := restrict h' fun b => decide (b ≠ e)
    have gk : ∀ b, b ≠ e → G'.get? b = h'.get? b := fun b hb => g1 b (decide_eq_true hb)
    have ge : G'.get? e = none := g2 e (by simp)
    have old : ∀ b o, hp.get? b = some o → G'.get? b = some o := fun b o z => (gk b (fun y => by rw [y, hge] at z; cases z)).trans (M.keep b o z)
    have ob : ObjOk X.prog X.w (upd H dx (.xd (fs.zip vs).reverse)) G' dx (.xd (fs.zip vs).reverse) :=
      ⟨_, hns.at (fun o z => (gk dx dne).trans z), relO_rev r⟩
    have J : Inv X pins σ (upd H dx (.xd (fs.zip vs).reverse)) ⟨G', g, dr, tk, os⟩ := I1.laid (t' := tk) old dlo ob
    refine ⟨e, oe, fv, ⟨G', g, dr, tk, os⟩, _, .ref C, some dx, rfl, J, fun b o z => ?_, ge, hoe, ⟨hc, hd⟩, hdat, h1, ?_, rfl, I1.bare, raises_own T.exC T.tyC, q1 hfs dx (I1.hok.fresh dlo)⟩
    · by_cases hb : b = e
      · have z' : G'.get? b = some o := z
        rw [hb, ge] at z'; cases z'
      · exact (gk b hb).symm.trans z
    · rw [upd_ne (Ne.symm dne)]
      exact hne
theorem pmk_x {x : Str} {e : Expr} {es : List Expr} {ta : TA} {p pos : Pos} (T : XCls X.prog X.K C fs params body scope) (I : IText fs params body scope) (hm : X.mg x = some (.ref C)) (hr : Room k X.A) (ha : PA X (e :: es) ta) (hg : Gl X x := by rfl) (hdb : (x == ("__debug__" : Str)) = false := by decide)
    (he : starEach (e :: es) X.env = (false, eval e X.env) :: starEach es X.env := by rfl) (hpl : (backTo pos (starEach es X.env)).any (·.1) = false := by rfl) : PMk X (.Call (.Name x p) (e :: es) [] pos) (tMkX C fs ta) := by
  intro pins s σ H Q J h
  refine wpAny_Call_Name_kw (ld_glob J hg hm ?_ hdb)
  refine PySem.W.callWith_K (h₀ := X.base) J.ok.mod.kin T.kC (thn (ha.run pos pins s σ H _ J h) fun us s1 hh => ?_) he hpl
  obtain ⟨vs, H1, I1, r1, hl, q0, q1⟩ := hh
  exact ⟨I1.kIn, run_mkx T I hr I1 r1 hl q0 q1⟩
theorem pmk_x0 {x : Str} {p pos : Pos} (T : XCls X.prog X.K C fs params body scope) (I : IText fs params body scope) (hm : X.mg x = some (.ref C)) (hr : Room k X.A) (hg : Gl X x := by rfl) (hdb : (x == ("__debug__" : Str)) = false := by decide) : PMk X (.Call (.Name x p) [] [] pos) (tMkX C fs tNil) := by
  intro pins s σ H Q J h
  refine wpAny_Call_Name_kw (ld_glob J hg hm ?_ hdb)
  obtain ⟨hl, q0, q1⟩ := h
  exact PySem.W.callWith_K0 J.kIn T.kC (run_mkx T I hr J (.nil : Vals [] []) hl q0 q1)
/-- raise X(..) -/
def tRaiseX (C : Addr) (fs : List Str) (W : WX) (ta : TA) : TS := fun _ σ H => tMkX C fs ta σ H fun cls d H' => W cls d σ H'
theorem ps_raiseX {x : Str} {e : Expr} {es : List Expr} {ta : TA} {W : WX} {p pos pos2 : Pos} (hc : X.calm = true) (T : XCls X.prog X.K C fs params body scope) (I : IText fs params body scope) (hm : X.mg x = some (.ref C)) (hr : Room k X.A) (tk : Takes X W) (ha : PA X (e :: es) ta) (hg : Gl X x := by rfl) (hdb : (x == ("__debug__" : Str)) = false := by decide)
    (he : starEach (e :: es) X.env = (false, eval e X.env) :: starEach es X.env := by rfl) (hpl : (backTo pos (starEach es X.env)).any (·.1) = false := by rfl) : PS X (.Raise (some (.Call (.Name x p) (e :: es) [] pos)) none pos2) (tRaiseX C fs W ta) := ps_raise hc tk (pmk_x T I hm hr ha hg hdb he hpl)
theorem ps_raiseX0 {x : Str} {W : WX} {p pos pos2 : Pos} (hc : X.calm = true) (T : XCls X.prog X.K C fs params body scope) (I : IText fs params body scope) (hm : X.mg x = some (.ref C)) (hr : Room k X.A) (tk : Takes X W) (hg : Gl X x := by rfl) (hdb : (x == ("__debug__" : Str)) = false := by decide) : PS X (.Raise (some (.Call (.Name x p) [] [] pos)) none pos2) (tRaiseX C fs W tNil) := ps_raise hc tk (pmk_x0 T I hm hr hg hdb)
/-- e.f, e the exception that the suite holds (at a; its class cls, its dict d) -/
def tByX (C : Addr) (f : Str) (a : Addr) (cls : Value) (d : Option Addr) (te : TE) : TE := fun σ H Q => te σ H fun x H1 => x = .ref a ∧ cls = .ref C ∧ ∃ (dd : Addr) (ps : List (Str × V)) (v : V), d = some dd ∧ H1 dd = some (.xd ps) ∧ ps.lookup f = some v ∧ Q v H1
theorem pe_byX {a : Addr} {oe : Obj} {cls : Value} {d : Option Addr} {pn : List (Addr × Obj)} {e : Expr} {te : TE} {pos : Pos} {f : Str} (T : XCls X.prog X.K C fs params body scope) (hf' : PySem.W.findIn X.K (.ref C) f = some none) (hz : Zc cls d oe) (hf : ∃ vs, oe.data = .fields vs) (he : PE (X.suite a ((a, oe) :: pn)) e te)
    (hb : attributeBase e f X.env (eval e X.env) = eval e X.env := by rfl) : PE (X.suite a ((a, oe) :: pn)) (.Attribute e f pos) (tByX C f a cls d te) := by
  refine ⟨fun pins s σ H Q I h => ?_⟩
  refine attr_of hb (thn (he.run pins s σ H _ I h) fun u s1 hh => ?_)
  obtain ⟨x, H1, I1, rx, ex, ec, dd, ps, v, ed, ea, l, q⟩ := hh
  subst ex
  obtain rfl : u = Value.ref a := rx
  subst ec
  subst ed
  obtain ⟨ha, _⟩ := I1.pin (a, oe) (List.mem_append_left _ List.mem_cons_self)
  obtain ⟨vs, hd⟩ := hf
  have hx : ObjOk X.prog X.w H1 s1.heap dd (.xd ps) := I1.hok dd _ ea
  obtain ⟨mA, hns, hr⟩ := hx
  obtain ⟨od, ho, hl⟩ := lookIn_ns hns
  obtain ⟨u, hu, ru⟩ := RelO.some_of (v := v) (o := mA f) (by rw [← l]; exact hr f)
  have J : PySem.W.InstAt s1.heap a oe C (some od) := ⟨ha, hz.1, by unfold PySem.W.notCls; rw [hd] <;> rfl, by rw [hz.2]; exact ho⟩
  exact HandSPX.exc_get I1.kIn J T.ga T.gg T.exC (PySem.W.findObj_own T.hdC hf' rfl (by rw [hl, hu])) (handed_of ru) ⟨v, H1, I1.tok _, ru, q⟩
end
end L2

namespace M
open PySem PySem.Spec PyProof.Rows L2 PySem.XEx
/-! ### a hook over any test of the written part, the defs, and the exception classes' own __init__ -/
/-- an own exception class with an __init__: its name, fields, and the text of its __init__ -/
structure XD where
  cls : Str
  fs : List Str
  params : Arguments
  body : List Stmt
  scope : Scope
abbrev FnX : Type := Option (Arguments × FuncBody × Scope × Addr × Addr)
def XD.obs (K : PySem.W.Frag) (d : XD) : FnX := match K.lookup (He.ma K (He.ga K d.cls) "__init__") with
  | some ⟨_, _, .func fd, _⟩ => some (fd.params, fd.body, fd.scope, fd.globals, fd.builtins)
  | _ => none
def XD.val (d : XD) : FnX := some (d.params, .stmts d.body, d.scope, mainGlobals, builtinsNs)
def clsOk (K : PySem.W.Frag) (C : Addr) : Bool := match K.lookup C with
  | some ⟨.type t, _, .cls cd, sl⟩ => decide (t = "type") && (match cd.mro, sl.toList with
    | .ref C' :: bm, [_, _, _, _, some (.builtin n), _] => C' == C && (n == "ValueError.__new__" && (cd.hasDict && (!cd.hasDel && HandSPX.refsVE bm)))
    | _, _ => false)
  | _ => false
theorem clsOk_ok {K : PySem.W.Frag} {C : Addr} (h : clsOk K C = true) : ∃ nm q N bs bm sn sub ab col dd k0 k1 k2 k3 k5, K.lookup C = some (excClassObj nm q C N bs bm true sn sub ab col dd k0 k1 k2 k3 k5 "ValueError.__new__") ∧ HandSPX.refsVE bm = true := by
  unfold clsOk at h
  split at h
  · rename_i t dd cd sl ho
    obtain ⟨ht, h⟩ := He.ba h
    split at h
    · rename_i C' bm k0 k1 k2 k3 n k5 hm hs
      obtain ⟨h1, h⟩ := He.ba h
      obtain ⟨h2, h⟩ := He.ba h
      obtain ⟨h3, h⟩ := He.ba h
      obtain ⟨h4, h5⟩ := He.ba h
      have e1 : C' = C := eq_of_beq h1
      have e2 : n = "ValueError.__new__" := eq_of_beq h2
      have e4 : cd.hasDel = false := by simpa using h4
      have e0 : t = "type" := of_decide_eq_true ht
      subst e1 e2 e0
      obtain ⟨nm, bs, mro, ns, qn, hd, sn, sub, ab, col, del⟩ := cd
      dsimp only at hm h3 e4
      subst hm h3 e4
      have hsl : sl = #[k0, k1, k2, k3, some (.builtin "ValueError.__new__"), k5] := by
        obtain ⟨l⟩ := sl
        simp only at hs
        rw [hs]
      subst hsl
      exact ⟨nm, qn, ns, bs, bm, sn, sub, ab, col, dd, k0, k1, k2, k3, k5, ho, h5⟩
    · cases h
  · cases h
def fnOk (P : Program) (K : PySem.W.Frag) (C fI : Addr) : Bool := match K.lookup fI with
  | some ⟨_, _, .func fd, _⟩ => (match fd.code with
      | .ref cda => PySem.W.codeIn K (.ref cda) fd.qualname && (match K.lookup cda with
        | some ⟨_, _, .fields vs, _⟩ => (match (vs[2]? : Option Value) with
          | some (.str file _) => P.main.file == file
          | _ => false)
        | _ => false)
      | _ => false) && ((match fd.closure with
      | [(n, cc)] => decide (n = ("__class__" : Str)) && (match K.lookup cc with
        | some ⟨_, _, .cell (some (.ref D)), _⟩ => decide (D = C)
        | _ => false)
      | _ => false) && (match fd.defaults with
      | .none => true
      | _ => false))
  | _ => false
def XD.ok (P : Program) (K : PySem.W.Frag) (d : XD) : Bool :=
  let C := He.ga K d.cls
  let fI := He.ma K C "__init__"
  He.eqO (PySem.W.nsIn K mainGlobals d.cls) (some (some (.ref C))) && (clsOk K C && (He.eqO (PySem.W.findIn K (.ref C) "__setattr__") (some (some (.builtin "object.__setattr__"))) && (He.eqO (PySem.W.findIn K (.ref C) "__getattribute__") (some (some (.builtin "BaseException.__getattribute__"))) &&
  (He.eqO (PySem.W.findIn K (.ref C) "__getattr__") (some none) && ((d.fs.all fun f => He.eqO (PySem.W.findIn K (.ref C) f) (some none)) && (PySem.W.keepIn K (.ref C) && (decide (PySem.W.subIn K (.ref C) (.type "BaseException") = some true) &&
  (decide (PySem.W.subIn K (.ref C) (.type "ValueError") = some true) && (decide (PySem.W.typeIn K (.ref C) = some (.type "type")) && (PySem.W.hasDictIn K C && (decide (PySem.W.exmOne K (.ref C) (.ref C) = some true) &&
  (He.eqO (PySem.W.nsIn K cStatics "thirdparty.any") (some none) && (He.eqO (PySem.W.nsIn K mainGlobals "super") (some none) && (He.eqO (PySem.W.ks_superIn K C C "__init__") (some (some (.builtin "ValueError.__init__"))) && (decide (PySem.W.mroIn K C (.ref C) = some true) &&
  (He.eqO (PySem.W.findIn K (.ref C) "__init__") (some (some (.ref fI))) && (decide (PySem.W.typeIn K (.ref fI) = some (.type "function")) && fnOk P K C fI)))))))))))))))))
theorem XD.cls_of {P : Program} {K : PySem.W.Frag} {d : XD} (e : d.obs K = d.val) (c : d.ok P K = true) (ht : (P.main.scope.names.lookup ("super" : Str)).isSome = false) :
    XCls P K (He.ga K d.cls) d.fs d.params d.body d.scope := by
  unfold XD.ok at c
  obtain ⟨c0, c⟩ := He.ba c
  obtain ⟨c1, c⟩ := He.ba c
  obtain ⟨c2, c⟩ := He.ba c
  obtain ⟨c3, c⟩ := He.ba c
  obtain ⟨c4, c⟩ := He.ba c
  obtain ⟨c5, c⟩ := He.ba c
  obtain ⟨c6, c⟩ := He.ba c
  obtain ⟨c7, c⟩ := He.ba c
  obtain ⟨c8, c⟩ := He.ba c
  obtain ⟨c9, c⟩ := He.ba c
  obtain ⟨c10, c⟩ := He.ba c
  obtain ⟨c11, c⟩ := He.ba c
  obtain ⟨c12, c⟩ := He.ba c
  obtain ⟨c13, c⟩ := He.ba c
  obtain ⟨c14, c⟩ := He.ba c
  obtain ⟨c15, c⟩ := He.ba c
  obtain ⟨c16, c⟩ := He.ba c
  obtain ⟨c17, c18⟩ := He.ba c
  refine { cls := clsOk_ok c1, sa := He.eqO_ok c2, ga := He.eqO_ok c3, gg := He.eqO_ok c4, noF := fun f hf => He.eqO_ok (List.all_eq_true.mp c5 f hf), kC := c6, exC := of_decide_eq_true c7, veC := of_decide_eq_true c8, tyC := of_decide_eq_true c9, hdC := c10, te := of_decide_eq_true c11, op := He.eqO_ok c12, sup := He.eqO_ok c13, sI := He.eqO_ok c14, mC := of_decide_eq_true c15, top := ht, fn := ?_ }
  generalize hfI : He.ma K (He.ga K d.cls) "__init__" = fI at *
  unfold fnOk at c18
  unfold XD.obs at e
  rw [hfI] at e
  cases q : K.lookup fI with
  | none =>
    rw [q] at c18
    cases c18
  | some o =>
    obtain ⟨oc, od, dt, osl⟩ := o
    rw [q] at c18 e
    cases dt with
    | func fd =>
      obtain ⟨n1, n2, n3, n4, n5, n6, n7, n8, n9, n10, n11, n12, n13, n14, n15⟩ := fd
      have e2 : (some (n3, n4, n5, n6, n15) : FnX) = some (d.params, .stmts d.body, d.scope, mainGlobals, builtinsNs) := e
      simp only [Option.some.injEq, Prod.mk.injEq] at e2
      obtain ⟨h1, h2, h3, h4, h5⟩ := e2
      subst h1 h2 h3 h4 h5
      obtain ⟨k1, kr⟩ := He.ba c18
      obtain ⟨k2, k3⟩ := He.ba kr
      clear kr
      dsimp only at k1 k2 k3
      cases n13 with
      | ref cda =>
        obtain ⟨j1, j2⟩ := He.ba k1
        split at j2
        · rename_i ccl cdd vs ccs hcda
          split at j2
          · rename_i file tf hfile0
            cases n7 with
            | nil => cases k2
            | cons p rr =>
              obtain ⟨n, cc⟩ := p
              cases rr with
              | cons _ _ => cases k2
              | nil =>
                have k2' : (decide (n = ("__class__" : Str)) && (match K.lookup cc with
                  | some ⟨_, _, .cell (some (.ref D)), _⟩ => decide (D = He.ga K d.cls)
                  | _ => false)) = true := k2
                obtain ⟨i1, i2⟩ := He.ba k2'
                have en : n = ("__class__" : Str) := of_decide_eq_true i1
                subst en
                split at i2
                · rename_i cl cld D csl hcc
                  have eD : D = He.ga K d.cls := of_decide_eq_true i2
                  subst eD
                  cases n8 with
                  | none => exact ⟨fI, n1, n2, oc, od, n9, n10, n11, n12, cda, cc, n14, ccl, cl, cdd, cld, vs, file, tf, osl, ccs, csl, He.eqO_ok c16, of_decide_eq_true c17, q, j1, hcda, hfile0, j2, hcc⟩
                  | _ => cases k3
                · cases i2
          · cases j2
        · cases j2
      | _ => cases k1
    | _ => cases c18
/-! ### a def of the written part, found by any road -/
def pAd (C f : Str) (i : Nat) (K : PySem.W.Frag) : Addr := match PySem.W.recIn K (He.ma K (He.ga K C) f) "property" with
  | some l => (match l[i]? with
    | some (.ref g) => g
    | _ => 0)
  | _ => 0
structure AD where
  ad : PySem.W.Frag → Addr
  name : Str
  qual : Str
  params : Arguments
  body : List Stmt
  scope : Scope
  dfl : List He.Dv := []
  kwd : List (Str × He.Dv) := []
def AD.obs (K : PySem.W.Frag) (d : AD) : He.FnW := match K.lookup (d.ad K) with
  | some ⟨_, _, .func fd, _⟩ => some (fd.name, fd.qualname, fd.params, fd.body, fd.scope, fd.globals, fd.closure, fd.builtins)
  | _ => none
def AD.val (d : AD) : He.FnW := some (d.name, d.qual, d.params, .stmts d.body, d.scope, mainGlobals, [], builtinsNs)
def AD.dvs (K : PySem.W.Frag) (d : AD) : List V := d.dfl.map (He.Dv.v K)
def AD.kws (K : PySem.W.Frag) (d : AD) : List (Str × V) := d.kwd.map fun q => (q.1, q.2.v K)
def AD.ok (K : PySem.W.Frag) (d : AD) : Bool := PySem.W.keepIn K (.ref (d.ad K)) && (match K.lookup (d.ad K) with
  | some ⟨_, _, .func fd, _⟩ => PySem.W.codeIn K fd.code d.qual && (He.dflB K fd.defaults (d.dvs K) && He.kwdB K fd.kwdefaults (d.kws K))
  | _ => false)
theorem AD.funD {K : PySem.W.Frag} {d : AD} (e : d.obs K = d.val) (c : d.ok K = true) : ∃ fd, FunD K d.name d.qual d.params d.body d.scope (d.dvs K) (d.kws K) (d.ad K) fd := by
  obtain ⟨kp, c2⟩ := He.ba c
  unfold AD.obs at e
  cases q : K.lookup (d.ad K) with
  | none => rw [q] at c2; cases c2
  | some o =>
    obtain ⟨oc, od, dt, osl⟩ := o
    rw [q] at c2 e
    cases dt with
    | func fd =>
      obtain ⟨n1, n2, n3, n4, n5, n6, n7, n8, n9, n10, n11, n12, n13, n14, n15⟩ := fd
      have e2 : (some (n1, n2, n3, n4, n5, n6, n7, n15) : He.FnW) = some (d.name, d.qual, d.params, .stmts d.body, d.scope, mainGlobals, [], builtinsNs) := e
      simp only [Option.some.injEq, Prod.mk.injEq] at e2
      obtain ⟨h1, h2, h3, h4, h5, h6, h7, h8⟩ := e2
      subst h1 h2 h3 h4 h5 h6 h7 h8
      have c3 : (PySem.W.codeIn K n13 d.qual && (He.dflB K n8 (d.dvs K) && He.kwdB K n9 (d.kws K))) = true := c2
      obtain ⟨k1, k2⟩ := He.ba c3
      obtain ⟨k3, k4⟩ := He.ba k2
      exact ⟨_, ⟨oc, od, n8, n9, n10, n11, n12, n13, n14, osl, rfl, q, k1, He.dflB_ok k3, He.kwdB_ok k4⟩, kp⟩
    | _ => cases c2
/-! ### the hook -/
abbrev AlM : Type := Bool × List He.FnW × List FnX
def asM (g : Addr → Option Obj) : Nat → List Addr
  | 0 => [mainGlobals, cStatics]
  | n + 1 => He.growD g (asM g n)
def obsM (P : Program) (fb : PySem.W.Frag → Bool) (fn : List AD) (xs : List XD) (K : PySem.W.Frag) : AlM := (fb K && ((fn.all fun d => d.ok K) && xs.all fun d => d.ok P K), fn.map fun d => d.obs K, xs.map fun d => d.obs K)
def valM (fn : List AD) (xs : List XD) : AlM := (true, fn.map AD.val, xs.map XD.val)
def SaysM (P : Program) (fb : PySem.W.Frag → Bool) (fn : List AD) (xs : List XD) (K : PySem.W.Frag) : Prop := obsM P fb fn xs K = valM fn xs
def obsMG (P : Program) (n : Nat) (fb : PySem.W.Frag → Bool) (fn : List AD) (xs : List XD) (g : Addr → Option Obj) : AlM := obsM P fb fn xs (He.frG g (asM g n))
def hookM (P : Program) (n : Nat) (fb : PySem.W.Frag → Bool) (fn : List AD) (xs : List XD) : PySem.W.Hook where
  α := AlM
  obs := fun s => obsMG P n fb fn xs s.heap.get?
  val := fun _ => valM fn xs
  says := fun _ h => ∃ K : PySem.W.Frag, K.In h ∧ SaysM P fb fn xs K
  of := fun _ _ e => ⟨_, He.frG_in, e⟩
  keeps := fun _ _ _ ⟨K, hK, c⟩ k => ⟨K, PySem.W.Frag.In.keeps hK k, c⟩
theorem obsMG_eq {P : Program} {n : Nat} {fb : PySem.W.Frag → Bool} {fn : List AD} {xs : List XD} {g : Addr → Option Obj} {s : Shared} (h : ∀ a, g a = s.heap.get? a) : obsMG P n fb fn xs g = (hookM P n fb fn xs).obs s := by
  have e : g = s.heap.get? := funext h
  rw [e] <;> rfl
section
variable {P : Program} {fb : PySem.W.Frag → Bool} {fn : List AD} {xs : List XD} {K : PySem.W.Frag}
theorem SaysM.all (c : SaysM P fb fn xs K) : (fb K && ((fn.all fun d => d.ok K) && xs.all fun d => d.ok P K)) = true := congrArg (fun z : AlM => z.1) c
theorem SaysM.fact (c : SaysM P fb fn xs K) : fb K = true := (He.ba c.all).1
theorem SaysM.def_ (c : SaysM P fb fn xs K) (i : Nat) {d : AD} (h : fn[i]? = some d := by rfl) : ∃ fd, FunD K d.name d.qual d.params d.body d.scope (d.dvs K) (d.kws K) (d.ad K) fd := by
  have c2 := (He.ba (He.ba c.all).2).1
  have e : fn.map (fun d => d.obs K) = fn.map AD.val := congrArg (fun z : AlM => z.2.1) c
  have e2 : (fn.map fun d => d.obs K)[i]? = (fn.map AD.val)[i]? := by rw [e]
  rw [List.getElem?_map, List.getElem?_map, h] at e2
  exact AD.funD (Option.some.inj e2) (List.all_eq_true.mp c2 d (List.mem_of_getElem? h))
theorem SaysM.exc (c : SaysM P fb fn xs K) (ht : (P.main.scope.names.lookup ("super" : Str)).isSome = false) (i : Nat) {d : XD} (h : xs[i]? = some d := by rfl) : XCls P K (He.ga K d.cls) d.fs d.params d.body d.scope := by
  have c2 := (He.ba (He.ba c.all).2).2
  have e : xs.map (fun d => d.obs K) = xs.map XD.val := congrArg (fun z : AlM => z.2.2) c
  have e2 : (xs.map fun d => d.obs K)[i]? = (xs.map XD.val)[i]? := by rw [e]
  rw [List.getElem?_map, List.getElem?_map, h] at e2
  exact XD.cls_of (Option.some.inj e2) (List.all_eq_true.mp c2 d (List.mem_of_getElem? h)) ht
theorem SaysM.mgx (c : SaysM P fb fn xs K) {h : Heap} {mg : Str → Option Value} (X : K.In h) (G : h.Ns mainGlobals mg) (i : Nat) {d : XD} (hi : xs[i]? = some d := by rfl) : mg d.cls = some (.ref (He.ga K d.cls)) := by
  have c2 := List.all_eq_true.mp (He.ba (He.ba c.all).2).2 d (List.mem_of_getElem? hi)
  unfold XD.ok at c2
  exact PySem.W.mg_of X G (He.eqO_ok (He.ba c2).1)
end
end M

namespace L2
open PySem PySem.Spec PyProof.Rows
theorem Same.mut {H H' : Hp} {p : Addr} {o : HO} (e : Same H H') (h : H p = none) : Same H (upd H' p o) := fun a u ha => by
  rw [upd_ne (ne_of_none ha h)]
  exact e a u ha
theorem Same.new {H H' : Hp} {p : Addr} {o : HO} (e : Same H H') (h : H' p = none) : Same H (upd H' p o) := fun a u ha => by
  rw [upd_ne (ne_of_none (e a u ha) h)]
  exact e a u ha
end L2
namespace M
open PySem PySem.Spec PyProof.Rows L2
abbrev FnP (K : PySem.W.Frag) (x : Str) (st : Stmt) (f : Addr) (fd : FuncData) : Prop := FunD K x x (defArgs st) (defBody st) (defScope st) [] [] f fd
/-! ### ints in a list -/
theorem int_at {ns : List Int} {i : Nat} {y : V} (h : (ns.map V.int)[i]? = some y) : ∃ z, ns[i]? = some z ∧ y = .int z := by
  rw [List.getElem?_map] at h
  cases e : ns[i]? with
  | none => rw [e] at h; cases h
  | some z => rw [e] at h; exact ⟨z, rfl, (Option.some.inj h).symm⟩
theorem lt_of_at {α : Type} {l : List α} {i : Nat} {y : α} (h : l[i]? = some y) : i < l.length := (List.getElem?_eq_some_iff.mp h).1
/-- a list of draws -/
def Dr (ds : List Int) : Prop := ∀ d ∈ ds, 0 ≤ d ∧ d < 1000
theorem Dr.nil : Dr [] := fun _ h => by cases h
theorem Dr.snoc {ds : List Int} {d : Int} (h : Dr ds) (h0 : 0 ≤ d) (h1 : d < 1000) : Dr (ds ++ [d]) := fun x hx => by
  rcases List.mem_append.mp hx with hx | hx
  · exact h x hx
  · rw [List.mem_singleton.mp hx]; exact ⟨h0, h1⟩
theorem size_ok {n m : Nat} (h : n ≤ m) (hm : m < 16777216) : n < sizeLine := by rw [sizeLine_eq]; omega
theorem cut_to (xs : List V) {n : Nat} (h : n ≤ xs.length) : cutV xs none (some (n : Int)) = xs.take n := by
  unfold cutV
  rw [HT.sIx_nat, HT.sIx_none, Nat.min_eq_left h]
  simp
theorem fm_nonneg (z : Int) {m : Int} (h : 0 < m) : 0 ≤ z.fmod m := by
  rw [Int.fmod_eq_emod_of_nonneg _ (Int.le_of_lt h)]
  exact Int.emod_nonneg _ (by omega)
theorem fm_lt (z : Int) {m : Int} (h : 0 < m) : z.fmod m < m := by
  rw [Int.fmod_eq_emod_of_nonneg _ (Int.le_of_lt h)]
  exact Int.emod_lt_of_pos _ h
/-- what the text's top leaves of the names that every law uses -/
structure Bi (mg : Str → Option Value) : Prop where
  abs : mg "abs" = none
  int : mg "int" = none
  len : mg "len" = none
  range : mg "range" = none
end M

namespace L2
open PySem PySem.Spec PyProof.Rows
theorem foldl_repT (c : Nat) : ∀ (n : Nat) (acc : Array Nat), ((List.replicate n (#[c] : Array Nat)).foldl (· ++ ·) acc).toList = acc.toList ++ List.replicate n c := by
  intro n
  induction n with
  | zero => intro acc; simp
  | succ n ih =>
    intro acc
    rw [List.replicate_succ, List.foldl_cons, ih, Array.toList_append, List.replicate_succ, List.append_assoc]
    rfl
theorem txt_mul_one (c : Nat) (n : Int) (h : 1 ≤ n) : Txt.mul ⟨#[c]⟩ n = ⟨(List.replicate n.toNat c).toArray⟩ := by
  unfold Txt.mul
  rw [if_neg (by omega)]
  split
  · rename_i h1
    have e : n = 1 := by
      have h2 : ((n == 1) || ((⟨#[c]⟩ : Str).length == 0)) = true := h1
      rw [show ((⟨#[c]⟩ : Str).length == 0) = false from rfl, Bool.or_false] at h2
      exact eq_of_beq h2
    rw [e]
    rfl
  · have z := foldl_repT c n.toNat #[]
    have e : ((List.replicate n.toNat (#[c] : Array Nat)).foldl (· ++ ·) #[]) = (List.replicate n.toNat c).toArray := by
      apply Array.ext'
      rw [z]
      simp
    show (⟨(List.replicate n.toNat (⟨#[c]⟩ : Str).cps).foldl (· ++ ·) #[]⟩ : Str) = _
    rw [show ((⟨#[c]⟩ : Str).cps) = #[c] from rfl, e]
section
variable {X : Cx}
/-- 'c' * n -/
theorem op_mul_str : OpR X (binaryOp .Mult) (fun x y H Q => ∃ (c : Nat) (n : Int), x = .str ⟨#[c]⟩ ∧ y = .int n ∧ (1 ≤ n ∧ n ≤ 1000) ∧ Q (.str ⟨(List.replicate n.toNat c).toArray⟩) H) := by
  intro pins s σ H x y v u Q I rx ry h
  obtain ⟨c, n, rfl, rfl, ⟨h1, h2⟩, q⟩ := h
  obtain ⟨t, rfl⟩ := rx
  obtain ⟨t', rfl⟩ := ry
  refine SB.mul ⟨?_, fun _ _ => ?_, fun _ _ => ?_⟩ (fun t' k => ⟨.str ⟨(List.replicate n.toNat c).toArray⟩, H, I.tok _, ⟨t', by rw [txt_mul_one c n h1]⟩, q⟩)
  · simp only [Bool.or_eq_false_iff, decide_eq_false_iff_not]
    omega
  · show ¬ (((1 : Nat) : Int) > (2 ^ 63 - 1) / n)
    have : 1 ≤ (2 ^ 63 - 1 : Int) / n := by
      rw [Int.le_ediv_iff_mul_le (by omega)]
      omega
    omega
  · show Builtin.Str.tooLong (1 * n.toNat) = false
    unfold Builtin.Str.tooLong
    rw [decide_eq_false_iff_not, sizeLine_eq]
    omega
end
end L2
namespace M
open PySem PySem.Spec PyProof.Rows L2
/-! ### the names: which texts _law_names gives -/
def ltr (d k : Nat) : Nat := 97 + (d / 4 % 26 + 7 * k) % 26
def tailZ : List Nat := [122, 121, 120, 119, 118, 117, 116, 115]
def nmC (d n k : Nat) : List Nat :=
  if d % 4 = 0 then [ltr d k]
  else if d % 4 = 1 then List.replicate (d / 104 % 7) 113 ++ ([ltr d k] ++ List.replicate (6 - d / 104 % 7) 113)
  else if d % 4 = 2 then List.replicate (n - k) (97 + d / 4 % 26)
  else ltr d k :: tailZ.take ((d + 3 * k) % 8)
def nm (d n k : Nat) : Str := ⟨(nmC d n k).toArray⟩
def nmL (d n : Nat) : List Str := (List.range n).map (nm d n)
theorem nmL_len (d n : Nat) : (nmL d n).length = n := by unfold nmL; simp
theorem nmL_at {d n k : Nat} (h : k < n) : (nmL d n)[k]? = some (nm d n k) := by
  unfold nmL
  rw [List.getElem?_map, List.getElem?_range h]
  rfl
/-- a good name -/
def NameOk (s : Str) : Prop := 1 ≤ s.cps.toList.length ∧ s.cps.toList.length ≤ 8 ∧ ∀ c ∈ s.cps.toList, 97 ≤ c ∧ c ≤ 122
theorem ltr_in (d k : Nat) : 97 ≤ ltr d k ∧ ltr d k ≤ 122 := by unfold ltr; omega
theorem nm_ok {d n k : Nat} (hn : n ≤ 8) (hk : k < n) : NameOk (nm d n k) := by
  have hl := ltr_in d k
  unfold NameOk nm nmC
  simp only
  split
  · exact ⟨by simp, by simp, fun c hc => by simp at hc; rw [hc]; exact hl⟩
  · split
    · refine ⟨by simp; omega, by simp; omega, fun c hc => ?_⟩
      simp only [List.mem_append, List.mem_replicate, List.mem_singleton] at hc
      rcases hc with ⟨_, e⟩ | e | ⟨_, e⟩ <;> rw [e] <;> first | exact hl | omega
    · split
      · refine ⟨by simp; omega, by simp; omega, fun c hc => ?_⟩
        simp only [List.mem_replicate] at hc
        omega
      · refine ⟨by simp, by simp [tailZ]; omega, fun c hc => ?_⟩
        simp only [List.mem_cons] at hc
        rcases hc with e | hc
        · rw [e]; exact hl
        · have hm := List.mem_of_mem_take hc
          simp only [tailZ, List.mem_cons, List.not_mem_nil, or_false] at hm
          omega
theorem nm_inj {d n j k : Nat} (hn : n ≤ 26) (hj : j < n) (hk : k < n) (e : nm d n j = nm d n k) : j = k := by
  have e1 : nmC d n j = nmC d n k := by
    have z := congrArg (fun s : Str => s.cps.toList) e
    simpa [nm] using z
  have key : ltr d j = ltr d k → j = k := by unfold ltr; omega
  unfold nmC at e1
  by_cases h0 : d % 4 = 0
  · rw [if_pos h0, if_pos h0] at e1
    exact key (List.cons.inj e1).1
  · rw [if_neg h0, if_neg h0] at e1
    by_cases h1 : d % 4 = 1
    · rw [if_pos h1, if_pos h1] at e1
      have e2 := List.append_cancel_left e1
      exact key (List.cons.inj e2).1
    · rw [if_neg h1, if_neg h1] at e1
      by_cases h2 : d % 4 = 2
      · rw [if_pos h2, if_pos h2] at e1
        have e2 := congrArg List.length e1
        rw [List.length_replicate, List.length_replicate] at e2
        omega
      · rw [if_neg h2, if_neg h2] at e1
        exact key (List.cons.inj e1).1
theorem nmL_nodup {d n : Nat} (hn : n ≤ 26) : (nmL d n).Nodup := by
  unfold nmL
  rw [List.Nodup, List.pairwise_map]
  refine List.Pairwise.imp_of_mem (R := fun a b => a ≠ b) (fun {a b} ha hb hab e => hab (nm_inj hn (List.mem_range.mp ha) (List.mem_range.mp hb) e)) (List.nodup_range)
theorem nmL_mem_ok {d n : Nat} (hn : n ≤ 8) {s : Str} (h : s ∈ nmL d n) : NameOk s := by
  unfold nmL at h
  obtain ⟨k, hk, rfl⟩ := List.mem_map.mp h
  exact nm_ok hn (List.mem_range.mp hk)
end M

namespace M
open PySem PySem.Spec PyProof.Rows L2
/-! ### calls, whatever is raised: at the caller's slots it is wished for by W -/
/-- a def of the module -/
structure Cal (P : Program) (w : World) (K : PySem.W.Frag) (mg : Str → Option Value) (base : Heap) (k : Nat) (x : Str) (ps : List Str) (sp : Sp) : Prop where
  ex : ∃ (f : Addr) (fd : FuncData), mg x = some (.ref f) ∧ PySem.W.keepIn K (.ref f) = true ∧ Binds K fd ps [] ∧ FnOk P w K mg base (L2.CX P w) k f fd ps sp
/-- a method of the class at C (its own or a base's) -/
structure Mth (P : Program) (w : World) (K : PySem.W.Frag) (mg : Str → Option Value) (base : Heap) (k : Nat) (C : Addr) (m : Str) (ps : List Str) (sp : Sp) : Prop where
  cl : Cls K C
  ex : ∃ (f : Addr) (fd : FuncData), Meth K C m f ∧ Binds K fd ps [] ∧ FnOk P w K mg base (L2.CX P w) k f fd ps sp
/-- C.m read off the class, a plain def -/
structure ClF (K : PySem.W.Frag) (C : Addr) (m : Str) (f : Addr) : Prop where
  rd : PySem.W.readsIn K C (.type "type") = true
  ga : PySem.W.specialIn K (.ref C) "__getattribute__" = some (some (.builtin "type.__getattribute__"))
  at_ : PySem.W.findCls K (.ref C) (.type "type") m = some (.val (.ref f))
  kp : PySem.W.keepIn K (.ref f) = true
structure CFn (P : Program) (w : World) (K : PySem.W.Frag) (mg : Str → Option Value) (base : Heap) (k : Nat) (x : Str) (m : Str) (ps : List Str) (sp : Sp) : Prop where
  ex : ∃ (C f : Addr) (fd : FuncData), mg x = some (.ref C) ∧ ClF K C m f ∧ Binds K fd ps [] ∧ FnOk P w K mg base (L2.CX P w) k f fd ps sp
/-- C(..) -/
structure Mak (P : Program) (w : World) (K : PySem.W.Frag) (mg : Str → Option Value) (base : Heap) (k : Nat) (x : Str) (C : Addr) (ps : List Str) (sp : Sp) : Prop where
  gC : mg x = some (.ref C)
  ex : ∃ (f : Addr) (fd : FuncData), Mk K C f ∧ Binds K fd ps [] ∧ FnOk P w K mg base (L2.CX P w) k f fd ps sp
section
variable {X : Cx} {k j : Nat} {x m : Str} {ps : List Str} {sp : Sp} {W : WX} {e o : Expr} {es : List Expr} {t : TA} {ta : TE} {p pos apos np : Pos} {C : Addr}
theorem pe_cal (G : Cal X.prog X.w X.K X.mg X.base k x ps sp) (hr : Room j X.A) (tk : Takes X W) (ha : PA X (e :: es) t) (hk : k ≤ j := by decide) (hg : Gl X x := by rfl) (hdb : (x == ("__debug__" : Str)) = false := by decide)
    (he : starEach (e :: es) X.env = (false, eval e X.env) :: starEach es X.env := by rfl) (hpl : (backTo pos (starEach es X.env)).any (·.1) = false := by rfl) : PE X (.Call (.Name x p) (e :: es) [] pos) (tCallS sp (WE W) t) := by
  obtain ⟨f, fd, hm, hkp, hb, F⟩ := G.ex
  exact pe_callS F (hr.mono hk) hg hm hkp hb (fun σ => passAt tk σ) ha hdb he hpl
def tMethS (m : Str) (sp : Sp) (C : Addr) (E : L2.St → XK) (ta : TE) (t : TA) : TE := fun σ H Q => ta σ H fun x H1 => ∃ a dx fs, x = .ref a ∧ H1 a = some (.ins C dx fs) ∧ fs.lookup m = none ∧ t σ H1 fun vs H2 => sp (x :: vs) H2 Q (E σ)
theorem pe_mth {pl : Sem Bool} (G : Mth X.prog X.w X.K X.mg X.base k C m ps sp) (hr : Room j X.A) (tk : Takes X W) (he : PE X o ta) (ha : PA X (e :: es) t) (hk : k ≤ j := by decide)
    (hst : starEach (e :: es) X.env = (false, eval e X.env) :: starEach es X.env := by rfl) (hpl : (backTo pos (starEach es X.env)).any (·.1) = false := by rfl)
    (ht : eval (.Call (.Attribute o m apos) (e :: es) [] pos) X.env = (do
      let ov ← eval o X.env
      standAt apos.atName
      let (f, first) ← holding [ov] (getMethod ov m pl)
      callWith pos f first (backTo pos (starEach (e :: es) X.env)) (backToKw pos (keywordEach [] X.env))) := by rfl) :
    PE X (.Call (.Attribute o m apos) (e :: es) [] pos) (tMethS m sp C (WE W) ta t) := by
  obtain ⟨f, fd, hm, hb, F⟩ := G.ex
  refine ⟨fun pins s σ H Q I h => ?_⟩
  refine PySem.W.methodCall_KW (pl := pl) (thn (he.run pins s σ H _ I h) fun u s1 ⟨x, H1, I1, rx, a, dx, fs, ex, ea, l, q⟩ => ?_) ht
  subst ex
  obtain rfl : u = Value.ref a := rx
  refine getmeth_ok I1 ea G.cl hm l ?_
  refine PySem.W.callWith_K (first := [.ref a]) (h₀ := X.base) I.ok.mod.kin hm.kp (thn (ha.run pos pins s1 σ H1 _ I1 q) fun us s2 ⟨vs, H2, I2, r, q2⟩ => ⟨I2.kIn, ?_⟩) hst hpl
  exact run_fnS (us := .ref a :: us) (vs := .ref a :: vs) (E := WE W) F (hr.mono hk) hb (passAt tk σ) I2 (.cons rfl r) q2
theorem pe_mth0 {pl : Sem Bool} (G : Mth X.prog X.w X.K X.mg X.base k C m ps sp) (hr : Room j X.A) (tk : Takes X W) (he : PE X o ta) (hk : k ≤ j := by decide)
    (ht : eval (.Call (.Attribute o m apos) [] [] pos) X.env = (do
      let ov ← eval o X.env
      standAt apos.atName
      let (f, first) ← holding [ov] (getMethod ov m pl)
      callWith pos f first (backTo pos (starEach [] X.env)) (backToKw pos (keywordEach [] X.env))) := by rfl) :
    PE X (.Call (.Attribute o m apos) [] [] pos) (tMethS m sp C (WE W) ta tNil) := by
  obtain ⟨f, fd, hm, hb, F⟩ := G.ex
  refine ⟨fun pins s σ H Q I h => ?_⟩
  refine PySem.W.methodCall_KW (pl := pl) (thn (he.run pins s σ H _ I h) fun u s1 ⟨x, H1, I1, rx, a, dx, fs, ex, ea, l, q⟩ => ?_) ht
  subst ex
  obtain rfl : u = Value.ref a := rx
  refine getmeth_ok I1 ea G.cl hm l ?_
  exact PySem.W.callWith_K0 (first := [.ref a]) I1.kIn hm.kp (run_fnS (us := [.ref a]) (vs := [.ref a]) (E := WE W) F (hr.mono hk) hb (passAt tk σ) I1 (.cons rfl .nil) q)
/-- the same, the class and the method told by the reading -/
def tMthE (P : Program) (w : World) (K : PySem.W.Frag) (mg : Str → Option Value) (base : Heap) (j : Nat) (m : Str) (W : WX) (ta : TE) (t : TA) : TE := fun σ H Q => ta σ H fun x H1 => ∃ (a C dx : Addr) (fs : List (Str × V)) (k : Nat) (ps : List Str) (sp : Sp), x = .ref a ∧ H1 a = some (.ins C dx fs) ∧
  Mth P w K mg base k C m ps sp ∧ k ≤ j ∧ fs.lookup m = none ∧ t σ H1 fun vs H2 => sp (x :: vs) H2 Q (WE W σ)
theorem pe_mthE {pl : Sem Bool} (hr : Room j X.A) (tk : Takes X W) (he : PE X o ta) (ha : PA X (e :: es) t)
    (hst : starEach (e :: es) X.env = (false, eval e X.env) :: starEach es X.env := by rfl) (hpl : (backTo pos (starEach es X.env)).any (·.1) = false := by rfl)
    (ht : eval (.Call (.Attribute o m apos) (e :: es) [] pos) X.env = (do
      let ov ← eval o X.env
      standAt apos.atName
      let (f, first) ← holding [ov] (getMethod ov m pl)
      callWith pos f first (backTo pos (starEach (e :: es) X.env)) (backToKw pos (keywordEach [] X.env))) := by rfl) :
    PE X (.Call (.Attribute o m apos) (e :: es) [] pos) (tMthE X.prog X.w X.K X.mg X.base j m W ta t) := by
  refine ⟨fun pins s σ H Q I h => ?_⟩
  refine PySem.W.methodCall_KW (pl := pl) (thn (he.run pins s σ H _ I h) fun u s1 ⟨x, H1, I1, rx, a, C, dx, fs, k, ps, sp, ex, ea, G, hk, l, q⟩ => ?_) ht
  obtain ⟨f, fd, hm, hb, F⟩ := G.ex
  subst ex
  obtain rfl : u = Value.ref a := rx
  refine getmeth_ok I1 ea G.cl hm l ?_
  refine PySem.W.callWith_K (first := [.ref a]) (h₀ := X.base) I.ok.mod.kin hm.kp (thn (ha.run pos pins s1 σ H1 _ I1 q) fun us s2 ⟨vs, H2, I2, r, q2⟩ => ⟨I2.kIn, ?_⟩) hst hpl
  exact run_fnS (us := .ref a :: us) (vs := .ref a :: vs) (E := WE W) F (hr.mono hk) hb (passAt tk σ) I2 (.cons rfl r) q2
theorem pe_mthE0 {pl : Sem Bool} (hr : Room j X.A) (tk : Takes X W) (he : PE X o ta)
    (ht : eval (.Call (.Attribute o m apos) [] [] pos) X.env = (do
      let ov ← eval o X.env
      standAt apos.atName
      let (f, first) ← holding [ov] (getMethod ov m pl)
      callWith pos f first (backTo pos (starEach [] X.env)) (backToKw pos (keywordEach [] X.env))) := by rfl) :
    PE X (.Call (.Attribute o m apos) [] [] pos) (tMthE X.prog X.w X.K X.mg X.base j m W ta tNil) := by
  refine ⟨fun pins s σ H Q I h => ?_⟩
  refine PySem.W.methodCall_KW (pl := pl) (thn (he.run pins s σ H _ I h) fun u s1 ⟨x, H1, I1, rx, a, C, dx, fs, k, ps, sp, ex, ea, G, hk, l, q⟩ => ?_) ht
  obtain ⟨f, fd, hm, hb, F⟩ := G.ex
  subst ex
  obtain rfl : u = Value.ref a := rx
  refine getmeth_ok I1 ea G.cl hm l ?_
  exact PySem.W.callWith_K0 (first := [.ref a]) I1.kIn hm.kp (run_fnS (us := [.ref a]) (vs := [.ref a]) (E := WE W) F (hr.mono hk) hb (passAt tk σ) I1 (.cons rfl .nil) q)
/-- Cls.m(self, ..) -/
theorem pe_cfn {pl : Sem Bool} (G : CFn X.prog X.w X.K X.mg X.base k x m ps sp) (hr : Room j X.A) (tk : Takes X W) (ha : PA X (e :: es) t) (hk : k ≤ j := by decide) (hg : Gl X x := by rfl) (hdb : (x == ("__debug__" : Str)) = false := by decide)
    (hst : starEach (e :: es) X.env = (false, eval e X.env) :: starEach es X.env := by rfl) (hpl : (backTo pos (starEach es X.env)).any (·.1) = false := by rfl)
    (ht : eval (.Call (.Attribute (.Name x np) m apos) (e :: es) [] pos) X.env = (do
      let ov ← eval (.Name x np) X.env
      standAt apos.atName
      let (f, first) ← holding [ov] (getMethod ov m pl)
      callWith pos f first (backTo pos (starEach (e :: es) X.env)) (backToKw pos (keywordEach [] X.env))) := by rfl) :
    PE X (.Call (.Attribute (.Name x np) m apos) (e :: es) [] pos) (tCallS sp (WE W) t) := by
  obtain ⟨C, f, fd, hm, c, hb, F⟩ := G.ex
  refine ⟨fun pins s σ H Q I h => ?_⟩
  refine PySem.W.methodCall_KW (pl := pl) (ld_glob I hg hm ?_ hdb) ht
  refine PySem.W.method_cls I.kIn c.ga ?_
  refine PySem.W.cls_value I.kIn c.rd c.at_ rfl ?_
  refine PySem.W.callWith_K (first := []) (h₀ := X.base) I.ok.mod.kin c.kp (thn (ha.run pos pins _ σ H _ (I.tok _) h) fun us s2 ⟨vs, H2, I2, r, q2⟩ => ⟨I2.kIn, ?_⟩) hst hpl
  exact run_fnS (E := WE W) F (hr.mono hk) hb (passAt tk σ) I2 r q2
theorem run_makeS {CX : CXT} {fd : FuncData} {f : Addr} {E : L2.St → XK} {pins : List (Addr × Obj)} {σ : L2.St} {H : Hp} {s : Shared} {Q : VK} {us : List Value} {vs : List V} (M : Mk X.K C f) (F : FnOk X.prog X.w X.K X.mg X.base CX k f fd ps sp) (hr : Room (k + 1) X.A) (hb : Binds X.K fd ps [])
    (hx : PassesAt CX X σ (E σ)) (I : Inv X pins σ H s) (r : Vals vs us)
    (h : ∀ x dx, H x = none → H dx = none → dx ≠ x → sp (.ref x :: vs) (upd (upd H dx (.own x)) x (.ins C dx [])) (fun v H2 => v = .non ∧ Q (.ref x) H2) (E σ)) :
    wpAny (model X.prog X.w) X.A (call (.ref C) us) (EP X pins σ Q) X.xe s := by
  have hq := h (s.heap.objs.size + 1) s.heap.objs.size (I.hok.fresh (Nat.le_succ _)) (I.hok.fresh (Nat.le_refl _)) (Nat.ne_of_lt (Nat.lt_succ_self _))
  have I2 := Inv.made (C := C) I
  have r2 : Vals (V.ref (s.heap.objs.size + 1) :: vs) (Value.ref (s.heap.objs.size + 1) :: us) := .cons rfl r
  have hl : (Value.ref (s.heap.objs.size + 1) :: us).length = ps.length := by
    have e := r2.length
    rw [F.len _ _ _ _ hq] at e
    exact e.symm
  have b := hb { s with heap := _, toks := _ } (Value.ref (s.heap.objs.size + 1) :: us) I2.kIn (by rw [List.append_nil]; exact hl)
  rw [List.append_nil] at b
  refine wpAny_call (make_map (f := f) I.kIn M.makes M.init (beq_iff_eq.mp M.fn) (codeAny_mono (F.run _ X.stack _ _ ⟨Value.ref (s.heap.objs.size + 1) :: us, []⟩ (Value.ref (s.heap.objs.size + 1) :: us) _ _ (E σ) (hr.make C us [])
    (I2.env0.make C us []) b r2 hq) fun r s' hq' => ?_))
  cases r with
  | error e => exact hx pins _ _ e s' I2 hq'
  | ok fl =>
    cases fl with
    | ret u =>
      obtain ⟨v, H', I3, rv, ev, q3⟩ := I2.after hq'
      subst ev
      exact ⟨rv, ⟨V.ref (s.heap.objs.size + 1), H', I3, rfl, q3⟩⟩
    | next => exact False.elim hq'
    | brk => exact False.elim hq'
    | cont => exact False.elim hq'
def tMakeS (C : Addr) (sp : Sp) (E : L2.St → XK) (t : TA) : TE := fun σ H Q => t σ H fun vs H1 => ∀ x dx, H1 x = none → H1 dx = none → dx ≠ x → sp (.ref x :: vs) (upd (upd H1 dx (.own x)) x (.ins C dx [])) (fun v H2 => v = .non ∧ Q (.ref x) H2) (E σ)
theorem pe_mak (G : Mak X.prog X.w X.K X.mg X.base k x C ps sp) (hr : Room j X.A) (tk : Takes X W) (ha : PA X (e :: es) t) (hk : k + 1 ≤ j := by decide) (hg : Gl X x := by rfl) (hdb : (x == ("__debug__" : Str)) = false := by decide)
    (he : starEach (e :: es) X.env = (false, eval e X.env) :: starEach es X.env := by rfl) (hpl : (backTo pos (starEach es X.env)).any (·.1) = false := by rfl) : PE X (.Call (.Name x p) (e :: es) [] pos) (tMakeS C sp (WE W) t) := by
  obtain ⟨f, fd, M, hb, F⟩ := G.ex
  refine ⟨fun pins s σ H Q I h => ?_⟩
  refine wpAny_Call_Name_kw (ld_glob I hg G.gC ?_ hdb)
  refine PySem.W.callWith_K (h₀ := X.base) I.ok.mod.kin M.kp (thn (ha.run pos pins s σ H _ I h) fun us s1 ⟨vs, H1, I1, r, q⟩ => ⟨I1.kIn, ?_⟩) he hpl
  exact run_makeS (E := WE W) M F (hr.mono hk) hb (passAt tk σ) I1 r q
end
theorem putF_len (f : Str) (v : V) : ∀ fs : List (Str × V), (putF f v fs).length ≤ fs.length + 1
  | [] => Nat.le_refl 1
  | (g, u) :: r => by
    show (if g = f then (g, v) :: r else (g, u) :: putF f v r).length ≤ _
    split
    · exact Nat.le_succ _
    · exact Nat.succ_le_succ (putF_len f v r)
theorem putF_le {f : Str} {v : V} {fs : List (Str × V)} {m : Nat} (h : fs.length ≤ m) : (putF f v fs).length ≤ m + 1 := Nat.le_trans (putF_len f v fs) (Nat.succ_le_succ h)
theorem rd_upd {H : Hp} {a p : Addr} {o u : HO} (h : a ≠ p) (r : Rd H a u) : Rd (upd H p o) a u := by
  rcases r with r | ⟨q, r⟩
  · exact .inl (by rw [upd_ne h]; exact r)
  · exact .inr ⟨q, by rw [upd_ne h]; exact r⟩
theorem sqL_upd {K : PySem.W.Frag} {H : Hp} {a p : Addr} {o : HO} {xs : List V} (h : a ≠ p) (r : SqL K H a xs) : SqL K (upd H p o) a xs := by
  rcases r with r | r
  · exact .inl (rd_upd h r)
  · exact .inr r
theorem sqT_upd {K : PySem.W.Frag} {H : Hp} {a p : Addr} {o : HO} {xs : List V} (h : a ≠ p) (r : SqT K H a xs) : SqT K (upd H p o) a xs := by
  rcases r with r | r
  · exact .inl (rd_upd h r)
  · exact .inr r
/-! ### try, the readings of its parts as they come -/
theorem pss_imp {X : Cx} {ss : List Stmt} {t t' : TS} (h : PSs X ss t) (i : ∀ D σ H, t' D σ H → t D σ H) : PSs X ss t' := ⟨fun pins s σ H D I q => h.run pins s σ H D I (i D σ H q)⟩
theorem ps_tryA {X : Cx} {x n : Str} {c : Value} {i : Nat} {body suite : List Stmt} {b₀ : Stmt} {np pos pos' : Pos} {tb : WX → List (Addr × Obj) → (Value → Shared → Prop) → TS} {ts : Addr → Obj → Value → Option Addr → List (Addr × Obj) → TS} {Wout : WX}
    (hs : X.stack = X.env :: X.outer) (hf : X.env.frame = some X.env.locals) (hN : X.N.Nodup) (hi : X.N[i]? = some n) (hln : X.env.kindOf n = some .local) (hc : Names X x c) (tk : Takes X Wout)
    (hb : ∀ (W : WX) (pn : List (Addr × Obj)) (xe : Value → Shared → Prop), Takes (X.tr pn xe) W → PassesOwn (model X.prog X.w) X.A X.env xe → PSs (X.tr pn xe) body (tb W pn xe))
    (hsu : ∀ (a : Addr) (oe : Obj) (cls : Value) (d : Option Addr) (pn : List (Addr × Obj)), Zc cls d oe → (∃ vs, oe.data = .fields vs) → PSs (X.suite a ((a, oe) :: pn)) (b₀ :: suite) (ts a oe cls d pn)) :
    PS X (.Try body [.ExceptHandler (some (.Name x np)) (some n) (b₀ :: suite) pos'] [] [] pos)
      (fun D σ H => ∀ pn xe, tb (wAs X.K c i (fun a cls d => fun D σ H => ∀ oe pn, ts a oe cls d pn D σ H) Wout D) pn xe D σ H) :=
  ps_try_as (tb := fun W D σ H => ∀ pn xe, tb W pn xe D σ H) (ts := fun a cls d => fun D σ H => ∀ oe pn, ts a oe cls d pn D σ H) hs hf hN hi hln hc tk
    (fun W pn xe t p => pss_imp (hb W pn xe t p) fun D σ H q => q pn xe) (fun a oe cls d pn z f => pss_imp (hsu a oe cls d pn z f) fun D σ H q => q oe pn)
theorem iteNN {c A B : Prop} [Decidable c] (hc : ¬ c) (h : A) : if (!decide c) = true then A else B := by
  rw [decide_eq_false hc]
  exact iteT h
/-- a def whose promise wishes for nothing that is raised lets nothing out -/
theorem calm_of {P : Program} {w : World} {K : PySem.W.Frag} {mg : Str → Option Value} {base : Heap} {k : Nat} {f : Addr} {fd : FuncData} {ps : List Str} {sp : Sp} (F : FnOk P w K mg base (L2.CX P w) k f fd ps sp) (h : ∀ vs H Q E, sp vs H Q E → sp vs H Q fun _ _ _ => False) :
    FnOk P w K mg base CX0 k f fd ps sp := by
  refine ⟨F.len, fun A outer s H args us vs Q E hr he hb hv hs => ?_⟩
  refine codeAny_mono (F.run A outer s H args us vs Q _ hr he hb hv (h vs H Q E hs)) fun r s' hq => ?_
  cases r with
  | error e =>
    obtain ⟨_, _, _, _, _, _, _, _, _, _, _, _, z⟩ := hq
    exact z
  | ok fl =>
    cases fl with
    | ret u => exact hq
    | next => exact hq
    | brk => exact hq
    | cont => exact hq
/-! ### facts of the written part -/
inductive Fy where
  | fa (f : He.Fa)
  | clf (x m : Str)
  | tup (x : Str) (vs : List He.Dv)
  | prp (x f : Str)
def Fy.ok (K : PySem.W.Frag) : Fy → Bool
  | .fa f => f.ok K
  | .clf x m => PySem.W.readsIn K (He.ga K x) (.type "type") && (He.eqO (PySem.W.specialIn K (.ref (He.ga K x)) "__getattribute__") (some (some (.builtin "type.__getattribute__"))) &&
      ((match PySem.W.findCls K (.ref (He.ga K x)) (.type "type") m with
        | some (.val (.ref f)) => f == He.ma K (He.ga K x) m
        | _ => false) && PySem.W.keepIn K (.ref (He.ma K (He.ga K x) m))))
  | .prp x f => (He.Fa.cls x).ok K && (He.eqO (PySem.W.findIn K (.ref (He.ga K x)) f) (some (some (.ref (He.ma K (He.ga K x) f)))) && (He.eqO (PySem.W.specialIn K (.ref (He.ma K (He.ga K x) f)) "__get__") (some (some (.builtin "property.__get__"))) &&
      (decide (PySem.W.takesIn K (.ref (He.ma K (He.ga K x) f)) = some true) && (match PySem.W.recIn K (He.ma K (He.ga K x) f) "property" with
        | some (.ref g :: _) => g == pAd x f 0 K
        | _ => false))))
  | .tup x vs => He.eqO (PySem.W.nsIn K mainGlobals x) (some (some (.ref (He.ga K x)))) && He.tupB K x vs
theorem Fy.clf_ok {K : PySem.W.Frag} {x m : Str} (c : (Fy.clf x m).ok K = true) : ClF K (He.ga K x) m (He.ma K (He.ga K x) m) := by
  obtain ⟨c1, c⟩ := He.ba c
  obtain ⟨c2, c⟩ := He.ba c
  obtain ⟨c3, c4⟩ := He.ba c
  refine ⟨c1, He.eqO_ok c2, ?_, c4⟩
  split at c3
  · rename_i f e
    rw [e, eq_of_beq c3]
  · cases c3
theorem Fy.prp_ok {K : PySem.W.Frag} {x f : Str} (c : (Fy.prp x f).ok K = true) : Cls K (He.ga K x) ∧ PropOf K (He.ga K x) f (He.ma K (He.ga K x) f) (pAd x f 0 K) := by
  obtain ⟨c0, c⟩ := He.ba c
  obtain ⟨c1, c⟩ := He.ba c
  obtain ⟨c2, c⟩ := He.ba c
  obtain ⟨c3, c4⟩ := He.ba c
  refine ⟨He.cls_ok c0, He.eqO_ok c1, He.eqO_ok c2, of_decide_eq_true c3, ?_⟩
  split at c4
  · rename_i g rest e
    exact ⟨rest, by rw [e, eq_of_beq c4]⟩
  · cases c4
theorem Fy.tup_ok {K : PySem.W.Frag} {x : Str} {vs : List He.Dv} {h : Heap} {mg : Str → Option Value} (X : K.In h) (G : h.Ns mainGlobals mg) (c : (Fy.tup x vs).ok K = true) : mg x = some (.ref (He.ga K x)) ∧ ∀ H : Hp, SqT K H (He.ga K x) (vs.map (He.Dv.v K)) := by
  obtain ⟨c1, c2⟩ := He.ba c
  exact ⟨PySem.W.mg_of X G (He.eqO_ok c1), fun H => He.tupB_ok c2 H⟩
/-! ### defs by names -/
def adG (x : Str) (s : Stmt) (dfl : List He.Dv := []) : AD := ⟨fun K => He.ga K x, x, x, defArgs s, defBody s, defScope s, dfl, []⟩
def adM (C m q : Str) (s : Stmt) (dfl : List He.Dv := []) : AD := ⟨fun K => He.ma K (He.ga K C) m, m, q, defArgs s, defBody s, defScope s, dfl, []⟩
def adP (C m q : Str) (i : Nat) (s : Stmt) : AD := ⟨pAd C m i, m, q, defArgs s, defBody s, defScope s, [], []⟩
theorem all_of {p : Fy → Bool} {l : List Fy} (h : l.all p = true) {f : Fy} (m : f ∈ l) : p f = true := List.all_eq_true.mp h f m
end M

namespace L2
open PySem PySem.Spec PyProof.Rows
/-! ### < of data -/
def rLtD (K : PySem.W.Frag) : R2 := fun x y H Q => ∃ d e, Dp K H x d ∧ Dp K H y e ∧ PySem.W.alike d e = true ∧ d ≠ .none ∧ d.depth ≤ 60 ∧ Q (.bl (PySem.W.dataLt d e)) H
section
variable {X : Cx}
theorem op_ltD (hu : X.A.units + 64 < cLine) : OpR X (compareOp .Lt) (rLtD X.K) := by
  intro pins s σ H x y v u Q I rx ry h
  obtain ⟨d, e, hd, he, al, nn, hz, q⟩ := h
  obtain ⟨as, r1⟩ := Dp.reads I d x v hd rx
  obtain ⟨bs, r2⟩ := Dp.reads I e y u he ry
  have z := PySem.W.rcLt_alike d e X.A s v u as bs r1 r2 al nn (by omega) X.prog X.w X.xe (EP X pins σ Q) ⟨.bl _, H, I, rfl, q⟩
  exact z
end
end L2
namespace M
open PySem PySem.Spec PyProof.Rows L2
/-! ### x in o, o of an own class -/
def tInOwn (P : Program) (w : World) (K : PySem.W.Frag) (mg : Str → Option Value) (base : Heap) (j : Nat) (neg : Bool) (W : WX) (ta tb : TE) : TE := fun σ H Q => ta σ H fun x H1 => tb σ H1 fun y H2 => ∃ (a C dx : Addr) (fs : List (Str × V)) (k : Nat) (ps : List Str) (sp : Sp), y = .ref a ∧ H2 a = some (.ins C dx fs) ∧
  Mth P w K mg base k C "__contains__" ps sp ∧ k ≤ j ∧ sp [.ref a, x] H2 (fun v H3 => ∃ b, v = .bl b ∧ Q (.bl (if neg then !b else b)) H3) (WE W σ)
section
variable {X : Cx} {j : Nat} {W : WX} {a b : Expr} {ta tb : TE}
theorem pc_own (hr : Room j X.A) (tk : Takes X W) (ha : PE X a ta) (hb : PE X b tb) : PC X .In a b (tInOwn X.prog X.w X.K X.mg X.base j false W ta tb) := by
  refine ⟨fun pins s σ H Q I h => ?_⟩
  refine thn (ha.run pins s σ H _ I h) fun v s1 ⟨x, H1, I1, rx, q1⟩ => thn (hb.run pins s1 σ H1 _ I1 q1) fun u s2 ⟨y, H2, I2, ry, o, C, dx, fs, k, ps, sp, ey, eo, G, hk, q⟩ => ?_
  subst ey
  obtain rfl : u = Value.ref o := ry
  obtain ⟨f, fd, hm, hbd, F⟩ := G.ex
  obtain ⟨mA, O, _, _, _, _⟩ := ins_get I2.hok eo
  obtain ⟨od, J, _⟩ := O.look
  obtain ⟨m, hF⟩ := I2.fr
  refine PySem.W.in_K hF I2.ok.mod.kin J hm.at_ hm.fn (wpAny_mono (run_fnS (us := [.ref o, v]) (vs := [.ref o, x]) (E := WE W) F (hr.mono hk) hbd (passAt tk σ) I2 (.cons rfl (.cons rx .nil)) q) (fun r s3 hq => ?_) fun _ _ z => z)
  obtain ⟨w', H3, I3, rw', b', eb, q3⟩ := hq
  subst eb
  cases rw'
  exact wpAny_truthy_bool ⟨.bl b', H3, I3, rfl, q3⟩
theorem pc_notOwn (hr : Room j X.A) (tk : Takes X W) (ha : PE X a ta) (hb : PE X b tb) : PC X .NotIn a b (tInOwn X.prog X.w X.K X.mg X.base j true W ta tb) := by
  refine ⟨fun pins s σ H Q I h => ?_⟩
  refine thn (ha.run pins s σ H _ I h) fun v s1 ⟨x, H1, I1, rx, q1⟩ => thn (hb.run pins s1 σ H1 _ I1 q1) fun u s2 ⟨y, H2, I2, ry, o, C, dx, fs, k, ps, sp, ey, eo, G, hk, q⟩ => ?_
  subst ey
  obtain rfl : u = Value.ref o := ry
  obtain ⟨f, fd, hm, hbd, F⟩ := G.ex
  obtain ⟨mA, O, _, _, _, _⟩ := ins_get I2.hok eo
  obtain ⟨od, J, _⟩ := O.look
  obtain ⟨m, hF⟩ := I2.fr
  refine PySem.W.notIn_K hF I2.ok.mod.kin J hm.at_ hm.fn (wpAny_mono (run_fnS (us := [.ref o, v]) (vs := [.ref o, x]) (E := WE W) F (hr.mono hk) hbd (passAt tk σ) I2 (.cons rfl (.cons rx .nil)) q) (fun r s3 hq => ?_) fun _ _ z => z)
  obtain ⟨w', H3, I3, rw', b', eb, q3⟩ := hq
  subst eb
  cases rw'
  exact wpAny_truthy_bool ⟨.bl (!b'), H3, I3, rfl, q3⟩
end
/-! ### e.f, a property that hands back a field g -/
structure Prp (P : Program) (w : World) (K : PySem.W.Frag) (mg : Str → Option Value) (base : Heap) (C : Addr) (f g : Str) : Prop where
  cl : Cls K C
  ex : ∃ (p ge : Addr) (fd : FuncData), PropOf K C f p ge ∧ Binds K fd ["self"] [] ∧ FnOk P w K mg base CX0 1 ge fd ["self"] (getSp C g)
theorem nox_pass {X : Cx} : Passes CX0 X.nox E0 := fun _ _ _ _ _ _ _ h => h.elim
def tPrp (C : Addr) (g : Str) (ta : TE) : TE := fun σ H Q => ta σ H fun x H1 => ∃ (a dx : Addr) (fs : List (Str × V)) (v : V), x = .ref a ∧ H1 a = some (.ins C dx fs) ∧ fs.lookup g = some v ∧ Q v H1
theorem pe_prp {X : Cx} {j : Nat} {C : Addr} {f g : Str} {e : Expr} {pos : Pos} {ta : TE} (G : Prp X.prog X.w X.K X.mg X.base C f g) (hr : Room j X.A) (he : PE X e ta) (hj : 2 ≤ j := by decide)
    (hab : attributeBase e f X.env (eval e X.env) = eval e X.env := by rfl) : PE X (.Attribute e f pos) (tPrp C g ta) := by
  obtain ⟨p, ge, fd, hp, hb, F⟩ := G.ex
  refine ⟨fun pins s σ H Q I h => ?_⟩
  refine attr_of hab (thn (he.run pins s σ H _ I h) fun u s1 ⟨x, H1, I1, rx, a, dx, fs, v, ex, ea, l, q⟩ => ?_)
  subst ex
  obtain rfl : u = Value.ref a := rx
  exact getprop_ok I1 ea G.cl hp F (hr.mono hj) hb .nil nox_pass ⟨a, dx, fs, v, rfl, ea, l, q⟩
theorem same_t {K : PySem.W.Frag} {H H' : Hp} {a : Addr} {xs : List V} (e : Same H H') (h : SqT K H a xs) : SqT K H' a xs := by
  rcases h with (h | ⟨o, h⟩) | h
  · exact .inl (.inl (e _ _ h))
  · exact .inl (.inr ⟨o, e _ _ h⟩)
  · exact .inr h
mutual
theorem dp_same {K : PySem.W.Frag} {H H' : Hp} (e : Same H H') : ∀ {v : V} {d : PyData}, Dp K H v d → Dp K H' v d
  | _, _, .non => .non
  | _, _, .bl b => .bl b
  | _, _, .int i => .int i
  | _, _, .str x => .str x
  | _, _, .lst h r => .lst (e.seq h) (dpAll_same e r)
  | _, _, .tup h r => .tup (same_t e h) (dpAll_same e r)
theorem dpAll_same {K : PySem.W.Frag} {H H' : Hp} (e : Same H H') : ∀ {vs : List V} {ds : List PyData}, DpAll K H vs ds → DpAll K H' vs ds
  | _, _, .nil => .nil
  | _, _, .cons h r => .cons (dp_same e h) (dpAll_same e r)
end
/-! ### the order of data, for lists of alike rows -/
def ltP (p q : V × PyData) : Bool := PySem.W.dataLt p.2 q.2
/-! ### ascending: rows put in their places one by one -/
section
variable {α : Type} (lt : α → α → Bool)
/-- behind the last one that it isn't less than: l read from its end -/
def insR (x : α) : List α → List α
  | [] => [x]
  | e :: r => if lt x e then e :: insR x r else x :: e :: r
/-- the rows in ascending order (l is kept turned round) -/
def asc (l : List α) : List α := (l.foldl (fun acc x => insR lt x acc) []).reverse
theorem insR_perm (x : α) : ∀ l : List α, (insR lt x l).Perm (x :: l)
  | [] => .refl _
  | e :: r => by
    unfold insR
    split
    · exact ((insR_perm x r).cons e).trans (List.Perm.swap x e r)
    · exact .refl _
theorem asc_fold_perm : ∀ (l acc : List α), (l.foldl (fun acc x => insR lt x acc) acc).Perm (l ++ acc)
  | [], acc => .refl _
  | x :: l, acc => by
    rw [List.foldl_cons]
    refine (asc_fold_perm l _).trans ?_
    refine ((insR_perm lt x acc).append_left l).trans ?_
    exact List.perm_middle
theorem asc_perm (l : List α) : (asc lt l).Perm l := by
  unfold asc
  refine (List.reverse_perm _).trans ?_
  have := asc_fold_perm lt l []
  rwa [List.append_nil] at this
theorem asc_len (l : List α) : (asc lt l).length = l.length := (asc_perm lt l).length_eq
/-- a strict order on what the list holds -/
structure Ord (S : α → Prop) : Prop where
  irr : ∀ a, S a → lt a a = false
  tr : ∀ a b c, S a → S b → S c → lt a b = true → lt b c = true → lt a c = true
  tot : ∀ a b, S a → S b → lt a b = true ∨ a = b ∨ lt b a = true
variable {lt}
/-- from the end: no one is less than the next -/
def Down (lt : α → α → Bool) (l : List α) : Prop := l.Pairwise fun a b => lt a b = false
theorem Ord.nlt_tr {S : α → Prop} (O : Ord lt S) {a b c : α} (ha : S a) (hb : S b) (hc : S c) (h1 : lt a b = false) (h2 : lt b c = false) : lt a c = false := by
  cases e : lt a c with
  | false => rfl
  | true =>
    rcases O.tot b c hb hc with h | h | h
    · rw [h] at h2; cases h2
    · rw [← h, h1] at e; cases e
    · have := O.tr a c b ha hc hb e h
      rw [this] at h1; cases h1
theorem insR_down {S : α → Prop} (O : Ord lt S) {x : α} (hx : S x) : ∀ {l : List α}, (∀ a ∈ l, S a) → Down lt l → Down lt (insR lt x l)
  | [], _, _ => by unfold insR Down; exact List.pairwise_singleton _ _
  | e :: r, hs, d => by
    have d' := List.pairwise_cons.mp d
    have he := hs e List.mem_cons_self
    unfold insR
    split
    · rename_i h
      refine List.pairwise_cons.mpr ⟨fun b hb => ?_, insR_down O hx (fun a ha => hs a (List.mem_cons_of_mem _ ha)) d'.2⟩
      rcases List.mem_cons.mp ((insR_perm lt x r).mem_iff.mp hb) with e1 | hb
      · subst e1
        cases q : lt e b with
        | false => rfl
        | true =>
          have := O.tr b e b hx he hx h q
          rw [O.irr b hx] at this; cases this
      · exact d'.1 b hb
    · rename_i h
      have h0 : lt x e = false := by simpa using h
      refine List.pairwise_cons.mpr ⟨fun b hb => ?_, d⟩
      rcases List.mem_cons.mp hb with e1 | hb
      · rw [e1]; exact h0
      · exact O.nlt_tr hx he (hs b (List.mem_cons_of_mem _ hb)) h0 (d'.1 b hb)
theorem asc_fold_down {S : α → Prop} (O : Ord lt S) : ∀ {l acc : List α}, (∀ a ∈ l, S a) → (∀ a ∈ acc, S a) → Down lt acc → Down lt (l.foldl (fun acc x => insR lt x acc) acc)
  | [], _, _, _, d => d
  | x :: l, acc, hl, ha, d => by
    rw [List.foldl_cons]
    refine asc_fold_down O (fun a h => hl a (List.mem_cons_of_mem _ h)) (fun a h => ?_) (insR_down O (hl x List.mem_cons_self) ha d)
    rcases List.mem_cons.mp ((insR_perm lt x acc).mem_iff.mp h) with e | h
    · rw [e]; exact hl x List.mem_cons_self
    · exact ha a h
/-- ascending: no later one is less than an earlier one -/
theorem asc_up {S : α → Prop} (O : Ord lt S) {l : List α} (hl : ∀ a ∈ l, S a) : (asc lt l).Pairwise fun a b => lt b a = false := by
  unfold asc
  exact List.pairwise_reverse.mpr (asc_fold_down O hl (fun _ h => by cases h) List.Pairwise.nil)
/-- two ascending lists of the same things are one -/
theorem up_unique {S : α → Prop} (O : Ord lt S) : ∀ {l m : List α}, (∀ a ∈ l, S a) → l.Perm m → (l.Pairwise fun a b => lt b a = false) → (m.Pairwise fun a b => lt b a = false) → l = m
  | [], m, _, p, _, _ => (List.Perm.nil_eq p)
  | a :: l, [], _, p, _, _ => absurd p.length_eq (by simp)
  | a :: l, b :: m, hs, p, d1, d2 => by
    have e1 := List.pairwise_cons.mp d1
    have e2 := List.pairwise_cons.mp d2
    have ha := hs a List.mem_cons_self
    have hb : S b := hs b (p.mem_iff.mpr List.mem_cons_self)
    have eab : a = b := by
      rcases List.mem_cons.mp (p.mem_iff.mp (List.mem_cons_self (a := a))) with e | h
      · exact e
      · have h1 := e2.1 a h
        rcases List.mem_cons.mp (p.mem_iff.mpr (List.mem_cons_self (a := b))) with e | h'
        · exact e.symm
        · have h2 := e1.1 b h'
          rcases O.tot a b ha hb with z | z | z
          · rw [z] at h1; cases h1
          · exact z
          · rw [z] at h2; cases h2
    subst eab
    rw [up_unique O (fun x hx => hs x (List.mem_cons_of_mem _ hx)) (List.Perm.cons_inv p) e1.2 e2.2]
end
theorem insR_split {α : Type} {lt : α → α → Bool} {x : α} : ∀ {l m : List α}, (∀ e ∈ l, lt x e = true) → (∀ e r, m = e :: r → lt x e = false) → insR lt x (l ++ m) = l ++ x :: m
  | [], [], _, _ => rfl
  | [], e :: r, _, h => by
    show (if lt x e then e :: insR lt x r else x :: e :: r) = _
    rw [h e r rfl]
    rfl
  | e :: l, m, h1, h2 => by
    show (if lt x e then e :: insR lt x (l ++ m) else x :: e :: (l ++ m)) = _
    rw [h1 e List.mem_cons_self, insR_split (fun a ha => h1 a (List.mem_cons_of_mem _ ha)) h2]
    rfl
/-! ### texts in order -/
def ltS (a b : Str) : Bool := decide (a.cps.toList < b.cps.toList)
theorem str_ext {x y : Str} (h : x.cps.toList = y.cps.toList) : x = y := by
  cases x; cases y
  simp only [Str.mk.injEq]
  exact Array.ext' h
theorem ordS : Ord ltS (fun _ => True) where
  irr := fun a _ => decide_eq_false (List.lt_irrefl _)
  tr := fun a b c _ _ _ h1 h2 => decide_eq_true (List.lt_trans (of_decide_eq_true h1) (of_decide_eq_true h2))
  tot := fun a b _ _ => by
    by_cases h : a.cps.toList < b.cps.toList
    · exact .inl (decide_eq_true h)
    · by_cases h2 : b.cps.toList < a.cps.toList
      · exact .inr (.inr (decide_eq_true h2))
      · exact .inr (.inl (str_ext (List.le_antisymm (List.not_lt.mp h2) (List.not_lt.mp h))))
end M

namespace M
open PySem PySem.Spec PyProof.Rows L2
/-! ### lists of texts -/
theorem insR_map {α β : Type} {lt : α → α → Bool} {lt2 : β → β → Bool} {f : α → β} (h : ∀ a b, lt2 (f a) (f b) = lt a b) (x : α) : ∀ l : List α, insR lt2 (f x) (l.map f) = (insR lt x l).map f
  | [] => rfl
  | e :: r => by
    show (if lt2 (f x) (f e) then f e :: insR lt2 (f x) (r.map f) else f x :: f e :: r.map f) = (if lt x e then e :: insR lt x r else x :: e :: r).map f
    rw [h, insR_map h x r]
    split <;> rfl
theorem asc_foldmap {α β : Type} {lt : α → α → Bool} {lt2 : β → β → Bool} {f : α → β} (h : ∀ a b, lt2 (f a) (f b) = lt a b) : ∀ l acc : List α, (l.map f).foldl (fun acc x => insR lt2 x acc) (acc.map f) = (l.foldl (fun acc x => insR lt x acc) acc).map f
  | [], _ => rfl
  | x :: r, acc => by
    show (r.map f).foldl _ (insR lt2 (f x) (acc.map f)) = _
    rw [insR_map h x acc]
    exact asc_foldmap h r _
theorem asc_map {α β : Type} {lt : α → α → Bool} {lt2 : β → β → Bool} {f : α → β} (h : ∀ a b, lt2 (f a) (f b) = lt a b) (l : List α) : asc lt2 (l.map f) = (asc lt l).map f := by
  unfold asc
  rw [List.map_reverse, ← asc_foldmap h l []]
  rfl
/-- the texts ascending -/
def upS (l : List Str) : List Str := asc ltS l
def dS (s : Str) : V × PyData := (.str s, .str s)
theorem ltP_dS (a b : Str) : ltP (dS a) (dS b) = ltS a b := PySem.W.dataLt_str a b
theorem asc_dS (l : List Str) : (asc ltP (l.map dS)).map (·.1) = (upS l).map V.str := by
  rw [asc_map (lt := ltS) ltP_dS, List.map_map]
  rfl
theorem upS_perm (l : List Str) : (upS l).Perm l := asc_perm ltS l
theorem risingS_all : ∀ (r : List Str) (p : Str), risingS p r = true → (p :: r).Pairwise fun a b => ltS b a = false
  | [], p, _ => List.pairwise_singleton _ _
  | x :: r, p, h => by
    have h' : (!ltCps x.cps.toList p.cps.toList && risingS x r) = true := h
    rw [Bool.and_eq_true] at h'
    have i := risingS_all r x h'.2
    have e1 : ltS x p = false := by
      have := h'.1
      rw [ltCps_eq] at this
      unfold ltS
      simpa using this
    refine List.pairwise_cons.mpr ⟨fun y hy => ?_, i⟩
    rcases List.mem_cons.mp hy with rfl | hy
    · exact e1
    · have e2 := (List.pairwise_cons.mp i).1 y hy
      exact Ord.nlt_tr ordS trivial trivial trivial e2 e1
theorem sortedS_up {l : List Str} (h : sortedS l = true) : l.Pairwise fun a b => ltS b a = false := by
  cases l with
  | nil => exact .nil
  | cons x r => exact risingS_all r x h
theorem sortedS_eq {ys xs : List Str} (p : ys.Perm xs) (h : sortedS ys = true) : ys = upS xs :=
  up_unique ordS (fun _ _ => trivial) (p.trans (upS_perm xs).symm) (sortedS_up h) (asc_up ordS fun _ _ => trivial)
theorem inV_strs (x : Str) (l : List Str) : inV (.str x) (l.map V.str) = decide (x ∈ l) := by
  unfold inV
  rw [List.any_map, Bool.eq_iff_iff, List.any_eq_true, decide_eq_true_iff]
  constructor
  · rintro ⟨y, hy, e⟩
    have e' : eqV (.str y) (.str x) = true := e
    have : y = x := by simpa [eqV] using e'
    rw [← this]; exact hy
  · intro h
    exact ⟨x, h, by simp [eqV]⟩
theorem flat_strs (l : List Str) : (l.map V.str).all flatV = true := by
  rw [List.all_map, List.all_eq_true]
  exact fun _ _ => rfl
theorem dp_strs {K : PySem.W.Frag} {H : Hp} : ∀ l : List Str, DpAll K H (l.map V.str) (l.map PyData.str)
  | [] => .nil
  | x :: l => .cons (.str x) (dp_strs l)
theorem dp_strL {K : PySem.W.Frag} {H : Hp} {a : Addr} {l : List Str} (h : SqL K H a (l.map V.str)) : Dp K H (.ref a) (.list (l.map .str)) := .lst h (dp_strs l)
theorem eqv_strs : ∀ l m : List Str, PyData.eqvAll (l.map .str) (m.map .str) = decide (l = m)
  | [], [] => by simp [PyData.eqvAll]
  | [], _ :: _ => by simp [PyData.eqvAll]
  | _ :: _, [] => by simp [PyData.eqvAll]
  | x :: l, y :: m => by
    show PyData.eqvAll (PyData.str x :: l.map .str) (PyData.str y :: m.map .str) = _
    rw [PyData.eqvAll, eqv_strs l m]
    have e : PyData.eqv (.str x) (.str y) = decide (x = y) := by
      rw [PyData.eqv]
      by_cases h : x = y
      · rw [h, decide_eq_true rfl]; exact beq_self_eq_true y
      · rw [decide_eq_false h]; exact beq_false_of_ne h
    rw [e]
    by_cases h1 : x = y <;> by_cases h2 : l = m <;> simp [h1, h2]
theorem eqv_strL (l m : List Str) : PyData.eqv (.list (l.map .str)) (.list (m.map .str)) = decide (l = m) := by
  rw [← eqv_strs l m, PyData.eqv]
theorem eqS_self (l : List Str) : PyData.eqv (.list (l.map .str)) (.list (l.map .str)) = true := by rw [eqv_strL, decide_eq_true rfl]
theorem canlay_strs : ∀ l : List Str, (∀ x ∈ l, PyData.strOk x = true) → PyData.canLayAll0 (l.map PyData.str) = true
  | [], _ => rfl
  | x :: l, h => by
    show PyData.canLayAll0 (PyData.str x :: l.map .str) = true
    rw [PyData.canLayAll0, canlay_strs l fun y hy => h y (List.mem_cons_of_mem _ hy), PyData.canLay0, h x List.mem_cons_self]
    rfl
theorem depth_strs : ∀ l : List Str, PyData.depthAll (l.map PyData.str) ≤ 1
  | [] => by rw [List.map_nil, PyData.depthAll]; decide
  | x :: l => by
    show PyData.depthAll (PyData.str x :: l.map .str) ≤ 1
    rw [PyData.depthAll, PyData.depth]
    have := depth_strs l
    omega
theorem shaped_strL (l : List Str) (h : ∀ x ∈ l, PyData.strOk x = true) : SeqAt.shaped (.list (l.map PyData.str)) = true := by
  unfold SeqAt.shaped
  rw [PyData.canLay0, PyData.depth, canlay_strs l h, decide_eq_true (by have := depth_strs l; omega)]
  rfl
theorem tYes_if {σ : L2.St} {H : Hp} {A B : Hp → Prop} (h : A H) : tYes σ H (fun b H3 => if b = true then A H3 else B H3) := h
theorem nmC_lt {d n k : Nat} : ∀ c ∈ nmC d n k, c < 128 := by
  have hl : ∀ j, ltr d j < 128 := fun j => by
    unfold ltr
    have := Nat.mod_lt (d / 4 % 26 + 7 * j) (show 26 > 0 by decide)
    omega
  intro c hc
  unfold nmC at hc
  split at hc
  · rw [List.mem_singleton.mp hc]; exact hl _
  split at hc
  · simp only [List.mem_append, List.mem_singleton, List.mem_replicate] at hc
    rcases hc with ⟨_, rfl⟩ | rfl | ⟨_, rfl⟩ <;> first | exact hl _ | decide
  split at hc
  · rw [(List.mem_replicate.mp hc).2]; have := Nat.mod_lt (d / 4) (show 26 > 0 by decide); omega
  · rcases List.mem_cons.mp hc with rfl | hc
    · exact hl _
    · have h2 := List.mem_of_mem_take hc
      have h3 : ∀ c ∈ tailZ, c < 128 := by decide
      exact h3 c h2
theorem nm_strOk (d n k : Nat) : PyData.strOk (nm d n k) = true := by
  unfold PyData.strOk nm
  rw [Array.all_eq_true']
  intro c hc
  have := nmC_lt (d := d) (n := n) (k := k) c (by simpa using hc)
  exact decide_eq_true (by omega)
theorem nmL_ok {d n : Nat} : ∀ x ∈ nmL d n, PyData.strOk x = true := fun x hx => by
  obtain ⟨k, _, rfl⟩ := List.mem_map.mp hx
  exact nm_strOk d n k
/-! ### a statement whose ends meet: J is what holds behind it -/
def tJ (t : TS) : TS := fun D σ H => ∃ J : L2.St → Hp → Prop, t { D with nx := J } σ H ∧ ∀ σ' H', J σ' H' → D.nx σ' H'
theorem ps_j {X : Cx} {st : Stmt} {t : TS} (h : PS X st t) : PS X st (tJ t) := by
  refine ⟨fun pins s σ H D I hw => ?_⟩
  obtain ⟨J, h1, h2⟩ := hw
  refine thn (h.run pins s σ H { D with nx := J } I h1) fun fl s' q => ?_
  cases fl with
  | next =>
    obtain ⟨σ', H', I', z⟩ := q
    exact ⟨σ', H', I', h2 _ _ z⟩
  | ret u => exact q
  | brk => exact q
  | cont => exact q
/-! ### built-in names that the text leaves free -/
def bnames : List Str := ["abs", "int", "len", "range", "list", "str", "sorted", "isinstance", "tuple", "enumerate", "dict", "set", "bool", "min", "max", "sum", "any", "all", "zip", "reversed", "ValueError", "type"]
structure Bj (mg : Str → Option Value) : Prop extends Bi mg where
  list : mg "list" = none
  str : mg "str" = none
  sorted : mg "sorted" = none
  isinstance : mg "isinstance" = none
  tuple : mg "tuple" = none
  enumerate : mg "enumerate" = none
  dict : mg "dict" = none
  set : mg "set" = none
  bool : mg "bool" = none
  min : mg "min" = none
  max : mg "max" = none
  sum : mg "sum" = none
  any : mg "any" = none
  all : mg "all" = none
  zip : mg "zip" = none
  reversed : mg "reversed" = none
  ValueError : mg "ValueError" = none
  type : mg "type" = none
theorem Bj.of {mg : Str → Option Value} (h : ∀ x ∈ bnames, mg x = none) : Bj mg := by
  constructor
  · constructor <;> exact h _ (by simp [bnames])
  all_goals exact h _ (by simp [bnames])
end M

namespace M
open PySem PySem.Spec PyProof.Rows L2 PySem.XEx
/-! ### own exceptions as values -/
/-- an exception object of the class at C with the own dict d, at a -/
def XV (C : Addr) (d : Option Addr) (a : Addr) : HO := .ext fun h => ∃ (oe : Obj) (vs : Array Value), h.get? a = some oe ∧ Zc (.ref C) d oe ∧ oe.data = .fields vs
theorem xv_ok {P : Program} {w : World} {H : Hp} {h : Heap} {a C : Addr} {d : Option Addr} {oe : Obj} {vs : Array Value} (e : h.get? a = some oe) (z : Zc (.ref C) d oe) (hd : oe.data = .fields vs) : ObjOk P w H h a (XV C d a) :=
  ⟨⟨oe, vs, e, z, hd⟩, ⟨oe, e⟩, fun _ _ ⟨o, v, q, r⟩ k => ⟨o, v, k o q, r⟩⟩
def tMkV (C : Addr) (fs : List Str) (ta : TA) : TE := fun σ H Q => ta σ H fun vs H1 => vs.length = fs.length ∧ (fs = [] → ∀ a, H1 a = none → Q (.ref a) (upd H1 a (XV C none a))) ∧
  (fs ≠ [] → ∀ d a, H1 d = none → H1 a = none → a ≠ d → Q (.ref a) (upd (upd H1 d (.xd (fs.zip vs).reverse)) a (XV C (some d) a)))
section
variable {X : Cx} {C : Addr} {fs : List Str} {params : Arguments} {body : List Stmt} {scope : Scope} {k : Nat}
theorem run_mkv {pins : List (Addr × Obj)} {σ : L2.St} {H : Hp} {s : Shared} {Q : VK} {us : List Value} {vs : List V} (T : XCls X.prog X.K C fs params body scope) (I : IText fs params body scope) (hr : Room k X.A) (I1 : Inv X pins σ H s) (r : Vals vs us) (hl : vs.length = fs.length)
    (q0 : fs = [] → ∀ a, H a = none → Q (.ref a) (upd H a (XV C none a))) (q1 : fs ≠ [] → ∀ d a, H d = none → H a = none → a ≠ d → Q (.ref a) (upd (upd H d (.xd (fs.zip vs).reverse)) a (XV C (some d) a))) :
    wpAny (model X.prog X.w) X.A (call (.ref C) us) (EP X pins σ Q) X.xe s := by
  obtain ⟨mb, hB, hmb⟩ := I1.ok.mod.blt
  have hlim := I1.nolimit
  refine wpAny_call (exc_made (mg := X.mg) (mb := mb) T I I1.kIn hlim (I1.ok.mod.glob.keeps I1.bk) (hB.keeps I1.bk) (hmb _ (by decide +kernel)) (by have := hr.dp; omega) (by rw [← hl, r.length]) fun h' tk e d M => ?_)
  obtain ⟨hp, g, dr, t, os⟩ := s
  obtain ⟨oe, fv, hoe, hc, hd, hdat, h1⟩ := M.obj
  have hne : H e = none := I1.hok.fresh M.new
  have hge : hp.get? e = none := by
    cases z : hp.get? e with
    | none => rfl
    | some o => exact absurd (Nat.lt_of_lt_of_le (Heap.lt_size z) M.new) (Nat.lt_irrefl _)
  cases d with
  | none =>
    have hz : (fs.zip us).reverse = [] := M.dct
    have hfs : fs = [] := by
      cases fs with
      | nil => rfl
      | cons f fs =>
        cases us with
        | nil =>
          rw [r.length] at hl
          cases hl
        | cons u us => simp at hz
    exact ⟨.ref e, _, I1.laid (t' := tk) M.keep M.new (xv_ok hoe ⟨hc, hd⟩ hdat), rfl, q0 hfs e hne⟩
  | some dx =>
    obtain ⟨dlo, dne, hpn, hns⟩ := M.dct
    have hfs : fs ≠ [] := fun z => by
      rw [z] at hpn
      simp at hpn
    obtain ⟨G', g1, g2⟩ := restrict h' fun b => decide (b ≠ e)
    have gk : ∀ b, b ≠ e → G'.get? b = h'.get? b := fun b hb => g1 b (decide_eq_true hb)
    have ge : G'.get? e = none := g2 e (by simp)
    have old : ∀ b o, hp.get? b = some o → G'.get? b = some o := fun b o z => (gk b (fun y => by rw [y, hge] at z; cases z)).trans (M.keep b o z)
    have ob : ObjOk X.prog X.w (upd H dx (.xd (fs.zip vs).reverse)) G' dx (.xd (fs.zip vs).reverse) :=
      ⟨_, hns.at (fun o z => (gk dx dne).trans z), relO_rev r⟩
    have J : Inv X pins σ (upd H dx (.xd (fs.zip vs).reverse)) ⟨G', g, dr, tk, os⟩ := I1.laid (t' := tk) old dlo ob
    have hne2 : (upd H dx (.xd (fs.zip vs).reverse)) e = none := by rw [upd_ne (Ne.symm dne)]; exact hne
    have J2 := J.laidN (h' := h') (t' := tk) (a := e) (o := XV C (some dx) e) (fun b u z => by
      by_cases hb : b = e
      · have z' : G'.get? b = some u := z
        rw [hb, ge] at z'; cases z'
      · exact (gk b hb).symm.trans z) ge hne2 (xv_ok hoe ⟨hc, hd⟩ hdat)
    exact ⟨.ref e, _, J2, rfl, q1 hfs dx e (I1.hok.fresh dlo) hne (Ne.symm dne)⟩
theorem pe_mkv {x : Str} {e : Expr} {es : List Expr} {ta : TA} {p pos : Pos} (T : XCls X.prog X.K C fs params body scope) (I : IText fs params body scope) (hm : X.mg x = some (.ref C)) (hr : Room k X.A) (ha : PA X (e :: es) ta) (hg : Gl X x := by rfl) (hdb : (x == ("__debug__" : Str)) = false := by decide)
    (he : starEach (e :: es) X.env = (false, eval e X.env) :: starEach es X.env := by rfl) (hpl : (backTo pos (starEach es X.env)).any (·.1) = false := by rfl) : PE X (.Call (.Name x p) (e :: es) [] pos) (tMkV C fs ta) := by
  refine ⟨fun pins s σ H Q J h => ?_⟩
  refine wpAny_Call_Name_kw (ld_glob J hg hm ?_ hdb)
  refine PySem.W.callWith_K (h₀ := X.base) J.ok.mod.kin T.kC (thn (ha.run pos pins s σ H _ J h) fun us s1 hh => ?_) he hpl
  obtain ⟨vs, H1, I1, r1, hl, q0, q1⟩ := hh
  exact ⟨I1.kIn, run_mkv T I hr I1 r1 hl q0 q1⟩
theorem pe_mkv0 {x : Str} {p pos : Pos} (T : XCls X.prog X.K C fs params body scope) (I : IText fs params body scope) (hm : X.mg x = some (.ref C)) (hr : Room k X.A) (hg : Gl X x := by rfl) (hdb : (x == ("__debug__" : Str)) = false := by decide) : PE X (.Call (.Name x p) [] [] pos) (tMkV C fs tNil) := by
  refine ⟨fun pins s σ H Q J h => ?_⟩
  refine wpAny_Call_Name_kw (ld_glob J hg hm ?_ hdb)
  obtain ⟨hl, q0, q1⟩ := h
  exact PySem.W.callWith_K0 J.kIn T.kC (run_mkv T I hr J (.nil : Vals [] []) hl q0 q1)
end
/-- such an object: its address, class, dict, and what the dict holds -/
structure XR where
  a : Addr
  C : Addr
  d : Option Addr
  ps : List (Str × V)
def XObj (H : Hp) (x : XR) : Prop := H x.a = some (XV x.C x.d x.a) ∧ (x.d = none ∨ ∃ dd, x.d = some dd ∧ H dd = some (.xd x.ps))
theorem XObj.same {H H' : Hp} {x : XR} (s : Same H H') (h : XObj H x) : XObj H' x := by
  refine ⟨s _ _ h.1, ?_⟩
  rcases h.2 with h | ⟨dd, e, h⟩
  · exact .inl h
  · exact .inr ⟨dd, e, s _ _ h⟩
theorem XObj.made {H : Hp} {C d a : Addr} {ps : List (Str × V)} (nd : H d = none) (na : H a = none) (ne : a ≠ d) : Same H (upd (upd H d (.xd ps)) a (XV C (some d) a)) ∧ XObj (upd (upd H d (.xd ps)) a (XV C (some d) a)) ⟨a, C, some d, ps⟩ := by
  have na2 : (upd H d (.xd ps)) a = none := by rw [upd_ne ne]; exact na
  refine ⟨((Same.refl H).new nd).new na2, ?_, .inr ⟨d, rfl, ?_⟩⟩
  · rw [upd_same]
  · show upd (upd H d (.xd ps)) a (XV C (some d) a) d = _
    rw [upd_ne (Ne.symm ne), upd_same]
theorem XObj.made0 {H : Hp} {C a : Addr} (na : H a = none) : Same H (upd H a (XV C none a)) ∧ XObj (upd H a (XV C none a)) ⟨a, C, none, []⟩ :=
  ⟨(Same.refl H).new na, upd_same, .inl rfl⟩
/-- what reading an exception's fields and isinstance ask of its class -/
structure XKit (K : PySem.W.Frag) (C : Addr) : Prop where
  hcl : (PySem.W.clsIn K C).isSome = true
  ga : PySem.W.findIn K (.ref C) "__getattribute__" = some (some (.builtin "BaseException.__getattribute__"))
  gg : PySem.W.findIn K (.ref C) "__getattr__" = some none
  exC : PySem.W.subIn K (.ref C) (.type "BaseException") = some true
  cl : PySem.W.findIn K (.ref C) "__class__" = some (some (.builtin "object.__class__"))
  sp : PySem.W.specialIn K (.builtin "object.__class__") "__get__" = some (some (.builtin "getset_descriptor.__get__"))
  tk : PySem.W.takesIn K (.builtin "object.__class__") = some true
  mr : PySem.W.mroIn K C (.type "object") = some true
  hd : PySem.W.hasDictIn K C = true
def XKit.ok (K : PySem.W.Frag) (C : Addr) : Bool := (PySem.W.clsIn K C).isSome && (He.eqO (PySem.W.findIn K (.ref C) "__getattribute__") (some (some (.builtin "BaseException.__getattribute__"))) && (He.eqO (PySem.W.findIn K (.ref C) "__getattr__") (some none) &&
  (decide (PySem.W.subIn K (.ref C) (.type "BaseException") = some true) && (He.eqO (PySem.W.findIn K (.ref C) "__class__") (some (some (.builtin "object.__class__"))) && (He.eqO (PySem.W.specialIn K (.builtin "object.__class__") "__get__") (some (some (.builtin "getset_descriptor.__get__"))) &&
  (decide (PySem.W.takesIn K (.builtin "object.__class__") = some true) && (decide (PySem.W.mroIn K C (.type "object") = some true) && PySem.W.hasDictIn K C)))))))
theorem XKit.of {K : PySem.W.Frag} {C : Addr} (c : XKit.ok K C = true) : XKit K C := by
  unfold XKit.ok at c
  obtain ⟨c0, c⟩ := He.ba c
  obtain ⟨c1, c⟩ := He.ba c
  obtain ⟨c2, c⟩ := He.ba c
  obtain ⟨c3, c⟩ := He.ba c
  obtain ⟨c4, c⟩ := He.ba c
  obtain ⟨c5, c⟩ := He.ba c
  obtain ⟨c6, c⟩ := He.ba c
  obtain ⟨c7, c8⟩ := He.ba c
  exact ⟨c0, He.eqO_ok c1, He.eqO_ok c2, of_decide_eq_true c3, He.eqO_ok c4, He.eqO_ok c5, of_decide_eq_true c6, of_decide_eq_true c7, c8⟩
section
variable {X : Cx}
theorem x_inst {pins : List (Addr × Obj)} {σ : L2.St} {H : Hp} {s : Shared} (I : Inv X pins σ H s) {x : XR} (h : XObj H x) : ∃ (ox : Obj) (od : Option Obj), PySem.W.InstAt s.heap x.a ox x.C od ∧
    (∀ dd ps, x.d = some dd → H dd = some (.xd ps) → ∃ (mA : Str → Option Value) (o : Obj), od = some o ∧ (∀ f, PySem.W.lookIn f o = some (mA f)) ∧ ∀ f, RelO (ps.lookup f) (mA f)) := by
  obtain ⟨⟨oe, vs, e, z, hd⟩, _, _⟩ := (show ObjOk X.prog X.w H s.heap x.a (XV x.C x.d x.a) from I.hok _ _ h.1)
  rcases h.2 with hn | ⟨dd, ed, hx⟩
  · refine ⟨oe, none, ⟨e, z.1, by unfold PySem.W.notCls; rw [hd] <;> rfl, by rw [z.2, hn]; trivial⟩, fun dd ps h2 => ?_⟩
    rw [hn] at h2; cases h2
  · obtain ⟨mA, hns, hr⟩ := (show ObjOk X.prog X.w H s.heap dd (.xd x.ps) from I.hok dd _ hx)
    obtain ⟨od, ho, hl⟩ := lookIn_ns hns
    refine ⟨oe, some od, ⟨e, z.1, by unfold PySem.W.notCls; rw [hd] <;> rfl, by rw [z.2, ed]; exact ho⟩, fun dd2 ps h2 h3 => ?_⟩
    rw [ed] at h2
    cases h2
    rw [hx] at h3
    cases h3
    exact ⟨mA, od, rfl, hl, hr⟩
def rIsX (K : PySem.W.Frag) : List V → Hp → VK → Prop := fun xs H Q => ∃ (x : XR) (c : V) (u : Value) (b : Bool), xs = [.ref x.a, c] ∧ ClsV c u ∧ XObj H x ∧ XKit K x.C ∧ PySem.W.kitOne K (.ref x.C) u = some b ∧ Q (.bl b) H
theorem call_isX : CallR X (.builtin "isinstance") (rIsX X.K) := by
  intro pins s σ H xs us Q I r h
  obtain ⟨x, c, u, b, rfl, k, hx, T, e, q⟩ := h
  obtain ⟨u1, u2, rfl, r1, r2⟩ := vals2 r
  cases (show u1 = Value.ref x.a from r1)
  have e2 := k.eq r2
  subst e2
  obtain ⟨ox, od, J, _⟩ := x_inst I hx
  exact PySem.W.kia_one (PySem.W.kitx_exc T.hcl T.ga T.gg T.exC T.cl T.sp T.tk T.mr) I.kIn J e (fun z => nomatch z) fun tk => ⟨.bl b, H, I.tok tk, rfl, q⟩
def tXf (K : PySem.W.Frag) (f : Str) (te : TE) : TE := fun σ H Q => te σ H fun y H1 => ∃ (x : XR) (v : V), y = .ref x.a ∧ XObj H1 x ∧ XKit K x.C ∧ PySem.W.findIn K (.ref x.C) f = some none ∧ x.d ≠ none ∧ x.ps.lookup f = some v ∧ Q v H1
theorem pe_xf {e : Expr} {te : TE} {pos : Pos} {f : Str} (he : PE X e te) (hb : attributeBase e f X.env (eval e X.env) = eval e X.env := by rfl) : PE X (.Attribute e f pos) (tXf X.K f te) := by
  refine ⟨fun pins s σ H Q I h => ?_⟩
  refine attr_of hb (thn (he.run pins s σ H _ I h) fun u s1 hh => ?_)
  obtain ⟨y, H1, I1, rx, x, v, ey, hx, T, hn, hd, l, q⟩ := hh
  subst ey
  obtain rfl : u = Value.ref x.a := rx
  obtain ⟨ox, od, J, hJ⟩ := x_inst I1 hx
  rcases hx.2 with h0 | ⟨dd, ed, hxd⟩
  · exact absurd h0 hd
  obtain ⟨mA, o, eo, hl, hr⟩ := hJ dd x.ps ed hxd
  subst eo
  obtain ⟨u, hu, ru⟩ := RelO.some_of (v := v) (o := mA f) (by rw [← l]; exact hr f)
  exact HandSPX.exc_get I1.kIn J T.ga T.gg T.exC (PySem.W.findObj_own T.hd hn rfl (by rw [hl, hu])) (handed_of ru) ⟨v, H1, I1.tok _, ru, q⟩
end
end M

namespace M
open PySem PySem.Spec PyProof.Rows L2
local macro_rules | `(tactic| walk_at "go") => `(tactic| repeat (first | refine ⟨_, rfl, ?_⟩ | refine ⟨rfl, ?_⟩ | refine ⟨_, _, rfl, rfl, ?_⟩ | refine .inl ⟨_, rfl, ?_⟩ | refine .inr ⟨_, rfl, ?_⟩ | refine ⟨.inl ⟨rfl, _, SqL.of (by assumption)⟩, ?_⟩ | refine ⟨_, _, _, rfl, rfl, (by assumption), ?_⟩ | refine ⟨⟨by decide, by decide, by decide⟩, ?_⟩ | refine ⟨⟨by decide, by decide⟩, ?_⟩ | refine ⟨.inr ⟨by decide, by decide⟩, ?_⟩ | refine ⟨.inl ⟨by decide, by decide⟩, ?_⟩ | refine ⟨by decide, ?_⟩ | refine ⟨(by show (_ : Int) ≠ (0 : Int); decide), ?_⟩))
def top (i : Nat) : Stmt := PySem.Challenge.pw_latebridges_k04_errors.main.body.getD i (.Pass ⟨0, 0, 0, 0⟩)

/-! ### the exception class BadName -/
abbrev sIBadName : Stmt := (inClass (top 2) 0)
theorem iBadName : PySem.XEx.IText ["name"] (defArgs sIBadName) (defBody sIBadName) (defScope sIBadName) :=
  { bd := ⟨_, _, _, _, _, _, _, _, _, rfl, (.cons .nil), rfl⟩, hks := by decide +kernel, hkc := by decide +kernel, hself := by decide +kernel, hf := by decide +kernel, hcell := by decide +kernel, hco := rfl, hgen := rfl, hk := rfl, hp := ⟨_, rfl, rfl⟩,
    bind := fun name qual cl kV doc pm an cdv ct us hl => match us, hl with | [_, _], _ => rfl, nd := by decide +kernel, len := by decide }
abbrev xdBadName : XD := ⟨"BadName", ["name"], defArgs sIBadName, defBody sIBadName, defScope sIBadName⟩

/-! ### the exception class Taken -/
abbrev sITaken : Stmt := (inClass (top 3) 0)
theorem iTaken : PySem.XEx.IText ["name"] (defArgs sITaken) (defBody sITaken) (defScope sITaken) :=
  { bd := ⟨_, _, _, _, _, _, _, _, _, rfl, (.cons .nil), rfl⟩, hks := by decide +kernel, hkc := by decide +kernel, hself := by decide +kernel, hf := by decide +kernel, hcell := by decide +kernel, hco := rfl, hgen := rfl, hk := rfl, hp := ⟨_, rfl, rfl⟩,
    bind := fun name qual cl kV doc pm an cdv ct us hl => match us, hl with | [_, _], _ => rfl, nd := by decide +kernel, len := by decide }
abbrev xdTaken : XD := ⟨"Taken", ["name"], defArgs sITaken, defBody sITaken, defScope sITaken⟩

/-! ### the exception class Unknown -/
abbrev sIUnknown : Stmt := (inClass (top 4) 0)
theorem iUnknown : PySem.XEx.IText ["name"] (defArgs sIUnknown) (defBody sIUnknown) (defScope sIUnknown) :=
  { bd := ⟨_, _, _, _, _, _, _, _, _, rfl, (.cons .nil), rfl⟩, hks := by decide +kernel, hkc := by decide +kernel, hself := by decide +kernel, hf := by decide +kernel, hcell := by decide +kernel, hco := rfl, hgen := rfl, hk := rfl, hp := ⟨_, rfl, rfl⟩,
    bind := fun name qual cl kV doc pm an cdv ct us hl => match us, hl with | [_, _], _ => rfl, nd := by decide +kernel, len := by decide }
abbrev xdUnknown : XD := ⟨"Unknown", ["name"], defArgs sIUnknown, defBody sIUnknown, defScope sIUnknown⟩

/-! ### the exception class BadChannel -/
abbrev sIBadChannel : Stmt := (inClass (top 5) 0)
theorem iBadChannel : PySem.XEx.IText ["name"] (defArgs sIBadChannel) (defBody sIBadChannel) (defScope sIBadChannel) :=
  { bd := ⟨_, _, _, _, _, _, _, _, _, rfl, (.cons .nil), rfl⟩, hks := by decide +kernel, hkc := by decide +kernel, hself := by decide +kernel, hf := by decide +kernel, hcell := by decide +kernel, hco := rfl, hgen := rfl, hk := rfl, hp := ⟨_, rfl, rfl⟩,
    bind := fun name qual cl kV doc pm an cdv ct us hl => match us, hl with | [_, _], _ => rfl, nd := by decide +kernel, len := by decide }
abbrev xdBadChannel : XD := ⟨"BadChannel", ["name"], defArgs sIBadChannel, defBody sIBadChannel, defScope sIBadChannel⟩

/-! ### the exception class BadKind -/
abbrev sIBadKind : Stmt := (inClass (top 6) 0)
theorem iBadKind : PySem.XEx.IText ["kind"] (defArgs sIBadKind) (defBody sIBadKind) (defScope sIBadKind) :=
  { bd := ⟨_, _, _, _, _, _, _, _, _, rfl, (.cons .nil), rfl⟩, hks := by decide +kernel, hkc := by decide +kernel, hself := by decide +kernel, hf := by decide +kernel, hcell := by decide +kernel, hco := rfl, hgen := rfl, hk := rfl, hp := ⟨_, rfl, rfl⟩,
    bind := fun name qual cl kV doc pm an cdv ct us hl => match us, hl with | [_, _], _ => rfl, nd := by decide +kernel, len := by decide }
abbrev xdBadKind : XD := ⟨"BadKind", ["kind"], defArgs sIBadKind, defBody sIBadKind, defScope sIBadKind⟩

/-! ### the exception class TwoWays -/
abbrev sITwoWays : Stmt := (inClass (top 7) 0)
theorem iTwoWays : PySem.XEx.IText ["item", "site"] (defArgs sITwoWays) (defBody sITwoWays) (defScope sITwoWays) :=
  { bd := ⟨_, _, _, _, _, _, _, _, _, rfl, (.cons (.cons .nil)), rfl⟩, hks := by decide +kernel, hkc := by decide +kernel, hself := by decide +kernel, hf := by decide +kernel, hcell := by decide +kernel, hco := rfl, hgen := rfl, hk := rfl, hp := ⟨_, rfl, rfl⟩,
    bind := fun name qual cl kV doc pm an cdv ct us hl => match us, hl with | [_, _, _], _ => rfl, nd := by decide +kernel, len := by decide }
abbrev xdTwoWays : XD := ⟨"TwoWays", ["item", "site"], defArgs sITwoWays, defBody sITwoWays, defScope sITwoWays⟩

/-! ### the exception class NotHeld -/
abbrev sINotHeld : Stmt := (inClass (top 8) 0)
theorem iNotHeld : PySem.XEx.IText ["item", "site"] (defArgs sINotHeld) (defBody sINotHeld) (defScope sINotHeld) :=
  { bd := ⟨_, _, _, _, _, _, _, _, _, rfl, (.cons (.cons .nil)), rfl⟩, hks := by decide +kernel, hkc := by decide +kernel, hself := by decide +kernel, hf := by decide +kernel, hcell := by decide +kernel, hco := rfl, hgen := rfl, hk := rfl, hp := ⟨_, rfl, rfl⟩,
    bind := fun name qual cl kV doc pm an cdv ct us hl => match us, hl with | [_, _, _], _ => rfl, nd := by decide +kernel, len := by decide }
abbrev xdNotHeld : XD := ⟨"NotHeld", ["item", "site"], defArgs sINotHeld, defBody sINotHeld, defScope sINotHeld⟩

/-! ### the exception class NotHome -/
abbrev sINotHome : Stmt := (inClass (top 9) 0)
theorem iNotHome : PySem.XEx.IText ["item", "site"] (defArgs sINotHome) (defBody sINotHome) (defScope sINotHome) :=
  { bd := ⟨_, _, _, _, _, _, _, _, _, rfl, (.cons (.cons .nil)), rfl⟩, hks := by decide +kernel, hkc := by decide +kernel, hself := by decide +kernel, hf := by decide +kernel, hcell := by decide +kernel, hco := rfl, hgen := rfl, hk := rfl, hp := ⟨_, rfl, rfl⟩,
    bind := fun name qual cl kV doc pm an cdv ct us hl => match us, hl with | [_, _, _], _ => rfl, nd := by decide +kernel, len := by decide }
abbrev xdNotHome : XD := ⟨"NotHome", ["item", "site"], defArgs sINotHome, defBody sINotHome, defScope sINotHome⟩

/-! ### the exception class NotDue -/
abbrev sINotDue : Stmt := (inClass (top 10) 0)
theorem iNotDue : PySem.XEx.IText ["channel", "pick"] (defArgs sINotDue) (defBody sINotDue) (defScope sINotDue) :=
  { bd := ⟨_, _, _, _, _, _, _, _, _, rfl, (.cons (.cons .nil)), rfl⟩, hks := by decide +kernel, hkc := by decide +kernel, hself := by decide +kernel, hf := by decide +kernel, hcell := by decide +kernel, hco := rfl, hgen := rfl, hk := rfl, hp := ⟨_, rfl, rfl⟩,
    bind := fun name qual cl kV doc pm an cdv ct us hl => match us, hl with | [_, _, _], _ => rfl, nd := by decide +kernel, len := by decide }
abbrev xdNotDue : XD := ⟨"NotDue", ["channel", "pick"], defArgs sINotDue, defBody sINotDue, defScope sINotDue⟩

/-! ### the exception class Held -/
abbrev sIHeld : Stmt := (inClass (top 11) 0)
theorem iHeld : PySem.XEx.IText ["site"] (defArgs sIHeld) (defBody sIHeld) (defScope sIHeld) :=
  { bd := ⟨_, _, _, _, _, _, _, _, _, rfl, (.cons .nil), rfl⟩, hks := by decide +kernel, hkc := by decide +kernel, hself := by decide +kernel, hf := by decide +kernel, hcell := by decide +kernel, hco := rfl, hgen := rfl, hk := rfl, hp := ⟨_, rfl, rfl⟩,
    bind := fun name qual cl kV doc pm an cdv ct us hl => match us, hl with | [_, _], _ => rfl, nd := by decide +kernel, len := by decide }
abbrev xdHeld : XD := ⟨"Held", ["site"], defArgs sIHeld, defBody sIHeld, defScope sIHeld⟩

/-! ### the exception class Mismatch -/
abbrev sIMismatch : Stmt := (inClass (top 12) 0)
theorem iMismatch : PySem.XEx.IText [] (defArgs sIMismatch) (defBody sIMismatch) (defScope sIMismatch) :=
  { bd := ⟨_, _, _, _, _, _, _, _, _, rfl, .nil, rfl⟩, hks := by decide +kernel, hkc := by decide +kernel, hself := by decide +kernel, hf := by decide +kernel, hcell := by decide +kernel, hco := rfl, hgen := rfl, hk := rfl, hp := ⟨_, rfl, rfl⟩,
    bind := fun name qual cl kV doc pm an cdv ct us hl => match us, hl with | [_], _ => rfl, nd := by decide +kernel, len := by decide }
abbrev xdMismatch : XD := ⟨"Mismatch", [], defArgs sIMismatch, defBody sIMismatch, defScope sIMismatch⟩

/-! ### the exception class OutOfOrder -/
abbrev sIOutOfOrder : Stmt := (inClass (top 13) 0)
theorem iOutOfOrder : PySem.XEx.IText ["ring"] (defArgs sIOutOfOrder) (defBody sIOutOfOrder) (defScope sIOutOfOrder) :=
  { bd := ⟨_, _, _, _, _, _, _, _, _, rfl, (.cons .nil), rfl⟩, hks := by decide +kernel, hkc := by decide +kernel, hself := by decide +kernel, hf := by decide +kernel, hcell := by decide +kernel, hco := rfl, hgen := rfl, hk := rfl, hp := ⟨_, rfl, rfl⟩,
    bind := fun name qual cl kV doc pm an cdv ct us hl => match us, hl with | [_, _], _ => rfl, nd := by decide +kernel, len := by decide }
abbrev xdOutOfOrder : XD := ⟨"OutOfOrder", ["ring"], defArgs sIOutOfOrder, defBody sIOutOfOrder, defScope sIOutOfOrder⟩

/-! ### the exception class Unfit -/
abbrev sIUnfit : Stmt := (inClass (top 14) 0)
theorem iUnfit : PySem.XEx.IText ["channels"] (defArgs sIUnfit) (defBody sIUnfit) (defScope sIUnfit) :=
  { bd := ⟨_, _, _, _, _, _, _, _, _, rfl, (.cons .nil), rfl⟩, hks := by decide +kernel, hkc := by decide +kernel, hself := by decide +kernel, hf := by decide +kernel, hcell := by decide +kernel, hco := rfl, hgen := rfl, hk := rfl, hp := ⟨_, rfl, rfl⟩,
    bind := fun name qual cl kV doc pm an cdv ct us hl => match us, hl with | [_, _], _ => rfl, nd := by decide +kernel, len := by decide }
abbrev xdUnfit : XD := ⟨"Unfit", ["channels"], defArgs sIUnfit, defBody sIUnfit, defScope sIUnfit⟩

/-! ### the exception class NotWhole -/
abbrev sINotWhole : Stmt := (inClass (top 15) 0)
theorem iNotWhole : PySem.XEx.IText ["channel"] (defArgs sINotWhole) (defBody sINotWhole) (defScope sINotWhole) :=
  { bd := ⟨_, _, _, _, _, _, _, _, _, rfl, (.cons .nil), rfl⟩, hks := by decide +kernel, hkc := by decide +kernel, hself := by decide +kernel, hf := by decide +kernel, hcell := by decide +kernel, hco := rfl, hgen := rfl, hk := rfl, hp := ⟨_, rfl, rfl⟩,
    bind := fun name qual cl kV doc pm an cdv ct us hl => match us, hl with | [_, _], _ => rfl, nd := by decide +kernel, len := by decide }
abbrev xdNotWhole : XD := ⟨"NotWhole", ["channel"], defArgs sINotWhole, defBody sINotWhole, defScope sINotWhole⟩

/-! ### _law_draws -/
abbrev sDraws : Stmt := (top 17)
abbrev nDraws : List Str := ["_law_script", "_law_many", "_law_draws_here", "_law_cell", "_law_size", "_law_k", "_law_rest", "_law_draw"]
theorem scDraws : FnScope nDraws ["_law_script", "_law_many"] (defScope sDraws) := ⟨rfl, rfl, rfl, by decide +kernel, rfl, by decide +kernel, by decide +kernel⟩
def spDraws (K : PySem.W.Frag) : Sp := fun vs H Q _ => ∃ (a : Addr) (ns : List Int) (n : Nat), vs = [.ref a, .int n] ∧ SqL K H a (ns.map V.int) ∧ ns.length ≤ 63 ∧ n ≤ 1000 ∧
  ∀ (p : Addr) (ds : List Int) (H' : Hp), H p = none → Same H H' → H' p = some (.lst (ds.map V.int)) → ds.length = n → Dr ds → Q (.ref p) H'
section
variable {P : Program} {w : World} {K : PySem.W.Frag} {mg : Str → Option Value} {base : Heap}
theorem ok_draws {f : Addr} {fd : FuncData} (F : FnP K "_law_draws" sDraws f fd) (T : Bi mg) : FnOk P w K mg base (L2.CX P w) 1 f fd ["_law_script", "_law_many"] (spDraws K) := by
  refine F.ok scDraws (fun vs H Q E h => ?_) (fun cdv A outer s H vs Q E hr h => ?_)
  · obtain ⟨a, ns, n, rfl, _⟩ := h
    rfl
  · obtain ⟨a, ns, n, rfl, hS, hlen, hn, kQ⟩ := h
    have nd := scDraws.nd
    refine ⟨_, PSs.nox (pss_cons (ps_set (i := 2) nd rfl (Or.inl rfl) (pe_lst pa_nil))
      (pss_cons (ps_for PassesOwn.never rfl (pi_list (pv 0)) (pg_name (i := 3) nd rfl (Or.inl rfl)) (pss_cons (ps_set (i := 4) nd rfl (Or.inl rfl) (pe_callB call_abs (by rfl) T.abs (by decide +kernel) (pa_cons (pe_callTy call_int1 (by rfl) T.int (by decide +kernel) (pa_cons (pv 3) pa_nil)) pa_nil)))
        (pss_one (ps_if (pt_cmpR op_ge (pv 4) (pe_op op_pow pe_int pe_int) (nomark _)) (pss_one (ps_for PassesOwn.never rfl (pi_range1 (by rfl) T.range (pa_cons pe_int pa_nil)) (pg_name (i := 5) nd rfl (Or.inl rfl)) (pss_one (ps_if (pt_cmpR op_gt (pv 4) pe_int (nomark _)) (pss_cons (ps_expr (pe_bm PySem.F.plainAttrs_list PySem.F.slot_list_append PySem.F.type_list_append mt_append (pv 2) (pa_cons (pe_op op_modN (pe_callTy call_int1 (by rfl) T.int (by decide +kernel) (pa_cons (pv 4) pa_nil)) pe_int) pa_nil)))
              (pss_one (ps_set (i := 4) nd rfl (Or.inl rfl) (pe_op op_fdivN (pv 4) pe_int)))) pss_nil)))) (pss_cons (ps_set (i := 4) nd rfl (Or.inl rfl) (pe_op op_add (pv 4) (pe_op op_mul pe_int (pe_callTy call_int1 (by rfl) T.int (by decide +kernel) (pa_cons (pe_cmpR op_lt (pv 3) pe_int (nomark _)) pa_nil)))))
          (pss_one (ps_for PassesOwn.never rfl (pi_range1 (by rfl) T.range (pa_cons pe_int pa_nil)) (pg_name (i := 5) nd rfl (Or.inl rfl)) (pss_cons (ps_set (i := 4) nd rfl (Or.inl rfl) (pe_op op_modN (pe_callTy call_int1 (by rfl) T.int (by decide +kernel) (pa_cons (pe_op op_add (pe_op op_add (pe_op op_mul (pv 4) pe_int) (pe_op op_mul pe_int (pv 5))) pe_int) pa_nil)) pe_int))
            (pss_one (ps_expr (pe_bm PySem.F.plainAttrs_list PySem.F.slot_list_append PySem.F.type_list_append mt_append (pv 2) (pa_cons (pe_op op_modN (pe_callTy call_int1 (by rfl) T.int (by decide +kernel) (pa_cons (pe_op op_fdivN (pv 4) pe_int) pa_nil)) pe_int) pa_nil))))))))))))
      (pss_cons (ps_set (i := 6) nd rfl (Or.inl rfl) pe_int)
      (pss_cons (ps_for PassesOwn.never rfl (pi_list (pv 2)) (pg_name (i := 7) nd rfl (Or.inl rfl)) (pss_one (ps_set (i := 6) nd rfl (Or.inl rfl) (pe_op op_modN (pe_callTy call_int1 (by rfl) T.int (by decide +kernel) (pa_cons (pe_op op_add (pe_op op_mul (pv 6) pe_int) (pv 7)) pa_nil)) pe_int))))
      (pss_cons (ps_for PassesOwn.never rfl (pi_range1 (by rfl) T.range (pa_cons (pv 1) pa_nil)) (pg_name (i := 5) nd rfl (Or.inl rfl)) (pss_cons (ps_set (i := 6) nd rfl (Or.inl rfl) (pe_op op_modN (pe_callTy call_int1 (by rfl) T.int (by decide +kernel) (pa_cons (pe_op op_add (pe_op op_mul (pv 6) pe_int) (pe_op op_mul pe_int (pv 5))) pa_nil)) pe_int))
        (pss_one (ps_expr (pe_bm PySem.F.plainAttrs_list PySem.F.slot_list_append PySem.F.type_list_append mt_append (pv 2) (pa_cons (pe_op op_mul (pe_op op_modN (pe_callTy call_int1 (by rfl) T.int (by decide +kernel) (pa_cons (pe_op op_fdivN (pv 6) pe_int) pa_nil)) pe_int) (pe_callTy call_int1 (by rfl) T.int (by decide +kernel) (pa_cons (pe_cmpR op_gt (pe_callB call_len_seq (by rfl) T.len PySem.boot_len (pa_cons (pv 0) pa_nil)) pe_int (nomark _)) pa_nil))) pa_nil))))))
      (pss_cons (ps_set (i := 2) nd rfl (Or.inl rfl) (pe_slice sl_list (pv 2) po_none (po_some (pv 1))))
      (pss_cons (ps_expr (pe_bm0 PySem.F.plainAttrs_list PySem.F.slot_list_reverse PySem.F.type_list_reverse mt_reverse (pv 2)))
      (pss_one (ps_ret (pv 2)))))))))), ?_⟩
    walk_at "go"
    refine fun p np => ?_
    walk_at "go"
    refine ⟨⟨_, (Same.new (Same.refl H) np).seq hS⟩, for_list (K := K) (a := a) (xs := ns.map V.int)
      (fun i σ H1 => ∃ (ds : List Int) (c z k : Option V), σ = [some (.ref a), some (.int n), some (.ref p), c, z, k, none, none] ∧ Same H H1 ∧ H1 p = some (.lst (ds.map V.int)) ∧ Dr ds ∧ ds.length ≤ 45 * i)
      ⟨[], none, none, none, rfl, Same.new (Same.refl H) np, upd_same, Dr.nil, Nat.zero_le _⟩ (fun i σ H1 _ ⟨_, _, _, _, _, s1, _⟩ => s1.seq hS) ?_ ?_⟩
    · rintro i y σ H1 hi ⟨ds, c, z, k, rfl, s1, hp, hd, hl⟩
      have hil : i < ns.length := by
        have := lt_of_at hi
        rwa [List.length_map] at this
      obtain ⟨x, _, rfl⟩ := int_at hi
      walk_at "go"
      refine ite2 (fun _ => ?_) (fun hb => ?_)
      · refine ⟨_, rfl, by decide, by decide, for_range (n := 45) (fun j σ H2 => ∃ (ds : List Int) (z : Int) (k : Option V), σ = [some (.ref a), some (.int n), some (.ref p), some (.int x), some (.int z), k, none, none] ∧ Same H H2 ∧ H2 p = some (.lst (ds.map V.int)) ∧ Dr ds ∧ ds.length ≤ 45 * i + j)
          ⟨ds, _, k, rfl, s1, hp, hd, hl⟩ ?_ ?_⟩
        · rintro j σ H2 hj ⟨ds, z, k, rfl, s2, hp, hd, hl⟩
          walk_at "go"
          refine ite2 (fun _ => ?_) (fun _ => ?_)
          · walk_at "go"
            refine ⟨size_ok (m := 10000) (by rw [List.length_map]; omega) (by decide), ?_⟩
            walk_at "go"
            exact ⟨ds ++ [z.fmod 1000], _, _, rfl, s2.mut np, by rw [upd_same, List.map_append]; rfl, hd.snoc (fm_nonneg z (by decide)) (fm_lt z (by decide)), by rw [List.length_append, List.length_singleton]; omega⟩
          · exact ⟨ds, z, _, rfl, s2, hp, hd, by omega⟩
        · rintro σ H2 ⟨ds, z, k, rfl, s2, hp, hd, hl⟩
          exact ⟨ds, _, _, _, rfl, s2, hp, hd, by omega⟩
      · walk_at "go"
        refine for_range (n := 6) (fun j σ H2 => ∃ (ds : List Int) (z : Int) (k : Option V), σ = [some (.ref a), some (.int n), some (.ref p), some (.int x), some (.int z), k, none, none] ∧ Same H H2 ∧ H2 p = some (.lst (ds.map V.int)) ∧ Dr ds ∧ ds.length ≤ 45 * i + j)
          ⟨ds, _, k, rfl, s1, hp, hd, hl⟩ ?_ ?_
        · rintro j σ H2 hj ⟨ds, z, k, rfl, s2, hp, hd, hl⟩
          walk_at "go"
          refine ⟨size_ok (m := 10000) (by rw [List.length_map]; omega) (by decide), ?_⟩
          walk_at "go"
          exact ⟨ds ++ [_], _, _, rfl, s2.mut np, by rw [upd_same, List.map_append]; rfl, hd.snoc (fm_nonneg _ (by decide)) (fm_lt _ (by decide)), by rw [List.length_append, List.length_singleton]; omega⟩
        · rintro σ H2 ⟨ds, z, k, rfl, s2, hp, hd, hl⟩
          exact ⟨ds, _, _, _, rfl, s2, hp, hd, by omega⟩
    · rintro σ H1 ⟨ds, c, z, k, rfl, s1, hp, hd, hl⟩
      rw [List.length_map] at hl
      walk_at "go"
      refine ⟨⟨_, SqL.of hp⟩, for_list (K := K) (a := p) (xs := ds.map V.int)
        (fun i σ H2 => H2 = H1 ∧ ∃ (r : Int) (d : Option V), σ = [some (.ref a), some (.int n), some (.ref p), c, z, k, some (.int r), d])
        ⟨rfl, _, _, rfl⟩ (fun i σ H2 _ ⟨e, _⟩ => by rw [e]; exact SqL.of hp) ?_ ?_⟩
      · rintro i y σ H2 hi ⟨rfl, r, d, rfl⟩
        obtain ⟨x, _, rfl⟩ := int_at hi
        walk_at "go"
        exact ⟨_, _, rfl⟩
      · rintro σ H2 ⟨rfl, r, d, rfl⟩
        walk_at "go"
        refine ⟨by omega, by omega, for_range (n := n) (fun j σ H3 => ∃ (es : List Int) (k : Option V) (r : Int), σ = [some (.ref a), some (.int n), some (.ref p), c, z, k, some (.int r), d] ∧ Same H H3 ∧ H3 p = some (.lst (es.map V.int)) ∧ Dr es ∧ es.length = ds.length + j)
          ⟨ds, k, r, rfl, s1, hp, hd, rfl⟩ ?_ ?_⟩
        · rintro j σ H3 hj ⟨es, k, r, rfl, s3, hp, hd, hl3⟩
          walk_at "go"
          refine ⟨a, _, rfl, .inl (s3.seq hS), ?_⟩
          walk_at "go"
          generalize hz : ((((r * 16807 + 13 * (0 + (j : Int))).fmod 2147483647).fdiv 7).fmod 1000) = z
          have z0 : 0 ≤ z := by rw [← hz]; exact fm_nonneg _ (by decide)
          have z1 : z < 1000 := by rw [← hz]; exact fm_lt _ (by decide)
          generalize hb : (if decide ((0 : Int) < ((ns.map V.int).length : Int)) = true then (1 : Int) else 0) = b
          have b0 : b = 0 ∨ b = 1 := by
            rw [← hb]
            split
            · exact .inr rfl
            · exact .inl rfl
          have e0 : 0 ≤ z * b ∧ z * b < 1000 := by
            rcases b0 with e | e <;> rw [e] <;> omega
          refine ⟨.inl ⟨by omega, by omega⟩, ?_⟩
          walk_at "go"
          refine ⟨size_ok (m := 10000) (by rw [List.length_map]; omega) (by decide), ?_⟩
          exact ⟨es ++ [z * b], _, _, rfl, s3.mut np, by rw [upd_same, List.map_append]; rfl, hd.snoc e0.1 e0.2, by rw [List.length_append, List.length_singleton]; omega⟩
        · rintro σ H3 ⟨es, k, r, rfl, s3, hp, hd, hl3⟩
          walk_at "go"
          refine ⟨p, _, rfl, SqL.of hp, fun q nq => ?_⟩
          refine ⟨_, rfl, .inl ⟨rfl, _, SqL.of upd_same⟩, q, _, rfl, rfl, upd_same, ?_⟩
          refine ⟨_, rfl, ?_⟩
          have ec : cutV (es.map V.int) none (some (n : Int)) = (es.take n).map V.int := by
            rw [cut_to _ (by rw [List.length_map]; omega), List.map_take]
          refine kQ q (es.take n).reverse _ (s3.free nq) ?_ ?_ ?_ ?_
          · exact (s3.new nq).mut (s3.free nq)
          · rw [upd_same, ec, List.map_reverse]
          · rw [List.length_reverse, List.length_take]; omega
          · intro d hd'
            exact hd d (List.mem_of_mem_take (List.mem_reverse.mp hd'))
end

/-! ### _law_take -/
abbrev sTake : Stmt := (top 18)
theorem scTake : FnScope ["_law_draws_here", "_law_size"] ["_law_draws_here", "_law_size"] (defScope sTake) := ⟨rfl, rfl, rfl, by decide +kernel, rfl, by decide +kernel, by decide +kernel⟩
def spTake : Sp := fun vs H Q _ => ∃ (a : Addr) (ds : List Int) (m : Int), vs = [.ref a, .int m] ∧ H a = some (.lst (ds.map V.int)) ∧ Dr ds ∧ 0 < m ∧
  ∀ (d : Int) (ds' : List Int), 0 ≤ d → d < m → Dr ds' → ds'.length ≤ ds.length → Q (.int d) (upd H a (.lst (ds'.map V.int)))
section
variable {P : Program} {w : World} {K : PySem.W.Frag} {mg : Str → Option Value} {base : Heap}
theorem ok_take {f : Addr} {fd : FuncData} (F : FnP K "_law_take" sTake f fd) (T : Bi mg) : FnOk P w K mg base (L2.CX P w) 1 f fd ["_law_draws_here", "_law_size"] spTake := by
  refine F.ok scTake (fun vs H Q E h => ?_) (fun cdv A outer s H vs Q E hr h => ?_)
  · obtain ⟨a, ds, m, rfl, _⟩ := h
    rfl
  · obtain ⟨a, ds, m, rfl, ha, hd, hm, kQ⟩ := h
    have nd := scTake.nd
    refine ⟨_, PSs.nox (pss_cons (ps_if (pt_not (pt_truth (pv 0) (by intro _; rfl))) (pss_one (ps_ret pe_int)) pss_nil)
      (pss_one (ps_ret (pe_op op_modN (pe_callTy call_int1 (by rfl) T.int (by decide +kernel) (pa_cons (pe_bm0 PySem.F.plainAttrs_list PySem.F.slot_list_pop PySem.F.type_list_pop mt_pop (pv 0)) pa_nil)) (pv 1))))), ?_⟩
    refine ⟨_, rfl, !(ds.map V.int).isEmpty, .inl ⟨_, SqL.of ha, rfl⟩, ?_⟩
    cases ds with
    | nil =>
      refine iteT ?_
      have e : upd H a (.lst (([] : List Int).map V.int)) = H := by
        funext b
        unfold upd
        split
        · rename_i e; rw [e, ha]
        · rfl
      have z := kQ 0 [] (Int.le_refl 0) hm Dr.nil (Nat.le_refl _)
      rw [e] at z
      exact z
    | cons d0 ds =>
      refine iteF ?_
      obtain ⟨es, e, he⟩ : ∃ es e, d0 :: ds = es ++ [e] := ⟨(d0 :: ds).dropLast, (d0 :: ds).getLast (by simp), (List.dropLast_concat_getLast (by simp)).symm⟩
      rw [he] at ha hd kQ
      have hl : ((es ++ [e]).map V.int)[((es ++ [e]).map V.int).length - 1]? = some (.int e) := by
        rw [List.map_append, List.length_append, List.map_singleton, List.length_singleton, Nat.add_sub_cancel, List.getElem?_append_right (Nat.le_refl _), Nat.sub_self]
        rfl
      refine ⟨_, rfl, .inl ⟨rfl, _, SqL.of ha⟩, a, _, _, rfl, rfl, ha, hl, .inl ⟨_, rfl, _, rfl, _, _, rfl, rfl, Int.ne_of_gt hm, ?_⟩⟩
      have z := kQ (e.fmod m) es (fm_nonneg e hm) (fm_lt e hm) (fun x hx => hd x (List.mem_append_left _ hx)) (by rw [List.length_append]; exact Nat.le_add_right _ _)
      have ed : ((es ++ [e]).map V.int).dropLast = es.map V.int := by rw [List.map_append, List.map_singleton, List.dropLast_concat]
      rw [ed]
      exact z
end

/-! ### _law_names -/
abbrev sNames : Stmt := (top 19)
theorem scNames : FnScope ["_law_draw", "_law_many", "_law_letters", "_law_first", "_law_place", "_law_style", "_law_names_here", "_law_k", "_law_letter"] ["_law_draw", "_law_many"] (defScope sNames) := ⟨rfl, rfl, rfl, by decide +kernel, rfl, by decide +kernel, by decide +kernel⟩
def spNames : Sp := fun vs H Q _ => ∃ (d n : Nat), vs = [.int d, .int n] ∧ d < 1000 ∧ n ≤ 26 ∧
  ∀ (p : Addr) (H' : Hp), H p = none → Same H H' → H' p = some (.lst ((nmL d n).map V.str)) → Q (.ref p) H'
theorem abc_at {c : Nat} (h : c < 26) : atI ("abcdefghijklmnopqrstuvwxyz" : Str).cps.toList (c : Int) = some (97 + c) := by
  refine atI_nat ?_
  have e : ("abcdefghijklmnopqrstuvwxyz" : Str).cps.toList = (List.range 26).map (97 + ·) := by decide +kernel
  rw [e, List.getElem?_map, List.getElem?_range h]
  rfl
theorem q_to {c : Nat} (h : c < 7) : cutS ("qqqqqq" : Str) none (some (c : Int)) = ⟨(List.replicate c 113).toArray⟩ := by
  match c, h with
  | 0, _ => decide +kernel
  | 1, _ => decide +kernel
  | 2, _ => decide +kernel
  | 3, _ => decide +kernel
  | 4, _ => decide +kernel
  | 5, _ => decide +kernel
  | 6, _ => decide +kernel
theorem q_from {c : Nat} (h : c < 7) : cutS ("qqqqqq" : Str) (some (c : Int)) none = ⟨(List.replicate (6 - c) 113).toArray⟩ := by
  match c, h with
  | 0, _ => decide +kernel
  | 1, _ => decide +kernel
  | 2, _ => decide +kernel
  | 3, _ => decide +kernel
  | 4, _ => decide +kernel
  | 5, _ => decide +kernel
  | 6, _ => decide +kernel
theorem z_to {c : Nat} (h : c < 8) : cutS ("zyxwvuts" : Str) none (some (c : Int)) = ⟨(tailZ.take c).toArray⟩ := by
  match c, h with
  | 0, _ => decide +kernel
  | 1, _ => decide +kernel
  | 2, _ => decide +kernel
  | 3, _ => decide +kernel
  | 4, _ => decide +kernel
  | 5, _ => decide +kernel
  | 6, _ => decide +kernel
  | 7, _ => decide +kernel
theorem str_app (a b : List Nat) : (⟨a.toArray⟩ : Str) ++ ⟨b.toArray⟩ = ⟨(a ++ b).toArray⟩ := by
  show (⟨a.toArray ++ b.toArray⟩ : Str) = _
  rw [List.append_toArray]
theorem str_assoc (a b c : Str) : (a ++ b) ++ c = a ++ (b ++ c) := by
  show (⟨(a.cps ++ b.cps) ++ c.cps⟩ : Str) = ⟨a.cps ++ (b.cps ++ c.cps)⟩
  rw [Array.append_assoc]
theorem nmL_snoc (d n j : Nat) : ((List.range (j + 1)).map (nm d n)).map V.str = ((List.range j).map (nm d n)).map V.str ++ [.str (nm d n j)] := by
  rw [List.range_succ, List.map_append, List.map_append]
  rfl
section
variable {P : Program} {w : World} {K : PySem.W.Frag} {mg : Str → Option Value} {base : Heap}
theorem ok_names {f : Addr} {fd : FuncData} (F : FnP K "_law_names" sNames f fd) (T : Bi mg) : FnOk P w K mg base (L2.CX P w) 1 f fd ["_law_draw", "_law_many"] spNames := by
  refine F.ok scNames (fun vs H Q E h => ?_) (fun cdv A outer s H vs Q E hr h => ?_)
  · obtain ⟨d, n, rfl, _⟩ := h
    rfl
  · obtain ⟨d, n, rfl, hd, hn, kQ⟩ := h
    have nd := scNames.nd
    refine ⟨_, PSs.nox (pss_cons (ps_set (i := 2) nd rfl (Or.inl rfl) pe_str)
      (pss_cons (ps_set (i := 3) nd rfl (Or.inl rfl) (pe_op op_modN (pe_callTy call_int1 (by rfl) T.int (by decide +kernel) (pa_cons (pe_op op_fdivN (pv 0) pe_int) pa_nil)) pe_int))
      (pss_cons (ps_set (i := 4) nd rfl (Or.inl rfl) (pe_op op_modN (pe_callTy call_int1 (by rfl) T.int (by decide +kernel) (pa_cons (pe_op op_fdivN (pv 0) pe_int) pa_nil)) pe_int))
      (pss_cons (ps_set (i := 5) nd rfl (Or.inl rfl) (pe_op op_modN (pe_callTy call_int1 (by rfl) T.int (by decide +kernel) (pa_cons (pv 0) pa_nil)) pe_int))
      (pss_cons (ps_set (i := 6) nd rfl (Or.inl rfl) (pe_lst pa_nil))
      (pss_cons (ps_for PassesOwn.never rfl (pi_range1 (by rfl) T.range (pa_cons (pv 1) pa_nil)) (pg_name (i := 7) nd rfl (Or.inl rfl)) (pss_cons (ps_set (i := 8) nd rfl (Or.inl rfl) (pe_ix ix_str (pv 2) (pe_op op_modN (pe_callTy call_int1 (by rfl) T.int (by decide +kernel) (pa_cons (pe_op op_add (pv 3) (pe_op op_mul pe_int (pv 7))) pa_nil)) pe_int) (fun _ _ => rfl)))
        (pss_one (ps_if (pt_cmpR op_eq (pv 5) pe_int (nomark _)) (pss_one (ps_expr (pe_bm PySem.F.plainAttrs_list PySem.F.slot_list_append PySem.F.type_list_append mt_append (pv 6) (pa_cons (pv 8) pa_nil)))) (pss_one (ps_if (pt_cmpR op_eq (pv 5) pe_int (nomark _)) (pss_one (ps_expr (pe_bm PySem.F.plainAttrs_list PySem.F.slot_list_append PySem.F.type_list_append mt_append (pv 6) (pa_cons (pe_op op_add_str (pe_op op_add_str (pe_slice sl_str pe_str po_none (po_some (pv 4))) (pv 8)) (pe_slice sl_str pe_str (po_some (pv 4)) po_none)) pa_nil)))) (pss_one (ps_if (pt_cmpR op_eq (pv 5) pe_int (nomark _)) (pss_one (ps_expr (pe_bm PySem.F.plainAttrs_list PySem.F.slot_list_append PySem.F.type_list_append mt_append (pv 6) (pa_cons (pe_op op_mul_str (pe_ix ix_str (pv 2) (pv 3) (fun _ _ => rfl)) (pe_op op_sub (pv 1) (pv 7))) pa_nil)))) (pss_one (ps_expr (pe_bm PySem.F.plainAttrs_list PySem.F.slot_list_append PySem.F.type_list_append mt_append (pv 6) (pa_cons (pe_op op_add_str (pv 8) (pe_slice sl_str pe_str po_none (po_some (pe_op op_modN (pe_callTy call_int1 (by rfl) T.int (by decide +kernel) (pa_cons (pe_op op_add (pv 0) (pe_op op_mul pe_int (pv 7))) pa_nil)) pe_int)))) pa_nil))))))))))))
      (pss_one (ps_ret (pv 6))))))))), ?_⟩
    have f1 : ((d : Int).fdiv 4).fmod 26 = ((d / 4 % 26 : Nat) : Int) := by
      rw [Int.fdiv_eq_ediv_of_nonneg _ (by decide), Int.fmod_eq_emod_of_nonneg _ (by decide)]; omega
    have f2 : ((d : Int).fdiv 104).fmod 7 = ((d / 104 % 7 : Nat) : Int) := by
      rw [Int.fdiv_eq_ediv_of_nonneg _ (by decide), Int.fmod_eq_emod_of_nonneg _ (by decide)]; omega
    have f3 : (d : Int).fmod 4 = ((d % 4 : Nat) : Int) := by
      rw [Int.fmod_eq_emod_of_nonneg _ (by decide)]; omega
    walk_at "go"
    refine fun p np => ?_
    walk_at "go"
    refine ⟨by omega, by omega, for_range (n := n) (fun j σ H1 => ∃ (F G S : Int) (k l : Option V), σ = [some (.int d), some (.int n), some (.str "abcdefghijklmnopqrstuvwxyz"), some (.int F), some (.int G), some (.int S), some (.ref p), k, l] ∧ F = ((d / 4 % 26 : Nat) : Int) ∧ G = ((d / 104 % 7 : Nat) : Int) ∧ S = ((d % 4 : Nat) : Int) ∧
        Same H H1 ∧ H1 p = some (.lst (((List.range j).map (nm d n)).map V.str)))
      ⟨_, _, _, none, none, rfl, f1, f2, f3, (Same.refl H).new np, upd_same⟩ ?_ ?_⟩
    · rintro j σ H1 hj ⟨F, G, S, k, l, rfl, eF, eG, eS, s1, hp⟩
      have hsz : (((List.range j).map (nm d n)).map V.str).length < sizeLine := by
        rw [List.length_map, List.length_map, List.length_range]
        exact size_ok (m := 30) (by omega) (by decide)
      have hL : (F + 7 * (0 + (j : Int))).fmod 26 = (((d / 4 % 26 + 7 * j) % 26 : Nat) : Int) := by
        rw [Int.fmod_eq_emod_of_nonneg _ (by decide), eF]; omega
      have z26 : ("abcdefghijklmnopqrstuvwxyz" : Str).length ≤ sizeLine := by rw [sizeLine_eq]; decide +kernel
      have z6 : ("qqqqqq" : Str).length ≤ sizeLine := by rw [sizeLine_eq]; decide +kernel
      have z8 : ("zyxwvuts" : Str).length ≤ sizeLine := by rw [sizeLine_eq]; decide +kernel
      walk_at "go"
      refine ⟨_, _, 97 + (d / 4 % 26 + 7 * j) % 26, rfl, rfl, z26, ?_, ?_⟩
      · rw [hL]; exact abc_at (Nat.mod_lt _ (by decide))
      have eN : ∀ o, nmC d n j = o → nm d n j = ⟨o.toArray⟩ := fun o e => by rw [← e]; rfl
      walk_at "go"
      refine ite2 (fun c => ?_) (fun c => ?_)
      · have c0 : d % 4 = 0 := by
          have := of_decide_eq_true c
          have e := V.int.inj this
          omega
        walk_at "go"
        refine ⟨hsz, F, G, S, _, _, rfl, eF, eG, eS, s1.mut np, ?_⟩
        rw [upd_same, nmL_snoc, eN [ltr d j] (by unfold nmC; rw [if_pos c0])]
        rfl
      · have c0 : ¬ d % 4 = 0 := fun e => c (decide_eq_true (by rw [eS, e]; rfl))
        walk_at "go"
        refine ite2 (fun c => ?_) (fun c => ?_)
        · have c1 : d % 4 = 1 := by
            have := of_decide_eq_true c
            have e := V.int.inj this
            omega
          walk_at "go"
          rw [eG, q_to (Nat.mod_lt _ (by decide))]
          refine ⟨by rw [sizeLine_eq]; show (List.replicate _ _).toArray.size + 1 ≤ _; simp; omega, ?_⟩
          walk_at "go"
          rw [q_from (Nat.mod_lt _ (by decide))]
          walk_at "go"
          refine ⟨by rw [sizeLine_eq]; show ((List.replicate _ _).toArray ++ #[_]).size + (List.replicate _ _).toArray.size ≤ _; simp; omega, ?_⟩
          refine ⟨p, _, _, rfl, rfl, hp, hsz, F, _, S, _, _, rfl, eF, rfl, eS, s1.mut np, ?_⟩
          rw [upd_same, nmL_snoc, eN (List.replicate (d / 104 % 7) 113 ++ ([ltr d j] ++ List.replicate (6 - d / 104 % 7) 113)) (by unfold nmC; rw [if_neg c0, if_pos c1]), ← str_app, ← str_app, ← str_assoc]
          rfl
        · have c1 : ¬ d % 4 = 1 := fun e => c (decide_eq_true (by rw [eS, e]; rfl))
          walk_at "go"
          refine ite2 (fun c => ?_) (fun c => ?_)
          · have c2 : d % 4 = 2 := by
              have := of_decide_eq_true c
              have e := V.int.inj this
              omega
            walk_at "go"
            refine ⟨_, _, 97 + d / 4 % 26, rfl, rfl, z26, ?_, ?_⟩
            · rw [eF]; exact abc_at (Nat.mod_lt _ (by decide))
            walk_at "go"
            refine ⟨⟨by omega, by omega⟩, ?_⟩
            refine ⟨p, _, _, rfl, rfl, hp, hsz, F, G, S, _, _, rfl, eF, eG, eS, s1.mut np, ?_⟩
            rw [upd_same, nmL_snoc, eN (List.replicate (n - j) (97 + d / 4 % 26)) (by unfold nmC; rw [if_neg c0, if_neg c1, if_pos c2])]
            have e : ((n : Int) - (0 + (j : Int))).toNat = n - j := by omega
            rw [← e]
          · have c2 : ¬ d % 4 = 2 := fun e => c (decide_eq_true (by rw [eS, e]; rfl))
            walk_at "go"
            have e8 : ((d : Int) + 3 * (0 + (j : Int))).fmod 8 = (((d + 3 * j) % 8 : Nat) : Int) := by
              rw [Int.fmod_eq_emod_of_nonneg _ (by decide)]; omega
            rw [e8, z_to (Nat.mod_lt _ (by decide))]
            refine ⟨by rw [sizeLine_eq]; show 1 + (List.take _ tailZ).toArray.size ≤ _; simp [tailZ]; omega, ?_⟩
            refine ⟨p, _, _, rfl, rfl, hp, hsz, F, G, S, _, _, rfl, eF, eG, eS, s1.mut np, ?_⟩
            rw [upd_same, nmL_snoc, eN (ltr d j :: tailZ.take ((d + 3 * j) % 8)) (by unfold nmC; rw [if_neg c0, if_neg c1, if_neg c2]), show (ltr d j :: tailZ.take ((d + 3 * j) % 8)) = [ltr d j] ++ tailZ.take ((d + 3 * j) % 8) from rfl, ← str_app]
            rfl
    · rintro σ H1 ⟨F, G, S, k, l, rfl, eF, eG, eS, s1, hp⟩
      walk_at "go"
      exact kQ p _ np s1 hp
end

/-! ### _law_kinds -/
abbrev sKi : Stmt := (top 20)
theorem scKi : FnScope ["_law_e", "_law_one", "_law_two", "_law_three"] ["_law_e"] (defScope sKi) := ⟨rfl, rfl, rfl, by decide +kernel, rfl, by decide +kernel, by decide +kernel⟩
def kiL (k : Nat) : List V := (List.range 14).map fun j => .bl (decide (j = k))
def spKi (K : PySem.W.Frag) (CS : List Addr) : Sp := fun vs H Q _ => ∃ (x : XR) (k : Nat), vs = [.ref x.a] ∧ XObj H x ∧ XKit K x.C ∧ (∀ j C', CS[j]? = some C' → PySem.W.kitOne K (.ref x.C) (.ref C') = some (decide (j = k))) ∧
  ∀ (r : Addr) (H' : Hp), H r = none → Same H H' → H' r = some (.lst (kiL k)) → Q (.ref r) H'
section
variable {P : Program} {w : World} {K : PySem.W.Frag} {mg : Str → Option Value} {base : Heap}
theorem ok_ki {f C_BadName C_Taken C_Unknown C_BadChannel C_BadKind C_TwoWays C_NotHeld C_NotHome C_NotDue C_Held C_Mismatch C_OutOfOrder C_Unfit C_NotWhole : Addr} {fd : FuncData} (F : FnP K "_law_kinds" sKi f fd) (T : Bj mg) (gBadName : mg "BadName" = some (.ref C_BadName)) (gTaken : mg "Taken" = some (.ref C_Taken)) (gUnknown : mg "Unknown" = some (.ref C_Unknown)) (gBadChannel : mg "BadChannel" = some (.ref C_BadChannel)) (gBadKind : mg "BadKind" = some (.ref C_BadKind)) (gTwoWays : mg "TwoWays" = some (.ref C_TwoWays)) (gNotHeld : mg "NotHeld" = some (.ref C_NotHeld)) (gNotHome : mg "NotHome" = some (.ref C_NotHome)) (gNotDue : mg "NotDue" = some (.ref C_NotDue)) (gHeld : mg "Held" = some (.ref C_Held)) (gMismatch : mg "Mismatch" = some (.ref C_Mismatch)) (gOutOfOrder : mg "OutOfOrder" = some (.ref C_OutOfOrder)) (gUnfit : mg "Unfit" = some (.ref C_Unfit)) (gNotWhole : mg "NotWhole" = some (.ref C_NotWhole)) : FnOk P w K mg base (L2.CX P w) 1 f fd ["_law_e"] (spKi K [C_BadName, C_Taken, C_Unknown, C_BadChannel, C_BadKind, C_TwoWays, C_NotHeld, C_NotHome, C_NotDue, C_Held, C_Mismatch, C_OutOfOrder, C_Unfit, C_NotWhole]) := by
  refine F.ok scKi (fun vs H Q E h => ?_) (fun cdv A outer s H vs Q E hr h => ?_)
  · obtain ⟨x, k, rfl, _⟩ := h
    rfl
  · obtain ⟨x, k, rfl, hx, xk, kit, kQ⟩ := h
    have nd := scKi.nd
    refine ⟨_, (pss_cons (ps_set (i := 1) nd rfl (Or.inl rfl) (pe_lst (pa_cons (pe_callB call_isX (by rfl) T.isinstance (by decide +kernel) (pa_cons (pv 0) (pa_cons (pe_glob (v := .ref C_BadName) (by rfl) gBadName rfl) pa_nil))) (pa_cons (pe_callB call_isX (by rfl) T.isinstance (by decide +kernel) (pa_cons (pv 0) (pa_cons (pe_glob (v := .ref C_Taken) (by rfl) gTaken rfl) pa_nil))) (pa_cons (pe_callB call_isX (by rfl) T.isinstance (by decide +kernel) (pa_cons (pv 0) (pa_cons (pe_glob (v := .ref C_Unknown) (by rfl) gUnknown rfl) pa_nil))) (pa_cons (pe_callB call_isX (by rfl) T.isinstance (by decide +kernel) (pa_cons (pv 0) (pa_cons (pe_glob (v := .ref C_BadChannel) (by rfl) gBadChannel rfl) pa_nil))) pa_nil))))))
      (pss_cons (ps_set (i := 2) nd rfl (Or.inl rfl) (pe_lst (pa_cons (pe_callB call_isX (by rfl) T.isinstance (by decide +kernel) (pa_cons (pv 0) (pa_cons (pe_glob (v := .ref C_BadKind) (by rfl) gBadKind rfl) pa_nil))) (pa_cons (pe_callB call_isX (by rfl) T.isinstance (by decide +kernel) (pa_cons (pv 0) (pa_cons (pe_glob (v := .ref C_TwoWays) (by rfl) gTwoWays rfl) pa_nil))) (pa_cons (pe_callB call_isX (by rfl) T.isinstance (by decide +kernel) (pa_cons (pv 0) (pa_cons (pe_glob (v := .ref C_NotHeld) (by rfl) gNotHeld rfl) pa_nil))) (pa_cons (pe_callB call_isX (by rfl) T.isinstance (by decide +kernel) (pa_cons (pv 0) (pa_cons (pe_glob (v := .ref C_NotHome) (by rfl) gNotHome rfl) pa_nil))) pa_nil))))))
      (pss_cons (ps_set (i := 3) nd rfl (Or.inl rfl) (pe_lst (pa_cons (pe_callB call_isX (by rfl) T.isinstance (by decide +kernel) (pa_cons (pv 0) (pa_cons (pe_glob (v := .ref C_NotDue) (by rfl) gNotDue rfl) pa_nil))) (pa_cons (pe_callB call_isX (by rfl) T.isinstance (by decide +kernel) (pa_cons (pv 0) (pa_cons (pe_glob (v := .ref C_Held) (by rfl) gHeld rfl) pa_nil))) (pa_cons (pe_callB call_isX (by rfl) T.isinstance (by decide +kernel) (pa_cons (pv 0) (pa_cons (pe_glob (v := .ref C_Mismatch) (by rfl) gMismatch rfl) pa_nil))) (pa_cons (pe_callB call_isX (by rfl) T.isinstance (by decide +kernel) (pa_cons (pv 0) (pa_cons (pe_glob (v := .ref C_OutOfOrder) (by rfl) gOutOfOrder rfl) pa_nil))) pa_nil))))))
      (pss_one (ps_ret (pe_op op_cat (pe_op op_cat (pe_op op_cat (pv 1) (pv 2)) (pv 3)) (pe_lst (pa_cons (pe_callB call_isX (by rfl) T.isinstance (by decide +kernel) (pa_cons (pv 0) (pa_cons (pe_glob (v := .ref C_Unfit) (by rfl) gUnfit rfl) pa_nil))) (pa_cons (pe_callB call_isX (by rfl) T.isinstance (by decide +kernel) (pa_cons (pv 0) (pa_cons (pe_glob (v := .ref C_NotWhole) (by rfl) gNotWhole rfl) pa_nil))) pa_nil))))))))), ?_⟩
    refine ⟨_, rfl, x, _, _, _, rfl, .own C_BadName, hx, xk, kit 0 _ rfl, _, rfl, x, _, _, _, rfl, .own C_Taken, hx, xk, kit 1 _ rfl, _, rfl, x, _, _, _, rfl, .own C_Unknown, hx, xk, kit 2 _ rfl, _, rfl, x, _, _, _, rfl, .own C_BadChannel, hx, xk, kit 3 _ rfl, (show 4 ≤ sizeLine by decide), fun L1 h1 => ?_⟩
    have s1 : Same H (upd H L1 _) := (Same.refl H).new (o := .lst [.bl (decide (0 = k)), .bl (decide (1 = k)), .bl (decide (2 = k)), .bl (decide (3 = k))]) h1
    generalize hH1 : upd H L1 _ = H1 at s1 ⊢
    have l1 : H1 L1 = some (.lst [.bl (decide (0 = k)), .bl (decide (1 = k)), .bl (decide (2 = k)), .bl (decide (3 = k))]) := by rw [← hH1, upd_same]
    refine ⟨_, rfl, x, _, _, _, rfl, .own C_BadKind, (hx.same s1), xk, kit 4 _ rfl, _, rfl, x, _, _, _, rfl, .own C_TwoWays, (hx.same s1), xk, kit 5 _ rfl, _, rfl, x, _, _, _, rfl, .own C_NotHeld, (hx.same s1), xk, kit 6 _ rfl, _, rfl, x, _, _, _, rfl, .own C_NotHome, (hx.same s1), xk, kit 7 _ rfl, (show 4 ≤ sizeLine by decide), fun L2 h2 => ?_⟩
    have s2 : Same H (upd H1 L2 _) := s1.new (o := .lst [.bl (decide (4 = k)), .bl (decide (5 = k)), .bl (decide (6 = k)), .bl (decide (7 = k))]) h2
    have l1' : (upd H1 L2 (.lst [.bl (decide (4 = k)), .bl (decide (5 = k)), .bl (decide (6 = k)), .bl (decide (7 = k))])) L1 = _ := (Same.refl H1).new h2 _ _ l1
    generalize hH2 : upd H1 L2 _ = H2 at s2 l1' ⊢
    have l2 : H2 L2 = some (.lst [.bl (decide (4 = k)), .bl (decide (5 = k)), .bl (decide (6 = k)), .bl (decide (7 = k))]) := by rw [← hH2, upd_same]
    refine ⟨_, rfl, x, _, _, _, rfl, .own C_NotDue, (hx.same s2), xk, kit 8 _ rfl, _, rfl, x, _, _, _, rfl, .own C_Held, (hx.same s2), xk, kit 9 _ rfl, _, rfl, x, _, _, _, rfl, .own C_Mismatch, (hx.same s2), xk, kit 10 _ rfl, _, rfl, x, _, _, _, rfl, .own C_OutOfOrder, (hx.same s2), xk, kit 11 _ rfl, (show 4 ≤ sizeLine by decide), fun L3 h3 => ?_⟩
    have s3 : Same H (upd H2 L3 _) := s2.new (o := .lst [.bl (decide (8 = k)), .bl (decide (9 = k)), .bl (decide (10 = k)), .bl (decide (11 = k))]) h3
    have l1'' : (upd H2 L3 (.lst [.bl (decide (8 = k)), .bl (decide (9 = k)), .bl (decide (10 = k)), .bl (decide (11 = k))])) L1 = _ := (Same.refl H2).new h3 _ _ l1'
    have l2' : (upd H2 L3 (.lst [.bl (decide (8 = k)), .bl (decide (9 = k)), .bl (decide (10 = k)), .bl (decide (11 = k))])) L2 = _ := (Same.refl H2).new h3 _ _ l2
    generalize hH3 : upd H2 L3 _ = H3 at s3 l1'' l2' ⊢
    have l3 : H3 L3 = some (.lst [.bl (decide (8 = k)), .bl (decide (9 = k)), .bl (decide (10 = k)), .bl (decide (11 = k))]) := by rw [← hH3, upd_same]
    refine ⟨_, rfl, _, rfl, L1, L2, _, _, rfl, rfl, l1'', l2', (show 8 ≤ sizeLine by decide), fun M1 n1 => ?_⟩
    refine ⟨_, rfl, M1, L3, _, _, rfl, rfl, upd_same, (Same.refl H3).new n1 _ _ l3, (show 12 ≤ sizeLine by decide), fun M2 n2 => ?_⟩
    refine ⟨_, rfl, x, _, _, _, rfl, .own C_Unfit, hx.same ((s3.new n1).new n2), xk, kit 12 _ rfl, _, rfl, x, _, _, _, rfl, .own C_NotWhole, hx.same ((s3.new n1).new n2), xk, kit 13 _ rfl, (show 2 ≤ sizeLine by decide), fun L4 h4 => ?_⟩
    refine ⟨M2, L4, _, _, rfl, rfl, (Same.refl _).new h4 _ _ upd_same, upd_same, (show 14 ≤ sizeLine by decide), fun M3 n3 => ?_⟩
    exact kQ M3 _ (Same.free (((s3.new n1).new n2).new h4) n3) ((((s3.new n1).new n2).new h4).new n3) upd_same
end

/-! ### _law_errors (printed by wip/gen_k04.py) -/
abbrev sEr : Stmt := (top 21)
theorem scEr : FnScope ["_law_a", "_law_b", "_law_number", "_law_ring", "_law_both", "_law_one"] ["_law_a", "_law_b", "_law_number", "_law_ring", "_law_both"] (defScope sEr) := ⟨rfl, rfl, rfl, by decide +kernel, rfl, by decide +kernel, by decide +kernel⟩
/-- the fourteen errors -/
def erE (C_BadName C_Taken C_Unknown C_BadChannel C_BadKind C_TwoWays C_NotHeld C_NotHome C_NotDue C_Held C_Mismatch C_OutOfOrder C_Unfit C_NotWhole : Addr) (A B : Str) (N : Int) (lr lc : Addr) (ad dd : Nat → Addr) : List XR :=
  [⟨ad 0, C_BadName, some (dd 0), ((["name"] : List Str).zip ([.str A] : List V)).reverse⟩,
    ⟨ad 1, C_Taken, some (dd 1), ((["name"] : List Str).zip ([.str A] : List V)).reverse⟩,
    ⟨ad 2, C_Unknown, some (dd 2), ((["name"] : List Str).zip ([.str A] : List V)).reverse⟩,
    ⟨ad 3, C_BadChannel, some (dd 3), ((["name"] : List Str).zip ([.str A] : List V)).reverse⟩,
    ⟨ad 4, C_BadKind, some (dd 4), ((["kind"] : List Str).zip ([.str A] : List V)).reverse⟩,
    ⟨ad 5, C_TwoWays, some (dd 5), ((["item", "site"] : List Str).zip ([.str A, .str B] : List V)).reverse⟩,
    ⟨ad 6, C_NotHeld, some (dd 6), ((["item", "site"] : List Str).zip ([.str A, .str B] : List V)).reverse⟩,
    ⟨ad 7, C_NotHome, some (dd 7), ((["item", "site"] : List Str).zip ([.str A, .str B] : List V)).reverse⟩,
    ⟨ad 8, C_NotDue, some (dd 8), ((["channel", "pick"] : List Str).zip ([.str A, .int N] : List V)).reverse⟩,
    ⟨ad 9, C_Held, some (dd 9), ((["site"] : List Str).zip ([.str A] : List V)).reverse⟩,
    ⟨ad 10, C_Mismatch, none, []⟩,
    ⟨ad 11, C_OutOfOrder, some (dd 11), ((["ring"] : List Str).zip ([.ref lr] : List V)).reverse⟩,
    ⟨ad 12, C_Unfit, some (dd 12), ((["channels"] : List Str).zip ([.ref lc] : List V)).reverse⟩,
    ⟨ad 13, C_NotWhole, some (dd 13), ((["channel"] : List Str).zip ([.str A] : List V)).reverse⟩]
def erV (E : List XR) : List V := E.map fun x => .ref x.a
def spEr (K : PySem.W.Frag) (C_BadName C_Taken C_Unknown C_BadChannel C_BadKind C_TwoWays C_NotHeld C_NotHome C_NotDue C_Held C_Mismatch C_OutOfOrder C_Unfit C_NotWhole : Addr) : Sp := fun vs H Q _ => ∃ (A B : Str) (N : Int) (aR aB : Addr) (rs bs : List V), vs = [.str A, .str B, .int N, .ref aR, .ref aB] ∧ H aR = some (.lst rs) ∧ H aB = some (.lst bs) ∧
  ∀ (L lr lc : Addr) (ad dd : Nat → Addr) (H' : Hp), H L = none → Same H H' → H' L = some (.lst (erV (erE C_BadName C_Taken C_Unknown C_BadChannel C_BadKind C_TwoWays C_NotHeld C_NotHome C_NotDue C_Held C_Mismatch C_OutOfOrder C_Unfit C_NotWhole A B N lr lc ad dd))) → (∀ x ∈ erE C_BadName C_Taken C_Unknown C_BadChannel C_BadKind C_TwoWays C_NotHeld C_NotHome C_NotDue C_Held C_Mismatch C_OutOfOrder C_Unfit C_NotWhole A B N lr lc ad dd, XObj H' x) → H' lr = some (.lst rs) → H' lc = some (.lst bs) → Q (.ref L) H'
section
variable {P : Program} {w : World} {K : PySem.W.Frag} {mg : Str → Option Value} {base : Heap}
theorem ok_er {f C_BadName C_Taken C_Unknown C_BadChannel C_BadKind C_TwoWays C_NotHeld C_NotHome C_NotDue C_Held C_Mismatch C_OutOfOrder C_Unfit C_NotWhole : Addr} {fd : FuncData} (F : FnP K "_law_errors" sEr f fd) (T : Bj mg) (gBadName : mg "BadName" = some (.ref C_BadName)) (gTaken : mg "Taken" = some (.ref C_Taken)) (gUnknown : mg "Unknown" = some (.ref C_Unknown)) (gBadChannel : mg "BadChannel" = some (.ref C_BadChannel)) (gBadKind : mg "BadKind" = some (.ref C_BadKind)) (gTwoWays : mg "TwoWays" = some (.ref C_TwoWays)) (gNotHeld : mg "NotHeld" = some (.ref C_NotHeld)) (gNotHome : mg "NotHome" = some (.ref C_NotHome)) (gNotDue : mg "NotDue" = some (.ref C_NotDue)) (gHeld : mg "Held" = some (.ref C_Held)) (gMismatch : mg "Mismatch" = some (.ref C_Mismatch)) (gOutOfOrder : mg "OutOfOrder" = some (.ref C_OutOfOrder)) (gUnfit : mg "Unfit" = some (.ref C_Unfit)) (gNotWhole : mg "NotWhole" = some (.ref C_NotWhole))
    (xBadName : PySem.XEx.XCls P K C_BadName ["name"] (defArgs sIBadName) (defBody sIBadName) (defScope sIBadName)) (xTaken : PySem.XEx.XCls P K C_Taken ["name"] (defArgs sITaken) (defBody sITaken) (defScope sITaken)) (xUnknown : PySem.XEx.XCls P K C_Unknown ["name"] (defArgs sIUnknown) (defBody sIUnknown) (defScope sIUnknown)) (xBadChannel : PySem.XEx.XCls P K C_BadChannel ["name"] (defArgs sIBadChannel) (defBody sIBadChannel) (defScope sIBadChannel)) (xBadKind : PySem.XEx.XCls P K C_BadKind ["kind"] (defArgs sIBadKind) (defBody sIBadKind) (defScope sIBadKind)) (xTwoWays : PySem.XEx.XCls P K C_TwoWays ["item", "site"] (defArgs sITwoWays) (defBody sITwoWays) (defScope sITwoWays)) (xNotHeld : PySem.XEx.XCls P K C_NotHeld ["item", "site"] (defArgs sINotHeld) (defBody sINotHeld) (defScope sINotHeld)) (xNotHome : PySem.XEx.XCls P K C_NotHome ["item", "site"] (defArgs sINotHome) (defBody sINotHome) (defScope sINotHome)) (xNotDue : PySem.XEx.XCls P K C_NotDue ["channel", "pick"] (defArgs sINotDue) (defBody sINotDue) (defScope sINotDue)) (xHeld : PySem.XEx.XCls P K C_Held ["site"] (defArgs sIHeld) (defBody sIHeld) (defScope sIHeld)) (xMismatch : PySem.XEx.XCls P K C_Mismatch [] (defArgs sIMismatch) (defBody sIMismatch) (defScope sIMismatch)) (xOutOfOrder : PySem.XEx.XCls P K C_OutOfOrder ["ring"] (defArgs sIOutOfOrder) (defBody sIOutOfOrder) (defScope sIOutOfOrder)) (xUnfit : PySem.XEx.XCls P K C_Unfit ["channels"] (defArgs sIUnfit) (defBody sIUnfit) (defScope sIUnfit)) (xNotWhole : PySem.XEx.XCls P K C_NotWhole ["channel"] (defArgs sINotWhole) (defBody sINotWhole) (defScope sINotWhole)) : FnOk P w K mg base (L2.CX P w) 3 f fd ["_law_a", "_law_b", "_law_number", "_law_ring", "_law_both"] (spEr K C_BadName C_Taken C_Unknown C_BadChannel C_BadKind C_TwoWays C_NotHeld C_NotHome C_NotDue C_Held C_Mismatch C_OutOfOrder C_Unfit C_NotWhole) := by
  refine F.ok scEr (fun vs H Q E h => ?_) (fun cdv A0 outer s H vs Q E hr h => ?_)
  · obtain ⟨A, B, N, aR, aB, rs, bs, rfl, _⟩ := h
    rfl
  · obtain ⟨A, B, N, aR, aB, rs, bs, rfl, hR, hB, kQ⟩ := h
    have nd := scEr.nd
    refine ⟨_, (pss_cons (ps_set (i := 5) nd rfl (Or.inl rfl) (pe_lst (pa_cons (pe_mkv xBadName iBadName gBadName hr (pa_cons (pv 0) pa_nil)) (pa_cons (pe_mkv xTaken iTaken gTaken hr (pa_cons (pv 0) pa_nil)) (pa_cons (pe_mkv xUnknown iUnknown gUnknown hr (pa_cons (pv 0) pa_nil)) (pa_cons (pe_mkv xBadChannel iBadChannel gBadChannel hr (pa_cons (pv 0) pa_nil)) (pa_cons (pe_mkv xBadKind iBadKind gBadKind hr (pa_cons (pv 0) pa_nil)) (pa_cons (pe_mkv xTwoWays iTwoWays gTwoWays hr (pa_cons (pv 0) (pa_cons (pv 1) pa_nil))) (pa_cons (pe_mkv xNotHeld iNotHeld gNotHeld hr (pa_cons (pv 0) (pa_cons (pv 1) pa_nil))) (pa_cons (pe_mkv xNotHome iNotHome gNotHome hr (pa_cons (pv 0) (pa_cons (pv 1) pa_nil))) pa_nil))))))))))
      (pss_one (ps_ret (pe_op op_cat (pv 5) (pe_lst (pa_cons (pe_mkv xNotDue iNotDue gNotDue hr (pa_cons (pv 0) (pa_cons (pv 2) pa_nil))) (pa_cons (pe_mkv xHeld iHeld gHeld hr (pa_cons (pv 0) pa_nil)) (pa_cons (pe_mkv0 xMismatch iMismatch gMismatch hr) (pa_cons (pe_mkv xOutOfOrder iOutOfOrder gOutOfOrder hr (pa_cons (pe_callTy call_list_of (by rfl) T.list (by decide +kernel) (pa_cons (pv 3) pa_nil)) pa_nil)) (pa_cons (pe_mkv xUnfit iUnfit gUnfit hr (pa_cons (pe_callTy call_list_of (by rfl) T.list (by decide +kernel) (pa_cons (pv 4) pa_nil)) pa_nil)) (pa_cons (pe_mkv xNotWhole iNotWhole gNotWhole hr (pa_cons (pv 0) pa_nil)) pa_nil))))))))))), ?_⟩
    refine ⟨_, rfl, rfl, (fun e => by cases e), fun _ d0 a0 nd0 na0 ne0 => ?_⟩
    obtain ⟨s0, o0⟩ := XObj.made (C := C_BadName) (ps := ((["name"] : List Str).zip ([.str A] : List V)).reverse) nd0 na0 ne0
    generalize hH1 : upd (upd H d0 (.xd (((["name"] : List Str).zip ([.str A] : List V)).reverse))) a0 (XV C_BadName (some d0) a0) = H1 at s0 o0 ⊢
    clear hH1
    replace hR := s0 _ _ hR
    replace hB := s0 _ _ hB
    have t1 : Same H H1 := s0
    refine ⟨_, rfl, rfl, (fun e => by cases e), fun _ d1 a1 nd1 na1 ne1 => ?_⟩
    obtain ⟨s1, o1⟩ := XObj.made (C := C_Taken) (ps := ((["name"] : List Str).zip ([.str A] : List V)).reverse) nd1 na1 ne1
    generalize hH2 : upd (upd H1 d1 (.xd (((["name"] : List Str).zip ([.str A] : List V)).reverse))) a1 (XV C_Taken (some d1) a1) = H2 at s1 o1 ⊢
    clear hH2
    replace hR := s1 _ _ hR
    replace hB := s1 _ _ hB
    replace o0 := o0.same s1
    have t2 : Same H H2 := t1.trans s1
    refine ⟨_, rfl, rfl, (fun e => by cases e), fun _ d2 a2 nd2 na2 ne2 => ?_⟩
    obtain ⟨s2, o2⟩ := XObj.made (C := C_Unknown) (ps := ((["name"] : List Str).zip ([.str A] : List V)).reverse) nd2 na2 ne2
    generalize hH3 : upd (upd H2 d2 (.xd (((["name"] : List Str).zip ([.str A] : List V)).reverse))) a2 (XV C_Unknown (some d2) a2) = H3 at s2 o2 ⊢
    clear hH3
    replace hR := s2 _ _ hR
    replace hB := s2 _ _ hB
    replace o0 := o0.same s2
    replace o1 := o1.same s2
    have t3 : Same H H3 := t2.trans s2
    refine ⟨_, rfl, rfl, (fun e => by cases e), fun _ d3 a3 nd3 na3 ne3 => ?_⟩
    obtain ⟨s3, o3⟩ := XObj.made (C := C_BadChannel) (ps := ((["name"] : List Str).zip ([.str A] : List V)).reverse) nd3 na3 ne3
    generalize hH4 : upd (upd H3 d3 (.xd (((["name"] : List Str).zip ([.str A] : List V)).reverse))) a3 (XV C_BadChannel (some d3) a3) = H4 at s3 o3 ⊢
    clear hH4
    replace hR := s3 _ _ hR
    replace hB := s3 _ _ hB
    replace o0 := o0.same s3
    replace o1 := o1.same s3
    replace o2 := o2.same s3
    have t4 : Same H H4 := t3.trans s3
    refine ⟨_, rfl, rfl, (fun e => by cases e), fun _ d4 a4 nd4 na4 ne4 => ?_⟩
    obtain ⟨s4, o4⟩ := XObj.made (C := C_BadKind) (ps := ((["kind"] : List Str).zip ([.str A] : List V)).reverse) nd4 na4 ne4
    generalize hH5 : upd (upd H4 d4 (.xd (((["kind"] : List Str).zip ([.str A] : List V)).reverse))) a4 (XV C_BadKind (some d4) a4) = H5 at s4 o4 ⊢
    clear hH5
    replace hR := s4 _ _ hR
    replace hB := s4 _ _ hB
    replace o0 := o0.same s4
    replace o1 := o1.same s4
    replace o2 := o2.same s4
    replace o3 := o3.same s4
    have t5 : Same H H5 := t4.trans s4
    refine ⟨_, rfl, _, rfl, rfl, (fun e => by cases e), fun _ d5 a5 nd5 na5 ne5 => ?_⟩
    obtain ⟨s5, o5⟩ := XObj.made (C := C_TwoWays) (ps := ((["item", "site"] : List Str).zip ([.str A, .str B] : List V)).reverse) nd5 na5 ne5
    generalize hH6 : upd (upd H5 d5 (.xd (((["item", "site"] : List Str).zip ([.str A, .str B] : List V)).reverse))) a5 (XV C_TwoWays (some d5) a5) = H6 at s5 o5 ⊢
    clear hH6
    replace hR := s5 _ _ hR
    replace hB := s5 _ _ hB
    replace o0 := o0.same s5
    replace o1 := o1.same s5
    replace o2 := o2.same s5
    replace o3 := o3.same s5
    replace o4 := o4.same s5
    have t6 : Same H H6 := t5.trans s5
    refine ⟨_, rfl, _, rfl, rfl, (fun e => by cases e), fun _ d6 a6 nd6 na6 ne6 => ?_⟩
    obtain ⟨s6, o6⟩ := XObj.made (C := C_NotHeld) (ps := ((["item", "site"] : List Str).zip ([.str A, .str B] : List V)).reverse) nd6 na6 ne6
    generalize hH7 : upd (upd H6 d6 (.xd (((["item", "site"] : List Str).zip ([.str A, .str B] : List V)).reverse))) a6 (XV C_NotHeld (some d6) a6) = H7 at s6 o6 ⊢
    clear hH7
    replace hR := s6 _ _ hR
    replace hB := s6 _ _ hB
    replace o0 := o0.same s6
    replace o1 := o1.same s6
    replace o2 := o2.same s6
    replace o3 := o3.same s6
    replace o4 := o4.same s6
    replace o5 := o5.same s6
    have t7 : Same H H7 := t6.trans s6
    refine ⟨_, rfl, _, rfl, rfl, (fun e => by cases e), fun _ d7 a7 nd7 na7 ne7 => ?_⟩
    obtain ⟨s7, o7⟩ := XObj.made (C := C_NotHome) (ps := ((["item", "site"] : List Str).zip ([.str A, .str B] : List V)).reverse) nd7 na7 ne7
    generalize hH8 : upd (upd H7 d7 (.xd (((["item", "site"] : List Str).zip ([.str A, .str B] : List V)).reverse))) a7 (XV C_NotHome (some d7) a7) = H8 at s7 o7 ⊢
    clear hH8
    replace hR := s7 _ _ hR
    replace hB := s7 _ _ hB
    replace o0 := o0.same s7
    replace o1 := o1.same s7
    replace o2 := o2.same s7
    replace o3 := o3.same s7
    replace o4 := o4.same s7
    replace o5 := o5.same s7
    replace o6 := o6.same s7
    have t8 : Same H H8 := t7.trans s7
    refine ⟨(show 8 ≤ sizeLine by decide), fun L1 g1 => ?_⟩
    have sL : Same H8 (upd H8 L1 (.lst [V.ref a0, V.ref a1, V.ref a2, V.ref a3, V.ref a4, V.ref a5, V.ref a6, V.ref a7])) := (Same.refl H8).new g1
    have hL1 : (upd H8 L1 (.lst [V.ref a0, V.ref a1, V.ref a2, V.ref a3, V.ref a4, V.ref a5, V.ref a6, V.ref a7])) L1 = some (.lst [V.ref a0, V.ref a1, V.ref a2, V.ref a3, V.ref a4, V.ref a5, V.ref a6, V.ref a7]) := upd_same
    generalize hH9 : upd H8 L1 (.lst [V.ref a0, V.ref a1, V.ref a2, V.ref a3, V.ref a4, V.ref a5, V.ref a6, V.ref a7]) = H9 at sL hL1 ⊢
    clear hH9
    replace hR := sL _ _ hR
    replace hB := sL _ _ hB
    replace o0 := o0.same sL
    replace o1 := o1.same sL
    replace o2 := o2.same sL
    replace o3 := o3.same sL
    replace o4 := o4.same sL
    replace o5 := o5.same sL
    replace o6 := o6.same sL
    replace o7 := o7.same sL
    have t9 : Same H H9 := t8.trans sL
    refine ⟨_, rfl, ?_⟩
    refine ⟨_, rfl, _, rfl, rfl, (fun e => by cases e), fun _ d8 a8 nd8 na8 ne8 => ?_⟩
    obtain ⟨s8, o8⟩ := XObj.made (C := C_NotDue) (ps := ((["channel", "pick"] : List Str).zip ([.str A, .int N] : List V)).reverse) nd8 na8 ne8
    generalize hH10 : upd (upd H9 d8 (.xd (((["channel", "pick"] : List Str).zip ([.str A, .int N] : List V)).reverse))) a8 (XV C_NotDue (some d8) a8) = H10 at s8 o8 ⊢
    clear hH10
    replace hR := s8 _ _ hR
    replace hB := s8 _ _ hB
    replace hL1 := s8 _ _ hL1
    replace o0 := o0.same s8
    replace o1 := o1.same s8
    replace o2 := o2.same s8
    replace o3 := o3.same s8
    replace o4 := o4.same s8
    replace o5 := o5.same s8
    replace o6 := o6.same s8
    replace o7 := o7.same s8
    have t10 : Same H H10 := t9.trans s8
    refine ⟨_, rfl, rfl, (fun e => by cases e), fun _ d9 a9 nd9 na9 ne9 => ?_⟩
    obtain ⟨s9, o9⟩ := XObj.made (C := C_Held) (ps := ((["site"] : List Str).zip ([.str A] : List V)).reverse) nd9 na9 ne9
    generalize hH11 : upd (upd H10 d9 (.xd (((["site"] : List Str).zip ([.str A] : List V)).reverse))) a9 (XV C_Held (some d9) a9) = H11 at s9 o9 ⊢
    clear hH11
    replace hR := s9 _ _ hR
    replace hB := s9 _ _ hB
    replace hL1 := s9 _ _ hL1
    replace o0 := o0.same s9
    replace o1 := o1.same s9
    replace o2 := o2.same s9
    replace o3 := o3.same s9
    replace o4 := o4.same s9
    replace o5 := o5.same s9
    replace o6 := o6.same s9
    replace o7 := o7.same s9
    replace o8 := o8.same s9
    have t11 : Same H H11 := t10.trans s9
    refine ⟨rfl, (fun _ a10 na10 => ?_), fun e => (e rfl).elim⟩
    obtain ⟨s10, o10⟩ := XObj.made0 (C := C_Mismatch) na10
    generalize hH12 : upd H11 a10 (XV C_Mismatch none a10) = H12 at s10 o10 ⊢
    clear hH12
    replace hR := s10 _ _ hR
    replace hB := s10 _ _ hB
    replace hL1 := s10 _ _ hL1
    replace o0 := o0.same s10
    replace o1 := o1.same s10
    replace o2 := o2.same s10
    replace o3 := o3.same s10
    replace o4 := o4.same s10
    replace o5 := o5.same s10
    replace o6 := o6.same s10
    replace o7 := o7.same s10
    replace o8 := o8.same s10
    replace o9 := o9.same s10
    have t12 : Same H H12 := t11.trans s10
    refine ⟨_, rfl, aR, _, rfl, .inl (SqL.of hR), fun lr nlr => ?_⟩
    have s_lr : Same H12 (upd H12 lr (.lst rs)) := (Same.refl H12).new nlr
    have h_lr : (upd H12 lr (.lst rs)) lr = some (.lst rs) := upd_same
    generalize hH13 : upd H12 lr (.lst rs) = H13 at s_lr h_lr ⊢
    clear hH13
    replace hR := s_lr _ _ hR
    replace hB := s_lr _ _ hB
    replace hL1 := s_lr _ _ hL1
    replace o0 := o0.same s_lr
    replace o1 := o1.same s_lr
    replace o2 := o2.same s_lr
    replace o3 := o3.same s_lr
    replace o4 := o4.same s_lr
    replace o5 := o5.same s_lr
    replace o6 := o6.same s_lr
    replace o7 := o7.same s_lr
    replace o8 := o8.same s_lr
    replace o9 := o9.same s_lr
    replace o10 := o10.same s_lr
    have t13 : Same H H13 := t12.trans s_lr
    refine ⟨rfl, (fun e => by cases e), fun _ d11 a11 nd11 na11 ne11 => ?_⟩
    obtain ⟨s11, o11⟩ := XObj.made (C := C_OutOfOrder) (ps := ((["ring"] : List Str).zip ([.ref lr] : List V)).reverse) nd11 na11 ne11
    generalize hH14 : upd (upd H13 d11 (.xd (((["ring"] : List Str).zip ([.ref lr] : List V)).reverse))) a11 (XV C_OutOfOrder (some d11) a11) = H14 at s11 o11 ⊢
    clear hH14
    replace hR := s11 _ _ hR
    replace hB := s11 _ _ hB
    replace hL1 := s11 _ _ hL1
    replace h_lr := s11 _ _ h_lr
    replace o0 := o0.same s11
    replace o1 := o1.same s11
    replace o2 := o2.same s11
    replace o3 := o3.same s11
    replace o4 := o4.same s11
    replace o5 := o5.same s11
    replace o6 := o6.same s11
    replace o7 := o7.same s11
    replace o8 := o8.same s11
    replace o9 := o9.same s11
    replace o10 := o10.same s11
    have t14 : Same H H14 := t13.trans s11
    refine ⟨_, rfl, aB, _, rfl, .inl (SqL.of hB), fun lc nlc => ?_⟩
    have s_lc : Same H14 (upd H14 lc (.lst bs)) := (Same.refl H14).new nlc
    have h_lc : (upd H14 lc (.lst bs)) lc = some (.lst bs) := upd_same
    generalize hH15 : upd H14 lc (.lst bs) = H15 at s_lc h_lc ⊢
    clear hH15
    replace hR := s_lc _ _ hR
    replace hB := s_lc _ _ hB
    replace hL1 := s_lc _ _ hL1
    replace h_lr := s_lc _ _ h_lr
    replace o0 := o0.same s_lc
    replace o1 := o1.same s_lc
    replace o2 := o2.same s_lc
    replace o3 := o3.same s_lc
    replace o4 := o4.same s_lc
    replace o5 := o5.same s_lc
    replace o6 := o6.same s_lc
    replace o7 := o7.same s_lc
    replace o8 := o8.same s_lc
    replace o9 := o9.same s_lc
    replace o10 := o10.same s_lc
    replace o11 := o11.same s_lc
    have t15 : Same H H15 := t14.trans s_lc
    refine ⟨rfl, (fun e => by cases e), fun _ d12 a12 nd12 na12 ne12 => ?_⟩
    obtain ⟨s12, o12⟩ := XObj.made (C := C_Unfit) (ps := ((["channels"] : List Str).zip ([.ref lc] : List V)).reverse) nd12 na12 ne12
    generalize hH16 : upd (upd H15 d12 (.xd (((["channels"] : List Str).zip ([.ref lc] : List V)).reverse))) a12 (XV C_Unfit (some d12) a12) = H16 at s12 o12 ⊢
    clear hH16
    replace hR := s12 _ _ hR
    replace hB := s12 _ _ hB
    replace hL1 := s12 _ _ hL1
    replace h_lr := s12 _ _ h_lr
    replace h_lc := s12 _ _ h_lc
    replace o0 := o0.same s12
    replace o1 := o1.same s12
    replace o2 := o2.same s12
    replace o3 := o3.same s12
    replace o4 := o4.same s12
    replace o5 := o5.same s12
    replace o6 := o6.same s12
    replace o7 := o7.same s12
    replace o8 := o8.same s12
    replace o9 := o9.same s12
    replace o10 := o10.same s12
    replace o11 := o11.same s12
    have t16 : Same H H16 := t15.trans s12
    refine ⟨_, rfl, rfl, (fun e => by cases e), fun _ d13 a13 nd13 na13 ne13 => ?_⟩
    obtain ⟨s13, o13⟩ := XObj.made (C := C_NotWhole) (ps := ((["channel"] : List Str).zip ([.str A] : List V)).reverse) nd13 na13 ne13
    generalize hH17 : upd (upd H16 d13 (.xd (((["channel"] : List Str).zip ([.str A] : List V)).reverse))) a13 (XV C_NotWhole (some d13) a13) = H17 at s13 o13 ⊢
    clear hH17
    replace hR := s13 _ _ hR
    replace hB := s13 _ _ hB
    replace hL1 := s13 _ _ hL1
    replace h_lr := s13 _ _ h_lr
    replace h_lc := s13 _ _ h_lc
    replace o0 := o0.same s13
    replace o1 := o1.same s13
    replace o2 := o2.same s13
    replace o3 := o3.same s13
    replace o4 := o4.same s13
    replace o5 := o5.same s13
    replace o6 := o6.same s13
    replace o7 := o7.same s13
    replace o8 := o8.same s13
    replace o9 := o9.same s13
    replace o10 := o10.same s13
    replace o11 := o11.same s13
    replace o12 := o12.same s13
    have t17 : Same H H17 := t16.trans s13
    refine ⟨(show 6 ≤ sizeLine by decide), fun L2 g2 => ?_⟩
    refine ⟨L1, L2, _, _, rfl, rfl, (Same.refl _).new g2 _ _ hL1, upd_same, (show 14 ≤ sizeLine by decide), fun M g3 => ?_⟩
    have sE := ((Same.refl H17).new (o := .lst [V.ref a8, V.ref a9, V.ref a10, V.ref a11, V.ref a12, V.ref a13]) g2).new (o := .lst [V.ref a0, V.ref a1, V.ref a2, V.ref a3, V.ref a4, V.ref a5, V.ref a6, V.ref a7, V.ref a8, V.ref a9, V.ref a10, V.ref a11, V.ref a12, V.ref a13]) g3
    refine kQ M lr lc (fun k => [a0, a1, a2, a3, a4, a5, a6, a7, a8, a9, a10, a11, a12, a13].getD k 0) (fun k => [d0, d1, d2, d3, d4, d5, d6, d7, d8, d9, a10, d11, d12, d13].getD k 0) _ (Same.free (t17.new g2) g3) ((t17.new g2).new g3) upd_same ?_ (sE _ _ h_lr) (sE _ _ h_lc)
    intro x hx
    simp only [erE, List.mem_cons, List.not_mem_nil, or_false] at hx
    rcases hx with rfl | rfl | rfl | rfl | rfl | rfl | rfl | rfl | rfl | rfl | rfl | rfl | rfl | rfl
    · exact o0.same sE
    · exact o1.same sE
    · exact o2.same sE
    · exact o3.same sE
    · exact o4.same sE
    · exact o5.same sE
    · exact o6.same sE
    · exact o7.same sE
    · exact o8.same sE
    · exact o9.same sE
    · exact o10.same sE
    · exact o11.same sE
    · exact o12.same sE
    · exact o13.same sE
end

/-! ### law k04 (printed by wip/gen_k04law.py) -/
abbrev sLaw : Stmt := (top 22)
theorem scLaw : FnScope ["_law_script", "_law_draws_here", "_law_names_here", "_law_a", "_law_b", "_law_number", "_law_ring", "_law_both", "_law_name", "_law_errors_here", "_law_k", "_law_j"] ["_law_script"] (defScope sLaw) := ⟨rfl, rfl, rfl, by decide +kernel, rfl, by decide +kernel, by decide +kernel⟩
def spLaw (K : PySem.W.Frag) : Sp := fun vs H Q _ => ∃ (a : Addr) (ns : List Int), vs = [.ref a] ∧ SqL K H a (ns.map V.int) ∧ ns.length ≤ 63 ∧ ∀ H', Q (.bl true) H'
theorem at_str {l : List Str} {k : Nat} {s : Str} (h : l[k]? = some s) : (l.map V.str)[k]? = some (.str s) := by rw [List.getElem?_map, h]; rfl
def kiD (k : Nat) : PyData := .list ((List.range 14).map fun j => .bool (decide (j = k)))
theorem dp_bools {K : PySem.W.Frag} {H : Hp} (g : Nat → Bool) : ∀ l : List Nat, DpAll K H (l.map fun j => .bl (g j)) (l.map fun j => .bool (g j))
  | [] => .nil
  | x :: l => .cons (.bl _) (dp_bools g l)
theorem kiD_self (k : Nat) : PyData.eqv (kiD k) (kiD k) = true := PySem.SeqAt.eqv_refl _ rfl
theorem kiD_shaped (k : Nat) : SeqAt.shaped (kiD k) = true := rfl
def ringD (N : Int) (B : Str) : PyData := .list [.tuple [.int N, .str "read", .str B], .tuple [.int (N + 1), .str "over", .str B]]
theorem ringD_lay {N : Int} {B : Str} (h : PyData.strOk B = true) : (ringD N B).canLay0 = true := by
  unfold ringD
  have h1 : PyData.strOk "read" = true := by decide +kernel
  have h2 : PyData.strOk "over" = true := by decide +kernel
  simp only [PyData.canLay0, PyData.canLayAll0, h, h1, h2, Bool.and_self]
theorem ringD_shaped {N : Int} {B : Str} (h : PyData.strOk B = true) : SeqAt.shaped (ringD N B) = true := by
  unfold SeqAt.shaped
  rw [ringD_lay h]
  rfl
def HasF (K : PySem.W.Frag) (H : Hp) (Er : List XR) (i : Nat) (f : Str) (v : V) : Prop := ∃ x, Er[i]? = some x ∧ XObj H x ∧ XKit K x.C ∧ PySem.W.findIn K (.ref x.C) f = some none ∧ x.d ≠ none ∧ x.ps.lookup f = some v
section
variable {P : Program} {w : World} {K : PySem.W.Frag} {mg : Str → Option Value} {base : Heap}
theorem ok_law {f C_PlacementError C_BadName C_Taken C_Unknown C_BadChannel C_BadKind C_TwoWays C_NotHeld C_NotHome C_NotDue C_Held C_Mismatch C_OutOfOrder C_Unfit C_NotWhole : Addr} {fd : FuncData} (F : FnP K "law" sLaw f fd) (T : Bj mg)
    (g_draws : Cal P w K mg base 1 "_law_draws" ["_law_script", "_law_many"] (spDraws K)) (g_take : Cal P w K mg base 1 "_law_take" ["_law_draws_here", "_law_size"] spTake) (g_names : Cal P w K mg base 1 "_law_names" ["_law_draw", "_law_many"] spNames)
    (g_kinds : Cal P w K mg base 1 "_law_kinds" ["_law_e"] (spKi K [C_BadName, C_Taken, C_Unknown, C_BadChannel, C_BadKind, C_TwoWays, C_NotHeld, C_NotHome, C_NotDue, C_Held, C_Mismatch, C_OutOfOrder, C_Unfit, C_NotWhole])) (g_errors : Cal P w K mg base 3 "_law_errors" ["_law_a", "_law_b", "_law_number", "_law_ring", "_law_both"] (spEr K C_BadName C_Taken C_Unknown C_BadChannel C_BadKind C_TwoWays C_NotHeld C_NotHome C_NotDue C_Held C_Mismatch C_OutOfOrder C_Unfit C_NotWhole))
    (gPlacementError : mg "PlacementError" = some (.ref C_PlacementError)) (xBadName : PySem.XEx.XCls P K C_BadName ["name"] (defArgs sIBadName) (defBody sIBadName) (defScope sIBadName)) (xTaken : PySem.XEx.XCls P K C_Taken ["name"] (defArgs sITaken) (defBody sITaken) (defScope sITaken)) (xUnknown : PySem.XEx.XCls P K C_Unknown ["name"] (defArgs sIUnknown) (defBody sIUnknown) (defScope sIUnknown)) (xBadChannel : PySem.XEx.XCls P K C_BadChannel ["name"] (defArgs sIBadChannel) (defBody sIBadChannel) (defScope sIBadChannel)) (xBadKind : PySem.XEx.XCls P K C_BadKind ["kind"] (defArgs sIBadKind) (defBody sIBadKind) (defScope sIBadKind)) (xTwoWays : PySem.XEx.XCls P K C_TwoWays ["item", "site"] (defArgs sITwoWays) (defBody sITwoWays) (defScope sITwoWays)) (xNotHeld : PySem.XEx.XCls P K C_NotHeld ["item", "site"] (defArgs sINotHeld) (defBody sINotHeld) (defScope sINotHeld)) (xNotHome : PySem.XEx.XCls P K C_NotHome ["item", "site"] (defArgs sINotHome) (defBody sINotHome) (defScope sINotHome)) (xNotDue : PySem.XEx.XCls P K C_NotDue ["channel", "pick"] (defArgs sINotDue) (defBody sINotDue) (defScope sINotDue)) (xHeld : PySem.XEx.XCls P K C_Held ["site"] (defArgs sIHeld) (defBody sIHeld) (defScope sIHeld)) (xMismatch : PySem.XEx.XCls P K C_Mismatch [] (defArgs sIMismatch) (defBody sIMismatch) (defScope sIMismatch)) (xOutOfOrder : PySem.XEx.XCls P K C_OutOfOrder ["ring"] (defArgs sIOutOfOrder) (defBody sIOutOfOrder) (defScope sIOutOfOrder)) (xUnfit : PySem.XEx.XCls P K C_Unfit ["channels"] (defArgs sIUnfit) (defBody sIUnfit) (defScope sIUnfit)) (xNotWhole : PySem.XEx.XCls P K C_NotWhole ["channel"] (defArgs sINotWhole) (defBody sINotWhole) (defScope sINotWhole))
    (hK : ∀ C ∈ ([C_BadName, C_Taken, C_Unknown, C_BadChannel, C_BadKind, C_TwoWays, C_NotHeld, C_NotHome, C_NotDue, C_Held, C_Mismatch, C_OutOfOrder, C_Unfit, C_NotWhole] : List Addr), XKit K C ∧ PySem.W.kitOne K (.ref C) (.ref C_PlacementError) = some true ∧ PySem.W.kitOne K (.ref C) (.type "ValueError") = some true)
    (kit : ∀ (k : Nat) C (j : Nat) C', ([C_BadName, C_Taken, C_Unknown, C_BadChannel, C_BadKind, C_TwoWays, C_NotHeld, C_NotHome, C_NotDue, C_Held, C_Mismatch, C_OutOfOrder, C_Unfit, C_NotWhole] : List Addr)[k]? = some C → ([C_BadName, C_Taken, C_Unknown, C_BadChannel, C_BadKind, C_TwoWays, C_NotHeld, C_NotHome, C_NotDue, C_Held, C_Mismatch, C_OutOfOrder, C_Unfit, C_NotWhole] : List Addr)[j]? = some C' → PySem.W.kitOne K (.ref C) (.ref C') = some (decide (j = k))) : FnOk P w K mg base (L2.CX P w) 6 f fd ["_law_script"] (spLaw K) := by
  refine F.ok scLaw (fun vs H Q E h => ?_) (fun cdv A0 outer s H vs Q E hr h => ?_)
  · obtain ⟨a, ns, rfl, _⟩ := h
    rfl
  · obtain ⟨a, ns, rfl, hS, hlen, kQ⟩ := h
    have nd := scLaw.nd
    refine ⟨_, (pss_cons (ps_set (i := 1) nd rfl (Or.inl rfl) (pe_cal g_draws hr takes0 (pa_cons (pv 0) (pa_cons pe_int pa_nil))))
      (pss_cons (ps_set (i := 2) nd rfl (Or.inl rfl) (pe_cal g_names hr takes0 (pa_cons (pe_cal g_take hr takes0 (pa_cons (pv 1) (pa_cons pe_int pa_nil))) (pa_cons pe_int pa_nil))))
      (pss_cons (ps_set (i := 3) nd rfl (Or.inl rfl) (pe_ix ix_list (pv 2) (pe_cal g_take hr takes0 (pa_cons (pv 1) (pa_cons pe_int pa_nil))) (fun _ _ => rfl)))
      (pss_cons (ps_set (i := 4) nd rfl (Or.inl rfl) (pe_ix ix_list (pv 2) pe_int (fun _ _ => rfl)))
      (pss_cons (ps_set (i := 5) nd rfl (Or.inl rfl) (pe_cal g_take hr takes0 (pa_cons (pv 1) (pa_cons pe_int pa_nil))))
      (pss_cons (ps_set (i := 6) nd rfl (Or.inl rfl) (pe_lst (pa_cons (pe_tup (pa_cons (pv 5) (pa_cons pe_str (pa_cons (pv 4) pa_nil)))) (pa_cons (pe_tup (pa_cons (pe_op op_add (pv 5) pe_int) (pa_cons pe_str (pa_cons (pv 4) pa_nil)))) pa_nil))))
      (pss_cons (ps_set (i := 7) nd rfl (Or.inl rfl) (pe_callB cr_sortedS (by rfl) T.sorted (by decide +kernel) (pa_cons (pe_lc (own := [("_law_name", 8)]) (g := gName 8) (tt := tYes) (by rfl) nd (pi_list (pe_lst (pa_cons (pv 3) (pa_cons (pv 4) pa_nil)))) (blkOk_by (own := [("_law_name", 8)]) (N := ["_law_script", "_law_draws_here", "_law_names_here", "_law_a", "_law_b", "_law_number", "_law_ring", "_law_both", "_law_name", "_law_errors_here", "_law_k", "_law_j"]) (sc := defScope sLaw) (by decide +kernel)) (fun _ _ _ _ _ => (pg_name (i := 8) nd rfl (Or.inl rfl))) (fun _ _ _ _ _ => pts_nil) (fun _ _ _ _ _ => (pe_callTy SkE.call_str_str (by rfl) T.str (by decide +kernel) (pa_cons (pv 8) pa_nil)))) pa_nil)))
      (pss_cons (ps_set (i := 9) nd rfl (Or.inl rfl) (pe_cal g_errors hr takes0 (pa_cons (pv 3) (pa_cons (pv 4) (pa_cons (pv 5) (pa_cons (pv 6) (pa_cons (pv 7) pa_nil)))))))
      (pss_cons (ps_for (passes_of rfl) rfl (pi_range1 (by rfl) T.range (pa_cons pe_int pa_nil)) (pg_name (i := 10) nd rfl (Or.inr rfl)) (pss_cons (ps_if (PW.pt (pw_or (pt_not (pt_val (pe_callB call_isX (by rfl) T.isinstance (by decide +kernel) (pa_cons (pe_ix ix_list (pv 9) (pv 10) (fun _ _ => rfl)) (pa_cons (pe_glob (v := .ref C_PlacementError) (by rfl) gPlacementError rfl) pa_nil))))) (pw_or1 (pt_not (pt_val (pe_callB call_isX (by rfl) T.isinstance (by decide +kernel) (pa_cons (pe_ix ix_list (pv 9) (pv 10) (fun _ _ => rfl)) (pa_cons (pe_bltn (v := .ty "ValueError") (by rfl) T.ValueError (by decide +kernel) rfl) pa_nil)))))))) (pss_one (ps_ret pe_bl)) pss_nil)
        (pss_one (ps_if (pt_cmpR (op_neD hr.units) (pe_cal g_kinds hr takes0 (pa_cons (pe_ix ix_list (pv 9) (pv 10) (fun _ _ => rfl)) pa_nil)) (pe_lc (own := [("_law_j", 11)]) (g := gName 11) (tt := tYes) (by rfl) nd (pi_range1 (by rfl) T.range (pa_cons pe_int pa_nil)) (blkOk_by (own := [("_law_j", 11)]) (N := ["_law_script", "_law_draws_here", "_law_names_here", "_law_a", "_law_b", "_law_number", "_law_ring", "_law_both", "_law_name", "_law_errors_here", "_law_k", "_law_j"]) (sc := defScope sLaw) (by decide +kernel)) (fun _ _ _ _ _ => (pg_name (i := 11) nd rfl (Or.inl rfl))) (fun _ _ _ _ _ => pts_nil) (fun _ _ _ _ _ => (pe_cmpR op_eq (pv 11) (pv 10) (nomark _)))) (nomark _)) (pss_one (ps_ret pe_bl)) pss_nil))))
      (pss_cons (ps_for (passes_of rfl) rfl (pi_range1 (by rfl) T.range (pa_cons pe_int pa_nil)) (pg_name (i := 10) nd rfl (Or.inr rfl)) (pss_one (ps_if (pt_cmpR op_ne (pe_xf (pe_ix ix_list (pv 9) (pv 10) (fun _ _ => rfl))) (pv 3) (nomark _)) (pss_one (ps_ret pe_bl)) pss_nil)))
      (pss_cons (ps_for (passes_of rfl) rfl (pi_range2 (by rfl) T.range (pa_cons pe_int (pa_cons pe_int pa_nil))) (pg_name (i := 10) nd rfl (Or.inr rfl)) (pss_one (ps_if (PW.pt (pw_or (pt_cmpR op_ne (pe_xf (pe_ix ix_list (pv 9) (pv 10) (fun _ _ => rfl))) (pv 3) (nomark _)) (pw_or1 (pt_cmpR op_ne (pe_xf (pe_ix ix_list (pv 9) (pv 10) (fun _ _ => rfl))) (pv 4) (nomark _))))) (pss_one (ps_ret pe_bl)) pss_nil)))
      (pss_cons (ps_if (PW.pt (pw_or (pt_cmpR op_ne (pe_xf (pe_ix ix_list (pv 9) pe_int (fun _ _ => rfl))) (pv 3) (nomark _)) (pw_or (pt_cmpR op_ne (pe_xf (pe_ix ix_list (pv 9) pe_int (fun _ _ => rfl))) (pv 3) (nomark _)) (pw_or (pt_cmpR op_ne (pe_xf (pe_ix ix_list (pv 9) pe_int (fun _ _ => rfl))) (pv 5) (nomark _)) (pw_or1 (pt_cmpR op_ne (pe_xf (pe_ix ix_list (pv 9) pe_int (fun _ _ => rfl))) (pv 3) (nomark _))))))) (pss_one (ps_ret pe_bl)) pss_nil)
      (pss_one (ps_ret (pe_and (pe_cmpR (op_eqD hr.units) (pe_xf (pe_ix ix_list (pv 9) pe_int (fun _ _ => rfl))) (pv 6) (nomark _)) (pe_and (pe_cmpR (op_eqD hr.units) (pe_xf (pe_ix ix_list (pv 9) pe_int (fun _ _ => rfl))) (pv 7) (nomark _)) (pe_one (pe_cmpR op_eq (pe_xf (pe_ix ix_list (pv 9) pe_int (fun _ _ => rfl))) (pv 3) (nomark _))))))))))))))))))), ?_⟩
    walk_at "go"
    refine ⟨a, ns, 4, rfl, hS, hlen, by decide, fun p ds H1 np s1 hp hl hd => ?_⟩
    -- names
    refine ⟨_, rfl, p, ds, 1000, rfl, hp, hd, by decide, fun d1 ds1 d10 d11 hd1 _ => ?_⟩
    obtain ⟨k1, rfl⟩ := Int.eq_ofNat_of_zero_le d10
    refine ⟨k1, 3, rfl, by omega, by decide, fun q H2 nq s2 hq => ?_⟩
    have hp2 : H2 p = some (.lst (ds1.map V.int)) := s2 _ _ upd_same
    have qp : q ≠ p := fun e => by rw [e, upd_same] at nq; cases nq
    refine ⟨_, rfl, _, rfl, p, ds1, 2, rfl, hp2, hd1, by decide, fun d2 ds2 d20 d21 hd2 _ => ?_⟩
    obtain ⟨k2, rfl⟩ := Int.eq_ofNat_of_zero_le d20
    refine ⟨q, _, _, .str (nm k1 3 k2), rfl, rfl, SqL.of (by rw [upd_ne qp]; exact hq), atI_nat (at_str (nmL_at (by omega))), ?_⟩
    refine ⟨_, rfl, q, _, _, .str (nm k1 3 2), rfl, rfl, SqL.of (by rw [upd_ne qp]; exact hq), atI_nat (j := 2) (at_str (nmL_at (by decide))), ?_⟩
    refine ⟨_, rfl, p, ds2, 59, rfl, upd_same, hd2, by decide, fun N ds3 d30 d31 hd3 _ => ?_⟩
    generalize hH3 : upd (upd H2 p (.lst (ds2.map V.int))) p (.lst (ds3.map V.int)) = H3
    clear hH3
    have okA : PyData.strOk (nm k1 3 k2) = true := nm_strOk _ _ _
    have okB : PyData.strOk (nm k1 3 2) = true := nm_strOk _ _ _
    generalize nm k1 3 k2 = A at okA ⊢
    generalize nm k1 3 2 = B at okB ⊢
    -- ring
    refine ⟨_, rfl, _, rfl, (show 3 ≤ sizeLine by decide), fun t1 n1 => ?_⟩
    refine ⟨_, rfl, _, _, rfl, rfl, _, rfl, (show 3 ≤ sizeLine by decide), fun t2 n2 => ?_⟩
    refine ⟨(show 2 ≤ sizeLine by decide), fun R n3 => ?_⟩
    generalize hH4 : upd (upd (upd H3 t1 (.tup [V.int N, V.str "read", V.str B])) t2 (.tup [V.int (N + 1), V.str "over", V.str B])) R (.lst [V.ref t1, V.ref t2]) = H4
    have ht1 : H4 t1 = some (.tup [V.int N, V.str "read", V.str B]) := by rw [← hH4]; exact (Same.refl _).new n3 _ _ ((Same.refl _).new n2 _ _ upd_same)
    have ht2 : H4 t2 = some (.tup [V.int (N + 1), V.str "over", V.str B]) := by rw [← hH4]; exact (Same.refl _).new n3 _ _ upd_same
    have hR : H4 R = some (.lst [V.ref t1, V.ref t2]) := by rw [← hH4, upd_same]
    clear hH4
    have ringDp : ∀ (H' : Hp) (b : Addr), Same H4 H' → H' b = some (.lst [V.ref t1, V.ref t2]) → Dp K H' (.ref b) (ringD N B) := fun H' b s h =>
      .lst (SqL.of h) (.cons (.tup (.inl (.inl (s _ _ ht1))) (.cons (.int _) (.cons (.str _) (.cons (.str _) .nil)))) (.cons (.tup (.inl (.inl (s _ _ ht2))) (.cons (.int _) (.cons (.str _) (.cons (.str _) .nil)))) .nil))
    -- both
    refine ⟨_, rfl, _, rfl, (show 2 ≤ sizeLine by decide), fun M n4 => ⟨M, rfl, ⟨_, SqL.of upd_same⟩, ?_⟩⟩
    refine fun D hD => lc_list (K := K) (a := M) (xs := ([A, B] : List Str).map V.str) (fun i H1 => H1 = upd (upd H4 M (.lst [V.str A, V.str B])) D (.lst ((([A, B] : List Str).take i).map V.str))) rfl (fun i H1 _ e => by rw [e]; exact (((Same.refl _).new hD).seq (SqL.of upd_same))) ?_ ?_
    · rintro i y H1 hi rfl
      have hil : i < ([A, B] : List Str).length := by
        have := lt_of_at hi
        rwa [List.length_map] at this
      obtain ⟨x, hx, rfl⟩ : ∃ x, ([A, B] : List Str)[i]? = some x ∧ y = .str x := by
        rw [List.getElem?_map] at hi
        cases e : ([A, B] : List Str)[i]? with
        | none => rw [e] at hi; cases hi
        | some x => rw [e] at hi; exact ⟨x, rfl, (Option.some.inj hi).symm⟩
      refine ⟨rfl, tYes_if ?_⟩
      refine ⟨_, rfl, x, rfl, _, upd_same, ?_, ?_⟩
      · rw [List.length_map, List.length_take]; exact size_ok (m := 30) (by simp; omega) (by decide)
      · rw [upd_upd, List.take_add_one, hx, List.map_append]; rfl
    rintro H1 rfl
    refine ⟨D, [A, B], rfl, SqL.of upd_same, (show 2 < 64 by decide), fun ys U pys sys hU => ?_⟩
    have oky : ∀ x ∈ ys, PyData.strOk x = true := fun x hx => by
      have := pys.mem_iff.mp hx
      simp only [List.mem_cons, List.not_mem_nil, or_false] at this
      rcases this with rfl | rfl
      · exact okA
      · exact okB
    generalize hH5 : upd (upd (upd H4 M (.lst [V.str A, V.str B])) D (.lst ((([A, B] : List Str).take (([A, B] : List Str).map V.str).length).map V.str))) U (.lst (ys.map V.str)) = H5
    have s5 : Same H4 H5 := by rw [← hH5]; exact (((Same.refl _).new n4).new hD).new hU
    have hU5 : H5 U = some (.lst (ys.map V.str)) := by rw [← hH5, upd_same]
    clear hH5
    -- errors
    refine ⟨_, rfl, _, rfl, _, rfl, _, rfl, _, rfl, A, B, N, R, U, _, _, rfl, s5 _ _ hR, hU5, fun L lr lc ad dd H6 nL s6 hL hX hlr hlc => ?_⟩
    have f0name : HasF K H6 (erE C_BadName C_Taken C_Unknown C_BadChannel C_BadKind C_TwoWays C_NotHeld C_NotHome C_NotDue C_Held C_Mismatch C_OutOfOrder C_Unfit C_NotWhole A B N lr lc ad dd) 0 "name" (.str A) := ⟨_, rfl, hX _ (by simp [erE]), (hK C_BadName (by simp)).1, xBadName.noF "name" (by simp), (fun e => by cases e), rfl⟩
    have f1name : HasF K H6 (erE C_BadName C_Taken C_Unknown C_BadChannel C_BadKind C_TwoWays C_NotHeld C_NotHome C_NotDue C_Held C_Mismatch C_OutOfOrder C_Unfit C_NotWhole A B N lr lc ad dd) 1 "name" (.str A) := ⟨_, rfl, hX _ (by simp [erE]), (hK C_Taken (by simp)).1, xTaken.noF "name" (by simp), (fun e => by cases e), rfl⟩
    have f2name : HasF K H6 (erE C_BadName C_Taken C_Unknown C_BadChannel C_BadKind C_TwoWays C_NotHeld C_NotHome C_NotDue C_Held C_Mismatch C_OutOfOrder C_Unfit C_NotWhole A B N lr lc ad dd) 2 "name" (.str A) := ⟨_, rfl, hX _ (by simp [erE]), (hK C_Unknown (by simp)).1, xUnknown.noF "name" (by simp), (fun e => by cases e), rfl⟩
    have f3name : HasF K H6 (erE C_BadName C_Taken C_Unknown C_BadChannel C_BadKind C_TwoWays C_NotHeld C_NotHome C_NotDue C_Held C_Mismatch C_OutOfOrder C_Unfit C_NotWhole A B N lr lc ad dd) 3 "name" (.str A) := ⟨_, rfl, hX _ (by simp [erE]), (hK C_BadChannel (by simp)).1, xBadChannel.noF "name" (by simp), (fun e => by cases e), rfl⟩
    have f4kind : HasF K H6 (erE C_BadName C_Taken C_Unknown C_BadChannel C_BadKind C_TwoWays C_NotHeld C_NotHome C_NotDue C_Held C_Mismatch C_OutOfOrder C_Unfit C_NotWhole A B N lr lc ad dd) 4 "kind" (.str A) := ⟨_, rfl, hX _ (by simp [erE]), (hK C_BadKind (by simp)).1, xBadKind.noF "kind" (by simp), (fun e => by cases e), rfl⟩
    have f5item : HasF K H6 (erE C_BadName C_Taken C_Unknown C_BadChannel C_BadKind C_TwoWays C_NotHeld C_NotHome C_NotDue C_Held C_Mismatch C_OutOfOrder C_Unfit C_NotWhole A B N lr lc ad dd) 5 "item" (.str A) := ⟨_, rfl, hX _ (by simp [erE]), (hK C_TwoWays (by simp)).1, xTwoWays.noF "item" (by simp), (fun e => by cases e), rfl⟩
    have f6item : HasF K H6 (erE C_BadName C_Taken C_Unknown C_BadChannel C_BadKind C_TwoWays C_NotHeld C_NotHome C_NotDue C_Held C_Mismatch C_OutOfOrder C_Unfit C_NotWhole A B N lr lc ad dd) 6 "item" (.str A) := ⟨_, rfl, hX _ (by simp [erE]), (hK C_NotHeld (by simp)).1, xNotHeld.noF "item" (by simp), (fun e => by cases e), rfl⟩
    have f7item : HasF K H6 (erE C_BadName C_Taken C_Unknown C_BadChannel C_BadKind C_TwoWays C_NotHeld C_NotHome C_NotDue C_Held C_Mismatch C_OutOfOrder C_Unfit C_NotWhole A B N lr lc ad dd) 7 "item" (.str A) := ⟨_, rfl, hX _ (by simp [erE]), (hK C_NotHome (by simp)).1, xNotHome.noF "item" (by simp), (fun e => by cases e), rfl⟩
    have f5site : HasF K H6 (erE C_BadName C_Taken C_Unknown C_BadChannel C_BadKind C_TwoWays C_NotHeld C_NotHome C_NotDue C_Held C_Mismatch C_OutOfOrder C_Unfit C_NotWhole A B N lr lc ad dd) 5 "site" (.str B) := ⟨_, rfl, hX _ (by simp [erE]), (hK C_TwoWays (by simp)).1, xTwoWays.noF "site" (by simp), (fun e => by cases e), rfl⟩
    have f6site : HasF K H6 (erE C_BadName C_Taken C_Unknown C_BadChannel C_BadKind C_TwoWays C_NotHeld C_NotHome C_NotDue C_Held C_Mismatch C_OutOfOrder C_Unfit C_NotWhole A B N lr lc ad dd) 6 "site" (.str B) := ⟨_, rfl, hX _ (by simp [erE]), (hK C_NotHeld (by simp)).1, xNotHeld.noF "site" (by simp), (fun e => by cases e), rfl⟩
    have f7site : HasF K H6 (erE C_BadName C_Taken C_Unknown C_BadChannel C_BadKind C_TwoWays C_NotHeld C_NotHome C_NotDue C_Held C_Mismatch C_OutOfOrder C_Unfit C_NotWhole A B N lr lc ad dd) 7 "site" (.str B) := ⟨_, rfl, hX _ (by simp [erE]), (hK C_NotHome (by simp)).1, xNotHome.noF "site" (by simp), (fun e => by cases e), rfl⟩
    have f8channel : HasF K H6 (erE C_BadName C_Taken C_Unknown C_BadChannel C_BadKind C_TwoWays C_NotHeld C_NotHome C_NotDue C_Held C_Mismatch C_OutOfOrder C_Unfit C_NotWhole A B N lr lc ad dd) 8 "channel" (.str A) := ⟨_, rfl, hX _ (by simp [erE]), (hK C_NotDue (by simp)).1, xNotDue.noF "channel" (by simp), (fun e => by cases e), rfl⟩
    have f8pick : HasF K H6 (erE C_BadName C_Taken C_Unknown C_BadChannel C_BadKind C_TwoWays C_NotHeld C_NotHome C_NotDue C_Held C_Mismatch C_OutOfOrder C_Unfit C_NotWhole A B N lr lc ad dd) 8 "pick" (.int N) := ⟨_, rfl, hX _ (by simp [erE]), (hK C_NotDue (by simp)).1, xNotDue.noF "pick" (by simp), (fun e => by cases e), rfl⟩
    have f9site : HasF K H6 (erE C_BadName C_Taken C_Unknown C_BadChannel C_BadKind C_TwoWays C_NotHeld C_NotHome C_NotDue C_Held C_Mismatch C_OutOfOrder C_Unfit C_NotWhole A B N lr lc ad dd) 9 "site" (.str A) := ⟨_, rfl, hX _ (by simp [erE]), (hK C_Held (by simp)).1, xHeld.noF "site" (by simp), (fun e => by cases e), rfl⟩
    have f11ring : HasF K H6 (erE C_BadName C_Taken C_Unknown C_BadChannel C_BadKind C_TwoWays C_NotHeld C_NotHome C_NotDue C_Held C_Mismatch C_OutOfOrder C_Unfit C_NotWhole A B N lr lc ad dd) 11 "ring" (.ref lr) := ⟨_, rfl, hX _ (by simp [erE]), (hK C_OutOfOrder (by simp)).1, xOutOfOrder.noF "ring" (by simp), (fun e => by cases e), rfl⟩
    have f12channels : HasF K H6 (erE C_BadName C_Taken C_Unknown C_BadChannel C_BadKind C_TwoWays C_NotHeld C_NotHome C_NotDue C_Held C_Mismatch C_OutOfOrder C_Unfit C_NotWhole A B N lr lc ad dd) 12 "channels" (.ref lc) := ⟨_, rfl, hX _ (by simp [erE]), (hK C_Unfit (by simp)).1, xUnfit.noF "channels" (by simp), (fun e => by cases e), rfl⟩
    have f13channel : HasF K H6 (erE C_BadName C_Taken C_Unknown C_BadChannel C_BadKind C_TwoWays C_NotHeld C_NotHome C_NotDue C_Held C_Mismatch C_OutOfOrder C_Unfit C_NotWhole A B N lr lc ad dd) 13 "channel" (.str A) := ⟨_, rfl, hX _ (by simp [erE]), (hK C_NotWhole (by simp)).1, xNotWhole.noF "channel" (by simp), (fun e => by cases e), rfl⟩
    have hEx : ∀ k, k < 14 → ∃ x, (erE C_BadName C_Taken C_Unknown C_BadChannel C_BadKind C_TwoWays C_NotHeld C_NotHome C_NotDue C_Held C_Mismatch C_OutOfOrder C_Unfit C_NotWhole A B N lr lc ad dd)[k]? = some x ∧ XObj H6 x ∧ ([C_BadName, C_Taken, C_Unknown, C_BadChannel, C_BadKind, C_TwoWays, C_NotHeld, C_NotHome, C_NotDue, C_Held, C_Mismatch, C_OutOfOrder, C_Unfit, C_NotWhole] : List Addr)[k]? = some x.C := fun k hk => by
      have e1 : (erE C_BadName C_Taken C_Unknown C_BadChannel C_BadKind C_TwoWays C_NotHeld C_NotHome C_NotDue C_Held C_Mismatch C_OutOfOrder C_Unfit C_NotWhole A B N lr lc ad dd)[k]? = some ((erE C_BadName C_Taken C_Unknown C_BadChannel C_BadKind C_TwoWays C_NotHeld C_NotHome C_NotDue C_Held C_Mismatch C_OutOfOrder C_Unfit C_NotWhole A B N lr lc ad dd)[k]'hk) := List.getElem?_eq_getElem hk
      refine ⟨_, e1, hX _ (List.getElem_mem hk), ?_⟩
      have e2 : ([C_BadName, C_Taken, C_Unknown, C_BadChannel, C_BadKind, C_TwoWays, C_NotHeld, C_NotHome, C_NotDue, C_Held, C_Mismatch, C_OutOfOrder, C_Unfit, C_NotWhole] : List Addr) = (erE C_BadName C_Taken C_Unknown C_BadChannel C_BadKind C_TwoWays C_NotHeld C_NotHome C_NotDue C_Held C_Mismatch C_OutOfOrder C_Unfit C_NotWhole A B N lr lc ad dd).map (·.C) := rfl
      rw [e2, List.getElem?_map, e1]
      rfl
    have hIx : ∀ (k : Nat) (x : XR), (erE C_BadName C_Taken C_Unknown C_BadChannel C_BadKind C_TwoWays C_NotHeld C_NotHome C_NotDue C_Held C_Mismatch C_OutOfOrder C_Unfit C_NotWhole A B N lr lc ad dd)[k]? = some x → atI (erV (erE C_BadName C_Taken C_Unknown C_BadChannel C_BadKind C_TwoWays C_NotHeld C_NotHome C_NotDue C_Held C_Mismatch C_OutOfOrder C_Unfit C_NotWhole A B N lr lc ad dd)) (k : Int) = some (.ref x.a) := fun k x e => atI_nat (by unfold erV; rw [List.getElem?_map, e]; rfl)
    generalize hEr : erE C_BadName C_Taken C_Unknown C_BadChannel C_BadKind C_TwoWays C_NotHeld C_NotHome C_NotDue C_Held C_Mismatch C_OutOfOrder C_Unfit C_NotWhole A B N lr lc ad dd = Er at *
    clear hEr hX
    refine ⟨14, rfl, by decide, by decide, ?_⟩
    refine for_range (n := 14) (fun i σ H7 => Same H6 H7 ∧ ∃ v, σ = [some (.ref a), some (.ref p), some (.ref q), some (.str A), some (.str B), some (.int N), some (.ref R), some (.ref U), none, some (.ref L), v, none]) ⟨Same.refl _, none, rfl⟩ ?_ ?_
    · rintro i σ H7 hi ⟨s7, v, rfl⟩
      obtain ⟨x, hx, hXo, hC⟩ := hEx i hi
      have hIi : atI (erV Er) (0 + (i : Int)) = some (.ref x.a) := by rw [Int.zero_add]; exact hIx i x hx
      have hKx := hK x.C (List.mem_of_getElem? hC)
      refine ⟨_, rfl, _, rfl, L, _, _, _, rfl, rfl, SqL.of (s7 _ _ hL), hIi, x, _, _, true, rfl, .own C_PlacementError, hXo.same s7, hKx.1, hKx.2.1, _, rfl, iteF ?_⟩
      refine ⟨_, rfl, _, rfl, L, _, _, _, rfl, rfl, SqL.of (s7 _ _ hL), hIi, x, _, _, true, rfl, .ty "ValueError", hXo.same s7, hKx.1, hKx.2.2, _, rfl, iteF ?_⟩
      refine ⟨_, rfl, _, rfl, L, _, _, _, rfl, rfl, SqL.of (s7 _ _ hL), hIi, x, i, rfl, hXo.same s7, hKx.1, (fun j C' h => kit i x.C j C' hC h), fun r H8 nr s8 hr => ?_⟩
      refine ⟨14, rfl, by decide, by decide, fun D hD => ?_⟩
      refine lc_range (n := 14) (fun j H1 => H1 = upd H8 D (.lst ((List.range j).map fun j => V.bl (decide (j = i))))) rfl ?_ ?_
      · rintro j H1 hj rfl
        refine ⟨rfl, tYes_if ?_⟩
        refine ⟨_, rfl, _, rfl, rfl, _, upd_same, ?_, ?_⟩
        · rw [List.length_map, List.length_range]; exact size_ok (m := 30) (by omega) (by decide)
        · have e : decide (V.int (0 + (j : Int)) = V.int (0 + (i : Int))) = decide (j = i) := decide_eq_decide.mpr ⟨fun e => by have := V.int.inj e; omega, fun e => by rw [e]⟩
          rw [upd_upd, List.range_succ, List.map_append, e]
          rfl
      rintro H1 rfl
      refine ⟨kiD i, kiD i, .lst (SqL.of ((Same.refl H8).new hD _ _ hr)) (dp_bools (fun j => decide (j = i)) _), .lst (SqL.of upd_same) (dp_bools (fun j => decide (j = i)) _), kiD_shaped i, kiD_shaped i, ?_⟩
      rw [kiD_self]
      refine ⟨_, rfl, iteF ?_⟩
      exact ⟨s7.trans (s8.new hD), _, rfl⟩
    rintro σ H7 ⟨s7, v, rfl⟩
    -- the fields
    have hN4 : ∀ i, i < 4 → HasF K H6 Er i "name" (.str A) := fun i hi => by
      match i, hi with
      | 0, _ => exact f0name
      | 1, _ => exact f1name
      | 2, _ => exact f2name
      | 3, _ => exact f3name
    have hI3 : ∀ i, i < 3 → HasF K H6 Er (5 + i) "item" (.str A) ∧ HasF K H6 Er (5 + i) "site" (.str B) := fun i hi => by
      match i, hi with
      | 0, _ => exact ⟨f5item, f5site⟩
      | 1, _ => exact ⟨f6item, f6site⟩
      | 2, _ => exact ⟨f7item, f7site⟩
    refine ⟨4, rfl, by decide, by decide, ?_⟩
    refine for_range (n := 4) (fun i σ H8 => H8 = H7 ∧ ∃ v, σ = [some (.ref a), some (.ref p), some (.ref q), some (.str A), some (.str B), some (.int N), some (.ref R), some (.ref U), none, some (.ref L), v, none]) ⟨rfl, _, rfl⟩ ?_ ?_
    · rintro i σ H8 hi ⟨rfl, v, rfl⟩
      obtain ⟨x, hx, hXo, xk, nf, dn, lk⟩ := hN4 i hi
      refine ⟨_, rfl, _, rfl, L, _, _, _, rfl, rfl, SqL.of (s7 _ _ hL), by rw [Int.zero_add]; exact hIx i x hx, x, _, rfl, hXo.same s7, xk, nf, dn, lk, _, rfl, rfl, _, rfl, iteNS rfl ?_⟩
      exact ⟨rfl, _, rfl⟩
    rintro σ H8 ⟨rfl, v2, rfl⟩
    refine ⟨5, 8, rfl, ⟨by decide, by decide, by decide, by decide⟩, ?_⟩
    refine for_range (n := 3) (fun i σ H9 => H9 = H8 ∧ ∃ v, σ = [some (.ref a), some (.ref p), some (.ref q), some (.str A), some (.str B), some (.int N), some (.ref R), some (.ref U), none, some (.ref L), v, none]) ⟨rfl, _, rfl⟩ ?_ ?_
    · rintro i σ H9 hi ⟨rfl, v, rfl⟩
      obtain ⟨⟨x, hx, hXo, xk, nf, dn, lk⟩, y, hy, hYo, yk, ynf, ydn, ylk⟩ := hI3 i hi
      have e5 : (5 : Int) + (i : Int) = ((5 + i : Nat) : Int) := by omega
      refine ⟨_, rfl, _, rfl, L, _, _, _, rfl, rfl, SqL.of (s7 _ _ hL), by rw [e5]; exact hIx _ x hx, x, _, rfl, hXo.same s7, xk, nf, dn, lk, _, rfl, rfl, _, rfl, iteNS rfl ?_⟩
      refine ⟨_, rfl, _, rfl, L, _, _, _, rfl, rfl, SqL.of (s7 _ _ hL), by rw [e5]; exact hIx _ y hy, y, _, rfl, hYo.same s7, yk, ynf, ydn, ylk, _, rfl, rfl, _, rfl, iteNS rfl ?_⟩
      exact ⟨rfl, _, rfl⟩
    rintro σ H9 ⟨rfl, v3, rfl⟩
    obtain ⟨x4, i4, o4, k4, n4', d4, l4⟩ := f4kind
    obtain ⟨x8, i8, o8, k8, n8, d8, l8⟩ := f8channel
    obtain ⟨y8, j8, p8, q8, m8, c8, z8⟩ := f8pick
    obtain ⟨x9, i9, o9, k9, n9, d9, l9⟩ := f9site
    refine ⟨_, rfl, L, _, _, _, rfl, rfl, SqL.of (s7 _ _ hL), hIx 4 x4 i4, x4, _, rfl, o4.same s7, k4, n4', d4, l4, _, rfl, rfl, _, rfl, iteNS rfl ?_⟩
    refine ⟨_, rfl, L, _, _, _, rfl, rfl, SqL.of (s7 _ _ hL), hIx 8 x8 i8, x8, _, rfl, o8.same s7, k8, n8, d8, l8, _, rfl, rfl, _, rfl, iteNS rfl ?_⟩
    refine ⟨_, rfl, L, _, _, _, rfl, rfl, SqL.of (s7 _ _ hL), hIx 8 y8 j8, y8, _, rfl, p8.same s7, q8, m8, c8, z8, _, rfl, rfl, _, rfl, iteNS rfl ?_⟩
    refine ⟨_, rfl, L, _, _, _, rfl, rfl, SqL.of (s7 _ _ hL), hIx 9 x9 i9, x9, _, rfl, o9.same s7, k9, n9, d9, l9, _, rfl, rfl, _, rfl, iteNS rfl ?_⟩
    obtain ⟨xr, ir, or_, kr, nr, dr, lr'⟩ := f11ring
    obtain ⟨xc, ic, oc, kc, nc, dc, lc'⟩ := f12channels
    obtain ⟨xw, iw, ow, kw, nw, dw, lw⟩ := f13channel
    have sR : Same H4 H9 := (s5.trans s6).trans s7
    refine ⟨_, rfl, L, _, _, _, rfl, rfl, SqL.of (s7 _ _ hL), hIx 11 xr ir, xr, _, rfl, or_.same s7, kr, nr, dr, lr', _, rfl, _, _, ringDp _ _ sR (s7 _ _ hlr), ringDp _ _ sR (sR _ _ hR), ringD_shaped okB, ringD_shaped okB, ?_⟩
    rw [PySem.SeqAt.eqv_refl _ (ringD_lay okB)]
    refine ⟨_, rfl, iteT ?_⟩
    refine ⟨_, rfl, L, _, _, _, rfl, rfl, SqL.of (s7 _ _ hL), hIx 12 xc ic, xc, _, rfl, oc.same s7, kc, nc, dc, lc', _, rfl, _, _, dp_strL (SqL.of (s7 _ _ hlc)), dp_strL (SqL.of (s7 _ _ (s6 _ _ hU5))), shaped_strL _ oky, shaped_strL _ oky, ?_⟩
    rw [eqS_self]
    refine ⟨_, rfl, iteT ?_⟩
    refine ⟨_, rfl, L, _, _, _, rfl, rfl, SqL.of (s7 _ _ hL), hIx 13 xw iw, xw, _, rfl, ow.same s7, kw, nw, dw, lw, _, rfl, rfl, ?_⟩
    have e1 : V.bl (decide (V.str A = V.str A)) = V.bl true := by rw [decide_eq_true rfl]
    rw [e1]
    exact kQ _
end

/-! ### the head -/
def fn : List AD := [adG "_law_draws" sDraws, adG "_law_take" sTake, adG "_law_names" sNames, adG "_law_kinds" sKi, adG "_law_errors" sEr, adG "law" sLaw]
def xs : List XD := [xdBadName, xdTaken, xdUnknown, xdBadChannel, xdBadKind, xdTwoWays, xdNotHeld, xdNotHome, xdNotDue, xdHeld, xdMismatch, xdOutOfOrder, xdUnfit, xdNotWhole]
def fyG : List Str := ["_law_draws", "_law_take", "_law_names", "_law_kinds", "_law_errors", "law", "PlacementError"]
def fy : List Fy := fyG.map (fun x => .fa (.glo x)) ++ bnames.map (fun x => .fa (.free x))
def csN : List Str := ["BadName", "Taken", "Unknown", "BadChannel", "BadKind", "TwoWays", "NotHeld", "NotHome", "NotDue", "Held", "Mismatch", "OutOfOrder", "Unfit", "NotWhole"]
def csA (K : PySem.W.Frag) : List Addr := csN.map (He.ga K)
def kitA (K : PySem.W.Frag) (C : Addr) : Bool := XKit.ok K C && (decide (PySem.W.kitOne K (.ref C) (.ref (He.ga K "PlacementError")) = some true) && decide (PySem.W.kitOne K (.ref C) (.type "ValueError") = some true))
def kitB (K : PySem.W.Frag) (cs : List Addr) : Bool := (List.range 14).all fun k => (List.range 14).all fun j => match cs[k]?, cs[j]? with
  | some C, some C' => decide (PySem.W.kitOne K (.ref C) (.ref C') = some (decide (j = k)))
  | _, _ => false
theorem kitB_ok {K : PySem.W.Frag} {cs : List Addr} (h : kitB K cs = true) (hl : cs.length = 14) (k : Nat) (C : Addr) (j : Nat) (C' : Addr) (h1 : cs[k]? = some C) (h2 : cs[j]? = some C') : PySem.W.kitOne K (.ref C) (.ref C') = some (decide (j = k)) := by
  have hk : k < 14 := hl ▸ (List.getElem?_eq_some_iff.mp h1).1
  have hj : j < 14 := hl ▸ (List.getElem?_eq_some_iff.mp h2).1
  have z := List.all_eq_true.mp (List.all_eq_true.mp h k (List.mem_range.mpr hk)) j (List.mem_range.mpr hj)
  rw [h1, h2] at z
  exact of_decide_eq_true z
def fb (K : PySem.W.Frag) : Bool := fy.all (Fy.ok K) && ((csA K).all (kitA K) && kitB K (csA K))
abbrev R : PySem.W.OpenRow := PySem.W.OpenLaw.row PySem.Challenge.rw_latebridges_k04_errors
abbrev hk : PySem.W.Hook := hookM R.prog 5 fb fn xs
def ob (s : PySem.W.SharedT) : AlM := obsMG R.prog 5 fb fn xs (HandSHeadRun.getT s)
theorem ob_eq (s : PySem.W.SharedT) : ob s = hk.obs s.abs := obsMG_eq (HandSHeadRun.getT_eq s)
def loose : List Str := ["PlacementError","BadName","Taken","Unknown","BadChannel","BadKind","TwoWays","NotHeld","NotHome","NotDue","Held","Mismatch","OutOfOrder","Unfit","NotWhole","_law_draws","_law_take","_law_names","_law_kinds","_law_errors"]
set_option maxHeartbeats 0 in
theorem run (w : World) : HandSHeadRun.RunEq R (PySem.W.view R.prog [22]) hk ob 6000 loose w := by
  intro os
  kernel_rfl
theorem facts {w : World} {K : PySem.W.Frag} {h : Heap} {mg : Str → Option Value} {f : Addr} (X : K.In h) (G : h.Ns mainGlobals mg) (hfa : mg ("law" : Str) = some (.ref f)) (c : SaysM R.prog fb fn xs K) :
    ∃ fd : FuncData, (∀ (s : Shared) (v : Value), BindsTo s fd ⟨[v], []⟩ [("_law_script", v)]) ∧ ∀ base : Heap, K.In base → base.Ns mainGlobals mg → FnOk R.prog w K mg base (L2.CX R.prog w) 6 f fd ["_law_script"] (spLaw K) := by
  have q : ∀ {y : Fy}, y ∈ fy → y.ok K = true := fun m => all_of (He.ba c.fact).1 m
  have qf : ∀ {y : He.Fa}, Fy.fa y ∈ fy → y.ok K = true := fun m => all_of (He.ba c.fact).1 m
  have glo : ∀ {x : Str}, x ∈ fyG → mg x = some (.ref (He.ga K x)) := fun m => He.glo_ok X G (qf (List.mem_append_left _ (List.mem_map.mpr ⟨_, m, rfl⟩)))
  have T : Bj mg := Bj.of fun x m => He.free_ok X G (qf (List.mem_append_right _ (List.mem_map.mpr ⟨_, m, rfl⟩)))
  obtain ⟨fd0, F0⟩ := c.def_ 0 (d := adG "_law_draws" sDraws) rfl
  obtain ⟨fd1, F1⟩ := c.def_ 1 (d := adG "_law_take" sTake) rfl
  obtain ⟨fd2, F2⟩ := c.def_ 2 (d := adG "_law_names" sNames) rfl
  obtain ⟨fd3, F3⟩ := c.def_ 3 (d := adG "_law_kinds" sKi) rfl
  obtain ⟨fd4, F4⟩ := c.def_ 4 (d := adG "_law_errors" sEr) rfl
  obtain ⟨fd5, F5⟩ := c.def_ 5 (d := adG "law" sLaw) rfl
  have ht : (R.prog.main.scope.names.lookup ("super" : Str)).isSome = false := by decide +kernel
  have x0 := c.exc ht 0 (d := xdBadName) rfl
  have g0 : mg ("BadName" : Str) = some (.ref (He.ga K "BadName")) := c.mgx X G 0 (d := xdBadName) rfl
  have x1 := c.exc ht 1 (d := xdTaken) rfl
  have g1 : mg ("Taken" : Str) = some (.ref (He.ga K "Taken")) := c.mgx X G 1 (d := xdTaken) rfl
  have x2 := c.exc ht 2 (d := xdUnknown) rfl
  have g2 : mg ("Unknown" : Str) = some (.ref (He.ga K "Unknown")) := c.mgx X G 2 (d := xdUnknown) rfl
  have x3 := c.exc ht 3 (d := xdBadChannel) rfl
  have g3 : mg ("BadChannel" : Str) = some (.ref (He.ga K "BadChannel")) := c.mgx X G 3 (d := xdBadChannel) rfl
  have x4 := c.exc ht 4 (d := xdBadKind) rfl
  have g4 : mg ("BadKind" : Str) = some (.ref (He.ga K "BadKind")) := c.mgx X G 4 (d := xdBadKind) rfl
  have x5 := c.exc ht 5 (d := xdTwoWays) rfl
  have g5 : mg ("TwoWays" : Str) = some (.ref (He.ga K "TwoWays")) := c.mgx X G 5 (d := xdTwoWays) rfl
  have x6 := c.exc ht 6 (d := xdNotHeld) rfl
  have g6 : mg ("NotHeld" : Str) = some (.ref (He.ga K "NotHeld")) := c.mgx X G 6 (d := xdNotHeld) rfl
  have x7 := c.exc ht 7 (d := xdNotHome) rfl
  have g7 : mg ("NotHome" : Str) = some (.ref (He.ga K "NotHome")) := c.mgx X G 7 (d := xdNotHome) rfl
  have x8 := c.exc ht 8 (d := xdNotDue) rfl
  have g8 : mg ("NotDue" : Str) = some (.ref (He.ga K "NotDue")) := c.mgx X G 8 (d := xdNotDue) rfl
  have x9 := c.exc ht 9 (d := xdHeld) rfl
  have g9 : mg ("Held" : Str) = some (.ref (He.ga K "Held")) := c.mgx X G 9 (d := xdHeld) rfl
  have x10 := c.exc ht 10 (d := xdMismatch) rfl
  have g10 : mg ("Mismatch" : Str) = some (.ref (He.ga K "Mismatch")) := c.mgx X G 10 (d := xdMismatch) rfl
  have x11 := c.exc ht 11 (d := xdOutOfOrder) rfl
  have g11 : mg ("OutOfOrder" : Str) = some (.ref (He.ga K "OutOfOrder")) := c.mgx X G 11 (d := xdOutOfOrder) rfl
  have x12 := c.exc ht 12 (d := xdUnfit) rfl
  have g12 : mg ("Unfit" : Str) = some (.ref (He.ga K "Unfit")) := c.mgx X G 12 (d := xdUnfit) rfl
  have x13 := c.exc ht 13 (d := xdNotWhole) rfl
  have g13 : mg ("NotWhole" : Str) = some (.ref (He.ga K "NotWhole")) := c.mgx X G 13 (d := xdNotWhole) rfl
  have e := hfa.symm.trans (glo (x := "law") (by simp [fyG]))
  cases e
  obtain ⟨kA, kB⟩ := He.ba (He.ba c.fact).2
  have b := FunD.bindsA (ps := ["_law_script"]) F5 fun _ _ _ _ _ _ us hl => match us, hl with | [_], _ => rfl
  refine ⟨fd5, fun s v => b s [v] rfl, fun base _ _ => ?_⟩
  refine ok_law F5 T
    ⟨⟨_, fd0, glo (by simp [fyG]), F0.kp, F0.bindsN (ps := ["_law_script", "_law_many"]) (fun _ _ _ _ _ _ us hl => match us, hl with | [_, _], _ => rfl), ok_draws F0 T.toBi⟩⟩
    ⟨⟨_, fd1, glo (by simp [fyG]), F1.kp, F1.bindsN (ps := ["_law_draws_here", "_law_size"]) (fun _ _ _ _ _ _ us hl => match us, hl with | [_, _], _ => rfl), ok_take F1 T.toBi⟩⟩
    ⟨⟨_, fd2, glo (by simp [fyG]), F2.kp, F2.bindsN (ps := ["_law_draw", "_law_many"]) (fun _ _ _ _ _ _ us hl => match us, hl with | [_, _], _ => rfl), ok_names F2 T.toBi⟩⟩
    ⟨⟨_, fd3, glo (by simp [fyG]), F3.kp, F3.bindsN (ps := ["_law_e"]) (fun _ _ _ _ _ _ us hl => match us, hl with | [_], _ => rfl), ok_ki F3 T g0 g1 g2 g3 g4 g5 g6 g7 g8 g9 g10 g11 g12 g13⟩⟩
    ⟨⟨_, fd4, glo (by simp [fyG]), F4.kp, F4.bindsN (ps := ["_law_a", "_law_b", "_law_number", "_law_ring", "_law_both"]) (fun _ _ _ _ _ _ us hl => match us, hl with | [_, _, _, _, _], _ => rfl), ok_er F4 T g0 g1 g2 g3 g4 g5 g6 g7 g8 g9 g10 g11 g12 g13
      x0 x1 x2 x3 x4 x5 x6 x7 x8 x9 x10 x11 x12 x13⟩⟩
    (glo (by simp [fyG])) x0 x1 x2 x3 x4 x5 x6 x7 x8 x9 x10 x11 x12 x13 (fun C hC => ?_) (kitB_ok (cs := csA K) kB rfl)
  have z := List.all_eq_true.mp kA C hC
  obtain ⟨z1, z2⟩ := He.ba z
  obtain ⟨z3, z4⟩ := He.ba z2
  exact ⟨XKit.of z1, of_decide_eq_true z3, of_decide_eq_true z4⟩
end M
open PySem PySem.W PySem.Calls PyProof.Rows
set_option maxRecDepth 100000 in
set_option maxHeartbeats 0 in
theorem PySem.Challenge.cw_latebridges_k04_errors_holds : PySem.Challenge.rw_latebridges_k04_errors.Holds := by
  w_on; o_law
  refine HandSHeadRun.head_any (r := OpenLaw.row PySem.Challenge.rw_latebridges_k04_errors) (q := view (OpenLaw.row PySem.Challenge.rw_latebridges_k04_errors).prog [22]) (H := M.hk) (ob := M.ob) (M := 6000) (loose := M.loose) (d := HandSHeadRun.topDef (OpenLaw.row PySem.Challenge.rw_latebridges_k04_errors).prog 22) (kwd := []) M.ob_eq
    (by kernel_rfl) (fun s => by kernel_rfl) M.run (by kernel_rfl) (by kernel_rfl) (by kernel_rfl) (by rfl) (by first | assumption | decide +kernel) (by decide +kernel) ⟨rfl, rfl, rfl, rfl, rfl, by decide +kernel⟩ ?hw ?hc
  case hw => w_witness2
  case hc =>
    refine L2.walk_ofE (l := PySem.Challenge.rw_latebridges_k04_errors) (n := 63) (k := 6) (x := "_law_script") (CX := L2.CX0) rfl (by decide) (by kernel_rfl) ⟨rfl, by decide, by decide⟩ ?F (fun _ _ _ _ z => z)
    intro w mg fa h Y G hmg0
    obtain ⟨K, KX, c⟩ := Y
    have hmg : mg ("law" : PySem.Str) = some (.ref fa) := by
      have e : (HandSHeadRun.topDef (OpenLaw.row PySem.Challenge.rw_latebridges_k04_errors).prog 22).name = ("law" : PySem.Str) := by kernel_rfl
      rw [← e]
      exact hmg0
    obtain ⟨fd, hb, hF⟩ := M.facts (w := w) KX G hmg c
    exact ⟨K, fd, M.spLaw K, KX, hb, fun H a ns hl _ hS => ⟨a, ns, rfl, hS, hl, fun _ => rfl⟩, fun base hB hG => M.calm_of (hF base hB hG) fun _ _ _ _ z => z⟩
