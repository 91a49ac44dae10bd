import PyProof.Rows.All
import Wide.All
import OpenK.AllK
import Wide.FinOn
import KE.KStateDown
import KE.KExcSuper
import HandS.ForMost
import HandS.Exc
import HandS.WordsExc
import HandS.TryOnly
import HandS.ExcOwn
import HandS.Defaults
import HandS.ExcInit
import HandS.ClsMeth
import HandS.Head0
import HandS.Head1
import HandS.Head2
import HandS.HeadEnd
import HandS.HeadHook1
import HandS.HeadHook2
import HandS.Property
import HandS.More
import HandS.IsInst
import HandS.RaiseMore
import HandS.Comp
import KE.LtData
import HandS.ExcValue
import KE.KExcIs
import HandS.Walk
import HandS.Deep
import HandS.Conv
import HandS.DictComp
import HandS.SetFor
import KE.DataFind
import PyProof.DictMoreH
import KE.KDictList
import KE.LtSeq
import HandS.Iter
import PySem.Challenge.RW_latebridges_k19_dropping_a_site
set_option Elab.async false
set_option linter.all false
set_option maxRecDepth 100000
set_option maxHeartbeats 4000000

namespace PySem
namespace XEx
open PySem.W PySem.Calls PyProof.Rows PySem.HandSPX
/-- the stores behind super().__init__(..): self.f = f -/
inductive Stores : List Str → List Stmt → Prop where
  | nil : Stores [] []
  | cons {f : Str} {fs : List Str} {st : List Stmt} {q1 q2 q3 q4 : Pos} (r : Stores fs st) : Stores (f :: fs) (.Assign [.Attribute (.Name "self" q1) f q2] (.Name f q3) q4 :: st)
/-- the exception's own dict: d holds the pairs ps (the last stored first) -/
def DictIs (h : Heap) (lo e : Addr) (d : Option Addr) (ps : List (Str × Value)) : Prop :=
  match d with
  | none => ps = []
  | some dx => lo ≤ dx ∧ dx ≠ e ∧ ps ≠ [] ∧ h.Ns1 dx (fun y => ps.lookup y)
section
variable {prog : Program} {w : World} {M : Model} {A : Around} {E : Value → Shared → Prop} {R : Result → Shared → Prop} {s : Shared} {K : Frag}
theorem ldL {env : Env} {m : Str → Option Value} {x : Str} {pos : Pos} {v : Value} {Q : Value → Shared → Prop} (hn : s.heap.Ns env.locals m) (hv : m x = some v) (h : Q v s)
    (hk : env.scope.kind = .function) (hl : env.kindOf x = some .local) (hd : (x == ("__debug__" : Str)) = false) : wpAny M A (eval (.Name x pos) env) Q E s := wpAny_Name (wpAny_loadName_local hk hl hn hv h) hd
theorem lookup_cons (f y : Str) (v : Value) (ps : List (Str × Value)) : ((f, v) :: ps).lookup y = if y = f then some v else ps.lookup y := by
  by_cases h : y = f
  · subst h
    simp [List.lookup]
  · have e : (y == f) = false := by simpa using h
    rw [if_neg h]
    simp [List.lookup, e]
/-- all stores, one after the other -/
theorem stores_run {env : Env} {C x lo : Addr} {cd : ClassData} {m : Str → Option Value} (hk : env.scope.kind = .function) (hcd : W.clsIn K C = some cd) (hm : refsVE cd.mro = true) (hh : cd.hasDict = true) (sa : findIn K (.ref C) "__setattr__" = some (some (.builtin "object.__setattr__")))
    (hself : m "self" = some (.ref x)) (kself : env.kindOf "self" = some .local) (hlo : lo ≤ env.locals) (hxL : x ≠ env.locals) (hKx : K.lookup x = none) :
    ∀ {fs : List Str} {st : List Stmt} {vs : List Value} {ps : List (Str × Value)} {d : Option Addr} {s : Shared} {t1 : Addr} {Q : Flow → Shared → Prop}, Stores fs st → fs.length = vs.length → ps.length + fs.length ≤ 1000 →
      (∀ f ∈ fs, env.kindOf f = some .local ∧ (f == ("__debug__" : Str)) = false ∧ findIn K (.ref C) f = some none) → (∀ p ∈ fs.zip vs, m p.1 = some p.2) →
      K.In s.heap → s.heap.Ns env.locals m → s.heap.get? x = some { cls := .ref C, dict := d, data := .fields #[.ref t1, .none, .none, .none, .bool false, .none] } → DictIs s.heap lo x d ps → (∀ dx, d = some dx → K.lookup dx = none ∧ dx ≠ env.locals) →
      (∀ h' tk d', (∀ b o, b ≠ x → (∀ dx, d = some dx → b ≠ dx) → s.heap.get? b = some o → h'.get? b = some o) →
        h'.get? x = some { cls := .ref C, dict := d', data := .fields #[.ref t1, .none, .none, .none, .bool false, .none] } → DictIs h' lo x d' ((fs.zip vs).reverse ++ ps) → Q .next { s with heap := h', toks := tk }) →
      wpAny (model prog w) A (execs st env) Q E s := by
  intro fs
  induction fs with
  | nil =>
    intro st vs ps d s t1 Q S hl hz hf hv X hn hx hd hdx hq
    cases S
    refine wpAny_execs_nil ?_
    have z := hq s.heap s.toks d (fun b o _ _ q => q) hx hd
    exact z
  | cons f fs ih =>
    intro st vs ps d s t1 Q S hl hz hf hv X hn hx hd hdx hq
    cases S with
    | cons r =>
    cases vs with
    | nil => cases hl
    | cons v vs =>
      obtain ⟨kf, df, nf⟩ := hf f List.mem_cons_self
      have mf : m f = some v := hv (f, v) (by simp)
      refine wpAny_execs_cons (plainObj_wpAny_Assign_Attribute ?_)
      refine ldL hn mf (ldL hn hself ?_ hk kself (by decide)) hk kf df
      cases d with
      | none =>
        have hps : ps = [] := hd
        subst hps
        refine set_plain X (ox := { cls := .ref C, dict := none, data := .fields #[.ref t1, .none, .none, .none, .bool false, .none] }) (od := none) ⟨hx, rfl, rfl, trivial⟩ sa ?_
        obtain ⟨hp, g, dr, t, os⟩ := s
        refine exc_osa X hx hcd hm hh nf (fun h' tk' dx k dn dne hx' hn' => ?_)
        have keep : ∀ b o, b ≠ x → hp.get? b = some o → h'.get? b = some o := k
        refine ih (ps := [(f, v)]) (d := some dx) (s := ⟨h', g, dr, tk', os⟩) r (Nat.succ.inj hl) (by simp only [List.length_cons, List.length_nil] at hz ⊢; omega) (fun y hy => hf y (List.mem_cons_of_mem _ hy)) (fun p hp => hv p (by simp [hp])) (fun b o e => ?_) ?_ hx' ?_ (fun dy e => ?_) (fun h2 tk d' k2 hx2 hd2 => ?_)
        · refine keep b o (fun z => ?_) (X b o e)
          rw [z, hKx] at e
          cases e
        · obtain ⟨oL, es, ep, hL, rest⟩ := hn
          exact ⟨oL, es, ep, keep _ _ (Ne.symm hxL) hL, rest⟩
        · refine ⟨Nat.le_trans hlo (Nat.le_trans (Nat.le_of_lt hn.lt) dn), dne, by simp, ?_⟩
          have e : (fun y => ([(f, v)] : List (Str × Value)).lookup y) = (fun y => if y = f then some v else none) := by
            funext y
            rw [lookup_cons]
            rfl
          rw [e]
          exact hn'
        · cases e
          refine ⟨?_, ?_⟩
          · cases q : K.lookup dx with
            | none => rfl
            | some o => exact absurd (Nat.lt_of_lt_of_le (Heap.lt_size (X _ _ q)) dn) (Nat.lt_irrefl _)
          · intro z
            have h1 : env.locals < hp.objs.size := hn.lt
            rw [← z] at h1
            exact absurd (Nat.lt_of_lt_of_le h1 dn) (Nat.lt_irrefl _)
        · refine hq h2 tk d' (fun b o hb _ q => k2 b o hb (fun dy e => ?_) (keep b o hb q)) hx2 ?_
          · cases e
            exact Nat.ne_of_lt (Nat.lt_of_lt_of_le (Heap.lt_size q) dn)
          · have e : ((f :: fs).zip (v :: vs)).reverse ++ ([] : List (Str × Value)) = (fs.zip vs).reverse ++ [(f, v)] := by simp
            rw [e]
            exact hd2
      | some dx =>
        obtain ⟨dlo, dne, hne, hns⟩ := hd
        obtain ⟨hp, g, dr, t, os⟩ := s
        obtain ⟨oD, esD, epD, hoD, _⟩ := id hns
        refine set_plain X (ox := { cls := .ref C, dict := some dx, data := .fields #[.ref t1, .none, .none, .none, .bool false, .none] }) (od := some oD) ⟨hx, rfl, rfl, hoD⟩ sa ?_
        have hw : Within (fun y => ps.lookup y) (ps.map (·.1)) := fun y hy => by
          cases q : ps.lookup y with
          | none => exact absurd q hy
          | some u =>
            have : ∀ (l : List (Str × Value)), l.lookup y = some u → y ∈ l.map (·.1) := by
              intro l
              induction l with
              | nil => intro h; cases h
              | cons p l ih =>
                intro h
                obtain ⟨g, z⟩ := p
                rw [lookup_cons] at h
                by_cases e : y = g
                · rw [e]; exact List.mem_cons_self ..
                · rw [if_neg e] at h; exact List.mem_cons_of_mem _ (ih h)
            exact this ps q
        refine PySem.OEX.osa_old X hx hns hw (by rw [List.length_map]; omega) hcd hm hh nf (fun h' tk' k hn' => ?_)
        have hx' : h'.get? x = some { cls := .ref C, dict := some dx, data := .fields #[.ref t1, .none, .none, .none, .bool false, .none] } := k _ _ (Ne.symm dne) hx
        obtain ⟨kd1, kd2⟩ := hdx dx rfl
        refine ih (ps := (f, v) :: ps) (d := some dx) (s := ⟨h', g, dr, tk', os⟩) r (Nat.succ.inj hl) (by simp only [List.length_cons] at hz ⊢; omega) (fun y hy => hf y (List.mem_cons_of_mem _ hy)) (fun p hp => hv p (by simp [hp])) (fun b o e => ?_) ?_ hx' ?_ (fun dy e => ?_) (fun h2 tk d' k2 hx2 hd2 => ?_)
        · refine k b o (fun z => ?_) (X b o e)
          rw [z, kd1] at e
          cases e
        · obtain ⟨oL, es, ep, hL, rest⟩ := hn
          exact ⟨oL, es, ep, k _ _ (Ne.symm kd2) hL, rest⟩
        · refine ⟨dlo, dne, by simp, ?_⟩
          have e : (fun y => ((f, v) :: ps).lookup y) = (fun y => if y = f then some v else ps.lookup y) := by
            funext y
            rw [lookup_cons]
          rw [e]
          exact hn'
        · cases e
          exact ⟨kd1, kd2⟩
        · refine hq h2 tk d' (fun b o hb hbd q => k2 b o hb (fun dy e => ?_) (k b o (hbd dx rfl) q)) hx2 ?_
          · cases e
            exact hbd dx rfl
          · have e : ((f :: fs).zip (v :: vs)).reverse ++ ps = (fs.zip vs).reverse ++ (f, v) :: ps := by simp
            rw [e]
            exact hd2

/-- the bound ValueError.__init__ called: the args are laid anew -/
theorem call_bwV {h : Heap} {g : Array GenState} {d : Drawn} {t : Nat} {os : OsState} {nm q : Str} {C N : Addr} {bs bm : List Value} {hdct : Bool} {sn : List Str} {sub : List Value} {ab : Bool} {col : Option Bool} {dd : Option Addr} {k0 k1 k2 k3 k5 : Option Value}
    {u e t0 : Addr} {rest : List Value} {Q : Value → Shared → Prop}
    (hC : h.get? C = some (excClassObj nm q C N bs bm hdct sn sub ab col dd k0 k1 k2 k3 k5 "ValueError.__new__")) (he : h.get? e = some (excO C t0)) (hu : h.get? u = some (kxs_mw "ValueError.__init__" e)) (hrest : rest.length ≤ sizeLine)
    (hq : ∀ h' t1, (∀ b o, b ≠ e → h.get? b = some o → h'.get? b = some o) → h'.get? e = some (excO C t1) → Q .none ⟨h', g, d, t, os⟩) :
    wpAny (model prog w) A (call (.ref u) rest) Q E ⟨h, g, d, t, os⟩ := by
  refine wpAny_call (codeAny_of_tree ?_)
  show wpAny _ A.in1 (callAny (.ref u) ⟨rest, []⟩) _ _ _
  simp only [callAny]
  refine wpAny_bind (wpAny_load hu ?_)
  simp only [kxs_mw, show (Value.type "method-wrapper" == Value.type "method" || Value.type "method-wrapper" == Value.type "builtin_function_or_method" || Value.type "method-wrapper" == Value.type "method-wrapper") = true by decide, if_true]
  refine W.KFB.if_so (by decide) ?_
  refine wpAny_bind (check_bound_init F.excBase_ValueError.toExcCallFacts hC he rfl ?_)
  refine wpAny_bind (wpAny_pure (wpAny_pure ?_))
  refine ⟨Code.quiet_builtin _ (by decide +kernel), codeAny_builtin F.excBase_ValueError.initEntry ?_⟩
  rw [Around.under_plainId F.excBase_ValueError.init.plain _]
  wp_walk
  refine hq _ h.objs.size (fun b o hb ho => ?_) ?_
  · rw [Heap.get?_update_other _ _ (Ne.symm hb)]
    exact Heap.get?_push_of_some _ ho
  · rw [Heap.get?_update_self _ (Heap.get?_push_of_some _ he) rfl]
    rfl

theorem lookup_rev {k : Str} {v : Value} : ∀ {l : List (Str × Value)}, (l.map (·.1)).Nodup → (k, v) ∈ l → l.reverse.lookup k = some v := by
  intro l
  have key : ∀ (l : List (Str × Value)), (l.map (·.1)).Nodup → (k, v) ∈ l → l.lookup k = some v := by
    intro l
    induction l with
    | nil => intro _ h; cases h
    | cons p l ih =>
      intro nd h
      obtain ⟨f, u⟩ := p
      rw [lookup_cons]
      rw [List.map_cons, List.nodup_cons] at nd
      rcases List.mem_cons.mp h with e | h
      · cases e
        rw [if_pos rfl]
      · have ne : k ≠ f := fun e => nd.1 (by
          rw [← e]
          exact List.mem_map_of_mem (f := (·.1)) h)
        rw [if_neg ne]
        exact ih nd.2 h
  intro nd h
  refine key l.reverse ?_ (List.mem_reverse.mpr h)
  rw [List.map_reverse]
  exact List.pairwise_reverse.mpr (nd.imp fun {a b} h => Ne.symm h)
def superPl (o : Expr) (env : Env) : Sem Bool := do return (← importBound o env).getD true
theorem he_super {o : Expr} {name : Str} {p2 p3 p4 : Pos} {x : Const} {j : Nat} {env : Env} (hline : (p2.endLine == p4.line) = true) :
    eval (.Call (.Attribute o name p2) [.Constant x j p3] [] p4) env = (do
      let ov ← attributeBase o name env (eval o env)
      standAt p2.atName
      let (f, first) ← holding [ov] (getMethod ov name (superPl o env))
      callWith p4 f first (backTo p4 (starEach [.Constant x j p3] env)) []) := by
  rw [arm_eval_Call]
  have hform : methodCallForm ([Expr.Constant x j p3].length + ([] : List Keyword).length) (backTo p4 (starEach [.Constant x j p3] env)) (backToKw p4 (keywordEach [] env)) = true := rfl
  have hpos : methodCallPos true o env p2 p4 = pure p4 := by unfold methodCallPos; simp [hline]
  unfold methodCall
  rw [hform, hpos]
  simp only [pure_bind]
  rfl
/-- what the text says of such an __init__ -/
structure IText (fs : List Str) (params : Arguments) (body : List Stmt) (scope : Scope) : Prop where
  bd : ∃ (p0 p1 p2 p3 p4 p5 : Pos) (j : Nat) (txt : Str) (stores : List Stmt), body = .Expr (.Call (.Attribute (.Call (.Name "super" p0) [] [] p1) "__init__" p2) [.Constant (.str txt) j p3] [] p4) p5 :: stores ∧ Stores fs stores ∧ (p2.endLine == p4.line) = true
  hks : scope.names.lookup ("super" : Str) = some .globalImplicit
  hkc : scope.names.lookup ("__class__" : Str) = some .free
  hself : scope.names.lookup ("self" : Str) = some .local
  hf : ∀ f ∈ fs, scope.names.lookup f = some .local ∧ (f == ("__debug__" : Str)) = false
  hcell : ∀ x ∈ scope.names, x.2 ≠ .cell
  hco : scope.isCoroutine = false
  hgen : scope.isGenerator = false
  hk : scope.kind = .function
  hp : ∃ ar, (params.posonlyargs ++ params.args).head? = some ar ∧ ar.arg = ("self" : Str)
  bind : ∀ (name qual : Str) (cl : List (Str × Addr)) (kV doc pm : Value) (an : Option Addr) (cdv ct : Value) (us : List Value), us.length = fs.length + 1 → bindArgs (fnX name qual params body scope cl .none kV doc pm an cdv ct) ⟨us, []⟩ = pure ((("self" : Str) :: fs).zip us)
  nd : (("self" : Str) :: fs).Nodup
  len : fs.length ≤ 100
/-- what the written part says of the class at C -/
structure XCls (P : Program) (K : Frag) (C : Addr) (fs : List Str) (params : Arguments) (body : List Stmt) (scope : Scope) : Prop where
  cls : ∃ nm q N bs bm sn sub ab col dd k0 k1 k2 k3 k5, K.lookup C = some (excClassObj nm q C N bs bm true sn sub ab col dd k0 k1 k2 k3 k5 "ValueError.__new__") ∧ refsVE bm = true
  sa : findIn K (.ref C) "__setattr__" = some (some (.builtin "object.__setattr__"))
  ga : findIn K (.ref C) "__getattribute__" = some (some (.builtin "BaseException.__getattribute__"))
  gg : findIn K (.ref C) "__getattr__" = some none
  noF : ∀ f ∈ fs, findIn K (.ref C) f = some none
  kC : keepIn K (.ref C) = true
  exC : subIn K (.ref C) (.type "BaseException") = some true
  veC : subIn K (.ref C) (.type "ValueError") = some true
  tyC : typeIn K (.ref C) = some (.type "type")
  hdC : hasDictIn K C = true
  te : exmOne K (.ref C) (.ref C) = some true
  op : nsIn K cStatics "thirdparty.any" = some none
  sup : nsIn K mainGlobals "super" = some none
  sI : ks_superIn K C C "__init__" = some (some (.builtin "ValueError.__init__"))
  mC : mroIn K C (.ref C) = some true
  top : (P.main.scope.names.lookup ("super" : Str)).isSome = false
  fn : ∃ (fI : Addr) (name qual : Str) (oc : Value) (od : Option Addr) (kV doc pm : Value) (an : Option Addr) (cda cc : Addr) (ct ccl cl : Value) (cdd cld : Option Addr) (vs : Array Value) (file : Str) (tf : Tok) (osl ccs csl : Array (Option Value)),
    findIn K (.ref C) "__init__" = some (some (.ref fI)) ∧ typeIn K (.ref fI) = some (.type "function") ∧
    K.lookup fI = some ⟨oc, od, .func (fnX name qual params body scope [(("__class__" : Str), cc)] .none kV doc pm an (.ref cda) ct), osl⟩ ∧ codeIn K (.ref cda) qual = true ∧
    K.lookup cda = some ⟨ccl, cdd, .fields vs, ccs⟩ ∧ vs[2]? = some (.str file tf) ∧ ((P.main.file : Str) == file) = true ∧ K.lookup cc = some ⟨cl, cld, .cell (some (.ref C)), csl⟩
/-- a made exception -/
structure Made (h h' : Heap) (e C : Addr) (d : Option Addr) (ps : List (Str × Value)) : Prop where
  keep : ∀ b o, h.get? b = some o → h'.get? b = some o
  new : h.objs.size ≤ e
  obj : ∃ oe vs, h'.get? e = some oe ∧ oe.cls = .ref C ∧ oe.dict = d ∧ oe.data = .fields vs ∧ vs[1]? = some .none
  dct : DictIs h' h.objs.size e d ps
theorem zip_keys : ∀ {fs : List Str} {us : List Value}, fs.length = us.length → (fs.zip us).map (·.1) = fs
  | [], [], _ => rfl
  | f :: fs, u :: us, h => by
    rw [List.zip_cons_cons, List.map_cons, zip_keys (Nat.succ.inj h)]
  | [], _ :: _, h => by cases h
  | _ :: _, [], h => by cases h
theorem zip_fst_mem {p : Str × Value} : ∀ {fs : List Str} {us : List Value}, p ∈ fs.zip us → p.1 ∈ fs
  | [], _, h => by simp at h
  | _ :: _, [], h => by simp at h
  | f :: fs, u :: us, h => by
    rw [List.zip_cons_cons] at h
    rcases List.mem_cons.mp h with e | h
    · rw [e]; exact List.mem_cons_self ..
    · exact List.mem_cons_of_mem _ (zip_fst_mem h)
theorem exc_made {prog : Program} {w : World} {A : Around} {R : Result → Shared → Prop} {s : Shared} {K : Frag} {C : Addr} {fs : List Str} {params : Arguments} {body : List Stmt} {scope : Scope} {mg mb : Str → Option Value}
    (T : XCls prog K C fs params body scope) (I : IText fs params body scope) {us : List Value} (X : K.In s.heap) (hlim : s.heap.NoLimit) (G : s.heap.Ns mainGlobals mg) (B : s.heap.Ns builtinsNs mb) (hmb : mb "super" = bootBuiltins "super")
    (hroom : A.depth + 1 < recursionLimit) (hl : fs.length = us.length)
    (hq : ∀ h' tk e d, Made s.heap h' e C d (fs.zip us).reverse → R (.ok (.ret (.ref e))) { s with heap := h', toks := tk }) :
    codeAny (model prog w) A (.call (.ref C) ⟨us, []⟩) R s := by
  obtain ⟨nm, q, N, bs, bm, sn, sub, ab, col, dd, k0, k1, k2, k3, k5, hC, hbm⟩ := T.cls
  obtain ⟨fI, name, qual, oc, od, kV, doc, pm, an, cda, cc, ct, ccl, cl, cdd, cld, cvs, file, tf, osl, ccs, csl, iC, tI, ho, hcd, hcda, hfile0, hfile, hcc⟩ := T.fn
  obtain ⟨ar, har, harg⟩ := I.hp
  have hcl : clsIn K C = some { name := nm, bases := bs, mro := .ref C :: bm, ns := N, qualname := q, hasDict := true, slotNames := sn, subclasses := sub, abstract := ab, collection := col, hasDel := false } := by unfold clsIn; rw [hC] <;> rfl
  obtain ⟨hp, g, dr, tk, os⟩ := s
  have k : ∀ b o, hp.get? b = some o → ((hp.push (kdv_tup us)).push (excO C hp.objs.size)).get? b = some o := fun b o e => Heap.get?_push_of_some _ (Heap.get?_push_of_some _ e)
  have hget : ((hp.push (kdv_tup us)).push (excO C hp.objs.size)).get? (hp.objs.size + 1) = some (excO C hp.objs.size) := by heap_get
  have hnx : K.lookup (hp.objs.size + 1) = none := by
    cases e : K.lookup (hp.objs.size + 1) with
    | none => rfl
    | some o =>
      have z : hp.get? (hp.objs.size + 1) = some o := X _ _ e
      exact absurd (Nat.lt_of_succ_lt (Heap.lt_size z)) (Nat.lt_irrefl _)
  have hsz : us.length ≤ sizeLine := by
    rw [← hl, sizeLine_eq]
    exact Nat.le_trans I.len (by decide)
  refine call_own F.excBase_ValueError (fun X => refsVE_contains X bm hbm) (X _ _ hC) (looks_findIn X iC) (fun self => bind_fn X self tI) hsz ?_
  -- the own __init__
  generalize hx0 : hp.objs.size + 1 = x at *
  generalize hh0 : (hp.push (kdv_tup us)).push (excO C hp.objs.size) = h0 at *
  have X0 : K.In h0 := X.keeps k
  have hsize0 : h0.objs.size = hp.objs.size + 2 := by
    rw [← hh0, Heap.size_push, Heap.size_push]
  refine ks_codeAny_call_defAt (s := ⟨h0, g, dr, tk, os⟩) (fd := fnX name qual params body scope [(("__class__" : Str), cc)] .none kV doc pm an (.ref cda) ct) (body := body) (binds := (("self" : Str), .ref x) :: fs.zip us) hroom (X0 _ _ ho) rfl (hlim.keeps k) (codeRec_of X0 hcd) rfl
    (BindsTo.of_eq (I.bind name qual _ kV doc pm an _ ct (.ref x :: us) (by rw [List.length_cons, hl]))) I.hcell (fun y hy => ?_) (fun h₁ hns hk₁ => ?_) I.hco I.hgen I.hk
  · rcases List.mem_cons.mp hy with e | hy
    · rw [e]; exact I.hself
    · exact (I.hf _ (zip_fst_mem hy)).1
  have X1 : K.In h₁ := X0.keeps hk₁
  have kk : ∀ b o, hp.get? b = some o → h₁.get? b = some o := fun b o e => hk₁ b o (k b o e)
  have hx1 : h₁.get? x = some (excO C hp.objs.size) := hk₁ _ _ hget
  have hxL : x ≠ h0.objs.size := by
    rw [hsize0, ← hx0]
    exact Nat.ne_of_lt (Nat.lt_succ_self _)
  have hnd : ((((("self" : Str), Value.ref x) :: fs.zip us)).map (·.1)).Nodup := by
    rw [List.map_cons, zip_keys hl]
    exact I.nd
  have mself : (((("self" : Str), Value.ref x) :: fs.zip us)).reverse.lookup ("self" : Str) = some (Value.ref x) := lookup_rev hnd List.mem_cons_self
  obtain ⟨p0, p1, p2, p3, p4, p5, j, txt, stores, hb, hst, hline⟩ := I.bd
  rw [hb]
  have hD1 : h₁.get? C = some (excClassObj nm q C N bs bm true sn sub ab col dd k0 k1 k2 k3 k5 "ValueError.__new__") := X1 _ _ hC
  have hxC : x ≠ C := fun z => by rw [z, hC] at hnx; cases hnx
  -- super().__init__("..")
  refine ks_wpAt_execs_cons (ks_wpAt_Expr_any (ks_wpAt_MethodCall (pl := superPl _ _) ?_ (he_super hline)) (by show (scope.kind == _ && _) = false; rw [I.hk]; rfl) (by rfl))
  refine ks_wpAt_super_base I.hks I.hkc rfl rfl (X1 _ _ ho) rfl har rfl (X1 _ _ hcda) rfl hfile0 hfile T.top ?_
  refine ks_loadName_global I.hk I.hks (loadGlobal_builtin (G.keeps kk) (mg_none_of X G T.sup) (B.keeps kk) (hmb.trans (by decide +kernel : bootBuiltins "super" = some (.type "super"))) ⟨rfl, ?_⟩)
  refine wpAny_loadName_free I.hk I.hkc rfl ⟨_, X1 _ _ hcc, rfl⟩ ?_
  rw [harg]
  refine wpAny_loadName_local I.hk I.hself hns mself ?_
  refine ks_wpAny_isType_cls hD1 rfl ⟨rfl, ?_⟩
  refine ks_wpAny_call_super hD1 rfl hx1 rfl (fun c e => by cases e) (looks_mroIn X1 T.mC) (fun h2 e2 k2 => ?_)
  have X2 : K.In h2 := X1.keeps k2
  have hx2 : h2.get? x = some (excO C hp.objs.size) := k2 _ _ hx1
  have I2 : InstAt h2 x (excO C hp.objs.size) C none := ⟨hx2, rfl, rfl, trivial⟩
  have hsI : alongIn K "__init__" (((Value.ref C :: bm).dropWhile (· != .ref C)).drop 1) = some (some (.builtin "ValueError.__init__")) := by
    have z := T.sI
    unfold ks_superIn at z
    rw [hcl] at z
    exact z
  refine kxs_getMethod kxs_ValueError e2 (looks_opaque X2 T.op) (l₀ := .ref C :: bm) (fun A Q E s k q => wpAny_bind ((looks_clsIn X2 hcl) A _ E s k (wpAny_pure q))) rfl X2 hsI (I2.type.andThen (looks_subIn X2 T.veC)) hxC rfl ?_
  have e3 : (h2.push (kxs_mw "ValueError.__init__" x)).get? h2.objs.size = some (kxs_mw "ValueError.__init__" x) := Heap.get?_push_at rfl rfl
  have k3 : ∀ b o, h2.get? b = some o → (h2.push (kxs_mw "ValueError.__init__" x)).get? b = some o := fun b o e => Heap.get?_push_of_some _ e
  refine kxs_callWith (i := "ValueError.__init__") (x := x) rfl (evalArgs_plain (spliced_more (wpAny_Constant_str (spliced_none ⟨e3, ?_⟩))))
  refine call_bwV (k3 _ _ (X2 _ _ hC)) (k3 _ _ hx2) e3 (by rw [sizeLine_eq]; exact Nat.le_trans (Nat.le_refl 1) (by decide)) (fun h4 t1 k4 hx4 => ?_)
  -- the stores
  have old1 : ∀ b o, h₁.get? b = some o → b ≠ x → h4.get? b = some o := fun b o e ne => k4 b o ne (k3 _ _ (k2 _ _ e))
  have xlt : hp.objs.size ≤ x := by rw [← hx0]; exact Nat.le_succ _
  have hne : ∀ {b : Addr} {o : Obj}, hp.get? b = some o → b ≠ x := fun {b o} e => Nat.ne_of_lt (Nat.lt_of_lt_of_le (Heap.lt_size e) xlt)
  have X4 : K.In h4 := fun b o e => old1 b o (kk b o (X b o e)) (hne (X b o e))
  have hns4 : h4.Ns h0.objs.size (fun y => ((("self" : Str), Value.ref x) :: fs.zip us).reverse.lookup y) := by
    obtain ⟨oL, es, ep, hL, rest⟩ := hns
    exact ⟨oL, es, ep, old1 _ _ hL (Ne.symm hxL), rest⟩
  refine wpAt_of_wpAny ?_
  refine stores_run (env := callEnv (fnX name qual params _ scope [(("__class__" : Str), cc)] .none kV doc pm an (.ref cda) ct) h0.objs.size fI) (m := fun y => ((("self" : Str), Value.ref x) :: fs.zip us).reverse.lookup y) (K := K) (C := C) (x := x) (lo := hp.objs.size) (d := none) (ps := []) (s := ⟨h4, g, dr, _, os⟩) (vs := us) I.hk hcl (show refsVE (.ref C :: bm) = true from hbm) rfl T.sa mself I.hself (by show hp.objs.size ≤ h0.objs.size; rw [hsize0]; exact Nat.le_add_right _ _) hxL hnx hst hl (by
      show 0 + fs.length ≤ 1000
      have := I.len
      omega) (fun f hf => ⟨(I.hf f hf).1, (I.hf f hf).2, T.noF f hf⟩) (fun p hp' => lookup_rev hnd (List.mem_cons_of_mem _ hp')) X4 hns4 hx4 rfl (fun dx e => by cases e) (fun h' tk' d' k5' hx5 hd5 => ?_)
  have keep : ∀ b o, hp.get? b = some o → h'.get? b = some o := fun b o e => k5' b o (hne e) (fun dx z => by cases z) (old1 b o (kk b o e) (hne e))
  rw [List.append_nil] at hd5
  exact ⟨rfl, hq h' tk' x d' ⟨keep, xlt, ⟨_, _, hx5, rfl, rfl, rfl, rfl⟩, hd5⟩⟩
end
end XEx
end PySem

namespace L2
open PySem PySem.Spec PyProof.Rows PySem.XEx
theorem relO_rev {vs : List V} {us : List Value} : ∀ {fs : List Str}, Vals vs us → ∀ f, RelO ((fs.zip vs).reverse.lookup f) ((fs.zip us).reverse.lookup f) := by
  have key : ∀ {l1 : List (Str × V)} {l2 : List (Str × Value)}, Paired (fun (p : Str × V) (q : Str × Value) => p.1 = q.1 ∧ RelV p.2 q.2) l1 l2 → ∀ f, RelO (l1.lookup f) (l2.lookup f) := by
    intro l1 l2 h
    induction h with
    | nil => intro f; trivial
    | @cons p q l1 l2 r _ ih =>
      intro f
      obtain ⟨g, v⟩ := p
      obtain ⟨g', u⟩ := q
      obtain ⟨e, rv⟩ := r
      have e' : g = g' := e
      subst e'
      rw [lookup_put, XEx.lookup_cons]
      by_cases h : f = g
      · rw [if_pos h, if_pos h]; exact rv
      · rw [if_neg h, if_neg h]; exact ih f
  have app : ∀ {l1 m1 : List (Str × V)} {l2 m2 : List (Str × Value)}, Paired (fun (p : Str × V) (q : Str × Value) => p.1 = q.1 ∧ RelV p.2 q.2) l1 l2 → Paired (fun (p : Str × V) (q : Str × Value) => p.1 = q.1 ∧ RelV p.2 q.2) m1 m2 → Paired (fun (p : Str × V) (q : Str × Value) => p.1 = q.1 ∧ RelV p.2 q.2) (l1 ++ m1) (l2 ++ m2) := by
    intro l1 m1 l2 m2 h1 h2
    induction h1 with
    | nil => exact h2
    | cons r _ ih => exact .cons r ih
  have zp : ∀ {vs : List V} {us : List Value} {fs : List Str}, Vals vs us → Paired (fun (p : Str × V) (q : Str × Value) => p.1 = q.1 ∧ RelV p.2 q.2) (fs.zip vs).reverse (fs.zip us).reverse := by
    intro vs us fs r
    induction r generalizing fs with
    | nil => simp; exact .nil
    | @cons v u vs us r _ ih =>
      cases fs with
      | nil => simp; exact .nil
      | cons f fs =>
        rw [List.zip_cons_cons, List.zip_cons_cons, List.reverse_cons, List.reverse_cons]
        exact app ih (.cons ⟨rfl, r⟩ .nil)
  intro fs r
  exact key (zp r)
/-- X(..): an exception of a class with an own __init__ that says super().__init__("..") and stores its arguments -/
def tMkX (C : Addr) (fs : List Str) (ta : TA) : St → Hp → XK → Prop := fun σ H Q => ta σ H fun vs H1 => vs.length = fs.length ∧ (fs = [] → Q (.ref C) none H1) ∧ (fs ≠ [] → ∀ d, H1 d = none → Q (.ref C) (some d) (upd H1 d (.xd (fs.zip vs).reverse)))
section
variable {X : Cx} {C : Addr} {fs : List Str} {params : Arguments} {body : List Stmt} {scope : Scope} {k : Nat}
theorem run_mkx {pins : List (Addr × Obj)} {σ : St} {H : Hp} {s : Shared} {Q : XK} {us : List Value} {vs : List V} (T : XCls X.prog X.K C fs params body scope) (I : IText fs params body scope) (hr : Room k X.A) (I1 : Inv X pins σ H s) (r : Vals vs us) (hl : vs.length = fs.length)
    (q0 : fs = [] → Q (.ref C) none H) (q1 : fs ≠ [] → ∀ d, H d = none → Q (.ref C) (some d) (upd H d (.xd (fs.zip vs).reverse))) :
    wpAny (model X.prog X.w) X.A (call (.ref C) us) (MkP X pins σ Q) X.xe s := by
  obtain ⟨mb, hB, hmb⟩ := I1.ok.mod.blt
  have hlim := I1.nolimit
  refine wpAny_call (exc_made (mg := X.mg) (mb := mb) T I I1.kIn hlim (I1.ok.mod.glob.keeps I1.bk) (hB.keeps I1.bk) (hmb _ (by decide +kernel)) (by have := hr.dp; omega) (by rw [← hl, r.length]) fun h' tk e d M => ?_)
  obtain ⟨hp, g, dr, t, os⟩ := s
  obtain ⟨oe, fv, hoe, hc, hd, hdat, h1⟩ := M.obj
  have hne : H e = none := I1.hok.fresh M.new
  have hge : hp.get? e = none := by
    cases z : hp.get? e with
    | none => rfl
    | some o => exact absurd (Nat.lt_of_lt_of_le (Heap.lt_size z) M.new) (Nat.lt_irrefl _)
  cases d with
  | none =>
    have hz : (fs.zip us).reverse = [] := M.dct
    have hfs : fs = [] := by
      cases fs with
      | nil => rfl
      | cons f fs =>
        cases us with
        | nil =>
          rw [r.length] at hl
          cases hl
        | cons u us => simp at hz
    exact ⟨e, oe, fv, ⟨hp, g, dr, t, os⟩, H, .ref C, none, rfl, I1, M.keep, hge, hoe, ⟨hc, hd⟩, hdat, h1, hne, rfl, I1.bare, raises_own T.exC T.tyC, q0 hfs⟩
  | some dx =>
    obtain ⟨dlo, dne, hpn, hns⟩ := M.dct
    have hfs : fs ≠ [] := fun z => by
      rw [z] at hpn
      simp at hpn
    obtain ⟨G', g1, g2⟩ := restrict h' fun b => decide (b ≠ e)
    have gk : ∀ b, b ≠ e → G'.get? b = h'.get? b := fun b hb => g1 b (decide_eq_true hb)
    have ge : G'.get? e = none := g2 e (by simp)
    have old : ∀ b o, hp.get? b = some o → G'.get? b = some o := fun b o z => (gk b (fun y => by rw [y, hge] at z; cases z)).trans (M.keep b o z)
    have ob : ObjOk X.prog X.w (upd H dx (.xd (fs.zip vs).reverse)) G' dx (.xd (fs.zip vs).reverse) :=
      ⟨_, hns.at (fun o z => (gk dx dne).trans z), relO_rev r⟩
    have J : Inv X pins σ (upd H dx (.xd (fs.zip vs).reverse)) ⟨G', g, dr, tk, os⟩ := I1.laid (t' := tk) old dlo ob
    refine ⟨e, oe, fv, ⟨G', g, dr, tk, os⟩, _, .ref C, some dx, rfl, J, fun b o z => ?_, ge, hoe, ⟨hc, hd⟩, hdat, h1, ?_, rfl, I1.bare, raises_own T.exC T.tyC, q1 hfs dx (I1.hok.fresh dlo)⟩
    · by_cases hb : b = e
      · have z' : G'.get? b = some o := z
        rw [hb, ge] at z'; cases z'
      · exact (gk b hb).symm.trans z
    · rw [upd_ne (Ne.symm dne)]
      exact hne
theorem pmk_x {x : Str} {e : Expr} {es : List Expr} {ta : TA} {p pos : Pos} (T : XCls X.prog X.K C fs params body scope) (I : IText fs params body scope) (hm : X.mg x = some (.ref C)) (hr : Room k X.A) (ha : PA X (e :: es) ta) (hg : Gl X x := by rfl) (hdb : (x == ("__debug__" : Str)) = false := by decide)
    (he : starEach (e :: es) X.env = (false, eval e X.env) :: starEach es X.env := by rfl) (hpl : (backTo pos (starEach es X.env)).any (·.1) = false := by rfl) : PMk X (.Call (.Name x p) (e :: es) [] pos) (tMkX C fs ta) := by
  intro pins s σ H Q J h
  refine wpAny_Call_Name_kw (ld_glob J hg hm ?_ hdb)
  refine PySem.W.callWith_K (h₀ := X.base) J.ok.mod.kin T.kC (thn (ha.run pos pins s σ H _ J h) fun us s1 hh => ?_) he hpl
  obtain ⟨vs, H1, I1, r1, hl, q0, q1⟩ := hh
  exact ⟨I1.kIn, run_mkx T I hr I1 r1 hl q0 q1⟩
theorem pmk_x0 {x : Str} {p pos : Pos} (T : XCls X.prog X.K C fs params body scope) (I : IText fs params body scope) (hm : X.mg x = some (.ref C)) (hr : Room k X.A) (hg : Gl X x := by rfl) (hdb : (x == ("__debug__" : Str)) = false := by decide) : PMk X (.Call (.Name x p) [] [] pos) (tMkX C fs tNil) := by
  intro pins s σ H Q J h
  refine wpAny_Call_Name_kw (ld_glob J hg hm ?_ hdb)
  obtain ⟨hl, q0, q1⟩ := h
  exact PySem.W.callWith_K0 J.kIn T.kC (run_mkx T I hr J (.nil : Vals [] []) hl q0 q1)
/-- raise X(..) -/
def tRaiseX (C : Addr) (fs : List Str) (W : WX) (ta : TA) : TS := fun _ σ H => tMkX C fs ta σ H fun cls d H' => W cls d σ H'
theorem ps_raiseX {x : Str} {e : Expr} {es : List Expr} {ta : TA} {W : WX} {p pos pos2 : Pos} (hc : X.calm = true) (T : XCls X.prog X.K C fs params body scope) (I : IText fs params body scope) (hm : X.mg x = some (.ref C)) (hr : Room k X.A) (tk : Takes X W) (ha : PA X (e :: es) ta) (hg : Gl X x := by rfl) (hdb : (x == ("__debug__" : Str)) = false := by decide)
    (he : starEach (e :: es) X.env = (false, eval e X.env) :: starEach es X.env := by rfl) (hpl : (backTo pos (starEach es X.env)).any (·.1) = false := by rfl) : PS X (.Raise (some (.Call (.Name x p) (e :: es) [] pos)) none pos2) (tRaiseX C fs W ta) := ps_raise hc tk (pmk_x T I hm hr ha hg hdb he hpl)
theorem ps_raiseX0 {x : Str} {W : WX} {p pos pos2 : Pos} (hc : X.calm = true) (T : XCls X.prog X.K C fs params body scope) (I : IText fs params body scope) (hm : X.mg x = some (.ref C)) (hr : Room k X.A) (tk : Takes X W) (hg : Gl X x := by rfl) (hdb : (x == ("__debug__" : Str)) = false := by decide) : PS X (.Raise (some (.Call (.Name x p) [] [] pos)) none pos2) (tRaiseX C fs W tNil) := ps_raise hc tk (pmk_x0 T I hm hr hg hdb)
/-- e.f, e the exception that the suite holds (at a; its class cls, its dict d) -/
def tByX (C : Addr) (f : Str) (a : Addr) (cls : Value) (d : Option Addr) (te : TE) : TE := fun σ H Q => te σ H fun x H1 => x = .ref a ∧ cls = .ref C ∧ ∃ (dd : Addr) (ps : List (Str × V)) (v : V), d = some dd ∧ H1 dd = some (.xd ps) ∧ ps.lookup f = some v ∧ Q v H1
theorem pe_byX {a : Addr} {oe : Obj} {cls : Value} {d : Option Addr} {pn : List (Addr × Obj)} {e : Expr} {te : TE} {pos : Pos} {f : Str} (T : XCls X.prog X.K C fs params body scope) (hf' : PySem.W.findIn X.K (.ref C) f = some none) (hz : Zc cls d oe) (hf : ∃ vs, oe.data = .fields vs) (he : PE (X.suite a ((a, oe) :: pn)) e te)
    (hb : attributeBase e f X.env (eval e X.env) = eval e X.env := by rfl) : PE (X.suite a ((a, oe) :: pn)) (.Attribute e f pos) (tByX C f a cls d te) := by
  refine ⟨fun pins s σ H Q I h => ?_⟩
  refine attr_of hb (thn (he.run pins s σ H _ I h) fun u s1 hh => ?_)
  obtain ⟨x, H1, I1, rx, ex, ec, dd, ps, v, ed, ea, l, q⟩ := hh
  subst ex
  obtain rfl : u = Value.ref a := rx
  subst ec
  subst ed
  obtain ⟨ha, _⟩ := I1.pin (a, oe) (List.mem_append_left _ List.mem_cons_self)
  obtain ⟨vs, hd⟩ := hf
  have hx : ObjOk X.prog X.w H1 s1.heap dd (.xd ps) := I1.hok dd _ ea
  obtain ⟨mA, hns, hr⟩ := hx
  obtain ⟨od, ho, hl⟩ := lookIn_ns hns
  obtain ⟨u, hu, ru⟩ := RelO.some_of (v := v) (o := mA f) (by rw [← l]; exact hr f)
  have J : PySem.W.InstAt s1.heap a oe C (some od) := ⟨ha, hz.1, by unfold PySem.W.notCls; rw [hd] <;> rfl, by rw [hz.2]; exact ho⟩
  exact HandSPX.exc_get I1.kIn J T.ga T.gg T.exC (PySem.W.findObj_own T.hdC hf' rfl (by rw [hl, hu])) (handed_of ru) ⟨v, H1, I1.tok _, ru, q⟩
end
end L2

namespace M
open PySem PySem.Spec PyProof.Rows L2 PySem.XEx
/-! ### a hook over any test of the written part, the defs, and the exception classes' own __init__ -/
/-- an own exception class with an __init__: its name, fields, and the text of its __init__ -/
structure XD where
  cls : Str
  fs : List Str
  params : Arguments
  body : List Stmt
  scope : Scope
abbrev FnX : Type := Option (Arguments × FuncBody × Scope × Addr × Addr)
def XD.obs (K : PySem.W.Frag) (d : XD) : FnX := match K.lookup (He.ma K (He.ga K d.cls) "__init__") with
  | some ⟨_, _, .func fd, _⟩ => some (fd.params, fd.body, fd.scope, fd.globals, fd.builtins)
  | _ => none
def XD.val (d : XD) : FnX := some (d.params, .stmts d.body, d.scope, mainGlobals, builtinsNs)
def clsOk (K : PySem.W.Frag) (C : Addr) : Bool := match K.lookup C with
  | some ⟨.type t, _, .cls cd, sl⟩ => decide (t = "type") && (match cd.mro, sl.toList with
    | .ref C' :: bm, [_, _, _, _, some (.builtin n), _] => C' == C && (n == "ValueError.__new__" && (cd.hasDict && (!cd.hasDel && HandSPX.refsVE bm)))
    | _, _ => false)
  | _ => false
theorem clsOk_ok {K : PySem.W.Frag} {C : Addr} (h : clsOk K C = true) : ∃ nm q N bs bm sn sub ab col dd k0 k1 k2 k3 k5, K.lookup C = some (excClassObj nm q C N bs bm true sn sub ab col dd k0 k1 k2 k3 k5 "ValueError.__new__") ∧ HandSPX.refsVE bm = true := by
  unfold clsOk at h
  split at h
  · rename_i t dd cd sl ho
    obtain ⟨ht, h⟩ := He.ba h
    split at h
    · rename_i C' bm k0 k1 k2 k3 n k5 hm hs
      obtain ⟨h1, h⟩ := He.ba h
      obtain ⟨h2, h⟩ := He.ba h
      obtain ⟨h3, h⟩ := He.ba h
      obtain ⟨h4, h5⟩ := He.ba h
      have e1 : C' = C := eq_of_beq h1
      have e2 : n = "ValueError.__new__" := eq_of_beq h2
      have e4 : cd.hasDel = false := by simpa using h4
      have e0 : t = "type" := of_decide_eq_true ht
      subst e1 e2 e0
      obtain ⟨nm, bs, mro, ns, qn, hd, sn, sub, ab, col, del⟩ := cd
      dsimp only at hm h3 e4
      subst hm h3 e4
      have hsl : sl = #[k0, k1, k2, k3, some (.builtin "ValueError.__new__"), k5] := by
        obtain ⟨l⟩ := sl
        simp only at hs
        rw [hs]
      subst hsl
      exact ⟨nm, qn, ns, bs, bm, sn, sub, ab, col, dd, k0, k1, k2, k3, k5, ho, h5⟩
    · cases h
  · cases h
def fnOk (P : Program) (K : PySem.W.Frag) (C fI : Addr) : Bool := match K.lookup fI with
  | some ⟨_, _, .func fd, _⟩ => (match fd.code with
      | .ref cda => PySem.W.codeIn K (.ref cda) fd.qualname && (match K.lookup cda with
        | some ⟨_, _, .fields vs, _⟩ => (match (vs[2]? : Option Value) with
          | some (.str file _) => P.main.file == file
          | _ => false)
        | _ => false)
      | _ => false) && ((match fd.closure with
      | [(n, cc)] => decide (n = ("__class__" : Str)) && (match K.lookup cc with
        | some ⟨_, _, .cell (some (.ref D)), _⟩ => decide (D = C)
        | _ => false)
      | _ => false) && (match fd.defaults with
      | .none => true
      | _ => false))
  | _ => false
def XD.ok (P : Program) (K : PySem.W.Frag) (d : XD) : Bool :=
  let C := He.ga K d.cls
  let fI := He.ma K C "__init__"
  He.eqO (PySem.W.nsIn K mainGlobals d.cls) (some (some (.ref C))) && (clsOk K C && (He.eqO (PySem.W.findIn K (.ref C) "__setattr__") (some (some (.builtin "object.__setattr__"))) && (He.eqO (PySem.W.findIn K (.ref C) "__getattribute__") (some (some (.builtin "BaseException.__getattribute__"))) &&
  (He.eqO (PySem.W.findIn K (.ref C) "__getattr__") (some none) && ((d.fs.all fun f => He.eqO (PySem.W.findIn K (.ref C) f) (some none)) && (PySem.W.keepIn K (.ref C) && (decide (PySem.W.subIn K (.ref C) (.type "BaseException") = some true) &&
  (decide (PySem.W.subIn K (.ref C) (.type "ValueError") = some true) && (decide (PySem.W.typeIn K (.ref C) = some (.type "type")) && (PySem.W.hasDictIn K C && (decide (PySem.W.exmOne K (.ref C) (.ref C) = some true) &&
  (He.eqO (PySem.W.nsIn K cStatics "thirdparty.any") (some none) && (He.eqO (PySem.W.nsIn K mainGlobals "super") (some none) && (He.eqO (PySem.W.ks_superIn K C C "__init__") (some (some (.builtin "ValueError.__init__"))) && (decide (PySem.W.mroIn K C (.ref C) = some true) &&
  (He.eqO (PySem.W.findIn K (.ref C) "__init__") (some (some (.ref fI))) && (decide (PySem.W.typeIn K (.ref fI) = some (.type "function")) && fnOk P K C fI)))))))))))))))))
theorem XD.cls_of {P : Program} {K : PySem.W.Frag} {d : XD} (e : d.obs K = d.val) (c : d.ok P K = true) (ht : (P.main.scope.names.lookup ("super" : Str)).isSome = false) :
    XCls P K (He.ga K d.cls) d.fs d.params d.body d.scope := by
  unfold XD.ok at c
  obtain ⟨c0, c⟩ := He.ba c
  obtain ⟨c1, c⟩ := He.ba c
  obtain ⟨c2, c⟩ := He.ba c
  obtain ⟨c3, c⟩ := He.ba c
  obtain ⟨c4, c⟩ := He.ba c
  obtain ⟨c5, c⟩ := He.ba c
  obtain ⟨c6, c⟩ := He.ba c
  obtain ⟨c7, c⟩ := He.ba c
  obtain ⟨c8, c⟩ := He.ba c
  obtain ⟨c9, c⟩ := He.ba c
  obtain ⟨c10, c⟩ := He.ba c
  obtain ⟨c11, c⟩ := He.ba c
  obtain ⟨c12, c⟩ := He.ba c
  obtain ⟨c13, c⟩ := He.ba c
  obtain ⟨c14, c⟩ := He.ba c
  obtain ⟨c15, c⟩ := He.ba c
  obtain ⟨c16, c⟩ := He.ba c
  obtain ⟨c17, c18⟩ := He.ba c
  refine { cls := clsOk_ok c1, sa := He.eqO_ok c2, ga := He.eqO_ok c3, gg := He.eqO_ok c4, noF := fun f hf => He.eqO_ok (List.all_eq_true.mp c5 f hf), kC := c6, exC := of_decide_eq_true c7, veC := of_decide_eq_true c8, tyC := of_decide_eq_true c9, hdC := c10, te := of_decide_eq_true c11, op := He.eqO_ok c12, sup := He.eqO_ok c13, sI := He.eqO_ok c14, mC := of_decide_eq_true c15, top := ht, fn := ?_ }
  generalize hfI : He.ma K (He.ga K d.cls) "__init__" = fI at *
  unfold fnOk at c18
  unfold XD.obs at e
  rw [hfI] at e
  cases q : K.lookup fI with
  | none =>
    rw [q] at c18
    cases c18
  | some o =>
    obtain ⟨oc, od, dt, osl⟩ := o
    rw [q] at c18 e
    cases dt with
    | func fd =>
      obtain ⟨n1, n2, n3, n4, n5, n6, n7, n8, n9, n10, n11, n12, n13, n14, n15⟩ := fd
      have e2 : (some (n3, n4, n5, n6, n15) : FnX) = some (d.params, .stmts d.body, d.scope, mainGlobals, builtinsNs) := e
      simp only [Option.some.injEq, Prod.mk.injEq] at e2
      obtain ⟨h1, h2, h3, h4, h5⟩ := e2
      subst h1 h2 h3 h4 h5
      obtain ⟨k1, kr⟩ := He.ba c18
      obtain ⟨k2, k3⟩ := He.ba kr
      clear kr
      dsimp only at k1 k2 k3
      cases n13 with
      | ref cda =>
        obtain ⟨j1, j2⟩ := He.ba k1
        split at j2
        · rename_i ccl cdd vs ccs hcda
          split at j2
          · rename_i file tf hfile0
            cases n7 with
            | nil => cases k2
            | cons p rr =>
              obtain ⟨n, cc⟩ := p
              cases rr with
              | cons _ _ => cases k2
              | nil =>
                have k2' : (decide (n = ("__class__" : Str)) && (match K.lookup cc with
                  | some ⟨_, _, .cell (some (.ref D)), _⟩ => decide (D = He.ga K d.cls)
                  | _ => false)) = true := k2
                obtain ⟨i1, i2⟩ := He.ba k2'
                have en : n = ("__class__" : Str) := of_decide_eq_true i1
                subst en
                split at i2
                · rename_i cl cld D csl hcc
                  have eD : D = He.ga K d.cls := of_decide_eq_true i2
                  subst eD
                  cases n8 with
                  | none => exact ⟨fI, n1, n2, oc, od, n9, n10, n11, n12, cda, cc, n14, ccl, cl, cdd, cld, vs, file, tf, osl, ccs, csl, He.eqO_ok c16, of_decide_eq_true c17, q, j1, hcda, hfile0, j2, hcc⟩
                  | _ => cases k3
                · cases i2
          · cases j2
        · cases j2
      | _ => cases k1
    | _ => cases c18
/-! ### a def of the written part, found by any road -/
def pAd (C f : Str) (i : Nat) (K : PySem.W.Frag) : Addr := match PySem.W.recIn K (He.ma K (He.ga K C) f) "property" with
  | some l => (match l[i]? with
    | some (.ref g) => g
    | _ => 0)
  | _ => 0
structure AD where
  ad : PySem.W.Frag → Addr
  name : Str
  qual : Str
  params : Arguments
  body : List Stmt
  scope : Scope
  dfl : List He.Dv := []
  kwd : List (Str × He.Dv) := []
def AD.obs (K : PySem.W.Frag) (d : AD) : He.FnW := match K.lookup (d.ad K) with
  | some ⟨_, _, .func fd, _⟩ => some (fd.name, fd.qualname, fd.params, fd.body, fd.scope, fd.globals, fd.closure, fd.builtins)
  | _ => none
def AD.val (d : AD) : He.FnW := some (d.name, d.qual, d.params, .stmts d.body, d.scope, mainGlobals, [], builtinsNs)
def AD.dvs (K : PySem.W.Frag) (d : AD) : List V := d.dfl.map (He.Dv.v K)
def AD.kws (K : PySem.W.Frag) (d : AD) : List (Str × V) := d.kwd.map fun q => (q.1, q.2.v K)
def AD.ok (K : PySem.W.Frag) (d : AD) : Bool := PySem.W.keepIn K (.ref (d.ad K)) && (match K.lookup (d.ad K) with
  | some ⟨_, _, .func fd, _⟩ => PySem.W.codeIn K fd.code d.qual && (He.dflB K fd.defaults (d.dvs K) && He.kwdB K fd.kwdefaults (d.kws K))
  | _ => false)
theorem AD.funD {K : PySem.W.Frag} {d : AD} (e : d.obs K = d.val) (c : d.ok K = true) : ∃ fd, FunD K d.name d.qual d.params d.body d.scope (d.dvs K) (d.kws K) (d.ad K) fd := by
  obtain ⟨kp, c2⟩ := He.ba c
  unfold AD.obs at e
  cases q : K.lookup (d.ad K) with
  | none => rw [q] at c2; cases c2
  | some o =>
    obtain ⟨oc, od, dt, osl⟩ := o
    rw [q] at c2 e
    cases dt with
    | func fd =>
      obtain ⟨n1, n2, n3, n4, n5, n6, n7, n8, n9, n10, n11, n12, n13, n14, n15⟩ := fd
      have e2 : (some (n1, n2, n3, n4, n5, n6, n7, n15) : He.FnW) = some (d.name, d.qual, d.params, .stmts d.body, d.scope, mainGlobals, [], builtinsNs) := e
      simp only [Option.some.injEq, Prod.mk.injEq] at e2
      obtain ⟨h1, h2, h3, h4, h5, h6, h7, h8⟩ := e2
      subst h1 h2 h3 h4 h5 h6 h7 h8
      have c3 : (PySem.W.codeIn K n13 d.qual && (He.dflB K n8 (d.dvs K) && He.kwdB K n9 (d.kws K))) = true := c2
      obtain ⟨k1, k2⟩ := He.ba c3
      obtain ⟨k3, k4⟩ := He.ba k2
      exact ⟨_, ⟨oc, od, n8, n9, n10, n11, n12, n13, n14, osl, rfl, q, k1, He.dflB_ok k3, He.kwdB_ok k4⟩, kp⟩
    | _ => cases c2
/-! ### the hook -/
abbrev AlM : Type := Bool × List He.FnW × List FnX
def asM (g : Addr → Option Obj) : Nat → List Addr
  | 0 => [mainGlobals, cStatics]
  | n + 1 => He.growD g (asM g n)
def obsM (P : Program) (fb : PySem.W.Frag → Bool) (fn : List AD) (xs : List XD) (K : PySem.W.Frag) : AlM := (fb K && ((fn.all fun d => d.ok K) && xs.all fun d => d.ok P K), fn.map fun d => d.obs K, xs.map fun d => d.obs K)
def valM (fn : List AD) (xs : List XD) : AlM := (true, fn.map AD.val, xs.map XD.val)
def SaysM (P : Program) (fb : PySem.W.Frag → Bool) (fn : List AD) (xs : List XD) (K : PySem.W.Frag) : Prop := obsM P fb fn xs K = valM fn xs
def obsMG (P : Program) (n : Nat) (fb : PySem.W.Frag → Bool) (fn : List AD) (xs : List XD) (g : Addr → Option Obj) : AlM := obsM P fb fn xs (He.frG g (asM g n))
def hookM (P : Program) (n : Nat) (fb : PySem.W.Frag → Bool) (fn : List AD) (xs : List XD) : PySem.W.Hook where
  α := AlM
  obs := fun s => obsMG P n fb fn xs s.heap.get?
  val := fun _ => valM fn xs
  says := fun _ h => ∃ K : PySem.W.Frag, K.In h ∧ SaysM P fb fn xs K
  of := fun _ _ e => ⟨_, He.frG_in, e⟩
  keeps := fun _ _ _ ⟨K, hK, c⟩ k => ⟨K, PySem.W.Frag.In.keeps hK k, c⟩
theorem obsMG_eq {P : Program} {n : Nat} {fb : PySem.W.Frag → Bool} {fn : List AD} {xs : List XD} {g : Addr → Option Obj} {s : Shared} (h : ∀ a, g a = s.heap.get? a) : obsMG P n fb fn xs g = (hookM P n fb fn xs).obs s := by
  have e : g = s.heap.get? := funext h
  rw [e] <;> rfl
section
variable {P : Program} {fb : PySem.W.Frag → Bool} {fn : List AD} {xs : List XD} {K : PySem.W.Frag}
theorem SaysM.all (c : SaysM P fb fn xs K) : (fb K && ((fn.all fun d => d.ok K) && xs.all fun d => d.ok P K)) = true := congrArg (fun z : AlM => z.1) c
theorem SaysM.fact (c : SaysM P fb fn xs K) : fb K = true := (He.ba c.all).1
theorem SaysM.def_ (c : SaysM P fb fn xs K) (i : Nat) {d : AD} (h : fn[i]? = some d := by rfl) : ∃ fd, FunD K d.name d.qual d.params d.body d.scope (d.dvs K) (d.kws K) (d.ad K) fd := by
  have c2 := (He.ba (He.ba c.all).2).1
  have e : fn.map (fun d => d.obs K) = fn.map AD.val := congrArg (fun z : AlM => z.2.1) c
  have e2 : (fn.map fun d => d.obs K)[i]? = (fn.map AD.val)[i]? := by rw [e]
  rw [List.getElem?_map, List.getElem?_map, h] at e2
  exact AD.funD (Option.some.inj e2) (List.all_eq_true.mp c2 d (List.mem_of_getElem? h))
theorem SaysM.exc (c : SaysM P fb fn xs K) (ht : (P.main.scope.names.lookup ("super" : Str)).isSome = false) (i : Nat) {d : XD} (h : xs[i]? = some d := by rfl) : XCls P K (He.ga K d.cls) d.fs d.params d.body d.scope := by
  have c2 := (He.ba (He.ba c.all).2).2
  have e : xs.map (fun d => d.obs K) = xs.map XD.val := congrArg (fun z : AlM => z.2.2) c
  have e2 : (xs.map fun d => d.obs K)[i]? = (xs.map XD.val)[i]? := by rw [e]
  rw [List.getElem?_map, List.getElem?_map, h] at e2
  exact XD.cls_of (Option.some.inj e2) (List.all_eq_true.mp c2 d (List.mem_of_getElem? h)) ht
theorem SaysM.mgx (c : SaysM P fb fn xs K) {h : Heap} {mg : Str → Option Value} (X : K.In h) (G : h.Ns mainGlobals mg) (i : Nat) {d : XD} (hi : xs[i]? = some d := by rfl) : mg d.cls = some (.ref (He.ga K d.cls)) := by
  have c2 := List.all_eq_true.mp (He.ba (He.ba c.all).2).2 d (List.mem_of_getElem? hi)
  unfold XD.ok at c2
  exact PySem.W.mg_of X G (He.eqO_ok (He.ba c2).1)
end
end M

namespace L2
open PySem PySem.Spec PyProof.Rows
theorem Same.mut {H H' : Hp} {p : Addr} {o : HO} (e : Same H H') (h : H p = none) : Same H (upd H' p o) := fun a u ha => by
  rw [upd_ne (ne_of_none ha h)]
  exact e a u ha
theorem Same.new {H H' : Hp} {p : Addr} {o : HO} (e : Same H H') (h : H' p = none) : Same H (upd H' p o) := fun a u ha => by
  rw [upd_ne (ne_of_none (e a u ha) h)]
  exact e a u ha
end L2
namespace M
open PySem PySem.Spec PyProof.Rows L2
abbrev FnP (K : PySem.W.Frag) (x : Str) (st : Stmt) (f : Addr) (fd : FuncData) : Prop := FunD K x x (defArgs st) (defBody st) (defScope st) [] [] f fd
/-! ### ints in a list -/
theorem int_at {ns : List Int} {i : Nat} {y : V} (h : (ns.map V.int)[i]? = some y) : ∃ z, ns[i]? = some z ∧ y = .int z := by
  rw [List.getElem?_map] at h
  cases e : ns[i]? with
  | none => rw [e] at h; cases h
  | some z => rw [e] at h; exact ⟨z, rfl, (Option.some.inj h).symm⟩
theorem lt_of_at {α : Type} {l : List α} {i : Nat} {y : α} (h : l[i]? = some y) : i < l.length := (List.getElem?_eq_some_iff.mp h).1
/-- a list of draws -/
def Dr (ds : List Int) : Prop := ∀ d ∈ ds, 0 ≤ d ∧ d < 1000
theorem Dr.nil : Dr [] := fun _ h => by cases h
theorem Dr.snoc {ds : List Int} {d : Int} (h : Dr ds) (h0 : 0 ≤ d) (h1 : d < 1000) : Dr (ds ++ [d]) := fun x hx => by
  rcases List.mem_append.mp hx with hx | hx
  · exact h x hx
  · rw [List.mem_singleton.mp hx]; exact ⟨h0, h1⟩
theorem size_ok {n m : Nat} (h : n ≤ m) (hm : m < 16777216) : n < sizeLine := by rw [sizeLine_eq]; omega
theorem cut_to (xs : List V) {n : Nat} (h : n ≤ xs.length) : cutV xs none (some (n : Int)) = xs.take n := by
  unfold cutV
  rw [HT.sIx_nat, HT.sIx_none, Nat.min_eq_left h]
  simp
theorem fm_nonneg (z : Int) {m : Int} (h : 0 < m) : 0 ≤ z.fmod m := by
  rw [Int.fmod_eq_emod_of_nonneg _ (Int.le_of_lt h)]
  exact Int.emod_nonneg _ (by omega)
theorem fm_lt (z : Int) {m : Int} (h : 0 < m) : z.fmod m < m := by
  rw [Int.fmod_eq_emod_of_nonneg _ (Int.le_of_lt h)]
  exact Int.emod_lt_of_pos _ h
/-- what the text's top leaves of the names that every law uses -/
structure Bi (mg : Str → Option Value) : Prop where
  abs : mg "abs" = none
  int : mg "int" = none
  len : mg "len" = none
  range : mg "range" = none
end M

namespace L2
open PySem PySem.Spec PyProof.Rows
theorem foldl_repT (c : Nat) : ∀ (n : Nat) (acc : Array Nat), ((List.replicate n (#[c] : Array Nat)).foldl (· ++ ·) acc).toList = acc.toList ++ List.replicate n c := by
  intro n
  induction n with
  | zero => intro acc; simp
  | succ n ih =>
    intro acc
    rw [List.replicate_succ, List.foldl_cons, ih, Array.toList_append, List.replicate_succ, List.append_assoc]
    rfl
theorem txt_mul_one (c : Nat) (n : Int) (h : 1 ≤ n) : Txt.mul ⟨#[c]⟩ n = ⟨(List.replicate n.toNat c).toArray⟩ := by
  unfold Txt.mul
  rw [if_neg (by omega)]
  split
  · rename_i h1
    have e : n = 1 := by
      have h2 : ((n == 1) || ((⟨#[c]⟩ : Str).length == 0)) = true := h1
      rw [show ((⟨#[c]⟩ : Str).length == 0) = false from rfl, Bool.or_false] at h2
      exact eq_of_beq h2
    rw [e]
    rfl
  · have z := foldl_repT c n.toNat #[]
    have e : ((List.replicate n.toNat (#[c] : Array Nat)).foldl (· ++ ·) #[]) = (List.replicate n.toNat c).toArray := by
      apply Array.ext'
      rw [z]
      simp
    show (⟨(List.replicate n.toNat (⟨#[c]⟩ : Str).cps).foldl (· ++ ·) #[]⟩ : Str) = _
    rw [show ((⟨#[c]⟩ : Str).cps) = #[c] from rfl, e]
section
variable {X : Cx}
/-- 'c' * n -/
theorem op_mul_str : OpR X (binaryOp .Mult) (fun x y H Q => ∃ (c : Nat) (n : Int), x = .str ⟨#[c]⟩ ∧ y = .int n ∧ (1 ≤ n ∧ n ≤ 1000) ∧ Q (.str ⟨(List.replicate n.toNat c).toArray⟩) H) := by
  intro pins s σ H x y v u Q I rx ry h
  obtain ⟨c, n, rfl, rfl, ⟨h1, h2⟩, q⟩ := h
  obtain ⟨t, rfl⟩ := rx
  obtain ⟨t', rfl⟩ := ry
  refine SB.mul ⟨?_, fun _ _ => ?_, fun _ _ => ?_⟩ (fun t' k => ⟨.str ⟨(List.replicate n.toNat c).toArray⟩, H, I.tok _, ⟨t', by rw [txt_mul_one c n h1]⟩, q⟩)
  · simp only [Bool.or_eq_false_iff, decide_eq_false_iff_not]
    omega
  · show ¬ (((1 : Nat) : Int) > (2 ^ 63 - 1) / n)
    have : 1 ≤ (2 ^ 63 - 1 : Int) / n := by
      rw [Int.le_ediv_iff_mul_le (by omega)]
      omega
    omega
  · show Builtin.Str.tooLong (1 * n.toNat) = false
    unfold Builtin.Str.tooLong
    rw [decide_eq_false_iff_not, sizeLine_eq]
    omega
end
end L2
namespace M
open PySem PySem.Spec PyProof.Rows L2
/-! ### the names: which texts _law_names gives -/
def ltr (d k : Nat) : Nat := 97 + (d / 4 % 26 + 7 * k) % 26
def tailZ : List Nat := [122, 121, 120, 119, 118, 117, 116, 115]
def nmC (d n k : Nat) : List Nat :=
  if d % 4 = 0 then [ltr d k]
  else if d % 4 = 1 then List.replicate (d / 104 % 7) 113 ++ ([ltr d k] ++ List.replicate (6 - d / 104 % 7) 113)
  else if d % 4 = 2 then List.replicate (n - k) (97 + d / 4 % 26)
  else ltr d k :: tailZ.take ((d + 3 * k) % 8)
def nm (d n k : Nat) : Str := ⟨(nmC d n k).toArray⟩
def nmL (d n : Nat) : List Str := (List.range n).map (nm d n)
theorem nmL_len (d n : Nat) : (nmL d n).length = n := by unfold nmL; simp
theorem nmL_at {d n k : Nat} (h : k < n) : (nmL d n)[k]? = some (nm d n k) := by
  unfold nmL
  rw [List.getElem?_map, List.getElem?_range h]
  rfl
/-- a good name -/
def NameOk (s : Str) : Prop := 1 ≤ s.cps.toList.length ∧ s.cps.toList.length ≤ 8 ∧ ∀ c ∈ s.cps.toList, 97 ≤ c ∧ c ≤ 122
theorem ltr_in (d k : Nat) : 97 ≤ ltr d k ∧ ltr d k ≤ 122 := by unfold ltr; omega
theorem nm_ok {d n k : Nat} (hn : n ≤ 8) (hk : k < n) : NameOk (nm d n k) := by
  have hl := ltr_in d k
  unfold NameOk nm nmC
  simp only
  split
  · exact ⟨by simp, by simp, fun c hc => by simp at hc; rw [hc]; exact hl⟩
  · split
    · refine ⟨by simp; omega, by simp; omega, fun c hc => ?_⟩
      simp only [List.mem_append, List.mem_replicate, List.mem_singleton] at hc
      rcases hc with ⟨_, e⟩ | e | ⟨_, e⟩ <;> rw [e] <;> first | exact hl | omega
    · split
      · refine ⟨by simp; omega, by simp; omega, fun c hc => ?_⟩
        simp only [List.mem_replicate] at hc
        omega
      · refine ⟨by simp, by simp [tailZ]; omega, fun c hc => ?_⟩
        simp only [List.mem_cons] at hc
        rcases hc with e | hc
        · rw [e]; exact hl
        · have hm := List.mem_of_mem_take hc
          simp only [tailZ, List.mem_cons, List.not_mem_nil, or_false] at hm
          omega
theorem nm_inj {d n j k : Nat} (hn : n ≤ 26) (hj : j < n) (hk : k < n) (e : nm d n j = nm d n k) : j = k := by
  have e1 : nmC d n j = nmC d n k := by
    have z := congrArg (fun s : Str => s.cps.toList) e
    simpa [nm] using z
  have key : ltr d j = ltr d k → j = k := by unfold ltr; omega
  unfold nmC at e1
  by_cases h0 : d % 4 = 0
  · rw [if_pos h0, if_pos h0] at e1
    exact key (List.cons.inj e1).1
  · rw [if_neg h0, if_neg h0] at e1
    by_cases h1 : d % 4 = 1
    · rw [if_pos h1, if_pos h1] at e1
      have e2 := List.append_cancel_left e1
      exact key (List.cons.inj e2).1
    · rw [if_neg h1, if_neg h1] at e1
      by_cases h2 : d % 4 = 2
      · rw [if_pos h2, if_pos h2] at e1
        have e2 := congrArg List.length e1
        rw [List.length_replicate, List.length_replicate] at e2
        omega
      · rw [if_neg h2, if_neg h2] at e1
        exact key (List.cons.inj e1).1
theorem nmL_nodup {d n : Nat} (hn : n ≤ 26) : (nmL d n).Nodup := by
  unfold nmL
  rw [List.Nodup, List.pairwise_map]
  refine List.Pairwise.imp_of_mem (R := fun a b => a ≠ b) (fun {a b} ha hb hab e => hab (nm_inj hn (List.mem_range.mp ha) (List.mem_range.mp hb) e)) (List.nodup_range)
theorem nmL_mem_ok {d n : Nat} (hn : n ≤ 8) {s : Str} (h : s ∈ nmL d n) : NameOk s := by
  unfold nmL at h
  obtain ⟨k, hk, rfl⟩ := List.mem_map.mp h
  exact nm_ok hn (List.mem_range.mp hk)
end M

namespace M
open PySem PySem.Spec PyProof.Rows L2
/-! ### calls, whatever is raised: at the caller's slots it is wished for by W -/
/-- a def of the module -/
structure Cal (P : Program) (w : World) (K : PySem.W.Frag) (mg : Str → Option Value) (base : Heap) (k : Nat) (x : Str) (ps : List Str) (sp : Sp) : Prop where
  ex : ∃ (f : Addr) (fd : FuncData), mg x = some (.ref f) ∧ PySem.W.keepIn K (.ref f) = true ∧ Binds K fd ps [] ∧ FnOk P w K mg base (L2.CX P w) k f fd ps sp
/-- a method of the class at C (its own or a base's) -/
structure Mth (P : Program) (w : World) (K : PySem.W.Frag) (mg : Str → Option Value) (base : Heap) (k : Nat) (C : Addr) (m : Str) (ps : List Str) (sp : Sp) : Prop where
  cl : Cls K C
  ex : ∃ (f : Addr) (fd : FuncData), Meth K C m f ∧ Binds K fd ps [] ∧ FnOk P w K mg base (L2.CX P w) k f fd ps sp
/-- C.m read off the class, a plain def -/
structure ClF (K : PySem.W.Frag) (C : Addr) (m : Str) (f : Addr) : Prop where
  rd : PySem.W.readsIn K C (.type "type") = true
  ga : PySem.W.specialIn K (.ref C) "__getattribute__" = some (some (.builtin "type.__getattribute__"))
  at_ : PySem.W.findCls K (.ref C) (.type "type") m = some (.val (.ref f))
  kp : PySem.W.keepIn K (.ref f) = true
structure CFn (P : Program) (w : World) (K : PySem.W.Frag) (mg : Str → Option Value) (base : Heap) (k : Nat) (x : Str) (m : Str) (ps : List Str) (sp : Sp) : Prop where
  ex : ∃ (C f : Addr) (fd : FuncData), mg x = some (.ref C) ∧ ClF K C m f ∧ Binds K fd ps [] ∧ FnOk P w K mg base (L2.CX P w) k f fd ps sp
/-- C(..) -/
structure Mak (P : Program) (w : World) (K : PySem.W.Frag) (mg : Str → Option Value) (base : Heap) (k : Nat) (x : Str) (C : Addr) (ps : List Str) (sp : Sp) : Prop where
  gC : mg x = some (.ref C)
  ex : ∃ (f : Addr) (fd : FuncData), Mk K C f ∧ Binds K fd ps [] ∧ FnOk P w K mg base (L2.CX P w) k f fd ps sp
section
variable {X : Cx} {k j : Nat} {x m : Str} {ps : List Str} {sp : Sp} {W : WX} {e o : Expr} {es : List Expr} {t : TA} {ta : TE} {p pos apos np : Pos} {C : Addr}
theorem pe_cal (G : Cal X.prog X.w X.K X.mg X.base k x ps sp) (hr : Room j X.A) (tk : Takes X W) (ha : PA X (e :: es) t) (hk : k ≤ j := by decide) (hg : Gl X x := by rfl) (hdb : (x == ("__debug__" : Str)) = false := by decide)
    (he : starEach (e :: es) X.env = (false, eval e X.env) :: starEach es X.env := by rfl) (hpl : (backTo pos (starEach es X.env)).any (·.1) = false := by rfl) : PE X (.Call (.Name x p) (e :: es) [] pos) (tCallS sp (WE W) t) := by
  obtain ⟨f, fd, hm, hkp, hb, F⟩ := G.ex
  exact pe_callS F (hr.mono hk) hg hm hkp hb (fun σ => passAt tk σ) ha hdb he hpl
def tMethS (m : Str) (sp : Sp) (C : Addr) (E : L2.St → XK) (ta : TE) (t : TA) : TE := fun σ H Q => ta σ H fun x H1 => ∃ a dx fs, x = .ref a ∧ H1 a = some (.ins C dx fs) ∧ fs.lookup m = none ∧ t σ H1 fun vs H2 => sp (x :: vs) H2 Q (E σ)
theorem pe_mth {pl : Sem Bool} (G : Mth X.prog X.w X.K X.mg X.base k C m ps sp) (hr : Room j X.A) (tk : Takes X W) (he : PE X o ta) (ha : PA X (e :: es) t) (hk : k ≤ j := by decide)
    (hst : starEach (e :: es) X.env = (false, eval e X.env) :: starEach es X.env := by rfl) (hpl : (backTo pos (starEach es X.env)).any (·.1) = false := by rfl)
    (ht : eval (.Call (.Attribute o m apos) (e :: es) [] pos) X.env = (do
      let ov ← eval o X.env
      standAt apos.atName
      let (f, first) ← holding [ov] (getMethod ov m pl)
      callWith pos f first (backTo pos (starEach (e :: es) X.env)) (backToKw pos (keywordEach [] X.env))) := by rfl) :
    PE X (.Call (.Attribute o m apos) (e :: es) [] pos) (tMethS m sp C (WE W) ta t) := by
  obtain ⟨f, fd, hm, hb, F⟩ := G.ex
  refine ⟨fun pins s σ H Q I h => ?_⟩
  refine PySem.W.methodCall_KW (pl := pl) (thn (he.run pins s σ H _ I h) fun u s1 ⟨x, H1, I1, rx, a, dx, fs, ex, ea, l, q⟩ => ?_) ht
  subst ex
  obtain rfl : u = Value.ref a := rx
  refine getmeth_ok I1 ea G.cl hm l ?_
  refine PySem.W.callWith_K (first := [.ref a]) (h₀ := X.base) I.ok.mod.kin hm.kp (thn (ha.run pos pins s1 σ H1 _ I1 q) fun us s2 ⟨vs, H2, I2, r, q2⟩ => ⟨I2.kIn, ?_⟩) hst hpl
  exact run_fnS (us := .ref a :: us) (vs := .ref a :: vs) (E := WE W) F (hr.mono hk) hb (passAt tk σ) I2 (.cons rfl r) q2
theorem pe_mth0 {pl : Sem Bool} (G : Mth X.prog X.w X.K X.mg X.base k C m ps sp) (hr : Room j X.A) (tk : Takes X W) (he : PE X o ta) (hk : k ≤ j := by decide)
    (ht : eval (.Call (.Attribute o m apos) [] [] pos) X.env = (do
      let ov ← eval o X.env
      standAt apos.atName
      let (f, first) ← holding [ov] (getMethod ov m pl)
      callWith pos f first (backTo pos (starEach [] X.env)) (backToKw pos (keywordEach [] X.env))) := by rfl) :
    PE X (.Call (.Attribute o m apos) [] [] pos) (tMethS m sp C (WE W) ta tNil) := by
  obtain ⟨f, fd, hm, hb, F⟩ := G.ex
  refine ⟨fun pins s σ H Q I h => ?_⟩
  refine PySem.W.methodCall_KW (pl := pl) (thn (he.run pins s σ H _ I h) fun u s1 ⟨x, H1, I1, rx, a, dx, fs, ex, ea, l, q⟩ => ?_) ht
  subst ex
  obtain rfl : u = Value.ref a := rx
  refine getmeth_ok I1 ea G.cl hm l ?_
  exact PySem.W.callWith_K0 (first := [.ref a]) I1.kIn hm.kp (run_fnS (us := [.ref a]) (vs := [.ref a]) (E := WE W) F (hr.mono hk) hb (passAt tk σ) I1 (.cons rfl .nil) q)
/-- the same, the class and the method told by the reading -/
def tMthE (P : Program) (w : World) (K : PySem.W.Frag) (mg : Str → Option Value) (base : Heap) (j : Nat) (m : Str) (W : WX) (ta : TE) (t : TA) : TE := fun σ H Q => ta σ H fun x H1 => ∃ (a C dx : Addr) (fs : List (Str × V)) (k : Nat) (ps : List Str) (sp : Sp), x = .ref a ∧ H1 a = some (.ins C dx fs) ∧
  Mth P w K mg base k C m ps sp ∧ k ≤ j ∧ fs.lookup m = none ∧ t σ H1 fun vs H2 => sp (x :: vs) H2 Q (WE W σ)
theorem pe_mthE {pl : Sem Bool} (hr : Room j X.A) (tk : Takes X W) (he : PE X o ta) (ha : PA X (e :: es) t)
    (hst : starEach (e :: es) X.env = (false, eval e X.env) :: starEach es X.env := by rfl) (hpl : (backTo pos (starEach es X.env)).any (·.1) = false := by rfl)
    (ht : eval (.Call (.Attribute o m apos) (e :: es) [] pos) X.env = (do
      let ov ← eval o X.env
      standAt apos.atName
      let (f, first) ← holding [ov] (getMethod ov m pl)
      callWith pos f first (backTo pos (starEach (e :: es) X.env)) (backToKw pos (keywordEach [] X.env))) := by rfl) :
    PE X (.Call (.Attribute o m apos) (e :: es) [] pos) (tMthE X.prog X.w X.K X.mg X.base j m W ta t) := by
  refine ⟨fun pins s σ H Q I h => ?_⟩
  refine PySem.W.methodCall_KW (pl := pl) (thn (he.run pins s σ H _ I h) fun u s1 ⟨x, H1, I1, rx, a, C, dx, fs, k, ps, sp, ex, ea, G, hk, l, q⟩ => ?_) ht
  obtain ⟨f, fd, hm, hb, F⟩ := G.ex
  subst ex
  obtain rfl : u = Value.ref a := rx
  refine getmeth_ok I1 ea G.cl hm l ?_
  refine PySem.W.callWith_K (first := [.ref a]) (h₀ := X.base) I.ok.mod.kin hm.kp (thn (ha.run pos pins s1 σ H1 _ I1 q) fun us s2 ⟨vs, H2, I2, r, q2⟩ => ⟨I2.kIn, ?_⟩) hst hpl
  exact run_fnS (us := .ref a :: us) (vs := .ref a :: vs) (E := WE W) F (hr.mono hk) hb (passAt tk σ) I2 (.cons rfl r) q2
theorem pe_mthE0 {pl : Sem Bool} (hr : Room j X.A) (tk : Takes X W) (he : PE X o ta)
    (ht : eval (.Call (.Attribute o m apos) [] [] pos) X.env = (do
      let ov ← eval o X.env
      standAt apos.atName
      let (f, first) ← holding [ov] (getMethod ov m pl)
      callWith pos f first (backTo pos (starEach [] X.env)) (backToKw pos (keywordEach [] X.env))) := by rfl) :
    PE X (.Call (.Attribute o m apos) [] [] pos) (tMthE X.prog X.w X.K X.mg X.base j m W ta tNil) := by
  refine ⟨fun pins s σ H Q I h => ?_⟩
  refine PySem.W.methodCall_KW (pl := pl) (thn (he.run pins s σ H _ I h) fun u s1 ⟨x, H1, I1, rx, a, C, dx, fs, k, ps, sp, ex, ea, G, hk, l, q⟩ => ?_) ht
  obtain ⟨f, fd, hm, hb, F⟩ := G.ex
  subst ex
  obtain rfl : u = Value.ref a := rx
  refine getmeth_ok I1 ea G.cl hm l ?_
  exact PySem.W.callWith_K0 (first := [.ref a]) I1.kIn hm.kp (run_fnS (us := [.ref a]) (vs := [.ref a]) (E := WE W) F (hr.mono hk) hb (passAt tk σ) I1 (.cons rfl .nil) q)
/-- Cls.m(self, ..) -/
theorem pe_cfn {pl : Sem Bool} (G : CFn X.prog X.w X.K X.mg X.base k x m ps sp) (hr : Room j X.A) (tk : Takes X W) (ha : PA X (e :: es) t) (hk : k ≤ j := by decide) (hg : Gl X x := by rfl) (hdb : (x == ("__debug__" : Str)) = false := by decide)
    (hst : starEach (e :: es) X.env = (false, eval e X.env) :: starEach es X.env := by rfl) (hpl : (backTo pos (starEach es X.env)).any (·.1) = false := by rfl)
    (ht : eval (.Call (.Attribute (.Name x np) m apos) (e :: es) [] pos) X.env = (do
      let ov ← eval (.Name x np) X.env
      standAt apos.atName
      let (f, first) ← holding [ov] (getMethod ov m pl)
      callWith pos f first (backTo pos (starEach (e :: es) X.env)) (backToKw pos (keywordEach [] X.env))) := by rfl) :
    PE X (.Call (.Attribute (.Name x np) m apos) (e :: es) [] pos) (tCallS sp (WE W) t) := by
  obtain ⟨C, f, fd, hm, c, hb, F⟩ := G.ex
  refine ⟨fun pins s σ H Q I h => ?_⟩
  refine PySem.W.methodCall_KW (pl := pl) (ld_glob I hg hm ?_ hdb) ht
  refine PySem.W.method_cls I.kIn c.ga ?_
  refine PySem.W.cls_value I.kIn c.rd c.at_ rfl ?_
  refine PySem.W.callWith_K (first := []) (h₀ := X.base) I.ok.mod.kin c.kp (thn (ha.run pos pins _ σ H _ (I.tok _) h) fun us s2 ⟨vs, H2, I2, r, q2⟩ => ⟨I2.kIn, ?_⟩) hst hpl
  exact run_fnS (E := WE W) F (hr.mono hk) hb (passAt tk σ) I2 r q2
theorem run_makeS {CX : CXT} {fd : FuncData} {f : Addr} {E : L2.St → XK} {pins : List (Addr × Obj)} {σ : L2.St} {H : Hp} {s : Shared} {Q : VK} {us : List Value} {vs : List V} (M : Mk X.K C f) (F : FnOk X.prog X.w X.K X.mg X.base CX k f fd ps sp) (hr : Room (k + 1) X.A) (hb : Binds X.K fd ps [])
    (hx : PassesAt CX X σ (E σ)) (I : Inv X pins σ H s) (r : Vals vs us)
    (h : ∀ x dx, H x = none → H dx = none → dx ≠ x → sp (.ref x :: vs) (upd (upd H dx (.own x)) x (.ins C dx [])) (fun v H2 => v = .non ∧ Q (.ref x) H2) (E σ)) :
    wpAny (model X.prog X.w) X.A (call (.ref C) us) (EP X pins σ Q) X.xe s := by
  have hq := h (s.heap.objs.size + 1) s.heap.objs.size (I.hok.fresh (Nat.le_succ _)) (I.hok.fresh (Nat.le_refl _)) (Nat.ne_of_lt (Nat.lt_succ_self _))
  have I2 := Inv.made (C := C) I
  have r2 : Vals (V.ref (s.heap.objs.size + 1) :: vs) (Value.ref (s.heap.objs.size + 1) :: us) := .cons rfl r
  have hl : (Value.ref (s.heap.objs.size + 1) :: us).length = ps.length := by
    have e := r2.length
    rw [F.len _ _ _ _ hq] at e
    exact e.symm
  have b := hb { s with heap := _, toks := _ } (Value.ref (s.heap.objs.size + 1) :: us) I2.kIn (by rw [List.append_nil]; exact hl)
  rw [List.append_nil] at b
  refine wpAny_call (make_map (f := f) I.kIn M.makes M.init (beq_iff_eq.mp M.fn) (codeAny_mono (F.run _ X.stack _ _ ⟨Value.ref (s.heap.objs.size + 1) :: us, []⟩ (Value.ref (s.heap.objs.size + 1) :: us) _ _ (E σ) (hr.make C us [])
    (I2.env0.make C us []) b r2 hq) fun r s' hq' => ?_))
  cases r with
  | error e => exact hx pins _ _ e s' I2 hq'
  | ok fl =>
    cases fl with
    | ret u =>
      obtain ⟨v, H', I3, rv, ev, q3⟩ := I2.after hq'
      subst ev
      exact ⟨rv, ⟨V.ref (s.heap.objs.size + 1), H', I3, rfl, q3⟩⟩
    | next => exact False.elim hq'
    | brk => exact False.elim hq'
    | cont => exact False.elim hq'
def tMakeS (C : Addr) (sp : Sp) (E : L2.St → XK) (t : TA) : TE := fun σ H Q => t σ H fun vs H1 => ∀ x dx, H1 x = none → H1 dx = none → dx ≠ x → sp (.ref x :: vs) (upd (upd H1 dx (.own x)) x (.ins C dx [])) (fun v H2 => v = .non ∧ Q (.ref x) H2) (E σ)
theorem pe_mak (G : Mak X.prog X.w X.K X.mg X.base k x C ps sp) (hr : Room j X.A) (tk : Takes X W) (ha : PA X (e :: es) t) (hk : k + 1 ≤ j := by decide) (hg : Gl X x := by rfl) (hdb : (x == ("__debug__" : Str)) = false := by decide)
    (he : starEach (e :: es) X.env = (false, eval e X.env) :: starEach es X.env := by rfl) (hpl : (backTo pos (starEach es X.env)).any (·.1) = false := by rfl) : PE X (.Call (.Name x p) (e :: es) [] pos) (tMakeS C sp (WE W) t) := by
  obtain ⟨f, fd, M, hb, F⟩ := G.ex
  refine ⟨fun pins s σ H Q I h => ?_⟩
  refine wpAny_Call_Name_kw (ld_glob I hg G.gC ?_ hdb)
  refine PySem.W.callWith_K (h₀ := X.base) I.ok.mod.kin M.kp (thn (ha.run pos pins s σ H _ I h) fun us s1 ⟨vs, H1, I1, r, q⟩ => ⟨I1.kIn, ?_⟩) he hpl
  exact run_makeS (E := WE W) M F (hr.mono hk) hb (passAt tk σ) I1 r q
end
theorem putF_len (f : Str) (v : V) : ∀ fs : List (Str × V), (putF f v fs).length ≤ fs.length + 1
  | [] => Nat.le_refl 1
  | (g, u) :: r => by
    show (if g = f then (g, v) :: r else (g, u) :: putF f v r).length ≤ _
    split
    · exact Nat.le_succ _
    · exact Nat.succ_le_succ (putF_len f v r)
theorem putF_le {f : Str} {v : V} {fs : List (Str × V)} {m : Nat} (h : fs.length ≤ m) : (putF f v fs).length ≤ m + 1 := Nat.le_trans (putF_len f v fs) (Nat.succ_le_succ h)
theorem rd_upd {H : Hp} {a p : Addr} {o u : HO} (h : a ≠ p) (r : Rd H a u) : Rd (upd H p o) a u := by
  rcases r with r | ⟨q, r⟩
  · exact .inl (by rw [upd_ne h]; exact r)
  · exact .inr ⟨q, by rw [upd_ne h]; exact r⟩
theorem sqL_upd {K : PySem.W.Frag} {H : Hp} {a p : Addr} {o : HO} {xs : List V} (h : a ≠ p) (r : SqL K H a xs) : SqL K (upd H p o) a xs := by
  rcases r with r | r
  · exact .inl (rd_upd h r)
  · exact .inr r
theorem sqT_upd {K : PySem.W.Frag} {H : Hp} {a p : Addr} {o : HO} {xs : List V} (h : a ≠ p) (r : SqT K H a xs) : SqT K (upd H p o) a xs := by
  rcases r with r | r
  · exact .inl (rd_upd h r)
  · exact .inr r
/-! ### try, the readings of its parts as they come -/
theorem pss_imp {X : Cx} {ss : List Stmt} {t t' : TS} (h : PSs X ss t) (i : ∀ D σ H, t' D σ H → t D σ H) : PSs X ss t' := ⟨fun pins s σ H D I q => h.run pins s σ H D I (i D σ H q)⟩
theorem ps_tryA {X : Cx} {x n : Str} {c : Value} {i : Nat} {body suite : List Stmt} {b₀ : Stmt} {np pos pos' : Pos} {tb : WX → List (Addr × Obj) → (Value → Shared → Prop) → TS} {ts : Addr → Obj → Value → Option Addr → List (Addr × Obj) → TS} {Wout : WX}
    (hs : X.stack = X.env :: X.outer) (hf : X.env.frame = some X.env.locals) (hN : X.N.Nodup) (hi : X.N[i]? = some n) (hln : X.env.kindOf n = some .local) (hc : Names X x c) (tk : Takes X Wout)
    (hb : ∀ (W : WX) (pn : List (Addr × Obj)) (xe : Value → Shared → Prop), Takes (X.tr pn xe) W → PassesOwn (model X.prog X.w) X.A X.env xe → PSs (X.tr pn xe) body (tb W pn xe))
    (hsu : ∀ (a : Addr) (oe : Obj) (cls : Value) (d : Option Addr) (pn : List (Addr × Obj)), Zc cls d oe → (∃ vs, oe.data = .fields vs) → PSs (X.suite a ((a, oe) :: pn)) (b₀ :: suite) (ts a oe cls d pn)) :
    PS X (.Try body [.ExceptHandler (some (.Name x np)) (some n) (b₀ :: suite) pos'] [] [] pos)
      (fun D σ H => ∀ pn xe, tb (wAs X.K c i (fun a cls d => fun D σ H => ∀ oe pn, ts a oe cls d pn D σ H) Wout D) pn xe D σ H) :=
  ps_try_as (tb := fun W D σ H => ∀ pn xe, tb W pn xe D σ H) (ts := fun a cls d => fun D σ H => ∀ oe pn, ts a oe cls d pn D σ H) hs hf hN hi hln hc tk
    (fun W pn xe t p => pss_imp (hb W pn xe t p) fun D σ H q => q pn xe) (fun a oe cls d pn z f => pss_imp (hsu a oe cls d pn z f) fun D σ H q => q oe pn)
theorem iteNN {c A B : Prop} [Decidable c] (hc : ¬ c) (h : A) : if (!decide c) = true then A else B := by
  rw [decide_eq_false hc]
  exact iteT h
/-- a def whose promise wishes for nothing that is raised lets nothing out -/
theorem calm_of {P : Program} {w : World} {K : PySem.W.Frag} {mg : Str → Option Value} {base : Heap} {k : Nat} {f : Addr} {fd : FuncData} {ps : List Str} {sp : Sp} (F : FnOk P w K mg base (L2.CX P w) k f fd ps sp) (h : ∀ vs H Q E, sp vs H Q E → sp vs H Q fun _ _ _ => False) :
    FnOk P w K mg base CX0 k f fd ps sp := by
  refine ⟨F.len, fun A outer s H args us vs Q E hr he hb hv hs => ?_⟩
  refine codeAny_mono (F.run A outer s H args us vs Q _ hr he hb hv (h vs H Q E hs)) fun r s' hq => ?_
  cases r with
  | error e =>
    obtain ⟨_, _, _, _, _, _, _, _, _, _, _, _, z⟩ := hq
    exact z
  | ok fl =>
    cases fl with
    | ret u => exact hq
    | next => exact hq
    | brk => exact hq
    | cont => exact hq
/-! ### facts of the written part -/
inductive Fy where
  | fa (f : He.Fa)
  | clf (x m : Str)
  | tup (x : Str) (vs : List He.Dv)
  | prp (x f : Str)
  | prs (x f : Str)
def Fy.ok (K : PySem.W.Frag) : Fy → Bool
  | .fa f => f.ok K
  | .clf x m => PySem.W.readsIn K (He.ga K x) (.type "type") && (He.eqO (PySem.W.specialIn K (.ref (He.ga K x)) "__getattribute__") (some (some (.builtin "type.__getattribute__"))) &&
      ((match PySem.W.findCls K (.ref (He.ga K x)) (.type "type") m with
        | some (.val (.ref f)) => f == He.ma K (He.ga K x) m
        | _ => false) && PySem.W.keepIn K (.ref (He.ma K (He.ga K x) m))))
  | .prp x f => (He.Fa.cls x).ok K && (He.eqO (PySem.W.findIn K (.ref (He.ga K x)) f) (some (some (.ref (He.ma K (He.ga K x) f)))) && (He.eqO (PySem.W.specialIn K (.ref (He.ma K (He.ga K x) f)) "__get__") (some (some (.builtin "property.__get__"))) &&
      (decide (PySem.W.takesIn K (.ref (He.ma K (He.ga K x) f)) = some true) && (match PySem.W.recIn K (He.ma K (He.ga K x) f) "property" with
        | some (.ref g :: _) => g == pAd x f 0 K
        | _ => false))))
  | .prs x f => (He.Fa.cls x).ok K && (He.eqO (PySem.W.findIn K (.ref (He.ga K x)) f) (some (some (.ref (He.ma K (He.ga K x) f)))) && (decide (PySem.W.takesIn K (.ref (He.ma K (He.ga K x) f)) = some true) &&
      (He.eqO ((PySem.W.typeIn K (.ref (He.ma K (He.ga K x) f))).map some) (some (some (.type "property"))) && (match PySem.W.recIn K (He.ma K (He.ga K x) f) "property" with
        | some (_ :: .ref g :: _) => g == pAd x f 1 K
        | _ => false))))
  | .tup x vs => He.eqO (PySem.W.nsIn K mainGlobals x) (some (some (.ref (He.ga K x)))) && He.tupB K x vs
theorem Fy.clf_ok {K : PySem.W.Frag} {x m : Str} (c : (Fy.clf x m).ok K = true) : ClF K (He.ga K x) m (He.ma K (He.ga K x) m) := by
  obtain ⟨c1, c⟩ := He.ba c
  obtain ⟨c2, c⟩ := He.ba c
  obtain ⟨c3, c4⟩ := He.ba c
  refine ⟨c1, He.eqO_ok c2, ?_, c4⟩
  split at c3
  · rename_i f e
    rw [e, eq_of_beq c3]
  · cases c3
theorem Fy.prp_ok {K : PySem.W.Frag} {x f : Str} (c : (Fy.prp x f).ok K = true) : Cls K (He.ga K x) ∧ PropOf K (He.ga K x) f (He.ma K (He.ga K x) f) (pAd x f 0 K) := by
  obtain ⟨c0, c⟩ := He.ba c
  obtain ⟨c1, c⟩ := He.ba c
  obtain ⟨c2, c⟩ := He.ba c
  obtain ⟨c3, c4⟩ := He.ba c
  refine ⟨He.cls_ok c0, He.eqO_ok c1, He.eqO_ok c2, of_decide_eq_true c3, ?_⟩
  split at c4
  · rename_i g rest e
    exact ⟨rest, by rw [e, eq_of_beq c4]⟩
  · cases c4
/-- the class has the name as a property at p whose setter is the def at g -/
structure PropSet (K : PySem.W.Frag) (C : Addr) (f : Str) (p g : Addr) : Prop where
  tk : PySem.W.takerIn K C f = some (some (.ref p))
  ty : PySem.W.typeIn K (.ref p) = some (.type "property")
  rec_ : ∃ a rest, PySem.W.recIn K p "property" = some (a :: .ref g :: rest)
theorem Fy.prs_ok {K : PySem.W.Frag} {x f : Str} (c : (Fy.prs x f).ok K = true) : Cls K (He.ga K x) ∧ PropSet K (He.ga K x) f (He.ma K (He.ga K x) f) (pAd x f 1 K) := by
  obtain ⟨c0, c⟩ := He.ba c
  obtain ⟨c1, c⟩ := He.ba c
  obtain ⟨c2, c⟩ := He.ba c
  obtain ⟨c3, c4⟩ := He.ba c
  refine ⟨He.cls_ok c0, ?_, ?_, ?_⟩
  · unfold PySem.W.takerIn
    rw [He.eqO_ok c1]
    show (PySem.W.takesIn K _).map _ = _
    rw [of_decide_eq_true c2]
    rfl
  · have := He.eqO_ok c3
    cases e : PySem.W.typeIn K (.ref (He.ma K (He.ga K x) f)) with
    | none => rw [e] at this; cases this
    | some v => rw [e] at this; exact Option.some.inj this
  · split at c4
    · rename_i a g rest e
      exact ⟨a, rest, by rw [e, eq_of_beq c4]⟩
    · cases c4
theorem Fy.tup_ok {K : PySem.W.Frag} {x : Str} {vs : List He.Dv} {h : Heap} {mg : Str → Option Value} (X : K.In h) (G : h.Ns mainGlobals mg) (c : (Fy.tup x vs).ok K = true) : mg x = some (.ref (He.ga K x)) ∧ ∀ H : Hp, SqT K H (He.ga K x) (vs.map (He.Dv.v K)) := by
  obtain ⟨c1, c2⟩ := He.ba c
  exact ⟨PySem.W.mg_of X G (He.eqO_ok c1), fun H => He.tupB_ok c2 H⟩
/-! ### defs by names -/
def adG (x : Str) (s : Stmt) (dfl : List He.Dv := []) : AD := ⟨fun K => He.ga K x, x, x, defArgs s, defBody s, defScope s, dfl, []⟩
def adM (C m q : Str) (s : Stmt) (dfl : List He.Dv := []) : AD := ⟨fun K => He.ma K (He.ga K C) m, m, q, defArgs s, defBody s, defScope s, dfl, []⟩
def adP (C m q : Str) (i : Nat) (s : Stmt) : AD := ⟨pAd C m i, m, q, defArgs s, defBody s, defScope s, [], []⟩
theorem all_of {p : Fy → Bool} {l : List Fy} (h : l.all p = true) {f : Fy} (m : f ∈ l) : p f = true := List.all_eq_true.mp h f m
end M

namespace L2
open PySem PySem.Spec PyProof.Rows
/-! ### < of data -/
def rLtD (K : PySem.W.Frag) : R2 := fun x y H Q => ∃ d e, Dp K H x d ∧ Dp K H y e ∧ PySem.W.alike d e = true ∧ d ≠ .none ∧ d.depth ≤ 60 ∧ Q (.bl (PySem.W.dataLt d e)) H
section
variable {X : Cx}
theorem op_ltD (hu : X.A.units + 64 < cLine) : OpR X (compareOp .Lt) (rLtD X.K) := by
  intro pins s σ H x y v u Q I rx ry h
  obtain ⟨d, e, hd, he, al, nn, hz, q⟩ := h
  obtain ⟨as, r1⟩ := Dp.reads I d x v hd rx
  obtain ⟨bs, r2⟩ := Dp.reads I e y u he ry
  have z := PySem.W.rcLt_alike d e X.A s v u as bs r1 r2 al nn (by omega) X.prog X.w X.xe (EP X pins σ Q) ⟨.bl _, H, I, rfl, q⟩
  exact z
end
end L2
namespace M
open PySem PySem.Spec PyProof.Rows L2
/-! ### x in o, o of an own class -/
def tInOwn (P : Program) (w : World) (K : PySem.W.Frag) (mg : Str → Option Value) (base : Heap) (j : Nat) (neg : Bool) (W : WX) (ta tb : TE) : TE := fun σ H Q => ta σ H fun x H1 => tb σ H1 fun y H2 => ∃ (a C dx : Addr) (fs : List (Str × V)) (k : Nat) (ps : List Str) (sp : Sp), y = .ref a ∧ H2 a = some (.ins C dx fs) ∧
  Mth P w K mg base k C "__contains__" ps sp ∧ k ≤ j ∧ sp [.ref a, x] H2 (fun v H3 => ∃ b, v = .bl b ∧ Q (.bl (if neg then !b else b)) H3) (WE W σ)
section
variable {X : Cx} {j : Nat} {W : WX} {a b : Expr} {ta tb : TE}
theorem pc_own (hr : Room j X.A) (tk : Takes X W) (ha : PE X a ta) (hb : PE X b tb) : PC X .In a b (tInOwn X.prog X.w X.K X.mg X.base j false W ta tb) := by
  refine ⟨fun pins s σ H Q I h => ?_⟩
  refine thn (ha.run pins s σ H _ I h) fun v s1 ⟨x, H1, I1, rx, q1⟩ => thn (hb.run pins s1 σ H1 _ I1 q1) fun u s2 ⟨y, H2, I2, ry, o, C, dx, fs, k, ps, sp, ey, eo, G, hk, q⟩ => ?_
  subst ey
  obtain rfl : u = Value.ref o := ry
  obtain ⟨f, fd, hm, hbd, F⟩ := G.ex
  obtain ⟨mA, O, _, _, _, _⟩ := ins_get I2.hok eo
  obtain ⟨od, J, _⟩ := O.look
  obtain ⟨m, hF⟩ := I2.fr
  refine PySem.W.in_K hF I2.ok.mod.kin J hm.at_ hm.fn (wpAny_mono (run_fnS (us := [.ref o, v]) (vs := [.ref o, x]) (E := WE W) F (hr.mono hk) hbd (passAt tk σ) I2 (.cons rfl (.cons rx .nil)) q) (fun r s3 hq => ?_) fun _ _ z => z)
  obtain ⟨w', H3, I3, rw', b', eb, q3⟩ := hq
  subst eb
  cases rw'
  exact wpAny_truthy_bool ⟨.bl b', H3, I3, rfl, q3⟩
theorem pc_notOwn (hr : Room j X.A) (tk : Takes X W) (ha : PE X a ta) (hb : PE X b tb) : PC X .NotIn a b (tInOwn X.prog X.w X.K X.mg X.base j true W ta tb) := by
  refine ⟨fun pins s σ H Q I h => ?_⟩
  refine thn (ha.run pins s σ H _ I h) fun v s1 ⟨x, H1, I1, rx, q1⟩ => thn (hb.run pins s1 σ H1 _ I1 q1) fun u s2 ⟨y, H2, I2, ry, o, C, dx, fs, k, ps, sp, ey, eo, G, hk, q⟩ => ?_
  subst ey
  obtain rfl : u = Value.ref o := ry
  obtain ⟨f, fd, hm, hbd, F⟩ := G.ex
  obtain ⟨mA, O, _, _, _, _⟩ := ins_get I2.hok eo
  obtain ⟨od, J, _⟩ := O.look
  obtain ⟨m, hF⟩ := I2.fr
  refine PySem.W.notIn_K hF I2.ok.mod.kin J hm.at_ hm.fn (wpAny_mono (run_fnS (us := [.ref o, v]) (vs := [.ref o, x]) (E := WE W) F (hr.mono hk) hbd (passAt tk σ) I2 (.cons rfl (.cons rx .nil)) q) (fun r s3 hq => ?_) fun _ _ z => z)
  obtain ⟨w', H3, I3, rw', b', eb, q3⟩ := hq
  subst eb
  cases rw'
  exact wpAny_truthy_bool ⟨.bl (!b'), H3, I3, rfl, q3⟩
end
/-! ### e.f, a property that hands back a field g -/
structure Prp (P : Program) (w : World) (K : PySem.W.Frag) (mg : Str → Option Value) (base : Heap) (C : Addr) (f g : Str) : Prop where
  cl : Cls K C
  ex : ∃ (p ge : Addr) (fd : FuncData), PropOf K C f p ge ∧ Binds K fd ["self"] [] ∧ FnOk P w K mg base CX0 1 ge fd ["self"] (getSp C g)
theorem nox_pass {X : Cx} : Passes CX0 X.nox E0 := fun _ _ _ _ _ _ _ h => h.elim
def tPrp (C : Addr) (g : Str) (ta : TE) : TE := fun σ H Q => ta σ H fun x H1 => ∃ (a dx : Addr) (fs : List (Str × V)) (v : V), x = .ref a ∧ H1 a = some (.ins C dx fs) ∧ fs.lookup g = some v ∧ Q v H1
theorem pe_prp {X : Cx} {j : Nat} {C : Addr} {f g : Str} {e : Expr} {pos : Pos} {ta : TE} (G : Prp X.prog X.w X.K X.mg X.base C f g) (hr : Room j X.A) (he : PE X e ta) (hj : 2 ≤ j := by decide)
    (hab : attributeBase e f X.env (eval e X.env) = eval e X.env := by rfl) : PE X (.Attribute e f pos) (tPrp C g ta) := by
  obtain ⟨p, ge, fd, hp, hb, F⟩ := G.ex
  refine ⟨fun pins s σ H Q I h => ?_⟩
  refine attr_of hab (thn (he.run pins s σ H _ I h) fun u s1 ⟨x, H1, I1, rx, a, dx, fs, v, ex, ea, l, q⟩ => ?_)
  subst ex
  obtain rfl : u = Value.ref a := rx
  exact getprop_ok I1 ea G.cl hp F (hr.mono hj) hb .nil nox_pass ⟨a, dx, fs, v, rfl, ea, l, q⟩
theorem same_t {K : PySem.W.Frag} {H H' : Hp} {a : Addr} {xs : List V} (e : Same H H') (h : SqT K H a xs) : SqT K H' a xs := by
  rcases h with (h | ⟨o, h⟩) | h
  · exact .inl (.inl (e _ _ h))
  · exact .inl (.inr ⟨o, e _ _ h⟩)
  · exact .inr h
mutual
theorem dp_same {K : PySem.W.Frag} {H H' : Hp} (e : Same H H') : ∀ {v : V} {d : PyData}, Dp K H v d → Dp K H' v d
  | _, _, .non => .non
  | _, _, .bl b => .bl b
  | _, _, .int i => .int i
  | _, _, .str x => .str x
  | _, _, .lst h r => .lst (e.seq h) (dpAll_same e r)
  | _, _, .tup h r => .tup (same_t e h) (dpAll_same e r)
theorem dpAll_same {K : PySem.W.Frag} {H H' : Hp} (e : Same H H') : ∀ {vs : List V} {ds : List PyData}, DpAll K H vs ds → DpAll K H' vs ds
  | _, _, .nil => .nil
  | _, _, .cons h r => .cons (dp_same e h) (dpAll_same e r)
end
/-! ### the order of data, for lists of alike rows -/
def ltP (p q : V × PyData) : Bool := PySem.W.dataLt p.2 q.2
/-! ### ascending: rows put in their places one by one -/
section
variable {α : Type} (lt : α → α → Bool)
/-- behind the last one that it isn't less than: l read from its end -/
def insR (x : α) : List α → List α
  | [] => [x]
  | e :: r => if lt x e then e :: insR x r else x :: e :: r
/-- the rows in ascending order (l is kept turned round) -/
def asc (l : List α) : List α := (l.foldl (fun acc x => insR lt x acc) []).reverse
theorem insR_perm (x : α) : ∀ l : List α, (insR lt x l).Perm (x :: l)
  | [] => .refl _
  | e :: r => by
    unfold insR
    split
    · exact ((insR_perm x r).cons e).trans (List.Perm.swap x e r)
    · exact .refl _
theorem asc_fold_perm : ∀ (l acc : List α), (l.foldl (fun acc x => insR lt x acc) acc).Perm (l ++ acc)
  | [], acc => .refl _
  | x :: l, acc => by
    rw [List.foldl_cons]
    refine (asc_fold_perm l _).trans ?_
    refine ((insR_perm lt x acc).append_left l).trans ?_
    exact List.perm_middle
theorem asc_perm (l : List α) : (asc lt l).Perm l := by
  unfold asc
  refine (List.reverse_perm _).trans ?_
  have := asc_fold_perm lt l []
  rwa [List.append_nil] at this
theorem asc_len (l : List α) : (asc lt l).length = l.length := (asc_perm lt l).length_eq
/-- a strict order on what the list holds -/
structure Ord (S : α → Prop) : Prop where
  irr : ∀ a, S a → lt a a = false
  tr : ∀ a b c, S a → S b → S c → lt a b = true → lt b c = true → lt a c = true
  tot : ∀ a b, S a → S b → lt a b = true ∨ a = b ∨ lt b a = true
variable {lt}
/-- from the end: no one is less than the next -/
def Down (lt : α → α → Bool) (l : List α) : Prop := l.Pairwise fun a b => lt a b = false
theorem Ord.nlt_tr {S : α → Prop} (O : Ord lt S) {a b c : α} (ha : S a) (hb : S b) (hc : S c) (h1 : lt a b = false) (h2 : lt b c = false) : lt a c = false := by
  cases e : lt a c with
  | false => rfl
  | true =>
    rcases O.tot b c hb hc with h | h | h
    · rw [h] at h2; cases h2
    · rw [← h, h1] at e; cases e
    · have := O.tr a c b ha hc hb e h
      rw [this] at h1; cases h1
theorem insR_down {S : α → Prop} (O : Ord lt S) {x : α} (hx : S x) : ∀ {l : List α}, (∀ a ∈ l, S a) → Down lt l → Down lt (insR lt x l)
  | [], _, _ => by unfold insR Down; exact List.pairwise_singleton _ _
  | e :: r, hs, d => by
    have d' := List.pairwise_cons.mp d
    have he := hs e List.mem_cons_self
    unfold insR
    split
    · rename_i h
      refine List.pairwise_cons.mpr ⟨fun b hb => ?_, insR_down O hx (fun a ha => hs a (List.mem_cons_of_mem _ ha)) d'.2⟩
      rcases List.mem_cons.mp ((insR_perm lt x r).mem_iff.mp hb) with e1 | hb
      · subst e1
        cases q : lt e b with
        | false => rfl
        | true =>
          have := O.tr b e b hx he hx h q
          rw [O.irr b hx] at this; cases this
      · exact d'.1 b hb
    · rename_i h
      have h0 : lt x e = false := by simpa using h
      refine List.pairwise_cons.mpr ⟨fun b hb => ?_, d⟩
      rcases List.mem_cons.mp hb with e1 | hb
      · rw [e1]; exact h0
      · exact O.nlt_tr hx he (hs b (List.mem_cons_of_mem _ hb)) h0 (d'.1 b hb)
theorem asc_fold_down {S : α → Prop} (O : Ord lt S) : ∀ {l acc : List α}, (∀ a ∈ l, S a) → (∀ a ∈ acc, S a) → Down lt acc → Down lt (l.foldl (fun acc x => insR lt x acc) acc)
  | [], _, _, _, d => d
  | x :: l, acc, hl, ha, d => by
    rw [List.foldl_cons]
    refine asc_fold_down O (fun a h => hl a (List.mem_cons_of_mem _ h)) (fun a h => ?_) (insR_down O (hl x List.mem_cons_self) ha d)
    rcases List.mem_cons.mp ((insR_perm lt x acc).mem_iff.mp h) with e | h
    · rw [e]; exact hl x List.mem_cons_self
    · exact ha a h
/-- ascending: no later one is less than an earlier one -/
theorem asc_up {S : α → Prop} (O : Ord lt S) {l : List α} (hl : ∀ a ∈ l, S a) : (asc lt l).Pairwise fun a b => lt b a = false := by
  unfold asc
  exact List.pairwise_reverse.mpr (asc_fold_down O hl (fun _ h => by cases h) List.Pairwise.nil)
/-- two ascending lists of the same things are one -/
theorem up_unique {S : α → Prop} (O : Ord lt S) : ∀ {l m : List α}, (∀ a ∈ l, S a) → l.Perm m → (l.Pairwise fun a b => lt b a = false) → (m.Pairwise fun a b => lt b a = false) → l = m
  | [], m, _, p, _, _ => (List.Perm.nil_eq p)
  | a :: l, [], _, p, _, _ => absurd p.length_eq (by simp)
  | a :: l, b :: m, hs, p, d1, d2 => by
    have e1 := List.pairwise_cons.mp d1
    have e2 := List.pairwise_cons.mp d2
    have ha := hs a List.mem_cons_self
    have hb : S b := hs b (p.mem_iff.mpr List.mem_cons_self)
    have eab : a = b := by
      rcases List.mem_cons.mp (p.mem_iff.mp (List.mem_cons_self (a := a))) with e | h
      · exact e
      · have h1 := e2.1 a h
        rcases List.mem_cons.mp (p.mem_iff.mpr (List.mem_cons_self (a := b))) with e | h'
        · exact e.symm
        · have h2 := e1.1 b h'
          rcases O.tot a b ha hb with z | z | z
          · rw [z] at h1; cases h1
          · exact z
          · rw [z] at h2; cases h2
    subst eab
    rw [up_unique O (fun x hx => hs x (List.mem_cons_of_mem _ hx)) (List.Perm.cons_inv p) e1.2 e2.2]
end
theorem insR_split {α : Type} {lt : α → α → Bool} {x : α} : ∀ {l m : List α}, (∀ e ∈ l, lt x e = true) → (∀ e r, m = e :: r → lt x e = false) → insR lt x (l ++ m) = l ++ x :: m
  | [], [], _, _ => rfl
  | [], e :: r, _, h => by
    show (if lt x e then e :: insR lt x r else x :: e :: r) = _
    rw [h e r rfl]
    rfl
  | e :: l, m, h1, h2 => by
    show (if lt x e then e :: insR lt x (l ++ m) else x :: e :: (l ++ m)) = _
    rw [h1 e List.mem_cons_self, insR_split (fun a ha => h1 a (List.mem_cons_of_mem _ ha)) h2]
    rfl
/-! ### texts in order -/
def ltS (a b : Str) : Bool := decide (a.cps.toList < b.cps.toList)
theorem str_ext {x y : Str} (h : x.cps.toList = y.cps.toList) : x = y := by
  cases x; cases y
  simp only [Str.mk.injEq]
  exact Array.ext' h
theorem ordS : Ord ltS (fun _ => True) where
  irr := fun a _ => decide_eq_false (List.lt_irrefl _)
  tr := fun a b c _ _ _ h1 h2 => decide_eq_true (List.lt_trans (of_decide_eq_true h1) (of_decide_eq_true h2))
  tot := fun a b _ _ => by
    by_cases h : a.cps.toList < b.cps.toList
    · exact .inl (decide_eq_true h)
    · by_cases h2 : b.cps.toList < a.cps.toList
      · exact .inr (.inr (decide_eq_true h2))
      · exact .inr (.inl (str_ext (List.le_antisymm (List.not_lt.mp h2) (List.not_lt.mp h))))
end M

namespace M
open PySem PySem.Spec PyProof.Rows L2
/-! ### lists of texts -/
theorem insR_map {α β : Type} {lt : α → α → Bool} {lt2 : β → β → Bool} {f : α → β} (h : ∀ a b, lt2 (f a) (f b) = lt a b) (x : α) : ∀ l : List α, insR lt2 (f x) (l.map f) = (insR lt x l).map f
  | [] => rfl
  | e :: r => by
    show (if lt2 (f x) (f e) then f e :: insR lt2 (f x) (r.map f) else f x :: f e :: r.map f) = (if lt x e then e :: insR lt x r else x :: e :: r).map f
    rw [h, insR_map h x r]
    split <;> rfl
theorem asc_foldmap {α β : Type} {lt : α → α → Bool} {lt2 : β → β → Bool} {f : α → β} (h : ∀ a b, lt2 (f a) (f b) = lt a b) : ∀ l acc : List α, (l.map f).foldl (fun acc x => insR lt2 x acc) (acc.map f) = (l.foldl (fun acc x => insR lt x acc) acc).map f
  | [], _ => rfl
  | x :: r, acc => by
    show (r.map f).foldl _ (insR lt2 (f x) (acc.map f)) = _
    rw [insR_map h x acc]
    exact asc_foldmap h r _
theorem asc_map {α β : Type} {lt : α → α → Bool} {lt2 : β → β → Bool} {f : α → β} (h : ∀ a b, lt2 (f a) (f b) = lt a b) (l : List α) : asc lt2 (l.map f) = (asc lt l).map f := by
  unfold asc
  rw [List.map_reverse, ← asc_foldmap h l []]
  rfl
/-- the texts ascending -/
def upS (l : List Str) : List Str := asc ltS l
def dS (s : Str) : V × PyData := (.str s, .str s)
theorem ltP_dS (a b : Str) : ltP (dS a) (dS b) = ltS a b := PySem.W.dataLt_str a b
theorem asc_dS (l : List Str) : (asc ltP (l.map dS)).map (·.1) = (upS l).map V.str := by
  rw [asc_map (lt := ltS) ltP_dS, List.map_map]
  rfl
theorem upS_perm (l : List Str) : (upS l).Perm l := asc_perm ltS l
theorem risingS_all : ∀ (r : List Str) (p : Str), risingS p r = true → (p :: r).Pairwise fun a b => ltS b a = false
  | [], p, _ => List.pairwise_singleton _ _
  | x :: r, p, h => by
    have h' : (!ltCps x.cps.toList p.cps.toList && risingS x r) = true := h
    rw [Bool.and_eq_true] at h'
    have i := risingS_all r x h'.2
    have e1 : ltS x p = false := by
      have := h'.1
      rw [ltCps_eq] at this
      unfold ltS
      simpa using this
    refine List.pairwise_cons.mpr ⟨fun y hy => ?_, i⟩
    rcases List.mem_cons.mp hy with rfl | hy
    · exact e1
    · have e2 := (List.pairwise_cons.mp i).1 y hy
      exact Ord.nlt_tr ordS trivial trivial trivial e2 e1
theorem sortedS_up {l : List Str} (h : sortedS l = true) : l.Pairwise fun a b => ltS b a = false := by
  cases l with
  | nil => exact .nil
  | cons x r => exact risingS_all r x h
theorem sortedS_eq {ys xs : List Str} (p : ys.Perm xs) (h : sortedS ys = true) : ys = upS xs :=
  up_unique ordS (fun _ _ => trivial) (p.trans (upS_perm xs).symm) (sortedS_up h) (asc_up ordS fun _ _ => trivial)
theorem inV_strs (x : Str) (l : List Str) : inV (.str x) (l.map V.str) = decide (x ∈ l) := by
  unfold inV
  rw [List.any_map, Bool.eq_iff_iff, List.any_eq_true, decide_eq_true_iff]
  constructor
  · rintro ⟨y, hy, e⟩
    have e' : eqV (.str y) (.str x) = true := e
    have : y = x := by simpa [eqV] using e'
    rw [← this]; exact hy
  · intro h
    exact ⟨x, h, by simp [eqV]⟩
theorem flat_strs (l : List Str) : (l.map V.str).all flatV = true := by
  rw [List.all_map, List.all_eq_true]
  exact fun _ _ => rfl
theorem dp_strs {K : PySem.W.Frag} {H : Hp} : ∀ l : List Str, DpAll K H (l.map V.str) (l.map PyData.str)
  | [] => .nil
  | x :: l => .cons (.str x) (dp_strs l)
theorem dp_strL {K : PySem.W.Frag} {H : Hp} {a : Addr} {l : List Str} (h : SqL K H a (l.map V.str)) : Dp K H (.ref a) (.list (l.map .str)) := .lst h (dp_strs l)
theorem eqv_strs : ∀ l m : List Str, PyData.eqvAll (l.map .str) (m.map .str) = decide (l = m)
  | [], [] => by simp [PyData.eqvAll]
  | [], _ :: _ => by simp [PyData.eqvAll]
  | _ :: _, [] => by simp [PyData.eqvAll]
  | x :: l, y :: m => by
    show PyData.eqvAll (PyData.str x :: l.map .str) (PyData.str y :: m.map .str) = _
    rw [PyData.eqvAll, eqv_strs l m]
    have e : PyData.eqv (.str x) (.str y) = decide (x = y) := by
      rw [PyData.eqv]
      by_cases h : x = y
      · rw [h, decide_eq_true rfl]; exact beq_self_eq_true y
      · rw [decide_eq_false h]; exact beq_false_of_ne h
    rw [e]
    by_cases h1 : x = y <;> by_cases h2 : l = m <;> simp [h1, h2]
theorem eqv_strL (l m : List Str) : PyData.eqv (.list (l.map .str)) (.list (m.map .str)) = decide (l = m) := by
  rw [← eqv_strs l m, PyData.eqv]
theorem eqS_self (l : List Str) : PyData.eqv (.list (l.map .str)) (.list (l.map .str)) = true := by rw [eqv_strL, decide_eq_true rfl]
theorem canlay_strs : ∀ l : List Str, (∀ x ∈ l, PyData.strOk x = true) → PyData.canLayAll0 (l.map PyData.str) = true
  | [], _ => rfl
  | x :: l, h => by
    show PyData.canLayAll0 (PyData.str x :: l.map .str) = true
    rw [PyData.canLayAll0, canlay_strs l fun y hy => h y (List.mem_cons_of_mem _ hy), PyData.canLay0, h x List.mem_cons_self]
    rfl
theorem depth_strs : ∀ l : List Str, PyData.depthAll (l.map PyData.str) ≤ 1
  | [] => by rw [List.map_nil, PyData.depthAll]; decide
  | x :: l => by
    show PyData.depthAll (PyData.str x :: l.map .str) ≤ 1
    rw [PyData.depthAll, PyData.depth]
    have := depth_strs l
    omega
theorem shaped_strL (l : List Str) (h : ∀ x ∈ l, PyData.strOk x = true) : SeqAt.shaped (.list (l.map PyData.str)) = true := by
  unfold SeqAt.shaped
  rw [PyData.canLay0, PyData.depth, canlay_strs l h, decide_eq_true (by have := depth_strs l; omega)]
  rfl
theorem tYes_if {σ : L2.St} {H : Hp} {A B : Hp → Prop} (h : A H) : tYes σ H (fun b H3 => if b = true then A H3 else B H3) := h
theorem nmC_lt {d n k : Nat} : ∀ c ∈ nmC d n k, c < 128 := by
  have hl : ∀ j, ltr d j < 128 := fun j => by
    unfold ltr
    have := Nat.mod_lt (d / 4 % 26 + 7 * j) (show 26 > 0 by decide)
    omega
  intro c hc
  unfold nmC at hc
  split at hc
  · rw [List.mem_singleton.mp hc]; exact hl _
  split at hc
  · simp only [List.mem_append, List.mem_singleton, List.mem_replicate] at hc
    rcases hc with ⟨_, rfl⟩ | rfl | ⟨_, rfl⟩ <;> first | exact hl _ | decide
  split at hc
  · rw [(List.mem_replicate.mp hc).2]; have := Nat.mod_lt (d / 4) (show 26 > 0 by decide); omega
  · rcases List.mem_cons.mp hc with rfl | hc
    · exact hl _
    · have h2 := List.mem_of_mem_take hc
      have h3 : ∀ c ∈ tailZ, c < 128 := by decide
      exact h3 c h2
theorem nm_strOk (d n k : Nat) : PyData.strOk (nm d n k) = true := by
  unfold PyData.strOk nm
  rw [Array.all_eq_true']
  intro c hc
  have := nmC_lt (d := d) (n := n) (k := k) c (by simpa using hc)
  exact decide_eq_true (by omega)
theorem nmL_ok {d n : Nat} : ∀ x ∈ nmL d n, PyData.strOk x = true := fun x hx => by
  obtain ⟨k, _, rfl⟩ := List.mem_map.mp hx
  exact nm_strOk d n k
/-! ### a statement whose ends meet: J is what holds behind it -/
def tJ (t : TS) : TS := fun D σ H => ∃ J : L2.St → Hp → Prop, t { D with nx := J } σ H ∧ ∀ σ' H', J σ' H' → D.nx σ' H'
theorem ps_j {X : Cx} {st : Stmt} {t : TS} (h : PS X st t) : PS X st (tJ t) := by
  refine ⟨fun pins s σ H D I hw => ?_⟩
  obtain ⟨J, h1, h2⟩ := hw
  refine thn (h.run pins s σ H { D with nx := J } I h1) fun fl s' q => ?_
  cases fl with
  | next =>
    obtain ⟨σ', H', I', z⟩ := q
    exact ⟨σ', H', I', h2 _ _ z⟩
  | ret u => exact q
  | brk => exact q
  | cont => exact q
/-! ### built-in names that the text leaves free -/
def bnames : List Str := ["abs", "int", "len", "range", "list", "str", "sorted", "isinstance", "tuple", "enumerate", "dict", "set", "bool", "min", "max", "sum", "any", "all", "zip", "reversed", "ValueError", "type"]
structure Bj (mg : Str → Option Value) : Prop extends Bi mg where
  list : mg "list" = none
  str : mg "str" = none
  sorted : mg "sorted" = none
  isinstance : mg "isinstance" = none
  tuple : mg "tuple" = none
  enumerate : mg "enumerate" = none
  dict : mg "dict" = none
  set : mg "set" = none
  bool : mg "bool" = none
  min : mg "min" = none
  max : mg "max" = none
  sum : mg "sum" = none
  any : mg "any" = none
  all : mg "all" = none
  zip : mg "zip" = none
  reversed : mg "reversed" = none
  ValueError : mg "ValueError" = none
  type : mg "type" = none
theorem Bj.of {mg : Str → Option Value} (h : ∀ x ∈ bnames, mg x = none) : Bj mg := by
  constructor
  · constructor <;> exact h _ (by simp [bnames])
  all_goals exact h _ (by simp [bnames])
end M

namespace M
open PySem PySem.Spec PyProof.Rows L2 PySem.XEx
/-! ### own exceptions as values -/
/-- an exception object of the class at C with the own dict d, at a -/
def XV (C : Addr) (d : Option Addr) (a : Addr) : HO := .ext fun h => ∃ (oe : Obj) (vs : Array Value), h.get? a = some oe ∧ Zc (.ref C) d oe ∧ oe.data = .fields vs
theorem xv_ok {P : Program} {w : World} {H : Hp} {h : Heap} {a C : Addr} {d : Option Addr} {oe : Obj} {vs : Array Value} (e : h.get? a = some oe) (z : Zc (.ref C) d oe) (hd : oe.data = .fields vs) : ObjOk P w H h a (XV C d a) :=
  ⟨⟨oe, vs, e, z, hd⟩, ⟨oe, e⟩, fun _ _ ⟨o, v, q, r⟩ k => ⟨o, v, k o q, r⟩⟩
def tMkV (C : Addr) (fs : List Str) (ta : TA) : TE := fun σ H Q => ta σ H fun vs H1 => vs.length = fs.length ∧ (fs = [] → ∀ a, H1 a = none → Q (.ref a) (upd H1 a (XV C none a))) ∧
  (fs ≠ [] → ∀ d a, H1 d = none → H1 a = none → a ≠ d → Q (.ref a) (upd (upd H1 d (.xd (fs.zip vs).reverse)) a (XV C (some d) a)))
section
variable {X : Cx} {C : Addr} {fs : List Str} {params : Arguments} {body : List Stmt} {scope : Scope} {k : Nat}
theorem run_mkv {pins : List (Addr × Obj)} {σ : L2.St} {H : Hp} {s : Shared} {Q : VK} {us : List Value} {vs : List V} (T : XCls X.prog X.K C fs params body scope) (I : IText fs params body scope) (hr : Room k X.A) (I1 : Inv X pins σ H s) (r : Vals vs us) (hl : vs.length = fs.length)
    (q0 : fs = [] → ∀ a, H a = none → Q (.ref a) (upd H a (XV C none a))) (q1 : fs ≠ [] → ∀ d a, H d = none → H a = none → a ≠ d → Q (.ref a) (upd (upd H d (.xd (fs.zip vs).reverse)) a (XV C (some d) a))) :
    wpAny (model X.prog X.w) X.A (call (.ref C) us) (EP X pins σ Q) X.xe s := by
  obtain ⟨mb, hB, hmb⟩ := I1.ok.mod.blt
  have hlim := I1.nolimit
  refine wpAny_call (exc_made (mg := X.mg) (mb := mb) T I I1.kIn hlim (I1.ok.mod.glob.keeps I1.bk) (hB.keeps I1.bk) (hmb _ (by decide +kernel)) (by have := hr.dp; omega) (by rw [← hl, r.length]) fun h' tk e d M => ?_)
  obtain ⟨hp, g, dr, t, os⟩ := s
  obtain ⟨oe, fv, hoe, hc, hd, hdat, h1⟩ := M.obj
  have hne : H e = none := I1.hok.fresh M.new
  have hge : hp.get? e = none := by
    cases z : hp.get? e with
    | none => rfl
    | some o => exact absurd (Nat.lt_of_lt_of_le (Heap.lt_size z) M.new) (Nat.lt_irrefl _)
  cases d with
  | none =>
    have hz : (fs.zip us).reverse = [] := M.dct
    have hfs : fs = [] := by
      cases fs with
      | nil => rfl
      | cons f fs =>
        cases us with
        | nil =>
          rw [r.length] at hl
          cases hl
        | cons u us => simp at hz
    exact ⟨.ref e, _, I1.laid (t' := tk) M.keep M.new (xv_ok hoe ⟨hc, hd⟩ hdat), rfl, q0 hfs e hne⟩
  | some dx =>
    obtain ⟨dlo, dne, hpn, hns⟩ := M.dct
    have hfs : fs ≠ [] := fun z => by
      rw [z] at hpn
      simp at hpn
    obtain ⟨G', g1, g2⟩ := restrict h' fun b => decide (b ≠ e)
    have gk : ∀ b, b ≠ e → G'.get? b = h'.get? b := fun b hb => g1 b (decide_eq_true hb)
    have ge : G'.get? e = none := g2 e (by simp)
    have old : ∀ b o, hp.get? b = some o → G'.get? b = some o := fun b o z => (gk b (fun y => by rw [y, hge] at z; cases z)).trans (M.keep b o z)
    have ob : ObjOk X.prog X.w (upd H dx (.xd (fs.zip vs).reverse)) G' dx (.xd (fs.zip vs).reverse) :=
      ⟨_, hns.at (fun o z => (gk dx dne).trans z), relO_rev r⟩
    have J : Inv X pins σ (upd H dx (.xd (fs.zip vs).reverse)) ⟨G', g, dr, tk, os⟩ := I1.laid (t' := tk) old dlo ob
    have hne2 : (upd H dx (.xd (fs.zip vs).reverse)) e = none := by rw [upd_ne (Ne.symm dne)]; exact hne
    have J2 := J.laidN (h' := h') (t' := tk) (a := e) (o := XV C (some dx) e) (fun b u z => by
      by_cases hb : b = e
      · have z' : G'.get? b = some u := z
        rw [hb, ge] at z'; cases z'
      · exact (gk b hb).symm.trans z) ge hne2 (xv_ok hoe ⟨hc, hd⟩ hdat)
    exact ⟨.ref e, _, J2, rfl, q1 hfs dx e (I1.hok.fresh dlo) hne (Ne.symm dne)⟩
theorem pe_mkv {x : Str} {e : Expr} {es : List Expr} {ta : TA} {p pos : Pos} (T : XCls X.prog X.K C fs params body scope) (I : IText fs params body scope) (hm : X.mg x = some (.ref C)) (hr : Room k X.A) (ha : PA X (e :: es) ta) (hg : Gl X x := by rfl) (hdb : (x == ("__debug__" : Str)) = false := by decide)
    (he : starEach (e :: es) X.env = (false, eval e X.env) :: starEach es X.env := by rfl) (hpl : (backTo pos (starEach es X.env)).any (·.1) = false := by rfl) : PE X (.Call (.Name x p) (e :: es) [] pos) (tMkV C fs ta) := by
  refine ⟨fun pins s σ H Q J h => ?_⟩
  refine wpAny_Call_Name_kw (ld_glob J hg hm ?_ hdb)
  refine PySem.W.callWith_K (h₀ := X.base) J.ok.mod.kin T.kC (thn (ha.run pos pins s σ H _ J h) fun us s1 hh => ?_) he hpl
  obtain ⟨vs, H1, I1, r1, hl, q0, q1⟩ := hh
  exact ⟨I1.kIn, run_mkv T I hr I1 r1 hl q0 q1⟩
theorem pe_mkv0 {x : Str} {p pos : Pos} (T : XCls X.prog X.K C fs params body scope) (I : IText fs params body scope) (hm : X.mg x = some (.ref C)) (hr : Room k X.A) (hg : Gl X x := by rfl) (hdb : (x == ("__debug__" : Str)) = false := by decide) : PE X (.Call (.Name x p) [] [] pos) (tMkV C fs tNil) := by
  refine ⟨fun pins s σ H Q J h => ?_⟩
  refine wpAny_Call_Name_kw (ld_glob J hg hm ?_ hdb)
  obtain ⟨hl, q0, q1⟩ := h
  exact PySem.W.callWith_K0 J.kIn T.kC (run_mkv T I hr J (.nil : Vals [] []) hl q0 q1)
end
/-- such an object: its address, class, dict, and what the dict holds -/
structure XR where
  a : Addr
  C : Addr
  d : Option Addr
  ps : List (Str × V)
def XObj (H : Hp) (x : XR) : Prop := H x.a = some (XV x.C x.d x.a) ∧ (x.d = none ∨ ∃ dd, x.d = some dd ∧ H dd = some (.xd x.ps))
theorem XObj.same {H H' : Hp} {x : XR} (s : Same H H') (h : XObj H x) : XObj H' x := by
  refine ⟨s _ _ h.1, ?_⟩
  rcases h.2 with h | ⟨dd, e, h⟩
  · exact .inl h
  · exact .inr ⟨dd, e, s _ _ h⟩
theorem XObj.made {H : Hp} {C d a : Addr} {ps : List (Str × V)} (nd : H d = none) (na : H a = none) (ne : a ≠ d) : Same H (upd (upd H d (.xd ps)) a (XV C (some d) a)) ∧ XObj (upd (upd H d (.xd ps)) a (XV C (some d) a)) ⟨a, C, some d, ps⟩ := by
  have na2 : (upd H d (.xd ps)) a = none := by rw [upd_ne ne]; exact na
  refine ⟨((Same.refl H).new nd).new na2, ?_, .inr ⟨d, rfl, ?_⟩⟩
  · rw [upd_same]
  · show upd (upd H d (.xd ps)) a (XV C (some d) a) d = _
    rw [upd_ne (Ne.symm ne), upd_same]
theorem XObj.made0 {H : Hp} {C a : Addr} (na : H a = none) : Same H (upd H a (XV C none a)) ∧ XObj (upd H a (XV C none a)) ⟨a, C, none, []⟩ :=
  ⟨(Same.refl H).new na, upd_same, .inl rfl⟩
/-- what reading an exception's fields and isinstance ask of its class -/
structure XKit (K : PySem.W.Frag) (C : Addr) : Prop where
  hcl : (PySem.W.clsIn K C).isSome = true
  ga : PySem.W.findIn K (.ref C) "__getattribute__" = some (some (.builtin "BaseException.__getattribute__"))
  gg : PySem.W.findIn K (.ref C) "__getattr__" = some none
  exC : PySem.W.subIn K (.ref C) (.type "BaseException") = some true
  cl : PySem.W.findIn K (.ref C) "__class__" = some (some (.builtin "object.__class__"))
  sp : PySem.W.specialIn K (.builtin "object.__class__") "__get__" = some (some (.builtin "getset_descriptor.__get__"))
  tk : PySem.W.takesIn K (.builtin "object.__class__") = some true
  mr : PySem.W.mroIn K C (.type "object") = some true
  hd : PySem.W.hasDictIn K C = true
def XKit.ok (K : PySem.W.Frag) (C : Addr) : Bool := (PySem.W.clsIn K C).isSome && (He.eqO (PySem.W.findIn K (.ref C) "__getattribute__") (some (some (.builtin "BaseException.__getattribute__"))) && (He.eqO (PySem.W.findIn K (.ref C) "__getattr__") (some none) &&
  (decide (PySem.W.subIn K (.ref C) (.type "BaseException") = some true) && (He.eqO (PySem.W.findIn K (.ref C) "__class__") (some (some (.builtin "object.__class__"))) && (He.eqO (PySem.W.specialIn K (.builtin "object.__class__") "__get__") (some (some (.builtin "getset_descriptor.__get__"))) &&
  (decide (PySem.W.takesIn K (.builtin "object.__class__") = some true) && (decide (PySem.W.mroIn K C (.type "object") = some true) && PySem.W.hasDictIn K C)))))))
theorem XKit.of {K : PySem.W.Frag} {C : Addr} (c : XKit.ok K C = true) : XKit K C := by
  unfold XKit.ok at c
  obtain ⟨c0, c⟩ := He.ba c
  obtain ⟨c1, c⟩ := He.ba c
  obtain ⟨c2, c⟩ := He.ba c
  obtain ⟨c3, c⟩ := He.ba c
  obtain ⟨c4, c⟩ := He.ba c
  obtain ⟨c5, c⟩ := He.ba c
  obtain ⟨c6, c⟩ := He.ba c
  obtain ⟨c7, c8⟩ := He.ba c
  exact ⟨c0, He.eqO_ok c1, He.eqO_ok c2, of_decide_eq_true c3, He.eqO_ok c4, He.eqO_ok c5, of_decide_eq_true c6, of_decide_eq_true c7, c8⟩
section
variable {X : Cx}
theorem x_inst {pins : List (Addr × Obj)} {σ : L2.St} {H : Hp} {s : Shared} (I : Inv X pins σ H s) {x : XR} (h : XObj H x) : ∃ (ox : Obj) (od : Option Obj), PySem.W.InstAt s.heap x.a ox x.C od ∧
    (∀ dd ps, x.d = some dd → H dd = some (.xd ps) → ∃ (mA : Str → Option Value) (o : Obj), od = some o ∧ (∀ f, PySem.W.lookIn f o = some (mA f)) ∧ ∀ f, RelO (ps.lookup f) (mA f)) := by
  obtain ⟨⟨oe, vs, e, z, hd⟩, _, _⟩ := (show ObjOk X.prog X.w H s.heap x.a (XV x.C x.d x.a) from I.hok _ _ h.1)
  rcases h.2 with hn | ⟨dd, ed, hx⟩
  · refine ⟨oe, none, ⟨e, z.1, by unfold PySem.W.notCls; rw [hd] <;> rfl, by rw [z.2, hn]; trivial⟩, fun dd ps h2 => ?_⟩
    rw [hn] at h2; cases h2
  · obtain ⟨mA, hns, hr⟩ := (show ObjOk X.prog X.w H s.heap dd (.xd x.ps) from I.hok dd _ hx)
    obtain ⟨od, ho, hl⟩ := lookIn_ns hns
    refine ⟨oe, some od, ⟨e, z.1, by unfold PySem.W.notCls; rw [hd] <;> rfl, by rw [z.2, ed]; exact ho⟩, fun dd2 ps h2 h3 => ?_⟩
    rw [ed] at h2
    cases h2
    rw [hx] at h3
    cases h3
    exact ⟨mA, od, rfl, hl, hr⟩
def rIsX (K : PySem.W.Frag) : List V → Hp → VK → Prop := fun xs H Q => ∃ (x : XR) (c : V) (u : Value) (b : Bool), xs = [.ref x.a, c] ∧ ClsV c u ∧ XObj H x ∧ XKit K x.C ∧ PySem.W.kitOne K (.ref x.C) u = some b ∧ Q (.bl b) H
theorem call_isX : CallR X (.builtin "isinstance") (rIsX X.K) := by
  intro pins s σ H xs us Q I r h
  obtain ⟨x, c, u, b, rfl, k, hx, T, e, q⟩ := h
  obtain ⟨u1, u2, rfl, r1, r2⟩ := vals2 r
  cases (show u1 = Value.ref x.a from r1)
  have e2 := k.eq r2
  subst e2
  obtain ⟨ox, od, J, _⟩ := x_inst I hx
  exact PySem.W.kia_one (PySem.W.kitx_exc T.hcl T.ga T.gg T.exC T.cl T.sp T.tk T.mr) I.kIn J e (fun z => nomatch z) fun tk => ⟨.bl b, H, I.tok tk, rfl, q⟩
def tXf (K : PySem.W.Frag) (f : Str) (te : TE) : TE := fun σ H Q => te σ H fun y H1 => ∃ (x : XR) (v : V), y = .ref x.a ∧ XObj H1 x ∧ XKit K x.C ∧ PySem.W.findIn K (.ref x.C) f = some none ∧ x.d ≠ none ∧ x.ps.lookup f = some v ∧ Q v H1
theorem pe_xf {e : Expr} {te : TE} {pos : Pos} {f : Str} (he : PE X e te) (hb : attributeBase e f X.env (eval e X.env) = eval e X.env := by rfl) : PE X (.Attribute e f pos) (tXf X.K f te) := by
  refine ⟨fun pins s σ H Q I h => ?_⟩
  refine attr_of hb (thn (he.run pins s σ H _ I h) fun u s1 hh => ?_)
  obtain ⟨y, H1, I1, rx, x, v, ey, hx, T, hn, hd, l, q⟩ := hh
  subst ey
  obtain rfl : u = Value.ref x.a := rx
  obtain ⟨ox, od, J, hJ⟩ := x_inst I1 hx
  rcases hx.2 with h0 | ⟨dd, ed, hxd⟩
  · exact absurd h0 hd
  obtain ⟨mA, o, eo, hl, hr⟩ := hJ dd x.ps ed hxd
  subst eo
  obtain ⟨u, hu, ru⟩ := RelO.some_of (v := v) (o := mA f) (by rw [← l]; exact hr f)
  exact HandSPX.exc_get I1.kIn J T.ga T.gg T.exC (PySem.W.findObj_own T.hd hn rfl (by rw [hl, hu])) (handed_of ru) ⟨v, H1, I1.tok _, ru, q⟩
end
end M

namespace M
open PySem PySem.Spec PyProof.Rows L2
/-! ### _law_sorted's mathematics: put in behind all that are less -/
section
variable {α : Type} {lt : α → α → Bool}
def insC (lt : α → α → Bool) (x : α) (acc : List α) : List α := acc.take (acc.countP fun o => lt o x) ++ x :: acc.drop (acc.countP fun o => lt o x)
def srt (lt : α → α → Bool) (l : List α) : List α := l.foldl (fun acc x => insC lt x acc) []
theorem insC_perm (x : α) (acc : List α) : (insC lt x acc).Perm (x :: acc) := by
  unfold insC
  refine List.perm_middle.trans ?_
  rw [List.take_append_drop]
theorem srt_fold_perm : ∀ (l acc : List α), (l.foldl (fun acc x => insC lt x acc) acc).Perm (l ++ acc)
  | [], acc => .refl _
  | x :: r, acc => by
    show (r.foldl _ (insC lt x acc)).Perm _
    refine (srt_fold_perm r _).trans ?_
    refine ((insC_perm x acc).append_left r).trans ?_
    show (r ++ x :: acc).Perm (x :: (r ++ acc))
    exact List.perm_middle
theorem srt_perm (l : List α) : (srt lt l).Perm l := by
  have := srt_fold_perm (lt := lt) l []
  rwa [List.append_nil] at this
abbrev Up (lt : α → α → Bool) (l : List α) : Prop := l.Pairwise fun a b => lt b a = false
/-- in a list that goes up, those below x stand first -/
theorem up_split {S : α → Prop} (O : Ord lt S) {x : α} (hx : S x) : ∀ {l : List α}, (∀ a ∈ l, S a) → Up lt l → (∀ a ∈ l.take (l.countP fun o => lt o x), lt a x = true) ∧ ∀ a ∈ l.drop (l.countP fun o => lt o x), lt a x = false
  | [], _, _ => ⟨fun a h => by simp at h, fun a h => by simp at h⟩
  | e :: r, hs, hu => by
    have hu' := List.pairwise_cons.mp hu
    have ih := up_split O hx (l := r) (fun a h => hs a (List.mem_cons_of_mem _ h)) hu'.2
    cases q : lt e x with
    | true =>
      rw [List.countP_cons_of_pos (by exact q)]
      refine ⟨fun a h => ?_, fun a h => ?_⟩
      · rw [List.take_succ_cons] at h
        rcases List.mem_cons.mp h with rfl | h
        · exact q
        · exact ih.1 a h
      · rw [List.drop_succ_cons] at h
        exact ih.2 a h
    | false =>
      have hall : ∀ a ∈ r, lt a x = false := fun a h => O.nlt_tr (hs a (List.mem_cons_of_mem _ h)) (hs e List.mem_cons_self) hx (hu'.1 a h) q
      have h0 : (e :: r).countP (fun o => lt o x) = 0 := List.countP_eq_zero.mpr fun a h => by
        rcases List.mem_cons.mp h with rfl | h
        · rw [q]; decide
        · rw [hall a h]; decide
      rw [h0]
      refine ⟨fun a h => by simp at h, fun a h => ?_⟩
      rw [List.drop_zero] at h
      rcases List.mem_cons.mp h with rfl | h
      · exact q
      · exact hall a h
theorem insC_up {S : α → Prop} (O : Ord lt S) {x : α} (hx : S x) {l : List α} (hs : ∀ a ∈ l, S a) (hu : Up lt l) : Up lt (insC lt x l) := by
  obtain ⟨h1, h2⟩ := up_split O hx hs hu
  have hu2 : Up lt (l.take (l.countP fun o => lt o x) ++ l.drop (l.countP fun o => lt o x)) := by rw [List.take_append_drop]; exact hu
  obtain ⟨p1, p2, p3⟩ := List.pairwise_append.mp hu2
  unfold insC
  refine List.pairwise_append.mpr ⟨p1, List.pairwise_cons.mpr ⟨h2, p2⟩, fun a ha b hb => ?_⟩
  rcases List.mem_cons.mp hb with rfl | hb
  · cases q : lt b a with
    | false => rfl
    | true =>
      have := O.tr b a b hx (hs a (List.mem_of_mem_take ha)) hx q (h1 a ha)
      rw [O.irr b hx] at this
      cases this
  · exact p3 a ha b hb
theorem srt_fold_up {S : α → Prop} (O : Ord lt S) : ∀ {l acc : List α}, (∀ a ∈ l, S a) → (∀ a ∈ acc, S a) → Up lt acc → Up lt (l.foldl (fun acc x => insC lt x acc) acc)
  | [], _, _, _, h => h
  | x :: r, acc, hl, ha, h => by
    refine srt_fold_up O (l := r) (acc := insC lt x acc) (fun a h => hl a (List.mem_cons_of_mem _ h)) (fun a h => ?_) (insC_up O (hl x List.mem_cons_self) ha h)
    rcases List.mem_cons.mp ((insC_perm x acc).mem_iff.mp h) with rfl | h
    · exact hl _ List.mem_cons_self
    · exact ha a h
theorem srt_up {S : α → Prop} (O : Ord lt S) {l : List α} (hl : ∀ a ∈ l, S a) : Up lt (srt lt l) := srt_fold_up O hl (fun _ h => by cases h) .nil
theorem srt_asc {S : α → Prop} (O : Ord lt S) {l m : List α} (hl : ∀ a ∈ l, S a) (p : l.Perm m) : srt lt l = asc lt m := by
  refine up_unique O (fun a h => hl a ((srt_perm l).mem_iff.mp h)) ((srt_perm l).trans (p.trans (asc_perm lt m).symm)) (srt_up O hl) (asc_up O fun a h => hl a (p.mem_iff.mpr h))
end
/-! ### < of rows of data is an order where the rows differ in their signs -/
theorem ordD {S : PyData → Prop} (inj : ∀ a b, S a → S b → PySem.W.keyToks a = PySem.W.keyToks b → a = b) : Ord PySem.W.dataLt S where
  irr := fun a _ => PyProof.Rows.lex_irrefl _
  tr := fun a b c _ _ _ h1 h2 => PyProof.Rows.lex_trans _ _ _ h1 h2
  tot := fun a b ha hb => by
    cases h1 : PySem.W.dataLt a b with
    | true => exact .inl rfl
    | false =>
      cases h2 : PySem.W.dataLt b a with
      | true => exact .inr (.inr rfl)
      | false => exact .inr (.inl (inj a b ha hb (PyProof.Rows.lex_total _ _ h1 h2)))
end M

namespace M
open PySem PySem.Spec PyProof.Rows L2
/-! ### lists of things laid out in the heap -/
structure Pw {α : Type} (R : V → α → Prop) (vs : List V) (xs : List α) : Prop where
  len : vs.length = xs.length
  at_ : ∀ (i : Nat) v x, vs[i]? = some v → xs[i]? = some x → R v x
section
variable {α : Type} {R R' : V → α → Prop} {vs : List V} {xs : List α}
theorem Pw.nil : Pw R [] [] := ⟨rfl, fun _ _ _ h => by simp at h⟩
theorem Pw.mono (h : ∀ v x, R v x → R' v x) (p : Pw R vs xs) : Pw R' vs xs := ⟨p.len, fun i v x a b => h v x (p.at_ i v x a b)⟩
theorem Pw.get (p : Pw R vs xs) {i : Nat} {v : V} (h : vs[i]? = some v) : ∃ x, xs[i]? = some x ∧ R v x := by
  have hi : i < xs.length := by
    rw [← p.len]
    exact (List.getElem?_eq_some_iff.mp h).1
  exact ⟨xs[i], List.getElem?_eq_getElem hi, p.at_ i v _ h (List.getElem?_eq_getElem hi)⟩
theorem Pw.getR (p : Pw R vs xs) {i : Nat} {x : α} (h : xs[i]? = some x) : ∃ v, vs[i]? = some v ∧ R v x := by
  have hi : i < vs.length := by
    rw [p.len]
    exact (List.getElem?_eq_some_iff.mp h).1
  exact ⟨vs[i], List.getElem?_eq_getElem hi, p.at_ i _ x (List.getElem?_eq_getElem hi) h⟩
theorem Pw.snoc (p : Pw R vs xs) {v : V} {x : α} (h : R v x) : Pw R (vs ++ [v]) (xs ++ [x]) := by
  refine ⟨by rw [List.length_append, List.length_append, p.len]; rfl, fun i v' x' h1 h2 => ?_⟩
  by_cases hi : i < vs.length
  · rw [List.getElem?_append_left hi] at h1
    rw [List.getElem?_append_left (by rw [← p.len]; exact hi)] at h2
    exact p.at_ i _ _ h1 h2
  · rw [List.getElem?_append_right (by omega)] at h1
    rw [List.getElem?_append_right (by rw [← p.len]; omega)] at h2
    have e1 : i - vs.length = 0 := by
      have := (List.getElem?_eq_some_iff.mp h1).1
      simp at this
      omega
    rw [e1] at h1
    rw [← p.len, e1] at h2
    simp at h1 h2
    rw [← h1, ← h2]
    exact h
theorem Pw.mem (p : Pw R vs xs) : ∀ z ∈ vs.zip xs, R z.1 z.2 := fun z hz => by
  obtain ⟨i, hi, e⟩ := List.getElem_of_mem hz
  have h1 : i < vs.length := by rw [List.length_zip] at hi; omega
  have h2 : i < xs.length := by rw [List.length_zip] at hi; omega
  have e1 : (vs.zip xs)[i] = (vs[i], xs[i]) := List.getElem_zip
  rw [e1] at e
  rw [← e]
  exact p.at_ i _ _ (List.getElem?_eq_getElem h1) (List.getElem?_eq_getElem h2)
theorem Pw.of_zip {zs : List (V × α)} (h : ∀ z ∈ zs, R z.1 z.2) : Pw R (zs.map (·.1)) (zs.map (·.2)) := by
  refine ⟨by rw [List.length_map, List.length_map], fun i v x h1 h2 => ?_⟩
  rw [List.getElem?_map] at h1 h2
  cases e : zs[i]? with
  | none => rw [e] at h1; cases h1
  | some z =>
    rw [e] at h1 h2
    cases h1; cases h2
    exact h z (List.mem_of_getElem? e)
theorem Pw.fst (p : Pw R vs xs) : (vs.zip xs).map (·.1) = vs := by
  rw [List.map_fst_zip]
  rw [p.len]
  exact Nat.le_refl _
theorem Pw.snd (p : Pw R vs xs) : (vs.zip xs).map (·.2) = xs := by
  rw [List.map_snd_zip]
  rw [p.len]
  exact Nat.le_refl _
end
theorem insC_map {α β : Type} {lt : α → α → Bool} {lt2 : β → β → Bool} {f : α → β} (h : ∀ a b, lt2 (f a) (f b) = lt a b) (x : α) (l : List α) : insC lt2 (f x) (l.map f) = (insC lt x l).map f := by
  unfold insC
  have e : (l.map f).countP (fun o => lt2 o (f x)) = l.countP (fun o => lt o x) := by
    rw [List.countP_map]
    exact congrArg (fun g => List.countP g l) (funext fun o => h o x)
  rw [e, List.map_append, List.map_cons, List.map_take, List.map_drop]
theorem srt_foldmap {α β : Type} {lt : α → α → Bool} {lt2 : β → β → Bool} {f : α → β} (h : ∀ a b, lt2 (f a) (f b) = lt a b) : ∀ l acc : List α, (l.map f).foldl (fun acc x => insC lt2 x acc) (acc.map f) = (l.foldl (fun acc x => insC lt x acc) acc).map f
  | [], _ => rfl
  | x :: r, acc => by
    show (r.map f).foldl _ (insC lt2 (f x) (acc.map f)) = _
    rw [insC_map h x acc]
    exact srt_foldmap h r _
theorem srt_map {α β : Type} {lt : α → α → Bool} {lt2 : β → β → Bool} {f : α → β} (h : ∀ a b, lt2 (f a) (f b) = lt a b) (l : List α) : srt lt2 (l.map f) = (srt lt l).map f := srt_foldmap h l []
/-- what a list's things are as data -/
def ltA {α : Type} (D : α → PyData) (a b : α) : Bool := PySem.W.dataLt (D a) (D b)
section
variable {α : Type} {R : V → α → Prop} {vs : List V} {xs : List α} {D : α → PyData}
def zd (D : α → PyData) (zs : List (V × α)) : List (V × PyData) := zs.map fun z => (z.1, D z.2)
theorem zd_fst (p : Pw R vs xs) : (zd D (vs.zip xs)).map (·.1) = vs := by
  unfold zd
  rw [List.map_map]
  exact p.fst
theorem zd_mem {q : V × PyData} (h : q ∈ zd D (vs.zip xs)) (p : Pw R vs xs) : ∃ x ∈ xs, q.2 = D x ∧ R q.1 x := by
  obtain ⟨z, hz, rfl⟩ := List.mem_map.mp h
  exact ⟨z.2, (List.of_mem_zip hz).2, rfl, p.mem z hz⟩
theorem zd_len (p : Pw R vs xs) : (zd D (vs.zip xs)).length = xs.length := by
  unfold zd
  rw [List.length_map, List.length_zip, p.len, Nat.min_self]
theorem Pw.asc (p : Pw R vs xs) : Pw R ((asc ltP (zd D (vs.zip xs))).map (·.1)) (M.asc (ltA D) xs) := by
  have e1 : M.asc ltP (zd D (vs.zip xs)) = zd D (M.asc (fun a b : V × α => ltA D a.2 b.2) (vs.zip xs)) := asc_map (f := fun z : V × α => (z.1, D z.2)) (fun a b => rfl) _
  have e2 : M.asc (ltA D) xs = (M.asc (fun a b : V × α => ltA D a.2 b.2) (vs.zip xs)).map (·.2) := by
    rw [← asc_map (lt2 := ltA D) (f := fun z : V × α => z.2) (fun a b => rfl), p.snd]
  rw [e1, e2]
  unfold zd
  rw [List.map_map]
  exact Pw.of_zip fun z hz => p.mem z ((asc_perm _ _).mem_iff.mp hz)
theorem Pw.srt (p : Pw R vs xs) : Pw R ((srt ltP (zd D (vs.zip xs))).map (·.1)) (M.srt (ltA D) xs) := by
  have e1 : M.srt ltP (zd D (vs.zip xs)) = zd D (M.srt (fun a b : V × α => ltA D a.2 b.2) (vs.zip xs)) := srt_map (f := fun z : V × α => (z.1, D z.2)) (fun a b => rfl) _
  have e2 : M.srt (ltA D) xs = (M.srt (fun a b : V × α => ltA D a.2 b.2) (vs.zip xs)).map (·.2) := by
    rw [← srt_map (lt2 := ltA D) (f := fun z : V × α => z.2) (fun a b => rfl), p.snd]
  rw [e1, e2]
  unfold zd
  rw [List.map_map]
  exact Pw.of_zip fun z hz => p.mem z ((srt_perm _).mem_iff.mp hz)
end
/-- a list at a of things told by R -/
def LsA {α : Type} (R : Hp → V → α → Prop) (H : Hp) (a : Addr) (xs : List α) : Prop := ∃ vs, H a = some (.lst vs) ∧ Pw (R H) vs xs
/-- a way of telling that new objects don't disturb -/
def Stay {α : Type} (R : Hp → V → α → Prop) : Prop := ∀ H H' v x, Same H H' → R H v x → R H' v x
theorem LsA.same {α : Type} {R : Hp → V → α → Prop} (st : Stay R) {H H' : Hp} {a : Addr} {xs : List α} (s : Same H H') (h : LsA R H a xs) : LsA R H' a xs := by
  obtain ⟨vs, e, p⟩ := h
  exact ⟨vs, s _ _ e, p.mono fun v x => st H H' v x s⟩
/-! ### histories -/
abbrev Itv := Str × Int
abbrev Ent := Str × List Itv × List Itv
def PrA (H : Hp) (v : V) (x : Itv) : Prop := ∃ t, v = .ref t ∧ H t = some (.tup [.str x.1, .int x.2])
theorem stPr : Stay PrA := fun H H' v x s ⟨t, e, h⟩ => ⟨t, e, s _ _ h⟩
def EnA (H : Hp) (v : V) (e : Ent) : Prop := ∃ t r w, v = .ref t ∧ H t = some (.tup [.str e.1, .ref r, .ref w]) ∧ LsA PrA H r e.2.1 ∧ LsA PrA H w e.2.2
theorem stEn : Stay EnA := fun H H' v x s ⟨t, r, w, e, h, h1, h2⟩ => ⟨t, r, w, e, s _ _ h, h1.same stPr s, h2.same stPr s⟩
abbrev HsA (H : Hp) (a : Addr) (hs : List Ent) : Prop := LsA EnA H a hs
/-! ### a list that grows while its things stand elsewhere -/
theorem delH_upd {H : Hp} {D : Addr} {o : HO} : delH (upd H D o) D = delH H D := by
  funext b
  by_cases e : b = D
  · rw [e, delH_same, delH_same]
  · rw [delH_ne e, delH_ne e, upd_ne e]
theorem same_del {H H' : Hp} {D : Addr} (s : Same H H') (h : H D = none) : Same H (delH H' D) := fun b o e => by
  rw [delH_ne (ne_of_none e h)]
  exact s b o e
theorem same_del2 {H H' : Hp} {D : Addr} (s : Same H H') : Same (delH H D) (delH H' D) := fun b o e => by
  by_cases hb : b = D
  · rw [hb, delH_same] at e; cases e
  · rw [delH_ne hb] at e ⊢
    exact s b o e
theorem del_same {H : Hp} {D : Addr} : Same (delH H D) H := fun b o e => by
  by_cases hb : b = D
  · rw [hb, delH_same] at e; cases e
  · rw [delH_ne hb] at e
    exact e
def rLof (K : PySem.W.Frag) : List V → Hp → VK → Prop := fun xs H Q => ∃ p ys, xs = [V.ref p] ∧ (SqL K H p ys ∨ SqT K H p ys) ∧ ∀ l, H l = none → Q (V.ref l) (upd H l (.lst ys))
theorem call_list_ofK {X : Cx} : CallR X (.type "list") (rLof X.K) := call_list_of
/-- the list at L, that grows: what it holds is told by R and stands elsewhere -/
structure GS {α : Type} (R : Hp → V → α → Prop) (H0 : Hp) (L : Addr) (H : Hp) (vs : List V) (xs : List α) : Prop where
  s : Same H0 H
  hL : H L = some (.lst vs)
  pw : Pw (R (delH H L)) vs xs
section
variable {α : Type} {R : Hp → V → α → Prop} {H0 H H' : Hp} {L T : Addr} {vs : List V} {xs : List α} {v : V} {x : α} {o : HO}
theorem GS.start (h : H0 L = none) : GS R H0 L (upd H0 L (.lst [])) [] [] := ⟨(Same.refl H0).new h, upd_same, Pw.nil⟩
theorem GS.same (st : Stay R) (f : GS R H0 L H vs xs) (z : Same H H') : GS R H0 L H' vs xs := ⟨f.s.trans z, z _ _ f.hL, f.pw.mono fun v x => st _ _ v x (same_del2 z)⟩
theorem GS.new (st : Stay R) (f : GS R H0 L H vs xs) (n : H T = none) : GS R H0 L (upd H T o) vs xs := f.same st ((Same.refl H).new n)
theorem GS.app (f : GS R H0 L H vs xs) (h0 : H0 L = none) (h : R (delH H L) v x) : GS R H0 L (upd H L (.lst (vs ++ [v]))) (vs ++ [v]) (xs ++ [x]) :=
  ⟨f.s.mut h0, upd_same, by rw [delH_upd]; exact f.pw.snoc h⟩
theorem GS.done (st : Stay R) (f : GS R H0 L H vs xs) : LsA R H L xs := ⟨vs, f.hL, f.pw.mono fun v x => st _ _ v x del_same⟩
/-- a new tuple stands elsewhere -/
theorem GS.del (f : GS R H0 L H vs xs) {ys : List V} (h : H T = some (.tup ys)) : delH H L T = some (.tup ys) := by
  rw [delH_ne (fun e => by rw [e, f.hL] at h; cases h)]
  exact h
end
theorem at_at {l : List V} {i : Nat} {v : V} (h : l[i]? = some v) : atI l (i : Int) = some v := atI_nat h
theorem mem_Pr {K : PySem.W.Frag} {H : Hp} {a : Addr} {xs : List Itv} (h : LsA PrA H a xs) : Dp K H (.ref a) (.list (xs.map fun x => .tuple [.str x.1, .int x.2])) := by
  obtain ⟨vs, e, p⟩ := h
  refine .lst (SqL.of e) ?_
  clear e
  induction xs generalizing vs with
  | nil =>
    have := p.len
    cases vs with
    | nil => exact .nil
    | cons v vs => cases this
  | cons x xs ih =>
    cases vs with
    | nil => have := p.len; cases this
    | cons v vs =>
      refine .cons ?_ (ih vs ⟨by have := p.len; simpa using this, fun i v' x' h1 h2 => p.at_ (i + 1) v' x' (by simpa using h1) (by simpa using h2)⟩)
      obtain ⟨t, rfl, ht⟩ := p.at_ 0 v x rfl rfl
      exact .tup (.inl (.inl ht)) (.cons (.str _) (.cons (.int _) .nil))
def itD (x : Itv) : PyData := .tuple [.str x.1, .int x.2]
theorem itD_eqv (x y : Itv) : PyData.eqv (itD x) (itD y) = decide (x = y) := by
  have e1 : PyData.eqv (.str x.1) (.str y.1) = decide (x.1 = y.1) := by
    rw [PyData.eqv]
    by_cases h : x.1 = y.1
    · rw [h, decide_eq_true rfl]; exact beq_self_eq_true y.1
    · rw [decide_eq_false h]; exact beq_false_of_ne h
  have e2 : PyData.eqv (.int x.2) (.int y.2) = decide (x.2 = y.2) := by
    rw [PyData.eqv]
    by_cases h : x.2 = y.2
    · rw [h, decide_eq_true rfl]; exact beq_self_eq_true y.2
    · rw [decide_eq_false h]; exact beq_false_of_ne h
  unfold itD
  rw [PyData.eqv, PyData.eqvAll, PyData.eqvAll, PyData.eqvAll, e1, e2]
  rw [Bool.eq_iff_iff]
  simp [Prod.ext_iff]
theorem it_any (x : Itv) (l : List Itv) : (l.map itD).any (fun z => PyData.eqv z (itD x)) = decide (x ∈ l) := by
  rw [List.any_map, Bool.eq_iff_iff, List.any_eq_true, decide_eq_true_iff]
  constructor
  · rintro ⟨y, hy, e⟩
    have e' : PyData.eqv (itD y) (itD x) = true := e
    rw [itD_eqv] at e'
    rw [← of_decide_eq_true e']
    exact hy
  · intro h
    exact ⟨x, h, by show PyData.eqv (itD x) (itD x) = true; rw [itD_eqv]; exact decide_eq_true rfl⟩
theorem it_shaped {x : Itv} (h : PyData.strOk x.1 = true) : SeqAt.shaped (itD x) = true := by
  unfold SeqAt.shaped itD
  rw [PyData.canLay0, PyData.canLayAll0, PyData.canLayAll0, PyData.canLayAll0, PyData.canLay0, PyData.canLay0, h]
  rfl
theorem its_lay : ∀ {l : List Itv}, (∀ x ∈ l, PyData.strOk x.1 = true) → PyData.canLayAll0 (l.map itD) = true ∧ PyData.depthAll (l.map itD) ≤ 2
  | [], _ => ⟨rfl, Nat.zero_le _⟩
  | x :: l, h => by
    obtain ⟨i1, i2⟩ := its_lay (l := l) fun y hy => h y (List.mem_cons_of_mem _ hy)
    have hx := h x List.mem_cons_self
    refine ⟨?_, ?_⟩
    · rw [List.map_cons, PyData.canLayAll0, i1]
      unfold itD
      rw [PyData.canLay0, PyData.canLayAll0, PyData.canLayAll0, PyData.canLayAll0, PyData.canLay0, PyData.canLay0, hx]
      rfl
    · rw [List.map_cons, PyData.depthAll]
      have : (itD x).depth = 1 := by simp [itD, PyData.depth, PyData.depthAll]
      omega
theorem its_shaped {l : List Itv} (h : ∀ x ∈ l, PyData.strOk x.1 = true) : SeqAt.shaped (.list (l.map itD)) = true := by
  unfold SeqAt.shaped
  obtain ⟨h1, h2⟩ := its_lay h
  rw [PyData.canLay0, PyData.depth, h1, decide_eq_true (by omega)]
  rfl
theorem hu65 {A : Around} {k : Nat} (hr : Room k A) : A.units + 65 < cLine := by have := hr.un; omega
end M

namespace M
open PySem PySem.Spec PyProof.Rows L2
/-! ### a table of objects: what stands at which address, all else as it was in H0 -/
structure Hx (H0 H : Hp) (l : List (Addr × HO)) : Prop where
  at_ : ∀ z ∈ l, H z.1 = some z.2
  nd : (l.map (·.1)).Nodup
  fr : ∀ b o, H0 b = some o → (∀ z ∈ l, z.1 ≠ b) → H b = some o
section
variable {H0 H H' : Hp} {l : List (Addr × HO)} {T a : Addr} {o o' : HO}
theorem Hx.refl (H0 : Hp) : Hx H0 H0 [] := ⟨fun z h => (by cases h), List.Pairwise.nil, fun _ _ h _ => h⟩
theorem Hx.same (x : Hx H0 H l) (s : Same H H') : Hx H0 H' l := ⟨fun z h => s _ _ (x.at_ z h), x.nd, fun b o h n => s _ _ (x.fr b o h n)⟩
theorem Hx.new (x : Hx H0 H l) (n : H T = none) : Hx H0 (upd H T o) l := x.same ((Same.refl H).new n)
theorem Hx.get (x : Hx H0 H l) (i : Nat) (h : l[i]? = some (a, o)) : H a = some o := x.at_ _ (List.mem_of_getElem? h)
theorem Hx.ne (x : Hx H0 H l) (n : H T = none) (i : Nat) (h : l[i]? = some (a, o)) : a ≠ T := ne_of_none (x.get i h) n
/-- an object known already -/
theorem Hx.own (x : Hx H0 H l) (h : H a = some o) (n : ∀ z ∈ l, z.1 ≠ a) : Hx H0 H ((a, o) :: l) := by
  refine ⟨fun z hz => ?_, ?_, fun b u hb nb => x.fr b u hb fun z hz => nb z (List.mem_cons_of_mem _ hz)⟩
  · rcases List.mem_cons.mp hz with rfl | hz
    · exact h
    · exact x.at_ z hz
  · rw [List.map_cons]
    refine List.nodup_cons.mpr ⟨fun h => ?_, x.nd⟩
    obtain ⟨z, hz, e⟩ := List.mem_map.mp h
    exact n z hz e
theorem Hx.fresh (x : Hx H0 H l) (n : H T = none) : H0 T = none := by
  cases q : H0 T with
  | none => rfl
  | some o =>
    have := x.fr T o q fun z hz => ne_of_none (x.at_ z hz) n
    rw [n] at this
    cases this
theorem Hx.out (x : Hx H0 H l) (n : H T = none) : T ∉ l.map (·.1) := fun h => by
  obtain ⟨z, hz, e⟩ := List.mem_map.mp h
  exact ne_of_none (x.at_ z hz) n e
theorem Hx.push (x : Hx H0 H l) (n : H T = none) : Hx H0 (upd H T o) ((T, o) :: l) :=
  (x.new n).own upd_same fun z hz => ne_of_none (x.at_ z hz) n
theorem Hx.set (x : Hx H0 H l) (i : Nat) (h : l[i]? = some (a, o)) : Hx H0 (upd H a o') (l.set i (a, o')) := by
  have hi := (List.getElem?_eq_some_iff.mp h).1
  have hai : l[i] = (a, o) := (List.getElem?_eq_some_iff.mp h).2
  have key : ∀ (j : Nat) (hj : j < l.length), j ≠ i → (l[j]).1 ≠ a := fun j hj ne e => by
    have h1 : (l.map (·.1))[j]'(by rw [List.length_map]; exact hj) = (l.map (·.1))[i]'(by rw [List.length_map]; exact hi) := by
      rw [List.getElem_map, List.getElem_map, hai, e]
    exact ne ((List.getElem_inj x.nd).mp h1)
  refine ⟨fun z hz => ?_, ?_, fun b u hb nb => ?_⟩
  · obtain ⟨j, hj, e⟩ := List.getElem_of_mem hz
    rw [List.getElem_set] at e
    split at e
    · rw [← e, upd_same]
    · rename_i ne
      rw [List.length_set] at hj
      rw [← e, upd_ne (key j hj (fun q => ne q.symm))]
      exact x.at_ _ (List.getElem_mem _)
  · have e : (l.set i (a, o')).map (·.1) = l.map (·.1) := by
      rw [List.map_set]
      show (l.map (·.1)).set i a = _
      have hi2 : i < (l.map (·.1)).length := by rw [List.length_map]; exact hi
      have e2 : (l.map (·.1))[i] = a := by rw [List.getElem_map, hai]
      conv => lhs; rw [← e2]
      exact List.set_getElem_self hi2
    rw [e]
    exact x.nd
  · have hm : (a, o') ∈ l.set i (a, o') := List.mem_set hi _
    rw [upd_ne (Ne.symm (nb _ hm))]
    refine x.fr b u hb fun z hz e => ?_
    obtain ⟨j, hj, ez⟩ := List.getElem_of_mem hz
    by_cases q : j = i
    · subst q
      rw [hai] at ez
      exact nb _ hm (by rw [← e, ← ez])
    · exact nb (l[j]) (List.mem_iff_getElem.mpr ⟨j, by rw [List.length_set]; exact hj, by rw [List.getElem_set, if_neg (Ne.symm q)]⟩) (by rw [ez, e])
/-- the last pushed is forgotten (it stays where it is) -/
theorem Hx.pop {z : Addr × HO} (x : Hx H0 H (z :: l)) (h0 : H0 z.1 = none) : Hx H0 H l :=
  ⟨fun y h => x.at_ y (List.mem_cons_of_mem _ h), (List.nodup_cons.mp x.nd).2, fun b o hb nb => x.fr b o hb fun y hy => by
    rcases List.mem_cons.mp hy with rfl | hy
    · exact fun e => by rw [e, hb] at h0; cases h0
    · exact nb y hy⟩
end
/-! ### what stands outside a table -/
def cut (H : Hp) (A : List Addr) : Hp := fun b => if b ∈ A then none else H b
theorem cut_in {H : Hp} {A : List Addr} {b : Addr} (h : b ∈ A) : cut H A b = none := if_pos h
theorem cut_out {H : Hp} {A : List Addr} {b : Addr} (h : b ∉ A) : cut H A b = H b := if_neg h
theorem cut_upd {H : Hp} {A : List Addr} {a : Addr} {o : HO} (h : a ∈ A) : cut (upd H a o) A = cut H A := by
  funext b
  by_cases e : b ∈ A
  · rw [cut_in e, cut_in e]
  · rw [cut_out e, cut_out e, upd_ne (fun q => e (by rw [q]; exact h))]
theorem cut_same {H H' : Hp} {A : List Addr} (s : Same H H') : Same (cut H A) (cut H' A) := fun b o e => by
  by_cases q : b ∈ A
  · rw [cut_in q] at e; cases e
  · rw [cut_out q] at e ⊢; exact s b o e
theorem cut_push {H : Hp} {A : List Addr} {T : Addr} {o : HO} (n : H T = none) : Same (cut H A) (cut (upd H T o) (T :: A)) := fun b u e => by
  by_cases q : b ∈ A
  · rw [cut_in q] at e; cases e
  · rw [cut_out q] at e
    have ne := ne_of_none e n
    rw [cut_out (fun z => (List.mem_cons.mp z).elim ne q), upd_ne ne]
    exact e
theorem cut_pop {H : Hp} {A : List Addr} {T : Addr} : Same (cut H (T :: A)) (cut H A) := fun b u e => by
  by_cases q : b ∈ T :: A
  · rw [cut_in q] at e; cases e
  · rw [cut_out q] at e
    rw [cut_out (fun z => q (List.mem_cons_of_mem _ z))]
    exact e
theorem cut_all {H : Hp} {A : List Addr} : Same (cut H A) H := fun b u e => by
  by_cases q : b ∈ A
  · rw [cut_in q] at e; cases e
  · rw [cut_out q] at e; exact e
theorem cut_of {H0 H : Hp} {A : List Addr} (s : ∀ b o, H0 b = some o → b ∉ A → H b = some o) (h : ∀ a ∈ A, H0 a = none) : Same H0 (cut H A) := fun b u e => by
  have q : b ∉ A := fun z => by rw [h b z] at e; cases e
  rw [cut_out q]
  exact s b u e q
end M

namespace M
open PySem PySem.Spec PyProof.Rows L2
/-! ### a list laid out in the heap, as data -/
section
variable {α : Type} {K : PySem.W.Frag} {H : Hp} {a : Addr} {D : α → PyData}
theorem pw_dpAll {R : V → α → Prop} (h : ∀ v x, R v x → Dp K H v (D x)) : ∀ {vs : List V} {xs : List α}, Pw R vs xs → DpAll K H vs (xs.map D)
  | [], [], _ => .nil
  | [], _ :: _, p => absurd p.len (by simp)
  | _ :: _, [], p => absurd p.len (by simp)
  | v :: vs, x :: xs, p => .cons (h v x (p.at_ 0 v x rfl rfl)) (pw_dpAll h ⟨by have := p.len; simpa using this, fun i v' x' h1 h2 => p.at_ (i + 1) v' x' (by simpa using h1) (by simpa using h2)⟩)
theorem ls_dp {R : Hp → V → α → Prop} {xs : List α} (h : ∀ v x, R H v x → Dp K H v (D x)) (l : LsA R H a xs) : Dp K H (.ref a) (.list (xs.map D)) := by
  obtain ⟨vs, e, p⟩ := l
  exact .lst (SqL.of e) (pw_dpAll h p)
theorem lay_all {n : Nat} : ∀ {xs : List α}, (∀ x ∈ xs, (D x).canLay0 = true ∧ (D x).depth ≤ n) → PyData.canLayAll0 (xs.map D) = true ∧ PyData.depthAll (xs.map D) ≤ n
  | [], _ => ⟨rfl, Nat.zero_le _⟩
  | x :: l, h => by
    obtain ⟨i1, i2⟩ := lay_all (xs := l) fun y hy => h y (List.mem_cons_of_mem _ hy)
    obtain ⟨h1, h2⟩ := h x List.mem_cons_self
    rw [List.map_cons, PyData.canLayAll0, PyData.depthAll, i1, h1]
    exact ⟨rfl, by omega⟩
theorem ls_lay {n : Nat} {xs : List α} (h : ∀ x ∈ xs, (D x).canLay0 = true ∧ (D x).depth ≤ n) : (PyData.list (xs.map D)).canLay0 = true ∧ (PyData.list (xs.map D)).depth ≤ n + 1 := by
  obtain ⟨h1, h2⟩ := lay_all h
  rw [PyData.canLay0, PyData.depth]
  exact ⟨h1, by omega⟩
theorem shaped_of {d : PyData} (h : d.canLay0 = true ∧ d.depth ≤ 64) : SeqAt.shaped d = true := by
  unfold SeqAt.shaped
  rw [h.1, decide_eq_true h.2]
  rfl
theorem ls_shaped {n : Nat} {xs : List α} (h : ∀ x ∈ xs, (D x).canLay0 = true ∧ (D x).depth ≤ n) (hn : n ≤ 63) : SeqAt.shaped (.list (xs.map D)) = true :=
  shaped_of ⟨(ls_lay h).1, Nat.le_trans (ls_lay h).2 (by omega)⟩
end
/-! ### a history, as data -/
def enD (e : Ent) : PyData := .tuple [.str e.1, .list (e.2.1.map itD), .list (e.2.2.map itD)]
def hsD (hs : List Ent) : PyData := .list (hs.map enD)
abbrev EntOk (e : Ent) : Prop := (∀ x ∈ e.2.1, PyData.strOk x.1 = true) ∧ (∀ x ∈ e.2.2, PyData.strOk x.1 = true) ∧ PyData.strOk e.1 = true
theorem it_lay {x : Itv} (h : PyData.strOk x.1 = true) : (itD x).canLay0 = true ∧ (itD x).depth ≤ 1 := by
  refine ⟨?_, by simp [itD, PyData.depth, PyData.depthAll]⟩
  unfold itD
  rw [PyData.canLay0, PyData.canLayAll0, PyData.canLayAll0, PyData.canLayAll0, PyData.canLay0, PyData.canLay0, h]
  rfl
theorem en_dp {K : PySem.W.Frag} {H : Hp} {v : V} {e : Ent} (h : EnA H v e) : Dp K H v (enD e) := by
  obtain ⟨t, r, w, rfl, ht, hr, hw⟩ := h
  exact .tup (.inl (.inl ht)) (.cons (.str _) (.cons (mem_Pr hr) (.cons (mem_Pr hw) .nil)))
theorem hs_dp {K : PySem.W.Frag} {H : Hp} {a : Addr} {hs : List Ent} (h : HsA H a hs) : Dp K H (.ref a) (hsD hs) := ls_dp (fun v x h => en_dp h) h
theorem en_lay {e : Ent} (h : EntOk e) : (enD e).canLay0 = true ∧ (enD e).depth ≤ 3 := by
  obtain ⟨h1, h2, h3⟩ := h
  have a1 := ls_lay (D := itD) (n := 1) fun x hx => it_lay (h1 x hx)
  have a2 := ls_lay (D := itD) (n := 1) fun x hx => it_lay (h2 x hx)
  unfold enD
  rw [PyData.canLay0, PyData.canLayAll0, PyData.canLayAll0, PyData.canLayAll0, PyData.canLayAll0, PyData.depth, PyData.depthAll, PyData.depthAll, PyData.depthAll, PyData.depthAll, a1.1, a2.1, PyData.canLay0, h3]
  refine ⟨rfl, ?_⟩
  have e1 : (PyData.str e.1).depth = 0 := by rw [PyData.depth]
  rw [e1]
  omega
theorem hs_lay {hs : List Ent} (h : ∀ e ∈ hs, EntOk e) : (hsD hs).canLay0 = true ∧ (hsD hs).depth ≤ 64 := by
  obtain ⟨h1, h2⟩ := ls_lay (D := enD) (n := 3) fun e he => en_lay (h e he)
  exact ⟨h1, Nat.le_trans h2 (by decide)⟩
end M

namespace M
open PySem PySem.Spec PyProof.Rows L2
/-- what is raised: an exception of the class at C whose own dict, new, holds ps -/
def Rz (E : XK) (C : Addr) (H : Hp) (ps : List (Str × V)) : Prop := ∀ d, H d = none → E (.ref C) (some d) (upd H d (.xd ps))
theorem Hx.keep {H0 H : Hp} {l : List (Addr × HO)} (x : Hx H0 H l) (n : ∀ z ∈ l, H0 z.1 = none) : Same H0 H := fun b o e => x.fr b o e fun z hz q => by
  have := n z hz
  rw [q, e] at this
  cases this
theorem putK_len {κ : Type} [DecidableEq κ] (kvs : List (κ × V)) (k : κ) (v : V) : (putK kvs k v).length ≤ kvs.length + 1 := by
  unfold putK
  split
  · rw [List.length_map]; omega
  · rw [List.length_append]; exact Nat.le_refl _
/-! ### lists of counts -/
def zL (l : List Nat) : List Int := l.map fun k : Nat => (k : Int)
theorem zL_len (l : List Nat) : (zL l).length = l.length := by unfold zL; rw [List.length_map]
theorem zL_at {l : List Nat} {i k : Nat} (h : l[i]? = some k) : ((zL l).map V.int)[i]? = some (.int (k : Nat)) := by
  unfold zL
  rw [List.map_map, List.getElem?_map, h]
  rfl
theorem zL_get {l : List Nat} {i : Nat} {v : V} (h : ((zL l).map V.int)[i]? = some v) : ∃ k, l[i]? = some k ∧ v = .int (k : Nat) := by
  unfold zL at h
  rw [List.map_map, List.getElem?_map] at h
  cases e : l[i]? with
  | none => rw [e] at h; cases h
  | some k => rw [e] at h; exact ⟨k, rfl, (Option.some.inj h).symm⟩
theorem zL_snoc (l : List Nat) (k : Nat) : (zL l).map V.int ++ [V.int (k : Nat)] = (zL (l ++ [k])).map V.int := by
  unfold zL
  simp
theorem zL_rg (n : Nat) : rgV 0 (n : Int) = (zL (List.range n)).map V.int := by
  unfold rgV zL
  rw [List.map_map, show ((n : Int) - 0).toNat = n from by omega]
  refine List.map_congr_left fun i _ => ?_
  show V.int (0 + (i : Int)) = V.int (i : Int)
  rw [Int.zero_add]
theorem flat_ints (l : List Int) : (l.map V.int).all flatV = true := by
  rw [List.all_map, List.all_eq_true]
  intro x _
  rfl
theorem inV_zL (k : Nat) (l : List Nat) : inV (.int (k : Nat)) ((zL l).map V.int) = decide (k ∈ l) := by
  unfold inV zL
  rw [List.map_map, List.any_map, Bool.eq_iff_iff, List.any_eq_true, decide_eq_true_iff]
  constructor
  · rintro ⟨y, hy, e⟩
    have e' : decide ((y : Int) = (k : Int)) = true := e
    have : y = k := by have := of_decide_eq_true e'; omega
    rw [← this]; exact hy
  · intro h
    exact ⟨k, h, decide_eq_true (rfl : (k : Int) = k)⟩
theorem zL_erase (l : List Nat) (j : Nat) : ((zL l).eraseIdx j) = zL (l.eraseIdx j) := by
  unfold zL
  induction l generalizing j with
  | nil => rfl
  | cons x l ih =>
    cases j with
    | zero => rfl
    | succ j => show _ :: ((l.map _).eraseIdx j) = _ :: _; rw [ih j]
def zlD (l : List Nat) : PyData := .list (l.map fun k => .int (k : Nat))
theorem zl_dp {K : PySem.W.Frag} {H : Hp} {a : Addr} {l : List Nat} (h : H a = some (.lst ((zL l).map V.int))) : Dp K H (.ref a) (zlD l) := by
  refine .lst (SqL.of h) ?_
  clear h
  unfold zL
  rw [List.map_map]
  induction l with
  | nil => exact .nil
  | cons x l ih => exact .cons (.int _) ih
theorem zl_lay (l : List Nat) : (zlD l).canLay0 = true ∧ (zlD l).depth ≤ 64 := by
  obtain ⟨h1, h2⟩ := ls_lay (D := fun k : Nat => PyData.int (k : Nat)) (n := 0) (xs := l) fun x _ => ⟨by rw [PyData.canLay0], by simp [PyData.depth]⟩
  exact ⟨h1, Nat.le_trans h2 (by decide)⟩
theorem filter_snoc {α : Type} (f : α → Bool) (l : List α) (x : α) : (l ++ [x]).filter f = l.filter f ++ if f x = true then [x] else [] := by
  rw [List.filter_append, List.filter_cons]
  split <;> rfl
theorem at_map {α : Type} {f : α → V} {l : List α} {i : Nat} {y : V} (h : (l.map f)[i]? = some y) : ∃ x, l[i]? = some x ∧ y = f x := by
  rw [List.getElem?_map] at h
  cases e : l[i]? with
  | none => rw [e] at h; cases h
  | some x => rw [e] at h; exact ⟨x, rfl, (Option.some.inj h).symm⟩
theorem take_snoc {α : Type} {l : List α} {i : Nat} {x : α} (h : l[i]? = some x) : l.take (i + 1) = l.take i ++ [x] := by rw [List.take_add_one, h]; rfl
/-- an index drawn -/
theorem drawn {d : Int} {n : Nat} (h : 0 < n) : ∃ k : Nat, d.fmod (n : Int) = (k : Int) ∧ k < n := by
  obtain ⟨k, hk⟩ := Int.eq_ofNat_of_zero_le (fm_nonneg d (m := (n : Int)) (by omega))
  exact ⟨k, hk, by have := fm_lt d (m := (n : Int)) (by omega); omega⟩
def tTruK (K : PySem.W.Frag) (ta : TE) : TT := fun σ H Q => ta σ H fun x H' => ∃ k, TruV K x H' k ∧ Q k H'
theorem same_t2 {K : PySem.W.Frag} {H H' : Hp} {a : Addr} {xs : List V} (e : ∀ o, H a = some o → H' a = some o) (h : SqT K H a xs) : SqT K H' a xs := by
  rcases h with (h | ⟨o, h⟩) | h
  · exact .inl (.inl (e _ h))
  · exact .inl (.inr ⟨o, e _ h⟩)
  · exact .inr h
theorem same_l2 {K : PySem.W.Frag} {H H' : Hp} {a : Addr} {xs : List V} (e : ∀ o, H a = some o → H' a = some o) (h : SqL K H a xs) : SqL K H' a xs := by
  rcases h with (h | ⟨o, h⟩) | h
  · exact .inl (.inl (e _ h))
  · exact .inl (.inr ⟨o, e _ h⟩)
  · exact .inr h
/-! ### dict comprehensions over a list that stays -/
theorem dc_list {K : PySem.W.Frag} {a : Addr} {xs : List V} {g : TG} {tt : TT} {tk tv : TE} {vs : List Nat} {σ : L2.St} {H1 : Hp} {D : Addr} {Qd : Hp → Prop} (Pv : Nat → Hp → Prop) (h0 : Pv 0 (upd H1 D (.dK []))) (hl : ∀ i H, i ≤ xs.length → Pv i H → SqL K H a xs)
    (hs : ∀ i x H, xs[i]? = some x → Pv i H → g x (wipe σ vs) H fun σ2 H2 => wipe σ2 vs = wipe σ vs ∧ tt σ2 H2 fun b H3 =>
      if b = true then tk σ2 H3 fun y H4 => tv σ2 H4 fun z H5 => ∃ kvs k, y = kV k ∧ H5 D = some (.dK kvs) ∧ kvs.length < sizeLine ∧ Pv (i + 1) (upd H5 D (.dK (putK kvs k z))) else Pv (i + 1) H3) (hd : ∀ H, Pv xs.length H → Qd H) :
    ∃ W : Nat → Nat → Hp → Prop, (∃ m, W 0 m (upd H1 D (.dK []))) ∧ ∀ i m H, W i m H →
      ((Itl K a).stop i H ∧ Qd H) ∨ ((Itl K a).go i H ∧ ∃ Nx : Hp → Prop, (∀ H', Nx H' → ∃ m', m' < m ∧ W (i + 1) m' H') ∧ ∀ x H', (Itl K a).yld i H x H' → g x (wipe σ vs) H' fun σ2 H2 => wipe σ2 vs = wipe σ vs ∧ tt σ2 H2 fun b H3 =>
        if b = true then tk σ2 H3 fun y H4 => tv σ2 H4 fun z H5 => ∃ kvs k, y = kV k ∧ H5 D = some (.dK kvs) ∧ kvs.length < sizeLine ∧ Nx (upd H5 D (.dK (putK kvs k z))) else Nx H3) := by
  refine ⟨fun i m H => m = xs.length - i ∧ i ≤ xs.length ∧ Pv i H, ⟨xs.length, by simp, Nat.zero_le _, h0⟩, ?_⟩
  rintro i m H ⟨rfl, hi, p⟩
  have q := hl i H hi p
  by_cases hlt : i < xs.length
  · refine .inr ⟨⟨xs, xs[i], q, by simp [hlt]⟩, Pv (i + 1), fun H' p' => ⟨xs.length - (i + 1), by omega, rfl, hlt, p'⟩, fun x H' y => ?_⟩
    obtain ⟨e, y⟩ := y
    subst e
    exact hs i x _ (y xs q) p
  · have e : i = xs.length := by omega
    subst e
    exact .inl ⟨⟨xs, q, Nat.le_refl _⟩, hd H p⟩
theorem find_none {κ : Type} [DecidableEq κ] {kvs : List (κ × V)} {k : κ} (h : valV kvs k = none) : (putK kvs k v).length = kvs.length + 1 := by
  unfold putK
  rw [valV_any, h]
  show (if (none : Option V).isSome = true then _ else _ : List (κ × V)).length = _
  rw [if_neg (by decide), List.length_append]
  rfl
end M

namespace M
open PySem PySem.Spec PyProof.Rows L2
theorem nodup_le {α : Type} [DecidableEq α] : ∀ {l m : List α}, l.Nodup → (∀ x ∈ l, x ∈ m) → l.length ≤ m.length
  | [], _, _, _ => Nat.zero_le _
  | x :: l, m, nd, h => by
    have n := List.nodup_cons.mp nd
    have h2 : l.length ≤ (m.erase x).length := nodup_le n.2 fun y hy => (List.mem_erase_of_ne (fun e => n.1 (by rw [← e]; exact hy))).mpr (h y (List.mem_cons_of_mem _ hy))
    have hx := h x List.mem_cons_self
    rw [List.length_erase_of_mem hx] at h2
    have := List.length_pos_of_mem hx
    rw [List.length_cons]
    omega
/-! ### kinds -/
def kinds : List Str := ["whole", "itemwise", "split", "overtaking", "passing"]
def kindsV : List V := kinds.map V.str
/-- None or a kind -/
def kindV : Option Str → V
  | none => .non
  | some s => .str s
def KindOk : Option Str → Prop
  | none => True
  | some s => s ∈ kinds
instance (k : Option Str) : Decidable (KindOk k) := by
  cases k with
  | none => exact .isTrue trivial
  | some s => exact (inferInstance : Decidable (s ∈ kinds))
/-! ### the ground of the laws on placements: sites, homes, lines, ways -/
structure Ln where
  nm : Str
  src : Str
  tgt : Str
  it : List Str
  kd : Option Str
abbrev Ways := Str → Str → Option (List Str)
structure Gd where
  sites : List Str
  homes : List (Str × Str)
  lines : List Ln
  ways : Ways
def Gd.goods (g : Gd) : List Str := g.homes.map (·.1)
/-- what a ground keeps while its lines are loaded -/
structure GdOk (g : Gd) : Prop where
  sN : g.sites.Nodup
  hN : g.goods.Nodup
  hS : ∀ h ∈ g.homes, h.2 ∈ g.sites
  lN : (g.lines.map (·.nm)).Nodup
  lE : ∀ l ∈ g.lines, l.src ∈ g.sites ∧ l.tgt ∈ g.sites ∧ l.src ≠ l.tgt
  lI : ∀ l ∈ g.lines, l.it.Nodup ∧ ∀ i ∈ l.it, i ∈ g.goods
  wH : ∀ h ∈ g.homes, g.ways h.1 h.2 = some []
  wL : ∀ l ∈ g.lines, ∀ i ∈ l.it, ∃ w, g.ways i l.src = some w ∧ g.ways i l.tgt = some (w ++ [l.nm])
  wD : ∀ i s w, g.ways i s = some w → (i, s) ∈ g.homes ∨ ∃ l ∈ g.lines, l.tgt = s ∧ i ∈ l.it
  u : ∀ (j k : Nat) l m i, g.lines[j]? = some l → g.lines[k]? = some m → l.tgt = m.tgt → i ∈ l.it → i ∈ m.it → j = k
def wSet (w : Ways) (i s : Str) (v : List Str) : Ways := fun i' s' => if i' = i ∧ s' = s then some v else w i' s'
theorem wSet_same {w : Ways} {i s : Str} {v : List Str} : wSet w i s v i s = some v := if_pos ⟨rfl, rfl⟩
theorem wSet_ne {w : Ways} {i s i' s' : Str} {v : List Str} (h : ¬ (i' = i ∧ s' = s)) : wSet w i s v i' s' = w i' s' := if_neg h
/-- one more item -/
def Ln.more (l : Ln) (i : Str) : Ln := { l with it := l.it ++ [i] }
def Gd.carry (g : Gd) (k : Nat) (l : Ln) (i : Str) (w : List Str) : Gd := { g with lines := g.lines.set k (l.more i), ways := wSet g.ways i l.tgt (w ++ [l.nm]) }
theorem mem_set_of {α : Type} {l : List α} {k : Nat} {x y : α} (h : y ∈ l.set k x) : y = x ∨ y ∈ l := by
  rcases List.mem_or_eq_of_mem_set h with h | h
  · exact .inr h
  · exact .inl h
theorem map_set_same {α β : Type} (f : α → β) {l : List α} {k : Nat} {x y : α} (h : l[k]? = some x) (e : f y = f x) : (l.set k y).map f = l.map f := by
  have hk := (List.getElem?_eq_some_iff.mp h).1
  have hx := (List.getElem?_eq_some_iff.mp h).2
  refine List.ext_getElem (by simp) fun j h1 h2 => ?_
  rw [List.getElem_map, List.getElem_map, List.getElem_set]
  split
  · rename_i q
    subst q
    rw [e, hx]
  · rfl
theorem GdOk.carry {g : Gd} (o : GdOk g) {k : Nat} {l : Ln} {i : Str} {w : List Str} (hl : g.lines[k]? = some l) (hi : i ∈ g.goods) (hw : g.ways i l.src = some w) (hn : g.ways i l.tgt = none) : GdOk (g.carry k l i w) := by
  have lm := List.mem_of_getElem? hl
  have hk := (List.getElem?_eq_some_iff.mp hl).1
  obtain ⟨e1, e2, e3⟩ := o.lE l lm
  have nin : ∀ m ∈ g.lines, m.tgt = l.tgt → i ∉ m.it := fun m hm e h => by
    obtain ⟨w', _, h2⟩ := o.wL m hm i h
    rw [e, hn] at h2
    cases h2
  have old : ∀ i' s' v, g.ways i' s' = some v → wSet g.ways i l.tgt (w ++ [l.nm]) i' s' = some v := fun i' s' v h => by
    rw [wSet_ne]
    · exact h
    · rintro ⟨rfl, rfl⟩
      rw [hn] at h
      cases h
  have at_ : ∀ (j : Nat) m, (g.lines.set k (l.more i))[j]? = some m → (j = k ∧ m = l.more i) ∨ (j ≠ k ∧ g.lines[j]? = some m) := fun j m h => by
    rw [List.getElem?_set] at h
    split at h
    · rename_i q
      exact .inl ⟨q.symm, (Option.some.inj h).symm⟩
    · rename_i q
      exact .inr ⟨fun z => q z.symm, h⟩
  refine ⟨o.sN, o.hN, o.hS, ?_, ?_, ?_, ?_, ?_, ?_, ?_⟩
  · show ((g.lines.set k (l.more i)).map (·.nm)).Nodup
    rw [map_set_same (y := l.more i) (fun x : Ln => x.nm) hl rfl]
    exact o.lN
  · intro m hm
    rcases mem_set_of hm with rfl | hm
    · exact ⟨e1, e2, e3⟩
    · exact o.lE m hm
  · intro m hm
    rcases mem_set_of hm with rfl | hm
    · refine ⟨List.nodup_append.mpr ⟨(o.lI l lm).1, List.pairwise_singleton _ _, fun a ha b hb e => ?_⟩, fun j hj => ?_⟩
      · rw [List.mem_singleton.mp hb] at e
        exact nin l lm rfl (by rw [← e]; exact ha)
      · rcases List.mem_append.mp hj with hj | hj
        · exact (o.lI l lm).2 j hj
        · rw [List.mem_singleton.mp hj]; exact hi
    · exact o.lI m hm
  · exact fun h hh => old _ _ _ (o.wH h hh)
  · intro m hm j hj
    have key : ∀ m ∈ g.lines, j ∈ m.it → ∃ w', wSet g.ways i l.tgt (w ++ [l.nm]) j m.src = some w' ∧ wSet g.ways i l.tgt (w ++ [l.nm]) j m.tgt = some (w' ++ [m.nm]) := fun m hm hj => by
      obtain ⟨w', h1, h2⟩ := o.wL m hm j hj
      exact ⟨w', old _ _ _ h1, old _ _ _ h2⟩
    rcases mem_set_of hm with rfl | hm
    · rcases List.mem_append.mp hj with hj | hj
      · exact key l lm hj
      · rw [List.mem_singleton.mp hj]
        exact ⟨w, old _ _ _ hw, wSet_same⟩
    · exact key m hm hj
  · intro i' s' v h
    by_cases q : i' = i ∧ s' = l.tgt
    · obtain ⟨rfl, rfl⟩ := q
      exact .inr ⟨l.more i', List.mem_set hk _, rfl, by simp [Ln.more]⟩
    · have h' : g.ways i' s' = some v := by
        have z : wSet g.ways i l.tgt (w ++ [l.nm]) i' s' = some v := h
        rwa [wSet_ne q] at z
      rcases o.wD i' s' v h' with h2 | ⟨m, hm, h2, h3⟩
      · exact .inl h2
      · obtain ⟨j, hj⟩ := List.getElem?_of_mem hm
        by_cases e : j = k
        · subst e
          rw [hl] at hj
          cases hj
          exact .inr ⟨l.more i, List.mem_set hk _, h2, List.mem_append_left _ h3⟩
        · refine .inr ⟨m, List.mem_of_getElem? (i := j) ?_, h2, h3⟩
          show (g.lines.set k (l.more i))[j]? = some m
          rw [List.getElem?_set_ne (Ne.symm e)]
          exact hj
  · intro j k' a b i' ha hb ht h1 h2
    rcases at_ j a ha with ⟨e1, e2⟩ | ⟨n1, ha'⟩ <;> rcases at_ k' b hb with ⟨e3, e4⟩ | ⟨n2, hb'⟩
    · rw [e1, e3]
    · subst e2
      rcases List.mem_append.mp h1 with h1 | h1
      · rw [e1]
        exact o.u _ _ l b i' hl hb' ht h1 h2
      · rw [List.mem_singleton.mp h1] at h2
        exact absurd h2 (nin b (List.mem_of_getElem? hb') ht.symm)
    · subst e4
      rcases List.mem_append.mp h2 with h2 | h2
      · rw [e3]
        exact o.u _ _ a l i' ha' hl ht h1 h2
      · rw [List.mem_singleton.mp h2] at h1
        exact absurd h1 (nin a (List.mem_of_getElem? ha') ht)
    · exact o.u _ _ a b i' ha' hb' ht h1 h2
/-- lines that carry nothing are left out -/
def Gd.drop (g : Gd) : Gd := { g with lines := g.lines.filter fun l => !l.it.isEmpty }
theorem GdOk.drop {g : Gd} (o : GdOk g) : GdOk g.drop := by
  have mem : ∀ {l}, l ∈ g.drop.lines → l ∈ g.lines := fun h => (List.mem_filter.mp h).1
  have keep : ∀ {l} {i}, l ∈ g.lines → i ∈ l.it → l ∈ g.drop.lines := fun {l i} h hi => List.mem_filter.mpr ⟨h, by
    cases e : l.it with
    | nil => rw [e] at hi; cases hi
    | cons a r => rfl⟩
  have nn : g.lines.Pairwise fun l m => ¬ (l.tgt = m.tgt ∧ ∃ i, i ∈ l.it ∧ i ∈ m.it) := List.pairwise_iff_getElem.mpr fun j k hj hk jk ⟨ht, i, h1, h2⟩ => by
    have := o.u j k _ _ i (List.getElem?_eq_getElem hj) (List.getElem?_eq_getElem hk) ht h1 h2
    omega
  have nd : g.drop.lines.Pairwise fun l m => ¬ (l.tgt = m.tgt ∧ ∃ i, i ∈ l.it ∧ i ∈ m.it) := nn.sublist List.filter_sublist
  refine ⟨o.sN, o.hN, o.hS, o.lN.sublist (List.filter_sublist.map _), fun l h => o.lE l (mem h), fun l h => o.lI l (mem h), o.wH, fun l h => o.wL l (mem h), fun i s w h => ?_, fun j k l m i hj hk ht h1 h2 => ?_⟩
  · rcases o.wD i s w h with h | ⟨l, h1, h2, h3⟩
    · exact .inl h
    · exact .inr ⟨l, keep h1 h3, h2, h3⟩
  · obtain ⟨j1, j2⟩ := List.getElem?_eq_some_iff.mp hj
    obtain ⟨k1, k2⟩ := List.getElem?_eq_some_iff.mp hk
    rcases Nat.lt_trichotomy j k with q | q | q
    · exact absurd ⟨by rw [j2, k2]; exact ht, i, by rw [j2]; exact h1, by rw [k2]; exact h2⟩ (List.pairwise_iff_getElem.mp nd j k j1 k1 q)
    · exact q
    · exact absurd ⟨by rw [j2, k2]; exact ht.symm, i, by rw [k2]; exact h2, by rw [j2]; exact h1⟩ (List.pairwise_iff_getElem.mp nd k j k1 j1 q)
section
variable {g : Gd} (o : GdOk g)
include o
theorem GdOk.homeU {i h h' : Str} (a : (i, h) ∈ g.homes) (b : (i, h') ∈ g.homes) : h = h' := by
  obtain ⟨j, hj, e⟩ := List.getElem_of_mem a
  obtain ⟨k, hk, e'⟩ := List.getElem_of_mem b
  have q : g.goods[j]'(by simpa [Gd.goods] using hj) = g.goods[k]'(by simpa [Gd.goods] using hk) := by simp [Gd.goods, e, e']
  have := (List.getElem_inj o.hN).mp q
  subst this
  rw [e] at e'
  exact (Prod.mk.inj e').2
theorem GdOk.step {i s : Str} {w : List Str} (h : g.ways i s = some w) (n : w ≠ []) : ∃ l ∈ g.lines, l.tgt = s ∧ i ∈ l.it ∧ ∃ w', g.ways i l.src = some w' ∧ w = w' ++ [l.nm] := by
  rcases o.wD i s w h with a | ⟨l, hl, e, hi⟩
  · have := o.wH _ a
    rw [h] at this
    exact absurd (Option.some.inj this) n
  · obtain ⟨w', h1, h2⟩ := o.wL l hl i hi
    rw [e, h] at h2
    exact ⟨l, hl, e, hi, w', h1, Option.some.inj h2⟩
theorem GdOk.atHome {i s hm : Str} {w : List Str} (h : g.ways i s = some w) (a : (i, hm) ∈ g.homes) : w = [] ↔ s = hm := by
  constructor
  · rintro rfl
    rcases o.wD i s [] h with b | ⟨l, hl, e, hi⟩
    · exact o.homeU b a
    · obtain ⟨w', _, h2⟩ := o.wL l hl i hi
      rw [e, h] at h2
      have := congrArg List.length (Option.some.inj h2)
      simp at this
  · rintro rfl
    have := o.wH _ a
    rw [h] at this
    exact Option.some.inj this
theorem GdOk.lineU {l m : Ln} (a : l ∈ g.lines) (b : m ∈ g.lines) (e : l.nm = m.nm) : l = m := by
  obtain ⟨j, hj, e1⟩ := List.getElem_of_mem a
  obtain ⟨k, hk, e2⟩ := List.getElem_of_mem b
  have q : (g.lines.map (·.nm))[j]'(by simpa using hj) = (g.lines.map (·.nm))[k]'(by simpa using hk) := by simp [e1, e2, e]
  have := (List.getElem_inj o.lN).mp q
  subst this
  rw [← e1, ← e2]
theorem GdOk.bringU {l m : Ln} {i : Str} (a : l ∈ g.lines) (b : m ∈ g.lines) (e : l.tgt = m.tgt) (h1 : i ∈ l.it) (h2 : i ∈ m.it) : l = m := by
  obtain ⟨j, hj⟩ := List.getElem?_of_mem a
  obtain ⟨k, hk⟩ := List.getElem?_of_mem b
  have := o.u j k l m i hj hk e h1 h2
  subst this
  rw [hj] at hk
  exact Option.some.inj hk
theorem GdOk.wayMem : ∀ (n : Nat) {i s : Str} {w : List Str}, w.length = n → g.ways i s = some w → ∀ x ∈ w, ∃ m ∈ g.lines, m.nm = x ∧ i ∈ m.it ∧ ∃ u, g.ways i m.tgt = some u ∧ u.length ≤ w.length
  | 0, _, _, [], _, _, x, hx => by cases hx
  | n + 1, i, s, w, hn, h, x, hx => by
    obtain ⟨l, hl, e, hi, w', h1, rfl⟩ := o.step h (fun z => by rw [z] at hn; cases hn)
    rcases List.mem_append.mp hx with hx | hx
    · obtain ⟨m, hm, e1, hi1, u, h2, h3⟩ := GdOk.wayMem n (w := w') (by simpa using hn) h1 x hx
      exact ⟨m, hm, e1, hi1, u, h2, by simp; omega⟩
    · rw [List.mem_singleton.mp hx]
      exact ⟨l, hl, rfl, hi, _, by rw [e]; exact h, Nat.le_refl _⟩
theorem GdOk.wayNew {i : Str} {l : Ln} {w : List Str} (hl : l ∈ g.lines) (h : g.ways i l.tgt = some (w ++ [l.nm])) (h' : g.ways i l.src = some w) : l.nm ∉ w := fun hx => by
  obtain ⟨m, hm, e, hi, u, h2, h3⟩ := o.wayMem _ rfl h' l.nm hx
  have := o.lineU hm hl e
  subst this
  rw [h] at h2
  have := congrArg List.length (Option.some.inj h2)
  simp at this
  omega
theorem GdOk.wayNodup : ∀ (n : Nat) {i s : Str} {w : List Str}, w.length = n → g.ways i s = some w → w.Nodup
  | 0, _, _, [], _, _ => List.nodup_nil
  | n + 1, i, s, w, hn, h => by
    obtain ⟨l, hl, e, hi, w', h1, rfl⟩ := o.step h (fun z => by rw [z] at hn; cases hn)
    refine List.nodup_append.mpr ⟨GdOk.wayNodup n (by simpa using hn) h1, List.pairwise_singleton _ _, fun a ha b hb e2 => ?_⟩
    rw [List.mem_singleton.mp hb] at e2
    exact o.wayNew hl (by rw [e]; exact h) h1 (by rw [← e2]; exact ha)
theorem GdOk.wayLen {i s : Str} {w : List Str} (h : g.ways i s = some w) : w.length ≤ g.lines.length := by
  have := nodup_le (o.wayNodup _ rfl h) (m := g.lines.map (·.nm)) fun x hx => by
    obtain ⟨m, hm, e, _⟩ := o.wayMem _ rfl h x hx
    exact List.mem_map.mpr ⟨m, hm, e⟩
  rwa [List.length_map] at this
theorem GdOk.itLen {l : Ln} (h : l ∈ g.lines) : l.it.length ≤ g.goods.length := nodup_le (o.lI l h).1 (o.lI l h).2
theorem GdOk.siteIn {i s : Str} {w : List Str} (h : g.ways i s = some w) : i ∈ g.goods ∧ s ∈ g.sites := by
  rcases o.wD i s w h with a | ⟨l, hl, e, hi⟩
  · exact ⟨List.mem_map.mpr ⟨_, a, rfl⟩, o.hS _ a⟩
  · exact ⟨(o.lI l hl).2 i hi, by rw [← e]; exact (o.lE l hl).2.1⟩
end
end M

namespace M
open PySem PySem.Spec PyProof.Rows L2
/-! ### a ground laid out in the heap, while it is made -/
def k2 (i s : Str) : List L2.Key := [Sum.inr i, Sum.inr s]
theorem k2_inj {i s i' s' : Str} (h : k2 i s = k2 i' s') : i = i' ∧ s = s' := by
  have h1 := List.cons.inj h
  have h2 := List.cons.inj h1.2
  exact ⟨Sum.inr.inj h1.1, Sum.inr.inj h2.1⟩
/-- the ways' dict: each known way a list that stands in Hc -/
structure WyS (Hc : Hp) (kvs : List (List L2.Key × V)) (w : Ways) : Prop where
  some_ : ∀ i s v, w i s = some v → ∃ a, valV kvs (k2 i s) = some (.ref a) ∧ Hc a = some (.lst (v.map V.str))
  none_ : ∀ i s, w i s = none → valV kvs (k2 i s) = none
  keys : ∀ e ∈ kvs, ∃ i s, e.1 = k2 i s
  nd : (kvs.map (·.1)).Nodup
theorem putK_nd {κ : Type} [DecidableEq κ] {kvs : List (κ × V)} {k : κ} {v : V} (h : (kvs.map (·.1)).Nodup) : ((putK kvs k v).map (·.1)).Nodup := by
  unfold putK
  split
  · have e : (kvs.map fun kv => if kv.1 = k then (kv.1, v) else kv).map (·.1) = kvs.map (·.1) := by
      rw [List.map_map]
      refine List.map_congr_left fun x _ => ?_
      show (if x.1 = k then (x.1, v) else x).1 = x.1
      split <;> rfl
    rw [e]
    exact h
  · rename_i q
    rw [List.map_append]
    refine List.nodup_append.mpr ⟨h, List.pairwise_singleton _ _, fun a ha b hb e => q ?_⟩
    obtain ⟨x, hx, rfl⟩ := List.mem_map.mp ha
    have e2 : x.1 = k := e.trans (List.mem_singleton.mp hb)
    exact List.any_eq_true.mpr ⟨x, hx, decide_eq_true e2⟩
theorem WyS.same {Hc Hc' : Hp} {kvs : List (List L2.Key × V)} {w : Ways} (x : WyS Hc kvs w) (s : Same Hc Hc') : WyS Hc' kvs w :=
  ⟨fun i t v h => let ⟨a, h1, h2⟩ := x.some_ i t v h; ⟨a, h1, s _ _ h2⟩, x.none_, x.keys, x.nd⟩
theorem putK_mem {κ : Type} [DecidableEq κ] {kvs : List (κ × V)} {k : κ} {v : V} {e : κ × V} (h : e ∈ putK kvs k v) : e.1 = k ∨ ∃ e' ∈ kvs, e'.1 = e.1 := by
  unfold putK at h
  split at h
  · obtain ⟨e', h1, h2⟩ := List.mem_map.mp h
    refine .inr ⟨e', h1, ?_⟩
    rw [← h2]
    split <;> rfl
  · rcases List.mem_append.mp h with h | h
    · exact .inr ⟨e, h, rfl⟩
    · rw [List.mem_singleton.mp h]; exact .inl rfl
theorem WyS.put {Hc : Hp} {kvs : List (List L2.Key × V)} {w : Ways} (x : WyS Hc kvs w) {i s : Str} {v : List Str} {a : Addr} (h : Hc a = some (.lst (v.map V.str))) : WyS Hc (putK kvs (k2 i s) (.ref a)) (wSet w i s v) := by
  refine ⟨fun i' s' v' h' => ?_, fun i' s' h' => ?_, fun e he => ?_, putK_nd x.nd⟩
  · rw [valV_put]
    by_cases e : i' = i ∧ s' = s
    · obtain ⟨rfl, rfl⟩ := e
      rw [wSet_same] at h'
      cases h'
      exact ⟨a, if_pos rfl, h⟩
    · rw [wSet_ne e] at h'
      rw [if_neg (fun q => e (k2_inj q))]
      exact x.some_ i' s' v' h'
  · rw [valV_put]
    by_cases e : i' = i ∧ s' = s
    · obtain ⟨rfl, rfl⟩ := e
      rw [wSet_same] at h'
      cases h'
    · rw [wSet_ne e] at h'
      rw [if_neg (fun q => e (k2_inj q))]
      exact x.none_ i' s' h'
  · rcases putK_mem he with q | ⟨e', h1, h2⟩
    · exact ⟨i, s, q⟩
    · obtain ⟨i', s', q⟩ := x.keys e' h1
      exact ⟨i', s', by rw [← h2]; exact q⟩
/-- the lines' lists of items -/
def itT (as : List Addr) (ls : List Ln) : List (Addr × HO) := List.zipWith (fun a l => (a, .lst (l.it.map V.str))) as ls
theorem itT_fst {as : List Addr} {ls : List Ln} (h : as.length = ls.length) : (itT as ls).map (·.1) = as := by
  unfold itT
  rw [List.map_zipWith]
  induction as generalizing ls with
  | nil => rfl
  | cons a as ih =>
    cases ls with
    | nil => cases h
    | cons l ls =>
      show a :: _ = _
      rw [ih (by simpa using h)]
theorem itT_at {as : List Addr} {ls : List Ln} {k : Nat} {a : Addr} {l : Ln} (h1 : as[k]? = some a) (h2 : ls[k]? = some l) : (itT as ls)[k]? = some (a, .lst (l.it.map V.str)) := by
  unfold itT
  rw [List.getElem?_zipWith, h1, h2]
theorem itT_set {as : List Addr} {ls : List Ln} {k : Nat} {a : Addr} (h1 : as[k]? = some a) (l' : Ln) : (itT as ls).set k (a, .lst (l'.it.map V.str)) = itT as (ls.set k l') := by
  unfold itT
  induction as generalizing ls k with
  | nil => cases h1
  | cons b as ih =>
    cases ls with
    | nil => cases k <;> rfl
    | cons l ls =>
      cases k with
      | zero => cases h1; rfl
      | succ k =>
        show _ :: _ = _ :: _
        rw [ih (by simpa using h1)]
theorem itT_get {as : List Addr} {ls : List Ln} {k : Nat} {z : Addr × HO} (h : (itT as ls)[k]? = some z) : ∃ a l, as[k]? = some a ∧ ls[k]? = some l ∧ z = (a, .lst (l.it.map V.str)) := by
  unfold itT at h
  rw [List.getElem?_zipWith] at h
  cases e1 : as[k]? with
  | none => rw [e1] at h; cases h
  | some a =>
    cases e2 : ls[k]? with
    | none => rw [e1, e2] at h; cases h
    | some l => rw [e1, e2] at h; exact ⟨a, l, rfl, rfl, (Option.some.inj h).symm⟩
/-- a line as _law_rows keeps it: a list, its items a list of their own -/
def rwV (l : Ln) (a : Addr) : List V := [.str l.nm, .str l.src, .str l.tgt, .ref a, kindV l.kd]
structure RwS (Hc : Hp) (as : List Addr) (rws : List V) (ls : List Ln) : Prop where
  al : as.length = ls.length
  rl : rws.length = ls.length
  at_ : ∀ (k : Nat) l a, ls[k]? = some l → as[k]? = some a → ∃ r, rws[k]? = some (.ref r) ∧ Hc r = some (.lst (rwV l a))
theorem RwS.same {Hc Hc' : Hp} {as : List Addr} {rws : List V} {ls : List Ln} (x : RwS Hc as rws ls) (s : Same Hc Hc') : RwS Hc' as rws ls :=
  ⟨x.al, x.rl, fun k l a h1 h2 => let ⟨r, h3, h4⟩ := x.at_ k l a h1 h2; ⟨r, h3, s _ _ h4⟩⟩
theorem RwS.set {Hc : Hp} {as : List Addr} {rws : List V} {ls : List Ln} (x : RwS Hc as rws ls) {k : Nat} {l : Ln} (h : ls[k]? = some l) (i : Str) : RwS Hc as rws (ls.set k (l.more i)) := by
  refine ⟨by rw [List.length_set]; exact x.al, by rw [List.length_set]; exact x.rl, fun j m a h1 h2 => ?_⟩
  rw [List.getElem?_set] at h1
  split at h1
  · rename_i q
    subst q
    rw [if_pos (List.getElem?_eq_some_iff.mp h).1] at h1
    cases h1
    exact x.at_ k l a h h2
  · exact x.at_ j m a h1 h2
/-- the ground's objects: over H0, the draws at p, the ways at W, the items' lists at as; all else stays -/
structure Gr (H0 H : Hp) (p W : Addr) (as : List Addr) (ds : List Int) (kvs : List (List L2.Key × V)) (rws : List V) (g : Gd) : Prop where
  x : Hx H0 H ((p, .lst (ds.map V.int)) :: (W, .dT kvs) :: itT as g.lines)
  r : RwS (cut H (p :: W :: as)) as rws g.lines
  w : WyS (cut H (p :: W :: as)) kvs g.ways
section
variable {H0 H H' : Hp} {p W : Addr} {as : List Addr} {ds : List Int} {kvs : List (List L2.Key × V)} {rws : List V} {g : Gd}
theorem Gr.same (x : Gr H0 H p W as ds kvs rws g) (s : Same H H') : Gr H0 H' p W as ds kvs rws g := ⟨x.x.same s, x.r.same (cut_same s), x.w.same (cut_same s)⟩
theorem Gr.draw (x : Gr H0 H p W as ds kvs rws g) (ds' : List Int) : Gr H0 (upd H p (.lst (ds'.map V.int))) p W as ds' kvs rws g :=
  ⟨x.x.set 0 rfl, by rw [cut_upd (by simp)]; exact x.r, by rw [cut_upd (by simp)]; exact x.w⟩
theorem Gr.hp (x : Gr H0 H p W as ds kvs rws g) : H p = some (.lst (ds.map V.int)) := x.x.get 0 rfl
theorem Gr.hW (x : Gr H0 H p W as ds kvs rws g) : H W = some (.dT kvs) := x.x.get 1 rfl
theorem Gr.ha (x : Gr H0 H p W as ds kvs rws g) {k : Nat} {a : Addr} {l : Ln} (h1 : as[k]? = some a) (h2 : g.lines[k]? = some l) : H a = some (.lst (l.it.map V.str)) :=
  x.x.get (k + 2) (by rw [List.getElem?_cons_succ, List.getElem?_cons_succ]; exact itT_at h1 h2)
theorem Gr.item (x : Gr H0 H p W as ds kvs rws g) {k : Nat} {a : Addr} {l : Ln} (h1 : as[k]? = some a) (h2 : g.lines[k]? = some l) (i : Str) :
    Gr H0 (upd H a (.lst ((l.more i).it.map V.str))) p W as ds kvs rws { g with lines := g.lines.set k (l.more i) } := by
  have am : a ∈ p :: W :: as := by
    have := List.mem_of_getElem? h1
    simp [this]
  refine ⟨?_, by rw [cut_upd am]; exact x.r.set h2 i, by rw [cut_upd am]; exact x.w⟩
  have z := x.x.set (o' := .lst ((l.more i).it.map V.str)) (k + 2) (by rw [List.getElem?_cons_succ, List.getElem?_cons_succ]; exact itT_at h1 h2)
  rw [List.set_cons_succ, List.set_cons_succ, itT_set h1] at z
  exact z
theorem Gr.way (x : Gr H0 H p W as ds kvs rws g) {i s : Str} {v : List Str} {a : Addr} (h : cut H (p :: W :: as) a = some (.lst (v.map V.str))) :
    Gr H0 (upd H W (.dT (putK kvs (k2 i s) (.ref a)))) p W as ds (putK kvs (k2 i s) (.ref a)) rws { g with ways := wSet g.ways i s v } :=
  ⟨x.x.set 1 rfl, by rw [cut_upd (by simp)]; exact x.r, by rw [cut_upd (by simp)]; exact x.w.put h⟩
theorem Gr.out (x : Gr H0 H p W as ds kvs rws g) {T : Addr} (n : H T = none) : T ∉ p :: W :: as := fun h => by
  refine x.x.out n ?_
  rw [List.map_cons, List.map_cons, itT_fst x.r.al]
  exact h
theorem WyS.isSome {Hc : Hp} {w : Ways} (x : WyS Hc kvs w) (i s : Str) : (valV kvs (k2 i s)).isSome = (w i s).isSome := by
  cases e : w i s with
  | none => rw [x.none_ i s e]; rfl
  | some v => obtain ⟨a, h, _⟩ := x.some_ i s v e; rw [h]; rfl
end
def able (w : Ways) (l : Ln) (i : Str) : Bool := (w i l.src).isSome && !(w i l.tgt).isSome
theorem Hx.more {H0 H : Hp} {l l' : List (Addr × HO)} (x : Hx H0 H l) (h : ∀ z ∈ l', H z.1 = some z.2) (n : (l'.map (·.1)).Nodup) (s : ∀ z ∈ l, z.1 ∈ l'.map (·.1) ∨ H0 z.1 = none) : Hx H0 H l' :=
  ⟨h, n, fun b o hb nb => x.fr b o hb fun z hz e => by
    rcases s z hz with q | q
    · obtain ⟨y, hy, q⟩ := List.mem_map.mp q
      exact nb y hy (by rw [q, e])
    · rw [e, hb] at q; cases q⟩
theorem cut_sub {H : Hp} {A B : List Addr} (s : ∀ a ∈ B, a ∈ A) : Same (cut H A) (cut H B) := fun b o e => by
  by_cases q : b ∈ A
  · rw [cut_in q] at e; cases e
  · rw [cut_out q] at e
    rw [cut_out fun h => q (s b h)]
    exact e
theorem cut_grow {H H' : Hp} {A : List Addr} {T : Addr} (s : Same H H') (n : H T = none) : Same (cut H A) (cut H' (T :: A)) := fun b u e => by
  by_cases q : b ∈ A
  · rw [cut_in q] at e; cases e
  · rw [cut_out q] at e
    have ne := ne_of_none e n
    rw [cut_out (fun z => (List.mem_cons.mp z).elim ne q)]
    exact s b u e
theorem cut_mem {H : Hp} {A : List Addr} {b : Addr} {o : HO} (e : cut H A b = some o) : b ∉ A := fun q => by rw [cut_in q] at e; cases e
/-- a pair of texts as a tuple -/
def PsA (H : Hp) (v : V) (x : Str × Str) : Prop := ∃ t, v = .ref t ∧ H t = some (.tup [.str x.1, .str x.2])
theorem stPs : Stay PsA := fun H H' v x s ⟨t, e, h⟩ => ⟨t, e, s _ _ h⟩
/-- the homes alone -/
def ways0 (hs : List (Str × Str)) : Ways := fun i s => if (i, s) ∈ hs then some [] else none
theorem ways0_snoc (hs : List (Str × Str)) (i s : Str) : wSet (ways0 hs) i s [] = ways0 (hs ++ [(i, s)]) := by
  funext i' s'
  unfold wSet ways0
  by_cases e : i' = i ∧ s' = s
  · rw [if_pos e, if_pos (by rw [e.1, e.2]; simp)]
  · rw [if_neg e]
    by_cases m : (i', s') ∈ hs
    · rw [if_pos m, if_pos (List.mem_append_left _ m)]
    · rw [if_neg m, if_neg]
      intro h
      rcases List.mem_append.mp h with h | h
      · exact m h
      · exact e (by have := List.mem_singleton.mp h; exact ⟨congrArg Prod.fst this, congrArg Prod.snd this⟩)
/-- lines that carry nothing yet -/
structure Ln0 (sites names : List Str) (ls : List Ln) : Prop where
  e : ∀ l ∈ ls, l.it = [] ∧ l.src ∈ sites ∧ l.tgt ∈ sites ∧ l.src ≠ l.tgt ∧ KindOk l.kd ∧ l.nm ∈ names
  n : (ls.map (·.nm)).Nodup
theorem gd0 {sites : List Str} {homes : List (Str × Str)} {names : List Str} {ls : List Ln} (sN : sites.Nodup) (hN : (homes.map (·.1)).Nodup) (hS : ∀ h ∈ homes, h.2 ∈ sites) (l0 : Ln0 sites names ls) : GdOk ⟨sites, homes, ls, ways0 homes⟩ where
  sN := sN
  hN := hN
  hS := hS
  lN := l0.n
  lE := fun l hl => let ⟨_, a, b, c, _⟩ := l0.e l hl; ⟨a, b, c⟩
  lI := fun l hl => by
    have := (l0.e l hl).1
    rw [this]
    exact ⟨List.nodup_nil, fun i h => by cases h⟩
  wH := fun h hh => if_pos hh
  wL := fun l hl i hi => by
    rw [(l0.e l hl).1] at hi
    cases hi
  wD := fun i s w h => by
    left
    have h' : (if (i, s) ∈ homes then some [] else none) = some w := h
    split at h'
    · assumption
    · cases h'
  u := fun j k l m i hj _ _ hi _ => by
    rw [(l0.e l (List.mem_of_getElem? hj)).1] at hi
    cases hi
theorem snoc_at {α : Type} {l : List α} {x y : α} {k : Nat} (h : (l ++ [x])[k]? = some y) : (l[k]? = some y ∧ k < l.length) ∨ (y = x ∧ k = l.length) := by
  by_cases hp : k < l.length
  · rw [List.getElem?_append_left hp] at h
    exact .inl ⟨h, hp⟩
  · rw [List.getElem?_append_right (by omega)] at h
    have := (List.getElem?_eq_some_iff.mp h).1
    have e0 : k - l.length = 0 := by simp at this; omega
    rw [e0] at h
    exact .inr ⟨(Option.some.inj h).symm, by omega⟩
theorem RwS.snoc {Hc : Hp} {as : List Addr} {rws : List V} {ls : List Ln} (x : RwS Hc as rws ls) {l : Ln} {a r : Addr} (h : Hc r = some (.lst (rwV l a))) : RwS Hc (as ++ [a]) (rws ++ [V.ref r]) (ls ++ [l]) := by
  refine ⟨by simp [x.al], by simp [x.rl], fun k m b h1 h2 => ?_⟩
  rcases snoc_at h1 with ⟨h1, k1⟩ | ⟨rfl, k1⟩
  · rcases snoc_at h2 with ⟨h2, k2⟩ | ⟨rfl, k2⟩
    · obtain ⟨r', h3, h4⟩ := x.at_ k m b h1 h2
      exact ⟨r', by rw [List.getElem?_append_left (by rw [x.rl]; exact k1)]; exact h3, h4⟩
    · have := x.al; omega
  · rcases snoc_at h2 with ⟨h2, k2⟩ | ⟨rfl, k2⟩
    · have := x.al; omega
    · refine ⟨r, ?_, h⟩
      rw [List.getElem?_append_right (by rw [x.rl]; omega), x.rl, k1]
      simp
theorem Ln0.grow {sites names : List Str} {k : Nat} {ls : List Ln} (x : Ln0 sites (names.take k) ls) : Ln0 sites (names.take (k + 1)) ls :=
  ⟨fun l hl => let ⟨a, b, c, d, e, f⟩ := x.e l hl; ⟨a, b, c, d, e, List.take_subset_take_left names (Nat.le_succ k) f⟩, x.n⟩
theorem Ln0.snoc {sites names : List Str} {k : Nat} {ls : List Ln} (x : Ln0 sites (names.take k) ls) {l : Ln} (hk : names[k]? = some l.nm) (nd : names.Nodup) (h : l.it = [] ∧ l.src ∈ sites ∧ l.tgt ∈ sites ∧ l.src ≠ l.tgt ∧ KindOk l.kd) : Ln0 sites (names.take (k + 1)) (ls ++ [l]) := by
  have eT := take_snoc hk
  have nn : l.nm ∉ names.take k := fun q => by
    have := List.nodup_append.mp (by rw [← eT]; exact nd.sublist (List.take_sublist _ _) : (names.take k ++ [l.nm]).Nodup)
    exact this.2.2 _ q _ (List.mem_singleton.mpr rfl) rfl
  refine ⟨fun m hm => ?_, ?_⟩
  · rcases List.mem_append.mp hm with hm | hm
    · exact x.grow.e m hm
    · rw [List.mem_singleton.mp hm, eT]
      exact ⟨h.1, h.2.1, h.2.2.1, h.2.2.2.1, h.2.2.2.2, by simp⟩
  · rw [List.map_append]
    refine List.nodup_append.mpr ⟨x.n, List.pairwise_singleton _ _, fun a ha b hb e => ?_⟩
    obtain ⟨m, hm, rfl⟩ := List.mem_map.mp ha
    rw [List.mem_singleton.mp hb] at e
    have e' : m.nm = l.nm := e
    exact nn (by rw [← e']; exact (x.e m hm).2.2.2.2.2)
theorem zip_filter_snd {α β : Type} (f : β → Bool) : ∀ (as : List α) (ls : List β), as.length = ls.length → ((as.zip ls).filter fun z => f z.2).map (·.2) = ls.filter f
  | [], [], _ => rfl
  | [], _ :: _, h => by cases h
  | _ :: _, [], h => by cases h
  | a :: as, l :: ls, h => by
    have ih := zip_filter_snd f as ls (by simpa using h)
    rw [List.zip_cons_cons, List.filter_cons, List.filter_cons]
    show List.map _ (if f l = true then _ else _) = _
    by_cases q : f l = true
    · rw [if_pos q, if_pos q, List.map_cons, ih]
    · rw [if_neg q, if_neg q, ih]
theorem zip_fst_sub0 {α β : Type} : ∀ (as : List α) (ls : List β), ((as.zip ls).map (·.1)).Sublist as
  | [], ls => by simp
  | a :: as, [] => by simp
  | a :: as, l :: ls => (zip_fst_sub0 as ls).cons_cons a
theorem zip_fst_sub {α β : Type} (f : α × β → Bool) (as : List α) (ls : List β) : (((as.zip ls).filter f).map (·.1)).Sublist as :=
  (List.filter_sublist.map _).trans (zip_fst_sub0 as ls)
/-- what _law_rows hands back: the tuple at T of sites, homes, channels, ways; the channels' items' lists at as -/
structure GdA (H : Hp) (T S HM CH W : Addr) (as : List Addr) (kvs : List (List L2.Key × V)) (g : Gd) : Prop where
  t : cut H as T = some (.tup [.ref S, .ref HM, .ref CH, .ref W])
  s : cut H as S = some (.lst (g.sites.map V.str))
  h : LsA PsA (cut H as) HM g.homes
  al : as.length = g.lines.length
  c : ∃ cs, cut H as CH = some (.lst cs) ∧ cs.length = g.lines.length ∧ ∀ (k : Nat) l a, g.lines[k]? = some l → as[k]? = some a → ∃ r, cs[k]? = some (.ref r) ∧ cut H as r = some (.tup (rwV l a))
  i : ∀ (k : Nat) l a, g.lines[k]? = some l → as[k]? = some a → H a = some (.lst (l.it.map V.str))
  n : as.Nodup
  w : cut H as W = some (.dT kvs)
  y : WyS (cut H as) kvs g.ways
theorem GdA.same {H H' : Hp} {T S HM CH W : Addr} {as : List Addr} {kvs : List (List L2.Key × V)} {g : Gd} (x : GdA H T S HM CH W as kvs g) (s : Same H H') : GdA H' T S HM CH W as kvs g := by
  have c := cut_same (A := as) s
  obtain ⟨cs, h1, h2, h3⟩ := x.c
  exact ⟨c _ _ x.t, c _ _ x.s, x.h.same stPs c, x.al, ⟨cs, c _ _ h1, h2, fun k l a e1 e2 => let ⟨r, q1, q2⟩ := h3 k l a e1 e2; ⟨r, q1, c _ _ q2⟩⟩, fun k l a e1 e2 => s _ _ (x.i k l a e1 e2), x.n, c _ _ x.w, x.y.same c⟩
end M

namespace M
open PySem PySem.Spec PyProof.Rows L2
/-! ### x in o, o a list of texts or a dict with texts as keys -/
def InA (K : PySem.W.Frag) (H : Hp) (a : Addr) (P : Str → Bool) : Prop := (∃ l : List Str, SqL K H a (l.map V.str) ∧ ∀ x, P x = decide (x ∈ l)) ∨ ∃ kvs : List (Key × V), Rd H a (.dK kvs) ∧ ∀ x, P x = (valV kvs (Sum.inr x)).isSome
def rInA (K : PySem.W.Frag) (neg : Bool) : R2 := fun x y H Q => ∃ (a : Addr) (s : Str) (P : Str → Bool), x = .str s ∧ y = .ref a ∧ InA K H a P ∧ Q (.bl (if neg = true then !P s else P s)) H
section
variable {X : Cx}
theorem op_inA (hu : X.A.units + 1 < cLine) : OpR X (compareOp .In) (rInA X.K false) := by
  intro pins s σ H x y v u Q I rx ry h
  obtain ⟨a, t, P, rfl, rfl, hI, q⟩ := h
  rcases hI with ⟨l, hl, e⟩ | ⟨kvs, hk, e⟩
  · refine op_in_seq pins s σ H _ _ v u Q I rx ry ⟨a, _, rfl, .inl hl, rfl, flat_strs l, ?_⟩
    have q' : Q (.bl (P t)) H := q
    show Q (.bl (inV (.str t) (l.map V.str))) H
    rw [inV_strs, ← e]
    exact q'
  · obtain rfl : u = Value.ref a := ry
    refine d_in hu I (.inl ⟨kvs, Sum.inr t, hk, rfl, rfl⟩) rx fun s3 I3 => ⟨.bl _, H, I3, rfl, ?_⟩
    rw [← e]
    exact q
theorem op_notInA (hu : X.A.units + 1 < cLine) : OpR X (compareOp .NotIn) (rInA X.K true) := by
  intro pins s σ H x y v u Q I rx ry h
  obtain ⟨a, t, P, rfl, rfl, hI, q⟩ := h
  rcases hI with ⟨l, hl, e⟩ | ⟨kvs, hk, e⟩
  · refine op_notIn_seq pins s σ H _ _ v u Q I rx ry ⟨a, _, rfl, .inl hl, rfl, flat_strs l, ?_⟩
    have q' : Q (.bl (!P t)) H := q
    show Q (.bl (!inV (.str t) (l.map V.str))) H
    rw [inV_strs, ← e]
    exact q'
  · obtain rfl : u = Value.ref a := ry
    refine d_notIn hu I (.inl ⟨kvs, Sum.inr t, hk, rfl, rfl⟩) rx fun s3 I3 => ⟨.bl _, H, I3, rfl, ?_⟩
    rw [← e]
    exact q
/-! ### list(d.values()) -/
def tListVals (te : TE) : TE := fun σ H Q => te σ H fun x H1 => ∃ (d : Addr) (kvs : List (Key × V)), x = .ref d ∧ H1 d = some (.dK kvs) ∧ ∀ p, H1 p = none → Q (.ref p) (upd H1 p (.lst (kvs.map (·.2))))
theorem vals_at2 {vs : List Value} {xs : List V} (hl : xs.length = vs.length) (h : ∀ (j : Nat) (v : Value), vs[j]? = some v → ∃ x, xs[j]? = some x ∧ RelV x v) : Vals xs vs := by
  induction vs generalizing xs with
  | nil =>
    cases xs with
    | nil => exact .nil
    | cons x xs => cases hl
  | cons v vs ih =>
    cases xs with
    | nil => cases hl
    | cons x xs =>
      obtain ⟨y, e, r⟩ := h 0 v rfl
      cases e
      exact .cons r (ih (by simpa using hl) fun j w hw => h (j + 1) w hw)
theorem paired_getR {α β : Type} {F : α → β → Prop} : ∀ {xs : List α} {ys : List β}, Paired F xs ys → ∀ {i : Nat} {y : β}, ys[i]? = some y → ∃ x, xs[i]? = some x ∧ F x y
  | _, _, .nil, i, y, h => by cases h
  | _, _, .cons r t, 0, y, h => by
    have e := Option.some.inj h
    subst e
    exact ⟨_, rfl, r⟩
  | _, _, .cons r t, i + 1, y, h => paired_getR t (i := i) (by simpa using h)
theorem pe_listVals {o : Expr} {to : TE} {pl pv pa pc : Pos} (calm : X.calm = true) (ho : PE X o to) (gl : Gl X "list" := by rfl) (ml : X.mg "list" = none) (bl : bootBuiltins "list" = some (.type "list") := by decide +kernel)
    (base : attributeBase o "values" X.env (eval o X.env) = eval o X.env := by rfl) (line : (pa.endLine == pv.line) = true := by rfl)
    (one : starEach [.Call (.Attribute o "values" pa) [] [] pv] X.env = (false, eval (.Call (.Attribute o "values" pa) [] [] pv) X.env) :: starEach [] X.env := by rfl) :
    PE X (.Call (.Name "list" pl) [.Call (.Attribute o "values" pa) [] [] pv] [] pc) (tListVals to) := by
  constructor
  intro ps s σ H Q I want
  apply wpAny_Call_Name_kw
  apply ld_blt I gl ml bl
  refine PyProof.Rows.callWith_type1 ?_ one rfl
  rw [one]
  refine Calls.spliced_cons (rest := backTo pc (starEach [] X.env)) ?_
  apply wpAny_Call_method (T := "dict") (id := "dict.values") base rfl line F.plainAttrs_dict F.slot_dict_values F.type_dict_values
  refine thn (ho.run ps s σ H _ I want) fun v t ⟨x, G, J, rel, a, kvs, isA, hA, give⟩ => ?_
  cases isA
  cases (show v = Value.ref a from rel)
  obtain ⟨small, noSys, ws, pair, dict⟩ := J.hok a _ hA
  obtain ⟨_, dAt⟩ := dict.dictAt
  have many : kvs.length = ws.length := Paired.length pair
  have J' : Inv X ps σ G { t with heap := t.heap.push { cls := .type "dict_values", data := .fields #[.ref a] } } := J.kept (t' := t.toks) fun _ _ k => Heap.get?_push_of_some _ k
  refine ⟨dict.typeIs, dict.mapOf.noDict, method_meetsIn F.slot_dict_values F.entry_dict_values rfl (PySem.evalArgs_none ⟨rfl, dict.typeIs, F.args_dict_values_1 _, _, meets_dict_values (mixKind X.prog X.w) a noSys, ⟨ws, dict⟩, Calls.spliced_nil ?_⟩)⟩
  refine PySem.W.kdl_call (PySem.W.kdl_values (knd := mixKind X.prog X.w) (kvs := ws)) (J.ok.hd calm) ⟨⟨_, Heap.get?_push_size _ rfl, rfl, rfl⟩, dAt.push _⟩ (by omega) fun g tk acc cap keep laid items => ?_
  have vals : Vals (kvs.map (·.2)) acc.toList := vals_at2 (by rw [List.length_map, Array.length_toList]; exact many.trans items.1.symm) fun j v e => by
    obtain ⟨k, hj⟩ := items.2 j v (by rw [← Array.getElem?_toList]; exact e)
    obtain ⟨p, hp, _, rp⟩ := paired_getR pair hj
    exact ⟨p.2, by rw [List.getElem?_map, hp]; rfl, rp⟩
  refine ⟨.ref _, upd G _ (.lst (kvs.map (·.2))), J'.laid (t' := tk) keep (Nat.le_refl _) ?_, rfl, give _ (J'.hok.fresh (Nat.le_refl _))⟩
  exact (show ObjOk X.prog X.w _ _ _ (.lst (kvs.map (·.2))) from ⟨by rw [List.length_map]; exact small, acc.toList, cap, vals, by rw [Array.toArray_toList]; exact laid⟩)
end
/-! ### comprehensions over any walk -/
theorem dc_any {J : It} {n : Nat} {g : TG} {tt : TT} {tk tv : TE} {vs : List Nat} {σ : L2.St} {H1 : Hp} {D : Addr} {Qd : Hp → Prop} (Pv : Nat → Hp → Prop) (h0 : Pv 0 (upd H1 D (.dK []))) (hgo : ∀ i H, i < n → Pv i H → J.go i H) (hst : ∀ H, Pv n H → J.stop n H)
    (hs : ∀ i x H H', i < n → Pv i H → J.yld i H x H' → g x (wipe σ vs) H' fun σ2 H2 => wipe σ2 vs = wipe σ vs ∧ tt σ2 H2 fun b H3 =>
      if b = true then tk σ2 H3 fun y H4 => tv σ2 H4 fun z H5 => ∃ kvs k, y = kV k ∧ H5 D = some (.dK kvs) ∧ kvs.length < sizeLine ∧ Pv (i + 1) (upd H5 D (.dK (putK kvs k z))) else Pv (i + 1) H3) (hd : ∀ H, Pv n H → Qd H) :
    ∃ W : Nat → Nat → Hp → Prop, (∃ m, W 0 m (upd H1 D (.dK []))) ∧ ∀ i m H, W i m H →
      (J.stop i H ∧ Qd H) ∨ (J.go i H ∧ ∃ Nx : Hp → Prop, (∀ H', Nx H' → ∃ m', m' < m ∧ W (i + 1) m' H') ∧ ∀ x H', J.yld i H x H' → g x (wipe σ vs) H' fun σ2 H2 => wipe σ2 vs = wipe σ vs ∧ tt σ2 H2 fun b H3 =>
        if b = true then tk σ2 H3 fun y H4 => tv σ2 H4 fun z H5 => ∃ kvs k, y = kV k ∧ H5 D = some (.dK kvs) ∧ kvs.length < sizeLine ∧ Nx (upd H5 D (.dK (putK kvs k z))) else Nx H3) := by
  refine ⟨fun i m H => m = n - i ∧ i ≤ n ∧ Pv i H, ⟨n, by simp, Nat.zero_le _, h0⟩, ?_⟩
  rintro i m H ⟨rfl, hi, p⟩
  by_cases hlt : i < n
  · exact .inr ⟨hgo i H hlt p, Pv (i + 1), fun H' p' => ⟨n - (i + 1), by omega, rfl, hlt, p'⟩, fun x H' y => hs i x H H' hlt p y⟩
  · have e : i = n := by omega
    subst e
    exact .inl ⟨hst H p, hd H p⟩
theorem lc_any {J : It} {n : Nat} {g : TG} {tt : TT} {te : TE} {vs : List Nat} {σ : L2.St} {H1 : Hp} {D : Addr} {Qd : Hp → Prop} (Pv : Nat → Hp → Prop) (h0 : Pv 0 (upd H1 D (.lst []))) (hgo : ∀ i H, i < n → Pv i H → J.go i H) (hst : ∀ H, Pv n H → J.stop n H)
    (hs : ∀ i x H H', i < n → Pv i H → J.yld i H x H' → g x (wipe σ vs) H' fun σ2 H2 => wipe σ2 vs = wipe σ vs ∧ tt σ2 H2 fun b H3 =>
      if b = true then te σ2 H3 fun y H4 => ∃ acc, H4 D = some (.lst acc) ∧ acc.length < sizeLine ∧ Pv (i + 1) (upd H4 D (.lst (acc ++ [y]))) else Pv (i + 1) H3) (hd : ∀ H, Pv n H → Qd H) :
    ∃ W : Nat → Nat → Hp → Prop, (∃ m, W 0 m (upd H1 D (.lst []))) ∧ ∀ i m H, W i m H →
      (J.stop i H ∧ Qd H) ∨ (J.go i H ∧ ∃ Nx : Hp → Prop, (∀ H', Nx H' → ∃ m', m' < m ∧ W (i + 1) m' H') ∧ ∀ x H', J.yld i H x H' → g x (wipe σ vs) H' fun σ2 H2 => wipe σ2 vs = wipe σ vs ∧ tt σ2 H2 fun b H3 =>
        if b = true then te σ2 H3 fun y H4 => ∃ acc, H4 D = some (.lst acc) ∧ acc.length < sizeLine ∧ Nx (upd H4 D (.lst (acc ++ [y]))) else Nx H3) := by
  refine ⟨fun i m H => m = n - i ∧ i ≤ n ∧ Pv i H, ⟨n, by simp, Nat.zero_le _, h0⟩, ?_⟩
  rintro i m H ⟨rfl, hi, p⟩
  by_cases hlt : i < n
  · exact .inr ⟨hgo i H hlt p, Pv (i + 1), fun H' p' => ⟨n - (i + 1), by omega, rfl, hlt, p'⟩, fun x H' y => hs i x H H' hlt p y⟩
  · have e : i = n := by omega
    subst e
    exact .inl ⟨hst H p, hd H p⟩
end M

namespace M
open PySem PySem.Spec PyProof.Rows L2
theorem upd_id {H : Hp} {a : Addr} {o : HO} (h : H a = some o) : upd H a o = H := by
  funext b
  by_cases e : b = a
  · rw [e, upd_same, h]
  · rw [upd_ne e]
theorem upd_swap {H : Hp} {a b : Addr} {o u : HO} (h : a ≠ b) : upd (upd H a o) b u = upd (upd H b u) a o := by
  funext c
  by_cases e1 : c = b
  · subst e1
    rw [upd_same, upd_ne h.symm, upd_same]
  · by_cases e2 : c = a
    · subst e2
      rw [upd_ne e1, upd_same, upd_same]
    · rw [upd_ne e1, upd_ne e2, upd_ne e2, upd_ne e1]
/-! ### a placement's items and channels as objects -/
structure Seat where
  nm : Str
  st : Str
  a : Addr
  dx : Addr
structure Cn where
  l : Ln
  a : Addr
  dx : Addr
  la : Addr
def seatF (p : Addr) (s : Seat) : List (Str × V) := [("owner", .ref p), ("name", .str s.nm), ("seat", .str s.st)]
/-- a channel's attributes, in the order in which they are stored -/
def chF (s t : V) (l : Addr) (n k : V) : List (Str × V) := [("source", s), ("target", t), ("names", .ref l), ("name", n), ("kind", k)]
def cnF (c : Cn) : List (Str × V) := chF (.str c.l.src) (.str c.l.tgt) c.la (.str c.l.nm) (kindV c.l.kd)
def kvS (ss : List Seat) : List (Key × V) := ss.map fun s => (Sum.inr s.nm, .ref s.a)
def kvL (cs : List Cn) : List (Key × V) := cs.map fun c => (Sum.inr c.l.nm, .ref c.a)
def kvH (hs : List (Str × Str)) : List (Key × V) := hs.map fun h => (Sum.inr h.1, .str h.2)
theorem valV_map_in {α : Type} {f : α → Str} {v : α → V} : ∀ {l : List α}, (l.map f).Nodup → ∀ {x : α}, x ∈ l → valV (l.map fun x => ((Sum.inr (f x) : Key), v x)) (Sum.inr (f x)) = some (v x)
  | y :: l, nd, x, h => by
    unfold valV
    rw [List.map_cons, List.find?_cons]
    have n := List.nodup_cons.mp nd
    by_cases e : f y = f x
    · have ey : y = x := by
        rcases List.mem_cons.mp h with h | h
        · exact h.symm
        · exact absurd (by rw [e]; exact List.mem_map.mpr ⟨x, h, rfl⟩) n.1
      subst ey
      rw [decide_eq_true rfl]
      rfl
    · rw [decide_eq_false (fun q => e (Sum.inr.inj q))]
      have hl : x ∈ l := by
        rcases List.mem_cons.mp h with h | h
        · exact absurd (by rw [h]) e
        · exact h
      exact valV_map_in n.2 hl
theorem valV_map_out {α : Type} {f : α → Str} {v : α → V} : ∀ {l : List α} {k : Str}, k ∉ l.map f → valV (l.map fun x => ((Sum.inr (f x) : Key), v x)) (Sum.inr k) = none
  | [], _, _ => rfl
  | y :: l, k, h => by
    unfold valV
    rw [List.map_cons, List.find?_cons]
    rw [decide_eq_false (fun q => h (by rw [← Sum.inr.inj q]; exact List.mem_cons_self))]
    exact valV_map_out (l := l) fun q => h (List.mem_cons_of_mem _ q)
theorem valV_map_isSome {α : Type} {f : α → Str} {v : α → V} {l : List α} (k : Str) : (valV (l.map fun x => ((Sum.inr (f x) : Key), v x)) (Sum.inr k)).isSome = decide (k ∈ l.map f) := by
  induction l with
  | nil => rfl
  | cons y l ih =>
    unfold valV
    rw [List.map_cons, List.find?_cons]
    by_cases e : f y = k
    · rw [decide_eq_true (by rw [e]), decide_eq_true (by rw [← e]; exact List.mem_cons_self)]
      rfl
    · rw [decide_eq_false (fun q => e (Sum.inr.inj q))]
      have ih' : (Option.map (·.2) (List.find? (fun kv : Key × V => decide (kv.1 = Sum.inr k)) (l.map fun x => ((Sum.inr (f x) : Key), v x)))).isSome = decide (k ∈ l.map f) := ih
      show (Option.map _ (List.find? _ (l.map fun x => ((Sum.inr (f x) : Key), v x)))).isSome = _
      rw [ih']
      by_cases m : k ∈ l.map f
      · rw [decide_eq_true m]
        exact (decide_eq_true (show k ∈ (y :: l).map f from List.mem_cons_of_mem _ m)).symm
      · rw [decide_eq_false m]
        refine (decide_eq_false (show ¬ k ∈ (y :: l).map f from fun q => ?_)).symm
        rcases List.mem_cons.mp q with q | q
        · exact e q.symm
        · exact m q
theorem putK_new {κ : Type} [DecidableEq κ] {kvs : List (κ × V)} {k : κ} {v : V} (h : valV kvs k = none) : putK kvs k v = kvs ++ [(k, v)] := by
  unfold putK
  rw [valV_any, h]
  exact if_neg (by decide)
/-- who brings what: the channels' objects by copy -/
structure BrA (kvb : List (List L2.Key × V)) (cs : List Cn) : Prop where
  in_ : ∀ c ∈ cs, ∀ i ∈ c.l.it, valV kvb (k2 i c.l.tgt) = some (.ref c.a)
  out : ∀ i s, (∀ c ∈ cs, ¬ (i ∈ c.l.it ∧ c.l.tgt = s)) → valV kvb (k2 i s) = none
  keys : ∀ e ∈ kvb, ∃ i s, e.1 = k2 i s
  nd : (kvb.map (·.1)).Nodup
def Cn.part (c : Cn) (n : Nat) : Cn := { c with l := { c.l with it := c.l.it.take n } }
theorem Cn.part_all (c : Cn) : c.part c.l.it.length = c := by
  unfold Cn.part
  rw [List.take_length]
theorem BrA.start {kvb : List (List L2.Key × V)} {cs : List Cn} (b : BrA kvb cs) (c : Cn) : BrA kvb (cs ++ [c.part 0]) := by
  refine ⟨fun d hd i hi => ?_, fun i s h => b.out i s fun d hd => h d (List.mem_append_left _ hd), b.keys, b.nd⟩
  rcases List.mem_append.mp hd with hd | hd
  · exact b.in_ d hd i hi
  · rw [List.mem_singleton.mp hd] at hi
    have hi' : i ∈ c.l.it.take 0 := hi
    rw [List.take_zero] at hi'
    cases hi'
theorem BrA.put {kvb : List (List L2.Key × V)} {cs : List Cn} {c : Cn} {n : Nat} {i : Str} (b : BrA kvb (cs ++ [c.part n])) (hi : c.l.it[n]? = some i) (nw : ∀ d ∈ cs, ¬ (i ∈ d.l.it ∧ d.l.tgt = c.l.tgt)) : BrA (putK kvb (k2 i c.l.tgt) (.ref c.a)) (cs ++ [c.part (n + 1)]) := by
  have eT : c.l.it.take (n + 1) = c.l.it.take n ++ [i] := take_snoc hi
  refine ⟨fun d hd j hj => ?_, fun j s h => ?_, fun e he => ?_, putK_nd b.nd⟩
  · rw [valV_put]
    rcases List.mem_append.mp hd with hd | hd
    · rw [if_neg]
      · exact b.in_ d (List.mem_append_left _ hd) j hj
      · intro e
        obtain ⟨e1, e2⟩ := k2_inj e
        exact nw d hd ⟨by rw [← e1]; exact hj, e2⟩
    · have e0 := List.mem_singleton.mp hd
      subst e0
      have hj' : j ∈ c.l.it.take (n + 1) := hj
      rw [eT] at hj'
      by_cases e : k2 j c.l.tgt = k2 i c.l.tgt
      · exact if_pos e
      · rw [show (c.part (n + 1)).l.tgt = c.l.tgt from rfl, if_neg e]
        rcases List.mem_append.mp hj' with hj' | hj'
        · exact b.in_ (c.part n) (by simp) j hj'
        · exact absurd (by rw [List.mem_singleton.mp hj']) e
  · rw [valV_put]
    by_cases e : k2 j s = k2 i c.l.tgt
    · obtain ⟨rfl, rfl⟩ := k2_inj e
      refine absurd ⟨?_, rfl⟩ (h (c.part (n + 1)) (by simp))
      show j ∈ c.l.it.take (n + 1)
      rw [eT]
      simp
    · rw [if_neg e]
      refine b.out j s fun d hd hh => ?_
      rcases List.mem_append.mp hd with hd | hd
      · exact h d (List.mem_append_left _ hd) hh
      · have e0 := List.mem_singleton.mp hd
        subst e0
        refine h (c.part (n + 1)) (by simp) ⟨?_, hh.2⟩
        show j ∈ c.l.it.take (n + 1)
        rw [eT]
        exact List.mem_append_left _ hh.1
  · rcases putK_mem he with q | ⟨e', h1, h2⟩
    · exact ⟨i, c.l.tgt, q⟩
    · obtain ⟨i', s', q⟩ := b.keys e' h1
      exact ⟨i', s', by rw [← h2]; exact q⟩
theorem Hx.keep2 {H0 H : Hp} {l : List (Addr × HO)} (x : Hx H0 H l) (n : ∀ z ∈ l, H0 z.1 = none ∨ H0 z.1 = some z.2) : Same H0 H := fun b o e => by
  by_cases q : ∃ z ∈ l, z.1 = b
  · obtain ⟨z, hz, rfl⟩ := q
    rcases n z hz with h | h
    · rw [h] at e; cases e
    · rw [h] at e
      cases e
      exact x.at_ z hz
  · exact x.fr b o e fun z hz e => q ⟨z, hz, e⟩
theorem Hx.perm {H0 H : Hp} {l l' : List (Addr × HO)} (x : Hx H0 H l) (p : l.Perm l') : Hx H0 H l' :=
  ⟨fun z hz => x.at_ z (p.mem_iff.mpr hz), (p.map _).nodup_iff.mp x.nd, fun b o hb nb => x.fr b o hb fun z hz => nb z (p.mem_iff.mp hz)⟩
theorem Hx.snoc {H0 H : Hp} {l : List (Addr × HO)} {T : Addr} {o : HO} (x : Hx H0 H l) (n : H T = none) : Hx H0 (upd H T o) (l ++ [(T, o)]) :=
  (x.push (o := o) n).perm (List.perm_append_singleton _ _).symm
/-! ### a placement's state -/
structure PSt where
  p : Addr
  dp : Addr
  LP : Addr
  DS : Addr
  DL : Addr
  DB : Addr
  places : List Str
  seats : List Seat
  lines : List Cn
  kvb : List (List L2.Key × V)
def PSt.F (s : PSt) : List (Str × V) := [("places", .ref s.LP), ("seats", .ref s.DS), ("lines", .ref s.DL), ("bringers", .ref s.DB)]
def seT (CI p : Addr) (ss : List Seat) : List (Addr × HO) := ss.map fun i => (i.a, .ins CI i.dx (seatF p i))
def chT (CC : Addr) (cs : List Cn) : List (Addr × HO) := cs.flatMap fun c => [(c.a, .ins CC c.dx (cnF c)), (c.la, .lst (c.l.it.map V.str))]
def PSt.tbl (CP CI CC : Addr) (s : PSt) : List (Addr × HO) := [(s.DB, .dT s.kvb), (s.DL, .dK (kvL s.lines)), (s.DS, .dK (kvS s.seats)), (s.LP, .lst (s.places.map V.str)), (s.p, .ins CP s.dp s.F)] ++ (seT CI s.p s.seats ++ chT CC s.lines)
def PSt.g (s : PSt) (w : Ways) : Gd := ⟨s.places, s.seats.map fun i => (i.nm, i.st), s.lines.map (·.l), w⟩
structure PlA (CP CI CC : Addr) (H0 H : Hp) (s : PSt) (w : Ways) : Prop where
  x : Hx H0 H (s.tbl CP CI CC)
  b : BrA s.kvb s.lines
  o : GdOk (s.g w)
theorem seT_mem {CI p : Addr} {ss : List Seat} {i : Seat} (h : i ∈ ss) : (i.a, .ins CI i.dx (seatF p i)) ∈ seT CI p ss := List.mem_map.mpr ⟨i, h, rfl⟩
theorem chT_mem {CC : Addr} {cs : List Cn} {c : Cn} (h : c ∈ cs) : (c.a, .ins CC c.dx (cnF c)) ∈ chT CC cs ∧ (c.la, .lst (c.l.it.map V.str)) ∈ chT CC cs :=
  ⟨List.mem_flatMap.mpr ⟨c, h, by simp⟩, List.mem_flatMap.mpr ⟨c, h, by simp⟩⟩
theorem seT_snoc {CI p : Addr} {ss : List Seat} {i : Seat} : seT CI p (ss ++ [i]) = seT CI p ss ++ [(i.a, .ins CI i.dx (seatF p i))] := by unfold seT; rw [List.map_append]; rfl
theorem chT_snoc {CC : Addr} {cs : List Cn} {c : Cn} : chT CC (cs ++ [c]) = chT CC cs ++ [(c.a, .ins CC c.dx (cnF c))] ++ [(c.la, .lst (c.l.it.map V.str))] := by
  unfold chT
  rw [List.flatMap_append, List.append_assoc]
  rfl
section
variable {CP CI CC : Addr} {H0 H : Hp} {s : PSt} {w : Ways}
theorem PlA.hp (x : PlA CP CI CC H0 H s w) : H s.p = some (.ins CP s.dp s.F) := x.x.get 4 rfl
theorem PlA.hLP (x : PlA CP CI CC H0 H s w) : H s.LP = some (.lst (s.places.map V.str)) := x.x.get 3 rfl
theorem PlA.hDS (x : PlA CP CI CC H0 H s w) : H s.DS = some (.dK (kvS s.seats)) := x.x.get 2 rfl
theorem PlA.hDL (x : PlA CP CI CC H0 H s w) : H s.DL = some (.dK (kvL s.lines)) := x.x.get 1 rfl
theorem PlA.hDB (x : PlA CP CI CC H0 H s w) : H s.DB = some (.dT s.kvb) := x.x.get 0 rfl
theorem PlA.hse (x : PlA CP CI CC H0 H s w) {i : Seat} (h : i ∈ s.seats) : H i.a = some (.ins CI i.dx (seatF s.p i)) := x.x.at_ (i.a, .ins CI i.dx (seatF s.p i)) (List.mem_append_right _ (List.mem_append_left _ (seT_mem h)))
theorem PlA.hca (x : PlA CP CI CC H0 H s w) {c : Cn} (h : c ∈ s.lines) : H c.a = some (.ins CC c.dx (cnF c)) := x.x.at_ (c.a, .ins CC c.dx (cnF c)) (List.mem_append_right _ (List.mem_append_right _ (chT_mem h).1))
theorem PlA.hla (x : PlA CP CI CC H0 H s w) {c : Cn} (h : c ∈ s.lines) : H c.la = some (.lst (c.l.it.map V.str)) := x.x.at_ (c.la, .lst (c.l.it.map V.str)) (List.mem_append_right _ (List.mem_append_right _ (chT_mem h).2))
theorem PlA.same {H' : Hp} (x : PlA CP CI CC H0 H s w) (e : Same H H') : PlA CP CI CC H0 H' s w := ⟨x.x.same e, x.b, x.o⟩
end
/-- a row of a placement as a tuple, its items in a list -/
def RwT (H : Hp) (v : V) (l : Ln) : Prop := ∃ t a, v = .ref t ∧ H t = some (.tup (rwV l a)) ∧ H a = some (.lst (l.it.map V.str))
theorem stRwT : Stay RwT := fun H H' v x s ⟨t, a, e, h, q⟩ => ⟨t, a, e, s _ _ h, s _ _ q⟩
/-- a text that _law_names gives -/
def Gen (x : Str) : Prop := ∃ d n k, x = nm d n k
theorem gen_mem {d n : Nat} {x : Str} (h : x ∈ nmL d n) : Gen x := by
  unfold nmL at h
  obtain ⟨k, _, e⟩ := List.mem_map.mp h
  exact ⟨d, n, k, e.symm⟩
/-- a word that _law_names gives has one sign, seven signs, its first sign again behind it, or z -/
theorem gen_form {x : Str} (h : Gen x) : x.cps.toList.length = 1 ∨ x.cps.toList.length = 7 ∨ (∃ n c, x.cps.toList = List.replicate n c) ∨ ∃ c r, x.cps.toList = c :: 122 :: r := by
  obtain ⟨d, n, k, rfl⟩ := h
  show (nmC d n k).toArray.toList.length = 1 ∨ (nmC d n k).toArray.toList.length = 7 ∨ (∃ n' c, (nmC d n k).toArray.toList = List.replicate n' c) ∨ ∃ c r, (nmC d n k).toArray.toList = c :: 122 :: r
  rw [List.toList_toArray]
  unfold nmC
  split
  · exact .inl rfl
  · split
    · refine .inr (.inl ?_)
      simp
      omega
    · split
      · exact .inr (.inr (.inl ⟨_, _, rfl⟩))
      · cases e : (d + 3 * k) % 8 with
        | zero => exact .inl rfl
        | succ m => exact .inr (.inr (.inr ⟨_, _, rfl⟩))
theorem not_gen {x : Str} (h1 : x.cps.toList.length ≠ 1) (h7 : x.cps.toList.length ≠ 7) {a b : Nat} {r : List Nat} (e : x.cps.toList = a :: b :: r) (hab : a ≠ b) (hb : b ≠ 122) : ¬ Gen x := fun h => by
  rcases gen_form h with h | h | ⟨n, c, h⟩ | ⟨c, r', h⟩
  · exact h1 h
  · exact h7 h
  · rw [e] at h
    match n, h with
    | 0, h => cases h
    | 1, h => simp at h
    | n + 2, h =>
      rw [List.replicate_succ, List.replicate_succ] at h
      have h2 := List.cons.inj h
      have h3 := List.cons.inj h2.2
      exact hab (h2.1.trans h3.1.symm)
  · rw [e] at h
    exact hb (List.cons.inj (List.cons.inj h).2).1
theorem gen_zebra : ¬ Gen "zebra" := not_gen (a := 122) (b := 101) (r := [98, 114, 97]) (by decide +kernel) (by decide +kernel) (by decide +kernel) (by decide) (by decide)
theorem gen_yak : ¬ Gen "yak" := not_gen (a := 121) (b := 97) (r := [107]) (by decide +kernel) (by decide +kernel) (by decide +kernel) (by decide) (by decide)
theorem gen_gnu : ¬ Gen "gnu" := not_gen (a := 103) (b := 110) (r := [117]) (by decide +kernel) (by decide +kernel) (by decide +kernel) (by decide) (by decide)
theorem gen_ibis : ¬ Gen "ibis" := not_gen (a := 105) (b := 98) (r := [105, 115]) (by decide +kernel) (by decide +kernel) (by decide +kernel) (by decide) (by decide)
/-- names in use are good -/
structure GdNm (g : Gd) : Prop where
  s : ∀ x ∈ g.sites, NameOk x ∧ PyData.strOk x = true
  i : ∀ x ∈ g.goods, NameOk x ∧ PyData.strOk x = true
  l : ∀ l ∈ g.lines, NameOk l.nm ∧ PyData.strOk l.nm = true ∧ KindOk l.kd
  gs : ∀ x ∈ g.sites, Gen x
  gi : ∀ x ∈ g.goods, Gen x
  gl : ∀ l ∈ g.lines, Gen l.nm
end M

namespace M
open PySem PySem.Spec PyProof.Rows L2
/-! ### try with several clauses, each with a name -/
abbrev TsA := Addr → Value → Option Addr → TS
/-- the ends of a clause whose name stands at slot i -/
def offN (D : Ends) (i : Nat) : Ends := { nx := fun σ' H' => D.nx (σ'.set i none) H', rt := D.rt, bk := fun σ' H' => D.bk (σ'.set i none) H', ct := fun σ' H' => D.ct (σ'.set i none) H' }
def wAsM (K : PySem.W.Frag) (Wout : WX) (D : Ends) : List (Value × Nat × TsA) → WX
  | [] => Wout
  | (c, i, ts) :: r => fun cls d σ H => ∃ b, PySem.W.exmOne K cls c = some b ∧ (b = true → ∀ a, H a = none → ts a cls d (offN D i) (σ.set i (some (.ref a))) H) ∧ (b = false → wAsM K Wout D r cls d σ H)
inductive HdsAs (X : Cx) : List ExceptHandler → List (Value × Nat × TsA) → Prop
  | nil : HdsAs X [] []
  | cons {x n : Str} {c : Value} {i : Nat} {ts : Addr → Obj → Value → Option Addr → List (Addr × Obj) → TS} {b₀ : Stmt} {suite : List Stmt} {np pos' : Pos} {hds : List ExceptHandler} {l : List (Value × Nat × TsA)}
      (hN : X.N.Nodup) (hi : X.N[i]? = some n) (hln : X.env.kindOf n = some .local) (hc : Names X x c)
      (hsu : ∀ (a : Addr) (oe : Obj) (cls : Value) (d : Option Addr) (pn : List (Addr × Obj)), Zc cls d oe → (∃ vs, oe.data = .fields vs) → PSs (X.suite a ((a, oe) :: pn)) (b₀ :: suite) (ts a oe cls d pn)) (r : HdsAs X hds l) :
      HdsAs X (.ExceptHandler (some (.Name x np)) (some n) (b₀ :: suite) pos' :: hds) ((c, i, fun a cls d => fun D σ H => ∀ oe pn, ts a oe cls d pn D σ H) :: l)
section
variable {X : Cx} {ss : List Stmt} {e₁ : ExceptHandler} {er : List ExceptHandler} {cl : List (Value × Nat × TsA)} {pl : Pos} {tb : WX → List (Addr × Obj) → (Value → Shared → Prop) → TS} {Wo : WX}
/-- a suite's end: the clause's name is gone, the try's end is that of its suite -/
theorem suite_end {Y : Cx} {ps : List (Addr × Obj)} {D : Ends} {i : Nat} {n : Str} {q : Pos} {fl : Flow} {t : Shared} (un : ∀ {σ : L2.St} {H : Hp}, Inv Y [] σ H t → Inv X ps σ H t) (hN : X.N.Nodup) (hi : X.N[i]? = some n) (hk : X.env.kindOf n = some .local) (h : SP Y [] (offN D i) fl t) :
    wpAny (model X.prog X.w) X.A (do bindName X.env n .none; unbindBehindTheSuite X.env n q) (fun _ t' => SP X ps D fl t') X.xe t := by
  cases fl <;> first
    | (obtain ⟨σ, H, J, z⟩ := h; exact gone_ok (un J) hN hi hk fun _ J' => ⟨_, _, J', z⟩)
    | (obtain ⟨v, σ, H, J, r, z⟩ := h; exact gone_ok (un J) hN hi hk fun _ J' => ⟨v, _, _, J', r, z⟩)
theorem ps_tryM (st : X.stack = X.env :: X.outer) (fr : X.env.frame = some X.env.locals) (tk : Takes X Wo)
    (body : ∀ W pn xe, Takes (X.tr pn xe) W → PassesOwn (model X.prog X.w) X.A X.env xe → PSs (X.tr pn xe) ss (tb W pn xe)) (hh : HdsAs X (e₁ :: er) cl) :
    PS X (.Try ss (e₁ :: er) [] [] pl) fun D σ H => ∀ pn xe, tb (wAsM X.K Wo D cl) pn xe D σ H := by
  refine ⟨fun ps s σ H D I wish => ?_⟩
  have fA : X.A.frames = some (X.env :: X.outer) := st ▸ I.ok.frames
  let found : Value → Shared → Prop := fun e s => wpAny (model X.prog X.w) X.A (noteFrame e X.env) (fun _ s => wpAny (model X.prog X.w) X.A (setFlight e none) (fun _ s => wpAny (model X.prog X.w) X.A (handleBy e X.env (e₁ :: er)) (SP X ps D) X.xe s) X.xe s) X.xe s
  have caught : Takes (X.tr (X.pn ++ ps) found) (wAsM X.K Wo D cl) := by
    rintro u s' ⟨x, B, t, qs, τ, G, cls, d, rfl, J0, nb, up, sky, emp, os, ag, cw⟩
    have J := J0.ofTry I.ok
    rw [show (X.tr (X.pn ++ ps) found).stack = X.env :: X.outer from st] at sky
    refine Sky.land Zc.steady fA fr sky fun g fl up1 => ?_
    have Jg : Inv X ps τ G { s' with heap := g } := J.landed nb fl.1 (up.trans up1) os ag
    obtain ⟨o, vals, at_, zc, dat⟩ := fl.there
    have out : x ∉ frs (X.env :: X.outer) := fun m => by
      obtain ⟨_, o', q, no⟩ := fl.2.2.1.mem m
      cases at_.symm.trans q
      exact no _ dat
    have oL : x ≠ X.env.locals := fun z => out (List.mem_filterMap.mpr ⟨X.env, List.mem_cons_self, by rw [fr, z]⟩)
    have oF : x ∉ X.fs := fun m => by
      obtain ⟨v, hv, q⟩ := List.mem_filterMap.mp m
      exact out (List.mem_filterMap.mpr ⟨v, List.mem_cons_of_mem _ hv, q⟩)
    have type_ : PySem.W.Looks (model X.prog X.w) g (typeOf (.ref x)) cls := fun _ _ _ _ keep q => wpAny_typeOf_ref (keep _ _ at_) (zc.1.symm ▸ q)
    suffices all : ∀ {er' cl'}, HdsAs X er' cl' → wAsM X.K Wo D cl' cls d τ G → wpAny (model X.prog X.w) X.A (handleBy (.ref x) X.env er') (SP X ps D) X.xe { s' with heap := g } from all hh cw
    intro er' cl' ok
    induction ok with
    | nil =>
      intro w
      have land := fl
      obtain ⟨_, _, _, _, _, T, _, _, a1, _, a2, a3, _⟩ := fl
      have again : wpAny (model X.prog X.w) X.A (setFlight (.ref x) X.env.frame) (fun _ s => wpAny (model X.prog X.w) X.A (throw (.ref x) : Sem Flow) (SP X ps D) X.xe s) X.xe { s' with heap := g } := by
        rw [fr]
        exact HandSPX.setFlight_upZ land fun _ hot up2 => wpAny_throw (tk _ _ ⟨x, B, t, ps, τ, G, cls, d, rfl, J, nb, (up.trans up1).trans up2, .inr (.inr (st ▸ hot)), emp, os, ag, w⟩)
      refine wpAny_handleBy_nil ?_
      unfold PySem.passOn
      refine wpAny_bind (wpAny_field a1 a2 a3 ?_)
      rw [if_neg (show ¬ (Value.ref T == Value.none) = true from by simp)]
      first | exact wpAny_bind again | exact wpAny_bind (wpAny_pure (wpAny_bind again))
    | @cons x₁ n c i ts b₀ suite np q hds2 l2 hN hi hk nm hsu _ ih =>
      rintro ⟨b, say, yes, no⟩
      refine wpAny_handleBy_cons (codeAny_handlers_test ?_) (fun z => by cases z)
      have S := Jg.suite at_ dat emp oL oF
      have name : ∀ {R E : Value → Shared → Prop}, R c { s' with heap := g } → wpAny (model X.prog X.w) (X.A.mark (some (.ref x))) (eval (.Name x₁ np) X.env) R E { s' with heap := g } := by
        intro R E r
        rcases nm with ⟨ng, nd, nm | ⟨nm, nv, nn⟩⟩
        · exact ld_glob (X := X.suite x ((x, o) :: (X.pn ++ ps))) S ng nm r nd
        · exact ld_blt (X := X.suite x ((x, o) :: (X.pn ++ ps))) S ng nm nv r nn nd
      refine name ((PySem.W.exm_one (M := model X.prog X.w) Jg.kIn type_ say).here ?_)
      cases b with
      | false => exact ih (no rfl)
      | true =>
        refine codeAny_handlers_suite_as (HandSPX.lands_againZ fl fun g2 fl2 up2 => ?_)
        obtain ⟨o2, _, at2, zc2, dat2⟩ := fl2.there
        have J2 : Inv X ps τ G { s' with heap := g2 } := J.landed nb fl2.1 ((up.trans up1).trans up2) os ag
        have S2 := J2.suite at2 dat2 emp oL oF
        refine store_ok (X := X.suite x ((x, o2) :: (X.pn ++ ps))) (v := .ref x) S2 hN hi (.inl hk) rfl (fun t2 S3 => ?_) (.inr hk)
        exact wpAny_mono ((hsu x o2 cls d _ zc2 ⟨_, dat2⟩).run [] t2 _ G _ S3 (yes rfl x emp _ _)) (fun _ _ z => suite_end (fun J => J.unsuite I.ok) hN hi hk z) fun _ _ z => z.elim
  refine wpAny_Try_except (wpAny_mono ((body _ _ found caught PassesOwn.looking).run [] s σ H D (I.toTry _) (wish _ _)) (fun fl t z => ?_) fun _ _ z => z)
  cases fl <;> first
    | (obtain ⟨σ', H', J, z⟩ := z; first | exact wpAny_execs_nil ⟨σ', H', J.ofTry I.ok, z⟩ | exact ⟨σ', H', J.ofTry I.ok, z⟩)
    | (obtain ⟨v, σ', H', J, r, z⟩ := z; exact ⟨v, σ', H', J.ofTry I.ok, r, z⟩)
end
theorem Hx.base {H0 H1 H : Hp} {l : List (Addr × HO)} (x : Hx H1 H l) (s : Same H0 H1) : Hx H0 H l := ⟨x.at_, x.nd, fun b o e n => x.fr b o (s _ _ e) n⟩
end M

namespace M
open PySem PySem.Spec PyProof.Rows L2
/-! ### x < y, x and y tuples whose first items differ -/
section
open PySem.SeqAt PySem.MeetsSeq PySem.MeetsSeq2 PySem.MeetsSeq3
open PySem.AutoSeq1 (wpAny_loadPart')
theorem lt_heads {a c : Addr} {v u : Value} {vs us : List Value} {m m' : Nat} {d d' : Option Addr} {z z' : Array (Option Value)} {k : Bool} :
    Meets (Builtin.«tuple.__lt__» ⟨[.ref a, .ref c], []⟩) fun A R s => s.heap.get? a = some { cls := .type "tuple", dict := d, data := .seq (v :: vs).toArray m, slots := z } ∧ s.heap.get? c = some { cls := .type "tuple", dict := d', data := .seq (u :: us).toArray m', slots := z' } ∧
      EqAt A.in1 s v u false ∧ RcLt A.in1 s v u k ∧ R (.ok (.ret (.bool k))) s := by
  refine .of_wp fun prog w A R s ⟨ga, gc, differ, less, want⟩ => ?_
  obtain ⟨hp, gn, dr, tk, os⟩ := s
  have sub := AutoSeq1.sub_tuple_tuple
  wp_walk using wpAny_loadPart' ga, wpAny_loadPart' gc, wpAny_forIn_list _ (fun todo acc s' => acc.1 = none ∧ s' = ⟨hp, gn, dr, tk, os⟩ ∧ ∃ more, todo = (v, u) :: more) _
  case turn =>
    rintro ⟨p, q⟩ todo acc s' ⟨_, rfl, more, e⟩
    cases e
    refine wpAny_bind (differ prog w _ _ ?_)
    generalize hrc : PySem.richCompare CmpOp.Lt v u = rc
    wp_walk
    rw [← hrc]
    refine less prog w _ _ ?_
    wp_walk
    exact ⟨_, rfl, want⟩
  case fin =>
    rintro ⟨_, _⟩ s' ⟨_, _, more, e⟩
    cases e
  case h => exact ⟨rfl, rfl, _, rfl⟩
end
/-- x < y is b: alike data, or tuples whose first texts differ -/
def CmpR (K : PySem.W.Frag) (H : Hp) (x y : V) (b : Bool) : Prop :=
  (∃ d e, Dp K H x d ∧ Dp K H y e ∧ PySem.W.alike d e = true ∧ d ≠ .none ∧ d.depth ≤ 60 ∧ b = PySem.W.dataLt d e) ∨
  ∃ a c s t xs ys, x = .ref a ∧ y = .ref c ∧ H a = some (.tup (.str s :: xs)) ∧ H c = some (.tup (.str t :: ys)) ∧ s ≠ t ∧ b = ltS s t
theorem CmpR.same {K : PySem.W.Frag} {H H' : Hp} {x y : V} {b : Bool} (s : Same H H') (h : CmpR K H x y b) : CmpR K H' x y b := by
  rcases h with ⟨d, e, h1, h2, r⟩ | ⟨a, c, t, u, xs, ys, e1, e2, h1, h2, r⟩
  · exact .inl ⟨d, e, dp_same s h1, dp_same s h2, r⟩
  · exact .inr ⟨a, c, t, u, xs, ys, e1, e2, s _ _ h1, s _ _ h2, r⟩
def rLtC (K : PySem.W.Frag) : R2 := fun x y H Q => ∃ b, CmpR K H x y b ∧ Q (.bl b) H
section
variable {X : Cx}
theorem op_ltC (hu : X.A.units + 64 < cLine) : OpR X (compareOp .Lt) (rLtC X.K) := by
  intro pins s σ H x y v u Q I rx ry h
  obtain ⟨b, h, q⟩ := h
  rcases h with ⟨d, e, h1, h2, al, nn, hz, rfl⟩ | ⟨a, c, t1, t2, xs, ys, rfl, rfl, h1, h2, ne, rfl⟩
  · exact op_ltD hu pins s σ H x y v u Q I rx ry ⟨d, e, h1, h2, al, nn, hz, q⟩
  · cases rx
    cases ry
    obtain ⟨i1, r1, p1, _⟩ := I.tuple (.inl (.inl h1))
    obtain ⟨i2, r2, p2, _⟩ := I.tuple (.inl (.inl h2))
    cases r1 with
    | @cons _ w1 _ w1s e1 _ =>
      cases r2 with
      | @cons _ w2 _ w2s e2 _ =>
        obtain ⟨k1, rfl⟩ := e1
        obtain ⟨k2, rfl⟩ := e2
        obtain ⟨⟨cls, dd, data, sl⟩, ho, hc, n, hd⟩ := id p1
        obtain ⟨⟨cls2, dd2, data2, sl2⟩, ho2, hc2, n2, hd2⟩ := id p2
        simp only at hc hd hc2 hd2
        subst hc hd hc2 hd2
        have eqs := SeqAt.EqAt.str_str (A := X.A.in1) (s := s) t1 k1 t2 k2
        rw [show (t1 == t2) = false from beq_false_of_ne ne] at eqs
        have lts : SeqAt.RcLt X.A.in1 s (.str t1 k1) (.str t2 k2) (ltS t1 t2) := fun prog w E Q hq => (PyProof.Rows.lt_str hq : wpAny (model prog w) X.A.in1 (compareOp .Lt (.str t1 k1) (.str t2 k2)) Q E s)
        have fin : Value.bool (ltS t1 t2) ≠ Value.notImplemented ∧ EP X pins σ Q (.bool (ltS t1 t2)) s := ⟨(by intro z; cases z), ⟨.bl _, H, I, rfl, q⟩⟩
        have room : X.A.units < cLine := by omega
        have mt := @lt_heads a c (.str t1 k1) (.str t2 k2) w1s w2s n n2 dd dd2 sl sl2 (ltS t1 t2)
        exact richCompare_meets_room (op := .Lt) (Q := EP X pins σ Q) ⟨_, ho, rfl⟩ ⟨_, ho2, rfl⟩ PySem.F.slot_tuple_lt PySem.F.entry_tuple_lt (PySem.F.args_tuple_lt_2 _ _) mt ⟨ho, ho2, eqs, lts, fin⟩ room
end
end M

namespace M
open PySem PySem.Spec PyProof.Rows L2
/-! ### rows in the order of their names -/
def ltN {α : Type} (f : α → Str) (a b : α) : Bool := ltS (f a) (f b)
theorem ordN {α : Type} {f : α → Str} {l : List α} (nd : (l.map f).Nodup) : Ord (ltN f) (· ∈ l) where
  irr := fun a _ => ordS.irr _ trivial
  tr := fun a b c _ _ _ h1 h2 => ordS.tr _ _ _ trivial trivial trivial h1 h2
  tot := fun a b ha hb => by
    rcases ordS.tot (f a) (f b) trivial trivial with h | h | h
    · exact .inl h
    · refine .inr (.inl ?_)
      obtain ⟨i, hi, rfl⟩ := List.getElem_of_mem ha
      obtain ⟨j, hj, rfl⟩ := List.getElem_of_mem hb
      have : (l.map f)[i]'(by simpa using hi) = (l.map f)[j]'(by simpa using hj) := by simpa using h
      have := (List.getElem_inj nd).mp this
      subst this
      rfl
    · exact .inr (.inr h)
theorem upS_map {α : Type} (f : α → Str) (l : List α) : upS (l.map f) = (asc (ltN f) l).map f := asc_map (lt := ltN f) (lt2 := ltS) (fun _ _ => rfl) l
/-! ### what rows tells, as data -/
def kdD : Option Str → PyData
  | none => .none
  | some s => .str s
def prD (h : Str × Str) : PyData := .tuple [.str h.1, .str h.2]
def strsD (l : List Str) : PyData := .list (l.map PyData.str)
def lnD (l : Ln) : PyData := .tuple [.str l.nm, .str l.src, .str l.tgt, strsD (upS l.it), kdD l.kd]
def toldD (sites : List Str) (homes : List (Str × Str)) (lines : List Ln) : PyData := .tuple [strsD (upS sites), .list ((asc (ltN (·.1)) homes).map prD), .list ((asc (ltN (·.nm)) lines).map lnD)]
theorem strs_dp {K : PySem.W.Frag} {H : Hp} {a : Addr} {l : List Str} (h : H a = some (.lst (l.map V.str))) : Dp K H (.ref a) (strsD l) := by
  refine .lst (SqL.of h) ?_
  clear h
  induction l with
  | nil => exact .nil
  | cons x l ih => exact .cons (.str _) ih
theorem strs_lay {l : List Str} (h : ∀ x ∈ l, PyData.strOk x = true) : (strsD l).canLay0 = true ∧ (strsD l).depth ≤ 1 :=
  ls_lay (D := PyData.str) (n := 0) fun x hx => ⟨by rw [PyData.canLay0]; exact h x hx, by simp [PyData.depth]⟩
theorem kd_dp {K : PySem.W.Frag} {H : Hp} : ∀ k : Option Str, Dp K H (kindV k) (kdD k)
  | none => .non
  | some s => .str s
theorem kd_lay {k : Option Str} (h : KindOk k) : (kdD k).canLay0 = true ∧ (kdD k).depth = 0 := by
  cases k with
  | none => exact ⟨by rw [kdD, PyData.canLay0], by rw [kdD, PyData.depth]⟩
  | some s =>
    have h' : s ∈ kinds := h
    have e : PyData.strOk s = true := by
      simp only [kinds, List.mem_cons, List.not_mem_nil, or_false] at h'
      rcases h' with rfl | rfl | rfl | rfl | rfl <;> decide +kernel
    exact ⟨by rw [kdD, PyData.canLay0]; exact e, by rw [kdD, PyData.depth]⟩
theorem pr_lay {h : Str × Str} (h1 : PyData.strOk h.1 = true) (h2 : PyData.strOk h.2 = true) : (prD h).canLay0 = true ∧ (prD h).depth ≤ 1 := by
  unfold prD
  rw [PyData.canLay0, PyData.canLayAll0, PyData.canLayAll0, PyData.canLayAll0, PyData.canLay0, PyData.canLay0, h1, h2]
  exact ⟨rfl, by simp [PyData.depth, PyData.depthAll]⟩
structure LnOk (l : Ln) : Prop where
  nm : PyData.strOk l.nm = true
  src : PyData.strOk l.src = true
  tgt : PyData.strOk l.tgt = true
  it : ∀ i ∈ l.it, PyData.strOk i = true
  kd : KindOk l.kd
theorem ln_lay {l : Ln} (o : LnOk l) : (lnD l).canLay0 = true ∧ (lnD l).depth ≤ 2 := by
  have h1 := strs_lay (l := upS l.it) fun x hx => o.it x ((upS_perm _).mem_iff.mp hx)
  have h2 := kd_lay o.kd
  have e : ∀ s : Str, (PyData.str s).depth = 0 := fun s => by rw [PyData.depth]
  unfold lnD
  rw [PyData.canLay0, PyData.canLayAll0, PyData.canLayAll0, PyData.canLayAll0, PyData.canLayAll0, PyData.canLayAll0, PyData.canLayAll0, PyData.canLay0, PyData.canLay0, PyData.canLay0, o.nm, o.src, o.tgt, h1.1, h2.1,
    PyData.depth, PyData.depthAll, PyData.depthAll, PyData.depthAll, PyData.depthAll, PyData.depthAll, PyData.depthAll, e, e, e, h2.2]
  exact ⟨rfl, by omega⟩
structure ToldOk (sites : List Str) (homes : List (Str × Str)) (lines : List Ln) : Prop where
  s : ∀ x ∈ sites, PyData.strOk x = true
  h : ∀ x ∈ homes, PyData.strOk x.1 = true ∧ PyData.strOk x.2 = true
  l : ∀ x ∈ lines, LnOk x
theorem told_lay {sites : List Str} {homes : List (Str × Str)} {lines : List Ln} (o : ToldOk sites homes lines) : (toldD sites homes lines).canLay0 = true ∧ (toldD sites homes lines).depth ≤ 64 := by
  have h1 := strs_lay (l := upS sites) fun x hx => o.s x ((upS_perm _).mem_iff.mp hx)
  have h2 := ls_lay (D := prD) (n := 1) (xs := asc (ltN (·.1)) homes) fun x hx => pr_lay (o.h x ((asc_perm _ _).mem_iff.mp hx)).1 (o.h x ((asc_perm _ _).mem_iff.mp hx)).2
  have h3 := ls_lay (D := lnD) (n := 2) (xs := asc (ltN (·.nm)) lines) fun x hx => ln_lay (o.l x ((asc_perm _ _).mem_iff.mp hx))
  unfold toldD
  rw [PyData.canLay0, PyData.canLayAll0, PyData.canLayAll0, PyData.canLayAll0, PyData.canLayAll0, h1.1, h2.1, h3.1, PyData.depth, PyData.depthAll, PyData.depthAll, PyData.depthAll, PyData.depthAll]
  exact ⟨rfl, by omega⟩
end M

namespace M
open PySem PySem.Spec PyProof.Rows L2
/-! ### rows sorted by their first texts -/
section
variable {α : Type} {R : V → α → Prop} {vs : List V} {xs : List α}
theorem Pw.srtG {lt : α → α → Bool} (p : Pw R vs xs) : Pw R ((M.srt (fun p q : V × α => lt p.2 q.2) (vs.zip xs)).map (·.1)) (M.srt lt xs) := by
  have e2 : M.srt lt xs = (M.srt (fun p q : V × α => lt p.2 q.2) (vs.zip xs)).map (·.2) := by
    rw [← srt_map (lt2 := lt) (f := fun z : V × α => z.2) (fun a b => rfl), p.snd]
  rw [e2]
  exact Pw.of_zip fun z hz => p.mem z ((srt_perm _).mem_iff.mp hz)
theorem srt_ltN {f : α → Str} {l : List α} (nd : (l.map f).Nodup) : srt (ltN f) l = asc (ltN f) l := srt_asc (ordN nd) (fun _ h => h) (.refl _)
theorem zip_fst (p : Pw R vs xs) : (vs.zip xs).map (·.1) = vs := by
  rw [List.map_fst_zip]
  exact Nat.le_of_eq p.len
/-- a tuple with a text at its head -/
def HdT (f : α → Str) (H : Hp) (v : V) (x : α) : Prop := ∃ t r, v = .ref t ∧ H t = some (.tup (.str (f x) :: r))
theorem pw_cmp {K : PySem.W.Frag} {H : Hp} {f : α → Str} (p : Pw R vs xs) (nd : (xs.map f).Nodup) (hh : ∀ v x, R v x → HdT f H v x) : (vs.zip xs).Pairwise (fun p q => CmpR K H p.1 q.1 (ltN f p.2 q.2)) := by
  refine List.pairwise_iff_getElem.mpr fun i j hi hj lt => ?_
  have hi1 : i < xs.length := by rw [List.length_zip] at hi; omega
  have hj1 : j < xs.length := by rw [List.length_zip] at hj; omega
  have hi2 : i < vs.length := by rw [List.length_zip] at hi; omega
  have hj2 : j < vs.length := by rw [List.length_zip] at hj; omega
  rw [List.getElem_zip, List.getElem_zip]
  obtain ⟨t, r, e1, h1⟩ := hh _ _ (p.at_ i _ _ (List.getElem?_eq_getElem hi2) (List.getElem?_eq_getElem hi1))
  obtain ⟨t', r', e2, h2⟩ := hh _ _ (p.at_ j _ _ (List.getElem?_eq_getElem hj2) (List.getElem?_eq_getElem hj1))
  refine .inr ⟨t, t', _, _, r, r', e1, e2, h1, h2, fun e => ?_, rfl⟩
  have hij : (xs.map f)[i]'(by simpa using hi1) = (xs.map f)[j]'(by simpa using hj1) := by simpa using e
  have := (List.getElem_inj nd).mp hij
  omega
end
/-- a row of a placement as told: its items ascend -/
def RwU (H : Hp) (v : V) (l : Ln) : Prop := ∃ t a, v = .ref t ∧ H t = some (.tup (rwV l a)) ∧ H a = some (.lst ((upS l.it).map V.str))
theorem stRwU : Stay RwU := fun H H' v x s ⟨t, a, e, h, q⟩ => ⟨t, a, e, s _ _ h, s _ _ q⟩
theorem hd_PsA {H : Hp} : ∀ v x, PsA H v x → HdT (fun x : Str × Str => x.1) H v x := fun v x ⟨t, e, h⟩ => ⟨t, _, e, h⟩
theorem hd_RwU {H : Hp} : ∀ v x, RwU H v x → HdT (fun x : Ln => x.nm) H v x := fun v x ⟨t, a, e, h, _⟩ => ⟨t, _, e, h⟩
theorem told_dp {K : PySem.W.Frag} {H : Hp} {T A B C : Addr} {sites : List Str} {homes : List (Str × Str)} {lines : List Ln} (hT : H T = some (.tup [.ref A, .ref B, .ref C])) (hA : H A = some (.lst ((upS sites).map V.str)))
    (hB : LsA PsA H B (asc (ltN (·.1)) homes)) (hC : LsA RwU H C (asc (ltN (·.nm)) lines)) : Dp K H (.ref T) (toldD sites homes lines) := by
  refine .tup (.inl (.inl hT)) (.cons (strs_dp hA) (.cons (ls_dp (fun v x h => ?_) hB) (.cons (ls_dp (fun v x h => ?_) hC) .nil)))
  · obtain ⟨t, rfl, ht⟩ := h
    exact .tup (.inl (.inl ht)) (.cons (.str _) (.cons (.str _) .nil))
  · obtain ⟨t, a, rfl, ht, ha⟩ := h
    exact .tup (.inl (.inl ht)) (.cons (.str _) (.cons (.str _) (.cons (.str _) (.cons (strs_dp ha) (.cons (kd_dp _) .nil)))))
end M

namespace M
open PySem PySem.Spec PyProof.Rows L2
/-! ### e.f = v, a property with a setter -/
section
variable {X : Cx} {CX : CXT} {k j : Nat} {C p g a dx : Addr} {fs : List (Str × V)} {f : Str} {fd : FuncData} {ps : List Str} {sp : Sp} {E : L2.St → XK} {W : WX} {o value : Expr} {pos pos' : Pos} {ta tv : TE}
theorem setprop_ok {pins : List (Addr × Obj)} {σ : L2.St} {H : Hp} {s : Shared} {D : Hp → Prop} {y : V} {u : Value} (I : Inv X pins σ H s) (ea : H a = some (.ins C dx fs)) (c : Cls X.K C) (hp : PropSet X.K C f p g)
    (F : FnOk X.prog X.w X.K X.mg X.base CX k g fd ps sp) (hr : Room (k + 2) X.A) (hb : Binds X.K fd ps []) (hx : ∀ (s : Shared), PassesAt CX X σ (E σ)) (ry : RelV y u) (h : sp [.ref a, y] H (fun _ H' => D H') (E σ)) :
    wpAny (model X.prog X.w) X.A (setAttr (.ref a) f u) (fun _ s' => ∃ H', Inv X pins σ H' s' ∧ D H') X.xe s := by
  obtain ⟨mA, O, _, _, _, _⟩ := ins_get I.hok ea
  obtain ⟨od, J, _⟩ := O.look
  obtain ⟨a0, rest, hrec⟩ := hp.rec_
  have I1 := I.tok (s.toks + 1)
  have hl : ([Value.ref a, u]).length = ps.length := by
    rw [← F.len _ _ _ _ h]
    rfl
  have b := hb { s with toks := s.toks + 1 } [.ref a, u] I1.kIn (by rw [List.append_nil]; exact hl)
  rw [List.append_nil] at b
  refine PySem.W.set_plain I.kIn J c.sa (PySem.W.osa_descr (s := { s with toks := s.toks + 1 }) PySem.W.KF.slot_pset I.kIn J c.po hp.tk hp.ty (PySem.W.prop_set (s := { s with toks := s.toks + 1 }) I.kIn hrec ?_))
  refine codeAny_mono (F.run X.A.in1.in1 X.stack { s with toks := s.toks + 1 } H ⟨[.ref a, u], []⟩ [.ref a, u] [.ref a, y] (fun _ H' => D H') (E σ) hr.in1.in1 I1.env0.in1.in1 b (.cons rfl (.cons ry .nil)) h) fun r s' hq => ?_
  cases r with
  | error er => exact hx s pins H _ er s' I1 hq
  | ok fl =>
    cases fl with
    | ret v =>
      obtain ⟨v', H', I3, rv, q3⟩ := I1.after hq
      exact ⟨H', I3, q3⟩
    | next => exact False.elim hq
    | brk => exact False.elim hq
    | cont => exact False.elim hq
end
/-- its promise -/
structure PSet (P : Program) (w : World) (K : PySem.W.Frag) (mg : Str → Option Value) (base : Heap) (k : Nat) (C : Addr) (f : Str) (sp : Sp) : Prop where
  cl : Cls K C
  ex : ∃ (p g : Addr) (fd : FuncData) (ps : List Str), PropSet K C f p g ∧ Binds K fd ps [] ∧ FnOk P w K mg base (L2.CX P w) k g fd ps sp
def sPst (C : Addr) (sp : Sp) (E : L2.St → XK) (ta tv : TE) : TS := fun D σ H => tv σ H fun y H1 => ta σ H1 fun x H2 => ∃ (a dx : Addr) (fs : List (Str × V)), x = .ref a ∧ H2 a = some (.ins C dx fs) ∧ sp [.ref a, y] H2 (fun _ H' => D.nx σ H') (E σ)
theorem ps_pst {X : Cx} {j k : Nat} {C : Addr} {f : Str} {sp : Sp} {W : WX} {o value : Expr} {pos pos' : Pos} {ta tv : TE} (G : PSet X.prog X.w X.K X.mg X.base k C f sp) (hr : Room j X.A) (tk : Takes X W) (ha : PE X o ta) (hv : PE X value tv) (hk : k + 2 ≤ j := by decide)
    (hs : swapsWith value (some (.Attribute o f pos')) pos.line X.env = pure false := by rfl) : PS X (.Assign [.Attribute o f pos'] value pos) (sPst C sp (WE W) ta tv) := by
  obtain ⟨p, g, fd, ps, hp, hb, F⟩ := G.ex
  refine ⟨fun pins s σ H D I h => ?_⟩
  refine plainObj_wpAny_Assign_Attribute (thn (hv.run pins s σ H _ I h) fun u s1 ⟨y, H1, I1, ry, q⟩ => thn (ha.run pins s1 σ H1 _ I1 q) fun ov s2 ⟨x, H2, I2, rx, a, dx, fs, ex, ea, q2⟩ => ?_) hs
  subst ex
  obtain rfl : ov = Value.ref a := rx
  exact wpAny_mono (setprop_ok I2 ea G.cl hp F (hr.mono hk) hb (fun _ => passAt tk σ) ry q2) (fun _ s3 ⟨H', I3, q3⟩ => ⟨σ, _, I3, q3⟩) fun _ _ z => z
end M

namespace M
open PySem PySem.Spec PyProof.Rows L2
/-! ### a channel gets another kind -/
def insN : HO → Nat
  | .ins _ _ fs => fs.length
  | _ => 0
def PSt.homes (s : PSt) : List (Str × Str) := s.seats.map fun i => (i.nm, i.st)
def PSt.lns (s : PSt) : List Ln := s.lines.map (·.l)
theorem Hx.updM {H0 H : Hp} {l l' : List (Addr × HO)} {a : Addr} {o : HO} (x : Hx H0 H l) (ha : a ∈ l.map (·.1)) (e : l'.map (·.1) = l.map (·.1)) (h : ∀ z ∈ l', z = (a, o) ∨ (z ∈ l ∧ z.1 ≠ a)) : Hx H0 (upd H a o) l' := by
  refine ⟨fun z hz => ?_, by rw [e]; exact x.nd, fun b u hb nb => ?_⟩
  · rcases h z hz with rfl | ⟨hm, ne⟩
    · exact upd_same
    · rw [upd_ne ne]; exact x.at_ z hm
  · have ne : ∀ z ∈ l, z.1 ≠ b := fun z hz q => by
      have : z.1 ∈ l'.map (·.1) := by rw [e]; exact List.mem_map.mpr ⟨z, hz, rfl⟩
      obtain ⟨y, hy, e2⟩ := List.mem_map.mp this
      exact nb y hy (e2.trans q)
    obtain ⟨z, hz, e1⟩ := List.mem_map.mp ha
    have := ne z hz
    rw [upd_ne (fun q => this (by rw [e1, q]))]
    exact x.fr b u hb ne
def Ln.kdTo (n : Str) (k : Option Str) (l : Ln) : Ln := { l with kd := if l.nm = n then k else l.kd }
def Cn.kdTo (n : Str) (k : Option Str) (c : Cn) : Cn := { c with l := c.l.kdTo n k }
def PSt.kdTo (s : PSt) (n : Str) (k : Option Str) : PSt := { s with lines := s.lines.map (Cn.kdTo n k) }
theorem GdOk.kdTo {g : Gd} (o : GdOk g) (n : Str) (k : Option Str) : GdOk { g with lines := g.lines.map (Ln.kdTo n k) } := by
  refine ⟨o.sN, o.hN, o.hS, ?_, ?_, ?_, o.wH, ?_, ?_, ?_⟩
  · show ((g.lines.map (Ln.kdTo n k)).map (·.nm)).Nodup
    rw [List.map_map]
    exact o.lN
  · intro l hl
    obtain ⟨m, hm, rfl⟩ := List.mem_map.mp hl
    exact o.lE m hm
  · intro l hl
    obtain ⟨m, hm, rfl⟩ := List.mem_map.mp hl
    exact o.lI m hm
  · intro l hl i hi
    obtain ⟨m, hm, rfl⟩ := List.mem_map.mp hl
    exact o.wL m hm i hi
  · intro i s w h
    rcases o.wD i s w h with h | ⟨l, hl, e, hi⟩
    · exact .inl h
    · exact .inr ⟨_, List.mem_map.mpr ⟨l, hl, rfl⟩, e, hi⟩
  · intro i j l m x hi hj e hl hm
    have hi' : (g.lines.map (Ln.kdTo n k))[i]? = some l := hi
    have hj' : (g.lines.map (Ln.kdTo n k))[j]? = some m := hj
    rw [List.getElem?_map] at hi' hj'
    cases e1 : g.lines[i]? with
    | none => rw [e1] at hi'; cases hi'
    | some l0 =>
      cases e2 : g.lines[j]? with
      | none => rw [e2] at hj'; cases hj'
      | some m0 =>
        rw [e1] at hi'
        rw [e2] at hj'
        cases hi'
        cases hj'
        exact o.u i j l0 m0 x e1 e2 e hl hm
theorem BrA.kdTo {kvb : List (List L2.Key × V)} {cs : List Cn} (b : BrA kvb cs) (n : Str) (k : Option Str) : BrA kvb (cs.map (Cn.kdTo n k)) := by
  refine ⟨fun c hc i hi => ?_, fun i s h => b.out i s fun c hc => h (c.kdTo n k) (List.mem_map.mpr ⟨c, hc, rfl⟩), b.keys, b.nd⟩
  obtain ⟨d, hd, rfl⟩ := List.mem_map.mp hc
  exact b.in_ d hd i hi
theorem PlA.kdTo {CP CI CC : Addr} {H0 H : Hp} {s : PSt} {w : Ways} (x : PlA CP CI CC H0 H s w) {c : Cn} (hc : c ∈ s.lines) (k : Option Str) : PlA CP CI CC H0 (upd H c.a (.ins CC c.dx (cnF (c.kdTo c.l.nm k)))) (s.kdTo c.l.nm k) w := by
  have hca := x.hca hc
  have nl : (s.lines.map (·.l.nm)).Nodup := by
    have := x.o.lN
    unfold PSt.g at this
    rw [List.map_map] at this
    exact this
  have same : ∀ d ∈ s.lines, d.l.nm = c.l.nm → d = c := fun d hd e => by
    obtain ⟨i, hi, rfl⟩ := List.getElem_of_mem hd
    obtain ⟨j, hj, rfl⟩ := List.getElem_of_mem hc
    have : (s.lines.map (·.l.nm))[i]'(by simpa using hi) = (s.lines.map (·.l.nm))[j]'(by simpa using hj) := by simpa using e
    have := (List.getElem_inj nl).mp this
    subst this
    rfl
  have ne : ∀ z ∈ s.tbl CP CI CC, z.1 = c.a → z.2 = .ins CC c.dx (cnF c) := fun z hz e => by
    have := x.x.at_ z hz
    rw [e, hca] at this
    exact (Option.some.inj this).symm
  refine ⟨x.x.updM (List.mem_map.mpr ⟨(c.a, .ins CC c.dx (cnF c)), List.mem_append_right _ (List.mem_append_right _ (chT_mem hc).1), rfl⟩) ?_ ?_, x.b.kdTo _ _, ?_⟩
  · have e : (chT CC (s.lines.map (Cn.kdTo c.l.nm k))).map (·.1) = (chT CC s.lines).map (·.1) := by
      unfold chT
      rw [List.flatMap_map, List.map_flatMap, List.map_flatMap]
      rfl
    have e2 : (PSt.tbl CP CI CC (s.kdTo c.l.nm k)).map (·.1) = [s.DB, s.DL, s.DS, s.LP, s.p] ++ ((seT CI s.p s.seats).map (·.1) ++ (chT CC (s.lines.map (Cn.kdTo c.l.nm k))).map (·.1)) := by
      unfold PSt.tbl
      rw [List.map_append, List.map_append]
      rfl
    have e3 : (PSt.tbl CP CI CC s).map (·.1) = [s.DB, s.DL, s.DS, s.LP, s.p] ++ ((seT CI s.p s.seats).map (·.1) ++ (chT CC s.lines).map (·.1)) := by
      unfold PSt.tbl
      rw [List.map_append, List.map_append]
      rfl
    rw [e2, e3, e]
  · intro z hz
    have eL : kvL (s.lines.map (Cn.kdTo c.l.nm k)) = kvL s.lines := by
      unfold kvL
      rw [List.map_map]
      rfl
    rcases List.mem_append.mp hz with hz | hz
    · have hz' : z ∈ ([(s.DB, .dT s.kvb), (s.DL, .dK (kvL (s.lines.map (Cn.kdTo c.l.nm k)))), (s.DS, .dK (kvS s.seats)), (s.LP, .lst (s.places.map V.str)), (s.p, .ins CP s.dp s.F)] : List (Addr × HO)) := hz
      rw [eL] at hz'
      have hm : z ∈ s.tbl CP CI CC := List.mem_append_left _ hz'
      refine .inr ⟨hm, fun e => ?_⟩
      have e2 := ne z hm e
      simp only [List.mem_cons, List.not_mem_nil, or_false] at hz'
      rcases hz' with rfl | rfl | rfl | rfl | rfl
      · cases e2
      · cases e2
      · cases e2
      · cases e2
      · have e3 : (4 : Nat) = 5 := congrArg insN e2
        exact absurd e3 (by decide)
    rcases List.mem_append.mp hz with hz | hz
    · have hm : z ∈ s.tbl CP CI CC := List.mem_append_right _ (List.mem_append_left _ hz)
      refine .inr ⟨hm, fun e => ?_⟩
      have e2 := ne z hm e
      obtain ⟨i, _, rfl⟩ := List.mem_map.mp hz
      have e3 : (3 : Nat) = 5 := congrArg insN e2
      exact absurd e3 (by decide)
    · obtain ⟨d', hd', hz⟩ := List.mem_flatMap.mp hz
      obtain ⟨d, hd, rfl⟩ := List.mem_map.mp hd'
      simp only [List.mem_cons, List.not_mem_nil, or_false] at hz
      rcases hz with rfl | rfl
      · by_cases q : d.l.nm = c.l.nm
        · rw [same d hd q]
          exact .inl rfl
        · have ek : d.kdTo c.l.nm k = d := by
            unfold Cn.kdTo Ln.kdTo
            rw [if_neg q]
          rw [ek]
          have hm : (d.a, HO.ins CC d.dx (cnF d)) ∈ s.tbl CP CI CC := List.mem_append_right _ (List.mem_append_right _ (chT_mem hd).1)
          refine .inr ⟨hm, fun e => ?_⟩
          have e2 := ne _ hm e
          have e3 : cnF d = cnF c := by injection e2
          exact q (by
            have e4 := congrArg (fun f => f.lookup ("name" : Str)) e3
            have e5 : some (V.str d.l.nm) = some (V.str c.l.nm) := e4
            injection e5 with e6
            injection e6)
      · have hm : (d.la, HO.lst (d.l.it.map V.str)) ∈ s.tbl CP CI CC := List.mem_append_right _ (List.mem_append_right _ (chT_mem hd).2)
        refine .inr ⟨hm, fun e => ?_⟩
        cases ne _ hm e
  · have := x.o.kdTo c.l.nm k
    have e : (s.kdTo c.l.nm k).g w = { s.g w with lines := (s.g w).lines.map (Ln.kdTo c.l.nm k) } := by
      unfold PSt.g PSt.kdTo
      simp only [List.map_map]
      rfl
    rw [e]
    exact this
theorem asc_perm_eq {α : Type} {f : α → Str} {l m : List α} (nd : (l.map f).Nodup) (p : l.Perm m) : asc (ltN f) l = asc (ltN f) m := by
  rw [← srt_ltN nd]
  exact srt_asc (ordN nd) (fun _ h => h) p
theorem kdTo_perm : ∀ {ls : List Ln}, (ls.map (·.nm)).Nodup → ∀ {l : Ln}, l ∈ ls → ∀ k : Option Str, (ls.filter (fun m => !decide (m.nm = l.nm)) ++ [l.kdTo l.nm k]).Perm (ls.map (Ln.kdTo l.nm k))
  | m :: ls, nd, l, hl, k => by
    have n := List.nodup_cons.mp nd
    by_cases q : m.nm = l.nm
    · have el : l = m := by
        rcases List.mem_cons.mp hl with h | h
        · exact h
        · exact absurd (List.mem_map.mpr ⟨l, h, q.symm⟩) n.1
      subst el
      have ne : ∀ x ∈ ls, ¬ x.nm = l.nm := fun x hx e => n.1 (List.mem_map.mpr ⟨x, hx, e⟩)
      have e1 : (l :: ls).filter (fun m => !decide (m.nm = l.nm)) = ls := by
        rw [List.filter_cons, if_neg (by simp)]
        exact List.filter_eq_self.mpr fun x hx => by rw [decide_eq_false (ne x hx)]; rfl
      have e2 : ls.map (Ln.kdTo l.nm k) = ls := by
        have := List.map_congr_left (f := Ln.kdTo l.nm k) (g := id) (l := ls) fun x hx => by
          unfold Ln.kdTo
          rw [if_neg (ne x hx)]
          rfl
        rw [this, List.map_id]
      rw [e1, List.map_cons, e2]
      exact List.perm_append_singleton _ _
    · have hl' : l ∈ ls := by
        rcases List.mem_cons.mp hl with h | h
        · exact absurd (by rw [h]) q
        · exact h
      have e1 : (m :: ls).filter (fun m => !decide (m.nm = l.nm)) = m :: ls.filter (fun m => !decide (m.nm = l.nm)) := by
        rw [List.filter_cons, if_pos (by rw [decide_eq_false q]; rfl)]
      have e2 : m.kdTo l.nm k = m := by
        unfold Ln.kdTo
        rw [if_neg q]
      rw [e1, List.map_cons, e2]
      exact (kdTo_perm n.2 hl' k).cons m
theorem PSt.kdTo_lns (s : PSt) (n : Str) (k : Option Str) : (s.kdTo n k).lns = s.lns.map (Ln.kdTo n k) := by
  unfold PSt.lns PSt.kdTo
  rw [List.map_map, List.map_map]
  rfl
theorem kdTo_told {sites : List Str} {homes : List (Str × Str)} {lines : List Ln} (o : ToldOk sites homes lines) (n : Str) {k : Option Str} (hk : KindOk k) : ToldOk sites homes (lines.map (Ln.kdTo n k)) :=
  ⟨o.s, o.h, fun x hx => by
    obtain ⟨y, hy, rfl⟩ := List.mem_map.mp hx
    have z := o.l y hy
    refine ⟨z.nm, z.src, z.tgt, z.it, ?_⟩
    show KindOk (if y.nm = n then k else y.kd)
    split
    · exact hk
    · exact z.kd⟩
end M

namespace M
open PySem PySem.Spec PyProof.Rows L2
/-! ### a channel carries one more item -/
def Cn.more (c : Cn) (i : Str) : Cn := { c with l := c.l.more i }
def PSt.add (s : PSt) (k : Nat) (c : Cn) (i : Str) : PSt := { s with lines := s.lines.set k (c.more i), kvb := putK s.kvb (k2 i c.l.tgt) (.ref c.a) }
theorem la_sub (CC : Addr) : ∀ cs : List Cn, (cs.map (·.la)).Sublist ((chT CC cs).map (·.1))
  | [] => by unfold chT; exact List.Sublist.slnil
  | c :: cs => by
    have ih := la_sub CC cs
    unfold chT at ih ⊢
    rw [List.flatMap_cons, List.map_append, List.map_cons]
    show (c.la :: _).Sublist (c.a :: c.la :: _)
    exact (ih.cons_cons c.la).cons c.a
theorem PlA.ndLa {CP CI CC : Addr} {H0 H : Hp} {s : PSt} {w : Ways} (x : PlA CP CI CC H0 H s w) : (s.lines.map (·.la)).Nodup := by
  have h := x.x.nd
  unfold PSt.tbl at h
  rw [List.map_append, List.map_append] at h
  exact (List.nodup_append.mp (List.nodup_append.mp h).2.1).2.1.sublist (la_sub CC s.lines)
theorem BrA.add {kvb : List (List L2.Key × V)} {cs : List Cn} {k : Nat} {c : Cn} {i : Str} (b : BrA kvb cs) (hk : cs[k]? = some c) (nw : ∀ d ∈ cs, ¬ (i ∈ d.l.it ∧ d.l.tgt = c.l.tgt)) : BrA (putK kvb (k2 i c.l.tgt) (.ref c.a)) (cs.set k (c.more i)) := by
  have kl := (List.getElem?_eq_some_iff.mp hk).1
  have cm := List.mem_of_getElem? hk
  have hm : c.more i ∈ cs.set k (c.more i) := List.mem_of_getElem? (by rw [List.getElem?_set_self kl] : (cs.set k (c.more i))[k]? = some (c.more i))
  refine ⟨fun d hd j hj => ?_, fun j s h => ?_, fun e he => ?_, putK_nd b.nd⟩
  · rw [valV_put]
    by_cases q : k2 j d.l.tgt = k2 i c.l.tgt
    · rw [if_pos q]
      obtain ⟨q1, q2⟩ := k2_inj q
      rcases mem_set_of hd with rfl | hd
      · rfl
      · exact absurd ⟨by rw [← q1]; exact hj, q2⟩ (nw d hd)
    · rw [if_neg q]
      rcases mem_set_of hd with rfl | hd
      · have hj' : j ∈ c.l.it ++ [i] := hj
        rcases List.mem_append.mp hj' with hj' | hj'
        · exact b.in_ c cm j hj'
        · exact absurd (by rw [List.mem_singleton.mp hj']; rfl) q
      · exact b.in_ d hd j hj
  · rw [valV_put]
    by_cases q : k2 j s = k2 i c.l.tgt
    · obtain ⟨rfl, rfl⟩ := k2_inj q
      exact absurd ⟨List.mem_append_right _ (List.mem_singleton.mpr rfl), rfl⟩ (h _ hm)
    · rw [if_neg q]
      refine b.out j s fun d hd hh => ?_
      obtain ⟨n, hn⟩ := List.getElem?_of_mem hd
      by_cases e : n = k
      · subst e
        rw [hk] at hn
        cases hn
        exact h _ hm ⟨List.mem_append_left _ hh.1, hh.2⟩
      · have : (cs.set k (c.more i))[n]? = some d := by rw [List.getElem?_set_ne (Ne.symm e)]; exact hn
        exact h _ (List.mem_of_getElem? this) hh
  · rcases putK_mem he with q | ⟨e', h1, h2⟩
    · exact ⟨i, c.l.tgt, q⟩
    · obtain ⟨i', s', q⟩ := b.keys e' h1
      exact ⟨i', s', by rw [← h2]; exact q⟩
theorem PlA.add {CP CI CC : Addr} {H0 H : Hp} {s : PSt} {w : Ways} {k : Nat} {c : Cn} {i : Str} {v : List Str} (x : PlA CP CI CC H0 H s w) (hk : s.lines[k]? = some c) (hi : i ∈ (s.g w).goods) (hw : w i c.l.src = some v) (hn : w i c.l.tgt = none) :
    PlA CP CI CC H0 (upd (upd H c.la (.lst ((c.l.it ++ [i]).map V.str))) s.DB (.dT (putK s.kvb (k2 i c.l.tgt) (.ref c.a)))) (s.add k c i) (wSet w i c.l.tgt (v ++ [c.l.nm])) := by
  have hc := List.mem_of_getElem? hk
  have kl := (List.getElem?_eq_some_iff.mp hk).1
  have nla := x.ndLa
  have hca := x.hca hc
  have hla := x.hla hc
  have nw : ∀ d ∈ s.lines, ¬ (i ∈ d.l.it ∧ d.l.tgt = c.l.tgt) := fun d hd ⟨h1, h2⟩ => by
    obtain ⟨v', _, h3⟩ := x.o.wL d.l (List.mem_map.mpr ⟨d, hd, rfl⟩) i h1
    have h4 : w i d.l.tgt = some (v' ++ [d.l.nm]) := h3
    rw [h2, hn] at h4
    cases h4
  have e0 : ∀ f : Cn → List Addr, f (c.more i) = f c → (s.lines.set k (c.more i)).map f = s.lines.map f := fun f e => map_set_same f hk e
  have eL : kvL (s.lines.set k (c.more i)) = kvL s.lines := map_set_same (fun c : Cn => ((Sum.inr c.l.nm : Key), V.ref c.a)) hk rfl
  have eK : ∀ cs : List Cn, (chT CC cs).map (·.1) = (cs.map fun c => [c.a, c.la]).flatten := fun cs => by
    unfold chT
    rw [List.map_flatMap, List.flatMap_def]
    rfl
  let l1 : List (Addr × HO) := [(s.DB, .dT s.kvb), (s.DL, .dK (kvL s.lines)), (s.DS, .dK (kvS s.seats)), (s.LP, .lst (s.places.map V.str)), (s.p, .ins CP s.dp s.F)] ++ (seT CI s.p s.seats ++ chT CC (s.lines.set k (c.more i)))
  have ne : ∀ z ∈ s.tbl CP CI CC, z.1 = c.la → z.2 = .lst (c.l.it.map V.str) := fun z hz e => by
    have := x.x.at_ z hz
    rw [e, hla] at this
    exact (Option.some.inj this).symm
  have nd := x.x.nd
  have x1 : Hx H0 (upd H c.la (.lst ((c.l.it ++ [i]).map V.str))) l1 := by
    refine x.x.updM (List.mem_map.mpr ⟨(c.la, .lst (c.l.it.map V.str)), List.mem_append_right _ (List.mem_append_right _ (chT_mem hc).2), rfl⟩) ?_ ?_
    · show List.map _ (_ ++ (_ ++ _)) = List.map _ (PSt.tbl CP CI CC s)
      unfold PSt.tbl
      rw [List.map_append, List.map_append, List.map_append, List.map_append, eK, eK, e0 (fun c => [c.a, c.la]) rfl]
    · intro z hz
      have hz : z ∈ ([(s.DB, .dT s.kvb), (s.DL, .dK (kvL s.lines)), (s.DS, .dK (kvS s.seats)), (s.LP, .lst (s.places.map V.str)), (s.p, .ins CP s.dp s.F)] : List (Addr × HO)) ++ (seT CI s.p s.seats ++ chT CC (s.lines.set k (c.more i))) := hz
      have hla2 : c.la ∈ (seT CI s.p s.seats ++ chT CC s.lines).map (·.1) := List.mem_map.mpr ⟨(c.la, .lst (c.l.it.map V.str)), List.mem_append_right _ (chT_mem hc).2, rfl⟩
      have hla3 : c.la ∈ (chT CC s.lines).map (·.1) := List.mem_map.mpr ⟨(c.la, .lst (c.l.it.map V.str)), (chT_mem hc).2, rfl⟩
      have nd1 := nd
      unfold PSt.tbl at nd1
      rw [List.map_append] at nd1
      have nd2 := List.nodup_append.mp nd1
      rcases List.mem_append.mp hz with hz | hz
      · exact .inr ⟨List.mem_append_left _ hz, fun e => nd2.2.2 _ (List.mem_map.mpr ⟨z, hz, rfl⟩) _ hla2 e⟩
      have nd3 := nd2.2.1
      rw [List.map_append] at nd3
      rcases List.mem_append.mp hz with hz | hz
      · exact .inr ⟨List.mem_append_right _ (List.mem_append_left _ hz), fun e => (List.nodup_append.mp nd3).2.2 _ (List.mem_map.mpr ⟨z, hz, rfl⟩) _ hla3 e⟩
      · obtain ⟨d, hd, hz⟩ := List.mem_flatMap.mp hz
        simp only [List.mem_cons, List.not_mem_nil, or_false] at hz
        obtain ⟨n, hn'⟩ := List.getElem?_of_mem hd
        by_cases e : n = k
        · subst e
          rw [List.getElem?_set_self kl] at hn'
          cases hn'
          rcases hz with rfl | rfl
          · have hm : (c.a, HO.ins CC c.dx (cnF c)) ∈ s.tbl CP CI CC := List.mem_append_right _ (List.mem_append_right _ (chT_mem hc).1)
            exact .inr ⟨hm, fun e => by cases ne _ hm e⟩
          · exact .inl rfl
        · rw [List.getElem?_set_ne (Ne.symm e)] at hn'
          have hd' := List.mem_of_getElem? hn'
          rcases hz with rfl | rfl
          · have hm : (d.a, HO.ins CC d.dx (cnF d)) ∈ s.tbl CP CI CC := List.mem_append_right _ (List.mem_append_right _ (chT_mem hd').1)
            exact .inr ⟨hm, fun e => by cases ne _ hm e⟩
          · have hm : (d.la, HO.lst (d.l.it.map V.str)) ∈ s.tbl CP CI CC := List.mem_append_right _ (List.mem_append_right _ (chT_mem hd').2)
            refine .inr ⟨hm, fun e2 => e ?_⟩
            have n1 := (List.getElem?_eq_some_iff.mp hn')
            have n2 := (List.getElem?_eq_some_iff.mp hk)
            have h3 : (s.lines.map (·.la))[n]'(by simpa using n1.1) = (s.lines.map (·.la))[k]'(by simpa using n2.1) := by
              rw [List.getElem_map, List.getElem_map, n1.2, n2.2]
              exact e2
            exact (List.getElem_inj nla).mp h3
  refine ⟨?_, x.b.add hk nw, ?_⟩
  · have z := x1.set (o' := .dT (putK s.kvb (k2 i c.l.tgt) (.ref c.a))) 0 rfl
    have e : l1.set 0 (s.DB, .dT (putK s.kvb (k2 i c.l.tgt) (.ref c.a))) = (s.add k c i).tbl CP CI CC := by
      show _ = [_, (s.DL, HO.dK (kvL (s.lines.set k (c.more i)))), _, _, _] ++ _
      rw [eL]
      rfl
    rw [← e]
    exact z
  · have z := x.o.carry (k := k) (l := c.l) (i := i) (w := v) (by show (s.lines.map (·.l))[k]? = some c.l; rw [List.getElem?_map, hk]; rfl) hi hw hn
    have e : (s.add k c i).g (wSet w i c.l.tgt (v ++ [c.l.nm])) = (s.g w).carry k c.l i v := by
      unfold PSt.g PSt.add Gd.carry
      simp only [List.map_set]
      rfl
    rw [e]
    exact z
end M

namespace M
open PySem PySem.Spec PyProof.Rows L2
/-! ### names.remove(k), texts, k there -/
def rRemS : V → List V → Hp → VK → Prop := fun x xs H Q => ∃ (l : Addr) (ns : List Str) (k : Str), x = .ref l ∧ xs = [.str k] ∧ H l = some (.lst (ns.map V.str)) ∧ k ∈ ns ∧ Q .non (upd H l (.lst ((ns.erase k).map V.str)))
theorem vals_erase {vs : List V} {us : List Value} (r : Vals vs us) (j : Nat) : Vals (vs.eraseIdx j) (us.eraseIdx j) := r.eraseIdx j
theorem map_erase_str (ns : List Str) (k : Str) : (ns.erase k).map V.str = (ns.map V.str).eraseIdx (ns.idxOf k) := by
  rw [List.erase_eq_eraseIdx_of_idxOf (i := ns.idxOf k) rfl]
  generalize ns.idxOf k = j
  induction ns generalizing j with
  | nil => rfl
  | cons a ns ih => cases j with
    | zero => rfl
    | succ j => show _ :: _ = _ :: _; rw [ih]
theorem mt_removeS {X : Cx} : MtM X "list.remove" rRemS := by
  intro pins s σ H x xs v us Q I rx rxs h
  obtain ⟨l, ns, k, rfl, rfl, hH, hk, q⟩ := h
  cases rx
  obtain ⟨u, rfl, ru⟩ := rxs.one
  obtain ⟨z, its, n, r, hl, e⟩ := I.lstM hH
  have hjn : ns.idxOf k < ns.length := List.idxOf_lt_length_iff.mpr hk
  rw [List.length_map] at hl z
  have hjl : ns.idxOf k < its.toArray.size := by rw [List.size_toArray]; omega
  have hno : ∀ m (hm : m < ns.length), m < ns.idxOf k → ns[m] ≠ k := fun m hm hmj e => by
    have h1 := List.not_of_lt_findIdx (p := fun x => x == k) (xs := ns) (i := m) hmj
    rw [e] at h1
    simp at h1
  refine call_meets PySem.F.slot_list_remove ⟨_, e, rfl⟩ PySem.F.entry_list_remove (PySem.F.args_list_remove_2 _ _)
    (SeqAt.list_removeAt l its.toArray n none #[] u (eqU (.str k)) (ns.idxOf k) hjl ?_ ?_ (by rw [List.size_toArray]; omega)) ⟨e, fun y hy => mem_eqAt ru rfl r (flat_strs ns) y (by simpa using hy), ?_⟩
  · obtain ⟨w, hw, rw'⟩ := r.get (i := ns.idxOf k) (x := V.str k) (by rw [List.getElem?_map, List.getElem?_eq_getElem hjn, List.getElem_idxOf]; rfl)
    obtain ⟨h1, h2⟩ := List.getElem?_eq_some_iff.mp hw
    have e1 : its.toArray[ns.idxOf k] = w := by simpa using h2
    rw [e1, eqU_of rw' rfl]
    simp [eqV]
  · intro m hm hmj
    have hmn : m < ns.length := by omega
    obtain ⟨w, hw, rw'⟩ := r.get (i := m) (x := V.str ns[m]) (by rw [List.getElem?_map, List.getElem?_eq_getElem hmn]; rfl)
    obtain ⟨h1, h2⟩ := List.getElem?_eq_some_iff.mp hw
    have e1 : its.toArray[m] = w := by simpa using h2
    rw [e1, eqU_of rw' rfl]
    have := hno m hmn hmj
    simp [eqV, this]
  · refine ⟨.non, _, I.lset (its' := its.eraseIdx (ns.idxOf k)) (t' := s.toks) hH e ?_ (by rw [map_erase_str]; exact r.eraseIdx _) ?_, rfl, q⟩
    · show its.toArray.eraseIdxIfInBounds (ns.idxOf k) = (its.eraseIdx (ns.idxOf k)).toArray
      rw [List.eraseIdxIfInBounds_toArray]
    · rw [List.length_map]
      have := List.length_erase_le (a := k) (l := ns)
      omega
/-! ### d.pop(k), k a tuple that is there -/
theorem KT.drop {H : Hp} {kvs : List (List L2.Key × V)} {xs : List (List L2.Key × Addr × Value)} (r : KT H kvs xs) (k : List L2.Key) : KT H (dropK kvs k) (withoutH xs k) := by
  unfold KT at r ⊢
  unfold dropK withoutH
  induction r with
  | nil => exact .nil
  | @cons p q ps qs h t ih =>
    obtain ⟨h1, h2⟩ := h
    rw [List.filter_cons, List.filter_cons]
    by_cases e : p.1 = k
    · rw [if_neg (by simp [e]), if_neg (by simp [← h1, e])]
      exact ih
    · rw [if_pos (by simp [e]), if_pos (by simp [← h1, e])]
      exact .cons ⟨h1, h2⟩ ih
theorem dropK_len {κ : Type} [DecidableEq κ] (kvs : List (κ × V)) (k : κ) : (dropK kvs k).length ≤ kvs.length := by
  unfold dropK
  exact List.length_filter_le _ _
section
variable {X : Cx} {pins : List (Addr × Obj)} {σ : L2.St} {H : Hp} {s : Shared} {a b : Addr} {kvs : List (List L2.Key × V)} {k : List L2.Key} {A : Around} {E : Value → Shared → Prop}
theorem d_popT {v : V} {Q : Value → Shared → Prop} (hu : A.units + 1 < cLine) (I : Inv X pins σ H s) (e : H a = some (.dT kvs)) (eb : H b = some (.tup (k.map kV))) (l : valV kvs k = some v)
    (h : ∀ w' s', Inv X pins σ (upd H a (.dT (dropK kvs k))) s' → RelV v w' → Q w' s') : wpAny (model X.prog X.w) A (call (.builtin "dict.pop") [.ref a, .ref b]) Q E s := by
  obtain ⟨z, hd, xs, rel, dd⟩ := dt_of I.hok e
  have hz : xs.length ≤ sizeLine := by rw [← Paired.length rel]; exact z
  obtain ⟨w', hw, rw'⟩ := RelO.some_of (v := v) (o := (atKey xs k).map (·.2)) (by rw [← l]; exact rel.val k)
  obtain ⟨p, hp, hp2⟩ := Option.map_eq_some_iff.mp hw
  refine call_pop_heap (more := []) (hsz := hz) (.inl rfl) (PySem.F.args_dict_pop_2 _ _) (tupleKind_room_in1 hu) (key_of I.hok eb) hd dd hp fun h' dd' hs => ?_
  rw [hp2]
  refine h w' _ ?_ rw'
  obtain ⟨q, es, ep, hq, h2, h3, h4, _, h5⟩ := dd'
  refine d_write I (by rw [e]; exact True.intro) hs ⟨_, hq⟩ ⟨Nat.le_trans (dropK_len _ _) z, hd, _, (KT.drop rel k).keeps fun c ys ec => ?_, q, es, ep, hq, h2, h3, h4, h5⟩
  rw [upd_ne (ne_of ec e (fun z => nomatch z))]
  exact ec
end
def tDPopT (td ty : TE) : TE := fun σ H Q => td σ H fun x H1 => ∃ a, x = .ref a ∧ IsD H1 a ∧ ty σ H1 fun y H2 => ∃ kvs k b v, H2 a = some (.dT kvs) ∧ y = .ref b ∧ H2 b = some (.tup (k.map kV)) ∧ valV kvs k = some v ∧ Q v (upd H2 a (.dT (dropK kvs k)))
theorem pe_dpopT {X : Cx} {o e : Expr} {apos cpos : Pos} {td ty : TE} (hu : X.A.units + 1 < cLine) (ho : PE X o td) (he : PE X e ty) (m : M1 X o "pop" apos e cpos) : PE X (.Call (.Attribute o "pop" apos) [e] [] cpos) (tDPopT td ty) := by
  refine ⟨fun pins s σ H Q I h => ?_⟩
  refine wpAny_Call_method m.base m.few m.line PySem.F.plainAttrs_dict PySem.F.slot_dict_pop PySem.F.type_dict_pop (thn (ho.run pins s σ H _ I h) fun u s1 ⟨x, H1, I1, rx, a, ex, d, q1⟩ => ?_)
  subst ex
  obtain rfl : u = Value.ref a := rx
  obtain ⟨t1, t2, _⟩ := isD_at I1 d
  refine ⟨t1, t2, ?_⟩
  rw [m.trees]
  refine Calls.callWith_builtin rfl (Calls.evalArgs_plain (Calls.spliced_cons (thn (he.run pins s1 σ H1 _ I1 q1) fun iv s2 ⟨y, H2, I2, ry, kvs, k, b, v, ea, ey, eb, l, q2⟩ => Calls.spliced_nil ?_)))
  subst ey
  obtain rfl : iv = Value.ref b := ry
  exact d_popT hu I2 ea eb l fun w' s3 I3 rw' => ⟨v, _, I3, rw', q2⟩
end M

namespace M
open PySem PySem.Spec PyProof.Rows L2
/-! ### what is left of a placement when copies are given up -/
abbrev KeepP := Str → Str → Bool
def Ln.kept (K : KeepP) (l : Ln) : List Str := l.it.filter fun i => K i l.tgt
def Ln.keep (K : KeepP) (l : Ln) : Option Ln := if (l.kept K).isEmpty then none else some { l with it := l.kept K }
def Cn.keep (K : KeepP) (c : Cn) : Option Cn := if (c.l.kept K).isEmpty then none else some { c with l := { c.l with it := c.l.kept K } }
def keyK (K : KeepP) : List L2.Key → Bool
  | [.inr i, .inr t] => K i t
  | _ => true
def PSt.keep (s : PSt) (K : KeepP) : PSt := { s with lines := s.lines.filterMap (Cn.keep K), kvb := s.kvb.filter fun e => keyK K e.1 }
theorem Ln.keep_some {K : KeepP} {l m : Ln} (h : l.keep K = some m) : m = { l with it := l.kept K } ∧ l.kept K ≠ [] := by
  unfold Ln.keep at h
  split at h
  · cases h
  · rename_i q
    exact ⟨(Option.some.inj h).symm, fun e => q (by rw [e]; rfl)⟩
theorem Cn.keep_some {K : KeepP} {c d : Cn} (h : c.keep K = some d) : d = { c with l := { c.l with it := c.l.kept K } } ∧ c.l.kept K ≠ [] := by
  unfold Cn.keep at h
  split at h
  · cases h
  · rename_i q
    exact ⟨(Option.some.inj h).symm, fun e => q (by rw [e]; rfl)⟩
theorem Ln.mem_kept {K : KeepP} {l : Ln} {i : Str} : i ∈ l.kept K ↔ i ∈ l.it ∧ K i l.tgt = true := List.mem_filter
theorem Ln.keep_of {K : KeepP} {l : Ln} {i : Str} (hi : i ∈ l.it) (hk : K i l.tgt = true) : l.keep K = some { l with it := l.kept K } := by
  unfold Ln.keep
  rw [if_neg]
  intro h
  have := Ln.mem_kept.mpr ⟨hi, hk⟩
  rw [List.isEmpty_iff.mp h] at this
  cases this
theorem Cn.keep_of {K : KeepP} {c : Cn} {i : Str} (hi : i ∈ c.l.it) (hk : K i c.l.tgt = true) : c.keep K = some { c with l := { c.l with it := c.l.kept K } } := by
  unfold Cn.keep
  rw [if_neg]
  intro h
  have := Ln.mem_kept.mpr ⟨hi, hk⟩
  rw [List.isEmpty_iff.mp h] at this
  cases this
theorem fm_sub {α β : Type} {f : α → Option α} {g : α → β} (h : ∀ a b, f a = some b → g b = g a) : ∀ l : List α, ((l.filterMap f).map g).Sublist (l.map g)
  | [] => .slnil
  | a :: l => by
    rw [List.filterMap_cons]
    cases e : f a with
    | none => exact (fm_sub h l).cons _
    | some b =>
      show (g b :: _).Sublist (g a :: _)
      rw [h a b e]
      exact (fm_sub h l).cons_cons _
theorem fm_map {α β : Type} {f : α → Option α} {g : α → β} {q : β → Bool} : ∀ l : List α, (∀ a ∈ l, (∃ b, f a = some b ∧ g b = g a ∧ q (g a) = true) ∨ (f a = none ∧ q (g a) = false)) → (l.filterMap f).map g = (l.map g).filter q
  | [], _ => rfl
  | a :: l, h => by
    have ih := fm_map l fun x hx => h x (List.mem_cons_of_mem _ hx)
    rw [List.filterMap_cons, List.map_cons, List.filter_cons]
    rcases h a List.mem_cons_self with ⟨b, e1, e2, e3⟩ | ⟨e1, e3⟩
    · rw [e1, if_pos e3]
      show g b :: _ = _
      rw [e2, ih]
    · rw [e1, e3]
      exact ih
theorem fm_all {α β : Type} {f : α → Option α} {g : α → β} {l : List α} (h : ∀ a ∈ l, ∃ b, f a = some b ∧ g b = g a) : (l.filterMap f).map g = l.map g := by
  rw [fm_map (q := fun _ => true) l fun a ha => let ⟨b, e1, e2⟩ := h a ha; .inl ⟨b, e1, e2, rfl⟩]
  exact List.filter_eq_self.mpr fun _ _ => rfl
theorem GdOk.keep {g : Gd} (o : GdOk g) {K : KeepP} (hm : ∀ h ∈ g.homes, K h.1 h.2 = true) (cl : ∀ l ∈ g.lines, ∀ i ∈ l.it, K i l.tgt = true → K i l.src = true) :
    GdOk { g with lines := g.lines.filterMap (Ln.keep K), ways := fun i s => if K i s = true then g.ways i s else none } := by
  have mem : ∀ m ∈ g.lines.filterMap (Ln.keep K), ∃ l ∈ g.lines, m = { l with it := l.kept K } ∧ l.kept K ≠ [] := fun m hm => by
    obtain ⟨l, hl, e⟩ := List.mem_filterMap.mp hm
    exact ⟨l, hl, Ln.keep_some e⟩
  have nn : g.lines.Pairwise fun l m => ¬ (l.tgt = m.tgt ∧ ∃ i, i ∈ l.it ∧ i ∈ m.it) := List.pairwise_iff_getElem.mpr fun j k hj hk jk ⟨ht, i, h1, h2⟩ => by
    have := o.u j k _ _ i (List.getElem?_eq_getElem hj) (List.getElem?_eq_getElem hk) ht h1 h2
    omega
  have nd : (g.lines.filterMap (Ln.keep K)).Pairwise fun l m => ¬ (l.tgt = m.tgt ∧ ∃ i, i ∈ l.it ∧ i ∈ m.it) := List.Pairwise.filterMap _ (fun a b r c hc d hd => by
    obtain ⟨rfl, _⟩ := Ln.keep_some hc
    obtain ⟨rfl, _⟩ := Ln.keep_some hd
    rintro ⟨e, i, h1, h2⟩
    exact r ⟨e, i, (Ln.mem_kept.mp h1).1, (Ln.mem_kept.mp h2).1⟩) nn
  refine ⟨o.sN, o.hN, o.hS, ?_, ?_, ?_, ?_, ?_, ?_, ?_⟩
  · exact o.lN.sublist (fm_sub (fun a b h => by rw [(Ln.keep_some h).1]) _)
  · intro m hm
    obtain ⟨l, hl, rfl, _⟩ := mem m hm
    exact o.lE l hl
  · intro m hm
    obtain ⟨l, hl, rfl, _⟩ := mem m hm
    exact ⟨(o.lI l hl).1.sublist List.filter_sublist, fun i hi => (o.lI l hl).2 i (Ln.mem_kept.mp hi).1⟩
  · intro h hh
    show (if K h.1 h.2 = true then g.ways h.1 h.2 else none) = _
    rw [if_pos (hm h hh)]
    exact o.wH h hh
  · intro m hm i hi
    obtain ⟨l, hl, rfl, _⟩ := mem m hm
    obtain ⟨hi, hk⟩ := Ln.mem_kept.mp hi
    obtain ⟨w, h1, h2⟩ := o.wL l hl i hi
    refine ⟨w, ?_, ?_⟩
    · show (if K i l.src = true then g.ways i l.src else none) = _
      rw [if_pos (cl l hl i hi hk)]; exact h1
    · show (if K i l.tgt = true then g.ways i l.tgt else none) = _
      rw [if_pos hk]; exact h2
  · intro i s w h
    have h' : (if K i s = true then g.ways i s else none) = some w := h
    split at h'
    · rename_i hk
      rcases o.wD i s w h' with h | ⟨l, hl, rfl, hi⟩
      · exact .inl h
      · exact .inr ⟨_, List.mem_filterMap.mpr ⟨l, hl, Ln.keep_of hi hk⟩, rfl, Ln.mem_kept.mpr ⟨hi, hk⟩⟩
    · cases h'
  · intro j k l m i hj hk ht h1 h2
    obtain ⟨j1, j2⟩ := List.getElem?_eq_some_iff.mp hj
    obtain ⟨k1, k2⟩ := List.getElem?_eq_some_iff.mp hk
    rcases Nat.lt_trichotomy j k with q | q | q
    · exact absurd ⟨by rw [j2, k2]; exact ht, i, by rw [j2]; exact h1, by rw [k2]; exact h2⟩ (List.pairwise_iff_getElem.mp nd j k j1 k1 q)
    · exact q
    · exact absurd ⟨by rw [j2, k2]; exact ht.symm, i, by rw [k2]; exact h2, by rw [j2]; exact h1⟩ (List.pairwise_iff_getElem.mp nd k j k1 j1 q)
theorem PSt.keep_lns (s : PSt) (K : KeepP) : (s.keep K).lns = s.lns.filterMap (Ln.keep K) := by
  unfold PSt.lns PSt.keep
  show (s.lines.filterMap (Cn.keep K)).map (·.l) = (s.lines.map (·.l)).filterMap (Ln.keep K)
  induction s.lines with
  | nil => rfl
  | cons c cs ih =>
    rw [List.filterMap_cons, List.map_cons, List.filterMap_cons]
    unfold Cn.keep Ln.keep
    by_cases q : (c.l.kept K).isEmpty = true
    · rw [if_pos q, if_pos q]; exact ih
    · rw [if_neg q, if_neg q]
      exact congrArg (List.cons _) ih
theorem Ln.keep_keep (K1 K2 : KeepP) (l : Ln) : (l.keep K1).bind (Ln.keep K2) = l.keep fun i t => K1 i t && K2 i t := by
  have e : ∀ l : Ln, (Ln.kept K2 { l with it := l.kept K1 }) = l.kept fun i t => K1 i t && K2 i t := fun l => by
    unfold Ln.kept
    rw [List.filter_filter]
    exact List.filter_congr fun i _ => by rw [Bool.and_comm]
  cases q : l.keep K1 with
  | none =>
    unfold Ln.keep at q ⊢
    split at q
    · rename_i h
      rw [← e l, if_pos]
      · rfl
      · unfold Ln.kept at h ⊢
        rw [List.isEmpty_iff.mp h]
        rfl
    · cases q
  | some m =>
    obtain ⟨rfl, _⟩ := Ln.keep_some q
    show Ln.keep K2 _ = _
    unfold Ln.keep
    rw [e l]
theorem Cn.keep_keep (K1 K2 : KeepP) (c : Cn) : (c.keep K1).bind (Cn.keep K2) = c.keep fun i t => K1 i t && K2 i t := by
  have e : ∀ l : Ln, (Ln.kept K2 { l with it := l.kept K1 }) = l.kept fun i t => K1 i t && K2 i t := fun l => by
    unfold Ln.kept
    rw [List.filter_filter]
    exact List.filter_congr fun i _ => by rw [Bool.and_comm]
  cases q : c.keep K1 with
  | none =>
    unfold Cn.keep at q ⊢
    split at q
    · rename_i h
      rw [← e c.l, if_pos]
      · rfl
      · unfold Ln.kept at h ⊢
        rw [List.isEmpty_iff.mp h]
        rfl
    · cases q
  | some d =>
    obtain ⟨rfl, _⟩ := Cn.keep_some q
    show Cn.keep K2 _ = _
    unfold Cn.keep
    rw [e c.l]
theorem PSt.keep_keep (s : PSt) (K1 K2 : KeepP) : (s.keep K1).keep K2 = s.keep fun i t => K1 i t && K2 i t := by
  have e1 : (s.lines.filterMap (Cn.keep K1)).filterMap (Cn.keep K2) = s.lines.filterMap (Cn.keep fun i t => K1 i t && K2 i t) := by
    rw [List.filterMap_filterMap]
    refine congrArg (fun f => s.lines.filterMap f) (funext fun c => Cn.keep_keep K1 K2 c)
  have e2 : (s.kvb.filter fun e => keyK K1 e.1).filter (fun e => keyK K2 e.1) = s.kvb.filter fun e => keyK (fun i t => K1 i t && K2 i t) e.1 := by
    rw [List.filter_filter]
    refine List.filter_congr fun e _ => ?_
    unfold keyK
    split
    · rw [Bool.and_comm]
    · rfl
  unfold PSt.keep
  rw [e1, e2]
theorem PSt.keep_all {s : PSt} (ne : ∀ c ∈ s.lines, c.l.it ≠ []) {K : KeepP} (h : ∀ c ∈ s.lines, ∀ i ∈ c.l.it, K i c.l.tgt = true) (hb : ∀ e ∈ s.kvb, keyK K e.1 = true) : s.keep K = s := by
  have e1 : s.lines.filterMap (Cn.keep K) = s.lines := by
    have : ∀ l : List Cn, (∀ c ∈ l, c.keep K = some c) → l.filterMap (Cn.keep K) = l := fun l => by
      induction l with
      | nil => intro _; rfl
      | cons c l ih =>
        intro h
        rw [List.filterMap_cons, h c List.mem_cons_self]
        show c :: _ = _
        rw [ih fun d hd => h d (List.mem_cons_of_mem _ hd)]
    refine this _ fun c hc => ?_
    have ek : c.l.kept K = c.l.it := List.filter_eq_self.mpr fun i hi => h c hc i hi
    unfold Cn.keep
    rw [ek, if_neg]
    intro q
    exact ne c hc (List.isEmpty_iff.mp q)
  have e2 : (s.kvb.filter fun e => keyK K e.1) = s.kvb := List.filter_eq_self.mpr fun e he => hb e he
  unfold PSt.keep
  rw [e1, e2]
theorem valV_filter {κ : Type} [DecidableEq κ] (p : κ → Bool) (k : κ) : ∀ kvs : List (κ × V), valV (kvs.filter fun e => p e.1) k = if p k = true then valV kvs k else none
  | [] => by unfold valV; simp
  | e :: kvs => by
    have ih := valV_filter p k kvs
    rw [List.filter_cons]
    by_cases q : e.1 = k
    · by_cases h : p k = true
      · rw [if_pos (by rw [q]; exact h), if_pos h, valV_pos q, valV_pos q]
      · rw [if_neg (by rw [q]; exact h), if_neg h, ih, if_neg h]
    · rw [valV_neg q]
      split
      · rw [valV_neg q]; exact ih
      · exact ih
theorem BrA.keep {kvb : List (List L2.Key × V)} {cs : List Cn} (b : BrA kvb cs) (K : KeepP) : BrA (kvb.filter fun e => keyK K e.1) (cs.filterMap (Cn.keep K)) := by
  refine ⟨fun d hd i hi => ?_, fun i s h => ?_, fun e he => b.keys e (List.mem_filter.mp he).1, b.nd.sublist (List.filter_sublist.map _)⟩
  · obtain ⟨c, hc, e⟩ := List.mem_filterMap.mp hd
    obtain ⟨rfl, _⟩ := Cn.keep_some e
    obtain ⟨hi, hk⟩ := Ln.mem_kept.mp hi
    rw [valV_filter]
    have e2 : keyK K (k2 i c.l.tgt) = true := hk
    rw [if_pos e2]
    exact b.in_ c hc i hi
  · rw [valV_filter]
    by_cases q : keyK K (k2 i s) = true
    · rw [if_pos q]
      refine b.out i s fun c hc ⟨hi, ht⟩ => ?_
      have hk : K i c.l.tgt = true := by rw [ht]; exact q
      exact h _ (List.mem_filterMap.mpr ⟨c, hc, Cn.keep_of hi hk⟩) ⟨Ln.mem_kept.mpr ⟨hi, hk⟩, ht⟩
    · rw [if_neg q]
/-! ### a placement's state while copies are lost -/
structure PlW (CP CI CC : Addr) (H0 H : Hp) (s : PSt) : Prop where
  x : Hx H0 H (s.tbl CP CI CC)
  b : BrA s.kvb s.lines
  nl : (s.lines.map (·.l.nm)).Nodup
  ni : ∀ c ∈ s.lines, c.l.it.Nodup
  u : s.lines.Pairwise fun c d => ¬ (c.l.tgt = d.l.tgt ∧ ∃ i, i ∈ c.l.it ∧ i ∈ d.l.it)
  ne : ∀ c ∈ s.lines, c.l.it ≠ []
  z0 : ∀ z ∈ s.tbl CP CI CC, H0 z.1 = none
  kz : s.kvb.length ≤ 10000
  zl : s.lines.length ≤ 100
  zs : s.seats.length ≤ 100
  zp : s.places.length ≤ 100
  zi : ∀ c ∈ s.lines, c.l.it.length ≤ 100
theorem none_of {H H' : Hp} {a : Addr} (h : H' a = none) (e : Same H H') : H a = none := by
  cases q : H a with
  | none => rfl
  | some o => have := e _ _ q; rw [h] at this; cases this
section
variable {CP CI CC : Addr} {H0 H H' : Hp} {s : PSt}
theorem PlW.same (x : PlW CP CI CC H0 H s) (e : Same H H') : PlW CP CI CC H0 H' s := ⟨x.x.same e, x.b, x.nl, x.ni, x.u, x.ne, x.z0, x.kz, x.zl, x.zs, x.zp, x.zi⟩
theorem PlW.sj (x : PlW CP CI CC H0 H s) : Same H0 H := x.x.keep x.z0
theorem PlW.hp (x : PlW CP CI CC H0 H s) : H s.p = some (.ins CP s.dp s.F) := x.x.get 4 rfl
theorem PlW.hLP (x : PlW CP CI CC H0 H s) : H s.LP = some (.lst (s.places.map V.str)) := x.x.get 3 rfl
theorem PlW.hDS (x : PlW CP CI CC H0 H s) : H s.DS = some (.dK (kvS s.seats)) := x.x.get 2 rfl
theorem PlW.hDL (x : PlW CP CI CC H0 H s) : H s.DL = some (.dK (kvL s.lines)) := x.x.get 1 rfl
theorem PlW.hDB (x : PlW CP CI CC H0 H s) : H s.DB = some (.dT s.kvb) := x.x.get 0 rfl
theorem PlW.hse (x : PlW CP CI CC H0 H s) {i : Seat} (h : i ∈ s.seats) : H i.a = some (.ins CI i.dx (seatF s.p i)) := x.x.at_ (i.a, .ins CI i.dx (seatF s.p i)) (List.mem_append_right _ (List.mem_append_left _ (seT_mem h)))
theorem PlW.hca (x : PlW CP CI CC H0 H s) {c : Cn} (h : c ∈ s.lines) : H c.a = some (.ins CC c.dx (cnF c)) := x.x.at_ (c.a, .ins CC c.dx (cnF c)) (List.mem_append_right _ (List.mem_append_right _ (chT_mem h).1))
theorem PlW.hla (x : PlW CP CI CC H0 H s) {c : Cn} (h : c ∈ s.lines) : H c.la = some (.lst (c.l.it.map V.str)) := x.x.at_ (c.la, .lst (c.l.it.map V.str)) (List.mem_append_right _ (List.mem_append_right _ (chT_mem h).2))
theorem PlW.base {H1 : Hp} (x : PlW CP CI CC H1 H s) (e : Same H0 H1) : PlW CP CI CC H0 H s := ⟨x.x.base e, x.b, x.nl, x.ni, x.u, x.ne, fun z hz => none_of (x.z0 z hz) e, x.kz, x.zl, x.zs, x.zp, x.zi⟩
/-- more that stays -/
theorem PlW.grow {T : Addr} {o : HO} (x : PlW CP CI CC H0 H s) (n : H T = none) : PlW CP CI CC (upd H0 T o) (upd H T o) s := by
  have ne : ∀ z ∈ s.tbl CP CI CC, z.1 ≠ T := fun z hz e => by have := x.x.at_ z hz; rw [e, n] at this; cases this
  refine ⟨⟨fun z hz => by rw [upd_ne (ne z hz)]; exact x.x.at_ z hz, x.x.nd, fun b u hb nb => ?_⟩, x.b, x.nl, x.ni, x.u, x.ne, fun z hz => by rw [upd_ne (ne z hz)]; exact x.z0 z hz, x.kz, x.zl, x.zs, x.zp, x.zi⟩
  by_cases q : b = T
  · subst q
    rw [upd_same] at hb ⊢
    exact hb
  · rw [upd_ne q] at hb ⊢
    exact x.x.fr b u hb nb
theorem PlW.ndLa (x : PlW CP CI CC H0 H s) : (s.lines.map (·.la)).Nodup := by
  have h := x.x.nd
  unfold PSt.tbl at h
  rw [List.map_append, List.map_append] at h
  exact (List.nodup_append.mp (List.nodup_append.mp h).2.1).2.1.sublist (la_sub CC s.lines)
theorem nodup_inj {α β : Type} {f : α → β} {l : List α} (nd : (l.map f).Nodup) {a b : α} (ha : a ∈ l) (hb : b ∈ l) (e : f a = f b) : a = b := by
  obtain ⟨i, hi, rfl⟩ := List.getElem_of_mem ha
  obtain ⟨j, hj, rfl⟩ := List.getElem_of_mem hb
  have : (l.map f)[i]'(by simpa using hi) = (l.map f)[j]'(by simpa using hj) := by simpa using e
  have := (List.getElem_inj nd).mp this
  subst this
  rfl
theorem pw_sym {α : Type} {R : α → α → Prop} (sym : ∀ a b, R a b → R b a) {l : List α} (p : l.Pairwise R) {a b : α} (ha : a ∈ l) (hb : b ∈ l) (ne : a ≠ b) : R a b := by
  obtain ⟨i, hi, rfl⟩ := List.getElem_of_mem ha
  obtain ⟨j, hj, rfl⟩ := List.getElem_of_mem hb
  rcases Nat.lt_trichotomy i j with h | h | h
  · exact List.pairwise_iff_getElem.mp p i j hi hj h
  · subst h; exact absurd rfl ne
  · exact sym _ _ (List.pairwise_iff_getElem.mp p j i hj hi h)
theorem PlW.one (x : PlW CP CI CC H0 H s) {c d : Cn} {i : Str} (hc : c ∈ s.lines) (hd : d ∈ s.lines) (e : c.l.tgt = d.l.tgt) (h1 : i ∈ c.l.it) (h2 : i ∈ d.l.it) : c = d := by
  by_cases q : c = d
  · exact q
  · exact absurd ⟨e, i, h1, h2⟩ (pw_sym (fun a b r z => r ⟨z.1.symm, z.2.elim fun i h => ⟨i, h.2, h.1⟩⟩) x.u hc hd q)
/-- all but one copy -/
def but (i t : Str) : KeepP := fun j u => !(decide (j = i) && decide (u = t))
theorem but_same {i t : Str} : but i t i t = false := by unfold but; simp
theorem but_ne {i t j u : Str} (h : ¬ (j = i ∧ u = t)) : but i t j u = true := by
  unfold but
  by_cases a : j = i <;> by_cases b : u = t <;> simp [a, b] at h ⊢
theorem dropK_keep {kvb : List (List L2.Key × V)} (hk : ∀ e ∈ kvb, ∃ i s, e.1 = k2 i s) (i t : Str) : dropK kvb (k2 i t) = kvb.filter fun e => keyK (but i t) e.1 := by
  unfold dropK
  refine List.filter_congr fun e he => ?_
  obtain ⟨j, u, q⟩ := hk e he
  rw [q]
  show _ = but i t j u
  by_cases a : j = i ∧ u = t
  · obtain ⟨rfl, rfl⟩ := a
    rw [but_same]
    simp
  · rw [but_ne a]
    exact decide_eq_true fun e => a (k2_inj e)

theorem chT_sub (K : KeepP) (CC : Addr) : ∀ cs : List Cn, ((chT CC (cs.filterMap (Cn.keep K))).map (·.1)).Sublist ((chT CC cs).map (·.1))
  | [] => .slnil
  | c :: cs => by
    have ih := chT_sub K CC cs
    have e1 : ∀ (d : Cn) ds, (chT CC (d :: ds)).map (·.1) = d.a :: d.la :: (chT CC ds).map (·.1) := fun d ds => by
      unfold chT
      rw [List.flatMap_cons, List.map_append]
      rfl
    rw [List.filterMap_cons, e1]
    cases q : c.keep K with
    | none => exact (ih.cons _).cons _
    | some d =>
      obtain ⟨rfl, _⟩ := Cn.keep_some q
      show ((chT CC (_ :: _)).map (·.1)).Sublist _
      rw [e1]
      exact (ih.cons_cons _).cons_cons _
theorem PSt.keep_sub (K : KeepP) : (((s.keep K).tbl CP CI CC).map (·.1)).Sublist ((s.tbl CP CI CC).map (·.1)) := by
  unfold PSt.tbl
  rw [List.map_append, List.map_append, List.map_append, List.map_append]
  exact (List.Sublist.refl _).append ((List.Sublist.refl _).append (chT_sub K CC s.lines))
theorem PlW.keepTo (x : PlW CP CI CC H0 H s) (K : KeepP) (h : ∀ z ∈ (s.keep K).tbl CP CI CC, H' z.1 = some z.2) (fr : Same H0 H') : PlW CP CI CC H0 H' (s.keep K) := by
  have mem : ∀ d ∈ (s.keep K).lines, ∃ c ∈ s.lines, d = { c with l := { c.l with it := c.l.kept K } } ∧ c.l.kept K ≠ [] := fun d hd => by
    obtain ⟨c, hc, e⟩ := List.mem_filterMap.mp hd
    exact ⟨c, hc, Cn.keep_some e⟩
  refine ⟨⟨h, x.x.nd.sublist (PSt.keep_sub K), fun b o hb _ => fr b o hb⟩, x.b.keep K, ?_, ?_, ?_, ?_, ?_, ?_, ?_, x.zs, x.zp, ?_⟩
  · exact x.nl.sublist (fm_sub (fun a b h => by rw [(Cn.keep_some h).1]) _)
  · intro d hd
    obtain ⟨c, hc, rfl, _⟩ := mem d hd
    exact (x.ni c hc).sublist List.filter_sublist
  · exact List.Pairwise.filterMap _ (fun a b r c hc d hd => by
      obtain ⟨rfl, _⟩ := Cn.keep_some hc
      obtain ⟨rfl, _⟩ := Cn.keep_some hd
      rintro ⟨e, i, h1, h2⟩
      exact r ⟨e, i, (Ln.mem_kept.mp h1).1, (Ln.mem_kept.mp h2).1⟩) x.u
  · intro d hd
    obtain ⟨c, hc, rfl, ne⟩ := mem d hd
    exact ne
  · intro z hz
    have hm : z.1 ∈ ((s.keep K).tbl CP CI CC).map (·.1) := List.mem_map.mpr ⟨z, hz, rfl⟩
    obtain ⟨y, hy, e⟩ := List.mem_map.mp ((PSt.keep_sub K).subset hm)
    rw [← e]
    exact x.z0 y hy
  · exact Nat.le_trans (List.length_filter_le _ _) x.kz
  · exact Nat.le_trans (List.length_filterMap_le _ _) x.zl
  · intro d hd
    obtain ⟨c, hc, rfl, _⟩ := mem d hd
    exact Nat.le_trans (List.length_filter_le _ _) (x.zi c hc)
theorem PlW.sep1 (x : PlW CP CI CC H0 H s) {a b : Addr} (ha : a ∈ [s.DB, s.DL, s.DS, s.LP, s.p]) (hb : b ∈ (seT CI s.p s.seats ++ chT CC s.lines).map (·.1)) : a ≠ b := by
  have nd := x.x.nd
  unfold PSt.tbl at nd
  rw [List.map_append] at nd
  exact fun e => (List.nodup_append.mp nd).2.2 a ha b hb e
theorem PlW.sep2 (x : PlW CP CI CC H0 H s) {a b : Addr} (ha : a ∈ (seT CI s.p s.seats).map (·.1)) (hb : b ∈ (chT CC s.lines).map (·.1)) : a ≠ b := by
  have nd := x.x.nd
  unfold PSt.tbl at nd
  rw [List.map_append, List.map_append] at nd
  exact fun e => (List.nodup_append.mp (List.nodup_append.mp nd).2.1).2.2 a ha b hb e
theorem PlW.nd5 (x : PlW CP CI CC H0 H s) : [s.DB, s.DL, s.DS, s.LP, s.p].Nodup := by
  have nd := x.x.nd
  unfold PSt.tbl at nd
  rw [List.map_append] at nd
  exact (List.nodup_append.mp nd).1
theorem erase_kept {l : Ln} {i : Str} (nd : l.it.Nodup) : l.kept (but i l.tgt) = l.it.erase i := by
  rw [nd.erase_eq_filter]
  unfold Ln.kept
  refine List.filter_congr fun j _ => ?_
  by_cases q : j = i
  · subst q; rw [but_same]; simp
  · rw [but_ne (fun h => q h.1)]; simp [q]
theorem PlW.kept_other (x : PlW CP CI CC H0 H s) {c d : Cn} {i : Str} (hc : c ∈ s.lines) (hi : i ∈ c.l.it) (hd : d ∈ s.lines) (ne : d ≠ c) : d.keep (but i c.l.tgt) = some d := by
  have ek : d.l.kept (but i c.l.tgt) = d.l.it := List.filter_eq_self.mpr fun j hj => but_ne fun ⟨e1, e2⟩ => ne (x.one hd hc e2 (by rw [e1] at hj; exact hj) hi)
  unfold Cn.keep
  rw [ek, if_neg]
  intro q
  exact x.ne d hd (List.isEmpty_iff.mp q)
theorem PlW.kept_this (x : PlW CP CI CC H0 H s) {c : Cn} {i : Str} (hc : c ∈ s.lines) : c.keep (but i c.l.tgt) = if (c.l.it.erase i).isEmpty then none else some { c with l := { c.l with it := c.l.it.erase i } } := by
  unfold Cn.keep
  rw [erase_kept (x.ni c hc)]
theorem PlW.loseTo (x : PlW CP CI CC H0 H s) {c : Cn} {i : Str} (hc : c ∈ s.lines) (hi : i ∈ c.l.it) (h1 : H' s.DB = some (.dT (dropK s.kvb (k2 i c.l.tgt)))) (h2 : H' c.la = some (.lst ((c.l.it.erase i).map V.str)))
    (h3 : H' s.DL = some (.dK (kvL (s.lines.filterMap (Cn.keep (but i c.l.tgt)))))) (h4 : ∀ b, b ≠ s.DB → b ≠ c.la → b ≠ s.DL → H' b = H b) : PlW CP CI CC H0 H' (s.keep (but i c.l.tgt)) := by
  have n5 := x.nd5
  simp only [List.nodup_cons, List.mem_cons, List.not_mem_nil, or_false, not_or, List.nodup_nil, not_false_eq_true, and_true] at n5
  obtain ⟨⟨n12, n13, n14, n15⟩, ⟨n23, n24, n25⟩, ⟨n34, n35⟩, n45⟩ := n5
  have cIn : ∀ d ∈ s.lines, d.a ∈ (chT CC s.lines).map (·.1) ∧ d.la ∈ (chT CC s.lines).map (·.1) := fun d hd => ⟨List.mem_map.mpr ⟨_, (chT_mem hd).1, rfl⟩, List.mem_map.mpr ⟨_, (chT_mem hd).2, rfl⟩⟩
  have inR : ∀ {a : Addr}, a ∈ (chT CC s.lines).map (·.1) → a ∈ (seT CI s.p s.seats ++ chT CC s.lines).map (·.1) := fun h => by rw [List.map_append]; exact List.mem_append_right _ h
  have inL : ∀ {a : Addr}, a ∈ (seT CI s.p s.seats).map (·.1) → a ∈ (seT CI s.p s.seats ++ chT CC s.lines).map (·.1) := fun h => by rw [List.map_append]; exact List.mem_append_left _ h
  have hla := cIn c hc
  have f : ∀ {a : Addr}, a ∈ [s.DB, s.DL, s.DS, s.LP, s.p] → a ≠ c.la := fun h => x.sep1 h (inR hla.2)
  have ndl := x.ndLa
  refine x.keepTo _ (fun z hz => ?_) (fun b o hb => ?_)
  · have hz : z ∈ ([(s.DB, .dT (s.kvb.filter fun e => keyK (but i c.l.tgt) e.1)), (s.DL, .dK (kvL (s.lines.filterMap (Cn.keep (but i c.l.tgt))))), (s.DS, .dK (kvS s.seats)), (s.LP, .lst (s.places.map V.str)), (s.p, .ins CP s.dp s.F)] : List (Addr × HO)) ++ (seT CI s.p s.seats ++ chT CC (s.lines.filterMap (Cn.keep (but i c.l.tgt)))) := hz
    rcases List.mem_append.mp hz with hz | hz
    · simp only [List.mem_cons, List.not_mem_nil, or_false] at hz
      rcases hz with rfl | rfl | rfl | rfl | rfl
      · rw [h1, dropK_keep x.b.keys]
      · exact h3
      · rw [h4 _ (Ne.symm n13) (f (by simp)) (Ne.symm n23)]; exact x.hDS
      · rw [h4 _ (Ne.symm n14) (f (by simp)) (Ne.symm n24)]; exact x.hLP
      · rw [h4 _ (Ne.symm n15) (f (by simp)) (Ne.symm n25)]; exact x.hp
    rcases List.mem_append.mp hz with hz | hz
    · have hm : z.1 ∈ (seT CI s.p s.seats).map (·.1) := List.mem_map.mpr ⟨z, hz, rfl⟩
      rw [h4 _ (Ne.symm (x.sep1 (by simp) (inL hm))) (x.sep2 hm hla.2) (Ne.symm (x.sep1 (by simp) (inL hm)))]
      exact x.x.at_ z (List.mem_append_right _ (List.mem_append_left _ hz))
    · obtain ⟨d', hd', hz⟩ := List.mem_flatMap.mp hz
      obtain ⟨d, hd, e⟩ := List.mem_filterMap.mp hd'
      have ca := cIn d hd
      have fa : H' d.a = H d.a := h4 _ (Ne.symm (x.sep1 (by simp) (inR ca.1))) (fun q => by have := x.hca hd; rw [q, x.hla hc] at this; cases this) (Ne.symm (x.sep1 (by simp) (inR ca.1)))
      by_cases q : d = c
      · subst q
        rw [x.kept_this hd] at e
        split at e
        · cases e
        · cases e
          simp only [List.mem_cons, List.not_mem_nil, or_false] at hz
          rcases hz with rfl | rfl
          · exact fa.trans (x.hca hd)
          · exact h2
      · rw [x.kept_other hc hi hd q] at e
        cases e
        simp only [List.mem_cons, List.not_mem_nil, or_false] at hz
        rcases hz with rfl | rfl
        · exact fa.trans (x.hca hd)
        · exact (h4 _ (Ne.symm (x.sep1 (by simp) (inR ca.2))) (fun e => q (nodup_inj ndl hd hc e)) (Ne.symm (x.sep1 (by simp) (inR ca.2)))).trans (x.hla hd)
  · have ne : ∀ z ∈ s.tbl CP CI CC, b ≠ z.1 := fun z hz e => by have := x.z0 z hz; rw [← e, hb] at this; cases this
    rw [h4 b (ne (s.DB, .dT s.kvb) (List.mem_append_left _ (by simp))) (ne (c.la, .lst (c.l.it.map V.str)) (List.mem_append_right _ (List.mem_append_right _ (chT_mem hc).2))) (ne (s.DL, .dK (kvL s.lines)) (List.mem_append_left _ (by simp)))]
    exact x.sj b o hb
theorem kvL_lose1 (x : PlW CP CI CC H0 H s) {c : Cn} {i : Str} (hc : c ∈ s.lines) (hi : i ∈ c.l.it) (ne : c.l.it.erase i ≠ []) : kvL (s.lines.filterMap (Cn.keep (but i c.l.tgt))) = kvL s.lines := by
  unfold kvL
  refine fm_all fun d hd => ?_
  by_cases q : d = c
  · subst q
    rw [x.kept_this hd, if_neg (fun h => ne (List.isEmpty_iff.mp h))]
    exact ⟨_, rfl, rfl⟩
  · exact ⟨d, x.kept_other hc hi hd q, rfl⟩
theorem kvL_lose0 (x : PlW CP CI CC H0 H s) {c : Cn} {i : Str} (hc : c ∈ s.lines) (hi : i ∈ c.l.it) (em : c.l.it.erase i = []) : kvL (s.lines.filterMap (Cn.keep (but i c.l.tgt))) = dropK (kvL s.lines) (.inr c.l.nm) := by
  unfold kvL dropK
  refine fm_map _ fun d hd => ?_
  by_cases q : d = c
  · subst q
    refine .inr ⟨by rw [x.kept_this hd, if_pos (by rw [em]; rfl)], by simp⟩
  · refine .inl ⟨d, x.kept_other hc hi hd q, rfl, decide_eq_true fun e => q (nodup_inj x.nl hd hc (Sum.inr.inj e))⟩
end
/-! ### copies: pairs of texts as data -/
theorem pr_inj {a b : Str × Str} (h : PySem.W.keyToks (prD a) = PySem.W.keyToks (prD b)) : a = b := by
  obtain ⟨a1, a2⟩ := a
  obtain ⟨b1, b2⟩ := b
  simp only [prD, PySem.W.keyToks, PySem.W.keyToksAll, List.singleton_append, List.cons_append, List.nil_append, List.cons.injEq, Sum.inl.injEq, Sum.inr.injEq, true_and, and_true] at h
  obtain ⟨h1, h2⟩ := h
  rw [str_ext h1, str_ext h2]
theorem ordPr : Ord (ltA prD) (fun _ => True) where
  irr := fun a _ => PyProof.Rows.lex_irrefl _
  tr := fun a b c _ _ _ h1 h2 => PyProof.Rows.lex_trans _ _ _ h1 h2
  tot := fun a b _ _ => by
    cases h1 : ltA prD a b with
    | true => exact .inl rfl
    | false =>
      cases h2 : ltA prD b a with
      | true => exact .inr (.inr rfl)
      | false => exact .inr (.inl (pr_inj (PyProof.Rows.lex_total _ _ h1 h2)))
theorem ps_dp {K : PySem.W.Frag} {H : Hp} {v : V} {x : Str × Str} (h : PsA H v x) : Dp K H v (prD x) := by
  obtain ⟨t, rfl, ht⟩ := h
  exact .tup (.inl (.inl ht)) (.cons (.str _) (.cons (.str _) .nil))
def prsD (l : List (Str × Str)) : PyData := .list (l.map prD)
theorem prs_dp {K : PySem.W.Frag} {H : Hp} {a : Addr} {l : List (Str × Str)} (h : LsA PsA H a l) : Dp K H (.ref a) (prsD l) := ls_dp (fun v x h => ps_dp h) h
theorem prs_lay {l : List (Str × Str)} (h : ∀ x ∈ l, PyData.strOk x.1 = true ∧ PyData.strOk x.2 = true) : (prsD l).canLay0 = true ∧ (prsD l).depth ≤ 2 :=
  ls_lay (D := prD) (n := 1) fun x hx => pr_lay (h x hx).1 (h x hx).2
theorem pr_eqv (x y : Str × Str) : PyData.eqv (prD x) (prD y) = decide (x = y) := by
  have e : ∀ a b : Str, PyData.eqv (.str a) (.str b) = decide (a = b) := fun a b => by
    rw [PyData.eqv]
    by_cases h : a = b
    · rw [h, decide_eq_true rfl]; exact beq_self_eq_true b
    · rw [decide_eq_false h]; exact beq_false_of_ne h
  unfold prD
  rw [PyData.eqv, PyData.eqvAll, PyData.eqvAll, PyData.eqvAll, e, e]
  rw [Bool.eq_iff_iff]
  simp [Prod.ext_iff]
theorem pr_any (x : Str × Str) (l : List (Str × Str)) : (l.map prD).any (fun z => PyData.eqv z (prD x)) = decide (x ∈ l) := by
  rw [List.any_map, Bool.eq_iff_iff, List.any_eq_true, decide_eq_true_iff]
  constructor
  · rintro ⟨y, hy, e⟩
    have e' : PyData.eqv (prD y) (prD x) = true := e
    rw [pr_eqv] at e'
    rw [← of_decide_eq_true e']
    exact hy
  · intro h
    exact ⟨x, h, by show PyData.eqv (prD x) (prD x) = true; rw [pr_eqv]; exact decide_eq_true rfl⟩
def keyP : List L2.Key → Str × Str
  | [.inr i, .inr t] => (i, t)
  | _ => ("", "")
theorem keyP_k2 (i t : Str) : keyP (k2 i t) = (i, t) := rfl
/-- the copies, in the order of the dict -/
def PSt.cps (s : PSt) : List (Str × Str) := s.kvb.map fun e => keyP e.1
/-- what ascending asks of a list of pairs, and what it gives -/
theorem asc_prs {K : PySem.W.Frag} {H : Hp} {Q : VK} {E : XK} {a : Addr} {vs : List V} {l : List (Str × Str)} (h : H a = some (.lst vs)) (pw : Pw (PsA H) vs l) (hz : l.length ≤ 10000) (sp : Sp)
    (hsp : ∀ xs : List (V × PyData), SqL K H a (xs.map (·.1)) → (∀ p ∈ xs, Dp K H p.1 p.2 ∧ p.2 ≠ .none ∧ p.2.depth ≤ 60) → (∀ p ∈ xs, ∀ q ∈ xs, PySem.W.alike p.2 q.2 = true) → xs.length ≤ 10000 → (∀ r, H r = none → Q (.ref r) (upd H r (.lst ((asc ltP xs).map (·.1))))) → sp [.ref a] H Q E)
    (kQ : ∀ r H', H r = none → Same H H' → LsA PsA H' r (asc (ltA prD) l) → Q (.ref r) H') : sp [.ref a] H Q E := by
  refine hsp (zd prD (vs.zip l)) (by rw [zd_fst pw]; exact SqL.of h) (fun q hq => ?_) (fun q hq q2 hq2 => ?_) (by rw [zd_len pw]; exact hz) fun r hr => ?_
  · obtain ⟨x, _, e, hx⟩ := zd_mem hq pw
    refine ⟨by rw [e]; exact ps_dp hx, (by rw [e]; exact fun z => by cases z), ?_⟩
    rw [e]
    simp [prD, PyData.depth, PyData.depthAll]
  · obtain ⟨x, _, e, _⟩ := zd_mem hq pw
    obtain ⟨x2, _, e2, _⟩ := zd_mem hq2 pw
    rw [e, e2]
    rfl
  · have sr : Same H (upd H r (.lst ((asc ltP (zd prD (vs.zip l))).map (·.1)))) := (Same.refl _).new hr
    exact kQ r _ hr sr ⟨_, upd_same, pw.asc.mono fun v x => stPs _ _ v x sr⟩
theorem paired_atR {α β : Type} {F : α → β → Prop} : ∀ {xs : List α} {ys : List β}, Paired F xs ys → ∀ {i : Nat} {x : α} {y : β}, xs[i]? = some x → ys[i]? = some y → F x y
  | _, _, .nil, i, x, y, h, _ => by cases h
  | _, _, .cons r t, 0, x, y, h, h2 => by cases h; cases h2; exact r
  | _, _, .cons r t, i + 1, x, y, h, h2 => paired_atR t (i := i) (by simpa using h) (by simpa using h2)
theorem keys_pw {H H' : Hp} {kvb : List (List L2.Key × V)} {bs : List Addr} (hk : ∀ e ∈ kvb, ∃ i s, e.1 = k2 i s) (k : IsKeys H kvb bs) (s : Same H H') : Pw (PsA H') (bs.map V.ref) (kvb.map fun e => keyP e.1) := by
  have hl : kvb.length = bs.length := Paired.length k
  refine ⟨by rw [List.length_map, List.length_map, hl], fun i v x h1 h2 => ?_⟩
  rw [List.getElem?_map] at h1 h2
  cases e1 : bs[i]? with
  | none => rw [e1] at h1; cases h1
  | some b =>
    cases e2 : kvb[i]? with
    | none => rw [e2] at h2; cases h2
    | some e =>
      rw [e1] at h1
      rw [e2] at h2
      cases h1
      cases h2
      have hb := paired_atR k e2 e1
      obtain ⟨i', t', q⟩ := hk e (List.mem_of_getElem? e2)
      show PsA H' (V.ref b) (keyP e.1)
      rw [q] at hb ⊢
      exact ⟨b, rfl, s _ _ hb⟩
end M

namespace M
open PySem PySem.Spec PyProof.Rows L2
/-! ### the sites that a way visits -/
def Gd.vis (g : Gd) (v : List Str) (u t : Str) : Bool := decide (u = t) || g.lines.any fun l => decide (l.nm ∈ v) && decide (l.src = t)
theorem Gd.vis_nil (g : Gd) (u t : Str) : g.vis [] u t = decide (u = t) := by
  unfold Gd.vis
  simp
theorem GdOk.vis_step {g : Gd} (o : GdOk g) {l : Ln} {w : List Str} {t : Str} (hl : l ∈ g.lines) (ne : l.tgt ≠ t) : g.vis (w ++ [l.nm]) l.tgt t = g.vis w l.src t := by
  unfold Gd.vis
  rw [decide_eq_false ne, Bool.false_or, Bool.eq_iff_iff, List.any_eq_true, Bool.or_eq_true, List.any_eq_true]
  constructor
  · rintro ⟨m, hm, h⟩
    obtain ⟨h1, h2⟩ := Bool.and_eq_true_iff.mp h
    rcases List.mem_append.mp (of_decide_eq_true h1) with h1 | h1
    · exact .inr ⟨m, hm, Bool.and_eq_true_iff.mpr ⟨decide_eq_true h1, h2⟩⟩
    · have e := o.lineU hm hl (List.mem_singleton.mp h1)
      rw [e] at h2
      exact .inl h2
  · rintro (h | ⟨m, hm, h⟩)
    · exact ⟨l, hl, Bool.and_eq_true_iff.mpr ⟨decide_eq_true (by simp), h⟩⟩
    · obtain ⟨h1, h2⟩ := Bool.and_eq_true_iff.mp h
      exact ⟨m, hm, Bool.and_eq_true_iff.mpr ⟨decide_eq_true (List.mem_append_left _ (of_decide_eq_true h1)), h2⟩⟩
theorem Gd.vis_here (g : Gd) (v : List Str) (t : Str) : g.vis v t t = true := by
  unfold Gd.vis
  simp
/-- the copy of i at u is lost when its copy at t is given up -/
def Gd.lost (g : Gd) (i t u : Str) : Bool := match g.ways i u with
  | some v => g.vis v u t
  | none => false
def Gd.keepT (g : Gd) (i t : Str) : KeepP := fun j u => !(decide (j = i) && g.lost i t u)
theorem GdOk.noHome {g : Gd} (o : GdOk g) {i t : Str} {w : List Str} (h : g.ways i t = some w) (n : w ≠ []) : (i, t) ∉ g.homes := fun m => by
  have := o.wH _ m
  rw [h] at this
  exact n (Option.some.inj this)
theorem GdOk.keepT_home {g : Gd} (o : GdOk g) {i t : Str} (nh : (i, t) ∉ g.homes) : ∀ h ∈ g.homes, g.keepT i t h.1 h.2 = true := fun h hh => by
  unfold Gd.keepT
  by_cases q : h.1 = i
  · have e : g.lost i t h.2 = false := by
      unfold Gd.lost
      rw [← q, o.wH h hh]
      show g.vis [] h.2 t = false
      rw [Gd.vis_nil]
      refine decide_eq_false fun e => nh ?_
      rw [← q, ← e]
      exact hh
    rw [e, Bool.and_false]
    rfl
  · rw [decide_eq_false q]
    rfl
theorem GdOk.keepT_cl {g : Gd} (o : GdOk g) (i t : Str) : ∀ l ∈ g.lines, ∀ j ∈ l.it, g.keepT i t j l.tgt = true → g.keepT i t j l.src = true := fun l hl j hj h => by
  unfold Gd.keepT at h ⊢
  by_cases q : j = i
  · subst q
    rw [decide_eq_true rfl, Bool.true_and] at h ⊢
    obtain ⟨w, h1, h2⟩ := o.wL l hl j hj
    unfold Gd.lost at h ⊢
    rw [h2] at h
    rw [h1]
    show (!g.vis w l.src t) = true
    have h' : (!g.vis (w ++ [l.nm]) l.tgt t) = true := h
    by_cases e : l.tgt = t
    · rw [e, Gd.vis_here] at h'
      cases h'
    · rw [← o.vis_step hl e]
      exact h'
  · rw [decide_eq_false q]
    rfl
/-- what is kept of the ways -/
def keepW (K : KeepP) (w : Ways) : Ways := fun i s => if K i s = true then w i s else none
theorem PSt.keep_g (s : PSt) (K : KeepP) (w : Ways) : (s.keep K).g (keepW K w) = { s.g w with lines := (s.g w).lines.filterMap (Ln.keep K), ways := keepW K w } := by
  have := s.keep_lns K
  unfold PSt.lns at this
  unfold PSt.g
  rw [this]
  rfl
/-- a valid placement, with what the walks that change it need -/
structure PlV (CP CI CC : Addr) (H0 H : Hp) (s : PSt) (w : Ways) : Prop where
  w_ : PlW CP CI CC H0 H s
  o : GdOk (s.g w)
section
variable {CP CI CC : Addr} {H0 H H' : Hp} {s : PSt} {w : Ways}
theorem PlV.a (x : PlV CP CI CC H0 H s w) : PlA CP CI CC H0 H s w := ⟨x.w_.x, x.w_.b, x.o⟩
theorem PlV.same (x : PlV CP CI CC H0 H s w) (e : Same H H') : PlV CP CI CC H0 H' s w := ⟨x.w_.same e, x.o⟩
theorem PlV.sj (x : PlV CP CI CC H0 H s w) : Same H0 H := x.w_.sj
theorem PlV.grow {T : Addr} {o : HO} (x : PlV CP CI CC H0 H s w) (n : H T = none) : PlV CP CI CC (upd H0 T o) (upd H T o) s w := ⟨x.w_.grow n, x.o⟩
theorem PlV.base {H1 : Hp} (x : PlV CP CI CC H1 H s w) (e : Same H0 H1) : PlV CP CI CC H0 H s w := ⟨x.w_.base e, x.o⟩
theorem PlV.keep {K : KeepP} (x : PlV CP CI CC H0 H s w) {J : Hp} (y : PlW CP CI CC J H' (s.keep K)) (hm : ∀ h ∈ s.homes, K h.1 h.2 = true) (cl : ∀ l ∈ s.lns, ∀ i ∈ l.it, K i l.tgt = true → K i l.src = true) : PlV CP CI CC J H' (s.keep K) (keepW K w) := by
  refine ⟨y, ?_⟩
  rw [PSt.keep_g]
  exact x.o.keep hm cl
theorem tbl_notup {z : Addr × HO} (h : z ∈ s.tbl CP CI CC) (xs : List V) : z.2 ≠ .tup xs := by
  intro e
  rcases List.mem_append.mp h with h | h
  · simp only [List.mem_cons, List.not_mem_nil, or_false] at h
    rcases h with rfl | rfl | rfl | rfl | rfl <;> cases e
  rcases List.mem_append.mp h with h | h
  · obtain ⟨i, _, rfl⟩ := List.mem_map.mp h
    cases e
  · obtain ⟨d, _, h⟩ := List.mem_flatMap.mp h
    simp only [List.mem_cons, List.not_mem_nil, or_false] at h
    rcases h with rfl | rfl <;> cases e
def PSt.ads (CP CI CC : Addr) (s : PSt) : List Addr := (s.tbl CP CI CC).map (·.1)
/-- all that stands besides -/
theorem PlW.rest (x : PlW CP CI CC H0 H s) : PlW CP CI CC (cut H (s.ads CP CI CC)) H s := by
  refine ⟨⟨x.x.at_, x.x.nd, fun b o hb _ => cut_all _ _ hb⟩, x.b, x.nl, x.ni, x.u, x.ne, fun z hz => cut_in (List.mem_map.mpr ⟨z, hz, rfl⟩), x.kz, x.zl, x.zs, x.zp, x.zi⟩
theorem PlW.restS (x : PlW CP CI CC H0 H s) : Same H0 (cut H (s.ads CP CI CC)) := fun b o e => by
  rw [cut_out fun h => ?_]
  · exact x.sj _ _ e
  · obtain ⟨z, hz, e2⟩ := List.mem_map.mp h
    have := x.z0 z hz
    rw [e2, e] at this
    cases this
theorem PlW.out (x : PlW CP CI CC H0 H s) {a : Addr} {o : HO} (h : H a = some o) (n : ∀ z ∈ s.tbl CP CI CC, z.2 ≠ o) : cut H (s.ads CP CI CC) a = some o := by
  rw [cut_out fun h2 => ?_]
  · exact h
  · obtain ⟨z, hz, e⟩ := List.mem_map.mp h2
    have := x.x.at_ z hz
    rw [e, h] at this
    exact n z hz (Option.some.inj this).symm
theorem PlW.outN (x : PlW CP CI CC H0 H s) {a : Addr} {o : HO} {G : Hp} (n : G a = none) (sm : Same G H) (xg : PlW CP CI CC H0 G s) (h : H a = some o) : cut H (s.ads CP CI CC) a = some o := by
  rw [cut_out fun h2 => ?_]
  · exact h
  · obtain ⟨z, hz, e⟩ := List.mem_map.mp h2
    have := xg.x.at_ z hz
    rw [e, n] at this
    cases this
theorem PlW.outLs (x : PlW CP CI CC H0 H s) {a : Addr} {l : List (Str × Str)} {G : Hp} (n : G a = none) (sm : Same G H) (xg : PlW CP CI CC H0 G s) (h : LsA PsA H a l) : LsA PsA (cut H (s.ads CP CI CC)) a l := by
  obtain ⟨vs, h1, p⟩ := h
  exact ⟨vs, x.outN n sm xg h1, p.mono fun v y ⟨t, e, ht⟩ => ⟨t, e, x.out ht fun z hz => tbl_notup hz _⟩⟩
theorem PSt.keep_congr {K1 K2 : KeepP} (b : BrA s.kvb s.lines) (h : ∀ x ∈ s.cps, K1 x.1 x.2 = K2 x.1 x.2) : s.keep K1 = s.keep K2 := by
  have hb : ∀ i t, (valV s.kvb (k2 i t)).isSome = true → K1 i t = K2 i t := fun i t q => by
    rw [← valV_any] at q
    obtain ⟨e, he, q⟩ := List.any_eq_true.mp q
    have q' : e.1 = k2 i t := of_decide_eq_true q
    exact h (i, t) (List.mem_map.mpr ⟨e, he, by rw [q']; rfl⟩)
  have e1 : s.lines.filterMap (Cn.keep K1) = s.lines.filterMap (Cn.keep K2) := by
    have aux : ∀ l : List Cn, (∀ c ∈ l, c.keep K1 = c.keep K2) → l.filterMap (Cn.keep K1) = l.filterMap (Cn.keep K2) := fun l => by
      induction l with
      | nil => intro _; rfl
      | cons c l ih =>
        intro h
        rw [List.filterMap_cons, List.filterMap_cons, h c List.mem_cons_self, ih fun d hd => h d (List.mem_cons_of_mem _ hd)]
    refine aux _ fun c hc => ?_
    have ek : c.l.kept K1 = c.l.kept K2 := List.filter_congr fun i hi => hb i c.l.tgt (by rw [b.in_ c hc i hi]; rfl)
    unfold Cn.keep
    rw [ek]
  have e2 : (s.kvb.filter fun e => keyK K1 e.1) = s.kvb.filter fun e => keyK K2 e.1 := List.filter_congr fun e he => by
    obtain ⟨i, t, q⟩ := b.keys e he
    rw [q]
    exact h (i, t) (List.mem_map.mpr ⟨e, he, by rw [q]; rfl⟩)
  unfold PSt.keep
  rw [e1, e2]
theorem cps_line (b : BrA s.kvb s.lines) {i t : Str} : (i, t) ∈ s.cps ↔ ∃ c ∈ s.lines, i ∈ c.l.it ∧ c.l.tgt = t := by
  constructor
  · intro h
    obtain ⟨e, he, q⟩ := List.mem_map.mp h
    obtain ⟨j, u, q2⟩ := b.keys e he
    rw [q2, keyP_k2] at q
    cases q
    by_cases z : ∃ c ∈ s.lines, i ∈ c.l.it ∧ c.l.tgt = t
    · exact z
    · have := b.out i t fun c hc h => z ⟨c, hc, h⟩
      have h2 : (s.kvb.any fun kv => decide (kv.1 = k2 i t)) = true := List.any_eq_true.mpr ⟨e, he, decide_eq_true q2⟩
      rw [valV_any, this] at h2
      cases h2
  · rintro ⟨c, hc, hi, rfl⟩
    have h2 := b.in_ c hc i hi
    have h3 : (s.kvb.any fun kv => decide (kv.1 = k2 i c.l.tgt)) = true := by rw [valV_any, h2]; rfl
    obtain ⟨e, he, q⟩ := List.any_eq_true.mp h3
    exact List.mem_map.mpr ⟨e, he, by rw [of_decide_eq_true q]; rfl⟩
theorem cps_nodup (b : BrA s.kvb s.lines) : s.cps.Nodup := by
  unfold PSt.cps
  have nd := b.nd
  rw [List.Nodup, List.pairwise_map] at nd ⊢
  refine nd.imp_of_mem fun {e f} he hf ne q => ne ?_
  obtain ⟨i, t, q1⟩ := b.keys e he
  obtain ⟨j, u, q2⟩ := b.keys f hf
  rw [q1, q2, keyP_k2, keyP_k2] at q
  cases q
  rw [q1, q2]
/-- a copy: a way that isn't empty -/
theorem PlV.cps_way (x : PlV CP CI CC H0 H s w) {i t : Str} : (i, t) ∈ s.cps ↔ ∃ v, w i t = some v ∧ v ≠ [] := by
  rw [cps_line x.w_.b]
  constructor
  · rintro ⟨c, hc, hi, rfl⟩
    obtain ⟨v, _, h2⟩ := x.o.wL c.l (List.mem_map.mpr ⟨c, hc, rfl⟩) i hi
    exact ⟨v ++ [c.l.nm], h2, by simp⟩
  · rintro ⟨v, h1, h2⟩
    obtain ⟨l, hl, e, hi, _⟩ := x.o.step h1 h2
    obtain ⟨c, hc, rfl⟩ := List.mem_map.mp hl
    exact ⟨c, hc, hi, e⟩
end
/-! ### the copies that are lost, one by one -/
def PSt.lostL (s : PSt) (f : Str × Str → Bool) : List (Str × Str) := (asc (ltA prD) s.cps).filter f
def notIn (l : List (Str × Str)) : KeepP := fun j u => !decide ((j, u) ∈ l)
section
variable {CP CI CC : Addr} {H0 H H' : Hp} {s : PSt} {w : Ways} {f : Str × Str → Bool}
theorem lostL_mem {x : Str × Str} : x ∈ s.lostL f ↔ x ∈ s.cps ∧ f x = true := by
  unfold PSt.lostL
  rw [List.mem_filter, (asc_perm _ _).mem_iff]
theorem lostL_nodup (b : BrA s.kvb s.lines) : (s.lostL f).Nodup := ((asc_perm _ _).nodup_iff.mpr (cps_nodup b)).sublist List.filter_sublist
theorem keep_none (ne : ∀ c ∈ s.lines, c.l.it ≠ []) : s.keep (notIn []) = s := PSt.keep_all ne (fun _ _ _ _ => rfl) fun e _ => by
  unfold keyK
  split <;> rfl
theorem lose_step (b : BrA s.kvb s.lines) {l : List (Str × Str)} (nd : l.Nodup) (hl : ∀ x ∈ l, x ∈ s.cps) {n : Nat} {i t : Str} (hn : l[n]? = some (i, t)) :
    ∃ c ∈ (s.keep (notIn (l.take n))).lines, i ∈ c.l.it ∧ c.l.tgt = t ∧ (s.keep (notIn (l.take n))).keep (but i t) = s.keep (notIn (l.take (n + 1))) := by
  have hm := List.mem_of_getElem? hn
  obtain ⟨c, hc, hi, rfl⟩ := (cps_line b).mp (hl _ hm)
  have eT := take_snoc hn
  have nin : (i, c.l.tgt) ∉ l.take n := fun q => by
    have := List.nodup_append.mp (by rw [← eT]; exact nd.sublist (List.take_sublist _ _) : (l.take n ++ [(i, c.l.tgt)]).Nodup)
    exact this.2.2 _ q _ (List.mem_singleton.mpr rfl) rfl
  have hk : notIn (l.take n) i c.l.tgt = true := by
    unfold notIn
    rw [decide_eq_false nin]
    rfl
  refine ⟨_, List.mem_filterMap.mpr ⟨c, hc, Cn.keep_of hi hk⟩, Ln.mem_kept.mpr ⟨hi, hk⟩, rfl, ?_⟩
  rw [PSt.keep_keep, eT]
  refine congrArg s.keep (funext fun j => funext fun u => ?_)
  unfold notIn but
  by_cases a : (j, u) ∈ l.take n
  · rw [decide_eq_true a, decide_eq_true (List.mem_append_left _ a)]
    rfl
  · rw [decide_eq_false a]
    by_cases q : j = i ∧ u = c.l.tgt
    · obtain ⟨rfl, rfl⟩ := q
      rw [decide_eq_true (by simp : (j, c.l.tgt) ∈ l.take n ++ [(j, c.l.tgt)])]
      simp
    · have h1 : (j, u) ∉ l.take n ++ [(i, c.l.tgt)] := fun h => by
        rcases List.mem_append.mp h with h | h
        · exact a h
        · cases List.mem_singleton.mp h
          exact q ⟨rfl, rfl⟩
      have h2 : (decide (j = i) && decide (u = c.l.tgt)) = false := by
        by_cases q1 : j = i
        · rw [decide_eq_false (fun e => q ⟨q1, e⟩), Bool.and_false]
        · rw [decide_eq_false q1]; rfl
      rw [decide_eq_false h1, h2]
      rfl
theorem lostL_keep (b : BrA s.kvb s.lines) {K : KeepP} (hK : ∀ x ∈ s.cps, K x.1 x.2 = !f x) : s.keep (notIn (s.lostL f)) = s.keep K := by
  refine PSt.keep_congr b fun x hx => ?_
  rw [hK x hx]
  unfold notIn
  by_cases q : f x = true
  · rw [q, decide_eq_true (show (x.1, x.2) ∈ s.lostL f from lostL_mem.mpr ⟨hx, q⟩)]
  · rw [decide_eq_false (fun h : (x.1, x.2) ∈ s.lostL f => q (lostL_mem.mp h).2)]
    have : f x = false := by simpa using q
    rw [this]
theorem lostL_len (b : BrA s.kvb s.lines) (kz : s.kvb.length ≤ 10000) : (s.lostL f).length ≤ 10000 := by
  unfold PSt.lostL
  refine Nat.le_trans (List.length_filter_le _ _) ?_
  rw [(asc_perm _ _).length_eq]
  unfold PSt.cps
  rw [List.length_map]
  exact kz
end
end M

namespace M
open PySem PySem.Spec PyProof.Rows L2
theorem Same.ap {H H' : Hp} {a : Addr} {u : HO} (s : Same H H') (h : H a = some u) : H' a = some u := s a u h
theorem Same.upd2 {H H' : Hp} {T : Addr} {o : HO} (s : Same H H') : Same (upd H T o) (upd H' T o) := fun b u e => by
  by_cases q : b = T
  · subst q
    rw [upd_same] at e ⊢
    exact e
  · rw [upd_ne q] at e ⊢
    exact s b u e
/-! ### where a law stands: what stays (J0), the draws at p, a placement -/
structure LS (CP CI CC : Addr) (J0 J H : Hp) (p : Addr) (ds : List Int) (s : PSt) (wy : Ways) : Prop where
  s0 : Same J0 J
  p0 : J0 p = none
  hJ : J p = some (.lst (ds.map V.int))
  dr : Dr ds
  pl : PlV CP CI CC J H s wy
section
variable {CP CI CC : Addr} {J0 J H H' : Hp} {p T : Addr} {ds ds' : List Int} {s s' : PSt} {wy wy' : Ways} {o : HO} {u : HO} {a : Addr}
theorem LS.sj (L : LS CP CI CC J0 J H p ds s wy) : Same J0 H := L.s0.trans L.pl.sj
theorem LS.at_ (L : LS CP CI CC J0 J H p ds s wy) (h : J0 a = some u) : H a = some u := L.sj a u h
theorem LS.hp (L : LS CP CI CC J0 J H p ds s wy) : H p = some (.lst (ds.map V.int)) := L.pl.sj _ _ L.hJ
theorem LS.ho (L : LS CP CI CC J0 J H p ds s wy) : H s.p = some (.ins CP s.dp s.F) := L.pl.w_.hp
/-- a new object -/
theorem LS.new (L : LS CP CI CC J0 J H p ds s wy) (n : H T = none) (o : HO) : ∃ J1 K1 H1, upd H T o = H1 ∧ Same J0 J1 ∧ Same H H1 ∧ J1 T = some o ∧ LS CP CI CC J1 K1 H1 p ds s wy := by
  have ne : p ≠ T := fun e => by have := L.hp; rw [e, n] at this; cases this
  have nj : J0 T = none := none_of n L.sj
  refine ⟨upd J0 T o, upd J T o, upd H T o, rfl, (Same.refl _).new nj, (Same.refl _).new n, upd_same, M.Same.upd2 L.s0, ?_, ?_, L.dr, L.pl.grow n⟩
  · rw [upd_ne ne]; exact L.p0
  · rw [upd_ne ne]; exact L.hJ
theorem PlW.updO (x : PlW CP CI CC J H s) (h : J a = some u) (o : HO) : PlW CP CI CC (upd J a o) (upd H a o) s := by
  have ne : ∀ z ∈ s.tbl CP CI CC, z.1 ≠ a := fun z hz e => by have := x.z0 z hz; rw [e, h] at this; cases this
  refine ⟨⟨fun z hz => by rw [upd_ne (ne z hz)]; exact x.x.at_ z hz, x.x.nd, fun b v hb nb => ?_⟩, x.b, x.nl, x.ni, x.u, x.ne, fun z hz => by rw [upd_ne (ne z hz)]; exact x.z0 z hz, x.kz, x.zl, x.zs, x.zp, x.zi⟩
  by_cases q : b = a
  · subst q
    rw [upd_same] at hb ⊢
    exact hb
  · rw [upd_ne q] at hb ⊢
    exact x.x.fr b v hb nb
theorem LS.draw (L : LS CP CI CC J0 J H p ds s wy) (h : Dr ds') : ∃ K1 H1, upd H p (.lst (ds'.map V.int)) = H1 ∧ LS CP CI CC J0 K1 H1 p ds' s wy :=
  ⟨upd J p (.lst (ds'.map V.int)), _, rfl, L.s0.mut L.p0, L.p0, upd_same, h, L.pl.w_.updO L.hJ _, L.pl.o⟩
/-- what stands besides the draws and the placement -/
def LS.mx (CP CI CC : Addr) (H : Hp) (p : Addr) (s : PSt) : Hp := cut (cut H (s.ads CP CI CC)) [p]
theorem LS.mx_at (h : H a = some u) (n : a ≠ p) (m : a ∉ s.ads CP CI CC) : LS.mx CP CI CC H p s a = some u := by
  unfold LS.mx
  rw [cut_out (by simpa using n), cut_out m]
  exact h
theorem LS.step (L : LS CP CI CC J0 J H p ds s wy) (sm : Same H H') : ∃ J1 K1, J1 = LS.mx CP CI CC H' p s ∧ Same J0 J1 ∧ LS CP CI CC J1 K1 H' p ds s wy := by
  have x := L.pl.same sm
  have sR := x.w_.restS
  refine ⟨_, cut H' (s.ads CP CI CC), rfl, fun b v e => ?_, cut_all, ?_, sR _ _ L.hJ, L.dr, x.w_.rest, x.o⟩
  · have nb : b ≠ p := fun q => by rw [q, L.p0] at e; cases e
    unfold LS.mx
    rw [cut_out (by simpa using nb)]
    exact sR _ _ (L.s0 _ _ e)
  · unfold LS.mx
    exact cut_in (by simp)
theorem LS.mx_new (L : LS CP CI CC J0 J H p ds s wy) (sm : Same H H') (n : H a = none) (h : H' a = some u) : LS.mx CP CI CC H' p s a = some u := by
  have x := L.pl.same sm
  refine LS.mx_at h (fun e => by have := L.hp; rw [← e, n] at this; cases this) fun m => ?_
  obtain ⟨z, hz, e⟩ := List.mem_map.mp m
  have := L.pl.w_.x.at_ z hz
  rw [e, n] at this
  cases this
theorem LS.mx_tup {xs : List V} (L : LS CP CI CC J0 J H p ds s wy) (sm : Same H H') (h : H' a = some (.tup xs)) : LS.mx CP CI CC H' p s a = some (.tup xs) := by
  have x := L.pl.same sm
  refine LS.mx_at h (fun e => by have := sm _ _ L.hp; rw [← e, h] at this; cases this) fun m => ?_
  obtain ⟨z, hz, e⟩ := List.mem_map.mp m
  have := x.w_.x.at_ z hz
  rw [e, h] at this
  exact tbl_notup hz xs (Option.some.inj this).symm
theorem LS.mx_prs {l : List (Str × Str)} (L : LS CP CI CC J0 J H p ds s wy) (sm : Same H H') (n : H a = none) (h : LsA PsA H' a l) : LsA PsA (LS.mx CP CI CC H' p s) a l := by
  obtain ⟨vs, h1, pw⟩ := h
  exact ⟨vs, L.mx_new sm n h1, pw.mono fun v y ⟨t, e, ht⟩ => ⟨t, e, L.mx_tup sm ht⟩⟩
/-- a deed: besides the placement all stays -/
theorem LS.deed {J' : Hp} (L : LS CP CI CC J0 J H p ds s wy) (sJ : Same (cut H (s.ads CP CI CC)) J') (x : PlV CP CI CC J' H' s' wy') : ∃ J1, J1 = cut J' [p] ∧ Same J0 J1 ∧ LS CP CI CC J1 J' H' p ds s' wy' := by
  have sR := L.pl.w_.restS
  refine ⟨_, rfl, fun b v e => ?_, cut_all, cut_in (by simp), sJ _ _ (sR _ _ L.hJ), L.dr, x⟩
  have nb : b ≠ p := fun q => by rw [q, L.p0] at e; cases e
  rw [cut_out (by simpa using nb)]
  exact sJ _ _ (sR _ _ (L.s0 _ _ e))
theorem LS.deed_prs {J' : Hp} {l : List (Str × Str)} (L : LS CP CI CC J0 J H p ds s wy) (sJ : Same (cut H (s.ads CP CI CC)) J') (n : H a = none) (h : LsA PsA J' a l) : LsA PsA (cut J' [p]) a l := by
  have hp := sJ _ _ (L.pl.w_.restS _ _ L.hJ)
  obtain ⟨vs, h1, pw⟩ := h
  have np : a ≠ p := fun e => by have := L.hp; rw [← e, n] at this; cases this
  refine ⟨vs, by rw [cut_out (by simpa using np)]; exact h1, pw.mono fun v y ⟨t, e, ht⟩ => ⟨t, e, ?_⟩⟩
  have tp : t ≠ p := fun e => by rw [e, hp] at ht; cases ht
  rw [cut_out (by simpa using tp)]
  exact ht
end
end M

namespace M
open PySem PySem.Spec PyProof.Rows L2
/-! ### all copies of an item are given up; an item gets another home -/
def noItem (i : Str) : KeepP := fun j _ => !decide (j = i)
def Seat.to (i t : Str) (x : Seat) : Seat := { x with st := if x.nm = i then t else x.st }
def PSt.rehome (s : PSt) (i t : Str) : PSt := { s with seats := s.seats.map (Seat.to i t) }
def reW (i t : Str) (w : Ways) : Ways := fun j u => if j = i then (if u = t then some [] else none) else w j u
/-- all but the copies of i -/
def homeK (g : Gd) (i : Str) : KeepP := fun j u => !decide (j = i) || decide ((j, u) ∈ g.homes)
theorem GdOk.rehome {g : Gd} (o : GdOk g) {i t : Str} (hi : i ∈ g.goods) (ht : t ∈ g.sites) (no : ∀ l ∈ g.lines, i ∉ l.it) : GdOk { g with homes := g.homes.map (fun h => (h.1, if h.1 = i then t else h.2)), ways := reW i t g.ways } := by
  have e1 : (g.homes.map fun h => (h.1, if h.1 = i then t else h.2)).map (·.1) = g.homes.map (·.1) := by rw [List.map_map]; rfl
  refine ⟨o.sN, ?_, ?_, o.lN, o.lE, ?_, ?_, ?_, ?_, o.u⟩
  · show ((g.homes.map fun h => (h.1, if h.1 = i then t else h.2)).map (·.1)).Nodup
    rw [e1]; exact o.hN
  · intro h hh
    obtain ⟨x, hx, rfl⟩ := List.mem_map.mp hh
    show (if x.1 = i then t else x.2) ∈ g.sites
    split
    · exact ht
    · exact o.hS x hx
  · intro l hl
    refine ⟨(o.lI l hl).1, fun j hj => ?_⟩
    show j ∈ (g.homes.map fun h => (h.1, if h.1 = i then t else h.2)).map (·.1)
    rw [e1]
    exact (o.lI l hl).2 j hj
  · intro h hh
    obtain ⟨x, hx, rfl⟩ := List.mem_map.mp hh
    show reW i t g.ways x.1 (if x.1 = i then t else x.2) = some []
    unfold reW
    by_cases q : x.1 = i
    · rw [if_pos q, if_pos q, if_pos rfl]
    · rw [if_neg q, if_neg q]; exact o.wH x hx
  · intro l hl j hj
    have q : j ≠ i := fun e => no l hl (by rw [← e]; exact hj)
    obtain ⟨w, h1, h2⟩ := o.wL l hl j hj
    refine ⟨w, ?_, ?_⟩
    · show reW i t g.ways j l.src = _
      unfold reW
      rw [if_neg q]; exact h1
    · show reW i t g.ways j l.tgt = _
      unfold reW
      rw [if_neg q]; exact h2
  · intro j u w h
    have h' : reW i t g.ways j u = some w := h
    unfold reW at h'
    by_cases q : j = i
    · rw [if_pos q] at h'
      split at h'
      · rename_i qu
        left
        obtain ⟨x, hx, e⟩ := List.mem_map.mp hi
        refine List.mem_map.mpr ⟨x, hx, ?_⟩
        have e' : x.1 = i := e
        rw [if_pos e', qu, e', q]
      · cases h'
    · rw [if_neg q] at h'
      rcases o.wD j u w h' with h | h
      · refine .inl (List.mem_map.mpr ⟨(j, u), h, ?_⟩)
        show (j, if j = i then t else u) = (j, u)
        rw [if_neg q]
      · exact .inr h
theorem reW_keep (g : Gd) (i t : Str) (w : Ways) : reW i t (keepW (homeK g i) w) = reW i t w := by
  funext j u
  unfold reW keepW homeK
  by_cases q : j = i
  · rw [if_pos q, if_pos q]
  · rw [if_neg q, if_neg q, decide_eq_false q]
    rfl
section
variable {CP CI CC : Addr} {H0 H H' : Hp} {s : PSt} {w : Ways}
theorem seatTo_kvS (ss : List Seat) (i t : Str) : kvS (ss.map (Seat.to i t)) = kvS ss := by
  unfold kvS
  rw [List.map_map]
  rfl
theorem PlW.ndA (x : PlW CP CI CC H0 H s) : (s.seats.map (·.a)).Nodup := by
  have h := x.x.nd
  unfold PSt.tbl at h
  rw [List.map_append, List.map_append] at h
  have h2 := (List.nodup_append.mp (List.nodup_append.mp h).2.1).1
  unfold seT at h2
  rwa [List.map_map] at h2
theorem PlW.rehome (x : PlW CP CI CC H0 H s) {st : Seat} (hs : st ∈ s.seats) (hn : (s.seats.map (·.nm)).Nodup) (t : Str) : PlW CP CI CC H0 (upd H st.a (.ins CI st.dx (seatF s.p { st with st := t }))) (s.rehome st.nm t) := by
  have nda := x.ndA
  have inS : ∀ d ∈ s.seats, d.a ∈ (seT CI s.p s.seats).map (·.1) := fun d hd => List.mem_map.mpr ⟨_, seT_mem hd, rfl⟩
  have inL : ∀ {a : Addr}, a ∈ (seT CI s.p s.seats).map (·.1) → a ∈ (seT CI s.p s.seats ++ chT CC s.lines).map (·.1) := fun h => by rw [List.map_append]; exact List.mem_append_left _ h
  have eK : (seT CI s.p (s.seats.map (Seat.to st.nm t))).map (·.1) = (seT CI s.p s.seats).map (·.1) := by
    unfold seT
    rw [List.map_map, List.map_map, List.map_map]
    rfl
  have eF : ((s.rehome st.nm t).tbl CP CI CC).map (·.1) = (s.tbl CP CI CC).map (·.1) := by
    unfold PSt.tbl
    rw [List.map_append, List.map_append, List.map_append, List.map_append]
    show _ ++ ((seT CI s.p (s.seats.map (Seat.to st.nm t))).map (·.1) ++ _) = _
    rw [eK]
    rfl
  refine ⟨x.x.updM (List.mem_map.mpr ⟨(st.a, .ins CI st.dx (seatF s.p st)), List.mem_append_right _ (List.mem_append_left _ (seT_mem hs)), rfl⟩) eF ?_, x.b, x.nl, x.ni, x.u, x.ne, fun z hz => ?_, x.kz, x.zl, by show (s.seats.map _).length ≤ 100; rw [List.length_map]; exact x.zs, x.zp, x.zi⟩
  · intro z hz
    have hz : z ∈ ([(s.DB, .dT s.kvb), (s.DL, .dK (kvL s.lines)), (s.DS, .dK (kvS (s.seats.map (Seat.to st.nm t)))), (s.LP, .lst (s.places.map V.str)), (s.p, .ins CP s.dp s.F)] : List (Addr × HO)) ++ (seT CI s.p (s.seats.map (Seat.to st.nm t)) ++ chT CC s.lines) := hz
    rw [seatTo_kvS] at hz
    rcases List.mem_append.mp hz with hz | hz
    · refine .inr ⟨List.mem_append_left _ hz, x.sep1 ?_ (inL (inS st hs))⟩
      exact (List.mem_map (f := fun z : Addr × HO => z.1)).mpr ⟨z, hz, rfl⟩
    rcases List.mem_append.mp hz with hz | hz
    · obtain ⟨d', hd', rfl⟩ := List.mem_map.mp hz
      obtain ⟨d, hd, rfl⟩ := List.mem_map.mp hd'
      by_cases q : d.nm = st.nm
      · have := nodup_inj hn hd hs q
        subst this
        left
        unfold Seat.to
        rw [if_pos rfl]
      · have e : d.to st.nm t = d := by
          unfold Seat.to
          rw [if_neg q]
        rw [e]
        refine .inr ⟨List.mem_append_right _ (List.mem_append_left _ (seT_mem hd)), fun e2 => q ?_⟩
        rw [nodup_inj nda hd hs e2]
    · exact .inr ⟨List.mem_append_right _ (List.mem_append_right _ hz), fun e => x.sep2 (inS st hs) (List.mem_map.mpr ⟨z, hz, rfl⟩) e.symm⟩
  · have hm : z.1 ∈ ((s.rehome st.nm t).tbl CP CI CC).map (·.1) := List.mem_map.mpr ⟨z, hz, rfl⟩
    rw [eF] at hm
    obtain ⟨y, hy, e⟩ := List.mem_map.mp hm
    rw [← e]
    exact x.z0 y hy
theorem homeK_cps (x : PlV CP CI CC H0 H s w) (i : Str) : s.keep (noItem i) = s.keep (homeK (s.g w) i) := by
  refine PSt.keep_congr x.w_.b fun y hy => ?_
  obtain ⟨j, u⟩ := y
  obtain ⟨v, hv, vn⟩ := x.cps_way.mp hy
  unfold noItem homeK
  rw [decide_eq_false (x.o.noHome hv vn), Bool.or_false]
theorem PlV.noItem (x : PlV CP CI CC H0 H s w) (i : Str) {J : Hp} (y : PlW CP CI CC J H' (s.keep (noItem i))) : PlV CP CI CC J H' (s.keep (noItem i)) (keepW (homeK (s.g w) i) w) := by
  rw [homeK_cps x] at y ⊢
  refine x.keep y (fun h hh => ?_) (fun l hl j hj h => ?_)
  · unfold homeK
    rw [decide_eq_true (show (h.1, h.2) ∈ (s.g w).homes from hh), Bool.or_true]
  · unfold homeK at h ⊢
    by_cases q : j = i
    · exfalso
      subst q
      rw [decide_eq_true rfl] at h
      have hm : (j, l.tgt) ∈ (s.g w).homes := by
        have h' : (false || decide ((j, l.tgt) ∈ (s.g w).homes)) = true := h
        rw [Bool.false_or] at h'
        exact of_decide_eq_true h'
      obtain ⟨v, _, h2⟩ := x.o.wL l hl j hj
      exact x.o.noHome h2 (by simp) hm
    · rw [decide_eq_false q]; rfl
theorem noItem_lines {i : Str} : ∀ c ∈ (s.keep (M.noItem i)).lines, i ∉ c.l.it := fun c hc h => by
  obtain ⟨d, _, e⟩ := List.mem_filterMap.mp hc
  obtain ⟨rfl, _⟩ := Cn.keep_some e
  have := (Ln.mem_kept.mp h).2
  unfold M.noItem at this
  rw [decide_eq_true rfl] at this
  cases this
theorem PlV.nms (x : PlV CP CI CC H0 H s w) : (s.seats.map (·.nm)).Nodup := by
  have := x.o.hN
  unfold Gd.goods PSt.g at this
  rw [List.map_map] at this
  exact this
theorem PlV.rehome (x : PlV CP CI CC H0 H s w) {st : Seat} (hs : st ∈ s.seats) {t : Str} (ht : t ∈ s.places) (no : ∀ c ∈ s.lines, st.nm ∉ c.l.it) : PlV CP CI CC H0 (upd H st.a (.ins CI st.dx (seatF s.p { st with st := t }))) (s.rehome st.nm t) (reW st.nm t w) := by
  refine ⟨x.w_.rehome hs x.nms t, ?_⟩
  have z := x.o.rehome (i := st.nm) (t := t) (by unfold Gd.goods PSt.g; rw [List.map_map]; exact List.mem_map.mpr ⟨st, hs, rfl⟩) ht (fun l hl => by obtain ⟨c, hc, rfl⟩ := List.mem_map.mp hl; exact no c hc)
  have e : (s.rehome st.nm t).g (reW st.nm t w) = { s.g w with homes := (s.g w).homes.map (fun h => (h.1, if h.1 = st.nm then t else h.2)), ways := reW st.nm t (s.g w).ways } := by
    unfold PSt.g PSt.rehome
    simp only [List.map_map]
    rfl
  rw [e]
  exact z
end
end M

namespace M
open PySem PySem.Spec PyProof.Rows L2
/-! ### a way passes a site if the site's way begins it -/
def pre : Option (List Str) → Option (List Str) → Bool
  | some p, some v => p.isPrefixOf v
  | _, _ => false
theorem GdOk.wayEnd {g : Gd} (o : GdOk g) {i t u : Str} {v : List Str} (h1 : g.ways i t = some v) (h2 : g.ways i u = some v) : t = u := by
  by_cases e : v = []
  · subst e
    have a : ∃ hm, (i, hm) ∈ g.homes := by
      obtain ⟨x, hx, e⟩ := List.mem_map.mp (o.siteIn h1).1
      exact ⟨x.2, by rw [← e]; exact hx⟩
    obtain ⟨hm, a⟩ := a
    rw [(o.atHome h1 a).mp rfl, (o.atHome h2 a).mp rfl]
  · obtain ⟨l, hl, e1, _, w, _, q1⟩ := o.step h1 e
    obtain ⟨m, hm, e2, _, w', _, q2⟩ := o.step h2 e
    rw [q1] at q2
    have := (List.append_inj' q2 rfl).2
    have e3 := o.lineU hl hm (List.cons.inj this).1
    rw [← e1, ← e2, e3]
theorem isPre_snoc {p w : List Str} {x : Str} (ne : p ≠ w ++ [x]) : p.isPrefixOf (w ++ [x]) = p.isPrefixOf w := by
  rw [Bool.eq_iff_iff, List.isPrefixOf_iff_prefix, List.isPrefixOf_iff_prefix]
  constructor
  · intro h
    rcases List.prefix_concat_iff.mp h with h | h
    · exact absurd h ne
    · exact h
  · intro h
    exact h.trans (List.prefix_append _ _)
theorem GdOk.vis_pre {g : Gd} (o : GdOk g) {i t : Str} : ∀ (n : Nat) {u : Str} {v : List Str}, v.length = n → g.ways i u = some v → g.vis v u t = pre (g.ways i t) (some v)
  | 0, u, v, hn, h => by
    have e := List.length_eq_zero_iff.mp hn
    subst e
    rw [Gd.vis_nil]
    by_cases q : u = t
    · subst q
      rw [decide_eq_true rfl, h]
      rfl
    · rw [decide_eq_false q]
      cases e : g.ways i t with
      | none => rfl
      | some p =>
        show false = p.isPrefixOf []
        cases p with
        | nil => exact absurd (o.wayEnd h e) q
        | cons _ _ => rfl
  | n + 1, u, v, hn, h => by
    obtain ⟨l, hl, et, hi, w, h1, rfl⟩ := o.step h (fun e => by rw [e] at hn; cases hn)
    subst et
    by_cases q : l.tgt = t
    · rw [q, Gd.vis_here]
      rw [q] at h
      rw [h]
      show true = List.isPrefixOf (w ++ [l.nm]) (w ++ [l.nm])
      exact (List.isPrefixOf_iff_prefix.mpr (List.prefix_refl _)).symm
    · rw [o.vis_step hl q, GdOk.vis_pre o n (by simpa using hn) h1]
      cases e : g.ways i t with
      | none => rfl
      | some p =>
        show p.isPrefixOf w = p.isPrefixOf (w ++ [l.nm])
        rw [isPre_snoc]
        intro e2
        rw [e2] at e
        exact q (o.wayEnd h e)
theorem GdOk.lost_pre {g : Gd} (o : GdOk g) (i t u : Str) : g.lost i t u = pre (g.ways i t) (g.ways i u) := by
  unfold Gd.lost
  cases e : g.ways i u with
  | none => cases g.ways i t <;> rfl
  | some v => exact o.vis_pre _ rfl e
theorem pre_some {a b : Option (List Str)} (h : pre a b = true) : ∃ p v, a = some p ∧ b = some v ∧ p <+: v := by
  cases a with
  | none => cases h
  | some p =>
    cases b with
    | none => cases h
    | some v => exact ⟨p, v, rfl, rfl, List.isPrefixOf_iff_prefix.mp h⟩
theorem pre_self {a : Option (List Str)} (h : a ≠ none) : pre a a = true := by
  cases a with
  | none => exact absurd rfl h
  | some p => exact List.isPrefixOf_iff_prefix.mpr (List.prefix_refl _)
/-! ### items go -/
def itemK (P : Str → Bool) : KeepP := fun j _ => !P j
def dropW (P : Str → Bool) (w : Ways) : Ways := fun j u => if P j = true then none else w j u
theorem GdOk.without {g : Gd} (o : GdOk g) (P : Str → Bool) : GdOk { g with homes := g.homes.filter (fun h => !P h.1), lines := g.lines.filterMap (Ln.keep (itemK P)), ways := dropW P g.ways } := by
  have mem : ∀ m ∈ g.lines.filterMap (Ln.keep (itemK P)), ∃ l ∈ g.lines, m = { l with it := l.kept (itemK P) } ∧ l.kept (itemK P) ≠ [] := fun m hm => by
    obtain ⟨l, hl, e⟩ := List.mem_filterMap.mp hm
    exact ⟨l, hl, Ln.keep_some e⟩
  have nn : g.lines.Pairwise fun l m => ¬ (l.tgt = m.tgt ∧ ∃ i, i ∈ l.it ∧ i ∈ m.it) := List.pairwise_iff_getElem.mpr fun j k hj hk jk ⟨ht, i, h1, h2⟩ => by
    have := o.u j k _ _ i (List.getElem?_eq_getElem hj) (List.getElem?_eq_getElem hk) ht h1 h2
    omega
  have nd : (g.lines.filterMap (Ln.keep (itemK P))).Pairwise fun l m => ¬ (l.tgt = m.tgt ∧ ∃ i, i ∈ l.it ∧ i ∈ m.it) := List.Pairwise.filterMap _ (fun a b r c hc d hd => by
    obtain ⟨rfl, _⟩ := Ln.keep_some hc
    obtain ⟨rfl, _⟩ := Ln.keep_some hd
    rintro ⟨e, i, h1, h2⟩
    exact r ⟨e, i, (Ln.mem_kept.mp h1).1, (Ln.mem_kept.mp h2).1⟩) nn
  have kp : ∀ {l : Ln} {i : Str}, i ∈ l.kept (itemK P) → i ∈ l.it ∧ P i = false := fun h => by
    obtain ⟨h1, h2⟩ := Ln.mem_kept.mp h
    unfold itemK at h2
    exact ⟨h1, by simpa using h2⟩
  have dw : ∀ {i s : Str}, P i = false → dropW P g.ways i s = g.ways i s := fun h => by unfold dropW; rw [h]; rfl
  refine ⟨o.sN, o.hN.sublist (List.filter_sublist.map _), fun h hh => o.hS h (List.mem_filter.mp hh).1, o.lN.sublist (fm_sub (fun a b h => by rw [(Ln.keep_some h).1]) _), ?_, ?_, ?_, ?_, ?_, ?_⟩
  · intro m hm
    obtain ⟨l, hl, rfl, _⟩ := mem m hm
    exact o.lE l hl
  · intro m hm
    obtain ⟨l, hl, rfl, _⟩ := mem m hm
    refine ⟨(o.lI l hl).1.sublist List.filter_sublist, fun i hi => ?_⟩
    obtain ⟨h1, h2⟩ := kp hi
    obtain ⟨x, hx, e⟩ := List.mem_map.mp ((o.lI l hl).2 i h1)
    refine List.mem_map.mpr ⟨x, List.mem_filter.mpr ⟨hx, ?_⟩, e⟩
    rw [e, h2]; rfl
  · intro h hh
    obtain ⟨h1, h2⟩ := List.mem_filter.mp hh
    show dropW P g.ways h.1 h.2 = _
    rw [dw (by simpa using h2)]
    exact o.wH h h1
  · intro m hm i hi
    obtain ⟨l, hl, rfl, _⟩ := mem m hm
    obtain ⟨h1, h2⟩ := kp hi
    obtain ⟨w, q1, q2⟩ := o.wL l hl i h1
    exact ⟨w, (dw h2).trans q1, (dw h2).trans q2⟩
  · intro i s w h
    have h' : dropW P g.ways i s = some w := h
    have hP : P i = false := by
      unfold dropW at h'
      split at h'
      · cases h'
      · rename_i q; simpa using q
    rw [dw hP] at h'
    rcases o.wD i s w h' with h | ⟨l, hl, rfl, hi⟩
    · exact .inl (List.mem_filter.mpr ⟨h, by rw [hP]; rfl⟩)
    · have hk : itemK P i l.tgt = true := by unfold itemK; rw [hP]; rfl
      exact .inr ⟨_, List.mem_filterMap.mpr ⟨l, hl, Ln.keep_of hi hk⟩, rfl, Ln.mem_kept.mpr ⟨hi, hk⟩⟩
  · intro j k l m i hj hk ht h1 h2
    obtain ⟨j1, j2⟩ := List.getElem?_eq_some_iff.mp hj
    obtain ⟨k1, k2⟩ := List.getElem?_eq_some_iff.mp hk
    rcases Nat.lt_trichotomy j k with q | q | q
    · exact absurd ⟨by rw [j2, k2]; exact ht, i, by rw [j2]; exact h1, by rw [k2]; exact h2⟩ (List.pairwise_iff_getElem.mp nd j k j1 k1 q)
    · exact q
    · exact absurd ⟨by rw [j2, k2]; exact ht.symm, i, by rw [k2]; exact h2, by rw [j2]; exact h1⟩ (List.pairwise_iff_getElem.mp nd k j k1 j1 q)
/-- a site goes where nothing is held -/
theorem GdOk.offSite {g : Gd} (o : GdOk g) {t : Str} (h : ∀ i, g.ways i t = none) (ne : ∀ l ∈ g.lines, l.it ≠ []) : GdOk { g with sites := g.sites.erase t } := by
  have keep : ∀ x ∈ g.sites, x ≠ t → x ∈ g.sites.erase t := fun x hx n => (List.mem_erase_of_ne n).mpr hx
  refine ⟨o.sN.sublist List.erase_sublist, o.hN, fun x hx => keep _ (o.hS x hx) fun e => ?_, o.lN, fun l hl => ?_, o.lI, o.wH, o.wL, o.wD, o.u⟩
  · have := o.wH x hx
    rw [e, h] at this
    cases this
  · obtain ⟨i, r, e⟩ : ∃ i r, l.it = i :: r := by
      cases q : l.it with
      | nil => exact absurd q (ne l hl)
      | cons i r => exact ⟨i, r, rfl⟩
    obtain ⟨w, h1, h2⟩ := o.wL l hl i (by rw [e]; exact List.mem_cons_self)
    obtain ⟨q1, q2, q3⟩ := o.lE l hl
    exact ⟨keep _ q1 (fun e => by rw [e, h] at h1; cases h1), keep _ q2 (fun e => by rw [e, h] at h2; cases h2), q3⟩
section
variable {CP CI CC : Addr} {H0 H H' : Hp} {s : PSt} {w : Ways}
/-- a seat goes -/
def PSt.unseat (s : PSt) (i : Str) : PSt := { s with seats := s.seats.filter fun x => !decide (x.nm = i) }
theorem kvS_drop (ss : List Seat) (i : Str) : kvS (ss.filter fun x => !decide (x.nm = i)) = dropK (kvS ss) (Sum.inr i) := by
  unfold kvS dropK
  rw [List.filter_map]
  refine congrArg (List.map _) (List.filter_congr fun x _ => ?_)
  show (!decide (x.nm = i)) = decide ((Sum.inr x.nm : L2.Key) ≠ Sum.inr i)
  by_cases q : x.nm = i
  · rw [decide_eq_true q]
    exact (decide_eq_false (p := (Sum.inr x.nm : L2.Key) ≠ Sum.inr i) fun h => h (by rw [q])).symm
  · rw [decide_eq_false q]
    exact (decide_eq_true (p := (Sum.inr x.nm : L2.Key) ≠ Sum.inr i) fun e => q (Sum.inr.inj e)).symm
theorem PlW.unseat (x : PlW CP CI CC H0 H s) (i : Str) : PlW CP CI CC H0 (upd H s.DS (.dK (dropK (kvS s.seats) (Sum.inr i)))) (s.unseat i) := by
  have sub : (((s.unseat i).tbl CP CI CC).map (·.1)).Sublist ((s.tbl CP CI CC).map (·.1)) := by
    unfold PSt.tbl
    rw [List.map_append, List.map_append, List.map_append, List.map_append]
    refine (List.Sublist.refl _).append (List.Sublist.append ?_ (List.Sublist.refl _))
    show ((seT CI s.p (s.seats.filter _)).map (·.1)).Sublist _
    unfold seT
    exact (List.filter_sublist.map _).map _
  have n5 := x.nd5
  simp only [List.nodup_cons, List.mem_cons, List.not_mem_nil, or_false, not_or, List.nodup_nil, not_false_eq_true, and_true] at n5
  obtain ⟨⟨n12, n13, n14, n15⟩, ⟨n23, n24, n25⟩, ⟨n34, n35⟩, n45⟩ := n5
  have hDSn : H0 s.DS = none := x.z0 (s.DS, .dK (kvS s.seats)) (List.mem_append_left _ (by simp))
  refine ⟨⟨fun z hz => ?_, x.x.nd.sublist sub, fun b o hb _ => ?_⟩, x.b, x.nl, x.ni, x.u, x.ne, fun z hz => ?_, x.kz, x.zl, Nat.le_trans (List.length_filter_le _ _) x.zs, x.zp, x.zi⟩
  · have hz : z ∈ ([(s.DB, .dT s.kvb), (s.DL, .dK (kvL s.lines)), (s.DS, .dK (kvS (s.seats.filter fun x => !decide (x.nm = i)))), (s.LP, .lst (s.places.map V.str)), (s.p, .ins CP s.dp s.F)] : List (Addr × HO)) ++ (seT CI s.p (s.seats.filter fun x => !decide (x.nm = i)) ++ chT CC s.lines) := hz
    rcases List.mem_append.mp hz with hz | hz
    · simp only [List.mem_cons, List.not_mem_nil, or_false] at hz
      rcases hz with rfl | rfl | rfl | rfl | rfl
      · rw [upd_ne n13]; exact x.hDB
      · rw [upd_ne n23]; exact x.hDL
      · rw [upd_same, kvS_drop]
      · rw [upd_ne (Ne.symm n34)]; exact x.hLP
      · rw [upd_ne (Ne.symm n35)]; exact x.hp
    · have hm : z ∈ seT CI s.p s.seats ++ chT CC s.lines := by
        rcases List.mem_append.mp hz with hz | hz
        · obtain ⟨d, hd, rfl⟩ := List.mem_map.mp hz
          exact List.mem_append_left _ (seT_mem (List.mem_filter.mp hd).1)
        · exact List.mem_append_right _ hz
      rw [upd_ne (Ne.symm (x.sep1 (by simp) ((List.mem_map (f := fun z : Addr × HO => z.1)).mpr ⟨z, hm, rfl⟩)))]
      exact x.x.at_ z (List.mem_append_right _ hm)
  · rw [upd_ne (fun e => by rw [e, hDSn] at hb; cases hb)]
    exact x.sj b o hb
  · obtain ⟨y, hy, e⟩ := List.mem_map.mp (sub.subset ((List.mem_map (f := fun z : Addr × HO => z.1)).mpr ⟨z, hz, rfl⟩))
    rw [← e]
    exact x.z0 y hy
/-- a site goes -/
def PSt.unplace (s : PSt) (t : Str) : PSt := { s with places := s.places.erase t }
theorem PlW.unplace (x : PlW CP CI CC H0 H s) (t : Str) : PlW CP CI CC H0 (upd H s.LP (.lst ((s.places.erase t).map V.str))) (s.unplace t) := by
  have z := x.x.set (o' := .lst ((s.places.erase t).map V.str)) 3 rfl
  exact ⟨z, x.b, x.nl, x.ni, x.u, x.ne, fun y hy => by
    have hm : y.1 ∈ ((s.unplace t).tbl CP CI CC).map (·.1) := List.mem_map.mpr ⟨y, hy, rfl⟩
    have e : ((s.unplace t).tbl CP CI CC).map (·.1) = (s.tbl CP CI CC).map (·.1) := rfl
    rw [e] at hm
    obtain ⟨y', hy', e'⟩ := List.mem_map.mp hm
    rw [← e']
    exact x.z0 y' hy', x.kz, x.zl, x.zs, Nat.le_trans List.length_erase_le x.zp, x.zi⟩
/-- the items of P go, with their copies -/
def PSt.off (s : PSt) (P : Str → Bool) : PSt := { s.keep (itemK P) with seats := s.seats.filter fun x => !P x.nm }
theorem PSt.off_g (s : PSt) (P : Str → Bool) (w : Ways) : (s.off P).g (dropW P w) = { s.g w with homes := (s.g w).homes.filter (fun h => !P h.1), lines := (s.g w).lines.filterMap (Ln.keep (itemK P)), ways := dropW P (s.g w).ways } := by
  have := s.keep_lns (itemK P)
  unfold PSt.lns at this
  unfold PSt.g PSt.off
  show Gd.mk s.places ((s.seats.filter fun x => !P x.nm).map fun i => (i.nm, i.st)) ((s.keep (itemK P)).lines.map (·.l)) _ = _
  rw [this]
  have e : ((s.seats.filter fun x => !P x.nm).map fun i => (i.nm, i.st)) = (s.seats.map fun i => (i.nm, i.st)).filter fun h => !P h.1 := by
    rw [List.filter_map]
    rfl
  rw [e]
theorem PlV.off (x : PlV CP CI CC H0 H s w) {J : Hp} {P : Str → Bool} (y : PlW CP CI CC J H' (s.off P)) : PlV CP CI CC J H' (s.off P) (dropW P w) := by
  refine ⟨y, ?_⟩
  rw [PSt.off_g]
  exact x.o.without P
theorem PSt.off_step (s : PSt) (P : Str → Bool) (i : Str) : ((s.off P).keep (noItem i)).unseat i = s.off fun j => P j || decide (j = i) := by
  have e1 : ((s.keep (itemK P)).keep (noItem i)) = s.keep (itemK fun j => P j || decide (j = i)) := by
    rw [PSt.keep_keep]
    refine congrArg s.keep (funext fun j => funext fun u => ?_)
    show (!P j && !decide (j = i)) = !(P j || decide (j = i))
    rw [Bool.not_or]
  have e2 : ((s.seats.filter fun x => !P x.nm).filter fun x => !decide (x.nm = i)) = s.seats.filter fun x => !(P x.nm || decide (x.nm = i)) := by
    rw [List.filter_filter]
    refine List.filter_congr fun x _ => ?_
    rw [Bool.not_or, Bool.and_comm]
  unfold PSt.unseat
  show PSt.mk _ _ _ _ _ _ _ ((s.seats.filter fun x => !P x.nm).filter _) ((s.keep (itemK P)).keep (noItem i)).lines ((s.keep (itemK P)).keep (noItem i)).kvb = _
  rw [e1, e2]
  rfl
end
end M

namespace M
open PySem PySem.Spec PyProof.Rows L2
local macro_rules | `(tactic| walk_at "go") => `(tactic| repeat (first | refine ⟨_, rfl, ?_⟩ | refine ⟨rfl, ?_⟩ | refine ⟨_, _, rfl, rfl, ?_⟩ | refine .inl ⟨_, rfl, ?_⟩ | refine .inr ⟨_, rfl, ?_⟩ | refine ⟨.inl ⟨rfl, _, SqL.of (by assumption)⟩, ?_⟩ | refine ⟨_, _, _, rfl, rfl, (by assumption), ?_⟩ | refine ⟨⟨by decide, by decide, by decide⟩, ?_⟩ | refine ⟨⟨by decide, by decide⟩, ?_⟩ | refine ⟨.inr ⟨by decide, by decide⟩, ?_⟩ | refine ⟨.inl ⟨by decide, by decide⟩, ?_⟩ | refine ⟨by decide, ?_⟩ | refine ⟨(by show (_ : Int) ≠ (0 : Int); decide), ?_⟩))
local macro_rules | `(tactic| walk_at "at") => `(tactic| first | assumption | (refine LS.at_ (by assumption) ?_; walk_at "at") | (refine Same.ap (by assumption) ?_; walk_at "at"))
def top (i : Nat) : Stmt := PySem.Challenge.pw_latebridges_k19_dropping_a_site.main.body.getD i (.Pass ⟨0, 0, 0, 0⟩)

/-! ### _law_draws -/
abbrev sDraws : Stmt := (top 34)
abbrev nDraws : List Str := ["_law_script", "_law_many", "_law_draws_here", "_law_cell", "_law_size", "_law_k", "_law_rest", "_law_draw"]
theorem scDraws : FnScope nDraws ["_law_script", "_law_many"] (defScope sDraws) := ⟨rfl, rfl, rfl, by decide +kernel, rfl, by decide +kernel, by decide +kernel⟩
def spDraws (K : PySem.W.Frag) : Sp := fun vs H Q _ => ∃ (a : Addr) (ns : List Int) (n : Nat), vs = [.ref a, .int n] ∧ SqL K H a (ns.map V.int) ∧ ns.length ≤ 63 ∧ n ≤ 1000 ∧
  ∀ (p : Addr) (ds : List Int) (H' : Hp), H p = none → Same H H' → H' p = some (.lst (ds.map V.int)) → ds.length = n → Dr ds → Q (.ref p) H'
section
variable {P : Program} {w : World} {K : PySem.W.Frag} {mg : Str → Option Value} {base : Heap}
theorem ok_draws {f : Addr} {fd : FuncData} (F : FnP K "_law_draws" sDraws f fd) (T : Bi mg) : FnOk P w K mg base (L2.CX P w) 1 f fd ["_law_script", "_law_many"] (spDraws K) := by
  refine F.ok scDraws (fun vs H Q E h => ?_) (fun cdv A outer s H vs Q E hr h => ?_)
  · obtain ⟨a, ns, n, rfl, _⟩ := h
    rfl
  · obtain ⟨a, ns, n, rfl, hS, hlen, hn, kQ⟩ := h
    have nd := scDraws.nd
    refine ⟨_, PSs.nox (pss_cons (ps_set (i := 2) nd rfl (Or.inl rfl) (pe_lst pa_nil))
      (pss_cons (ps_for PassesOwn.never rfl (pi_list (pv 0)) (pg_name (i := 3) nd rfl (Or.inl rfl)) (pss_cons (ps_set (i := 4) nd rfl (Or.inl rfl) (pe_callB call_abs (by rfl) T.abs (by decide +kernel) (pa_cons (pe_callTy call_int1 (by rfl) T.int (by decide +kernel) (pa_cons (pv 3) pa_nil)) pa_nil)))
        (pss_one (ps_if (pt_cmpR op_ge (pv 4) (pe_op op_pow pe_int pe_int) (nomark _)) (pss_one (ps_for PassesOwn.never rfl (pi_range1 (by rfl) T.range (pa_cons pe_int pa_nil)) (pg_name (i := 5) nd rfl (Or.inl rfl)) (pss_one (ps_if (pt_cmpR op_gt (pv 4) pe_int (nomark _)) (pss_cons (ps_expr (pe_bm PySem.F.plainAttrs_list PySem.F.slot_list_append PySem.F.type_list_append mt_append (pv 2) (pa_cons (pe_op op_modN (pe_callTy call_int1 (by rfl) T.int (by decide +kernel) (pa_cons (pv 4) pa_nil)) pe_int) pa_nil)))
              (pss_one (ps_set (i := 4) nd rfl (Or.inl rfl) (pe_op op_fdivN (pv 4) pe_int)))) pss_nil)))) (pss_cons (ps_set (i := 4) nd rfl (Or.inl rfl) (pe_op op_add (pv 4) (pe_op op_mul pe_int (pe_callTy call_int1 (by rfl) T.int (by decide +kernel) (pa_cons (pe_cmpR op_lt (pv 3) pe_int (nomark _)) pa_nil)))))
          (pss_one (ps_for PassesOwn.never rfl (pi_range1 (by rfl) T.range (pa_cons pe_int pa_nil)) (pg_name (i := 5) nd rfl (Or.inl rfl)) (pss_cons (ps_set (i := 4) nd rfl (Or.inl rfl) (pe_op op_modN (pe_callTy call_int1 (by rfl) T.int (by decide +kernel) (pa_cons (pe_op op_add (pe_op op_add (pe_op op_mul (pv 4) pe_int) (pe_op op_mul pe_int (pv 5))) pe_int) pa_nil)) pe_int))
            (pss_one (ps_expr (pe_bm PySem.F.plainAttrs_list PySem.F.slot_list_append PySem.F.type_list_append mt_append (pv 2) (pa_cons (pe_op op_modN (pe_callTy call_int1 (by rfl) T.int (by decide +kernel) (pa_cons (pe_op op_fdivN (pv 4) pe_int) pa_nil)) pe_int) pa_nil))))))))))))
      (pss_cons (ps_set (i := 6) nd rfl (Or.inl rfl) pe_int)
      (pss_cons (ps_for PassesOwn.never rfl (pi_list (pv 2)) (pg_name (i := 7) nd rfl (Or.inl rfl)) (pss_one (ps_set (i := 6) nd rfl (Or.inl rfl) (pe_op op_modN (pe_callTy call_int1 (by rfl) T.int (by decide +kernel) (pa_cons (pe_op op_add (pe_op op_mul (pv 6) pe_int) (pv 7)) pa_nil)) pe_int))))
      (pss_cons (ps_for PassesOwn.never rfl (pi_range1 (by rfl) T.range (pa_cons (pv 1) pa_nil)) (pg_name (i := 5) nd rfl (Or.inl rfl)) (pss_cons (ps_set (i := 6) nd rfl (Or.inl rfl) (pe_op op_modN (pe_callTy call_int1 (by rfl) T.int (by decide +kernel) (pa_cons (pe_op op_add (pe_op op_mul (pv 6) pe_int) (pe_op op_mul pe_int (pv 5))) pa_nil)) pe_int))
        (pss_one (ps_expr (pe_bm PySem.F.plainAttrs_list PySem.F.slot_list_append PySem.F.type_list_append mt_append (pv 2) (pa_cons (pe_op op_mul (pe_op op_modN (pe_callTy call_int1 (by rfl) T.int (by decide +kernel) (pa_cons (pe_op op_fdivN (pv 6) pe_int) pa_nil)) pe_int) (pe_callTy call_int1 (by rfl) T.int (by decide +kernel) (pa_cons (pe_cmpR op_gt (pe_callB call_len_seq (by rfl) T.len PySem.boot_len (pa_cons (pv 0) pa_nil)) pe_int (nomark _)) pa_nil))) pa_nil))))))
      (pss_cons (ps_set (i := 2) nd rfl (Or.inl rfl) (pe_slice sl_list (pv 2) po_none (po_some (pv 1))))
      (pss_cons (ps_expr (pe_bm0 PySem.F.plainAttrs_list PySem.F.slot_list_reverse PySem.F.type_list_reverse mt_reverse (pv 2)))
      (pss_one (ps_ret (pv 2)))))))))), ?_⟩
    walk_at "go"
    refine fun p np => ?_
    walk_at "go"
    refine ⟨⟨_, (Same.new (Same.refl H) np).seq hS⟩, for_list (K := K) (a := a) (xs := ns.map V.int)
      (fun i σ H1 => ∃ (ds : List Int) (c z k : Option V), σ = [some (.ref a), some (.int n), some (.ref p), c, z, k, none, none] ∧ Same H H1 ∧ H1 p = some (.lst (ds.map V.int)) ∧ Dr ds ∧ ds.length ≤ 45 * i)
      ⟨[], none, none, none, rfl, Same.new (Same.refl H) np, upd_same, Dr.nil, Nat.zero_le _⟩ (fun i σ H1 _ ⟨_, _, _, _, _, s1, _⟩ => s1.seq hS) ?_ ?_⟩
    · rintro i y σ H1 hi ⟨ds, c, z, k, rfl, s1, hp, hd, hl⟩
      have hil : i < ns.length := by
        have := lt_of_at hi
        rwa [List.length_map] at this
      obtain ⟨x, _, rfl⟩ := int_at hi
      walk_at "go"
      refine ite2 (fun _ => ?_) (fun hb => ?_)
      · refine ⟨_, rfl, by decide, by decide, for_range (n := 45) (fun j σ H2 => ∃ (ds : List Int) (z : Int) (k : Option V), σ = [some (.ref a), some (.int n), some (.ref p), some (.int x), some (.int z), k, none, none] ∧ Same H H2 ∧ H2 p = some (.lst (ds.map V.int)) ∧ Dr ds ∧ ds.length ≤ 45 * i + j)
          ⟨ds, _, k, rfl, s1, hp, hd, hl⟩ ?_ ?_⟩
        · rintro j σ H2 hj ⟨ds, z, k, rfl, s2, hp, hd, hl⟩
          walk_at "go"
          refine ite2 (fun _ => ?_) (fun _ => ?_)
          · walk_at "go"
            refine ⟨size_ok (m := 10000) (by rw [List.length_map]; omega) (by decide), ?_⟩
            walk_at "go"
            exact ⟨ds ++ [z.fmod 1000], _, _, rfl, s2.mut np, by rw [upd_same, List.map_append]; rfl, hd.snoc (fm_nonneg z (by decide)) (fm_lt z (by decide)), by rw [List.length_append, List.length_singleton]; omega⟩
          · exact ⟨ds, z, _, rfl, s2, hp, hd, by omega⟩
        · rintro σ H2 ⟨ds, z, k, rfl, s2, hp, hd, hl⟩
          exact ⟨ds, _, _, _, rfl, s2, hp, hd, by omega⟩
      · walk_at "go"
        refine for_range (n := 6) (fun j σ H2 => ∃ (ds : List Int) (z : Int) (k : Option V), σ = [some (.ref a), some (.int n), some (.ref p), some (.int x), some (.int z), k, none, none] ∧ Same H H2 ∧ H2 p = some (.lst (ds.map V.int)) ∧ Dr ds ∧ ds.length ≤ 45 * i + j)
          ⟨ds, _, k, rfl, s1, hp, hd, hl⟩ ?_ ?_
        · rintro j σ H2 hj ⟨ds, z, k, rfl, s2, hp, hd, hl⟩
          walk_at "go"
          refine ⟨size_ok (m := 10000) (by rw [List.length_map]; omega) (by decide), ?_⟩
          walk_at "go"
          exact ⟨ds ++ [_], _, _, rfl, s2.mut np, by rw [upd_same, List.map_append]; rfl, hd.snoc (fm_nonneg _ (by decide)) (fm_lt _ (by decide)), by rw [List.length_append, List.length_singleton]; omega⟩
        · rintro σ H2 ⟨ds, z, k, rfl, s2, hp, hd, hl⟩
          exact ⟨ds, _, _, _, rfl, s2, hp, hd, by omega⟩
    · rintro σ H1 ⟨ds, c, z, k, rfl, s1, hp, hd, hl⟩
      rw [List.length_map] at hl
      walk_at "go"
      refine ⟨⟨_, SqL.of hp⟩, for_list (K := K) (a := p) (xs := ds.map V.int)
        (fun i σ H2 => H2 = H1 ∧ ∃ (r : Int) (d : Option V), σ = [some (.ref a), some (.int n), some (.ref p), c, z, k, some (.int r), d])
        ⟨rfl, _, _, rfl⟩ (fun i σ H2 _ ⟨e, _⟩ => by rw [e]; exact SqL.of hp) ?_ ?_⟩
      · rintro i y σ H2 hi ⟨rfl, r, d, rfl⟩
        obtain ⟨x, _, rfl⟩ := int_at hi
        walk_at "go"
        exact ⟨_, _, rfl⟩
      · rintro σ H2 ⟨rfl, r, d, rfl⟩
        walk_at "go"
        refine ⟨by omega, by omega, for_range (n := n) (fun j σ H3 => ∃ (es : List Int) (k : Option V) (r : Int), σ = [some (.ref a), some (.int n), some (.ref p), c, z, k, some (.int r), d] ∧ Same H H3 ∧ H3 p = some (.lst (es.map V.int)) ∧ Dr es ∧ es.length = ds.length + j)
          ⟨ds, k, r, rfl, s1, hp, hd, rfl⟩ ?_ ?_⟩
        · rintro j σ H3 hj ⟨es, k, r, rfl, s3, hp, hd, hl3⟩
          walk_at "go"
          refine ⟨a, _, rfl, .inl (s3.seq hS), ?_⟩
          walk_at "go"
          generalize hz : ((((r * 16807 + 13 * (0 + (j : Int))).fmod 2147483647).fdiv 7).fmod 1000) = z
          have z0 : 0 ≤ z := by rw [← hz]; exact fm_nonneg _ (by decide)
          have z1 : z < 1000 := by rw [← hz]; exact fm_lt _ (by decide)
          generalize hb : (if decide ((0 : Int) < ((ns.map V.int).length : Int)) = true then (1 : Int) else 0) = b
          have b0 : b = 0 ∨ b = 1 := by
            rw [← hb]
            split
            · exact .inr rfl
            · exact .inl rfl
          have e0 : 0 ≤ z * b ∧ z * b < 1000 := by
            rcases b0 with e | e <;> rw [e] <;> omega
          refine ⟨.inl ⟨by omega, by omega⟩, ?_⟩
          walk_at "go"
          refine ⟨size_ok (m := 10000) (by rw [List.length_map]; omega) (by decide), ?_⟩
          exact ⟨es ++ [z * b], _, _, rfl, s3.mut np, by rw [upd_same, List.map_append]; rfl, hd.snoc e0.1 e0.2, by rw [List.length_append, List.length_singleton]; omega⟩
        · rintro σ H3 ⟨es, k, r, rfl, s3, hp, hd, hl3⟩
          walk_at "go"
          refine ⟨p, _, rfl, SqL.of hp, fun q nq => ?_⟩
          refine ⟨_, rfl, .inl ⟨rfl, _, SqL.of upd_same⟩, q, _, rfl, rfl, upd_same, ?_⟩
          refine ⟨_, rfl, ?_⟩
          have ec : cutV (es.map V.int) none (some (n : Int)) = (es.take n).map V.int := by
            rw [cut_to _ (by rw [List.length_map]; omega), List.map_take]
          refine kQ q (es.take n).reverse _ (s3.free nq) ?_ ?_ ?_ ?_
          · exact (s3.new nq).mut (s3.free nq)
          · rw [upd_same, ec, List.map_reverse]
          · rw [List.length_reverse, List.length_take]; omega
          · intro d hd'
            exact hd d (List.mem_of_mem_take (List.mem_reverse.mp hd'))
end

/-! ### _law_take -/
abbrev sTake : Stmt := (top 35)
theorem scTake : FnScope ["_law_draws_here", "_law_size"] ["_law_draws_here", "_law_size"] (defScope sTake) := ⟨rfl, rfl, rfl, by decide +kernel, rfl, by decide +kernel, by decide +kernel⟩
def spTake : Sp := fun vs H Q _ => ∃ (a : Addr) (ds : List Int) (m : Int), vs = [.ref a, .int m] ∧ H a = some (.lst (ds.map V.int)) ∧ Dr ds ∧ 0 < m ∧
  ∀ (d : Int) (ds' : List Int), 0 ≤ d → d < m → Dr ds' → ds'.length ≤ ds.length → Q (.int d) (upd H a (.lst (ds'.map V.int)))
section
variable {P : Program} {w : World} {K : PySem.W.Frag} {mg : Str → Option Value} {base : Heap}
theorem ok_take {f : Addr} {fd : FuncData} (F : FnP K "_law_take" sTake f fd) (T : Bi mg) : FnOk P w K mg base (L2.CX P w) 1 f fd ["_law_draws_here", "_law_size"] spTake := by
  refine F.ok scTake (fun vs H Q E h => ?_) (fun cdv A outer s H vs Q E hr h => ?_)
  · obtain ⟨a, ds, m, rfl, _⟩ := h
    rfl
  · obtain ⟨a, ds, m, rfl, ha, hd, hm, kQ⟩ := h
    have nd := scTake.nd
    refine ⟨_, PSs.nox (pss_cons (ps_if (pt_not (pt_truth (pv 0) (by intro _; rfl))) (pss_one (ps_ret pe_int)) pss_nil)
      (pss_one (ps_ret (pe_op op_modN (pe_callTy call_int1 (by rfl) T.int (by decide +kernel) (pa_cons (pe_bm0 PySem.F.plainAttrs_list PySem.F.slot_list_pop PySem.F.type_list_pop mt_pop (pv 0)) pa_nil)) (pv 1))))), ?_⟩
    refine ⟨_, rfl, !(ds.map V.int).isEmpty, .inl ⟨_, SqL.of ha, rfl⟩, ?_⟩
    cases ds with
    | nil =>
      refine iteT ?_
      have e : upd H a (.lst (([] : List Int).map V.int)) = H := by
        funext b
        unfold upd
        split
        · rename_i e; rw [e, ha]
        · rfl
      have z := kQ 0 [] (Int.le_refl 0) hm Dr.nil (Nat.le_refl _)
      rw [e] at z
      exact z
    | cons d0 ds =>
      refine iteF ?_
      obtain ⟨es, e, he⟩ : ∃ es e, d0 :: ds = es ++ [e] := ⟨(d0 :: ds).dropLast, (d0 :: ds).getLast (by simp), (List.dropLast_concat_getLast (by simp)).symm⟩
      rw [he] at ha hd kQ
      have hl : ((es ++ [e]).map V.int)[((es ++ [e]).map V.int).length - 1]? = some (.int e) := by
        rw [List.map_append, List.length_append, List.map_singleton, List.length_singleton, Nat.add_sub_cancel, List.getElem?_append_right (Nat.le_refl _), Nat.sub_self]
        rfl
      refine ⟨_, rfl, .inl ⟨rfl, _, SqL.of ha⟩, a, _, _, rfl, rfl, ha, hl, .inl ⟨_, rfl, _, rfl, _, _, rfl, rfl, Int.ne_of_gt hm, ?_⟩⟩
      have z := kQ (e.fmod m) es (fm_nonneg e hm) (fm_lt e hm) (fun x hx => hd x (List.mem_append_left _ hx)) (by rw [List.length_append]; exact Nat.le_add_right _ _)
      have ed : ((es ++ [e]).map V.int).dropLast = es.map V.int := by rw [List.map_append, List.map_singleton, List.dropLast_concat]
      rw [ed]
      exact z
end

/-! ### _law_names -/
abbrev sNames : Stmt := (top 36)
theorem scNames : FnScope ["_law_draw", "_law_many", "_law_letters", "_law_first", "_law_place", "_law_style", "_law_names_here", "_law_k", "_law_letter"] ["_law_draw", "_law_many"] (defScope sNames) := ⟨rfl, rfl, rfl, by decide +kernel, rfl, by decide +kernel, by decide +kernel⟩
def spNames : Sp := fun vs H Q _ => ∃ (d n : Nat), vs = [.int d, .int n] ∧ d < 1000 ∧ n ≤ 26 ∧
  ∀ (p : Addr) (H' : Hp), H p = none → Same H H' → H' p = some (.lst ((nmL d n).map V.str)) → Q (.ref p) H'
theorem abc_at {c : Nat} (h : c < 26) : atI ("abcdefghijklmnopqrstuvwxyz" : Str).cps.toList (c : Int) = some (97 + c) := by
  refine atI_nat ?_
  have e : ("abcdefghijklmnopqrstuvwxyz" : Str).cps.toList = (List.range 26).map (97 + ·) := by decide +kernel
  rw [e, List.getElem?_map, List.getElem?_range h]
  rfl
theorem q_to {c : Nat} (h : c < 7) : cutS ("qqqqqq" : Str) none (some (c : Int)) = ⟨(List.replicate c 113).toArray⟩ := by
  match c, h with
  | 0, _ => decide +kernel
  | 1, _ => decide +kernel
  | 2, _ => decide +kernel
  | 3, _ => decide +kernel
  | 4, _ => decide +kernel
  | 5, _ => decide +kernel
  | 6, _ => decide +kernel
theorem q_from {c : Nat} (h : c < 7) : cutS ("qqqqqq" : Str) (some (c : Int)) none = ⟨(List.replicate (6 - c) 113).toArray⟩ := by
  match c, h with
  | 0, _ => decide +kernel
  | 1, _ => decide +kernel
  | 2, _ => decide +kernel
  | 3, _ => decide +kernel
  | 4, _ => decide +kernel
  | 5, _ => decide +kernel
  | 6, _ => decide +kernel
theorem z_to {c : Nat} (h : c < 8) : cutS ("zyxwvuts" : Str) none (some (c : Int)) = ⟨(tailZ.take c).toArray⟩ := by
  match c, h with
  | 0, _ => decide +kernel
  | 1, _ => decide +kernel
  | 2, _ => decide +kernel
  | 3, _ => decide +kernel
  | 4, _ => decide +kernel
  | 5, _ => decide +kernel
  | 6, _ => decide +kernel
  | 7, _ => decide +kernel
theorem str_app (a b : List Nat) : (⟨a.toArray⟩ : Str) ++ ⟨b.toArray⟩ = ⟨(a ++ b).toArray⟩ := by
  show (⟨a.toArray ++ b.toArray⟩ : Str) = _
  rw [List.append_toArray]
theorem str_assoc (a b c : Str) : (a ++ b) ++ c = a ++ (b ++ c) := by
  show (⟨(a.cps ++ b.cps) ++ c.cps⟩ : Str) = ⟨a.cps ++ (b.cps ++ c.cps)⟩
  rw [Array.append_assoc]
theorem nmL_snoc (d n j : Nat) : ((List.range (j + 1)).map (nm d n)).map V.str = ((List.range j).map (nm d n)).map V.str ++ [.str (nm d n j)] := by
  rw [List.range_succ, List.map_append, List.map_append]
  rfl
section
variable {P : Program} {w : World} {K : PySem.W.Frag} {mg : Str → Option Value} {base : Heap}
theorem ok_names {f : Addr} {fd : FuncData} (F : FnP K "_law_names" sNames f fd) (T : Bi mg) : FnOk P w K mg base (L2.CX P w) 1 f fd ["_law_draw", "_law_many"] spNames := by
  refine F.ok scNames (fun vs H Q E h => ?_) (fun cdv A outer s H vs Q E hr h => ?_)
  · obtain ⟨d, n, rfl, _⟩ := h
    rfl
  · obtain ⟨d, n, rfl, hd, hn, kQ⟩ := h
    have nd := scNames.nd
    refine ⟨_, PSs.nox (pss_cons (ps_set (i := 2) nd rfl (Or.inl rfl) pe_str)
      (pss_cons (ps_set (i := 3) nd rfl (Or.inl rfl) (pe_op op_modN (pe_callTy call_int1 (by rfl) T.int (by decide +kernel) (pa_cons (pe_op op_fdivN (pv 0) pe_int) pa_nil)) pe_int))
      (pss_cons (ps_set (i := 4) nd rfl (Or.inl rfl) (pe_op op_modN (pe_callTy call_int1 (by rfl) T.int (by decide +kernel) (pa_cons (pe_op op_fdivN (pv 0) pe_int) pa_nil)) pe_int))
      (pss_cons (ps_set (i := 5) nd rfl (Or.inl rfl) (pe_op op_modN (pe_callTy call_int1 (by rfl) T.int (by decide +kernel) (pa_cons (pv 0) pa_nil)) pe_int))
      (pss_cons (ps_set (i := 6) nd rfl (Or.inl rfl) (pe_lst pa_nil))
      (pss_cons (ps_for PassesOwn.never rfl (pi_range1 (by rfl) T.range (pa_cons (pv 1) pa_nil)) (pg_name (i := 7) nd rfl (Or.inl rfl)) (pss_cons (ps_set (i := 8) nd rfl (Or.inl rfl) (pe_ix ix_str (pv 2) (pe_op op_modN (pe_callTy call_int1 (by rfl) T.int (by decide +kernel) (pa_cons (pe_op op_add (pv 3) (pe_op op_mul pe_int (pv 7))) pa_nil)) pe_int) (fun _ _ => rfl)))
        (pss_one (ps_if (pt_cmpR op_eq (pv 5) pe_int (nomark _)) (pss_one (ps_expr (pe_bm PySem.F.plainAttrs_list PySem.F.slot_list_append PySem.F.type_list_append mt_append (pv 6) (pa_cons (pv 8) pa_nil)))) (pss_one (ps_if (pt_cmpR op_eq (pv 5) pe_int (nomark _)) (pss_one (ps_expr (pe_bm PySem.F.plainAttrs_list PySem.F.slot_list_append PySem.F.type_list_append mt_append (pv 6) (pa_cons (pe_op op_add_str (pe_op op_add_str (pe_slice sl_str pe_str po_none (po_some (pv 4))) (pv 8)) (pe_slice sl_str pe_str (po_some (pv 4)) po_none)) pa_nil)))) (pss_one (ps_if (pt_cmpR op_eq (pv 5) pe_int (nomark _)) (pss_one (ps_expr (pe_bm PySem.F.plainAttrs_list PySem.F.slot_list_append PySem.F.type_list_append mt_append (pv 6) (pa_cons (pe_op op_mul_str (pe_ix ix_str (pv 2) (pv 3) (fun _ _ => rfl)) (pe_op op_sub (pv 1) (pv 7))) pa_nil)))) (pss_one (ps_expr (pe_bm PySem.F.plainAttrs_list PySem.F.slot_list_append PySem.F.type_list_append mt_append (pv 6) (pa_cons (pe_op op_add_str (pv 8) (pe_slice sl_str pe_str po_none (po_some (pe_op op_modN (pe_callTy call_int1 (by rfl) T.int (by decide +kernel) (pa_cons (pe_op op_add (pv 0) (pe_op op_mul pe_int (pv 7))) pa_nil)) pe_int)))) pa_nil))))))))))))
      (pss_one (ps_ret (pv 6))))))))), ?_⟩
    have f1 : ((d : Int).fdiv 4).fmod 26 = ((d / 4 % 26 : Nat) : Int) := by
      rw [Int.fdiv_eq_ediv_of_nonneg _ (by decide), Int.fmod_eq_emod_of_nonneg _ (by decide)]; omega
    have f2 : ((d : Int).fdiv 104).fmod 7 = ((d / 104 % 7 : Nat) : Int) := by
      rw [Int.fdiv_eq_ediv_of_nonneg _ (by decide), Int.fmod_eq_emod_of_nonneg _ (by decide)]; omega
    have f3 : (d : Int).fmod 4 = ((d % 4 : Nat) : Int) := by
      rw [Int.fmod_eq_emod_of_nonneg _ (by decide)]; omega
    walk_at "go"
    refine fun p np => ?_
    walk_at "go"
    refine ⟨by omega, by omega, for_range (n := n) (fun j σ H1 => ∃ (F G S : Int) (k l : Option V), σ = [some (.int d), some (.int n), some (.str "abcdefghijklmnopqrstuvwxyz"), some (.int F), some (.int G), some (.int S), some (.ref p), k, l] ∧ F = ((d / 4 % 26 : Nat) : Int) ∧ G = ((d / 104 % 7 : Nat) : Int) ∧ S = ((d % 4 : Nat) : Int) ∧
        Same H H1 ∧ H1 p = some (.lst (((List.range j).map (nm d n)).map V.str)))
      ⟨_, _, _, none, none, rfl, f1, f2, f3, (Same.refl H).new np, upd_same⟩ ?_ ?_⟩
    · rintro j σ H1 hj ⟨F, G, S, k, l, rfl, eF, eG, eS, s1, hp⟩
      have hsz : (((List.range j).map (nm d n)).map V.str).length < sizeLine := by
        rw [List.length_map, List.length_map, List.length_range]
        exact size_ok (m := 30) (by omega) (by decide)
      have hL : (F + 7 * (0 + (j : Int))).fmod 26 = (((d / 4 % 26 + 7 * j) % 26 : Nat) : Int) := by
        rw [Int.fmod_eq_emod_of_nonneg _ (by decide), eF]; omega
      have z26 : ("abcdefghijklmnopqrstuvwxyz" : Str).length ≤ sizeLine := by rw [sizeLine_eq]; decide +kernel
      have z6 : ("qqqqqq" : Str).length ≤ sizeLine := by rw [sizeLine_eq]; decide +kernel
      have z8 : ("zyxwvuts" : Str).length ≤ sizeLine := by rw [sizeLine_eq]; decide +kernel
      walk_at "go"
      refine ⟨_, _, 97 + (d / 4 % 26 + 7 * j) % 26, rfl, rfl, z26, ?_, ?_⟩
      · rw [hL]; exact abc_at (Nat.mod_lt _ (by decide))
      have eN : ∀ o, nmC d n j = o → nm d n j = ⟨o.toArray⟩ := fun o e => by rw [← e]; rfl
      walk_at "go"
      refine ite2 (fun c => ?_) (fun c => ?_)
      · have c0 : d % 4 = 0 := by
          have := of_decide_eq_true c
          have e := V.int.inj this
          omega
        walk_at "go"
        refine ⟨hsz, F, G, S, _, _, rfl, eF, eG, eS, s1.mut np, ?_⟩
        rw [upd_same, nmL_snoc, eN [ltr d j] (by unfold nmC; rw [if_pos c0])]
        rfl
      · have c0 : ¬ d % 4 = 0 := fun e => c (decide_eq_true (by rw [eS, e]; rfl))
        walk_at "go"
        refine ite2 (fun c => ?_) (fun c => ?_)
        · have c1 : d % 4 = 1 := by
            have := of_decide_eq_true c
            have e := V.int.inj this
            omega
          walk_at "go"
          rw [eG, q_to (Nat.mod_lt _ (by decide))]
          refine ⟨by rw [sizeLine_eq]; show (List.replicate _ _).toArray.size + 1 ≤ _; simp; omega, ?_⟩
          walk_at "go"
          rw [q_from (Nat.mod_lt _ (by decide))]
          walk_at "go"
          refine ⟨by rw [sizeLine_eq]; show ((List.replicate _ _).toArray ++ #[_]).size + (List.replicate _ _).toArray.size ≤ _; simp; omega, ?_⟩
          refine ⟨p, _, _, rfl, rfl, hp, hsz, F, _, S, _, _, rfl, eF, rfl, eS, s1.mut np, ?_⟩
          rw [upd_same, nmL_snoc, eN (List.replicate (d / 104 % 7) 113 ++ ([ltr d j] ++ List.replicate (6 - d / 104 % 7) 113)) (by unfold nmC; rw [if_neg c0, if_pos c1]), ← str_app, ← str_app, ← str_assoc]
          rfl
        · have c1 : ¬ d % 4 = 1 := fun e => c (decide_eq_true (by rw [eS, e]; rfl))
          walk_at "go"
          refine ite2 (fun c => ?_) (fun c => ?_)
          · have c2 : d % 4 = 2 := by
              have := of_decide_eq_true c
              have e := V.int.inj this
              omega
            walk_at "go"
            refine ⟨_, _, 97 + d / 4 % 26, rfl, rfl, z26, ?_, ?_⟩
            · rw [eF]; exact abc_at (Nat.mod_lt _ (by decide))
            walk_at "go"
            refine ⟨⟨by omega, by omega⟩, ?_⟩
            refine ⟨p, _, _, rfl, rfl, hp, hsz, F, G, S, _, _, rfl, eF, eG, eS, s1.mut np, ?_⟩
            rw [upd_same, nmL_snoc, eN (List.replicate (n - j) (97 + d / 4 % 26)) (by unfold nmC; rw [if_neg c0, if_neg c1, if_pos c2])]
            have e : ((n : Int) - (0 + (j : Int))).toNat = n - j := by omega
            rw [← e]
          · have c2 : ¬ d % 4 = 2 := fun e => c (decide_eq_true (by rw [eS, e]; rfl))
            walk_at "go"
            have e8 : ((d : Int) + 3 * (0 + (j : Int))).fmod 8 = (((d + 3 * j) % 8 : Nat) : Int) := by
              rw [Int.fmod_eq_emod_of_nonneg _ (by decide)]; omega
            rw [e8, z_to (Nat.mod_lt _ (by decide))]
            refine ⟨by rw [sizeLine_eq]; show 1 + (List.take _ tailZ).toArray.size ≤ _; simp [tailZ]; omega, ?_⟩
            refine ⟨p, _, _, rfl, rfl, hp, hsz, F, G, S, _, _, rfl, eF, eG, eS, s1.mut np, ?_⟩
            rw [upd_same, nmL_snoc, eN (ltr d j :: tailZ.take ((d + 3 * j) % 8)) (by unfold nmC; rw [if_neg c0, if_neg c1, if_neg c2]), show (ltr d j :: tailZ.take ((d + 3 * j) % 8)) = [ltr d j] ++ tailZ.take ((d + 3 * j) % 8) from rfl, ← str_app]
            rfl
    · rintro σ H1 ⟨F, G, S, k, l, rfl, eF, eG, eS, s1, hp⟩
      walk_at "go"
      exact kQ p _ np s1 hp
end

/-! ### _law_carry -/
abbrev sCa : Stmt := (top 37)
theorem scCa : FnScope ["_law_draws_here", "_law_goods", "_law_lines", "_law_ways", "_law_draw", "_law_row", "_law_able", "_law_item"] ["_law_draws_here", "_law_goods", "_law_lines", "_law_ways"] (defScope sCa) := ⟨rfl, rfl, rfl, by decide +kernel, rfl, by decide +kernel, by decide +kernel⟩
def spCa : Sp := fun vs H Q _ => ∃ (H0 : Hp) (p G L W : Addr) (as : List Addr) (ds : List Int) (kvs : List (List L2.Key × V)) (rws : List V) (g : Gd), vs = [.ref p, .ref G, .ref L, .ref W] ∧ Gr H0 H p W as ds kvs rws g ∧ Dr ds ∧ GdOk g ∧ kvs.length ≤ 200 ∧ g.lines.length ≤ 100 ∧ g.goods.length ≤ 100 ∧
  cut H (p :: W :: as) G = some (.lst (g.goods.map V.str)) ∧ cut H (p :: W :: as) L = some (.lst rws) ∧ (∀ l ∈ g.lines, KindOk l.kd) ∧
  ∀ H' ds' kvs' g', Gr H0 H' p W as ds' kvs' rws g' → Same (cut H (p :: W :: as)) (cut H' (p :: W :: as)) → Dr ds' → GdOk g' → kvs'.length ≤ kvs.length + 1 → g'.sites = g.sites → g'.homes = g.homes → g'.lines.map (·.nm) = g.lines.map (·.nm) → (∀ l ∈ g'.lines, KindOk l.kd) → Q .non H'
section
variable {P : Program} {w : World} {K : PySem.W.Frag} {mg : Str → Option Value} {base : Heap}
theorem ok_ca {f : Addr} {fd : FuncData} (F : FnP K "_law_carry" sCa f fd) (T : Bj mg) (g_take : Cal P w K mg base 1 "_law_take" ["_law_draws_here", "_law_size"] spTake) :
    FnOk P w K mg base (L2.CX P w) 2 f fd ["_law_draws_here", "_law_goods", "_law_lines", "_law_ways"] spCa := by
  refine F.ok scCa (fun vs H Q E h => ?_) (fun cdv A outer s H vs Q E hr h => ?_)
  · obtain ⟨H0, p, G, L, W, as, ds, kvs, rws, g, rfl, _⟩ := h
    rfl
  · obtain ⟨H0, p, G, L, W, as, ds, kvs, rws, g, rfl, gr, hd, ok, hkl, hll, hgl, hG, hL, hkd, kQ⟩ := h
    have nd := scCa.nd
    have hu := hu_of hr
    refine ⟨_, (pss_one (ps_if (pt_truth (pv 2) (by intro _; rfl)) (pss_cons (ps_set (i := 4) nd rfl (Or.inl rfl) (pe_cal g_take hr takes0 (pa_cons (pv 0) (pa_cons pe_int pa_nil))))
        (pss_cons (ps_set (i := 5) nd rfl (Or.inr rfl) (pe_ix ix_list (pv 2) (pe_op op_modN (pe_callTy call_int1 (by rfl) T.int (by decide +kernel) (pa_cons (pv 4) pa_nil)) (pe_callB call_len_seq (by rfl) T.len PySem.boot_len (pa_cons (pv 2) pa_nil))) (fun _ _ => rfl)))
        (pss_cons (ps_setLc (i := 6) (own := [("_law_item", 7)]) (g := gName 7) (by rfl) nd rfl rfl (sw_true rfl rfl rfl (by decide +kernel)) (pi_list (pv 1)) (blkOk_by (own := [("_law_item", 7)]) (N := ["_law_draws_here", "_law_goods", "_law_lines", "_law_ways", "_law_draw", "_law_row", "_law_able", "_law_item"]) (sc := defScope sCa) (by decide +kernel)) (fun _ _ _ _ _ => (pg_name (i := 7) nd rfl (Or.inl rfl))) (fun _ _ _ _ _ => (pts_one (PW.pt (pw_and (pt_cmp (pc_din hu (pe_tup (pa_cons (pv 7) (pa_cons (pe_ix (show IxR _ (rIxL K) from ix_list) (pv 5) pe_int (fun _ _ => rfl)) pa_nil))) (pv 3))) (pw_and1 (pt_cmp (pc_dnotin hu (pe_tup (pa_cons (pv 7) (pa_cons (pe_ix (show IxR _ (rIxL K) from ix_list) (pv 5) pe_int (fun _ _ => rfl)) pa_nil))) (pv 3)))))))) (fun _ _ _ _ _ => (pv 7)))
        (pss_one (ps_if (pt_truth (pv 6) (by intro _; rfl)) (pss_cons (ps_set (i := 7) nd rfl (Or.inl rfl) (pe_ix ix_list (pv 6) (pe_op op_modN (pe_callTy call_int1 (by rfl) T.int (by decide +kernel) (pa_cons (pe_op op_fdivN (pv 4) pe_int) pa_nil)) (pe_callB call_len_seq (by rfl) T.len PySem.boot_len (pa_cons (pv 6) pa_nil))) (fun _ _ => rfl)))
          (pss_cons (ps_expr (pe_bm PySem.F.plainAttrs_list PySem.F.slot_list_append PySem.F.type_list_append mt_append (pe_ix ix_list (pv 5) pe_int (fun _ _ => rfl)) (pa_cons (pv 7) pa_nil)))
          (pss_one (ps_dput hu (pv 3) (pe_tup (pa_cons (pv 7) (pa_cons (pe_ix ix_list (pv 5) pe_int (fun _ _ => rfl)) pa_nil))) (pe_op op_cat (pe_dget hu (pv 3) (pe_tup (pa_cons (pv 7) (pa_cons (pe_ix ix_list (pv 5) pe_int (fun _ _ => rfl)) pa_nil))) (fun _ _ => rfl)) (pe_lst (pa_cons (pe_ix ix_list (pv 5) pe_int (fun _ _ => rfl)) pa_nil))) rfl)))) pss_nil))))) pss_nil)), ?_⟩
    have hrl := gr.r.rl
    refine ⟨_, rfl, !rws.isEmpty, .inl ⟨_, SqL.of (cut_all _ _ hL), rfl⟩, ?_⟩
    by_cases hne : rws = []
    · have e0 : (!rws.isEmpty) = false := by rw [hne]; rfl
      rw [e0]
      exact iteF (kQ H ds kvs g gr (Same.refl _) hd ok (by omega) rfl rfl rfl hkd)
    have e0 : (!rws.isEmpty) = true := by cases rws with
      | nil => exact absurd rfl hne
      | cons _ _ => rfl
    rw [e0]
    refine iteT ?_
    have hpos : 0 < rws.length := List.length_pos_iff.mpr hne
    refine ⟨_, rfl, p, ds, 1000, rfl, gr.hp, hd, by decide, fun d ds2 d0 d1 hd2 _ => ?_⟩
    have gr1 := gr.draw ds2
    have sc1 : cut (upd H p (.lst (ds2.map V.int))) (p :: W :: as) = cut H (p :: W :: as) := cut_upd (by simp)
    have hG1 := hG; have hL1 := hL
    rw [← sc1] at hG1 hL1 kQ
    clear gr hG hL sc1
    generalize upd H p (.lst (ds2.map V.int)) = H1 at *
    obtain ⟨k, hk⟩ := Int.eq_ofNat_of_zero_le (fm_nonneg d (m := (rws.length : Int)) (by omega))
    have hkl' : k < rws.length := by have := fm_lt d (m := (rws.length : Int)) (by omega); omega
    obtain ⟨l, hl⟩ : ∃ l, g.lines[k]? = some l := ⟨_, List.getElem?_eq_getElem (by omega)⟩
    obtain ⟨a, ha⟩ : ∃ a, as[k]? = some a := ⟨_, List.getElem?_eq_getElem (by rw [gr1.r.al]; omega)⟩
    obtain ⟨r, hr1, hr2⟩ := gr1.r.at_ k l a hl ha
    refine ⟨_, rfl, _, rfl, .inl ⟨_, rfl, ?_⟩⟩
    refine ⟨_, rfl, L, _, rfl, .inl (SqL.of (cut_all _ _ hL1)), _, _, rfl, rfl, (by omega), L, _, _, .ref r, rfl, rfl, SqL.of (cut_all _ _ hL1), by rw [hk]; exact atI_nat hr1, ?_⟩
    have hr3 := cut_all _ _ hr2
    refine ⟨_, rfl, G, rfl, ⟨_, SqL.of (cut_all _ _ hG1)⟩, fun D nD => ?_⟩
    refine lc_list (K := K) (a := G) (xs := g.goods.map V.str) (fun i H2 => Same H1 H2 ∧ H2 D = some (.lst (((g.goods.take i).filter (able g.ways l)).map V.str))) ⟨(Same.refl _).new nD, upd_same⟩
      (fun i H2 _ ⟨s2, _⟩ => SqL.of (s2 _ _ (cut_all _ _ hG1))) ?_ ?_
    · rintro i y H2 hi ⟨s2, hD2⟩
      obtain ⟨q, hq, rfl⟩ : ∃ q, g.goods[i]? = some q ∧ y = .str q := by
        rw [List.getElem?_map] at hi
        cases e : g.goods[i]? with
        | none => rw [e] at hi; cases hi
        | some x => rw [e] at hi; exact ⟨x, rfl, (Option.some.inj hi).symm⟩
      have il := (List.getElem?_eq_some_iff.mp hq).1
      have eT : g.goods.take (i + 1) = g.goods.take i ++ [q] := by rw [List.take_add_one, hq]; rfl
      have gr2 := gr1.same s2
      refine ⟨rfl, ?_⟩
      refine ⟨_, rfl, _, rfl, r, _, _, _, rfl, rfl, SqL.of (s2 _ _ hr3), (show atI (rwV l a) 1 = some (.str l.src) from rfl), (show 2 ≤ sizeLine by decide), fun T1 n1 => ?_⟩
      have gr3 := gr2.same ((Same.refl _).new (o := .tup [V.str q, .str l.src]) n1)
      have s3 := s2.new (o := .tup [V.str q, .str l.src]) n1
      refine ⟨_, rfl, W, _, rfl, DGet.t (k := k2 q l.src) gr3.hW upd_same, ?_⟩
      have hD3 : (upd H2 T1 (.tup [V.str q, .str l.src])) D = some (.lst (((g.goods.take i).filter (able g.ways l)).map V.str)) := (Same.refl _).new n1 _ _ hD2
      generalize upd H2 T1 (.tup [V.str q, .str l.src]) = H3 at *
      rw [gr3.w.isSome]
      have hab : able g.ways l q = ((g.ways q l.src).isSome && !(g.ways q l.tgt).isSome) := rfl
      have no : able g.ways l q = false → (((g.goods.take (i + 1)).filter (able g.ways l)).map V.str) = (((g.goods.take i).filter (able g.ways l)).map V.str) := fun e => by
        rw [eT, filter_snoc, e, if_neg (by decide), List.append_nil]
      cases c1 : (g.ways q l.src).isSome with
      | false =>
        refine ⟨_, rfl, iteF (iteF ⟨s3, ?_⟩)⟩
        rw [no (by rw [hab, c1]; rfl)]
        exact hD3
      | true =>
        refine ⟨_, rfl, iteT ?_⟩
        refine ⟨_, rfl, _, rfl, r, _, _, _, rfl, rfl, SqL.of (s3 _ _ hr3), (show atI (rwV l a) 2 = some (.str l.tgt) from rfl), (show 2 ≤ sizeLine by decide), fun T2 n2 => ?_⟩
        have gr4 := gr3.same ((Same.refl _).new (o := .tup [V.str q, .str l.tgt]) n2)
        have s4 := s3.new (o := .tup [V.str q, .str l.tgt]) n2
        refine ⟨_, rfl, W, _, rfl, DGet.t (k := k2 q l.tgt) gr4.hW upd_same, ?_⟩
        have hD4 : (upd H3 T2 (.tup [V.str q, .str l.tgt])) D = some (.lst (((g.goods.take i).filter (able g.ways l)).map V.str)) := (Same.refl _).new n2 _ _ hD3
        generalize upd H3 T2 (.tup [V.str q, .str l.tgt]) = H4 at *
        rw [gr4.w.isSome]
        cases c2 : (g.ways q l.tgt).isSome with
        | true =>
          refine ⟨_, rfl, iteF ⟨s4, ?_⟩⟩
          rw [no (by rw [hab, c1, c2]; rfl)]
          exact hD4
        | false =>
          refine ⟨_, rfl, iteT ⟨_, rfl, _, hD4, ?_, s4.mut nD, ?_⟩⟩
          · rw [List.length_map]
            have := List.length_filter_le (able g.ways l) (g.goods.take i)
            rw [List.length_take] at this
            exact size_ok (m := 1000) (by omega) (by decide)
          · rw [upd_same, eT, filter_snoc, if_pos (by rw [hab, c1, c2]; rfl), List.map_append]
            rfl
    · rintro H2 ⟨s2, hD2⟩
      rw [List.length_map, List.take_length] at hD2
      generalize hab : g.goods.filter (able g.ways l) = ab at hD2
      have gr2 := gr1.same s2
      refine ⟨_, rfl, !(ab.map V.str).isEmpty, .inl ⟨_, SqL.of hD2, rfl⟩, ?_⟩
      by_cases hne2 : ab = []
      · have e0 : (!(ab.map V.str).isEmpty) = false := by rw [hne2]; rfl
        rw [e0]
        exact iteF (kQ H2 ds2 kvs g gr2 (cut_same s2) hd2 ok (by omega) rfl rfl rfl hkd)
      have e0 : (!(ab.map V.str).isEmpty) = true := by cases ab with
        | nil => exact absurd rfl hne2
        | cons _ _ => rfl
      rw [e0]
      refine iteT ?_
      have hpos2 : 0 < ab.length := List.length_pos_iff.mpr hne2
      obtain ⟨j, hj, hjl⟩ := drawn (d := d.fdiv 8) hpos2
      obtain ⟨q, hq⟩ : ∃ q, ab[j]? = some q := ⟨_, List.getElem?_eq_getElem hjl⟩
      have qm : q ∈ g.goods ∧ able g.ways l q = true := List.mem_filter.mp (by rw [hab]; exact List.mem_of_getElem? hq)
      obtain ⟨wq, hwq⟩ : ∃ w, g.ways q l.src = some w := by
        have := (Bool.and_eq_true_iff.mp qm.2).1
        exact Option.isSome_iff_exists.mp this
      have hwn : g.ways q l.tgt = none := by
        have := (Bool.and_eq_true_iff.mp qm.2).2
        cases e : g.ways q l.tgt with
        | none => rfl
        | some _ => rw [e] at this; cases this
      refine ⟨_, rfl, _, rfl, _, _, rfl, rfl, ⟨by decide, by decide⟩, .inl ⟨_, rfl, ?_⟩⟩
      refine ⟨_, rfl, D, _, rfl, .inl (SqL.of hD2), _, _, rfl, rfl, (by rw [List.length_map]; omega), D, _, _, .str q, rfl, rfl, SqL.of hD2, by rw [List.length_map, hj]; exact atI_nat (by rw [List.getElem?_map, hq]; rfl), ?_⟩
      have ha2 := gr2.ha ha hl
      have hr4 := s2 _ _ hr3
      refine ⟨_, rfl, r, _, _, _, rfl, rfl, SqL.of hr4, (show atI (rwV l a) 3 = some (.ref a) from rfl), .inl ⟨rfl, _, SqL.of ha2⟩, _, rfl, a, _, _, rfl, rfl, ha2, ?_, ?_⟩
      · rw [List.length_map]
        have := ok.itLen (List.mem_of_getElem? hl)
        exact size_ok (m := 1000) (by omega) (by decide)
      have am : a ∈ p :: W :: as := by simp [List.mem_of_getElem? ha]
      have gr5 := gr2.item ha hl q
      have e5 : l.it.map V.str ++ [V.str q] = (l.more q).it.map V.str := by simp [Ln.more]
      rw [e5]
      have sc5 : Same (cut H1 (p :: W :: as)) (cut (upd H2 a (.lst ((l.more q).it.map V.str))) (p :: W :: as)) := by rw [cut_upd am]; exact cut_same s2
      generalize upd H2 a (.lst ((l.more q).it.map V.str)) = H5 at *
      clear hr4 ha2 gr2
      have rr : ∀ {H' : Hp}, Same H5 H' → H' r = some (.lst (rwV l a)) := fun s => s _ _ (cut_all _ _ (sc5 _ _ hr2))
      refine ⟨_, rfl, _, rfl, _, rfl, r, _, _, _, rfl, rfl, SqL.of (rr (Same.refl _)), (show atI (rwV l a) 1 = some (.str l.src) from rfl), (show 2 ≤ sizeLine by decide), fun T1 n1 => ?_⟩
      have s6 : Same H5 (upd H5 T1 (.tup [V.str q, .str l.src])) := (Same.refl _).new n1
      have gr6 := gr5.same s6
      obtain ⟨wa, hwa1, hwa2⟩ := gr6.w.some_ q l.src wq hwq
      refine ⟨W, .ref wa, rfl, by have z := DGet.t (k := k2 q l.src) gr6.hW upd_same; rw [hwa1] at z; exact z, ?_⟩
      have hwl := ok.wayLen hwq
      generalize upd H5 T1 (.tup [V.str q, .str l.src]) = H6 at *
      refine ⟨_, rfl, r, _, _, _, rfl, rfl, SqL.of (rr s6), (show atI (rwV l a) 0 = some (.str l.nm) from rfl), (show 1 ≤ sizeLine by decide), fun N1 m1 => ?_⟩
      have s7 := s6.new (o := .lst [V.str l.nm]) m1
      have gr7 := gr6.same ((Same.refl _).new (o := .lst [V.str l.nm]) m1)
      have hwa3 : (upd H6 N1 (.lst [V.str l.nm])) wa = some (.lst (wq.map V.str)) := (Same.refl _).new m1 _ _ (cut_all _ _ hwa2)
      refine ⟨wa, N1, _, _, rfl, rfl, hwa3, upd_same, ?_, fun N2 m2 => ?_⟩
      · rw [List.length_map]
        exact Nat.le_of_lt (size_ok (m := 1000) (by simp; omega) (by decide))
      generalize upd H6 N1 (.lst [V.str l.nm]) = H7 at *
      have s8 := s7.new (o := .lst (wq.map V.str ++ [V.str l.nm])) m2
      have gr8 := gr7.same ((Same.refl _).new (o := .lst (wq.map V.str ++ [V.str l.nm])) m2)
      have hN2 : cut (upd H7 N2 (.lst (wq.map V.str ++ [V.str l.nm]))) (p :: W :: as) N2 = some (.lst ((wq ++ [l.nm]).map V.str)) := by
        rw [cut_out (gr7.out m2), upd_same, List.map_append]
        rfl
      generalize upd H7 N2 (.lst (wq.map V.str ++ [V.str l.nm])) = H8 at *
      refine ⟨_, rfl, _, rfl, _, rfl, r, _, _, _, rfl, rfl, SqL.of (rr s8), (show atI (rwV l a) 2 = some (.str l.tgt) from rfl), (show 2 ≤ sizeLine by decide), fun T2 n2 => ?_⟩
      have s9 := s8.new (o := .tup [V.str q, .str l.tgt]) n2
      have z9 : Same H8 (upd H8 T2 (.tup [V.str q, .str l.tgt])) := (Same.refl _).new n2
      have gr9 := gr8.same z9
      refine ⟨W, _, rfl, DPut.t (k := k2 q l.tgt) gr9.hW upd_same (size_ok (m := 1000) (by omega) (by decide)), ?_⟩
      have gr10 := gr9.way (i := q) (s := l.tgt) (cut_same z9 _ _ hN2)
      refine kQ _ ds2 _ (g.carry k l q wq) gr10 ?_ hd2 (ok.carry hl qm.1 hwq hwn) (putK_len _ _ _) rfl rfl (map_set_same (fun x : Ln => x.nm) hl rfl) fun m hm => ?_
      · rw [cut_upd (by simp)]
        exact sc5.trans (cut_same s9)
      · rcases mem_set_of hm with rfl | hm
        · exact hkd l (List.mem_of_getElem? hl)
        · exact hkd m hm
end

/-! ### _law_rows -/
abbrev sRo : Stmt := (top 38)
theorem scRo : FnScope ["_law_draws_here", "_law_most", "_law_kinds", "_law_many", "_law_sites", "_law_goods", "_law_homes", "_law_item", "_law_names_here", "_law_lines", "_law_k", "_law_draw", "_law_source", "_law_target", "_law_ways", "_law_home", "_law_channels", "_law_row"] ["_law_draws_here", "_law_most", "_law_kinds"] (defScope sRo) := ⟨rfl, rfl, rfl, by decide +kernel, rfl, by decide +kernel, by decide +kernel⟩
def spRo (K : PySem.W.Frag) : Sp := fun vs H Q _ => ∃ (p M KL : Addr) (ds : List Int) (m0 m1 m2 m3 : Nat) (ks : List (Option Str)), vs = [.ref p, .ref M, .ref KL] ∧ H p = some (.lst (ds.map V.int)) ∧ Dr ds ∧ SqT K H M [.int m0, .int m1, .int m2, .int m3] ∧ 1 ≤ m0 ∧ m0 ≤ 8 ∧ m1 ≤ 8 ∧ m2 ≤ 8 ∧ m3 ≤ 30 ∧
  SqL K H KL (ks.map kindV) ∧ ks ≠ [] ∧ (∀ k ∈ ks, KindOk k) ∧ KL ≠ p ∧ M ≠ p ∧
  ∀ (H' : Hp) (ds' : List Int) (T S HM CH W : Addr) (as : List Addr) (kvs : List (List L2.Key × V)) (g : Gd), (∀ b o, H b = some o → b ≠ p → H' b = some o) → H' p = some (.lst (ds'.map V.int)) → Dr ds' → GdA H' T S HM CH W as kvs g → H T = none → H S = none → H HM = none → H CH = none → H W = none → (∀ a ∈ as, H a = none ∧ a ≠ p) →
    GdOk g → GdNm g → (∀ l ∈ g.lines, l.it ≠ []) → 1 ≤ g.sites.length → g.sites.length ≤ m0 → g.goods.length ≤ m1 → g.lines.length ≤ m2 → kvs.length ≤ 100 → WyS (cut H' (p :: as)) kvs g.ways → Q (.ref T) H'
section
variable {P : Program} {w : World} {K : PySem.W.Frag} {mg : Str → Option Value} {base : Heap}
theorem ok_ro {f : Addr} {fd : FuncData} (F : FnP K "_law_rows" sRo f fd) (T : Bj mg) (g_take : Cal P w K mg base 1 "_law_take" ["_law_draws_here", "_law_size"] spTake) (g_names : Cal P w K mg base 1 "_law_names" ["_law_draw", "_law_many"] spNames)
    (g_carry : Cal P w K mg base 2 "_law_carry" ["_law_draws_here", "_law_goods", "_law_lines", "_law_ways"] spCa) :
    FnOk P w K mg base (L2.CX P w) 3 f fd ["_law_draws_here", "_law_most", "_law_kinds"] (spRo K) := by
  refine F.ok scRo (fun vs H Q E h => ?_) (fun cdv A outer s H vs Q E hr h => ?_)
  · obtain ⟨p, M, KL, ds, m0, m1, m2, m3, ks, rfl, _⟩ := h
    rfl
  · obtain ⟨p, Mo, KL, ds, m0, m1, m2, m3, ks, rfl, hp, hd, hM, h0, h00, h1, h2, h3, hKL, hks, hkk, nKL, nM, kQ⟩ := h
    have nd := scRo.nd
    have hu := hu_of hr
    refine ⟨_, (pss_cons (ps_set (i := 3) nd rfl (Or.inl rfl) (pe_op op_add pe_int (pe_cal g_take hr takes0 (pa_cons (pv 0) (pa_cons (pe_ix ix_tup (pv 1) pe_int (fun _ _ => rfl)) pa_nil)))))
      (pss_cons (ps_set (i := 4) nd rfl (Or.inl rfl) (pe_cal g_names hr takes0 (pa_cons (pe_cal g_take hr takes0 (pa_cons (pv 0) (pa_cons pe_int pa_nil))) (pa_cons (pv 3) pa_nil))))
      (pss_cons (ps_set (i := 5) nd rfl (Or.inl rfl) (pe_cal g_names hr takes0 (pa_cons (pe_cal g_take hr takes0 (pa_cons (pv 0) (pa_cons pe_int pa_nil))) (pa_cons (pe_cal g_take hr takes0 (pa_cons (pv 0) (pa_cons (pe_op op_add (pe_ix ix_tup (pv 1) pe_int (fun _ _ => rfl)) pe_int) pa_nil))) pa_nil))))
      (pss_cons (ps_set (i := 6) nd rfl (Or.inl rfl) (pe_lst pa_nil))
      (pss_cons (ps_for (passes_of rfl) rfl (pi_list (pv 5)) (pg_name (i := 7) nd rfl (Or.inl rfl)) (pss_one (ps_expr (pe_bm PySem.F.plainAttrs_list PySem.F.slot_list_append PySem.F.type_list_append mt_append (pv 6) (pa_cons (pe_tup (pa_cons (pv 7) (pa_cons (pe_ix ix_list (pv 4) (pe_cal g_take hr takes0 (pa_cons (pv 0) (pa_cons (pv 3) pa_nil))) (fun _ _ => rfl)) pa_nil))) pa_nil)))))
      (pss_cons (ps_set (i := 8) nd rfl (Or.inl rfl) (pe_cal g_names hr takes0 (pa_cons (pe_cal g_take hr takes0 (pa_cons (pv 0) (pa_cons pe_int pa_nil))) (pa_cons (pe_ix ix_tup (pv 1) pe_int (fun _ _ => rfl)) pa_nil))))
      (pss_cons (ps_set (i := 9) nd rfl (Or.inl rfl) (pe_lst pa_nil))
      (pss_cons (ps_for (passes_of rfl) rfl (pi_range1 (by rfl) T.range (pa_cons (pe_cal g_take hr takes0 (pa_cons (pv 0) (pa_cons (pe_op op_add (pe_ix ix_tup (pv 1) pe_int (fun _ _ => rfl)) pe_int) pa_nil))) pa_nil)) (pg_name (i := 10) nd rfl (Or.inl rfl)) (pss_cons (ps_set (i := 11) nd rfl (Or.inl rfl) (pe_cal g_take hr takes0 (pa_cons (pv 0) (pa_cons pe_int pa_nil))))
        (pss_cons (ps_set (i := 12) nd rfl (Or.inl rfl) (pe_op op_modN (pe_callTy call_int1 (by rfl) T.int (by decide +kernel) (pa_cons (pv 11) pa_nil)) (pv 3)))
        (pss_cons (ps_set (i := 13) nd rfl (Or.inl rfl) (pe_op op_modN (pe_callTy call_int1 (by rfl) T.int (by decide +kernel) (pa_cons (pe_op op_add (pe_op op_add (pv 12) pe_int) (pe_op op_fdivN (pv 11) pe_int)) pa_nil)) (pv 3)))
        (pss_one (ps_if (pt_cmpR op_ne (pv 12) (pv 13) (nomark _)) (pss_one (ps_expr (pe_bm PySem.F.plainAttrs_list PySem.F.slot_list_append PySem.F.type_list_append mt_append (pv 9) (pa_cons (pe_lst (pa_cons (pe_ix ix_list (pv 8) (pv 10) (fun _ _ => rfl)) (pa_cons (pe_ix ix_list (pv 4) (pv 12) (fun _ _ => rfl)) (pa_cons (pe_ix ix_list (pv 4) (pv 13) (fun _ _ => rfl)) (pa_cons (pe_lst pa_nil) (pa_cons (pe_ix ix_list (pv 2) (pe_op op_modN (pe_callTy call_int1 (by rfl) T.int (by decide +kernel) (pa_cons (pe_op op_fdivN (pv 11) pe_int) pa_nil)) (pe_callB call_len_seq (by rfl) T.len PySem.boot_len (pa_cons (pv 2) pa_nil))) (fun _ _ => rfl)) pa_nil)))))) pa_nil)))) pss_nil))))))
      (pss_cons (ps_set (i := 14) nd rfl (Or.inl rfl) pe_dnewT)
      (pss_cons (ps_for (passes_of rfl) rfl (pi_list (pv 6)) (pg_tup rfl (pgs_cons (pg_name (i := 7) nd rfl (Or.inl rfl)) (pgs_cons (pg_name (i := 15) nd rfl (Or.inl rfl)) pgs_nil))) (pss_one (ps_dput hu (pv 14) (pe_tup (pa_cons (pv 7) (pa_cons (pv 15) pa_nil))) (pe_lst pa_nil) rfl)))
      (pss_cons (ps_for (passes_of rfl) rfl (pi_range1 (by rfl) T.range (pa_cons (pe_ix ix_tup (pv 1) pe_int (fun _ _ => rfl)) pa_nil)) (pg_name (i := 10) nd rfl (Or.inl rfl)) (pss_one (ps_expr (pe_cal g_carry hr takes0 (pa_cons (pv 0) (pa_cons (pv 5) (pa_cons (pv 9) (pa_cons (pv 14) pa_nil))))))))
      (pss_cons (ps_setLc (i := 16) (own := [("_law_row", 17)]) (g := gName 17) (by rfl) nd rfl rfl (sw_true rfl rfl rfl (by decide +kernel)) (pi_list (pv 9)) (blkOk_by (own := [("_law_row", 17)]) (N := ["_law_draws_here", "_law_most", "_law_kinds", "_law_many", "_law_sites", "_law_goods", "_law_homes", "_law_item", "_law_names_here", "_law_lines", "_law_k", "_law_draw", "_law_source", "_law_target", "_law_ways", "_law_home", "_law_channels", "_law_row"]) (sc := defScope sRo) (by decide +kernel)) (fun _ _ _ _ _ => (pg_name (i := 17) nd rfl (Or.inl rfl))) (fun _ _ _ _ _ => (pts_one (show PT _ _ (tTruK K _) from (pt_truth (pe_ix (show IxR _ (rIxL K) from ix_list) (pv 17) pe_int (fun _ _ => rfl)) (by intro _; rfl))))) (fun _ _ _ _ _ => (pe_tup (pa_cons (pe_ix (show IxR _ (rIxL K) from ix_list) (pv 17) pe_int (fun _ _ => rfl)) (pa_cons (pe_ix (show IxR _ (rIxL K) from ix_list) (pv 17) pe_int (fun _ _ => rfl)) (pa_cons (pe_ix (show IxR _ (rIxL K) from ix_list) (pv 17) pe_int (fun _ _ => rfl)) (pa_cons (pe_ix (show IxR _ (rIxL K) from ix_list) (pv 17) pe_int (fun _ _ => rfl)) (pa_cons (pe_ix (show IxR _ (rIxL K) from ix_list) (pv 17) pe_int (fun _ _ => rfl)) pa_nil))))))))
      (pss_one (ps_ret (pe_tup (pa_cons (pv 4) (pa_cons (pv 6) (pa_cons (pv 16) (pa_cons (pv 14) pa_nil))))))))))))))))))), ?_⟩
    refine ⟨_, rfl, _, rfl, Mo, _, _, _, rfl, rfl, hM, (show atI [V.int (m0 : Nat), .int (m1 : Nat), .int (m2 : Nat), .int (m3 : Nat)] 0 = some (.int (m0 : Nat)) from rfl), p, ds, m0, rfl, hp, hd, by omega, fun d1 ds1 d10 d11 hd1 _ => ?_⟩
    obtain ⟨c1, rfl⟩ := Int.eq_ofNat_of_zero_le d10
    have en1 : ∀ z : Nat, (1 : Int) + (z : Int) = ((1 + z : Nat) : Int) := fun z => by omega
    refine ⟨_, _, rfl, rfl, ?_⟩
    dsimp only
    rw [en1]
    generalize hmany : 1 + c1 = many at *
    have hmany1 : 1 ≤ many ∧ many ≤ m0 := by omega
    -- sites
    refine ⟨_, rfl, p, ds1, 1000, rfl, upd_same, hd1, by decide, fun d2 ds2 d20 d21 hd2 _ => ?_⟩
    obtain ⟨c2, rfl⟩ := Int.eq_ofNat_of_zero_le d20
    refine ⟨_, rfl, c2, many, rfl, by omega, by omega, fun S H1 nS sS hS => ?_⟩
    have x1 : Hx H H1 [(p, .lst (ds2.map V.int))] := by
      refine ⟨fun z hz => ?_, List.pairwise_singleton _ _, fun c o hc nc => ?_⟩
      · rw [List.mem_singleton.mp hz]
        exact sS _ _ upd_same
      · have ne : c ≠ p := Ne.symm (nc _ List.mem_cons_self)
        exact sS _ _ (by rw [upd_ne ne, upd_ne ne]; exact hc)
    have H0S : H S = none := by
      cases q : H S with
      | none => rfl
      | some o =>
        have ne : S ≠ p := fun e => by rw [e, upd_same] at nS; cases nS
        rw [upd_ne ne, upd_ne ne, q] at nS
        cases nS
    have x2 := x1.own hS fun z hz => by
      rw [List.mem_singleton.mp hz]
      exact fun e => by
        have e' : p = S := e
        rw [← e', upd_same] at nS
        cases nS
    clear x1 sS nS hS
    have lS : (nmL c2 many).length = many := nmL_len _ _
    have okS : ∀ x ∈ nmL c2 many, NameOk x ∧ PyData.strOk x = true := fun x hx => ⟨nmL_mem_ok (by omega) hx, nmL_ok x hx⟩
    have gnS : ∀ x ∈ nmL c2 many, Gen x := fun x hx => gen_mem hx
    have ndS : (nmL c2 many).Nodup := nmL_nodup (by omega)
    generalize nmL c2 many = sites at *
    -- goods
    refine ⟨_, rfl, p, ds2, 1000, rfl, x2.get 1 rfl, hd2, by decide, fun d3 ds3 d30 d31 hd3 _ => ?_⟩
    obtain ⟨c3, rfl⟩ := Int.eq_ofNat_of_zero_le d30
    have x3 := x2.set (o' := .lst (ds3.map V.int)) 1 rfl
    clear x2
    have kM : ∀ {H' : Hp} {l : List (Addr × HO)}, Hx H H' l → (∀ z ∈ l, z.1 = p ∨ H z.1 = none) → SqT K H' Mo [V.int (m0 : Nat), .int (m1 : Nat), .int (m2 : Nat), .int (m3 : Nat)] := fun {H' l} x n => by
      refine same_t2 (fun o => ?_) hM
      intro e
      refine x.fr _ _ e fun z hz q => ?_
      rcases n z hz with h | h
      · exact nM (by rw [← q, h])
      · rw [q, e] at h; cases h
    refine ⟨_, rfl, _, rfl, Mo, _, _, _, rfl, rfl, kM x3 (by simp [H0S]), (show atI [V.int (m0 : Nat), .int (m1 : Nat), .int (m2 : Nat), .int (m3 : Nat)] 1 = some (.int (m1 : Nat)) from rfl), _, _, rfl, rfl, p, ds3, _, rfl, x3.get 1 rfl, hd3, by omega, fun d4 ds4 d40 d41 hd4 _ => ?_⟩
    obtain ⟨c4, rfl⟩ := Int.eq_ofNat_of_zero_le d40
    have x4 := x3.set (o' := .lst (ds4.map V.int)) 1 rfl
    clear x3
    refine ⟨c3, c4, rfl, by omega, by omega, fun G H2 nG sG hG => ?_⟩
    have H0G : H G = none := by
      have := x4.fresh nG
      exact this
    have x5 := (x4.same sG).own hG fun z hz => ne_of_none (x4.at_ z hz) nG
    clear x4 sG nG hG
    have lG : (nmL c3 c4).length = c4 := nmL_len _ _
    have okG : ∀ x ∈ nmL c3 c4, NameOk x ∧ PyData.strOk x = true := fun x hx => ⟨nmL_mem_ok (by omega) hx, nmL_ok x hx⟩
    have gnG : ∀ x ∈ nmL c3 c4, Gen x := fun x hx => gen_mem hx
    have ndG : (nmL c3 c4).Nodup := nmL_nodup (by omega)
    generalize nmL c3 c4 = goods at *
    -- homes
    walk_at "go"
    refine fun HM nHM => ?_
    have x6 := x5.push (o := .lst []) nHM
    have H0HM := x5.fresh nHM
    clear x5
    refine ⟨_, rfl, G, rfl, ⟨_, SqL.of (x6.get 1 rfl)⟩, ?_⟩
    refine for_list (K := K) (a := G) (xs := goods.map V.str) (fun j σ H3 => ∃ (ds : List Int) (hv : List V) (homes : List (Str × Str)) (u7 : Option V), σ = [some (.ref p), some (.ref Mo), some (.ref KL), some (.int (many : Nat)), some (.ref S), some (.ref G), some (.ref HM), u7, none, none, none, none, none, none, none, none, none, none] ∧
        Hx H H3 [(HM, .lst hv), (G, .lst (goods.map V.str)), (S, .lst (sites.map V.str)), (p, .lst (ds.map V.int))] ∧ Dr ds ∧ Pw (PsA (cut H3 [HM, G, S, p])) hv homes ∧ homes.map (·.1) = goods.take j ∧ ∀ h ∈ homes, h.2 ∈ sites)
      ⟨ds4, [], [], none, rfl, x6, hd4, Pw.nil, by rw [List.take_zero]; rfl, fun _ h => by cases h⟩ (fun j σ H3 _ ⟨_, _, _, _, _, x, _⟩ => SqL.of (x.get 1 rfl)) ?_ ?_
    · rintro j y σ H3 hj ⟨ds, hv, homes, u7, rfl, x7, hdr, pw, hh1, hh2⟩
      obtain ⟨q, hq, rfl⟩ := at_map hj
      have jl := (List.getElem?_eq_some_iff.mp hq).1
      refine ⟨_, rfl, .inl ⟨rfl, _, SqL.of (x7.get 0 rfl)⟩, ?_⟩
      refine ⟨_, rfl, _, rfl, _, rfl, _, rfl, p, ds, many, rfl, x7.get 3 rfl, hdr, by omega, fun d ds' d0 dl hdr' _ => ?_⟩
      obtain ⟨c, rfl⟩ := Int.eq_ofNat_of_zero_le d0
      have cl : c < sites.length := by omega
      have x8 := x7.set (o' := .lst (ds'.map V.int)) 3 rfl
      have pw8 := pw
      rw [← cut_upd (H := H3) (a := p) (o := .lst (ds'.map V.int)) (by simp)] at pw8
      generalize upd H3 p (.lst (ds'.map V.int)) = H4 at *
      have sm : sites[c] ∈ sites := List.getElem_mem cl
      refine ⟨S, _, _, .str sites[c], rfl, rfl, SqL.of (x8.get 2 rfl), atI_nat (by rw [List.getElem?_map, List.getElem?_eq_getElem cl]; rfl), (show 2 ≤ sizeLine by decide), fun T1 n1 => ?_⟩
      have x9 := x8.new (o := .tup [V.str q, .str sites[c]]) n1
      refine ⟨HM, _, _, rfl, rfl, x9.get 0 rfl, ?_, ?_⟩
      · have := pw.len
        have h2 := congrArg List.length hh1
        rw [List.length_map, List.length_take] at h2
        exact size_ok (m := 1000) (by omega) (by decide)
      have x10 := x9.set (o' := .lst (hv ++ [.ref T1])) 0 rfl
      refine ⟨ds', hv ++ [V.ref T1], homes ++ [(q, sites[c])], _, rfl, x10, hdr', ?_, ?_, fun h hm => ?_⟩
      · rw [cut_upd (by simp)]
        refine (pw8.mono fun v x => stPs _ _ v x (cut_same ((Same.refl _).new n1))).snoc ⟨T1, rfl, ?_⟩
        rw [cut_out (A := [HM, G, S, p]) (x8.out n1), upd_same]
      · rw [List.map_append, hh1, take_snoc hq]
        rfl
      · rcases List.mem_append.mp hm with hm | hm
        · exact hh2 h hm
        · rw [List.mem_singleton.mp hm]; exact sm
    · rintro σ H3 ⟨ds, hv, homes, u7, rfl, x7, hdr, pw, hh1, hh2⟩
      rw [List.length_map, List.take_length] at hh1
      clear x6
      -- the channels' names
      refine ⟨_, rfl, p, ds, 1000, rfl, x7.get 3 rfl, hdr, by decide, fun d5 ds5 d50 d51 hd5 _ => ?_⟩
      obtain ⟨c5, rfl⟩ := Int.eq_ofNat_of_zero_le d50
      have x8 := x7.set (o' := .lst (ds5.map V.int)) 3 rfl
      have pw8 := pw
      rw [← cut_upd (H := H3) (a := p) (o := .lst (ds5.map V.int)) (by simp)] at pw8
      refine ⟨_, rfl, Mo, _, _, _, rfl, rfl, kM x8 (by simp [H0S, H0G, H0HM]), (show atI [V.int (m0 : Nat), .int (m1 : Nat), .int (m2 : Nat), .int (m3 : Nat)] 2 = some (.int (m2 : Nat)) from rfl), c5, m2, rfl, by omega, by omega, fun N H4 nN sN hN => ?_⟩
      have H0N := x8.fresh nN
      have x9 := (x8.same sN).own hN fun z hz => ne_of_none (x8.at_ z hz) nN
      have pw9 := pw8.mono fun v x => stPs _ _ v x (cut_grow sN nN)
      clear x8 pw8 x7 pw sN nN hN
      have lN : (nmL c5 m2).length = m2 := nmL_len _ _
      have okN : ∀ x ∈ nmL c5 m2, NameOk x ∧ PyData.strOk x = true := fun x hx => ⟨nmL_mem_ok (by omega) hx, nmL_ok x hx⟩
      have gnN : ∀ x ∈ nmL c5 m2, Gen x := fun x hx => gen_mem hx
      have ndN : (nmL c5 m2).Nodup := nmL_nodup (by omega)
      generalize nmL c5 m2 = names at *
      -- the lines
      walk_at "go"
      refine fun L nL => ?_
      have H0L := x9.fresh nL
      have pw10 := pw9.mono fun v x => stPs _ _ v x (cut_push (o := .lst []) nL)
      have x10 := x9.push (o := .lst []) nL
      clear x9 pw9
      generalize upd H4 L (.lst []) = H5 at *
      refine ⟨_, rfl, _, rfl, Mo, _, _, _, rfl, rfl, kM x10 (by simp [H0S, H0G, H0HM, H0N, H0L]), (show atI [V.int (m0 : Nat), .int (m1 : Nat), .int (m2 : Nat), .int (m3 : Nat)] 2 = some (.int (m2 : Nat)) from rfl), _, _, rfl, rfl, p, ds5, _, rfl, x10.get 5 rfl, hd5, by omega, fun d6 ds6 d60 d61 hd6 _ => ?_⟩
      obtain ⟨n6, rfl⟩ := Int.eq_ofNat_of_zero_le d60
      have x11 := x10.set (o' := .lst (ds6.map V.int)) 5 rfl
      have pw11 := pw10
      rw [← cut_upd (H := H5) (a := p) (o := .lst (ds6.map V.int)) (by simp)] at pw11
      clear x10 pw10
      generalize upd H5 p (.lst (ds6.map V.int)) = H6 at *
      have kL : ∀ {H' : Hp} {l : List (Addr × HO)}, Hx H H' l → (∀ z ∈ l, z.1 = p ∨ H z.1 = none) → SqL K H' KL (ks.map kindV) := fun {H' l} x n => by
        refine same_l2 (fun o => ?_) hKL
        intro e
        refine x.fr _ _ e fun z hz q => ?_
        rcases n z hz with h | h
        · exact nKL (by rw [← q, h])
        · rw [q, e] at h; cases h
      refine ⟨n6, rfl, by omega, by omega, ?_⟩
      refine for_range (n := n6) (fun k σ H7 => ∃ (ds : List Int) (rws : List V) (as : List Addr) (lines : List Ln) (u10 u11 u12 u13 : Option V), σ = [some (.ref p), some (.ref Mo), some (.ref KL), some (.int (many : Nat)), some (.ref S), some (.ref G), some (.ref HM), u7, some (.ref N), some (.ref L), u10, u11, u12, u13, none, none, none, none] ∧
          Hx H H7 [(L, .lst rws), (N, .lst (names.map V.str)), (HM, .lst hv), (G, .lst (goods.map V.str)), (S, .lst (sites.map V.str)), (p, .lst (ds.map V.int))] ∧ Dr ds ∧ Pw (PsA (cut H7 [L, N, HM, G, S, p])) hv homes ∧
          RwS (cut H7 [L, N, HM, G, S, p]) as rws lines ∧ (∀ a ∈ as, cut H7 [L, N, HM, G, S, p] a = some (.lst []) ∧ H a = none) ∧ as.Nodup ∧ Ln0 sites (names.take k) lines ∧ lines.length ≤ k)
        ⟨ds6, [], [], [], none, none, none, none, rfl, x11, hd6, pw11, ⟨rfl, rfl, fun _ _ _ h => by cases h⟩, (fun _ h => by cases h), List.nodup_nil, ⟨fun _ h => (by cases h), List.nodup_nil⟩, Nat.le_refl _⟩ ?_ ?_
      · rintro k σ H7 hk ⟨ds, rws, as, lines, u10, u11, u12, u13, rfl, x12, hdr, pw12, rs, has, hnd, hl0, hll⟩
        refine ⟨_, rfl, p, ds, 1000, rfl, x12.get 5 rfl, hdr, by decide, fun d ds' d0 dl hdr' _ => ?_⟩
        have x13 := x12.set (o' := .lst (ds'.map V.int)) 5 rfl
        have pw13 := pw12
        have rs13 := rs
        have has13 := has
        rw [← cut_upd (H := H7) (a := p) (o := .lst (ds'.map V.int)) (by simp)] at pw13 rs13
        rw [← cut_upd (H := H7) (a := p) (o := .lst (ds'.map V.int)) (A := [L, N, HM, G, S, p]) (by simp)] at has13
        generalize upd H7 p (.lst (ds'.map V.int)) = H8 at *
        clear x12 pw12 rs has
        obtain ⟨cs, hcs, hcl⟩ := drawn (d := d) (n := many) (by omega)
        refine ⟨_, rfl, .inl ⟨_, rfl, ?_⟩⟩
        refine ⟨_, rfl, _, _, rfl, rfl, (by omega), ?_⟩
        dsimp only
        rw [hcs]
        obtain ⟨ct, hct, hctl⟩ := drawn (d := ((cs : Int) + 1) + d.fdiv 8) (n := many) (by omega)
        refine ⟨_, rfl, _, _, rfl, rfl, _, rfl, _, _, rfl, rfl, ⟨by decide, by decide⟩, _, _, rfl, rfl, .inl ⟨_, rfl, _, rfl, _, _, rfl, rfl, (by omega), ?_⟩⟩
        dsimp only
        rw [hct]
        refine ⟨_, rfl, _, rfl, rfl, _, rfl, ?_⟩
        refine ite2 (fun c => ?_) (fun _ => ?_)
        · have hne : cs ≠ ct := fun e => by rw [e] at c; simp at c
          have kn : k < names.length := by omega
          refine ⟨_, rfl, .inl ⟨rfl, _, SqL.of (x13.get 0 rfl)⟩, ?_⟩
          refine ⟨_, rfl, _, rfl, N, _, _, .str names[k], rfl, rfl, SqL.of (x13.get 1 rfl), by rw [Int.zero_add]; exact atI_nat (by rw [List.getElem?_map, List.getElem?_eq_getElem kn]; rfl), ?_⟩
          refine ⟨_, rfl, _, rfl, S, _, _, .str (sites[cs]'(by omega)), rfl, rfl, SqL.of (x13.get 4 rfl), atI_nat (by rw [List.getElem?_map, List.getElem?_eq_getElem (by omega)]; rfl), ?_⟩
          refine ⟨_, rfl, _, rfl, S, _, _, .str (sites[ct]'(by omega)), rfl, rfl, SqL.of (x13.get 4 rfl), atI_nat (by rw [List.getElem?_map, List.getElem?_eq_getElem (by omega)]; rfl), ?_⟩
          refine ⟨(show 0 ≤ sizeLine by decide), fun A nA => ?_⟩
          have x14 := x13.new (o := .lst []) nA
          have H0A := x13.fresh nA
          have oA := x13.out nA
          have sA : Same H8 (upd H8 A (.lst [])) := (Same.refl _).new nA
          have cA : cut (upd H8 A (.lst [])) [L, N, HM, G, S, p] A = some (.lst []) := by rw [cut_out (A := [L, N, HM, G, S, p]) oA, upd_same]
          have nas : A ∉ as := fun h => by
            have := cut_all _ _ (has13 A h).1
            rw [nA] at this
            cases this
          generalize upd H8 A (.lst []) = H9 at *
          obtain ⟨ck, hck, hckl⟩ := drawn (d := d.fdiv 64) (n := ks.length) (List.length_pos_iff.mpr hks)
          have kkm : ks[ck] ∈ ks := List.getElem_mem hckl
          have hkL := kL x14 (by simp [H0S, H0G, H0HM, H0N, H0L])
          refine ⟨_, rfl, _, rfl, _, _, rfl, rfl, ⟨by decide, by decide⟩, .inl ⟨_, rfl, ?_⟩⟩
          refine ⟨_, rfl, KL, _, rfl, .inl hkL, _, _, rfl, rfl, (by rw [List.length_map]; omega), KL, _, _, kindV ks[ck], rfl, rfl, hkL, by rw [List.length_map, hck]; exact atI_nat (by rw [List.getElem?_map, List.getElem?_eq_getElem hckl]; rfl), (show 5 ≤ sizeLine by decide), fun R nR => ?_⟩
          have x15 := x14.new (o := .lst [V.str names[k], .str (sites[cs]'(by omega)), .str (sites[ct]'(by omega)), .ref A, kindV ks[ck]]) nR
          have sR : Same H9 (upd H9 R (.lst [V.str names[k], .str (sites[cs]'(by omega)), .str (sites[ct]'(by omega)), .ref A, kindV ks[ck]])) := (Same.refl _).new nR
          have cR : cut (upd H9 R (.lst [V.str names[k], .str (sites[cs]'(by omega)), .str (sites[ct]'(by omega)), .ref A, kindV ks[ck]])) [L, N, HM, G, S, p] R = some (.lst (rwV ⟨names[k], sites[cs]'(by omega), sites[ct]'(by omega), [], ks[ck]⟩ A)) := by
            rw [cut_out (A := [L, N, HM, G, S, p]) (x14.out nR), upd_same]
            rfl
          generalize upd H9 R (.lst [V.str names[k], .str (sites[cs]'(by omega)), .str (sites[ct]'(by omega)), .ref A, kindV ks[ck]]) = H10 at *
          refine ⟨L, _, _, rfl, rfl, x15.get 0 rfl, ?_, ?_⟩
          · have := rs13.rl
            exact size_ok (m := 1000) (by omega) (by decide)
          have x16 := x15.set (o' := .lst (rws ++ [V.ref R])) 0 rfl
          have cs10 := cut_same (A := [L, N, HM, G, S, p]) (sA.trans sR)
          refine ⟨ds', rws ++ [V.ref R], as ++ [A], lines ++ [⟨names[k], sites[cs]'(by omega), sites[ct]'(by omega), [], ks[ck]⟩], _, _, _, _, rfl, x16, hdr', ?_, ?_, fun a ha => ?_, ?_, ?_, by rw [List.length_append, List.length_singleton]; omega⟩
          · rw [cut_upd (by simp)]
            exact pw13.mono fun v x => stPs _ _ v x cs10
          · rw [cut_upd (by simp)]
            exact (rs13.same cs10).snoc cR
          · rw [cut_upd (by simp)]
            rcases List.mem_append.mp ha with ha | ha
            · exact ⟨cs10 _ _ (has13 a ha).1, (has13 a ha).2⟩
            · rw [List.mem_singleton.mp ha]
              exact ⟨cut_same sR _ _ cA, H0A⟩
          · exact List.nodup_append.mpr ⟨hnd, List.pairwise_singleton _ _, fun a ha b hb e => nas (by rw [← List.mem_singleton.mp hb, ← e]; exact ha)⟩
          · refine hl0.snoc (List.getElem?_eq_getElem kn) ndN ⟨rfl, List.getElem_mem _, List.getElem_mem _, fun e => hne ?_, hkk _ kkm⟩
            exact (List.getElem_inj ndS).mp e
        · exact ⟨ds', rws, as, lines, _, _, _, _, rfl, x13, hdr', pw13, rs13, has13, hnd, hl0.grow, by omega⟩
      · rintro σ H7 ⟨ds, rws, as, lines, u10, u11, u12, u13, rfl, x12, hdr, pw12, rs, has, hnd, hl0, hll⟩
        -- the ways
        walk_at "go"
        refine fun W nW => ?_
        have x13 := x12.push (o := .dT []) nW
        have H0W := x12.fresh nW
        have oW := x12.out nW
        have pw13 := pw12.mono fun v x => stPs _ _ v x (cut_push (o := .dT []) nW)
        have rs13 := rs.same (cut_push (o := .dT []) nW)
        have has13 : ∀ a ∈ as, cut (upd H7 W (.dT [])) [W, L, N, HM, G, S, p] a = some (.lst []) ∧ H a = none := fun a ha => ⟨cut_push nW _ _ (has a ha).1, (has a ha).2⟩
        clear x12 pw12 rs has
        generalize upd H7 W (.dT []) = H8 at *
        refine ⟨_, rfl, HM, rfl, ⟨_, SqL.of (x13.get 3 rfl)⟩, ?_⟩
        refine for_list (K := K) (a := HM) (xs := hv) (fun j σ H9 => ∃ (kvs : List (List L2.Key × V)) (v7 v15 : Option V), σ = [some (.ref p), some (.ref Mo), some (.ref KL), some (.int (many : Nat)), some (.ref S), some (.ref G), some (.ref HM), v7, some (.ref N), some (.ref L), u10, u11, u12, u13, some (.ref W), v15, none, none] ∧
            Hx H H9 [(W, .dT kvs), (L, .lst rws), (N, .lst (names.map V.str)), (HM, .lst hv), (G, .lst (goods.map V.str)), (S, .lst (sites.map V.str)), (p, .lst (ds.map V.int))] ∧ Same (cut H8 [W, L, N, HM, G, S, p]) (cut H9 [W, L, N, HM, G, S, p]) ∧
            WyS (cut H9 ([W, L, N, HM, G, S, p] ++ as)) kvs (ways0 (homes.take j)) ∧ kvs.length ≤ j)
          ⟨[], _, _, rfl, x13, Same.refl _, ⟨fun i s v h => (by rw [List.take_zero] at h; cases h), fun i s _ => rfl, fun _ h => (by cases h), List.Pairwise.nil⟩, Nat.le_refl _⟩ (fun j σ H9 _ ⟨_, _, _, _, x, _⟩ => SqL.of (x.get 3 rfl)) ?_ ?_
        · rintro j y σ H9 hj ⟨kvs, v7, v15, rfl, x14, sm, wy, hkl⟩
          obtain ⟨⟨i, s⟩, hh, t, rfl, ht⟩ := pw13.get hj
          have ht9 := sm _ _ ht
          have jl := (List.getElem?_eq_some_iff.mp hh).1
          refine ⟨t, _, rfl, .inl (.inl (cut_all _ _ ht9)), rfl, _, _, rfl, _, _, rfl, rfl, ?_⟩
          refine ⟨(show 0 ≤ sizeLine by decide), fun A nA => ?_⟩
          have x15 := x14.new (o := .lst []) nA
          have sA : Same H9 (upd H9 A (.lst [])) := (Same.refl _).new nA
          have oA : A ∉ [W, L, N, HM, G, S, p] ++ as := fun h => by
            rcases List.mem_append.mp h with h | h
            · exact x14.out nA h
            · have := cut_all _ _ (sm _ _ (has13 A h).1)
              rw [nA] at this
              cases this
          have cA : cut (upd H9 A (.lst [])) ([W, L, N, HM, G, S, p] ++ as) A = some (.lst (([] : List Str).map V.str)) := by rw [cut_out oA, upd_same]; rfl
          generalize upd H9 A (.lst []) = H10 at *
          refine ⟨_, rfl, _, rfl, _, rfl, (show 2 ≤ sizeLine by decide), fun T1 n1 => ?_⟩
          have x16 := x15.new (o := .tup [V.str i, .str s]) n1
          have sT : Same H10 (upd H10 T1 (.tup [V.str i, .str s])) := (Same.refl _).new n1
          refine ⟨W, _, rfl, DPut.t (k := k2 i s) (x16.get 0 rfl) upd_same (size_ok (m := 1000) (by have := congrArg List.length hh1; rw [List.length_map] at this; omega) (by decide)), ?_⟩
          have x17 := x16.set (o' := .dT (putK kvs (k2 i s) (.ref A))) 0 rfl
          refine ⟨_, _, _, rfl, x17, ?_, ?_, Nat.le_trans (putK_len _ _ _) (by omega)⟩
          · rw [cut_upd (by simp)]
            exact sm.trans (cut_same (sA.trans sT))
          · rw [cut_upd (by simp), take_snoc hh, ← ways0_snoc]
            exact ((wy.same (cut_same (sA.trans sT))).put (cut_same sT _ _ cA))
        · rintro σ H9 ⟨kvs, v7, v15, rfl, x14, sm, wy, hkl⟩
          rw [pw13.len, List.take_length] at wy
          have pw14 := pw13.mono fun v x => stPs _ _ v x sm
          have rs14 := rs13.same sm
          have has14 : ∀ a ∈ as, cut H9 [W, L, N, HM, G, S, p] a = some (.lst []) ∧ H a = none := fun a ha => ⟨sm _ _ (has13 a ha).1, (has13 a ha).2⟩
          clear x13 pw13 rs13 has13
          have nas : ∀ a ∈ as, a ∉ [W, L, N, HM, G, S, p] := fun a ha => cut_mem (has14 a ha).1
          have ndA : ([W, L, N, HM, G, S] ++ [p]).Nodup := x14.nd
          have hit : ∀ l ∈ lines, l.it = [] := fun l hl => (hl0.e l hl).1
          have nPW : (p :: W :: as).Nodup := by
            refine List.nodup_cons.mpr ⟨fun h => ?_, List.nodup_cons.mpr ⟨fun h => nas W h (by simp), hnd⟩⟩
            rcases List.mem_cons.mp h with h | h
            · exact (List.nodup_append.mp ndA).2.2 W (by simp) p (by simp) h.symm
            · exact nas p h (by simp)
          have subA : ∀ a ∈ p :: W :: as, a ∈ [W, L, N, HM, G, S, p] ++ as := by
            intro a ha
            rcases List.mem_cons.mp ha with rfl | ha
            · simp
            · rcases List.mem_cons.mp ha with rfl | ha
              · simp
              · exact List.mem_append_right _ ha
          have tl : ∀ b o, cut H9 [W, L, N, HM, G, S, p] b = some o → o ≠ .lst [] → cut H9 (p :: W :: as) b = some o := fun b o e n => by
            have e9 := cut_all _ _ e
            have eA := cut_mem e
            rw [cut_out fun h => ?_]
            · exact e9
            · rcases List.mem_cons.mp h with rfl | h
              · exact eA (by simp)
              · rcases List.mem_cons.mp h with rfl | h
                · exact eA (by simp)
                · have := cut_all _ _ (has14 b h).1
                  rw [e9] at this
                  exact n (Option.some.inj this)
          have st : ∀ b o, b ∈ [L, N, HM, G, S] → H9 b = some o → cut H9 (p :: W :: as) b = some o := fun b o hb e => by
            rw [cut_out fun h => ?_]
            · exact e
            · rcases List.mem_cons.mp h with h | h
              · exact (List.nodup_append.mp ndA).2.2 b (List.mem_cons_of_mem _ hb) p (by simp) h
              · rcases List.mem_cons.mp h with h | h
                · have := (List.nodup_cons.mp (List.nodup_append.mp ndA).1).1
                  rw [h] at hb
                  exact this hb
                · refine nas b h ?_
                  have : b ∈ [L, N, HM, G, S] ++ [p] := List.mem_append_left _ hb
                  exact List.mem_cons_of_mem _ this
          have gr : Gr H H9 p W as ds kvs rws ⟨sites, homes, lines, ways0 homes⟩ := by
            refine ⟨x14.more (fun z hz' => ?_) ?_ (fun z hz' => ?_), ⟨rs14.al, rs14.rl, fun k l a h1 h2 => ?_⟩, wy.same (cut_sub subA)⟩
            · rcases List.mem_cons.mp hz' with rfl | hz'
              · exact x14.get 6 rfl
              rcases List.mem_cons.mp hz' with rfl | hz'
              · exact x14.get 0 rfl
              obtain ⟨k, hk⟩ := List.getElem?_of_mem hz'
              obtain ⟨a, l, ha, hl, rfl⟩ := itT_get hk
              show H9 a = some (.lst (l.it.map V.str))
              rw [hit l (List.mem_of_getElem? hl)]
              exact cut_all _ _ (has14 a (List.mem_of_getElem? ha)).1
            · rw [List.map_cons, List.map_cons, itT_fst rs14.al]
              exact nPW
            · rw [List.map_cons, List.map_cons, itT_fst rs14.al]
              simp only [List.mem_cons, List.not_mem_nil, or_false] at hz'
              rcases hz' with rfl | rfl | rfl | rfl | rfl | rfl | rfl
              · exact .inl (by simp)
              · exact .inr H0L
              · exact .inr H0N
              · exact .inr H0HM
              · exact .inr H0G
              · exact .inr H0S
              · exact .inl (by simp)
            · obtain ⟨r, h3, h4⟩ := rs14.at_ k l a h1 h2
              exact ⟨r, h3, tl r _ h4 (fun e => by cases e)⟩
          have pw15 : Pw (PsA (cut H9 (p :: W :: as))) hv homes := pw14.mono fun v x ⟨t, e, h⟩ => ⟨t, e, tl t _ h (fun e => by cases e)⟩
          have cL := st L _ (by simp) (x14.get 1 rfl)
          have cHM := st HM _ (by simp) (x14.get 3 rfl)
          have cG := st G _ (by simp) (x14.get 4 rfl)
          have cS := st S _ (by simp) (x14.get 5 rfl)
          have kM9 := kM x14 (by simp [H0S, H0G, H0HM, H0N, H0L, H0W])
          have gok : GdOk ⟨sites, homes, lines, ways0 homes⟩ := gd0 ndS (by rw [hh1]; exact ndG) hh2 hl0
          have okL : ∀ x ∈ lines.map (·.nm), (NameOk x ∧ PyData.strOk x = true) ∧ Gen x := fun x hx => by
            obtain ⟨l, hl, rfl⟩ := List.mem_map.mp hx
            have := List.mem_of_mem_take (hl0.e l hl).2.2.2.2.2
            exact ⟨okN _ this, gnN _ this⟩
          have kdL : ∀ l ∈ lines, KindOk l.kd := fun l hl => (hl0.e l hl).2.2.2.2.1
          have hasN : ∀ a ∈ as, H a = none ∧ a ≠ p := fun a ha => ⟨(has14 a ha).2, fun e => nas a ha (by rw [e]; simp)⟩
          have hhl : homes.length ≤ 8 := by
            have := congrArg List.length hh1
            rw [List.length_map] at this
            omega
          have hkl8 : kvs.length ≤ 8 := by have := pw14.len; omega
          clear x14 sm wy pw14 rs14 has14 st tl subA
          -- the carries
          refine ⟨_, rfl, Mo, _, _, _, rfl, rfl, kM9, (show atI [V.int (m0 : Nat), .int (m1 : Nat), .int (m2 : Nat), .int (m3 : Nat)] 3 = some (.int (m3 : Nat)) from rfl), m3, rfl, by omega, by omega, ?_⟩
          refine for_range (n := m3) (fun j σ H10 => ∃ (ds : List Int) (kvs : List (List L2.Key × V)) (g : Gd) (w10 : Option V), σ = [some (.ref p), some (.ref Mo), some (.ref KL), some (.int (many : Nat)), some (.ref S), some (.ref G), some (.ref HM), v7, some (.ref N), some (.ref L), w10, u11, u12, u13, some (.ref W), v15, none, none] ∧
              Gr H H10 p W as ds kvs rws g ∧ Same (cut H9 (p :: W :: as)) (cut H10 (p :: W :: as)) ∧ Dr ds ∧ GdOk g ∧ kvs.length ≤ 8 + j ∧ g.sites = sites ∧ g.homes = homes ∧ g.lines.map (·.nm) = lines.map (·.nm) ∧ ∀ l ∈ g.lines, KindOk l.kd)
            ⟨ds, kvs, _, _, rfl, gr, Same.refl _, hdr, gok, by omega, rfl, rfl, rfl, kdL⟩ ?_ ?_
          · rintro j σ H10 hj ⟨ds, kvs, g, w10, rfl, gr, sm, hdr, ok, hkl, e1, e2, e3, kd⟩
            have gg : g.goods = goods := by unfold Gd.goods; rw [e2]; exact hh1
            have gl : g.lines.length = lines.length := by have := congrArg List.length e3; simpa using this
            refine ⟨_, rfl, _, rfl, _, rfl, _, rfl, H, p, G, L, W, as, ds, kvs, rws, g, rfl, gr, hdr, ok, by omega, by omega, by rw [gg]; omega, by rw [gg]; exact sm _ _ cG, sm _ _ cL, kd, fun H' ds' kvs' g' gr' sm' hdr' ok' hkl' e1' e2' e3' kd' => ?_⟩
            exact ⟨ds', kvs', g', _, rfl, gr', sm.trans sm', hdr', ok', by omega, by rw [e1', e1], by rw [e2', e2], by rw [e3', e3], kd'⟩
          · rintro σ H10 ⟨ds, kvs, g, w10, rfl, gr, sm, hdr, ok, hkl, e1, e2, e3, kd⟩
            have gg : g.goods = goods := by unfold Gd.goods; rw [e2]; exact hh1
            have gl : g.lines.length = lines.length := by have := congrArg List.length e3; simpa using this
            have cL10 := sm _ _ cL
            refine ⟨_, rfl, L, rfl, ⟨_, SqL.of (cut_all _ _ cL10)⟩, fun D nD => ?_⟩
            have oD := gr.out nD
            have H0D := gr.x.fresh nD
            have zl : (as.zip g.lines).length = rws.length := by rw [List.length_zip, gr.r.al, gr.r.rl, Nat.min_self]
            refine lc_list (K := K) (a := L) (xs := rws) (fun i H11 => ∃ (cs : List V), Same H10 H11 ∧ H11 D = some (.lst cs) ∧ Pw (fun v (z : Addr × Ln) => ∃ t, v = V.ref t ∧ cut H11 (D :: p :: W :: as) t = some (.tup (rwV z.2 z.1))) cs (((as.zip g.lines).take i).filter fun z => !z.2.it.isEmpty))
              ⟨[], (Same.refl _).new nD, upd_same, Pw.nil⟩ (fun i H11 _ ⟨_, s, _⟩ => SqL.of (s _ _ (cut_all _ _ cL10))) ?_ ?_
            · rintro i y H11 hi ⟨cs, s11, hD11, pc⟩
              have il : i < rws.length := (List.getElem?_eq_some_iff.mp hi).1
              obtain ⟨l, hl⟩ : ∃ l, g.lines[i]? = some l := ⟨_, List.getElem?_eq_getElem (by rw [← gr.r.rl]; exact il)⟩
              obtain ⟨a, ha⟩ : ∃ a, as[i]? = some a := ⟨_, List.getElem?_eq_getElem (by rw [gr.r.al, ← gr.r.rl]; exact il)⟩
              obtain ⟨r, hr1, hr2⟩ := gr.r.at_ i l a hl ha
              rw [hi] at hr1
              cases hr1
              have hz : (as.zip g.lines)[i]? = some (a, l) := by rw [List.getElem?_zip_eq_some]; exact ⟨ha, hl⟩
              have hr3 := s11 _ _ (cut_all _ _ hr2)
              have ha3 := s11 _ _ (gr.ha ha hl)
              refine ⟨rfl, ?_⟩
              refine ⟨_, rfl, r, _, _, _, rfl, rfl, SqL.of hr3, (show atI (rwV l a) 3 = some (.ref a) from rfl), !(l.it.map V.str).isEmpty, .inl ⟨_, SqL.of ha3, rfl⟩, ?_⟩
              have eI : (!(l.it.map V.str).isEmpty) = !l.it.isEmpty := by cases l.it <;> rfl
              rw [eI, take_snoc hz]
              cases hb : (!l.it.isEmpty) with
              | false =>
                refine iteF ⟨cs, s11, hD11, ?_⟩
                rw [filter_snoc, if_neg (by rw [hb]; decide), List.append_nil]
                exact pc
              | true =>
                refine iteT ?_
                refine ⟨_, rfl, r, _, _, _, rfl, rfl, SqL.of hr3, (show atI (rwV l a) 0 = some (.str l.nm) from rfl), ?_⟩
                refine ⟨_, rfl, r, _, _, _, rfl, rfl, SqL.of hr3, (show atI (rwV l a) 1 = some (.str l.src) from rfl), ?_⟩
                refine ⟨_, rfl, r, _, _, _, rfl, rfl, SqL.of hr3, (show atI (rwV l a) 2 = some (.str l.tgt) from rfl), ?_⟩
                refine ⟨_, rfl, r, _, _, _, rfl, rfl, SqL.of hr3, (show atI (rwV l a) 3 = some (.ref a) from rfl), ?_⟩
                refine ⟨_, rfl, r, _, _, _, rfl, rfl, SqL.of hr3, (show atI (rwV l a) 4 = some (kindV l.kd) from rfl), (show 5 ≤ sizeLine by decide), fun T1 n1 => ?_⟩
                have sT : Same H11 (upd H11 T1 (.tup [V.str l.nm, .str l.src, .str l.tgt, .ref a, kindV l.kd])) := (Same.refl _).new n1
                have hT : cut (upd H11 T1 (.tup [V.str l.nm, .str l.src, .str l.tgt, .ref a, kindV l.kd])) (D :: p :: W :: as) T1 = some (.tup (rwV l a)) := by
                  rw [cut_out, upd_same]
                  · rfl
                  · intro h
                    rcases List.mem_cons.mp h with rfl | h
                    · rw [hD11] at n1; cases n1
                    · exact (gr.same s11).out n1 h
                refine ⟨cs, sT _ _ hD11, ?_, cs ++ [V.ref T1], (s11.trans sT).mut nD, upd_same, ?_⟩
                · have := pc.len
                  have h2 := List.length_filter_le (fun z : Addr × Ln => !z.2.it.isEmpty) ((as.zip g.lines).take i)
                  rw [List.length_take] at h2
                  have h3 := gr.r.rl
                  exact size_ok (m := 1000) (by omega) (by decide)
                · rw [filter_snoc, if_pos hb]
                  refine Pw.snoc (pc.mono fun v z hx => ?_) ⟨T1, rfl, ?_⟩
                  · obtain ⟨t, e, h⟩ := hx
                    exact ⟨t, e, by rw [cut_upd (by simp)]; exact cut_same sT _ _ h⟩
                  · rw [cut_upd (by simp)]
                    exact hT
            · rintro H11 ⟨cs, s11, hD11, pc⟩
              rw [← zl, List.take_length] at pc
              have gr11 := gr.same s11
              refine ⟨_, rfl, _, rfl, _, rfl, _, rfl, (show 4 ≤ sizeLine by decide), fun T1 n1 => ?_⟩
              have sT : Same H11 (upd H11 T1 (.tup [V.ref S, .ref HM, .ref D, .ref W])) := (Same.refl _).new n1
              have gr12 := gr11.same sT
              have oT := gr11.out n1
              have H0T := gr11.x.fresh n1
              have sc : Same (cut H9 (p :: W :: as)) (cut (upd H11 T1 (.tup [V.ref S, .ref HM, .ref D, .ref W])) (p :: W :: as)) := sm.trans (cut_same (s11.trans sT))
              have hTT : (upd H11 T1 (.tup [V.ref S, .ref HM, .ref D, .ref W])) T1 = some (.tup [V.ref S, .ref HM, .ref D, .ref W]) := upd_same
              have hDD := sT _ _ hD11
              have pc12 : Pw (fun v (z : Addr × Ln) => ∃ t, v = V.ref t ∧ cut (upd H11 T1 (.tup [V.ref S, .ref HM, .ref D, .ref W])) (D :: p :: W :: as) t = some (.tup (rwV z.2 z.1))) cs ((as.zip g.lines).filter fun z => !z.2.it.isEmpty) := pc.mono fun v z hx => by
                obtain ⟨t, e, q⟩ := hx
                exact ⟨t, e, cut_same sT _ _ q⟩
              generalize upd H11 T1 (.tup [V.ref S, .ref HM, .ref D, .ref W]) = H12 at *
              generalize hzs : ((as.zip g.lines).filter fun z => !z.2.it.isEmpty) = zs at pc12
              have es : zs.map (·.2) = g.drop.lines := by rw [← hzs]; exact zip_filter_snd (fun l : Ln => !l.it.isEmpty) as g.lines gr.r.al
              have sub : (zs.map (·.1)).Sublist as := by rw [← hzs]; exact zip_fst_sub _ _ _
              have subm : ∀ a ∈ zs.map (·.1), a ∈ p :: W :: as := fun a ha => List.mem_cons_of_mem _ (List.mem_cons_of_mem _ (sub.subset ha))
              have cs12 : Same (cut H9 (p :: W :: as)) (cut H12 (zs.map (·.1))) := sc.trans (cut_sub subm)
              have zat : ∀ (k : Nat) l a, g.drop.lines[k]? = some l → (zs.map (·.1))[k]? = some a → zs[k]? = some (a, l) := fun k l a h1 h2 => by
                rw [← es, List.getElem?_map] at h1
                rw [List.getElem?_map] at h2
                cases e : zs[k]? with
                | none => rw [e] at h1; cases h1
                | some z => rw [e] at h1 h2; cases h1; cases h2; rfl
              have zmem : ∀ z ∈ zs, ∃ k : Nat, as[k]? = some z.1 ∧ g.lines[k]? = some z.2 := fun z hz => by
                rw [← hzs] at hz
                obtain ⟨k, hk⟩ := List.getElem?_of_mem (List.mem_filter.mp hz).1
                rw [List.getElem?_zip_eq_some] at hk
                exact ⟨k, hk⟩
              refine kQ H12 ds T1 S HM D W (zs.map (·.1)) kvs g.drop ?_ gr12.hp hdr ⟨?_, ?_, ⟨hv, cs12 _ _ cHM, ?_⟩, ?_, ⟨cs, ?_, ?_, ?_⟩, ?_, ?_, ?_, ?_⟩ H0T H0S H0HM H0D H0W (fun a ha => hasN a (sub.subset ha)) ok.drop ⟨?_, ?_, ?_, ?_, ?_, ?_⟩ (fun l hl e => by have := (List.mem_filter.mp hl).2; rw [e] at this; cases this) ?_ ?_ ?_ ?_ (by omega) (gr12.w.same (cut_sub fun a ha => by
                rcases List.mem_cons.mp ha with rfl | ha
                · exact List.mem_cons_self
                · exact subm a ha))
              · intro b o hb nb
                refine gr12.x.fr b o hb fun z hz e => ?_
                rcases List.mem_cons.mp hz with rfl | hz
                · exact nb e.symm
                rcases List.mem_cons.mp hz with rfl | hz
                · have e' : W = b := e
                  rw [← e', H0W] at hb; cases hb
                · have : z.1 ∈ as := by rw [← itT_fst gr.r.al]; exact List.mem_map.mpr ⟨z, hz, rfl⟩
                  have := (hasN _ this).1
                  rw [e, hb] at this
                  cases this
              · rw [cut_out fun h => oT (subm _ h)]
                exact hTT
              · rw [show g.drop.sites = sites from e1]
                exact cs12 _ _ cS
              · rw [show g.drop.homes = homes from e2]
                exact pw15.mono fun v x => stPs _ _ v x cs12
              · rw [List.length_map, ← es, List.length_map]
              · rw [cut_out fun h => oD (subm _ h)]
                exact hDD
              · rw [pc12.len, ← es, List.length_map]
              · intro k l a h1 h2
                have hz := zat k l a h1 h2
                obtain ⟨v, hv', t, rfl, ht⟩ := pc12.getR hz
                exact ⟨t, hv', cut_sub (fun b hb => List.mem_cons_of_mem _ (subm b hb)) _ _ ht⟩
              · intro k l a h1 h2
                obtain ⟨j, h3, h4⟩ := zmem _ (List.mem_of_getElem? (zat k l a h1 h2))
                exact gr12.ha h3 h4
              · exact hnd.sublist sub
              · rw [cut_out fun h => ?_]
                · exact gr12.hW
                · have := (List.nodup_cons.mp (List.nodup_cons.mp nPW).2).1
                  exact this (sub.subset h)
              · exact gr12.w.same (cut_sub subm)
              · intro x hx
                exact okS x (by rw [← e1]; exact hx)
              · intro x hx
                exact okG x (by rw [← gg]; exact hx)
              · intro l hl
                have hl' := (List.mem_filter.mp hl).1
                have := okL l.nm (by rw [← e3]; exact List.mem_map.mpr ⟨l, hl', rfl⟩)
                exact ⟨this.1.1, this.1.2, kd l hl'⟩
              · intro x hx
                exact gnS x (by rw [← e1]; exact hx)
              · intro x hx
                exact gnG x (by rw [← gg]; exact hx)
              · intro l hl
                have hl' := (List.mem_filter.mp hl).1
                exact (okL l.nm (by rw [← e3]; exact List.mem_map.mpr ⟨l, hl', rfl⟩)).2
              · rw [show g.drop.sites = sites from e1]
                omega
              · rw [show g.drop.sites = sites from e1]
                omega
              · rw [show g.drop.goods = goods from gg]
                omega
              · have := List.length_filter_le (fun l : Ln => !l.it.isEmpty) g.lines
                show (g.lines.filter fun l => !l.it.isEmpty).length ≤ m2
                omega
end

/-! ### the exception class BadName -/
abbrev sIBadName : Stmt := (inClass (top 3) 0)
theorem iBadName : PySem.XEx.IText ["name"] (defArgs sIBadName) (defBody sIBadName) (defScope sIBadName) :=
  { bd := ⟨_, _, _, _, _, _, _, _, _, rfl, (.cons .nil), rfl⟩, hks := by decide +kernel, hkc := by decide +kernel, hself := by decide +kernel, hf := by decide +kernel, hcell := by decide +kernel, hco := rfl, hgen := rfl, hk := rfl, hp := ⟨_, rfl, rfl⟩,
    bind := fun name qual cl kV doc pm an cdv ct us hl => match us, hl with | [_, _], _ => rfl, nd := by decide +kernel, len := by decide }
abbrev xdBadName : XD := ⟨"BadName", ["name"], defArgs sIBadName, defBody sIBadName, defScope sIBadName⟩

/-! ### the exception class Taken -/
abbrev sITaken : Stmt := (inClass (top 4) 0)
theorem iTaken : PySem.XEx.IText ["name"] (defArgs sITaken) (defBody sITaken) (defScope sITaken) :=
  { bd := ⟨_, _, _, _, _, _, _, _, _, rfl, (.cons .nil), rfl⟩, hks := by decide +kernel, hkc := by decide +kernel, hself := by decide +kernel, hf := by decide +kernel, hcell := by decide +kernel, hco := rfl, hgen := rfl, hk := rfl, hp := ⟨_, rfl, rfl⟩,
    bind := fun name qual cl kV doc pm an cdv ct us hl => match us, hl with | [_, _], _ => rfl, nd := by decide +kernel, len := by decide }
abbrev xdTaken : XD := ⟨"Taken", ["name"], defArgs sITaken, defBody sITaken, defScope sITaken⟩

/-! ### the exception class Unknown -/
abbrev sIUnknown : Stmt := (inClass (top 5) 0)
theorem iUnknown : PySem.XEx.IText ["name"] (defArgs sIUnknown) (defBody sIUnknown) (defScope sIUnknown) :=
  { bd := ⟨_, _, _, _, _, _, _, _, _, rfl, (.cons .nil), rfl⟩, hks := by decide +kernel, hkc := by decide +kernel, hself := by decide +kernel, hf := by decide +kernel, hcell := by decide +kernel, hco := rfl, hgen := rfl, hk := rfl, hp := ⟨_, rfl, rfl⟩,
    bind := fun name qual cl kV doc pm an cdv ct us hl => match us, hl with | [_, _], _ => rfl, nd := by decide +kernel, len := by decide }
abbrev xdUnknown : XD := ⟨"Unknown", ["name"], defArgs sIUnknown, defBody sIUnknown, defScope sIUnknown⟩

/-! ### the exception class BadChannel -/
abbrev sIBadChannel : Stmt := (inClass (top 6) 0)
theorem iBadChannel : PySem.XEx.IText ["name"] (defArgs sIBadChannel) (defBody sIBadChannel) (defScope sIBadChannel) :=
  { bd := ⟨_, _, _, _, _, _, _, _, _, rfl, (.cons .nil), rfl⟩, hks := by decide +kernel, hkc := by decide +kernel, hself := by decide +kernel, hf := by decide +kernel, hcell := by decide +kernel, hco := rfl, hgen := rfl, hk := rfl, hp := ⟨_, rfl, rfl⟩,
    bind := fun name qual cl kV doc pm an cdv ct us hl => match us, hl with | [_, _], _ => rfl, nd := by decide +kernel, len := by decide }
abbrev xdBadChannel : XD := ⟨"BadChannel", ["name"], defArgs sIBadChannel, defBody sIBadChannel, defScope sIBadChannel⟩

/-! ### the exception class BadKind -/
abbrev sIBadKind : Stmt := (inClass (top 7) 0)
theorem iBadKind : PySem.XEx.IText ["kind"] (defArgs sIBadKind) (defBody sIBadKind) (defScope sIBadKind) :=
  { bd := ⟨_, _, _, _, _, _, _, _, _, rfl, (.cons .nil), rfl⟩, hks := by decide +kernel, hkc := by decide +kernel, hself := by decide +kernel, hf := by decide +kernel, hcell := by decide +kernel, hco := rfl, hgen := rfl, hk := rfl, hp := ⟨_, rfl, rfl⟩,
    bind := fun name qual cl kV doc pm an cdv ct us hl => match us, hl with | [_, _], _ => rfl, nd := by decide +kernel, len := by decide }
abbrev xdBadKind : XD := ⟨"BadKind", ["kind"], defArgs sIBadKind, defBody sIBadKind, defScope sIBadKind⟩

/-! ### the exception class TwoWays -/
abbrev sITwoWays : Stmt := (inClass (top 8) 0)
theorem iTwoWays : PySem.XEx.IText ["item", "site"] (defArgs sITwoWays) (defBody sITwoWays) (defScope sITwoWays) :=
  { bd := ⟨_, _, _, _, _, _, _, _, _, rfl, (.cons (.cons .nil)), rfl⟩, hks := by decide +kernel, hkc := by decide +kernel, hself := by decide +kernel, hf := by decide +kernel, hcell := by decide +kernel, hco := rfl, hgen := rfl, hk := rfl, hp := ⟨_, rfl, rfl⟩,
    bind := fun name qual cl kV doc pm an cdv ct us hl => match us, hl with | [_, _, _], _ => rfl, nd := by decide +kernel, len := by decide }
abbrev xdTwoWays : XD := ⟨"TwoWays", ["item", "site"], defArgs sITwoWays, defBody sITwoWays, defScope sITwoWays⟩

/-! ### the exception class NotHeld -/
abbrev sINotHeld : Stmt := (inClass (top 9) 0)
theorem iNotHeld : PySem.XEx.IText ["item", "site"] (defArgs sINotHeld) (defBody sINotHeld) (defScope sINotHeld) :=
  { bd := ⟨_, _, _, _, _, _, _, _, _, rfl, (.cons (.cons .nil)), rfl⟩, hks := by decide +kernel, hkc := by decide +kernel, hself := by decide +kernel, hf := by decide +kernel, hcell := by decide +kernel, hco := rfl, hgen := rfl, hk := rfl, hp := ⟨_, rfl, rfl⟩,
    bind := fun name qual cl kV doc pm an cdv ct us hl => match us, hl with | [_, _, _], _ => rfl, nd := by decide +kernel, len := by decide }
abbrev xdNotHeld : XD := ⟨"NotHeld", ["item", "site"], defArgs sINotHeld, defBody sINotHeld, defScope sINotHeld⟩

/-! ### check_name, check_known -/
abbrev sCn : Stmt := (top 21)
theorem scCn : FnScope ["name", "taken", "letter"] ["name", "taken"] (defScope sCn) := ⟨rfl, rfl, rfl, by decide +kernel, rfl, by decide +kernel, by decide +kernel⟩
abbrev sKn : Stmt := (top 22)
theorem scKn : FnScope ["name", "known"] ["name", "known"] (defScope sKn) := ⟨rfl, rfl, rfl, by decide +kernel, rfl, by decide +kernel, by decide +kernel⟩
def abc : Str := "abcdefghijklmnopqrstuvwxyz"
def spCn (K : PySem.W.Frag) (CB CT : Addr) : Sp := fun vs H Q E => ∃ (x : Str) (a : Addr) (P : Str → Bool), vs = [.str x, .ref a] ∧ InA K H a P ∧ x.length ≤ sizeLine ∧ (NameOk x → P x = false → Q .non H) ∧ (¬ NameOk x → Rz E CB H [("name", .str x)]) ∧ (NameOk x → P x = true → Rz E CT H [("name", .str x)])
def spKn (K : PySem.W.Frag) (CU : Addr) : Sp := fun vs H Q E => ∃ (x : Str) (a : Addr) (P : Str → Bool), vs = [.str x, .ref a] ∧ InA K H a P ∧ (P x = true → Q .non H) ∧ (P x = false → Rz E CU H [("name", .str x)])
section
variable {P : Program} {w : World} {K : PySem.W.Frag} {mg : Str → Option Value} {base : Heap}
theorem ok_kn {f CU : Addr} {fd : FuncData} (F : FnP K "check_known" sKn f fd) (T : Bj mg) (xUnknown : PySem.XEx.XCls P K CU ["name"] (defArgs sIUnknown) (defBody sIUnknown) (defScope sIUnknown)) (gUnknown : mg "Unknown" = some (.ref CU)) : FnOk P w K mg base (L2.CX P w) 1 f fd ["name", "known"] (spKn K CU) := by
  refine F.ok scKn (fun vs H Q E h => ?_) (fun cdv A outer s H vs Q E hr h => ?_)
  · obtain ⟨x, a, P, rfl, _⟩ := h
    rfl
  · obtain ⟨x, a, P, rfl, hI, k1, k2⟩ := h
    have nd := scKn.nd
    have hu := hu_of hr
    refine ⟨_, (pss_one (ps_if (pt_cmpR (show OpR _ _ (rInA K true) from op_notInA hu) (pv 0) (pv 1) (by rfl)) (pss_one (ps_raiseX rfl xUnknown iUnknown gUnknown hr (takes_of rfl rfl rfl rfl) (pa_cons (pv 0) pa_nil))) pss_nil)), ?_⟩
    refine ⟨_, rfl, _, rfl, a, x, P, rfl, rfl, hI, _, rfl, ?_⟩
    refine ite2 (fun c => ?_) (fun c => ?_)
    · have e : P x = false := by
        have c' : (!P x) = true := c
        cases q : P x with
        | false => rfl
        | true => rw [q] at c'; cases c'
      exact ⟨_, rfl, rfl, (fun e => by cases e), fun _ d hd => k2 e d hd⟩
    · have e : P x = true := by
        have c' : ¬ (!P x) = true := c
        cases q : P x with
        | true => rfl
        | false => rw [q] at c'; exact absurd rfl c'
      exact k1 e
theorem ok_cn {f CB CT : Addr} {fd : FuncData} (F : FnP K "check_name" sCn f fd) (T : Bj mg) (gLet : ∃ t, mg "LETTERS" = some (.str abc t)) (gLon : ∃ t, mg "LONGEST" = some (.int 8 t)) (xBadName : PySem.XEx.XCls P K CB ["name"] (defArgs sIBadName) (defBody sIBadName) (defScope sIBadName)) (gBadName : mg "BadName" = some (.ref CB))
    (xTaken : PySem.XEx.XCls P K CT ["name"] (defArgs sITaken) (defBody sITaken) (defScope sITaken)) (gTaken : mg "Taken" = some (.ref CT)) : FnOk P w K mg base (L2.CX P w) 1 f fd ["name", "taken"] (spCn K CB CT) := by
  obtain ⟨tLe, gLET⟩ := gLet
  obtain ⟨tLo, gLON⟩ := gLon
  refine F.ok scCn (fun vs H Q E h => ?_) (fun cdv A outer s H vs Q E hr h => ?_)
  · obtain ⟨x, a, P, rfl, _⟩ := h
    rfl
  · obtain ⟨x, a, P, rfl, hI, hxl, k1, k2, k3⟩ := h
    have nd := scCn.nd
    have hu := hu_of hr
    refine ⟨_, (pss_cons (ps_if (pt_not (pt_chain op_le op_le pe_int (pe_callB call_len_str (by rfl) T.len PySem.boot_len (pa_cons (pv 0) pa_nil)) (pe_glob (v := .int 8) (by rfl) gLON ⟨_, rfl⟩))) (pss_one (ps_raiseX rfl xBadName iBadName gBadName hr (takes_of rfl rfl rfl rfl) (pa_cons (pv 0) pa_nil))) pss_nil)
      (pss_cons (ps_for (passes_of rfl) rfl (pi_str (pv 0)) (pg_name (i := 2) nd rfl (Or.inl rfl)) (pss_one (ps_if (pt_cmpR op_notIn_sign (pv 2) (pe_glob (v := .str abc) (by rfl) gLET ⟨_, rfl⟩) rfl) (pss_one (ps_raiseX rfl xBadName iBadName gBadName hr (takes_of rfl rfl rfl rfl) (pa_cons (pv 0) pa_nil))) pss_nil)))
      (pss_one (ps_if (pt_cmpR (show OpR _ _ (rInA K false) from op_inA hu) (pv 0) (pv 1) (by rfl)) (pss_one (ps_raiseX rfl xTaken iTaken gTaken hr (takes_of rfl rfl rfl rfl) (pa_cons (pv 0) pa_nil))) pss_nil)))), ?_⟩
    have habc : ∀ c, c ∈ abc.cps.toList ↔ 97 ≤ c ∧ c ≤ 122 := fun c => by
      rw [show abc.cps.toList = List.range' 97 26 from by decide +kernel, List.mem_range'_1]
      omega
    have hlen : x.cps.toList.length = x.length := by rw [Array.length_toList]; rfl
    refine ⟨_, rfl, x, rfl, hxl, _, _, rfl, rfl, _, rfl, ?_⟩
    refine ite2 (fun c1 => ?_) (fun c1 => ?_)
    · have c1' := of_decide_eq_true c1
      refine ⟨_, _, rfl, rfl, _, rfl, ?_⟩
      by_cases c2 : (x.length : Int) ≤ 8
      · rw [decide_eq_true c2]
        refine iteF ?_
        refine ⟨_, rfl, x, rfl, ?_⟩
        refine for_it walk_str (fun i σ H1 => (∃ u, σ = [some (.str x), some (.ref a), u]) ∧ H1 = H ∧ ∀ (j : Nat) c, j < i → x.cps[j]? = some c → 97 ≤ c ∧ c ≤ 122) ⟨⟨none, rfl⟩, rfl, fun j c hj => absurd hj (Nat.not_lt_zero _)⟩ (fun _ _ _ _ _ => trivial) ?_ ?_
        · rintro i y σ H1 H2 hi ⟨⟨u, rfl⟩, rfl, hc⟩ ⟨rfl, c, hx, rfl⟩
          refine ⟨_, rfl, c, abc, rfl, rfl, _, rfl, ?_⟩
          refine ite2 (fun d1 => ?_) (fun d1 => ?_)
          · have nc : ¬ (97 ≤ c ∧ c ≤ 122) := fun h => by
              have := decide_eq_true ((habc c).mpr h)
              have d1' : (!decide (c ∈ abc.cps.toList)) = true := d1
              rw [this] at d1'
              cases d1'
            have nn : ¬ NameOk x := fun h => nc (h.2.2 c (by
              rw [Array.getElem?_eq_some_iff] at hx
              obtain ⟨h1, h2⟩ := hx
              rw [← h2]
              exact Array.mem_toList_iff.mpr (Array.getElem_mem h1)))
            exact ⟨_, rfl, rfl, (fun e => by cases e), fun _ d hd => k2 nn d hd⟩
          · refine ⟨⟨_, rfl⟩, rfl, fun j c' hj hc' => ?_⟩
            by_cases e : j < i
            · exact hc j c' e hc'
            · have : j = i := by omega
              subst this
              rw [hx] at hc'
              cases hc'
              by_cases q : c ∈ abc.cps.toList
              · exact (habc c).mp q
              · exact absurd (show (!decide (c ∈ abc.cps.toList)) = true by rw [decide_eq_false q]; rfl) d1
        · rintro σ H1 ⟨⟨u, rfl⟩, rfl, hc⟩
          have nk : NameOk x := by
            refine ⟨by omega, by omega, fun c hcm => ?_⟩
            obtain ⟨j, hj, e⟩ := List.getElem_of_mem hcm
            rw [Array.length_toList] at hj
            exact hc j c hj (by rw [Array.getElem?_eq_getElem hj]; rw [Array.getElem_toList] at e; rw [e])
          refine ⟨_, rfl, _, rfl, a, x, P, rfl, rfl, hI, _, rfl, ?_⟩
          refine ite2 (fun c => ?_) (fun c => ?_)
          · exact ⟨_, rfl, rfl, (fun e => by cases e), fun _ d hd => k3 nk c d hd⟩
          · have e : P x = false := by
              have c' : ¬ P x = true := c
              simpa using c'
            exact k1 nk e
      · rw [decide_eq_false c2]
        refine iteT ?_
        have nn : ¬ NameOk x := fun h => c2 (by have := h.2.1; omega)
        exact ⟨_, rfl, rfl, (fun e => by cases e), fun _ d hd => k2 nn d hd⟩
    · have nn : ¬ NameOk x := fun h => c1 (decide_eq_true (by have := h.1; omega))
      refine ⟨_, rfl, iteT ?_⟩
      exact ⟨_, rfl, rfl, (fun e => by cases e), fun _ d hd => k2 nn d hd⟩
end

/-! ### channels.py: check_kind, Ends, Load, Channel -/
abbrev FnQ (K : PySem.W.Frag) (x q : Str) (st : Stmt) (f : Addr) (fd : FuncData) : Prop := FunD K x q (defArgs st) (defBody st) (defScope st) [] [] f fd
abbrev sCk : Stmt := (top 14)
abbrev sEnI : Stmt := (inClass (top 15) 0)
abbrev sLoI : Stmt := (inClass (top 16) 0)
abbrev sChI : Stmt := (inClass (top 17) 0)
theorem scCk : FnScope ["kind"] ["kind"] (defScope sCk) := ⟨rfl, rfl, rfl, by decide +kernel, rfl, by decide +kernel, by decide +kernel⟩
theorem scEnI : FnScope ["self", "source", "target"] ["self", "source", "target"] (defScope sEnI) := ⟨rfl, rfl, rfl, by decide +kernel, rfl, by decide +kernel, by decide +kernel⟩
theorem scLoI : FnScope ["self", "items"] ["self", "items"] (defScope sLoI) := ⟨rfl, rfl, rfl, by decide +kernel, rfl, by decide +kernel, by decide +kernel⟩
theorem scChI : FnScope ["self", "name", "source", "target", "items", "late"] ["self", "name", "source", "target", "items", "late"] (defScope sChI) := ⟨rfl, rfl, rfl, by decide +kernel, rfl, by decide +kernel, by decide +kernel⟩
def spCk (CB : Addr) : Sp := fun vs H Q E => ∃ k : Option Str, vs = [kindV k] ∧ (KindOk k → Q .non H) ∧ (¬ KindOk k → Rz E CB H [("kind", kindV k)])
/-- the classes may be a base's or that of the instance -/
def spEnI (K : PySem.W.Frag) : Sp := fun vs H Q _ => ∃ (p C dx : Addr) (fs : List (Str × V)) (s t : V), vs = [.ref p, s, t] ∧ H p = some (.ins C dx fs) ∧ Cls K C ∧ NoAttr K C "source" ∧ NoAttr K C "target" ∧ fs.length < 100 ∧
  Q .non (upd H p (.ins C dx (putF "target" t (putF "source" s fs))))
def spLoI (K : PySem.W.Frag) : Sp := fun vs H Q _ => ∃ (p C dx a : Addr) (fs : List (Str × V)) (xs : List V), vs = [.ref p, .ref a] ∧ H p = some (.ins C dx fs) ∧ Cls K C ∧ NoAttr K C "names" ∧ fs.length < 100 ∧ (SqL K H a xs ∨ SqT K H a xs) ∧
  ∀ l, H l = none → Q .non (upd (upd H l (.lst xs)) p (.ins C dx (putF "names" (.ref l) fs)))
def spChI (K : PySem.W.Frag) (CB : Addr) : Sp := fun vs H Q E => ∃ (p C dx a : Addr) (n s t : V) (xs : List V) (k : Option Str), vs = [.ref p, n, s, t, .ref a, kindV k] ∧ H p = some (.ins C dx []) ∧ Cls K C ∧ NoAttr K C "source" ∧ NoAttr K C "target" ∧ NoAttr K C "names" ∧ NoAttr K C "name" ∧ NoAttr K C "kind" ∧
  (SqL K H a xs ∨ SqT K H a xs) ∧ a ≠ p ∧ (¬ KindOk k → Rz E CB H [("kind", kindV k)]) ∧ (KindOk k → ∀ l, H l = none → Q .non (upd (upd H l (.lst xs)) p (.ins C dx (chF s t l n (kindV k)))))
theorem putF_ne {f g : Str} {v u : V} {r : List (Str × V)} (h : ¬ g = f) : putF f v ((g, u) :: r) = (g, u) :: putF f v r := if_neg h
theorem ch_put (s t : V) (l : Addr) (n k : V) : putF "kind" k (putF "name" n (putF "names" (.ref l) (putF "target" t (putF "source" s [])))) = chF s t l n k := by
  show putF "kind" k (putF "name" n (putF "names" (.ref l) (putF "target" t [(("source" : Str), s)]))) = _
  rw [putF_ne (by decide +kernel)]
  show putF "kind" k (putF "name" n (putF "names" (.ref l) [(("source" : Str), s), ("target", t)])) = _
  rw [putF_ne (by decide +kernel), putF_ne (by decide +kernel)]
  show putF "kind" k (putF "name" n [(("source" : Str), s), ("target", t), ("names", .ref l)]) = _
  rw [putF_ne (by decide +kernel), putF_ne (by decide +kernel), putF_ne (by decide +kernel)]
  show putF "kind" k [(("source" : Str), s), ("target", t), ("names", .ref l), ("name", n)] = _
  rw [putF_ne (by decide +kernel), putF_ne (by decide +kernel), putF_ne (by decide +kernel), putF_ne (by decide +kernel)]
  rfl
section
variable {P : Program} {w : World} {K : PySem.W.Frag} {mg : Str → Option Value} {base : Heap}
theorem in_kinds (k : Str) : inV (.str k) kindsV = decide (k ∈ kinds) := by
  unfold inV kindsV
  rw [List.any_map]
  rw [Bool.eq_iff_iff, List.any_eq_true, decide_eq_true_iff]
  constructor
  · rintro ⟨y, hy, e⟩
    have e' : eqV (.str y) (.str k) = true := e
    have : y = k := by simpa [eqV] using e'
    rw [← this]; exact hy
  · intro h
    exact ⟨k, h, by simp [eqV]⟩
structure CkT (K : PySem.W.Frag) (mg : Str → Option Value) (aK : Addr) : Prop where
  gK : mg "KINDS" = some (.ref aK)
  tK : ∀ H, SqT K H aK kindsV
theorem ok_ck {f aK CB : Addr} {fd : FuncData} (F : FnP K "check_kind" sCk f fd) (T : CkT K mg aK) (xBadKind : PySem.XEx.XCls P K CB ["kind"] (defArgs sIBadKind) (defBody sIBadKind) (defScope sIBadKind)) (gBadKind : mg "BadKind" = some (.ref CB)) : FnOk P w K mg base (L2.CX P w) 3 f fd ["kind"] (spCk CB) := by
  refine F.ok scCk (fun vs H Q E h => ?_) (fun cdv A outer s H vs Q E hr h => ?_)
  · obtain ⟨k, rfl, _⟩ := h
    rfl
  · obtain ⟨k, rfl, kY, kN⟩ := h
    have nd := scCk.nd
    refine ⟨_, pss_one (ps_if (PW.pt (pw_and (pt_cmpR op_notN (pv 0) pe_non (nomark _)) (pw_and1 (pt_cmpR op_notIn_seq (pv 0) (pe_glob (v := .ref aK) (by rfl) T.gK rfl) (by rfl))))) (pss_one (ps_raiseX rfl xBadKind iBadKind gBadKind hr (takes_of rfl rfl rfl rfl) (pa_cons (pv 0) pa_nil))) pss_nil), ?_⟩
    walk_at "go"
    cases k with
    | none =>
      refine iteF ?_
      exact kY trivial
    | some k =>
      refine iteT ?_
      refine ⟨_, rfl, aK, _, rfl, .inr (T.tK _), rfl, rfl, _, rfl, ?_⟩
      have ei : inV (kindV (some k)) kindsV = decide (k ∈ kinds) := in_kinds k
      by_cases c : k ∈ kinds
      · rw [ei, decide_eq_true c]
        exact kY c
      · rw [ei, decide_eq_false c]
        refine ⟨_, rfl, rfl, (fun e => by cases e), fun _ d hd => ?_⟩
        exact kN c d hd
theorem ok_enI {f : Addr} {fd : FuncData} (F : FnQ K "__init__" "Ends.__init__" sEnI f fd) : FnOk P w K mg base (L2.CX P w) 1 f fd ["self", "source", "target"] (spEnI K) := by
  refine F.ok scEnI (fun vs H Q E h => ?_) (fun cdv A outer s H vs Q E hr h => ?_)
  · obtain ⟨p, C, dx, fs, s, t, rfl, _⟩ := h
    rfl
  · obtain ⟨p, C, dx, fs, s, t, rfl, hp, cl, n1, n2, hz, kQ⟩ := h
    have nd := scEnI.nd
    refine ⟨_, (pss_cons (ps_fld (pv 0) (pv 1) rfl)
      (pss_one (ps_fld (pv 0) (pv 2) rfl))), ?_⟩
    refine ⟨_, rfl, _, rfl, p, C, dx, fs, rfl, hp, cl, n1, Nat.lt_trans hz (by decide), ?_⟩
    refine ⟨_, rfl, _, rfl, p, C, dx, _, rfl, upd_same, cl, n2, Nat.lt_of_le_of_lt (putF_len _ _ _) (by omega), ?_⟩
    rw [upd_upd]
    exact kQ
theorem ok_loI {f : Addr} {fd : FuncData} (F : FnQ K "__init__" "Load.__init__" sLoI f fd) (T : Bi mg) (hL : mg "list" = none) : FnOk P w K mg base (L2.CX P w) 1 f fd ["self", "items"] (spLoI K) := by
  refine F.ok scLoI (fun vs H Q E h => ?_) (fun cdv A outer s H vs Q E hr h => ?_)
  · obtain ⟨p, C, dx, a, fs, xs, rfl, _⟩ := h
    rfl
  · obtain ⟨p, C, dx, a, fs, xs, rfl, hp, cl, n1, hz, hS, kQ⟩ := h
    have nd := scLoI.nd
    refine ⟨_, pss_one (ps_fld (pv 0) (pe_callTy call_list_of (by rfl) hL (by decide +kernel) (pa_cons (pv 1) pa_nil)) rfl), ?_⟩
    refine ⟨_, rfl, a, xs, rfl, hS, fun l hl => ?_⟩
    refine ⟨_, rfl, p, C, dx, fs, rfl, (by rw [upd_ne (ne_of_none hp hl)]; exact hp), cl, n1, Nat.lt_trans hz (by decide), ?_⟩
    exact kQ l hl
theorem ok_chI {f CB : Addr} {fd : FuncData} (F : FnQ K "__init__" "Channel.__init__" sChI f fd) (g_ck : Cal P w K mg base 3 "check_kind" ["kind"] (spCk CB)) (g_en : CFn P w K mg base 1 "Ends" "__init__" ["self", "source", "target"] (spEnI K)) (g_lo : CFn P w K mg base 1 "Load" "__init__" ["self", "items"] (spLoI K)) :
    FnOk P w K mg base (L2.CX P w) 4 f fd ["self", "name", "source", "target", "items", "late"] (spChI K CB) := by
  refine F.ok scChI (fun vs H Q E h => ?_) (fun cdv A outer s H vs Q E hr h => ?_)
  · obtain ⟨p, C, dx, a, n, s, t, xs, k, rfl, _⟩ := h
    rfl
  · obtain ⟨p, C, dx, a, n, s, t, xs, k, rfl, hp, cl, n1, n2, n3, n4, n5, hS, nap, kN, kY⟩ := h
    have nd := scChI.nd
    refine ⟨_, pss_cons (ps_expr (pe_cal g_ck hr (takes_of rfl rfl rfl rfl) (pa_cons (pv 5) pa_nil))) (pss_cons (ps_expr (pe_cfn g_en hr takes0 (pa_cons (pv 0) (pa_cons (pv 2) (pa_cons (pv 3) pa_nil)))))
      (pss_cons (ps_expr (pe_cfn g_lo hr takes0 (pa_cons (pv 0) (pa_cons (pv 4) pa_nil)))) (pss_cons (ps_fld (pv 0) (pv 1) rfl) (pss_one (ps_fld (pv 0) (pv 5) rfl))))), ?_⟩
    refine ⟨_, rfl, k, rfl, fun hk => ?_, fun hk => kN hk⟩
    refine ⟨_, rfl, _, rfl, _, rfl, p, C, dx, [], s, t, rfl, hp, cl, n1, n2, by decide, ?_⟩
    have hS' : ∀ o, SqL K (upd H p o) a xs ∨ SqT K (upd H p o) a xs := fun o => by
      rcases hS with hS | hS
      · exact .inl (sqL_upd nap hS)
      · exact .inr (sqT_upd nap hS)
    refine ⟨_, rfl, _, rfl, p, C, dx, a, _, xs, rfl, upd_same, cl, n3, Nat.lt_of_le_of_lt (putF_le (putF_le (Nat.le_refl 0))) (by decide), hS' _, fun l hl => ?_⟩
    have hlp : l ≠ p := fun e => by rw [e, upd_same] at hl; cases hl
    have hl0 : H l = none := by rw [upd_ne hlp] at hl; exact hl
    refine ⟨_, rfl, _, rfl, p, C, dx, _, rfl, upd_same, cl, n4, Nat.lt_of_le_of_lt (putF_le (putF_le (putF_le (Nat.le_refl 0)))) (by decide), ?_⟩
    refine ⟨_, rfl, _, rfl, p, C, dx, _, rfl, upd_same, cl, n5, Nat.lt_of_le_of_lt (putF_le (putF_le (putF_le (putF_le (Nat.le_refl 0))))) (by decide), ?_⟩
    have e : upd (upd (upd (upd (upd H p (.ins C dx (putF "target" t (putF "source" s [])))) l (.lst xs)) p (.ins C dx (putF "names" (.ref l) (putF "target" t (putF "source" s []))))) p (.ins C dx (putF "name" n (putF "names" (.ref l) (putF "target" t (putF "source" s []))))))
        p (.ins C dx (putF "kind" (kindV k) (putF "name" n (putF "names" (.ref l) (putF "target" t (putF "source" s []))))))
        = upd (upd H l (.lst xs)) p (.ins C dx (chF s t l n (kindV k))) := by
      rw [ch_put, upd_upd, upd_upd]
      funext b
      by_cases hb : b = p
      · rw [hb, upd_same, upd_same]
      · rw [upd_ne hb, upd_ne hb]
        by_cases hb2 : b = l
        · rw [hb2, upd_same, upd_same]
        · rw [upd_ne hb2, upd_ne hb2, upd_ne hb]
    have z := kY hk l hl0
    rw [← e] at z
    exact z
end

/-! ### checked_sites, check_channel (what is valid) -/
abbrev sCs : Stmt := (top 23)
theorem scCs : FnScope ["names", "sites", "name"] ["names"] (defScope sCs) := ⟨rfl, rfl, rfl, by decide +kernel, rfl, by decide +kernel, by decide +kernel⟩
def spCs (K : PySem.W.Frag) : Sp := fun vs H Q _ => ∃ (a : Addr) (xs : List Str), vs = [.ref a] ∧ SqL K H a (xs.map V.str) ∧ xs.Nodup ∧ (∀ x ∈ xs, NameOk x) ∧ xs.length ≤ 1000 ∧ ∀ l, H l = none → Q (.ref l) (upd H l (.lst (xs.map V.str)))
abbrev sCc : Stmt := (top 24)
theorem scCc : FnScope ["row", "sites", "items", "taken", "name", "source", "target", "load", "late", "at", "item"] ["row", "sites", "items", "taken"] (defScope sCc) := ⟨rfl, rfl, rfl, by decide +kernel, rfl, by decide +kernel, by decide +kernel⟩
def spCc (K : PySem.W.Frag) : Sp := fun vs H Q _ => ∃ (r S I T a : Addr) (l : Ln) (Ps Pi Pt : Str → Bool), vs = [.ref r, .ref S, .ref I, .ref T] ∧ H r = some (.tup (rwV l a)) ∧ SqL K H a (l.it.map V.str) ∧ InA K H S Ps ∧ InA K H I Pi ∧ InA K H T Pt ∧
  NameOk l.nm ∧ Pt l.nm = false ∧ Ps l.src = true ∧ Ps l.tgt = true ∧ l.src ≠ l.tgt ∧ l.it ≠ [] ∧ l.it.Nodup ∧ l.it.length ≤ 1000 ∧ (∀ i ∈ l.it, Pi i = true) ∧ KindOk l.kd ∧ ∀ H', Same H H' → Q .non H'
theorem InA.same {K : PySem.W.Frag} {H H' : Hp} {a : Addr} {P : Str → Bool} (s : Same H H') (h : InA K H a P) : InA K H' a P := by
  rcases h with ⟨l, hl, e⟩ | ⟨kvs, hk, e⟩
  · exact .inl ⟨l, s.seq hl, e⟩
  · refine .inr ⟨kvs, ?_, e⟩
    rcases hk with hk | ⟨o, hk⟩
    · exact .inl (s _ _ hk)
    · exact .inr ⟨o, s _ _ hk⟩
theorem nm_size {x : Str} (h : NameOk x) : x.length ≤ sizeLine := by
  have e : x.length = x.cps.toList.length := by rw [Array.length_toList]; rfl
  have := h.2.1
  exact Nat.le_of_lt (size_ok (m := 1000) (by omega) (by decide))
section
variable {P : Program} {w : World} {K : PySem.W.Frag} {mg : Str → Option Value} {base : Heap}
theorem ok_cs {f CB CT : Addr} {fd : FuncData} (F : FnP K "checked_sites" sCs f fd) (T : Bj mg) (g_check_name : Cal P w K mg base 1 "check_name" ["name", "taken"] (spCn K CB CT)) : FnOk P w K mg base (L2.CX P w) 2 f fd ["names"] (spCs K) := by
  refine F.ok scCs (fun vs H Q E h => ?_) (fun cdv A outer s H vs Q E hr h => ?_)
  · obtain ⟨a, xs, rfl, _⟩ := h
    rfl
  · obtain ⟨a, xs, rfl, ha, hnd, hok, hz, kQ⟩ := h
    have nd := scCs.nd
    refine ⟨_, (pss_cons (ps_set (i := 1) nd rfl (Or.inl rfl) (pe_lst pa_nil))
      (pss_cons (ps_for (passes_of rfl) rfl (pi_list (pv 0)) (pg_name (i := 2) nd rfl (Or.inl rfl)) (pss_cons (ps_expr (pe_cal g_check_name hr (takes_of rfl rfl rfl rfl) (pa_cons (pv 2) (pa_cons (pv 1) pa_nil))))
        (pss_one (ps_expr (pe_bm PySem.F.plainAttrs_list PySem.F.slot_list_append PySem.F.type_list_append mt_append (pv 1) (pa_cons (pv 2) pa_nil))))))
      (pss_one (ps_ret (pv 1))))), ?_⟩
    walk_at "go"
    refine fun L nL => ?_
    have x1 := (Hx.refl H).push (o := .lst []) nL
    have sa : ∀ {H' : Hp} {o : HO}, Hx H H' [(L, o)] → SqL K H' a (xs.map V.str) := fun x => (x.keep (by simp [nL])).seq ha
    refine ⟨_, rfl, a, rfl, ⟨_, sa x1⟩, ?_⟩
    refine for_list (K := K) (a := a) (xs := xs.map V.str) (fun i σ H1 => ∃ u, σ = [some (.ref a), some (.ref L), u] ∧ H1 = upd H L (.lst ((xs.take i).map V.str))) ⟨none, rfl, rfl⟩ (fun i σ H1 _ ⟨_, _, e⟩ => by rw [e]; exact ((Same.refl _).new nL).seq ha) ?_ ?_
    · rintro i y σ H1 hi ⟨u, rfl, rfl⟩
      obtain ⟨x, hx, rfl⟩ := at_map hi
      have il := (List.getElem?_eq_some_iff.mp hx).1
      have eT := take_snoc hx
      have nn : x ∉ xs.take i := fun h => by
        have := List.nodup_append.mp (by rw [← eT]; exact hnd.sublist (List.take_sublist _ _) : (xs.take i ++ [x]).Nodup)
        exact this.2.2 x h x (List.mem_singleton.mpr rfl) rfl
      have hxo := hok x (List.mem_of_getElem? hx)
      refine ⟨_, rfl, _, rfl, x, L, fun z => decide (z ∈ xs.take i), rfl, .inl ⟨_, SqL.of upd_same, fun _ => rfl⟩, nm_size hxo, fun _ _ => ?_, fun h => absurd hxo h, fun _ h => absurd (of_decide_eq_true h) nn⟩
      refine ⟨_, rfl, .inl ⟨rfl, _, SqL.of upd_same⟩, _, rfl, L, _, _, rfl, rfl, upd_same, ?_, ?_⟩
      · rw [List.length_map, List.length_take]
        exact size_ok (m := 10000) (by omega) (by decide)
      · refine ⟨_, rfl, ?_⟩
        rw [upd_upd, eT, List.map_append]
        rfl
    · rintro σ H1 ⟨u, rfl, rfl⟩
      rw [List.length_map, List.take_length]
      walk_at "go"
      exact kQ L nL
theorem ok_cc {f CB CT CU CK : Addr} {fd : FuncData} (F : FnP K "check_channel" sCc f fd) (T : Bj mg) (g_check_name : Cal P w K mg base 1 "check_name" ["name", "taken"] (spCn K CB CT)) (g_check_known : Cal P w K mg base 1 "check_known" ["name", "known"] (spKn K CU))
    (g_check_kind : Cal P w K mg base 3 "check_kind" ["kind"] (spCk CK)) (xBadChannel : PySem.XEx.XCls P K CC ["name"] (defArgs sIBadChannel) (defBody sIBadChannel) (defScope sIBadChannel)) (gBadChannel : mg "BadChannel" = some (.ref CC)) : FnOk P w K mg base (L2.CX P w) 4 f fd ["row", "sites", "items", "taken"] (spCc K) := by
  refine F.ok scCc (fun vs H Q E h => ?_) (fun cdv A outer s H vs Q E hr h => ?_)
  · obtain ⟨r, S, I, T, a, l, Ps, Pi, Pt, rfl, _⟩ := h
    rfl
  · obtain ⟨r, S, I, Tk, a, l, Ps, Pi, Pt, rfl, hr1, ha, hS, hI, hT, n1, n2, n3, n4, n5, n6, n7, n8, n9, n10, kQ⟩ := h
    have nd := scCc.nd
    refine ⟨_, (pss_cons (ps_asg (pv 0) (pg_tup rfl (pgs_cons (pg_name (i := 4) nd rfl (Or.inl rfl)) (pgs_cons (pg_name (i := 5) nd rfl (Or.inl rfl)) (pgs_cons (pg_name (i := 6) nd rfl (Or.inl rfl)) (pgs_cons (pg_name (i := 7) nd rfl (Or.inl rfl)) (pgs_cons (pg_name (i := 8) nd rfl (Or.inl rfl)) pgs_nil)))))))
      (pss_cons (ps_expr (pe_cal g_check_name hr (takes_of rfl rfl rfl rfl) (pa_cons (pv 4) (pa_cons (pv 3) pa_nil))))
      (pss_cons (ps_expr (pe_cal g_check_known hr (takes_of rfl rfl rfl rfl) (pa_cons (pv 5) (pa_cons (pv 1) pa_nil))))
      (pss_cons (ps_expr (pe_cal g_check_known hr (takes_of rfl rfl rfl rfl) (pa_cons (pv 6) (pa_cons (pv 1) pa_nil))))
      (pss_cons (ps_if (PW.pt (pw_or (pt_cmpR op_eq (pv 5) (pv 6) (nomark _)) (pw_or1 (pt_cmpR op_eq (pe_callB call_len_seq (by rfl) T.len PySem.boot_len (pa_cons (pv 7) pa_nil)) pe_int (nomark _))))) (pss_one (ps_raiseX rfl xBadChannel iBadChannel gBadChannel hr (takes_of rfl rfl rfl rfl) (pa_cons (pv 4) pa_nil))) pss_nil)
      (pss_cons (ps_for (passes_of rfl) rfl (pi_enum (by rfl) T.enumerate (pa_cons (pv 7) pa_nil)) (pg_tup rfl (pgs_cons (pg_name (i := 9) nd rfl (Or.inl rfl)) (pgs_cons (pg_name (i := 10) nd rfl (Or.inl rfl)) pgs_nil))) (pss_one (ps_if (pt_cmpR op_in_seq (pv 10) (pe_slice sl_list (pv 7) po_none (po_some (pv 9))) (by rfl)) (pss_one (ps_raiseX rfl xBadChannel iBadChannel gBadChannel hr (takes_of rfl rfl rfl rfl) (pa_cons (pv 4) pa_nil))) pss_nil)))
      (pss_cons (ps_for (passes_of rfl) rfl (pi_list (pv 7)) (pg_name (i := 10) nd rfl (Or.inl rfl)) (pss_one (ps_expr (pe_cal g_check_known hr (takes_of rfl rfl rfl rfl) (pa_cons (pv 10) (pa_cons (pv 2) pa_nil))))))
      (pss_one (ps_expr (pe_cal g_check_kind hr (takes_of rfl rfl rfl rfl) (pa_cons (pv 8) pa_nil))))))))))), ?_⟩
    refine ⟨_, rfl, r, _, rfl, .inl (.inl hr1), rfl, _, _, rfl, _, _, rfl, _, _, rfl, _, _, rfl, _, _, rfl, rfl, ?_⟩
    refine ⟨_, rfl, _, rfl, l.nm, Tk, Pt, rfl, hT, nm_size n1, fun _ _ => ?_, fun h => absurd n1 h, fun _ h => by rw [n2] at h; cases h⟩
    refine ⟨_, rfl, _, rfl, l.src, S, Ps, rfl, hS, fun _ => ?_, fun h => by rw [n3] at h; cases h⟩
    refine ⟨_, rfl, _, rfl, l.tgt, S, Ps, rfl, hS, fun _ => ?_, fun h => by rw [n4] at h; cases h⟩
    refine ⟨_, rfl, _, rfl, rfl, _, rfl, ?_⟩
    rw [decide_eq_false (fun e => n5 (V.str.inj e))]
    refine iteF ?_
    refine ⟨_, rfl, a, _, rfl, .inl ha, rfl, _, rfl, ?_⟩
    have nl : 0 < l.it.length := List.length_pos_iff.mpr n6
    rw [decide_eq_false (fun e => by have := V.int.inj e; rw [List.length_map] at this; omega)]
    refine iteF ?_
    have h0 : ∀ {H' : Hp}, Same H H' → SqL K H' a (l.it.map V.str) := fun s => s.seq ha
    refine ⟨_, rfl, a, _, rfl, ha, ?_⟩
    refine for_it (walk_enum (K := K) (a := a) (xs := l.it.map V.str)) (fun n σ H1 => ∃ u9 u10, σ = [some (.ref r), some (.ref S), some (.ref I), some (.ref Tk), some (.str l.nm), some (.str l.src), some (.str l.tgt), some (.ref a), some (kindV l.kd), u9, u10] ∧ Same H H1)
      ⟨none, none, rfl, Same.refl _⟩ (fun n σ H1 _ ⟨_, _, _, s⟩ => h0 s) ?_ ?_
    · rintro n x σ H1 H2 hn ⟨u9, u10, rfl, s1⟩ ⟨T1, x1, v, rfl, nT, rfl, hi, hv⟩
      cases hi
      obtain ⟨i, hit, rfl⟩ := at_map hv
      have s2 := s1.new (o := .tup [V.int (n : Nat), .str i]) nT
      refine ⟨T1, _, rfl, .inl (.inl upd_same), rfl, _, _, rfl, _, _, rfl, rfl, ?_⟩
      refine ⟨_, rfl, ?_⟩
      walk_at "go"
      refine ⟨a, _, rfl, h0 s2, fun q nq => ?_⟩
      have s3 := s2.new (o := .lst (cutV (l.it.map V.str) none (some (n : Int)))) nq
      rw [List.length_map] at hn
      have ec : cutV (l.it.map V.str) none (some (n : Int)) = (l.it.take n).map V.str := by
        rw [cut_to _ (by rw [List.length_map]; omega), List.map_take]
      rw [ec] at s3 ⊢
      refine ⟨q, _, rfl, .inl (SqL.of upd_same), rfl, flat_strs _, _, rfl, ?_⟩
      have nn : i ∉ l.it.take n := fun h => by
        have := List.nodup_append.mp (by rw [← take_snoc hit]; exact n7.sublist (List.take_sublist _ _) : (l.it.take n ++ [i]).Nodup)
        exact this.2.2 i h i (List.mem_singleton.mpr rfl) rfl
      refine ite2 (fun c => absurd (of_decide_eq_true ((inV_strs i (l.it.take n)).symm.trans c)) nn) (fun _ => ?_)
      exact ⟨_, _, rfl, s3⟩
    · rintro σ H1 ⟨u9, u10, rfl, s1⟩
      refine ⟨_, rfl, a, rfl, ⟨_, h0 s1⟩, ?_⟩
      refine for_list (K := K) (a := a) (xs := l.it.map V.str) (fun n σ H2 => ∃ u9 u10, σ = [some (.ref r), some (.ref S), some (.ref I), some (.ref Tk), some (.str l.nm), some (.str l.src), some (.str l.tgt), some (.ref a), some (kindV l.kd), u9, u10] ∧ H2 = H1)
        ⟨_, _, rfl, rfl⟩ (fun n σ H2 _ ⟨_, _, _, e⟩ => by rw [e]; exact h0 s1) ?_ ?_
      · rintro n y σ H2 hn ⟨u9, u10, rfl, rfl⟩
        obtain ⟨i, hit, rfl⟩ := at_map hn
        have hpi := n9 i (List.mem_of_getElem? hit)
        exact ⟨_, rfl, _, rfl, i, I, Pi, rfl, hI.same s1, fun _ => ⟨_, _, rfl, rfl⟩, fun h => by rw [hpi] at h; cases h⟩
      · rintro σ H2 ⟨u9, u10, rfl, rfl⟩
        exact ⟨_, rfl, l.kd, rfl, fun _ => kQ _ s1, fun h => absurd n10 h⟩
end

/-! ### homes_of, way_back, bringers_of, Item -/
abbrev sItI : Stmt := (inClass (top 31) 0)
theorem scItI : FnScope ["self", "owner", "name", "seat"] ["self", "owner", "name", "seat"] (defScope sItI) := ⟨rfl, rfl, rfl, by decide +kernel, rfl, by decide +kernel, by decide +kernel⟩
def spItI (K : PySem.W.Frag) (CI : Addr) : Sp := fun vs H Q _ => ∃ (x p dx : Addr) (n s : Str), vs = [.ref x, .ref p, .str n, .str s] ∧ H x = some (.ins CI dx []) ∧ Cls K CI ∧ NoAttr K CI "owner" ∧ NoAttr K CI "name" ∧ NoAttr K CI "seat" ∧ Q .non (upd H x (.ins CI dx (seatF p ⟨n, s, x, dx⟩)))
abbrev sHm : Stmt := (top 25)
theorem scHm : FnScope ["seats", "name"] ["seats"] (defScope sHm) := ⟨rfl, rfl, rfl, by decide +kernel, rfl, by decide +kernel, by decide +kernel⟩
def spHm (K : PySem.W.Frag) (CI : Addr) : Sp := fun vs H Q _ => ∃ (DS p : Addr) (ss : List Seat), vs = [.ref DS] ∧ H DS = some (.dK (kvS ss)) ∧ (∀ s ∈ ss, H s.a = some (.ins CI s.dx (seatF p s))) ∧ (ss.map (·.nm)).Nodup ∧ Cls K CI ∧ NoAttr K CI "seat" ∧ ss.length ≤ 1000 ∧
  ∀ D, H D = none → Q (.ref D) (upd H D (.dK (kvH (ss.map fun s => (s.nm, s.st)))))
abbrev sWb : Stmt := (top 26)
theorem scWb : FnScope ["homes", "bringers", "item", "site", "way", "line"] ["homes", "bringers", "item", "site"] (defScope sWb) := ⟨rfl, rfl, rfl, by decide +kernel, rfl, by decide +kernel, by decide +kernel⟩
def spWb (K : PySem.W.Frag) (CC : Addr) : Sp := fun vs H Q _ => ∃ (Dh Db : Addr) (i s hm : Str) (g : Gd) (cs : List Cn) (kvb : List (List L2.Key × V)), vs = [.ref Dh, .ref Db, .str i, .str s] ∧ H Dh = some (.dK (kvH g.homes)) ∧ H Db = some (.dT kvb) ∧ BrA kvb cs ∧ GdOk g ∧ g.lines = cs.map (·.l) ∧ (i, hm) ∈ g.homes ∧
  (∀ c ∈ cs, H c.a = some (.ins CC c.dx (cnF c))) ∧ Cls K CC ∧ NoAttr K CC "name" ∧ NoAttr K CC "source" ∧ g.lines.length ≤ 1000 ∧
  (∀ v, g.ways i s = some v → ∀ L H', H L = none → Same H H' → H' L = some (.lst (v.map V.str)) → Q (.ref L) H') ∧ (g.ways i s = none → ∀ H', Same H H' → Q .non H')
section
variable {P : Program} {w : World} {K : PySem.W.Frag} {mg : Str → Option Value} {base : Heap}
theorem ok_itI {f CI : Addr} {fd : FuncData} (F : FnQ K "__init__" "Item.__init__" sItI f fd) : FnOk P w K mg base (L2.CX P w) 1 f fd ["self", "owner", "name", "seat"] (spItI K CI) := by
  refine F.ok scItI (fun vs H Q E h => ?_) (fun cdv A outer s H vs Q E hr h => ?_)
  · obtain ⟨x, p, dx, n, s, rfl, _⟩ := h
    rfl
  · obtain ⟨x, p, dx, n, s, rfl, hx, cl, n1, n2, n3, kQ⟩ := h
    have nd := scItI.nd
    refine ⟨_, (pss_cons (ps_fld (pv 0) (pv 1) rfl)
      (pss_cons (ps_fld (pv 0) (pv 2) rfl)
      (pss_one (ps_fld (pv 0) (pv 3) rfl)))), ?_⟩
    refine ⟨_, rfl, _, rfl, x, CI, dx, [], rfl, hx, cl, n1, by decide, ?_⟩
    refine ⟨_, rfl, _, rfl, x, CI, dx, _, rfl, upd_same, cl, n2, Nat.lt_of_le_of_lt (putF_len _ _ _) (by decide), ?_⟩
    refine ⟨_, rfl, _, rfl, x, CI, dx, _, rfl, upd_same, cl, n3, Nat.lt_of_le_of_lt (putF_len _ _ _) (Nat.lt_of_le_of_lt (Nat.succ_le_succ (putF_len _ _ _)) (by decide)), ?_⟩
    rw [upd_upd, upd_upd]
    have e : putF "seat" (V.str s) (putF "name" (V.str n) (putF "owner" (V.ref p) [])) = seatF p ⟨n, s, x, dx⟩ := by
      show putF "seat" (V.str s) (putF "name" (V.str n) [(("owner" : Str), V.ref p)]) = _
      rw [putF_ne (by decide +kernel)]
      show putF "seat" (V.str s) [(("owner" : Str), V.ref p), ("name", V.str n)] = _
      rw [putF_ne (by decide +kernel), putF_ne (by decide +kernel)]
      rfl
    rw [e]
    exact kQ
theorem ok_hm {f CI : Addr} {fd : FuncData} (F : FnP K "homes_of" sHm f fd) (T : Bj mg) : FnOk P w K mg base (L2.CX P w) 1 f fd ["seats"] (spHm K CI) := by
  refine F.ok scHm (fun vs H Q E h => ?_) (fun cdv A outer s H vs Q E hr h => ?_)
  · obtain ⟨DS, p, ss, rfl, _⟩ := h
    rfl
  · obtain ⟨DS, p, ss, rfl, hD, hs, hnd, cl, n1, hl, kQ⟩ := h
    have nd := scHm.nd
    have hu := hu_of hr
    refine ⟨_, (pss_one (ps_ret (pe_lock (pe_dc (own := [("name", 1)]) (g := gName 1) (tt := tYes) (by rfl) nd (pi_keys (pv 0)) (blkOk_by (own := [("name", 1)]) (N := ["seats", "name"]) (sc := defScope sHm) (by decide +kernel)) (fun _ _ _ _ _ => (pg_name (i := 1) nd rfl (Or.inl rfl))) (fun _ _ _ _ _ => pts_nil) (fun _ _ _ _ _ => (pv 1)) (fun _ _ _ _ _ => (show PE _ _ (tFld K _ _) from (pe_fld (pe_dget hu (pv 0) (pv 1) (fun _ _ => rfl)) rfl))))))), ?_⟩
    refine ⟨DS, _, hD, trivial, fun od => ?_⟩
    refine ⟨_, rfl, DS, od, rfl, .inl ⟨kvS ss, upd_same, fun D nD => ?_⟩⟩
    have dD : DS ≠ D := fun e => by rw [← e, upd_same] at nD; cases nD
    have hD0 : H D = none := by rw [upd_ne dD.symm] at nD; exact nD
    have kl : (kvS ss).length = ss.length := by unfold kvS; rw [List.length_map]
    have fz : ∀ o, upd (upd H DS (.frz od (.dK (kvS ss)))) D o DS = some (.frz od (.dK (kvS ss))) := fun o => by rw [upd_ne dD, upd_same]
    refine dc_any (n := ss.length) (fun i H1 => H1 = upd (upd H DS (.frz od (.dK (kvS ss)))) D (.dK (kvH ((ss.take i).map fun s => (s.nm, s.st))))) rfl (fun i H1 hi e => ⟨by rw [e]; exact fz _, by rw [kl]; exact hi⟩) (fun H1 e => ⟨by rw [e]; exact fz _, by rw [kl]; exact Nat.le_refl _⟩) ?_ ?_
    · rintro i y H1 H2 hi rfl ⟨rfl, k, v, hk, rfl⟩
      obtain ⟨s, hsi⟩ : ∃ s, ss[i]? = some s := ⟨_, List.getElem?_eq_getElem hi⟩
      have e1 : (kvS ss)[i]? = some (Sum.inr s.nm, V.ref s.a) := by unfold kvS; rw [List.getElem?_map, hsi]; rfl
      rw [e1] at hk
      cases hk
      have sm := List.mem_of_getElem? hsi
      have sa := hs s sm
      have na : s.a ≠ DS := fun e => by rw [e, hD] at sa; cases sa
      refine ⟨rfl, tYes_if ⟨_, rfl, ?_⟩⟩
      refine ⟨_, rfl, _, rfl, DS, .ref s.a, rfl, .inl ⟨kvS ss, Sum.inr s.nm, .inr ⟨od, fz _⟩, rfl, (valV_map_in (f := fun s : Seat => s.nm) (v := fun s : Seat => V.ref s.a) hnd sm).symm⟩, s.a, CI, s.dx, _, .str s.st, rfl, (by rw [upd_ne (ne_of_none sa hD0), upd_ne na]; exact sa), cl, n1, rfl, ?_⟩
      refine ⟨_, Sum.inr s.nm, rfl, upd_same, ?_, ?_⟩
      · unfold kvH
        rw [List.length_map, List.length_map, List.length_take]
        exact size_ok (m := 10000) (by omega) (by decide)
      · rw [upd_upd, putK_new]
        · rw [take_snoc hsi, List.map_append]
          unfold kvH
          rw [List.map_append]
          rfl
        · unfold kvH
          rw [List.map_map]
          refine valV_map_out (f := fun s : Seat => s.nm) (v := fun s : Seat => V.str s.st) ?_
          intro h
          have := List.nodup_append.mp (by rw [← List.map_singleton (f := fun s : Seat => s.nm), ← List.map_append, ← take_snoc hsi]; exact hnd.sublist ((List.take_sublist _ _).map _) : ((ss.take i).map (fun s => s.nm) ++ [s.nm]).Nodup)
          exact this.2.2 s.nm h s.nm (List.mem_singleton.mpr rfl) rfl
    · rintro H1 rfl
      refine ⟨fz _, ?_⟩
      rw [List.take_length, upd_swap dD.symm, upd_upd, upd_id hD]
      exact kQ D hD0
theorem ok_wb {f CC : Addr} {fd : FuncData} (F : FnP K "way_back" sWb f fd) (T : Bj mg) : FnOk P w K mg base (L2.CX P w) 1 f fd ["homes", "bringers", "item", "site"] (spWb K CC) := by
  refine F.ok scWb (fun vs H Q E h => ?_) (fun cdv A outer s H vs Q E hr h => ?_)
  · obtain ⟨Dh, Db, i, s, hm, g, cs, kvb, rfl, _⟩ := h
    rfl
  · obtain ⟨Dh, Db, i, s, hm, g, cs, kvb, rfl, hDh, hDb, br, ok, hgl, hih, hcs, cl, n1, n2, hz, kS, kN⟩ := h
    have nd := scWb.nd
    have hu := hu_of hr
    refine ⟨_, (pss_cons (ps_set (i := 4) nd rfl (Or.inl rfl) (pe_lst pa_nil))
      (pss_cons (ps_while (passes_of rfl) (pt_cmpR op_ne (pv 3) (pe_dget hu (pv 0) (pv 2) (fun _ _ => rfl)) (nomark _)) (pss_cons (ps_set (i := 5) nd rfl (Or.inl rfl) (pe_dget1 hu (pv 1) (pe_tup (pa_cons (pv 2) (pa_cons (pv 3) pa_nil))) ⟨rfl, by rfl, by rfl, rfl⟩))
        (pss_cons (ps_if (PW.pt (pw_or (pt_cmpR op_isN (pv 5) pe_non (nomark _)) (pw_or1 (pt_cmpR op_in_seq (pe_fld (pv 5) rfl) (pv 4) (by rfl))))) (pss_one (ps_ret pe_non)) pss_nil)
        (pss_cons (ps_expr (pe_bm PySem.F.plainAttrs_list PySem.F.slot_list_insert PySem.F.type_list_insert mt_insert (pv 4) (pa_cons pe_int (pa_cons (pe_fld (pv 5) rfl) pa_nil))))
        (pss_one (ps_set (i := 3) nd rfl (Or.inl rfl) (pe_fld (pv 5) rfl)))))))
      (pss_one (ps_ret (pv 4))))), ?_⟩
    have hval : valV (kvH g.homes) (Sum.inr i) = some (.str hm) := valV_map_in (f := fun h : Str × Str => h.1) (v := fun h : Str × Str => V.str h.2) ok.hN hih
    walk_at "go"
    refine fun L nL => ?_
    have x1 := (Hx.refl H).push (o := .lst (([] : List Str).map V.str)) nL
    have kp : ∀ {H' : Hp} {o : HO}, Hx H H' [(L, o)] → Same H H' := fun x => x.keep (by simp [nL])
    have w0 : (∃ u, g.ways i s = some u ∧ g.ways i s = some (u ++ ([] : List Str))) ∨ (g.ways i s = none ∧ s = s ∧ ([] : List Str) = []) := by
      cases e : g.ways i s with
      | none => exact .inr ⟨rfl, rfl, rfl⟩
      | some u => exact .inl ⟨u, rfl, by rw [List.append_nil]⟩
    refine ⟨fun m σ H1 => ∃ (t : Str) (way : List Str) (u5 : Option V), σ = [some (.ref Dh), some (.ref Db), some (.str i), some (.str t), some (.ref L), u5] ∧ Hx H H1 [(L, .lst (way.map V.str))] ∧
      ((∃ u, g.ways i t = some u ∧ g.ways i s = some (u ++ way) ∧ m = u.length) ∨ (g.ways i s = none ∧ t = s ∧ way = [] ∧ m = 0)), ?_, ?_⟩
    · rcases w0 with ⟨u, e1, e2⟩ | ⟨e1, _, _⟩
      · exact ⟨u.length, s, [], none, rfl, x1, .inl ⟨u, e1, e2, rfl⟩⟩
      · exact ⟨0, s, [], none, rfl, x1, .inr ⟨e1, rfl, rfl, rfl⟩⟩
    · rintro m σ H1 ⟨t, way, u5, rfl, x2, hw⟩
      have s1 := kp x2
      refine ⟨_, rfl, _, rfl, _, rfl, Dh, .str hm, rfl, (by have z := DGet.k (k := Sum.inr i) (s1 _ _ hDh); rw [hval] at z; exact z), rfl, _, rfl, ?_⟩
      by_cases eh : t = hm
      · subst eh
        rw [show (!decide (V.str t = V.str t)) = false by simp]
        refine iteF ?_
        walk_at "go"
        rcases hw with ⟨u, e1, e2, rfl⟩ | ⟨e1, rfl, rfl, rfl⟩
        · have := (ok.atHome e1 hih).mpr rfl
          subst this
          exact kS way e2 L H1 nL s1 (x2.get 0 rfl)
        · have := ok.wH _ hih
          rw [e1] at this
          cases this
      · rw [show (!decide (V.str t = V.str hm)) = true by rw [decide_eq_false (fun e => eh (V.str.inj e))]; rfl]
        refine iteT ?_
        refine ⟨fun σ' H' => ∃ m', m' < m ∧ ∃ (t : Str) (way : List Str) (u5 : Option V), σ' = [some (.ref Dh), some (.ref Db), some (.str i), some (.str t), some (.ref L), u5] ∧ Hx H H' [(L, .lst (way.map V.str))] ∧
          ((∃ u, g.ways i t = some u ∧ g.ways i s = some (u ++ way) ∧ m' = u.length) ∨ (g.ways i s = none ∧ t = s ∧ way = [] ∧ m' = 0)), fun _ _ z => z, ?_⟩
        refine ⟨_, rfl, Db, rfl, ?_, _, rfl, _, rfl, (show 2 ≤ sizeLine by decide), fun T1 nT1 => ?_⟩
        · exact .inr ⟨_, .inl (s1 _ _ hDb)⟩
        have x3 := x2.new (o := .tup [V.str i, .str t]) nT1
        have s3 := kp x3
        refine ⟨_, DGet.t (k := k2 i t) (s3 _ _ hDb) upd_same, ?_⟩
        generalize upd H1 T1 (.tup [V.str i, .str t]) = H2 at *
        rcases hw with ⟨u, e1, e2, rfl⟩ | ⟨e1, rfl, rfl, rfl⟩
        · have un : u ≠ [] := fun e => eh ((ok.atHome e1 hih).mp e)
          obtain ⟨l, hl, et, hi, w', e3, e4⟩ := ok.step e1 un
          rw [hgl] at hl
          obtain ⟨c, hc, rfl⟩ := List.mem_map.mp hl
          subst et
          rw [br.in_ c hc i hi]
          have hca := s3 _ _ (hcs c hc)
          refine ⟨_, rfl, rfl, _, rfl, iteF ?_⟩
          have nn : c.l.nm ∉ way := fun h => by
            have := ok.wayNodup _ rfl e2
            rw [e4] at this
            exact (List.nodup_append.mp this).2.2 c.l.nm (by simp) c.l.nm h rfl
          refine ⟨_, rfl, c.a, CC, c.dx, _, .str c.l.nm, rfl, hca, cl, n1, rfl, _, rfl, L, _, rfl, .inl (SqL.of (x3.get 0 rfl)), rfl, flat_strs _, _, rfl, ?_⟩
          refine ite2 (fun q => absurd (of_decide_eq_true ((inV_strs _ _).symm.trans q)) nn) (fun _ => ?_)
          refine ⟨_, rfl, .inl ⟨rfl, _, SqL.of (x3.get 0 rfl)⟩, ?_⟩
          have hwl : way.length ≤ 1000 := by
            have := ok.wayLen e2
            rw [List.length_append] at this
            omega
          refine ⟨_, rfl, c.a, CC, c.dx, _, .str c.l.nm, rfl, hca, cl, n1, rfl, L, _, _, _, rfl, rfl, x3.get 0 rfl, size_ok (m := 10000) (by rw [List.length_map]; omega) (by decide), by decide, by decide, ?_⟩
          have x4 := x3.set (o' := .lst ((c.l.nm :: way).map V.str)) 0 rfl
          have e5 : (way.map V.str).take (0 : Int).toNat ++ [V.str c.l.nm] ++ (way.map V.str).drop (0 : Int).toNat = (c.l.nm :: way).map V.str := by simp
          rw [e5]
          have nla : c.a ≠ L := fun e => by
            have := hcs c hc
            rw [e, nL] at this
            cases this
          refine ⟨_, rfl, c.a, CC, c.dx, _, .str c.l.src, rfl, (by rw [upd_ne nla]; exact hca), cl, n2, rfl, ?_⟩
          refine ⟨w'.length, by rw [e4]; simp, c.l.src, c.l.nm :: way, _, rfl, x4, .inl ⟨w', e3, ?_, rfl⟩⟩
          rw [e2, e4]
          simp
        · have nb : valV kvb (k2 i t) = none := br.out i t fun c hc ⟨hi, et⟩ => by
            obtain ⟨w', _, h2⟩ := ok.wL c.l (by rw [hgl]; exact List.mem_map.mpr ⟨c, hc, rfl⟩) i hi
            rw [et, e1] at h2
            cases h2
          rw [nb]
          refine ⟨_, rfl, rfl, _, rfl, iteT ?_⟩
          exact kN e1 _ s3
end

/-! ### bringers_of (what is valid) -/
abbrev sBr : Stmt := (top 27)
theorem scBr : FnScope ["homes", "lines", "bringers", "line", "item"] ["homes", "lines"] (defScope sBr) := ⟨rfl, rfl, rfl, by decide +kernel, rfl, by decide +kernel, by decide +kernel⟩
def spBr (K : PySem.W.Frag) (CC : Addr) : Sp := fun vs H Q _ => ∃ (Dh LL : Addr) (g : Gd) (cs : List Cn), vs = [.ref Dh, .ref LL] ∧ H Dh = some (.dK (kvH g.homes)) ∧ H LL = some (.lst (cs.map fun c => V.ref c.a)) ∧ GdOk g ∧ g.lines = cs.map (·.l) ∧
  (∀ c ∈ cs, H c.a = some (.ins CC c.dx (cnF c)) ∧ H c.la = some (.lst (c.l.it.map V.str))) ∧ Cls K CC ∧ (∀ f ∈ (["source", "target", "names", "name", "kind"] : List Str), NoAttr K CC f) ∧ g.lines.length ≤ 100 ∧ g.goods.length ≤ 100 ∧
  ∀ DB H' kvb, H DB = none → Same H H' → H' DB = some (.dT kvb) → BrA kvb cs → kvb.length ≤ 10000 → Q (.ref DB) H'
section
variable {P : Program} {w : World} {K : PySem.W.Frag} {mg : Str → Option Value} {base : Heap}
theorem ok_br {f CC CW CN : Addr} {fd : FuncData} (F : FnP K "bringers_of" sBr f fd) (T : Bj mg) (g_way_back : Cal P w K mg base 1 "way_back" ["homes", "bringers", "item", "site"] (spWb K CC))
    (xTwoWays : PySem.XEx.XCls P K CW ["item", "site"] (defArgs sITwoWays) (defBody sITwoWays) (defScope sITwoWays)) (gTwoWays : mg "TwoWays" = some (.ref CW)) (xNotHeld : PySem.XEx.XCls P K CN ["item", "site"] (defArgs sINotHeld) (defBody sINotHeld) (defScope sINotHeld)) (gNotHeld : mg "NotHeld" = some (.ref CN)) :
    FnOk P w K mg base (L2.CX P w) 2 f fd ["homes", "lines"] (spBr K CC) := by
  refine F.ok scBr (fun vs H Q E h => ?_) (fun cdv A outer s H vs Q E hr h => ?_)
  · obtain ⟨Dh, LL, g, cs, rfl, _⟩ := h
    rfl
  · obtain ⟨Dh, LL, g, cs, rfl, hDh, hLL, ok, hgl, hcs, cl, nC, hz, hgz, kQ⟩ := h
    have nd := scBr.nd
    have hu := hu_of hr
    refine ⟨_, (pss_cons (ps_set (i := 2) nd rfl (Or.inl rfl) pe_dnewT)
      (pss_cons (ps_for (passes_of rfl) rfl (pi_list (pv 1)) (pg_name (i := 3) nd rfl (Or.inl rfl)) (pss_one (ps_for (passes_of rfl) rfl (pi_list (pe_fld (pv 3) rfl)) (pg_name (i := 4) nd rfl (Or.inl rfl)) (pss_cons (ps_if (PW.pt (pw_or (pt_cmpR op_eq (pe_dget hu (pv 0) (pv 4) (fun _ _ => rfl)) (pe_fld (pv 3) rfl) (nomark _)) (pw_or1 (pt_cmp (pc_din hu (pe_tup (pa_cons (pv 4) (pa_cons (pe_fld (pv 3) rfl) pa_nil))) (pv 2)))))) (pss_one (ps_raiseX rfl xTwoWays iTwoWays gTwoWays hr (takes_of rfl rfl rfl rfl) (pa_cons (pv 4) (pa_cons (pe_fld (pv 3) rfl) pa_nil)))) pss_nil)
          (pss_one (ps_dput hu (pv 2) (pe_tup (pa_cons (pv 4) (pa_cons (pe_fld (pv 3) rfl) pa_nil))) (pv 3) rfl))))))
      (pss_cons (ps_for (passes_of rfl) rfl (pi_list (pv 1)) (pg_name (i := 3) nd rfl (Or.inl rfl)) (pss_one (ps_for (passes_of rfl) rfl (pi_list (pe_fld (pv 3) rfl)) (pg_name (i := 4) nd rfl (Or.inl rfl)) (pss_one (ps_if (pt_cmpR op_isN (pe_cal g_way_back hr (takes_of rfl rfl rfl rfl) (pa_cons (pv 0) (pa_cons (pv 2) (pa_cons (pv 4) (pa_cons (pe_fld (pv 3) rfl) pa_nil))))) pe_non (nomark _)) (pss_one (ps_raiseX rfl xNotHeld iNotHeld gNotHeld hr (takes_of rfl rfl rfl rfl) (pa_cons (pv 4) (pa_cons (pe_fld (pv 3) rfl) pa_nil)))) pss_nil)))))
      (pss_one (ps_ret (pv 2)))))), ?_⟩
    refine fun DB nDB => ?_
    have x1 := (Hx.refl H).push (o := .dT []) nDB
    have kp : ∀ {H' : Hp} {o : HO}, Hx H H' [(DB, o)] → Same H H' := fun x => x.keep (by simp [nDB])
    have lm : ∀ c ∈ cs, c.l ∈ g.lines := fun c hc => by rw [hgl]; exact List.mem_map.mpr ⟨c, hc, rfl⟩
    have ln : cs.length = g.lines.length := by rw [hgl, List.length_map]
    refine ⟨_, rfl, LL, rfl, ⟨_, SqL.of (kp x1 _ _ hLL)⟩, ?_⟩
    refine for_list (K := K) (a := LL) (xs := cs.map fun c => V.ref c.a) (fun j σ H1 => ∃ (kvb : List (List L2.Key × V)) (u3 u4 : Option V), σ = [some (.ref Dh), some (.ref LL), some (.ref DB), u3, u4] ∧ Hx H H1 [(DB, .dT kvb)] ∧ BrA kvb (cs.take j) ∧ kvb.length ≤ 100 * j)
      ⟨[], none, none, rfl, x1, ⟨fun c hc => (by rw [List.take_zero] at hc; cases hc), fun _ _ _ => rfl, fun _ h => (by cases h), List.Pairwise.nil⟩, by simp⟩ (fun j σ H1 _ ⟨_, _, _, _, x, _⟩ => SqL.of (kp x _ _ hLL)) ?_ ?_
    · rintro j y σ H1 hj ⟨kvb, u3, u4, rfl, x2, br, hkl⟩
      obtain ⟨c, hc, rfl⟩ := at_map hj
      have cm := List.mem_of_getElem? hc
      have jl := (List.getElem?_eq_some_iff.mp hc).1
      have hca : ∀ {H' : Hp} {o : HO}, Hx H H' [(DB, o)] → H' c.a = some (.ins CC c.dx (cnF c)) := fun x => kp x _ _ (hcs c cm).1
      have hla : ∀ {H' : Hp} {o : HO}, Hx H H' [(DB, o)] → H' c.la = some (.lst (c.l.it.map V.str)) := fun x => kp x _ _ (hcs c cm).2
      refine ⟨_, rfl, c.a, CC, c.dx, _, .ref c.la, rfl, hca x2, cl, nC _ (by simp), rfl, c.la, rfl, ⟨_, SqL.of (hla x2)⟩, ?_⟩
      refine for_list (K := K) (a := c.la) (xs := c.l.it.map V.str) (fun n σ H2 => ∃ (kvb : List (List L2.Key × V)) (u4 : Option V), σ = [some (.ref Dh), some (.ref LL), some (.ref DB), some (.ref c.a), u4] ∧ Hx H H2 [(DB, .dT kvb)] ∧ BrA kvb (cs.take j ++ [c.part n]) ∧ kvb.length ≤ 100 * j + n)
        ⟨kvb, _, rfl, x2, br.start c, by omega⟩ (fun n σ H2 _ ⟨_, _, _, x, _⟩ => SqL.of (hla x)) ?_ ?_
      · rintro n y σ H2 hn ⟨kvb, u4, rfl, x3, br, hkl⟩
        obtain ⟨i, hi, rfl⟩ := at_map hn
        have im := List.mem_of_getElem? hi
        have nl := (List.getElem?_eq_some_iff.mp hi).1
        have il := ok.itLen (lm c cm)
        obtain ⟨hm, hih⟩ : ∃ hm, (i, hm) ∈ g.homes := by
          have := (ok.lI c.l (lm c cm)).2 i im
          obtain ⟨z, hz, rfl⟩ := List.mem_map.mp this
          exact ⟨z.2, hz⟩
        have hval : valV (kvH g.homes) (Sum.inr i) = some (.str hm) := valV_map_in (f := fun h : Str × Str => h.1) (v := fun h : Str × Str => V.str h.2) ok.hN hih
        obtain ⟨w', hw1, hw2⟩ := ok.wL c.l (lm c cm) i im
        have nh : hm ≠ c.l.tgt := fun e => by
          have := ok.wH _ hih
          rw [show ((i, hm) : Str × Str).2 = c.l.tgt from e, hw2] at this
          have := congrArg List.length (Option.some.inj this)
          simp at this
        have nw : ∀ d ∈ cs.take j, ¬ (i ∈ d.l.it ∧ d.l.tgt = c.l.tgt) := fun d hd hh => by
          obtain ⟨k, hk⟩ := List.getElem?_of_mem hd
          rw [List.getElem?_take] at hk
          split at hk
          · rename_i kj
            have := ok.u k j d.l c.l i (by rw [hgl, List.getElem?_map, hk]; rfl) (by rw [hgl, List.getElem?_map, hc]; rfl) hh.2 hh.1 im
            omega
          · cases hk
        have nb : valV kvb (k2 i c.l.tgt) = none := br.out i c.l.tgt fun d hd hh => by
          rcases List.mem_append.mp hd with hd | hd
          · exact nw d hd hh
          · have e0 := List.mem_singleton.mp hd
            subst e0
            have h1 : i ∈ c.l.it.take n := hh.1
            have := List.nodup_append.mp (by rw [← take_snoc hi]; exact (ok.lI c.l (lm c cm)).1.sublist (List.take_sublist _ _) : (c.l.it.take n ++ [i]).Nodup)
            exact this.2.2 i h1 i (List.mem_singleton.mpr rfl) rfl
        refine ⟨_, rfl, _, rfl, Dh, .str hm, rfl, (by have z := DGet.k (k := Sum.inr i) (kp x3 _ _ hDh); rw [hval] at z; exact z), _, rfl, c.a, CC, c.dx, _, .str c.l.tgt, rfl, hca x3, cl, nC _ (by simp), rfl, rfl, _, rfl, ?_⟩
        rw [decide_eq_false (fun e => nh (V.str.inj e))]
        refine iteF ?_
        refine ⟨_, rfl, _, rfl, c.a, CC, c.dx, _, .str c.l.tgt, rfl, hca x3, cl, nC _ (by simp), rfl, (show 2 ≤ sizeLine by decide), fun T1 n1 => ?_⟩
        have x4 := x3.new (o := .tup [V.str i, .str c.l.tgt]) n1
        refine ⟨_, rfl, DB, _, rfl, DGet.t (k := k2 i c.l.tgt) (x4.get 0 rfl) upd_same, ?_⟩
        rw [nb]
        refine ⟨_, rfl, iteF ?_⟩
        generalize upd H2 T1 (.tup [V.str i, .str c.l.tgt]) = H3 at *
        refine ⟨_, rfl, _, rfl, _, rfl, _, rfl, c.a, CC, c.dx, _, .str c.l.tgt, rfl, hca x4, cl, nC _ (by simp), rfl, (show 2 ≤ sizeLine by decide), fun T2 n2 => ?_⟩
        have x5 := x4.new (o := .tup [V.str i, .str c.l.tgt]) n2
        refine ⟨DB, _, rfl, DPut.t (k := k2 i c.l.tgt) (x5.get 0 rfl) upd_same (size_ok (m := 100000) (by omega) (by decide)), ?_⟩
        exact ⟨_, _, rfl, x5.set 0 rfl, br.put hi nw, Nat.le_trans (putK_len _ _ _) (by omega)⟩
      · rintro σ H2 ⟨kvb, u4, rfl, x3, br, hkl⟩
        rw [List.length_map] at br hkl
        rw [c.part_all, ← take_snoc hc] at br
        have il := ok.itLen (lm c cm)
        exact ⟨kvb, _, _, rfl, x3, br, by omega⟩
    · rintro σ H1 ⟨kvb, u3, u4, rfl, x2, br, hkl⟩
      rw [List.length_map] at br hkl
      rw [List.take_length] at br
      have s2 := kp x2
      have hDB := x2.get 0 rfl
      refine ⟨_, rfl, LL, rfl, ⟨_, SqL.of (s2 _ _ hLL)⟩, ?_⟩
      refine for_list (K := K) (a := LL) (xs := cs.map fun c => V.ref c.a) (fun j σ H2 => ∃ (u3 u4 : Option V), σ = [some (.ref Dh), some (.ref LL), some (.ref DB), u3, u4] ∧ Same H1 H2) ⟨_, _, rfl, Same.refl _⟩ (fun j σ H2 _ ⟨_, _, _, s⟩ => SqL.of (s _ _ (s2 _ _ hLL))) ?_ ?_
      · rintro j y σ H2 hj ⟨u3, u4, rfl, s3⟩
        obtain ⟨c, hc, rfl⟩ := at_map hj
        have cm := List.mem_of_getElem? hc
        have hca : ∀ {H' : Hp}, Same H1 H' → H' c.a = some (.ins CC c.dx (cnF c)) := fun s => s _ _ (s2 _ _ (hcs c cm).1)
        have hla : ∀ {H' : Hp}, Same H1 H' → H' c.la = some (.lst (c.l.it.map V.str)) := fun s => s _ _ (s2 _ _ (hcs c cm).2)
        refine ⟨_, rfl, c.a, CC, c.dx, _, .ref c.la, rfl, hca s3, cl, nC _ (by simp), rfl, c.la, rfl, ⟨_, SqL.of (hla s3)⟩, ?_⟩
        refine for_list (K := K) (a := c.la) (xs := c.l.it.map V.str) (fun n σ H3 => ∃ (u4 : Option V), σ = [some (.ref Dh), some (.ref LL), some (.ref DB), some (.ref c.a), u4] ∧ Same H1 H3) ⟨_, rfl, s3⟩ (fun n σ H3 _ ⟨_, _, s⟩ => SqL.of (hla s)) ?_ ?_
        · rintro n y σ H3 hn ⟨u4, rfl, s4⟩
          obtain ⟨i, hi, rfl⟩ := at_map hn
          have im := List.mem_of_getElem? hi
          obtain ⟨hm, hih⟩ : ∃ hm, (i, hm) ∈ g.homes := by
            have := (ok.lI c.l (lm c cm)).2 i im
            obtain ⟨z, hz, rfl⟩ := List.mem_map.mp this
            exact ⟨z.2, hz⟩
          obtain ⟨w', hw1, hw2⟩ := ok.wL c.l (lm c cm) i im
          refine ⟨_, rfl, _, rfl, _, rfl, _, rfl, c.a, CC, c.dx, _, .str c.l.src, rfl, hca s4, cl, nC _ (by simp), rfl, Dh, DB, i, c.l.src, hm, g, cs, kvb, rfl, s4 _ _ (s2 _ _ hDh), s4 _ _ hDB, br, ok, hgl, hih, fun d hd => s4 _ _ (s2 _ _ (hcs d hd).1), cl, nC _ (by simp), nC _ (by simp), by omega, fun v hv L H' nL sL hL => ?_, fun e => (by rw [hw1] at e; cases e)⟩
          refine ⟨rfl, _, rfl, iteF ?_⟩
          exact ⟨_, rfl, s4.trans sL⟩
        · rintro σ H3 ⟨u4, rfl, s4⟩
          exact ⟨_, _, rfl, s4⟩
      · rintro σ H2 ⟨u3, u4, rfl, s3⟩
        walk_at "go"
        exact kQ DB H2 kvb nDB (s2.trans s3) (s3 _ _ hDB) br (by omega)
end

/-! ### Placement.__init__ (what is valid) -/
abbrev sPlI : Stmt := (inClass (top 32) 0)
theorem scPlI : FnScope ["self", "sites", "homes", "channels", "places", "seats", "name", "home", "lines", "row"] ["self", "sites", "homes", "channels"] (defScope sPlI) := ⟨rfl, rfl, rfl, by decide +kernel, rfl, by decide +kernel, by decide +kernel⟩
def plFs : List Str := ["places", "seats", "lines", "bringers"]
def spPlI (K : PySem.W.Frag) (CP CI CC : Addr) : Sp := fun vs H Q _ => ∃ (p dp LS LH LC : Addr) (hv cv : List V) (g : Gd), vs = [.ref p, .ref LS, .ref LH, .ref LC] ∧ H p = some (.ins CP dp []) ∧ Cls K CP ∧ (∀ f ∈ plFs, NoAttr K CP f) ∧
  SqL K H LS (g.sites.map V.str) ∧ SqL K H LH hv ∧ Pw (PsA H) hv g.homes ∧ SqL K H LC cv ∧ Pw (RwT H) cv g.lines ∧ (∀ l ∈ g.lines, l.it ≠ []) ∧ GdOk g ∧ GdNm g ∧ g.sites.length ≤ 100 ∧ g.goods.length ≤ 100 ∧ g.lines.length ≤ 100 ∧
  ∀ (H' : Hp) (s : PSt), s.p = p → s.dp = dp → s.places = g.sites → (s.seats.map fun i => (i.nm, i.st)) = g.homes → s.lines.map (·.l) = g.lines → PlA CP CI CC H H' s g.ways → s.kvb.length ≤ 10000 → (∀ z ∈ s.tbl CP CI CC, z.1 = p ∨ H z.1 = none) → Q .non H'
theorem set_head {α : Type} (a a' : α) (A3 B C : List α) (x y : α) : ((a :: A3 ++ (B ++ C)) ++ [x] ++ [y]).set 0 a' = a' :: A3 ++ (B ++ (C ++ [x] ++ [y])) := by simp
theorem pl_put (s : PSt) : putF "bringers" (V.ref s.DB) (putF "lines" (V.ref s.DL) (putF "seats" (V.ref s.DS) (putF "places" (V.ref s.LP) []))) = s.F := by
  show putF "bringers" (V.ref s.DB) (putF "lines" (V.ref s.DL) (putF "seats" (V.ref s.DS) [(("places" : Str), V.ref s.LP)])) = _
  rw [putF_ne (by decide +kernel)]
  show putF "bringers" (V.ref s.DB) (putF "lines" (V.ref s.DL) [(("places" : Str), V.ref s.LP), ("seats", V.ref s.DS)]) = _
  rw [putF_ne (by decide +kernel), putF_ne (by decide +kernel)]
  show putF "bringers" (V.ref s.DB) [(("places" : Str), V.ref s.LP), ("seats", V.ref s.DS), ("lines", V.ref s.DL)] = _
  rw [putF_ne (by decide +kernel), putF_ne (by decide +kernel), putF_ne (by decide +kernel)]
  rfl
section
variable {P : Program} {w : World} {K : PySem.W.Frag} {mg : Str → Option Value} {base : Heap}
theorem ok_plI {f CP CI CC CB CT CU CK : Addr} {fd : FuncData} {dv : List V} (F : FunD K "__init__" "Placement.__init__" (defArgs sPlI) (defBody sPlI) (defScope sPlI) dv [] f fd) (T : Bj mg) (g_checked_sites : Cal P w K mg base 2 "checked_sites" ["names"] (spCs K)) (g_check_name : Cal P w K mg base 1 "check_name" ["name", "taken"] (spCn K CB CT)) (g_check_known : Cal P w K mg base 1 "check_known" ["name", "known"] (spKn K CU))
    (g_check_channel : Cal P w K mg base 4 "check_channel" ["row", "sites", "items", "taken"] (spCc K)) (g_Item : Mak P w K mg base 1 "Item" CI ["self", "owner", "name", "seat"] (spItI K CI)) (g_Channel : Mak P w K mg base 4 "Channel" CC ["self", "name", "source", "target", "items", "late"] (spChI K CK))
    (g_homes_of : Cal P w K mg base 1 "homes_of" ["seats"] (spHm K CI)) (g_bringers_of : Cal P w K mg base 2 "bringers_of" ["homes", "lines"] (spBr K CC)) (cI : Cls K CI) (nI : ∀ f ∈ (["owner", "name", "seat"] : List Str), NoAttr K CI f) (cC : Cls K CC) (nC : ∀ f ∈ (["source", "target", "names", "name", "kind"] : List Str), NoAttr K CC f) :
    FnOk P w K mg base (L2.CX P w) 6 f fd ["self", "sites", "homes", "channels"] (spPlI K CP CI CC) := by
  refine F.ok scPlI (fun vs H Q E h => ?_) (fun cdv A outer s H vs Q E hr h => ?_)
  · obtain ⟨p, dp, LS, LH, LC, hv, cv, g, rfl, _⟩ := h
    rfl
  · obtain ⟨p, dp, LS, LH, LC, hv, cv, g, rfl, hp, cl, nP, hLS, hLH, ph, hLC, pc, hne, ok, nm, z1, z2, z3, kQ⟩ := h
    have nd := scPlI.nd
    have hu := hu_of hr
    refine ⟨_, (pss_cons (ps_set (i := 4) nd rfl (Or.inl rfl) (pe_cal g_checked_sites hr takes0 (pa_cons (pv 1) pa_nil)))
      (pss_cons (ps_set (i := 5) nd rfl (Or.inl rfl) pe_dnewK)
      (pss_cons (ps_for (passes_of rfl) rfl (pi_list (pv 2)) (pg_tup rfl (pgs_cons (pg_name (i := 6) nd rfl (Or.inl rfl)) (pgs_cons (pg_name (i := 7) nd rfl (Or.inl rfl)) pgs_nil))) (pss_cons (ps_expr (pe_cal g_check_name hr takes0 (pa_cons (pv 6) (pa_cons (pv 5) pa_nil))))
        (pss_cons (ps_expr (pe_cal g_check_known hr takes0 (pa_cons (pv 7) (pa_cons (pv 4) pa_nil))))
        (pss_one (ps_dput hu (pv 5) (pv 6) (pe_mak g_Item hr takes0 (pa_cons (pv 0) (pa_cons (pv 6) (pa_cons (pv 7) pa_nil)))) rfl)))))
      (pss_cons (ps_set (i := 8) nd rfl (Or.inl rfl) pe_dnewK)
      (pss_cons (ps_for (passes_of rfl) rfl (pi_list (pv 3)) (pg_name (i := 9) nd rfl (Or.inl rfl)) (pss_cons (ps_expr (pe_cal g_check_channel hr takes0 (pa_cons (pv 9) (pa_cons (pv 4) (pa_cons (pv 5) (pa_cons (pv 8) pa_nil))))))
        (pss_one (ps_dput hu (pv 8) (pe_ix ix_tup (pv 9) pe_int (fun _ _ => rfl)) (pe_mak g_Channel hr takes0 (pa_cons (pe_ix ix_tup (pv 9) pe_int (fun _ _ => rfl)) (pa_cons (pe_ix ix_tup (pv 9) pe_int (fun _ _ => rfl)) (pa_cons (pe_ix ix_tup (pv 9) pe_int (fun _ _ => rfl)) (pa_cons (pe_ix ix_tup (pv 9) pe_int (fun _ _ => rfl)) (pa_cons (pe_ix ix_tup (pv 9) pe_int (fun _ _ => rfl)) pa_nil)))))) rfl))))
      (pss_cons (ps_fld (pv 0) (pv 4) rfl)
      (pss_cons (ps_fld (pv 0) (pv 5) rfl)
      (pss_cons (ps_fld (pv 0) (pv 8) rfl)
      (pss_one (ps_fld (pv 0) (pe_cal g_bringers_of hr takes0 (pa_cons (pe_cal g_homes_of hr takes0 (pa_cons (pv 5) pa_nil)) (pa_cons (pe_listVals rfl (pv 8) (by rfl) T.list) pa_nil))) rfl)))))))))), ?_⟩
    refine ⟨_, rfl, LS, g.sites, rfl, hLS, ok.sN, fun x hx => (nm.s x hx).1, by omega, fun LP nLP => ?_⟩
    have x0 : Hx H H [(p, .ins CP dp [])] := (Hx.refl H).own hp (fun z hz => by cases hz)
    have x1 := x0.push (o := .lst (g.sites.map V.str)) nLP
    have H0LP : H LP = none := nLP
    refine fun DS nDS => ?_
    have H0DS := x1.fresh nDS
    have x2 := x1.push (o := .dK []) nDS
    clear x0 x1
    refine ⟨_, rfl, LH, rfl, ⟨_, (x2.keep2 (by simp [H0LP, H0DS, hp])).seq hLH⟩, ?_⟩
    have kp : ∀ {H' : Hp} {o : HO} {ss : List Seat}, Hx H H' ([(DS, o), (LP, .lst (g.sites.map V.str)), (p, .ins CP dp [])] ++ seT CI p ss) → (∀ i ∈ ss, H i.a = none) → Same H H' := fun x n => x.keep2 fun z hz => by
      rcases List.mem_append.mp hz with hz | hz
      · simp only [List.mem_cons, List.not_mem_nil, or_false] at hz
        rcases hz with rfl | rfl | rfl
        · exact .inl H0DS
        · exact .inl H0LP
        · exact .inr hp
      · obtain ⟨i, hi, rfl⟩ := List.mem_map.mp hz
        exact .inl (n i hi)
    refine for_list (K := K) (a := LH) (xs := hv) (fun j σ H1 => ∃ (ss : List Seat) (u6 u7 : Option V), σ = [some (.ref p), some (.ref LS), some (.ref LH), some (.ref LC), some (.ref LP), some (.ref DS), u6, u7, none, none] ∧
        Hx H H1 ([(DS, .dK (kvS ss)), (LP, .lst (g.sites.map V.str)), (p, .ins CP dp [])] ++ seT CI p ss) ∧ (ss.map fun i => (i.nm, i.st)) = g.homes.take j ∧ ∀ i ∈ ss, H i.a = none)
      ⟨[], none, none, rfl, x2, by rw [List.take_zero]; rfl, fun _ h => (by cases h)⟩ (fun j σ H1 _ ⟨_, _, _, _, x, _, n⟩ => (kp x n).seq hLH) ?_ ?_
    · rintro j y σ H1 hj ⟨ss, u6, u7, rfl, x3, he, hn⟩
      have s1 := kp x3 hn
      obtain ⟨⟨n, hm⟩, hh, t, rfl, ht⟩ := ph.get hj
      have ht1 := s1 _ _ ht
      have jl := (List.getElem?_eq_some_iff.mp hh).1
      have hmem := List.mem_of_getElem? hh
      have en : ss.map (·.nm) = (g.homes.take j).map (·.1) := by rw [← he, List.map_map]; rfl
      have nn : n ∉ ss.map (·.nm) := fun h => by
        rw [en] at h
        have := List.nodup_append.mp (by rw [← List.map_singleton (f := fun h : Str × Str => h.1) (a := (n, hm)), ← List.map_append, ← take_snoc hh]; exact ok.hN.sublist ((List.take_sublist _ _).map _) : ((g.homes.take j).map (fun h => h.1) ++ [n]).Nodup)
        exact this.2.2 n h n (List.mem_singleton.mpr rfl) rfl
      have sl : ss.length ≤ 100 := by
        have := congrArg List.length he
        have h2 : g.goods.length = g.homes.length := List.length_map _
        rw [List.length_map, List.length_take] at this
        omega
      have nmn := nm.i n (List.mem_map.mpr ⟨_, hmem, rfl⟩)
      refine ⟨t, _, rfl, .inl (.inl ht1), rfl, _, _, rfl, _, _, rfl, rfl, ?_⟩
      refine ⟨_, rfl, _, rfl, n, DS, fun x => decide (x ∈ ss.map (·.nm)), rfl, .inr ⟨kvS ss, .inl (x3.get 0 rfl), fun x => (valV_map_isSome x).symm⟩, nm_size nmn.1, fun _ _ => ?_, fun h => absurd nmn.1 h, fun _ h => absurd (of_decide_eq_true h) nn⟩
      refine ⟨_, rfl, _, rfl, hm, LP, fun x => decide (x ∈ g.sites), rfl, .inl ⟨_, SqL.of (x3.get 1 rfl), fun _ => rfl⟩, fun _ => ?_, fun h => absurd (ok.hS _ hmem) (of_decide_eq_false h)⟩
      refine ⟨_, rfl, _, rfl, _, rfl, fun x dx nx ndx nex => ?_⟩
      refine ⟨x, p, dx, n, hm, rfl, upd_same, cI, nI _ (by simp), nI _ (by simp), nI _ (by simp), rfl, ?_⟩
      rw [upd_upd]
      have x4 := x3.new (o := .own x) ndx
      have nx2 : (upd H1 dx (.own x)) x = none := by rw [upd_ne (Ne.symm nex)]; exact nx
      have x5 := x4.snoc (o := .ins CI dx (seatF p ⟨n, hm, x, dx⟩)) nx2
      refine ⟨_, rfl, _, rfl, DS, _, rfl, DPut.k (k := Sum.inr n) (x5.get 0 rfl) (size_ok (m := 1000) (by unfold kvS; rw [List.length_map]; omega) (by decide)), ?_⟩
      have x6 := x5.set (o' := .dK (putK (kvS ss) (Sum.inr n) (.ref x))) 0 rfl
      have ek : putK (kvS ss) (Sum.inr n) (.ref x) = kvS (ss ++ [⟨n, hm, x, dx⟩]) := by
        have hn0 : valV (kvS ss) (Sum.inr n) = none := valV_map_out (f := fun i : Seat => i.nm) (v := fun i : Seat => V.ref i.a) nn
        rw [putK_new hn0]
        unfold kvS
        rw [List.map_append]
        rfl
      rw [ek] at x6 ⊢
      refine ⟨ss ++ [⟨n, hm, x, dx⟩], _, _, rfl, ?_, ?_, fun i hi => ?_⟩
      · rw [seT_snoc]
        exact x6
      · rw [List.map_append, he, take_snoc hh]
        rfl
      · rcases List.mem_append.mp hi with hi | hi
        · exact hn i hi
        · rw [List.mem_singleton.mp hi]
          exact x4.fresh nx2
    · rintro σ H1 ⟨ss, u6, u7, rfl, x3, he, hn⟩
      rw [ph.len, List.take_length] at he
      have sl : ss.length ≤ 100 := by
        have := congrArg List.length he
        have h2 : g.goods.length = g.homes.length := List.length_map _
        rw [List.length_map] at this
        omega
      clear kp x2
      refine fun DL nDL => ?_
      have H0DL := x3.fresh nDL
      have x4 := x3.push (o := .dK []) nDL
      have kp : ∀ {H' : Hp} {o : HO} {cs : List Cn}, Hx H H' ([(DL, o), (DS, .dK (kvS ss)), (LP, .lst (g.sites.map V.str)), (p, .ins CP dp [])] ++ (seT CI p ss ++ chT CC cs)) → (∀ c ∈ cs, H c.a = none ∧ H c.la = none) → Same H H' := fun x n => x.keep2 fun z hz => by
        rcases List.mem_append.mp hz with hz | hz
        · simp only [List.mem_cons, List.not_mem_nil, or_false] at hz
          rcases hz with rfl | rfl | rfl | rfl
          · exact .inl H0DL
          · exact .inl H0DS
          · exact .inl H0LP
          · exact .inr hp
        · rcases List.mem_append.mp hz with hz | hz
          · obtain ⟨i, hi, rfl⟩ := List.mem_map.mp hz
            exact .inl (hn i hi)
          · obtain ⟨c, hc, hz⟩ := List.mem_flatMap.mp hz
            simp only [List.mem_cons, List.not_mem_nil, or_false] at hz
            rcases hz with rfl | rfl
            · exact .inl (n c hc).1
            · exact .inl (n c hc).2
      have x4' : Hx H (upd H1 DL (.dK [])) ([(DL, .dK (kvL [])), (DS, .dK (kvS ss)), (LP, .lst (g.sites.map V.str)), (p, .ins CP dp [])] ++ (seT CI p ss ++ chT CC [])) := by
        rw [show chT CC [] = [] from rfl, List.append_nil]
        exact x4
      refine ⟨_, rfl, LC, rfl, ⟨_, (kp x4' (fun _ h => by cases h)).seq hLC⟩, ?_⟩
      refine for_list (K := K) (a := LC) (xs := cv) (fun j σ H2 => ∃ (cs : List Cn) (u9 : Option V), σ = [some (.ref p), some (.ref LS), some (.ref LH), some (.ref LC), some (.ref LP), some (.ref DS), u6, u7, some (.ref DL), u9] ∧
          Hx H H2 ([(DL, .dK (kvL cs)), (DS, .dK (kvS ss)), (LP, .lst (g.sites.map V.str)), (p, .ins CP dp [])] ++ (seT CI p ss ++ chT CC cs)) ∧ cs.map (·.l) = g.lines.take j ∧ ∀ c ∈ cs, H c.a = none ∧ H c.la = none)
        ⟨[], none, rfl, x4', by rw [List.take_zero]; rfl, fun _ h => (by cases h)⟩ (fun j σ H2 _ ⟨_, _, _, x, _, n⟩ => (kp x n).seq hLC) ?_ ?_
      · rintro j y σ H2 hj ⟨cs, u9, rfl, x5, hce, hcn⟩
        have s2 := kp x5 hcn
        obtain ⟨l, hl, t, a, rfl, ht, ha⟩ := pc.get hj
        have ht2 := s2 _ _ ht
        have ha2 := s2 _ _ ha
        have lm := List.mem_of_getElem? hl
        have jl := (List.getElem?_eq_some_iff.mp hl).1
        have en : cs.map (·.l.nm) = (g.lines.take j).map (·.nm) := by rw [← hce, List.map_map]; rfl
        have nn : l.nm ∉ cs.map (·.l.nm) := fun h => by
          rw [en] at h
          have := List.nodup_append.mp (by rw [← List.map_singleton (f := fun l : Ln => l.nm) (a := l), ← List.map_append, ← take_snoc hl]; exact ok.lN.sublist ((List.take_sublist _ _).map _) : ((g.lines.take j).map (fun l => l.nm) ++ [l.nm]).Nodup)
          exact this.2.2 l.nm h l.nm (List.mem_singleton.mpr rfl) rfl
        have cl' : cs.length ≤ 100 := by
          have := congrArg List.length hce
          rw [List.length_map, List.length_take] at this
          omega
        have nml := nm.l l lm
        obtain ⟨e1, e2, e3⟩ := ok.lE l lm
        obtain ⟨e4, e5⟩ := ok.lI l lm
        have il := ok.itLen lm
        refine ⟨_, rfl, _, rfl, _, rfl, _, rfl, t, LP, DS, DL, a, l, fun x => decide (x ∈ g.sites), fun x => decide (x ∈ ss.map (·.nm)), fun x => decide (x ∈ cs.map (·.l.nm)), rfl, ht2, SqL.of ha2, .inl ⟨_, SqL.of (x5.get 2 rfl), fun _ => rfl⟩, .inr ⟨kvS ss, .inl (x5.get 1 rfl), fun x => (valV_map_isSome x).symm⟩, .inr ⟨kvL cs, .inl (x5.get 0 rfl), fun x => (valV_map_isSome (f := fun c : Cn => c.l.nm) x).symm⟩,
          nml.1, decide_eq_false nn, decide_eq_true e1, decide_eq_true e2, e3, hne l lm, e4, by omega, fun i hi => decide_eq_true ?_, nml.2.2, fun H3 s3 => ?_⟩
        · have := e5 i hi
          rw [show ss.map (·.nm) = g.goods from by unfold Gd.goods; rw [← he, List.map_map]; rfl]
          exact this
        have x6 := x5.same s3
        have ht3 := s3 _ _ ht2
        have ha3 := s3 _ _ ha2
        clear x5 s2 ht2 ha2
        refine ⟨_, rfl, t, _, _, _, rfl, rfl, .inl (.inl ht3), (show atI (rwV l a) 0 = some (.str l.nm) from rfl), ?_⟩
        refine ⟨_, rfl, t, _, _, _, rfl, rfl, .inl (.inl ht3), (show atI (rwV l a) 1 = some (.str l.src) from rfl), ?_⟩
        refine ⟨_, rfl, t, _, _, _, rfl, rfl, .inl (.inl ht3), (show atI (rwV l a) 2 = some (.str l.tgt) from rfl), ?_⟩
        refine ⟨_, rfl, t, _, _, _, rfl, rfl, .inl (.inl ht3), (show atI (rwV l a) 3 = some (.ref a) from rfl), ?_⟩
        refine ⟨_, rfl, t, _, _, _, rfl, rfl, .inl (.inl ht3), (show atI (rwV l a) 4 = some (kindV l.kd) from rfl), fun pC dC npC ndC neC => ?_⟩
        have apC : a ≠ pC := ne_of_none ha3 npC
        have adC : a ≠ dC := ne_of_none ha3 ndC
        refine ⟨pC, CC, dC, a, _, _, _, l.it.map V.str, l.kd, rfl, upd_same, cC, nC _ (by simp), nC _ (by simp), nC _ (by simp), nC _ (by simp), nC _ (by simp), .inl (SqL.of (by rw [upd_ne apC, upd_ne adC]; exact ha3)), apC, fun h => (h nml.2.2).elim, fun _ la hla => ⟨rfl, ?_⟩⟩
        have lpC : la ≠ pC := fun e => by rw [e, upd_same] at hla; cases hla
        have hla2 : (upd H3 dC (.own pC)) la = none := by rw [upd_ne lpC] at hla; exact hla
        have npC2 : (upd H3 dC (.own pC)) pC = none := by rw [upd_ne (Ne.symm neC)]; exact npC
        rw [upd_swap lpC, upd_upd]
        have x7 := x6.new (o := .own pC) ndC
        have x8 := x7.snoc (o := .ins CC dC (chF (.str l.src) (.str l.tgt) la (.str l.nm) (kindV l.kd))) npC2
        have x9 := x8.snoc (T := la) (o := .lst (l.it.map V.str)) (by rw [upd_ne lpC]; exact hla2)
        have H0C := x7.fresh npC2
        have H0l := x7.fresh hla2
        have s9 := (((Same.refl H3).new (o := .own pC) ndC).new (o := .ins CC dC (chF (.str l.src) (.str l.tgt) la (.str l.nm) (kindV l.kd))) npC2).new (p := la) (o := .lst (l.it.map V.str)) (by rw [upd_ne lpC]; exact hla2)
        have ht9 := s9 _ _ ht3
        refine ⟨_, rfl, _, rfl, t, _, _, _, rfl, rfl, .inl (.inl ht9), (show atI (rwV l a) 0 = some (.str l.nm) from rfl), DL, _, rfl, DPut.k (k := Sum.inr l.nm) (x9.get 0 rfl) (size_ok (m := 1000) (by unfold kvL; rw [List.length_map]; omega) (by decide)), ?_⟩
        have x10 := x9.set (o' := .dK (putK (kvL cs) (Sum.inr l.nm) (.ref pC))) 0 rfl
        have ek : putK (kvL cs) (Sum.inr l.nm) (.ref pC) = kvL (cs ++ [⟨l, pC, dC, la⟩]) := by
          have hn0 : valV (kvL cs) (Sum.inr l.nm) = none := valV_map_out (f := fun c : Cn => c.l.nm) (v := fun c : Cn => V.ref c.a) nn
          rw [putK_new hn0]
          unfold kvL
          rw [List.map_append]
          rfl
        rw [ek] at x10 ⊢
        refine ⟨cs ++ [⟨l, pC, dC, la⟩], _, rfl, ?_, ?_, fun c hc => ?_⟩
        · rw [chT_snoc]
          rw [set_head] at x10
          exact x10
        · rw [List.map_append, hce, take_snoc hl]
          rfl
        · rcases List.mem_append.mp hc with hc | hc
          · exact hcn c hc
          · rw [List.mem_singleton.mp hc]
            exact ⟨H0C, H0l⟩
      · rintro σ H2 ⟨cs, u9, rfl, x5, hce, hcn⟩
        rw [pc.len, List.take_length] at hce
        have clen : cs.length ≤ 100 := by
          have := congrArg List.length hce
          rw [List.length_map] at this
          omega
        have gh : (ss.map fun i => (i.nm, i.st)) = g.homes := he
        have sfr : ∀ z ∈ ([(DL, HO.dK (kvL cs)), (DS, .dK (kvS ss)), (LP, .lst (g.sites.map V.str)), (p, .ins CP dp [])] ++ (seT CI p ss ++ chT CC cs)), z.1 = p ∨ H z.1 = none := fun z hz => by
          rcases List.mem_append.mp hz with hz | hz
          · simp only [List.mem_cons, List.not_mem_nil, or_false] at hz
            rcases hz with rfl | rfl | rfl | rfl
            · exact .inr H0DL
            · exact .inr H0DS
            · exact .inr H0LP
            · exact .inl rfl
          · rcases List.mem_append.mp hz with hz | hz
            · obtain ⟨i, hi, rfl⟩ := List.mem_map.mp hz
              exact .inr (hn i hi)
            · obtain ⟨c, hc, hz⟩ := List.mem_flatMap.mp hz
              simp only [List.mem_cons, List.not_mem_nil, or_false] at hz
              rcases hz with rfl | rfl
              · exact .inr (hcn c hc).1
              · exact .inr (hcn c hc).2
        refine ⟨_, rfl, _, rfl, p, CP, dp, [], rfl, x5.get 3 rfl, cl, nP _ (by simp [plFs]), by decide, ?_⟩
        have x6 := x5.set (o' := .ins CP dp (putF "places" (.ref LP) [])) 3 rfl
        have pl1 : (putF "places" (V.ref LP) []).length ≤ 1 := putF_len _ _ _
        have pl2 : (putF "seats" (V.ref DS) (putF "places" (V.ref LP) [])).length ≤ 2 := Nat.le_trans (putF_len _ _ _) (by omega)
        have pl3 : (putF "lines" (V.ref DL) (putF "seats" (V.ref DS) (putF "places" (V.ref LP) []))).length ≤ 3 := Nat.le_trans (putF_len _ _ _) (by omega)
        refine ⟨_, rfl, _, rfl, p, CP, dp, _, rfl, upd_same, cl, nP _ (by simp [plFs]), by omega, ?_⟩
        have x7 := x6.set (o' := .ins CP dp (putF "seats" (.ref DS) (putF "places" (.ref LP) []))) 3 rfl
        refine ⟨_, rfl, _, rfl, p, CP, dp, _, rfl, upd_same, cl, nP _ (by simp [plFs]), by omega, ?_⟩
        have x8 := x7.set (o' := .ins CP dp (putF "lines" (.ref DL) (putF "seats" (.ref DS) (putF "places" (.ref LP) [])))) 3 rfl
        have x8 : Hx H _ ([(DL, .dK (kvL cs)), (DS, .dK (kvS ss)), (LP, .lst (g.sites.map V.str)), (p, .ins CP dp (putF "lines" (.ref DL) (putF "seats" (.ref DS) (putF "places" (.ref LP) []))))] ++ (seT CI p ss ++ chT CC cs)) := x8
        clear x5 x6 x7
        generalize upd (upd (upd H2 p (.ins CP dp (putF "places" (.ref LP) []))) p (.ins CP dp (putF "seats" (.ref DS) (putF "places" (.ref LP) [])))) p (.ins CP dp (putF "lines" (.ref DL) (putF "seats" (.ref DS) (putF "places" (.ref LP) [])))) = H3 at *
        have hse : ∀ i ∈ ss, H3 i.a = some (.ins CI i.dx (seatF p i)) := fun i hi => x8.at_ (i.a, .ins CI i.dx (seatF p i)) (List.mem_append_right _ (List.mem_append_left _ (seT_mem hi)))
        have hch : ∀ c ∈ cs, H3 c.a = some (.ins CC c.dx (cnF c)) ∧ H3 c.la = some (.lst (c.l.it.map V.str)) := fun c hc => ⟨x8.at_ (c.a, .ins CC c.dx (cnF c)) (List.mem_append_right _ (List.mem_append_right _ (chT_mem hc).1)), x8.at_ (c.la, .lst (c.l.it.map V.str)) (List.mem_append_right _ (List.mem_append_right _ (chT_mem hc).2))⟩
        refine ⟨_, rfl, DS, p, ss, rfl, x8.get 1 rfl, hse, ?_, cI, nI _ (by simp), by omega, fun D nD => ?_⟩
        · have := ok.hN
          unfold Gd.goods at this
          rw [← gh, List.map_map] at this
          exact this
        have sD : Same H3 (upd H3 D (.dK (kvH (ss.map fun s => (s.nm, s.st))))) := (Same.refl _).new nD
        have hD : (upd H3 D (.dK (kvH (ss.map fun s => (s.nm, s.st))))) D = some (.dK (kvH g.homes)) := by rw [upd_same, gh]
        generalize upd H3 D (.dK (kvH (ss.map fun s => (s.nm, s.st)))) = H4 at *
        refine ⟨_, rfl, DL, _, rfl, sD _ _ (x8.get 0 rfl), fun LL nLL => ?_⟩
        have sL : Same H4 (upd H4 LL (.lst ((kvL cs).map (·.2)))) := (Same.refl _).new nLL
        have eL : (kvL cs).map (·.2) = cs.map fun c => V.ref c.a := by unfold kvL; rw [List.map_map]; rfl
        have hL : (upd H4 LL (.lst ((kvL cs).map (·.2)))) LL = some (.lst (cs.map fun c => V.ref c.a)) := by rw [upd_same, eL]
        generalize upd H4 LL (.lst ((kvL cs).map (·.2))) = H5 at *
        have s5 := sD.trans sL
        refine ⟨D, LL, g, cs, rfl, sL _ _ hD, hL, ok, hce.symm, fun c hc => ⟨s5 _ _ (hch c hc).1, s5 _ _ (hch c hc).2⟩, cC, nC, z3, z2, fun DB H6 kvb nDB s6 hDB br hkl => ?_⟩
        have x9 := x8.same (s5.trans s6)
        have H0DB := (x8.same s5).fresh nDB
        have x10 := x9.own hDB fun z hz => ne_of_none ((x8.same s5).at_ z hz) nDB
        refine ⟨_, rfl, p, CP, dp, _, rfl, x10.get 4 rfl, cl, nP _ (by simp [plFs]), by omega, ?_⟩
        have x11 := x10.set (o' := .ins CP dp (putF "bringers" (.ref DB) (putF "lines" (.ref DL) (putF "seats" (.ref DS) (putF "places" (.ref LP) []))))) 4 rfl
        have eF := pl_put ⟨p, dp, LP, DS, DL, DB, g.sites, ss, cs, kvb⟩
        dsimp only at eF
        rw [eF] at x11 ⊢
        refine kQ _ ⟨p, dp, LP, DS, DL, DB, g.sites, ss, cs, kvb⟩ rfl rfl rfl gh hce ⟨x11, br, ?_⟩ hkl fun z hz => ?_
        · have e : (PSt.g ⟨p, dp, LP, DS, DL, DB, g.sites, ss, cs, kvb⟩ g.ways) = g := by
            unfold PSt.g
            rw [gh, hce]
          rw [e]
          exact ok
        · rcases List.mem_cons.mp hz with rfl | hz
          · exact .inr H0DB
          · rcases List.mem_append.mp (show z ∈ [(DL, HO.dK (kvL cs)), (DS, .dK (kvS ss)), (LP, .lst (g.sites.map V.str)), (p, .ins CP dp (PSt.F ⟨p, dp, LP, DS, DL, DB, g.sites, ss, cs, kvb⟩))] ++ (seT CI p ss ++ chT CC cs) from hz) with hz | hz
            · simp only [List.mem_cons, List.not_mem_nil, or_false] at hz
              rcases hz with rfl | rfl | rfl | rfl
              · exact .inr H0DL
              · exact .inr H0DS
              · exact .inr H0LP
              · exact .inl rfl
            · exact sfr z (List.mem_append_right _ hz)
end

/-! ### _law_build -/
abbrev sBu : Stmt := (top 39)
theorem scBu : FnScope ["_law_rows_here", "_law_channels", "_law_row"] ["_law_rows_here"] (defScope sBu) := ⟨rfl, rfl, rfl, by decide +kernel, rfl, by decide +kernel, by decide +kernel⟩
/-- a placement as made of the ground g -/
structure Plm (CP CI CC : Addr) (H H' : Hp) (s : PSt) (g : Gd) : Prop where
  pl : PlA CP CI CC H H' s g.ways
  eS : s.places = g.sites
  eH : (s.seats.map fun i => (i.nm, i.st)) = g.homes
  eL : s.lines.map (·.l) = g.lines
  kz : s.kvb.length ≤ 10000
  fr : ∀ z ∈ s.tbl CP CI CC, H z.1 = none
def spBu (CP CI CC : Addr) : Sp := fun vs H Q _ => ∃ (T S HM CH W : Addr) (as : List Addr) (kvs : List (List L2.Key × V)) (g : Gd), vs = [.ref T] ∧ GdA H T S HM CH W as kvs g ∧ GdOk g ∧ GdNm g ∧ (∀ l ∈ g.lines, l.it ≠ []) ∧ g.sites.length ≤ 100 ∧ g.goods.length ≤ 100 ∧ g.lines.length ≤ 100 ∧
  ∀ (H' : Hp) (s : PSt), Plm CP CI CC H H' s g → Q (.ref s.p) H'
section
variable {P : Program} {w : World} {K : PySem.W.Frag} {mg : Str → Option Value} {base : Heap}
theorem ok_bu {f CP CI CC : Addr} {fd : FuncData} (F : FnP K "_law_build" sBu f fd) (T : Bj mg) (g_Placement : Mak P w K mg base 6 "Placement" CP ["self", "sites", "homes", "channels"] (spPlI K CP CI CC)) (cP : Cls K CP) (nP : ∀ f ∈ plFs, NoAttr K CP f) :
    FnOk P w K mg base (L2.CX P w) 8 f fd ["_law_rows_here"] (spBu CP CI CC) := by
  refine F.ok scBu (fun vs H Q E h => ?_) (fun cdv A outer s H vs Q E hr h => ?_)
  · obtain ⟨T, S, HM, CH, W, as, kvs, g, rfl, _⟩ := h
    rfl
  · obtain ⟨T1, S, HM, CH, W, as, kvs, g, rfl, gd, ok, nm, hne, z1, z2, z3, kQ⟩ := h
    have nd := scBu.nd
    refine ⟨_, (pss_cons (ps_setLc (i := 1) (own := [("_law_row", 2)]) (g := gName 2) (tt := tYes) (by rfl) nd rfl rfl (sw_true rfl rfl rfl (by decide +kernel)) (pi_list (pe_ix ix_tup (pv 0) pe_int (fun _ _ => rfl))) (blkOk_by (own := [("_law_row", 2)]) (N := ["_law_rows_here", "_law_channels", "_law_row"]) (sc := defScope sBu) (by decide +kernel)) (fun _ _ _ _ _ => (pg_name (i := 2) nd rfl (Or.inl rfl))) (fun _ _ _ _ _ => pts_nil) (fun _ _ _ _ _ => (pe_tup (pa_cons (pe_ix (show IxR _ (rIxT K) from ix_tup) (pv 2) pe_int (fun _ _ => rfl)) (pa_cons (pe_ix (show IxR _ (rIxT K) from ix_tup) (pv 2) pe_int (fun _ _ => rfl)) (pa_cons (pe_ix (show IxR _ (rIxT K) from ix_tup) (pv 2) pe_int (fun _ _ => rfl)) (pa_cons (pe_callTy (show CallR _ (.type "list") (rLof K) from call_list_ofK) (by rfl) T.list (by decide +kernel) (pa_cons (pe_ix (show IxR _ (rIxT K) from ix_tup) (pv 2) pe_int (fun _ _ => rfl)) pa_nil)) (pa_cons (pe_ix (show IxR _ (rIxT K) from ix_tup) (pv 2) pe_int (fun _ _ => rfl)) pa_nil))))))))
      (pss_one (ps_ret (pe_mak g_Placement hr takes0 (pa_cons (pe_callTy call_list_of (by rfl) T.list (by decide +kernel) (pa_cons (pe_ix ix_tup (pv 0) pe_int (fun _ _ => rfl)) pa_nil)) (pa_cons (pe_callTy call_list_of (by rfl) T.list (by decide +kernel) (pa_cons (pe_ix ix_tup (pv 0) pe_int (fun _ _ => rfl)) pa_nil)) (pa_cons (pv 1) pa_nil))))))), ?_⟩
    have hT := cut_all _ _ gd.t
    have hS := cut_all _ _ gd.s
    obtain ⟨hv, hHM, ph⟩ := gd.h
    obtain ⟨cs, hCH, csl, hcs⟩ := gd.c
    refine ⟨_, rfl, T1, _, _, _, rfl, rfl, .inl (.inl hT), (show atI [V.ref S, .ref HM, .ref CH, .ref W] 2 = some (.ref CH) from rfl), CH, rfl, ⟨_, SqL.of (cut_all _ _ hCH)⟩, fun D nD => ?_⟩
    refine lc_list (K := K) (a := CH) (xs := cs) (fun i H1 => ∃ us, GS RwT H D H1 us (g.lines.take i)) ⟨[], GS.start nD⟩ (fun i H1 _ ⟨_, f⟩ => SqL.of (f.s _ _ (cut_all _ _ hCH))) ?_ ?_
    · rintro i y H1 hi ⟨us, f⟩
      have il := (List.getElem?_eq_some_iff.mp hi).1
      obtain ⟨l, hl⟩ : ∃ l, g.lines[i]? = some l := ⟨_, List.getElem?_eq_getElem (by omega)⟩
      obtain ⟨a, ha⟩ : ∃ a, as[i]? = some a := ⟨_, List.getElem?_eq_getElem (by rw [gd.al]; omega)⟩
      obtain ⟨r, hr1, hr2⟩ := hcs i l a hl ha
      rw [hi] at hr1
      cases hr1
      have hr3 := f.s _ _ (cut_all _ _ hr2)
      have ha3 := f.s _ _ (gd.i i l a hl ha)
      refine ⟨rfl, tYes_if ?_⟩
      refine ⟨_, rfl, r, _, _, _, rfl, rfl, .inl (.inl hr3), (show atI (rwV l a) 0 = some (.str l.nm) from rfl), ?_⟩
      refine ⟨_, rfl, r, _, _, _, rfl, rfl, .inl (.inl hr3), (show atI (rwV l a) 1 = some (.str l.src) from rfl), ?_⟩
      refine ⟨_, rfl, r, _, _, _, rfl, rfl, .inl (.inl hr3), (show atI (rwV l a) 2 = some (.str l.tgt) from rfl), ?_⟩
      refine ⟨_, rfl, r, _, _, _, rfl, rfl, .inl (.inl hr3), (show atI (rwV l a) 3 = some (.ref a) from rfl), a, _, rfl, .inl (SqL.of ha3), fun b nb => ?_⟩
      have f2 := f.new stRwT (o := .lst (l.it.map V.str)) nb
      have hr4 : (upd H1 b (.lst (l.it.map V.str))) r = some (.tup (rwV l a)) := (Same.refl _).new nb _ _ hr3
      have hb : (upd H1 b (.lst (l.it.map V.str))) b = some (.lst (l.it.map V.str)) := upd_same
      have bD : b ≠ D := fun e => by rw [e, f.hL] at nb; cases nb
      generalize upd H1 b (.lst (l.it.map V.str)) = H2 at *
      refine ⟨_, rfl, r, _, _, _, rfl, rfl, .inl (.inl hr4), (show atI (rwV l a) 4 = some (kindV l.kd) from rfl), (show 5 ≤ sizeLine by decide), fun T2 n2 => ?_⟩
      have f3 := f2.new stRwT (o := .tup (rwV l b)) n2
      have hT2 : (upd H2 T2 (.tup (rwV l b))) T2 = some (.tup (rwV l b)) := upd_same
      have hb3 : (upd H2 T2 (.tup (rwV l b))) b = some (.lst (l.it.map V.str)) := (Same.refl _).new n2 _ _ hb
      have := f.pw.len
      rw [List.length_take] at this
      refine ⟨us, f3.hL, size_ok (m := 1000) (by omega) (by decide), us ++ [V.ref T2], ?_⟩
      rw [take_snoc hl]
      exact f3.app nD ⟨T2, b, rfl, f3.del hT2, by rw [delH_ne bD]; exact hb3⟩
    · rintro H1 ⟨us, f⟩
      rw [csl, List.take_length] at f
      obtain ⟨us', hD1, pc⟩ := f.done stRwT
      rw [f.hL] at hD1
      cases hD1
      have hT1 := f.s _ _ hT
      have hS1 := f.s _ _ hS
      refine ⟨_, rfl, T1, _, _, _, rfl, rfl, .inl (.inl hT1), (show atI [V.ref S, .ref HM, .ref CH, .ref W] 0 = some (.ref S) from rfl), S, _, rfl, .inl (SqL.of hS1), fun LS nLS => ?_⟩
      have s2 : Same H1 (upd H1 LS (.lst (g.sites.map V.str))) := (Same.refl _).new nLS
      have hLS : (upd H1 LS (.lst (g.sites.map V.str))) LS = some (.lst (g.sites.map V.str)) := upd_same
      generalize upd H1 LS (.lst (g.sites.map V.str)) = H2 at *
      refine ⟨_, rfl, T1, _, _, _, rfl, rfl, .inl (.inl (s2 _ _ hT1)), (show atI [V.ref S, .ref HM, .ref CH, .ref W] 1 = some (.ref HM) from rfl), HM, _, rfl, .inl (SqL.of (s2 _ _ (f.s _ _ (cut_all _ _ hHM)))), fun LH nLH => ?_⟩
      have s3 : Same H2 (upd H2 LH (.lst hv)) := (Same.refl _).new nLH
      have hLH : (upd H2 LH (.lst hv)) LH = some (.lst hv) := upd_same
      generalize upd H2 LH (.lst hv) = H3 at *
      refine ⟨_, rfl, fun p dp np ndp nep => ?_⟩
      have np2 : (upd H3 dp (.own p)) p = none := by rw [upd_ne (Ne.symm nep)]; exact np
      have s4 : Same H3 (upd (upd H3 dp (.own p)) p (.ins CP dp [])) := ((Same.refl _).new ndp).new np2
      have s04 := ((f.s.trans s2).trans s3).trans s4
      have s14 := (s2.trans s3).trans s4
      refine ⟨p, dp, LS, LH, D, hv, us, g, rfl, upd_same, cP, nP, SqL.of (s4 _ _ (s3 _ _ hLS)), SqL.of (s4 _ _ hLH), ph.mono fun v x h => stPs _ _ v x (cut_all.trans s04) h, SqL.of (s14 _ _ f.hL), pc.mono fun v x h => stRwT _ _ v x s14 h, hne, ok, nm, z1, z2, z3, fun H' s e1 e2 e3 e4 e5 pl hk hf => ⟨rfl, ?_⟩⟩
      subst e1
      refine kQ H' s ⟨⟨pl.x.base s04, pl.b, pl.o⟩, e3, e4, e5, hk, fun z hz => ?_⟩
      rcases hf z hz with e | e
      · rw [e]
        exact ((f.s.trans s2).trans s3).free np
      · exact s04.free e
end

/-! ### ascending -/
abbrev sAsc : Stmt := (top 13)
theorem scAsc : FnScope ["rows", "ordered", "row", "at"] ["rows"] (defScope sAsc) := ⟨rfl, rfl, rfl, by decide +kernel, rfl, by decide +kernel, by decide +kernel⟩
def spAsc (K : PySem.W.Frag) : Sp := fun vs H Q _ => ∃ (a : Addr) (xs : List (V × PyData)), vs = [.ref a] ∧ SqL K H a (xs.map (·.1)) ∧ (∀ p ∈ xs, Dp K H p.1 p.2 ∧ p.2 ≠ .none ∧ p.2.depth ≤ 60) ∧ (∀ p ∈ xs, ∀ q ∈ xs, PySem.W.alike p.2 q.2 = true) ∧ xs.length ≤ 10000 ∧
  ∀ l, H l = none → Q (.ref l) (upd H l (.lst ((asc ltP xs).map (·.1))))
section
variable {P : Program} {w : World} {K : PySem.W.Frag} {mg : Str → Option Value} {base : Heap}
theorem ok_asc {f : Addr} {fd : FuncData} (F : FnP K "ascending" sAsc f fd) (T : Bi mg) : FnOk P w K mg base (L2.CX P w) 2 f fd ["rows"] (spAsc K) := by
  refine F.ok scAsc (fun vs H Q E h => ?_) (fun cdv A outer s H vs Q E hr h => ?_)
  · obtain ⟨a, xs, rfl, _⟩ := h
    rfl
  · obtain ⟨a, xs, rfl, hS, hD, hal, hz, kQ⟩ := h
    have nd := scAsc.nd
    refine ⟨_, (pss_cons (ps_set (i := 1) nd rfl (Or.inl rfl) (pe_lst pa_nil))
      (pss_cons (ps_for (passes_of rfl) rfl (pi_list (pv 0)) (pg_name (i := 2) nd rfl (Or.inl rfl)) (pss_cons (ps_set (i := 3) nd rfl (Or.inl rfl) (pe_callB call_len_seq (by rfl) T.len PySem.boot_len (pa_cons (pv 1) pa_nil)))
        (pss_cons (ps_while (passes_of rfl) (PW.pt (pw_and (pt_cmpR op_gt (pv 3) pe_int (nomark _)) (pw_and1 (pt_cmpR (op_ltD hr.units) (pv 2) (pe_ix ix_list (pv 1) (pe_op op_sub (pv 3) pe_int) (fun _ _ => rfl)) (nomark _))))) (pss_one (ps_set (i := 3) nd rfl (Or.inl rfl) (pe_op op_sub (pv 3) pe_int))))
        (pss_one (ps_expr (pe_bm PySem.F.plainAttrs_list PySem.F.slot_list_insert PySem.F.type_list_insert mt_insert (pv 1) (pa_cons (pv 3) (pa_cons (pv 2) pa_nil))))))))
      (pss_one (ps_ret (pv 1))))), ?_⟩
    walk_at "go"
    refine fun l hl => ?_
    walk_at "go"
    refine ⟨⟨_, (Same.new (Same.refl H) hl).seq hS⟩, for_list (K := K) (a := a) (xs := xs.map (·.1))
      (fun i σ H1 => ∃ (R : List (V × PyData)) (r k : Option V), R = (xs.take i).foldl (fun acc x => insR ltP x acc) [] ∧ σ = [some (.ref a), some (.ref l), r, k] ∧ H1 = upd H l (.lst (R.reverse.map (·.1))))
      ⟨[], none, none, rfl, rfl, rfl⟩ (fun i σ H1 _ ⟨R, _, _, _, _, e⟩ => by rw [e]; exact ((Same.refl H).new hl).seq hS) ?_ ?_⟩
    · rintro i y σ H1 hi ⟨R, r, k, eR, rfl, rfl⟩
      have hil : i < xs.length := by
        have := lt_of_at hi
        rwa [List.length_map] at this
      obtain ⟨x, hx, rfl⟩ : ∃ x, xs[i]? = some x ∧ y = x.1 := by
        rw [List.getElem?_map] at hi
        cases e : xs[i]? with
        | none => rw [e] at hi; cases hi
        | some x => rw [e] at hi; exact ⟨x, rfl, (Option.some.inj hi).symm⟩
      have hxm : x ∈ xs := List.mem_of_getElem? hx
      have hRm : ∀ p ∈ R, p ∈ xs := fun p hp => by
        rw [eR] at hp
        have := (asc_fold_perm ltP (xs.take i) []).mem_iff.mp hp
        rw [List.append_nil] at this
        exact List.mem_of_mem_take this
      have hRl : R.length = i := by
        rw [eR, (asc_fold_perm ltP (xs.take i) []).length_eq, List.append_nil, List.length_take]
        omega
      have eR' : insR ltP x R = (xs.take (i + 1)).foldl (fun acc x => insR ltP x acc) [] := by
        rw [List.take_add_one, hx, List.foldl_append, ← eR]
        rfl
      have s1 : Same H (upd H l (.lst (R.reverse.map (·.1)))) := (Same.refl H).new hl
      walk_at "go"
      refine ⟨l, _, rfl, .inl (SqL.of upd_same), ?_⟩
      -- while at > 0 and row < ordered[at - 1]
      refine ⟨fun m σ H2 => ∃ (R1 R2 : List (V × PyData)), R = R1 ++ R2 ∧ m = R2.length ∧ (∀ e ∈ R1, ltP x e = true) ∧ σ = [some (.ref a), some (.ref l), some x.1, some (.int (R2.length : Nat))] ∧ H2 = upd H l (.lst (R.reverse.map (·.1))), ⟨R.length, [], R, rfl, rfl, (fun _ h => by cases h), by rw [List.length_map, List.length_reverse]; rfl, rfl⟩, ?_⟩
      rintro m σ H2 ⟨R1, R2, e12, rfl, hlt, rfl, rfl⟩
      have hsz : ((R1 ++ R2).reverse.map (·.1)).length < sizeLine := by
        rw [List.length_map, List.length_reverse, ← e12]
        exact size_ok (m := 10000) (by omega) (by decide)
      have ins : (∀ e r, R2 = e :: r → ltP x e = false) → ((R1 ++ R2).reverse.map (·.1)).take R2.length ++ [x.1] ++ ((R1 ++ R2).reverse.map (·.1)).drop R2.length = (insR ltP x R).reverse.map (·.1) := fun h2 => by
        rw [e12, insR_split hlt h2, List.reverse_append, List.map_append, List.take_left' (by rw [List.length_map, List.length_reverse]), List.drop_left' (by rw [List.length_map, List.length_reverse])]
        simp
      walk_at "go"
      cases R2 with
      | nil =>
        refine ite2 (fun c => absurd (of_decide_eq_true c) (by simp)) (fun _ => ?_)
        refine ⟨_, rfl, .inl ⟨rfl, _, SqL.of upd_same⟩, _, rfl, _, rfl, l, _, _, _, rfl, rfl, upd_same, by rw [e12]; exact hsz, by decide, by decide, ?_⟩
        refine ⟨insR ltP x R, _, _, eR', rfl, ?_⟩
        rw [upd_upd, e12]
        exact congrArg (fun z => upd H l (.lst z)) (ins (fun e r h => by cases h) |>.trans (by rw [e12]))
      | cons e r =>
        refine ite2 (fun _ => ?_) (fun c => absurd c (by simp))
        have hem : e ∈ R := by rw [e12]; exact List.mem_append_right _ List.mem_cons_self
        have hat : atI (R.reverse.map (·.1)) (((e :: r).length : Nat) - 1 : Int) = some e.1 := by
          have e0 : (((e :: r).length : Nat) - 1 : Int) = (r.length : Nat) := by rw [List.length_cons]; omega
          rw [e0, e12]
          refine atI_nat ?_
          rw [List.reverse_append, List.reverse_cons, List.map_append, List.map_append, List.getElem?_append_left (by simp), List.getElem?_append_right (by simp)]
          simp
        refine ⟨_, rfl, _, rfl, _, rfl, _, _, rfl, rfl, l, _, _, _, rfl, rfl, SqL.of upd_same, hat, x.2, e.2, dp_same s1 (hD x hxm).1, dp_same s1 (hD e (hRm e hem)).1, hal x hxm e (hRm e hem), (hD x hxm).2.1, (hD x hxm).2.2, _, rfl, ?_⟩
        show (if ltP x e = true then _ else _)
        cases q : ltP x e with
        | true =>
          refine iteT ?_
          refine ⟨fun σ' H' => ∃ m', m' < (e :: r).length ∧ ∃ (R1 R2 : List (V × PyData)), R = R1 ++ R2 ∧ m' = R2.length ∧ (∀ e ∈ R1, ltP x e = true) ∧ σ' = [some (.ref a), some (.ref l), some x.1, some (.int (R2.length : Nat))] ∧ H' = upd H l (.lst (R.reverse.map (·.1))), fun _ _ z => z, ?_⟩
          walk_at "go"
          refine ⟨r.length, by simp, R1 ++ [e], r, by rw [e12]; simp, rfl, fun b hb => ?_, ?_, rfl⟩
          · rcases List.mem_append.mp hb with hb | hb
            · exact hlt b hb
            · rw [List.mem_singleton.mp hb]; exact q
          · have e0 : (((e :: r).length : Nat) : Int) - 1 = (r.length : Nat) := by rw [List.length_cons]; omega
            show [some (V.ref a), some (V.ref l), some x.1, some (V.int ((((e :: r).length : Nat) : Int) - 1))] = _
            rw [e0]
        | false =>
          refine iteF ?_
          refine ⟨_, rfl, .inl ⟨rfl, _, SqL.of upd_same⟩, _, rfl, _, rfl, l, _, _, _, rfl, rfl, upd_same, by rw [e12]; exact hsz, by omega, by rw [List.length_cons]; have : r.length ≤ R.length := (by rw [e12]; simp; omega); omega, ?_⟩
          refine ⟨insR ltP x R, _, _, eR', rfl, ?_⟩
          rw [upd_upd, e12]
          exact congrArg (fun z => upd H l (.lst z)) (ins (fun e' r' h => by cases h; exact q) |>.trans (by rw [e12]))
    · rintro σ H1 ⟨R, r, k, eR, rfl, rfl⟩
      rw [List.length_map, List.take_length] at eR
      walk_at "go"
      have z := kQ l hl
      unfold asc at z
      rw [eR]
      exact z
end

/-! ### Load.__contains__, Load.carried; Channel.late -/
abbrev sLoC : Stmt := (inClass (top 16) 1)
abbrev sLoR : Stmt := (inClass (top 16) 2)
abbrev sChG : Stmt := (inClass (top 17) 1)
theorem scLoC : FnScope ["self", "item"] ["self", "item"] (defScope sLoC) := ⟨rfl, rfl, rfl, by decide +kernel, rfl, by decide +kernel, by decide +kernel⟩
theorem scLoR : FnScope ["self"] ["self"] (defScope sLoR) := ⟨rfl, rfl, rfl, by decide +kernel, rfl, by decide +kernel, by decide +kernel⟩
theorem scChG : FnScope ["self"] ["self"] (defScope sChG) := ⟨rfl, rfl, rfl, by decide +kernel, rfl, by decide +kernel, by decide +kernel⟩
def spLoC (K : PySem.W.Frag) : Sp := fun vs H Q _ => ∃ (p C dx l : Addr) (fs : List (Str × V)) (x : Str) (xs : List Str), vs = [.ref p, .str x] ∧ H p = some (.ins C dx fs) ∧ Cls K C ∧ NoAttr K C "names" ∧ fs.lookup ("names" : Str) = some (.ref l) ∧ SqL K H l (xs.map V.str) ∧ Q (.bl (decide (x ∈ xs))) H
def spLoR (K : PySem.W.Frag) : Sp := fun vs H Q _ => ∃ (p C dx l : Addr) (fs : List (Str × V)) (xs : List Str), vs = [.ref p] ∧ H p = some (.ins C dx fs) ∧ Cls K C ∧ NoAttr K C "names" ∧ fs.lookup ("names" : Str) = some (.ref l) ∧ SqL K H l (xs.map V.str) ∧ xs.length ≤ 10000 ∧
  ∀ r, H r = none → Q (.ref r) (upd H r (.lst ((upS xs).map V.str)))
section
variable {P : Program} {w : World} {K : PySem.W.Frag} {mg : Str → Option Value} {base : Heap}
theorem ok_loC {f : Addr} {fd : FuncData} (F : FnQ K "__contains__" "Load.__contains__" sLoC f fd) : FnOk P w K mg base (L2.CX P w) 1 f fd ["self", "item"] (spLoC K) := by
  refine F.ok scLoC (fun vs H Q E h => ?_) (fun cdv A outer s H vs Q E hr h => ?_)
  · obtain ⟨p, C, dx, l, fs, x, xs, rfl, _⟩ := h
    rfl
  · obtain ⟨p, C, dx, l, fs, x, xs, rfl, hp, cl, n1, l1, hS, kQ⟩ := h
    have nd := scLoC.nd
    refine ⟨_, (pss_one (ps_ret (pe_cmpR op_in_seq (pv 1) (pe_fld (pv 0) rfl) (by rfl)))), ?_⟩
    refine ⟨_, rfl, _, rfl, p, C, dx, fs, _, rfl, hp, cl, n1, l1, l, _, rfl, .inl hS, rfl, flat_strs _, ?_⟩
    show Q (.bl (inV (.str x) (xs.map V.str))) H
    rw [inV_strs]
    exact kQ
theorem ok_loR {f : Addr} {fd : FuncData} (F : FnQ K "carried" "Load.carried" sLoR f fd) (g_ascending : Cal P w K mg base 2 "ascending" ["rows"] (spAsc K)) : FnOk P w K mg base (L2.CX P w) 3 f fd ["self"] (spLoR K) := by
  refine F.ok scLoR (fun vs H Q E h => ?_) (fun cdv A outer s H vs Q E hr h => ?_)
  · obtain ⟨p, C, dx, l, fs, xs, rfl, _⟩ := h
    rfl
  · obtain ⟨p, C, dx, l, fs, xs, rfl, hp, cl, n1, l1, hS, hz, kQ⟩ := h
    have nd := scLoR.nd
    refine ⟨_, (pss_one (ps_ret (pe_cal g_ascending hr takes0 (pa_cons (pe_fld (pv 0) rfl) pa_nil)))), ?_⟩
    refine ⟨_, rfl, p, C, dx, fs, _, rfl, hp, cl, n1, l1, l, xs.map dS, rfl, by rw [List.map_map]; exact hS, ?_, ?_, by rw [List.length_map]; exact hz, fun r hr => ?_⟩
    · intro q hq
      obtain ⟨s, _, rfl⟩ := List.mem_map.mp hq
      exact ⟨.str s, (fun e => by cases e), Nat.zero_le _⟩
    · intro q hq r hr
      obtain ⟨s, _, rfl⟩ := List.mem_map.mp hq
      obtain ⟨t, _, rfl⟩ := List.mem_map.mp hr
      rfl
    · rw [asc_dS]
      exact kQ r hr
theorem prp_late {f p C : Addr} {fd : FuncData} (F : FnQ K "late" "Channel.late" sChG f fd) (c : Cls K C) (hp : PropOf K C "late" p f) (n : NoAttr K C "kind") : Prp P w K mg base C "late" "kind" := by
  refine ⟨c, p, f, fd, hp, F.bindsN (ps := ["self"]) (fun _ _ _ _ _ _ us hl => match us, hl with | [_], _ => rfl), ?_⟩
  refine F.ok scChG (fun vs H Q E h => ?_) (fun cdv A outer s H vs Q E hr h => ?_)
  · obtain ⟨a, dx, fs, v, rfl, _⟩ := h
    rfl
  · obtain ⟨a, dx, fs, v, rfl, ea, l, q⟩ := h
    have nd := scChG.nd
    refine ⟨_, (pss_one (ps_ret (pe_fld (pv 0) rfl))), ?_⟩
    walk_at "go"
    exact ⟨a, C, dx, fs, v, rfl, ea, c, n, l, q⟩
end

/-! ### _law_sorted, of rows whose first texts differ -/
abbrev sSo : Stmt := (top 40)
theorem scSo : FnScope ["_law_rows_here", "_law_ordered", "_law_row", "_law_at", "_law_other"] ["_law_rows_here"] (defScope sSo) := ⟨rfl, rfl, rfl, by decide +kernel, rfl, by decide +kernel, by decide +kernel⟩
abbrev lt2 {α : Type} (lt : α → α → Bool) (p q : V × α) : Bool := lt p.2 q.2
def spSoG (K : PySem.W.Frag) : Sp := fun vs H Q _ => ∃ (α : Type) (lt : α → α → Bool) (a : Addr) (xs : List (V × α)), vs = [.ref a] ∧ SqL K H a (xs.map (·.1)) ∧ xs.Pairwise (fun p q => CmpR K H p.1 q.1 (lt p.2 q.2)) ∧ xs.length ≤ 10000 ∧
  ∀ l, H l = none → Q (.ref l) (upd H l (.lst ((srt (lt2 lt) xs).map (·.1))))
section
variable {P : Program} {w : World} {K : PySem.W.Frag} {mg : Str → Option Value} {base : Heap}
theorem ok_soG {f : Addr} {fd : FuncData} (F : FnP K "_law_sorted" sSo f fd) (T : Bi mg) : FnOk P w K mg base (L2.CX P w) 2 f fd ["_law_rows_here"] (spSoG K) := by
  refine F.ok scSo (fun vs H Q E h => ?_) (fun cdv A outer s H vs Q E hr h => ?_)
  · obtain ⟨_, _, a, xs, rfl, _⟩ := h
    rfl
  · obtain ⟨α, lt, a, xs, rfl, hS, hal, hz, kQ⟩ := h
    have nd := scSo.nd
    refine ⟨_, (pss_cons (ps_set (i := 1) nd rfl (Or.inl rfl) (pe_lst pa_nil))
      (pss_cons (ps_for (passes_of rfl) rfl (pi_list (pv 0)) (pg_name (i := 2) nd rfl (Or.inl rfl)) (pss_cons (ps_set (i := 3) nd rfl (Or.inl rfl) pe_int)
        (pss_cons (ps_for (passes_of rfl) rfl (pi_list (pv 1)) (pg_name (i := 4) nd rfl (Or.inl rfl)) (pss_one (ps_if (pt_cmpR (op_ltC hr.units) (pv 4) (pv 2) (nomark _)) (pss_one (ps_set (i := 3) nd rfl (Or.inl rfl) (pe_op op_add (pv 3) pe_int))) pss_nil)))
        (pss_one (ps_expr (pe_bm PySem.F.plainAttrs_list PySem.F.slot_list_insert PySem.F.type_list_insert mt_insert (pv 1) (pa_cons (pv 3) (pa_cons (pv 2) pa_nil))))))))
      (pss_one (ps_ret (pv 1))))), ?_⟩
    walk_at "go"
    refine fun l hl => ?_
    walk_at "go"
    refine ⟨⟨_, (Same.new (Same.refl H) hl).seq hS⟩, for_list (K := K) (a := a) (xs := xs.map (·.1))
      (fun i σ H1 => ∃ (R : List (V × α)) (r k o : Option V), R = (xs.take i).foldl (fun acc x => insC (lt2 lt) x acc) [] ∧ σ = [some (.ref a), some (.ref l), r, k, o] ∧ H1 = upd H l (.lst (R.map (·.1))))
      ⟨[], none, none, none, rfl, rfl, rfl⟩ (fun i σ H1 _ ⟨R, _, _, _, _, _, e⟩ => by rw [e]; exact ((Same.refl H).new hl).seq hS) ?_ ?_⟩
    · rintro i y σ H1 hi ⟨R, r, k, o, eR, rfl, rfl⟩
      have hil : i < xs.length := by
        have := lt_of_at hi
        rwa [List.length_map] at this
      obtain ⟨x, hx, rfl⟩ : ∃ x, xs[i]? = some x ∧ y = x.1 := by
        rw [List.getElem?_map] at hi
        cases e : xs[i]? with
        | none => rw [e] at hi; cases hi
        | some x => rw [e] at hi; exact ⟨x, rfl, (Option.some.inj hi).symm⟩
      have hRm : ∀ p ∈ R, CmpR K H p.1 x.1 (lt p.2 x.2) := fun p hp => by
        rw [eR] at hp
        have := (srt_fold_perm (lt := lt2 lt) (xs.take i) []).mem_iff.mp hp
        rw [List.append_nil] at this
        obtain ⟨j, hj, rfl⟩ := List.mem_take_iff_getElem.mp this
        have ex : x = xs[i] := by
          have := List.getElem?_eq_some_iff.mp hx
          exact this.2.symm
        rw [ex]
        exact List.pairwise_iff_getElem.mp hal j i (by omega) hil (by omega)
      have hRl : R.length = i := by
        rw [eR, (srt_fold_perm (lt := lt2 lt) (xs.take i) []).length_eq, List.append_nil, List.length_take]
        omega
      have eR' : insC (lt2 lt) x R = (xs.take (i + 1)).foldl (fun acc x => insC (lt2 lt) x acc) [] := by
        rw [List.take_add_one, hx, List.foldl_append, ← eR]
        rfl
      have s1 : Same H (upd H l (.lst (R.map (·.1)))) := (Same.refl H).new hl
      walk_at "go"
      refine ⟨⟨_, SqL.of upd_same⟩, ?_⟩
      refine for_list (K := K) (a := l) (xs := R.map (·.1)) (fun j σ H2 => ∃ o, σ = [some (.ref a), some (.ref l), some x.1, some (.int ((R.take j).countP fun e => lt2 lt e x : Nat)), o] ∧ H2 = upd H l (.lst (R.map (·.1))))
        ⟨_, rfl, rfl⟩ (fun j σ H2 _ ⟨_, _, e⟩ => by rw [e]; exact SqL.of upd_same) ?_ ?_
      · rintro j z σ H2 hj ⟨o2, rfl, rfl⟩
        obtain ⟨e, he, rfl⟩ : ∃ e, R[j]? = some e ∧ z = e.1 := by
          rw [List.getElem?_map] at hj
          cases q : R[j]? with
          | none => rw [q] at hj; cases hj
          | some x => rw [q] at hj; exact ⟨x, rfl, (Option.some.inj hj).symm⟩
        have hem := hRm e (List.mem_of_getElem? he)
        have ec : (R.take (j + 1)).countP (fun e => lt2 lt e x) = (R.take j).countP (fun e => lt2 lt e x) + if lt2 lt e x = true then 1 else 0 := by
          rw [List.take_add_one, he, List.countP_append]
          show _ + List.countP _ [e] = _
          rw [List.countP_singleton]
        refine ⟨_, rfl, _, rfl, lt e.2 x.2, hem.same s1, _, rfl, ?_⟩
        show (if lt2 lt e x = true then _ else _)
        cases q : lt2 lt e x with
        | true =>
          rw [if_pos q] at ec
          refine iteT ?_
          walk_at "go"
          refine ⟨some e.1, ?_, rfl⟩
          rw [ec]
          rfl
        | false =>
          rw [if_neg (by rw [q]; decide)] at ec
          refine iteF ?_
          refine ⟨some e.1, ?_, rfl⟩
          rw [ec]
          rfl
      · rintro σ H2 ⟨o2, rfl, rfl⟩
        rw [List.length_map, List.take_length]
        have hcl : R.countP (fun e => lt2 lt e x) ≤ R.length := List.countP_le_length
        refine ⟨_, rfl, .inl ⟨rfl, _, SqL.of upd_same⟩, _, rfl, _, rfl, l, _, _, _, rfl, rfl, upd_same, ?_, ?_, ?_, ?_⟩
        · rw [List.length_map]; exact size_ok (m := 10000) (by omega) (by decide)
        · omega
        · omega
        refine ⟨insC (lt2 lt) x R, _, _, _, eR', rfl, ?_⟩
        rw [upd_upd]
        refine congrArg (fun z => upd H l (.lst z)) ?_
        unfold insC
        rw [List.map_append, List.map_cons, List.map_take, List.map_drop]
        simp
    · rintro σ H1 ⟨R, r, k, o, eR, rfl, rfl⟩
      rw [List.length_map, List.take_length] at eR
      walk_at "go"
      have z := kQ l hl
      unfold srt at z
      rw [eR]
      exact z
end

/-! ### _law_told -/
abbrev sTd : Stmt := (top 41)
theorem scTd : FnScope ["_law_rows_here", "_law_channels", "_law_item", "_law_row", "_law_site"] ["_law_rows_here"] (defScope sTd) := ⟨rfl, rfl, rfl, by decide +kernel, rfl, by decide +kernel, by decide +kernel⟩
/-- rows as they are told: sites, homes, lines -/
structure TdA (H : Hp) (S HM CH : Addr) (sites : List Str) (homes : List (Str × Str)) (lines : List Ln) : Prop where
  s : H S = some (.lst (sites.map V.str))
  h : LsA PsA H HM homes
  c : LsA RwT H CH lines
  zs : sites.length < 64
  zh : homes.length < 64
  zl : lines.length < 64
  zi : ∀ l ∈ lines, l.it.length < 64
  nh : (homes.map (·.1)).Nodup
  nl : (lines.map (·.nm)).Nodup
theorem TdA.same {H H' : Hp} {S HM CH : Addr} {sites : List Str} {homes : List (Str × Str)} {lines : List Ln} (x : TdA H S HM CH sites homes lines) (e : Same H H') : TdA H' S HM CH sites homes lines :=
  ⟨e _ _ x.s, x.h.same stPs e, x.c.same stRwT e, x.zs, x.zh, x.zl, x.zi, x.nh, x.nl⟩
def spTd (K : PySem.W.Frag) : Sp := fun vs H Q _ => ∃ (T S HM CH : Addr) (r : List V) (sites : List Str) (homes : List (Str × Str)) (lines : List Ln), vs = [.ref T] ∧ H T = some (.tup (.ref S :: .ref HM :: .ref CH :: r)) ∧ TdA H S HM CH sites homes lines ∧
  ∀ (v : Addr) (H' : Hp), Same H H' → Dp K H' (.ref v) (toldD sites homes lines) → Q (.ref v) H'
section
variable {P : Program} {w : World} {K : PySem.W.Frag} {mg : Str → Option Value} {base : Heap}
theorem ok_td {f : Addr} {fd : FuncData} (F : FnP K "_law_told" sTd f fd) (T : Bj mg) (g_sorted : Cal P w K mg base 2 "_law_sorted" ["_law_rows_here"] (spSoG K)) : FnOk P w K mg base (L2.CX P w) 3 f fd ["_law_rows_here"] (spTd K) := by
  refine F.ok scTd (fun vs H Q E h => ?_) (fun cdv A outer s H vs Q E hr h => ?_)
  · obtain ⟨T, S, HM, CH, r, sites, homes, lines, rfl, _⟩ := h
    rfl
  · obtain ⟨T1, S, HM, CH, r, sites, homes, lines, rfl, hT, td, kQ⟩ := h
    have nd := scTd.nd
    refine ⟨_, (pss_cons (ps_setLc (i := 1) (own := [("_law_row", 3)]) (g := gName 3) (tt := tYes) (by rfl) nd rfl rfl (sw_true rfl rfl rfl (by decide +kernel)) (pi_list (pe_ix ix_tup (pv 0) pe_int (fun _ _ => rfl))) (blkOk_by (own := [("_law_row", 3)]) (N := ["_law_rows_here", "_law_channels", "_law_item", "_law_row", "_law_site"]) (sc := defScope sTd) (by decide +kernel)) (fun _ _ _ _ _ => (pg_name (i := 3) nd rfl (Or.inl rfl))) (fun _ _ _ _ _ => pts_nil) (fun _ _ _ _ _ => (pe_tup (pa_cons (pe_ix (show IxR _ (rIxT K) from ix_tup) (pv 3) pe_int (fun _ _ => rfl)) (pa_cons (pe_ix (show IxR _ (rIxT K) from ix_tup) (pv 3) pe_int (fun _ _ => rfl)) (pa_cons (pe_ix (show IxR _ (rIxT K) from ix_tup) (pv 3) pe_int (fun _ _ => rfl)) (pa_cons (pe_callB (show CallR _ (.builtin "sorted") (rSortedS K) from cr_sortedS) (by rfl) T.sorted (by decide +kernel) (pa_cons (show PE _ _ (tLc (iList K _) _ _ _ _) from (pe_lc (own := [("_law_item", 2)]) (g := gName 2) (tt := tYes) (by rfl) nd (pi_list (pe_ix (show IxR _ (rIxT K) from ix_tup) (pv 3) pe_int (fun _ _ => rfl))) (blkOk_by (own := [("_law_item", 2)]) (N := ["_law_rows_here", "_law_channels", "_law_item", "_law_row", "_law_site"]) (by rfl)) (fun _ _ _ _ _ => (pg_name (i := 2) nd rfl (Or.inl rfl))) (fun _ _ _ _ _ => pts_nil) (fun _ _ _ _ _ => (pe_callTy SkE.call_str_str (by rfl) T.str (by decide +kernel) (pa_cons (pv 2) pa_nil))))) pa_nil)) (pa_cons (pe_ix (show IxR _ (rIxT K) from ix_tup) (pv 3) pe_int (fun _ _ => rfl)) pa_nil))))))))
      (pss_one (ps_ret (pe_tup (pa_cons (pe_callB cr_sortedS (by rfl) T.sorted (by decide +kernel) (pa_cons (pe_lc (own := [("_law_site", 4)]) (g := gName 4) (tt := tYes) (by rfl) nd (pi_list (pe_ix ix_tup (pv 0) pe_int (fun _ _ => rfl))) (blkOk_by (own := [("_law_site", 4)]) (N := ["_law_rows_here", "_law_channels", "_law_item", "_law_row", "_law_site"]) (sc := defScope sTd) (by decide +kernel)) (fun _ _ _ _ _ => (pg_name (i := 4) nd rfl (Or.inl rfl))) (fun _ _ _ _ _ => pts_nil) (fun _ _ _ _ _ => (pe_callTy SkE.call_str_str (by rfl) T.str (by decide +kernel) (pa_cons (pv 4) pa_nil)))) pa_nil)) (pa_cons (pe_cal g_sorted hr takes0 (pa_cons (pe_ix ix_tup (pv 0) pe_int (fun _ _ => rfl)) pa_nil)) (pa_cons (pe_cal g_sorted hr takes0 (pa_cons (pv 1) pa_nil)) pa_nil))))))), ?_⟩
    obtain ⟨hv, hHM, ph⟩ := td.h
    obtain ⟨cs, hCH, pc⟩ := td.c
    have hS := td.s
    refine ⟨_, rfl, T1, _, _, _, rfl, rfl, .inl (.inl hT), (show atI (V.ref S :: V.ref HM :: V.ref CH :: r) 2 = some (.ref CH) from at_at (i := 2) rfl), CH, rfl, ⟨_, SqL.of hCH⟩, fun D nD => ?_⟩
    refine lc_list (K := K) (a := CH) (xs := cs) (fun i H1 => ∃ us, GS RwU H D H1 us (lines.take i)) ⟨[], GS.start nD⟩ (fun i H1 _ ⟨_, f⟩ => SqL.of (f.s _ _ hCH)) ?_ ?_
    · rintro i y H1 hi ⟨us, f⟩
      obtain ⟨l, hl, t, a, rfl, ht, ha⟩ := pc.get hi
      have lm := List.mem_of_getElem? hl
      have ht1 := f.s _ _ ht
      have ha1 := f.s _ _ ha
      refine ⟨rfl, tYes_if ?_⟩
      refine ⟨_, rfl, t, _, _, _, rfl, rfl, .inl (.inl ht1), (show atI (rwV l a) 0 = some (.str l.nm) from rfl), ?_⟩
      refine ⟨_, rfl, t, _, _, _, rfl, rfl, .inl (.inl ht1), (show atI (rwV l a) 1 = some (.str l.src) from rfl), ?_⟩
      refine ⟨_, rfl, t, _, _, _, rfl, rfl, .inl (.inl ht1), (show atI (rwV l a) 2 = some (.str l.tgt) from rfl), ?_⟩
      refine ⟨_, rfl, t, _, _, _, rfl, rfl, .inl (.inl ht1), (show atI (rwV l a) 3 = some (.ref a) from rfl), a, rfl, ⟨_, SqL.of ha1⟩, fun E nE => ?_⟩
      have ED : E ≠ D := fun e => by rw [e, f.hL] at nE; cases nE
      refine lc_list (K := K) (a := a) (xs := l.it.map V.str) (fun j H2 => H2 = upd H1 E (.lst ((l.it.take j).map V.str))) rfl (fun j H2 _ e => by rw [e]; exact ((Same.refl _).new nE).seq (SqL.of ha1)) ?_ ?_
      · rintro j y H2 hj rfl
        obtain ⟨x, hx, rfl⟩ := at_map hj
        refine ⟨rfl, tYes_if ⟨_, rfl, _, rfl, _, upd_same, ?_, ?_⟩⟩
        · rw [List.length_map, List.length_take]
          exact size_ok (m := 1000) (by have := td.zi l lm; omega) (by decide)
        · rw [upd_upd, take_snoc hx, List.map_append]
          rfl
      rintro H2 rfl
      rw [List.length_map, List.take_length]
      have f2 := f.new stRwU (o := .lst (l.it.map V.str)) nE
      have hE : (upd H1 E (.lst (l.it.map V.str))) E = some (.lst (l.it.map V.str)) := upd_same
      have s2 : Same H1 (upd H1 E (.lst (l.it.map V.str))) := (Same.refl _).new nE
      generalize upd H1 E (.lst (l.it.map V.str)) = H2 at *
      refine ⟨E, l.it, rfl, SqL.of hE, td.zi l lm, fun ys b pys sys nb => ?_⟩
      have eys := sortedS_eq pys sys
      subst eys
      have f3 := f2.new stRwU (o := .lst ((upS l.it).map V.str)) nb
      have ht3 : (upd H2 b (.lst ((upS l.it).map V.str))) t = some (.tup (rwV l a)) := (Same.refl _).new nb _ _ (s2 _ _ ht1)
      have hb : (upd H2 b (.lst ((upS l.it).map V.str))) b = some (.lst ((upS l.it).map V.str)) := upd_same
      have bD : b ≠ D := fun e => by rw [e, f2.hL] at nb; cases nb
      generalize upd H2 b (.lst ((upS l.it).map V.str)) = H3 at *
      refine ⟨_, rfl, t, _, _, _, rfl, rfl, .inl (.inl ht3), (show atI (rwV l a) 4 = some (kindV l.kd) from rfl), (show 5 ≤ sizeLine by decide), fun T2 n2 => ?_⟩
      have f4 := f3.new stRwU (o := .tup (rwV l b)) n2
      have hT2 : (upd H3 T2 (.tup (rwV l b))) T2 = some (.tup (rwV l b)) := upd_same
      have hb4 : (upd H3 T2 (.tup (rwV l b))) b = some (.lst ((upS l.it).map V.str)) := (Same.refl _).new n2 _ _ hb
      have := f.pw.len
      rw [List.length_take] at this
      have := td.zl
      refine ⟨us, f4.hL, size_ok (m := 1000) (by omega) (by decide), us ++ [V.ref T2], ?_⟩
      rw [take_snoc hl]
      exact f4.app nD ⟨T2, b, rfl, f4.del hT2, by rw [delH_ne bD]; exact hb4⟩
    · rintro H1 ⟨us, f⟩
      rw [pc.len, List.take_length] at f
      obtain ⟨us', hD1, pd⟩ := f.done stRwU
      rw [f.hL] at hD1
      cases hD1
      have hD1 := f.hL
      have hT1 := f.s _ _ hT
      have hS1 := f.s _ _ hS
      have s1 := f.s
      clear f
      refine ⟨_, rfl, T1, _, _, _, rfl, rfl, .inl (.inl hT1), (show atI (V.ref S :: V.ref HM :: V.ref CH :: r) 0 = some (.ref S) from at_at (i := 0) rfl), S, rfl, ⟨_, SqL.of hS1⟩, fun E nE => ?_⟩
      refine lc_list (K := K) (a := S) (xs := sites.map V.str) (fun j H2 => H2 = upd H1 E (.lst ((sites.take j).map V.str))) rfl (fun j H2 _ e => by rw [e]; exact ((Same.refl _).new nE).seq (SqL.of hS1)) ?_ ?_
      · rintro j y H2 hj rfl
        obtain ⟨x, hx, rfl⟩ := at_map hj
        refine ⟨rfl, tYes_if ⟨_, rfl, _, rfl, _, upd_same, ?_, ?_⟩⟩
        · rw [List.length_map, List.length_take]
          exact size_ok (m := 1000) (by have := td.zs; omega) (by decide)
        · rw [upd_upd, take_snoc hx, List.map_append]
          rfl
      rintro H2 rfl
      rw [List.length_map, List.take_length]
      have hE : (upd H1 E (.lst (sites.map V.str))) E = some (.lst (sites.map V.str)) := upd_same
      have s2 : Same H1 (upd H1 E (.lst (sites.map V.str))) := (Same.refl _).new nE
      generalize upd H1 E (.lst (sites.map V.str)) = H2 at *
      refine ⟨E, sites, rfl, SqL.of hE, td.zs, fun ys b pys sys nb => ?_⟩
      have eys := sortedS_eq pys sys
      subst eys
      have hb : (upd H2 b (.lst ((upS sites).map V.str))) b = some (.lst ((upS sites).map V.str)) := upd_same
      have s3 : Same H2 (upd H2 b (.lst ((upS sites).map V.str))) := (Same.refl _).new nb
      generalize upd H2 b (.lst ((upS sites).map V.str)) = H3 at *
      have s13 := s2.trans s3
      refine ⟨_, rfl, T1, _, _, _, rfl, rfl, .inl (.inl (s13 _ _ hT1)), (show atI (V.ref S :: V.ref HM :: V.ref CH :: r) 1 = some (.ref HM) from at_at (i := 1) rfl), ?_⟩
      have s03 := s1.trans s13
      have p3 := ph.mono fun v x => stPs _ _ v x s03
      refine ⟨_, _, HM, hv.zip homes, rfl, ?_, pw_cmp p3 td.nh hd_PsA, ?_, fun B nB => ?_⟩
      · rw [zip_fst p3]; exact SqL.of (s03 _ _ hHM)
      · have := td.zh; rw [List.length_zip]; omega
      have q4 := p3.srtG (lt := ltN fun x : Str × Str => x.1)
      rw [srt_ltN td.nh] at q4
      generalize (M.srt (fun p q : V × (Str × Str) => ltN (fun x : Str × Str => x.1) p.2 q.2) (hv.zip homes)).map (·.1) = hv2 at *
      have s4 : Same H3 (upd H3 B (.lst hv2)) := (Same.refl _).new nB
      have hB : (upd H3 B (.lst hv2)) B = some (.lst hv2) := upd_same
      generalize upd H3 B (.lst hv2) = H4 at *
      have s14 := s13.trans s4
      have p5 := pd.mono fun v x => stRwU _ _ v x s14
      refine ⟨_, rfl, _, _, D, us.zip lines, rfl, ?_, pw_cmp p5 td.nl hd_RwU, ?_, fun C nC => ?_⟩
      · rw [zip_fst p5]; exact SqL.of (s14 _ _ hD1)
      · have := td.zl; rw [List.length_zip]; omega
      have q5 := p5.srtG (lt := ltN fun x : Ln => x.nm)
      rw [srt_ltN td.nl] at q5
      generalize (M.srt (fun p q : V × Ln => ltN (fun x : Ln => x.nm) p.2 q.2) (us.zip lines)).map (·.1) = us2 at *
      have s5 : Same H4 (upd H4 C (.lst us2)) := (Same.refl _).new nC
      have hC : (upd H4 C (.lst us2)) C = some (.lst us2) := upd_same
      generalize upd H4 C (.lst us2) = H5 at *
      refine ⟨(show 3 ≤ sizeLine by decide), fun T2 n2 => ?_⟩
      have s6 : Same H5 (upd H5 T2 (.tup [.ref b, .ref B, .ref C])) := (Same.refl _).new n2
      have s46 := s5.trans s6
      have s36 := s4.trans s46
      exact kQ _ _ (s03.trans s36) (told_dp upd_same (s36 _ _ hb) ⟨hv2, s46 _ _ hB, q4.mono fun v x => stPs _ _ v x s36⟩ ⟨us2, s6 _ _ hC, q5.mono fun v x => stRwU _ _ v x s46⟩)
end

/-! ### Placement.rows -/
abbrev sRw : Stmt := (inClass (top 32) 18)
theorem scRw : FnScope ["self", "homes", "name", "lines", "channels", "line"] ["self"] (defScope sRw) := ⟨rfl, rfl, rfl, by decide +kernel, rfl, by decide +kernel, by decide +kernel⟩
/-- what rows hands back: new objects -/
structure RowsA (H H' : Hp) (T A B C : Addr) (sites : List Str) (homes : List (Str × Str)) (lines : List Ln) : Prop where
  s : Same H H'
  nA : H A = none
  hT : H' T = some (.tup [.ref A, .ref B, .ref C])
  hA : H' A = some (.lst ((upS sites).map V.str))
  hB : LsA PsA H' B (asc (ltN (·.1)) homes)
  hC : LsA RwU H' C (asc (ltN (·.nm)) lines)
theorem at_mapG {α β : Type} {f : α → β} {l : List α} {i : Nat} {y : β} (h : (l.map f)[i]? = some y) : ∃ x, l[i]? = some x ∧ y = f x := by
  rw [List.getElem?_map] at h
  cases e : l[i]? with
  | none => rw [e] at h; cases h
  | some x => rw [e] at h; exact ⟨x, rfl, (Option.some.inj h).symm⟩
theorem asc_strs {K : PySem.W.Frag} {H : Hp} {Q : VK} {E : XK} {a : Addr} {l : List Str} (h : H a = some (.lst (l.map V.str))) (hz : l.length ≤ 10000) (kQ : ∀ r, H r = none → Q (.ref r) (upd H r (.lst ((upS l).map V.str)))) : spAsc K [.ref a] H Q E := by
  refine ⟨a, l.map dS, rfl, by rw [List.map_map]; exact SqL.of h, ?_, ?_, by rw [List.length_map]; exact hz, fun r hr => ?_⟩
  · intro q hq
    obtain ⟨s, _, rfl⟩ := List.mem_map.mp hq
    exact ⟨.str s, (fun e => by cases e), Nat.zero_le _⟩
  · intro q hq r hr
    obtain ⟨s, _, rfl⟩ := List.mem_map.mp hq
    obtain ⟨t, _, rfl⟩ := List.mem_map.mp hr
    rfl
  · rw [asc_dS]
    exact kQ r hr
def spRw (CP CI CC : Addr) : Sp := fun vs H Q _ => ∃ (H0 : Hp) (s : PSt) (wy : Ways), vs = [.ref s.p] ∧ PlA CP CI CC H0 H s wy ∧ s.places.length ≤ 100 ∧ s.lines.length ≤ 100 ∧ s.seats.length ≤ 100 ∧ (∀ c ∈ s.lines, c.l.it.length ≤ 100) ∧
  ∀ T A B C H', RowsA H H' T A B C s.places s.homes s.lns → Q (.ref T) H'
section
variable {P : Program} {w : World} {K : PySem.W.Frag} {mg : Str → Option Value} {base : Heap}
theorem ok_rw {f CP CI CC : Addr} {fd : FuncData} (F : FnQ K "rows" "Placement.rows" sRw f fd) (T : Bj mg) (g_ascending : Cal P w K mg base 2 "ascending" ["rows"] (spAsc K)) (g_carried : Mth P w K mg base 3 CC "carried" ["self"] (spLoR K))
    (cP : Cls K CP) (nP : ∀ f ∈ plFs, NoAttr K CP f) (cI : Cls K CI) (nI : ∀ f ∈ (["owner", "name", "seat"] : List Str), NoAttr K CI f) (cC : Cls K CC) (nC : ∀ f ∈ (["source", "target", "names", "name", "kind"] : List Str), NoAttr K CC f) :
    FnOk P w K mg base (L2.CX P w) 4 f fd ["self"] (spRw CP CI CC) := by
  refine F.ok scRw (fun vs H Q E h => ?_) (fun cdv A outer s H vs Q E hr h => ?_)
  · obtain ⟨H0, s, wy, rfl, _⟩ := h
    rfl
  · obtain ⟨H0, s, wy, rfl, pl, zp, zl, zs, zi, kQ⟩ := h
    have nd := scRw.nd
    have hu := hu_of hr
    refine ⟨_, (pss_cons (ps_setLc (i := 1) (own := [("name", 2)]) (g := gName 2) (tt := tYes) (by rfl) nd rfl rfl (sw_true rfl rfl rfl (by decide +kernel)) (pi_list (pe_cal g_ascending hr takes0 (pa_cons (pe_callTy (call_listD rfl) (by rfl) T.list (by decide +kernel) (pa_cons (pe_fld (pv 0) rfl) pa_nil)) pa_nil))) (blkOk_by (own := [("name", 2)]) (N := ["self", "homes", "name", "lines", "channels", "line"]) (sc := defScope sRw) (by decide +kernel)) (fun _ _ _ _ _ => (pg_name (i := 2) nd rfl (Or.inl rfl))) (fun _ _ _ _ _ => pts_nil) (fun _ _ _ _ _ => (pe_tup (pa_cons (pv 2) (pa_cons (show PE _ _ (tFld K _ _) from (pe_fld (pe_dget hu (show PE _ _ (tFld K _ _) from (pe_fld (pv 0) rfl)) (pv 2) (fun _ _ => rfl)) rfl)) pa_nil)))))
      (pss_cons (ps_setLc (i := 3) (own := [("name", 2)]) (g := gName 2) (tt := tYes) (by rfl) nd rfl rfl (sw_true rfl rfl rfl (by decide +kernel)) (pi_list (pe_cal g_ascending hr takes0 (pa_cons (pe_callTy (call_listD rfl) (by rfl) T.list (by decide +kernel) (pa_cons (pe_fld (pv 0) rfl) pa_nil)) pa_nil))) (blkOk_by (own := [("name", 2)]) (N := ["self", "homes", "name", "lines", "channels", "line"]) (sc := defScope sRw) (by decide +kernel)) (fun _ _ _ _ _ => (pg_name (i := 2) nd rfl (Or.inl rfl))) (fun _ _ _ _ _ => pts_nil) (fun _ _ _ _ _ => (pe_dget hu (show PE _ _ (tFld K _ _) from (pe_fld (pv 0) rfl)) (pv 2) (fun _ _ => rfl))))
      (pss_cons (ps_setLc (i := 4) (own := [("line", 5)]) (g := gName 5) (tt := tYes) (by rfl) nd rfl rfl (sw_true rfl rfl rfl (by decide +kernel)) (pi_list (pv 3)) (blkOk_by (own := [("line", 5)]) (N := ["self", "homes", "name", "lines", "channels", "line"]) (sc := defScope sRw) (by decide +kernel)) (fun _ _ _ _ _ => (pg_name (i := 5) nd rfl (Or.inl rfl))) (fun _ _ _ _ _ => pts_nil) (fun _ _ _ _ _ => (pe_tup (pa_cons (show PE _ _ (tFld K _ _) from (pe_fld (pv 5) rfl)) (pa_cons (show PE _ _ (tFld K _ _) from (pe_fld (pv 5) rfl)) (pa_cons (show PE _ _ (tFld K _ _) from (pe_fld (pv 5) rfl)) (pa_cons (show PE _ _ (tMthE P w K mg base _ _ _ _ tNil) from (pe_mthE0 hr takes0 (pv 5))) (pa_cons (show PE _ _ (tFld K _ _) from (pe_fld (pv 5) rfl)) pa_nil))))))))
      (pss_one (ps_ret (pe_tup (pa_cons (pe_cal g_ascending hr takes0 (pa_cons (pe_fld (pv 0) rfl) pa_nil)) (pa_cons (pv 1) (pa_cons (pv 4) pa_nil))))))))), ?_⟩
    have hnd : (s.seats.map (·.nm)).Nodup := by
      have := pl.o.hN
      unfold Gd.goods PSt.g at this
      rw [List.map_map] at this
      exact this
    have hnl : (s.lines.map (·.l.nm)).Nodup := by
      have := pl.o.lN
      unfold PSt.g at this
      rw [List.map_map] at this
      exact this
    refine ⟨_, rfl, s.p, CP, s.dp, _, .ref s.DS, rfl, pl.hp, cP, nP _ (by simp [plFs]), rfl, s.DS, kvS s.seats, rfl, .inl pl.hDS, fun L1 n1 => ?_⟩
    have e1 : (kvS s.seats).map (fun kv => kV kv.1) = (s.seats.map (·.nm)).map V.str := by
      unfold kvS
      rw [List.map_map, List.map_map]
      rfl
    rw [e1]
    have s1 : Same H (upd H L1 (.lst ((s.seats.map (·.nm)).map V.str))) := (Same.refl _).new n1
    have hL1 : (upd H L1 (.lst ((s.seats.map (·.nm)).map V.str))) L1 = some (.lst ((s.seats.map (·.nm)).map V.str)) := upd_same
    generalize upd H L1 (.lst ((s.seats.map (·.nm)).map V.str)) = H1 at *
    simp only [tNil]
    refine asc_strs hL1 (by rw [List.length_map]; omega) fun L2 n2 => ?_
    rw [upS_map]
    have s2 : Same H1 (upd H1 L2 (.lst (((asc (ltN (·.nm)) s.seats).map (·.nm)).map V.str))) := (Same.refl _).new n2
    have hL2 : (upd H1 L2 (.lst (((asc (ltN (·.nm)) s.seats).map (·.nm)).map V.str))) L2 = some (.lst (((asc (ltN (·.nm)) s.seats).map (·.nm)).map V.str)) := upd_same
    generalize upd H1 L2 (.lst (((asc (ltN (·.nm)) s.seats).map (·.nm)).map V.str)) = H2 at *
    have s02 := s1.trans s2
    have pS : (asc (ltN (·.nm)) s.seats).Perm s.seats := asc_perm _ _
    have eSS : (asc (ltN (·.nm)) s.seats).map (fun i => (i.nm, i.st)) = asc (ltN (·.1)) s.homes := (asc_map (lt := ltN fun i : Seat => i.nm) (lt2 := ltN fun x : Str × Str => x.1) (f := fun i : Seat => (i.nm, i.st)) (fun _ _ => rfl) _).symm
    generalize asc (ltN (·.nm)) s.seats = SS at *
    refine ⟨L2, rfl, ⟨_, SqL.of hL2⟩, fun D nD => ?_⟩
    refine lc_list (K := K) (a := L2) (xs := (SS.map (·.nm)).map V.str) (fun i H3 => ∃ us, GS PsA H2 D H3 us ((SS.take i).map fun i => (i.nm, i.st))) ⟨[], GS.start nD⟩ (fun i H3 _ ⟨_, f⟩ => SqL.of (f.s _ _ hL2)) ?_ ?_
    · rintro i y H3 hi ⟨us, f⟩
      obtain ⟨x, hx, rfl⟩ := at_map hi
      obtain ⟨st, hst, rfl⟩ := at_mapG hx
      have sm : st ∈ s.seats := pS.mem_iff.mp (List.mem_of_getElem? hst)
      have pl3 := pl.same (s02.trans f.s)
      refine ⟨rfl, tYes_if ?_⟩
      refine ⟨_, rfl, _, rfl, s.p, CP, s.dp, _, .ref s.DS, rfl, pl3.hp, cP, nP _ (by simp [plFs]), rfl, _, rfl, s.DS, _, rfl, (by have z := DGet.k (k := Sum.inr st.nm) pl3.hDS; unfold kvS at z; rw [valV_map_in hnd sm] at z; exact z), st.a, CI, st.dx, _, .str st.st, rfl, pl3.hse sm, cI, nI _ (by simp), rfl, (show 2 ≤ sizeLine by decide), fun T2 n2 => ?_⟩
      have f2 := f.new stPs (o := .tup [V.str st.nm, .str st.st]) n2
      have hT2 : (upd H3 T2 (.tup [V.str st.nm, .str st.st])) T2 = some (.tup [V.str st.nm, .str st.st]) := upd_same
      have := f.pw.len
      rw [List.length_map, List.length_take] at this
      have := pS.length_eq
      refine ⟨us, f2.hL, size_ok (m := 1000) (by omega) (by decide), us ++ [V.ref T2], ?_⟩
      rw [take_snoc hst, List.map_append]
      exact f2.app nD ⟨T2, rfl, f2.del hT2⟩
    rintro H3 ⟨hv, f⟩
    rw [List.length_map, List.length_map, List.take_length, eSS] at f
    obtain ⟨hv', hD3, pB⟩ := f.done stPs
    rw [f.hL] at hD3
    cases hD3
    have hD3 := f.hL
    have s03 := s02.trans f.s
    clear f
    have pl3 := pl.same s03
    refine ⟨_, rfl, s.p, CP, s.dp, _, .ref s.DL, rfl, pl3.hp, cP, nP _ (by simp [plFs]), rfl, s.DL, kvL s.lines, rfl, .inl pl3.hDL, fun L3 n3 => ?_⟩
    have e3 : (kvL s.lines).map (fun kv => kV kv.1) = (s.lines.map (·.l.nm)).map V.str := by
      unfold kvL
      rw [List.map_map, List.map_map]
      rfl
    rw [e3]
    have s4 : Same H3 (upd H3 L3 (.lst ((s.lines.map (·.l.nm)).map V.str))) := (Same.refl _).new n3
    have hL3 : (upd H3 L3 (.lst ((s.lines.map (·.l.nm)).map V.str))) L3 = some (.lst ((s.lines.map (·.l.nm)).map V.str)) := upd_same
    generalize upd H3 L3 (.lst ((s.lines.map (·.l.nm)).map V.str)) = H4 at *
    simp only [tNil]
    refine asc_strs hL3 (by rw [List.length_map]; omega) fun L4 n4 => ?_
    rw [upS_map (fun c : Cn => c.l.nm)]
    have s5 : Same H4 (upd H4 L4 (.lst (((asc (ltN fun c : Cn => c.l.nm) s.lines).map fun c => c.l.nm).map V.str))) := (Same.refl _).new n4
    have hL4 : (upd H4 L4 (.lst (((asc (ltN fun c : Cn => c.l.nm) s.lines).map fun c => c.l.nm).map V.str))) L4 = some (.lst (((asc (ltN fun c : Cn => c.l.nm) s.lines).map fun c => c.l.nm).map V.str)) := upd_same
    generalize upd H4 L4 (.lst (((asc (ltN fun c : Cn => c.l.nm) s.lines).map fun c => c.l.nm).map V.str)) = H5 at *
    have pL : (asc (ltN fun c : Cn => c.l.nm) s.lines).Perm s.lines := asc_perm _ _
    have eLL : (asc (ltN fun c : Cn => c.l.nm) s.lines).map (·.l) = asc (ltN (·.nm)) s.lns := (asc_map (lt := ltN fun c : Cn => c.l.nm) (lt2 := ltN fun x : Ln => x.nm) (f := fun c : Cn => c.l) (fun _ _ => rfl) _).symm
    generalize asc (ltN fun c : Cn => c.l.nm) s.lines = LL at *
    have s35 := s4.trans s5
    have s05 := s03.trans s35
    have pl5 := pl.same s05
    refine ⟨L4, rfl, ⟨_, SqL.of hL4⟩, fun D2 nD2 => ?_⟩
    refine lc_list (K := K) (a := L4) (xs := (LL.map fun c => c.l.nm).map V.str) (fun i H6 => H6 = upd H5 D2 (.lst ((LL.take i).map fun c => V.ref c.a))) rfl (fun i H6 _ e => by rw [e]; exact ((Same.refl _).new nD2).seq (SqL.of hL4)) ?_ ?_
    · rintro i y H6 hi rfl
      obtain ⟨x, hx, rfl⟩ := at_map hi
      obtain ⟨c, hc, rfl⟩ := at_mapG hx
      have cm : c ∈ s.lines := pL.mem_iff.mp (List.mem_of_getElem? hc)
      have pl6 := pl5.same ((Same.refl H5).new (o := .lst ((LL.take i).map fun c => V.ref c.a)) nD2)
      have := pL.length_eq
      refine ⟨rfl, tYes_if ⟨_, rfl, s.p, CP, s.dp, _, .ref s.DL, rfl, pl6.hp, cP, nP _ (by simp [plFs]), rfl, _, rfl, s.DL, .ref c.a, rfl, (by have z := DGet.k (k := Sum.inr c.l.nm) pl6.hDL; unfold kvL at z; rw [valV_map_in hnl cm] at z; exact z), _, upd_same, ?_, ?_⟩⟩
      · rw [List.length_map, List.length_take]
        exact size_ok (m := 1000) (by omega) (by decide)
      · rw [upd_upd, take_snoc hc, List.map_append]
        rfl
    rintro H6 rfl
    rw [List.length_map, List.length_map, List.take_length]
    have s6 : Same H5 (upd H5 D2 (.lst (LL.map fun c => V.ref c.a))) := (Same.refl _).new nD2
    have hD2 : (upd H5 D2 (.lst (LL.map fun c => V.ref c.a))) D2 = some (.lst (LL.map fun c => V.ref c.a)) := upd_same
    generalize upd H5 D2 (.lst (LL.map fun c => V.ref c.a)) = H6 at *
    have s06 := s05.trans s6
    refine ⟨_, rfl, D2, rfl, ⟨_, SqL.of hD2⟩, fun D3 nD3 => ?_⟩
    refine lc_list (K := K) (a := D2) (xs := LL.map fun c => V.ref c.a) (fun i H7 => ∃ us, GS RwU H6 D3 H7 us ((LL.take i).map (·.l))) ⟨[], GS.start nD3⟩ (fun i H7 _ ⟨_, f⟩ => SqL.of (f.s _ _ hD2)) ?_ ?_
    · rintro i y H7 hi ⟨us, f⟩
      obtain ⟨c, hc, rfl⟩ := at_map hi
      have cm : c ∈ s.lines := pL.mem_iff.mp (List.mem_of_getElem? hc)
      have pl7 := pl.same (s06.trans f.s)
      have hca := pl7.hca cm
      refine ⟨rfl, tYes_if ?_⟩
      refine ⟨_, rfl, c.a, CC, c.dx, _, .str c.l.nm, rfl, hca, cC, nC _ (by simp), rfl, ?_⟩
      refine ⟨_, rfl, c.a, CC, c.dx, _, .str c.l.src, rfl, hca, cC, nC _ (by simp), rfl, ?_⟩
      refine ⟨_, rfl, c.a, CC, c.dx, _, .str c.l.tgt, rfl, hca, cC, nC _ (by simp), rfl, ?_⟩
      refine ⟨_, rfl, c.a, CC, c.dx, _, _, _, _, rfl, hca, g_carried, (by decide), rfl, c.a, CC, c.dx, c.la, _, c.l.it, rfl, hca, cC, nC _ (by simp), rfl, SqL.of (pl7.hla cm), (by have := zi c cm; omega), fun b nb => ?_⟩
      have f2 := f.new stRwU (o := .lst ((upS c.l.it).map V.str)) nb
      have hb : (upd H7 b (.lst ((upS c.l.it).map V.str))) b = some (.lst ((upS c.l.it).map V.str)) := upd_same
      have hca2 : (upd H7 b (.lst ((upS c.l.it).map V.str))) c.a = some (.ins CC c.dx (cnF c)) := (Same.refl _).new nb _ _ hca
      have bD : b ≠ D3 := fun e => by rw [e, f.hL] at nb; cases nb
      generalize upd H7 b (.lst ((upS c.l.it).map V.str)) = H8 at *
      refine ⟨_, rfl, c.a, CC, c.dx, _, kindV c.l.kd, rfl, hca2, cC, nC _ (by simp), rfl, (show 5 ≤ sizeLine by decide), fun T2 n2 => ?_⟩
      have f3 := f2.new stRwU (o := .tup (rwV c.l b)) n2
      have hT2 : (upd H8 T2 (.tup (rwV c.l b))) T2 = some (.tup (rwV c.l b)) := upd_same
      have hb3 : (upd H8 T2 (.tup (rwV c.l b))) b = some (.lst ((upS c.l.it).map V.str)) := (Same.refl _).new n2 _ _ hb
      have := f.pw.len
      rw [List.length_map, List.length_take] at this
      have := pL.length_eq
      refine ⟨us, f3.hL, size_ok (m := 1000) (by omega) (by decide), us ++ [V.ref T2], ?_⟩
      rw [take_snoc hc, List.map_append]
      exact f3.app nD3 ⟨T2, b, rfl, f3.del hT2, by rw [delH_ne bD]; exact hb3⟩
    rintro H7 ⟨cv, f⟩
    rw [List.length_map, List.take_length, eLL] at f
    obtain ⟨cv', hD7, pC⟩ := f.done stRwU
    rw [f.hL] at hD7
    cases hD7
    have hD7 := f.hL
    have s67 := f.s
    clear f
    have s07 := s06.trans s67
    have pl7 := pl.same s07
    refine ⟨_, rfl, s.p, CP, s.dp, _, .ref s.LP, rfl, pl7.hp, cP, nP _ (by simp [plFs]), rfl, ?_⟩
    simp only [tNil]
    refine asc_strs pl7.hLP (by omega) fun A nA => ?_
    have s8 : Same H7 (upd H7 A (.lst ((upS s.places).map V.str))) := (Same.refl _).new nA
    have hA : (upd H7 A (.lst ((upS s.places).map V.str))) A = some (.lst ((upS s.places).map V.str)) := upd_same
    generalize upd H7 A (.lst ((upS s.places).map V.str)) = H8 at *
    refine ⟨_, rfl, _, rfl, (show 3 ≤ sizeLine by decide), fun T2 n2 => ?_⟩
    have s9 : Same H8 (upd H8 T2 (.tup [.ref A, .ref D, .ref D3])) := (Same.refl _).new n2
    have s79 := s8.trans s9
    have s39 := (s35.trans s6).trans (s67.trans s79)
    refine kQ T2 A D D3 _ ⟨s07.trans s79, s07.free nA, upd_same, s9 _ _ hA, ⟨hv, s39 _ _ hD3, pB.mono fun v x => stPs _ _ v x s39⟩, ⟨cv, s79 _ _ hD7, pC.mono fun v x => stRwU _ _ v x s79⟩⟩
end

/-! ### Placement.copies -/
abbrev sCps : Stmt := (inClass (top 32) 17)
theorem scCps : FnScope ["self"] ["self"] (defScope sCps) := ⟨rfl, rfl, rfl, by decide +kernel, rfl, by decide +kernel, by decide +kernel⟩
def spCps (CP CI CC : Addr) : Sp := fun vs H Q _ => ∃ (H0 : Hp) (s : PSt), vs = [.ref s.p] ∧ PlW CP CI CC H0 H s ∧ ∀ L H', H L = none → Same H H' → LsA PsA H' L (asc (ltA prD) s.cps) → Q (.ref L) H'
section
variable {P : Program} {w : World} {K : PySem.W.Frag} {mg : Str → Option Value} {base : Heap}
theorem ok_cps {f CP CI CC : Addr} {fd : FuncData} (F : FnQ K "copies" "Placement.copies" sCps f fd) (T : Bj mg) (g_ascending : Cal P w K mg base 2 "ascending" ["rows"] (spAsc K)) (cP : Cls K CP) (nP : ∀ f ∈ plFs, NoAttr K CP f) : FnOk P w K mg base (L2.CX P w) 3 f fd ["self"] (spCps CP CI CC) := by
  refine F.ok scCps (fun vs H Q E h => ?_) (fun cdv A outer s H vs Q E hr h => ?_)
  · obtain ⟨H0, s, rfl, _⟩ := h
    rfl
  · obtain ⟨H0, s, rfl, pl, kQ⟩ := h
    have nd := scCps.nd
    refine ⟨_, (pss_one (ps_ret (pe_cal g_ascending hr takes0 (pa_cons (pe_callTy (call_list_dT rfl) (by rfl) T.list (by decide +kernel) (pa_cons (pe_fld (pv 0) rfl) pa_nil)) pa_nil)))), ?_⟩
    refine ⟨_, rfl, s.p, CP, s.dp, _, .ref s.DB, rfl, pl.hp, cP, nP _ (by simp [plFs]), rfl, s.DB, s.kvb, rfl, .inl pl.hDB, fun p bs np hk => ?_⟩
    have s1 : Same H (upd H p (.lst (bs.map V.ref))) := (Same.refl _).new np
    refine asc_prs (E := E) (sp := spAsc K) (vs := bs.map V.ref) (l := s.cps) upd_same (keys_pw pl.b.keys hk s1) (by unfold PSt.cps; rw [List.length_map]; exact pl.kz) (fun xs h1 h2 h3 h4 h5 => ⟨p, xs, rfl, h1, h2, h3, h4, h5⟩) fun r H' nr sr hl => ?_
    exact kQ r H' (s1.free nr) (s1.trans sr) hl
end

/-! ### Placement.passes -/
abbrev sPs : Stmt := (inClass (top 32) 8)
theorem scPs : FnScope ["self", "item", "site", "other", "line"] ["self", "item", "site", "other"] (defScope sPs) := ⟨rfl, rfl, rfl, by decide +kernel, rfl, by decide +kernel, by decide +kernel⟩
def spPs (CP CI CC : Addr) : Sp := fun vs H Q _ => ∃ (H0 : Hp) (s : PSt) (wy : Ways) (i u t : Str) (v : List Str), vs = [.ref s.p, .str i, .str u, .str t] ∧ PlV CP CI CC H0 H s wy ∧ wy i u = some v ∧ ∀ H', Same H H' → Q (.bl ((s.g wy).vis v u t)) H'
section
variable {P : Program} {w : World} {K : PySem.W.Frag} {mg : Str → Option Value} {base : Heap}
theorem ok_ps {f CP CI CC : Addr} {fd : FuncData} (F : FnQ K "passes" "Placement.passes" sPs f fd) (cP : Cls K CP) (nP : ∀ f ∈ plFs, NoAttr K CP f) (cC : Cls K CC) (nC : ∀ f ∈ (["source", "target", "names", "name", "kind"] : List Str), NoAttr K CC f) :
    FnOk P w K mg base (L2.CX P w) 1 f fd ["self", "item", "site", "other"] (spPs CP CI CC) := by
  refine F.ok scPs (fun vs H Q E h => ?_) (fun cdv A outer s H vs Q E hr h => ?_)
  · obtain ⟨H0, s, wy, i, u, t, v, rfl, _⟩ := h
    rfl
  · obtain ⟨H0, s, wy, i, u, t, v, rfl, pl, hw, kQ⟩ := h
    have nd := scPs.nd
    have hu := hu_of hr
    refine ⟨_, (pss_cons (ps_while (passes_of rfl) (pt_cmpR op_ne (pv 2) (pv 3) (nomark _)) (pss_cons (ps_set (i := 4) nd rfl (Or.inl rfl) (pe_dget1 hu (pe_fld (pv 0) rfl) (pe_tup (pa_cons (pv 1) (pa_cons (pv 2) pa_nil))) ⟨rfl, by rfl, by rfl, rfl⟩))
        (pss_cons (ps_if (pt_cmpR op_isN (pv 4) pe_non (nomark _)) (pss_one (ps_ret pe_bl)) pss_nil)
        (pss_one (ps_set (i := 2) nd rfl (Or.inl rfl) (pe_fld (pv 4) rfl))))))
      (pss_one (ps_ret pe_bl))), ?_⟩
    refine ⟨fun m σ H1 => ∃ (u' : Str) (v' : List Str) (l : Option V), σ = [some (.ref s.p), some (.str i), some (.str u'), some (.str t), l] ∧ Same H H1 ∧ wy i u' = some v' ∧ m = v'.length ∧ (s.g wy).vis v u t = (s.g wy).vis v' u' t, ⟨v.length, u, v, none, rfl, Same.refl _, hw, rfl, rfl⟩, ?_⟩
    rintro m σ H1 ⟨u', v', l, rfl, s1, hw', rfl, ev⟩
    have pl1 := pl.same s1
    refine ⟨_, rfl, _, rfl, rfl, _, rfl, ?_⟩
    by_cases q : u' = t
    · subst q
      rw [show (!decide (V.str u' = V.str u')) = false by simp]
      refine iteF ?_
      rw [Gd.vis_here] at ev
      have z := kQ H1 s1
      rw [ev] at z
      exact z
    · rw [show (!decide (V.str u' = V.str t)) = true by rw [decide_eq_false (fun e => q (V.str.inj e))]; rfl]
      refine iteT ?_
      refine ⟨fun σ' H' => ∃ m', m' < v'.length ∧ ∃ (u' : Str) (v' : List Str) (l : Option V), σ' = [some (.ref s.p), some (.str i), some (.str u'), some (.str t), l] ∧ Same H H' ∧ wy i u' = some v' ∧ m' = v'.length ∧ (s.g wy).vis v u t = (s.g wy).vis v' u' t, fun _ _ z => z, ?_⟩
      refine ⟨_, rfl, s.p, CP, s.dp, _, .ref s.DB, rfl, pl1.w_.hp, cP, nP _ (by simp [plFs]), rfl, s.DB, rfl, .inr ⟨_, .inl pl1.w_.hDB⟩, _, rfl, _, rfl, (show 2 ≤ sizeLine by decide), fun T1 nT1 => ?_⟩
      have s2 : Same H1 (upd H1 T1 (.tup [V.str i, .str u'])) := (Same.refl _).new nT1
      have pl2 := pl1.same s2
      refine ⟨_, DGet.t (k := k2 i u') pl2.w_.hDB upd_same, ?_⟩
      generalize upd H1 T1 (.tup [V.str i, .str u']) = H2 at *
      by_cases vn : v' = []
      · subst vn
        have nb : valV s.kvb (k2 i u') = none := pl.w_.b.out i u' fun c hc ⟨hi, et⟩ => by
          obtain ⟨w', _, h2⟩ := pl.o.wL c.l (List.mem_map.mpr ⟨c, hc, rfl⟩) i hi
          rw [et] at h2
          have h3 : wy i u' = some (w' ++ [c.l.nm]) := h2
          rw [hw'] at h3
          have := congrArg List.length (Option.some.inj h3)
          simp at this
        rw [nb]
        refine ⟨_, rfl, rfl, _, rfl, iteT ?_⟩
        rw [Gd.vis_nil, decide_eq_false q] at ev
        have z := kQ _ (s1.trans s2)
        rw [ev] at z
        exact z
      · obtain ⟨l', hl, et, hi, w', e3, e4⟩ := pl.o.step hw' vn
        obtain ⟨c, hc, rfl⟩ := List.mem_map.mp hl
        subst et
        rw [pl.w_.b.in_ c hc i hi]
        refine ⟨_, rfl, rfl, _, rfl, iteF ?_⟩
        refine ⟨_, rfl, c.a, CC, c.dx, _, .str c.l.src, rfl, pl2.w_.hca hc, cC, nC _ (by simp), rfl, ?_⟩
        refine ⟨w'.length, by rw [e4]; simp, c.l.src, w', _, rfl, s1.trans s2, e3, rfl, ?_⟩
        rw [ev, e4]
        exact pl.o.vis_step hl q
end

/-! ### Placement.lose -/
abbrev sLo : Stmt := (inClass (top 32) 9)
theorem scLo : FnScope ["self", "item", "site", "line"] ["self", "item", "site"] (defScope sLo) := ⟨rfl, rfl, rfl, by decide +kernel, rfl, by decide +kernel, by decide +kernel⟩
def spLo (CP CI CC : Addr) : Sp := fun vs H Q _ => ∃ (H0 : Hp) (s : PSt) (c : Cn) (i : Str), vs = [.ref s.p, .str i, .str c.l.tgt] ∧ PlW CP CI CC H0 H s ∧ c ∈ s.lines ∧ i ∈ c.l.it ∧ ∀ H', PlW CP CI CC H0 H' (s.keep (but i c.l.tgt)) → Q .non H'
section
variable {P : Program} {w : World} {K : PySem.W.Frag} {mg : Str → Option Value} {base : Heap}
theorem ok_lo {f CP CI CC : Addr} {fd : FuncData} (F : FnQ K "lose" "Placement.lose" sLo f fd) (T : Bj mg) (cP : Cls K CP) (nP : ∀ f ∈ plFs, NoAttr K CP f) (cC : Cls K CC) (nC : ∀ f ∈ (["source", "target", "names", "name", "kind"] : List Str), NoAttr K CC f) :
    FnOk P w K mg base (L2.CX P w) 1 f fd ["self", "item", "site"] (spLo CP CI CC) := by
  refine F.ok scLo (fun vs H Q E h => ?_) (fun cdv A outer s H vs Q E hr h => ?_)
  · obtain ⟨H0, s, c, i, rfl, _⟩ := h
    rfl
  · obtain ⟨H0, s, c, i, rfl, pl, hc, hi, kQ⟩ := h
    have nd := scLo.nd
    have hu := hu_of hr
    refine ⟨_, (pss_cons (ps_set (i := 3) nd rfl (Or.inl rfl) (pe_dpopT hu (pe_fld (pv 0) rfl) (pe_tup (pa_cons (pv 1) (pa_cons (pv 2) pa_nil))) ⟨rfl, by rfl, by rfl, rfl⟩))
      (pss_cons (ps_expr (pe_bm PySem.F.plainAttrs_list PySem.F.slot_list_remove PySem.F.type_list_remove mt_removeS (pe_fld (pv 3) rfl) (pa_cons (pv 1) pa_nil)))
      (pss_one (ps_if (pt_cmpR op_eq (pe_callB call_len_seq (by rfl) T.len PySem.boot_len (pa_cons (pe_fld (pv 3) rfl) pa_nil)) pe_int (nomark _)) (pss_one (ps_ddel (pe_fld (pv 0) rfl) (pe_fld (pv 3) rfl))) pss_nil)))), ?_⟩
    refine ⟨_, rfl, s.p, CP, s.dp, _, .ref s.DB, rfl, pl.hp, cP, nP _ (by simp [plFs]), rfl, s.DB, rfl, .inr ⟨_, .inl pl.hDB⟩, _, rfl, _, rfl, (show 2 ≤ sizeLine by decide), fun T1 nT1 => ?_⟩
    have s1 : Same H (upd H T1 (.tup [V.str i, .str c.l.tgt])) := (Same.refl _).new nT1
    have hT1 : (upd H T1 (.tup [V.str i, .str c.l.tgt])) T1 = some (.tup ((k2 i c.l.tgt).map kV)) := upd_same
    generalize upd H T1 (.tup [V.str i, .str c.l.tgt]) = H1 at *
    have pl1 := pl.same s1
    refine ⟨s.kvb, k2 i c.l.tgt, T1, .ref c.a, pl1.hDB, rfl, hT1, pl.b.in_ c hc i hi, ?_⟩
    have cIn : c.a ∈ (seT CI s.p s.seats ++ chT CC s.lines).map (·.1) ∧ c.la ∈ (seT CI s.p s.seats ++ chT CC s.lines).map (·.1) := ⟨List.mem_map.mpr ⟨_, List.mem_append_right _ (chT_mem hc).1, rfl⟩, List.mem_map.mpr ⟨_, List.mem_append_right _ (chT_mem hc).2, rfl⟩⟩
    have n1 : c.a ≠ s.DB := Ne.symm (pl.sep1 (by simp) cIn.1)
    have n2 : c.la ≠ s.DB := Ne.symm (pl.sep1 (by simp) cIn.2)
    have n3 : c.a ≠ c.la := fun e => by have := pl.hca hc; rw [e, pl.hla hc] at this; cases this
    have n4 : s.DL ≠ s.DB := fun e => by have := pl.nd5; simp [e] at this
    have n5 : s.DL ≠ c.la := pl.sep1 (by simp) cIn.2
    have n6 : c.a ≠ s.DL := Ne.symm (pl.sep1 (by simp) cIn.1)
    have n7 : s.p ≠ s.DB := fun e => by have := pl.nd5; simp [e] at this
    have n8 : s.p ≠ c.la := pl.sep1 (by simp) cIn.2
    have n9 : s.DB ≠ c.la := pl.sep1 (by simp) cIn.2
    have f1 : ∀ o, (upd H1 s.DB o) c.a = some (.ins CC c.dx (cnF c)) := fun o => by rw [upd_ne n1]; exact pl1.hca hc
    have f2 : ∀ o, (upd H1 s.DB o) c.la = some (.lst (c.l.it.map V.str)) := fun o => by rw [upd_ne n2]; exact pl1.hla hc
    refine ⟨_, rfl, c.a, CC, c.dx, _, .ref c.la, rfl, f1 _, cC, nC _ (by simp), rfl, .inl ⟨rfl, _, SqL.of (f2 _)⟩, _, rfl, c.la, c.l.it, i, rfl, rfl, f2 _, hi, ?_⟩
    have g1 : ∀ o u, (upd (upd H1 s.DB o) c.la u) c.a = some (.ins CC c.dx (cnF c)) := fun o u => by rw [upd_ne n3]; exact f1 o
    have hz : (c.l.it.erase i).length ≤ 100 := Nat.le_trans List.length_erase_le (pl.zi c hc)
    refine ⟨_, rfl, c.a, CC, c.dx, _, .ref c.la, rfl, g1 _ _, cC, nC _ (by simp), rfl, c.la, _, rfl, .inl (SqL.of upd_same), rfl, _, rfl, ?_⟩
    by_cases em : c.l.it.erase i = []
    · have e0 : decide (V.int ((c.l.it.erase i).map V.str).length = V.int 0) = true := by rw [em]; rfl
      rw [e0]
      refine iteT ?_
      refine ⟨_, rfl, s.p, CP, s.dp, _, .ref s.DL, rfl, (by rw [upd_ne n8, upd_ne n7]; exact pl1.hp), cP, nP _ (by simp [plFs]), rfl, _, rfl, c.a, CC, c.dx, _, .str c.l.nm, rfl, g1 _ _, cC, nC _ (by simp), rfl, s.DL, kvL s.lines, Sum.inr c.l.nm, rfl, (by rw [upd_ne n5, upd_ne n4]; exact pl1.hDL), rfl, ?_, ?_⟩
      · unfold kvL
        rw [valV_map_in pl.nl hc]
        rfl
      · refine kQ _ (pl1.loseTo hc hi ?_ ?_ ?_ ?_)
        · rw [upd_ne (Ne.symm n4), upd_ne n9, upd_same]
        · rw [upd_ne (Ne.symm n5), upd_same]
        · rw [upd_same, kvL_lose0 pl hc hi em]
        · exact fun b h1 h2 h3 => by rw [upd_ne h3, upd_ne h2, upd_ne h1]
    · have e0 : decide (V.int ((c.l.it.erase i).map V.str).length = V.int 0) = false := decide_eq_false fun e => em (by
        have := V.int.inj e
        rw [List.length_map] at this
        exact List.length_eq_zero_iff.mp (by omega))
      rw [e0]
      refine iteF ?_
      refine kQ _ (pl1.loseTo hc hi ?_ ?_ ?_ ?_)
      · rw [upd_ne n9, upd_same]
      · rw [upd_same]
      · rw [upd_ne n5, upd_ne n4, kvL_lose1 pl hc hi em]; exact pl1.hDL
      · exact fun b h1 h2 h3 => by rw [upd_ne h2, upd_ne h1]
end

/-! ### Placement.give_up -/
abbrev sGu : Stmt := (inClass (top 32) 10)
theorem scGu : FnScope ["self", "item", "site", "lost", "copy"] ["self", "item", "site"] (defScope sGu) := ⟨rfl, rfl, rfl, by decide +kernel, rfl, by decide +kernel, by decide +kernel⟩
def lostF (g : Gd) (i t : Str) (x : Str × Str) : Bool := decide (x.1 = i) && g.lost i t x.2
def spGu (CP CI CC CU CN : Addr) : Sp := fun vs H Q E => ∃ (H0 : Hp) (s : PSt) (wy : Ways) (i t : Str), vs = [.ref s.p, .str i, .str t] ∧ PlV CP CI CC H0 H s wy ∧
  (i ∉ s.seats.map (·.nm) → Rz E CU H [("name", .str i)]) ∧ (i ∈ s.seats.map (·.nm) → t ∉ s.places → Rz E CU H [("name", .str t)]) ∧
  (i ∈ s.seats.map (·.nm) → t ∈ s.places → (i, t) ∉ s.cps → ∀ H', Same H H' → Rz E CN H' [("site", .str t), ("item", .str i)]) ∧
  ((i, t) ∈ s.cps → ∀ L J H', H L = none → Same (cut H (s.ads CP CI CC)) J → LsA PsA J L (s.lostL (lostF (s.g wy) i t)) → PlV CP CI CC J H' (s.keep ((s.g wy).keepT i t)) (keepW ((s.g wy).keepT i t) wy) → Q (.ref L) H')
theorem valV_cps {s : PSt} (b : BrA s.kvb s.lines) (i t : Str) : (valV s.kvb (k2 i t)).isSome = decide ((i, t) ∈ s.cps) := by
  rw [Bool.eq_iff_iff, decide_eq_true_iff, ← valV_any, List.any_eq_true]
  constructor
  · rintro ⟨e, he, q⟩
    exact List.mem_map.mpr ⟨e, he, by rw [of_decide_eq_true q]; rfl⟩
  · intro h
    obtain ⟨e, he, q⟩ := List.mem_map.mp h
    obtain ⟨j, u, q2⟩ := b.keys e he
    rw [q2, keyP_k2] at q
    cases q
    exact ⟨e, he, decide_eq_true q2⟩
theorem cut_sameN {H H' : Hp} {A : List Addr} (s : Same H H') : Same (cut H A) (cut H' A) := cut_same s
section
variable {P : Program} {w : World} {K : PySem.W.Frag} {mg : Str → Option Value} {base : Heap}
theorem ok_gu {f CP CI CC CU CN : Addr} {fd : FuncData} (F : FnQ K "give_up" "Placement.give_up" sGu f fd) (T : Bj mg) (g_check_known : Cal P w K mg base 1 "check_known" ["name", "known"] (spKn K CU)) (m_copies : Mth P w K mg base 3 CP "copies" ["self"] (spCps CP CI CC)) (m_passes : Mth P w K mg base 1 CP "passes" ["self", "item", "site", "other"] (spPs CP CI CC)) (m_lose : Mth P w K mg base 1 CP "lose" ["self", "item", "site"] (spLo CP CI CC))
    (xNotHeld : PySem.XEx.XCls P K CN ["item", "site"] (defArgs sINotHeld) (defBody sINotHeld) (defScope sINotHeld)) (gNotHeld : mg "NotHeld" = some (.ref CN)) (cP : Cls K CP) (nP : ∀ f ∈ plFs, NoAttr K CP f) :
    FnOk P w K mg base (L2.CX P w) 4 f fd ["self", "item", "site"] (spGu CP CI CC CU CN) := by
  refine F.ok scGu (fun vs H Q E h => ?_) (fun cdv A outer s H vs Q E hr h => ?_)
  · obtain ⟨H0, s, wy, i, t, rfl, _⟩ := h
    rfl
  · obtain ⟨H0, s, wy, i, t, rfl, pl, k1, k2', k3, k4⟩ := h
    have nd := scGu.nd
    have hu := hu_of hr
    refine ⟨_, (pss_cons (ps_expr (pe_cal g_check_known hr (takes_of rfl rfl rfl rfl) (pa_cons (pv 1) (pa_cons (pe_fld (pv 0) rfl) pa_nil))))
      (pss_cons (ps_expr (pe_cal g_check_known hr (takes_of rfl rfl rfl rfl) (pa_cons (pv 2) (pa_cons (pe_fld (pv 0) rfl) pa_nil))))
      (pss_cons (ps_if (pt_cmp (pc_dnotin hu (pe_tup (pa_cons (pv 1) (pa_cons (pv 2) pa_nil))) (pe_fld (pv 0) rfl))) (pss_one (ps_raiseX rfl xNotHeld iNotHeld gNotHeld hr (takes_of rfl rfl rfl rfl) (pa_cons (pv 1) (pa_cons (pv 2) pa_nil)))) pss_nil)
      (pss_cons (ps_setLc (i := 3) (own := [("copy", 4)]) (g := gName 4) (by rfl) nd rfl rfl (sw_true rfl rfl rfl (by decide +kernel)) (pi_list (pe_mthE0 hr (takes_of rfl rfl rfl rfl) (pv 0))) (blkOk_by (own := [("copy", 4)]) (N := ["self", "item", "site", "lost", "copy"]) (sc := defScope sGu) (by decide +kernel)) (fun _ _ _ _ _ => (pg_name (i := 4) nd rfl (Or.inl rfl))) (fun _ _ _ _ _ => (pts_one (PW.pt (pw_and (pt_cmpR op_eq (pe_ix (show IxR _ (rIxT K) from ix_tup) (pv 4) pe_int (fun _ _ => rfl)) (pv 1) (nomark _)) (pw_and1 (pt_val (show PE _ _ (tMthE P w K mg base _ _ _ _ _) from (pe_mthE hr takes0 (pv 0) (pa_cons (pv 1) (pa_cons (pe_ix (show IxR _ (rIxT K) from ix_tup) (pv 4) pe_int (fun _ _ => rfl)) (pa_cons (pv 2) pa_nil))))))))))) (fun _ _ _ _ _ => (pv 4)))
      (pss_cons (ps_for (passes_of rfl) rfl (pi_list (pv 3)) (pg_name (i := 4) nd rfl (Or.inl rfl)) (pss_one (ps_expr (pe_mthE hr (takes_of rfl rfl rfl rfl) (pv 0) (pa_cons (pv 1) (pa_cons (pe_ix ix_tup (pv 4) pe_int (fun _ _ => rfl)) pa_nil))))))
      (pss_one (ps_ret (pv 3)))))))), ?_⟩
    have pw_ := pl.w_
    refine ⟨_, rfl, _, rfl, s.p, CP, s.dp, _, .ref s.DS, rfl, pw_.hp, cP, nP _ (by simp [plFs]), rfl, i, s.DS, fun x => decide (x ∈ s.seats.map (·.nm)), rfl, .inr ⟨kvS s.seats, .inl pw_.hDS, fun x => (valV_map_isSome x).symm⟩, fun q1 => ?_, fun q => k1 (of_decide_eq_false q)⟩
    have im := of_decide_eq_true q1
    refine ⟨_, rfl, _, rfl, s.p, CP, s.dp, _, .ref s.LP, rfl, pw_.hp, cP, nP _ (by simp [plFs]), rfl, t, s.LP, fun x => decide (x ∈ s.places), rfl, .inl ⟨_, SqL.of pw_.hLP, fun _ => rfl⟩, fun q2 => ?_, fun q => k2' im (of_decide_eq_false q)⟩
    have tm := of_decide_eq_true q2
    refine ⟨_, rfl, _, rfl, (show 2 ≤ sizeLine by decide), fun T1 nT1 => ?_⟩
    have s1 : Same H (upd H T1 (.tup [V.str i, .str t])) := (Same.refl _).new nT1
    have hT1 : (upd H T1 (.tup [V.str i, .str t])) T1 = some (.tup ((k2 i t).map kV)) := upd_same
    generalize upd H T1 (.tup [V.str i, .str t]) = H1 at *
    have pl1 := pl.same s1
    refine ⟨_, rfl, s.p, CP, s.dp, _, .ref s.DB, rfl, pl1.w_.hp, cP, nP _ (by simp [plFs]), rfl, s.DB, _, rfl, DGet.t (k := k2 i t) pl1.w_.hDB hT1, _, rfl, ?_⟩
    rw [valV_cps pw_.b]
    by_cases q : (i, t) ∈ s.cps
    · rw [decide_eq_true q]
      refine iteF ?_
      obtain ⟨v0, hv0, vn0⟩ := pl.cps_way.mp q
      have nh := pl.o.noHome hv0 vn0
      refine ⟨_, rfl, s.p, CP, s.dp, _, 3, _, _, rfl, pl1.w_.hp, m_copies, by decide, rfl, H0, s, rfl, pl1.w_, fun L1 H2 nL1 s2 hL1 => ?_⟩
      obtain ⟨vs, hL1', pw⟩ := hL1
      have pl2 := pl1.same s2
      refine ⟨L1, rfl, ⟨_, SqL.of hL1'⟩, fun D nD => ?_⟩
      generalize hcp : asc (ltA prD) s.cps = cp at *
      refine lc_list (K := K) (a := L1) (xs := vs) (fun n H3 => ∃ us, GS PsA H2 D H3 us ((cp.take n).filter (lostF (s.g wy) i t))) ⟨[], GS.start nD⟩ (fun n H3 _ ⟨_, f⟩ => SqL.of (f.s _ _ hL1')) ?_ ?_
      · rintro n y H3 hy ⟨us, f⟩
        obtain ⟨x, hx, t1, rfl, ht⟩ := pw.get hy
        have ht3 := f.s _ _ ht
        have eT := take_snoc hx
        have pl3 := pl2.same f.s
        have xm : x ∈ s.cps := (asc_perm _ _).mem_iff.mp (by rw [hcp]; exact List.mem_of_getElem? hx)
        have usl : us.length ≤ 10000 := by
          rw [f.pw.len]
          refine Nat.le_trans (List.length_filter_le _ _) (Nat.le_trans (Nat.le_trans (Nat.le_of_eq List.length_take) (Nat.min_le_right _ _)) ?_)
          rw [← hcp, (asc_perm _ _).length_eq]
          unfold PSt.cps
          rw [List.length_map]
          exact pw_.kz
        refine ⟨rfl, ?_⟩
        refine ⟨_, rfl, t1, _, _, _, rfl, rfl, .inl (.inl ht3), (show atI [V.str x.1, .str x.2] 0 = some (.str x.1) from rfl), _, rfl, rfl, _, rfl, ?_⟩
        by_cases qx : x.1 = i
        · rw [show decide (V.str x.1 = V.str i) = true by rw [qx]; simp]
          refine iteT ?_
          obtain ⟨v, hv, vn⟩ := pl.cps_way.mp (show (i, x.2) ∈ s.cps by rw [← qx]; exact xm)
          refine ⟨_, rfl, s.p, CP, s.dp, _, 1, _, _, rfl, pl3.w_.hp, m_passes, by decide, rfl, _, rfl, _, rfl, t1, _, _, _, rfl, rfl, .inl (.inl ht3), (show atI [V.str x.1, .str x.2] 1 = some (.str x.2) from rfl), _, rfl, H0, s, wy, i, x.2, t, v, rfl, pl3, hv, fun H4 s4 => ?_⟩
          have f4 := f.same stPs s4
          have eF : lostF (s.g wy) i t x = (s.g wy).vis v x.2 t := by
            unfold lostF Gd.lost
            rw [show (s.g wy).ways i x.2 = some v from hv, decide_eq_true qx]
            rfl
          refine ⟨_, rfl, ?_⟩
          cases eV : (s.g wy).vis v x.2 t with
          | true =>
            refine iteT ?_
            refine ⟨_, rfl, us, f4.hL, size_ok (m := 10000) (by omega) (by decide), us ++ [V.ref t1], ?_⟩
            rw [eT, List.filter_append, show List.filter (lostF (s.g wy) i t) [x] = [x] by rw [List.filter_cons, eF, eV]; rfl]
            exact f4.app nD ⟨t1, rfl, f4.del (s4 _ _ ht3)⟩
          | false =>
            refine iteF ?_
            refine ⟨us, ?_⟩
            rw [eT, List.filter_append, show List.filter (lostF (s.g wy) i t) [x] = [] by rw [List.filter_cons, eF, eV]; rfl, List.append_nil]
            exact f4
        · rw [show decide (V.str x.1 = V.str i) = false from decide_eq_false fun e => qx (V.str.inj e)]
          refine iteF ?_
          refine iteF ?_
          refine ⟨us, ?_⟩
          rw [eT, List.filter_append, show List.filter (lostF (s.g wy) i t) [x] = [] by rw [List.filter_cons]; unfold lostF; rw [decide_eq_false qx]; rfl, List.append_nil]
          exact f
      · rintro H3 ⟨us, f⟩
        rw [pw.len, List.take_length] at f
        have eL : cp.filter (lostF (s.g wy) i t) = s.lostL (lostF (s.g wy) i t) := by rw [← hcp]; rfl
        rw [eL] at f
        have pl3 := pl2.same f.s
        have nDH : H D = none := (s1.trans s2).free nD
        have hD : LsA PsA (cut H3 (s.ads CP CI CC)) D (s.lostL (lostF (s.g wy) i t)) := pl3.w_.outLs nD f.s pl2.w_ (f.done stPs)
        have sJ : Same (cut H (s.ads CP CI CC)) (cut H3 (s.ads CP CI CC)) := cut_same ((s1.trans s2).trans f.s)
        have x0 := pl3.w_.rest
        generalize hJ : cut H3 (s.ads CP CI CC) = J at *
        have lnd := lostL_nodup (f := lostF (s.g wy) i t) pw_.b
        have lsub : ∀ x ∈ s.lostL (lostF (s.g wy) i t), x ∈ s.cps ∧ x.1 = i := fun x hx => by
          obtain ⟨h1, h2⟩ := lostL_mem.mp hx
          exact ⟨h1, of_decide_eq_true (Bool.and_eq_true_iff.mp h2).1⟩
        have lK := lostL_keep (f := lostF (s.g wy) i t) (K := (s.g wy).keepT i t) pw_.b fun x _ => rfl
        generalize s.lostL (lostF (s.g wy) i t) = lo at *
        obtain ⟨vl, hDl, pl_⟩ := hD
        refine ⟨_, rfl, D, rfl, ⟨_, SqL.of (x0.sj _ _ hDl)⟩, ?_⟩
        refine for_list (K := K) (a := D) (xs := vl) (fun n σ H4 => ∃ u, σ = [some (.ref s.p), some (.str i), some (.str t), some (.ref D), u] ∧ PlW CP CI CC J H4 (s.keep (notIn (lo.take n)))) ⟨none, rfl, by rw [List.take_zero, keep_none pw_.ne]; exact x0⟩ (fun n σ H4 _ ⟨_, _, x⟩ => SqL.of (x.sj _ _ hDl)) ?_ ?_
        · rintro n y σ H4 hn ⟨u, rfl, x⟩
          obtain ⟨z, hz, t1, rfl, ht⟩ := pl_.get hn
          obtain ⟨z1, z2⟩ := lsub z (List.mem_of_getElem? hz)
          obtain ⟨i', t'⟩ := z
          obtain rfl : i' = i := z2
          obtain ⟨c, hc, hi, rfl, eK⟩ := lose_step pw_.b lnd (fun x hx => (lsub x hx).1) hz
          refine ⟨_, rfl, s.p, CP, s.dp, _, 1, _, _, rfl, x.hp, m_lose, by decide, rfl, _, rfl, _, rfl, t1, _, _, _, rfl, rfl, .inl (.inl (x.sj _ _ ht)), (show atI [V.str i', .str c.l.tgt] 1 = some (.str c.l.tgt) from rfl), J, s.keep (notIn (lo.take n)), c, i', rfl, x, hc, hi, fun H5 x5 => ?_⟩
          rw [eK] at x5
          exact ⟨_, rfl, x5⟩
        · rintro σ H4 ⟨u, rfl, x⟩
          rw [pl_.len, List.take_length, lK] at x
          refine ⟨_, rfl, k4 q D J H4 nDH sJ ⟨vl, hDl, pl_⟩ (pl.keep x (pl.o.keepT_home nh) (pl.o.keepT_cl i t))⟩
    · rw [decide_eq_false q]
      refine iteT ?_
      exact ⟨_, rfl, _, rfl, rfl, (fun e => by cases e), fun _ d hd => k3 im tm q H1 s1 d hd⟩
end

/-! ### Placement.give_up_all -/
abbrev sGa : Stmt := (inClass (top 32) 11)
theorem scGa : FnScope ["self", "item", "lost", "copy"] ["self", "item"] (defScope sGa) := ⟨rfl, rfl, rfl, by decide +kernel, rfl, by decide +kernel, by decide +kernel⟩
def spGa (CP CI CC : Addr) : Sp := fun vs H Q _ => ∃ (H0 : Hp) (s : PSt) (i : Str), vs = [.ref s.p, .str i] ∧ PlW CP CI CC H0 H s ∧ ∀ J H', Same (cut H (s.ads CP CI CC)) J → PlW CP CI CC J H' (s.keep (noItem i)) → Q .non H'
section
variable {P : Program} {w : World} {K : PySem.W.Frag} {mg : Str → Option Value} {base : Heap}
theorem ok_ga {f CP CI CC : Addr} {fd : FuncData} (F : FnQ K "give_up_all" "Placement.give_up_all" sGa f fd) (m_copies : Mth P w K mg base 3 CP "copies" ["self"] (spCps CP CI CC)) (m_lose : Mth P w K mg base 1 CP "lose" ["self", "item", "site"] (spLo CP CI CC)) :
    FnOk P w K mg base (L2.CX P w) 4 f fd ["self", "item"] (spGa CP CI CC) := by
  refine F.ok scGa (fun vs H Q E h => ?_) (fun cdv A outer s H vs Q E hr h => ?_)
  · obtain ⟨H0, s, i, rfl, _⟩ := h
    rfl
  · obtain ⟨H0, s, i, rfl, pl, k4⟩ := h
    have nd := scGa.nd
    have hu := hu_of hr
    refine ⟨_, (pss_cons (ps_setLc (i := 2) (own := [("copy", 3)]) (g := gName 3) (by rfl) nd rfl rfl (sw_true rfl rfl rfl (by decide +kernel)) (pi_list (pe_mthE0 hr takes0 (pv 0))) (blkOk_by (own := [("copy", 3)]) (N := ["self", "item", "lost", "copy"]) (sc := defScope sGa) (by decide +kernel)) (fun _ _ _ _ _ => (pg_name (i := 3) nd rfl (Or.inl rfl))) (fun _ _ _ _ _ => (pts_one (pt_cmpR op_eq (pe_ix (show IxR _ (rIxT K) from ix_tup) (pv 3) pe_int (fun _ _ => rfl)) (pv 1) (nomark _)))) (fun _ _ _ _ _ => (pv 3)))
      (pss_one (ps_for (passes_of rfl) rfl (pi_list (pv 2)) (pg_name (i := 3) nd rfl (Or.inl rfl)) (pss_one (ps_expr (pe_mthE hr takes0 (pv 0) (pa_cons (pv 1) (pa_cons (pe_ix ix_tup (pv 3) pe_int (fun _ _ => rfl)) pa_nil)))))))), ?_⟩
    refine ⟨_, rfl, s.p, CP, s.dp, _, 3, _, _, rfl, pl.hp, m_copies, by decide, rfl, H0, s, rfl, pl, fun L1 H2 nL1 s2 hL1 => ?_⟩
    obtain ⟨vs, hL1', pw⟩ := hL1
    have pl2 := pl.same s2
    refine ⟨L1, rfl, ⟨_, SqL.of hL1'⟩, fun D nD => ?_⟩
    generalize hcp : asc (ltA prD) s.cps = cp at *
    refine lc_list (K := K) (a := L1) (xs := vs) (fun n H3 => ∃ us, GS PsA H2 D H3 us ((cp.take n).filter fun x => decide (x.1 = i))) ⟨[], GS.start nD⟩ (fun n H3 _ ⟨_, f⟩ => SqL.of (f.s _ _ hL1')) ?_ ?_
    · rintro n y H3 hy ⟨us, f⟩
      obtain ⟨x, hx, t1, rfl, ht⟩ := pw.get hy
      have ht3 := f.s _ _ ht
      have eT := take_snoc hx
      have usl : us.length ≤ 10000 := by
        rw [f.pw.len]
        refine Nat.le_trans (List.length_filter_le _ _) (Nat.le_trans (Nat.le_trans (Nat.le_of_eq List.length_take) (Nat.min_le_right _ _)) ?_)
        rw [← hcp, (asc_perm _ _).length_eq]
        unfold PSt.cps
        rw [List.length_map]
        exact pl.kz
      refine ⟨rfl, ?_⟩
      refine ⟨_, rfl, t1, _, _, _, rfl, rfl, .inl (.inl ht3), (show atI [V.str x.1, .str x.2] 0 = some (.str x.1) from rfl), _, rfl, rfl, _, rfl, ?_⟩
      by_cases qx : x.1 = i
      · rw [show decide (V.str x.1 = V.str i) = true by rw [qx]; simp]
        refine iteT ?_
        refine ⟨_, rfl, us, f.hL, size_ok (m := 10000) (by omega) (by decide), us ++ [V.ref t1], ?_⟩
        rw [eT, List.filter_append, show List.filter (fun x : Str × Str => decide (x.1 = i)) [x] = [x] by rw [List.filter_cons, decide_eq_true qx]; rfl]
        exact f.app nD ⟨t1, rfl, f.del ht3⟩
      · rw [show decide (V.str x.1 = V.str i) = false from decide_eq_false fun e => qx (V.str.inj e)]
        refine iteF ?_
        refine ⟨us, ?_⟩
        rw [eT, List.filter_append, show List.filter (fun x : Str × Str => decide (x.1 = i)) [x] = [] by rw [List.filter_cons, decide_eq_false qx]; rfl, List.append_nil]
        exact f
    · rintro H3 ⟨us, f⟩
      rw [pw.len, List.take_length] at f
      have eL : cp.filter (fun x => decide (x.1 = i)) = s.lostL (fun x => decide (x.1 = i)) := by rw [← hcp]; rfl
      rw [eL] at f
      have pl3 := pl2.same f.s
      have hD : LsA PsA (cut H3 (s.ads CP CI CC)) D (s.lostL (fun x => decide (x.1 = i))) := pl3.outLs nD f.s pl2 (f.done stPs)
      have sJ : Same (cut H (s.ads CP CI CC)) (cut H3 (s.ads CP CI CC)) := cut_same (s2.trans f.s)
      have x0 := pl3.rest
      generalize hJ : cut H3 (s.ads CP CI CC) = J at *
      have lnd := lostL_nodup (f := fun x => decide (x.1 = i)) pl.b
      have lsub : ∀ x ∈ s.lostL (fun x => decide (x.1 = i)), x ∈ s.cps ∧ x.1 = i := fun x hx => by
        obtain ⟨h1, h2⟩ := lostL_mem.mp hx
        exact ⟨h1, of_decide_eq_true h2⟩
      have lK := lostL_keep (f := fun x => decide (x.1 = i)) (K := noItem i) pl.b fun x _ => rfl
      generalize s.lostL (fun x => decide (x.1 = i)) = lo at *
      obtain ⟨vl, hDl, pl_⟩ := hD
      refine ⟨_, rfl, D, rfl, ⟨_, SqL.of (x0.sj _ _ hDl)⟩, ?_⟩
      refine for_list (K := K) (a := D) (xs := vl) (fun n σ H4 => ∃ u, σ = [some (.ref s.p), some (.str i), some (.ref D), u] ∧ PlW CP CI CC J H4 (s.keep (notIn (lo.take n)))) ⟨none, rfl, by rw [List.take_zero, keep_none pl.ne]; exact x0⟩ (fun n σ H4 _ ⟨_, _, x⟩ => SqL.of (x.sj _ _ hDl)) ?_ ?_
      · rintro n y σ H4 hn ⟨u, rfl, x⟩
        obtain ⟨z, hz, t1, rfl, ht⟩ := pl_.get hn
        obtain ⟨z1, z2⟩ := lsub z (List.mem_of_getElem? hz)
        obtain ⟨i', t'⟩ := z
        obtain rfl : i' = i := z2
        obtain ⟨c, hc, hi, rfl, eK⟩ := lose_step pl.b lnd (fun x hx => (lsub x hx).1) hz
        refine ⟨_, rfl, s.p, CP, s.dp, _, 1, _, _, rfl, x.hp, m_lose, by decide, rfl, _, rfl, _, rfl, t1, _, _, _, rfl, rfl, .inl (.inl (x.sj _ _ ht)), (show atI [V.str i', .str c.l.tgt] 1 = some (.str c.l.tgt) from rfl), J, s.keep (notIn (lo.take n)), c, i', rfl, x, hc, hi, fun H5 x5 => ?_⟩
        rw [eK] at x5
        exact ⟨_, rfl, x5⟩
      · rintro σ H4 ⟨u, rfl, x⟩
        rw [pl_.len, List.take_length, lK] at x
        exact k4 J H4 sJ x
end

/-! ### where the laws on a placement stand -/
/-- the ground as it stays in J: the tuple of sites, homes, channels, ways -/
structure GdS (J : Hp) (T S HM CH W : Addr) (as : List Addr) (kvs : List (List L2.Key × V)) (g : Gd) : Prop where
  t : J T = some (.tup [.ref S, .ref HM, .ref CH, .ref W])
  s : J S = some (.lst (g.sites.map V.str))
  h : LsA PsA J HM g.homes
  al : as.length = g.lines.length
  c : ∃ cs, J CH = some (.lst cs) ∧ cs.length = g.lines.length ∧ ∀ (k : Nat) l a, g.lines[k]? = some l → as[k]? = some a → ∃ r, cs[k]? = some (.ref r) ∧ J r = some (.tup (rwV l a))
  w : J W = some (.dT kvs)
  y : WyS J kvs g.ways
  i : ∀ (k : Nat) l a, g.lines[k]? = some l → as[k]? = some a → J a = some (.lst (l.it.map V.str))
theorem GdS.same {J J' : Hp} {T S HM CH W : Addr} {as : List Addr} {kvs : List (List L2.Key × V)} {g : Gd} (x : GdS J T S HM CH W as kvs g) (s : Same J J') : GdS J' T S HM CH W as kvs g := by
  obtain ⟨cs, h1, h2, h3⟩ := x.c
  exact ⟨s _ _ x.t, s _ _ x.s, x.h.same stPs s, x.al, ⟨cs, s _ _ h1, h2, fun k l a e1 e2 => let ⟨r, q1, q2⟩ := h3 k l a e1 e2; ⟨r, q1, s _ _ q2⟩⟩, s _ _ x.w, x.y.same s, fun k l a e1 e2 => s _ _ (x.i k l a e1 e2)⟩
/-- the channels' rows as things told by RwT -/
theorem GdS.rw {J : Hp} {T S HM CH W : Addr} {as : List Addr} {kvs : List (List L2.Key × V)} {g : Gd} (x : GdS J T S HM CH W as kvs g) : LsA RwT J CH g.lines := by
  obtain ⟨cs, h1, h2, h3⟩ := x.c
  refine ⟨cs, h1, h2, fun k v l e1 e2 => ?_⟩
  obtain ⟨a, ha⟩ : ∃ a, as[k]? = some a := ⟨_, List.getElem?_eq_getElem (by have := (List.getElem?_eq_some_iff.mp e2).1; rw [x.al]; omega)⟩
  obtain ⟨r, q1, q2⟩ := h3 k l a e2 ha
  rw [e1] at q1
  cases q1
  exact ⟨r, a, rfl, q2, x.i k l a e2 ha⟩
theorem GdA.st {H : Hp} {T S HM CH W p : Addr} {as : List Addr} {kvs : List (List L2.Key × V)} {g : Gd} {xs : List V} (gd : GdA H T S HM CH W as kvs g) (hp : H p = some (.lst xs)) (nS : S ≠ p) (nM : HM ≠ p) (nC : CH ≠ p) (nW : W ≠ p) (na : ∀ a ∈ as, a ≠ p) (y : WyS (cut H (p :: as)) kvs g.ways) : GdS (cut H [p]) T S HM CH W as kvs g := by
  have out : ∀ b o, H b = some o → b ≠ p → cut H [p] b = some o := fun b o h n => by rw [cut_out (by simpa using n)]; exact h
  have tupNe : ∀ t ys, H t = some (.tup ys) → t ≠ p := fun t ys h e => by rw [e, hp] at h; cases h
  obtain ⟨hv, hHM, ph⟩ := gd.h
  obtain ⟨cs, hCH, csl, hcs⟩ := gd.c
  refine ⟨out _ _ (cut_all _ _ gd.t) (tupNe _ _ (cut_all _ _ gd.t)), out _ _ (cut_all _ _ gd.s) nS, ⟨hv, out _ _ (cut_all _ _ hHM) nM, ph.mono fun v x ⟨t, e, ht⟩ => ⟨t, e, out _ _ (cut_all _ _ ht) (tupNe _ _ (cut_all _ _ ht))⟩⟩, gd.al, ⟨cs, out _ _ (cut_all _ _ hCH) nC, csl, fun k l a h1 h2 => let ⟨r, h3, h4⟩ := hcs k l a h1 h2; ⟨r, h3, out _ _ (cut_all _ _ h4) (tupNe _ _ (cut_all _ _ h4))⟩⟩, out _ _ (cut_all _ _ gd.w) nW, y.same (cut_sub fun a h => by rw [List.mem_singleton.mp h]; exact List.mem_cons_self), fun k l a h1 h2 => out _ _ (gd.i k l a h1 h2) (na a (List.mem_of_getElem? h2))⟩
theorem GdOk.told {g : Gd} (ok : GdOk g) (nm : GdNm g) : ToldOk g.sites g.homes g.lines where
  s := fun x hx => (nm.s x hx).2
  h := fun x hx => ⟨(nm.i x.1 (List.mem_map.mpr ⟨x, hx, rfl⟩)).2, (nm.s x.2 (ok.hS x hx)).2⟩
  l := fun l hl => ⟨(nm.l l hl).2.1, (nm.s _ (ok.lE l hl).1).2, (nm.s _ (ok.lE l hl).2.1).2, fun i hi => (nm.i i ((ok.lI l hl).2 i hi)).2, (nm.l l hl).2.2⟩
/-- what a law knows once its placement is made -/
structure Stt (g : Gd) (s : PSt) : Prop where
  ok : GdOk g
  nm : GdNm g
  hne : ∀ l ∈ g.lines, l.it ≠ []
  eS : s.places = g.sites
  eH : s.homes = g.homes
  eL : s.lns = g.lines
  z1 : 1 ≤ g.sites.length
  zs : g.sites.length ≤ 8
  zh : g.homes.length ≤ 8
  zl : g.lines.length ≤ 8
theorem Stt.zi {g : Gd} {s : PSt} (x : Stt g s) : ∀ l ∈ g.lines, l.it.length ≤ 8 := fun l hl => by
  have := nodup_le (x.ok.lI l hl).1 (x.ok.lI l hl).2
  have h2 := x.zh
  unfold Gd.goods at this
  rw [List.length_map] at this
  omega
theorem Stt.nms {g : Gd} {s : PSt} (x : Stt g s) : s.seats.map (·.nm) = g.goods := by unfold Gd.goods; rw [← x.eH]; unfold PSt.homes; rw [List.map_map]; rfl
theorem Stt.nml {g : Gd} {s : PSt} (x : Stt g s) : s.lines.map (·.l.nm) = g.lines.map (·.nm) := by rw [← x.eL]; unfold PSt.lns; rw [List.map_map]; rfl
theorem Stt.tok {g : Gd} {s : PSt} (x : Stt g s) : ToldOk g.sites g.homes g.lines := x.ok.told x.nm
theorem Stt.tokS {g : Gd} {s : PSt} (x : Stt g s) : ToldOk s.places s.homes s.lns := by rw [x.eS, x.eH, x.eL]; exact x.tok
theorem Stt.g {g : Gd} {s : PSt} (x : Stt g s) : s.g g.ways = g := by
  have h1 := x.eS
  have h2 := x.eH
  have h3 := x.eL
  unfold PSt.homes at h2
  unfold PSt.lns at h3
  unfold PSt.g
  rw [h1, h2, h3]
theorem Stt.td {g : Gd} {s : PSt} {J : Hp} {T S HM CH W : Addr} {as : List Addr} {kvs : List (List L2.Key × V)} (x : Stt g s) (gs : GdS J T S HM CH W as kvs g) : TdA J S HM CH g.sites g.homes g.lines :=
  ⟨gs.s, gs.h, gs.rw, by have := x.zs; omega, by have := x.zh; omega, by have := x.zl; omega, fun l hl => by have := x.zi l hl; omega, x.ok.hN, x.ok.lN⟩
/-- from _law_build's placement to where a law stands -/
theorem start_of {CP CI CC : Addr} {H3 H4 H5 : Hp} {p : Addr} {ds2 : List Int} {xs : List V} {T S HM CH W : Addr} {as : List Addr} {kvs : List (List L2.Key × V)} {g : Gd} {s : PSt} (hp3 : H3 p = some (.lst xs)) (hp4 : H4 p = some (.lst (ds2.map V.int))) (hd2 : Dr ds2) (gd : GdA H4 T S HM CH W as kvs g)
    (n2 : H3 S = none) (n3 : H3 HM = none) (n4 : H3 CH = none) (n5 : H3 W = none) (n6 : ∀ a ∈ as, H3 a = none ∧ a ≠ p) (ok : GdOk g) (nm : GdNm g) (hne : ∀ l ∈ g.lines, l.it ≠ []) (z0 : 1 ≤ g.sites.length) (z1 : g.sites.length ≤ 8) (z2 : g.goods.length ≤ 8) (z3 : g.lines.length ≤ 8)
    (hwy : WyS (cut H4 (p :: as)) kvs g.ways) (pm : Plm CP CI CC H4 H5 s g) : ∃ J0 J, LS CP CI CC J0 J H5 p ds2 s g.ways ∧ GdS J0 T S HM CH W as kvs g ∧ Stt g s := by
  have neP : ∀ b, H3 b = none → b ≠ p := fun b hb e => by rw [e, hp3] at hb; cases hb
  have zh : g.homes.length ≤ 8 := by
    have := z2
    unfold Gd.goods at this
    rwa [List.length_map] at this
  have eH : s.homes = g.homes := pm.eH
  have eL : s.lns = g.lines := pm.eL
  have hz : ∀ l ∈ g.lines, l.it.length ≤ 100 := fun l hl => by
    have := nodup_le (ok.lI l hl).1 (ok.lI l hl).2
    omega
  have lm : ∀ c ∈ s.lines, c.l ∈ g.lines := fun c hc => by rw [← eL]; exact List.mem_map.mpr ⟨c, hc, rfl⟩
  have nn : g.lines.Pairwise fun l m => ¬ (l.tgt = m.tgt ∧ ∃ i, i ∈ l.it ∧ i ∈ m.it) := List.pairwise_iff_getElem.mpr fun j k hj hk jk ⟨ht, i, h1, h2⟩ => by
    have := ok.u j k _ _ i (List.getElem?_eq_getElem hj) (List.getElem?_eq_getElem hk) ht h1 h2
    omega
  have ll := congrArg List.length eL
  have lh := congrArg List.length eH
  unfold PSt.lns at ll
  unfold PSt.homes at lh
  rw [List.length_map] at ll lh
  refine ⟨cut H4 [p], H4, ⟨cut_all, cut_in (by simp), hp4, hd2, ⟨⟨pm.pl.x, pm.pl.b, ?_, fun c hc => (ok.lI _ (lm c hc)).1, ?_, fun c hc => hne _ (lm c hc), pm.fr, pm.kz, by omega, by omega, by rw [pm.eS]; omega, fun c hc => hz _ (lm c hc)⟩, pm.pl.o⟩⟩,
    gd.st hp4 (neP _ n2) (neP _ n3) (neP _ n4) (neP _ n5) (fun a ha => (n6 a ha).2) hwy, ⟨ok, nm, hne, pm.eS, eH, eL, z0, z1, zh, z3⟩⟩
  · have := ok.lN
    rw [← eL] at this
    unfold PSt.lns at this
    rwa [List.map_map] at this
  · rw [← eL] at nn
    unfold PSt.lns at nn
    rw [List.pairwise_map] at nn
    exact nn
theorem eqD_of {K : PySem.W.Frag} {x y : V} {H : Hp} {Q : VK} {d : PyData} (h1 : Dp K H x d) (h2 : Dp K H y d) (l : d.canLay0 = true ∧ d.depth ≤ 64) (q : Q (.bl true) H) : rEqD K x y H Q :=
  ⟨d, d, h1, h2, shaped_of l, shaped_of l, by rw [SeqAt.eqv_refl _ l.1]; exact q⟩
theorem neD_of {K : PySem.W.Frag} {x y : V} {H : Hp} {Q : VK} {d : PyData} (h1 : Dp K H x d) (h2 : Dp K H y d) (l : d.canLay0 = true ∧ d.depth ≤ 64) (q : Q (.bl false) H) : rNeD K x y H Q :=
  ⟨d, d, h1, h2, shaped_of l, shaped_of l, by rw [SeqAt.eqv_refl _ l.1]; exact q⟩
/-- placement.rows() compared with what ty tells -/
theorem rows_cmp {P : Program} {w : World} {K : PySem.W.Frag} {mg : Str → Option Value} {base : Heap} {CP CI CC : Addr} {J0 J H : Hp} {p : Addr} {ds : List Int} {s : PSt} {wy : Ways} {j i : Nat} {W : WX} {ty : TE} {σ : L2.St} {Q : VK} {R : R2} {b : Bool} (L : LS CP CI CC J0 J H p ds s wy)
    (hR : ∀ (x y : V) (H : Hp) (Q : VK) (d : PyData), Dp K H x d → Dp K H y d → (d.canLay0 = true ∧ d.depth ≤ 64) → Q (.bl b) H → R x y H Q) (mR : Mth P w K mg base 4 CP "rows" ["self"] (spRw CP CI CC)) (hj : 4 ≤ j) (hi : σ[i]? = some (some (.ref s.p))) (ok : ToldOk s.places s.homes s.lns)
    (kX : ∀ J1 K1 HY T1, Same H HY → Same J0 J1 → LS CP CI CC J1 K1 HY p ds s wy → (∀ v H3, Same HY H3 → Dp K H3 v (toldD s.places s.homes s.lns) → Q (.bl b) H3 → R (.ref T1) v H3 Q) → ty σ HY fun v H3 => R (.ref T1) v H3 Q) :
    tOp R (tMthE P w K mg base j "rows" W (tVar i) tNil) ty σ H Q := by
  refine ⟨_, hi, s.p, CP, s.dp, _, 4, _, _, rfl, L.ho, mR, hj, rfl, J, s, wy, rfl, L.pl.a, L.pl.w_.zp, L.pl.w_.zl, L.pl.w_.zs, L.pl.w_.zi, fun T1 A1 B1 C1 HY ra => ?_⟩
  obtain ⟨J1, K1, _, sJ, L1⟩ := L.step ra.s
  exact kX J1 K1 HY T1 ra.s sJ L1 fun v H3 s3 dv q => hR _ _ _ _ _ (dp_same s3 (told_dp (K := K) ra.hT ra.hA ra.hB ra.hC)) dv (told_lay ok) q
/-- told of the ground itself -/
theorem told_self {K : PySem.W.Frag} {CP CI CC : Addr} {J0 J H : Hp} {p : Addr} {ds : List Int} {s : PSt} {wy : Ways} {g : Gd} {T S HM CH W : Addr} {as : List Addr} {kvs : List (List L2.Key × V)} {Q : VK} {E : XK} (x : Stt g s) (gs : GdS J0 T S HM CH W as kvs g) (L : LS CP CI CC J0 J H p ds s wy)
    (kQ : ∀ v H', Same H H' → Dp K H' v (toldD s.places s.homes s.lns) → Q v H') : spTd K [.ref T] H Q E := by
  have := x.td gs
  refine ⟨T, S, HM, CH, _, g.sites, g.homes, g.lines, rfl, L.at_ gs.t, this.same L.sj, fun v H' s' dv => kQ _ _ s' ?_⟩
  rw [x.eS, x.eH, x.eL]
  exact dv

/-! ### Placement.holds -/
abbrev sHo : Stmt := (inClass (top 32) 2)
theorem scHo : FnScope ["self", "item", "site"] ["self", "item", "site"] (defScope sHo) := ⟨rfl, rfl, rfl, by decide +kernel, rfl, by decide +kernel, by decide +kernel⟩
/-- a placement as it is read (its dict of items may be locked) -/
structure PlR (CP CI CC : Addr) (H : Hp) (s : PSt) (w : Ways) : Prop where
  hp : H s.p = some (.ins CP s.dp s.F)
  hDS : Rd H s.DS (.dK (kvS s.seats))
  hse : ∀ i ∈ s.seats, H i.a = some (.ins CI i.dx (seatF s.p i))
  hDB : H s.DB = some (.dT s.kvb)
  b : BrA s.kvb s.lines
  o : GdOk (s.g w)
def spHo (CP CI CC : Addr) : Sp := fun vs H Q _ => ∃ (s : PSt) (wy : Ways) (i t : Str), vs = [.ref s.p, .str i, .str t] ∧ PlR CP CI CC H s wy ∧ i ∈ s.seats.map (·.nm) ∧ ∀ H', Same H H' → Q (.bl (wy i t).isSome) H'
theorem PlA.r {CP CI CC : Addr} {H0 H : Hp} {s : PSt} {w : Ways} (x : PlA CP CI CC H0 H s w) : PlR CP CI CC H s w := ⟨x.hp, .inl x.hDS, fun _ h => x.hse h, x.hDB, x.b, x.o⟩
theorem PlR.same {CP CI CC : Addr} {H H' : Hp} {s : PSt} {w : Ways} (x : PlR CP CI CC H s w) (e : Same H H') : PlR CP CI CC H' s w := ⟨e _ _ x.hp, by
  rcases x.hDS with h | ⟨o, h⟩
  · exact .inl (e _ _ h)
  · exact .inr ⟨o, e _ _ h⟩, fun i h => e _ _ (x.hse i h), e _ _ x.hDB, x.b, x.o⟩
theorem PlR.nd {CP CI CC : Addr} {H : Hp} {s : PSt} {w : Ways} (x : PlR CP CI CC H s w) : (s.seats.map (·.nm)).Nodup := by
  have := x.o.hN
  unfold Gd.goods PSt.g at this
  rw [List.map_map] at this
  exact this
theorem PlR.br {CP CI CC : Addr} {H : Hp} {s : PSt} {w : Ways} (x : PlR CP CI CC H s w) {st : Seat} (hs : st ∈ s.seats) {t : Str} (ne : st.st ≠ t) : (valV s.kvb (k2 st.nm t)).isSome = (w st.nm t).isSome := by
  cases e : w st.nm t with
  | none =>
    rw [x.b.out st.nm t fun d hd ⟨h1, h2⟩ => ?_]
    rfl
    obtain ⟨v', _, h3⟩ := x.o.wL d.l (List.mem_map.mpr ⟨d, hd, rfl⟩) st.nm h1
    have h4 : w st.nm d.l.tgt = some (v' ++ [d.l.nm]) := h3
    rw [h2, e] at h4
    cases h4
  | some v =>
    rcases x.o.wD st.nm t v e with h | ⟨l, hl, e2, hi⟩
    · obtain ⟨st2, h2, e3⟩ := List.mem_map.mp h
      have e4 : st2.nm = st.nm := congrArg Prod.fst e3
      have e5 : st2.st = t := congrArg Prod.snd e3
      obtain ⟨i, hi, rfl⟩ := List.getElem_of_mem h2
      obtain ⟨j, hj, rfl⟩ := List.getElem_of_mem hs
      have : (s.seats.map (·.nm))[i]'(by simpa using hi) = (s.seats.map (·.nm))[j]'(by simpa using hj) := by simpa using e4
      have := (List.getElem_inj x.nd).mp this
      subst this
      exact absurd e5 ne
    · obtain ⟨d, hd, rfl⟩ := List.mem_map.mp hl
      have := x.b.in_ d hd st.nm hi
      rw [e2] at this
      rw [this]
      rfl
section
variable {P : Program} {w : World} {K : PySem.W.Frag} {mg : Str → Option Value} {base : Heap}
theorem ok_ho {f CP CI CC : Addr} {fd : FuncData} (F : FnQ K "holds" "Placement.holds" sHo f fd) (cP : Cls K CP) (nP : ∀ f ∈ plFs, NoAttr K CP f) (cI : Cls K CI) (nI : ∀ f ∈ (["owner", "name", "seat"] : List Str), NoAttr K CI f) : FnOk P w K mg base (L2.CX P w) 1 f fd ["self", "item", "site"] (spHo CP CI CC) := by
  refine F.ok scHo (fun vs H Q E h => ?_) (fun cdv A outer s H vs Q E hr h => ?_)
  · obtain ⟨s, wy, i, t, rfl, _⟩ := h
    rfl
  · obtain ⟨s, wy, i, t, rfl, pl, im, kQ⟩ := h
    have nd := scHo.nd
    have hu := hu_of hr
    refine ⟨_, (pss_one (ps_ret (pe_or (pe_cmpR op_eq (pe_fld (pe_dget hu (pe_fld (pv 0) rfl) (pv 1) (fun _ _ => rfl)) rfl) (pv 2) (nomark _)) (pe_one (pe_cmp (pc_din hu (pe_tup (pa_cons (pv 1) (pa_cons (pv 2) pa_nil))) (pe_fld (pv 0) rfl)) rfl))))), ?_⟩
    obtain ⟨st, hst, rfl⟩ := List.mem_map.mp im
    refine ⟨_, rfl, s.p, CP, s.dp, _, .ref s.DS, rfl, pl.hp, cP, nP _ (by simp [plFs]), rfl, _, rfl, s.DS, .ref st.a, rfl, (by refine .inl ⟨kvS s.seats, Sum.inr st.nm, pl.hDS, rfl, ?_⟩; unfold kvS; rw [valV_map_in pl.nd hst]), st.a, CI, st.dx, _, .str st.st, rfl, pl.hse st hst, cI, nI _ (by simp), rfl, _, rfl, rfl, _, rfl, ?_⟩
    by_cases q : st.st = t
    · subst q
      refine ite2 (fun _ => ?_) (fun c => absurd (by simp) c)
      have z := kQ H (Same.refl _)
      rw [show wy st.nm st.st = some [] from pl.o.wH (st.nm, st.st) (List.mem_map.mpr ⟨st, hst, rfl⟩)] at z
      exact z
    · refine ite2 (fun c => absurd c (by simp [q])) (fun _ => ?_)
      refine ⟨_, rfl, _, rfl, (show 2 ≤ sizeLine by decide), fun T1 n1 => ?_⟩
      have s1 : Same H (upd H T1 (.tup [V.str st.nm, .str t])) := (Same.refl _).new n1
      have pl1 := pl.same s1
      refine ⟨_, rfl, s.p, CP, s.dp, _, .ref s.DB, rfl, pl1.hp, cP, nP _ (by simp [plFs]), rfl, s.DB, _, rfl, DGet.t (k := k2 st.nm t) pl1.hDB upd_same, ?_⟩
      rw [pl.br hst q]
      exact kQ _ s1
end

/-! ### Placement.held -/
abbrev sHe : Stmt := (inClass (top 32) 15)
theorem scHe : FnScope ["self", "site", "item"] ["self", "site"] (defScope sHe) := ⟨rfl, rfl, rfl, by decide +kernel, rfl, by decide +kernel, by decide +kernel⟩
def PSt.heldL (s : PSt) (wy : Ways) (t : Str) : List Str := (s.seats.map (·.nm)).filter fun i => (wy i t).isSome
def spHe (CP CI CC CU : Addr) : Sp := fun vs H Q E => ∃ (H0 : Hp) (s : PSt) (wy : Ways) (t : Str), vs = [.ref s.p, .str t] ∧ PlV CP CI CC H0 H s wy ∧ (t ∉ s.places → Rz E CU H [("name", .str t)]) ∧ (t ∈ s.places → ∀ L H', H L = none → Same H H' → H' L = some (.lst ((upS (s.heldL wy t)).map V.str)) → Q (.ref L) H')
theorem Same.thaw2 {H H' : Hp} {W : Addr} {o u : HO} (h : H W = some u) (s : Same (upd H W o) H') : Same H (upd H' W u) := fun b v e => by
  by_cases q : b = W
  · subst q
    rw [h] at e
    cases e
    exact upd_same
  · rw [upd_ne q]
    exact s b v (by rw [upd_ne q]; exact e)
theorem PlV.rz {CP CI CC : Addr} {H0 H : Hp} {s : PSt} {w : Ways} (x : PlV CP CI CC H0 H s w) (od : Obj) : PlR CP CI CC (upd H s.DS (.frz od (.dK (kvS s.seats)))) s w := by
  have n5 := x.w_.nd5
  simp only [List.nodup_cons, List.mem_cons, List.not_mem_nil, or_false, not_or, List.nodup_nil, not_false_eq_true, and_true] at n5
  obtain ⟨⟨n12, n13, n14, n15⟩, ⟨n23, n24, n25⟩, ⟨n34, n35⟩, n45⟩ := n5
  refine ⟨by rw [upd_ne (Ne.symm n35)]; exact x.w_.hp, .inr ⟨od, upd_same⟩, fun i hi => ?_, by rw [upd_ne n13]; exact x.w_.hDB, x.w_.b, x.o⟩
  rw [upd_ne (Ne.symm (x.w_.sep1 (by simp) (by rw [List.map_append]; exact List.mem_append_left _ (List.mem_map.mpr ⟨_, seT_mem hi, rfl⟩))))]
  exact x.w_.hse hi
section
variable {P : Program} {w : World} {K : PySem.W.Frag} {mg : Str → Option Value} {base : Heap}
theorem ok_he {f CP CI CC CU : Addr} {fd : FuncData} (F : FnQ K "held" "Placement.held" sHe f fd) (g_check_known : Cal P w K mg base 1 "check_known" ["name", "known"] (spKn K CU)) (g_ascending : Cal P w K mg base 2 "ascending" ["rows"] (spAsc K)) (m_holds : Mth P w K mg base 1 CP "holds" ["self", "item", "site"] (spHo CP CI CC)) (cP : Cls K CP) (nP : ∀ f ∈ plFs, NoAttr K CP f) :
    FnOk P w K mg base (L2.CX P w) 3 f fd ["self", "site"] (spHe CP CI CC CU) := by
  refine F.ok scHe (fun vs H Q E h => ?_) (fun cdv A outer s H vs Q E hr h => ?_)
  · obtain ⟨H0, s, wy, t, rfl, _⟩ := h
    rfl
  · obtain ⟨H0, s, wy, t, rfl, pl, k1, k2⟩ := h
    have nd := scHe.nd
    have hu := hu_of hr
    refine ⟨_, (pss_cons (ps_expr (pe_cal g_check_known hr (takes_of rfl rfl rfl rfl) (pa_cons (pv 1) (pa_cons (pe_fld (pv 0) rfl) pa_nil))))
      (pss_one (ps_ret (pe_cal g_ascending hr (takes_of rfl rfl rfl rfl) (pa_cons (pe_lock (pe_lc (own := [("item", 2)]) (g := gName 2) (by rfl) nd (pi_keys (pe_fld (pv 0) rfl)) (blkOk_by (own := [("item", 2)]) (N := ["self", "site", "item"]) (sc := defScope sHe) (by decide +kernel)) (fun _ _ _ _ _ => (pg_name (i := 2) nd rfl (Or.inl rfl))) (fun _ _ _ _ _ => (pts_one (pt_val (show PE _ _ (tMthE P w K mg base _ _ _ _ _) from (pe_mthE hr takes0 (pv 0) (pa_cons (pv 2) (pa_cons (pv 1) pa_nil))))))) (fun _ _ _ _ _ => (pv 2)))) pa_nil))))), ?_⟩
    have pw := pl.w_
    refine ⟨_, rfl, _, rfl, s.p, CP, s.dp, _, .ref s.LP, rfl, pw.hp, cP, nP _ (by simp [plFs]), rfl, t, s.LP, fun x => decide (x ∈ s.places), rfl, .inl ⟨_, SqL.of pw.hLP, fun _ => rfl⟩, fun q2 => ?_, fun q => k1 (of_decide_eq_false q)⟩
    have tm := of_decide_eq_true q2
    refine ⟨s.DS, _, pw.hDS, trivial, fun od => ?_⟩
    have pr := pl.rz od
    have hF : (upd H s.DS (.frz od (.dK (kvS s.seats)))) s.DS = some (.frz od (.dK (kvS s.seats))) := upd_same
    have sTh : ∀ H', Same (upd H s.DS (.frz od (.dK (kvS s.seats)))) H' → Same H (upd H' s.DS (.dK (kvS s.seats))) := fun H' sm => Same.thaw2 pw.hDS sm
    have nF : ∀ b, (upd H s.DS (.frz od (.dK (kvS s.seats)))) b = none → H b = none := fun b h => by rw [upd_ne (fun e => by rw [e, upd_same] at h; cases h)] at h; exact h
    generalize upd H s.DS (.frz od (.dK (kvS s.seats))) = F0 at *
    refine ⟨_, rfl, s.p, CP, s.dp, _, .ref s.DS, rfl, pr.hp, cP, nP _ (by simp [plFs]), rfl, s.DS, od, rfl, .inl ⟨kvS s.seats, hF, fun D nD => ?_⟩⟩
    have kl : (kvS s.seats).length = s.seats.length := by unfold kvS; rw [List.length_map]
    refine lc_it walk_keys (fun n H1 => Hx F0 H1 [(D, .lst ((((s.seats.map (·.nm)).take n).filter fun i => (wy i t).isSome).map V.str))]) ((Hx.refl F0).push nD) (fun n H1 _ x => x.keep (by simp [nD]) _ _ hF) ?_ ?_
    · rintro n y H1 H1' hn x ⟨rfl, k, v, hk, rfl⟩
      obtain ⟨st, hst⟩ : ∃ st, s.seats[n]? = some st := ⟨_, List.getElem?_eq_getElem (by omega)⟩
      have e1 : (kvS s.seats)[n]? = some (Sum.inr st.nm, V.ref st.a) := by unfold kvS; rw [List.getElem?_map, hst]; rfl
      rw [e1] at hk
      cases hk
      have hn' : (s.seats.map (·.nm))[n]? = some st.nm := by rw [List.getElem?_map, hst]; rfl
      have eT := take_snoc hn'
      have s1 := x.keep (by simp [nD])
      have pr1 := pr.same s1
      refine ⟨rfl, ?_⟩
      refine ⟨_, rfl, s.p, CP, s.dp, _, 1, _, _, rfl, pr1.hp, m_holds, by decide, rfl, _, rfl, _, rfl, s, wy, st.nm, t, rfl, pr1, List.mem_map.mpr ⟨st, List.mem_of_getElem? hst, rfl⟩, fun H2 s2 => ⟨_, rfl, ?_⟩⟩
      have x2 := x.same s2
      cases eb : (wy st.nm t).isSome with
      | true =>
        refine iteT ⟨_, rfl, _, x2.get 0 rfl, ?_, ?_⟩
        · rw [List.length_map]
          exact size_ok (m := 10000) (by have := List.length_filter_le (fun i => (wy i t).isSome) ((s.seats.map (·.nm)).take n); rw [List.length_take, List.length_map] at this; have := pw.zs; omega) (by decide)
        · have z := x2.set (o' := .lst (((((s.seats.map (·.nm)).take n).filter fun i => (wy i t).isSome).map V.str) ++ [V.str st.nm])) 0 rfl
          rw [eT, List.filter_append, show List.filter (fun i => (wy i t).isSome) [st.nm] = [st.nm] by rw [List.filter_cons, eb]; rfl, List.map_append]
          exact z
      | false =>
        refine iteF ?_
        rw [eT, List.filter_append, show List.filter (fun i => (wy i t).isSome) [st.nm] = [] by rw [List.filter_cons, eb]; rfl, List.append_nil]
        exact x2
    · rintro H1 x
      have s1 := x.keep (by simp [nD])
      refine ⟨s1 _ _ hF, ?_⟩
      have eh : ((s.seats.map (·.nm)).take (kvS s.seats).length) = s.seats.map (·.nm) := by rw [kl, ← List.length_map (f := fun x : Seat => x.nm), List.take_length]
      have x' := x
      rw [eh] at x'
      have DDS : D ≠ s.DS := fun e => by rw [e, hF] at nD; cases nD
      have hD2 : (upd H1 s.DS (.dK (kvS s.seats))) D = some (.lst ((s.heldL wy t).map V.str)) := by rw [upd_ne DDS]; exact x'.get 0 rfl
      have s2 := sTh _ s1
      generalize upd H1 s.DS (.dK (kvS s.seats)) = H2 at *
      refine asc_strs (E := E) hD2 ?_ fun r hr => ?_
      · unfold PSt.heldL
        have := List.length_filter_le (fun i => (wy i t).isSome) (s.seats.map (·.nm))
        rw [List.length_map] at this
        have := pw.zs
        omega
      · exact k2 tm r _ (s2.free hr) (s2.new hr) upd_same
end

/-! ### Placement.drop_site -/
abbrev sDs : Stmt := (inClass (top 32) 12)
theorem scDs : FnScope ["self", "name", "gone", "item"] ["self", "name"] (defScope sDs) := ⟨rfl, rfl, rfl, by decide +kernel, rfl, by decide +kernel, by decide +kernel⟩
/-- items whose home is t -/
def PSt.gone (s : PSt) (t : Str) : List Str := (s.seats.filter fun x => decide (x.st = t)).map (·.nm)
def goneP (s : PSt) (t : Str) : Str → Bool := fun j => decide (j ∈ s.gone t)
/-- the copies that don't pass t -/
def offT (w : Ways) (t : Str) : KeepP := fun j u => !pre (w j t) (w j u)
def PSt.dropped (s : PSt) (w : Ways) (t : Str) : PSt := ((s.off (goneP s t)).keep (offT (dropW (goneP s t) w) t)).unplace t
def dropWays (s : PSt) (w : Ways) (t : Str) : Ways := keepW (offT (dropW (goneP s t) w) t) (dropW (goneP s t) w)
def spDs (CP CI CC CU : Addr) : Sp := fun vs H Q E => ∃ (H0 : Hp) (s : PSt) (wy : Ways) (t : Str), vs = [.ref s.p, .str t] ∧ PlV CP CI CC H0 H s wy ∧ (t ∉ s.places → Rz E CU H [("name", .str t)]) ∧
  (t ∈ s.places → ∀ J H', Same (cut H (s.ads CP CI CC)) J → PlV CP CI CC J H' (s.dropped wy t) (dropWays s wy t) → Q .non H')
theorem off_none {CP CI CC : Addr} {H0 H : Hp} {s : PSt} (x : PlW CP CI CC H0 H s) : s.off (fun _ => false) = s := by
  unfold PSt.off
  have e1 : s.keep (itemK fun _ => false) = s := PSt.keep_all x.ne (fun _ _ _ _ => rfl) fun e he => by
    obtain ⟨i, t, q⟩ := x.b.keys e he
    rw [q]
    rfl
  have e2 : (s.seats.filter fun x => !(fun _ => false : Str → Bool) x.nm) = s.seats := List.filter_eq_self.mpr fun _ _ => rfl
  rw [e1, e2]
/-- the step from site to site of drop_site: i's copies beyond t are given up, the others are as they were -/
def partT (w : Ways) (t : Str) (l : List Str) : KeepP := fun j u => !(decide (j ∈ l) && pre (w j t) (w j u))
theorem partT_ways (w : Ways) (t : Str) (l : List Str) {i : Str} (hi : i ∉ l) (u : Str) : keepW (partT w t l) w i u = w i u := by
  unfold keepW partT
  rw [decide_eq_false hi]
  rfl
theorem part_step {CP CI CC : Addr} {H0 H : Hp} {s : PSt} {w : Ways} {t i : Str} {l : List Str} (x : PlV CP CI CC H0 H (s.keep (partT w t l)) (keepW (partT w t l) w)) (hi : i ∉ l) :
    (s.keep (partT w t l)).keep (((s.keep (partT w t l)).g (keepW (partT w t l) w)).keepT i t) = s.keep (partT w t (l ++ [i])) ∧ keepW (((s.keep (partT w t l)).g (keepW (partT w t l) w)).keepT i t) (keepW (partT w t l) w) = keepW (partT w t (l ++ [i])) w := by
  have eK : (((s.keep (partT w t l)).g (keepW (partT w t l) w)).keepT i t) = fun j u => !(decide (j = i) && pre (w i t) (w i u)) := by
    funext j u
    unfold Gd.keepT
    rw [x.o.lost_pre]
    show (!(decide (j = i) && pre (keepW (partT w t l) w i t) (keepW (partT w t l) w i u))) = _
    rw [partT_ways w t l hi, partT_ways w t l hi]
  have eP : (fun j u => partT w t l j u && !(decide (j = i) && pre (w i t) (w i u))) = partT w t (l ++ [i]) := by
    funext j u
    unfold partT
    by_cases q : j = i
    · subst q
      rw [decide_eq_false hi, decide_eq_true rfl, decide_eq_true (by simp : j ∈ l ++ [j])]
      rfl
    · rw [decide_eq_false q]
      by_cases m : j ∈ l
      · rw [decide_eq_true m, decide_eq_true (List.mem_append_left _ m : j ∈ l ++ [i])]
        simp
      · rw [decide_eq_false m, decide_eq_false (fun h : j ∈ l ++ [i] => (List.mem_append.mp h).elim m fun h => q (List.mem_singleton.mp h))]
        rfl
  rw [eK]
  refine ⟨by rw [PSt.keep_keep, eP], ?_⟩
  rw [← eP]
  funext j u
  show (if (!(decide (j = i) && pre (w i t) (w i u))) = true then (if partT w t l j u = true then w j u else none) else none) = if (partT w t l j u && !(decide (j = i) && pre (w i t) (w i u))) = true then w j u else none
  generalize partT w t l j u = a
  generalize (!(decide (j = i) && pre (w i t) (w i u))) = b
  cases a <;> cases b <;> rfl
theorem PlV.unplace {CP CI CC : Addr} {H0 H : Hp} {s : PSt} {w : Ways} (x : PlV CP CI CC H0 H s w) {t : Str} (h : ∀ i, w i t = none) : PlV CP CI CC H0 (upd H s.LP (.lst ((s.places.erase t).map V.str))) (s.unplace t) w :=
  ⟨x.w_.unplace t, x.o.offSite (t := t) h fun l hl => by obtain ⟨c, hc, rfl⟩ := List.mem_map.mp hl; exact x.w_.ne c hc⟩
section
variable {P : Program} {w : World} {K : PySem.W.Frag} {mg : Str → Option Value} {base : Heap}
theorem ok_ds {f CP CI CC CU CN : Addr} {fd : FuncData} (F : FnQ K "drop_site" "Placement.drop_site" sDs f fd) (g_check_known : Cal P w K mg base 1 "check_known" ["name", "known"] (spKn K CU)) (m_ga : Mth P w K mg base 4 CP "give_up_all" ["self", "item"] (spGa CP CI CC)) (m_held : Mth P w K mg base 3 CP "held" ["self", "site"] (spHe CP CI CC CU)) (m_gu : Mth P w K mg base 4 CP "give_up" ["self", "item", "site"] (spGu CP CI CC CU CN))
    (cP : Cls K CP) (nP : ∀ f ∈ plFs, NoAttr K CP f) (cI : Cls K CI) (nI : ∀ f ∈ (["owner", "name", "seat"] : List Str), NoAttr K CI f) :
    FnOk P w K mg base (L2.CX P w) 5 f fd ["self", "name"] (spDs CP CI CC CU) := by
  refine F.ok scDs (fun vs H Q E h => ?_) (fun cdv A outer s H vs Q E hr h => ?_)
  · obtain ⟨H0, s, wy, t, rfl, _⟩ := h
    rfl
  · obtain ⟨H0, s, wy, t, rfl, pl, k1, k2⟩ := h
    have nd := scDs.nd
    have hu := hu_of hr
    refine ⟨_, (pss_cons (ps_expr (pe_cal g_check_known hr (takes_of rfl rfl rfl rfl) (pa_cons (pv 1) (pa_cons (pe_fld (pv 0) rfl) pa_nil))))
      (pss_cons (ps_lock (ps_setLc (i := 2) (own := [("item", 3)]) (g := gName 3) (by rfl) nd rfl rfl (sw_true rfl rfl rfl (by decide +kernel)) (pi_keys (pe_fld (pv 0) rfl)) (blkOk_by (own := [("item", 3)]) (N := ["self", "name", "gone", "item"]) (sc := defScope sDs) (by decide +kernel)) (fun _ _ _ _ _ => (pg_name (i := 3) nd rfl (Or.inl rfl))) (fun _ _ _ _ _ => (pts_one (pt_cmpR op_eq (show PE _ _ (tFld K _ _) from (pe_fld (pe_dget hu (show PE _ _ (tFld K _ _) from (pe_fld (pv 0) rfl)) (pv 3) (fun _ _ => rfl)) rfl)) (pv 1) (nomark _)))) (fun _ _ _ _ _ => (pv 3))))
      (pss_cons (ps_for (passes_of rfl) rfl (pi_list (pv 2)) (pg_name (i := 3) nd rfl (Or.inl rfl)) (pss_cons (ps_expr (pe_mthE hr (takes_of rfl rfl rfl rfl) (pv 0) (pa_cons (pv 3) pa_nil)))
        (pss_one (ps_ddel (pe_fld (pv 0) rfl) (pv 3)))))
      (pss_cons (ps_for (passes_of rfl) rfl (pi_list (pe_mthE hr (takes_of rfl rfl rfl rfl) (pv 0) (pa_cons (pv 1) pa_nil))) (pg_name (i := 3) nd rfl (Or.inl rfl)) (pss_one (ps_expr (pe_mthE hr (takes_of rfl rfl rfl rfl) (pv 0) (pa_cons (pv 3) (pa_cons (pv 1) pa_nil))))))
      (pss_one (ps_expr (pe_bm PySem.F.plainAttrs_list PySem.F.slot_list_remove PySem.F.type_list_remove mt_removeS (pe_fld (pv 0) rfl) (pa_cons (pv 1) pa_nil)))))))), ?_⟩
    have pw := pl.w_
    refine ⟨_, rfl, _, rfl, s.p, CP, s.dp, _, .ref s.LP, rfl, pw.hp, cP, nP _ (by simp [plFs]), rfl, t, s.LP, fun x => decide (x ∈ s.places), rfl, .inl ⟨_, SqL.of pw.hLP, fun _ => rfl⟩, fun q2 => ?_, fun q => k1 (of_decide_eq_false q)⟩
    have tm := of_decide_eq_true q2
    -- gone
    refine ⟨s.DS, _, pw.hDS, trivial, fun od => ?_⟩
    have pr := pl.rz od
    have hF : (upd H s.DS (.frz od (.dK (kvS s.seats)))) s.DS = some (.frz od (.dK (kvS s.seats))) := upd_same
    have sTh : ∀ H', Same (upd H s.DS (.frz od (.dK (kvS s.seats)))) H' → Same H (upd H' s.DS (.dK (kvS s.seats))) := fun H' sm => Same.thaw2 pw.hDS sm
    have nF : ∀ b, (upd H s.DS (.frz od (.dK (kvS s.seats)))) b = none → H b = none := fun b h => by rw [upd_ne (fun e => by rw [e, upd_same] at h; cases h)] at h; exact h
    generalize upd H s.DS (.frz od (.dK (kvS s.seats))) = F0 at *
    refine ⟨_, rfl, s.p, CP, s.dp, _, .ref s.DS, rfl, pr.hp, cP, nP _ (by simp [plFs]), rfl, s.DS, od, rfl, .inl ⟨kvS s.seats, hF, fun D nD => ?_⟩⟩
    have kl : (kvS s.seats).length = s.seats.length := by unfold kvS; rw [List.length_map]
    have sD : ∀ o, Same F0 (upd F0 D o) := fun o => (Same.refl _).new nD
    refine lc_it walk_keys (fun n H1 => H1 = upd F0 D (.lst ((((s.seats.take n).filter fun x => decide (x.st = t)).map (·.nm)).map V.str))) rfl (fun n H1 _ e => by rw [e]; exact sD _ _ _ hF) ?_ ?_
    · rintro n y H1 H1' hn rfl ⟨rfl, k, v, hk, rfl⟩
      obtain ⟨st, hst⟩ : ∃ st, s.seats[n]? = some st := ⟨_, List.getElem?_eq_getElem (by omega)⟩
      have e1 : (kvS s.seats)[n]? = some (Sum.inr st.nm, V.ref st.a) := by unfold kvS; rw [List.getElem?_map, hst]; rfl
      rw [e1] at hk
      cases hk
      have hsm := List.mem_of_getElem? hst
      have eT := take_snoc hst
      refine ⟨rfl, ?_⟩
      refine ⟨_, rfl, s.p, CP, s.dp, _, .ref s.DS, rfl, sD _ _ _ pr.hp, cP, nP _ (by simp [plFs]), rfl, _, rfl, s.DS, .ref st.a, rfl, .inl ⟨kvS s.seats, Sum.inr st.nm, .inr ⟨od, sD _ _ _ hF⟩, rfl, (by unfold kvS; rw [valV_map_in pl.nms hsm])⟩, st.a, CI, st.dx, _, .str st.st, rfl, sD _ _ _ (pr.hse st hsm), cI, nI _ (by simp), rfl, _, rfl, rfl, _, rfl, ?_⟩
      by_cases q : st.st = t
      · rw [show decide (V.str st.st = V.str t) = true by rw [q]; simp]
        refine iteT ⟨_, rfl, _, upd_same, ?_, ?_⟩
        · rw [List.length_map, List.length_map]
          exact size_ok (m := 10000) (by have := List.length_filter_le (fun x : Seat => decide (x.st = t)) (s.seats.take n); rw [List.length_take] at this; have := pw.zs; omega) (by decide)
        · rw [upd_upd, eT, List.filter_append, show List.filter (fun x : Seat => decide (x.st = t)) [st] = [st] by rw [List.filter_cons, decide_eq_true q]; rfl, List.map_append, List.map_append]
          rfl
      · rw [show decide (V.str st.st = V.str t) = false from decide_eq_false fun e => q (V.str.inj e)]
        refine iteF ?_
        rw [eT, List.filter_append, show List.filter (fun x : Seat => decide (x.st = t)) [st] = [] by rw [List.filter_cons, decide_eq_false q]; rfl, List.append_nil]
    rintro H1 rfl
    refine ⟨sD _ _ _ hF, ?_⟩
    have DDS : D ≠ s.DS := fun e => by rw [e, hF] at nD; cases nD
    rw [kl, List.take_length]
    have eG : ((s.seats.filter fun x => decide (x.st = t)).map (·.nm)) = s.gone t := rfl
    rw [eG]
    have sT := sTh _ (sD (.lst ((s.gone t).map V.str)))
    have hD : (upd (upd F0 D (.lst ((s.gone t).map V.str))) s.DS (.dK (kvS s.seats))) D = some (.lst ((s.gone t).map V.str)) := by rw [upd_ne DDS, upd_same]
    generalize upd (upd F0 D (.lst ((s.gone t).map V.str))) s.DS (.dK (kvS s.seats)) = H2 at *
    have nDH := nF D nD
    have pl2 := pl.same sT
    have hDJ : cut H2 (s.ads CP CI CC) D = some (.lst ((s.gone t).map V.str)) := pl2.w_.outN nDH sT pw hD
    have sJ : Same (cut H (s.ads CP CI CC)) (cut H2 (s.ads CP CI CC)) := cut_same sT
    have x0 := pl2.w_.rest
    clear sTh nF pr hF sD
    generalize cut H2 (s.ads CP CI CC) = J at *
    have gnd : (s.gone t).Nodup := pl.nms.sublist (List.filter_sublist.map _)
    have gsub : ∀ i ∈ s.gone t, i ∈ s.seats.map (·.nm) := fun i hi => by
      obtain ⟨x, hx, e⟩ := List.mem_map.mp hi
      exact List.mem_map.mpr ⟨x, (List.mem_filter.mp hx).1, e⟩
    have eP : goneP s t = fun j => decide (j ∈ s.gone t) := rfl
    generalize hgo : s.gone t = go at *
    -- items whose home it is
    refine ⟨_, rfl, D, rfl, ⟨_, SqL.of (x0.sj _ _ hDJ)⟩, ?_⟩
    refine for_list (K := K) (a := D) (xs := go.map V.str) (fun n σ H3 => ∃ u J', σ = [some (.ref s.p), some (.str t), some (.ref D), u] ∧ Same J J' ∧ PlW CP CI CC J' H3 (s.off fun j => decide (j ∈ go.take n))) ⟨none, J, rfl, Same.refl _, ?_⟩ (fun n σ H3 _ ⟨_, _, _, sj, x⟩ => SqL.of (x.sj _ _ (sj _ _ hDJ))) ?_ ?_
    · have e0 : (fun j => decide (j ∈ go.take 0)) = fun _ => false := by
        funext j
        rw [List.take_zero]
        simp
      rw [e0, off_none pw]
      exact x0
    · rintro n y σ H3 hn ⟨u, J', rfl, sj, x⟩
      obtain ⟨i, hi, rfl⟩ := at_map hn
      have eT := take_snoc hi
      have nin : i ∉ go.take n := fun q => by
        have := List.nodup_append.mp (by rw [← eT]; exact gnd.sublist (List.take_sublist _ _) : (go.take n ++ [i]).Nodup)
        exact this.2.2 _ q _ (List.mem_singleton.mpr rfl) rfl
      have eOp : (s.off fun j => decide (j ∈ go.take n)).p = s.p := rfl
      refine ⟨_, rfl, s.p, CP, s.dp, _, 4, _, _, rfl, x.hp, m_ga, by decide, rfl, _, rfl, J', s.off (fun j => decide (j ∈ go.take n)), i, rfl, x, fun J2 H4 sJ2 x2 => ?_⟩
      have sj2 : Same J' J2 := x.restS.trans sJ2
      refine ⟨_, rfl, s.p, CP, s.dp, _, .ref s.DS, rfl, x2.hp, cP, nP _ (by simp [plFs]), rfl, _, rfl, s.DS, kvS ((s.off fun j => decide (j ∈ go.take n)).keep (noItem i)).seats, Sum.inr i, rfl, x2.hDS, rfl, ?_, ?_⟩
      · have hm := gsub i (List.mem_of_getElem? hi)
        obtain ⟨st, hst, e⟩ := List.mem_map.mp hm
        have hm2 : i ∈ ((s.seats.filter fun x => !decide (x.nm ∈ go.take n))).map (·.nm) := List.mem_map.mpr ⟨st, List.mem_filter.mpr ⟨hst, by rw [e, decide_eq_false nin]; rfl⟩, e⟩
        show (valV (kvS (s.seats.filter fun x => !decide (x.nm ∈ go.take n))) (Sum.inr i)).isSome = true
        unfold kvS
        rw [valV_map_isSome, decide_eq_true hm2]
      · have x3 := x2.unseat i
        rw [PSt.off_step] at x3
        have ef : (fun j => decide (j ∈ go.take n) || decide (j = i)) = fun j => decide (j ∈ go.take (n + 1)) := by
          funext j
          rw [eT]
          by_cases a : j ∈ go.take n <;> by_cases b : j = i <;> simp [a, b]
        rw [ef] at x3
        exact ⟨_, J2, rfl, sj.trans sj2, x3⟩
    rintro σ H3 ⟨u, J1, rfl, sj, x⟩
    rw [List.length_map, List.take_length] at x
    have x1 := pl.off x
    rw [← eP] at x x1
    have w1t : ∀ i v, dropW (goneP s t) wy i t = some v → v ≠ [] := fun i v h e => by
      have hP : goneP s t i = false := by
        unfold dropW at h
        split at h
        · cases h
        · rename_i q; simpa using q
      have h' : wy i t = some v := by unfold dropW at h; rw [hP] at h; exact h
      rw [e] at h'
      obtain ⟨y, hy, ey⟩ := List.mem_map.mp (pl.o.siteIn h').1
      have hy' : (i, y.2) ∈ (s.g wy).homes := by rw [← ey]; exact hy
      have et := (pl.o.atHome h' hy').mp rfl
      rw [eP] at hP
      have hx : i ∈ go := by
        rw [← hgo]
        obtain ⟨z, hz, ez⟩ := List.mem_map.mp hy'
        have e1 : z.nm = i := congrArg Prod.fst ez
        have e2 : z.st = y.2 := congrArg Prod.snd ez
        exact List.mem_map.mpr ⟨z, List.mem_filter.mpr ⟨hz, decide_eq_true (e2.trans et.symm)⟩, e1⟩
      have hP' : decide (i ∈ go) = false := hP
      rw [decide_eq_true hx] at hP'
      cases hP'
    have k2' : ∀ J H', Same (cut H (s.ads CP CI CC)) J → PlV CP CI CC J H' (((s.off (goneP s t)).keep (offT (dropW (goneP s t) wy) t)).unplace t) (keepW (offT (dropW (goneP s t) wy) t) (dropW (goneP s t) wy)) → Q .non H' := k2 tm
    have tmO : t ∈ (s.off (goneP s t)).places := tm
    have oP : (s.off (goneP s t)).p = s.p := rfl
    have oLP : (s.off (goneP s t)).LP = s.LP := rfl
    have oPl : (s.off (goneP s t)).places = s.places := rfl
    generalize hso : s.off (goneP s t) = so at *
    generalize hwo : dropW (goneP s t) wy = wo at *
    rw [← oP]
    -- copies at the site
    refine ⟨_, rfl, so.p, CP, so.dp, _, 3, _, _, rfl, x.hp, m_held, by decide, rfl, _, rfl, J1, so, wo, t, rfl, x1, fun q => absurd tmO q, fun _ L H4 nL s4 hL => ⟨L, rfl, ⟨_, SqL.of hL⟩, ?_⟩⟩
    have x4 := x1.same s4
    have hLJ : cut H4 (so.ads CP CI CC) L = some (.lst ((upS (so.heldL wo t)).map V.str)) := x4.w_.outN nL s4 x hL
    have sJ4 : Same J1 (cut H4 (so.ads CP CI CC)) := x4.w_.restS
    have y0 : PlV CP CI CC (cut H4 (so.ads CP CI CC)) H4 so wo := ⟨x4.w_.rest, x4.o⟩
    generalize cut H4 (so.ads CP CI CC) = J4 at *
    have hnd : (upS (so.heldL wo t)).Nodup := (upS_perm _).nodup_iff.mpr (x1.nms.sublist List.filter_sublist)
    have hmem : ∀ i, i ∈ upS (so.heldL wo t) ↔ (i ∈ so.seats.map (·.nm) ∧ (wo i t).isSome = true) := fun i => by
      rw [(upS_perm _).mem_iff]
      unfold PSt.heldL
      rw [List.mem_filter]
    generalize upS (so.heldL wo t) = hl at *
    refine for_list (K := K) (a := L) (xs := hl.map V.str) (fun n σ H5 => ∃ u J', σ = [some (.ref so.p), some (.str t), some (.ref D), u] ∧ Same J4 J' ∧ PlV CP CI CC J' H5 (so.keep (partT wo t (hl.take n))) (keepW (partT wo t (hl.take n)) wo)) ⟨_, J4, rfl, Same.refl _, ?_⟩ (fun n σ H5 _ ⟨_, _, _, sj, x⟩ => SqL.of (x.sj _ _ (sj _ _ hLJ))) ?_ ?_
    · rw [List.take_zero]
      have e1 : so.keep (partT wo t []) = so := PSt.keep_all x.ne (fun _ _ _ _ => rfl) fun e he => by
        obtain ⟨i, u, q⟩ := x.b.keys e he
        rw [q]
        rfl
      have e2 : keepW (partT wo t []) wo = wo := by
        funext i u
        exact partT_ways wo t [] (by simp) u
      rw [e1, e2]
      exact y0
    · rintro n y σ H5 hn ⟨u, J', rfl, sj5, x5⟩
      obtain ⟨i, hi, rfl⟩ := at_map hn
      have eT := take_snoc hi
      have nin : i ∉ hl.take n := fun q => by
        have := List.nodup_append.mp (by rw [← eT]; exact hnd.sublist (List.take_sublist _ _) : (hl.take n ++ [i]).Nodup)
        exact this.2.2 _ q _ (List.mem_singleton.mpr rfl) rfl
      obtain ⟨im, iw⟩ := (hmem i).mp (List.mem_of_getElem? hi)
      obtain ⟨v, hv⟩ := Option.isSome_iff_exists.mp iw
      have hc : (i, t) ∈ (so.keep (partT wo t (hl.take n))).cps := x5.cps_way.mpr ⟨v, by rw [partT_ways wo t _ nin]; exact hv, w1t i v hv⟩
      obtain ⟨p1, p2⟩ := part_step x5 nin
      refine ⟨_, rfl, so.p, CP, so.dp, _, 4, _, _, rfl, x5.w_.hp, m_gu, by decide, rfl, _, rfl, _, rfl, J', so.keep (partT wo t (hl.take n)), keepW (partT wo t (hl.take n)) wo, i, t, rfl, x5, fun q => absurd im q, fun _ q => absurd tmO q, fun _ _ q => absurd hc q, fun _ L6 J6 H6 _ sJ6 _ x6 => ?_⟩
      rw [p1, p2, ← eT] at x6
      exact ⟨_, J6, rfl, sj5.trans (x5.w_.restS.trans sJ6), x6⟩
    rintro σ H5 ⟨u, J5, rfl, sj5, x5⟩
    rw [List.length_map, List.take_length] at x5
    have eK : so.keep (partT wo t hl) = so.keep (offT wo t) := PSt.keep_congr x.b fun y hy => by
      obtain ⟨j, u⟩ := y
      unfold partT offT
      by_cases m : j ∈ hl
      · rw [decide_eq_true m, Bool.true_and]
      · rw [decide_eq_false m]
        obtain ⟨v, hv, _⟩ := x1.cps_way.mp hy
        have hj : j ∈ so.seats.map (·.nm) := by
          have := (x1.o.siteIn hv).1
          unfold Gd.goods PSt.g at this
          rwa [List.map_map] at this
        have : wo j t = none := by
          cases q : wo j t with
          | none => rfl
          | some v => exact absurd ((hmem j).mpr ⟨hj, by rw [q]; rfl⟩) m
        rw [this]
        rfl
    have eW : keepW (partT wo t hl) wo = keepW (offT wo t) wo := by
      funext j u
      unfold keepW partT offT
      by_cases m : j ∈ hl
      · rw [decide_eq_true m, Bool.true_and]
      · rw [decide_eq_false m]
        cases q : wo j u with
        | none => simp
        | some v =>
          have hj : j ∈ so.seats.map (·.nm) := by
            have := (x1.o.siteIn q).1
            unfold Gd.goods PSt.g at this
            rwa [List.map_map] at this
          have : wo j t = none := by
            cases q : wo j t with
            | none => rfl
            | some v => exact absurd ((hmem j).mpr ⟨hj, by rw [q]; rfl⟩) m
          rw [this]
          rfl
    rw [eK, eW] at x5
    have hoff : ∀ i, keepW (offT wo t) wo i t = none := fun i => by
      unfold keepW offT
      cases q : wo i t with
      | none => simp
      | some v =>
        rw [pre_self (by simp)]
        rfl
    -- the site
    refine ⟨_, rfl, so.p, CP, so.dp, _, .ref so.LP, rfl, x5.w_.hp, cP, nP _ (by simp [plFs]), rfl, .inl ⟨rfl, _, SqL.of x5.w_.hLP⟩, _, rfl, so.LP, so.places, t, rfl, rfl, x5.w_.hLP, tmO, ?_⟩
    exact k2' J5 _ ((sJ.trans sj).trans (sJ4.trans sj5)) (x5.unplace hoff)
end

/-! ### the targets that a way passes -/
def Gd.thr (g : Gd) (v : List Str) (t : Str) : Bool := g.lines.any fun l => decide (l.nm ∈ v) && decide (l.tgt = t)
theorem thr_ends (g : Gd) (v : List Str) (t : Str) : decide (t ∈ ((g.lines.filter fun l => decide (l.nm ∈ v)).map (·.tgt))) = g.thr v t := by
  unfold Gd.thr
  rw [Bool.eq_iff_iff, List.any_eq_true, decide_eq_true_iff, List.mem_map]
  constructor
  · rintro ⟨l, hl, h⟩
    obtain ⟨h1, h2⟩ := List.mem_filter.mp hl
    exact ⟨l, h1, Bool.and_eq_true_iff.mpr ⟨h2, decide_eq_true h⟩⟩
  · rintro ⟨l, hl, h⟩
    obtain ⟨h1, h2⟩ := Bool.and_eq_true_iff.mp h
    exact ⟨l, List.mem_filter.mpr ⟨hl, h1⟩, of_decide_eq_true h2⟩
theorem GdOk.vis_thr {g : Gd} (o : GdOk g) {i t : Str} (nt : g.ways i t ≠ some []) : ∀ (n : Nat) {u : Str} {v : List Str}, v.length = n → v ≠ [] → g.ways i u = some v → g.vis v u t = g.thr v t
  | 0, _, v, hn, ne, _ => absurd (List.length_eq_zero_iff.mp hn) ne
  | n + 1, u, v, hn, ne, h => by
    obtain ⟨l, hl, et, hi, w, h1, rfl⟩ := o.step h ne
    subst et
    have e2 : g.thr (w ++ [l.nm]) t = (decide (l.tgt = t) || g.thr w t) := by
      unfold Gd.thr
      rw [Bool.eq_iff_iff, List.any_eq_true, Bool.or_eq_true, List.any_eq_true]
      constructor
      · rintro ⟨m, hm, h⟩
        obtain ⟨h1, h2⟩ := Bool.and_eq_true_iff.mp h
        rcases List.mem_append.mp (of_decide_eq_true h1) with h1 | h1
        · exact .inr ⟨m, hm, Bool.and_eq_true_iff.mpr ⟨decide_eq_true h1, h2⟩⟩
        · have e := o.lineU hm hl (List.mem_singleton.mp h1)
          rw [e] at h2
          exact .inl h2
      · rintro (h | ⟨m, hm, h⟩)
        · exact ⟨l, hl, Bool.and_eq_true_iff.mpr ⟨decide_eq_true (by simp), h⟩⟩
        · obtain ⟨h1, h2⟩ := Bool.and_eq_true_iff.mp h
          exact ⟨m, hm, Bool.and_eq_true_iff.mpr ⟨decide_eq_true (List.mem_append_left _ (of_decide_eq_true h1)), h2⟩⟩
    rw [e2]
    by_cases q : l.tgt = t
    · rw [decide_eq_true q, q, Gd.vis_here]
      rfl
    · rw [decide_eq_false q, Bool.false_or, o.vis_step hl q]
      by_cases wn : w = []
      · subst wn
        rw [Gd.vis_nil]
        have e3 : g.thr [] t = false := by
          unfold Gd.thr
          rw [List.any_eq_false]
          intro m _
          simp
        rw [e3]
        exact decide_eq_false fun e => nt (by rw [← e]; exact h1)
      · exact GdOk.vis_thr o nt n (by simpa using hn) wn h1

/-! ### Placement.add_site -/
abbrev sAs : Stmt := (inClass (top 32) 4)
theorem scAs : FnScope ["self", "name"] ["self", "name"] (defScope sAs) := ⟨rfl, rfl, rfl, by decide +kernel, rfl, by decide +kernel, by decide +kernel⟩
def PSt.addPlace (s : PSt) (t : Str) : PSt := { s with places := s.places ++ [t] }
theorem PlV.addPlace {CP CI CC : Addr} {H0 H : Hp} {s : PSt} {w : Ways} (x : PlV CP CI CC H0 H s w) {t : Str} (h : t ∉ s.places) (z : s.places.length < 100) : PlV CP CI CC H0 (upd H s.LP (.lst ((s.places ++ [t]).map V.str))) (s.addPlace t) w := by
  have hx := x.w_
  refine ⟨⟨hx.x.set (o' := .lst ((s.places ++ [t]).map V.str)) 3 rfl, hx.b, hx.nl, hx.ni, hx.u, hx.ne, fun y hy => ?_, hx.kz, hx.zl, hx.zs, by show (s.places ++ [t]).length ≤ 100; rw [List.length_append]; exact z, hx.zi⟩, ?_⟩
  · have hm : y.1 ∈ ((s.addPlace t).tbl CP CI CC).map (·.1) := List.mem_map.mpr ⟨y, hy, rfl⟩
    have e : ((s.addPlace t).tbl CP CI CC).map (·.1) = (s.tbl CP CI CC).map (·.1) := rfl
    rw [e] at hm
    obtain ⟨y', hy', e'⟩ := List.mem_map.mp hm
    rw [← e']
    exact hx.z0 y' hy'
  · have o := x.o
    refine ⟨?_, o.hN, fun a ha => List.mem_append_left _ (o.hS a ha), o.lN, fun l hl => ?_, o.lI, o.wH, o.wL, o.wD, o.u⟩
    · show (s.places ++ [t]).Nodup
      exact List.nodup_append.mpr ⟨o.sN, List.pairwise_singleton _ _, fun a ha b hb e => h (by rw [← List.mem_singleton.mp hb, ← e]; exact ha)⟩
    · obtain ⟨q1, q2, q3⟩ := o.lE l hl
      exact ⟨List.mem_append_left _ q1, List.mem_append_left _ q2, q3⟩
def spAs (CP CI CC CB CT : Addr) : Sp := fun vs H Q E => ∃ (H0 : Hp) (s : PSt) (wy : Ways) (t : Str), vs = [.ref s.p, .str t] ∧ PlV CP CI CC H0 H s wy ∧ t.length ≤ sizeLine ∧ s.places.length < 100 ∧
  (¬ NameOk t → Rz E CB H [("name", .str t)]) ∧ (NameOk t → t ∈ s.places → Rz E CT H [("name", .str t)]) ∧ (NameOk t → t ∉ s.places → ∀ J H', Same (cut H (s.ads CP CI CC)) J → PlV CP CI CC J H' (s.addPlace t) wy → Q .non H')
section
variable {P : Program} {w : World} {K : PySem.W.Frag} {mg : Str → Option Value} {base : Heap}
theorem ok_as {f CP CI CC CB CT : Addr} {fd : FuncData} (F : FnQ K "add_site" "Placement.add_site" sAs f fd) (g_check_name : Cal P w K mg base 1 "check_name" ["name", "taken"] (spCn K CB CT)) (cP : Cls K CP) (nP : ∀ f ∈ plFs, NoAttr K CP f) : FnOk P w K mg base (L2.CX P w) 2 f fd ["self", "name"] (spAs CP CI CC CB CT) := by
  refine F.ok scAs (fun vs H Q E h => ?_) (fun cdv A outer s H vs Q E hr h => ?_)
  · obtain ⟨H0, s, wy, t, rfl, _⟩ := h
    rfl
  · obtain ⟨H0, s, wy, t, rfl, pl, zt, zp, k1, k2, k3⟩ := h
    have nd := scAs.nd
    refine ⟨_, (pss_cons (ps_expr (pe_cal g_check_name hr (takes_of rfl rfl rfl rfl) (pa_cons (pv 1) (pa_cons (pe_fld (pv 0) rfl) pa_nil))))
      (pss_one (ps_expr (pe_bm PySem.F.plainAttrs_list PySem.F.slot_list_append PySem.F.type_list_append mt_append (pe_fld (pv 0) rfl) (pa_cons (pv 1) pa_nil))))), ?_⟩
    have pw := pl.w_
    refine ⟨_, rfl, _, rfl, s.p, CP, s.dp, _, .ref s.LP, rfl, pw.hp, cP, nP _ (by simp [plFs]), rfl, t, s.LP, fun x => decide (x ∈ s.places), rfl, .inl ⟨_, SqL.of pw.hLP, fun _ => rfl⟩, zt, fun ok q => ?_, k1, fun ok q => k2 ok (of_decide_eq_true q)⟩
    have tn := of_decide_eq_false q
    refine ⟨_, rfl, s.p, CP, s.dp, _, .ref s.LP, rfl, pw.hp, cP, nP _ (by simp [plFs]), rfl, .inl ⟨rfl, _, SqL.of pw.hLP⟩, _, rfl, s.LP, _, _, rfl, rfl, pw.hLP, (by rw [List.length_map]; exact size_ok (m := 1000) (by omega) (by decide)), ?_⟩
    have x := (⟨pw.rest, pl.o⟩ : PlV CP CI CC _ H s wy).addPlace tn zp
    rw [List.map_append] at x
    exact k3 ok tn _ _ (Same.refl _) x
end

/-! ### _law_after of k19 -/
abbrev sAf : Stmt := (top 42)
theorem scAf : FnScope ["_law_rows_here", "_law_site", "_law_homes", "_law_pair", "_law_kept", "_law_channels", "_law_name", "_law_source", "_law_target", "_law_load", "_law_kind", "_law_left", "_law_item", "_law_ends", "_law_row", "_law_one"] ["_law_rows_here", "_law_site"] (defScope sAf) := ⟨rfl, rfl, rfl, by decide +kernel, rfl, by decide +kernel, by decide +kernel⟩
def homesOff (g : Gd) (t : Str) : List (Str × Str) := g.homes.filter fun h => !decide (h.2 = t)
def lawK (g : Gd) (t : Str) : KeepP := fun j u => decide (j ∈ (homesOff g t).map (·.1)) && !(match g.ways j u with
  | some v => g.thr v t
  | none => false)
/-- a row whose items stand in a list that is new since H0 -/
def RwN (H0 : Hp) (H : Hp) (v : V) (l : Ln) : Prop := ∃ t a, v = .ref t ∧ H t = some (.tup (rwV l a)) ∧ H a = some (.lst (l.it.map V.str)) ∧ H0 a = none
theorem stRwN (H0 : Hp) : Stay (RwN H0) := fun H H' v x s ⟨t, a, e, h, q, n⟩ => ⟨t, a, e, s _ _ h, s _ _ q, n⟩
def spAf (K : PySem.W.Frag) : Sp := fun vs H Q _ => ∃ (T S HM CH W : Addr) (as : List Addr) (kvs : List (List L2.Key × V)) (g : Gd) (t : Str), vs = [.ref T, .str t] ∧ GdS H T S HM CH W as kvs g ∧ GdOk g ∧ g.lines.length ≤ 1000 ∧ g.homes.length ≤ 1000 ∧ g.sites.length ≤ 1000 ∧ (∀ l ∈ g.lines, l.it.length ≤ 1000) ∧
  ∀ T' S' HM' CH' H', Same H H' → H T' = none → H S' = none → H HM' = none → H CH' = none → H' T' = some (.tup [.ref S', .ref HM', .ref CH']) → H' S' = some (.lst ((g.sites.filter fun x => !decide (x = t)).map V.str)) → LsA PsA H' HM' (homesOff g t) → LsA (RwN H) H' CH' (g.lines.filterMap (Ln.keep (lawK g t))) → Q (.ref T') H'
section
variable {P : Program} {w : World} {K : PySem.W.Frag} {mg : Str → Option Value} {base : Heap}
theorem ok_af {f : Addr} {fd : FuncData} (F : FnP K "_law_after" sAf f fd) : FnOk P w K mg base (L2.CX P w) 1 f fd ["_law_rows_here", "_law_site"] (spAf K) := by
  refine F.ok scAf (fun vs H Q E h => ?_) (fun cdv A outer s H vs Q E hr h => ?_)
  · obtain ⟨T, S, HM, CH, W, as, kvs, g, t, rfl, _⟩ := h
    rfl
  · obtain ⟨Tr, S, HM, CH, W, as, kvs, g, t, rfl, gs, ok, zl, zh, zs, zi, kQ⟩ := h
    have nd := scAf.nd
    have hu := hu_of hr
    refine ⟨_, (pss_cons (ps_setLc (i := 2) (own := [("_law_pair", 3)]) (g := gName 3) (by rfl) nd rfl rfl (sw_true rfl rfl rfl (by decide +kernel)) (pi_list (pe_ix ix_tup (pv 0) pe_int (fun _ _ => rfl))) (blkOk_by (own := [("_law_pair", 3)]) (N := ["_law_rows_here", "_law_site", "_law_homes", "_law_pair", "_law_kept", "_law_channels", "_law_name", "_law_source", "_law_target", "_law_load", "_law_kind", "_law_left", "_law_item", "_law_ends", "_law_row", "_law_one"]) (sc := defScope sAf) (by decide +kernel)) (fun _ _ _ _ _ => (pg_name (i := 3) nd rfl (Or.inl rfl))) (fun _ _ _ _ _ => (pts_one (pt_cmpR op_ne (pe_ix (show IxR _ (rIxT K) from ix_tup) (pv 3) pe_int (fun _ _ => rfl)) (pv 1) (nomark _)))) (fun _ _ _ _ _ => (pv 3)))
      (pss_cons (ps_setLc (i := 4) (own := [("_law_pair", 3)]) (g := gName 3) (tt := tYes) (by rfl) nd rfl rfl (sw_true rfl rfl rfl (by decide +kernel)) (pi_list (pv 2)) (blkOk_by (own := [("_law_pair", 3)]) (N := ["_law_rows_here", "_law_site", "_law_homes", "_law_pair", "_law_kept", "_law_channels", "_law_name", "_law_source", "_law_target", "_law_load", "_law_kind", "_law_left", "_law_item", "_law_ends", "_law_row", "_law_one"]) (sc := defScope sAf) (by decide +kernel)) (fun _ _ _ _ _ => (pg_name (i := 3) nd rfl (Or.inl rfl))) (fun _ _ _ _ _ => pts_nil) (fun _ _ _ _ _ => (pe_ix (show IxR _ (rIxT K) from ix_tup) (pv 3) pe_int (fun _ _ => rfl))))
      (pss_cons (ps_set (i := 5) nd rfl (Or.inl rfl) (pe_lst pa_nil))
      (pss_cons (ps_for (passes_of rfl) rfl (pi_list (pe_ix ix_tup (pv 0) pe_int (fun _ _ => rfl))) (pg_tup rfl (pgs_cons (pg_name (i := 6) nd rfl (Or.inl rfl)) (pgs_cons (pg_name (i := 7) nd rfl (Or.inl rfl)) (pgs_cons (pg_name (i := 8) nd rfl (Or.inr rfl)) (pgs_cons (pg_name (i := 9) nd rfl (Or.inl rfl)) (pgs_cons (pg_name (i := 10) nd rfl (Or.inl rfl)) pgs_nil)))))) (pss_cons (ps_set (i := 11) nd rfl (Or.inl rfl) (pe_lst pa_nil))
        (pss_cons (ps_for (passes_of rfl) rfl (pi_list (pv 9)) (pg_name (i := 12) nd rfl (Or.inr rfl)) (pss_cons (ps_setLc (i := 13) (own := [("_law_row", 14)]) (g := gName 14) (by rfl) nd rfl rfl (sw_true rfl rfl rfl (by decide +kernel)) (pi_list (pe_ix ix_tup (pv 0) pe_int (fun _ _ => rfl))) (blkOk_by (own := [("_law_row", 14)]) (N := ["_law_rows_here", "_law_site", "_law_homes", "_law_pair", "_law_kept", "_law_channels", "_law_name", "_law_source", "_law_target", "_law_load", "_law_kind", "_law_left", "_law_item", "_law_ends", "_law_row", "_law_one"]) (sc := defScope sAf) (by decide +kernel)) (fun _ _ _ _ _ => (pg_name (i := 14) nd rfl (Or.inl rfl))) (fun _ _ _ _ _ => (pts_one (pt_cmpR (show OpR _ _ (rIn K false) from op_in_seq) (pe_ix (show IxR _ (rIxT K) from ix_tup) (pv 14) pe_int (fun _ _ => rfl)) (pe_dget hu (pe_ix (show IxR _ (rIxT K) from ix_tup) (pv 0) pe_int (fun _ _ => rfl)) (pe_tup (pa_cons (pv 12) (pa_cons (pv 8) pa_nil))) (fun _ _ => rfl)) (by rfl)))) (fun _ _ _ _ _ => (pe_ix (show IxR _ (rIxT K) from ix_tup) (pv 14) pe_int (fun _ _ => rfl))))
          (pss_one (ps_if (PW.pt (pw_and (pt_cmpR op_in_seq (pv 12) (pv 4) (by rfl)) (pw_and1 (pt_cmpR op_notIn_seq (pv 1) (pv 13) (by rfl))))) (pss_one (ps_expr (pe_bm PySem.F.plainAttrs_list PySem.F.slot_list_append PySem.F.type_list_append mt_append (pv 11) (pa_cons (pv 12) pa_nil)))) pss_nil))))
        (pss_one (ps_if (pt_truth (pv 11) (by intro _; rfl)) (pss_one (ps_expr (pe_bm PySem.F.plainAttrs_list PySem.F.slot_list_append PySem.F.type_list_append mt_append (pv 5) (pa_cons (pe_tup (pa_cons (pv 6) (pa_cons (pv 7) (pa_cons (pv 8) (pa_cons (pv 11) (pa_cons (pv 10) pa_nil)))))) pa_nil)))) pss_nil)))))
      (pss_one (ps_ret (pe_tup (pa_cons (pe_lc (own := [("_law_one", 15)]) (g := gName 15) (by rfl) nd (pi_list (pe_ix ix_tup (pv 0) pe_int (fun _ _ => rfl))) (blkOk_by (own := [("_law_one", 15)]) (N := ["_law_rows_here", "_law_site", "_law_homes", "_law_pair", "_law_kept", "_law_channels", "_law_name", "_law_source", "_law_target", "_law_load", "_law_kind", "_law_left", "_law_item", "_law_ends", "_law_row", "_law_one"]) (sc := defScope sAf) (by decide +kernel)) (fun _ _ _ _ _ => (pg_name (i := 15) nd rfl (Or.inl rfl))) (fun _ _ _ _ _ => (pts_one (pt_cmpR op_ne (pv 15) (pv 1) (nomark _)))) (fun _ _ _ _ _ => (pv 15))) (pa_cons (pv 2) (pa_cons (pv 5) pa_nil)))))))))), ?_⟩
    have at0 : atI [V.ref S, .ref HM, .ref CH, .ref W] 0 = some (.ref S) := rfl
    have at1 : atI [V.ref S, .ref HM, .ref CH, .ref W] 1 = some (.ref HM) := rfl
    have at2 : atI [V.ref S, .ref HM, .ref CH, .ref W] 2 = some (.ref CH) := rfl
    have at3 : atI [V.ref S, .ref HM, .ref CH, .ref W] 3 = some (.ref W) := rfl
    have hT := gs.t
    obtain ⟨hv, hHM, ph⟩ := gs.h
    obtain ⟨cv, hCH, pc⟩ := gs.rw
    -- the homes
    refine ⟨_, rfl, Tr, _, _, _, rfl, rfl, .inl (.inl hT), at1, HM, rfl, ⟨_, SqL.of hHM⟩, fun D nD => ?_⟩
    refine lc_list (K := K) (a := HM) (xs := hv) (fun n H1 => ∃ us, GS PsA H D H1 us ((g.homes.take n).filter fun h => !decide (h.2 = t))) ⟨[], by rw [List.take_zero]; exact GS.start nD⟩ (fun n H1 _ ⟨_, f⟩ => SqL.of (f.s _ _ hHM)) ?_ ?_
    · rintro n y H1 hy ⟨us, f⟩
      obtain ⟨z, hz, t1, rfl, ht1⟩ := ph.get hy
      have eT := take_snoc hz
      have usl : us.length ≤ 1000 := by
        rw [f.pw.len]
        exact Nat.le_trans (List.length_filter_le _ _) (Nat.le_trans (Nat.le_trans (Nat.le_of_eq List.length_take) (Nat.min_le_right _ _)) zh)
      refine ⟨rfl, ?_⟩
      refine ⟨_, rfl, t1, _, _, _, rfl, rfl, .inl (.inl (f.s _ _ ht1)), (show atI [V.str z.1, .str z.2] 1 = some (.str z.2) from rfl), _, rfl, rfl, _, rfl, ?_⟩
      by_cases q : z.2 = t
      · rw [show (!decide (V.str z.2 = V.str t)) = false by rw [q]; simp]
        refine iteF ⟨us, ?_⟩
        rw [eT, List.filter_append, show List.filter (fun h : Str × Str => !decide (h.2 = t)) [z] = [] by rw [List.filter_cons, decide_eq_true q]; rfl, List.append_nil]
        exact f
      · rw [show (!decide (V.str z.2 = V.str t)) = true by rw [decide_eq_false (fun e => q (V.str.inj e))]; rfl]
        refine iteT ⟨_, rfl, us, f.hL, size_ok (m := 10000) (by omega) (by decide), us ++ [V.ref t1], ?_⟩
        rw [eT, List.filter_append, show List.filter (fun h : Str × Str => !decide (h.2 = t)) [z] = [z] by rw [List.filter_cons, decide_eq_false q]; rfl]
        exact f.app nD ⟨t1, rfl, f.del (f.s _ _ ht1)⟩
    rintro H1 ⟨us, f⟩
    rw [ph.len, List.take_length] at f
    have hD1 : LsA PsA H1 D (homesOff g t) := f.done stPs
    have s1 := f.s
    clear f
    -- the items kept
    obtain ⟨vD, hvD, pD⟩ := hD1
    refine ⟨_, rfl, D, rfl, ⟨_, SqL.of hvD⟩, fun E nE => ?_⟩
    refine lc_list (K := K) (a := D) (xs := vD) (fun n H2 => H2 = upd H1 E (.lst ((((homesOff g t).map (·.1)).take n).map V.str))) rfl (fun n H2 _ e => by rw [e]; exact SqL.of ((Same.refl _).new nE _ _ hvD)) ?_ ?_
    · rintro n y H2 hy rfl
      obtain ⟨z, hz, t1, rfl, ht1⟩ := pD.get hy
      have hz' : ((homesOff g t).map (·.1))[n]? = some z.1 := by rw [List.getElem?_map, hz]; rfl
      have eT := take_snoc hz'
      refine ⟨rfl, tYes_if ⟨_, rfl, t1, _, _, _, rfl, rfl, .inl (.inl ((Same.refl _).new nE _ _ ht1)), (show atI [V.str z.1, .str z.2] 0 = some (.str z.1) from rfl), _, upd_same, ?_, ?_⟩⟩
      · rw [List.length_map, List.length_take]
        refine size_ok (m := 10000) ?_ (by decide)
        rw [List.length_map]
        have : (homesOff g t).length ≤ g.homes.length := List.length_filter_le _ _
        omega
      · rw [upd_upd, eT, List.map_append]
        rfl
    rintro H2 rfl
    have vl : vD.length = ((homesOff g t).map (·.1)).length := by rw [pD.len, List.length_map]
    rw [vl, List.take_length]
    have sE : Same H1 (upd H1 E (.lst (((homesOff g t).map (·.1)).map V.str))) := (Same.refl _).new nE
    have hE : (upd H1 E (.lst (((homesOff g t).map (·.1)).map V.str))) E = some (.lst (((homesOff g t).map (·.1)).map V.str)) := upd_same
    generalize upd H1 E (.lst (((homesOff g t).map (·.1)).map V.str)) = H2 at *
    have s2 := s1.trans sE
    have hD2 : LsA PsA H2 D (homesOff g t) := LsA.same stPs sE ⟨vD, hvD, pD⟩
    -- the channels
    refine ⟨(show 0 ≤ sizeLine by decide), fun C nC => ?_⟩
    have g0 := GS.start (R := RwN H) nC
    refine ⟨_, rfl, Tr, _, _, _, rfl, rfl, .inl (.inl (g0.s _ _ (s2 _ _ hT))), at2, CH, rfl, ⟨_, SqL.of (g0.s _ _ (s2 _ _ hCH))⟩, ?_⟩
    refine for_list (K := K) (a := CH) (xs := cv) (fun n σ H3 => ∃ us u3 u6 u7 u8 u9 u10 u11 u12 u13, σ = [some (.ref Tr), some (.str t), some (.ref D), u3, some (.ref E), some (.ref C), u6, u7, u8, u9, u10, u11, u12, u13, none, none] ∧ GS (RwN H) H2 C H3 us ((g.lines.take n).filterMap (Ln.keep (lawK g t)))) ⟨[], none, none, none, none, none, none, none, none, none, rfl, g0⟩ (fun n σ H3 _ ⟨_, _, _, _, _, _, _, _, _, _, _, f⟩ => SqL.of (f.s _ _ (s2 _ _ hCH))) ?_ ?_
    · rintro n y σ H3 hn ⟨us, u3, u6, u7, u8, u9, u10, u11, u12, u13, rfl, f⟩
      obtain ⟨l, hl, t1, a, rfl, ht1, ha⟩ := pc.get hn
      have lm := List.mem_of_getElem? hl
      have s3 := s2.trans f.s
      have ht3 := s3 _ _ ht1
      have ha3 := s3 _ _ ha
      have zil := zi l lm
      have usl : us.length ≤ 1000 := by
        rw [f.pw.len]
        exact Nat.le_trans (List.length_filterMap_le _ _) (Nat.le_trans (Nat.le_trans (Nat.le_of_eq List.length_take) (Nat.min_le_right _ _)) zl)
      have kt : (g.lines.take (n + 1)).filterMap (Ln.keep (lawK g t)) = (g.lines.take n).filterMap (Ln.keep (lawK g t)) ++ (l.keep (lawK g t)).toList := by
        rw [take_snoc hl, List.filterMap_append]
        refine congrArg (fun z => (g.lines.take n).filterMap (Ln.keep (lawK g t)) ++ z) ?_
        rw [List.filterMap_cons]
        cases l.keep (lawK g t) <;> rfl
      refine ⟨t1, _, rfl, .inl (.inl ht3), rfl, _, _, rfl, _, _, rfl, _, _, rfl, _, _, rfl, _, _, rfl, rfl, ?_⟩
      refine ⟨(show 0 ≤ sizeLine by decide), fun E1 nE1 => ?_⟩
      have x0 := (Hx.refl H3).push (o := .lst []) nE1
      have kp : ∀ {H' : Hp} {o : HO}, Hx H3 H' [(E1, o)] → Same H3 H' := fun x => x.keep (by simp [nE1])
      refine ⟨_, rfl, a, rfl, ⟨_, SqL.of (kp x0 _ _ ha3)⟩, ?_⟩
      refine for_list (K := K) (a := a) (xs := l.it.map V.str) (fun j σ H4 => ∃ v12 v13, σ = [some (.ref Tr), some (.str t), some (.ref D), u3, some (.ref E), some (.ref C), some (.str l.nm), some (.str l.src), some (.str l.tgt), some (.ref a), some (kindV l.kd), some (.ref E1), v12, v13, none, none] ∧ Hx H3 H4 [(E1, .lst (((l.it.take j).filter fun i => lawK g t i l.tgt).map V.str))]) ⟨_, _, rfl, x0⟩ (fun j σ H4 _ ⟨_, _, _, x⟩ => SqL.of (kp x _ _ ha3)) ?_ ?_
      · rintro j y σ H4 hj ⟨v12, v13, rfl, x4⟩
        obtain ⟨i, hi, rfl⟩ := at_map hj
        have im := List.mem_of_getElem? hi
        have eT := take_snoc hi
        obtain ⟨w0, _, hw⟩ := ok.wL l lm i im
        generalize hwv : w0 ++ [l.nm] = wv at *
        obtain ⟨wa, hwa, hwa2⟩ := gs.y.some_ i l.tgt wv hw
        have s4 := s3.trans (kp x4)
        refine ⟨_, rfl, Tr, _, _, _, rfl, rfl, .inl (.inl (s4 _ _ hT)), at2, CH, rfl, ⟨_, SqL.of (s4 _ _ hCH)⟩, fun D4 nD4 => ?_⟩
        have y0 := (Hx.refl H4).push (o := .lst []) nD4
        have kq : ∀ {H' : Hp} {o : HO}, Hx H4 H' [(D4, o)] → Same H4 H' := fun x => x.keep (by simp [nD4])
        refine lc_list (K := K) (a := CH) (xs := cv) (fun m H5 => Hx H4 H5 [(D4, .lst ((((g.lines.take m).filter fun l => decide (l.nm ∈ wv)).map (·.tgt)).map V.str))]) y0 (fun m H5 _ x => SqL.of (kq x _ _ (s4 _ _ hCH))) ?_ ?_
        · rintro m y H5 hm x5
          obtain ⟨l2, hl2, t2, a2, rfl, ht2, _⟩ := pc.get hm
          have eL := take_snoc hl2
          have s5 := s4.trans (kq x5)
          refine ⟨rfl, ?_⟩
          refine ⟨_, rfl, t2, _, _, _, rfl, rfl, .inl (.inl (s5 _ _ ht2)), (show atI (rwV l2 a2) 0 = some (.str l2.nm) from rfl), _, rfl, Tr, _, _, _, rfl, rfl, .inl (.inl (s5 _ _ hT)), at3, _, rfl, _, rfl, (show 2 ≤ sizeLine by decide), fun T6 nT6 => ?_⟩
          have x6 := x5.new (o := .tup [V.str i, .str l.tgt]) nT6
          have hT6 : (upd H5 T6 (.tup [V.str i, .str l.tgt])) T6 = some (.tup ((k2 i l.tgt).map kV)) := upd_same
          generalize upd H5 T6 (.tup [V.str i, .str l.tgt]) = H6 at *
          have s6 := s4.trans (kq x6)
          refine ⟨W, .ref wa, rfl, (by have z := DGet.t (k := k2 i l.tgt) (s6 _ _ gs.w) hT6; rw [hwa] at z; exact z), wa, _, rfl, .inl (SqL.of (s6 _ _ hwa2)), rfl, flat_strs _, _, rfl, ?_⟩
          show if inV (.str l2.nm) (wv.map V.str) = true then _ else _
          rw [inV_strs]
          by_cases hin : l2.nm ∈ wv
          · rw [decide_eq_true hin]
            refine iteT ?_
            refine ⟨_, rfl, t2, _, _, _, rfl, rfl, .inl (.inl (s6 _ _ ht2)), (show atI (rwV l2 a2) 2 = some (.str l2.tgt) from rfl), _, x6.get 0 rfl, ?_, ?_⟩
            · rw [List.length_map, List.length_map]
              exact size_ok (m := 10000) (by have := List.length_filter_le (fun l : Ln => decide (l.nm ∈ wv)) (g.lines.take m); rw [List.length_take] at this; omega) (by decide)
            · have z := x6.set (o' := .lst (((((g.lines.take m).filter fun l => decide (l.nm ∈ wv)).map (·.tgt)).map V.str) ++ [V.str l2.tgt])) 0 rfl
              rw [eL, List.filter_append, show List.filter (fun l : Ln => decide (l.nm ∈ wv)) [l2] = [l2] by rw [List.filter_cons, decide_eq_true hin]; rfl, List.map_append, List.map_append]
              exact z
          · rw [decide_eq_false hin]
            refine iteF ?_
            rw [eL, List.filter_append, show List.filter (fun l : Ln => decide (l.nm ∈ wv)) [l2] = [] by rw [List.filter_cons, decide_eq_false hin]; rfl, List.append_nil]
            exact x6
        rintro H5 x5
        rw [pc.len, List.take_length] at x5
        have s45 := kq x5
        have x5' := x4.same s45
        have hD4 : H5 D4 = some (.lst (((g.lines.filter fun l => decide (l.nm ∈ wv)).map (·.tgt)).map V.str)) := x5.get 0 rfl
        have hE5 : H5 E = some (.lst (((homesOff g t).map (·.1)).map V.str)) := s45 _ _ (kp x4 _ _ (f.s _ _ hE))
        have eG : lawK g t i l.tgt = (decide (i ∈ (homesOff g t).map (·.1)) && !decide (t ∈ ((g.lines.filter fun l => decide (l.nm ∈ wv)).map (·.tgt)))) := by
          unfold lawK
          rw [hw, thr_ends]
        have no : lawK g t i l.tgt = false → Hx H3 H5 [(E1, .lst (((l.it.take (j + 1)).filter fun i => lawK g t i l.tgt).map V.str))] := fun e => by
          rw [eT, List.filter_append, show List.filter (fun i => lawK g t i l.tgt) [i] = [] by rw [List.filter_cons, e]; rfl, List.append_nil]
          exact x5'
        refine ⟨_, rfl, _, rfl, E, _, rfl, .inl (SqL.of hE5), rfl, flat_strs _, _, rfl, ?_⟩
        show (if inV (.str i) (((homesOff g t).map (·.1)).map V.str) = true then _ else _)
        rw [inV_strs]
        by_cases hk : i ∈ (homesOff g t).map (·.1)
        · rw [decide_eq_true hk]
          rw [decide_eq_true hk, Bool.true_and] at eG
          refine iteT ?_
          refine ⟨_, rfl, _, rfl, D4, _, rfl, .inl (SqL.of hD4), rfl, flat_strs _, _, rfl, ?_⟩
          show (if (!inV (.str t) (((g.lines.filter fun l => decide (l.nm ∈ wv)).map (·.tgt)).map V.str)) = true then _ else _)
          rw [inV_strs, ← eG]
          cases eb : lawK g t i l.tgt with
          | true =>
            refine iteT ?_
            refine ⟨_, rfl, .inl ⟨rfl, _, SqL.of (x5'.get 0 rfl)⟩, _, rfl, E1, _, _, rfl, rfl, x5'.get 0 rfl, ?_, _, _, rfl, ?_⟩
            · rw [List.length_map]
              exact size_ok (m := 10000) (by have := List.length_filter_le (fun i => lawK g t i l.tgt) (l.it.take j); rw [List.length_take] at this; omega) (by decide)
            · have z := x5'.set (o' := .lst ((((l.it.take j).filter fun i => lawK g t i l.tgt).map V.str) ++ [V.str i])) 0 rfl
              rw [eT, List.filter_append, show List.filter (fun i => lawK g t i l.tgt) [i] = [i] by rw [List.filter_cons, eb]; rfl, List.map_append]
              exact z
          | false => exact iteF ⟨_, _, rfl, no eb⟩
        · rw [decide_eq_false hk]
          rw [decide_eq_false hk, Bool.false_and] at eG
          exact iteF (iteF ⟨_, _, rfl, no eG⟩)
      · rintro σ H4 ⟨v12, v13, rfl, x4⟩
        rw [List.length_map, List.take_length] at x4
        have sE1 := kp x4
        have f2 := f.same (stRwN H) sE1
        have hE1 : H4 E1 = some (.lst ((l.kept (lawK g t)).map V.str)) := x4.get 0 rfl
        have nE0 : H E1 = none := s3.free nE1
        have ED : E1 ≠ C := fun e => by have := f.hL; rw [← e, nE1] at this; cases this
        refine ⟨_, rfl, !((l.kept (lawK g t)).map V.str).isEmpty, .inl ⟨_, SqL.of hE1, rfl⟩, ?_⟩
        by_cases em : l.kept (lawK g t) = []
        · have e0 : l.keep (lawK g t) = none := by
            unfold Ln.keep
            rw [if_pos (by rw [em]; rfl)]
          rw [em]
          refine iteF ?_
          refine ⟨us, _, _, _, _, _, _, _, _, _, rfl, ?_⟩
          rw [kt, e0]
          show GS (RwN H) H2 C H4 us ((g.lines.take n).filterMap (Ln.keep (lawK g t)) ++ [])
          rw [List.append_nil]
          exact f2
        · have e0 : l.keep (lawK g t) = some { l with it := l.kept (lawK g t) } := by
            unfold Ln.keep
            rw [if_neg (fun h => em (List.isEmpty_iff.mp h))]
          rw [show (!((l.kept (lawK g t)).map V.str).isEmpty) = true by cases q : l.kept (lawK g t) with | nil => exact absurd q em | cons _ _ => rfl]
          refine iteT ?_
          refine ⟨_, rfl, .inl ⟨rfl, _, SqL.of f2.hL⟩, _, rfl, _, rfl, _, rfl, _, rfl, _, rfl, (show 5 ≤ sizeLine by decide), fun T3 n3 => ?_⟩
          have f3 := f2.new (stRwN H) (o := .tup (rwV l E1)) n3
          have s3' : Same H4 (upd H4 T3 (.tup (rwV l E1))) := (Same.refl _).new n3
          refine ⟨C, _, _, rfl, rfl, f3.hL, size_ok (m := 10000) (by omega) (by decide), us ++ [V.ref T3], _, _, _, _, _, _, _, _, _, rfl, ?_⟩
          rw [kt, e0]
          refine f3.app nC ⟨T3, E1, rfl, f3.del upd_same, ?_, nE0⟩
          rw [delH_ne ED]
          exact s3' _ _ hE1
    rintro σ H3 ⟨us, u3, u6, u7, u8, u9, u10, u11, u12, u13, rfl, f⟩
    rw [pc.len, List.take_length] at f
    have hC := f.done (stRwN H)
    have s3 := s2.trans f.s
    have hSS := gs.s
    refine ⟨_, rfl, Tr, _, _, _, rfl, rfl, .inl (.inl (s3 _ _ hT)), at0, S, rfl, ⟨_, SqL.of (s3 _ _ hSS)⟩, fun S2 nS2 => ?_⟩
    have sS : ∀ o, Same H3 (upd H3 S2 o) := fun o => (Same.refl _).new nS2
    refine lc_list (K := K) (a := S) (xs := g.sites.map V.str) (fun j H4 => H4 = upd H3 S2 (.lst (((g.sites.take j).filter fun x => !decide (x = t)).map V.str))) rfl (fun j H4 _ e => by rw [e]; exact SqL.of (sS _ _ _ (s3 _ _ hSS))) ?_ ?_
    · rintro j y H4 hj rfl
      obtain ⟨x, hx, rfl⟩ := at_map hj
      have eT := take_snoc hx
      refine ⟨rfl, ?_⟩
      refine ⟨_, rfl, _, rfl, rfl, _, rfl, ?_⟩
      by_cases q : x = t
      · rw [show (!decide (V.str x = V.str t)) = false by rw [q]; simp]
        refine iteF ?_
        rw [eT, List.filter_append, show List.filter (fun x => !decide (x = t)) [x] = [] by rw [List.filter_cons, decide_eq_true q]; rfl, List.append_nil]
      · rw [show (!decide (V.str x = V.str t)) = true by rw [decide_eq_false (fun e => q (V.str.inj e))]; rfl]
        refine iteT ⟨_, rfl, _, upd_same, ?_, ?_⟩
        · rw [List.length_map]
          exact size_ok (m := 10000) (by have := List.length_filter_le (fun x => !decide (x = t)) (g.sites.take j); rw [List.length_take] at this; omega) (by decide)
        · rw [upd_upd, eT, List.filter_append, show List.filter (fun x => !decide (x = t)) [x] = [x] by rw [List.filter_cons, decide_eq_false q]; rfl, List.map_append]
          rfl
    rintro H4 rfl
    rw [List.length_map, List.take_length]
    have sS' := sS (.lst ((g.sites.filter fun x => !decide (x = t)).map V.str))
    have hS2 : (upd H3 S2 (.lst ((g.sites.filter fun x => !decide (x = t)).map V.str))) S2 = some (.lst ((g.sites.filter fun x => !decide (x = t)).map V.str)) := upd_same
    generalize upd H3 S2 (.lst ((g.sites.filter fun x => !decide (x = t)).map V.str)) = H4 at *
    refine ⟨_, rfl, _, rfl, (show 3 ≤ sizeLine by decide), fun T5 nT5 => ?_⟩
    have s5 : Same H4 (upd H4 T5 (.tup [V.ref S2, .ref D, .ref C])) := (Same.refl _).new nT5
    exact kQ T5 S2 D C _ ((s3.trans sS').trans s5) ((s3.trans sS').free nT5) (s3.free nS2) nD (s2.free nC) upd_same (s5 _ _ hS2) (hD2.same stPs ((f.s.trans sS').trans s5)) (hC.same (stRwN H) (sS'.trans s5))
end

/-! ### _law_dropped of k19 -/
abbrev sDr : Stmt := (top 43)
theorem scDr : FnScope ["_law_placement", "_law_site", "e"] ["_law_placement", "_law_site"] (defScope sDr) := ⟨rfl, rfl, rfl, by decide +kernel, rfl, by decide +kernel, by decide +kernel⟩
def spDr (CP CI CC : Addr) : Sp := fun vs H Q _ => ∃ (H0 : Hp) (s : PSt) (wy : Ways) (t : Str), vs = [.ref s.p, .str t] ∧ PlV CP CI CC H0 H s wy ∧
  (t ∉ s.places → ∀ A H', H A = none → Same H H' → H' A = some (.lst (([("unknown" : Str), t] : List Str).map V.str)) → Q (.ref A) H') ∧
  (t ∈ s.places → ∀ A J H', Same (cut H (s.ads CP CI CC)) J → J A = some (.lst [.str "dropped", .non]) → PlV CP CI CC J H' (s.dropped wy t) (dropWays s wy t) → Q (.ref A) H')
section
variable {P : Program} {w : World} {K : PySem.W.Frag} {mg : Str → Option Value} {base : Heap}
theorem ok_dr {f CP CI CC CU : Addr} {fd : FuncData} (F : FnP K "_law_dropped" sDr f fd) (T : Bj mg) (mDs : Mth P w K mg base 5 CP "drop_site" ["self", "name"] (spDs CP CI CC CU))
    (xUnknown : PySem.XEx.XCls P K CU ["name"] (defArgs sIUnknown) (defBody sIUnknown) (defScope sIUnknown)) (gUnknown : mg "Unknown" = some (.ref CU)) :
    FnOk P w K mg base (L2.CX P w) 6 f fd ["_law_placement", "_law_site"] (spDr CP CI CC) := by
  refine F.ok scDr (fun vs H Q E h => ?_) (fun cdv A outer s H vs Q E hr h => ?_)
  · obtain ⟨H0, s, wy, t, rfl, _⟩ := h
    rfl
  · obtain ⟨H0, s, wy, t, rfl, pl, k1, k4⟩ := h
    have nd := scDr.nd
    refine ⟨_, (pss_one (ps_tryA (i := 2) rfl rfl nd rfl rfl ⟨rfl, by decide, .inl gUnknown⟩ takes0 (fun W pn xe tk po => (pss_one (ps_ret (pe_lst (pa_cons pe_str (pa_cons (pe_mthE hr tk (pv 0) (pa_cons (pv 1) pa_nil)) pa_nil)))))) (fun a oe cls d pn hz hf => (pss_one (ps_ret (pe_lst (pa_cons pe_str (pa_cons (pe_byX xUnknown (xUnknown.noF "name" (by simp)) hz hf (pv 2)) pa_nil)))))))), ?_⟩
    intro pn xe
    refine ⟨_, rfl, s.p, CP, s.dp, _, 5, _, _, rfl, pl.w_.hp, mDs, by decide, rfl, _, rfl, H0, s, wy, t, rfl, pl, fun q d hd => ?_, fun q J H1 sJ x => ?_⟩
    · refine ⟨true, xUnknown.te, fun _ ae hae oe pn2 => ?_, fun e => by cases e⟩
      refine ⟨_, rfl, rfl, rfl, d, _, _, rfl, upd_same, rfl, (show 2 ≤ sizeLine by decide), fun A nA => ?_⟩
      have s2 := (Same.refl H).new (o := .xd [(Str.ofString "name", V.str t)]) hd
      exact k1 q A _ (s2.free nA) (s2.new nA) upd_same
    · refine ⟨(show 2 ≤ sizeLine by decide), fun A nA => ?_⟩
      have nJ : J A = none := none_of nA x.sj
      exact k4 q A _ _ (sJ.trans ((Same.refl _).new nJ)) upd_same (x.grow nA)
end

/-! ### law k19 -/
theorem keep_congrL {K1 K2 : KeepP} : ∀ {ls : List Ln}, (∀ l ∈ ls, ∀ i ∈ l.it, K1 i l.tgt = K2 i l.tgt) → ls.filterMap (Ln.keep K1) = ls.filterMap (Ln.keep K2)
  | [], _ => rfl
  | l :: ls, h => by
    have e : l.keep K1 = l.keep K2 := by
      have ek : l.kept K1 = l.kept K2 := List.filter_congr fun i hi => h l List.mem_cons_self i hi
      unfold Ln.keep
      rw [ek]
    rw [List.filterMap_cons, List.filterMap_cons, e, keep_congrL fun m hm => h m (List.mem_cons_of_mem _ hm)]
theorem erase_flt {l : List Str} (nd : l.Nodup) (t : Str) : l.erase t = l.filter fun x => !decide (x = t) := by
  rw [nd.erase_eq_filter]
  refine List.filter_congr fun x _ => ?_
  by_cases q : x = t
  · rw [decide_eq_true q, q]; simp
  · rw [decide_eq_false q]; simp [q]
section
variable {CP CI CC : Addr} {H0 H : Hp} {s : PSt} {g : Gd} {t : Str}
theorem gone_st {CP CI CC : Addr} {H0 H : Hp} {s : PSt} {w : Ways} (x : PlV CP CI CC H0 H s w) (t : Str) : ∀ y ∈ s.seats, goneP s t y.nm = decide (y.st = t) := fun y hy => by
  unfold goneP PSt.gone
  by_cases q : y.st = t
  · rw [decide_eq_true q]
    exact decide_eq_true (List.mem_map.mpr ⟨y, List.mem_filter.mpr ⟨hy, decide_eq_true q⟩, rfl⟩)
  · rw [decide_eq_false q]
    refine decide_eq_false fun h => q ?_
    obtain ⟨z, hz, e⟩ := List.mem_map.mp h
    obtain ⟨h1, h2⟩ := List.mem_filter.mp hz
    rw [← nodup_inj x.nms h1 hy e]
    exact of_decide_eq_true h2
theorem dropped_homes (x : PlV CP CI CC H0 H s g.ways) (st : Stt g s) (t : Str) : (s.dropped g.ways t).homes = homesOff g t := by
  show ((s.seats.filter fun x => !goneP s t x.nm).map fun i => (i.nm, i.st)) = _
  have e1 : (s.seats.filter fun x => !goneP s t x.nm) = s.seats.filter fun x => !decide (x.st = t) := List.filter_congr fun y hy => by rw [gone_st x t y hy]
  rw [e1]
  unfold homesOff
  rw [← st.eH]
  unfold PSt.homes
  rw [List.filter_map]
  rfl
theorem dropped_lns (x : PlV CP CI CC H0 H s g.ways) (st : Stt g s) (t : Str) : (s.dropped g.ways t).lns = g.lines.filterMap (Ln.keep (lawK g t)) := by
  show ((s.keep (itemK (goneP s t))).keep (offT (dropW (goneP s t) g.ways) t)).lns = _
  rw [PSt.keep_keep, PSt.keep_lns, st.eL]
  refine keep_congrL fun l hl i hi => ?_
  have ok := st.ok
  obtain ⟨w0, _, hw⟩ := ok.wL l hl i hi
  have ig := (ok.lI l hl).2 i hi
  obtain ⟨y, hy, ey⟩ : ∃ y ∈ s.seats, y.nm = i := by
    rw [← st.nms] at ig
    obtain ⟨y, hy, e⟩ := List.mem_map.mp ig
    exact ⟨y, hy, e⟩
  have hy2 : (y.nm, y.st) ∈ g.homes := by rw [← st.eH]; exact List.mem_map.mpr ⟨y, hy, rfl⟩
  have gs := gone_st x t y hy
  rw [ey] at gs hy2
  have e1 : decide (i ∈ (homesOff g t).map (·.1)) = !decide (y.st = t) := by
    by_cases q : y.st = t
    · rw [decide_eq_true q]
      refine decide_eq_false fun h => ?_
      obtain ⟨z, hz, e⟩ := List.mem_map.mp h
      obtain ⟨h1, h2⟩ := List.mem_filter.mp hz
      have h1' : (i, z.2) ∈ g.homes := by rw [← e]; exact h1
      rw [ok.homeU h1' hy2, decide_eq_true q] at h2
      cases h2
    · rw [decide_eq_false q]
      exact decide_eq_true (List.mem_map.mpr ⟨(i, y.st), List.mem_filter.mpr ⟨hy2, by rw [decide_eq_false q]; rfl⟩, rfl⟩)
  unfold lawK
  rw [e1]
  show (!goneP s t i && !pre (dropW (goneP s t) g.ways i t) (dropW (goneP s t) g.ways i l.tgt)) = _
  rw [gs]
  by_cases q : y.st = t
  · rw [decide_eq_true q]
    rfl
  · rw [decide_eq_false q]
    have dw : ∀ u, dropW (goneP s t) g.ways i u = g.ways i u := fun u => by unfold dropW; rw [gs, decide_eq_false q]; rfl
    rw [dw, dw, hw]
    have nt : g.ways i t ≠ some [] := fun e => q ((ok.atHome e hy2).mp rfl).symm
    show (true && !pre (g.ways i t) (some (w0 ++ [l.nm]))) = (true && !g.thr (w0 ++ [l.nm]) t)
    rw [← ok.vis_pre _ rfl hw, ok.vis_thr nt _ rfl (by simp) hw]
end
abbrev sLaw : Stmt := (top 44)
theorem scLaw : FnScope ["_law_script", "_law_draws_here", "_law_rows_here", "_law_placement", "_law_site", "_law_after_here"] ["_law_script"] (defScope sLaw) := ⟨rfl, rfl, rfl, by decide +kernel, rfl, by decide +kernel, by decide +kernel⟩
def spLaw (K : PySem.W.Frag) : Sp := fun vs H Q _ => ∃ (a : Addr) (ns : List Int), vs = [.ref a] ∧ SqL K H a (ns.map V.int) ∧ ns.length ≤ 63 ∧ ∀ H', Q (.bl true) H'
def droppedD : PyData := .list [.str "dropped", .none]
theorem dropped_dp {K : PySem.W.Frag} {H : Hp} {a : Addr} (h : H a = some (.lst [V.str "dropped", .non])) : Dp K H (.ref a) droppedD := .lst (SqL.of h) (.cons (.str _) (.cons .non .nil))
theorem dropped_lay : droppedD.canLay0 = true ∧ droppedD.depth ≤ 64 := by
  have e : PyData.strOk "dropped" = true := by decide +kernel
  refine ⟨?_, by simp [droppedD, PyData.depth, PyData.depthAll]⟩
  unfold droppedD
  rw [PyData.canLay0, PyData.canLayAll0, PyData.canLayAll0, PyData.canLayAll0, PyData.canLay0, PyData.canLay0, e]
  rfl
section
variable {P : Program} {w : World} {K : PySem.W.Frag} {mg : Str → Option Value} {base : Heap}
theorem ok_law {f CP CI CC CU CB CT : Addr} {fd : FuncData} (F : FnP K "law" sLaw f fd) (T : Bj mg)
    (g_draws : Cal P w K mg base 1 "_law_draws" ["_law_script", "_law_many"] (spDraws K)) (g_take : Cal P w K mg base 1 "_law_take" ["_law_draws_here", "_law_size"] spTake) (g_rows : Cal P w K mg base 3 "_law_rows" ["_law_draws_here", "_law_most", "_law_kinds"] (spRo K))
    (g_build : Cal P w K mg base 8 "_law_build" ["_law_rows_here"] (spBu CP CI CC)) (g_dropped : Cal P w K mg base 6 "_law_dropped" ["_law_placement", "_law_site"] (spDr CP CI CC)) (g_told : Cal P w K mg base 3 "_law_told" ["_law_rows_here"] (spTd K)) (g_after : Cal P w K mg base 1 "_law_after" ["_law_rows_here", "_law_site"] (spAf K))
    (m_rows : Mth P w K mg base 4 CP "rows" ["self"] (spRw CP CI CC)) (m_as : Mth P w K mg base 2 CP "add_site" ["self", "name"] (spAs CP CI CC CB CT)) (m_held : Mth P w K mg base 3 CP "held" ["self", "site"] (spHe CP CI CC CU)) : FnOk P w K mg base (L2.CX P w) 9 f fd ["_law_script"] (spLaw K) := by
  refine F.ok scLaw (fun vs H Q E h => ?_) (fun cdv A outer s H vs Q E hr h => ?_)
  · obtain ⟨a, ns, rfl, _⟩ := h
    rfl
  · obtain ⟨a, ns, rfl, hS, hlen, kQ⟩ := h
    have nd := scLaw.nd
    have hu := hu_of hr
    refine ⟨_, (pss_cons (ps_set (i := 1) nd rfl (Or.inl rfl) (pe_cal g_draws hr takes0 (pa_cons (pv 0) (pa_cons pe_int pa_nil))))
      (pss_cons (ps_set (i := 2) nd rfl (Or.inl rfl) (pe_cal g_rows hr takes0 (pa_cons (pv 1) (pa_cons (pe_tup (pa_cons pe_int (pa_cons pe_int (pa_cons pe_int (pa_cons pe_int pa_nil))))) (pa_cons (pe_lst (pa_cons pe_non (pa_cons pe_str (pa_cons pe_str (pa_cons pe_str (pa_cons pe_str (pa_cons pe_str pa_nil))))))) pa_nil)))))
      (pss_cons (ps_set (i := 3) nd rfl (Or.inl rfl) (pe_cal g_build hr takes0 (pa_cons (pv 2) pa_nil)))
      (pss_cons (ps_if (pt_cmpR op_eq (pe_cal g_take hr takes0 (pa_cons (pv 1) (pa_cons pe_int pa_nil))) pe_int (nomark _)) (pss_one (ps_ret (pe_and (pe_cmpR (op_eqD hr.units) (pe_cal g_dropped hr takes0 (pa_cons (pv 3) (pa_cons pe_str pa_nil))) (pe_lst (pa_cons pe_str (pa_cons pe_str pa_nil))) (nomark _)) (pe_one (pe_cmpR (op_eqD hr.units) (pe_mthE0 hr takes0 (pv 3)) (pe_cal g_told hr takes0 (pa_cons (pv 2) pa_nil)) (nomark _)))))) pss_nil)
      (pss_cons (ps_set (i := 4) nd rfl (Or.inl rfl) (pe_ix ix_list (pe_ix ix_tup (pv 2) pe_int (fun _ _ => rfl)) (pe_cal g_take hr takes0 (pa_cons (pv 1) (pa_cons (pe_callB call_len_seq (by rfl) T.len PySem.boot_len (pa_cons (pe_ix ix_tup (pv 2) pe_int (fun _ _ => rfl)) pa_nil)) pa_nil))) (fun _ _ => rfl)))
      (pss_cons (ps_if (pt_cmpR (op_neD hr.units) (pe_cal g_dropped hr takes0 (pa_cons (pv 3) (pa_cons (pv 4) pa_nil))) (pe_lst (pa_cons pe_str (pa_cons pe_non pa_nil))) (nomark _)) (pss_one (ps_ret pe_bl)) pss_nil)
      (pss_cons (ps_set (i := 5) nd rfl (Or.inl rfl) (pe_cal g_after hr takes0 (pa_cons (pv 2) (pa_cons (pv 4) pa_nil))))
      (pss_cons (ps_if (PW.pt (pw_or (pt_cmpR (op_neD hr.units) (pe_mthE0 hr takes0 (pv 3)) (pe_cal g_told hr takes0 (pa_cons (pv 5) pa_nil)) (nomark _)) (pw_or1 (pt_cmpR (op_neD hr.units) (pe_cal g_dropped hr takes0 (pa_cons (pv 3) (pa_cons (pv 4) pa_nil))) (pe_lst (pa_cons pe_str (pa_cons (pv 4) pa_nil))) (nomark _))))) (pss_one (ps_ret pe_bl)) pss_nil)
      (pss_cons (ps_if (PW.pt (pw_or (pt_cmpR op_notN (pe_mthE hr takes0 (pv 3) (pa_cons (pv 4) pa_nil)) pe_non (nomark _)) (pw_or1 (pt_cmpR (op_neD hr.units) (pe_mthE hr takes0 (pv 3) (pa_cons (pv 4) pa_nil)) (pe_lst pa_nil) (nomark _))))) (pss_one (ps_ret pe_bl)) pss_nil)
      (pss_one (ps_ret (pe_cmpR (op_eqD hr.units) (pe_mthE0 hr takes0 (pv 3)) (pe_cal g_told hr takes0 (pa_cons (pe_tup (pa_cons (pe_op op_cat (pe_ix ix_tup (pv 5) pe_int (fun _ _ => rfl)) (pe_lst (pa_cons (pv 4) pa_nil))) (pa_cons (pe_ix ix_tup (pv 5) pe_int (fun _ _ => rfl)) (pa_cons (pe_ix ix_tup (pv 5) pe_int (fun _ _ => rfl)) pa_nil)))) pa_nil)) (nomark _))))))))))))), ?_⟩
    walk_at "go"
    refine ⟨a, ns, 50, rfl, hS, hlen, by decide, fun p ds H1 np s1 hp hl hd => ?_⟩
    refine ⟨_, rfl, (show 4 ≤ sizeLine by decide), fun M nM => ?_⟩
    have hM : (upd H1 M (.tup [V.int 6, .int 5, .int 7, .int 16])) M = some (.tup [V.int 6, .int 5, .int 7, .int 16]) := upd_same
    have s2 : Same H1 (upd H1 M (.tup [V.int 6, .int 5, .int 7, .int 16])) := (Same.refl _).new nM
    generalize upd H1 M (.tup [V.int 6, .int 5, .int 7, .int 16]) = H2 at *
    refine ⟨(show 6 ≤ sizeLine by decide), fun KL nKL => ?_⟩
    have s3 : Same H2 (upd H2 KL (.lst [V.non, .str "whole", .str "itemwise", .str "split", .str "overtaking", .str "passing"])) := (Same.refl _).new nKL
    have hKL : (upd H2 KL (.lst [V.non, .str "whole", .str "itemwise", .str "split", .str "overtaking", .str "passing"])) KL = some (.lst (([none, some "whole", some "itemwise", some "split", some "overtaking", some "passing"] : List (Option Str)).map kindV)) := upd_same
    generalize upd H2 KL (.lst [V.non, .str "whole", .str "itemwise", .str "split", .str "overtaking", .str "passing"]) = H3 at *
    have hp3 := s3 _ _ (s2 _ _ hp)
    refine ⟨p, M, KL, ds, 6, 5, 7, 16, _, rfl, hp3, hd, .inl (.inl (s3 _ _ hM)), by decide, by decide, by decide, by decide, by decide, SqL.of hKL, by simp, (by decide +kernel), (fun e => ne_of_none (s2 _ _ hp) nKL e.symm), (fun e => by have := s3 _ _ hM; rw [e, hp3] at this; cases this), fun H4 ds2 Tr S HM CH W as kvs g fr hp4 hd2 gd n1 n2 n3 n4 n5 n6 ok nm hne z0 z1 z2 z3 hk hwy => ?_⟩
    refine ⟨_, rfl, Tr, S, HM, CH, W, as, kvs, g, rfl, gd, ok, nm, hne, by omega, by omega, by omega, fun H5 s pm => ?_⟩
    obtain ⟨J0, J, L, gs, st⟩ := start_of hp3 hp4 hd2 gd n2 n3 n4 n5 n6 ok nm hne z0 (by omega) (by omega) (by omega) hwy pm
    clear fr gd pm hp4 hd2 hp3 hKL s3 s2 hp hd hwy n1 n2 n3 n4 n5 n6 z1 z2 z3
    have at0 : atI [V.ref S, .ref HM, .ref CH, .ref W] 0 = some (.ref S) := rfl
    have hT := gs.t
    have hSS := gs.s
    have sze : PyData.strOk "zebra" = true := by decide +kernel
    have sun : PyData.strOk "unknown" = true := by decide +kernel
    have zno : ("zebra" : Str) ∉ s.places := fun h => by
      rw [st.eS] at h
      exact gen_zebra (st.nm.gs _ h)
    have lay2 : ∀ x y : Str, PyData.strOk x = true → PyData.strOk y = true → (strsD [x, y]).canLay0 = true ∧ (strsD [x, y]).depth ≤ 64 := fun x y hx hy => by
      have := strs_lay (l := [x, y]) fun z hz => by
        simp only [List.mem_cons, List.not_mem_nil, or_false] at hz
        rcases hz with rfl | rfl
        · exact hx
        · exact hy
      exact ⟨this.1, Nat.le_trans this.2 (by decide)⟩
    refine ⟨_, rfl, p, ds2, 8, rfl, L.hp, L.dr, by decide, fun d1 ds3 d10 d11 hd3 _ => ?_⟩
    obtain ⟨K1, H6, e1, L1⟩ := L.draw hd3
    rw [e1]
    clear e1 L
    refine ⟨rfl, _, rfl, ite2 (fun _ => ?_) (fun _ => ?_)⟩
    · refine ⟨_, rfl, K1, s, g.ways, "zebra", rfl, L1.pl, fun _ A H7 nA s7 hA => ?_, fun q => absurd q zno⟩
      obtain ⟨J4, K4, e4, sJ4, L4⟩ := L1.step s7
      have hA4 := L1.mx_new s7 nA hA
      rw [← e4] at hA4
      clear e4
      refine ⟨(show 2 ≤ sizeLine by decide), fun B nB => ?_⟩
      obtain ⟨J5, K5, H10, e5, sJ5, sH5, hB, L5⟩ := L4.new nB (.lst (([("unknown" : Str), "zebra"] : List Str).map V.str))
      rw [show (HO.lst [V.str "unknown", V.str "zebra"]) = .lst (([("unknown" : Str), "zebra"] : List Str).map V.str) from rfl, e5]
      clear e5
      refine eqD_of (strs_dp (L5.at_ (sJ5 _ _ hA4))) (strs_dp (L5.at_ hB)) (lay2 _ _ sun sze) ⟨_, rfl, iteT ?_⟩
      exact rows_cmp (R := rEqD K) (b := true) (i := 3) L5 (fun x y H Q d h1 h2 l q => eqD_of h1 h2 l q) m_rows (by decide) rfl st.tokS fun J1 K1 HY T1 sY sJ L' fin => ⟨_, rfl, told_self (E := E) st (gs.same ((sJ4.trans sJ5).trans sJ)) L' fun v H' s' dv => fin v H' s' dv (kQ _)⟩
    -- the site
    refine ⟨_, rfl, Tr, _, _, _, rfl, rfl, .inl (.inl (L1.at_ hT)), at0, _, rfl, _, rfl, Tr, _, _, _, rfl, rfl, .inl (.inl (L1.at_ hT)), at0, S, _, rfl, .inl (SqL.of (L1.at_ hSS)), p, ds3, ((g.sites.map V.str).length : Nat), rfl, L1.hp, L1.dr, by rw [List.length_map]; have := st.z1; omega, fun d2 ds4 d20 d21 hd4 _ => ?_⟩
    obtain ⟨K2, H7, e2, L2⟩ := L1.draw hd4
    rw [e2]
    clear e2 L1
    rw [List.length_map] at d21
    obtain ⟨n2, rfl⟩ := Int.eq_ofNat_of_zero_le d20
    obtain ⟨t, ht⟩ : ∃ t, g.sites[n2]? = some t := ⟨_, List.getElem?_eq_getElem (by omega)⟩
    have tm := List.mem_of_getElem? ht
    have tmS : t ∈ s.places := by rw [st.eS]; exact tm
    have tok := st.nm.s t tm
    refine ⟨S, _, _, _, rfl, rfl, SqL.of (L2.at_ hSS), at_at (by rw [List.getElem?_map, ht]; rfl), ?_⟩
    -- dropped
    refine ⟨_, rfl, _, rfl, K2, s, g.ways, t, rfl, L2.pl, fun q => absurd tmS q, fun _ A3 J' H19 sJ' hA3 pv => ?_⟩
    obtain ⟨J13, e13, sJ13, L13⟩ := L2.deed sJ' pv
    have hA13 : J13 A3 = some (.lst [V.str "dropped", .non]) := by
      rw [e13, cut_out]
      · exact hA3
      · intro h
        have hp' := L13.hJ
        rw [List.mem_singleton.mp h] at hA3
        rw [hA3] at hp'
        injection hp' with hp'
        injection hp' with hp'
        cases ds4 with
        | nil => cases hp'
        | cons d r => injection hp' with hp' _; cases hp'
    clear e13 hA3
    refine ⟨(show 2 ≤ sizeLine by decide), fun B4 nB4 => ?_⟩
    obtain ⟨J14, K14, H20, e14, sJ14, sH14, hB14, L14⟩ := L13.new nB4 (.lst [V.str "dropped", .non])
    rw [e14]
    clear e14
    refine neD_of (dropped_dp (L14.at_ (sJ14 _ _ hA13))) (dropped_dp (L14.at_ hB14)) dropped_lay ⟨_, rfl, iteF ?_⟩
    have gs14 := gs.same (sJ13.trans sJ14)
    have eHo := dropped_homes L2.pl st t
    have eLn := dropped_lns L2.pl st t
    have ePl : (s.dropped g.ways t).places = g.sites.filter fun x => !decide (x = t) := by
      show s.places.erase t = _
      rw [st.eS, erase_flt st.ok.sN]
    have eDp : (s.dropped g.ways t).p = s.p := rfl
    have eDs : (s.dropped g.ways t).places = s.places.erase t := rfl
    have eHd : ∀ i, dropWays s g.ways t i t = none := fun i => by
      unfold dropWays keepW offT
      cases q : dropW (goneP s t) g.ways i t with
      | none => simp
      | some v =>
        rw [pre_self (by simp)]
        rfl
    clear hA13 hB14 L13 sJ' pv gs L2
    generalize s.dropped g.ways t = sd at *
    generalize dropWays s g.ways t = wd at *
    rw [← eDp]
    -- after
    refine ⟨_, rfl, _, rfl, Tr, S, HM, CH, W, as, kvs, g, t, rfl, gs14.same L14.sj, st.ok, by have := st.zl; omega, by have := st.zh; omega, by have := st.zs; omega, fun l hl => by have := st.zi l hl; omega, fun T' S' HM' CH' H21 s21 nT' nS' nHM' nCH' hT' hS' hHM' hCH' => ?_⟩
    obtain ⟨J21, K21, e21, sJ21, L21⟩ := L14.step s21
    have hT21 := L14.mx_new s21 nT' hT'
    have hS21 := L14.mx_new s21 nS' hS'
    have hHM21 := L14.mx_prs s21 nHM' hHM'
    have hCH21 : LsA RwT (LS.mx CP CI CC H21 p sd) CH' (g.lines.filterMap (Ln.keep (lawK g t))) := by
      obtain ⟨vs, h1, pw⟩ := hCH'
      exact ⟨vs, L14.mx_new s21 nCH' h1, pw.mono fun v y ⟨t, a, e, q1, q2, q3⟩ => ⟨t, a, e, L14.mx_tup s21 q1, L14.mx_new s21 q3 q2⟩⟩
    rw [← e21] at hT21 hS21 hHM21 hCH21
    clear e21 hT' hS' hHM' hCH' L14 gs14
    have mem2 : ∀ m ∈ g.lines.filterMap (Ln.keep (lawK g t)), ∃ l ∈ g.lines, m = { l with it := l.kept (lawK g t) } := fun m hm => by
      obtain ⟨l, hl, e⟩ := List.mem_filterMap.mp hm
      exact ⟨l, hl, (Ln.keep_some e).1⟩
    have nl2 : ((g.lines.filterMap (Ln.keep (lawK g t))).map (·.nm)).Nodup := st.ok.lN.sublist (fm_sub (fun a b h => by rw [(Ln.keep_some h).1]) _)
    have hsub : ∀ x ∈ homesOff g t, x ∈ g.homes := fun x hx => (List.mem_filter.mp hx).1
    have lokl : ∀ m ∈ g.lines.filterMap (Ln.keep (lawK g t)), LnOk m := fun m hm => by
      obtain ⟨l, hl, rfl⟩ := mem2 m hm
      have z := st.tok.l l hl
      exact ⟨z.nm, z.src, z.tgt, fun i hi => z.it i (Ln.mem_kept.mp hi).1, z.kd⟩
    have lenS : (g.sites.filter fun x => !decide (x = t)).length ≤ 8 := Nat.le_trans (List.length_filter_le _ _) st.zs
    have td : ∀ {Hx : Hp} {S0 : Addr} {ss : List Str}, Same J21 Hx → Hx S0 = some (.lst (ss.map V.str)) → ss.length < 64 → TdA Hx S0 HM' CH' ss (homesOff g t) (g.lines.filterMap (Ln.keep (lawK g t))) := fun sx h0 hz => by
      refine ⟨h0, hHM21.same stPs sx, hCH21.same stRwT sx, hz, ?_, ?_, fun m hm => ?_, st.ok.hN.sublist (List.filter_sublist.map _), nl2⟩
      · have := List.length_filter_le (fun h : Str × Str => !decide (h.2 = t)) g.homes
        have := st.zh
        unfold homesOff
        omega
      · have := st.zl; have := List.length_filterMap_le (Ln.keep (lawK g t)) g.lines; omega
      · obtain ⟨l, hl, rfl⟩ := mem2 m hm
        have := st.zi l hl
        have h2 := List.length_filter_le (fun i => lawK g t i l.tgt) l.it
        show (l.kept (lawK g t)).length < 64
        unfold Ln.kept
        omega
    have tok2 : ToldOk sd.places sd.homes sd.lns := by
      rw [eHo, eLn, ePl]
      exact ⟨fun x hx => st.tok.s x (List.mem_filter.mp hx).1, fun x hx => st.tok.h x (hsub x hx), lokl⟩
    refine rows_cmp (R := rNeD K) (b := false) (i := 3) L21 (fun x y H Q d h1 h2 l q => neD_of h1 h2 l q) m_rows (by decide) rfl tok2 fun J22 K22 H22 T22 s22 sJ22 L22 fin => ⟨_, rfl, T', S', HM', CH', [], _, _, _, rfl, L22.at_ (sJ22 _ _ hT21), td (sJ22.trans L22.sj) (L22.at_ (sJ22 _ _ hS21)) (by omega), fun v H23 s23 dv => ?_⟩
    rw [← eHo, ← eLn, ← ePl] at dv
    refine fin _ H23 s23 dv ⟨_, rfl, iteF ?_⟩
    obtain ⟨J23, K23, _, sJ23, L23⟩ := L22.step s23
    have tno : t ∉ sd.places := fun h => by
      rw [ePl, List.mem_filter, decide_eq_true rfl] at h
      cases h.2
    refine ⟨_, rfl, _, rfl, K23, sd, wd, t, rfl, L23.pl, fun _ A4 H24 nA4 s24 hA4 => ?_, fun q => absurd q tno⟩
    obtain ⟨J24, K24, e24, sJ24, L24⟩ := L23.step s24
    have hA24 := L23.mx_new s24 nA4 hA4
    rw [← e24] at hA24
    clear e24
    refine ⟨_, rfl, (show 2 ≤ sizeLine by decide), fun B5 nB5 => ?_⟩
    obtain ⟨J25, K25, H25, e25, sJ25, sH25, hB25, L25⟩ := L24.new nB5 (.lst (([("unknown" : Str), t] : List Str).map V.str))
    rw [show (HO.lst [V.str "unknown", V.str t]) = .lst (([("unknown" : Str), t] : List Str).map V.str) from rfl, e25]
    clear e25
    refine neD_of (strs_dp (L25.at_ (sJ25 _ _ hA24))) (strs_dp (L25.at_ hB25)) (lay2 _ _ sun tok.2) ⟨_, rfl, iteF ?_⟩
    have sJe := ((sJ22.trans sJ23).trans sJ24).trans sJ25
    clear hA24 hB25 L24 L23 L22 L21 fin dv
    -- added again
    have zpd : sd.places.length < 100 := by rw [ePl]; omega
    have tlen : t.length ≤ sizeLine := by
      have := tok.1.2.1
      have e : t.length = t.cps.toList.length := rfl
      rw [e]
      exact Nat.le_trans this (by rw [sizeLine_eq]; decide)
    refine ⟨_, rfl, sd.p, CP, sd.dp, _, 2, _, _, rfl, L25.ho, m_as, by decide, rfl, _, rfl, K25, sd, wd, t, rfl, L25.pl, tlen, zpd, fun q => absurd tok.1 q, fun _ q => absurd q tno, fun _ _ J'' H26 sJ'' pv2 => ?_⟩
    obtain ⟨J26, _, sJ26, L26⟩ := L25.deed sJ'' pv2
    have sJf := sJe.trans sJ26
    refine ⟨rfl, _, rfl, ?_⟩
    rw [show (!decide (V.non = V.non)) = false by simp]
    refine iteF ?_
    have tin : t ∈ (sd.addPlace t).places := List.mem_append_right _ (List.mem_singleton.mpr rfl)
    refine ⟨_, rfl, sd.p, CP, sd.dp, _, 3, _, _, rfl, L26.ho, m_held, by decide, rfl, _, rfl, _, sd.addPlace t, wd, t, rfl, L26.pl, fun q => absurd tin q, fun _ LL H27 nL s27 hL => ⟨(show 0 ≤ sizeLine by decide), fun B6 nB6 => ?_⟩⟩
    have eH0 : (sd.addPlace t).heldL wd t = [] := List.filter_eq_nil_iff.mpr fun i _ => by rw [eHd]; simp
    rw [eH0] at hL
    obtain ⟨J27, K27, _, sJ27, L27⟩ := L26.step s27
    obtain ⟨J28, K28, H28, e28, sJ28, sH28, hB28, L28⟩ := L27.new nB6 (.lst [])
    rw [e28]
    clear e28
    have l0 := strs_lay (l := []) (fun _ h => by cases h)
    refine neD_of (d := strsD []) (strs_dp (sH28 _ _ hL)) (strs_dp (L28.at_ hB28)) ⟨l0.1, Nat.le_trans l0.2 (by decide)⟩ ⟨_, rfl, iteF ?_⟩
    have sJg := (sJf.trans sJ27).trans sJ28
    clear hL L26 L27 hB28
    have tok3 : ToldOk (sd.addPlace t).places (sd.addPlace t).homes (sd.addPlace t).lns := ⟨fun x hx => by
      rcases List.mem_append.mp (show x ∈ sd.places ++ [t] from hx) with h | h
      · exact tok2.s x h
      · rw [List.mem_singleton.mp h]; exact tok.2, tok2.h, tok2.l⟩
    refine rows_cmp (R := rEqD K) (b := true) (i := 3) L28 (fun x y H Q d h1 h2 l q => eqD_of h1 h2 l q) m_rows (by decide) rfl tok3 fun J29 K29 H29 T29 s29 sJ29 L29 fin => ?_
    have sJh := sJg.trans sJ29
    have aT0 : atI [V.ref S', .ref HM', .ref CH'] 0 = some (.ref S') := rfl
    have aT1 : atI [V.ref S', .ref HM', .ref CH'] 1 = some (.ref HM') := rfl
    have aT2 : atI [V.ref S', .ref HM', .ref CH'] 2 = some (.ref CH') := rfl
    refine ⟨_, rfl, T', _, _, _, rfl, rfl, .inl (.inl (L29.at_ (sJh _ _ hT21))), aT0, _, rfl, (show 1 ≤ sizeLine by decide), fun B7 nB7 => ?_⟩
    obtain ⟨J30, K30, H30, e30, sJ30, sH30, hB30, L30⟩ := L29.new nB7 (.lst [V.str t])
    rw [e30]
    clear e30
    refine ⟨S', B7, _, _, rfl, rfl, L30.at_ (sJ30 _ _ (sJh _ _ hS21)), L30.at_ hB30, size_ok (m := 1000) (by rw [List.length_map]; omega) (by decide), fun R nR => ?_⟩
    obtain ⟨J31, K31, H31, e31, sJ31, sH31, hR31, L31⟩ := L30.new nR (.lst (((g.sites.filter fun x => !decide (x = t)) ++ [t]).map V.str))
    rw [show ((g.sites.filter fun x => !decide (x = t)).map V.str ++ [V.str t]) = (((g.sites.filter fun x => !decide (x = t)) ++ [t]).map V.str) by rw [List.map_append]; rfl, e31]
    clear e31
    have sJi := (sJh.trans sJ30).trans sJ31
    refine ⟨_, rfl, T', _, _, _, rfl, rfl, .inl (.inl (L31.at_ (sJi _ _ hT21))), aT1, _, rfl, T', _, _, _, rfl, rfl, .inl (.inl (L31.at_ (sJi _ _ hT21))), aT2, (show 3 ≤ sizeLine by decide), fun T32 nT32 => ?_⟩
    have s32 : Same H31 (upd H31 T32 (.tup [V.ref R, .ref HM', .ref CH'])) := (Same.refl _).new nT32
    refine ⟨T32, R, HM', CH', [], _, _, _, rfl, upd_same, td ((sJi.trans L31.sj).trans s32) (s32 _ _ (L31.at_ hR31)) (by rw [List.length_append]; show _ + 1 < 64; omega), fun v H33 s33 dv => ?_⟩
    rw [← eHo, ← eLn, ← ePl] at dv
    exact fin _ H33 (((sH30.trans sH31).trans s32).trans s33) dv (kQ _)
end

/-! ### the head -/
def kindsDv : List He.Dv := [.str "whole", .str "itemwise", .str "split", .str "overtaking", .str "passing"]
def fn : List AD := [adG "_law_draws" sDraws, adG "_law_take" sTake, adG "_law_names" sNames, adG "_law_carry" sCa, adG "_law_rows" sRo, adG "check_name" sCn, adG "check_known" sKn, adG "checked_sites" sCs, adG "check_kind" sCk, adG "check_channel" sCc, adG "homes_of" sHm, adG "way_back" sWb, adG "bringers_of" sBr, adM "Ends" "__init__" "Ends.__init__" sEnI, adM "Load" "__init__" "Load.__init__" sLoI, adM "Item" "__init__" "Item.__init__" sItI, adM "Channel" "__init__" "Channel.__init__" sChI, adM "Placement" "__init__" "Placement.__init__" sPlI [.adr (He.dflAt ("Placement", some "__init__") 0), .adr (He.dflAt ("Placement", some "__init__") 1), .adr (He.dflAt ("Placement", some "__init__") 2)], adG "_law_build" sBu, adG "ascending" sAsc, adM "Channel" "carried" "Load.carried" sLoR, adM "Placement" "rows" "Placement.rows" sRw, adG "_law_sorted" sSo, adG "_law_told" sTd, adM "Placement" "copies" "Placement.copies" sCps, adM "Placement" "passes" "Placement.passes" sPs, adM "Placement" "lose" "Placement.lose" sLo, adM "Placement" "give_up" "Placement.give_up" sGu, adM "Placement" "give_up_all" "Placement.give_up_all" sGa, adM "Placement" "holds" "Placement.holds" sHo, adM "Placement" "held" "Placement.held" sHe, adM "Placement" "drop_site" "Placement.drop_site" sDs, adM "Placement" "add_site" "Placement.add_site" sAs, adG "_law_after" sAf, adG "_law_dropped" sDr, adG "law" sLaw]
def xs : List XD := [xdBadName, xdTaken, xdUnknown, xdBadChannel, xdBadKind, xdTwoWays, xdNotHeld]
def fyG : List Str := ["_law_draws", "_law_take", "_law_names", "_law_carry", "_law_rows", "check_name", "check_known", "checked_sites", "check_kind", "check_channel", "homes_of", "way_back", "bringers_of", "_law_build", "ascending", "_law_sorted", "_law_told", "_law_after", "_law_dropped", "law", "Item", "Ends", "Load", "Channel", "Placement"]
def fy : List Fy := fyG.map (fun x => .fa (.glo x)) ++ (bnames.map (fun x => .fa (.free x)) ++ [.tup "KINDS" kindsDv, .fa (.str "LETTERS" abc), .fa (.int "LONGEST" 8), .fa (.cls "Item"), .fa (.cls "Channel"), .fa (.cls "Placement"), .fa (.noat "Item" "owner"), .fa (.noat "Item" "name"), .fa (.noat "Item" "seat"), .fa (.noat "Channel" "source"), .fa (.noat "Channel" "target"), .fa (.noat "Channel" "names"), .fa (.noat "Channel" "name"), .fa (.noat "Channel" "kind"), .fa (.noat "Placement" "places"), .fa (.noat "Placement" "seats"), .fa (.noat "Placement" "lines"), .fa (.noat "Placement" "bringers"), .fa (.mkr "Item"), .fa (.mkr "Channel"), .fa (.mkr "Placement"), .fa (.meth "Channel" "carried"), .fa (.meth "Placement" "rows"), .fa (.meth "Placement" "copies"), .fa (.meth "Placement" "passes"), .fa (.meth "Placement" "lose"), .fa (.meth "Placement" "give_up"), .fa (.meth "Placement" "give_up_all"), .fa (.meth "Placement" "holds"), .fa (.meth "Placement" "held"), .fa (.meth "Placement" "drop_site"), .fa (.meth "Placement" "add_site"), .clf "Ends" "__init__", .clf "Load" "__init__"])
def fb (K : PySem.W.Frag) : Bool := fy.all (Fy.ok K) && (true)
abbrev R : PySem.W.OpenRow := PySem.W.OpenLaw.row PySem.Challenge.rw_latebridges_k19_dropping_a_site
abbrev hk : PySem.W.Hook := hookM R.prog 5 fb fn xs
def ob (s : PySem.W.SharedT) : AlM := obsMG R.prog 5 fb fn xs (HandSHeadRun.getT s)
theorem ob_eq (s : PySem.W.SharedT) : ob s = hk.obs s.abs := obsMG_eq (HandSHeadRun.getT_eq s)
def loose : List Str := (["_wall","PlacementError","BadName","Taken","Unknown","BadChannel","BadKind","TwoWays","NotHeld","Mismatch"] : List Str) ++ (["KINDS","ascending","check_kind","Ends","Load","Channel","LETTERS","LONGEST","check_name","check_known"] : List Str) ++ (["checked_sites","check_channel","homes_of","way_back","bringers_of","matches","check_match","pruned","Item","Placement"] : List Str) ++ (["_law_draws","_law_take","_law_names","_law_carry","_law_rows","_law_build","_law_sorted","_law_told","_law_after","_law_dropped"] : List Str)
set_option maxHeartbeats 0 in
theorem run (w : World) : HandSHeadRun.RunEq R (PySem.W.view R.prog [44]) hk ob 6000 loose w := by
  intro os
  kernel_rfl
theorem facts {w : World} {K : PySem.W.Frag} {h : Heap} {mg : Str → Option Value} {f : Addr} (X : K.In h) (G : h.Ns mainGlobals mg) (hfa : mg ("law" : Str) = some (.ref f)) (c : SaysM R.prog fb fn xs K) :
    ∃ fd : FuncData, (∀ (s : Shared) (v : Value), BindsTo s fd ⟨[v], []⟩ [("_law_script", v)]) ∧ ∀ base : Heap, K.In base → base.Ns mainGlobals mg → FnOk R.prog w K mg base (L2.CX R.prog w) 9 f fd ["_law_script"] (spLaw K) := by
  have q : ∀ {y : Fy}, y ∈ fy → y.ok K = true := fun m => all_of (He.ba c.fact).1 m
  have qf : ∀ {y : He.Fa}, Fy.fa y ∈ fy → y.ok K = true := fun m => all_of (He.ba c.fact).1 m
  have glo : ∀ {x : Str}, x ∈ fyG → mg x = some (.ref (He.ga K x)) := fun m => He.glo_ok X G (qf (List.mem_append_left _ (List.mem_map.mpr ⟨_, m, rfl⟩)))
  have T : Bj mg := Bj.of fun x m => He.free_ok X G (qf (List.mem_append_right _ (List.mem_append_left _ (List.mem_map.mpr ⟨_, m, rfl⟩))))
  obtain ⟨fd0, F0⟩ := c.def_ 0 (d := adG "_law_draws" sDraws) rfl
  obtain ⟨fd1, F1⟩ := c.def_ 1 (d := adG "_law_take" sTake) rfl
  obtain ⟨fd2, F2⟩ := c.def_ 2 (d := adG "_law_names" sNames) rfl
  obtain ⟨fd3, F3⟩ := c.def_ 3 (d := adG "_law_carry" sCa) rfl
  obtain ⟨fd4, F4⟩ := c.def_ 4 (d := adG "_law_rows" sRo) rfl
  obtain ⟨fd5, F5⟩ := c.def_ 5 (d := adG "check_name" sCn) rfl
  obtain ⟨fd6, F6⟩ := c.def_ 6 (d := adG "check_known" sKn) rfl
  obtain ⟨fd7, F7⟩ := c.def_ 7 (d := adG "checked_sites" sCs) rfl
  obtain ⟨fd8, F8⟩ := c.def_ 8 (d := adG "check_kind" sCk) rfl
  obtain ⟨fd9, F9⟩ := c.def_ 9 (d := adG "check_channel" sCc) rfl
  obtain ⟨fd10, F10⟩ := c.def_ 10 (d := adG "homes_of" sHm) rfl
  obtain ⟨fd11, F11⟩ := c.def_ 11 (d := adG "way_back" sWb) rfl
  obtain ⟨fd12, F12⟩ := c.def_ 12 (d := adG "bringers_of" sBr) rfl
  obtain ⟨fd13, F13⟩ := c.def_ 13 (d := adM "Ends" "__init__" "Ends.__init__" sEnI) rfl
  obtain ⟨fd14, F14⟩ := c.def_ 14 (d := adM "Load" "__init__" "Load.__init__" sLoI) rfl
  obtain ⟨fd15, F15⟩ := c.def_ 15 (d := adM "Item" "__init__" "Item.__init__" sItI) rfl
  obtain ⟨fd16, F16⟩ := c.def_ 16 (d := adM "Channel" "__init__" "Channel.__init__" sChI) rfl
  obtain ⟨fd17, F17⟩ := c.def_ 17 (d := adM "Placement" "__init__" "Placement.__init__" sPlI [.adr (He.dflAt ("Placement", some "__init__") 0), .adr (He.dflAt ("Placement", some "__init__") 1), .adr (He.dflAt ("Placement", some "__init__") 2)]) rfl
  obtain ⟨fd18, F18⟩ := c.def_ 18 (d := adG "_law_build" sBu) rfl
  obtain ⟨fd19, F19⟩ := c.def_ 19 (d := adG "ascending" sAsc) rfl
  obtain ⟨fd20, F20⟩ := c.def_ 20 (d := adM "Channel" "carried" "Load.carried" sLoR) rfl
  obtain ⟨fd21, F21⟩ := c.def_ 21 (d := adM "Placement" "rows" "Placement.rows" sRw) rfl
  obtain ⟨fd22, F22⟩ := c.def_ 22 (d := adG "_law_sorted" sSo) rfl
  obtain ⟨fd23, F23⟩ := c.def_ 23 (d := adG "_law_told" sTd) rfl
  obtain ⟨fd24, F24⟩ := c.def_ 24 (d := adM "Placement" "copies" "Placement.copies" sCps) rfl
  obtain ⟨fd25, F25⟩ := c.def_ 25 (d := adM "Placement" "passes" "Placement.passes" sPs) rfl
  obtain ⟨fd26, F26⟩ := c.def_ 26 (d := adM "Placement" "lose" "Placement.lose" sLo) rfl
  obtain ⟨fd27, F27⟩ := c.def_ 27 (d := adM "Placement" "give_up" "Placement.give_up" sGu) rfl
  obtain ⟨fd28, F28⟩ := c.def_ 28 (d := adM "Placement" "give_up_all" "Placement.give_up_all" sGa) rfl
  obtain ⟨fd29, F29⟩ := c.def_ 29 (d := adM "Placement" "holds" "Placement.holds" sHo) rfl
  obtain ⟨fd30, F30⟩ := c.def_ 30 (d := adM "Placement" "held" "Placement.held" sHe) rfl
  obtain ⟨fd31, F31⟩ := c.def_ 31 (d := adM "Placement" "drop_site" "Placement.drop_site" sDs) rfl
  obtain ⟨fd32, F32⟩ := c.def_ 32 (d := adM "Placement" "add_site" "Placement.add_site" sAs) rfl
  obtain ⟨fd33, F33⟩ := c.def_ 33 (d := adG "_law_after" sAf) rfl
  obtain ⟨fd34, F34⟩ := c.def_ 34 (d := adG "_law_dropped" sDr) rfl
  obtain ⟨fd35, F35⟩ := c.def_ 35 (d := adG "law" sLaw) rfl
  have ht : (R.prog.main.scope.names.lookup ("super" : Str)).isSome = false := by decide +kernel
  have xBadName := c.exc ht 0 (d := xdBadName) rfl
  have gBadName : mg ("BadName" : Str) = some (.ref (He.ga K "BadName")) := c.mgx X G 0 (d := xdBadName) rfl
  have xTaken := c.exc ht 1 (d := xdTaken) rfl
  have gTaken : mg ("Taken" : Str) = some (.ref (He.ga K "Taken")) := c.mgx X G 1 (d := xdTaken) rfl
  have xUnknown := c.exc ht 2 (d := xdUnknown) rfl
  have gUnknown : mg ("Unknown" : Str) = some (.ref (He.ga K "Unknown")) := c.mgx X G 2 (d := xdUnknown) rfl
  have xBadChannel := c.exc ht 3 (d := xdBadChannel) rfl
  have gBadChannel : mg ("BadChannel" : Str) = some (.ref (He.ga K "BadChannel")) := c.mgx X G 3 (d := xdBadChannel) rfl
  have xBadKind := c.exc ht 4 (d := xdBadKind) rfl
  have gBadKind : mg ("BadKind" : Str) = some (.ref (He.ga K "BadKind")) := c.mgx X G 4 (d := xdBadKind) rfl
  have xTwoWays := c.exc ht 5 (d := xdTwoWays) rfl
  have gTwoWays : mg ("TwoWays" : Str) = some (.ref (He.ga K "TwoWays")) := c.mgx X G 5 (d := xdTwoWays) rfl
  have xNotHeld := c.exc ht 6 (d := xdNotHeld) rfl
  have gNotHeld : mg ("NotHeld" : Str) = some (.ref (He.ga K "NotHeld")) := c.mgx X G 6 (d := xdNotHeld) rfl
  have e := hfa.symm.trans (glo (x := "law") (by simp [fyG]))
  cases e
  have b := FunD.bindsA (ps := ["_law_script"]) F35 fun _ _ _ _ _ _ us hl => match us, hl with | [_], _ => rfl
  refine ⟨fd35, fun s v => b s [v] rfl, fun base _ _ => ?_⟩
  have cItem : Cls K (He.ga K "Item") := He.cls_ok (qf (y := .cls "Item") (by simp [fy]))
  have nItem : ∀ f ∈ (["owner", "name", "seat"] : List Str), NoAttr K (He.ga K "Item") f := fun f hf => by
    simp only [List.mem_cons, List.not_mem_nil, or_false] at hf
    rcases hf with rfl | rfl | rfl <;> exact He.noat_ok (qf (by simp [fy]))
  have cChannel : Cls K (He.ga K "Channel") := He.cls_ok (qf (y := .cls "Channel") (by simp [fy]))
  have nChannel : ∀ f ∈ (["source", "target", "names", "name", "kind"] : List Str), NoAttr K (He.ga K "Channel") f := fun f hf => by
    simp only [List.mem_cons, List.not_mem_nil, or_false] at hf
    rcases hf with rfl | rfl | rfl | rfl | rfl <;> exact He.noat_ok (qf (by simp [fy]))
  have cPlacement : Cls K (He.ga K "Placement") := He.cls_ok (qf (y := .cls "Placement") (by simp [fy]))
  have nPlacement : ∀ f ∈ (["places", "seats", "lines", "bringers"] : List Str), NoAttr K (He.ga K "Placement") f := fun f hf => by
    simp only [List.mem_cons, List.not_mem_nil, or_false] at hf
    rcases hf with rfl | rfl | rfl | rfl <;> exact He.noat_ok (qf (by simp [fy]))
  have g_draws : Cal R.prog w K mg base 1 "_law_draws" ["_law_script", "_law_many"] (spDraws K) :=
    ⟨⟨_, fd0, glo (by simp [fyG]), F0.kp, F0.bindsN (ps := ["_law_script", "_law_many"]) (fun _ _ _ _ _ _ us hl => match us, hl with | [_, _], _ => rfl), ok_draws F0 T.toBi⟩⟩
  have g_take : Cal R.prog w K mg base 1 "_law_take" ["_law_draws_here", "_law_size"] (spTake) :=
    ⟨⟨_, fd1, glo (by simp [fyG]), F1.kp, F1.bindsN (ps := ["_law_draws_here", "_law_size"]) (fun _ _ _ _ _ _ us hl => match us, hl with | [_, _], _ => rfl), ok_take F1 T.toBi⟩⟩
  have g_names : Cal R.prog w K mg base 1 "_law_names" ["_law_draw", "_law_many"] (spNames) :=
    ⟨⟨_, fd2, glo (by simp [fyG]), F2.kp, F2.bindsN (ps := ["_law_draw", "_law_many"]) (fun _ _ _ _ _ _ us hl => match us, hl with | [_, _], _ => rfl), ok_names F2 T.toBi⟩⟩
  have g_carry : Cal R.prog w K mg base 2 "_law_carry" ["_law_draws_here", "_law_goods", "_law_lines", "_law_ways"] (spCa) :=
    ⟨⟨_, fd3, glo (by simp [fyG]), F3.kp, F3.bindsN (ps := ["_law_draws_here", "_law_goods", "_law_lines", "_law_ways"]) (fun _ _ _ _ _ _ us hl => match us, hl with | [_, _, _, _], _ => rfl), ok_ca F3 T g_take⟩⟩
  have g_rows : Cal R.prog w K mg base 3 "_law_rows" ["_law_draws_here", "_law_most", "_law_kinds"] (spRo K) :=
    ⟨⟨_, fd4, glo (by simp [fyG]), F4.kp, F4.bindsN (ps := ["_law_draws_here", "_law_most", "_law_kinds"]) (fun _ _ _ _ _ _ us hl => match us, hl with | [_, _, _], _ => rfl), ok_ro F4 T g_take g_names g_carry⟩⟩
  have g_check_name : Cal R.prog w K mg base 1 "check_name" ["name", "taken"] (spCn K (He.ga K "BadName") (He.ga K "Taken")) :=
    ⟨⟨_, fd5, glo (by simp [fyG]), F5.kp, F5.bindsN (ps := ["name", "taken"]) (fun _ _ _ _ _ _ us hl => match us, hl with | [_, _], _ => rfl), ok_cn F5 T (He.str_ok X G (qf (y := .str "LETTERS" abc) (by simp [fy]))) (He.int_ok X G (qf (y := .int "LONGEST" 8) (by simp [fy]))) xBadName gBadName xTaken gTaken⟩⟩
  have g_check_known : Cal R.prog w K mg base 1 "check_known" ["name", "known"] (spKn K (He.ga K "Unknown")) :=
    ⟨⟨_, fd6, glo (by simp [fyG]), F6.kp, F6.bindsN (ps := ["name", "known"]) (fun _ _ _ _ _ _ us hl => match us, hl with | [_, _], _ => rfl), ok_kn F6 T xUnknown gUnknown⟩⟩
  have g_checked_sites : Cal R.prog w K mg base 2 "checked_sites" ["names"] (spCs K) :=
    ⟨⟨_, fd7, glo (by simp [fyG]), F7.kp, F7.bindsN (ps := ["names"]) (fun _ _ _ _ _ _ us hl => match us, hl with | [_], _ => rfl), ok_cs F7 T g_check_name⟩⟩
  have g_check_kind : Cal R.prog w K mg base 3 "check_kind" ["kind"] (spCk (He.ga K "BadKind")) :=
    ⟨⟨_, fd8, glo (by simp [fyG]), F8.kp, F8.bindsN (ps := ["kind"]) (fun _ _ _ _ _ _ us hl => match us, hl with | [_], _ => rfl), ok_ck F8 ⟨(Fy.tup_ok X G (q (y := .tup "KINDS" kindsDv) (by simp [fy]))).1, fun H => (Fy.tup_ok X G (q (y := .tup "KINDS" kindsDv) (by simp [fy]))).2 H⟩ xBadKind gBadKind⟩⟩
  have g_check_channel : Cal R.prog w K mg base 4 "check_channel" ["row", "sites", "items", "taken"] (spCc K) :=
    ⟨⟨_, fd9, glo (by simp [fyG]), F9.kp, F9.bindsN (ps := ["row", "sites", "items", "taken"]) (fun _ _ _ _ _ _ us hl => match us, hl with | [_, _, _, _], _ => rfl), ok_cc F9 T g_check_name g_check_known g_check_kind xBadChannel gBadChannel⟩⟩
  have g_homes_of : Cal R.prog w K mg base 1 "homes_of" ["seats"] (spHm K (He.ga K "Item")) :=
    ⟨⟨_, fd10, glo (by simp [fyG]), F10.kp, F10.bindsN (ps := ["seats"]) (fun _ _ _ _ _ _ us hl => match us, hl with | [_], _ => rfl), ok_hm F10 T⟩⟩
  have g_way_back : Cal R.prog w K mg base 1 "way_back" ["homes", "bringers", "item", "site"] (spWb K (He.ga K "Channel")) :=
    ⟨⟨_, fd11, glo (by simp [fyG]), F11.kp, F11.bindsN (ps := ["homes", "bringers", "item", "site"]) (fun _ _ _ _ _ _ us hl => match us, hl with | [_, _, _, _], _ => rfl), ok_wb F11 T⟩⟩
  have g_bringers_of : Cal R.prog w K mg base 2 "bringers_of" ["homes", "lines"] (spBr K (He.ga K "Channel")) :=
    ⟨⟨_, fd12, glo (by simp [fyG]), F12.kp, F12.bindsN (ps := ["homes", "lines"]) (fun _ _ _ _ _ _ us hl => match us, hl with | [_, _], _ => rfl), ok_br F12 T g_way_back xTwoWays gTwoWays xNotHeld gNotHeld⟩⟩
  have f_Ends : CFn R.prog w K mg base 1 "Ends" "__init__" ["self", "source", "target"] (spEnI K) :=
    ⟨⟨_, _, fd13, glo (by simp [fyG]), Fy.clf_ok (q (by simp [fy])), F13.bindsN (ps := ["self", "source", "target"]) (fun _ _ _ _ _ _ us hl => match us, hl with | [_, _, _], _ => rfl), ok_enI F13 ⟩⟩
  have f_Load : CFn R.prog w K mg base 1 "Load" "__init__" ["self", "items"] (spLoI K) :=
    ⟨⟨_, _, fd14, glo (by simp [fyG]), Fy.clf_ok (q (by simp [fy])), F14.bindsN (ps := ["self", "items"]) (fun _ _ _ _ _ _ us hl => match us, hl with | [_, _], _ => rfl), ok_loI F14 T.toBi T.list⟩⟩
  have g_Item : Mak R.prog w K mg base 1 "Item" (He.ga K "Item") ["self", "owner", "name", "seat"] (spItI K (He.ga K "Item")) :=
    ⟨glo (by simp [fyG]), _, fd15, He.mkr_ok (qf (by simp [fy])), F15.bindsN (ps := ["self", "owner", "name", "seat"]) (fun _ _ _ _ _ _ us hl => match us, hl with | [_, _, _, _], _ => rfl), ok_itI F15 ⟩
  have g_Channel : Mak R.prog w K mg base 4 "Channel" (He.ga K "Channel") ["self", "name", "source", "target", "items", "late"] (spChI K (He.ga K "BadKind")) :=
    ⟨glo (by simp [fyG]), _, fd16, He.mkr_ok (qf (by simp [fy])), F16.bindsN (ps := ["self", "name", "source", "target", "items", "late"]) (fun _ _ _ _ _ _ us hl => match us, hl with | [_, _, _, _, _, _], _ => rfl), ok_chI F16 g_check_kind f_Ends f_Load⟩
  obtain ⟨ds17, hv17, bd17⟩ := F17.binds1 (ps := ["self", "sites", "homes", "channels"]) 4 3 (by intro e; cases e) rfl (fun _ _ _ _ _ _ _ us its h1 h2 => match us, its, h1, h2 with | [_, _, _, _], [_, _, _], _, _ => ⟨_, rfl, rfl⟩)
  have bd17 : Binds K fd17 ["self", "sites", "homes", "channels"] [] := by cases hv17; exact bd17
  have g_Placement : Mak R.prog w K mg base 6 "Placement" (He.ga K "Placement") ["self", "sites", "homes", "channels"] (spPlI K (He.ga K "Placement") (He.ga K "Item") (He.ga K "Channel")) :=
    ⟨glo (by simp [fyG]), _, fd17, He.mkr_ok (qf (by simp [fy])), bd17, ok_plI F17 T g_checked_sites g_check_name g_check_known g_check_channel g_Item g_Channel g_homes_of g_bringers_of cItem nItem cChannel nChannel⟩
  have g_build : Cal R.prog w K mg base 8 "_law_build" ["_law_rows_here"] (spBu (He.ga K "Placement") (He.ga K "Item") (He.ga K "Channel")) :=
    ⟨⟨_, fd18, glo (by simp [fyG]), F18.kp, F18.bindsN (ps := ["_law_rows_here"]) (fun _ _ _ _ _ _ us hl => match us, hl with | [_], _ => rfl), ok_bu F18 T g_Placement cPlacement nPlacement⟩⟩
  have g_ascending : Cal R.prog w K mg base 2 "ascending" ["rows"] (spAsc K) :=
    ⟨⟨_, fd19, glo (by simp [fyG]), F19.kp, F19.bindsN (ps := ["rows"]) (fun _ _ _ _ _ _ us hl => match us, hl with | [_], _ => rfl), ok_asc F19 T.toBi⟩⟩
  have m_Channel_carried : Mth R.prog w K mg base 3 (He.ga K "Channel") "carried" ["self"] (spLoR K) :=
    ⟨He.cls_ok (qf (y := .cls "Channel") (by simp [fy])), _, fd20, He.meth_ok (qf (by simp [fy])), F20.bindsN (ps := ["self"]) (fun _ _ _ _ _ _ us hl => match us, hl with | [_], _ => rfl), ok_loR F20 g_ascending⟩
  have m_Placement_rows : Mth R.prog w K mg base 4 (He.ga K "Placement") "rows" ["self"] (spRw (He.ga K "Placement") (He.ga K "Item") (He.ga K "Channel")) :=
    ⟨He.cls_ok (qf (y := .cls "Placement") (by simp [fy])), _, fd21, He.meth_ok (qf (by simp [fy])), F21.bindsN (ps := ["self"]) (fun _ _ _ _ _ _ us hl => match us, hl with | [_], _ => rfl), ok_rw F21 T g_ascending m_Channel_carried cPlacement nPlacement cItem nItem cChannel nChannel⟩
  have g_sorted : Cal R.prog w K mg base 2 "_law_sorted" ["_law_rows_here"] (spSoG K) :=
    ⟨⟨_, fd22, glo (by simp [fyG]), F22.kp, F22.bindsN (ps := ["_law_rows_here"]) (fun _ _ _ _ _ _ us hl => match us, hl with | [_], _ => rfl), ok_soG F22 T.toBi⟩⟩
  have g_told : Cal R.prog w K mg base 3 "_law_told" ["_law_rows_here"] (spTd K) :=
    ⟨⟨_, fd23, glo (by simp [fyG]), F23.kp, F23.bindsN (ps := ["_law_rows_here"]) (fun _ _ _ _ _ _ us hl => match us, hl with | [_], _ => rfl), ok_td F23 T g_sorted⟩⟩
  have m_Placement_copies : Mth R.prog w K mg base 3 (He.ga K "Placement") "copies" ["self"] (spCps (He.ga K "Placement") (He.ga K "Item") (He.ga K "Channel")) :=
    ⟨He.cls_ok (qf (y := .cls "Placement") (by simp [fy])), _, fd24, He.meth_ok (qf (by simp [fy])), F24.bindsN (ps := ["self"]) (fun _ _ _ _ _ _ us hl => match us, hl with | [_], _ => rfl), ok_cps F24 T g_ascending cPlacement nPlacement⟩
  have m_Placement_passes : Mth R.prog w K mg base 1 (He.ga K "Placement") "passes" ["self", "item", "site", "other"] (spPs (He.ga K "Placement") (He.ga K "Item") (He.ga K "Channel")) :=
    ⟨He.cls_ok (qf (y := .cls "Placement") (by simp [fy])), _, fd25, He.meth_ok (qf (by simp [fy])), F25.bindsN (ps := ["self", "item", "site", "other"]) (fun _ _ _ _ _ _ us hl => match us, hl with | [_, _, _, _], _ => rfl), ok_ps F25 cPlacement nPlacement cChannel nChannel⟩
  have m_Placement_lose : Mth R.prog w K mg base 1 (He.ga K "Placement") "lose" ["self", "item", "site"] (spLo (He.ga K "Placement") (He.ga K "Item") (He.ga K "Channel")) :=
    ⟨He.cls_ok (qf (y := .cls "Placement") (by simp [fy])), _, fd26, He.meth_ok (qf (by simp [fy])), F26.bindsN (ps := ["self", "item", "site"]) (fun _ _ _ _ _ _ us hl => match us, hl with | [_, _, _], _ => rfl), ok_lo F26 T cPlacement nPlacement cChannel nChannel⟩
  have m_Placement_give_up : Mth R.prog w K mg base 4 (He.ga K "Placement") "give_up" ["self", "item", "site"] (spGu (He.ga K "Placement") (He.ga K "Item") (He.ga K "Channel") (He.ga K "Unknown") (He.ga K "NotHeld")) :=
    ⟨He.cls_ok (qf (y := .cls "Placement") (by simp [fy])), _, fd27, He.meth_ok (qf (by simp [fy])), F27.bindsN (ps := ["self", "item", "site"]) (fun _ _ _ _ _ _ us hl => match us, hl with | [_, _, _], _ => rfl), ok_gu F27 T g_check_known m_Placement_copies m_Placement_passes m_Placement_lose xNotHeld gNotHeld cPlacement nPlacement⟩
  have m_Placement_give_up_all : Mth R.prog w K mg base 4 (He.ga K "Placement") "give_up_all" ["self", "item"] (spGa (He.ga K "Placement") (He.ga K "Item") (He.ga K "Channel")) :=
    ⟨He.cls_ok (qf (y := .cls "Placement") (by simp [fy])), _, fd28, He.meth_ok (qf (by simp [fy])), F28.bindsN (ps := ["self", "item"]) (fun _ _ _ _ _ _ us hl => match us, hl with | [_, _], _ => rfl), ok_ga F28 m_Placement_copies m_Placement_lose⟩
  have m_Placement_holds : Mth R.prog w K mg base 1 (He.ga K "Placement") "holds" ["self", "item", "site"] (spHo (He.ga K "Placement") (He.ga K "Item") (He.ga K "Channel")) :=
    ⟨He.cls_ok (qf (y := .cls "Placement") (by simp [fy])), _, fd29, He.meth_ok (qf (by simp [fy])), F29.bindsN (ps := ["self", "item", "site"]) (fun _ _ _ _ _ _ us hl => match us, hl with | [_, _, _], _ => rfl), ok_ho F29 cPlacement nPlacement cItem nItem⟩
  have m_Placement_held : Mth R.prog w K mg base 3 (He.ga K "Placement") "held" ["self", "site"] (spHe (He.ga K "Placement") (He.ga K "Item") (He.ga K "Channel") (He.ga K "Unknown")) :=
    ⟨He.cls_ok (qf (y := .cls "Placement") (by simp [fy])), _, fd30, He.meth_ok (qf (by simp [fy])), F30.bindsN (ps := ["self", "site"]) (fun _ _ _ _ _ _ us hl => match us, hl with | [_, _], _ => rfl), ok_he F30 g_check_known g_ascending m_Placement_holds cPlacement nPlacement⟩
  have m_Placement_drop_site : Mth R.prog w K mg base 5 (He.ga K "Placement") "drop_site" ["self", "name"] (spDs (He.ga K "Placement") (He.ga K "Item") (He.ga K "Channel") (He.ga K "Unknown")) :=
    ⟨He.cls_ok (qf (y := .cls "Placement") (by simp [fy])), _, fd31, He.meth_ok (qf (by simp [fy])), F31.bindsN (ps := ["self", "name"]) (fun _ _ _ _ _ _ us hl => match us, hl with | [_, _], _ => rfl), ok_ds F31 g_check_known m_Placement_give_up_all m_Placement_held m_Placement_give_up cPlacement nPlacement cItem nItem⟩
  have m_Placement_add_site : Mth R.prog w K mg base 2 (He.ga K "Placement") "add_site" ["self", "name"] (spAs (He.ga K "Placement") (He.ga K "Item") (He.ga K "Channel") (He.ga K "BadName") (He.ga K "Taken")) :=
    ⟨He.cls_ok (qf (y := .cls "Placement") (by simp [fy])), _, fd32, He.meth_ok (qf (by simp [fy])), F32.bindsN (ps := ["self", "name"]) (fun _ _ _ _ _ _ us hl => match us, hl with | [_, _], _ => rfl), ok_as F32 g_check_name cPlacement nPlacement⟩
  have g_after : Cal R.prog w K mg base 1 "_law_after" ["_law_rows_here", "_law_site"] (spAf K) :=
    ⟨⟨_, fd33, glo (by simp [fyG]), F33.kp, F33.bindsN (ps := ["_law_rows_here", "_law_site"]) (fun _ _ _ _ _ _ us hl => match us, hl with | [_, _], _ => rfl), ok_af F33 ⟩⟩
  have g_dropped : Cal R.prog w K mg base 6 "_law_dropped" ["_law_placement", "_law_site"] (spDr (He.ga K "Placement") (He.ga K "Item") (He.ga K "Channel")) :=
    ⟨⟨_, fd34, glo (by simp [fyG]), F34.kp, F34.bindsN (ps := ["_law_placement", "_law_site"]) (fun _ _ _ _ _ _ us hl => match us, hl with | [_, _], _ => rfl), ok_dr F34 T m_Placement_drop_site xUnknown gUnknown⟩⟩
  exact ok_law F35 T g_draws g_take g_rows g_build g_dropped g_told g_after m_Placement_rows m_Placement_add_site m_Placement_held
end M
open PySem PySem.W PySem.Calls PyProof.Rows
set_option maxRecDepth 100000 in
set_option maxHeartbeats 0 in
theorem PySem.Challenge.cw_latebridges_k19_dropping_a_site_holds : PySem.Challenge.rw_latebridges_k19_dropping_a_site.Holds := by
  w_on; o_law
  refine HandSHeadRun.head_any (r := OpenLaw.row PySem.Challenge.rw_latebridges_k19_dropping_a_site) (q := view (OpenLaw.row PySem.Challenge.rw_latebridges_k19_dropping_a_site).prog [44]) (H := M.hk) (ob := M.ob) (M := 6000) (loose := M.loose) (d := HandSHeadRun.topDef (OpenLaw.row PySem.Challenge.rw_latebridges_k19_dropping_a_site).prog 44) (kwd := []) M.ob_eq
    (by kernel_rfl) (fun s => by kernel_rfl) M.run (by kernel_rfl) (by kernel_rfl) (by kernel_rfl) (by rfl) (by first | assumption | decide +kernel) (by decide +kernel) ⟨rfl, rfl, rfl, rfl, rfl, by decide +kernel⟩ ?hw ?hc
  case hw => w_witness2
  case hc =>
    refine L2.walk_ofE (l := PySem.Challenge.rw_latebridges_k19_dropping_a_site) (n := 63) (k := 9) (x := "_law_script") (CX := L2.CX0) rfl (by decide) (by kernel_rfl) ⟨rfl, by decide, by decide⟩ ?F (fun _ _ _ _ z => z)
    intro w mg fa h Y G hmg0
    obtain ⟨K, KX, c⟩ := Y
    have hmg : mg ("law" : PySem.Str) = some (.ref fa) := by
      have e : (HandSHeadRun.topDef (OpenLaw.row PySem.Challenge.rw_latebridges_k19_dropping_a_site).prog 44).name = ("law" : PySem.Str) := by kernel_rfl
      rw [← e]
      exact hmg0
    obtain ⟨fd, hb, hF⟩ := M.facts (w := w) KX G hmg c
    exact ⟨K, fd, M.spLaw K, KX, hb, fun H a ns hl _ hS => ⟨a, ns, rfl, hS, hl, fun _ => rfl⟩, fun base hB hG => M.calm_of (hF base hB hG) fun _ _ _ _ z => z⟩
