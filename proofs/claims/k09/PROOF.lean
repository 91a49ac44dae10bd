import PyProof.Rows.All
import Wide.All
import OpenK.AllK
import Wide.FinOn
import KE.KStateDown
import KE.KExcSuper
import HandS.ForMost
import HandS.Exc
import HandS.WordsExc
import HandS.TryOnly
import HandS.ExcOwn
import HandS.Defaults
import HandS.ExcInit
import HandS.ClsMeth
import HandS.Head0
import HandS.Head1
import HandS.Head2
import HandS.HeadEnd
import HandS.HeadHook1
import HandS.HeadHook2
import HandS.Property
import HandS.More
import HandS.IsInst
import HandS.RaiseMore
import HandS.Comp
import KE.LtData
import HandS.ExcValue
import KE.KExcIs
import HandS.Walk
import HandS.Deep
import HandS.Conv
import HandS.DictComp
import HandS.SetFor
import PySem.Challenge.RW_latebridges_k09_programs_that_read_the_l
set_option Elab.async false
set_option linter.all false
set_option maxRecDepth 100000
set_option maxHeartbeats 4000000

namespace PySem
namespace XEx
open PySem.W PySem.Calls PyProof.Rows PySem.HandSPX
/-- the stores behind super().__init__(..): self.f = f -/
inductive Stores : List Str → List Stmt → Prop where
  | nil : Stores [] []
  | cons {f : Str} {fs : List Str} {st : List Stmt} {q1 q2 q3 q4 : Pos} (r : Stores fs st) : Stores (f :: fs) (.Assign [.Attribute (.Name "self" q1) f q2] (.Name f q3) q4 :: st)
/-- the exception's own dict: d holds the pairs ps (the last stored first) -/
def DictIs (h : Heap) (lo e : Addr) (d : Option Addr) (ps : List (Str × Value)) : Prop :=
  match d with
  | none => ps = []
  | some dx => lo ≤ dx ∧ dx ≠ e ∧ ps ≠ [] ∧ h.Ns1 dx (fun y => ps.lookup y)
section
variable {prog : Program} {w : World} {M : Model} {A : Around} {E : Value → Shared → Prop} {R : Result → Shared → Prop} {s : Shared} {K : Frag}
theorem ldL {env : Env} {m : Str → Option Value} {x : Str} {pos : Pos} {v : Value} {Q : Value → Shared → Prop} (hn : s.heap.Ns env.locals m) (hv : m x = some v) (h : Q v s)
    (hk : env.scope.kind = .function) (hl : env.kindOf x = some .local) (hd : (x == ("__debug__" : Str)) = false) : wpAny M A (eval (.Name x pos) env) Q E s := wpAny_Name (wpAny_loadName_local hk hl hn hv h) hd
theorem lookup_cons (f y : Str) (v : Value) (ps : List (Str × Value)) : ((f, v) :: ps).lookup y = if y = f then some v else ps.lookup y := by
  by_cases h : y = f
  · subst h
    simp [List.lookup]
  · have e : (y == f) = false := by simpa using h
    rw [if_neg h]
    simp [List.lookup, e]
/-- all stores, one after the other -/
theorem stores_run {env : Env} {C x lo : Addr} {cd : ClassData} {m : Str → Option Value} (hk : env.scope.kind = .function) (hcd : W.clsIn K C = some cd) (hm : refsVE cd.mro = true) (hh : cd.hasDict = true) (sa : findIn K (.ref C) "__setattr__" = some (some (.builtin "object.__setattr__")))
    (hself : m "self" = some (.ref x)) (kself : env.kindOf "self" = some .local) (hlo : lo ≤ env.locals) (hxL : x ≠ env.locals) (hKx : K.lookup x = none) :
    ∀ {fs : List Str} {st : List Stmt} {vs : List Value} {ps : List (Str × Value)} {d : Option Addr} {s : Shared} {t1 : Addr} {Q : Flow → Shared → Prop}, Stores fs st → fs.length = vs.length → ps.length + fs.length ≤ 1000 →
      (∀ f ∈ fs, env.kindOf f = some .local ∧ (f == ("__debug__" : Str)) = false ∧ findIn K (.ref C) f = some none) → (∀ p ∈ fs.zip vs, m p.1 = some p.2) →
      K.In s.heap → s.heap.Ns env.locals m → s.heap.get? x = some { cls := .ref C, dict := d, data := .fields #[.ref t1, .none, .none, .none, .bool false, .none] } → DictIs s.heap lo x d ps → (∀ dx, d = some dx → K.lookup dx = none ∧ dx ≠ env.locals) →
      (∀ h' tk d', (∀ b o, b ≠ x → (∀ dx, d = some dx → b ≠ dx) → s.heap.get? b = some o → h'.get? b = some o) →
        h'.get? x = some { cls := .ref C, dict := d', data := .fields #[.ref t1, .none, .none, .none, .bool false, .none] } → DictIs h' lo x d' ((fs.zip vs).reverse ++ ps) → Q .next { s with heap := h', toks := tk }) →
      wpAny (model prog w) A (execs st env) Q E s := by
  intro fs
  induction fs with
  | nil =>
    intro st vs ps d s t1 Q S hl hz hf hv X hn hx hd hdx hq
    cases S
    refine wpAny_execs_nil ?_
    have z := hq s.heap s.toks d (fun b o _ _ q => q) hx hd
    exact z
  | cons f fs ih =>
    intro st vs ps d s t1 Q S hl hz hf hv X hn hx hd hdx hq
    cases S with
    | cons r =>
    cases vs with
    | nil => cases hl
    | cons v vs =>
      obtain ⟨kf, df, nf⟩ := hf f List.mem_cons_self
      have mf : m f = some v := hv (f, v) (by simp)
      refine wpAny_execs_cons (plainObj_wpAny_Assign_Attribute ?_)
      refine ldL hn mf (ldL hn hself ?_ hk kself (by decide)) hk kf df
      cases d with
      | none =>
        have hps : ps = [] := hd
        subst hps
        refine set_plain X (ox := { cls := .ref C, dict := none, data := .fields #[.ref t1, .none, .none, .none, .bool false, .none] }) (od := none) ⟨hx, rfl, rfl, trivial⟩ sa ?_
        obtain ⟨hp, g, dr, t, os⟩ := s
        refine exc_osa X hx hcd hm hh nf (fun h' tk' dx k dn dne hx' hn' => ?_)
        have keep : ∀ b o, b ≠ x → hp.get? b = some o → h'.get? b = some o := k
        refine ih (ps := [(f, v)]) (d := some dx) (s := ⟨h', g, dr, tk', os⟩) r (Nat.succ.inj hl) (by simp only [List.length_cons, List.length_nil] at hz ⊢; omega) (fun y hy => hf y (List.mem_cons_of_mem _ hy)) (fun p hp => hv p (by simp [hp])) (fun b o e => ?_) ?_ hx' ?_ (fun dy e => ?_) (fun h2 tk d' k2 hx2 hd2 => ?_)
        · refine keep b o (fun z => ?_) (X b o e)
          rw [z, hKx] at e
          cases e
        · obtain ⟨oL, es, ep, hL, rest⟩ := hn
          exact ⟨oL, es, ep, keep _ _ (Ne.symm hxL) hL, rest⟩
        · refine ⟨Nat.le_trans hlo (Nat.le_trans (Nat.le_of_lt hn.lt) dn), dne, by simp, ?_⟩
          have e : (fun y => ([(f, v)] : List (Str × Value)).lookup y) = (fun y => if y = f then some v else none) := by
            funext y
            rw [lookup_cons]
            rfl
          rw [e]
          exact hn'
        · cases e
          refine ⟨?_, ?_⟩
          · cases q : K.lookup dx with
            | none => rfl
            | some o => exact absurd (Nat.lt_of_lt_of_le (Heap.lt_size (X _ _ q)) dn) (Nat.lt_irrefl _)
          · intro z
            have h1 : env.locals < hp.objs.size := hn.lt
            rw [← z] at h1
            exact absurd (Nat.lt_of_lt_of_le h1 dn) (Nat.lt_irrefl _)
        · refine hq h2 tk d' (fun b o hb _ q => k2 b o hb (fun dy e => ?_) (keep b o hb q)) hx2 ?_
          · cases e
            exact Nat.ne_of_lt (Nat.lt_of_lt_of_le (Heap.lt_size q) dn)
          · have e : ((f :: fs).zip (v :: vs)).reverse ++ ([] : List (Str × Value)) = (fs.zip vs).reverse ++ [(f, v)] := by simp
            rw [e]
            exact hd2
      | some dx =>
        obtain ⟨dlo, dne, hne, hns⟩ := hd
        obtain ⟨hp, g, dr, t, os⟩ := s
        obtain ⟨oD, esD, epD, hoD, _⟩ := id hns
        refine set_plain X (ox := { cls := .ref C, dict := some dx, data := .fields #[.ref t1, .none, .none, .none, .bool false, .none] }) (od := some oD) ⟨hx, rfl, rfl, hoD⟩ sa ?_
        have hw : Within (fun y => ps.lookup y) (ps.map (·.1)) := fun y hy => by
          cases q : ps.lookup y with
          | none => exact absurd q hy
          | some u =>
            have : ∀ (l : List (Str × Value)), l.lookup y = some u → y ∈ l.map (·.1) := by
              intro l
              induction l with
              | nil => intro h; cases h
              | cons p l ih =>
                intro h
                obtain ⟨g, z⟩ := p
                rw [lookup_cons] at h
                by_cases e : y = g
                · rw [e]; exact List.mem_cons_self ..
                · rw [if_neg e] at h; exact List.mem_cons_of_mem _ (ih h)
            exact this ps q
        refine PySem.OEX.osa_old X hx hns hw (by rw [List.length_map]; omega) hcd hm hh nf (fun h' tk' k hn' => ?_)
        have hx' : h'.get? x = some { cls := .ref C, dict := some dx, data := .fields #[.ref t1, .none, .none, .none, .bool false, .none] } := k _ _ (Ne.symm dne) hx
        obtain ⟨kd1, kd2⟩ := hdx dx rfl
        refine ih (ps := (f, v) :: ps) (d := some dx) (s := ⟨h', g, dr, tk', os⟩) r (Nat.succ.inj hl) (by simp only [List.length_cons] at hz ⊢; omega) (fun y hy => hf y (List.mem_cons_of_mem _ hy)) (fun p hp => hv p (by simp [hp])) (fun b o e => ?_) ?_ hx' ?_ (fun dy e => ?_) (fun h2 tk d' k2 hx2 hd2 => ?_)
        · refine k b o (fun z => ?_) (X b o e)
          rw [z, kd1] at e
          cases e
        · obtain ⟨oL, es, ep, hL, rest⟩ := hn
          exact ⟨oL, es, ep, k _ _ (Ne.symm kd2) hL, rest⟩
        · refine ⟨dlo, dne, by simp, ?_⟩
          have e : (fun y => ((f, v) :: ps).lookup y) = (fun y => if y = f then some v else ps.lookup y) := by
            funext y
            rw [lookup_cons]
          rw [e]
          exact hn'
        · cases e
          exact ⟨kd1, kd2⟩
        · refine hq h2 tk d' (fun b o hb hbd q => k2 b o hb (fun dy e => ?_) (k b o (hbd dx rfl) q)) hx2 ?_
          · cases e
            exact hbd dx rfl
          · have e : ((f :: fs).zip (v :: vs)).reverse ++ ps = (fs.zip vs).reverse ++ (f, v) :: ps := by simp
            rw [e]
            exact hd2

/-- the bound ValueError.__init__ called: the args are laid anew -/
theorem call_bwV {h : Heap} {g : Array GenState} {d : Drawn} {t : Nat} {os : OsState} {nm q : Str} {C N : Addr} {bs bm : List Value} {hdct : Bool} {sn : List Str} {sub : List Value} {ab : Bool} {col : Option Bool} {dd : Option Addr} {k0 k1 k2 k3 k5 : Option Value}
    {u e t0 : Addr} {rest : List Value} {Q : Value → Shared → Prop}
    (hC : h.get? C = some (excClassObj nm q C N bs bm hdct sn sub ab col dd k0 k1 k2 k3 k5 "ValueError.__new__")) (he : h.get? e = some (excO C t0)) (hu : h.get? u = some (kxs_mw "ValueError.__init__" e)) (hrest : rest.length ≤ sizeLine)
    (hq : ∀ h' t1, (∀ b o, b ≠ e → h.get? b = some o → h'.get? b = some o) → h'.get? e = some (excO C t1) → Q .none ⟨h', g, d, t, os⟩) :
    wpAny (model prog w) A (call (.ref u) rest) Q E ⟨h, g, d, t, os⟩ := by
  refine wpAny_call (codeAny_of_tree ?_)
  show wpAny _ A.in1 (callAny (.ref u) ⟨rest, []⟩) _ _ _
  simp only [callAny]
  refine wpAny_bind (wpAny_load hu ?_)
  simp only [kxs_mw, show (Value.type "method-wrapper" == Value.type "method" || Value.type "method-wrapper" == Value.type "builtin_function_or_method" || Value.type "method-wrapper" == Value.type "method-wrapper") = true by decide, if_true]
  refine W.KFB.if_so (by decide) ?_
  refine wpAny_bind (check_bound_init F.excBase_ValueError.toExcCallFacts hC he rfl ?_)
  refine wpAny_bind (wpAny_pure (wpAny_pure ?_))
  refine ⟨Code.quiet_builtin _ (by decide +kernel), codeAny_builtin F.excBase_ValueError.initEntry ?_⟩
  rw [Around.under_plainId F.excBase_ValueError.init.plain _]
  wp_walk
  refine hq _ h.objs.size (fun b o hb ho => ?_) ?_
  · rw [Heap.get?_update_other _ _ (Ne.symm hb)]
    exact Heap.get?_push_of_some _ ho
  · rw [Heap.get?_update_self _ (Heap.get?_push_of_some _ he) rfl]
    rfl

theorem lookup_rev {k : Str} {v : Value} : ∀ {l : List (Str × Value)}, (l.map (·.1)).Nodup → (k, v) ∈ l → l.reverse.lookup k = some v := by
  intro l
  have key : ∀ (l : List (Str × Value)), (l.map (·.1)).Nodup → (k, v) ∈ l → l.lookup k = some v := by
    intro l
    induction l with
    | nil => intro _ h; cases h
    | cons p l ih =>
      intro nd h
      obtain ⟨f, u⟩ := p
      rw [lookup_cons]
      rw [List.map_cons, List.nodup_cons] at nd
      rcases List.mem_cons.mp h with e | h
      · cases e
        rw [if_pos rfl]
      · have ne : k ≠ f := fun e => nd.1 (by
          rw [← e]
          exact List.mem_map_of_mem (f := (·.1)) h)
        rw [if_neg ne]
        exact ih nd.2 h
  intro nd h
  refine key l.reverse ?_ (List.mem_reverse.mpr h)
  rw [List.map_reverse]
  exact List.pairwise_reverse.mpr (nd.imp fun {a b} h => Ne.symm h)
def superPl (o : Expr) (env : Env) : Sem Bool := do return (← importBound o env).getD true
theorem he_super {o : Expr} {name : Str} {p2 p3 p4 : Pos} {x : Const} {j : Nat} {env : Env} (hline : (p2.endLine == p4.line) = true) :
    eval (.Call (.Attribute o name p2) [.Constant x j p3] [] p4) env = (do
      let ov ← attributeBase o name env (eval o env)
      standAt p2.atName
      let (f, first) ← holding [ov] (getMethod ov name (superPl o env))
      callWith p4 f first (backTo p4 (starEach [.Constant x j p3] env)) []) := by
  rw [arm_eval_Call]
  have hform : methodCallForm ([Expr.Constant x j p3].length + ([] : List Keyword).length) (backTo p4 (starEach [.Constant x j p3] env)) (backToKw p4 (keywordEach [] env)) = true := rfl
  have hpos : methodCallPos true o env p2 p4 = pure p4 := by unfold methodCallPos; simp [hline]
  unfold methodCall
  rw [hform, hpos]
  simp only [pure_bind]
  rfl
/-- what the text says of such an __init__ -/
structure IText (fs : List Str) (params : Arguments) (body : List Stmt) (scope : Scope) : Prop where
  bd : ∃ (p0 p1 p2 p3 p4 p5 : Pos) (j : Nat) (txt : Str) (stores : List Stmt), body = .Expr (.Call (.Attribute (.Call (.Name "super" p0) [] [] p1) "__init__" p2) [.Constant (.str txt) j p3] [] p4) p5 :: stores ∧ Stores fs stores ∧ (p2.endLine == p4.line) = true
  hks : scope.names.lookup ("super" : Str) = some .globalImplicit
  hkc : scope.names.lookup ("__class__" : Str) = some .free
  hself : scope.names.lookup ("self" : Str) = some .local
  hf : ∀ f ∈ fs, scope.names.lookup f = some .local ∧ (f == ("__debug__" : Str)) = false
  hcell : ∀ x ∈ scope.names, x.2 ≠ .cell
  hco : scope.isCoroutine = false
  hgen : scope.isGenerator = false
  hk : scope.kind = .function
  hp : ∃ ar, (params.posonlyargs ++ params.args).head? = some ar ∧ ar.arg = ("self" : Str)
  bind : ∀ (name qual : Str) (cl : List (Str × Addr)) (kV doc pm : Value) (an : Option Addr) (cdv ct : Value) (us : List Value), us.length = fs.length + 1 → bindArgs (fnX name qual params body scope cl .none kV doc pm an cdv ct) ⟨us, []⟩ = pure ((("self" : Str) :: fs).zip us)
  nd : (("self" : Str) :: fs).Nodup
  len : fs.length ≤ 100
/-- what the written part says of the class at C -/
structure XCls (P : Program) (K : Frag) (C : Addr) (fs : List Str) (params : Arguments) (body : List Stmt) (scope : Scope) : Prop where
  cls : ∃ nm q N bs bm sn sub ab col dd k0 k1 k2 k3 k5, K.lookup C = some (excClassObj nm q C N bs bm true sn sub ab col dd k0 k1 k2 k3 k5 "ValueError.__new__") ∧ refsVE bm = true
  sa : findIn K (.ref C) "__setattr__" = some (some (.builtin "object.__setattr__"))
  ga : findIn K (.ref C) "__getattribute__" = some (some (.builtin "BaseException.__getattribute__"))
  gg : findIn K (.ref C) "__getattr__" = some none
  noF : ∀ f ∈ fs, findIn K (.ref C) f = some none
  kC : keepIn K (.ref C) = true
  exC : subIn K (.ref C) (.type "BaseException") = some true
  veC : subIn K (.ref C) (.type "ValueError") = some true
  tyC : typeIn K (.ref C) = some (.type "type")
  hdC : hasDictIn K C = true
  te : exmOne K (.ref C) (.ref C) = some true
  op : nsIn K cStatics "thirdparty.any" = some none
  sup : nsIn K mainGlobals "super" = some none
  sI : ks_superIn K C C "__init__" = some (some (.builtin "ValueError.__init__"))
  mC : mroIn K C (.ref C) = some true
  top : (P.main.scope.names.lookup ("super" : Str)).isSome = false
  fn : ∃ (fI : Addr) (name qual : Str) (oc : Value) (od : Option Addr) (kV doc pm : Value) (an : Option Addr) (cda cc : Addr) (ct ccl cl : Value) (cdd cld : Option Addr) (vs : Array Value) (file : Str) (tf : Tok) (osl ccs csl : Array (Option Value)),
    findIn K (.ref C) "__init__" = some (some (.ref fI)) ∧ typeIn K (.ref fI) = some (.type "function") ∧
    K.lookup fI = some ⟨oc, od, .func (fnX name qual params body scope [(("__class__" : Str), cc)] .none kV doc pm an (.ref cda) ct), osl⟩ ∧ codeIn K (.ref cda) qual = true ∧
    K.lookup cda = some ⟨ccl, cdd, .fields vs, ccs⟩ ∧ vs[2]? = some (.str file tf) ∧ ((P.main.file : Str) == file) = true ∧ K.lookup cc = some ⟨cl, cld, .cell (some (.ref C)), csl⟩
/-- a made exception -/
structure Made (h h' : Heap) (e C : Addr) (d : Option Addr) (ps : List (Str × Value)) : Prop where
  keep : ∀ b o, h.get? b = some o → h'.get? b = some o
  new : h.objs.size ≤ e
  obj : ∃ oe vs, h'.get? e = some oe ∧ oe.cls = .ref C ∧ oe.dict = d ∧ oe.data = .fields vs ∧ vs[1]? = some .none
  dct : DictIs h' h.objs.size e d ps
theorem zip_keys : ∀ {fs : List Str} {us : List Value}, fs.length = us.length → (fs.zip us).map (·.1) = fs
  | [], [], _ => rfl
  | f :: fs, u :: us, h => by
    rw [List.zip_cons_cons, List.map_cons, zip_keys (Nat.succ.inj h)]
  | [], _ :: _, h => by cases h
  | _ :: _, [], h => by cases h
theorem zip_fst_mem {p : Str × Value} : ∀ {fs : List Str} {us : List Value}, p ∈ fs.zip us → p.1 ∈ fs
  | [], _, h => by simp at h
  | _ :: _, [], h => by simp at h
  | f :: fs, u :: us, h => by
    rw [List.zip_cons_cons] at h
    rcases List.mem_cons.mp h with e | h
    · rw [e]; exact List.mem_cons_self ..
    · exact List.mem_cons_of_mem _ (zip_fst_mem h)
theorem exc_made {prog : Program} {w : World} {A : Around} {R : Result → Shared → Prop} {s : Shared} {K : Frag} {C : Addr} {fs : List Str} {params : Arguments} {body : List Stmt} {scope : Scope} {mg mb : Str → Option Value}
    (T : XCls prog K C fs params body scope) (I : IText fs params body scope) {us : List Value} (X : K.In s.heap) (hlim : s.heap.NoLimit) (G : s.heap.Ns mainGlobals mg) (B : s.heap.Ns builtinsNs mb) (hmb : mb "super" = bootBuiltins "super")
    (hroom : A.depth + 1 < recursionLimit) (hl : fs.length = us.length)
    (hq : ∀ h' tk e d, Made s.heap h' e C d (fs.zip us).reverse → R (.ok (.ret (.ref e))) { s with heap := h', toks := tk }) :
    codeAny (model prog w) A (.call (.ref C) ⟨us, []⟩) R s := by
  obtain ⟨nm, q, N, bs, bm, sn, sub, ab, col, dd, k0, k1, k2, k3, k5, hC, hbm⟩ := T.cls
  obtain ⟨fI, name, qual, oc, od, kV, doc, pm, an, cda, cc, ct, ccl, cl, cdd, cld, cvs, file, tf, osl, ccs, csl, iC, tI, ho, hcd, hcda, hfile0, hfile, hcc⟩ := T.fn
  obtain ⟨ar, har, harg⟩ := I.hp
  have hcl : clsIn K C = some { name := nm, bases := bs, mro := .ref C :: bm, ns := N, qualname := q, hasDict := true, slotNames := sn, subclasses := sub, abstract := ab, collection := col, hasDel := false } := by unfold clsIn; rw [hC] <;> rfl
  obtain ⟨hp, g, dr, tk, os⟩ := s
  have k : ∀ b o, hp.get? b = some o → ((hp.push (kdv_tup us)).push (excO C hp.objs.size)).get? b = some o := fun b o e => Heap.get?_push_of_some _ (Heap.get?_push_of_some _ e)
  have hget : ((hp.push (kdv_tup us)).push (excO C hp.objs.size)).get? (hp.objs.size + 1) = some (excO C hp.objs.size) := by heap_get
  have hnx : K.lookup (hp.objs.size + 1) = none := by
    cases e : K.lookup (hp.objs.size + 1) with
    | none => rfl
    | some o =>
      have z : hp.get? (hp.objs.size + 1) = some o := X _ _ e
      exact absurd (Nat.lt_of_succ_lt (Heap.lt_size z)) (Nat.lt_irrefl _)
  have hsz : us.length ≤ sizeLine := by
    rw [← hl, sizeLine_eq]
    exact Nat.le_trans I.len (by decide)
  refine call_own F.excBase_ValueError (fun X => refsVE_contains X bm hbm) (X _ _ hC) (looks_findIn X iC) (fun self => bind_fn X self tI) hsz ?_
  -- the own __init__
  generalize hx0 : hp.objs.size + 1 = x at *
  generalize hh0 : (hp.push (kdv_tup us)).push (excO C hp.objs.size) = h0 at *
  have X0 : K.In h0 := X.keeps k
  have hsize0 : h0.objs.size = hp.objs.size + 2 := by
    rw [← hh0, Heap.size_push, Heap.size_push]
  refine ks_codeAny_call_defAt (s := ⟨h0, g, dr, tk, os⟩) (fd := fnX name qual params body scope [(("__class__" : Str), cc)] .none kV doc pm an (.ref cda) ct) (body := body) (binds := (("self" : Str), .ref x) :: fs.zip us) hroom (X0 _ _ ho) rfl (hlim.keeps k) (codeRec_of X0 hcd) rfl
    (BindsTo.of_eq (I.bind name qual _ kV doc pm an _ ct (.ref x :: us) (by rw [List.length_cons, hl]))) I.hcell (fun y hy => ?_) (fun h₁ hns hk₁ => ?_) I.hco I.hgen I.hk
  · rcases List.mem_cons.mp hy with e | hy
    · rw [e]; exact I.hself
    · exact (I.hf _ (zip_fst_mem hy)).1
  have X1 : K.In h₁ := X0.keeps hk₁
  have kk : ∀ b o, hp.get? b = some o → h₁.get? b = some o := fun b o e => hk₁ b o (k b o e)
  have hx1 : h₁.get? x = some (excO C hp.objs.size) := hk₁ _ _ hget
  have hxL : x ≠ h0.objs.size := by
    rw [hsize0, ← hx0]
    exact Nat.ne_of_lt (Nat.lt_succ_self _)
  have hnd : ((((("self" : Str), Value.ref x) :: fs.zip us)).map (·.1)).Nodup := by
    rw [List.map_cons, zip_keys hl]
    exact I.nd
  have mself : (((("self" : Str), Value.ref x) :: fs.zip us)).reverse.lookup ("self" : Str) = some (Value.ref x) := lookup_rev hnd List.mem_cons_self
  obtain ⟨p0, p1, p2, p3, p4, p5, j, txt, stores, hb, hst, hline⟩ := I.bd
  rw [hb]
  have hD1 : h₁.get? C = some (excClassObj nm q C N bs bm true sn sub ab col dd k0 k1 k2 k3 k5 "ValueError.__new__") := X1 _ _ hC
  have hxC : x ≠ C := fun z => by rw [z, hC] at hnx; cases hnx
  -- super().__init__("..")
  refine ks_wpAt_execs_cons (ks_wpAt_Expr_any (ks_wpAt_MethodCall (pl := superPl _ _) ?_ (he_super hline)) (by show (scope.kind == _ && _) = false; rw [I.hk]; rfl) (by rfl))
  refine ks_wpAt_super_base I.hks I.hkc rfl rfl (X1 _ _ ho) rfl har rfl (X1 _ _ hcda) rfl hfile0 hfile T.top ?_
  refine ks_loadName_global I.hk I.hks (loadGlobal_builtin (G.keeps kk) (mg_none_of X G T.sup) (B.keeps kk) (hmb.trans (by decide +kernel : bootBuiltins "super" = some (.type "super"))) ⟨rfl, ?_⟩)
  refine wpAny_loadName_free I.hk I.hkc rfl ⟨_, X1 _ _ hcc, rfl⟩ ?_
  rw [harg]
  refine wpAny_loadName_local I.hk I.hself hns mself ?_
  refine ks_wpAny_isType_cls hD1 rfl ⟨rfl, ?_⟩
  refine ks_wpAny_call_super hD1 rfl hx1 rfl (fun c e => by cases e) (looks_mroIn X1 T.mC) (fun h2 e2 k2 => ?_)
  have X2 : K.In h2 := X1.keeps k2
  have hx2 : h2.get? x = some (excO C hp.objs.size) := k2 _ _ hx1
  have I2 : InstAt h2 x (excO C hp.objs.size) C none := ⟨hx2, rfl, rfl, trivial⟩
  have hsI : alongIn K "__init__" (((Value.ref C :: bm).dropWhile (· != .ref C)).drop 1) = some (some (.builtin "ValueError.__init__")) := by
    have z := T.sI
    unfold ks_superIn at z
    rw [hcl] at z
    exact z
  refine kxs_getMethod kxs_ValueError e2 (looks_opaque X2 T.op) (l₀ := .ref C :: bm) (fun A Q E s k q => wpAny_bind ((looks_clsIn X2 hcl) A _ E s k (wpAny_pure q))) rfl X2 hsI (I2.type.andThen (looks_subIn X2 T.veC)) hxC rfl ?_
  have e3 : (h2.push (kxs_mw "ValueError.__init__" x)).get? h2.objs.size = some (kxs_mw "ValueError.__init__" x) := Heap.get?_push_at rfl rfl
  have k3 : ∀ b o, h2.get? b = some o → (h2.push (kxs_mw "ValueError.__init__" x)).get? b = some o := fun b o e => Heap.get?_push_of_some _ e
  refine kxs_callWith (i := "ValueError.__init__") (x := x) rfl (evalArgs_plain (spliced_more (wpAny_Constant_str (spliced_none ⟨e3, ?_⟩))))
  refine call_bwV (k3 _ _ (X2 _ _ hC)) (k3 _ _ hx2) e3 (by rw [sizeLine_eq]; exact Nat.le_trans (Nat.le_refl 1) (by decide)) (fun h4 t1 k4 hx4 => ?_)
  -- the stores
  have old1 : ∀ b o, h₁.get? b = some o → b ≠ x → h4.get? b = some o := fun b o e ne => k4 b o ne (k3 _ _ (k2 _ _ e))
  have xlt : hp.objs.size ≤ x := by rw [← hx0]; exact Nat.le_succ _
  have hne : ∀ {b : Addr} {o : Obj}, hp.get? b = some o → b ≠ x := fun {b o} e => Nat.ne_of_lt (Nat.lt_of_lt_of_le (Heap.lt_size e) xlt)
  have X4 : K.In h4 := fun b o e => old1 b o (kk b o (X b o e)) (hne (X b o e))
  have hns4 : h4.Ns h0.objs.size (fun y => ((("self" : Str), Value.ref x) :: fs.zip us).reverse.lookup y) := by
    obtain ⟨oL, es, ep, hL, rest⟩ := hns
    exact ⟨oL, es, ep, old1 _ _ hL (Ne.symm hxL), rest⟩
  refine wpAt_of_wpAny ?_
  refine stores_run (env := callEnv (fnX name qual params _ scope [(("__class__" : Str), cc)] .none kV doc pm an (.ref cda) ct) h0.objs.size fI) (m := fun y => ((("self" : Str), Value.ref x) :: fs.zip us).reverse.lookup y) (K := K) (C := C) (x := x) (lo := hp.objs.size) (d := none) (ps := []) (s := ⟨h4, g, dr, _, os⟩) (vs := us) I.hk hcl (show refsVE (.ref C :: bm) = true from hbm) rfl T.sa mself I.hself (by show hp.objs.size ≤ h0.objs.size; rw [hsize0]; exact Nat.le_add_right _ _) hxL hnx hst hl (by
      show 0 + fs.length ≤ 1000
      have := I.len
      omega) (fun f hf => ⟨(I.hf f hf).1, (I.hf f hf).2, T.noF f hf⟩) (fun p hp' => lookup_rev hnd (List.mem_cons_of_mem _ hp')) X4 hns4 hx4 rfl (fun dx e => by cases e) (fun h' tk' d' k5' hx5 hd5 => ?_)
  have keep : ∀ b o, hp.get? b = some o → h'.get? b = some o := fun b o e => k5' b o (hne e) (fun dx z => by cases z) (old1 b o (kk b o e) (hne e))
  rw [List.append_nil] at hd5
  exact ⟨rfl, hq h' tk' x d' ⟨keep, xlt, ⟨_, _, hx5, rfl, rfl, rfl, rfl⟩, hd5⟩⟩
end
end XEx
end PySem

namespace L2
open PySem PySem.Spec PyProof.Rows PySem.XEx
theorem relO_rev {vs : List V} {us : List Value} : ∀ {fs : List Str}, Vals vs us → ∀ f, RelO ((fs.zip vs).reverse.lookup f) ((fs.zip us).reverse.lookup f) := by
  have key : ∀ {l1 : List (Str × V)} {l2 : List (Str × Value)}, Paired (fun (p : Str × V) (q : Str × Value) => p.1 = q.1 ∧ RelV p.2 q.2) l1 l2 → ∀ f, RelO (l1.lookup f) (l2.lookup f) := by
    intro l1 l2 h
    induction h with
    | nil => intro f; trivial
    | @cons p q l1 l2 r _ ih =>
      intro f
      obtain ⟨g, v⟩ := p
      obtain ⟨g', u⟩ := q
      obtain ⟨e, rv⟩ := r
      have e' : g = g' := e
      subst e'
      rw [lookup_put, XEx.lookup_cons]
      by_cases h : f = g
      · rw [if_pos h, if_pos h]; exact rv
      · rw [if_neg h, if_neg h]; exact ih f
  have app : ∀ {l1 m1 : List (Str × V)} {l2 m2 : List (Str × Value)}, Paired (fun (p : Str × V) (q : Str × Value) => p.1 = q.1 ∧ RelV p.2 q.2) l1 l2 → Paired (fun (p : Str × V) (q : Str × Value) => p.1 = q.1 ∧ RelV p.2 q.2) m1 m2 → Paired (fun (p : Str × V) (q : Str × Value) => p.1 = q.1 ∧ RelV p.2 q.2) (l1 ++ m1) (l2 ++ m2) := by
    intro l1 m1 l2 m2 h1 h2
    induction h1 with
    | nil => exact h2
    | cons r _ ih => exact .cons r ih
  have zp : ∀ {vs : List V} {us : List Value} {fs : List Str}, Vals vs us → Paired (fun (p : Str × V) (q : Str × Value) => p.1 = q.1 ∧ RelV p.2 q.2) (fs.zip vs).reverse (fs.zip us).reverse := by
    intro vs us fs r
    induction r generalizing fs with
    | nil => simp; exact .nil
    | @cons v u vs us r _ ih =>
      cases fs with
      | nil => simp; exact .nil
      | cons f fs =>
        rw [List.zip_cons_cons, List.zip_cons_cons, List.reverse_cons, List.reverse_cons]
        exact app ih (.cons ⟨rfl, r⟩ .nil)
  intro fs r
  exact key (zp r)
/-- X(..): an exception of a class with an own __init__ that says super().__init__("..") and stores its arguments -/
def tMkX (C : Addr) (fs : List Str) (ta : TA) : St → Hp → XK → Prop := fun σ H Q => ta σ H fun vs H1 => vs.length = fs.length ∧ (fs = [] → Q (.ref C) none H1) ∧ (fs ≠ [] → ∀ d, H1 d = none → Q (.ref C) (some d) (upd H1 d (.xd (fs.zip vs).reverse)))
section
variable {X : Cx} {C : Addr} {fs : List Str} {params : Arguments} {body : List Stmt} {scope : Scope} {k : Nat}
theorem run_mkx {pins : List (Addr × Obj)} {σ : St} {H : Hp} {s : Shared} {Q : XK} {us : List Value} {vs : List V} (T : XCls X.prog X.K C fs params body scope) (I : IText fs params body scope) (hr : Room k X.A) (I1 : Inv X pins σ H s) (r : Vals vs us) (hl : vs.length = fs.length)
    (q0 : fs = [] → Q (.ref C) none H) (q1 : fs ≠ [] → ∀ d, H d = none → Q (.ref C) (some d) (upd H d (.xd (fs.zip vs).reverse))) :
    wpAny (model X.prog X.w) X.A (call (.ref C) us) (MkP X pins σ Q) X.xe s := by
  obtain ⟨mb, hB, hmb⟩ := I1.ok.mod.blt
  have hlim := I1.nolimit
  refine wpAny_call (exc_made (mg := X.mg) (mb := mb) T I I1.kIn hlim (I1.ok.mod.glob.keeps I1.bk) (hB.keeps I1.bk) (hmb _ (by decide +kernel)) (by have := hr.dp; omega) (by rw [← hl, r.length]) fun h' tk e d M => ?_)
  obtain ⟨hp, g, dr, t, os⟩ := s
  obtain ⟨oe, fv, hoe, hc, hd, hdat, h1⟩ := M.obj
  have hne : H e = none := I1.hok.fresh M.new
  have hge : hp.get? e = none := by
    cases z : hp.get? e with
    | none => rfl
    | some o => exact absurd (Nat.lt_of_lt_of_le (Heap.lt_size z) M.new) (Nat.lt_irrefl _)
  cases d with
  | none =>
    have hz : (fs.zip us).reverse = [] := M.dct
    have hfs : fs = [] := by
      cases fs with
      | nil => rfl
      | cons f fs =>
        cases us with
        | nil =>
          rw [r.length] at hl
          cases hl
        | cons u us => simp at hz
    exact ⟨e, oe, fv, ⟨hp, g, dr, t, os⟩, H, .ref C, none, rfl, I1, M.keep, hge, hoe, ⟨hc, hd⟩, hdat, h1, hne, rfl, I1.bare, raises_own T.exC T.tyC, q0 hfs⟩
  | some dx =>
    obtain ⟨dlo, dne, hpn, hns⟩ := M.dct
    have hfs : fs ≠ [] := fun z => by
      rw [z] at hpn
      simp at hpn
    obtain ⟨G', g1, g2⟩ := restrict h' fun b => decide (b ≠ e)
    have gk : ∀ b, b ≠ e → G'.get? b = h'.get? b := fun b hb => g1 b (decide_eq_true hb)
    have ge : G'.get? e = none := g2 e (by simp)
    have old : ∀ b o, hp.get? b = some o → G'.get? b = some o := fun b o z => (gk b (fun y => by rw [y, hge] at z; cases z)).trans (M.keep b o z)
    have ob : ObjOk X.prog X.w (upd H dx (.xd (fs.zip vs).reverse)) G' dx (.xd (fs.zip vs).reverse) :=
      ⟨_, hns.at (fun o z => (gk dx dne).trans z), relO_rev r⟩
    have J : Inv X pins σ (upd H dx (.xd (fs.zip vs).reverse)) ⟨G', g, dr, tk, os⟩ := I1.laid (t' := tk) old dlo ob
    refine ⟨e, oe, fv, ⟨G', g, dr, tk, os⟩, _, .ref C, some dx, rfl, J, fun b o z => ?_, ge, hoe, ⟨hc, hd⟩, hdat, h1, ?_, rfl, I1.bare, raises_own T.exC T.tyC, q1 hfs dx (I1.hok.fresh dlo)⟩
    · by_cases hb : b = e
      · have z' : G'.get? b = some o := z
        rw [hb, ge] at z'; cases z'
      · exact (gk b hb).symm.trans z
    · rw [upd_ne (Ne.symm dne)]
      exact hne
theorem pmk_x {x : Str} {e : Expr} {es : List Expr} {ta : TA} {p pos : Pos} (T : XCls X.prog X.K C fs params body scope) (I : IText fs params body scope) (hm : X.mg x = some (.ref C)) (hr : Room k X.A) (ha : PA X (e :: es) ta) (hg : Gl X x := by rfl) (hdb : (x == ("__debug__" : Str)) = false := by decide)
    (he : starEach (e :: es) X.env = (false, eval e X.env) :: starEach es X.env := by rfl) (hpl : (backTo pos (starEach es X.env)).any (·.1) = false := by rfl) : PMk X (.Call (.Name x p) (e :: es) [] pos) (tMkX C fs ta) := by
  intro pins s σ H Q J h
  refine wpAny_Call_Name_kw (ld_glob J hg hm ?_ hdb)
  refine PySem.W.callWith_K (h₀ := X.base) J.ok.mod.kin T.kC (thn (ha.run pos pins s σ H _ J h) fun us s1 hh => ?_) he hpl
  obtain ⟨vs, H1, I1, r1, hl, q0, q1⟩ := hh
  exact ⟨I1.kIn, run_mkx T I hr I1 r1 hl q0 q1⟩
theorem pmk_x0 {x : Str} {p pos : Pos} (T : XCls X.prog X.K C fs params body scope) (I : IText fs params body scope) (hm : X.mg x = some (.ref C)) (hr : Room k X.A) (hg : Gl X x := by rfl) (hdb : (x == ("__debug__" : Str)) = false := by decide) : PMk X (.Call (.Name x p) [] [] pos) (tMkX C fs tNil) := by
  intro pins s σ H Q J h
  refine wpAny_Call_Name_kw (ld_glob J hg hm ?_ hdb)
  obtain ⟨hl, q0, q1⟩ := h
  exact PySem.W.callWith_K0 J.kIn T.kC (run_mkx T I hr J (.nil : Vals [] []) hl q0 q1)
/-- raise X(..) -/
def tRaiseX (C : Addr) (fs : List Str) (W : WX) (ta : TA) : TS := fun _ σ H => tMkX C fs ta σ H fun cls d H' => W cls d σ H'
theorem ps_raiseX {x : Str} {e : Expr} {es : List Expr} {ta : TA} {W : WX} {p pos pos2 : Pos} (hc : X.calm = true) (T : XCls X.prog X.K C fs params body scope) (I : IText fs params body scope) (hm : X.mg x = some (.ref C)) (hr : Room k X.A) (tk : Takes X W) (ha : PA X (e :: es) ta) (hg : Gl X x := by rfl) (hdb : (x == ("__debug__" : Str)) = false := by decide)
    (he : starEach (e :: es) X.env = (false, eval e X.env) :: starEach es X.env := by rfl) (hpl : (backTo pos (starEach es X.env)).any (·.1) = false := by rfl) : PS X (.Raise (some (.Call (.Name x p) (e :: es) [] pos)) none pos2) (tRaiseX C fs W ta) := ps_raise hc tk (pmk_x T I hm hr ha hg hdb he hpl)
theorem ps_raiseX0 {x : Str} {W : WX} {p pos pos2 : Pos} (hc : X.calm = true) (T : XCls X.prog X.K C fs params body scope) (I : IText fs params body scope) (hm : X.mg x = some (.ref C)) (hr : Room k X.A) (tk : Takes X W) (hg : Gl X x := by rfl) (hdb : (x == ("__debug__" : Str)) = false := by decide) : PS X (.Raise (some (.Call (.Name x p) [] [] pos)) none pos2) (tRaiseX C fs W tNil) := ps_raise hc tk (pmk_x0 T I hm hr hg hdb)
/-- e.f, e the exception that the suite holds (at a; its class cls, its dict d) -/
def tByX (C : Addr) (f : Str) (a : Addr) (cls : Value) (d : Option Addr) (te : TE) : TE := fun σ H Q => te σ H fun x H1 => x = .ref a ∧ cls = .ref C ∧ ∃ (dd : Addr) (ps : List (Str × V)) (v : V), d = some dd ∧ H1 dd = some (.xd ps) ∧ ps.lookup f = some v ∧ Q v H1
theorem pe_byX {a : Addr} {oe : Obj} {cls : Value} {d : Option Addr} {pn : List (Addr × Obj)} {e : Expr} {te : TE} {pos : Pos} {f : Str} (T : XCls X.prog X.K C fs params body scope) (hf' : PySem.W.findIn X.K (.ref C) f = some none) (hz : Zc cls d oe) (hf : ∃ vs, oe.data = .fields vs) (he : PE (X.suite a ((a, oe) :: pn)) e te)
    (hb : attributeBase e f X.env (eval e X.env) = eval e X.env := by rfl) : PE (X.suite a ((a, oe) :: pn)) (.Attribute e f pos) (tByX C f a cls d te) := by
  refine ⟨fun pins s σ H Q I h => ?_⟩
  refine attr_of hb (thn (he.run pins s σ H _ I h) fun u s1 hh => ?_)
  obtain ⟨x, H1, I1, rx, ex, ec, dd, ps, v, ed, ea, l, q⟩ := hh
  subst ex
  obtain rfl : u = Value.ref a := rx
  subst ec
  subst ed
  obtain ⟨ha, _⟩ := I1.pin (a, oe) (List.mem_append_left _ List.mem_cons_self)
  obtain ⟨vs, hd⟩ := hf
  have hx : ObjOk X.prog X.w H1 s1.heap dd (.xd ps) := I1.hok dd _ ea
  obtain ⟨mA, hns, hr⟩ := hx
  obtain ⟨od, ho, hl⟩ := lookIn_ns hns
  obtain ⟨u, hu, ru⟩ := RelO.some_of (v := v) (o := mA f) (by rw [← l]; exact hr f)
  have J : PySem.W.InstAt s1.heap a oe C (some od) := ⟨ha, hz.1, by unfold PySem.W.notCls; rw [hd] <;> rfl, by rw [hz.2]; exact ho⟩
  exact HandSPX.exc_get I1.kIn J T.ga T.gg T.exC (PySem.W.findObj_own T.hdC hf' rfl (by rw [hl, hu])) (handed_of ru) ⟨v, H1, I1.tok _, ru, q⟩
end
end L2

namespace M
open PySem PySem.Spec PyProof.Rows L2 PySem.XEx
/-! ### a hook over any test of the written part, the defs, and the exception classes' own __init__ -/
/-- an own exception class with an __init__: its name, fields, and the text of its __init__ -/
structure XD where
  cls : Str
  fs : List Str
  params : Arguments
  body : List Stmt
  scope : Scope
abbrev FnX : Type := Option (Arguments × FuncBody × Scope × Addr × Addr)
def XD.obs (K : PySem.W.Frag) (d : XD) : FnX := match K.lookup (He.ma K (He.ga K d.cls) "__init__") with
  | some ⟨_, _, .func fd, _⟩ => some (fd.params, fd.body, fd.scope, fd.globals, fd.builtins)
  | _ => none
def XD.val (d : XD) : FnX := some (d.params, .stmts d.body, d.scope, mainGlobals, builtinsNs)
def clsOk (K : PySem.W.Frag) (C : Addr) : Bool := match K.lookup C with
  | some ⟨.type t, _, .cls cd, sl⟩ => decide (t = "type") && (match cd.mro, sl.toList with
    | .ref C' :: bm, [_, _, _, _, some (.builtin n), _] => C' == C && (n == "ValueError.__new__" && (cd.hasDict && (!cd.hasDel && HandSPX.refsVE bm)))
    | _, _ => false)
  | _ => false
theorem clsOk_ok {K : PySem.W.Frag} {C : Addr} (h : clsOk K C = true) : ∃ nm q N bs bm sn sub ab col dd k0 k1 k2 k3 k5, K.lookup C = some (excClassObj nm q C N bs bm true sn sub ab col dd k0 k1 k2 k3 k5 "ValueError.__new__") ∧ HandSPX.refsVE bm = true := by
  unfold clsOk at h
  split at h
  · rename_i t dd cd sl ho
    obtain ⟨ht, h⟩ := He.ba h
    split at h
    · rename_i C' bm k0 k1 k2 k3 n k5 hm hs
      obtain ⟨h1, h⟩ := He.ba h
      obtain ⟨h2, h⟩ := He.ba h
      obtain ⟨h3, h⟩ := He.ba h
      obtain ⟨h4, h5⟩ := He.ba h
      have e1 : C' = C := eq_of_beq h1
      have e2 : n = "ValueError.__new__" := eq_of_beq h2
      have e4 : cd.hasDel = false := by simpa using h4
      have e0 : t = "type" := of_decide_eq_true ht
      subst e1 e2 e0
      obtain ⟨nm, bs, mro, ns, qn, hd, sn, sub, ab, col, del⟩ := cd
      dsimp only at hm h3 e4
      subst hm h3 e4
      have hsl : sl = #[k0, k1, k2, k3, some (.builtin "ValueError.__new__"), k5] := by
        obtain ⟨l⟩ := sl
        simp only at hs
        rw [hs]
      subst hsl
      exact ⟨nm, qn, ns, bs, bm, sn, sub, ab, col, dd, k0, k1, k2, k3, k5, ho, h5⟩
    · cases h
  · cases h
def fnOk (P : Program) (K : PySem.W.Frag) (C fI : Addr) : Bool := match K.lookup fI with
  | some ⟨_, _, .func fd, _⟩ => (match fd.code with
      | .ref cda => PySem.W.codeIn K (.ref cda) fd.qualname && (match K.lookup cda with
        | some ⟨_, _, .fields vs, _⟩ => (match (vs[2]? : Option Value) with
          | some (.str file _) => P.main.file == file
          | _ => false)
        | _ => false)
      | _ => false) && ((match fd.closure with
      | [(n, cc)] => decide (n = ("__class__" : Str)) && (match K.lookup cc with
        | some ⟨_, _, .cell (some (.ref D)), _⟩ => decide (D = C)
        | _ => false)
      | _ => false) && (match fd.defaults with
      | .none => true
      | _ => false))
  | _ => false
def XD.ok (P : Program) (K : PySem.W.Frag) (d : XD) : Bool :=
  let C := He.ga K d.cls
  let fI := He.ma K C "__init__"
  He.eqO (PySem.W.nsIn K mainGlobals d.cls) (some (some (.ref C))) && (clsOk K C && (He.eqO (PySem.W.findIn K (.ref C) "__setattr__") (some (some (.builtin "object.__setattr__"))) && (He.eqO (PySem.W.findIn K (.ref C) "__getattribute__") (some (some (.builtin "BaseException.__getattribute__"))) &&
  (He.eqO (PySem.W.findIn K (.ref C) "__getattr__") (some none) && ((d.fs.all fun f => He.eqO (PySem.W.findIn K (.ref C) f) (some none)) && (PySem.W.keepIn K (.ref C) && (decide (PySem.W.subIn K (.ref C) (.type "BaseException") = some true) &&
  (decide (PySem.W.subIn K (.ref C) (.type "ValueError") = some true) && (decide (PySem.W.typeIn K (.ref C) = some (.type "type")) && (PySem.W.hasDictIn K C && (decide (PySem.W.exmOne K (.ref C) (.ref C) = some true) &&
  (He.eqO (PySem.W.nsIn K cStatics "thirdparty.any") (some none) && (He.eqO (PySem.W.nsIn K mainGlobals "super") (some none) && (He.eqO (PySem.W.ks_superIn K C C "__init__") (some (some (.builtin "ValueError.__init__"))) && (decide (PySem.W.mroIn K C (.ref C) = some true) &&
  (He.eqO (PySem.W.findIn K (.ref C) "__init__") (some (some (.ref fI))) && (decide (PySem.W.typeIn K (.ref fI) = some (.type "function")) && fnOk P K C fI)))))))))))))))))
theorem XD.cls_of {P : Program} {K : PySem.W.Frag} {d : XD} (e : d.obs K = d.val) (c : d.ok P K = true) (ht : (P.main.scope.names.lookup ("super" : Str)).isSome = false) :
    XCls P K (He.ga K d.cls) d.fs d.params d.body d.scope := by
  unfold XD.ok at c
  obtain ⟨c0, c⟩ := He.ba c
  obtain ⟨c1, c⟩ := He.ba c
  obtain ⟨c2, c⟩ := He.ba c
  obtain ⟨c3, c⟩ := He.ba c
  obtain ⟨c4, c⟩ := He.ba c
  obtain ⟨c5, c⟩ := He.ba c
  obtain ⟨c6, c⟩ := He.ba c
  obtain ⟨c7, c⟩ := He.ba c
  obtain ⟨c8, c⟩ := He.ba c
  obtain ⟨c9, c⟩ := He.ba c
  obtain ⟨c10, c⟩ := He.ba c
  obtain ⟨c11, c⟩ := He.ba c
  obtain ⟨c12, c⟩ := He.ba c
  obtain ⟨c13, c⟩ := He.ba c
  obtain ⟨c14, c⟩ := He.ba c
  obtain ⟨c15, c⟩ := He.ba c
  obtain ⟨c16, c⟩ := He.ba c
  obtain ⟨c17, c18⟩ := He.ba c
  refine { cls := clsOk_ok c1, sa := He.eqO_ok c2, ga := He.eqO_ok c3, gg := He.eqO_ok c4, noF := fun f hf => He.eqO_ok (List.all_eq_true.mp c5 f hf), kC := c6, exC := of_decide_eq_true c7, veC := of_decide_eq_true c8, tyC := of_decide_eq_true c9, hdC := c10, te := of_decide_eq_true c11, op := He.eqO_ok c12, sup := He.eqO_ok c13, sI := He.eqO_ok c14, mC := of_decide_eq_true c15, top := ht, fn := ?_ }
  generalize hfI : He.ma K (He.ga K d.cls) "__init__" = fI at *
  unfold fnOk at c18
  unfold XD.obs at e
  rw [hfI] at e
  cases q : K.lookup fI with
  | none =>
    rw [q] at c18
    cases c18
  | some o =>
    obtain ⟨oc, od, dt, osl⟩ := o
    rw [q] at c18 e
    cases dt with
    | func fd =>
      obtain ⟨n1, n2, n3, n4, n5, n6, n7, n8, n9, n10, n11, n12, n13, n14, n15⟩ := fd
      have e2 : (some (n3, n4, n5, n6, n15) : FnX) = some (d.params, .stmts d.body, d.scope, mainGlobals, builtinsNs) := e
      simp only [Option.some.injEq, Prod.mk.injEq] at e2
      obtain ⟨h1, h2, h3, h4, h5⟩ := e2
      subst h1 h2 h3 h4 h5
      obtain ⟨k1, kr⟩ := He.ba c18
      obtain ⟨k2, k3⟩ := He.ba kr
      clear kr
      dsimp only at k1 k2 k3
      cases n13 with
      | ref cda =>
        obtain ⟨j1, j2⟩ := He.ba k1
        split at j2
        · rename_i ccl cdd vs ccs hcda
          split at j2
          · rename_i file tf hfile0
            cases n7 with
            | nil => cases k2
            | cons p rr =>
              obtain ⟨n, cc⟩ := p
              cases rr with
              | cons _ _ => cases k2
              | nil =>
                have k2' : (decide (n = ("__class__" : Str)) && (match K.lookup cc with
                  | some ⟨_, _, .cell (some (.ref D)), _⟩ => decide (D = He.ga K d.cls)
                  | _ => false)) = true := k2
                obtain ⟨i1, i2⟩ := He.ba k2'
                have en : n = ("__class__" : Str) := of_decide_eq_true i1
                subst en
                split at i2
                · rename_i cl cld D csl hcc
                  have eD : D = He.ga K d.cls := of_decide_eq_true i2
                  subst eD
                  cases n8 with
                  | none => exact ⟨fI, n1, n2, oc, od, n9, n10, n11, n12, cda, cc, n14, ccl, cl, cdd, cld, vs, file, tf, osl, ccs, csl, He.eqO_ok c16, of_decide_eq_true c17, q, j1, hcda, hfile0, j2, hcc⟩
                  | _ => cases k3
                · cases i2
          · cases j2
        · cases j2
      | _ => cases k1
    | _ => cases c18
/-! ### a def of the written part, found by any road -/
def pAd (C f : Str) (i : Nat) (K : PySem.W.Frag) : Addr := match PySem.W.recIn K (He.ma K (He.ga K C) f) "property" with
  | some l => (match l[i]? with
    | some (.ref g) => g
    | _ => 0)
  | _ => 0
structure AD where
  ad : PySem.W.Frag → Addr
  name : Str
  qual : Str
  params : Arguments
  body : List Stmt
  scope : Scope
  dfl : List He.Dv := []
  kwd : List (Str × He.Dv) := []
def AD.obs (K : PySem.W.Frag) (d : AD) : He.FnW := match K.lookup (d.ad K) with
  | some ⟨_, _, .func fd, _⟩ => some (fd.name, fd.qualname, fd.params, fd.body, fd.scope, fd.globals, fd.closure, fd.builtins)
  | _ => none
def AD.val (d : AD) : He.FnW := some (d.name, d.qual, d.params, .stmts d.body, d.scope, mainGlobals, [], builtinsNs)
def AD.dvs (K : PySem.W.Frag) (d : AD) : List V := d.dfl.map (He.Dv.v K)
def AD.kws (K : PySem.W.Frag) (d : AD) : List (Str × V) := d.kwd.map fun q => (q.1, q.2.v K)
def AD.ok (K : PySem.W.Frag) (d : AD) : Bool := PySem.W.keepIn K (.ref (d.ad K)) && (match K.lookup (d.ad K) with
  | some ⟨_, _, .func fd, _⟩ => PySem.W.codeIn K fd.code d.qual && (He.dflB K fd.defaults (d.dvs K) && He.kwdB K fd.kwdefaults (d.kws K))
  | _ => false)
theorem AD.funD {K : PySem.W.Frag} {d : AD} (e : d.obs K = d.val) (c : d.ok K = true) : ∃ fd, FunD K d.name d.qual d.params d.body d.scope (d.dvs K) (d.kws K) (d.ad K) fd := by
  obtain ⟨kp, c2⟩ := He.ba c
  unfold AD.obs at e
  cases q : K.lookup (d.ad K) with
  | none => rw [q] at c2; cases c2
  | some o =>
    obtain ⟨oc, od, dt, osl⟩ := o
    rw [q] at c2 e
    cases dt with
    | func fd =>
      obtain ⟨n1, n2, n3, n4, n5, n6, n7, n8, n9, n10, n11, n12, n13, n14, n15⟩ := fd
      have e2 : (some (n1, n2, n3, n4, n5, n6, n7, n15) : He.FnW) = some (d.name, d.qual, d.params, .stmts d.body, d.scope, mainGlobals, [], builtinsNs) := e
      simp only [Option.some.injEq, Prod.mk.injEq] at e2
      obtain ⟨h1, h2, h3, h4, h5, h6, h7, h8⟩ := e2
      subst h1 h2 h3 h4 h5 h6 h7 h8
      have c3 : (PySem.W.codeIn K n13 d.qual && (He.dflB K n8 (d.dvs K) && He.kwdB K n9 (d.kws K))) = true := c2
      obtain ⟨k1, k2⟩ := He.ba c3
      obtain ⟨k3, k4⟩ := He.ba k2
      exact ⟨_, ⟨oc, od, n8, n9, n10, n11, n12, n13, n14, osl, rfl, q, k1, He.dflB_ok k3, He.kwdB_ok k4⟩, kp⟩
    | _ => cases c2
/-! ### the hook -/
abbrev AlM : Type := Bool × List He.FnW × List FnX
def asM (g : Addr → Option Obj) : Nat → List Addr
  | 0 => [mainGlobals, cStatics]
  | n + 1 => He.growD g (asM g n)
def obsM (P : Program) (fb : PySem.W.Frag → Bool) (fn : List AD) (xs : List XD) (K : PySem.W.Frag) : AlM := (fb K && ((fn.all fun d => d.ok K) && xs.all fun d => d.ok P K), fn.map fun d => d.obs K, xs.map fun d => d.obs K)
def valM (fn : List AD) (xs : List XD) : AlM := (true, fn.map AD.val, xs.map XD.val)
def SaysM (P : Program) (fb : PySem.W.Frag → Bool) (fn : List AD) (xs : List XD) (K : PySem.W.Frag) : Prop := obsM P fb fn xs K = valM fn xs
def obsMG (P : Program) (n : Nat) (fb : PySem.W.Frag → Bool) (fn : List AD) (xs : List XD) (g : Addr → Option Obj) : AlM := obsM P fb fn xs (He.frG g (asM g n))
def hookM (P : Program) (n : Nat) (fb : PySem.W.Frag → Bool) (fn : List AD) (xs : List XD) : PySem.W.Hook where
  α := AlM
  obs := fun s => obsMG P n fb fn xs s.heap.get?
  val := fun _ => valM fn xs
  says := fun _ h => ∃ K : PySem.W.Frag, K.In h ∧ SaysM P fb fn xs K
  of := fun _ _ e => ⟨_, He.frG_in, e⟩
  keeps := fun _ _ _ ⟨K, hK, c⟩ k => ⟨K, PySem.W.Frag.In.keeps hK k, c⟩
theorem obsMG_eq {P : Program} {n : Nat} {fb : PySem.W.Frag → Bool} {fn : List AD} {xs : List XD} {g : Addr → Option Obj} {s : Shared} (h : ∀ a, g a = s.heap.get? a) : obsMG P n fb fn xs g = (hookM P n fb fn xs).obs s := by
  have e : g = s.heap.get? := funext h
  rw [e] <;> rfl
section
variable {P : Program} {fb : PySem.W.Frag → Bool} {fn : List AD} {xs : List XD} {K : PySem.W.Frag}
theorem SaysM.all (c : SaysM P fb fn xs K) : (fb K && ((fn.all fun d => d.ok K) && xs.all fun d => d.ok P K)) = true := congrArg (fun z : AlM => z.1) c
theorem SaysM.fact (c : SaysM P fb fn xs K) : fb K = true := (He.ba c.all).1
theorem SaysM.def_ (c : SaysM P fb fn xs K) (i : Nat) {d : AD} (h : fn[i]? = some d := by rfl) : ∃ fd, FunD K d.name d.qual d.params d.body d.scope (d.dvs K) (d.kws K) (d.ad K) fd := by
  have c2 := (He.ba (He.ba c.all).2).1
  have e : fn.map (fun d => d.obs K) = fn.map AD.val := congrArg (fun z : AlM => z.2.1) c
  have e2 : (fn.map fun d => d.obs K)[i]? = (fn.map AD.val)[i]? := by rw [e]
  rw [List.getElem?_map, List.getElem?_map, h] at e2
  exact AD.funD (Option.some.inj e2) (List.all_eq_true.mp c2 d (List.mem_of_getElem? h))
theorem SaysM.exc (c : SaysM P fb fn xs K) (ht : (P.main.scope.names.lookup ("super" : Str)).isSome = false) (i : Nat) {d : XD} (h : xs[i]? = some d := by rfl) : XCls P K (He.ga K d.cls) d.fs d.params d.body d.scope := by
  have c2 := (He.ba (He.ba c.all).2).2
  have e : xs.map (fun d => d.obs K) = xs.map XD.val := congrArg (fun z : AlM => z.2.2) c
  have e2 : (xs.map fun d => d.obs K)[i]? = (xs.map XD.val)[i]? := by rw [e]
  rw [List.getElem?_map, List.getElem?_map, h] at e2
  exact XD.cls_of (Option.some.inj e2) (List.all_eq_true.mp c2 d (List.mem_of_getElem? h)) ht
theorem SaysM.mgx (c : SaysM P fb fn xs K) {h : Heap} {mg : Str → Option Value} (X : K.In h) (G : h.Ns mainGlobals mg) (i : Nat) {d : XD} (hi : xs[i]? = some d := by rfl) : mg d.cls = some (.ref (He.ga K d.cls)) := by
  have c2 := List.all_eq_true.mp (He.ba (He.ba c.all).2).2 d (List.mem_of_getElem? hi)
  unfold XD.ok at c2
  exact PySem.W.mg_of X G (He.eqO_ok (He.ba c2).1)
end
end M

namespace L2
open PySem PySem.Spec PyProof.Rows
theorem Same.mut {H H' : Hp} {p : Addr} {o : HO} (e : Same H H') (h : H p = none) : Same H (upd H' p o) := fun a u ha => by
  rw [upd_ne (ne_of_none ha h)]
  exact e a u ha
theorem Same.new {H H' : Hp} {p : Addr} {o : HO} (e : Same H H') (h : H' p = none) : Same H (upd H' p o) := fun a u ha => by
  rw [upd_ne (ne_of_none (e a u ha) h)]
  exact e a u ha
end L2
namespace M
open PySem PySem.Spec PyProof.Rows L2
abbrev FnP (K : PySem.W.Frag) (x : Str) (st : Stmt) (f : Addr) (fd : FuncData) : Prop := FunD K x x (defArgs st) (defBody st) (defScope st) [] [] f fd
/-! ### ints in a list -/
theorem int_at {ns : List Int} {i : Nat} {y : V} (h : (ns.map V.int)[i]? = some y) : ∃ z, ns[i]? = some z ∧ y = .int z := by
  rw [List.getElem?_map] at h
  cases e : ns[i]? with
  | none => rw [e] at h; cases h
  | some z => rw [e] at h; exact ⟨z, rfl, (Option.some.inj h).symm⟩
theorem lt_of_at {α : Type} {l : List α} {i : Nat} {y : α} (h : l[i]? = some y) : i < l.length := (List.getElem?_eq_some_iff.mp h).1
/-- a list of draws -/
def Dr (ds : List Int) : Prop := ∀ d ∈ ds, 0 ≤ d ∧ d < 1000
theorem Dr.nil : Dr [] := fun _ h => by cases h
theorem Dr.snoc {ds : List Int} {d : Int} (h : Dr ds) (h0 : 0 ≤ d) (h1 : d < 1000) : Dr (ds ++ [d]) := fun x hx => by
  rcases List.mem_append.mp hx with hx | hx
  · exact h x hx
  · rw [List.mem_singleton.mp hx]; exact ⟨h0, h1⟩
theorem size_ok {n m : Nat} (h : n ≤ m) (hm : m < 16777216) : n < sizeLine := by rw [sizeLine_eq]; omega
theorem cut_to (xs : List V) {n : Nat} (h : n ≤ xs.length) : cutV xs none (some (n : Int)) = xs.take n := by
  unfold cutV
  rw [HT.sIx_nat, HT.sIx_none, Nat.min_eq_left h]
  simp
theorem fm_nonneg (z : Int) {m : Int} (h : 0 < m) : 0 ≤ z.fmod m := by
  rw [Int.fmod_eq_emod_of_nonneg _ (Int.le_of_lt h)]
  exact Int.emod_nonneg _ (by omega)
theorem fm_lt (z : Int) {m : Int} (h : 0 < m) : z.fmod m < m := by
  rw [Int.fmod_eq_emod_of_nonneg _ (Int.le_of_lt h)]
  exact Int.emod_lt_of_pos _ h
/-- what the text's top leaves of the names that every law uses -/
structure Bi (mg : Str → Option Value) : Prop where
  abs : mg "abs" = none
  int : mg "int" = none
  len : mg "len" = none
  range : mg "range" = none
end M

namespace L2
open PySem PySem.Spec PyProof.Rows
theorem foldl_repT (c : Nat) : ∀ (n : Nat) (acc : Array Nat), ((List.replicate n (#[c] : Array Nat)).foldl (· ++ ·) acc).toList = acc.toList ++ List.replicate n c := by
  intro n
  induction n with
  | zero => intro acc; simp
  | succ n ih =>
    intro acc
    rw [List.replicate_succ, List.foldl_cons, ih, Array.toList_append, List.replicate_succ, List.append_assoc]
    rfl
theorem txt_mul_one (c : Nat) (n : Int) (h : 1 ≤ n) : Txt.mul ⟨#[c]⟩ n = ⟨(List.replicate n.toNat c).toArray⟩ := by
  unfold Txt.mul
  rw [if_neg (by omega)]
  split
  · rename_i h1
    have e : n = 1 := by
      have h2 : ((n == 1) || ((⟨#[c]⟩ : Str).length == 0)) = true := h1
      rw [show ((⟨#[c]⟩ : Str).length == 0) = false from rfl, Bool.or_false] at h2
      exact eq_of_beq h2
    rw [e]
    rfl
  · have z := foldl_repT c n.toNat #[]
    have e : ((List.replicate n.toNat (#[c] : Array Nat)).foldl (· ++ ·) #[]) = (List.replicate n.toNat c).toArray := by
      apply Array.ext'
      rw [z]
      simp
    show (⟨(List.replicate n.toNat (⟨#[c]⟩ : Str).cps).foldl (· ++ ·) #[]⟩ : Str) = _
    rw [show ((⟨#[c]⟩ : Str).cps) = #[c] from rfl, e]
section
variable {X : Cx}
/-- 'c' * n -/
theorem op_mul_str : OpR X (binaryOp .Mult) (fun x y H Q => ∃ (c : Nat) (n : Int), x = .str ⟨#[c]⟩ ∧ y = .int n ∧ (1 ≤ n ∧ n ≤ 1000) ∧ Q (.str ⟨(List.replicate n.toNat c).toArray⟩) H) := by
  intro pins s σ H x y v u Q I rx ry h
  obtain ⟨c, n, rfl, rfl, ⟨h1, h2⟩, q⟩ := h
  obtain ⟨t, rfl⟩ := rx
  obtain ⟨t', rfl⟩ := ry
  refine SB.mul ⟨?_, fun _ _ => ?_, fun _ _ => ?_⟩ (fun t' k => ⟨.str ⟨(List.replicate n.toNat c).toArray⟩, H, I.tok _, ⟨t', by rw [txt_mul_one c n h1]⟩, q⟩)
  · simp only [Bool.or_eq_false_iff, decide_eq_false_iff_not]
    omega
  · show ¬ (((1 : Nat) : Int) > (2 ^ 63 - 1) / n)
    have : 1 ≤ (2 ^ 63 - 1 : Int) / n := by
      rw [Int.le_ediv_iff_mul_le (by omega)]
      omega
    omega
  · show Builtin.Str.tooLong (1 * n.toNat) = false
    unfold Builtin.Str.tooLong
    rw [decide_eq_false_iff_not, sizeLine_eq]
    omega
end
end L2
namespace M
open PySem PySem.Spec PyProof.Rows L2
/-! ### the names: which texts _law_names gives -/
def ltr (d k : Nat) : Nat := 97 + (d / 4 % 26 + 7 * k) % 26
def tailZ : List Nat := [122, 121, 120, 119, 118, 117, 116, 115]
def nmC (d n k : Nat) : List Nat :=
  if d % 4 = 0 then [ltr d k]
  else if d % 4 = 1 then List.replicate (d / 104 % 7) 113 ++ ([ltr d k] ++ List.replicate (6 - d / 104 % 7) 113)
  else if d % 4 = 2 then List.replicate (n - k) (97 + d / 4 % 26)
  else ltr d k :: tailZ.take ((d + 3 * k) % 8)
def nm (d n k : Nat) : Str := ⟨(nmC d n k).toArray⟩
def nmL (d n : Nat) : List Str := (List.range n).map (nm d n)
theorem nmL_len (d n : Nat) : (nmL d n).length = n := by unfold nmL; simp
theorem nmL_at {d n k : Nat} (h : k < n) : (nmL d n)[k]? = some (nm d n k) := by
  unfold nmL
  rw [List.getElem?_map, List.getElem?_range h]
  rfl
/-- a good name -/
def NameOk (s : Str) : Prop := 1 ≤ s.cps.toList.length ∧ s.cps.toList.length ≤ 8 ∧ ∀ c ∈ s.cps.toList, 97 ≤ c ∧ c ≤ 122
theorem ltr_in (d k : Nat) : 97 ≤ ltr d k ∧ ltr d k ≤ 122 := by unfold ltr; omega
theorem nm_ok {d n k : Nat} (hn : n ≤ 8) (hk : k < n) : NameOk (nm d n k) := by
  have hl := ltr_in d k
  unfold NameOk nm nmC
  simp only
  split
  · exact ⟨by simp, by simp, fun c hc => by simp at hc; rw [hc]; exact hl⟩
  · split
    · refine ⟨by simp; omega, by simp; omega, fun c hc => ?_⟩
      simp only [List.mem_append, List.mem_replicate, List.mem_singleton] at hc
      rcases hc with ⟨_, e⟩ | e | ⟨_, e⟩ <;> rw [e] <;> first | exact hl | omega
    · split
      · refine ⟨by simp; omega, by simp; omega, fun c hc => ?_⟩
        simp only [List.mem_replicate] at hc
        omega
      · refine ⟨by simp, by simp [tailZ]; omega, fun c hc => ?_⟩
        simp only [List.mem_cons] at hc
        rcases hc with e | hc
        · rw [e]; exact hl
        · have hm := List.mem_of_mem_take hc
          simp only [tailZ, List.mem_cons, List.not_mem_nil, or_false] at hm
          omega
theorem nm_inj {d n j k : Nat} (hn : n ≤ 26) (hj : j < n) (hk : k < n) (e : nm d n j = nm d n k) : j = k := by
  have e1 : nmC d n j = nmC d n k := by
    have z := congrArg (fun s : Str => s.cps.toList) e
    simpa [nm] using z
  have key : ltr d j = ltr d k → j = k := by unfold ltr; omega
  unfold nmC at e1
  by_cases h0 : d % 4 = 0
  · rw [if_pos h0, if_pos h0] at e1
    exact key (List.cons.inj e1).1
  · rw [if_neg h0, if_neg h0] at e1
    by_cases h1 : d % 4 = 1
    · rw [if_pos h1, if_pos h1] at e1
      have e2 := List.append_cancel_left e1
      exact key (List.cons.inj e2).1
    · rw [if_neg h1, if_neg h1] at e1
      by_cases h2 : d % 4 = 2
      · rw [if_pos h2, if_pos h2] at e1
        have e2 := congrArg List.length e1
        rw [List.length_replicate, List.length_replicate] at e2
        omega
      · rw [if_neg h2, if_neg h2] at e1
        exact key (List.cons.inj e1).1
theorem nmL_nodup {d n : Nat} (hn : n ≤ 26) : (nmL d n).Nodup := by
  unfold nmL
  rw [List.Nodup, List.pairwise_map]
  refine List.Pairwise.imp_of_mem (R := fun a b => a ≠ b) (fun {a b} ha hb hab e => hab (nm_inj hn (List.mem_range.mp ha) (List.mem_range.mp hb) e)) (List.nodup_range)
theorem nmL_mem_ok {d n : Nat} (hn : n ≤ 8) {s : Str} (h : s ∈ nmL d n) : NameOk s := by
  unfold nmL at h
  obtain ⟨k, hk, rfl⟩ := List.mem_map.mp h
  exact nm_ok hn (List.mem_range.mp hk)
end M

namespace M
open PySem PySem.Spec PyProof.Rows L2
/-! ### calls, whatever is raised: at the caller's slots it is wished for by W -/
/-- a def of the module -/
structure Cal (P : Program) (w : World) (K : PySem.W.Frag) (mg : Str → Option Value) (base : Heap) (k : Nat) (x : Str) (ps : List Str) (sp : Sp) : Prop where
  ex : ∃ (f : Addr) (fd : FuncData), mg x = some (.ref f) ∧ PySem.W.keepIn K (.ref f) = true ∧ Binds K fd ps [] ∧ FnOk P w K mg base (L2.CX P w) k f fd ps sp
/-- a method of the class at C (its own or a base's) -/
structure Mth (P : Program) (w : World) (K : PySem.W.Frag) (mg : Str → Option Value) (base : Heap) (k : Nat) (C : Addr) (m : Str) (ps : List Str) (sp : Sp) : Prop where
  cl : Cls K C
  ex : ∃ (f : Addr) (fd : FuncData), Meth K C m f ∧ Binds K fd ps [] ∧ FnOk P w K mg base (L2.CX P w) k f fd ps sp
/-- C.m read off the class, a plain def -/
structure ClF (K : PySem.W.Frag) (C : Addr) (m : Str) (f : Addr) : Prop where
  rd : PySem.W.readsIn K C (.type "type") = true
  ga : PySem.W.specialIn K (.ref C) "__getattribute__" = some (some (.builtin "type.__getattribute__"))
  at_ : PySem.W.findCls K (.ref C) (.type "type") m = some (.val (.ref f))
  kp : PySem.W.keepIn K (.ref f) = true
structure CFn (P : Program) (w : World) (K : PySem.W.Frag) (mg : Str → Option Value) (base : Heap) (k : Nat) (x : Str) (m : Str) (ps : List Str) (sp : Sp) : Prop where
  ex : ∃ (C f : Addr) (fd : FuncData), mg x = some (.ref C) ∧ ClF K C m f ∧ Binds K fd ps [] ∧ FnOk P w K mg base (L2.CX P w) k f fd ps sp
/-- C(..) -/
structure Mak (P : Program) (w : World) (K : PySem.W.Frag) (mg : Str → Option Value) (base : Heap) (k : Nat) (x : Str) (C : Addr) (ps : List Str) (sp : Sp) : Prop where
  gC : mg x = some (.ref C)
  ex : ∃ (f : Addr) (fd : FuncData), Mk K C f ∧ Binds K fd ps [] ∧ FnOk P w K mg base (L2.CX P w) k f fd ps sp
section
variable {X : Cx} {k j : Nat} {x m : Str} {ps : List Str} {sp : Sp} {W : WX} {e o : Expr} {es : List Expr} {t : TA} {ta : TE} {p pos apos np : Pos} {C : Addr}
theorem pe_cal (G : Cal X.prog X.w X.K X.mg X.base k x ps sp) (hr : Room j X.A) (tk : Takes X W) (ha : PA X (e :: es) t) (hk : k ≤ j := by decide) (hg : Gl X x := by rfl) (hdb : (x == ("__debug__" : Str)) = false := by decide)
    (he : starEach (e :: es) X.env = (false, eval e X.env) :: starEach es X.env := by rfl) (hpl : (backTo pos (starEach es X.env)).any (·.1) = false := by rfl) : PE X (.Call (.Name x p) (e :: es) [] pos) (tCallS sp (WE W) t) := by
  obtain ⟨f, fd, hm, hkp, hb, F⟩ := G.ex
  exact pe_callS F (hr.mono hk) hg hm hkp hb (fun σ => passAt tk σ) ha hdb he hpl
def tMethS (m : Str) (sp : Sp) (C : Addr) (E : L2.St → XK) (ta : TE) (t : TA) : TE := fun σ H Q => ta σ H fun x H1 => ∃ a dx fs, x = .ref a ∧ H1 a = some (.ins C dx fs) ∧ fs.lookup m = none ∧ t σ H1 fun vs H2 => sp (x :: vs) H2 Q (E σ)
theorem pe_mth {pl : Sem Bool} (G : Mth X.prog X.w X.K X.mg X.base k C m ps sp) (hr : Room j X.A) (tk : Takes X W) (he : PE X o ta) (ha : PA X (e :: es) t) (hk : k ≤ j := by decide)
    (hst : starEach (e :: es) X.env = (false, eval e X.env) :: starEach es X.env := by rfl) (hpl : (backTo pos (starEach es X.env)).any (·.1) = false := by rfl)
    (ht : eval (.Call (.Attribute o m apos) (e :: es) [] pos) X.env = (do
      let ov ← eval o X.env
      standAt apos.atName
      let (f, first) ← holding [ov] (getMethod ov m pl)
      callWith pos f first (backTo pos (starEach (e :: es) X.env)) (backToKw pos (keywordEach [] X.env))) := by rfl) :
    PE X (.Call (.Attribute o m apos) (e :: es) [] pos) (tMethS m sp C (WE W) ta t) := by
  obtain ⟨f, fd, hm, hb, F⟩ := G.ex
  refine ⟨fun pins s σ H Q I h => ?_⟩
  refine PySem.W.methodCall_KW (pl := pl) (thn (he.run pins s σ H _ I h) fun u s1 ⟨x, H1, I1, rx, a, dx, fs, ex, ea, l, q⟩ => ?_) ht
  subst ex
  obtain rfl : u = Value.ref a := rx
  refine getmeth_ok I1 ea G.cl hm l ?_
  refine PySem.W.callWith_K (first := [.ref a]) (h₀ := X.base) I.ok.mod.kin hm.kp (thn (ha.run pos pins s1 σ H1 _ I1 q) fun us s2 ⟨vs, H2, I2, r, q2⟩ => ⟨I2.kIn, ?_⟩) hst hpl
  exact run_fnS (us := .ref a :: us) (vs := .ref a :: vs) (E := WE W) F (hr.mono hk) hb (passAt tk σ) I2 (.cons rfl r) q2
theorem pe_mth0 {pl : Sem Bool} (G : Mth X.prog X.w X.K X.mg X.base k C m ps sp) (hr : Room j X.A) (tk : Takes X W) (he : PE X o ta) (hk : k ≤ j := by decide)
    (ht : eval (.Call (.Attribute o m apos) [] [] pos) X.env = (do
      let ov ← eval o X.env
      standAt apos.atName
      let (f, first) ← holding [ov] (getMethod ov m pl)
      callWith pos f first (backTo pos (starEach [] X.env)) (backToKw pos (keywordEach [] X.env))) := by rfl) :
    PE X (.Call (.Attribute o m apos) [] [] pos) (tMethS m sp C (WE W) ta tNil) := by
  obtain ⟨f, fd, hm, hb, F⟩ := G.ex
  refine ⟨fun pins s σ H Q I h => ?_⟩
  refine PySem.W.methodCall_KW (pl := pl) (thn (he.run pins s σ H _ I h) fun u s1 ⟨x, H1, I1, rx, a, dx, fs, ex, ea, l, q⟩ => ?_) ht
  subst ex
  obtain rfl : u = Value.ref a := rx
  refine getmeth_ok I1 ea G.cl hm l ?_
  exact PySem.W.callWith_K0 (first := [.ref a]) I1.kIn hm.kp (run_fnS (us := [.ref a]) (vs := [.ref a]) (E := WE W) F (hr.mono hk) hb (passAt tk σ) I1 (.cons rfl .nil) q)
/-- the same, the class and the method told by the reading -/
def tMthE (P : Program) (w : World) (K : PySem.W.Frag) (mg : Str → Option Value) (base : Heap) (j : Nat) (m : Str) (W : WX) (ta : TE) (t : TA) : TE := fun σ H Q => ta σ H fun x H1 => ∃ (a C dx : Addr) (fs : List (Str × V)) (k : Nat) (ps : List Str) (sp : Sp), x = .ref a ∧ H1 a = some (.ins C dx fs) ∧
  Mth P w K mg base k C m ps sp ∧ k ≤ j ∧ fs.lookup m = none ∧ t σ H1 fun vs H2 => sp (x :: vs) H2 Q (WE W σ)
theorem pe_mthE {pl : Sem Bool} (hr : Room j X.A) (tk : Takes X W) (he : PE X o ta) (ha : PA X (e :: es) t)
    (hst : starEach (e :: es) X.env = (false, eval e X.env) :: starEach es X.env := by rfl) (hpl : (backTo pos (starEach es X.env)).any (·.1) = false := by rfl)
    (ht : eval (.Call (.Attribute o m apos) (e :: es) [] pos) X.env = (do
      let ov ← eval o X.env
      standAt apos.atName
      let (f, first) ← holding [ov] (getMethod ov m pl)
      callWith pos f first (backTo pos (starEach (e :: es) X.env)) (backToKw pos (keywordEach [] X.env))) := by rfl) :
    PE X (.Call (.Attribute o m apos) (e :: es) [] pos) (tMthE X.prog X.w X.K X.mg X.base j m W ta t) := by
  refine ⟨fun pins s σ H Q I h => ?_⟩
  refine PySem.W.methodCall_KW (pl := pl) (thn (he.run pins s σ H _ I h) fun u s1 ⟨x, H1, I1, rx, a, C, dx, fs, k, ps, sp, ex, ea, G, hk, l, q⟩ => ?_) ht
  obtain ⟨f, fd, hm, hb, F⟩ := G.ex
  subst ex
  obtain rfl : u = Value.ref a := rx
  refine getmeth_ok I1 ea G.cl hm l ?_
  refine PySem.W.callWith_K (first := [.ref a]) (h₀ := X.base) I.ok.mod.kin hm.kp (thn (ha.run pos pins s1 σ H1 _ I1 q) fun us s2 ⟨vs, H2, I2, r, q2⟩ => ⟨I2.kIn, ?_⟩) hst hpl
  exact run_fnS (us := .ref a :: us) (vs := .ref a :: vs) (E := WE W) F (hr.mono hk) hb (passAt tk σ) I2 (.cons rfl r) q2
theorem pe_mthE0 {pl : Sem Bool} (hr : Room j X.A) (tk : Takes X W) (he : PE X o ta)
    (ht : eval (.Call (.Attribute o m apos) [] [] pos) X.env = (do
      let ov ← eval o X.env
      standAt apos.atName
      let (f, first) ← holding [ov] (getMethod ov m pl)
      callWith pos f first (backTo pos (starEach [] X.env)) (backToKw pos (keywordEach [] X.env))) := by rfl) :
    PE X (.Call (.Attribute o m apos) [] [] pos) (tMthE X.prog X.w X.K X.mg X.base j m W ta tNil) := by
  refine ⟨fun pins s σ H Q I h => ?_⟩
  refine PySem.W.methodCall_KW (pl := pl) (thn (he.run pins s σ H _ I h) fun u s1 ⟨x, H1, I1, rx, a, C, dx, fs, k, ps, sp, ex, ea, G, hk, l, q⟩ => ?_) ht
  obtain ⟨f, fd, hm, hb, F⟩ := G.ex
  subst ex
  obtain rfl : u = Value.ref a := rx
  refine getmeth_ok I1 ea G.cl hm l ?_
  exact PySem.W.callWith_K0 (first := [.ref a]) I1.kIn hm.kp (run_fnS (us := [.ref a]) (vs := [.ref a]) (E := WE W) F (hr.mono hk) hb (passAt tk σ) I1 (.cons rfl .nil) q)
/-- Cls.m(self, ..) -/
theorem pe_cfn {pl : Sem Bool} (G : CFn X.prog X.w X.K X.mg X.base k x m ps sp) (hr : Room j X.A) (tk : Takes X W) (ha : PA X (e :: es) t) (hk : k ≤ j := by decide) (hg : Gl X x := by rfl) (hdb : (x == ("__debug__" : Str)) = false := by decide)
    (hst : starEach (e :: es) X.env = (false, eval e X.env) :: starEach es X.env := by rfl) (hpl : (backTo pos (starEach es X.env)).any (·.1) = false := by rfl)
    (ht : eval (.Call (.Attribute (.Name x np) m apos) (e :: es) [] pos) X.env = (do
      let ov ← eval (.Name x np) X.env
      standAt apos.atName
      let (f, first) ← holding [ov] (getMethod ov m pl)
      callWith pos f first (backTo pos (starEach (e :: es) X.env)) (backToKw pos (keywordEach [] X.env))) := by rfl) :
    PE X (.Call (.Attribute (.Name x np) m apos) (e :: es) [] pos) (tCallS sp (WE W) t) := by
  obtain ⟨C, f, fd, hm, c, hb, F⟩ := G.ex
  refine ⟨fun pins s σ H Q I h => ?_⟩
  refine PySem.W.methodCall_KW (pl := pl) (ld_glob I hg hm ?_ hdb) ht
  refine PySem.W.method_cls I.kIn c.ga ?_
  refine PySem.W.cls_value I.kIn c.rd c.at_ rfl ?_
  refine PySem.W.callWith_K (first := []) (h₀ := X.base) I.ok.mod.kin c.kp (thn (ha.run pos pins _ σ H _ (I.tok _) h) fun us s2 ⟨vs, H2, I2, r, q2⟩ => ⟨I2.kIn, ?_⟩) hst hpl
  exact run_fnS (E := WE W) F (hr.mono hk) hb (passAt tk σ) I2 r q2
theorem run_makeS {CX : CXT} {fd : FuncData} {f : Addr} {E : L2.St → XK} {pins : List (Addr × Obj)} {σ : L2.St} {H : Hp} {s : Shared} {Q : VK} {us : List Value} {vs : List V} (M : Mk X.K C f) (F : FnOk X.prog X.w X.K X.mg X.base CX k f fd ps sp) (hr : Room (k + 1) X.A) (hb : Binds X.K fd ps [])
    (hx : PassesAt CX X σ (E σ)) (I : Inv X pins σ H s) (r : Vals vs us)
    (h : ∀ x dx, H x = none → H dx = none → dx ≠ x → sp (.ref x :: vs) (upd (upd H dx (.own x)) x (.ins C dx [])) (fun v H2 => v = .non ∧ Q (.ref x) H2) (E σ)) :
    wpAny (model X.prog X.w) X.A (call (.ref C) us) (EP X pins σ Q) X.xe s := by
  have hq := h (s.heap.objs.size + 1) s.heap.objs.size (I.hok.fresh (Nat.le_succ _)) (I.hok.fresh (Nat.le_refl _)) (Nat.ne_of_lt (Nat.lt_succ_self _))
  have I2 := Inv.made (C := C) I
  have r2 : Vals (V.ref (s.heap.objs.size + 1) :: vs) (Value.ref (s.heap.objs.size + 1) :: us) := .cons rfl r
  have hl : (Value.ref (s.heap.objs.size + 1) :: us).length = ps.length := by
    have e := r2.length
    rw [F.len _ _ _ _ hq] at e
    exact e.symm
  have b := hb { s with heap := _, toks := _ } (Value.ref (s.heap.objs.size + 1) :: us) I2.kIn (by rw [List.append_nil]; exact hl)
  rw [List.append_nil] at b
  refine wpAny_call (make_map (f := f) I.kIn M.makes M.init (beq_iff_eq.mp M.fn) (codeAny_mono (F.run _ X.stack _ _ ⟨Value.ref (s.heap.objs.size + 1) :: us, []⟩ (Value.ref (s.heap.objs.size + 1) :: us) _ _ (E σ) (hr.make C us [])
    (I2.env0.make C us []) b r2 hq) fun r s' hq' => ?_))
  cases r with
  | error e => exact hx pins _ _ e s' I2 hq'
  | ok fl =>
    cases fl with
    | ret u =>
      obtain ⟨v, H', I3, rv, ev, q3⟩ := I2.after hq'
      subst ev
      exact ⟨rv, ⟨V.ref (s.heap.objs.size + 1), H', I3, rfl, q3⟩⟩
    | next => exact False.elim hq'
    | brk => exact False.elim hq'
    | cont => exact False.elim hq'
def tMakeS (C : Addr) (sp : Sp) (E : L2.St → XK) (t : TA) : TE := fun σ H Q => t σ H fun vs H1 => ∀ x dx, H1 x = none → H1 dx = none → dx ≠ x → sp (.ref x :: vs) (upd (upd H1 dx (.own x)) x (.ins C dx [])) (fun v H2 => v = .non ∧ Q (.ref x) H2) (E σ)
theorem pe_mak (G : Mak X.prog X.w X.K X.mg X.base k x C ps sp) (hr : Room j X.A) (tk : Takes X W) (ha : PA X (e :: es) t) (hk : k + 1 ≤ j := by decide) (hg : Gl X x := by rfl) (hdb : (x == ("__debug__" : Str)) = false := by decide)
    (he : starEach (e :: es) X.env = (false, eval e X.env) :: starEach es X.env := by rfl) (hpl : (backTo pos (starEach es X.env)).any (·.1) = false := by rfl) : PE X (.Call (.Name x p) (e :: es) [] pos) (tMakeS C sp (WE W) t) := by
  obtain ⟨f, fd, M, hb, F⟩ := G.ex
  refine ⟨fun pins s σ H Q I h => ?_⟩
  refine wpAny_Call_Name_kw (ld_glob I hg G.gC ?_ hdb)
  refine PySem.W.callWith_K (h₀ := X.base) I.ok.mod.kin M.kp (thn (ha.run pos pins s σ H _ I h) fun us s1 ⟨vs, H1, I1, r, q⟩ => ⟨I1.kIn, ?_⟩) he hpl
  exact run_makeS (E := WE W) M F (hr.mono hk) hb (passAt tk σ) I1 r q
end
theorem putF_len (f : Str) (v : V) : ∀ fs : List (Str × V), (putF f v fs).length ≤ fs.length + 1
  | [] => Nat.le_refl 1
  | (g, u) :: r => by
    show (if g = f then (g, v) :: r else (g, u) :: putF f v r).length ≤ _
    split
    · exact Nat.le_succ _
    · exact Nat.succ_le_succ (putF_len f v r)
theorem putF_le {f : Str} {v : V} {fs : List (Str × V)} {m : Nat} (h : fs.length ≤ m) : (putF f v fs).length ≤ m + 1 := Nat.le_trans (putF_len f v fs) (Nat.succ_le_succ h)
theorem rd_upd {H : Hp} {a p : Addr} {o u : HO} (h : a ≠ p) (r : Rd H a u) : Rd (upd H p o) a u := by
  rcases r with r | ⟨q, r⟩
  · exact .inl (by rw [upd_ne h]; exact r)
  · exact .inr ⟨q, by rw [upd_ne h]; exact r⟩
theorem sqL_upd {K : PySem.W.Frag} {H : Hp} {a p : Addr} {o : HO} {xs : List V} (h : a ≠ p) (r : SqL K H a xs) : SqL K (upd H p o) a xs := by
  rcases r with r | r
  · exact .inl (rd_upd h r)
  · exact .inr r
theorem sqT_upd {K : PySem.W.Frag} {H : Hp} {a p : Addr} {o : HO} {xs : List V} (h : a ≠ p) (r : SqT K H a xs) : SqT K (upd H p o) a xs := by
  rcases r with r | r
  · exact .inl (rd_upd h r)
  · exact .inr r
/-! ### try, the readings of its parts as they come -/
theorem pss_imp {X : Cx} {ss : List Stmt} {t t' : TS} (h : PSs X ss t) (i : ∀ D σ H, t' D σ H → t D σ H) : PSs X ss t' := ⟨fun pins s σ H D I q => h.run pins s σ H D I (i D σ H q)⟩
theorem ps_tryA {X : Cx} {x n : Str} {c : Value} {i : Nat} {body suite : List Stmt} {b₀ : Stmt} {np pos pos' : Pos} {tb : WX → List (Addr × Obj) → (Value → Shared → Prop) → TS} {ts : Addr → Obj → Value → Option Addr → List (Addr × Obj) → TS} {Wout : WX}
    (hs : X.stack = X.env :: X.outer) (hf : X.env.frame = some X.env.locals) (hN : X.N.Nodup) (hi : X.N[i]? = some n) (hln : X.env.kindOf n = some .local) (hc : Names X x c) (tk : Takes X Wout)
    (hb : ∀ (W : WX) (pn : List (Addr × Obj)) (xe : Value → Shared → Prop), Takes (X.tr pn xe) W → PassesOwn (model X.prog X.w) X.A X.env xe → PSs (X.tr pn xe) body (tb W pn xe))
    (hsu : ∀ (a : Addr) (oe : Obj) (cls : Value) (d : Option Addr) (pn : List (Addr × Obj)), Zc cls d oe → (∃ vs, oe.data = .fields vs) → PSs (X.suite a ((a, oe) :: pn)) (b₀ :: suite) (ts a oe cls d pn)) :
    PS X (.Try body [.ExceptHandler (some (.Name x np)) (some n) (b₀ :: suite) pos'] [] [] pos)
      (fun D σ H => ∀ pn xe, tb (wAs X.K c i (fun a cls d => fun D σ H => ∀ oe pn, ts a oe cls d pn D σ H) Wout D) pn xe D σ H) :=
  ps_try_as (tb := fun W D σ H => ∀ pn xe, tb W pn xe D σ H) (ts := fun a cls d => fun D σ H => ∀ oe pn, ts a oe cls d pn D σ H) hs hf hN hi hln hc tk
    (fun W pn xe t p => pss_imp (hb W pn xe t p) fun D σ H q => q pn xe) (fun a oe cls d pn z f => pss_imp (hsu a oe cls d pn z f) fun D σ H q => q oe pn)
theorem iteNN {c A B : Prop} [Decidable c] (hc : ¬ c) (h : A) : if (!decide c) = true then A else B := by
  rw [decide_eq_false hc]
  exact iteT h
/-- a def whose promise wishes for nothing that is raised lets nothing out -/
theorem calm_of {P : Program} {w : World} {K : PySem.W.Frag} {mg : Str → Option Value} {base : Heap} {k : Nat} {f : Addr} {fd : FuncData} {ps : List Str} {sp : Sp} (F : FnOk P w K mg base (L2.CX P w) k f fd ps sp) (h : ∀ vs H Q E, sp vs H Q E → sp vs H Q fun _ _ _ => False) :
    FnOk P w K mg base CX0 k f fd ps sp := by
  refine ⟨F.len, fun A outer s H args us vs Q E hr he hb hv hs => ?_⟩
  refine codeAny_mono (F.run A outer s H args us vs Q _ hr he hb hv (h vs H Q E hs)) fun r s' hq => ?_
  cases r with
  | error e =>
    obtain ⟨_, _, _, _, _, _, _, _, _, _, _, _, z⟩ := hq
    exact z
  | ok fl =>
    cases fl with
    | ret u => exact hq
    | next => exact hq
    | brk => exact hq
    | cont => exact hq
/-! ### facts of the written part -/
inductive Fy where
  | fa (f : He.Fa)
  | clf (x m : Str)
  | tup (x : Str) (vs : List He.Dv)
  | prp (x f : Str)
def Fy.ok (K : PySem.W.Frag) : Fy → Bool
  | .fa f => f.ok K
  | .clf x m => PySem.W.readsIn K (He.ga K x) (.type "type") && (He.eqO (PySem.W.specialIn K (.ref (He.ga K x)) "__getattribute__") (some (some (.builtin "type.__getattribute__"))) &&
      ((match PySem.W.findCls K (.ref (He.ga K x)) (.type "type") m with
        | some (.val (.ref f)) => f == He.ma K (He.ga K x) m
        | _ => false) && PySem.W.keepIn K (.ref (He.ma K (He.ga K x) m))))
  | .prp x f => (He.Fa.cls x).ok K && (He.eqO (PySem.W.findIn K (.ref (He.ga K x)) f) (some (some (.ref (He.ma K (He.ga K x) f)))) && (He.eqO (PySem.W.specialIn K (.ref (He.ma K (He.ga K x) f)) "__get__") (some (some (.builtin "property.__get__"))) &&
      (decide (PySem.W.takesIn K (.ref (He.ma K (He.ga K x) f)) = some true) && (match PySem.W.recIn K (He.ma K (He.ga K x) f) "property" with
        | some (.ref g :: _) => g == pAd x f 0 K
        | _ => false))))
  | .tup x vs => He.eqO (PySem.W.nsIn K mainGlobals x) (some (some (.ref (He.ga K x)))) && He.tupB K x vs
theorem Fy.clf_ok {K : PySem.W.Frag} {x m : Str} (c : (Fy.clf x m).ok K = true) : ClF K (He.ga K x) m (He.ma K (He.ga K x) m) := by
  obtain ⟨c1, c⟩ := He.ba c
  obtain ⟨c2, c⟩ := He.ba c
  obtain ⟨c3, c4⟩ := He.ba c
  refine ⟨c1, He.eqO_ok c2, ?_, c4⟩
  split at c3
  · rename_i f e
    rw [e, eq_of_beq c3]
  · cases c3
theorem Fy.prp_ok {K : PySem.W.Frag} {x f : Str} (c : (Fy.prp x f).ok K = true) : Cls K (He.ga K x) ∧ PropOf K (He.ga K x) f (He.ma K (He.ga K x) f) (pAd x f 0 K) := by
  obtain ⟨c0, c⟩ := He.ba c
  obtain ⟨c1, c⟩ := He.ba c
  obtain ⟨c2, c⟩ := He.ba c
  obtain ⟨c3, c4⟩ := He.ba c
  refine ⟨He.cls_ok c0, He.eqO_ok c1, He.eqO_ok c2, of_decide_eq_true c3, ?_⟩
  split at c4
  · rename_i g rest e
    exact ⟨rest, by rw [e, eq_of_beq c4]⟩
  · cases c4
theorem Fy.tup_ok {K : PySem.W.Frag} {x : Str} {vs : List He.Dv} {h : Heap} {mg : Str → Option Value} (X : K.In h) (G : h.Ns mainGlobals mg) (c : (Fy.tup x vs).ok K = true) : mg x = some (.ref (He.ga K x)) ∧ ∀ H : Hp, SqT K H (He.ga K x) (vs.map (He.Dv.v K)) := by
  obtain ⟨c1, c2⟩ := He.ba c
  exact ⟨PySem.W.mg_of X G (He.eqO_ok c1), fun H => He.tupB_ok c2 H⟩
/-! ### defs by names -/
def adG (x : Str) (s : Stmt) (dfl : List He.Dv := []) : AD := ⟨fun K => He.ga K x, x, x, defArgs s, defBody s, defScope s, dfl, []⟩
def adM (C m q : Str) (s : Stmt) (dfl : List He.Dv := []) : AD := ⟨fun K => He.ma K (He.ga K C) m, m, q, defArgs s, defBody s, defScope s, dfl, []⟩
def adP (C m q : Str) (i : Nat) (s : Stmt) : AD := ⟨pAd C m i, m, q, defArgs s, defBody s, defScope s, [], []⟩
theorem all_of {p : Fy → Bool} {l : List Fy} (h : l.all p = true) {f : Fy} (m : f ∈ l) : p f = true := List.all_eq_true.mp h f m
end M

namespace L2
open PySem PySem.Spec PyProof.Rows
/-! ### < of data -/
def rLtD (K : PySem.W.Frag) : R2 := fun x y H Q => ∃ d e, Dp K H x d ∧ Dp K H y e ∧ PySem.W.alike d e = true ∧ d ≠ .none ∧ d.depth ≤ 60 ∧ Q (.bl (PySem.W.dataLt d e)) H
section
variable {X : Cx}
theorem op_ltD (hu : X.A.units + 64 < cLine) : OpR X (compareOp .Lt) (rLtD X.K) := by
  intro pins s σ H x y v u Q I rx ry h
  obtain ⟨d, e, hd, he, al, nn, hz, q⟩ := h
  obtain ⟨as, r1⟩ := Dp.reads I d x v hd rx
  obtain ⟨bs, r2⟩ := Dp.reads I e y u he ry
  have z := PySem.W.rcLt_alike d e X.A s v u as bs r1 r2 al nn (by omega) X.prog X.w X.xe (EP X pins σ Q) ⟨.bl _, H, I, rfl, q⟩
  exact z
end
end L2
namespace M
open PySem PySem.Spec PyProof.Rows L2
/-! ### x in o, o of an own class -/
def tInOwn (P : Program) (w : World) (K : PySem.W.Frag) (mg : Str → Option Value) (base : Heap) (j : Nat) (neg : Bool) (W : WX) (ta tb : TE) : TE := fun σ H Q => ta σ H fun x H1 => tb σ H1 fun y H2 => ∃ (a C dx : Addr) (fs : List (Str × V)) (k : Nat) (ps : List Str) (sp : Sp), y = .ref a ∧ H2 a = some (.ins C dx fs) ∧
  Mth P w K mg base k C "__contains__" ps sp ∧ k ≤ j ∧ sp [.ref a, x] H2 (fun v H3 => ∃ b, v = .bl b ∧ Q (.bl (if neg then !b else b)) H3) (WE W σ)
section
variable {X : Cx} {j : Nat} {W : WX} {a b : Expr} {ta tb : TE}
theorem pc_own (hr : Room j X.A) (tk : Takes X W) (ha : PE X a ta) (hb : PE X b tb) : PC X .In a b (tInOwn X.prog X.w X.K X.mg X.base j false W ta tb) := by
  refine ⟨fun pins s σ H Q I h => ?_⟩
  refine thn (ha.run pins s σ H _ I h) fun v s1 ⟨x, H1, I1, rx, q1⟩ => thn (hb.run pins s1 σ H1 _ I1 q1) fun u s2 ⟨y, H2, I2, ry, o, C, dx, fs, k, ps, sp, ey, eo, G, hk, q⟩ => ?_
  subst ey
  obtain rfl : u = Value.ref o := ry
  obtain ⟨f, fd, hm, hbd, F⟩ := G.ex
  obtain ⟨mA, O, _, _, _, _⟩ := ins_get I2.hok eo
  obtain ⟨od, J, _⟩ := O.look
  obtain ⟨m, hF⟩ := I2.fr
  refine PySem.W.in_K hF I2.ok.mod.kin J hm.at_ hm.fn (wpAny_mono (run_fnS (us := [.ref o, v]) (vs := [.ref o, x]) (E := WE W) F (hr.mono hk) hbd (passAt tk σ) I2 (.cons rfl (.cons rx .nil)) q) (fun r s3 hq => ?_) fun _ _ z => z)
  obtain ⟨w', H3, I3, rw', b', eb, q3⟩ := hq
  subst eb
  cases rw'
  exact wpAny_truthy_bool ⟨.bl b', H3, I3, rfl, q3⟩
theorem pc_notOwn (hr : Room j X.A) (tk : Takes X W) (ha : PE X a ta) (hb : PE X b tb) : PC X .NotIn a b (tInOwn X.prog X.w X.K X.mg X.base j true W ta tb) := by
  refine ⟨fun pins s σ H Q I h => ?_⟩
  refine thn (ha.run pins s σ H _ I h) fun v s1 ⟨x, H1, I1, rx, q1⟩ => thn (hb.run pins s1 σ H1 _ I1 q1) fun u s2 ⟨y, H2, I2, ry, o, C, dx, fs, k, ps, sp, ey, eo, G, hk, q⟩ => ?_
  subst ey
  obtain rfl : u = Value.ref o := ry
  obtain ⟨f, fd, hm, hbd, F⟩ := G.ex
  obtain ⟨mA, O, _, _, _, _⟩ := ins_get I2.hok eo
  obtain ⟨od, J, _⟩ := O.look
  obtain ⟨m, hF⟩ := I2.fr
  refine PySem.W.notIn_K hF I2.ok.mod.kin J hm.at_ hm.fn (wpAny_mono (run_fnS (us := [.ref o, v]) (vs := [.ref o, x]) (E := WE W) F (hr.mono hk) hbd (passAt tk σ) I2 (.cons rfl (.cons rx .nil)) q) (fun r s3 hq => ?_) fun _ _ z => z)
  obtain ⟨w', H3, I3, rw', b', eb, q3⟩ := hq
  subst eb
  cases rw'
  exact wpAny_truthy_bool ⟨.bl (!b'), H3, I3, rfl, q3⟩
end
/-! ### e.f, a property that hands back a field g -/
structure Prp (P : Program) (w : World) (K : PySem.W.Frag) (mg : Str → Option Value) (base : Heap) (C : Addr) (f g : Str) : Prop where
  cl : Cls K C
  ex : ∃ (p ge : Addr) (fd : FuncData), PropOf K C f p ge ∧ Binds K fd ["self"] [] ∧ FnOk P w K mg base CX0 1 ge fd ["self"] (getSp C g)
theorem nox_pass {X : Cx} : Passes CX0 X.nox E0 := fun _ _ _ _ _ _ _ h => h.elim
def tPrp (C : Addr) (g : Str) (ta : TE) : TE := fun σ H Q => ta σ H fun x H1 => ∃ (a dx : Addr) (fs : List (Str × V)) (v : V), x = .ref a ∧ H1 a = some (.ins C dx fs) ∧ fs.lookup g = some v ∧ Q v H1
theorem pe_prp {X : Cx} {j : Nat} {C : Addr} {f g : Str} {e : Expr} {pos : Pos} {ta : TE} (G : Prp X.prog X.w X.K X.mg X.base C f g) (hr : Room j X.A) (he : PE X e ta) (hj : 2 ≤ j := by decide)
    (hab : attributeBase e f X.env (eval e X.env) = eval e X.env := by rfl) : PE X (.Attribute e f pos) (tPrp C g ta) := by
  obtain ⟨p, ge, fd, hp, hb, F⟩ := G.ex
  refine ⟨fun pins s σ H Q I h => ?_⟩
  refine attr_of hab (thn (he.run pins s σ H _ I h) fun u s1 ⟨x, H1, I1, rx, a, dx, fs, v, ex, ea, l, q⟩ => ?_)
  subst ex
  obtain rfl : u = Value.ref a := rx
  exact getprop_ok I1 ea G.cl hp F (hr.mono hj) hb .nil nox_pass ⟨a, dx, fs, v, rfl, ea, l, q⟩
theorem same_t {K : PySem.W.Frag} {H H' : Hp} {a : Addr} {xs : List V} (e : Same H H') (h : SqT K H a xs) : SqT K H' a xs := by
  rcases h with (h | ⟨o, h⟩) | h
  · exact .inl (.inl (e _ _ h))
  · exact .inl (.inr ⟨o, e _ _ h⟩)
  · exact .inr h
mutual
theorem dp_same {K : PySem.W.Frag} {H H' : Hp} (e : Same H H') : ∀ {v : V} {d : PyData}, Dp K H v d → Dp K H' v d
  | _, _, .non => .non
  | _, _, .bl b => .bl b
  | _, _, .int i => .int i
  | _, _, .str x => .str x
  | _, _, .lst h r => .lst (e.seq h) (dpAll_same e r)
  | _, _, .tup h r => .tup (same_t e h) (dpAll_same e r)
theorem dpAll_same {K : PySem.W.Frag} {H H' : Hp} (e : Same H H') : ∀ {vs : List V} {ds : List PyData}, DpAll K H vs ds → DpAll K H' vs ds
  | _, _, .nil => .nil
  | _, _, .cons h r => .cons (dp_same e h) (dpAll_same e r)
end
/-! ### the order of data, for lists of alike rows -/
def ltP (p q : V × PyData) : Bool := PySem.W.dataLt p.2 q.2
/-! ### ascending: rows put in their places one by one -/
section
variable {α : Type} (lt : α → α → Bool)
/-- behind the last one that it isn't less than: l read from its end -/
def insR (x : α) : List α → List α
  | [] => [x]
  | e :: r => if lt x e then e :: insR x r else x :: e :: r
/-- the rows in ascending order (l is kept turned round) -/
def asc (l : List α) : List α := (l.foldl (fun acc x => insR lt x acc) []).reverse
theorem insR_perm (x : α) : ∀ l : List α, (insR lt x l).Perm (x :: l)
  | [] => .refl _
  | e :: r => by
    unfold insR
    split
    · exact ((insR_perm x r).cons e).trans (List.Perm.swap x e r)
    · exact .refl _
theorem asc_fold_perm : ∀ (l acc : List α), (l.foldl (fun acc x => insR lt x acc) acc).Perm (l ++ acc)
  | [], acc => .refl _
  | x :: l, acc => by
    rw [List.foldl_cons]
    refine (asc_fold_perm l _).trans ?_
    refine ((insR_perm lt x acc).append_left l).trans ?_
    exact List.perm_middle
theorem asc_perm (l : List α) : (asc lt l).Perm l := by
  unfold asc
  refine (List.reverse_perm _).trans ?_
  have := asc_fold_perm lt l []
  rwa [List.append_nil] at this
theorem asc_len (l : List α) : (asc lt l).length = l.length := (asc_perm lt l).length_eq
/-- a strict order on what the list holds -/
structure Ord (S : α → Prop) : Prop where
  irr : ∀ a, S a → lt a a = false
  tr : ∀ a b c, S a → S b → S c → lt a b = true → lt b c = true → lt a c = true
  tot : ∀ a b, S a → S b → lt a b = true ∨ a = b ∨ lt b a = true
variable {lt}
/-- from the end: no one is less than the next -/
def Down (lt : α → α → Bool) (l : List α) : Prop := l.Pairwise fun a b => lt a b = false
theorem Ord.nlt_tr {S : α → Prop} (O : Ord lt S) {a b c : α} (ha : S a) (hb : S b) (hc : S c) (h1 : lt a b = false) (h2 : lt b c = false) : lt a c = false := by
  cases e : lt a c with
  | false => rfl
  | true =>
    rcases O.tot b c hb hc with h | h | h
    · rw [h] at h2; cases h2
    · rw [← h, h1] at e; cases e
    · have := O.tr a c b ha hc hb e h
      rw [this] at h1; cases h1
theorem insR_down {S : α → Prop} (O : Ord lt S) {x : α} (hx : S x) : ∀ {l : List α}, (∀ a ∈ l, S a) → Down lt l → Down lt (insR lt x l)
  | [], _, _ => by unfold insR Down; exact List.pairwise_singleton _ _
  | e :: r, hs, d => by
    have d' := List.pairwise_cons.mp d
    have he := hs e List.mem_cons_self
    unfold insR
    split
    · rename_i h
      refine List.pairwise_cons.mpr ⟨fun b hb => ?_, insR_down O hx (fun a ha => hs a (List.mem_cons_of_mem _ ha)) d'.2⟩
      rcases List.mem_cons.mp ((insR_perm lt x r).mem_iff.mp hb) with e1 | hb
      · subst e1
        cases q : lt e b with
        | false => rfl
        | true =>
          have := O.tr b e b hx he hx h q
          rw [O.irr b hx] at this; cases this
      · exact d'.1 b hb
    · rename_i h
      have h0 : lt x e = false := by simpa using h
      refine List.pairwise_cons.mpr ⟨fun b hb => ?_, d⟩
      rcases List.mem_cons.mp hb with e1 | hb
      · rw [e1]; exact h0
      · exact O.nlt_tr hx he (hs b (List.mem_cons_of_mem _ hb)) h0 (d'.1 b hb)
theorem asc_fold_down {S : α → Prop} (O : Ord lt S) : ∀ {l acc : List α}, (∀ a ∈ l, S a) → (∀ a ∈ acc, S a) → Down lt acc → Down lt (l.foldl (fun acc x => insR lt x acc) acc)
  | [], _, _, _, d => d
  | x :: l, acc, hl, ha, d => by
    rw [List.foldl_cons]
    refine asc_fold_down O (fun a h => hl a (List.mem_cons_of_mem _ h)) (fun a h => ?_) (insR_down O (hl x List.mem_cons_self) ha d)
    rcases List.mem_cons.mp ((insR_perm lt x acc).mem_iff.mp h) with e | h
    · rw [e]; exact hl x List.mem_cons_self
    · exact ha a h
/-- ascending: no later one is less than an earlier one -/
theorem asc_up {S : α → Prop} (O : Ord lt S) {l : List α} (hl : ∀ a ∈ l, S a) : (asc lt l).Pairwise fun a b => lt b a = false := by
  unfold asc
  exact List.pairwise_reverse.mpr (asc_fold_down O hl (fun _ h => by cases h) List.Pairwise.nil)
/-- two ascending lists of the same things are one -/
theorem up_unique {S : α → Prop} (O : Ord lt S) : ∀ {l m : List α}, (∀ a ∈ l, S a) → l.Perm m → (l.Pairwise fun a b => lt b a = false) → (m.Pairwise fun a b => lt b a = false) → l = m
  | [], m, _, p, _, _ => (List.Perm.nil_eq p)
  | a :: l, [], _, p, _, _ => absurd p.length_eq (by simp)
  | a :: l, b :: m, hs, p, d1, d2 => by
    have e1 := List.pairwise_cons.mp d1
    have e2 := List.pairwise_cons.mp d2
    have ha := hs a List.mem_cons_self
    have hb : S b := hs b (p.mem_iff.mpr List.mem_cons_self)
    have eab : a = b := by
      rcases List.mem_cons.mp (p.mem_iff.mp (List.mem_cons_self (a := a))) with e | h
      · exact e
      · have h1 := e2.1 a h
        rcases List.mem_cons.mp (p.mem_iff.mpr (List.mem_cons_self (a := b))) with e | h'
        · exact e.symm
        · have h2 := e1.1 b h'
          rcases O.tot a b ha hb with z | z | z
          · rw [z] at h1; cases h1
          · exact z
          · rw [z] at h2; cases h2
    subst eab
    rw [up_unique O (fun x hx => hs x (List.mem_cons_of_mem _ hx)) (List.Perm.cons_inv p) e1.2 e2.2]
end
theorem insR_split {α : Type} {lt : α → α → Bool} {x : α} : ∀ {l m : List α}, (∀ e ∈ l, lt x e = true) → (∀ e r, m = e :: r → lt x e = false) → insR lt x (l ++ m) = l ++ x :: m
  | [], [], _, _ => rfl
  | [], e :: r, _, h => by
    show (if lt x e then e :: insR lt x r else x :: e :: r) = _
    rw [h e r rfl]
    rfl
  | e :: l, m, h1, h2 => by
    show (if lt x e then e :: insR lt x (l ++ m) else x :: e :: (l ++ m)) = _
    rw [h1 e List.mem_cons_self, insR_split (fun a ha => h1 a (List.mem_cons_of_mem _ ha)) h2]
    rfl
/-! ### texts in order -/
def ltS (a b : Str) : Bool := decide (a.cps.toList < b.cps.toList)
theorem str_ext {x y : Str} (h : x.cps.toList = y.cps.toList) : x = y := by
  cases x; cases y
  simp only [Str.mk.injEq]
  exact Array.ext' h
theorem ordS : Ord ltS (fun _ => True) where
  irr := fun a _ => decide_eq_false (List.lt_irrefl _)
  tr := fun a b c _ _ _ h1 h2 => decide_eq_true (List.lt_trans (of_decide_eq_true h1) (of_decide_eq_true h2))
  tot := fun a b _ _ => by
    by_cases h : a.cps.toList < b.cps.toList
    · exact .inl (decide_eq_true h)
    · by_cases h2 : b.cps.toList < a.cps.toList
      · exact .inr (.inr (decide_eq_true h2))
      · exact .inr (.inl (str_ext (List.le_antisymm (List.not_lt.mp h2) (List.not_lt.mp h))))
end M

namespace M
open PySem PySem.Spec PyProof.Rows L2
/-! ### lists of texts -/
theorem insR_map {α β : Type} {lt : α → α → Bool} {lt2 : β → β → Bool} {f : α → β} (h : ∀ a b, lt2 (f a) (f b) = lt a b) (x : α) : ∀ l : List α, insR lt2 (f x) (l.map f) = (insR lt x l).map f
  | [] => rfl
  | e :: r => by
    show (if lt2 (f x) (f e) then f e :: insR lt2 (f x) (r.map f) else f x :: f e :: r.map f) = (if lt x e then e :: insR lt x r else x :: e :: r).map f
    rw [h, insR_map h x r]
    split <;> rfl
theorem asc_foldmap {α β : Type} {lt : α → α → Bool} {lt2 : β → β → Bool} {f : α → β} (h : ∀ a b, lt2 (f a) (f b) = lt a b) : ∀ l acc : List α, (l.map f).foldl (fun acc x => insR lt2 x acc) (acc.map f) = (l.foldl (fun acc x => insR lt x acc) acc).map f
  | [], _ => rfl
  | x :: r, acc => by
    show (r.map f).foldl _ (insR lt2 (f x) (acc.map f)) = _
    rw [insR_map h x acc]
    exact asc_foldmap h r _
theorem asc_map {α β : Type} {lt : α → α → Bool} {lt2 : β → β → Bool} {f : α → β} (h : ∀ a b, lt2 (f a) (f b) = lt a b) (l : List α) : asc lt2 (l.map f) = (asc lt l).map f := by
  unfold asc
  rw [List.map_reverse, ← asc_foldmap h l []]
  rfl
/-- the texts ascending -/
def upS (l : List Str) : List Str := asc ltS l
def dS (s : Str) : V × PyData := (.str s, .str s)
theorem ltP_dS (a b : Str) : ltP (dS a) (dS b) = ltS a b := PySem.W.dataLt_str a b
theorem asc_dS (l : List Str) : (asc ltP (l.map dS)).map (·.1) = (upS l).map V.str := by
  rw [asc_map (lt := ltS) ltP_dS, List.map_map]
  rfl
theorem upS_perm (l : List Str) : (upS l).Perm l := asc_perm ltS l
theorem risingS_all : ∀ (r : List Str) (p : Str), risingS p r = true → (p :: r).Pairwise fun a b => ltS b a = false
  | [], p, _ => List.pairwise_singleton _ _
  | x :: r, p, h => by
    have h' : (!ltCps x.cps.toList p.cps.toList && risingS x r) = true := h
    rw [Bool.and_eq_true] at h'
    have i := risingS_all r x h'.2
    have e1 : ltS x p = false := by
      have := h'.1
      rw [ltCps_eq] at this
      unfold ltS
      simpa using this
    refine List.pairwise_cons.mpr ⟨fun y hy => ?_, i⟩
    rcases List.mem_cons.mp hy with rfl | hy
    · exact e1
    · have e2 := (List.pairwise_cons.mp i).1 y hy
      exact Ord.nlt_tr ordS trivial trivial trivial e2 e1
theorem sortedS_up {l : List Str} (h : sortedS l = true) : l.Pairwise fun a b => ltS b a = false := by
  cases l with
  | nil => exact .nil
  | cons x r => exact risingS_all r x h
theorem sortedS_eq {ys xs : List Str} (p : ys.Perm xs) (h : sortedS ys = true) : ys = upS xs :=
  up_unique ordS (fun _ _ => trivial) (p.trans (upS_perm xs).symm) (sortedS_up h) (asc_up ordS fun _ _ => trivial)
theorem inV_strs (x : Str) (l : List Str) : inV (.str x) (l.map V.str) = decide (x ∈ l) := by
  unfold inV
  rw [List.any_map, Bool.eq_iff_iff, List.any_eq_true, decide_eq_true_iff]
  constructor
  · rintro ⟨y, hy, e⟩
    have e' : eqV (.str y) (.str x) = true := e
    have : y = x := by simpa [eqV] using e'
    rw [← this]; exact hy
  · intro h
    exact ⟨x, h, by simp [eqV]⟩
theorem flat_strs (l : List Str) : (l.map V.str).all flatV = true := by
  rw [List.all_map, List.all_eq_true]
  exact fun _ _ => rfl
theorem dp_strs {K : PySem.W.Frag} {H : Hp} : ∀ l : List Str, DpAll K H (l.map V.str) (l.map PyData.str)
  | [] => .nil
  | x :: l => .cons (.str x) (dp_strs l)
theorem dp_strL {K : PySem.W.Frag} {H : Hp} {a : Addr} {l : List Str} (h : SqL K H a (l.map V.str)) : Dp K H (.ref a) (.list (l.map .str)) := .lst h (dp_strs l)
theorem eqv_strs : ∀ l m : List Str, PyData.eqvAll (l.map .str) (m.map .str) = decide (l = m)
  | [], [] => by simp [PyData.eqvAll]
  | [], _ :: _ => by simp [PyData.eqvAll]
  | _ :: _, [] => by simp [PyData.eqvAll]
  | x :: l, y :: m => by
    show PyData.eqvAll (PyData.str x :: l.map .str) (PyData.str y :: m.map .str) = _
    rw [PyData.eqvAll, eqv_strs l m]
    have e : PyData.eqv (.str x) (.str y) = decide (x = y) := by
      rw [PyData.eqv]
      by_cases h : x = y
      · rw [h, decide_eq_true rfl]; exact beq_self_eq_true y
      · rw [decide_eq_false h]; exact beq_false_of_ne h
    rw [e]
    by_cases h1 : x = y <;> by_cases h2 : l = m <;> simp [h1, h2]
theorem eqv_strL (l m : List Str) : PyData.eqv (.list (l.map .str)) (.list (m.map .str)) = decide (l = m) := by
  rw [← eqv_strs l m, PyData.eqv]
theorem eqS_self (l : List Str) : PyData.eqv (.list (l.map .str)) (.list (l.map .str)) = true := by rw [eqv_strL, decide_eq_true rfl]
theorem canlay_strs : ∀ l : List Str, (∀ x ∈ l, PyData.strOk x = true) → PyData.canLayAll0 (l.map PyData.str) = true
  | [], _ => rfl
  | x :: l, h => by
    show PyData.canLayAll0 (PyData.str x :: l.map .str) = true
    rw [PyData.canLayAll0, canlay_strs l fun y hy => h y (List.mem_cons_of_mem _ hy), PyData.canLay0, h x List.mem_cons_self]
    rfl
theorem depth_strs : ∀ l : List Str, PyData.depthAll (l.map PyData.str) ≤ 1
  | [] => by rw [List.map_nil, PyData.depthAll]; decide
  | x :: l => by
    show PyData.depthAll (PyData.str x :: l.map .str) ≤ 1
    rw [PyData.depthAll, PyData.depth]
    have := depth_strs l
    omega
theorem shaped_strL (l : List Str) (h : ∀ x ∈ l, PyData.strOk x = true) : SeqAt.shaped (.list (l.map PyData.str)) = true := by
  unfold SeqAt.shaped
  rw [PyData.canLay0, PyData.depth, canlay_strs l h, decide_eq_true (by have := depth_strs l; omega)]
  rfl
theorem tYes_if {σ : L2.St} {H : Hp} {A B : Hp → Prop} (h : A H) : tYes σ H (fun b H3 => if b = true then A H3 else B H3) := h
theorem nmC_lt {d n k : Nat} : ∀ c ∈ nmC d n k, c < 128 := by
  have hl : ∀ j, ltr d j < 128 := fun j => by
    unfold ltr
    have := Nat.mod_lt (d / 4 % 26 + 7 * j) (show 26 > 0 by decide)
    omega
  intro c hc
  unfold nmC at hc
  split at hc
  · rw [List.mem_singleton.mp hc]; exact hl _
  split at hc
  · simp only [List.mem_append, List.mem_singleton, List.mem_replicate] at hc
    rcases hc with ⟨_, rfl⟩ | rfl | ⟨_, rfl⟩ <;> first | exact hl _ | decide
  split at hc
  · rw [(List.mem_replicate.mp hc).2]; have := Nat.mod_lt (d / 4) (show 26 > 0 by decide); omega
  · rcases List.mem_cons.mp hc with rfl | hc
    · exact hl _
    · have h2 := List.mem_of_mem_take hc
      have h3 : ∀ c ∈ tailZ, c < 128 := by decide
      exact h3 c h2
theorem nm_strOk (d n k : Nat) : PyData.strOk (nm d n k) = true := by
  unfold PyData.strOk nm
  rw [Array.all_eq_true']
  intro c hc
  have := nmC_lt (d := d) (n := n) (k := k) c (by simpa using hc)
  exact decide_eq_true (by omega)
theorem nmL_ok {d n : Nat} : ∀ x ∈ nmL d n, PyData.strOk x = true := fun x hx => by
  obtain ⟨k, _, rfl⟩ := List.mem_map.mp hx
  exact nm_strOk d n k
/-! ### a statement whose ends meet: J is what holds behind it -/
def tJ (t : TS) : TS := fun D σ H => ∃ J : L2.St → Hp → Prop, t { D with nx := J } σ H ∧ ∀ σ' H', J σ' H' → D.nx σ' H'
theorem ps_j {X : Cx} {st : Stmt} {t : TS} (h : PS X st t) : PS X st (tJ t) := by
  refine ⟨fun pins s σ H D I hw => ?_⟩
  obtain ⟨J, h1, h2⟩ := hw
  refine thn (h.run pins s σ H { D with nx := J } I h1) fun fl s' q => ?_
  cases fl with
  | next =>
    obtain ⟨σ', H', I', z⟩ := q
    exact ⟨σ', H', I', h2 _ _ z⟩
  | ret u => exact q
  | brk => exact q
  | cont => exact q
/-! ### built-in names that the text leaves free -/
def bnames : List Str := ["abs", "int", "len", "range", "list", "str", "sorted", "isinstance", "tuple", "enumerate", "dict", "set", "bool", "min", "max", "sum", "any", "all", "zip", "reversed", "ValueError", "type"]
structure Bj (mg : Str → Option Value) : Prop extends Bi mg where
  list : mg "list" = none
  str : mg "str" = none
  sorted : mg "sorted" = none
  isinstance : mg "isinstance" = none
  tuple : mg "tuple" = none
  enumerate : mg "enumerate" = none
  dict : mg "dict" = none
  set : mg "set" = none
  bool : mg "bool" = none
  min : mg "min" = none
  max : mg "max" = none
  sum : mg "sum" = none
  any : mg "any" = none
  all : mg "all" = none
  zip : mg "zip" = none
  reversed : mg "reversed" = none
  ValueError : mg "ValueError" = none
  type : mg "type" = none
theorem Bj.of {mg : Str → Option Value} (h : ∀ x ∈ bnames, mg x = none) : Bj mg := by
  constructor
  · constructor <;> exact h _ (by simp [bnames])
  all_goals exact h _ (by simp [bnames])
end M

namespace M
open PySem PySem.Spec PyProof.Rows L2 PySem.XEx
/-! ### own exceptions as values -/
/-- an exception object of the class at C with the own dict d, at a -/
def XV (C : Addr) (d : Option Addr) (a : Addr) : HO := .ext fun h => ∃ (oe : Obj) (vs : Array Value), h.get? a = some oe ∧ Zc (.ref C) d oe ∧ oe.data = .fields vs
theorem xv_ok {P : Program} {w : World} {H : Hp} {h : Heap} {a C : Addr} {d : Option Addr} {oe : Obj} {vs : Array Value} (e : h.get? a = some oe) (z : Zc (.ref C) d oe) (hd : oe.data = .fields vs) : ObjOk P w H h a (XV C d a) :=
  ⟨⟨oe, vs, e, z, hd⟩, ⟨oe, e⟩, fun _ _ ⟨o, v, q, r⟩ k => ⟨o, v, k o q, r⟩⟩
def tMkV (C : Addr) (fs : List Str) (ta : TA) : TE := fun σ H Q => ta σ H fun vs H1 => vs.length = fs.length ∧ (fs = [] → ∀ a, H1 a = none → Q (.ref a) (upd H1 a (XV C none a))) ∧
  (fs ≠ [] → ∀ d a, H1 d = none → H1 a = none → a ≠ d → Q (.ref a) (upd (upd H1 d (.xd (fs.zip vs).reverse)) a (XV C (some d) a)))
section
variable {X : Cx} {C : Addr} {fs : List Str} {params : Arguments} {body : List Stmt} {scope : Scope} {k : Nat}
theorem run_mkv {pins : List (Addr × Obj)} {σ : L2.St} {H : Hp} {s : Shared} {Q : VK} {us : List Value} {vs : List V} (T : XCls X.prog X.K C fs params body scope) (I : IText fs params body scope) (hr : Room k X.A) (I1 : Inv X pins σ H s) (r : Vals vs us) (hl : vs.length = fs.length)
    (q0 : fs = [] → ∀ a, H a = none → Q (.ref a) (upd H a (XV C none a))) (q1 : fs ≠ [] → ∀ d a, H d = none → H a = none → a ≠ d → Q (.ref a) (upd (upd H d (.xd (fs.zip vs).reverse)) a (XV C (some d) a))) :
    wpAny (model X.prog X.w) X.A (call (.ref C) us) (EP X pins σ Q) X.xe s := by
  obtain ⟨mb, hB, hmb⟩ := I1.ok.mod.blt
  have hlim := I1.nolimit
  refine wpAny_call (exc_made (mg := X.mg) (mb := mb) T I I1.kIn hlim (I1.ok.mod.glob.keeps I1.bk) (hB.keeps I1.bk) (hmb _ (by decide +kernel)) (by have := hr.dp; omega) (by rw [← hl, r.length]) fun h' tk e d M => ?_)
  obtain ⟨hp, g, dr, t, os⟩ := s
  obtain ⟨oe, fv, hoe, hc, hd, hdat, h1⟩ := M.obj
  have hne : H e = none := I1.hok.fresh M.new
  have hge : hp.get? e = none := by
    cases z : hp.get? e with
    | none => rfl
    | some o => exact absurd (Nat.lt_of_lt_of_le (Heap.lt_size z) M.new) (Nat.lt_irrefl _)
  cases d with
  | none =>
    have hz : (fs.zip us).reverse = [] := M.dct
    have hfs : fs = [] := by
      cases fs with
      | nil => rfl
      | cons f fs =>
        cases us with
        | nil =>
          rw [r.length] at hl
          cases hl
        | cons u us => simp at hz
    exact ⟨.ref e, _, I1.laid (t' := tk) M.keep M.new (xv_ok hoe ⟨hc, hd⟩ hdat), rfl, q0 hfs e hne⟩
  | some dx =>
    obtain ⟨dlo, dne, hpn, hns⟩ := M.dct
    have hfs : fs ≠ [] := fun z => by
      rw [z] at hpn
      simp at hpn
    obtain ⟨G', g1, g2⟩ := restrict h' fun b => decide (b ≠ e)
    have gk : ∀ b, b ≠ e → G'.get? b = h'.get? b := fun b hb => g1 b (decide_eq_true hb)
    have ge : G'.get? e = none := g2 e (by simp)
    have old : ∀ b o, hp.get? b = some o → G'.get? b = some o := fun b o z => (gk b (fun y => by rw [y, hge] at z; cases z)).trans (M.keep b o z)
    have ob : ObjOk X.prog X.w (upd H dx (.xd (fs.zip vs).reverse)) G' dx (.xd (fs.zip vs).reverse) :=
      ⟨_, hns.at (fun o z => (gk dx dne).trans z), relO_rev r⟩
    have J : Inv X pins σ (upd H dx (.xd (fs.zip vs).reverse)) ⟨G', g, dr, tk, os⟩ := I1.laid (t' := tk) old dlo ob
    have hne2 : (upd H dx (.xd (fs.zip vs).reverse)) e = none := by rw [upd_ne (Ne.symm dne)]; exact hne
    have J2 := J.laidN (h' := h') (t' := tk) (a := e) (o := XV C (some dx) e) (fun b u z => by
      by_cases hb : b = e
      · have z' : G'.get? b = some u := z
        rw [hb, ge] at z'; cases z'
      · exact (gk b hb).symm.trans z) ge hne2 (xv_ok hoe ⟨hc, hd⟩ hdat)
    exact ⟨.ref e, _, J2, rfl, q1 hfs dx e (I1.hok.fresh dlo) hne (Ne.symm dne)⟩
theorem pe_mkv {x : Str} {e : Expr} {es : List Expr} {ta : TA} {p pos : Pos} (T : XCls X.prog X.K C fs params body scope) (I : IText fs params body scope) (hm : X.mg x = some (.ref C)) (hr : Room k X.A) (ha : PA X (e :: es) ta) (hg : Gl X x := by rfl) (hdb : (x == ("__debug__" : Str)) = false := by decide)
    (he : starEach (e :: es) X.env = (false, eval e X.env) :: starEach es X.env := by rfl) (hpl : (backTo pos (starEach es X.env)).any (·.1) = false := by rfl) : PE X (.Call (.Name x p) (e :: es) [] pos) (tMkV C fs ta) := by
  refine ⟨fun pins s σ H Q J h => ?_⟩
  refine wpAny_Call_Name_kw (ld_glob J hg hm ?_ hdb)
  refine PySem.W.callWith_K (h₀ := X.base) J.ok.mod.kin T.kC (thn (ha.run pos pins s σ H _ J h) fun us s1 hh => ?_) he hpl
  obtain ⟨vs, H1, I1, r1, hl, q0, q1⟩ := hh
  exact ⟨I1.kIn, run_mkv T I hr I1 r1 hl q0 q1⟩
theorem pe_mkv0 {x : Str} {p pos : Pos} (T : XCls X.prog X.K C fs params body scope) (I : IText fs params body scope) (hm : X.mg x = some (.ref C)) (hr : Room k X.A) (hg : Gl X x := by rfl) (hdb : (x == ("__debug__" : Str)) = false := by decide) : PE X (.Call (.Name x p) [] [] pos) (tMkV C fs tNil) := by
  refine ⟨fun pins s σ H Q J h => ?_⟩
  refine wpAny_Call_Name_kw (ld_glob J hg hm ?_ hdb)
  obtain ⟨hl, q0, q1⟩ := h
  exact PySem.W.callWith_K0 J.kIn T.kC (run_mkv T I hr J (.nil : Vals [] []) hl q0 q1)
end
/-- such an object: its address, class, dict, and what the dict holds -/
structure XR where
  a : Addr
  C : Addr
  d : Option Addr
  ps : List (Str × V)
def XObj (H : Hp) (x : XR) : Prop := H x.a = some (XV x.C x.d x.a) ∧ (x.d = none ∨ ∃ dd, x.d = some dd ∧ H dd = some (.xd x.ps))
theorem XObj.same {H H' : Hp} {x : XR} (s : Same H H') (h : XObj H x) : XObj H' x := by
  refine ⟨s _ _ h.1, ?_⟩
  rcases h.2 with h | ⟨dd, e, h⟩
  · exact .inl h
  · exact .inr ⟨dd, e, s _ _ h⟩
theorem XObj.made {H : Hp} {C d a : Addr} {ps : List (Str × V)} (nd : H d = none) (na : H a = none) (ne : a ≠ d) : Same H (upd (upd H d (.xd ps)) a (XV C (some d) a)) ∧ XObj (upd (upd H d (.xd ps)) a (XV C (some d) a)) ⟨a, C, some d, ps⟩ := by
  have na2 : (upd H d (.xd ps)) a = none := by rw [upd_ne ne]; exact na
  refine ⟨((Same.refl H).new nd).new na2, ?_, .inr ⟨d, rfl, ?_⟩⟩
  · rw [upd_same]
  · show upd (upd H d (.xd ps)) a (XV C (some d) a) d = _
    rw [upd_ne (Ne.symm ne), upd_same]
theorem XObj.made0 {H : Hp} {C a : Addr} (na : H a = none) : Same H (upd H a (XV C none a)) ∧ XObj (upd H a (XV C none a)) ⟨a, C, none, []⟩ :=
  ⟨(Same.refl H).new na, upd_same, .inl rfl⟩
/-- what reading an exception's fields and isinstance ask of its class -/
structure XKit (K : PySem.W.Frag) (C : Addr) : Prop where
  hcl : (PySem.W.clsIn K C).isSome = true
  ga : PySem.W.findIn K (.ref C) "__getattribute__" = some (some (.builtin "BaseException.__getattribute__"))
  gg : PySem.W.findIn K (.ref C) "__getattr__" = some none
  exC : PySem.W.subIn K (.ref C) (.type "BaseException") = some true
  cl : PySem.W.findIn K (.ref C) "__class__" = some (some (.builtin "object.__class__"))
  sp : PySem.W.specialIn K (.builtin "object.__class__") "__get__" = some (some (.builtin "getset_descriptor.__get__"))
  tk : PySem.W.takesIn K (.builtin "object.__class__") = some true
  mr : PySem.W.mroIn K C (.type "object") = some true
  hd : PySem.W.hasDictIn K C = true
def XKit.ok (K : PySem.W.Frag) (C : Addr) : Bool := (PySem.W.clsIn K C).isSome && (He.eqO (PySem.W.findIn K (.ref C) "__getattribute__") (some (some (.builtin "BaseException.__getattribute__"))) && (He.eqO (PySem.W.findIn K (.ref C) "__getattr__") (some none) &&
  (decide (PySem.W.subIn K (.ref C) (.type "BaseException") = some true) && (He.eqO (PySem.W.findIn K (.ref C) "__class__") (some (some (.builtin "object.__class__"))) && (He.eqO (PySem.W.specialIn K (.builtin "object.__class__") "__get__") (some (some (.builtin "getset_descriptor.__get__"))) &&
  (decide (PySem.W.takesIn K (.builtin "object.__class__") = some true) && (decide (PySem.W.mroIn K C (.type "object") = some true) && PySem.W.hasDictIn K C)))))))
theorem XKit.of {K : PySem.W.Frag} {C : Addr} (c : XKit.ok K C = true) : XKit K C := by
  unfold XKit.ok at c
  obtain ⟨c0, c⟩ := He.ba c
  obtain ⟨c1, c⟩ := He.ba c
  obtain ⟨c2, c⟩ := He.ba c
  obtain ⟨c3, c⟩ := He.ba c
  obtain ⟨c4, c⟩ := He.ba c
  obtain ⟨c5, c⟩ := He.ba c
  obtain ⟨c6, c⟩ := He.ba c
  obtain ⟨c7, c8⟩ := He.ba c
  exact ⟨c0, He.eqO_ok c1, He.eqO_ok c2, of_decide_eq_true c3, He.eqO_ok c4, He.eqO_ok c5, of_decide_eq_true c6, of_decide_eq_true c7, c8⟩
section
variable {X : Cx}
theorem x_inst {pins : List (Addr × Obj)} {σ : L2.St} {H : Hp} {s : Shared} (I : Inv X pins σ H s) {x : XR} (h : XObj H x) : ∃ (ox : Obj) (od : Option Obj), PySem.W.InstAt s.heap x.a ox x.C od ∧
    (∀ dd ps, x.d = some dd → H dd = some (.xd ps) → ∃ (mA : Str → Option Value) (o : Obj), od = some o ∧ (∀ f, PySem.W.lookIn f o = some (mA f)) ∧ ∀ f, RelO (ps.lookup f) (mA f)) := by
  obtain ⟨⟨oe, vs, e, z, hd⟩, _, _⟩ := (show ObjOk X.prog X.w H s.heap x.a (XV x.C x.d x.a) from I.hok _ _ h.1)
  rcases h.2 with hn | ⟨dd, ed, hx⟩
  · refine ⟨oe, none, ⟨e, z.1, by unfold PySem.W.notCls; rw [hd] <;> rfl, by rw [z.2, hn]; trivial⟩, fun dd ps h2 => ?_⟩
    rw [hn] at h2; cases h2
  · obtain ⟨mA, hns, hr⟩ := (show ObjOk X.prog X.w H s.heap dd (.xd x.ps) from I.hok dd _ hx)
    obtain ⟨od, ho, hl⟩ := lookIn_ns hns
    refine ⟨oe, some od, ⟨e, z.1, by unfold PySem.W.notCls; rw [hd] <;> rfl, by rw [z.2, ed]; exact ho⟩, fun dd2 ps h2 h3 => ?_⟩
    rw [ed] at h2
    cases h2
    rw [hx] at h3
    cases h3
    exact ⟨mA, od, rfl, hl, hr⟩
def rIsX (K : PySem.W.Frag) : List V → Hp → VK → Prop := fun xs H Q => ∃ (x : XR) (c : V) (u : Value) (b : Bool), xs = [.ref x.a, c] ∧ ClsV c u ∧ XObj H x ∧ XKit K x.C ∧ PySem.W.kitOne K (.ref x.C) u = some b ∧ Q (.bl b) H
theorem call_isX : CallR X (.builtin "isinstance") (rIsX X.K) := by
  intro pins s σ H xs us Q I r h
  obtain ⟨x, c, u, b, rfl, k, hx, T, e, q⟩ := h
  obtain ⟨u1, u2, rfl, r1, r2⟩ := vals2 r
  cases (show u1 = Value.ref x.a from r1)
  have e2 := k.eq r2
  subst e2
  obtain ⟨ox, od, J, _⟩ := x_inst I hx
  exact PySem.W.kia_one (PySem.W.kitx_exc T.hcl T.ga T.gg T.exC T.cl T.sp T.tk T.mr) I.kIn J e (fun z => nomatch z) fun tk => ⟨.bl b, H, I.tok tk, rfl, q⟩
def tXf (K : PySem.W.Frag) (f : Str) (te : TE) : TE := fun σ H Q => te σ H fun y H1 => ∃ (x : XR) (v : V), y = .ref x.a ∧ XObj H1 x ∧ XKit K x.C ∧ PySem.W.findIn K (.ref x.C) f = some none ∧ x.d ≠ none ∧ x.ps.lookup f = some v ∧ Q v H1
theorem pe_xf {e : Expr} {te : TE} {pos : Pos} {f : Str} (he : PE X e te) (hb : attributeBase e f X.env (eval e X.env) = eval e X.env := by rfl) : PE X (.Attribute e f pos) (tXf X.K f te) := by
  refine ⟨fun pins s σ H Q I h => ?_⟩
  refine attr_of hb (thn (he.run pins s σ H _ I h) fun u s1 hh => ?_)
  obtain ⟨y, H1, I1, rx, x, v, ey, hx, T, hn, hd, l, q⟩ := hh
  subst ey
  obtain rfl : u = Value.ref x.a := rx
  obtain ⟨ox, od, J, hJ⟩ := x_inst I1 hx
  rcases hx.2 with h0 | ⟨dd, ed, hxd⟩
  · exact absurd h0 hd
  obtain ⟨mA, o, eo, hl, hr⟩ := hJ dd x.ps ed hxd
  subst eo
  obtain ⟨u, hu, ru⟩ := RelO.some_of (v := v) (o := mA f) (by rw [← l]; exact hr f)
  exact HandSPX.exc_get I1.kIn J T.ga T.gg T.exC (PySem.W.findObj_own T.hd hn rfl (by rw [hl, hu])) (handed_of ru) ⟨v, H1, I1.tok _, ru, q⟩
end
end M

namespace M
open PySem PySem.Spec PyProof.Rows L2
/-! ### _law_sorted's mathematics: put in behind all that are less -/
section
variable {α : Type} {lt : α → α → Bool}
def insC (lt : α → α → Bool) (x : α) (acc : List α) : List α := acc.take (acc.countP fun o => lt o x) ++ x :: acc.drop (acc.countP fun o => lt o x)
def srt (lt : α → α → Bool) (l : List α) : List α := l.foldl (fun acc x => insC lt x acc) []
theorem insC_perm (x : α) (acc : List α) : (insC lt x acc).Perm (x :: acc) := by
  unfold insC
  refine List.perm_middle.trans ?_
  rw [List.take_append_drop]
theorem srt_fold_perm : ∀ (l acc : List α), (l.foldl (fun acc x => insC lt x acc) acc).Perm (l ++ acc)
  | [], acc => .refl _
  | x :: r, acc => by
    show (r.foldl _ (insC lt x acc)).Perm _
    refine (srt_fold_perm r _).trans ?_
    refine ((insC_perm x acc).append_left r).trans ?_
    show (r ++ x :: acc).Perm (x :: (r ++ acc))
    exact List.perm_middle
theorem srt_perm (l : List α) : (srt lt l).Perm l := by
  have := srt_fold_perm (lt := lt) l []
  rwa [List.append_nil] at this
abbrev Up (lt : α → α → Bool) (l : List α) : Prop := l.Pairwise fun a b => lt b a = false
/-- in a list that goes up, those below x stand first -/
theorem up_split {S : α → Prop} (O : Ord lt S) {x : α} (hx : S x) : ∀ {l : List α}, (∀ a ∈ l, S a) → Up lt l → (∀ a ∈ l.take (l.countP fun o => lt o x), lt a x = true) ∧ ∀ a ∈ l.drop (l.countP fun o => lt o x), lt a x = false
  | [], _, _ => ⟨fun a h => by simp at h, fun a h => by simp at h⟩
  | e :: r, hs, hu => by
    have hu' := List.pairwise_cons.mp hu
    have ih := up_split O hx (l := r) (fun a h => hs a (List.mem_cons_of_mem _ h)) hu'.2
    cases q : lt e x with
    | true =>
      rw [List.countP_cons_of_pos (by exact q)]
      refine ⟨fun a h => ?_, fun a h => ?_⟩
      · rw [List.take_succ_cons] at h
        rcases List.mem_cons.mp h with rfl | h
        · exact q
        · exact ih.1 a h
      · rw [List.drop_succ_cons] at h
        exact ih.2 a h
    | false =>
      have hall : ∀ a ∈ r, lt a x = false := fun a h => O.nlt_tr (hs a (List.mem_cons_of_mem _ h)) (hs e List.mem_cons_self) hx (hu'.1 a h) q
      have h0 : (e :: r).countP (fun o => lt o x) = 0 := List.countP_eq_zero.mpr fun a h => by
        rcases List.mem_cons.mp h with rfl | h
        · rw [q]; decide
        · rw [hall a h]; decide
      rw [h0]
      refine ⟨fun a h => by simp at h, fun a h => ?_⟩
      rw [List.drop_zero] at h
      rcases List.mem_cons.mp h with rfl | h
      · exact q
      · exact hall a h
theorem insC_up {S : α → Prop} (O : Ord lt S) {x : α} (hx : S x) {l : List α} (hs : ∀ a ∈ l, S a) (hu : Up lt l) : Up lt (insC lt x l) := by
  obtain ⟨h1, h2⟩ := up_split O hx hs hu
  have hu2 : Up lt (l.take (l.countP fun o => lt o x) ++ l.drop (l.countP fun o => lt o x)) := by rw [List.take_append_drop]; exact hu
  obtain ⟨p1, p2, p3⟩ := List.pairwise_append.mp hu2
  unfold insC
  refine List.pairwise_append.mpr ⟨p1, List.pairwise_cons.mpr ⟨h2, p2⟩, fun a ha b hb => ?_⟩
  rcases List.mem_cons.mp hb with rfl | hb
  · cases q : lt b a with
    | false => rfl
    | true =>
      have := O.tr b a b hx (hs a (List.mem_of_mem_take ha)) hx q (h1 a ha)
      rw [O.irr b hx] at this
      cases this
  · exact p3 a ha b hb
theorem srt_fold_up {S : α → Prop} (O : Ord lt S) : ∀ {l acc : List α}, (∀ a ∈ l, S a) → (∀ a ∈ acc, S a) → Up lt acc → Up lt (l.foldl (fun acc x => insC lt x acc) acc)
  | [], _, _, _, h => h
  | x :: r, acc, hl, ha, h => by
    refine srt_fold_up O (l := r) (acc := insC lt x acc) (fun a h => hl a (List.mem_cons_of_mem _ h)) (fun a h => ?_) (insC_up O (hl x List.mem_cons_self) ha h)
    rcases List.mem_cons.mp ((insC_perm x acc).mem_iff.mp h) with rfl | h
    · exact hl _ List.mem_cons_self
    · exact ha a h
theorem srt_up {S : α → Prop} (O : Ord lt S) {l : List α} (hl : ∀ a ∈ l, S a) : Up lt (srt lt l) := srt_fold_up O hl (fun _ h => by cases h) .nil
theorem srt_asc {S : α → Prop} (O : Ord lt S) {l m : List α} (hl : ∀ a ∈ l, S a) (p : l.Perm m) : srt lt l = asc lt m := by
  refine up_unique O (fun a h => hl a ((srt_perm l).mem_iff.mp h)) ((srt_perm l).trans (p.trans (asc_perm lt m).symm)) (srt_up O hl) (asc_up O fun a h => hl a (p.mem_iff.mpr h))
end
/-! ### < of rows of data is an order where the rows differ in their signs -/
theorem ordD {S : PyData → Prop} (inj : ∀ a b, S a → S b → PySem.W.keyToks a = PySem.W.keyToks b → a = b) : Ord PySem.W.dataLt S where
  irr := fun a _ => PyProof.Rows.lex_irrefl _
  tr := fun a b c _ _ _ h1 h2 => PyProof.Rows.lex_trans _ _ _ h1 h2
  tot := fun a b ha hb => by
    cases h1 : PySem.W.dataLt a b with
    | true => exact .inl rfl
    | false =>
      cases h2 : PySem.W.dataLt b a with
      | true => exact .inr (.inr rfl)
      | false => exact .inr (.inl (inj a b ha hb (PyProof.Rows.lex_total _ _ h1 h2)))
end M

namespace M
open PySem PySem.Spec PyProof.Rows L2
/-! ### lists of things laid out in the heap -/
structure Pw {α : Type} (R : V → α → Prop) (vs : List V) (xs : List α) : Prop where
  len : vs.length = xs.length
  at_ : ∀ (i : Nat) v x, vs[i]? = some v → xs[i]? = some x → R v x
section
variable {α : Type} {R R' : V → α → Prop} {vs : List V} {xs : List α}
theorem Pw.nil : Pw R [] [] := ⟨rfl, fun _ _ _ h => by simp at h⟩
theorem Pw.mono (h : ∀ v x, R v x → R' v x) (p : Pw R vs xs) : Pw R' vs xs := ⟨p.len, fun i v x a b => h v x (p.at_ i v x a b)⟩
theorem Pw.get (p : Pw R vs xs) {i : Nat} {v : V} (h : vs[i]? = some v) : ∃ x, xs[i]? = some x ∧ R v x := by
  have hi : i < xs.length := by
    rw [← p.len]
    exact (List.getElem?_eq_some_iff.mp h).1
  exact ⟨xs[i], List.getElem?_eq_getElem hi, p.at_ i v _ h (List.getElem?_eq_getElem hi)⟩
theorem Pw.getR (p : Pw R vs xs) {i : Nat} {x : α} (h : xs[i]? = some x) : ∃ v, vs[i]? = some v ∧ R v x := by
  have hi : i < vs.length := by
    rw [p.len]
    exact (List.getElem?_eq_some_iff.mp h).1
  exact ⟨vs[i], List.getElem?_eq_getElem hi, p.at_ i _ x (List.getElem?_eq_getElem hi) h⟩
theorem Pw.snoc (p : Pw R vs xs) {v : V} {x : α} (h : R v x) : Pw R (vs ++ [v]) (xs ++ [x]) := by
  refine ⟨by rw [List.length_append, List.length_append, p.len]; rfl, fun i v' x' h1 h2 => ?_⟩
  by_cases hi : i < vs.length
  · rw [List.getElem?_append_left hi] at h1
    rw [List.getElem?_append_left (by rw [← p.len]; exact hi)] at h2
    exact p.at_ i _ _ h1 h2
  · rw [List.getElem?_append_right (by omega)] at h1
    rw [List.getElem?_append_right (by rw [← p.len]; omega)] at h2
    have e1 : i - vs.length = 0 := by
      have := (List.getElem?_eq_some_iff.mp h1).1
      simp at this
      omega
    rw [e1] at h1
    rw [← p.len, e1] at h2
    simp at h1 h2
    rw [← h1, ← h2]
    exact h
theorem Pw.mem (p : Pw R vs xs) : ∀ z ∈ vs.zip xs, R z.1 z.2 := fun z hz => by
  obtain ⟨i, hi, e⟩ := List.getElem_of_mem hz
  have h1 : i < vs.length := by rw [List.length_zip] at hi; omega
  have h2 : i < xs.length := by rw [List.length_zip] at hi; omega
  have e1 : (vs.zip xs)[i] = (vs[i], xs[i]) := List.getElem_zip
  rw [e1] at e
  rw [← e]
  exact p.at_ i _ _ (List.getElem?_eq_getElem h1) (List.getElem?_eq_getElem h2)
theorem Pw.of_zip {zs : List (V × α)} (h : ∀ z ∈ zs, R z.1 z.2) : Pw R (zs.map (·.1)) (zs.map (·.2)) := by
  refine ⟨by rw [List.length_map, List.length_map], fun i v x h1 h2 => ?_⟩
  rw [List.getElem?_map] at h1 h2
  cases e : zs[i]? with
  | none => rw [e] at h1; cases h1
  | some z =>
    rw [e] at h1 h2
    cases h1; cases h2
    exact h z (List.mem_of_getElem? e)
theorem Pw.fst (p : Pw R vs xs) : (vs.zip xs).map (·.1) = vs := by
  rw [List.map_fst_zip]
  rw [p.len]
  exact Nat.le_refl _
theorem Pw.snd (p : Pw R vs xs) : (vs.zip xs).map (·.2) = xs := by
  rw [List.map_snd_zip]
  rw [p.len]
  exact Nat.le_refl _
end
theorem insC_map {α β : Type} {lt : α → α → Bool} {lt2 : β → β → Bool} {f : α → β} (h : ∀ a b, lt2 (f a) (f b) = lt a b) (x : α) (l : List α) : insC lt2 (f x) (l.map f) = (insC lt x l).map f := by
  unfold insC
  have e : (l.map f).countP (fun o => lt2 o (f x)) = l.countP (fun o => lt o x) := by
    rw [List.countP_map]
    exact congrArg (fun g => List.countP g l) (funext fun o => h o x)
  rw [e, List.map_append, List.map_cons, List.map_take, List.map_drop]
theorem srt_foldmap {α β : Type} {lt : α → α → Bool} {lt2 : β → β → Bool} {f : α → β} (h : ∀ a b, lt2 (f a) (f b) = lt a b) : ∀ l acc : List α, (l.map f).foldl (fun acc x => insC lt2 x acc) (acc.map f) = (l.foldl (fun acc x => insC lt x acc) acc).map f
  | [], _ => rfl
  | x :: r, acc => by
    show (r.map f).foldl _ (insC lt2 (f x) (acc.map f)) = _
    rw [insC_map h x acc]
    exact srt_foldmap h r _
theorem srt_map {α β : Type} {lt : α → α → Bool} {lt2 : β → β → Bool} {f : α → β} (h : ∀ a b, lt2 (f a) (f b) = lt a b) (l : List α) : srt lt2 (l.map f) = (srt lt l).map f := srt_foldmap h l []
/-- what a list's things are as data -/
def ltA {α : Type} (D : α → PyData) (a b : α) : Bool := PySem.W.dataLt (D a) (D b)
section
variable {α : Type} {R : V → α → Prop} {vs : List V} {xs : List α} {D : α → PyData}
def zd (D : α → PyData) (zs : List (V × α)) : List (V × PyData) := zs.map fun z => (z.1, D z.2)
theorem zd_fst (p : Pw R vs xs) : (zd D (vs.zip xs)).map (·.1) = vs := by
  unfold zd
  rw [List.map_map]
  exact p.fst
theorem zd_mem {q : V × PyData} (h : q ∈ zd D (vs.zip xs)) (p : Pw R vs xs) : ∃ x ∈ xs, q.2 = D x ∧ R q.1 x := by
  obtain ⟨z, hz, rfl⟩ := List.mem_map.mp h
  exact ⟨z.2, (List.of_mem_zip hz).2, rfl, p.mem z hz⟩
theorem zd_len (p : Pw R vs xs) : (zd D (vs.zip xs)).length = xs.length := by
  unfold zd
  rw [List.length_map, List.length_zip, p.len, Nat.min_self]
theorem Pw.asc (p : Pw R vs xs) : Pw R ((asc ltP (zd D (vs.zip xs))).map (·.1)) (M.asc (ltA D) xs) := by
  have e1 : M.asc ltP (zd D (vs.zip xs)) = zd D (M.asc (fun a b : V × α => ltA D a.2 b.2) (vs.zip xs)) := asc_map (f := fun z : V × α => (z.1, D z.2)) (fun a b => rfl) _
  have e2 : M.asc (ltA D) xs = (M.asc (fun a b : V × α => ltA D a.2 b.2) (vs.zip xs)).map (·.2) := by
    rw [← asc_map (lt2 := ltA D) (f := fun z : V × α => z.2) (fun a b => rfl), p.snd]
  rw [e1, e2]
  unfold zd
  rw [List.map_map]
  exact Pw.of_zip fun z hz => p.mem z ((asc_perm _ _).mem_iff.mp hz)
theorem Pw.srt (p : Pw R vs xs) : Pw R ((srt ltP (zd D (vs.zip xs))).map (·.1)) (M.srt (ltA D) xs) := by
  have e1 : M.srt ltP (zd D (vs.zip xs)) = zd D (M.srt (fun a b : V × α => ltA D a.2 b.2) (vs.zip xs)) := srt_map (f := fun z : V × α => (z.1, D z.2)) (fun a b => rfl) _
  have e2 : M.srt (ltA D) xs = (M.srt (fun a b : V × α => ltA D a.2 b.2) (vs.zip xs)).map (·.2) := by
    rw [← srt_map (lt2 := ltA D) (f := fun z : V × α => z.2) (fun a b => rfl), p.snd]
  rw [e1, e2]
  unfold zd
  rw [List.map_map]
  exact Pw.of_zip fun z hz => p.mem z ((srt_perm _).mem_iff.mp hz)
end
/-- a list at a of things told by R -/
def LsA {α : Type} (R : Hp → V → α → Prop) (H : Hp) (a : Addr) (xs : List α) : Prop := ∃ vs, H a = some (.lst vs) ∧ Pw (R H) vs xs
/-- a way of telling that new objects don't disturb -/
def Stay {α : Type} (R : Hp → V → α → Prop) : Prop := ∀ H H' v x, Same H H' → R H v x → R H' v x
theorem LsA.same {α : Type} {R : Hp → V → α → Prop} (st : Stay R) {H H' : Hp} {a : Addr} {xs : List α} (s : Same H H') (h : LsA R H a xs) : LsA R H' a xs := by
  obtain ⟨vs, e, p⟩ := h
  exact ⟨vs, s _ _ e, p.mono fun v x => st H H' v x s⟩
/-! ### histories -/
abbrev Itv := Str × Int
abbrev Ent := Str × List Itv × List Itv
def PrA (H : Hp) (v : V) (x : Itv) : Prop := ∃ t, v = .ref t ∧ H t = some (.tup [.str x.1, .int x.2])
theorem stPr : Stay PrA := fun H H' v x s ⟨t, e, h⟩ => ⟨t, e, s _ _ h⟩
def EnA (H : Hp) (v : V) (e : Ent) : Prop := ∃ t r w, v = .ref t ∧ H t = some (.tup [.str e.1, .ref r, .ref w]) ∧ LsA PrA H r e.2.1 ∧ LsA PrA H w e.2.2
theorem stEn : Stay EnA := fun H H' v x s ⟨t, r, w, e, h, h1, h2⟩ => ⟨t, r, w, e, s _ _ h, h1.same stPr s, h2.same stPr s⟩
abbrev HsA (H : Hp) (a : Addr) (hs : List Ent) : Prop := LsA EnA H a hs
/-! ### a list that grows while its things stand elsewhere -/
theorem delH_upd {H : Hp} {D : Addr} {o : HO} : delH (upd H D o) D = delH H D := by
  funext b
  by_cases e : b = D
  · rw [e, delH_same, delH_same]
  · rw [delH_ne e, delH_ne e, upd_ne e]
theorem same_del {H H' : Hp} {D : Addr} (s : Same H H') (h : H D = none) : Same H (delH H' D) := fun b o e => by
  rw [delH_ne (ne_of_none e h)]
  exact s b o e
theorem same_del2 {H H' : Hp} {D : Addr} (s : Same H H') : Same (delH H D) (delH H' D) := fun b o e => by
  by_cases hb : b = D
  · rw [hb, delH_same] at e; cases e
  · rw [delH_ne hb] at e ⊢
    exact s b o e
theorem del_same {H : Hp} {D : Addr} : Same (delH H D) H := fun b o e => by
  by_cases hb : b = D
  · rw [hb, delH_same] at e; cases e
  · rw [delH_ne hb] at e
    exact e
def rLof (K : PySem.W.Frag) : List V → Hp → VK → Prop := fun xs H Q => ∃ p ys, xs = [V.ref p] ∧ (SqL K H p ys ∨ SqT K H p ys) ∧ ∀ l, H l = none → Q (V.ref l) (upd H l (.lst ys))
theorem call_list_ofK {X : Cx} : CallR X (.type "list") (rLof X.K) := call_list_of
/-- the list at L, that grows: what it holds is told by R and stands elsewhere -/
structure GS {α : Type} (R : Hp → V → α → Prop) (H0 : Hp) (L : Addr) (H : Hp) (vs : List V) (xs : List α) : Prop where
  s : Same H0 H
  hL : H L = some (.lst vs)
  pw : Pw (R (delH H L)) vs xs
section
variable {α : Type} {R : Hp → V → α → Prop} {H0 H H' : Hp} {L T : Addr} {vs : List V} {xs : List α} {v : V} {x : α} {o : HO}
theorem GS.start (h : H0 L = none) : GS R H0 L (upd H0 L (.lst [])) [] [] := ⟨(Same.refl H0).new h, upd_same, Pw.nil⟩
theorem GS.same (st : Stay R) (f : GS R H0 L H vs xs) (z : Same H H') : GS R H0 L H' vs xs := ⟨f.s.trans z, z _ _ f.hL, f.pw.mono fun v x => st _ _ v x (same_del2 z)⟩
theorem GS.new (st : Stay R) (f : GS R H0 L H vs xs) (n : H T = none) : GS R H0 L (upd H T o) vs xs := f.same st ((Same.refl H).new n)
theorem GS.app (f : GS R H0 L H vs xs) (h0 : H0 L = none) (h : R (delH H L) v x) : GS R H0 L (upd H L (.lst (vs ++ [v]))) (vs ++ [v]) (xs ++ [x]) :=
  ⟨f.s.mut h0, upd_same, by rw [delH_upd]; exact f.pw.snoc h⟩
theorem GS.done (st : Stay R) (f : GS R H0 L H vs xs) : LsA R H L xs := ⟨vs, f.hL, f.pw.mono fun v x => st _ _ v x del_same⟩
/-- a new tuple stands elsewhere -/
theorem GS.del (f : GS R H0 L H vs xs) {ys : List V} (h : H T = some (.tup ys)) : delH H L T = some (.tup ys) := by
  rw [delH_ne (fun e => by rw [e, f.hL] at h; cases h)]
  exact h
end
theorem at_at {l : List V} {i : Nat} {v : V} (h : l[i]? = some v) : atI l (i : Int) = some v := atI_nat h
theorem mem_Pr {K : PySem.W.Frag} {H : Hp} {a : Addr} {xs : List Itv} (h : LsA PrA H a xs) : Dp K H (.ref a) (.list (xs.map fun x => .tuple [.str x.1, .int x.2])) := by
  obtain ⟨vs, e, p⟩ := h
  refine .lst (SqL.of e) ?_
  clear e
  induction xs generalizing vs with
  | nil =>
    have := p.len
    cases vs with
    | nil => exact .nil
    | cons v vs => cases this
  | cons x xs ih =>
    cases vs with
    | nil => have := p.len; cases this
    | cons v vs =>
      refine .cons ?_ (ih vs ⟨by have := p.len; simpa using this, fun i v' x' h1 h2 => p.at_ (i + 1) v' x' (by simpa using h1) (by simpa using h2)⟩)
      obtain ⟨t, rfl, ht⟩ := p.at_ 0 v x rfl rfl
      exact .tup (.inl (.inl ht)) (.cons (.str _) (.cons (.int _) .nil))
def itD (x : Itv) : PyData := .tuple [.str x.1, .int x.2]
theorem itD_eqv (x y : Itv) : PyData.eqv (itD x) (itD y) = decide (x = y) := by
  have e1 : PyData.eqv (.str x.1) (.str y.1) = decide (x.1 = y.1) := by
    rw [PyData.eqv]
    by_cases h : x.1 = y.1
    · rw [h, decide_eq_true rfl]; exact beq_self_eq_true y.1
    · rw [decide_eq_false h]; exact beq_false_of_ne h
  have e2 : PyData.eqv (.int x.2) (.int y.2) = decide (x.2 = y.2) := by
    rw [PyData.eqv]
    by_cases h : x.2 = y.2
    · rw [h, decide_eq_true rfl]; exact beq_self_eq_true y.2
    · rw [decide_eq_false h]; exact beq_false_of_ne h
  unfold itD
  rw [PyData.eqv, PyData.eqvAll, PyData.eqvAll, PyData.eqvAll, e1, e2]
  rw [Bool.eq_iff_iff]
  simp [Prod.ext_iff]
theorem it_any (x : Itv) (l : List Itv) : (l.map itD).any (fun z => PyData.eqv z (itD x)) = decide (x ∈ l) := by
  rw [List.any_map, Bool.eq_iff_iff, List.any_eq_true, decide_eq_true_iff]
  constructor
  · rintro ⟨y, hy, e⟩
    have e' : PyData.eqv (itD y) (itD x) = true := e
    rw [itD_eqv] at e'
    rw [← of_decide_eq_true e']
    exact hy
  · intro h
    exact ⟨x, h, by show PyData.eqv (itD x) (itD x) = true; rw [itD_eqv]; exact decide_eq_true rfl⟩
theorem it_shaped {x : Itv} (h : PyData.strOk x.1 = true) : SeqAt.shaped (itD x) = true := by
  unfold SeqAt.shaped itD
  rw [PyData.canLay0, PyData.canLayAll0, PyData.canLayAll0, PyData.canLayAll0, PyData.canLay0, PyData.canLay0, h]
  rfl
theorem its_lay : ∀ {l : List Itv}, (∀ x ∈ l, PyData.strOk x.1 = true) → PyData.canLayAll0 (l.map itD) = true ∧ PyData.depthAll (l.map itD) ≤ 2
  | [], _ => ⟨rfl, Nat.zero_le _⟩
  | x :: l, h => by
    obtain ⟨i1, i2⟩ := its_lay (l := l) fun y hy => h y (List.mem_cons_of_mem _ hy)
    have hx := h x List.mem_cons_self
    refine ⟨?_, ?_⟩
    · rw [List.map_cons, PyData.canLayAll0, i1]
      unfold itD
      rw [PyData.canLay0, PyData.canLayAll0, PyData.canLayAll0, PyData.canLayAll0, PyData.canLay0, PyData.canLay0, hx]
      rfl
    · rw [List.map_cons, PyData.depthAll]
      have : (itD x).depth = 1 := by simp [itD, PyData.depth, PyData.depthAll]
      omega
theorem its_shaped {l : List Itv} (h : ∀ x ∈ l, PyData.strOk x.1 = true) : SeqAt.shaped (.list (l.map itD)) = true := by
  unfold SeqAt.shaped
  obtain ⟨h1, h2⟩ := its_lay h
  rw [PyData.canLay0, PyData.depth, h1, decide_eq_true (by omega)]
  rfl
theorem hu65 {A : Around} {k : Nat} (hr : Room k A) : A.units + 65 < cLine := by have := hr.un; omega
end M

namespace M
open PySem PySem.Spec PyProof.Rows L2
/-! ### a table of objects: what stands at which address, all else as it was in H0 -/
structure Hx (H0 H : Hp) (l : List (Addr × HO)) : Prop where
  at_ : ∀ z ∈ l, H z.1 = some z.2
  nd : (l.map (·.1)).Nodup
  fr : ∀ b o, H0 b = some o → (∀ z ∈ l, z.1 ≠ b) → H b = some o
section
variable {H0 H H' : Hp} {l : List (Addr × HO)} {T a : Addr} {o o' : HO}
theorem Hx.refl (H0 : Hp) : Hx H0 H0 [] := ⟨fun z h => (by cases h), List.Pairwise.nil, fun _ _ h _ => h⟩
theorem Hx.same (x : Hx H0 H l) (s : Same H H') : Hx H0 H' l := ⟨fun z h => s _ _ (x.at_ z h), x.nd, fun b o h n => s _ _ (x.fr b o h n)⟩
theorem Hx.new (x : Hx H0 H l) (n : H T = none) : Hx H0 (upd H T o) l := x.same ((Same.refl H).new n)
theorem Hx.get (x : Hx H0 H l) (i : Nat) (h : l[i]? = some (a, o)) : H a = some o := x.at_ _ (List.mem_of_getElem? h)
theorem Hx.ne (x : Hx H0 H l) (n : H T = none) (i : Nat) (h : l[i]? = some (a, o)) : a ≠ T := ne_of_none (x.get i h) n
/-- an object known already -/
theorem Hx.own (x : Hx H0 H l) (h : H a = some o) (n : ∀ z ∈ l, z.1 ≠ a) : Hx H0 H ((a, o) :: l) := by
  refine ⟨fun z hz => ?_, ?_, fun b u hb nb => x.fr b u hb fun z hz => nb z (List.mem_cons_of_mem _ hz)⟩
  · rcases List.mem_cons.mp hz with rfl | hz
    · exact h
    · exact x.at_ z hz
  · rw [List.map_cons]
    refine List.nodup_cons.mpr ⟨fun h => ?_, x.nd⟩
    obtain ⟨z, hz, e⟩ := List.mem_map.mp h
    exact n z hz e
theorem Hx.fresh (x : Hx H0 H l) (n : H T = none) : H0 T = none := by
  cases q : H0 T with
  | none => rfl
  | some o =>
    have := x.fr T o q fun z hz => ne_of_none (x.at_ z hz) n
    rw [n] at this
    cases this
theorem Hx.out (x : Hx H0 H l) (n : H T = none) : T ∉ l.map (·.1) := fun h => by
  obtain ⟨z, hz, e⟩ := List.mem_map.mp h
  exact ne_of_none (x.at_ z hz) n e
theorem Hx.push (x : Hx H0 H l) (n : H T = none) : Hx H0 (upd H T o) ((T, o) :: l) :=
  (x.new n).own upd_same fun z hz => ne_of_none (x.at_ z hz) n
theorem Hx.set (x : Hx H0 H l) (i : Nat) (h : l[i]? = some (a, o)) : Hx H0 (upd H a o') (l.set i (a, o')) := by
  have hi := (List.getElem?_eq_some_iff.mp h).1
  have hai : l[i] = (a, o) := (List.getElem?_eq_some_iff.mp h).2
  have key : ∀ (j : Nat) (hj : j < l.length), j ≠ i → (l[j]).1 ≠ a := fun j hj ne e => by
    have h1 : (l.map (·.1))[j]'(by rw [List.length_map]; exact hj) = (l.map (·.1))[i]'(by rw [List.length_map]; exact hi) := by
      rw [List.getElem_map, List.getElem_map, hai, e]
    exact ne ((List.getElem_inj x.nd).mp h1)
  refine ⟨fun z hz => ?_, ?_, fun b u hb nb => ?_⟩
  · obtain ⟨j, hj, e⟩ := List.getElem_of_mem hz
    rw [List.getElem_set] at e
    split at e
    · rw [← e, upd_same]
    · rename_i ne
      rw [List.length_set] at hj
      rw [← e, upd_ne (key j hj (fun q => ne q.symm))]
      exact x.at_ _ (List.getElem_mem _)
  · have e : (l.set i (a, o')).map (·.1) = l.map (·.1) := by
      rw [List.map_set]
      show (l.map (·.1)).set i a = _
      have hi2 : i < (l.map (·.1)).length := by rw [List.length_map]; exact hi
      have e2 : (l.map (·.1))[i] = a := by rw [List.getElem_map, hai]
      conv => lhs; rw [← e2]
      exact List.set_getElem_self hi2
    rw [e]
    exact x.nd
  · have hm : (a, o') ∈ l.set i (a, o') := List.mem_set hi _
    rw [upd_ne (Ne.symm (nb _ hm))]
    refine x.fr b u hb fun z hz e => ?_
    obtain ⟨j, hj, ez⟩ := List.getElem_of_mem hz
    by_cases q : j = i
    · subst q
      rw [hai] at ez
      exact nb _ hm (by rw [← e, ← ez])
    · exact nb (l[j]) (List.mem_iff_getElem.mpr ⟨j, by rw [List.length_set]; exact hj, by rw [List.getElem_set, if_neg (Ne.symm q)]⟩) (by rw [ez, e])
/-- the last pushed is forgotten (it stays where it is) -/
theorem Hx.pop {z : Addr × HO} (x : Hx H0 H (z :: l)) (h0 : H0 z.1 = none) : Hx H0 H l :=
  ⟨fun y h => x.at_ y (List.mem_cons_of_mem _ h), (List.nodup_cons.mp x.nd).2, fun b o hb nb => x.fr b o hb fun y hy => by
    rcases List.mem_cons.mp hy with rfl | hy
    · exact fun e => by rw [e, hb] at h0; cases h0
    · exact nb y hy⟩
end
/-! ### what stands outside a table -/
def cut (H : Hp) (A : List Addr) : Hp := fun b => if b ∈ A then none else H b
theorem cut_in {H : Hp} {A : List Addr} {b : Addr} (h : b ∈ A) : cut H A b = none := if_pos h
theorem cut_out {H : Hp} {A : List Addr} {b : Addr} (h : b ∉ A) : cut H A b = H b := if_neg h
theorem cut_upd {H : Hp} {A : List Addr} {a : Addr} {o : HO} (h : a ∈ A) : cut (upd H a o) A = cut H A := by
  funext b
  by_cases e : b ∈ A
  · rw [cut_in e, cut_in e]
  · rw [cut_out e, cut_out e, upd_ne (fun q => e (by rw [q]; exact h))]
theorem cut_same {H H' : Hp} {A : List Addr} (s : Same H H') : Same (cut H A) (cut H' A) := fun b o e => by
  by_cases q : b ∈ A
  · rw [cut_in q] at e; cases e
  · rw [cut_out q] at e ⊢; exact s b o e
theorem cut_push {H : Hp} {A : List Addr} {T : Addr} {o : HO} (n : H T = none) : Same (cut H A) (cut (upd H T o) (T :: A)) := fun b u e => by
  by_cases q : b ∈ A
  · rw [cut_in q] at e; cases e
  · rw [cut_out q] at e
    have ne := ne_of_none e n
    rw [cut_out (fun z => (List.mem_cons.mp z).elim ne q), upd_ne ne]
    exact e
theorem cut_pop {H : Hp} {A : List Addr} {T : Addr} : Same (cut H (T :: A)) (cut H A) := fun b u e => by
  by_cases q : b ∈ T :: A
  · rw [cut_in q] at e; cases e
  · rw [cut_out q] at e
    rw [cut_out (fun z => q (List.mem_cons_of_mem _ z))]
    exact e
theorem cut_all {H : Hp} {A : List Addr} : Same (cut H A) H := fun b u e => by
  by_cases q : b ∈ A
  · rw [cut_in q] at e; cases e
  · rw [cut_out q] at e; exact e
theorem cut_of {H0 H : Hp} {A : List Addr} (s : ∀ b o, H0 b = some o → b ∉ A → H b = some o) (h : ∀ a ∈ A, H0 a = none) : Same H0 (cut H A) := fun b u e => by
  have q : b ∉ A := fun z => by rw [h b z] at e; cases e
  rw [cut_out q]
  exact s b u e q
end M

namespace M
open PySem PySem.Spec PyProof.Rows L2
/-! ### a list laid out in the heap, as data -/
section
variable {α : Type} {K : PySem.W.Frag} {H : Hp} {a : Addr} {D : α → PyData}
theorem pw_dpAll {R : V → α → Prop} (h : ∀ v x, R v x → Dp K H v (D x)) : ∀ {vs : List V} {xs : List α}, Pw R vs xs → DpAll K H vs (xs.map D)
  | [], [], _ => .nil
  | [], _ :: _, p => absurd p.len (by simp)
  | _ :: _, [], p => absurd p.len (by simp)
  | v :: vs, x :: xs, p => .cons (h v x (p.at_ 0 v x rfl rfl)) (pw_dpAll h ⟨by have := p.len; simpa using this, fun i v' x' h1 h2 => p.at_ (i + 1) v' x' (by simpa using h1) (by simpa using h2)⟩)
theorem ls_dp {R : Hp → V → α → Prop} {xs : List α} (h : ∀ v x, R H v x → Dp K H v (D x)) (l : LsA R H a xs) : Dp K H (.ref a) (.list (xs.map D)) := by
  obtain ⟨vs, e, p⟩ := l
  exact .lst (SqL.of e) (pw_dpAll h p)
theorem lay_all {n : Nat} : ∀ {xs : List α}, (∀ x ∈ xs, (D x).canLay0 = true ∧ (D x).depth ≤ n) → PyData.canLayAll0 (xs.map D) = true ∧ PyData.depthAll (xs.map D) ≤ n
  | [], _ => ⟨rfl, Nat.zero_le _⟩
  | x :: l, h => by
    obtain ⟨i1, i2⟩ := lay_all (xs := l) fun y hy => h y (List.mem_cons_of_mem _ hy)
    obtain ⟨h1, h2⟩ := h x List.mem_cons_self
    rw [List.map_cons, PyData.canLayAll0, PyData.depthAll, i1, h1]
    exact ⟨rfl, by omega⟩
theorem ls_lay {n : Nat} {xs : List α} (h : ∀ x ∈ xs, (D x).canLay0 = true ∧ (D x).depth ≤ n) : (PyData.list (xs.map D)).canLay0 = true ∧ (PyData.list (xs.map D)).depth ≤ n + 1 := by
  obtain ⟨h1, h2⟩ := lay_all h
  rw [PyData.canLay0, PyData.depth]
  exact ⟨h1, by omega⟩
theorem shaped_of {d : PyData} (h : d.canLay0 = true ∧ d.depth ≤ 64) : SeqAt.shaped d = true := by
  unfold SeqAt.shaped
  rw [h.1, decide_eq_true h.2]
  rfl
theorem ls_shaped {n : Nat} {xs : List α} (h : ∀ x ∈ xs, (D x).canLay0 = true ∧ (D x).depth ≤ n) (hn : n ≤ 63) : SeqAt.shaped (.list (xs.map D)) = true :=
  shaped_of ⟨(ls_lay h).1, Nat.le_trans (ls_lay h).2 (by omega)⟩
end
/-! ### a history, as data -/
def enD (e : Ent) : PyData := .tuple [.str e.1, .list (e.2.1.map itD), .list (e.2.2.map itD)]
def hsD (hs : List Ent) : PyData := .list (hs.map enD)
abbrev EntOk (e : Ent) : Prop := (∀ x ∈ e.2.1, PyData.strOk x.1 = true) ∧ (∀ x ∈ e.2.2, PyData.strOk x.1 = true) ∧ PyData.strOk e.1 = true
theorem it_lay {x : Itv} (h : PyData.strOk x.1 = true) : (itD x).canLay0 = true ∧ (itD x).depth ≤ 1 := by
  refine ⟨?_, by simp [itD, PyData.depth, PyData.depthAll]⟩
  unfold itD
  rw [PyData.canLay0, PyData.canLayAll0, PyData.canLayAll0, PyData.canLayAll0, PyData.canLay0, PyData.canLay0, h]
  rfl
theorem en_dp {K : PySem.W.Frag} {H : Hp} {v : V} {e : Ent} (h : EnA H v e) : Dp K H v (enD e) := by
  obtain ⟨t, r, w, rfl, ht, hr, hw⟩ := h
  exact .tup (.inl (.inl ht)) (.cons (.str _) (.cons (mem_Pr hr) (.cons (mem_Pr hw) .nil)))
theorem hs_dp {K : PySem.W.Frag} {H : Hp} {a : Addr} {hs : List Ent} (h : HsA H a hs) : Dp K H (.ref a) (hsD hs) := ls_dp (fun v x h => en_dp h) h
theorem en_lay {e : Ent} (h : EntOk e) : (enD e).canLay0 = true ∧ (enD e).depth ≤ 3 := by
  obtain ⟨h1, h2, h3⟩ := h
  have a1 := ls_lay (D := itD) (n := 1) fun x hx => it_lay (h1 x hx)
  have a2 := ls_lay (D := itD) (n := 1) fun x hx => it_lay (h2 x hx)
  unfold enD
  rw [PyData.canLay0, PyData.canLayAll0, PyData.canLayAll0, PyData.canLayAll0, PyData.canLayAll0, PyData.depth, PyData.depthAll, PyData.depthAll, PyData.depthAll, PyData.depthAll, a1.1, a2.1, PyData.canLay0, h3]
  refine ⟨rfl, ?_⟩
  have e1 : (PyData.str e.1).depth = 0 := by rw [PyData.depth]
  rw [e1]
  omega
theorem hs_lay {hs : List Ent} (h : ∀ e ∈ hs, EntOk e) : (hsD hs).canLay0 = true ∧ (hsD hs).depth ≤ 64 := by
  obtain ⟨h1, h2⟩ := ls_lay (D := enD) (n := 3) fun e he => en_lay (h e he)
  exact ⟨h1, Nat.le_trans h2 (by decide)⟩
end M

namespace M
open PySem PySem.Spec PyProof.Rows L2
/-- what is raised: an exception of the class at C whose own dict, new, holds ps -/
def Rz (E : XK) (C : Addr) (H : Hp) (ps : List (Str × V)) : Prop := ∀ d, H d = none → E (.ref C) (some d) (upd H d (.xd ps))
theorem Hx.keep {H0 H : Hp} {l : List (Addr × HO)} (x : Hx H0 H l) (n : ∀ z ∈ l, H0 z.1 = none) : Same H0 H := fun b o e => x.fr b o e fun z hz q => by
  have := n z hz
  rw [q, e] at this
  cases this
/-! ### lists of counts -/
def zL (l : List Nat) : List Int := l.map fun k : Nat => (k : Int)
theorem zL_len (l : List Nat) : (zL l).length = l.length := by unfold zL; rw [List.length_map]
theorem zL_at {l : List Nat} {i k : Nat} (h : l[i]? = some k) : ((zL l).map V.int)[i]? = some (.int (k : Nat)) := by
  unfold zL
  rw [List.map_map, List.getElem?_map, h]
  rfl
theorem zL_get {l : List Nat} {i : Nat} {v : V} (h : ((zL l).map V.int)[i]? = some v) : ∃ k, l[i]? = some k ∧ v = .int (k : Nat) := by
  unfold zL at h
  rw [List.map_map, List.getElem?_map] at h
  cases e : l[i]? with
  | none => rw [e] at h; cases h
  | some k => rw [e] at h; exact ⟨k, rfl, (Option.some.inj h).symm⟩
theorem zL_snoc (l : List Nat) (k : Nat) : (zL l).map V.int ++ [V.int (k : Nat)] = (zL (l ++ [k])).map V.int := by
  unfold zL
  simp
theorem zL_rg (n : Nat) : rgV 0 (n : Int) = (zL (List.range n)).map V.int := by
  unfold rgV zL
  rw [List.map_map, show ((n : Int) - 0).toNat = n from by omega]
  refine List.map_congr_left fun i _ => ?_
  show V.int (0 + (i : Int)) = V.int (i : Int)
  rw [Int.zero_add]
theorem flat_ints (l : List Int) : (l.map V.int).all flatV = true := by
  rw [List.all_map, List.all_eq_true]
  intro x _
  rfl
theorem inV_zL (k : Nat) (l : List Nat) : inV (.int (k : Nat)) ((zL l).map V.int) = decide (k ∈ l) := by
  unfold inV zL
  rw [List.map_map, List.any_map, Bool.eq_iff_iff, List.any_eq_true, decide_eq_true_iff]
  constructor
  · rintro ⟨y, hy, e⟩
    have e' : decide ((y : Int) = (k : Int)) = true := e
    have : y = k := by have := of_decide_eq_true e'; omega
    rw [← this]; exact hy
  · intro h
    exact ⟨k, h, decide_eq_true (rfl : (k : Int) = k)⟩
theorem zL_erase (l : List Nat) (j : Nat) : ((zL l).eraseIdx j) = zL (l.eraseIdx j) := by
  unfold zL
  induction l generalizing j with
  | nil => rfl
  | cons x l ih =>
    cases j with
    | zero => rfl
    | succ j => show _ :: ((l.map _).eraseIdx j) = _ :: _; rw [ih j]
def zlD (l : List Nat) : PyData := .list (l.map fun k => .int (k : Nat))
theorem zl_dp {K : PySem.W.Frag} {H : Hp} {a : Addr} {l : List Nat} (h : H a = some (.lst ((zL l).map V.int))) : Dp K H (.ref a) (zlD l) := by
  refine .lst (SqL.of h) ?_
  clear h
  unfold zL
  rw [List.map_map]
  induction l with
  | nil => exact .nil
  | cons x l ih => exact .cons (.int _) ih
theorem zl_lay (l : List Nat) : (zlD l).canLay0 = true ∧ (zlD l).depth ≤ 64 := by
  obtain ⟨h1, h2⟩ := ls_lay (D := fun k : Nat => PyData.int (k : Nat)) (n := 0) (xs := l) fun x _ => ⟨by rw [PyData.canLay0], by simp [PyData.depth]⟩
  exact ⟨h1, Nat.le_trans h2 (by decide)⟩
/-! ### dict comprehensions over a list that stays -/
theorem dc_list {K : PySem.W.Frag} {a : Addr} {xs : List V} {g : TG} {tt : TT} {tk tv : TE} {vs : List Nat} {σ : L2.St} {H1 : Hp} {D : Addr} {Qd : Hp → Prop} (Pv : Nat → Hp → Prop) (h0 : Pv 0 (upd H1 D (.dK []))) (hl : ∀ i H, i ≤ xs.length → Pv i H → SqL K H a xs)
    (hs : ∀ i x H, xs[i]? = some x → Pv i H → g x (wipe σ vs) H fun σ2 H2 => wipe σ2 vs = wipe σ vs ∧ tt σ2 H2 fun b H3 =>
      if b = true then tk σ2 H3 fun y H4 => tv σ2 H4 fun z H5 => ∃ kvs k, y = kV k ∧ H5 D = some (.dK kvs) ∧ kvs.length < sizeLine ∧ Pv (i + 1) (upd H5 D (.dK (putK kvs k z))) else Pv (i + 1) H3) (hd : ∀ H, Pv xs.length H → Qd H) :
    ∃ W : Nat → Nat → Hp → Prop, (∃ m, W 0 m (upd H1 D (.dK []))) ∧ ∀ i m H, W i m H →
      ((Itl K a).stop i H ∧ Qd H) ∨ ((Itl K a).go i H ∧ ∃ Nx : Hp → Prop, (∀ H', Nx H' → ∃ m', m' < m ∧ W (i + 1) m' H') ∧ ∀ x H', (Itl K a).yld i H x H' → g x (wipe σ vs) H' fun σ2 H2 => wipe σ2 vs = wipe σ vs ∧ tt σ2 H2 fun b H3 =>
        if b = true then tk σ2 H3 fun y H4 => tv σ2 H4 fun z H5 => ∃ kvs k, y = kV k ∧ H5 D = some (.dK kvs) ∧ kvs.length < sizeLine ∧ Nx (upd H5 D (.dK (putK kvs k z))) else Nx H3) := by
  refine ⟨fun i m H => m = xs.length - i ∧ i ≤ xs.length ∧ Pv i H, ⟨xs.length, by simp, Nat.zero_le _, h0⟩, ?_⟩
  rintro i m H ⟨rfl, hi, p⟩
  have q := hl i H hi p
  by_cases hlt : i < xs.length
  · refine .inr ⟨⟨xs, xs[i], q, by simp [hlt]⟩, Pv (i + 1), fun H' p' => ⟨xs.length - (i + 1), by omega, rfl, hlt, p'⟩, fun x H' y => ?_⟩
    obtain ⟨e, y⟩ := y
    subst e
    exact hs i x _ (y xs q) p
  · have e : i = xs.length := by omega
    subst e
    exact .inl ⟨⟨xs, q, Nat.le_refl _⟩, hd H p⟩
theorem find_none {κ : Type} [DecidableEq κ] {kvs : List (κ × V)} {k : κ} (h : valV kvs k = none) : (putK kvs k v).length = kvs.length + 1 := by
  unfold putK
  rw [valV_any, h]
  show (if (none : Option V).isSome = true then _ else _ : List (κ × V)).length = _
  rw [if_neg (by decide), List.length_append]
  rfl
end M

namespace M
open PySem PySem.Spec PyProof.Rows L2
/-! ### kinds -/
def kinds : List Str := ["whole", "itemwise", "split", "overtaking", "passing"]
def kindsV : List V := kinds.map V.str
/-- None or a kind -/
def kindV : Option Str → V
  | none => .non
  | some s => .str s
def KindOk : Option Str → Prop
  | none => True
  | some s => s ∈ kinds
instance (k : Option Str) : Decidable (KindOk k) := by
  cases k with
  | none => exact .isTrue trivial
  | some s => exact (inferInstance : Decidable (s ∈ kinds))
/-! ### the ground of the laws on placements: sites, homes, lines, ways -/
structure Ln where
  nm : Str
  src : Str
  tgt : Str
  it : List Str
  kd : Option Str
abbrev Ways := Str → Str → Option (List Str)
structure Gd where
  sites : List Str
  homes : List (Str × Str)
  lines : List Ln
  ways : Ways
def Gd.goods (g : Gd) : List Str := g.homes.map (·.1)
/-- what a ground keeps while its lines are loaded -/
structure GdOk (g : Gd) : Prop where
  sN : g.sites.Nodup
  hN : g.goods.Nodup
  hS : ∀ h ∈ g.homes, h.2 ∈ g.sites
  lN : (g.lines.map (·.nm)).Nodup
  lE : ∀ l ∈ g.lines, l.src ∈ g.sites ∧ l.tgt ∈ g.sites ∧ l.src ≠ l.tgt
  lI : ∀ l ∈ g.lines, l.it.Nodup ∧ ∀ i ∈ l.it, i ∈ g.goods
  wH : ∀ h ∈ g.homes, g.ways h.1 h.2 = some []
  wL : ∀ l ∈ g.lines, ∀ i ∈ l.it, ∃ w, g.ways i l.src = some w ∧ g.ways i l.tgt = some (w ++ [l.nm])
  wD : ∀ i s w, g.ways i s = some w → (i, s) ∈ g.homes ∨ ∃ l ∈ g.lines, l.tgt = s ∧ i ∈ l.it
  u : ∀ (j k : Nat) l m i, g.lines[j]? = some l → g.lines[k]? = some m → l.tgt = m.tgt → i ∈ l.it → i ∈ m.it → j = k
def wSet (w : Ways) (i s : Str) (v : List Str) : Ways := fun i' s' => if i' = i ∧ s' = s then some v else w i' s'
theorem wSet_same {w : Ways} {i s : Str} {v : List Str} : wSet w i s v i s = some v := if_pos ⟨rfl, rfl⟩
theorem wSet_ne {w : Ways} {i s i' s' : Str} {v : List Str} (h : ¬ (i' = i ∧ s' = s)) : wSet w i s v i' s' = w i' s' := if_neg h
/-- one more item -/
def Ln.more (l : Ln) (i : Str) : Ln := { l with it := l.it ++ [i] }
def Gd.carry (g : Gd) (k : Nat) (l : Ln) (i : Str) (w : List Str) : Gd := { g with lines := g.lines.set k (l.more i), ways := wSet g.ways i l.tgt (w ++ [l.nm]) }
theorem mem_set_of {α : Type} {l : List α} {k : Nat} {x y : α} (h : y ∈ l.set k x) : y = x ∨ y ∈ l := by
  rcases List.mem_or_eq_of_mem_set h with h | h
  · exact .inr h
  · exact .inl h
theorem map_set_same {α β : Type} (f : α → β) {l : List α} {k : Nat} {x y : α} (h : l[k]? = some x) (e : f y = f x) : (l.set k y).map f = l.map f := by
  have hk := (List.getElem?_eq_some_iff.mp h).1
  have hx := (List.getElem?_eq_some_iff.mp h).2
  refine List.ext_getElem (by simp) fun j h1 h2 => ?_
  rw [List.getElem_map, List.getElem_map, List.getElem_set]
  split
  · rename_i q
    subst q
    rw [e, hx]
  · rfl
theorem GdOk.carry {g : Gd} (o : GdOk g) {k : Nat} {l : Ln} {i : Str} {w : List Str} (hl : g.lines[k]? = some l) (hi : i ∈ g.goods) (hw : g.ways i l.src = some w) (hn : g.ways i l.tgt = none) : GdOk (g.carry k l i w) := by
  have lm := List.mem_of_getElem? hl
  have hk := (List.getElem?_eq_some_iff.mp hl).1
  obtain ⟨e1, e2, e3⟩ := o.lE l lm
  have nin : ∀ m ∈ g.lines, m.tgt = l.tgt → i ∉ m.it := fun m hm e h => by
    obtain ⟨w', _, h2⟩ := o.wL m hm i h
    rw [e, hn] at h2
    cases h2
  have old : ∀ i' s' v, g.ways i' s' = some v → wSet g.ways i l.tgt (w ++ [l.nm]) i' s' = some v := fun i' s' v h => by
    rw [wSet_ne]
    · exact h
    · rintro ⟨rfl, rfl⟩
      rw [hn] at h
      cases h
  have at_ : ∀ (j : Nat) m, (g.lines.set k (l.more i))[j]? = some m → (j = k ∧ m = l.more i) ∨ (j ≠ k ∧ g.lines[j]? = some m) := fun j m h => by
    rw [List.getElem?_set] at h
    split at h
    · rename_i q
      exact .inl ⟨q.symm, (Option.some.inj h).symm⟩
    · rename_i q
      exact .inr ⟨fun z => q z.symm, h⟩
  refine ⟨o.sN, o.hN, o.hS, ?_, ?_, ?_, ?_, ?_, ?_, ?_⟩
  · show ((g.lines.set k (l.more i)).map (·.nm)).Nodup
    rw [map_set_same (y := l.more i) (fun x : Ln => x.nm) hl rfl]
    exact o.lN
  · intro m hm
    rcases mem_set_of hm with rfl | hm
    · exact ⟨e1, e2, e3⟩
    · exact o.lE m hm
  · intro m hm
    rcases mem_set_of hm with rfl | hm
    · refine ⟨List.nodup_append.mpr ⟨(o.lI l lm).1, List.pairwise_singleton _ _, fun a ha b hb e => ?_⟩, fun j hj => ?_⟩
      · rw [List.mem_singleton.mp hb] at e
        exact nin l lm rfl (by rw [← e]; exact ha)
      · rcases List.mem_append.mp hj with hj | hj
        · exact (o.lI l lm).2 j hj
        · rw [List.mem_singleton.mp hj]; exact hi
    · exact o.lI m hm
  · exact fun h hh => old _ _ _ (o.wH h hh)
  · intro m hm j hj
    have key : ∀ m ∈ g.lines, j ∈ m.it → ∃ w', wSet g.ways i l.tgt (w ++ [l.nm]) j m.src = some w' ∧ wSet g.ways i l.tgt (w ++ [l.nm]) j m.tgt = some (w' ++ [m.nm]) := fun m hm hj => by
      obtain ⟨w', h1, h2⟩ := o.wL m hm j hj
      exact ⟨w', old _ _ _ h1, old _ _ _ h2⟩
    rcases mem_set_of hm with rfl | hm
    · rcases List.mem_append.mp hj with hj | hj
      · exact key l lm hj
      · rw [List.mem_singleton.mp hj]
        exact ⟨w, old _ _ _ hw, wSet_same⟩
    · exact key m hm hj
  · intro i' s' v h
    by_cases q : i' = i ∧ s' = l.tgt
    · obtain ⟨rfl, rfl⟩ := q
      exact .inr ⟨l.more i', List.mem_set hk _, rfl, by simp [Ln.more]⟩
    · have h' : g.ways i' s' = some v := by
        have z : wSet g.ways i l.tgt (w ++ [l.nm]) i' s' = some v := h
        rwa [wSet_ne q] at z
      rcases o.wD i' s' v h' with h2 | ⟨m, hm, h2, h3⟩
      · exact .inl h2
      · obtain ⟨j, hj⟩ := List.getElem?_of_mem hm
        by_cases e : j = k
        · subst e
          rw [hl] at hj
          cases hj
          exact .inr ⟨l.more i, List.mem_set hk _, h2, List.mem_append_left _ h3⟩
        · refine .inr ⟨m, List.mem_of_getElem? (i := j) ?_, h2, h3⟩
          show (g.lines.set k (l.more i))[j]? = some m
          rw [List.getElem?_set_ne (Ne.symm e)]
          exact hj
  · intro j k' a b i' ha hb ht h1 h2
    rcases at_ j a ha with ⟨e1, e2⟩ | ⟨n1, ha'⟩ <;> rcases at_ k' b hb with ⟨e3, e4⟩ | ⟨n2, hb'⟩
    · rw [e1, e3]
    · subst e2
      rcases List.mem_append.mp h1 with h1 | h1
      · rw [e1]
        exact o.u _ _ l b i' hl hb' ht h1 h2
      · rw [List.mem_singleton.mp h1] at h2
        exact absurd h2 (nin b (List.mem_of_getElem? hb') ht.symm)
    · subst e4
      rcases List.mem_append.mp h2 with h2 | h2
      · rw [e3]
        exact o.u _ _ a l i' ha' hl ht h1 h2
      · rw [List.mem_singleton.mp h2] at h1
        exact absurd h1 (nin a (List.mem_of_getElem? ha') ht)
    · exact o.u _ _ a b i' ha' hb' ht h1 h2
/-- lines that carry nothing are left out -/
def Gd.drop (g : Gd) : Gd := { g with lines := g.lines.filter fun l => !l.it.isEmpty }
theorem GdOk.drop {g : Gd} (o : GdOk g) : GdOk g.drop := by
  have mem : ∀ {l}, l ∈ g.drop.lines → l ∈ g.lines := fun h => (List.mem_filter.mp h).1
  have keep : ∀ {l} {i}, l ∈ g.lines → i ∈ l.it → l ∈ g.drop.lines := fun {l i} h hi => List.mem_filter.mpr ⟨h, by
    cases e : l.it with
    | nil => rw [e] at hi; cases hi
    | cons a r => rfl⟩
  have nn : g.lines.Pairwise fun l m => ¬ (l.tgt = m.tgt ∧ ∃ i, i ∈ l.it ∧ i ∈ m.it) := List.pairwise_iff_getElem.mpr fun j k hj hk jk ⟨ht, i, h1, h2⟩ => by
    have := o.u j k _ _ i (List.getElem?_eq_getElem hj) (List.getElem?_eq_getElem hk) ht h1 h2
    omega
  have nd : g.drop.lines.Pairwise fun l m => ¬ (l.tgt = m.tgt ∧ ∃ i, i ∈ l.it ∧ i ∈ m.it) := nn.sublist List.filter_sublist
  refine ⟨o.sN, o.hN, o.hS, o.lN.sublist (List.filter_sublist.map _), fun l h => o.lE l (mem h), fun l h => o.lI l (mem h), o.wH, fun l h => o.wL l (mem h), fun i s w h => ?_, fun j k l m i hj hk ht h1 h2 => ?_⟩
  · rcases o.wD i s w h with h | ⟨l, h1, h2, h3⟩
    · exact .inl h
    · exact .inr ⟨l, keep h1 h3, h2, h3⟩
  · obtain ⟨j1, j2⟩ := List.getElem?_eq_some_iff.mp hj
    obtain ⟨k1, k2⟩ := List.getElem?_eq_some_iff.mp hk
    rcases Nat.lt_trichotomy j k with q | q | q
    · exact absurd ⟨by rw [j2, k2]; exact ht, i, by rw [j2]; exact h1, by rw [k2]; exact h2⟩ (List.pairwise_iff_getElem.mp nd j k j1 k1 q)
    · exact q
    · exact absurd ⟨by rw [j2, k2]; exact ht.symm, i, by rw [k2]; exact h2, by rw [j2]; exact h1⟩ (List.pairwise_iff_getElem.mp nd k j k1 j1 q)
section
variable {g : Gd} (o : GdOk g)
include o
theorem GdOk.homeU {i h h' : Str} (a : (i, h) ∈ g.homes) (b : (i, h') ∈ g.homes) : h = h' := by
  obtain ⟨j, hj, e⟩ := List.getElem_of_mem a
  obtain ⟨k, hk, e'⟩ := List.getElem_of_mem b
  have q : g.goods[j]'(by simpa [Gd.goods] using hj) = g.goods[k]'(by simpa [Gd.goods] using hk) := by simp [Gd.goods, e, e']
  have := (List.getElem_inj o.hN).mp q
  subst this
  rw [e] at e'
  exact (Prod.mk.inj e').2
theorem GdOk.step {i s : Str} {w : List Str} (h : g.ways i s = some w) (n : w ≠ []) : ∃ l ∈ g.lines, l.tgt = s ∧ i ∈ l.it ∧ ∃ w', g.ways i l.src = some w' ∧ w = w' ++ [l.nm] := by
  rcases o.wD i s w h with a | ⟨l, hl, e, hi⟩
  · have := o.wH _ a
    rw [h] at this
    exact absurd (Option.some.inj this) n
  · obtain ⟨w', h1, h2⟩ := o.wL l hl i hi
    rw [e, h] at h2
    exact ⟨l, hl, e, hi, w', h1, Option.some.inj h2⟩
theorem GdOk.atHome {i s hm : Str} {w : List Str} (h : g.ways i s = some w) (a : (i, hm) ∈ g.homes) : w = [] ↔ s = hm := by
  constructor
  · rintro rfl
    rcases o.wD i s [] h with b | ⟨l, hl, e, hi⟩
    · exact o.homeU b a
    · obtain ⟨w', _, h2⟩ := o.wL l hl i hi
      rw [e, h] at h2
      have := congrArg List.length (Option.some.inj h2)
      simp at this
  · rintro rfl
    have := o.wH _ a
    rw [h] at this
    exact Option.some.inj this
theorem GdOk.lineU {l m : Ln} (a : l ∈ g.lines) (b : m ∈ g.lines) (e : l.nm = m.nm) : l = m := by
  obtain ⟨j, hj, e1⟩ := List.getElem_of_mem a
  obtain ⟨k, hk, e2⟩ := List.getElem_of_mem b
  have q : (g.lines.map (·.nm))[j]'(by simpa using hj) = (g.lines.map (·.nm))[k]'(by simpa using hk) := by simp [e1, e2, e]
  have := (List.getElem_inj o.lN).mp q
  subst this
  rw [← e1, ← e2]
theorem GdOk.bringU {l m : Ln} {i : Str} (a : l ∈ g.lines) (b : m ∈ g.lines) (e : l.tgt = m.tgt) (h1 : i ∈ l.it) (h2 : i ∈ m.it) : l = m := by
  obtain ⟨j, hj⟩ := List.getElem?_of_mem a
  obtain ⟨k, hk⟩ := List.getElem?_of_mem b
  have := o.u j k l m i hj hk e h1 h2
  subst this
  rw [hj] at hk
  exact Option.some.inj hk
theorem GdOk.wayMem : ∀ (n : Nat) {i s : Str} {w : List Str}, w.length = n → g.ways i s = some w → ∀ x ∈ w, ∃ m ∈ g.lines, m.nm = x ∧ i ∈ m.it ∧ ∃ u, g.ways i m.tgt = some u ∧ u.length ≤ w.length
  | 0, _, _, [], _, _, x, hx => by cases hx
  | n + 1, i, s, w, hn, h, x, hx => by
    obtain ⟨l, hl, e, hi, w', h1, rfl⟩ := o.step h (fun z => by rw [z] at hn; cases hn)
    rcases List.mem_append.mp hx with hx | hx
    · obtain ⟨m, hm, e1, hi1, u, h2, h3⟩ := GdOk.wayMem n (w := w') (by simpa using hn) h1 x hx
      exact ⟨m, hm, e1, hi1, u, h2, by simp; omega⟩
    · rw [List.mem_singleton.mp hx]
      exact ⟨l, hl, rfl, hi, _, by rw [e]; exact h, Nat.le_refl _⟩
theorem GdOk.wayNew {i : Str} {l : Ln} {w : List Str} (hl : l ∈ g.lines) (h : g.ways i l.tgt = some (w ++ [l.nm])) (h' : g.ways i l.src = some w) : l.nm ∉ w := fun hx => by
  obtain ⟨m, hm, e, hi, u, h2, h3⟩ := o.wayMem _ rfl h' l.nm hx
  have := o.lineU hm hl e
  subst this
  rw [h] at h2
  have := congrArg List.length (Option.some.inj h2)
  simp at this
  omega
theorem GdOk.wayNodup : ∀ (n : Nat) {i s : Str} {w : List Str}, w.length = n → g.ways i s = some w → w.Nodup
  | 0, _, _, [], _, _ => List.nodup_nil
  | n + 1, i, s, w, hn, h => by
    obtain ⟨l, hl, e, hi, w', h1, rfl⟩ := o.step h (fun z => by rw [z] at hn; cases hn)
    refine List.nodup_append.mpr ⟨GdOk.wayNodup n (by simpa using hn) h1, List.pairwise_singleton _ _, fun a ha b hb e2 => ?_⟩
    rw [List.mem_singleton.mp hb] at e2
    exact o.wayNew hl (by rw [e]; exact h) h1 (by rw [← e2]; exact ha)
theorem GdOk.siteIn {i s : Str} {w : List Str} (h : g.ways i s = some w) : i ∈ g.goods ∧ s ∈ g.sites := by
  rcases o.wD i s w h with a | ⟨l, hl, e, hi⟩
  · exact ⟨List.mem_map.mpr ⟨_, a, rfl⟩, o.hS _ a⟩
  · exact ⟨(o.lI l hl).2 i hi, by rw [← e]; exact (o.lE l hl).2.1⟩
end
end M

namespace M
open PySem PySem.Spec PyProof.Rows L2
/-! ### a ground laid out in the heap, while it is made -/
def k2 (i s : Str) : List L2.Key := [Sum.inr i, Sum.inr s]
theorem k2_inj {i s i' s' : Str} (h : k2 i s = k2 i' s') : i = i' ∧ s = s' := by
  have h1 := List.cons.inj h
  have h2 := List.cons.inj h1.2
  exact ⟨Sum.inr.inj h1.1, Sum.inr.inj h2.1⟩
/-- the ways' dict: each known way a list that stands in Hc -/
structure WyS (Hc : Hp) (kvs : List (List L2.Key × V)) (w : Ways) : Prop where
  some_ : ∀ i s v, w i s = some v → ∃ a, valV kvs (k2 i s) = some (.ref a) ∧ Hc a = some (.lst (v.map V.str))
  none_ : ∀ i s, w i s = none → valV kvs (k2 i s) = none
  keys : ∀ e ∈ kvs, ∃ i s, e.1 = k2 i s
theorem WyS.same {Hc Hc' : Hp} {kvs : List (List L2.Key × V)} {w : Ways} (x : WyS Hc kvs w) (s : Same Hc Hc') : WyS Hc' kvs w :=
  ⟨fun i t v h => let ⟨a, h1, h2⟩ := x.some_ i t v h; ⟨a, h1, s _ _ h2⟩, x.none_, x.keys⟩
theorem putK_mem {κ : Type} [DecidableEq κ] {kvs : List (κ × V)} {k : κ} {v : V} {e : κ × V} (h : e ∈ putK kvs k v) : e.1 = k ∨ ∃ e' ∈ kvs, e'.1 = e.1 := by
  unfold putK at h
  split at h
  · obtain ⟨e', h1, h2⟩ := List.mem_map.mp h
    refine .inr ⟨e', h1, ?_⟩
    rw [← h2]
    split <;> rfl
  · rcases List.mem_append.mp h with h | h
    · exact .inr ⟨e, h, rfl⟩
    · rw [List.mem_singleton.mp h]; exact .inl rfl
theorem WyS.put {Hc : Hp} {kvs : List (List L2.Key × V)} {w : Ways} (x : WyS Hc kvs w) {i s : Str} {v : List Str} {a : Addr} (h : Hc a = some (.lst (v.map V.str))) : WyS Hc (putK kvs (k2 i s) (.ref a)) (wSet w i s v) := by
  refine ⟨fun i' s' v' h' => ?_, fun i' s' h' => ?_, fun e he => ?_⟩
  · rw [valV_put]
    by_cases e : i' = i ∧ s' = s
    · obtain ⟨rfl, rfl⟩ := e
      rw [wSet_same] at h'
      cases h'
      exact ⟨a, if_pos rfl, h⟩
    · rw [wSet_ne e] at h'
      rw [if_neg (fun q => e (k2_inj q))]
      exact x.some_ i' s' v' h'
  · rw [valV_put]
    by_cases e : i' = i ∧ s' = s
    · obtain ⟨rfl, rfl⟩ := e
      rw [wSet_same] at h'
      cases h'
    · rw [wSet_ne e] at h'
      rw [if_neg (fun q => e (k2_inj q))]
      exact x.none_ i' s' h'
  · rcases putK_mem he with q | ⟨e', h1, h2⟩
    · exact ⟨i, s, q⟩
    · obtain ⟨i', s', q⟩ := x.keys e' h1
      exact ⟨i', s', by rw [← h2]; exact q⟩
/-- the lines' lists of items -/
def itT (as : List Addr) (ls : List Ln) : List (Addr × HO) := List.zipWith (fun a l => (a, .lst (l.it.map V.str))) as ls
theorem itT_fst {as : List Addr} {ls : List Ln} (h : as.length = ls.length) : (itT as ls).map (·.1) = as := by
  unfold itT
  rw [List.map_zipWith]
  induction as generalizing ls with
  | nil => rfl
  | cons a as ih =>
    cases ls with
    | nil => cases h
    | cons l ls =>
      show a :: _ = _
      rw [ih (by simpa using h)]
theorem itT_at {as : List Addr} {ls : List Ln} {k : Nat} {a : Addr} {l : Ln} (h1 : as[k]? = some a) (h2 : ls[k]? = some l) : (itT as ls)[k]? = some (a, .lst (l.it.map V.str)) := by
  unfold itT
  rw [List.getElem?_zipWith, h1, h2]
theorem itT_set {as : List Addr} {ls : List Ln} {k : Nat} {a : Addr} (h1 : as[k]? = some a) (l' : Ln) : (itT as ls).set k (a, .lst (l'.it.map V.str)) = itT as (ls.set k l') := by
  unfold itT
  induction as generalizing ls k with
  | nil => cases h1
  | cons b as ih =>
    cases ls with
    | nil => cases k <;> rfl
    | cons l ls =>
      cases k with
      | zero => cases h1; rfl
      | succ k =>
        show _ :: _ = _ :: _
        rw [ih (by simpa using h1)]
/-- a line as _law_rows keeps it: a list, its items a list of their own -/
def rwV (l : Ln) (a : Addr) : List V := [.str l.nm, .str l.src, .str l.tgt, .ref a, kindV l.kd]
structure RwS (Hc : Hp) (as : List Addr) (rws : List V) (ls : List Ln) : Prop where
  al : as.length = ls.length
  rl : rws.length = ls.length
  at_ : ∀ (k : Nat) l a, ls[k]? = some l → as[k]? = some a → ∃ r, rws[k]? = some (.ref r) ∧ Hc r = some (.lst (rwV l a))
theorem RwS.same {Hc Hc' : Hp} {as : List Addr} {rws : List V} {ls : List Ln} (x : RwS Hc as rws ls) (s : Same Hc Hc') : RwS Hc' as rws ls :=
  ⟨x.al, x.rl, fun k l a h1 h2 => let ⟨r, h3, h4⟩ := x.at_ k l a h1 h2; ⟨r, h3, s _ _ h4⟩⟩
theorem RwS.set {Hc : Hp} {as : List Addr} {rws : List V} {ls : List Ln} (x : RwS Hc as rws ls) {k : Nat} {l : Ln} (h : ls[k]? = some l) (i : Str) : RwS Hc as rws (ls.set k (l.more i)) := by
  refine ⟨by rw [List.length_set]; exact x.al, by rw [List.length_set]; exact x.rl, fun j m a h1 h2 => ?_⟩
  rw [List.getElem?_set] at h1
  split at h1
  · rename_i q
    subst q
    rw [if_pos (List.getElem?_eq_some_iff.mp h).1] at h1
    cases h1
    exact x.at_ k l a h h2
  · exact x.at_ j m a h1 h2
/-- the ground's objects: over H0, the draws at p, the ways at W, the items' lists at as; all else stays -/
structure Gr (H0 H : Hp) (p W : Addr) (as : List Addr) (ds : List Int) (kvs : List (List L2.Key × V)) (rws : List V) (g : Gd) : Prop where
  x : Hx H0 H ((p, .lst (ds.map V.int)) :: (W, .dT kvs) :: itT as g.lines)
  r : RwS (cut H (p :: W :: as)) as rws g.lines
  w : WyS (cut H (p :: W :: as)) kvs g.ways
section
variable {H0 H H' : Hp} {p W : Addr} {as : List Addr} {ds : List Int} {kvs : List (List L2.Key × V)} {rws : List V} {g : Gd}
theorem Gr.same (x : Gr H0 H p W as ds kvs rws g) (s : Same H H') : Gr H0 H' p W as ds kvs rws g := ⟨x.x.same s, x.r.same (cut_same s), x.w.same (cut_same s)⟩
theorem Gr.draw (x : Gr H0 H p W as ds kvs rws g) (ds' : List Int) : Gr H0 (upd H p (.lst (ds'.map V.int))) p W as ds' kvs rws g :=
  ⟨x.x.set 0 rfl, by rw [cut_upd (by simp)]; exact x.r, by rw [cut_upd (by simp)]; exact x.w⟩
theorem Gr.hp (x : Gr H0 H p W as ds kvs rws g) : H p = some (.lst (ds.map V.int)) := x.x.get 0 rfl
theorem Gr.hW (x : Gr H0 H p W as ds kvs rws g) : H W = some (.dT kvs) := x.x.get 1 rfl
theorem Gr.ha (x : Gr H0 H p W as ds kvs rws g) {k : Nat} {a : Addr} {l : Ln} (h1 : as[k]? = some a) (h2 : g.lines[k]? = some l) : H a = some (.lst (l.it.map V.str)) :=
  x.x.get (k + 2) (by rw [List.getElem?_cons_succ, List.getElem?_cons_succ]; exact itT_at h1 h2)
theorem Gr.item (x : Gr H0 H p W as ds kvs rws g) {k : Nat} {a : Addr} {l : Ln} (h1 : as[k]? = some a) (h2 : g.lines[k]? = some l) (i : Str) :
    Gr H0 (upd H a (.lst ((l.more i).it.map V.str))) p W as ds kvs rws { g with lines := g.lines.set k (l.more i) } := by
  have am : a ∈ p :: W :: as := by
    have := List.mem_of_getElem? h1
    simp [this]
  refine ⟨?_, by rw [cut_upd am]; exact x.r.set h2 i, by rw [cut_upd am]; exact x.w⟩
  have z := x.x.set (o' := .lst ((l.more i).it.map V.str)) (k + 2) (by rw [List.getElem?_cons_succ, List.getElem?_cons_succ]; exact itT_at h1 h2)
  rw [List.set_cons_succ, List.set_cons_succ, itT_set h1] at z
  exact z
theorem Gr.way (x : Gr H0 H p W as ds kvs rws g) {i s : Str} {v : List Str} {a : Addr} (h : cut H (p :: W :: as) a = some (.lst (v.map V.str))) :
    Gr H0 (upd H W (.dT (putK kvs (k2 i s) (.ref a)))) p W as ds (putK kvs (k2 i s) (.ref a)) rws { g with ways := wSet g.ways i s v } :=
  ⟨x.x.set 1 rfl, by rw [cut_upd (by simp)]; exact x.r, by rw [cut_upd (by simp)]; exact x.w.put h⟩
theorem Gr.out (x : Gr H0 H p W as ds kvs rws g) {T : Addr} (n : H T = none) : T ∉ p :: W :: as := fun h => by
  refine x.x.out n ?_
  rw [List.map_cons, List.map_cons, itT_fst x.r.al]
  exact h
theorem WyS.isSome {Hc : Hp} {w : Ways} (x : WyS Hc kvs w) (i s : Str) : (valV kvs (k2 i s)).isSome = (w i s).isSome := by
  cases e : w i s with
  | none => rw [x.none_ i s e]; rfl
  | some v => obtain ⟨a, h, _⟩ := x.some_ i s v e; rw [h]; rfl
end
def able (w : Ways) (l : Ln) (i : Str) : Bool := (w i l.src).isSome && !(w i l.tgt).isSome
end M

namespace M
open PySem PySem.Spec PyProof.Rows L2
local macro_rules | `(tactic| walk_at "go") => `(tactic| repeat (first | refine ⟨_, rfl, ?_⟩ | refine ⟨rfl, ?_⟩ | refine ⟨_, _, rfl, rfl, ?_⟩ | refine .inl ⟨_, rfl, ?_⟩ | refine .inr ⟨_, rfl, ?_⟩ | refine ⟨.inl ⟨rfl, _, SqL.of (by assumption)⟩, ?_⟩ | refine ⟨_, _, _, rfl, rfl, (by assumption), ?_⟩ | refine ⟨⟨by decide, by decide, by decide⟩, ?_⟩ | refine ⟨⟨by decide, by decide⟩, ?_⟩ | refine ⟨.inr ⟨by decide, by decide⟩, ?_⟩ | refine ⟨.inl ⟨by decide, by decide⟩, ?_⟩ | refine ⟨by decide, ?_⟩ | refine ⟨(by show (_ : Int) ≠ (0 : Int); decide), ?_⟩))
def top (i : Nat) : Stmt := PySem.Challenge.pw_latebridges_k09_programs_that_read_the_l.main.body.getD i (.Pass ⟨0, 0, 0, 0⟩)

/-! ### the exception class OutOfOrder -/
abbrev sIOutOfOrder : Stmt := (inClass (top 2) 0)
theorem iOutOfOrder : PySem.XEx.IText ["ring"] (defArgs sIOutOfOrder) (defBody sIOutOfOrder) (defScope sIOutOfOrder) :=
  { bd := ⟨_, _, _, _, _, _, _, _, _, rfl, (.cons .nil), rfl⟩, hks := by decide +kernel, hkc := by decide +kernel, hself := by decide +kernel, hf := by decide +kernel, hcell := by decide +kernel, hco := rfl, hgen := rfl, hk := rfl, hp := ⟨_, rfl, rfl⟩,
    bind := fun name qual cl kV doc pm an cdv ct us hl => match us, hl with | [_, _], _ => rfl, nd := by decide +kernel, len := by decide }
abbrev xdOutOfOrder : XD := ⟨"OutOfOrder", ["ring"], defArgs sIOutOfOrder, defBody sIOutOfOrder, defScope sIOutOfOrder⟩

/-! ### _law_draws -/
abbrev sDraws : Stmt := (top 12)
abbrev nDraws : List Str := ["_law_script", "_law_many", "_law_draws_here", "_law_cell", "_law_size", "_law_k", "_law_rest", "_law_draw"]
theorem scDraws : FnScope nDraws ["_law_script", "_law_many"] (defScope sDraws) := ⟨rfl, rfl, rfl, by decide +kernel, rfl, by decide +kernel, by decide +kernel⟩
def spDraws (K : PySem.W.Frag) : Sp := fun vs H Q _ => ∃ (a : Addr) (ns : List Int) (n : Nat), vs = [.ref a, .int n] ∧ SqL K H a (ns.map V.int) ∧ ns.length ≤ 63 ∧ n ≤ 1000 ∧
  ∀ (p : Addr) (ds : List Int) (H' : Hp), H p = none → Same H H' → H' p = some (.lst (ds.map V.int)) → ds.length = n → Dr ds → Q (.ref p) H'
section
variable {P : Program} {w : World} {K : PySem.W.Frag} {mg : Str → Option Value} {base : Heap}
theorem ok_draws {f : Addr} {fd : FuncData} (F : FnP K "_law_draws" sDraws f fd) (T : Bi mg) : FnOk P w K mg base (L2.CX P w) 1 f fd ["_law_script", "_law_many"] (spDraws K) := by
  refine F.ok scDraws (fun vs H Q E h => ?_) (fun cdv A outer s H vs Q E hr h => ?_)
  · obtain ⟨a, ns, n, rfl, _⟩ := h
    rfl
  · obtain ⟨a, ns, n, rfl, hS, hlen, hn, kQ⟩ := h
    have nd := scDraws.nd
    refine ⟨_, PSs.nox (pss_cons (ps_set (i := 2) nd rfl (Or.inl rfl) (pe_lst pa_nil))
      (pss_cons (ps_for PassesOwn.never rfl (pi_list (pv 0)) (pg_name (i := 3) nd rfl (Or.inl rfl)) (pss_cons (ps_set (i := 4) nd rfl (Or.inl rfl) (pe_callB call_abs (by rfl) T.abs (by decide +kernel) (pa_cons (pe_callTy call_int1 (by rfl) T.int (by decide +kernel) (pa_cons (pv 3) pa_nil)) pa_nil)))
        (pss_one (ps_if (pt_cmpR op_ge (pv 4) (pe_op op_pow pe_int pe_int) (nomark _)) (pss_one (ps_for PassesOwn.never rfl (pi_range1 (by rfl) T.range (pa_cons pe_int pa_nil)) (pg_name (i := 5) nd rfl (Or.inl rfl)) (pss_one (ps_if (pt_cmpR op_gt (pv 4) pe_int (nomark _)) (pss_cons (ps_expr (pe_bm PySem.F.plainAttrs_list PySem.F.slot_list_append PySem.F.type_list_append mt_append (pv 2) (pa_cons (pe_op op_modN (pe_callTy call_int1 (by rfl) T.int (by decide +kernel) (pa_cons (pv 4) pa_nil)) pe_int) pa_nil)))
              (pss_one (ps_set (i := 4) nd rfl (Or.inl rfl) (pe_op op_fdivN (pv 4) pe_int)))) pss_nil)))) (pss_cons (ps_set (i := 4) nd rfl (Or.inl rfl) (pe_op op_add (pv 4) (pe_op op_mul pe_int (pe_callTy call_int1 (by rfl) T.int (by decide +kernel) (pa_cons (pe_cmpR op_lt (pv 3) pe_int (nomark _)) pa_nil)))))
          (pss_one (ps_for PassesOwn.never rfl (pi_range1 (by rfl) T.range (pa_cons pe_int pa_nil)) (pg_name (i := 5) nd rfl (Or.inl rfl)) (pss_cons (ps_set (i := 4) nd rfl (Or.inl rfl) (pe_op op_modN (pe_callTy call_int1 (by rfl) T.int (by decide +kernel) (pa_cons (pe_op op_add (pe_op op_add (pe_op op_mul (pv 4) pe_int) (pe_op op_mul pe_int (pv 5))) pe_int) pa_nil)) pe_int))
            (pss_one (ps_expr (pe_bm PySem.F.plainAttrs_list PySem.F.slot_list_append PySem.F.type_list_append mt_append (pv 2) (pa_cons (pe_op op_modN (pe_callTy call_int1 (by rfl) T.int (by decide +kernel) (pa_cons (pe_op op_fdivN (pv 4) pe_int) pa_nil)) pe_int) pa_nil))))))))))))
      (pss_cons (ps_set (i := 6) nd rfl (Or.inl rfl) pe_int)
      (pss_cons (ps_for PassesOwn.never rfl (pi_list (pv 2)) (pg_name (i := 7) nd rfl (Or.inl rfl)) (pss_one (ps_set (i := 6) nd rfl (Or.inl rfl) (pe_op op_modN (pe_callTy call_int1 (by rfl) T.int (by decide +kernel) (pa_cons (pe_op op_add (pe_op op_mul (pv 6) pe_int) (pv 7)) pa_nil)) pe_int))))
      (pss_cons (ps_for PassesOwn.never rfl (pi_range1 (by rfl) T.range (pa_cons (pv 1) pa_nil)) (pg_name (i := 5) nd rfl (Or.inl rfl)) (pss_cons (ps_set (i := 6) nd rfl (Or.inl rfl) (pe_op op_modN (pe_callTy call_int1 (by rfl) T.int (by decide +kernel) (pa_cons (pe_op op_add (pe_op op_mul (pv 6) pe_int) (pe_op op_mul pe_int (pv 5))) pa_nil)) pe_int))
        (pss_one (ps_expr (pe_bm PySem.F.plainAttrs_list PySem.F.slot_list_append PySem.F.type_list_append mt_append (pv 2) (pa_cons (pe_op op_mul (pe_op op_modN (pe_callTy call_int1 (by rfl) T.int (by decide +kernel) (pa_cons (pe_op op_fdivN (pv 6) pe_int) pa_nil)) pe_int) (pe_callTy call_int1 (by rfl) T.int (by decide +kernel) (pa_cons (pe_cmpR op_gt (pe_callB call_len_seq (by rfl) T.len PySem.boot_len (pa_cons (pv 0) pa_nil)) pe_int (nomark _)) pa_nil))) pa_nil))))))
      (pss_cons (ps_set (i := 2) nd rfl (Or.inl rfl) (pe_slice sl_list (pv 2) po_none (po_some (pv 1))))
      (pss_cons (ps_expr (pe_bm0 PySem.F.plainAttrs_list PySem.F.slot_list_reverse PySem.F.type_list_reverse mt_reverse (pv 2)))
      (pss_one (ps_ret (pv 2)))))))))), ?_⟩
    walk_at "go"
    refine fun p np => ?_
    walk_at "go"
    refine ⟨⟨_, (Same.new (Same.refl H) np).seq hS⟩, for_list (K := K) (a := a) (xs := ns.map V.int)
      (fun i σ H1 => ∃ (ds : List Int) (c z k : Option V), σ = [some (.ref a), some (.int n), some (.ref p), c, z, k, none, none] ∧ Same H H1 ∧ H1 p = some (.lst (ds.map V.int)) ∧ Dr ds ∧ ds.length ≤ 45 * i)
      ⟨[], none, none, none, rfl, Same.new (Same.refl H) np, upd_same, Dr.nil, Nat.zero_le _⟩ (fun i σ H1 _ ⟨_, _, _, _, _, s1, _⟩ => s1.seq hS) ?_ ?_⟩
    · rintro i y σ H1 hi ⟨ds, c, z, k, rfl, s1, hp, hd, hl⟩
      have hil : i < ns.length := by
        have := lt_of_at hi
        rwa [List.length_map] at this
      obtain ⟨x, _, rfl⟩ := int_at hi
      walk_at "go"
      refine ite2 (fun _ => ?_) (fun hb => ?_)
      · refine ⟨_, rfl, by decide, by decide, for_range (n := 45) (fun j σ H2 => ∃ (ds : List Int) (z : Int) (k : Option V), σ = [some (.ref a), some (.int n), some (.ref p), some (.int x), some (.int z), k, none, none] ∧ Same H H2 ∧ H2 p = some (.lst (ds.map V.int)) ∧ Dr ds ∧ ds.length ≤ 45 * i + j)
          ⟨ds, _, k, rfl, s1, hp, hd, hl⟩ ?_ ?_⟩
        · rintro j σ H2 hj ⟨ds, z, k, rfl, s2, hp, hd, hl⟩
          walk_at "go"
          refine ite2 (fun _ => ?_) (fun _ => ?_)
          · walk_at "go"
            refine ⟨size_ok (m := 10000) (by rw [List.length_map]; omega) (by decide), ?_⟩
            walk_at "go"
            exact ⟨ds ++ [z.fmod 1000], _, _, rfl, s2.mut np, by rw [upd_same, List.map_append]; rfl, hd.snoc (fm_nonneg z (by decide)) (fm_lt z (by decide)), by rw [List.length_append, List.length_singleton]; omega⟩
          · exact ⟨ds, z, _, rfl, s2, hp, hd, by omega⟩
        · rintro σ H2 ⟨ds, z, k, rfl, s2, hp, hd, hl⟩
          exact ⟨ds, _, _, _, rfl, s2, hp, hd, by omega⟩
      · walk_at "go"
        refine for_range (n := 6) (fun j σ H2 => ∃ (ds : List Int) (z : Int) (k : Option V), σ = [some (.ref a), some (.int n), some (.ref p), some (.int x), some (.int z), k, none, none] ∧ Same H H2 ∧ H2 p = some (.lst (ds.map V.int)) ∧ Dr ds ∧ ds.length ≤ 45 * i + j)
          ⟨ds, _, k, rfl, s1, hp, hd, hl⟩ ?_ ?_
        · rintro j σ H2 hj ⟨ds, z, k, rfl, s2, hp, hd, hl⟩
          walk_at "go"
          refine ⟨size_ok (m := 10000) (by rw [List.length_map]; omega) (by decide), ?_⟩
          walk_at "go"
          exact ⟨ds ++ [_], _, _, rfl, s2.mut np, by rw [upd_same, List.map_append]; rfl, hd.snoc (fm_nonneg _ (by decide)) (fm_lt _ (by decide)), by rw [List.length_append, List.length_singleton]; omega⟩
        · rintro σ H2 ⟨ds, z, k, rfl, s2, hp, hd, hl⟩
          exact ⟨ds, _, _, _, rfl, s2, hp, hd, by omega⟩
    · rintro σ H1 ⟨ds, c, z, k, rfl, s1, hp, hd, hl⟩
      rw [List.length_map] at hl
      walk_at "go"
      refine ⟨⟨_, SqL.of hp⟩, for_list (K := K) (a := p) (xs := ds.map V.int)
        (fun i σ H2 => H2 = H1 ∧ ∃ (r : Int) (d : Option V), σ = [some (.ref a), some (.int n), some (.ref p), c, z, k, some (.int r), d])
        ⟨rfl, _, _, rfl⟩ (fun i σ H2 _ ⟨e, _⟩ => by rw [e]; exact SqL.of hp) ?_ ?_⟩
      · rintro i y σ H2 hi ⟨rfl, r, d, rfl⟩
        obtain ⟨x, _, rfl⟩ := int_at hi
        walk_at "go"
        exact ⟨_, _, rfl⟩
      · rintro σ H2 ⟨rfl, r, d, rfl⟩
        walk_at "go"
        refine ⟨by omega, by omega, for_range (n := n) (fun j σ H3 => ∃ (es : List Int) (k : Option V) (r : Int), σ = [some (.ref a), some (.int n), some (.ref p), c, z, k, some (.int r), d] ∧ Same H H3 ∧ H3 p = some (.lst (es.map V.int)) ∧ Dr es ∧ es.length = ds.length + j)
          ⟨ds, k, r, rfl, s1, hp, hd, rfl⟩ ?_ ?_⟩
        · rintro j σ H3 hj ⟨es, k, r, rfl, s3, hp, hd, hl3⟩
          walk_at "go"
          refine ⟨a, _, rfl, .inl (s3.seq hS), ?_⟩
          walk_at "go"
          generalize hz : ((((r * 16807 + 13 * (0 + (j : Int))).fmod 2147483647).fdiv 7).fmod 1000) = z
          have z0 : 0 ≤ z := by rw [← hz]; exact fm_nonneg _ (by decide)
          have z1 : z < 1000 := by rw [← hz]; exact fm_lt _ (by decide)
          generalize hb : (if decide ((0 : Int) < ((ns.map V.int).length : Int)) = true then (1 : Int) else 0) = b
          have b0 : b = 0 ∨ b = 1 := by
            rw [← hb]
            split
            · exact .inr rfl
            · exact .inl rfl
          have e0 : 0 ≤ z * b ∧ z * b < 1000 := by
            rcases b0 with e | e <;> rw [e] <;> omega
          refine ⟨.inl ⟨by omega, by omega⟩, ?_⟩
          walk_at "go"
          refine ⟨size_ok (m := 10000) (by rw [List.length_map]; omega) (by decide), ?_⟩
          exact ⟨es ++ [z * b], _, _, rfl, s3.mut np, by rw [upd_same, List.map_append]; rfl, hd.snoc e0.1 e0.2, by rw [List.length_append, List.length_singleton]; omega⟩
        · rintro σ H3 ⟨es, k, r, rfl, s3, hp, hd, hl3⟩
          walk_at "go"
          refine ⟨p, _, rfl, SqL.of hp, fun q nq => ?_⟩
          refine ⟨_, rfl, .inl ⟨rfl, _, SqL.of upd_same⟩, q, _, rfl, rfl, upd_same, ?_⟩
          refine ⟨_, rfl, ?_⟩
          have ec : cutV (es.map V.int) none (some (n : Int)) = (es.take n).map V.int := by
            rw [cut_to _ (by rw [List.length_map]; omega), List.map_take]
          refine kQ q (es.take n).reverse _ (s3.free nq) ?_ ?_ ?_ ?_
          · exact (s3.new nq).mut (s3.free nq)
          · rw [upd_same, ec, List.map_reverse]
          · rw [List.length_reverse, List.length_take]; omega
          · intro d hd'
            exact hd d (List.mem_of_mem_take (List.mem_reverse.mp hd'))
end

/-! ### _law_take -/
abbrev sTake : Stmt := (top 13)
theorem scTake : FnScope ["_law_draws_here", "_law_size"] ["_law_draws_here", "_law_size"] (defScope sTake) := ⟨rfl, rfl, rfl, by decide +kernel, rfl, by decide +kernel, by decide +kernel⟩
def spTake : Sp := fun vs H Q _ => ∃ (a : Addr) (ds : List Int) (m : Int), vs = [.ref a, .int m] ∧ H a = some (.lst (ds.map V.int)) ∧ Dr ds ∧ 0 < m ∧
  ∀ (d : Int) (ds' : List Int), 0 ≤ d → d < m → Dr ds' → ds'.length ≤ ds.length → Q (.int d) (upd H a (.lst (ds'.map V.int)))
section
variable {P : Program} {w : World} {K : PySem.W.Frag} {mg : Str → Option Value} {base : Heap}
theorem ok_take {f : Addr} {fd : FuncData} (F : FnP K "_law_take" sTake f fd) (T : Bi mg) : FnOk P w K mg base (L2.CX P w) 1 f fd ["_law_draws_here", "_law_size"] spTake := by
  refine F.ok scTake (fun vs H Q E h => ?_) (fun cdv A outer s H vs Q E hr h => ?_)
  · obtain ⟨a, ds, m, rfl, _⟩ := h
    rfl
  · obtain ⟨a, ds, m, rfl, ha, hd, hm, kQ⟩ := h
    have nd := scTake.nd
    refine ⟨_, PSs.nox (pss_cons (ps_if (pt_not (pt_truth (pv 0) (by intro _; rfl))) (pss_one (ps_ret pe_int)) pss_nil)
      (pss_one (ps_ret (pe_op op_modN (pe_callTy call_int1 (by rfl) T.int (by decide +kernel) (pa_cons (pe_bm0 PySem.F.plainAttrs_list PySem.F.slot_list_pop PySem.F.type_list_pop mt_pop (pv 0)) pa_nil)) (pv 1))))), ?_⟩
    refine ⟨_, rfl, !(ds.map V.int).isEmpty, .inl ⟨_, SqL.of ha, rfl⟩, ?_⟩
    cases ds with
    | nil =>
      refine iteT ?_
      have e : upd H a (.lst (([] : List Int).map V.int)) = H := by
        funext b
        unfold upd
        split
        · rename_i e; rw [e, ha]
        · rfl
      have z := kQ 0 [] (Int.le_refl 0) hm Dr.nil (Nat.le_refl _)
      rw [e] at z
      exact z
    | cons d0 ds =>
      refine iteF ?_
      obtain ⟨es, e, he⟩ : ∃ es e, d0 :: ds = es ++ [e] := ⟨(d0 :: ds).dropLast, (d0 :: ds).getLast (by simp), (List.dropLast_concat_getLast (by simp)).symm⟩
      rw [he] at ha hd kQ
      have hl : ((es ++ [e]).map V.int)[((es ++ [e]).map V.int).length - 1]? = some (.int e) := by
        rw [List.map_append, List.length_append, List.map_singleton, List.length_singleton, Nat.add_sub_cancel, List.getElem?_append_right (Nat.le_refl _), Nat.sub_self]
        rfl
      refine ⟨_, rfl, .inl ⟨rfl, _, SqL.of ha⟩, a, _, _, rfl, rfl, ha, hl, .inl ⟨_, rfl, _, rfl, _, _, rfl, rfl, Int.ne_of_gt hm, ?_⟩⟩
      have z := kQ (e.fmod m) es (fm_nonneg e hm) (fm_lt e hm) (fun x hx => hd x (List.mem_append_left _ hx)) (by rw [List.length_append]; exact Nat.le_add_right _ _)
      have ed : ((es ++ [e]).map V.int).dropLast = es.map V.int := by rw [List.map_append, List.map_singleton, List.dropLast_concat]
      rw [ed]
      exact z
end

/-! ### _law_names -/
abbrev sNames : Stmt := (top 14)
theorem scNames : FnScope ["_law_draw", "_law_many", "_law_letters", "_law_first", "_law_place", "_law_style", "_law_names_here", "_law_k", "_law_letter"] ["_law_draw", "_law_many"] (defScope sNames) := ⟨rfl, rfl, rfl, by decide +kernel, rfl, by decide +kernel, by decide +kernel⟩
def spNames : Sp := fun vs H Q _ => ∃ (d n : Nat), vs = [.int d, .int n] ∧ d < 1000 ∧ n ≤ 26 ∧
  ∀ (p : Addr) (H' : Hp), H p = none → Same H H' → H' p = some (.lst ((nmL d n).map V.str)) → Q (.ref p) H'
theorem abc_at {c : Nat} (h : c < 26) : atI ("abcdefghijklmnopqrstuvwxyz" : Str).cps.toList (c : Int) = some (97 + c) := by
  refine atI_nat ?_
  have e : ("abcdefghijklmnopqrstuvwxyz" : Str).cps.toList = (List.range 26).map (97 + ·) := by decide +kernel
  rw [e, List.getElem?_map, List.getElem?_range h]
  rfl
theorem q_to {c : Nat} (h : c < 7) : cutS ("qqqqqq" : Str) none (some (c : Int)) = ⟨(List.replicate c 113).toArray⟩ := by
  match c, h with
  | 0, _ => decide +kernel
  | 1, _ => decide +kernel
  | 2, _ => decide +kernel
  | 3, _ => decide +kernel
  | 4, _ => decide +kernel
  | 5, _ => decide +kernel
  | 6, _ => decide +kernel
theorem q_from {c : Nat} (h : c < 7) : cutS ("qqqqqq" : Str) (some (c : Int)) none = ⟨(List.replicate (6 - c) 113).toArray⟩ := by
  match c, h with
  | 0, _ => decide +kernel
  | 1, _ => decide +kernel
  | 2, _ => decide +kernel
  | 3, _ => decide +kernel
  | 4, _ => decide +kernel
  | 5, _ => decide +kernel
  | 6, _ => decide +kernel
theorem z_to {c : Nat} (h : c < 8) : cutS ("zyxwvuts" : Str) none (some (c : Int)) = ⟨(tailZ.take c).toArray⟩ := by
  match c, h with
  | 0, _ => decide +kernel
  | 1, _ => decide +kernel
  | 2, _ => decide +kernel
  | 3, _ => decide +kernel
  | 4, _ => decide +kernel
  | 5, _ => decide +kernel
  | 6, _ => decide +kernel
  | 7, _ => decide +kernel
theorem str_app (a b : List Nat) : (⟨a.toArray⟩ : Str) ++ ⟨b.toArray⟩ = ⟨(a ++ b).toArray⟩ := by
  show (⟨a.toArray ++ b.toArray⟩ : Str) = _
  rw [List.append_toArray]
theorem str_assoc (a b c : Str) : (a ++ b) ++ c = a ++ (b ++ c) := by
  show (⟨(a.cps ++ b.cps) ++ c.cps⟩ : Str) = ⟨a.cps ++ (b.cps ++ c.cps)⟩
  rw [Array.append_assoc]
theorem nmL_snoc (d n j : Nat) : ((List.range (j + 1)).map (nm d n)).map V.str = ((List.range j).map (nm d n)).map V.str ++ [.str (nm d n j)] := by
  rw [List.range_succ, List.map_append, List.map_append]
  rfl
section
variable {P : Program} {w : World} {K : PySem.W.Frag} {mg : Str → Option Value} {base : Heap}
theorem ok_names {f : Addr} {fd : FuncData} (F : FnP K "_law_names" sNames f fd) (T : Bi mg) : FnOk P w K mg base (L2.CX P w) 1 f fd ["_law_draw", "_law_many"] spNames := by
  refine F.ok scNames (fun vs H Q E h => ?_) (fun cdv A outer s H vs Q E hr h => ?_)
  · obtain ⟨d, n, rfl, _⟩ := h
    rfl
  · obtain ⟨d, n, rfl, hd, hn, kQ⟩ := h
    have nd := scNames.nd
    refine ⟨_, PSs.nox (pss_cons (ps_set (i := 2) nd rfl (Or.inl rfl) pe_str)
      (pss_cons (ps_set (i := 3) nd rfl (Or.inl rfl) (pe_op op_modN (pe_callTy call_int1 (by rfl) T.int (by decide +kernel) (pa_cons (pe_op op_fdivN (pv 0) pe_int) pa_nil)) pe_int))
      (pss_cons (ps_set (i := 4) nd rfl (Or.inl rfl) (pe_op op_modN (pe_callTy call_int1 (by rfl) T.int (by decide +kernel) (pa_cons (pe_op op_fdivN (pv 0) pe_int) pa_nil)) pe_int))
      (pss_cons (ps_set (i := 5) nd rfl (Or.inl rfl) (pe_op op_modN (pe_callTy call_int1 (by rfl) T.int (by decide +kernel) (pa_cons (pv 0) pa_nil)) pe_int))
      (pss_cons (ps_set (i := 6) nd rfl (Or.inl rfl) (pe_lst pa_nil))
      (pss_cons (ps_for PassesOwn.never rfl (pi_range1 (by rfl) T.range (pa_cons (pv 1) pa_nil)) (pg_name (i := 7) nd rfl (Or.inl rfl)) (pss_cons (ps_set (i := 8) nd rfl (Or.inl rfl) (pe_ix ix_str (pv 2) (pe_op op_modN (pe_callTy call_int1 (by rfl) T.int (by decide +kernel) (pa_cons (pe_op op_add (pv 3) (pe_op op_mul pe_int (pv 7))) pa_nil)) pe_int) (fun _ _ => rfl)))
        (pss_one (ps_if (pt_cmpR op_eq (pv 5) pe_int (nomark _)) (pss_one (ps_expr (pe_bm PySem.F.plainAttrs_list PySem.F.slot_list_append PySem.F.type_list_append mt_append (pv 6) (pa_cons (pv 8) pa_nil)))) (pss_one (ps_if (pt_cmpR op_eq (pv 5) pe_int (nomark _)) (pss_one (ps_expr (pe_bm PySem.F.plainAttrs_list PySem.F.slot_list_append PySem.F.type_list_append mt_append (pv 6) (pa_cons (pe_op op_add_str (pe_op op_add_str (pe_slice sl_str pe_str po_none (po_some (pv 4))) (pv 8)) (pe_slice sl_str pe_str (po_some (pv 4)) po_none)) pa_nil)))) (pss_one (ps_if (pt_cmpR op_eq (pv 5) pe_int (nomark _)) (pss_one (ps_expr (pe_bm PySem.F.plainAttrs_list PySem.F.slot_list_append PySem.F.type_list_append mt_append (pv 6) (pa_cons (pe_op op_mul_str (pe_ix ix_str (pv 2) (pv 3) (fun _ _ => rfl)) (pe_op op_sub (pv 1) (pv 7))) pa_nil)))) (pss_one (ps_expr (pe_bm PySem.F.plainAttrs_list PySem.F.slot_list_append PySem.F.type_list_append mt_append (pv 6) (pa_cons (pe_op op_add_str (pv 8) (pe_slice sl_str pe_str po_none (po_some (pe_op op_modN (pe_callTy call_int1 (by rfl) T.int (by decide +kernel) (pa_cons (pe_op op_add (pv 0) (pe_op op_mul pe_int (pv 7))) pa_nil)) pe_int)))) pa_nil))))))))))))
      (pss_one (ps_ret (pv 6))))))))), ?_⟩
    have f1 : ((d : Int).fdiv 4).fmod 26 = ((d / 4 % 26 : Nat) : Int) := by
      rw [Int.fdiv_eq_ediv_of_nonneg _ (by decide), Int.fmod_eq_emod_of_nonneg _ (by decide)]; omega
    have f2 : ((d : Int).fdiv 104).fmod 7 = ((d / 104 % 7 : Nat) : Int) := by
      rw [Int.fdiv_eq_ediv_of_nonneg _ (by decide), Int.fmod_eq_emod_of_nonneg _ (by decide)]; omega
    have f3 : (d : Int).fmod 4 = ((d % 4 : Nat) : Int) := by
      rw [Int.fmod_eq_emod_of_nonneg _ (by decide)]; omega
    walk_at "go"
    refine fun p np => ?_
    walk_at "go"
    refine ⟨by omega, by omega, for_range (n := n) (fun j σ H1 => ∃ (F G S : Int) (k l : Option V), σ = [some (.int d), some (.int n), some (.str "abcdefghijklmnopqrstuvwxyz"), some (.int F), some (.int G), some (.int S), some (.ref p), k, l] ∧ F = ((d / 4 % 26 : Nat) : Int) ∧ G = ((d / 104 % 7 : Nat) : Int) ∧ S = ((d % 4 : Nat) : Int) ∧
        Same H H1 ∧ H1 p = some (.lst (((List.range j).map (nm d n)).map V.str)))
      ⟨_, _, _, none, none, rfl, f1, f2, f3, (Same.refl H).new np, upd_same⟩ ?_ ?_⟩
    · rintro j σ H1 hj ⟨F, G, S, k, l, rfl, eF, eG, eS, s1, hp⟩
      have hsz : (((List.range j).map (nm d n)).map V.str).length < sizeLine := by
        rw [List.length_map, List.length_map, List.length_range]
        exact size_ok (m := 30) (by omega) (by decide)
      have hL : (F + 7 * (0 + (j : Int))).fmod 26 = (((d / 4 % 26 + 7 * j) % 26 : Nat) : Int) := by
        rw [Int.fmod_eq_emod_of_nonneg _ (by decide), eF]; omega
      have z26 : ("abcdefghijklmnopqrstuvwxyz" : Str).length ≤ sizeLine := by rw [sizeLine_eq]; decide +kernel
      have z6 : ("qqqqqq" : Str).length ≤ sizeLine := by rw [sizeLine_eq]; decide +kernel
      have z8 : ("zyxwvuts" : Str).length ≤ sizeLine := by rw [sizeLine_eq]; decide +kernel
      walk_at "go"
      refine ⟨_, _, 97 + (d / 4 % 26 + 7 * j) % 26, rfl, rfl, z26, ?_, ?_⟩
      · rw [hL]; exact abc_at (Nat.mod_lt _ (by decide))
      have eN : ∀ o, nmC d n j = o → nm d n j = ⟨o.toArray⟩ := fun o e => by rw [← e]; rfl
      walk_at "go"
      refine ite2 (fun c => ?_) (fun c => ?_)
      · have c0 : d % 4 = 0 := by
          have := of_decide_eq_true c
          have e := V.int.inj this
          omega
        walk_at "go"
        refine ⟨hsz, F, G, S, _, _, rfl, eF, eG, eS, s1.mut np, ?_⟩
        rw [upd_same, nmL_snoc, eN [ltr d j] (by unfold nmC; rw [if_pos c0])]
        rfl
      · have c0 : ¬ d % 4 = 0 := fun e => c (decide_eq_true (by rw [eS, e]; rfl))
        walk_at "go"
        refine ite2 (fun c => ?_) (fun c => ?_)
        · have c1 : d % 4 = 1 := by
            have := of_decide_eq_true c
            have e := V.int.inj this
            omega
          walk_at "go"
          rw [eG, q_to (Nat.mod_lt _ (by decide))]
          refine ⟨by rw [sizeLine_eq]; show (List.replicate _ _).toArray.size + 1 ≤ _; simp; omega, ?_⟩
          walk_at "go"
          rw [q_from (Nat.mod_lt _ (by decide))]
          walk_at "go"
          refine ⟨by rw [sizeLine_eq]; show ((List.replicate _ _).toArray ++ #[_]).size + (List.replicate _ _).toArray.size ≤ _; simp; omega, ?_⟩
          refine ⟨p, _, _, rfl, rfl, hp, hsz, F, _, S, _, _, rfl, eF, rfl, eS, s1.mut np, ?_⟩
          rw [upd_same, nmL_snoc, eN (List.replicate (d / 104 % 7) 113 ++ ([ltr d j] ++ List.replicate (6 - d / 104 % 7) 113)) (by unfold nmC; rw [if_neg c0, if_pos c1]), ← str_app, ← str_app, ← str_assoc]
          rfl
        · have c1 : ¬ d % 4 = 1 := fun e => c (decide_eq_true (by rw [eS, e]; rfl))
          walk_at "go"
          refine ite2 (fun c => ?_) (fun c => ?_)
          · have c2 : d % 4 = 2 := by
              have := of_decide_eq_true c
              have e := V.int.inj this
              omega
            walk_at "go"
            refine ⟨_, _, 97 + d / 4 % 26, rfl, rfl, z26, ?_, ?_⟩
            · rw [eF]; exact abc_at (Nat.mod_lt _ (by decide))
            walk_at "go"
            refine ⟨⟨by omega, by omega⟩, ?_⟩
            refine ⟨p, _, _, rfl, rfl, hp, hsz, F, G, S, _, _, rfl, eF, eG, eS, s1.mut np, ?_⟩
            rw [upd_same, nmL_snoc, eN (List.replicate (n - j) (97 + d / 4 % 26)) (by unfold nmC; rw [if_neg c0, if_neg c1, if_pos c2])]
            have e : ((n : Int) - (0 + (j : Int))).toNat = n - j := by omega
            rw [← e]
          · have c2 : ¬ d % 4 = 2 := fun e => c (decide_eq_true (by rw [eS, e]; rfl))
            walk_at "go"
            have e8 : ((d : Int) + 3 * (0 + (j : Int))).fmod 8 = (((d + 3 * j) % 8 : Nat) : Int) := by
              rw [Int.fmod_eq_emod_of_nonneg _ (by decide)]; omega
            rw [e8, z_to (Nat.mod_lt _ (by decide))]
            refine ⟨by rw [sizeLine_eq]; show 1 + (List.take _ tailZ).toArray.size ≤ _; simp [tailZ]; omega, ?_⟩
            refine ⟨p, _, _, rfl, rfl, hp, hsz, F, G, S, _, _, rfl, eF, eG, eS, s1.mut np, ?_⟩
            rw [upd_same, nmL_snoc, eN (ltr d j :: tailZ.take ((d + 3 * j) % 8)) (by unfold nmC; rw [if_neg c0, if_neg c1, if_neg c2]), show (ltr d j :: tailZ.take ((d + 3 * j) % 8)) = [ltr d j] ++ tailZ.take ((d + 3 * j) % 8) from rfl, ← str_app]
            rfl
    · rintro σ H1 ⟨F, G, S, k, l, rfl, eF, eG, eS, s1, hp⟩
      walk_at "go"
      exact kQ p _ np s1 hp
end

/-! ### ascending -/
abbrev sAsc : Stmt := (top 4)
theorem scAsc : FnScope ["rows", "ordered", "row", "at"] ["rows"] (defScope sAsc) := ⟨rfl, rfl, rfl, by decide +kernel, rfl, by decide +kernel, by decide +kernel⟩
def spAsc (K : PySem.W.Frag) : Sp := fun vs H Q _ => ∃ (a : Addr) (xs : List (V × PyData)), vs = [.ref a] ∧ SqL K H a (xs.map (·.1)) ∧ (∀ p ∈ xs, Dp K H p.1 p.2 ∧ p.2 ≠ .none ∧ p.2.depth ≤ 60) ∧ (∀ p ∈ xs, ∀ q ∈ xs, PySem.W.alike p.2 q.2 = true) ∧ xs.length ≤ 10000 ∧
  ∀ l, H l = none → Q (.ref l) (upd H l (.lst ((asc ltP xs).map (·.1))))
section
variable {P : Program} {w : World} {K : PySem.W.Frag} {mg : Str → Option Value} {base : Heap}
theorem ok_asc {f : Addr} {fd : FuncData} (F : FnP K "ascending" sAsc f fd) (T : Bi mg) : FnOk P w K mg base (L2.CX P w) 2 f fd ["rows"] (spAsc K) := by
  refine F.ok scAsc (fun vs H Q E h => ?_) (fun cdv A outer s H vs Q E hr h => ?_)
  · obtain ⟨a, xs, rfl, _⟩ := h
    rfl
  · obtain ⟨a, xs, rfl, hS, hD, hal, hz, kQ⟩ := h
    have nd := scAsc.nd
    refine ⟨_, (pss_cons (ps_set (i := 1) nd rfl (Or.inl rfl) (pe_lst pa_nil))
      (pss_cons (ps_for (passes_of rfl) rfl (pi_list (pv 0)) (pg_name (i := 2) nd rfl (Or.inl rfl)) (pss_cons (ps_set (i := 3) nd rfl (Or.inl rfl) (pe_callB call_len_seq (by rfl) T.len PySem.boot_len (pa_cons (pv 1) pa_nil)))
        (pss_cons (ps_while (passes_of rfl) (PW.pt (pw_and (pt_cmpR op_gt (pv 3) pe_int (nomark _)) (pw_and1 (pt_cmpR (op_ltD hr.units) (pv 2) (pe_ix ix_list (pv 1) (pe_op op_sub (pv 3) pe_int) (fun _ _ => rfl)) (nomark _))))) (pss_one (ps_set (i := 3) nd rfl (Or.inl rfl) (pe_op op_sub (pv 3) pe_int))))
        (pss_one (ps_expr (pe_bm PySem.F.plainAttrs_list PySem.F.slot_list_insert PySem.F.type_list_insert mt_insert (pv 1) (pa_cons (pv 3) (pa_cons (pv 2) pa_nil))))))))
      (pss_one (ps_ret (pv 1))))), ?_⟩
    walk_at "go"
    refine fun l hl => ?_
    walk_at "go"
    refine ⟨⟨_, (Same.new (Same.refl H) hl).seq hS⟩, for_list (K := K) (a := a) (xs := xs.map (·.1))
      (fun i σ H1 => ∃ (R : List (V × PyData)) (r k : Option V), R = (xs.take i).foldl (fun acc x => insR ltP x acc) [] ∧ σ = [some (.ref a), some (.ref l), r, k] ∧ H1 = upd H l (.lst (R.reverse.map (·.1))))
      ⟨[], none, none, rfl, rfl, rfl⟩ (fun i σ H1 _ ⟨R, _, _, _, _, e⟩ => by rw [e]; exact ((Same.refl H).new hl).seq hS) ?_ ?_⟩
    · rintro i y σ H1 hi ⟨R, r, k, eR, rfl, rfl⟩
      have hil : i < xs.length := by
        have := lt_of_at hi
        rwa [List.length_map] at this
      obtain ⟨x, hx, rfl⟩ : ∃ x, xs[i]? = some x ∧ y = x.1 := by
        rw [List.getElem?_map] at hi
        cases e : xs[i]? with
        | none => rw [e] at hi; cases hi
        | some x => rw [e] at hi; exact ⟨x, rfl, (Option.some.inj hi).symm⟩
      have hxm : x ∈ xs := List.mem_of_getElem? hx
      have hRm : ∀ p ∈ R, p ∈ xs := fun p hp => by
        rw [eR] at hp
        have := (asc_fold_perm ltP (xs.take i) []).mem_iff.mp hp
        rw [List.append_nil] at this
        exact List.mem_of_mem_take this
      have hRl : R.length = i := by
        rw [eR, (asc_fold_perm ltP (xs.take i) []).length_eq, List.append_nil, List.length_take]
        omega
      have eR' : insR ltP x R = (xs.take (i + 1)).foldl (fun acc x => insR ltP x acc) [] := by
        rw [List.take_add_one, hx, List.foldl_append, ← eR]
        rfl
      have s1 : Same H (upd H l (.lst (R.reverse.map (·.1)))) := (Same.refl H).new hl
      walk_at "go"
      refine ⟨l, _, rfl, .inl (SqL.of upd_same), ?_⟩
      -- while at > 0 and row < ordered[at - 1]
      refine ⟨fun m σ H2 => ∃ (R1 R2 : List (V × PyData)), R = R1 ++ R2 ∧ m = R2.length ∧ (∀ e ∈ R1, ltP x e = true) ∧ σ = [some (.ref a), some (.ref l), some x.1, some (.int (R2.length : Nat))] ∧ H2 = upd H l (.lst (R.reverse.map (·.1))), ⟨R.length, [], R, rfl, rfl, (fun _ h => by cases h), by rw [List.length_map, List.length_reverse]; rfl, rfl⟩, ?_⟩
      rintro m σ H2 ⟨R1, R2, e12, rfl, hlt, rfl, rfl⟩
      have hsz : ((R1 ++ R2).reverse.map (·.1)).length < sizeLine := by
        rw [List.length_map, List.length_reverse, ← e12]
        exact size_ok (m := 10000) (by omega) (by decide)
      have ins : (∀ e r, R2 = e :: r → ltP x e = false) → ((R1 ++ R2).reverse.map (·.1)).take R2.length ++ [x.1] ++ ((R1 ++ R2).reverse.map (·.1)).drop R2.length = (insR ltP x R).reverse.map (·.1) := fun h2 => by
        rw [e12, insR_split hlt h2, List.reverse_append, List.map_append, List.take_left' (by rw [List.length_map, List.length_reverse]), List.drop_left' (by rw [List.length_map, List.length_reverse])]
        simp
      walk_at "go"
      cases R2 with
      | nil =>
        refine ite2 (fun c => absurd (of_decide_eq_true c) (by simp)) (fun _ => ?_)
        refine ⟨_, rfl, .inl ⟨rfl, _, SqL.of upd_same⟩, _, rfl, _, rfl, l, _, _, _, rfl, rfl, upd_same, by rw [e12]; exact hsz, by decide, by decide, ?_⟩
        refine ⟨insR ltP x R, _, _, eR', rfl, ?_⟩
        rw [upd_upd, e12]
        exact congrArg (fun z => upd H l (.lst z)) (ins (fun e r h => by cases h) |>.trans (by rw [e12]))
      | cons e r =>
        refine ite2 (fun _ => ?_) (fun c => absurd c (by simp))
        have hem : e ∈ R := by rw [e12]; exact List.mem_append_right _ List.mem_cons_self
        have hat : atI (R.reverse.map (·.1)) (((e :: r).length : Nat) - 1 : Int) = some e.1 := by
          have e0 : (((e :: r).length : Nat) - 1 : Int) = (r.length : Nat) := by rw [List.length_cons]; omega
          rw [e0, e12]
          refine atI_nat ?_
          rw [List.reverse_append, List.reverse_cons, List.map_append, List.map_append, List.getElem?_append_left (by simp), List.getElem?_append_right (by simp)]
          simp
        refine ⟨_, rfl, _, rfl, _, rfl, _, _, rfl, rfl, l, _, _, _, rfl, rfl, SqL.of upd_same, hat, x.2, e.2, dp_same s1 (hD x hxm).1, dp_same s1 (hD e (hRm e hem)).1, hal x hxm e (hRm e hem), (hD x hxm).2.1, (hD x hxm).2.2, _, rfl, ?_⟩
        show (if ltP x e = true then _ else _)
        cases q : ltP x e with
        | true =>
          refine iteT ?_
          refine ⟨fun σ' H' => ∃ m', m' < (e :: r).length ∧ ∃ (R1 R2 : List (V × PyData)), R = R1 ++ R2 ∧ m' = R2.length ∧ (∀ e ∈ R1, ltP x e = true) ∧ σ' = [some (.ref a), some (.ref l), some x.1, some (.int (R2.length : Nat))] ∧ H' = upd H l (.lst (R.reverse.map (·.1))), fun _ _ z => z, ?_⟩
          walk_at "go"
          refine ⟨r.length, by simp, R1 ++ [e], r, by rw [e12]; simp, rfl, fun b hb => ?_, ?_, rfl⟩
          · rcases List.mem_append.mp hb with hb | hb
            · exact hlt b hb
            · rw [List.mem_singleton.mp hb]; exact q
          · have e0 : (((e :: r).length : Nat) : Int) - 1 = (r.length : Nat) := by rw [List.length_cons]; omega
            show [some (V.ref a), some (V.ref l), some x.1, some (V.int ((((e :: r).length : Nat) : Int) - 1))] = _
            rw [e0]
        | false =>
          refine iteF ?_
          refine ⟨_, rfl, .inl ⟨rfl, _, SqL.of upd_same⟩, _, rfl, _, rfl, l, _, _, _, rfl, rfl, upd_same, by rw [e12]; exact hsz, by omega, by rw [List.length_cons]; have : r.length ≤ R.length := (by rw [e12]; simp; omega); omega, ?_⟩
          refine ⟨insR ltP x R, _, _, eR', rfl, ?_⟩
          rw [upd_upd, e12]
          exact congrArg (fun z => upd H l (.lst z)) (ins (fun e' r' h => by cases h; exact q) |>.trans (by rw [e12]))
    · rintro σ H1 ⟨R, r, k, eR, rfl, rfl⟩
      rw [List.length_map, List.take_length] at eR
      walk_at "go"
      have z := kQ l hl
      unfold asc at z
      rw [eR]
      exact z
end

/-! ### links -/
abbrev sLinks : Stmt := (top 6)
theorem scLinks : FnScope ["history", "writers", "program", "entry", "item", "version", "found", "real", "row"] ["history"] (defScope sLinks) := ⟨rfl, rfl, rfl, by decide +kernel, rfl, by decide +kernel, by decide +kernel⟩
/-- who wrote what last: the puts one after the other -/
def look (l : List (Itv × Nat)) (k : Itv) : Option Nat := l.foldl (fun o e => if e.1 = k then some e.2 else o) none
theorem look_snoc (l : List (Itv × Nat)) (e : Itv × Nat) (k : Itv) : look (l ++ [e]) k = if e.1 = k then some e.2 else look l k := by
  unfold look
  rw [List.foldl_append]
  rfl
def putsOf (p : Nat) (e : Ent) : List (Itv × Nat) := e.2.2.map fun x => (x, p)
/-- the first n programs' puts -/
def putsN (hs : List Ent) : Nat → List (Itv × Nat)
  | 0 => []
  | n + 1 => putsN hs n ++ (match hs[n]? with
    | some e => putsOf n e
    | none => [])
def puts (hs : List Ent) : List (Itv × Nat) := putsN hs hs.length
abbrev FR := Option Nat × Option Nat × Str × Str
def rdR (W : Itv → Option Nat) (p : Nat) (x : Itv) : List FR := [(W x, some p, "read", x.1), (some p, W (x.1, x.2 + 1), "missed", x.1)]
def wrR (W : Itv → Option Nat) (p : Nat) (x : Itv) : FR := (W (x.1, x.2 - 1), some p, "over", x.1)
def fndOf (W : Itv → Option Nat) (p : Nat) (e : Ent) : List FR := e.2.1.flatMap (rdR W p) ++ e.2.2.map (wrR W p)
def fndN (W : Itv → Option Nat) (hs : List Ent) : Nat → List FR
  | 0 => []
  | n + 1 => fndN W hs n ++ (match hs[n]? with
    | some e => fndOf W n e
    | none => [])
def realOf (r : FR) : Option (Nat × Nat × Str × Str) := match r with
  | (some a, some b, k, i) => if a = b then none else some (a, b, k, i)
  | _ => none
abbrev Rw := Nat × Nat × Str × Str
def lnk (hs : List Ent) : List Rw := (fndN (look (puts hs)) hs hs.length).filterMap realOf
def rwD (r : Rw) : PyData := .tuple [.int r.1, .int r.2.1, .str r.2.2.1, .str r.2.2.2]
def RwA (H : Hp) (v : V) (r : Rw) : Prop := ∃ t, v = .ref t ∧ H t = some (.tup [.int r.1, .int r.2.1, .str r.2.2.1, .str r.2.2.2])
theorem stRw : Stay RwA := fun H H' v x s ⟨t, e, h⟩ => ⟨t, e, s _ _ h⟩
def ov : Option Nat → V
  | none => .non
  | some n => .int n
def FrA (H : Hp) (v : V) (r : FR) : Prop := ∃ t, v = .ref t ∧ H t = some (.tup [ov r.1, ov r.2.1, .str r.2.2.1, .str r.2.2.2])
theorem stFr : Stay FrA := fun H H' v x s ⟨t, e, h⟩ => ⟨t, e, s _ _ h⟩
def wts (hs : List Ent) : Nat := (hs.map fun e => e.2.1.length + e.2.2.length).foldl (· + ·) 0
def kk (x : Itv) : List L2.Key := [Sum.inr x.1, Sum.inl x.2]
theorem kk_inj {x y : Itv} (h : kk x = kk y) : x = y := by
  have h1 := List.cons.inj h
  have h2 := List.cons.inj h1.2
  exact Prod.ext (Sum.inr.inj h1.1) (Sum.inl.inj h2.1)
/-- the dict's state -/
structure WrOk (kvs : List (List L2.Key × V)) (l : List (Itv × Nat)) : Prop where
  val : ∀ x : Itv, valV kvs (kk x) = (look l x).map fun p => V.int p
  len : kvs.length ≤ l.length
theorem putK_len {κ : Type} [DecidableEq κ] (kvs : List (κ × V)) (k : κ) (v : V) : (putK kvs k v).length ≤ kvs.length + 1 := by
  unfold putK
  split
  · rw [List.length_map]; omega
  · rw [List.length_append]; exact Nat.le_refl _
theorem WrOk.put {kvs : List (List L2.Key × V)} {l : List (Itv × Nat)} (w : WrOk kvs l) (x : Itv) (p : Nat) : WrOk (putK kvs (kk x) (.int p)) (l ++ [(x, p)]) := by
  refine ⟨fun y => ?_, ?_⟩
  · rw [valV_put, look_snoc]
    by_cases e : x = y
    · rw [if_pos (by rw [e]), if_pos e]; rfl
    · rw [if_neg (fun h => e (kk_inj h).symm), if_neg e]; exact w.val y
  · rw [List.length_append]
    have := putK_len kvs (kk x) (.int p)
    have h2 := w.len
    show _ ≤ l.length + 1
    omega
def spLinks : Sp := fun vs H Q _ => ∃ (a : Addr) (hs : List Ent), vs = [.ref a] ∧ HsA H a hs ∧ hs.length ≤ 100 ∧ (∀ e ∈ hs, e.2.1.length ≤ 30 ∧ e.2.2.length ≤ 30) ∧
  ∀ (l : Addr) (H' : Hp), H l = none → Same H H' → LsA RwA H' l (M.asc (ltA rwD) (lnk hs)) → Q (.ref l) H'
theorem putsN_len {hs : List Ent} (hb : ∀ e ∈ hs, e.2.1.length ≤ 30 ∧ e.2.2.length ≤ 30) : ∀ n, (putsN hs n).length ≤ 30 * n
  | 0 => by simp [putsN]
  | n + 1 => by
    have ih := putsN_len hb n
    show (putsN hs n ++ _).length ≤ _
    rw [List.length_append]
    cases e : hs[n]? with
    | none => simp; omega
    | some x =>
      have := (hb x (List.mem_of_getElem? e)).2
      simp [putsOf]
      omega
theorem fndN_len {hs : List Ent} {W : Itv → Option Nat} (hb : ∀ e ∈ hs, e.2.1.length ≤ 30 ∧ e.2.2.length ≤ 30) : ∀ n, (fndN W hs n).length ≤ 90 * n
  | 0 => by simp [fndN]
  | n + 1 => by
    have ih := fndN_len (W := W) hb n
    show (fndN W hs n ++ _).length ≤ _
    rw [List.length_append]
    cases e : hs[n]? with
    | none => simp; omega
    | some x =>
      have h := hb x (List.mem_of_getElem? e)
      have h2 : (x.2.1.flatMap (rdR W n)).length = 2 * x.2.1.length := by
        rw [List.length_flatMap]
        generalize x.2.1 = l
        induction l with
        | nil => rfl
        | cons y l ih => rw [List.map_cons, List.sum_cons, ih, List.length_cons]; show 2 + _ = _; omega
      simp only [fndOf, List.length_append, h2, List.length_map]
      omega
theorem rd_len (W : Itv → Option Nat) (p : Nat) : ∀ l : List Itv, (l.flatMap (rdR W p)).length = 2 * l.length
  | [] => rfl
  | x :: l => by
    rw [List.flatMap_cons, List.length_append, rd_len W p l, List.length_cons]
    show 2 + _ = _
    omega
theorem ov_get {kvs : List (List L2.Key × V)} {l : List (Itv × Nat)} (w : WrOk kvs l) (x : Itv) : (valV kvs (kk x)).getD .non = ov (look l x) := by
  rw [w.val]
  cases look l x <;> rfl
/-- found, as far as it is -/
structure FS (H0 : Hp) (d L : Addr) (kvs : List (List L2.Key × V)) (H : Hp) (vs : List V) (R : List FR) : Prop where
  s : Same H0 H
  hd : H d = some (.dT kvs)
  hL : H L = some (.lst vs)
  pw : Pw (FrA H) vs R
theorem FS.new {H0 H : Hp} {d L T : Addr} {kvs : List (List L2.Key × V)} {vs : List V} {R : List FR} {o : HO} (f : FS H0 d L kvs H vs R) (n : H T = none) : FS H0 d L kvs (upd H T o) vs R := by
  have z : Same H (upd H T o) := (Same.refl H).new n
  exact ⟨f.s.trans z, z _ _ f.hd, z _ _ f.hL, f.pw.mono fun v x => stFr _ _ v x z⟩
theorem FS.app {H0 H : Hp} {d L T : Addr} {kvs : List (List L2.Key × V)} {vs : List V} {R : List FR} (f : FS H0 d L kvs H vs R) (h0 : H0 L = none) {r : FR} (hT : H T = some (.tup [ov r.1, ov r.2.1, .str r.2.2.1, .str r.2.2.2])) :
    FS H0 d L kvs (upd H L (.lst (vs ++ [.ref T]))) (vs ++ [.ref T]) (R ++ [r]) := by
  have dl : d ≠ L := fun e => by
    have h1 := f.hd
    rw [e, f.hL] at h1
    cases h1
  have ne : ∀ t xs, H t = some (.tup xs) → t ≠ L := fun t xs h e => by rw [e, f.hL] at h; cases h
  have z : ∀ v x, FrA H v x → FrA (upd H L (.lst (vs ++ [.ref T]))) v x := fun v x ⟨t, e, h⟩ => ⟨t, e, by rw [upd_ne (ne t _ h)]; exact h⟩
  exact ⟨f.s.mut h0, by rw [upd_ne dl]; exact f.hd, upd_same, (f.pw.mono z).snoc (z _ _ ⟨T, rfl, hT⟩)⟩
theorem rw_of {H : Hp} {v : V} {r : FR} {q : Rw} (h : FrA H v r) (e : realOf r = some q) : RwA H v q := by
  obtain ⟨t, ev, ht⟩ := h
  obtain ⟨o1, o2, k, i⟩ := r
  cases o1 with
  | none => cases e
  | some a =>
    cases o2 with
    | none => cases e
    | some b =>
      have e' : (if a = b then none else some (a, b, k, i)) = some q := e
      split at e'
      · cases e'
      · cases e'
        exact ⟨t, ev, ht⟩
theorem rw_dp {K : PySem.W.Frag} {H : Hp} {v : V} {r : Rw} (h : RwA H v r) : Dp K H v (rwD r) := by
  obtain ⟨t, rfl, ht⟩ := h
  exact .tup (.inl (.inl ht)) (.cons (.int _) (.cons (.int _) (.cons (.str _) (.cons (.str _) .nil))))
section
variable {P : Program} {w : World} {K : PySem.W.Frag} {mg : Str → Option Value} {base : Heap}
theorem ok_links {f : Addr} {fd : FuncData} (F : FnP K "links" sLinks f fd) (T : Bj mg) (g_ascending : Cal P w K mg base 2 "ascending" ["rows"] (spAsc K)) : FnOk P w K mg base (L2.CX P w) 3 f fd ["history"] spLinks := by
  refine F.ok scLinks (fun vs H Q E h => ?_) (fun cdv A outer s H vs Q E hr h => ?_)
  · obtain ⟨a, hs, rfl, _⟩ := h
    rfl
  · obtain ⟨a, hs, rfl, hH, hz, hb, kQ⟩ := h
    have nd := scLinks.nd
    have hu := hu_of hr
    refine ⟨_, (pss_cons (ps_set (i := 1) nd rfl (Or.inl rfl) pe_dnewT)
      (pss_cons (ps_for (passes_of rfl) rfl (pi_enum (by rfl) T.enumerate (pa_cons (pv 0) pa_nil)) (pg_tup rfl (pgs_cons (pg_name (i := 2) nd rfl (Or.inl rfl)) (pgs_cons (pg_name (i := 3) nd rfl (Or.inl rfl)) pgs_nil))) (pss_one (ps_for (passes_of rfl) rfl (pi_list (pe_ix ix_tup (pv 3) pe_int (fun _ _ => rfl))) (pg_tup rfl (pgs_cons (pg_name (i := 4) nd rfl (Or.inl rfl)) (pgs_cons (pg_name (i := 5) nd rfl (Or.inl rfl)) pgs_nil))) (pss_one (ps_dput hu (pv 1) (pe_tup (pa_cons (pv 4) (pa_cons (pv 5) pa_nil))) (pv 2) rfl)))))
      (pss_cons (ps_set (i := 6) nd rfl (Or.inl rfl) (pe_lst pa_nil))
      (pss_cons (ps_for (passes_of rfl) rfl (pi_enum (by rfl) T.enumerate (pa_cons (pv 0) pa_nil)) (pg_tup rfl (pgs_cons (pg_name (i := 2) nd rfl (Or.inl rfl)) (pgs_cons (pg_name (i := 3) nd rfl (Or.inl rfl)) pgs_nil))) (pss_cons (ps_for (passes_of rfl) rfl (pi_list (pe_ix ix_tup (pv 3) pe_int (fun _ _ => rfl))) (pg_tup rfl (pgs_cons (pg_name (i := 4) nd rfl (Or.inl rfl)) (pgs_cons (pg_name (i := 5) nd rfl (Or.inl rfl)) pgs_nil))) (pss_cons (ps_expr (pe_bm PySem.F.plainAttrs_list PySem.F.slot_list_append PySem.F.type_list_append mt_append (pv 6) (pa_cons (pe_tup (pa_cons (pe_dget1 hu (pv 1) (pe_tup (pa_cons (pv 4) (pa_cons (pv 5) pa_nil))) ⟨rfl, by rfl, by rfl, rfl⟩) (pa_cons (pv 2) (pa_cons pe_str (pa_cons (pv 4) pa_nil))))) pa_nil)))
          (pss_one (ps_expr (pe_bm PySem.F.plainAttrs_list PySem.F.slot_list_append PySem.F.type_list_append mt_append (pv 6) (pa_cons (pe_tup (pa_cons (pv 2) (pa_cons (pe_dget1 hu (pv 1) (pe_tup (pa_cons (pv 4) (pa_cons (pe_op op_add (pv 5) pe_int) pa_nil))) ⟨rfl, by rfl, by rfl, rfl⟩) (pa_cons pe_str (pa_cons (pv 4) pa_nil))))) pa_nil))))))
        (pss_one (ps_for (passes_of rfl) rfl (pi_list (pe_ix ix_tup (pv 3) pe_int (fun _ _ => rfl))) (pg_tup rfl (pgs_cons (pg_name (i := 4) nd rfl (Or.inl rfl)) (pgs_cons (pg_name (i := 5) nd rfl (Or.inl rfl)) pgs_nil))) (pss_one (ps_expr (pe_bm PySem.F.plainAttrs_list PySem.F.slot_list_append PySem.F.type_list_append mt_append (pv 6) (pa_cons (pe_tup (pa_cons (pe_dget1 hu (pv 1) (pe_tup (pa_cons (pv 4) (pa_cons (pe_op op_sub (pv 5) pe_int) pa_nil))) ⟨rfl, by rfl, by rfl, rfl⟩) (pa_cons (pv 2) (pa_cons pe_str (pa_cons (pv 4) pa_nil))))) pa_nil))))))))
      (pss_cons (ps_setLc (i := 7) (own := [("row", 8)]) (g := gName 8) (by rfl) nd rfl rfl (sw_true rfl rfl rfl (by decide +kernel)) (pi_list (pv 6)) (blkOk_by (own := [("row", 8)]) (N := ["history", "writers", "program", "entry", "item", "version", "found", "real", "row"]) (sc := defScope sLinks) (by decide +kernel)) (fun _ _ _ _ _ => (pg_name (i := 8) nd rfl (Or.inl rfl))) (fun _ _ _ _ _ => (pts_one (PW.pt (pw_and (pt_cmpR op_notN (pe_ix (show IxR _ (rIxT K) from ix_tup) (pv 8) pe_int (fun _ _ => rfl)) pe_non (nomark _)) (pw_and (pt_cmpR op_notN (pe_ix (show IxR _ (rIxT K) from ix_tup) (pv 8) pe_int (fun _ _ => rfl)) pe_non (nomark _)) (pw_and1 (pt_cmpR op_ne (pe_ix (show IxR _ (rIxT K) from ix_tup) (pv 8) pe_int (fun _ _ => rfl)) (pe_ix (show IxR _ (rIxT K) from ix_tup) (pv 8) pe_int (fun _ _ => rfl)) (nomark _)))))))) (fun _ _ _ _ _ => (pv 8)))
      (pss_one (ps_ret (pe_cal g_ascending hr takes0 (pa_cons (pv 7) pa_nil))))))))), ?_⟩
    refine fun d hd => ?_
    obtain ⟨es, he, pe⟩ := hH
    refine ⟨_, rfl, a, es, rfl, SqL.of ((Same.refl H).new hd _ _ he), ?_⟩
    have es_len := pe.len
    refine for_it (walk_enum (K := K) (a := a) (xs := es)) (fun n σ H1 => ∃ kvs a2 a3 a4 a5, σ = [some (.ref a), some (.ref d), a2, a3, a4, a5, none, none, none] ∧ Same H H1 ∧ H1 d = some (.dT kvs) ∧ WrOk kvs (putsN hs n))
      ?_ (fun n σ H1 _ ⟨_, _, _, _, _, _, s, _⟩ => SqL.of (s _ _ he)) ?_ ?_
    · exact ⟨[], none, none, none, none, rfl, (Same.refl H).new hd, upd_same, fun x => rfl, Nat.le_refl _⟩
    · rintro n x σ H1 H2 hn ⟨kvs, a2, a3, a4, a5, rfl, s1, hd1, wo⟩ ⟨T1, x1, v, rfl, nT, rfl, hi, hv⟩
      cases hi
      obtain ⟨e, hse, t, r, w', rfl, ht, ⟨rs, hr1, pr⟩, ⟨ws, hw1, pw⟩⟩ := pe.get hv
      have s2 : Same H (upd H1 T1 (.tup [.int (n : Nat), .ref t])) := s1.new nT
      refine ⟨T1, _, rfl, .inl (.inl upd_same), rfl, _, _, rfl, _, _, rfl, rfl, ?_⟩
      have ht2 := s2 _ _ ht
      have hw2 := s2 _ _ hw1
      have hd2 : (upd H1 T1 (.tup [.int (n : Nat), .ref t])) d = some (.dT kvs) := (Same.refl H1).new nT _ _ hd1
      generalize upd H1 T1 (.tup [.int (n : Nat), .ref t]) = H2 at *
      refine ⟨_, rfl, t, _, _, _, rfl, rfl, .inl (.inl ht2), (show atI [V.str e.1, .ref r, .ref w'] 2 = some (.ref w') from rfl), w', rfl, ⟨_, SqL.of hw2⟩, ?_⟩
      refine for_list (K := K) (a := w') (xs := ws) (fun j σ H3 => ∃ kvs b4 b5, σ = [some (.ref a), some (.ref d), some (.int (n : Nat)), some (.ref t), b4, b5, none, none, none] ∧ Same H H3 ∧ H3 d = some (.dT kvs) ∧ WrOk kvs (putsN hs n ++ (putsOf n e).take j))
        ?_ (fun j σ H3 _ ⟨_, _, _, _, s, _⟩ => SqL.of (s _ _ hw1)) ?_ ?_
      · exact ⟨kvs, _, _, rfl, s2, hd2, by rw [List.take_zero, List.append_nil]; exact wo⟩
      · rintro j y σ H3 hj ⟨kvs3, b4, b5, rfl, s3, hd3, wo3⟩
        obtain ⟨x, hx, tx, rfl, htx⟩ := pw.get hj
        refine ⟨tx, _, rfl, .inl (.inl (s3 _ _ htx)), rfl, _, _, rfl, _, _, rfl, rfl, ?_⟩
        refine ⟨_, rfl, _, rfl, _, rfl, _, rfl, (show 2 ≤ sizeLine by decide), fun T2 n2 => ?_⟩
        have td : d ≠ T2 := ne_of_none hd3 n2
        refine ⟨d, _, rfl, DPut.t (k := kk x) (kvs := kvs3) (by rw [upd_ne td]; exact hd3) upd_same ?_, ?_⟩
        · have := wo3.len
          have h2 := putsN_len hb n
          have h3 := (hb e (List.mem_of_getElem? hse)).2
          have h4 : n < hs.length := (List.getElem?_eq_some_iff.mp hse).1
          rw [List.length_append, List.length_take] at this
          simp only [putsOf, List.length_map] at this
          exact size_ok (m := 10000) (by omega) (by decide)
        refine ⟨_, _, _, rfl, (s3.new n2).mut hd, upd_same, ?_⟩
        have e1 : (putsOf n e).take (j + 1) = (putsOf n e).take j ++ [(x, n)] := by
          rw [List.take_add_one]
          unfold putsOf
          rw [List.getElem?_map, hx]
          rfl
        rw [e1, ← List.append_assoc]
        exact wo3.put x n
      · rintro σ H3 ⟨kvs3, b4, b5, rfl, s3, hd3, wo3⟩
        refine ⟨kvs3, _, _, _, _, rfl, s3, hd3, ?_⟩
        show WrOk kvs3 (putsN hs n ++ (match hs[n]? with | some e => putsOf n e | none => []))
        rw [hse]
        have : (putsOf n e).take ws.length = putsOf n e := by rw [pw.len]; exact List.take_of_length_le (by simp [putsOf])
        rw [this] at wo3
        exact wo3
    · rintro σ H1 ⟨kvs, a2, a3, a4, a5, rfl, s1, hd1, wo⟩
      rw [es_len] at wo
      walk_at "go"
      refine fun L nL => ?_
      have L0 : H L = none := Same.free s1 nL
      refine ⟨_, rfl, a, es, rfl, SqL.of (s1.new nL _ _ he), ?_⟩
      have f0 : FS H d L kvs (upd H1 L (.lst [])) [] (fndN (look (puts hs)) hs 0) := ⟨s1.new nL, (Same.refl H1).new nL _ _ hd1, upd_same, Pw.nil⟩
      have wv : ∀ x, (valV kvs (kk x)).getD .non = ov (look (puts hs) x) := ov_get wo
      refine for_it (walk_enum (K := K) (a := a) (xs := es)) (fun n σ H1 => ∃ vs a2 a3 a4 a5, σ = [some (.ref a), some (.ref d), a2, a3, a4, a5, some (.ref L), none, none] ∧ FS H d L kvs H1 vs (fndN (look (puts hs)) hs n))
        ⟨[], _, _, _, _, rfl, f0⟩ (fun n σ H1 _ ⟨_, _, _, _, _, _, f⟩ => SqL.of (f.s _ _ he)) ?_ ?_
      · rintro n x σ H1 H2 hn ⟨vs, a2, a3, a4, a5, rfl, f1⟩ ⟨T1, x1, v, rfl, nT, rfl, hi, hv⟩
        cases hi
        obtain ⟨e, hse, t, r, w', rfl, ht, ⟨rs, hr1, pr⟩, ⟨ws, hw1, pw⟩⟩ := pe.get hv
        have f2 : FS H d L kvs (upd H1 T1 (.tup [.int (n : Nat), .ref t])) vs (fndN (look (puts hs)) hs n) := f1.new nT
        refine ⟨T1, _, rfl, .inl (.inl upd_same), rfl, _, _, rfl, _, _, rfl, rfl, ?_⟩
        generalize upd H1 T1 (.tup [.int (n : Nat), .ref t]) = H2 at *
        have hnl : n < hs.length := (List.getElem?_eq_some_iff.mp hse).1
        have hbe := hb e (List.mem_of_getElem? hse)
        have hfl := fndN_len (W := look (puts hs)) hb n
        refine ⟨_, rfl, t, _, _, _, rfl, rfl, .inl (.inl (f2.s _ _ ht)), (show atI [V.str e.1, .ref r, .ref w'] 1 = some (.ref r) from rfl), r, rfl, ⟨_, SqL.of (f2.s _ _ hr1)⟩, ?_⟩
        refine for_list (K := K) (a := r) (xs := rs) (fun j σ H3 => ∃ vs b4 b5, σ = [some (.ref a), some (.ref d), some (.int (n : Nat)), some (.ref t), b4, b5, some (.ref L), none, none] ∧ FS H d L kvs H3 vs (fndN (look (puts hs)) hs n ++ (e.2.1.take j).flatMap (rdR (look (puts hs)) n)))
          ?_ (fun j σ H3 _ ⟨_, _, _, _, f⟩ => SqL.of (f.s _ _ hr1)) ?_ ?_
        · exact ⟨vs, _, _, rfl, by rw [List.take_zero, List.flatMap_nil, List.append_nil]; exact f2⟩
        · rintro j y σ H3 hj ⟨vs3, b4, b5, rfl, f3⟩
          obtain ⟨x, hx, tx, rfl, htx⟩ := pr.get hj
          have hsz : vs3.length + 10 < 20000 := by
            have := f3.pw.len
            rw [List.length_append, rd_len, List.length_take] at this
            omega
          refine ⟨tx, _, rfl, .inl (.inl (f3.s _ _ htx)), rfl, _, _, rfl, _, _, rfl, rfl, ?_⟩
          -- (writers.get((item, version)), program, "read", item)
          refine ⟨_, rfl, .inl ⟨rfl, _, SqL.of f3.hL⟩, ?_⟩
          refine ⟨_, rfl, d, rfl, .inr ⟨kvs, .inl f3.hd⟩, _, rfl, _, rfl, (show 2 ≤ sizeLine by decide), fun T2 n2 => ?_⟩
          have f4 := f3.new (o := .tup [V.str x.1, .int x.2]) n2
          refine ⟨_, DGet.t (k := kk x) f4.hd upd_same, ?_⟩
          rw [wv x]
          refine ⟨_, rfl, _, rfl, (show 4 ≤ sizeLine by decide), fun T3 n3 => ?_⟩
          have f5 := f4.new (o := .tup [ov (look (puts hs) x), .int (n : Nat), .str "read", .str x.1]) n3
          refine ⟨L, _, _, rfl, rfl, f5.hL, size_ok (m := 20000) (by omega) (by decide), ?_⟩
          have f6 := f5.app L0 (r := (look (puts hs) x, some n, "read", x.1)) upd_same
          generalize upd (upd (upd H3 T2 (.tup [V.str x.1, .int x.2])) T3 (.tup [ov (look (puts hs) x), .int (n : Nat), .str "read", .str x.1])) L (.lst (vs3 ++ [.ref T3])) = H6 at *
          -- (program, writers.get((item, version + 1)), "missed", item)
          refine ⟨_, rfl, .inl ⟨rfl, _, SqL.of f6.hL⟩, ?_⟩
          refine ⟨_, rfl, _, rfl, d, rfl, .inr ⟨kvs, .inl f6.hd⟩, _, rfl, _, rfl, _, _, rfl, rfl, (show 2 ≤ sizeLine by decide), fun T4 n4 => ?_⟩
          have f7 := f6.new (o := .tup [V.str x.1, .int (x.2 + 1)]) n4
          refine ⟨_, DGet.t (k := kk (x.1, x.2 + 1)) f7.hd upd_same, ?_⟩
          rw [wv (x.1, x.2 + 1)]
          refine ⟨_, rfl, (show 4 ≤ sizeLine by decide), fun T5 n5 => ?_⟩
          have f8 := f7.new (o := .tup [.int (n : Nat), ov (look (puts hs) (x.1, x.2 + 1)), .str "missed", .str x.1]) n5
          refine ⟨L, _, _, rfl, rfl, f8.hL, size_ok (m := 20000) (by rw [List.length_append, List.length_singleton]; omega) (by decide), ?_⟩
          have f9 := f8.app L0 (r := (some n, look (puts hs) (x.1, x.2 + 1), "missed", x.1)) upd_same
          refine ⟨vs3 ++ [.ref T3] ++ [.ref T5], _, _, rfl, ?_⟩
          have e9 : fndN (look (puts hs)) hs n ++ (e.2.1.take (j + 1)).flatMap (rdR (look (puts hs)) n) = fndN (look (puts hs)) hs n ++ (e.2.1.take j).flatMap (rdR (look (puts hs)) n) ++ [((look (puts hs) x, some n, "read", x.1) : FR)] ++ [((some n, look (puts hs) (x.1, x.2 + 1), "missed", x.1) : FR)] := by
            rw [List.take_add_one, hx, List.flatMap_append, ← List.append_assoc, List.append_assoc _ [_] [_]]
            rfl
          rw [e9]
          exact f9
        · rintro σ H3 ⟨vs3, b4, b5, rfl, f3⟩
          rw [pr.len, List.take_length] at f3
          refine ⟨_, rfl, t, _, _, _, rfl, rfl, .inl (.inl (f3.s _ _ ht)), (show atI [V.str e.1, .ref r, .ref w'] 2 = some (.ref w') from rfl), w', rfl, ⟨_, SqL.of (f3.s _ _ hw1)⟩, ?_⟩
          refine for_list (K := K) (a := w') (xs := ws) (fun j σ H3 => ∃ vs b4 b5, σ = [some (.ref a), some (.ref d), some (.int (n : Nat)), some (.ref t), b4, b5, some (.ref L), none, none] ∧ FS H d L kvs H3 vs (fndN (look (puts hs)) hs n ++ e.2.1.flatMap (rdR (look (puts hs)) n) ++ (e.2.2.take j).map (wrR (look (puts hs)) n)))
            ?_ (fun j σ H3 _ ⟨_, _, _, _, f⟩ => SqL.of (f.s _ _ hw1)) ?_ ?_
          · exact ⟨vs3, _, _, rfl, by rw [List.take_zero, List.map_nil, List.append_nil]; exact f3⟩
          · rintro j y σ H4 hj ⟨vs4, b4, b5, rfl, f4⟩
            obtain ⟨x, hx, tx, rfl, htx⟩ := pw.get hj
            have hsz : vs4.length + 10 < 20000 := by
              have := f4.pw.len
              rw [List.length_append, List.length_append, rd_len, List.length_map, List.length_take] at this
              omega
            refine ⟨tx, _, rfl, .inl (.inl (f4.s _ _ htx)), rfl, _, _, rfl, _, _, rfl, rfl, ?_⟩
            refine ⟨_, rfl, .inl ⟨rfl, _, SqL.of f4.hL⟩, ?_⟩
            refine ⟨_, rfl, d, rfl, .inr ⟨kvs, .inl f4.hd⟩, _, rfl, _, rfl, _, _, rfl, rfl, (show 2 ≤ sizeLine by decide), fun T2 n2 => ?_⟩
            have f5 := f4.new (o := .tup [V.str x.1, .int (x.2 - 1)]) n2
            refine ⟨_, DGet.t (k := kk (x.1, x.2 - 1)) f5.hd upd_same, ?_⟩
            rw [wv (x.1, x.2 - 1)]
            refine ⟨_, rfl, _, rfl, (show 4 ≤ sizeLine by decide), fun T3 n3 => ?_⟩
            have f6 := f5.new (o := .tup [ov (look (puts hs) (x.1, x.2 - 1)), .int (n : Nat), .str "over", .str x.1]) n3
            refine ⟨L, _, _, rfl, rfl, f6.hL, size_ok (m := 20000) (by omega) (by decide), ?_⟩
            have f7 := f6.app L0 (r := wrR (look (puts hs)) n x) upd_same
            refine ⟨vs4 ++ [.ref T3], _, _, rfl, ?_⟩
            rw [List.take_add_one, hx, List.map_append, ← List.append_assoc]
            exact f7
          · rintro σ H4 ⟨vs4, b4, b5, rfl, f4⟩
            rw [pw.len, List.take_length] at f4
            refine ⟨vs4, _, _, _, _, rfl, ?_⟩
            show FS H d L kvs H4 vs4 (fndN (look (puts hs)) hs n ++ (match hs[n]? with | some e => fndOf (look (puts hs)) n e | none => []))
            rw [hse]
            rw [List.append_assoc] at f4
            exact f4
      · rintro σ H3 ⟨vs, a2, a3, a4, a5, rfl, f⟩
        rw [es_len] at f
        generalize hR : fndN (look (puts hs)) hs hs.length = R at f
        refine ⟨_, rfl, L, rfl, ⟨_, SqL.of f.hL⟩, ?_⟩
        refine fun D hD => lc_list (K := K) (a := L) (xs := vs) (fun i H4 => ∃ us, H4 = upd H3 D (.lst us) ∧ us.length ≤ i ∧ Pw (RwA H3) us ((R.take i).filterMap realOf)) ⟨[], rfl, Nat.le_refl _, Pw.nil⟩
          (fun i H4 _ ⟨us, e, _⟩ => by rw [e]; exact SqL.of ((Same.refl H3).new hD _ _ f.hL)) ?_ ?_
        · rintro i y H4 hi ⟨us, rfl, hul, pu⟩
          obtain ⟨q, hq, hF⟩ := f.pw.get hi
          have hF2 := hF
          obtain ⟨t, rfl, ht⟩ := hF2
          have ht2 := (Same.refl H3).new (o := .lst us) hD _ _ ht
          have eT : (R.take (i + 1)).filterMap realOf = (R.take i).filterMap realOf ++ (realOf q).toList := by
            rw [List.take_add_one, hq, List.filterMap_append]
            show _ ++ List.filterMap realOf [q] = _
            congr 1
          have hsz : us.length < sizeLine := by
            have h1 := (List.getElem?_eq_some_iff.mp hi).1
            have h2 := f.pw.len
            have h3 := fndN_len (W := look (puts hs)) hb hs.length
            rw [hR] at h3
            exact size_ok (m := 10000) (by omega) (by decide)
          refine ⟨rfl, ?_⟩
          refine ⟨_, rfl, t, _, _, _, rfl, rfl, .inl (.inl ht2), (show atI [ov q.1, ov q.2.1, V.str q.2.2.1, .str q.2.2.2] 0 = some (ov q.1) from rfl), ?_⟩
          have no : realOf q = none → ∃ us', upd H3 D (.lst us) = upd H3 D (.lst us') ∧ us'.length ≤ i + 1 ∧ Pw (RwA H3) us' ((R.take (i + 1)).filterMap realOf) := fun e =>
            ⟨us, rfl, by omega, by rw [eT, e]; show Pw _ _ (_ ++ []); rw [List.append_nil]; exact pu⟩
          obtain ⟨o1, o2, kd, im⟩ := q
          cases o1 with
          | none => exact ⟨rfl, _, rfl, iteF (iteF (no rfl))⟩
          | some n1 =>
            refine ⟨rfl, _, rfl, iteT ?_⟩
            refine ⟨_, rfl, t, _, _, _, rfl, rfl, .inl (.inl ht2), (show atI [V.int (n1 : Nat), ov o2, V.str kd, .str im] 1 = some (ov o2) from rfl), ?_⟩
            cases o2 with
            | none => exact ⟨rfl, _, rfl, iteF (iteF (no rfl))⟩
            | some n2 =>
              refine ⟨rfl, _, rfl, iteT ?_⟩
              refine ⟨_, rfl, t, _, _, _, rfl, rfl, .inl (.inl ht2), (show atI [V.int (n1 : Nat), .int (n2 : Nat), V.str kd, .str im] 0 = some (.int (n1 : Nat)) from rfl), ?_⟩
              refine ⟨_, rfl, t, _, _, _, rfl, rfl, .inl (.inl ht2), (show atI [V.int (n1 : Nat), .int (n2 : Nat), V.str kd, .str im] 1 = some (.int (n2 : Nat)) from rfl), ?_⟩
              by_cases hc : n1 = n2
              · refine ⟨rfl, _, rfl, ?_⟩
                rw [hc, decide_eq_true rfl]
                exact iteF (no (if_pos hc))
              · have hc2 : ¬ V.int (n1 : Nat) = V.int (n2 : Nat) := fun e => hc (by have := V.int.inj e; omega)
                refine ⟨rfl, _, rfl, ?_⟩
                rw [decide_eq_false hc2]
                refine iteT ⟨_, rfl, us, upd_same, hsz, us ++ [.ref t], by rw [upd_upd], by rw [List.length_append, List.length_singleton]; omega, ?_⟩
                have er : realOf (some n1, some n2, kd, im) = some (n1, n2, kd, im) := if_neg hc
                rw [eT, er]
                exact pu.snoc (rw_of hF er)
        · rintro H4 ⟨us, rfl, hul, pu⟩
          rw [f.pw.len, List.take_length] at pu
          have eL : R.filterMap realOf = lnk hs := by unfold lnk; rw [hR]
          rw [eL] at pu
          have sD : Same H3 (upd H3 D (.lst us)) := (Same.refl H3).new hD
          have pu2 : Pw (RwA (upd H3 D (.lst us))) us (lnk hs) := pu.mono fun v x => stRw _ _ v x sD
          have hln : (lnk hs).length ≤ 10000 := by
            have h3 := fndN_len (W := look (puts hs)) hb hs.length
            rw [hR] at h3
            rw [← eL]
            exact Nat.le_trans (List.length_filterMap_le _ _) (by omega)
          refine ⟨_, rfl, D, zd rwD (us.zip (lnk hs)), rfl, SqL.of (by rw [zd_fst pu2]; exact upd_same), (fun q hq => ?_), (fun q hq q2 hq2 => ?_), (by rw [zd_len pu2]; exact hln), fun r hr => ?_⟩
          · obtain ⟨x, _, e, hx⟩ := zd_mem hq pu2
            refine ⟨by rw [e]; exact rw_dp hx, (by rw [e]; exact fun z => by cases z), ?_⟩
            rw [e]
            simp [rwD, PyData.depth, PyData.depthAll]
          · obtain ⟨x, _, e, _⟩ := zd_mem hq pu2
            obtain ⟨x2, _, e2, _⟩ := zd_mem hq2 pu2
            rw [e, e2]
            rfl
          · have sr : Same (upd H3 D (.lst us)) (upd (upd H3 D (.lst us)) r (.lst ((M.asc ltP (zd rwD (us.zip (lnk hs)))).map (·.1)))) := (Same.refl _).new hr
            exact kQ r _ (Same.free ((f.s.trans sD)) hr) ((f.s.trans sD).trans sr) ⟨_, upd_same, pu2.asc.mono fun v x => stRw _ _ v x sr⟩
end


/-! ### the links as _law_links tells them -/
def lkW (p q : Nat) (g : Ent) (x : Itv) : List Rw := (if x ∈ g.2.1 then [((p, q, "read", x.1) : Rw)] else []) ++ if (x.1, x.2 + 1) ∈ g.2.2 then [((p, q, "over", x.1) : Rw)] else []
def lkR (p q : Nat) (g : Ent) (x : Itv) : List Rw := if (x.1, x.2 + 1) ∈ g.2.2 then [((p, q, "missed", x.1) : Rw)] else []
def lkPQ (hs : List Ent) (p q : Nat) : List Rw := if p = q then [] else match hs[p]?, hs[q]? with
  | some e, some g => e.2.2.flatMap (lkW p q g) ++ e.2.1.flatMap (lkR p q g)
  | _, _ => []
def lkP (hs : List Ent) (p : Nat) : List Rw := (List.range hs.length).flatMap (lkPQ hs p)
def lawLk (hs : List Ent) : List Rw := (List.range hs.length).flatMap (lkP hs)

/-! ### the plain law: both lists of links are the same up to order -/
/-- what a history that a run can have keeps: each program reads, writes an item at most once; no version is written twice -/
structure HOk (hs : List Ent) : Prop where
  rd : ∀ e ∈ hs, e.2.1.Pairwise fun x y => x.1 ≠ y.1
  wr : ∀ e ∈ hs, e.2.2.Pairwise fun x y => x.1 ≠ y.1
  one : ∀ (p q : Nat) (e g : Ent) (x : Itv), hs[p]? = some e → hs[q]? = some g → x ∈ e.2.2 → x ∈ g.2.2 → p = q
theorem look_from {k : Itv} : ∀ {l : List (Itv × Nat)} {o : Option Nat} {p : Nat}, l.foldl (fun o e => if e.1 = k then some e.2 else o) o = some p → o = some p ∨ (k, p) ∈ l
  | [], _, _, h => .inl h
  | e :: l, o, p, h => by
    have h' : l.foldl (fun o e => if e.1 = k then some e.2 else o) (if e.1 = k then some e.2 else o) = some p := h
    rcases look_from h' with h1 | h1
    · split at h1
      · rename_i q
        right
        have : e = (k, p) := Prod.ext q (Option.some.inj h1)
        rw [this]
        exact List.mem_cons_self
      · exact .inl h1
    · exact .inr (List.mem_cons_of_mem _ h1)
theorem look_is {k : Itv} : ∀ {l : List (Itv × Nat)} {o : Option Nat}, (o ≠ none ∨ ∃ p, (k, p) ∈ l) → l.foldl (fun o e => if e.1 = k then some e.2 else o) o ≠ none
  | [], o, h => by
    rcases h with h | ⟨p, h⟩
    · exact h
    · cases h
  | e :: l, o, h => by
    show l.foldl (fun o e => if e.1 = k then some e.2 else o) (if e.1 = k then some e.2 else o) ≠ none
    refine look_is ?_
    by_cases q : e.1 = k
    · rw [if_pos q]; exact .inl (fun z => by cases z)
    · rw [if_neg q]
      rcases h with h | ⟨p, h⟩
      · exact .inl h
      · rcases List.mem_cons.mp h with h | h
        · exact absurd (by rw [← h]) q
        · exact .inr ⟨p, h⟩
theorem putsN_mem {hs : List Ent} {x : Itv} {p : Nat} : ∀ {n : Nat}, (x, p) ∈ putsN hs n ↔ p < n ∧ ∃ e, hs[p]? = some e ∧ x ∈ e.2.2
  | 0 => ⟨fun h => (by cases h), fun h => absurd h.1 (Nat.not_lt_zero _)⟩
  | n + 1 => by
    show (x, p) ∈ putsN hs n ++ _ ↔ _
    rw [List.mem_append, putsN_mem (n := n)]
    constructor
    · rintro (⟨h1, h2⟩ | h)
      · exact ⟨by omega, h2⟩
      · cases e : hs[n]? with
        | none => rw [e] at h; cases h
        | some g =>
          rw [e] at h
          obtain ⟨y, hy, ey⟩ := List.mem_map.mp h
          cases ey
          exact ⟨by omega, g, e, hy⟩
    · rintro ⟨h1, e, he, hx⟩
      by_cases hp : p < n
      · exact .inl ⟨hp, e, he, hx⟩
      · have : p = n := by omega
        subst this
        right
        rw [he]
        exact List.mem_map.mpr ⟨x, hx, rfl⟩
theorem look_puts {hs : List Ent} (ok : HOk hs) {x : Itv} {p : Nat} : look (puts hs) x = some p ↔ ∃ e, hs[p]? = some e ∧ x ∈ e.2.2 := by
  constructor
  · intro h
    rcases look_from h with h | h
    · cases h
    · exact (putsN_mem.mp h).2
  · rintro ⟨e, he, hx⟩
    have hm : (x, p) ∈ puts hs := putsN_mem.mpr ⟨(List.getElem?_eq_some_iff.mp he).1, e, he, hx⟩
    cases q : look (puts hs) x with
    | none => exact absurd q (look_is (.inr ⟨p, hm⟩))
    | some p' =>
      rcases look_from q with h | h
      · cases h
      · obtain ⟨_, g, hg, hx'⟩ := putsN_mem.mp h
        rw [ok.one p p' e g x he hg hx hx']
theorem fndN_mem {W : Itv → Option Nat} {hs : List Ent} {f : FR} : ∀ {n : Nat}, f ∈ fndN W hs n ↔ ∃ p, p < n ∧ ∃ e, hs[p]? = some e ∧ f ∈ fndOf W p e
  | 0 => ⟨fun h => (by cases h), fun ⟨_, h, _⟩ => absurd h (Nat.not_lt_zero _)⟩
  | n + 1 => by
    show f ∈ fndN W hs n ++ _ ↔ _
    rw [List.mem_append, fndN_mem (n := n)]
    constructor
    · rintro (⟨p, h1, h2⟩ | h)
      · exact ⟨p, by omega, h2⟩
      · cases e : hs[n]? with
        | none => rw [e] at h; cases h
        | some g =>
          rw [e] at h
          exact ⟨n, by omega, g, e, h⟩
    · rintro ⟨p, h1, e, he, hf⟩
      by_cases hp : p < n
      · exact .inl ⟨p, hp, e, he, hf⟩
      · have : p = n := by omega
        subst this
        right
        rw [he]
        exact hf
theorem fndOf_mem {W : Itv → Option Nat} {p : Nat} {e : Ent} {f : FR} : f ∈ fndOf W p e ↔ (∃ x ∈ e.2.1, f = ((W x, some p, "read", x.1) : FR) ∨ f = ((some p, W (x.1, x.2 + 1), "missed", x.1) : FR)) ∨ ∃ x ∈ e.2.2, f = ((W (x.1, x.2 - 1), some p, "over", x.1) : FR) := by
  unfold fndOf
  rw [List.mem_append, List.mem_flatMap, List.mem_map]
  constructor
  · rintro (⟨x, hx, h⟩ | ⟨x, hx, h⟩)
    · refine .inl ⟨x, hx, ?_⟩
      simpa [rdR] using h
    · exact .inr ⟨x, hx, h.symm⟩
  · rintro (⟨x, hx, h⟩ | ⟨x, hx, h⟩)
    · exact .inl ⟨x, hx, by simpa [rdR] using h⟩
    · exact .inr ⟨x, hx, h.symm⟩
theorem real_some {o1 o2 : Option Nat} {k i : Str} {r : Rw} : realOf (o1, o2, k, i) = some r ↔ ∃ a b, o1 = some a ∧ o2 = some b ∧ a ≠ b ∧ r = (a, b, k, i) := by
  cases o1 with
  | none => exact ⟨fun h => (by cases h), fun ⟨_, _, h, _⟩ => (by cases h)⟩
  | some a =>
    cases o2 with
    | none => exact ⟨fun h => (by cases h), fun ⟨_, _, _, h, _⟩ => (by cases h)⟩
    | some b =>
      constructor
      · intro h
        have h' : (if a = b then none else some (a, b, k, i)) = some r := h
        split at h'
        · cases h'
        · rename_i q
          exact ⟨a, b, rfl, rfl, q, (Option.some.inj h').symm⟩
      · rintro ⟨a', b', h1, h2, ne, rfl⟩
        cases h1; cases h2
        exact if_neg ne
/-- what the two lists hold -/
def LkP (hs : List Ent) (r : Rw) : Prop := ∃ (e g : Ent) (x : Itv), hs[r.1]? = some e ∧ hs[r.2.1]? = some g ∧ r.1 ≠ r.2.1 ∧
  ((x ∈ e.2.2 ∧ x ∈ g.2.1 ∧ r.2.2 = (("read", x.1) : Str × Str)) ∨ (x ∈ e.2.2 ∧ (x.1, x.2 + 1) ∈ g.2.2 ∧ r.2.2 = (("over", x.1) : Str × Str)) ∨ (x ∈ e.2.1 ∧ (x.1, x.2 + 1) ∈ g.2.2 ∧ r.2.2 = (("missed", x.1) : Str × Str)))
theorem lnk_mem {hs : List Ent} (ok : HOk hs) {r : Rw} : r ∈ lnk hs ↔ LkP hs r := by
  unfold lnk
  rw [List.mem_filterMap]
  constructor
  · rintro ⟨f, hf, hr⟩
    obtain ⟨p, hp, e, he, hf⟩ := fndN_mem.mp hf
    rcases fndOf_mem.mp hf with ⟨x, hx, rfl | rfl⟩ | ⟨x, hx, rfl⟩
    · obtain ⟨a, b, h1, h2, ne, rfl⟩ := real_some.mp hr
      cases h2
      obtain ⟨g, hg, hxg⟩ := (look_puts ok).mp h1
      exact ⟨g, e, x, hg, he, ne, .inl ⟨hxg, hx, rfl⟩⟩
    · obtain ⟨a, b, h1, h2, ne, rfl⟩ := real_some.mp hr
      cases h1
      obtain ⟨g, hg, hxg⟩ := (look_puts ok).mp h2
      exact ⟨e, g, x, he, hg, ne, .inr (.inr ⟨hx, hxg, rfl⟩)⟩
    · obtain ⟨a, b, h1, h2, ne, rfl⟩ := real_some.mp hr
      cases h2
      obtain ⟨g, hg, hxg⟩ := (look_puts ok).mp h1
      refine ⟨g, e, (x.1, x.2 - 1), hg, he, ne, .inr (.inl ⟨hxg, ?_, rfl⟩)⟩
      have : (x.1, x.2 - 1 + 1) = x := Prod.ext rfl (by show x.2 - 1 + 1 = x.2; omega)
      show (x.1, x.2 - 1 + 1) ∈ e.2.2
      rw [this]
      exact hx
  · obtain ⟨a, b, k, i⟩ := r
    rintro ⟨e, g, x, he, hg, ne, h⟩
    have hal := (List.getElem?_eq_some_iff.mp he).1
    have hbl := (List.getElem?_eq_some_iff.mp hg).1
    rcases h with ⟨h1, h2, h3⟩ | ⟨h1, h2, h3⟩ | ⟨h1, h2, h3⟩
    · cases h3
      exact ⟨(look (puts hs) x, some b, "read", x.1), fndN_mem.mpr ⟨b, hbl, g, hg, fndOf_mem.mpr (.inl ⟨x, h2, .inl rfl⟩)⟩, real_some.mpr ⟨a, b, (look_puts ok).mpr ⟨e, he, h1⟩, rfl, ne, rfl⟩⟩
    · cases h3
      have hl : look (puts hs) (x.1, x.2 + 1 - 1) = some a := by
        have : (x.1, x.2 + 1 - 1) = x := Prod.ext rfl (by show x.2 + 1 - 1 = x.2; omega)
        rw [this]
        exact (look_puts ok).mpr ⟨e, he, h1⟩
      exact ⟨(look (puts hs) (x.1, x.2 + 1 - 1), some b, "over", x.1), fndN_mem.mpr ⟨b, hbl, g, hg, fndOf_mem.mpr (.inr ⟨(x.1, x.2 + 1), h2, rfl⟩)⟩, real_some.mpr ⟨a, b, hl, rfl, ne, rfl⟩⟩
    · cases h3
      exact ⟨(some a, look (puts hs) (x.1, x.2 + 1), "missed", x.1), fndN_mem.mpr ⟨a, hal, e, he, fndOf_mem.mpr (.inl ⟨x, h1, .inr rfl⟩)⟩, real_some.mpr ⟨a, b, rfl, (look_puts ok).mpr ⟨g, hg, h2⟩, ne, rfl⟩⟩
theorem lkPQ_mem {hs : List Ent} {p q : Nat} {r : Rw} : r ∈ lkPQ hs p q ↔ p ≠ q ∧ ∃ (e g : Ent) (x : Itv), hs[p]? = some e ∧ hs[q]? = some g ∧
    ((x ∈ e.2.2 ∧ x ∈ g.2.1 ∧ r = ((p, q, "read", x.1) : Rw)) ∨ (x ∈ e.2.2 ∧ (x.1, x.2 + 1) ∈ g.2.2 ∧ r = ((p, q, "over", x.1) : Rw)) ∨ (x ∈ e.2.1 ∧ (x.1, x.2 + 1) ∈ g.2.2 ∧ r = ((p, q, "missed", x.1) : Rw))) := by
  unfold lkPQ
  by_cases hpq : p = q
  · rw [if_pos hpq]
    exact ⟨fun h => (by cases h), fun h => absurd hpq h.1⟩
  rw [if_neg hpq]
  constructor
  · intro h
    refine ⟨hpq, ?_⟩
    split at h
    · rename_i e g he hg
      rcases List.mem_append.mp h with h | h
      · obtain ⟨x, hx, h⟩ := List.mem_flatMap.mp h
        unfold lkW at h
        rcases List.mem_append.mp h with h | h
        · split at h
          · rename_i hm
            exact ⟨e, g, x, he, hg, .inl ⟨hx, hm, List.mem_singleton.mp h⟩⟩
          · cases h
        · split at h
          · rename_i hm
            exact ⟨e, g, x, he, hg, .inr (.inl ⟨hx, hm, List.mem_singleton.mp h⟩)⟩
          · cases h
      · obtain ⟨x, hx, h⟩ := List.mem_flatMap.mp h
        unfold lkR at h
        split at h
        · rename_i hm
          exact ⟨e, g, x, he, hg, .inr (.inr ⟨hx, hm, List.mem_singleton.mp h⟩)⟩
        · cases h
    · cases h
  · rintro ⟨_, e, g, x, he, hg, h⟩
    rw [he, hg]
    show r ∈ e.2.2.flatMap (lkW p q g) ++ e.2.1.flatMap (lkR p q g)
    rcases h with ⟨h1, h2, rfl⟩ | ⟨h1, h2, rfl⟩ | ⟨h1, h2, rfl⟩
    · exact List.mem_append_left _ (List.mem_flatMap.mpr ⟨x, h1, by unfold lkW; rw [if_pos h2]; simp⟩)
    · exact List.mem_append_left _ (List.mem_flatMap.mpr ⟨x, h1, by unfold lkW; rw [if_pos h2]; simp⟩)
    · exact List.mem_append_right _ (List.mem_flatMap.mpr ⟨x, h1, by unfold lkR; rw [if_pos h2]; simp⟩)
theorem lawLk_mem {hs : List Ent} {r : Rw} : r ∈ lawLk hs ↔ LkP hs r := by
  unfold lawLk
  rw [List.mem_flatMap]
  constructor
  · rintro ⟨p, hp, h⟩
    unfold lkP at h
    obtain ⟨q, hq, h⟩ := List.mem_flatMap.mp h
    obtain ⟨ne, e, g, x, he, hg, h⟩ := lkPQ_mem.mp h
    rcases h with ⟨h1, h2, rfl⟩ | ⟨h1, h2, rfl⟩ | ⟨h1, h2, rfl⟩
    · exact ⟨e, g, x, he, hg, ne, .inl ⟨h1, h2, rfl⟩⟩
    · exact ⟨e, g, x, he, hg, ne, .inr (.inl ⟨h1, h2, rfl⟩)⟩
    · exact ⟨e, g, x, he, hg, ne, .inr (.inr ⟨h1, h2, rfl⟩)⟩
  · obtain ⟨a, b, k, i⟩ := r
    rintro ⟨e, g, x, he, hg, ne, h⟩
    have hal := (List.getElem?_eq_some_iff.mp he).1
    have hbl := (List.getElem?_eq_some_iff.mp hg).1
    refine ⟨a, List.mem_range.mpr hal, List.mem_flatMap.mpr ⟨b, List.mem_range.mpr hbl, lkPQ_mem.mpr ⟨ne, e, g, x, he, hg, ?_⟩⟩⟩
    rcases h with ⟨h1, h2, h3⟩ | ⟨h1, h2, h3⟩ | ⟨h1, h2, h3⟩
    · exact .inl ⟨h1, h2, by rw [show (k, i) = _ from h3]⟩
    · exact .inr (.inl ⟨h1, h2, by rw [show (k, i) = _ from h3]⟩)
    · exact .inr (.inr ⟨h1, h2, by rw [show (k, i) = _ from h3]⟩)
def RR (f g : FR) : Prop := ∀ r, realOf f = some r → ∀ r', realOf g = some r' → r ≠ r'
theorem real_kind {f : FR} {r : Rw} (h : realOf f = some r) : r.2.2 = f.2.2 := by
  obtain ⟨o1, o2, k, i⟩ := f
  obtain ⟨a, b, _, _, _, rfl⟩ := real_some.mp h
  rfl
theorem rr_ne {f g : FR} (h : f.2.2 ≠ g.2.2) : RR f g := fun r hr r' hr' e => h (by rw [← real_kind hr, ← real_kind hr', e])
def ixR (r : Rw) : Nat := if r.2.2.1 = "missed" then r.1 else r.2.1
theorem fndOf_ix {W : Itv → Option Nat} {p : Nat} {e : Ent} {f : FR} {r : Rw} (h : f ∈ fndOf W p e) (hr : realOf f = some r) : ixR r = p := by
  rcases fndOf_mem.mp h with ⟨x, hx, rfl | rfl⟩ | ⟨x, hx, rfl⟩
  · obtain ⟨a, b, h1, h2, ne, rfl⟩ := real_some.mp hr
    cases h2
    exact if_neg (show ¬ ("read" : Str) = "missed" by decide +kernel)
  · obtain ⟨a, b, h1, h2, ne, rfl⟩ := real_some.mp hr
    cases h1
    exact if_pos rfl
  · obtain ⟨a, b, h1, h2, ne, rfl⟩ := real_some.mp hr
    cases h2
    exact if_neg (show ¬ ("over" : Str) = "missed" by decide +kernel)
theorem rdR_mem {W : Itv → Option Nat} {p : Nat} {x : Itv} {f : FR} (h : f ∈ rdR W p x) : f.2.2.2 = x.1 ∧ (f.2.2.1 = "read" ∨ f.2.2.1 = "missed") := by
  unfold rdR at h
  rcases List.mem_cons.mp h with rfl | h
  · exact ⟨rfl, .inl rfl⟩
  · rw [List.mem_singleton.mp h]
    exact ⟨rfl, .inr rfl⟩
theorem fndOf_pw {W : Itv → Option Nat} {p : Nat} {e : Ent} (h1 : e.2.1.Pairwise fun x y => x.1 ≠ y.1) (h2 : e.2.2.Pairwise fun x y => x.1 ≠ y.1) : (fndOf W p e).Pairwise RR := by
  unfold fndOf
  refine List.pairwise_append.mpr ⟨List.pairwise_flatMap.mpr ⟨fun x _ => ?_, h1.imp fun {x y} ne f hf g hg => rr_ne fun q => ?_⟩, List.pairwise_map.mpr (h2.imp fun {x y} ne => rr_ne fun q => ne (congrArg (·.2) q)), fun f hf g hg => rr_ne fun q => ?_⟩
  · refine List.pairwise_cons.mpr ⟨fun f hf => ?_, List.pairwise_singleton _ _⟩
    rw [List.mem_singleton.mp hf]
    exact rr_ne fun q => absurd (congrArg (·.1) q) (show ¬ ("read" : Str) = "missed" by decide +kernel)
  · exact ne (by rw [← (rdR_mem hf).1, ← (rdR_mem hg).1, q])
  · obtain ⟨x, _, hx⟩ := List.mem_flatMap.mp hf
    obtain ⟨y, _, rfl⟩ := List.mem_map.mp hg
    have e2 : f.2.2.1 = "over" := congrArg (·.1) q
    rcases (rdR_mem hx).2 with h | h
    · rw [h] at e2
      exact absurd e2 (show ¬ ("read" : Str) = "over" by decide +kernel)
    · rw [h] at e2
      exact absurd e2 (show ¬ ("missed" : Str) = "over" by decide +kernel)
theorem fndN_pw {W : Itv → Option Nat} {hs : List Ent} (ok : HOk hs) : ∀ n, (fndN W hs n).Pairwise RR
  | 0 => .nil
  | n + 1 => by
    show (fndN W hs n ++ _).Pairwise RR
    refine List.pairwise_append.mpr ⟨fndN_pw ok n, ?_, fun f hf g hg r hr r' hr' q => ?_⟩
    · cases e : hs[n]? with
      | none => exact .nil
      | some x => exact fndOf_pw (ok.rd x (List.mem_of_getElem? e)) (ok.wr x (List.mem_of_getElem? e))
    · cases e : hs[n]? with
      | none => rw [e] at hg; cases hg
      | some x =>
        rw [e] at hg
        obtain ⟨p, hp, y, hy, hf⟩ := fndN_mem.mp hf
        have h1 := fndOf_ix hf hr
        have h2 := fndOf_ix hg hr'
        rw [q, h2] at h1
        omega
theorem lnk_nodup {hs : List Ent} (ok : HOk hs) : (lnk hs).Nodup := List.pairwise_filterMap.mpr (fndN_pw ok _)
theorem lkW_mem {p q : Nat} {g : Ent} {x : Itv} {r : Rw} (h : r ∈ lkW p q g x) : r.1 = p ∧ r.2.1 = q ∧ r.2.2.2 = x.1 ∧ r.2.2.1 ≠ "missed" := by
  unfold lkW at h
  rcases List.mem_append.mp h with h | h
  · split at h
    · rw [List.mem_singleton.mp h]
      exact ⟨rfl, rfl, rfl, show ¬ ("read" : Str) = "missed" by decide +kernel⟩
    · cases h
  · split at h
    · rw [List.mem_singleton.mp h]
      exact ⟨rfl, rfl, rfl, show ¬ ("over" : Str) = "missed" by decide +kernel⟩
    · cases h
theorem lkR_mem {p q : Nat} {g : Ent} {x : Itv} {r : Rw} (h : r ∈ lkR p q g x) : r.1 = p ∧ r.2.1 = q ∧ r.2.2.2 = x.1 ∧ r.2.2.1 = "missed" := by
  unfold lkR at h
  split at h
  · rw [List.mem_singleton.mp h]
    exact ⟨rfl, rfl, rfl, rfl⟩
  · cases h
theorem lawLk_nodup {hs : List Ent} (ok : HOk hs) : (lawLk hs).Nodup := by
  have e1 : ∀ p q (r : Rw), r ∈ lkPQ hs p q → r.1 = p ∧ r.2.1 = q := fun p q r h => by
    obtain ⟨_, e, g, x, _, _, h⟩ := lkPQ_mem.mp h
    rcases h with ⟨_, _, rfl⟩ | ⟨_, _, rfl⟩ | ⟨_, _, rfl⟩ <;> exact ⟨rfl, rfl⟩
  have e2 : ∀ p (r : Rw), r ∈ lkP hs p → r.1 = p := fun p r h => by
    obtain ⟨q, _, h⟩ := List.mem_flatMap.mp h
    exact (e1 p q r h).1
  refine List.pairwise_flatMap.mpr ⟨fun p _ => List.pairwise_flatMap.mpr ⟨fun q _ => ?_, List.nodup_range.imp fun {a b} ne r hr r' hr' z => ne ?_⟩, List.nodup_range.imp fun {a b} ne r hr r' hr' z => ne ?_⟩
  · unfold lkPQ
    split
    · exact .nil
    split
    · rename_i e g he hg
      refine List.pairwise_append.mpr ⟨List.pairwise_flatMap.mpr ⟨fun x _ => ?_, (ok.wr e (List.mem_of_getElem? he)).imp fun {x y} ne r hr r' hr' z => ne ?_⟩, List.pairwise_flatMap.mpr ⟨fun x _ => ?_, (ok.rd e (List.mem_of_getElem? he)).imp fun {x y} ne r hr r' hr' z => ne ?_⟩, fun r hr r' hr' z => ?_⟩
      · unfold lkW
        split <;> split <;> simp
        exact show ¬ (("read" : Str) = "over") by decide +kernel
      · unfold lkR
        split <;> simp
      · obtain ⟨x, _, hr⟩ := List.mem_flatMap.mp hr
        obtain ⟨y, _, hr'⟩ := List.mem_flatMap.mp hr'
        exact (lkW_mem hr).2.2.2 (by rw [z]; exact (lkR_mem hr').2.2.2)
      · rw [← (lkW_mem hr).2.2.1, ← (lkW_mem hr').2.2.1, z]
      · rw [← (lkR_mem hr).2.2.1, ← (lkR_mem hr').2.2.1, z]
    · exact .nil
  · rw [← (e1 _ _ r hr).2, ← (e1 _ _ r' hr').2, z]
  · rw [← e2 _ r hr, ← e2 _ r' hr', z]
theorem links_perm {hs : List Ent} (ok : HOk hs) : (lawLk hs).Perm (lnk hs) := (List.perm_ext_iff_of_nodup (lawLk_nodup ok) (lnk_nodup ok)).mpr fun r => by rw [lnk_mem ok, lawLk_mem]
theorem rw_inj {a b : Rw} (h : PySem.W.keyToks (rwD a) = PySem.W.keyToks (rwD b)) : a = b := by
  obtain ⟨a1, a2, a3, a4⟩ := a
  obtain ⟨b1, b2, b3, b4⟩ := b
  simp only [rwD, PySem.W.keyToks, PySem.W.keyToksAll, List.singleton_append, List.cons_append, List.nil_append, List.cons.injEq, Sum.inl.injEq, Sum.inr.injEq, true_and, and_true] at h
  obtain ⟨h1, h2, h3, h4⟩ := h
  have e1 : a1 = b1 := by omega
  have e2 : a2 = b2 := by omega
  rw [e1, e2, str_ext h3, str_ext h4]
theorem ordRw : Ord (ltA rwD) (fun _ => True) where
  irr := fun a _ => PyProof.Rows.lex_irrefl _
  tr := fun a b c _ _ _ h1 h2 => PyProof.Rows.lex_trans _ _ _ h1 h2
  tot := fun a b _ _ => by
    cases h1 : ltA rwD a b with
    | true => exact .inl rfl
    | false =>
      cases h2 : ltA rwD b a with
      | true => exact .inr (.inr rfl)
      | false => exact .inr (.inl (rw_inj (PyProof.Rows.lex_total _ _ h1 h2)))
theorem links_same {hs : List Ent} (ok : HOk hs) : srt (ltA rwD) (lawLk hs) = M.asc (ltA rwD) (lnk hs) := srt_asc ordRw (fun _ _ => trivial) (links_perm ok)

/-! ### _law_whole, _law_copied -/
abbrev sWh : Stmt := (top 15)
theorem scWh : FnScope ["_law_thing"] ["_law_thing"] (defScope sWh) := ⟨rfl, rfl, rfl, by decide +kernel, rfl, by decide +kernel, by decide +kernel⟩
def spWh : Sp := fun vs H Q _ => ∃ i : Int, vs = [.int i] ∧ Q (.bl true) H
abbrev sCo : Stmt := (top 17)
theorem scCo : FnScope ["_law_history_here", "_law_entry"] ["_law_history_here"] (defScope sCo) := ⟨rfl, rfl, rfl, by decide +kernel, rfl, by decide +kernel, by decide +kernel⟩
def spCo : Sp := fun vs H Q _ => ∃ (a : Addr) (hs : List Ent), vs = [.ref a] ∧ HsA H a hs ∧ hs.length ≤ 100 ∧ ∀ (l : Addr) (H' : Hp), H l = none → Same H H' → HsA H' l hs → Q (.ref l) H'
section
variable {P : Program} {w : World} {K : PySem.W.Frag} {mg : Str → Option Value} {base : Heap}
theorem ok_wh {f : Addr} {fd : FuncData} (F : FnP K "_law_whole" sWh f fd) (T : Bj mg) (kb : PySem.W.kitOne K (.type "int") (.type "bool") = some false) : FnOk P w K mg base (L2.CX P w) 1 f fd ["_law_thing"] spWh := by
  refine F.ok scWh (fun vs H Q E h => ?_) (fun cdv A outer s H vs Q E hr h => ?_)
  · obtain ⟨i, rfl, _⟩ := h
    rfl
  · obtain ⟨i, rfl, kQ⟩ := h
    have nd := scWh.nd
    refine ⟨_, (pss_one (ps_ret (pe_and (pe_callB call_isi (by rfl) T.isinstance (by decide +kernel) (pa_cons (pv 0) (pa_cons (pe_bltn (v := .ty "int") (by rfl) T.int (by decide +kernel) rfl) pa_nil))) (pe_one (pe_not (pe_callB call_isi (by rfl) T.isinstance (by decide +kernel) (pa_cons (pv 0) (pa_cons (pe_bltn (v := .ty "bool") (by rfl) T.bool (by decide +kernel) rfl) pa_nil)))))))), ?_⟩
    have isl : PySem.W.kitOne K (.type "int") (.type "int") = some true := if_pos rfl
    refine ⟨_, rfl, _, _, _, _, true, rfl, .ty "int", .base (.int i), isl, _, rfl, iteT ?_⟩
    refine ⟨_, rfl, _, _, _, _, false, rfl, .ty "bool", .base (.int i), kb, ?_⟩
    exact ⟨_, rfl, kQ⟩
theorem ok_co {f : Addr} {fd : FuncData} (F : FnP K "_law_copied" sCo f fd) (T : Bj mg) : FnOk P w K mg base (L2.CX P w) 1 f fd ["_law_history_here"] spCo := by
  refine F.ok scCo (fun vs H Q E h => ?_) (fun cdv A outer s H vs Q E hr h => ?_)
  · obtain ⟨a, hs, rfl, _⟩ := h
    rfl
  · obtain ⟨a, hs, rfl, ⟨es, he, pe⟩, hz, kQ⟩ := h
    have nd := scCo.nd
    refine ⟨_, (pss_one (ps_ret (pe_lc (own := [("_law_entry", 1)]) (g := gName 1) (tt := tYes) (by rfl) nd (pi_list (pv 0)) (blkOk_by (own := [("_law_entry", 1)]) (N := ["_law_history_here", "_law_entry"]) (sc := defScope sCo) (by decide +kernel)) (fun _ _ _ _ _ => (pg_name (i := 1) nd rfl (Or.inl rfl))) (fun _ _ _ _ _ => pts_nil) (fun _ _ _ _ _ => (pe_tup (pa_cons (pe_ix (show IxR _ (rIxT K) from ix_tup) (pv 1) pe_int (fun _ _ => rfl)) (pa_cons (pe_callTy (show CallR _ (.type "list") (rLof K) from call_list_ofK) (by rfl) T.list (by decide +kernel) (pa_cons (pe_ix (show IxR _ (rIxT K) from ix_tup) (pv 1) pe_int (fun _ _ => rfl)) pa_nil)) (pa_cons (pe_callTy (show CallR _ (.type "list") (rLof K) from call_list_ofK) (by rfl) T.list (by decide +kernel) (pa_cons (pe_ix (show IxR _ (rIxT K) from ix_tup) (pv 1) pe_int (fun _ _ => rfl)) pa_nil)) pa_nil)))))))), ?_⟩
    refine ⟨_, rfl, a, rfl, ⟨_, SqL.of he⟩, ?_⟩
    refine fun D hD => lc_list (K := K) (a := a) (xs := es) (fun i H1 => ∃ us, Same H H1 ∧ H1 D = some (.lst us) ∧ Pw (EnA (delH H1 D)) us (hs.take i)) ⟨[], (Same.refl H).new hD, upd_same, Pw.nil⟩
      (fun i H1 _ ⟨us, s, _⟩ => SqL.of (s _ _ he)) ?_ ?_
    · rintro i y H1 hi ⟨us, s1, hD1, pu⟩
      obtain ⟨e, hse, t, r, w', rfl, ht, ⟨rs, hr1, pr⟩, ⟨ws, hw1, pw⟩⟩ := pe.get hi
      refine ⟨rfl, tYes_if ?_⟩
      refine ⟨_, rfl, t, _, _, _, rfl, rfl, .inl (.inl (s1 _ _ ht)), (show atI [V.str e.1, .ref r, .ref w'] 0 = some (.str e.1) from rfl), ?_⟩
      refine ⟨_, rfl, t, _, _, _, rfl, rfl, .inl (.inl (s1 _ _ ht)), (show atI [V.str e.1, .ref r, .ref w'] 1 = some (.ref r) from rfl), r, _, rfl, .inl (SqL.of (s1 _ _ hr1)), fun r2 n2 => ?_⟩
      have s2 : Same H1 (upd H1 r2 (.lst rs)) := (Same.refl H1).new n2
      refine ⟨_, rfl, t, _, _, _, rfl, rfl, .inl (.inl (s2 _ _ (s1 _ _ ht))), (show atI [V.str e.1, .ref r, .ref w'] 2 = some (.ref w') from rfl), w', _, rfl, .inl (SqL.of (s2 _ _ (s1 _ _ hw1))), fun w2 n3 => ?_⟩
      have s3 := s2.new (o := .lst ws) n3
      refine ⟨(show 3 ≤ sizeLine by decide), fun T4 n4 => ?_⟩
      have s4 := s3.new (o := .tup [V.str e.1, .ref r2, .ref w2]) n4
      have hil := (List.getElem?_eq_some_iff.mp hi).1
      refine ⟨us, s4 _ _ hD1, ?_, us ++ [.ref T4], ?_⟩
      · have := pu.len
        have h2 := pe.len
        rw [List.length_take] at this
        exact size_ok (m := 1000) (by omega) (by decide)
      have eT : hs.take (i + 1) = hs.take i ++ [e] := by rw [List.take_add_one, hse]; rfl
      have sH := (s1.trans s4)
      have z4 := same_del2 (D := D) s4
      have g0 := same_del sH hD
      have d2 : r2 ≠ D := fun q => by rw [q, hD1] at n2; cases n2
      have d3 : w2 ≠ D := fun q => by rw [q, s2 _ _ hD1] at n3; cases n3
      have d4 : T4 ≠ D := fun q => by rw [q, s3 _ _ hD1] at n4; cases n4
      have q2 : (upd (upd (upd H1 r2 (.lst rs)) w2 (.lst ws)) T4 (.tup [V.str e.1, .ref r2, .ref w2])) r2 = some (.lst rs) := (Same.refl _).new n4 _ _ ((Same.refl _).new n3 _ _ upd_same)
      have q3 : (upd (upd (upd H1 r2 (.lst rs)) w2 (.lst ws)) T4 (.tup [V.str e.1, .ref r2, .ref w2])) w2 = some (.lst ws) := (Same.refl _).new n4 _ _ upd_same
      have q4 : (upd (upd (upd H1 r2 (.lst rs)) w2 (.lst ws)) T4 (.tup [V.str e.1, .ref r2, .ref w2])) T4 = some (.tup [V.str e.1, .ref r2, .ref w2]) := upd_same
      generalize upd (upd (upd H1 r2 (.lst rs)) w2 (.lst ws)) T4 (.tup [V.str e.1, .ref r2, .ref w2]) = H4 at *
      refine ⟨sH.mut hD, upd_same, ?_⟩
      rw [delH_upd, eT]
      refine (pu.mono fun v x => stEn _ _ v x z4).snoc ⟨T4, r2, w2, rfl, ?_, ⟨rs, ?_, pr.mono fun v x => stPr _ _ v x g0⟩, ⟨ws, ?_, pw.mono fun v x => stPr _ _ v x g0⟩⟩
      · rw [delH_ne d4]; exact q4
      · rw [delH_ne d2]; exact q2
      · rw [delH_ne d3]; exact q3
    · rintro H1 ⟨us, s1, hD1, pu⟩
      rw [pe.len, List.take_length] at pu
      exact kQ D H1 hD s1 ⟨us, hD1, pu.mono fun v x => stEn _ _ v x del_same⟩
end


/-! ### _law_history -/
abbrev sHi : Stmt := (top 16)
theorem scHi : FnScope ["_law_draws_here", "_law_many", "_law_fresh", "_law_sites", "_law_goods", "_law_homes", "_law_copies", "_law_item", "_law_site", "_law_history_here", "_law_k", "_law_reads", "_law_writes", "_law_draw", "_law_gap", "_law_version"] ["_law_draws_here", "_law_many", "_law_fresh"] (defScope sHi) := ⟨rfl, rfl, rfl, by decide +kernel, rfl, by decide +kernel, by decide +kernel⟩
theorem putK_old {κ : Type} [DecidableEq κ] {kvs : List (κ × V)} {k : κ} {v u : V} (h : valV kvs k = some u) : (putK kvs k v).length = kvs.length := by
  unfold putK
  rw [valV_any, h]
  show (if (Option.some u).isSome = true then _ else _ : List (κ × V)).length = _
  rw [if_pos (show (Option.some u).isSome = true from rfl), List.length_map]
/-- the copies' versions -/
structure CpOk (G S : List Str) (kc : List (List L2.Key × V)) (cp : Str → Str → Int) : Prop where
  val : ∀ i ∈ G, ∀ s ∈ S, valV kc (k2 i s) = some (.int (cp i s))
  len : kc.length ≤ 100
def cpSet (cp : Str → Str → Int) (i s : Str) (v : Int) : Str → Str → Int := fun i' s' => if i' = i ∧ s' = s then v else cp i' s'
theorem CpOk.put {G S : List Str} {kc : List (List L2.Key × V)} {cp : Str → Str → Int} (c : CpOk G S kc cp) {i s : Str} (hi : i ∈ G) (hs : s ∈ S) (v : Int) : CpOk G S (putK kc (k2 i s) (.int v)) (cpSet cp i s v) := by
  refine ⟨fun i' hi' s' hs' => ?_, by rw [putK_old (c.val i hi s hs)]; exact c.len⟩
  rw [valV_put]
  unfold cpSet
  by_cases e : i' = i ∧ s' = s
  · rw [if_pos e, if_pos (by rw [e.1, e.2])]
  · rw [if_neg e, if_neg (fun h => e (k2_inj h))]
    exact c.val i' hi' s' hs'
/-- the homes -/
structure HmOk (G S : List Str) (kh : List (L2.Key × V)) (hm : Str → Str) : Prop where
  val : ∀ i ∈ G, valV kh (Sum.inr i) = some (.str (hm i))
  mem : ∀ i ∈ G, hm i ∈ S
/-- how many of the first p programs write i -/
def cW (hs : List Ent) (p : Nat) (i : Str) : Int := (((hs.take p).countP fun e => e.2.2.any fun x => decide (x.1 = i) : Nat) : Int)
/-- the versions: a write is the next one of its item; a read is one written before (b: the last one) -/
structure HW (b : Bool) (hs : List Ent) : Prop where
  wr : ∀ (p : Nat) e x, hs[p]? = some e → x ∈ e.2.2 → x.2 = cW hs p x.1 + 1
  rd : ∀ (p : Nat) e x, hs[p]? = some e → x ∈ e.2.1 → 0 ≤ x.2 ∧ x.2 ≤ cW hs p x.1 ∧ (b = true → x.2 = cW hs p x.1)
theorem cW_old {hs : List Ent} {e : Ent} {p : Nat} (h : p ≤ hs.length) (i : Str) : cW (hs ++ [e]) p i = cW hs p i := by
  unfold cW
  rw [List.take_append_of_le_length h]
theorem cW_snoc (hs : List Ent) (e : Ent) (i : Str) : cW (hs ++ [e]) (hs.length + 1) i = cW hs hs.length i + if ∃ x ∈ e.2.2, x.1 = i then 1 else 0 := by
  unfold cW
  rw [List.take_length, List.take_of_length_le (by simp), List.countP_append, List.countP_singleton]
  by_cases h : ∃ x ∈ e.2.2, x.1 = i
  · rw [if_pos h, if_pos (List.any_eq_true.mpr (by obtain ⟨x, hx, e⟩ := h; exact ⟨x, hx, decide_eq_true e⟩))]
    rfl
  · rw [if_neg h, if_neg (fun z => h (by obtain ⟨x, hx, e⟩ := List.any_eq_true.mp z; exact ⟨x, hx, of_decide_eq_true e⟩))]
    rfl
theorem HW.snoc {b : Bool} {hs : List Ent} (h : HW b hs) {e : Ent} (h1 : ∀ x ∈ e.2.2, x.2 = cW hs hs.length x.1 + 1) (h2 : ∀ x ∈ e.2.1, 0 ≤ x.2 ∧ x.2 ≤ cW hs hs.length x.1 ∧ (b = true → x.2 = cW hs hs.length x.1)) : HW b (hs ++ [e]) := by
  have at_ : ∀ p g, (hs ++ [e])[p]? = some g → (hs[p]? = some g ∧ p < hs.length) ∨ (g = e ∧ p = hs.length) := fun p g h => by
    by_cases hp : p < hs.length
    · rw [List.getElem?_append_left hp] at h
      exact .inl ⟨h, hp⟩
    · rw [List.getElem?_append_right (by omega)] at h
      have := (List.getElem?_eq_some_iff.mp h).1
      have e0 : p - hs.length = 0 := by simp at this; omega
      rw [e0] at h
      exact .inr ⟨(Option.some.inj h).symm, by omega⟩
  refine ⟨fun p g x hp hx => ?_, fun p g x hp hx => ?_⟩
  · rcases at_ p g hp with ⟨a, c⟩ | ⟨rfl, rfl⟩
    · rw [cW_old (Nat.le_of_lt c)]; exact h.wr p g x a hx
    · rw [cW_old (Nat.le_refl _)]; exact h1 x hx
  · rcases at_ p g hp with ⟨a, c⟩ | ⟨rfl, rfl⟩
    · rw [cW_old (Nat.le_of_lt c)]; exact h.rd p g x a hx
    · rw [cW_old (Nat.le_refl _)]; exact h2 x hx
/-- between two programs -/
structure HI (b : Bool) (G S : List Str) (hm : Str → Str) (hs : List Ent) (cp : Str → Str → Int) : Prop where
  lo : ∀ i ∈ G, ∀ s ∈ S, 0 ≤ cp i s
  cw : ∀ i ∈ G, cp i (hm i) = cW hs hs.length i
  hw : HW b hs
  gap : ∀ i ∈ G, ∀ s ∈ S, cp i s ≤ cp i (hm i)
  ok : HOk hs
  lim : ∀ e ∈ hs, ∀ x ∈ e.2.2, x.2 ≤ cp x.1 (hm x.1)
  rg : ∀ e ∈ hs, e.2.1.length ≤ 4 ∧ e.2.2.length ≤ 4 ∧ (∀ x ∈ e.2.1, x.1 ∈ G) ∧ (∀ x ∈ e.2.2, x.1 ∈ G) ∧ e.1 ∈ S
theorem HOk.snoc {hs : List Ent} (ok : HOk hs) {e : Ent} (h1 : e.2.1.Pairwise fun x y => x.1 ≠ y.1) (h2 : e.2.2.Pairwise fun x y => x.1 ≠ y.1) (h3 : ∀ x ∈ e.2.2, ∀ g ∈ hs, x ∉ g.2.2) : HOk (hs ++ [e]) := by
  have at_ : ∀ p g, (hs ++ [e])[p]? = some g → (hs[p]? = some g ∧ p < hs.length) ∨ (g = e ∧ p = hs.length) := fun p g h => by
    by_cases hp : p < hs.length
    · rw [List.getElem?_append_left hp] at h
      exact .inl ⟨h, hp⟩
    · rw [List.getElem?_append_right (by omega)] at h
      have := (List.getElem?_eq_some_iff.mp h).1
      have e0 : p - hs.length = 0 := by simp at this; omega
      rw [e0] at h
      exact .inr ⟨(Option.some.inj h).symm, by omega⟩
  refine ⟨fun g hg => ?_, fun g hg => ?_, fun p q g g' x hp hq hx hx' => ?_⟩
  · rcases List.mem_append.mp hg with hg | hg
    · exact ok.rd g hg
    · rw [List.mem_singleton.mp hg]; exact h1
  · rcases List.mem_append.mp hg with hg | hg
    · exact ok.wr g hg
    · rw [List.mem_singleton.mp hg]; exact h2
  · rcases at_ p g hp with ⟨a1, b1⟩ | ⟨rfl, b1⟩ <;> rcases at_ q g' hq with ⟨a2, b2⟩ | ⟨rfl, b2⟩
    · exact ok.one p q g g' x a1 a2 hx hx'
    · exact absurd hx (h3 x hx' g (List.mem_of_getElem? a1))
    · exact absurd hx' (h3 x hx g' (List.mem_of_getElem? a2))
    · omega
/-- within a program: what it reads, writes, the versions as they are then -/
structure IL (b : Bool) (G : List Str) (goods : List Str) (hm : Str → Str) (site : Str) (cp : Str → Str → Int) (rd wr : List Itv) (cp' : Str → Str → Int) : Prop where
  lo : ∀ g ∈ goods, 0 ≤ cp' g site
  rv : ∀ x ∈ rd, 0 ≤ x.2 ∧ x.2 ≤ cp x.1 (hm x.1) ∧ (b = true → x.2 = cp x.1 (hm x.1))
  ri : ∀ x ∈ rd, x.1 ∈ G
  wi : ∀ x ∈ wr, x.1 ∈ G ∧ hm x.1 = site ∧ x.2 = cp x.1 site + 1
  rp : rd.Pairwise fun x y => x.1 ≠ y.1
  wp : wr.Pairwise fun x y => x.1 ≠ y.1
  rl : rd.length ≤ G.length
  wl : wr.length ≤ G.length
  far : ∀ i s, s ≠ site → cp' i s = cp i s
  top : ∀ g ∈ goods, cp' g site ≤ cp g (hm g)
  home : ∀ g ∈ goods, hm g = site → cp' g site = cp g site
theorem IL.step {b : Bool} {G goods : List Str} {hm : Str → Str} {site g : Str} {cp cp' : Str → Str → Int} {rd wr rd2 wr2 : List Itv} {v : Int} (il : IL b G goods hm site cp rd wr cp') (gm : g ∈ goods) (ng : g ∉ G) (h1 : cp' g site ≤ v) (h2 : v ≤ cp' g (hm g)) (hb : b = true → v = cp' g (hm g))
    (hr : rd2 = rd ∨ rd2 = rd ++ [(g, v)]) (hw : wr2 = wr ∨ (wr2 = wr ++ [(g, v + 1)] ∧ hm g = site)) : IL b (G ++ [g]) goods hm site cp rd2 wr2 (cpSet cp' g site v) := by
  have top2 : v ≤ cp g (hm g) := by
    by_cases e : hm g = site
    · have t := il.home g gm e
      rw [e] at h2 ⊢
      omega
    · rw [il.far g (hm g) e] at h2
      exact h2
  have eqv : hm g = site → v = cp g site := fun e => by
    have t := il.home g gm e
    rw [e] at h2
    omega
  have lo0 := il.lo g gm
  have eqb : b = true → v = cp g (hm g) := fun e => by
    rw [hb e]
    by_cases q : hm g = site
    · rw [q]; exact il.home g gm q
    · exact il.far g (hm g) q
  refine ⟨fun i hi => ?_, fun x hx => ?_, fun x hx => ?_, fun x hx => ?_, ?_, ?_, ?_, ?_, fun i s ne => ?_, fun i hi => ?_, fun i hi e => ?_⟩
  · show 0 ≤ (if i = g ∧ site = site then v else cp' i site)
    by_cases q : i = g
    · rw [if_pos ⟨q, rfl⟩]; omega
    · rw [if_neg (fun z => q z.1)]; exact il.lo i hi
  · rcases hr with rfl | rfl
    · exact il.rv x hx
    · rcases List.mem_append.mp hx with hx | hx
      · exact il.rv x hx
      · rw [List.mem_singleton.mp hx]
        exact ⟨by show 0 ≤ v; omega, top2, eqb⟩
  · rcases hr with rfl | rfl
    · exact List.mem_append_left _ (il.ri x hx)
    · rcases List.mem_append.mp hx with hx | hx
      · exact List.mem_append_left _ (il.ri x hx)
      · rw [List.mem_singleton.mp hx]; simp
  · rcases hw with rfl | ⟨rfl, e⟩
    · obtain ⟨a, b, c⟩ := il.wi x hx
      exact ⟨List.mem_append_left _ a, b, c⟩
    · rcases List.mem_append.mp hx with hx | hx
      · obtain ⟨a, b, c⟩ := il.wi x hx
        exact ⟨List.mem_append_left _ a, b, c⟩
      · rw [List.mem_singleton.mp hx]
        exact ⟨by simp, e, by show v + 1 = cp g site + 1; rw [eqv e]⟩
  · rcases hr with rfl | rfl
    · exact il.rp
    · refine List.pairwise_append.mpr ⟨il.rp, List.pairwise_singleton _ _, fun x hx y hy e => ?_⟩
      rw [List.mem_singleton.mp hy] at e
      exact ng (by rw [← show x.1 = g from e]; exact il.ri x hx)
  · rcases hw with rfl | ⟨rfl, _⟩
    · exact il.wp
    · refine List.pairwise_append.mpr ⟨il.wp, List.pairwise_singleton _ _, fun x hx y hy e => ?_⟩
      rw [List.mem_singleton.mp hy] at e
      exact ng (by rw [← show x.1 = g from e]; exact (il.wi x hx).1)
  · have := il.rl
    rcases hr with rfl | rfl <;> simp <;> omega
  · have := il.wl
    rcases hw with rfl | ⟨rfl, _⟩ <;> simp <;> omega
  · show (if i = g ∧ s = site then v else cp' i s) = cp i s
    rw [if_neg (fun q => ne q.2)]
    exact il.far i s ne
  · show (if i = g ∧ site = site then v else cp' i site) ≤ cp i (hm i)
    by_cases q : i = g
    · rw [if_pos ⟨q, rfl⟩, q]; exact top2
    · rw [if_neg (fun z => q z.1)]; exact il.top i hi
  · show (if i = g ∧ site = site then v else cp' i site) = cp i site
    by_cases q : i = g
    · rw [if_pos ⟨q, rfl⟩, q]; exact eqv (by rw [← q]; exact e)
    · rw [if_neg (fun z => q z.1)]; exact il.home i hi e
abbrev wrF (site : Str) (wr : List Itv) (c : Str → Str → Int) : Str → Str → Int := wr.foldl (fun c x => cpSet c x.1 site x.2) c
theorem wrF_far {site i s : Str} (ne : s ≠ site) : ∀ {wr : List Itv} {c : Str → Str → Int}, wrF site wr c i s = c i s
  | [], _ => rfl
  | x :: r, c => (wrF_far ne (wr := r) (c := cpSet c x.1 site x.2)).trans (if_neg fun q => ne q.2)
theorem wrF_out {site i s : Str} : ∀ {wr : List Itv} {c : Str → Str → Int}, (∀ x ∈ wr, x.1 ≠ i) → wrF site wr c i s = c i s
  | [], _, _ => rfl
  | x :: r, c, h => (wrF_out (wr := r) (c := cpSet c x.1 site x.2) fun y hy => h y (List.mem_cons_of_mem _ hy)).trans (if_neg fun q => h x List.mem_cons_self q.1.symm)
theorem wrF_in {site : Str} {x : Itv} : ∀ {wr : List Itv} {c : Str → Str → Int}, (wr.Pairwise fun x y => x.1 ≠ y.1) → x ∈ wr → wrF site wr c x.1 site = x.2
  | [], _, _, h => by cases h
  | y :: r, c, p, h => by
    have p' := List.pairwise_cons.mp p
    rcases List.mem_cons.mp h with rfl | h
    · exact (wrF_out (wr := r) (c := cpSet c x.1 site x.2) fun z hz => (p'.1 z hz).symm).trans (if_pos ⟨rfl, rfl⟩)
    · exact wrF_in (wr := r) p'.2 h
theorem HI.step {b : Bool} {G S : List Str} {hm : Str → Str} {hs : List Ent} {cp cp' : Str → Str → Int} {site : Str} {rd wr : List Itv} (hi : HI b G S hm hs cp) (il : IL b G G hm site cp rd wr cp') (n4 : G.length ≤ 4) (sm : site ∈ S) : HI b G S hm (hs ++ [(site, rd, wr)]) (wrF site wr cp') := by
  have up : ∀ i ∈ G, cp i (hm i) ≤ wrF site wr cp' i (hm i) := fun i hiG => by
    by_cases e : hm i = site
    · rw [e]
      by_cases q : ∃ x ∈ wr, x.1 = i
      · obtain ⟨x, hx, rfl⟩ := q
        rw [wrF_in il.wp hx]
        have := (il.wi x hx).2.2
        omega
      · rw [wrF_out fun x hx ne => q ⟨x, hx, ne⟩, il.home i hiG e]
        exact Int.le_refl _
    · rw [wrF_far e, il.far i _ e]
      exact Int.le_refl _
  refine ⟨fun i hiG s hsS => ?_, fun i hiG => ?_, hi.hw.snoc (fun x hx => ?_) (fun x hx => ?_), fun i hiG s hsS => ?_, hi.ok.snoc il.rp il.wp fun x hx g hg hxg => ?_, fun e he x hx => ?_, fun e he => ?_⟩
  · by_cases es : s = site
    · subst es
      by_cases q : ∃ x ∈ wr, x.1 = i
      · obtain ⟨x, hx, rfl⟩ := q
        rw [wrF_in il.wp hx, (il.wi x hx).2.2]
        have := hi.lo x.1 hiG s hsS
        omega
      · rw [wrF_out (s := s) fun x hx ne => q ⟨x, hx, ne⟩]
        exact il.lo i hiG
    · rw [wrF_far es, il.far i s es]
      exact hi.lo i hiG s hsS
  · rw [List.length_append, List.length_singleton, cW_snoc, ← hi.cw i hiG]
    by_cases e : hm i = site
    · rw [e]
      by_cases q : ∃ x ∈ wr, x.1 = i
      · rw [if_pos q]
        obtain ⟨x, hx, rfl⟩ := q
        rw [wrF_in il.wp hx]
        exact (il.wi x hx).2.2
      · rw [if_neg q, wrF_out (s := site) fun x hx ne => q ⟨x, hx, ne⟩, il.home i hiG e]
        omega
    · rw [if_neg (fun ⟨x, hx, q⟩ => e (by rw [← q]; exact (il.wi x hx).2.1)), wrF_far e, il.far i _ e]
      omega
  · obtain ⟨z1, z2, z3⟩ := il.wi x hx
    rw [z3, ← hi.cw x.1 z1, z2]
  · rw [← hi.cw x.1 (il.ri x hx)]
    exact il.rv x hx
  · by_cases es : s = site
    · subst es
      by_cases q : ∃ x ∈ wr, x.1 = i
      · obtain ⟨x, hx, rfl⟩ := q
        rw [(il.wi x hx).2.1]
        exact Int.le_refl _
      · rw [wrF_out (s := s) fun x hx ne => q ⟨x, hx, ne⟩]
        exact Int.le_trans (il.top i hiG) (up i hiG)
    · rw [wrF_far es, il.far i s es]
      exact Int.le_trans (hi.gap i hiG s hsS) (up i hiG)
  · have h1 := hi.lim g hg x hxg
    obtain ⟨_, h2, h3⟩ := il.wi x hx
    rw [h2] at h1
    omega
  · rcases List.mem_append.mp he with he | he
    · exact Int.le_trans (hi.lim e he x hx) (up _ ((hi.rg e he).2.2.2.1 x hx))
    · rw [List.mem_singleton.mp he] at hx
      rw [(il.wi x hx).2.1, wrF_in il.wp hx]
      exact Int.le_refl _
  · rcases List.mem_append.mp he with he | he
    · exact hi.rg e he
    · rw [List.mem_singleton.mp he]
      exact ⟨Nat.le_trans il.rl n4, Nat.le_trans il.wl n4, il.ri, fun x hx => (il.wi x hx).1, sm⟩
structure P3 (H : Hp) (A : List Addr) (rs : List V) (rd : List Itv) (ws : List V) (wr : List Itv) (vs : List V) (hs : List Ent) : Prop where
  r : Pw (PrA (cut H A)) rs rd
  w : Pw (PrA (cut H A)) ws wr
  h : Pw (EnA (cut H A)) vs hs
theorem P3.same {H H' : Hp} {A : List Addr} {rs : List V} {rd : List Itv} {ws : List V} {wr : List Itv} {vs : List V} {hs : List Ent} (x : P3 H A rs rd ws wr vs hs) (s : Same H H') : P3 H' A rs rd ws wr vs hs :=
  ⟨x.r.mono fun v y => stPr _ _ v y (cut_same s), x.w.mono fun v y => stPr _ _ v y (cut_same s), x.h.mono fun v y => stEn _ _ v y (cut_same s)⟩
theorem P3.new {H : Hp} {T : Addr} {o : HO} {A : List Addr} {rs : List V} {rd : List Itv} {ws : List V} {wr : List Itv} {vs : List V} {hs : List Ent} (x : P3 H A rs rd ws wr vs hs) (n : H T = none) : P3 (upd H T o) A rs rd ws wr vs hs := x.same ((Same.refl H).new n)
theorem P3.set {H : Hp} {a : Addr} {o : HO} {A : List Addr} {rs : List V} {rd : List Itv} {ws : List V} {wr : List Itv} {vs : List V} {hs : List Ent} (x : P3 H A rs rd ws wr vs hs) (n : a ∈ A) : P3 (upd H a o) A rs rd ws wr vs hs :=
  ⟨by rw [cut_upd n]; exact x.r, by rw [cut_upd n]; exact x.w, by rw [cut_upd n]; exact x.h⟩
theorem P3.appR {H : Hp} {T a : Addr} {A : List Addr} {rs : List V} {rd : List Itv} {ws : List V} {wr : List Itv} {vs : List V} {hs : List Ent} (x : P3 H A rs rd ws wr vs hs) (n : a ∈ A) (t : T ∉ A) {y : Itv} (h : H T = some (.tup [.str y.1, .int y.2])) :
    P3 (upd H a (.lst (rs ++ [.ref T]))) A (rs ++ [.ref T]) (rd ++ [y]) ws wr vs hs := by
  have z := x.set (o := .lst (rs ++ [.ref T])) n
  refine ⟨z.r.snoc ⟨T, rfl, ?_⟩, z.w, z.h⟩
  rw [cut_upd n, cut_out t]
  exact h
theorem P3.appW {H : Hp} {T a : Addr} {A : List Addr} {rs : List V} {rd : List Itv} {ws : List V} {wr : List Itv} {vs : List V} {hs : List Ent} (x : P3 H A rs rd ws wr vs hs) (n : a ∈ A) (t : T ∉ A) {y : Itv} (h : H T = some (.tup [.str y.1, .int y.2])) :
    P3 (upd H a (.lst (ws ++ [.ref T]))) A rs rd (ws ++ [.ref T]) (wr ++ [y]) vs hs := by
  have z := x.set (o := .lst (ws ++ [.ref T])) n
  refine ⟨z.r, z.w.snoc ⟨T, rfl, ?_⟩, z.h⟩
  rw [cut_upd n, cut_out t]
  exact h
theorem CpOk.get {G S : List Str} {kc : List (List L2.Key × V)} {cp : Str → Str → Int} (c : CpOk G S kc cp) {H : Hp} {cd T : Addr} {i s : Str} (e : H cd = some (.dT kc)) (t : H T = some (.tup [V.str i, .str s])) (hi : i ∈ G) (hs : s ∈ S) : DGet H cd (.ref T) (some (.int (cp i s))) := by
  have z := DGet.t (k := k2 i s) e t
  rw [c.val i hi s hs] at z
  exact z
def spHi : Sp := fun vs H Q _ => ∃ (p : Addr) (ds : List Int) (n : Nat) (b : Bool), vs = [.ref p, .int n, .bl b] ∧ H p = some (.lst (ds.map V.int)) ∧ Dr ds ∧ n ≤ 20 ∧
  ∀ (l : Addr) (H' : Hp) (hs : List Ent) (ds' : List Int), (∀ c o, H c = some o → c ≠ p → H' c = some o) → H' p = some (.lst (ds'.map V.int)) → Dr ds' → HsA H' l hs → HOk hs → HW b hs → hs.length = n → (∀ e ∈ hs, e.2.1.length ≤ 4 ∧ e.2.2.length ≤ 4 ∧ (∀ x ∈ e.2.1, PyData.strOk x.1 = true) ∧ (∀ x ∈ e.2.2, PyData.strOk x.1 = true) ∧ PyData.strOk e.1 = true) → Q (.ref l) H'
section
variable {P : Program} {w : World} {K : PySem.W.Frag} {mg : Str → Option Value} {base : Heap}
theorem ok_hi {f : Addr} {fd : FuncData} (F : FnP K "_law_history" sHi f fd) (T : Bj mg) (g_take : Cal P w K mg base 1 "_law_take" ["_law_draws_here", "_law_size"] spTake) (g_names : Cal P w K mg base 1 "_law_names" ["_law_draw", "_law_many"] spNames) :
    FnOk P w K mg base (L2.CX P w) 2 f fd ["_law_draws_here", "_law_many", "_law_fresh"] spHi := by
  refine F.ok scHi (fun vs H Q E h => ?_) (fun cdv A outer s H vs Q E hr h => ?_)
  · obtain ⟨p, ds, n, b, rfl, _⟩ := h
    rfl
  · obtain ⟨p, ds, n, b, rfl, hp, hd, hn, kQ⟩ := h
    have nd := scHi.nd
    have hu := hu_of hr
    refine ⟨_, (pss_cons (ps_set (i := 3) nd rfl (Or.inl rfl) (pe_cal g_names hr takes0 (pa_cons (pe_cal g_take hr takes0 (pa_cons (pv 0) (pa_cons pe_int pa_nil))) (pa_cons (pe_op op_add pe_int (pe_cal g_take hr takes0 (pa_cons (pv 0) (pa_cons pe_int pa_nil)))) pa_nil))))
      (pss_cons (ps_set (i := 4) nd rfl (Or.inl rfl) (pe_cal g_names hr takes0 (pa_cons (pe_cal g_take hr takes0 (pa_cons (pv 0) (pa_cons pe_int pa_nil))) (pa_cons (pe_op op_add pe_int (pe_cal g_take hr takes0 (pa_cons (pv 0) (pa_cons pe_int pa_nil)))) pa_nil))))
      (pss_cons (ps_set (i := 5) nd rfl (Or.inl rfl) pe_dnewK)
      (pss_cons (ps_set (i := 6) nd rfl (Or.inl rfl) pe_dnewT)
      (pss_cons (ps_for (passes_of rfl) rfl (pi_list (pv 4)) (pg_name (i := 7) nd rfl (Or.inl rfl)) (pss_cons (ps_dput hu (pv 5) (pv 7) (pe_ix ix_list (pv 3) (pe_cal g_take hr takes0 (pa_cons (pv 0) (pa_cons (pe_callB call_len_seq (by rfl) T.len PySem.boot_len (pa_cons (pv 3) pa_nil)) pa_nil))) (fun _ _ => rfl)) rfl)
        (pss_one (ps_for (passes_of rfl) rfl (pi_list (pv 3)) (pg_name (i := 8) nd rfl (Or.inl rfl)) (pss_one (ps_dput hu (pv 6) (pe_tup (pa_cons (pv 7) (pa_cons (pv 8) pa_nil))) pe_int rfl))))))
      (pss_cons (ps_set (i := 9) nd rfl (Or.inl rfl) (pe_lst pa_nil))
      (pss_cons (ps_for (passes_of rfl) rfl (pi_range1 (by rfl) T.range (pa_cons (pv 1) pa_nil)) (pg_name (i := 10) nd rfl (Or.inl rfl)) (pss_cons (ps_set (i := 8) nd rfl (Or.inl rfl) (pe_ix ix_list (pv 3) (pe_cal g_take hr takes0 (pa_cons (pv 0) (pa_cons (pe_callB call_len_seq (by rfl) T.len PySem.boot_len (pa_cons (pv 3) pa_nil)) pa_nil))) (fun _ _ => rfl)))
        (pss_cons (ps_set (i := 11) nd rfl (Or.inl rfl) (pe_lst pa_nil))
        (pss_cons (ps_set (i := 12) nd rfl (Or.inl rfl) (pe_lst pa_nil))
        (pss_cons (ps_for (passes_of rfl) rfl (pi_list (pv 4)) (pg_name (i := 7) nd rfl (Or.inl rfl)) (pss_cons (ps_set (i := 13) nd rfl (Or.inl rfl) (pe_cal g_take hr takes0 (pa_cons (pv 0) (pa_cons pe_int pa_nil))))
          (pss_cons (ps_set (i := 14) nd rfl (Or.inl rfl) (pe_op op_sub (pe_dget hu (pv 6) (pe_tup (pa_cons (pv 7) (pa_cons (pe_dget hu (pv 5) (pv 7) (fun _ _ => rfl)) pa_nil))) (fun _ _ => rfl)) (pe_dget hu (pv 6) (pe_tup (pa_cons (pv 7) (pa_cons (pv 8) pa_nil))) (fun _ _ => rfl))))
          (pss_cons (ps_j (ps_if (pt_val (pv 2)) (pss_one (ps_dput hu (pv 6) (pe_tup (pa_cons (pv 7) (pa_cons (pv 8) pa_nil))) (pe_op op_add (pe_dget hu (pv 6) (pe_tup (pa_cons (pv 7) (pa_cons (pv 8) pa_nil))) (fun _ _ => rfl)) (pv 14)) rfl)) (pss_one (ps_dput hu (pv 6) (pe_tup (pa_cons (pv 7) (pa_cons (pv 8) pa_nil))) (pe_op op_add (pe_dget hu (pv 6) (pe_tup (pa_cons (pv 7) (pa_cons (pv 8) pa_nil))) (fun _ _ => rfl)) (pe_op op_modN (pe_callTy call_int1 (by rfl) T.int (by decide +kernel) (pa_cons (pe_op op_fdivN (pv 13) pe_int) pa_nil)) (pe_op op_add (pv 14) pe_int))) rfl))))
          (pss_cons (ps_j (ps_if (pt_cmpR op_eq (pe_op op_modN (pe_callTy call_int1 (by rfl) T.int (by decide +kernel) (pa_cons (pv 13) pa_nil)) pe_int) pe_int (nomark _)) (pss_one (ps_expr (pe_bm PySem.F.plainAttrs_list PySem.F.slot_list_append PySem.F.type_list_append mt_append (pv 11) (pa_cons (pe_tup (pa_cons (pv 7) (pa_cons (pe_dget hu (pv 6) (pe_tup (pa_cons (pv 7) (pa_cons (pv 8) pa_nil))) (fun _ _ => rfl)) pa_nil))) pa_nil)))) pss_nil))
          (pss_one (ps_if (PW.pt (pw_and (pt_cmpR op_eq (pe_dget hu (pv 5) (pv 7) (fun _ _ => rfl)) (pv 8) (nomark _)) (pw_and1 (pt_cmpR op_eq (pe_op op_modN (pe_callTy call_int1 (by rfl) T.int (by decide +kernel) (pa_cons (pe_op op_fdivN (pv 13) pe_int) pa_nil)) pe_int) pe_int (nomark _))))) (pss_one (ps_expr (pe_bm PySem.F.plainAttrs_list PySem.F.slot_list_append PySem.F.type_list_append mt_append (pv 12) (pa_cons (pe_tup (pa_cons (pv 7) (pa_cons (pe_op op_add (pe_dget hu (pv 6) (pe_tup (pa_cons (pv 7) (pa_cons (pv 8) pa_nil))) (fun _ _ => rfl)) pe_int) pa_nil))) pa_nil)))) pss_nil)))))))
        (pss_cons (ps_for (passes_of rfl) rfl (pi_list (pv 12)) (pg_tup rfl (pgs_cons (pg_name (i := 7) nd rfl (Or.inl rfl)) (pgs_cons (pg_name (i := 15) nd rfl (Or.inl rfl)) pgs_nil))) (pss_one (ps_dput hu (pv 6) (pe_tup (pa_cons (pv 7) (pa_cons (pv 8) pa_nil))) (pv 15) rfl)))
        (pss_one (ps_expr (pe_bm PySem.F.plainAttrs_list PySem.F.slot_list_append PySem.F.type_list_append mt_append (pv 9) (pa_cons (pe_tup (pa_cons (pv 8) (pa_cons (pv 11) (pa_cons (pv 12) pa_nil)))) pa_nil))))))))))
      (pss_one (ps_ret (pv 9)))))))))), ?_⟩
    refine ⟨_, rfl, p, ds, 1000, rfl, hp, hd, by decide, fun d1 ds1 d10 d11 hd1 _ => ?_⟩
    obtain ⟨c1, rfl⟩ := Int.eq_ofNat_of_zero_le d10
    refine ⟨_, rfl, p, ds1, 3, rfl, upd_same, hd1, by decide, fun d2 ds2 d20 d21 hd2 _ => ?_⟩
    obtain ⟨c2, rfl⟩ := Int.eq_ofNat_of_zero_le d20
    have en1 : ∀ z : Nat, (1 : Int) + (z : Int) = ((1 + z : Nat) : Int) := fun z => by omega
    refine ⟨_, _, rfl, rfl, c1, 1 + c2, by rw [← en1], by omega, by omega, fun S H1 nS sS hS => ?_⟩
    have x1 : Hx H H1 [(p, .lst (ds2.map V.int))] := by
      refine ⟨fun z hz => ?_, List.pairwise_singleton _ _, fun c o hc nc => ?_⟩
      · rw [List.mem_singleton.mp hz]
        exact sS _ _ upd_same
      · have ne : c ≠ p := Ne.symm (nc _ List.mem_cons_self)
        exact sS _ _ (by rw [upd_ne ne, upd_ne ne]; exact hc)
    have fS : ∀ z ∈ ([(p, .lst (ds2.map V.int))] : List (Addr × HO)), z.1 ≠ S := fun z hz => by
      rw [List.mem_singleton.mp hz]
      exact fun e => by
        have e' : p = S := e
        rw [← e', upd_same] at nS
        cases nS
    have H0S : H S = none := by
      cases q : H S with
      | none => rfl
      | some o =>
        have ne : S ≠ p := fun e => by rw [e, upd_same] at nS; cases nS
        rw [upd_ne ne, upd_ne ne, q] at nS
        cases nS
    have x2 := x1.own hS fS
    clear x1 fS sS nS hS
    have nS : (nmL c1 (1 + c2)).length ≤ 3 := by rw [nmL_len]; omega
    have nS0 : 0 < (nmL c1 (1 + c2)).length := by rw [nmL_len]; omega
    have okS : ∀ x ∈ nmL c1 (1 + c2), PyData.strOk x = true := nmL_ok
    generalize nmL c1 (1 + c2) = sites at *
    refine ⟨_, rfl, p, ds2, 1000, rfl, x2.get 1 rfl, hd2, by decide, fun d3 ds3 d30 d31 hd3 _ => ?_⟩
    obtain ⟨c3, rfl⟩ := Int.eq_ofNat_of_zero_le d30
    have x3 := x2.set (o' := .lst (ds3.map V.int)) 1 rfl
    refine ⟨_, rfl, p, ds3, 4, rfl, upd_same, hd3, by decide, fun d4 ds4 d40 d41 hd4 _ => ?_⟩
    obtain ⟨c4, rfl⟩ := Int.eq_ofNat_of_zero_le d40
    have x4 := x3.set (o' := .lst (ds4.map V.int)) 1 rfl
    refine ⟨_, _, rfl, rfl, c3, 1 + c4, by rw [← en1], by omega, by omega, fun G H2 nG sG hG => ?_⟩
    have x5 := (x4.same sG).own hG fun z hz => ne_of_none (x4.at_ z hz) nG
    have H0G : H G = none := by
      cases q : H G with
      | none => rfl
      | some o =>
        by_cases hm : ∀ z ∈ ([(S, .lst (sites.map V.str)), (p, .lst (ds4.map V.int))] : List (Addr × HO)), z.1 ≠ G
        · have := x4.fr G o q hm
          rw [nG] at this
          cases this
        · exact absurd (fun z hz => ne_of_none (x4.at_ z hz) nG) hm
    have okG : ∀ x ∈ nmL c3 (1 + c4), PyData.strOk x = true := nmL_ok
    have nG4 : (nmL c3 (1 + c4)).length ≤ 4 := by rw [nmL_len]; omega
    have dG : (nmL c3 (1 + c4)).Nodup := by
      unfold nmL
      refine List.pairwise_map.mpr ((List.nodup_range (n := 1 + c4)).imp_of_mem fun {a b} ha hb ne e => ne ?_)
      exact nm_inj (by omega) (List.mem_range.mp ha) (List.mem_range.mp hb) e
    clear x2 x3 x4
    generalize nmL c3 (1 + c4) = goods at *
    -- homes, copies
    refine fun hd' nh => ?_
    have x6 := x5.push (o := .dK []) nh
    refine fun cd nc => ?_
    have x7 := x6.push (o := .dT []) nc
    have H0h := x5.fresh nh
    have H0c := x6.fresh nc
    refine ⟨_, rfl, G, rfl, ⟨_, SqL.of (x7.get 2 rfl)⟩, ?_⟩
    refine for_list (K := K) (a := G) (xs := goods.map V.str) (fun j σ H3 => ∃ ds kh kc hm u v, σ = [some (.ref p), some (.int (n : Nat)), some (.bl b), some (.ref S), some (.ref G), some (.ref hd'), some (.ref cd), u, v, none, none, none, none, none, none, none] ∧
        Hx H H3 [(cd, .dT kc), (hd', .dK kh), (G, .lst (goods.map V.str)), (S, .lst (sites.map V.str)), (p, .lst (ds.map V.int))] ∧ Dr ds ∧ HmOk (goods.take j) sites kh hm ∧ kh.length ≤ j ∧ (∀ i ∈ goods.take j, ∀ s ∈ sites, valV kc (k2 i s) = some (.int 0)) ∧ kc.length ≤ 3 * j)
      ?_ (fun j σ H3 _ ⟨_, _, _, _, _, _, _, x, _⟩ => SqL.of (x.get 2 rfl)) ?_ ?_
    · exact ⟨ds4, [], [], fun _ => Str.empty, none, none, rfl, x7, hd4, ⟨fun i h => (by rw [List.take_zero] at h; cases h), fun i h => (by rw [List.take_zero] at h; cases h)⟩, Nat.le_refl _, fun i h => (by rw [List.take_zero] at h; cases h), Nat.le_refl _⟩
    · rintro j y σ H3 hj ⟨ds, kh, kc, hm, u, v, rfl, x8, hdr, ho, hkl, hc0, hcl⟩
      obtain ⟨g, hg, rfl⟩ : ∃ g, goods[j]? = some g ∧ y = .str g := by
        rw [List.getElem?_map] at hj
        cases e : goods[j]? with
        | none => rw [e] at hj; cases hj
        | some x => rw [e] at hj; exact ⟨x, rfl, (Option.some.inj hj).symm⟩
      have jl := (List.getElem?_eq_some_iff.mp hg).1
      have eT : goods.take (j + 1) = goods.take j ++ [g] := by rw [List.take_add_one, hg]; rfl
      refine ⟨_, rfl, _, rfl, _, rfl, S, _, rfl, .inl (SqL.of (x8.get 3 rfl)), p, ds, _, rfl, x8.get 4 rfl, hdr, by rw [List.length_map]; omega, fun d ds' d0 dl hdr' _ => ?_⟩
      obtain ⟨c, rfl⟩ := Int.eq_ofNat_of_zero_le d0
      rw [List.length_map] at dl
      have cl : c < sites.length := by omega
      have x9 := x8.set (o' := .lst (ds'.map V.int)) 4 rfl
      refine ⟨S, _, _, .str sites[c], rfl, rfl, SqL.of (x9.get 3 rfl), atI_nat (by rw [List.getElem?_map, List.getElem?_eq_getElem cl]; rfl), ?_⟩
      refine ⟨_, rfl, _, rfl, hd', _, rfl, DPut.k (k := Sum.inr g) (x9.get 1 rfl) (size_ok (m := 100) (by omega) (by decide)), ?_⟩
      have x10 := x9.set (o' := .dK (putK kh (Sum.inr g) (.str sites[c]))) 1 rfl
      generalize upd (upd H3 p (.lst (ds'.map V.int))) hd' (.dK (putK kh (Sum.inr g) (.str sites[c]))) = H4 at x10
      clear x9 x8
      refine ⟨_, rfl, S, rfl, ⟨_, SqL.of (x10.get 3 rfl)⟩, ?_⟩
      refine for_list (K := K) (a := S) (xs := sites.map V.str) (fun i σ H5 => ∃ kc' v, σ = [some (.ref p), some (.int (n : Nat)), some (.bl b), some (.ref S), some (.ref G), some (.ref hd'), some (.ref cd), some (.str g), v, none, none, none, none, none, none, none] ∧
          Hx H H5 [(cd, .dT kc'), (hd', .dK (putK kh (Sum.inr g) (.str sites[c]))), (G, .lst (goods.map V.str)), (S, .lst (sites.map V.str)), (p, .lst (ds'.map V.int))] ∧
          (∀ i ∈ goods.take j, ∀ s ∈ sites, valV kc' (k2 i s) = some (.int 0)) ∧ (∀ s ∈ sites.take i, valV kc' (k2 g s) = some (.int 0)) ∧ kc'.length ≤ 3 * j + i)
        ?_ (fun i σ H5 _ ⟨_, _, _, x, _⟩ => SqL.of (x.get 3 rfl)) ?_ ?_
      · exact ⟨kc, v, rfl, x10, hc0, fun s h => (by rw [List.take_zero] at h; cases h), by omega⟩
      · rintro i y σ H5 hi ⟨kc', v, rfl, x11, hc1, hc2, hcl'⟩
        obtain ⟨s, hs, rfl⟩ : ∃ s, sites[i]? = some s ∧ y = .str s := by
          rw [List.getElem?_map] at hi
          cases e : sites[i]? with
          | none => rw [e] at hi; cases hi
          | some x => rw [e] at hi; exact ⟨x, rfl, (Option.some.inj hi).symm⟩
        have il := (List.getElem?_eq_some_iff.mp hs).1
        refine ⟨_, rfl, _, rfl, _, rfl, (show 2 ≤ sizeLine by decide), fun T1 n1 => ?_⟩
        have x12 := x11.new (o := .tup [V.str g, .str s]) n1
        refine ⟨cd, _, rfl, DPut.t (k := k2 g s) (x12.get 0 rfl) upd_same (size_ok (m := 100) (by omega) (by decide)), ?_⟩
        have x13 := x12.set (o' := .dT (putK kc' (k2 g s) (.int 0))) 0 rfl
        refine ⟨putK kc' (k2 g s) (.int 0), _, rfl, x13, fun i' h s' h' => ?_, fun s' h' => ?_, ?_⟩
        · rw [valV_put]
          split
          · rfl
          · exact hc1 i' h s' h'
        · rw [valV_put]
          split
          · rfl
          · rename_i ne
            rw [List.take_add_one, hs] at h'
            rcases List.mem_append.mp h' with h' | h'
            · exact hc2 s' h'
            · have : s' = s := by simpa using h'
              exact absurd (by rw [this]) ne
        · have := putK_len kc' (k2 g s) (.int 0)
          omega
      · rintro σ H5 ⟨kc', v, rfl, x11, hc1, hc2, hcl'⟩
        rw [List.length_map] at hc2 hcl'
        rw [List.take_length] at hc2
        refine ⟨ds', _, kc', (fun i => if i = g then sites[c] else hm i), _, _, rfl, x11, hdr', ?_, ?_, ?_, by omega⟩
        · refine ⟨fun i hi => ?_, fun i hi => ?_⟩
          · rw [valV_put]
            by_cases e : i = g
            · rw [if_pos (by rw [e]), if_pos e]
            · rw [if_neg (fun h => e (Sum.inr.inj h)), if_neg e]
              rw [eT] at hi
              rcases List.mem_append.mp hi with hi | hi
              · exact ho.val i hi
              · exact absurd (by simpa using hi) e
          · show (if i = g then sites[c] else hm i) ∈ sites
            by_cases e : i = g
            · rw [if_pos e]; exact List.getElem_mem cl
            · rw [if_neg e]
              rw [eT] at hi
              rcases List.mem_append.mp hi with hi | hi
              · exact ho.mem i hi
              · exact absurd (by simpa using hi) e
        · have := putK_len kh (Sum.inr g) (.str sites[c])
          omega
        · intro i hi s hs
          rw [eT] at hi
          rcases List.mem_append.mp hi with hi | hi
          · exact hc1 i hi s hs
          · have : i = g := by simpa using hi
            rw [this]
            exact hc2 s hs
    · rintro σ H3 ⟨ds, kh, kc, hm, u, v, rfl, x8, hdr, ho, hkl, hc0, hcl⟩
      rw [List.length_map, List.take_length] at ho hc0
      rw [List.length_map] at hkl hcl
      walk_at "go"
      refine fun L nL => ?_
      have H0L : H L = none := by
        cases q : H L with
        | none => rfl
        | some o =>
          have := x8.fr L o q fun z hz => ne_of_none (x8.at_ z hz) nL
          rw [nL] at this
          cases this
      have x9 := x8.push (o := .lst []) nL
      have c0 : CpOk goods sites kc (fun _ _ => 0) := ⟨hc0, by omega⟩
      refine ⟨_, rfl, _, rfl, by omega, by omega, ?_⟩
      refine for_range (n := n) (fun k σ H4 => ∃ ds kc cp vs hs u7 u8 u10 u11 u12 u13 u14 u15, σ = [some (.ref p), some (.int (n : Nat)), some (.bl b), some (.ref S), some (.ref G), some (.ref hd'), some (.ref cd), u7, u8, some (.ref L), u10, u11, u12, u13, u14, u15] ∧
          Hx H H4 [(L, .lst vs), (cd, .dT kc), (hd', .dK kh), (G, .lst (goods.map V.str)), (S, .lst (sites.map V.str)), (p, .lst (ds.map V.int))] ∧ Dr ds ∧ CpOk goods sites kc cp ∧ Pw (EnA (cut H4 [L, cd, hd', G, S, p])) vs hs ∧ HI b goods sites hm hs cp ∧ hs.length = k)
        ⟨ds, kc, _, [], [], _, _, _, _, _, _, _, _, rfl, x9, hdr, c0, Pw.nil, ⟨fun _ _ _ _ => Int.le_refl _, fun _ _ => rfl, ⟨fun _ _ _ h => (by simp at h), fun _ _ _ h => (by simp at h)⟩, fun _ _ _ _ => Int.le_refl _, ⟨fun _ h => (by cases h), fun _ h => (by cases h), fun _ _ _ _ _ h => (by simp at h)⟩, fun _ h => (by cases h), fun _ h => (by cases h)⟩, rfl⟩ ?_ ?_
      · rintro k σ H4 hk ⟨ds, kc, cp, vs, hs, u7, u8, u10, u11, u12, u13, u14, u15, rfl, x10, hdr, co, pe, hi, hsl⟩
        refine ⟨_, rfl, _, rfl, _, rfl, S, _, rfl, .inl (SqL.of (x10.get 4 rfl)), p, ds, _, rfl, x10.get 5 rfl, hdr, by rw [List.length_map]; omega, fun d ds' d0 dl hdr' _ => ?_⟩
        obtain ⟨c, rfl⟩ := Int.eq_ofNat_of_zero_le d0
        rw [List.length_map] at dl
        have cl : c < sites.length := by omega
        have x11 := x10.set (o' := .lst (ds'.map V.int)) 5 rfl
        refine ⟨S, _, _, .str sites[c], rfl, rfl, SqL.of (x11.get 4 rfl), atI_nat (by rw [List.getElem?_map, List.getElem?_eq_getElem cl]; rfl), ?_⟩
        have pe2 : Pw (EnA (cut (upd H4 p (.lst (ds'.map V.int))) [L, cd, hd', G, S, p])) vs hs := by rw [cut_upd (by simp)]; exact pe
        have sm : sites[c] ∈ sites := List.getElem_mem cl
        generalize sites[c] = site at sm ⊢
        generalize upd H4 p (.lst (ds'.map V.int)) = H5 at *
        walk_at "go"
        refine fun R nR => ?_
        have x12 := x11.push (o := .lst []) nR
        have pe3 := pe2.mono fun v x => stEn _ _ v x (cut_push (o := .lst []) nR)
        walk_at "go"
        refine fun W nW => ?_
        have x13 := x12.push (o := .lst []) nW
        have pe4 := pe3.mono fun v x => stEn _ _ v x (cut_push (o := .lst []) nW)
        have H0R := x11.fresh nR
        have H0W := x12.fresh nW
        generalize upd (upd H5 R (.lst [])) W (.lst []) = H6 at *
        clear x12 pe3
        refine ⟨_, rfl, G, rfl, ⟨_, SqL.of (x13.get 5 rfl)⟩, ?_⟩
        refine for_list (K := K) (a := G) (xs := goods.map V.str) (fun i σ H7 => ∃ ds kc rs ws rd wr cp' u7 u13 u14 u15, σ = [some (.ref p), some (.int (n : Nat)), some (.bl b), some (.ref S), some (.ref G), some (.ref hd'), some (.ref cd), u7, some (.str site), some (.ref L), some (.int (0 + (k : Int))), some (.ref R), some (.ref W), u13, u14, u15] ∧
            Hx H H7 [(W, .lst ws), (R, .lst rs), (L, .lst vs), (cd, .dT kc), (hd', .dK kh), (G, .lst (goods.map V.str)), (S, .lst (sites.map V.str)), (p, .lst (ds.map V.int))] ∧ Dr ds ∧ CpOk goods sites kc cp' ∧
            Pw (PrA (cut H7 [W, R, L, cd, hd', G, S, p])) rs rd ∧ Pw (PrA (cut H7 [W, R, L, cd, hd', G, S, p])) ws wr ∧ Pw (EnA (cut H7 [W, R, L, cd, hd', G, S, p])) vs hs ∧ IL b (goods.take i) goods hm site cp rd wr cp')
          ?_ (fun j σ H3 _ ⟨_, _, _, _, _, _, _, _, _, _, _, _, x, _⟩ => SqL.of (x.get 5 rfl)) ?_ ?_
        · refine ⟨ds', kc, [], [], [], [], cp, _, _, _, _, rfl, x13, hdr', co, Pw.nil, Pw.nil, pe4, ⟨fun g hg => hi.lo g hg site sm, fun _ h => (by cases h), fun _ h => (by cases h), fun _ h => (by cases h), List.Pairwise.nil, List.Pairwise.nil, Nat.zero_le _, Nat.zero_le _, fun _ _ _ => rfl, fun g hg => hi.gap g hg site sm, fun _ _ _ => rfl⟩⟩
        · rintro i y σ H7 hj ⟨ds, kc, rs, ws, rd, wr, cp', u7, u13, u14, u15, rfl, x14, hdr, co, pr, pw, pe, il⟩
          obtain ⟨g, hg, rfl⟩ : ∃ g, goods[i]? = some g ∧ y = .str g := by
            rw [List.getElem?_map] at hj
            cases e : goods[i]? with
            | none => rw [e] at hj; cases hj
            | some x => rw [e] at hj; exact ⟨x, rfl, (Option.some.inj hj).symm⟩
          have gm := List.mem_of_getElem? hg
          have jl := (List.getElem?_eq_some_iff.mp hg).1
          have eT : goods.take (i + 1) = goods.take i ++ [g] := by rw [List.take_add_one, hg]; rfl
          have ng : g ∉ goods.take i := fun h => by
            have := List.nodup_append.mp (by rw [← eT]; exact dG.sublist (List.take_sublist _ _) : (goods.take i ++ [g]).Nodup)
            exact this.2.2 g h g (List.mem_singleton.mpr rfl) rfl
          refine ⟨_, rfl, p, ds, 1000, rfl, x14.get 7 rfl, hdr, by decide, fun dw ds2 dw0 dwl hdr2 _ => ?_⟩
          have x15 := x14.set (o' := .lst (ds2.map V.int)) 7 rfl
          have pr2 := pr; have pw2 := pw; have pe5 := pe
          rw [← cut_upd (H := H7) (a := p) (o := .lst (ds2.map V.int)) (by simp)] at pr2 pw2 pe5
          generalize upd H7 p (.lst (ds2.map V.int)) = H8 at *
          clear pr pw pe x14
          have q0 : P3 H8 [W, R, L, cd, hd', G, S, p] rs rd ws wr vs hs := ⟨pr2, pw2, pe5⟩
          clear pr2 pw2 pe5
          -- gap
          refine ⟨_, rfl, _, rfl, _, rfl, _, rfl, hd', .str (hm g), rfl, ?_, (show 2 ≤ sizeLine by decide), fun T1 n1 => ?_⟩
          · have z := DGet.k (k := Sum.inr g) (x15.get 4 rfl)
            rw [ho.val g gm] at z
            exact z
          have x16 := x15.new (o := .tup [V.str g, .str (hm g)]) n1
          have q1 := q0.new (o := .tup [V.str g, .str (hm g)]) n1
          refine ⟨cd, .int (cp' g (hm g)), rfl, co.get (x16.get 3 rfl) upd_same gm (ho.mem g gm), ?_⟩
          generalize upd H8 T1 (.tup [V.str g, .str (hm g)]) = H9 at x16 q1 ⊢
          clear x15 q0
          refine ⟨_, rfl, _, rfl, _, rfl, (show 2 ≤ sizeLine by decide), fun T2 n2 => ?_⟩
          have x17 := x16.new (o := .tup [V.str g, .str site]) n2
          have q2 := q1.new (o := .tup [V.str g, .str site]) n2
          refine ⟨cd, .int (cp' g site), rfl, co.get (x17.get 3 rfl) upd_same gm sm, _, _, rfl, rfl, ?_⟩
          generalize upd H9 T2 (.tup [V.str g, .str site]) = H10 at x17 q2 ⊢
          clear x16 q1
          have hgap : 0 ≤ cp' g (hm g) - cp' g site := by
            by_cases e : hm g = site
            · rw [e]; omega
            · have h1 := il.far g (hm g) e
              have h2 := il.top g gm
              omega
          refine ⟨fun σ H11 => ∃ kc v, σ = [some (.ref p), some (.int (n : Nat)), some (.bl b), some (.ref S), some (.ref G), some (.ref hd'), some (.ref cd), some (.str g), some (.str site), some (.ref L), some (.int (0 + (k : Int))), some (.ref R), some (.ref W), some (.int dw), some (.int (cp' g (hm g) - cp' g site)), u15] ∧
              Hx H H11 [(W, .lst ws), (R, .lst rs), (L, .lst vs), (cd, .dT kc), (hd', .dK kh), (G, .lst (goods.map V.str)), (S, .lst (sites.map V.str)), (p, .lst (ds2.map V.int))] ∧ P3 H11 [W, R, L, cd, hd', G, S, p] rs rd ws wr vs hs ∧ CpOk goods sites kc (cpSet cp' g site v) ∧ cp' g site ≤ v ∧ v ≤ cp' g (hm g) ∧ (b = true → v = cp' g (hm g)), ?_, ?_⟩
          · refine ⟨_, rfl, b, rfl, ?_⟩
            cases b with
            | true =>
              refine iteT ?_
              refine ⟨_, rfl, _, rfl, _, rfl, (show 2 ≤ sizeLine by decide), fun T3 n3 => ?_⟩
              have x18 := x17.new (o := .tup [V.str g, .str site]) n3
              have q3 := q2.new (o := .tup [V.str g, .str site]) n3
              refine ⟨cd, .int (cp' g site), rfl, co.get (x18.get 3 rfl) upd_same gm sm, ?_⟩
              generalize upd H10 T3 (.tup [V.str g, .str site]) = H11 at x18 q3 ⊢
              refine ⟨_, rfl, _, _, rfl, rfl, _, rfl, _, rfl, _, rfl, (show 2 ≤ sizeLine by decide), fun T4 n4 => ?_⟩
              have x19 := x18.new (o := .tup [V.str g, .str site]) n4
              have q4 := q3.new (o := .tup [V.str g, .str site]) n4
              refine ⟨cd, _, rfl, DPut.t (k := k2 g site) (x19.get 3 rfl) upd_same (size_ok (m := 200) (by have := co.len; omega) (by decide)), ?_⟩
              exact ⟨_, _, rfl, x19.set 3 rfl, q4.set (by simp), co.put gm sm _, by omega, by omega, fun _ => by omega⟩
            | false =>
              refine iteF ?_
              refine ⟨_, rfl, _, rfl, _, rfl, (show 2 ≤ sizeLine by decide), fun T3 n3 => ?_⟩
              have x18 := x17.new (o := .tup [V.str g, .str site]) n3
              have q3 := q2.new (o := .tup [V.str g, .str site]) n3
              refine ⟨cd, .int (cp' g site), rfl, co.get (x18.get 3 rfl) upd_same gm sm, ?_⟩
              generalize upd H10 T3 (.tup [V.str g, .str site]) = H11 at x18 q3 ⊢
              have hm0 : 0 ≤ (dw.fdiv 4).fmod (cp' g (hm g) - cp' g site + 1) := fm_nonneg _ (by omega)
              have hm1 : (dw.fdiv 4).fmod (cp' g (hm g) - cp' g site + 1) < cp' g (hm g) - cp' g site + 1 := fm_lt _ (by omega)
              refine ⟨_, rfl, _, _, rfl, rfl, ⟨by decide, by decide⟩, .inl ⟨_, rfl, ?_⟩⟩
              refine ⟨_, rfl, _, _, rfl, rfl, _, _, rfl, rfl, (by show cp' g (hm g) - cp' g site + 1 ≠ 0; omega), _, _, rfl, rfl, ?_⟩
              refine ⟨_, rfl, _, rfl, _, rfl, (show 2 ≤ sizeLine by decide), fun T4 n4 => ?_⟩
              have x19 := x18.new (o := .tup [V.str g, .str site]) n4
              have q4 := q3.new (o := .tup [V.str g, .str site]) n4
              refine ⟨cd, _, rfl, DPut.t (k := k2 g site) (x19.get 3 rfl) upd_same (size_ok (m := 200) (by have := co.len; omega) (by decide)), ?_⟩
              exact ⟨_, _, rfl, x19.set 3 rfl, q4.set (by simp), co.put gm sm _, by omega, by omega, fun h => (by cases h)⟩
          · rintro σ H11 ⟨kc2, v, rfl, x18, q3, co2, hv1, hv2, hvb⟩
            clear x17 q2 co
            have hrs : rs.length ≤ 4 := by
              have h1 := q3.r.len
              have h2 := il.rl
              rw [List.length_take] at h2
              omega
            have cpv : cpSet cp' g site v g site = v := if_pos ⟨rfl, rfl⟩
            -- reads
            refine ⟨fun σ H12 => ∃ rs rd2, σ = [some (.ref p), some (.int (n : Nat)), some (.bl b), some (.ref S), some (.ref G), some (.ref hd'), some (.ref cd), some (.str g), some (.str site), some (.ref L), some (.int (0 + (k : Int))), some (.ref R), some (.ref W), some (.int dw), some (.int (cp' g (hm g) - cp' g site)), u15] ∧
              Hx H H12 [(W, .lst ws), (R, .lst rs), (L, .lst vs), (cd, .dT kc2), (hd', .dK kh), (G, .lst (goods.map V.str)), (S, .lst (sites.map V.str)), (p, .lst (ds2.map V.int))] ∧ P3 H12 [W, R, L, cd, hd', G, S, p] rs rd2 ws wr vs hs ∧ (rd2 = rd ∨ rd2 = rd ++ [(g, v)]), ?_, ?_⟩
            · refine ⟨_, rfl, .inl ⟨_, rfl, ?_⟩⟩
              refine ⟨_, _, rfl, rfl, (by show (2 : Int) ≠ 0; decide), rfl, _, rfl, ?_⟩
              refine ite2 (fun _ => ?_) (fun _ => ?_)
              · refine ⟨_, rfl, .inl ⟨rfl, _, SqL.of (x18.get 1 rfl)⟩, ?_⟩
                refine ⟨_, rfl, _, rfl, _, rfl, _, rfl, (show 2 ≤ sizeLine by decide), fun T5 n5 => ?_⟩
                have x19 := x18.new (o := .tup [V.str g, .str site]) n5
                have q4 := q3.new (o := .tup [V.str g, .str site]) n5
                refine ⟨cd, .int v, rfl, (by have z := co2.get (x19.get 3 rfl) upd_same gm sm; rw [cpv] at z; exact z), (show 2 ≤ sizeLine by decide), fun T6 n6 => ?_⟩
                have x20 := x19.new (o := .tup [V.str g, .int v]) n6
                have q5 := q4.new (o := .tup [V.str g, .int v]) n6
                refine ⟨R, _, _, rfl, rfl, x20.get 1 rfl, size_ok (m := 200) (by omega) (by decide), ?_⟩
                exact ⟨_, _, rfl, x20.set 1 rfl, q5.appR (y := (g, v)) (by simp) (x19.out n6) upd_same, .inr rfl⟩
              · exact ⟨rs, rd, rfl, x18, q3, .inl rfl⟩
            · rintro σ H12 ⟨rs2, rd2, rfl, x19, q4, hrd⟩
              have hws : ws.length ≤ 4 := by
                have h1 := q4.w.len
                have h2 := il.wl
                rw [List.length_take] at h2
                omega
              refine ⟨_, rfl, _, rfl, hd', .str (hm g), rfl, ?_, _, rfl, rfl, _, rfl, ?_⟩
              · have z := DGet.k (k := Sum.inr g) (x19.get 4 rfl)
                rw [ho.val g gm] at z
                exact z
              refine ite2 (fun c1 => ?_) (fun c1 => ?_)
              · have hsite : hm g = site := V.str.inj (of_decide_eq_true c1)
                refine ⟨_, rfl, _, _, rfl, rfl, ⟨by decide, by decide⟩, .inl ⟨_, rfl, ?_⟩⟩
                refine ⟨_, _, rfl, rfl, (by show (2 : Int) ≠ 0; decide), rfl, _, rfl, ?_⟩
                refine ite2 (fun _ => ?_) (fun _ => ?_)
                · refine ⟨_, rfl, .inl ⟨rfl, _, SqL.of (x19.get 0 rfl)⟩, ?_⟩
                  refine ⟨_, rfl, _, rfl, _, rfl, _, rfl, (show 2 ≤ sizeLine by decide), fun T5 n5 => ?_⟩
                  have x20 := x19.new (o := .tup [V.str g, .str site]) n5
                  have q5 := q4.new (o := .tup [V.str g, .str site]) n5
                  refine ⟨cd, .int v, rfl, (by have z := co2.get (x20.get 3 rfl) upd_same gm sm; rw [cpv] at z; exact z), _, _, rfl, rfl, (show 2 ≤ sizeLine by decide), fun T6 n6 => ?_⟩
                  have x21 := x20.new (o := .tup [V.str g, .int (v + 1)]) n6
                  have q6 := q5.new (o := .tup [V.str g, .int (v + 1)]) n6
                  refine ⟨W, _, _, rfl, rfl, x21.get 0 rfl, size_ok (m := 200) (by omega) (by decide), ?_⟩
                  have q7 := q6.appW (a := W) (y := (g, v + 1)) (by simp) (x20.out n6) upd_same
                  refine ⟨ds2, kc2, rs2, _, rd2, _, cpSet cp' g site v, _, _, _, _, rfl, x21.set 0 rfl, hdr2, co2, q7.r, q7.w, q7.h, ?_⟩
                  rw [eT]
                  exact il.step gm ng hv1 hv2 hvb hrd (.inr ⟨rfl, hsite⟩)
                · refine ⟨ds2, kc2, rs2, ws, rd2, wr, cpSet cp' g site v, _, _, _, _, rfl, x19, hdr2, co2, q4.r, q4.w, q4.h, ?_⟩
                  rw [eT]
                  exact il.step gm ng hv1 hv2 hvb hrd (.inl rfl)
              · refine ⟨ds2, kc2, rs2, ws, rd2, wr, cpSet cp' g site v, _, _, _, _, rfl, x19, hdr2, co2, q4.r, q4.w, q4.h, ?_⟩
                rw [eT]
                exact il.step gm ng hv1 hv2 hvb hrd (.inl rfl)
        · rintro σ H7 ⟨ds2, kc2, rs, ws, rd, wr, cp', u7, u13, u14, u15, rfl, x14, hdr2, co2, pr, pw, pe5, il⟩
          rw [List.length_map, List.take_length] at il
          have q0 : P3 H7 [W, R, L, cd, hd', G, S, p] rs rd ws wr vs hs := ⟨pr, pw, pe5⟩
          clear pr pw pe5 co x13 pe4
          refine ⟨_, rfl, W, rfl, ⟨_, SqL.of (x14.get 0 rfl)⟩, ?_⟩
          refine for_list (K := K) (a := W) (xs := ws) (fun j σ H8 => ∃ kc u7 u15, σ = [some (.ref p), some (.int (n : Nat)), some (.bl b), some (.ref S), some (.ref G), some (.ref hd'), some (.ref cd), u7, some (.str site), some (.ref L), some (.int (0 + (k : Int))), some (.ref R), some (.ref W), u13, u14, u15] ∧
              Hx H H8 [(W, .lst ws), (R, .lst rs), (L, .lst vs), (cd, .dT kc), (hd', .dK kh), (G, .lst (goods.map V.str)), (S, .lst (sites.map V.str)), (p, .lst (ds2.map V.int))] ∧ P3 H8 [W, R, L, cd, hd', G, S, p] rs rd ws wr vs hs ∧ CpOk goods sites kc ((wr.take j).foldl (fun c x => cpSet c x.1 site x.2) cp'))
            ?_ (fun j σ H3 _ ⟨_, _, _, _, x, _⟩ => SqL.of (x.get 0 rfl)) ?_ ?_
          · exact ⟨kc2, _, _, rfl, x14, q0, by rw [List.take_zero]; exact co2⟩
          · rintro j y σ H8 hj ⟨kc3, u7, u15, rfl, x15, q1, co3⟩
            obtain ⟨x, hx, tx, rfl, htx⟩ := q1.w.get hj
            have xm := List.mem_of_getElem? hx
            obtain ⟨w1, w2, w3⟩ := il.wi x xm
            refine ⟨tx, _, rfl, .inl (.inl (cut_all _ _ htx)), rfl, _, _, rfl, _, _, rfl, rfl, ?_⟩
            refine ⟨_, rfl, _, rfl, _, rfl, _, rfl, (show 2 ≤ sizeLine by decide), fun T1 n1 => ?_⟩
            have x16 := x15.new (o := .tup [V.str x.1, .str site]) n1
            have q2 := q1.new (o := .tup [V.str x.1, .str site]) n1
            refine ⟨cd, _, rfl, DPut.t (k := k2 x.1 site) (x16.get 3 rfl) upd_same (size_ok (m := 200) (by have := co3.len; omega) (by decide)), ?_⟩
            refine ⟨_, _, _, rfl, x16.set 3 rfl, q2.set (by simp), ?_⟩
            rw [List.take_add_one, hx, List.foldl_append]
            exact co3.put w1 sm _
          · rintro σ H8 ⟨kc3, u7, u15, rfl, x15, q1, co3⟩
            rw [q1.w.len, List.take_length] at co3
            refine ⟨_, rfl, .inl ⟨rfl, _, SqL.of (x15.get 2 rfl)⟩, ?_⟩
            refine ⟨_, rfl, _, rfl, _, rfl, (show 3 ≤ sizeLine by decide), fun T1 n1 => ?_⟩
            have x16 := x15.new (o := .tup [V.str site, .ref R, .ref W]) n1
            have q2 := q1.new (o := .tup [V.str site, .ref R, .ref W]) n1
            refine ⟨L, _, _, rfl, rfl, x16.get 2 rfl, size_ok (m := 200) (by have := q1.h.len; omega) (by decide), ?_⟩
            have x17 := x16.set (o' := .lst (vs ++ [.ref T1])) 2 rfl
            have q3 := q2.set (a := L) (o := .lst (vs ++ [.ref T1])) (by simp)
            have nW := (List.nodup_cons.mp x17.nd)
            have nR := (List.nodup_cons.mp nW.2)
            have oT := x15.out n1
            have zz : Same (cut (upd (upd H8 T1 (.tup [V.str site, .ref R, .ref W])) L (.lst (vs ++ [.ref T1]))) [W, R, L, cd, hd', G, S, p]) (cut (upd (upd H8 T1 (.tup [V.str site, .ref R, .ref W])) L (.lst (vs ++ [.ref T1]))) [L, cd, hd', G, S, p]) := cut_pop.trans cut_pop
            refine ⟨ds2, kc3, _, vs ++ [V.ref T1], hs ++ [(site, rd, wr)], _, _, _, _, _, _, _, _, rfl, (x17.pop H0W).pop H0R, hdr2, co3, ?_, ?_, by simp [hsl]⟩
            · refine (q3.h.mono fun v x => stEn _ _ v x zz).snoc ⟨T1, R, W, rfl, ?_, ⟨rs, ?_, q3.r.mono fun v x => stPr _ _ v x zz⟩, ⟨ws, ?_, q3.w.mono fun v x => stPr _ _ v x zz⟩⟩
              · rw [cut_upd (by simp), cut_out (A := [L, cd, hd', G, S, p]) (fun h => oT (List.mem_cons_of_mem _ (List.mem_cons_of_mem _ h))), upd_same]
              · rw [cut_out (A := [L, cd, hd', G, S, p]) (fun h => nR.1 h)]; exact x17.get 1 rfl
              · rw [cut_out (A := [L, cd, hd', G, S, p]) (fun h => nW.1 (List.mem_cons_of_mem _ h))]; exact x17.get 0 rfl
            · exact HI.step hi il nG4 sm
      · rintro σ H4 ⟨ds, kc, cp, vs, hs, u7, u8, u10, u11, u12, u13, u14, u15, rfl, x10, hdr, co, pe, hi, hsl⟩
        walk_at "go"
        have hL4 := x10.get 0 rfl
        refine kQ L H4 hs ds (fun a o ha na => ?_) (x10.get 5 rfl) hdr ⟨vs, hL4, pe.mono fun v x => stEn _ _ v x cut_all⟩ hi.ok hi.hw hsl (fun e he => ?_)
        · refine x10.fr a o ha fun z hz => ?_
          have nn : ∀ b, H b = none → b ≠ a := fun b hb e => by rw [e, ha] at hb; cases hb
          simp only [List.mem_cons, List.not_mem_nil, or_false] at hz
          rcases hz with rfl | rfl | rfl | rfl | rfl | rfl
          · exact nn _ H0L
          · exact nn _ H0c
          · exact nn _ H0h
          · exact nn _ H0G
          · exact nn _ H0S
          · exact Ne.symm na
        · obtain ⟨r1, r2, r3, r4, r5⟩ := hi.rg e he
          exact ⟨r1, r2, fun x hx => okG _ (r3 x hx), fun x hx => okG _ (r4 x hx), okS _ r5⟩
end


/-! ### serial_order -/
abbrev sSer : Stmt := (top 10)
theorem scSer : FnScope ["history", "found", "left", "order", "blocked", "row", "free", "program"] ["history"] (defScope sSer) := ⟨rfl, rfl, rfl, by decide +kernel, rfl, by decide +kernel, by decide +kernel⟩
/-- p is linked to by one that is left -/
def blkd (F : List Rw) (left : List Nat) (p : Nat) : Bool := F.any fun r => decide (r.1 ∈ left) && decide (r.2.1 = p)
def freeL (F : List Rw) (left : List Nat) : List Nat := left.filter fun p => !blkd F left p
def ser (F : List Rw) : Nat → List Nat → List Nat → Option (List Nat)
  | _, [], o => some o
  | 0, _ :: _, _ => none
  | n + 1, a :: l, o => match freeL F (a :: l) with
    | [] => none
    | p :: _ => ser F n ((a :: l).erase p) (o ++ [p])
theorem blkd_snoc (F : List Rw) (r : Rw) (left : List Nat) (p : Nat) : blkd (F ++ [r]) left p = (blkd F left p || (decide (r.1 ∈ left) && decide (r.2.1 = p))) := by
  unfold blkd
  rw [List.any_append, List.any_cons, List.any_nil, Bool.or_false]
theorem first_of (left : List Nat) {p : Nat} (h : p ∈ left) : ∃ j : Nat, left[j]? = some p ∧ (∀ m : Nat, m < j → left[m]? ≠ some p) ∧ left.eraseIdx j = left.erase p := by
  induction left with
  | nil => cases h
  | cons a l ih =>
    by_cases e : a = p
    · subst e
      exact ⟨0, rfl, fun m hm => absurd hm (Nat.not_lt_zero _), by rw [List.erase_cons_head]; rfl⟩
    · have hl : p ∈ l := by
        rcases List.mem_cons.mp h with h | h
        · exact absurd h.symm e
        · exact h
      obtain ⟨j, h1, h2, h3⟩ := ih hl
      refine ⟨j + 1, h1, fun m hm => ?_, ?_⟩
      · cases m with
        | zero => exact fun q => e (Option.some.inj q)
        | succ m => exact h2 m (by omega)
      · rw [List.erase_cons_tail (by simpa using e), ← h3]
        rfl
def spSer (CO : Addr) (spR : Sp) : Sp := fun vs H Q E => ∃ (a : Addr) (hs : List Ent), vs = [.ref a] ∧ HsA H a hs ∧ hs.length ≤ 100 ∧ (∀ e ∈ hs, e.2.1.length ≤ 30 ∧ e.2.2.length ≤ 30) ∧
  (∀ o (l : Addr) (H' : Hp), ser (M.asc (ltA rwD) (lnk hs)) hs.length (List.range hs.length) [] = some o → H l = none → Same H H' → H' l = some (.lst ((zL o).map V.int)) → Q (.ref l) H') ∧
  (∀ (fa : Addr) (H' : Hp), ser (M.asc (ltA rwD) (lnk hs)) hs.length (List.range hs.length) [] = none → Same H H' → LsA RwA H' fa (M.asc (ltA rwD) (lnk hs)) → spR [.int (hs.length : Nat), .ref fa] H' (fun v H'' => Rz E CO H'' [("ring", v)]) E)
section
variable {P : Program} {w : World} {K : PySem.W.Frag} {mg : Str → Option Value} {base : Heap}
theorem ok_ser {f CO : Addr} {fd : FuncData} {spR : Sp} (F : FnP K "serial_order" sSer f fd) (T : Bj mg) (g_links : Cal P w K mg base 3 "links" ["history"] spLinks) (g_shortest_ring : Cal P w K mg base 3 "shortest_ring" ["many", "found"] spR)
    (hmono : ∀ vs H Q Q' E, (∀ v H', Q v H' → Q' v H') → spR vs H Q E → spR vs H Q' E) (xOutOfOrder : PySem.XEx.XCls P K CO ["ring"] (defArgs sIOutOfOrder) (defBody sIOutOfOrder) (defScope sIOutOfOrder)) (gOutOfOrder : mg "OutOfOrder" = some (.ref CO)) : FnOk P w K mg base (L2.CX P w) 4 f fd ["history"] (spSer CO spR) := by
  refine F.ok scSer (fun vs H Q E h => ?_) (fun cdv A outer s H vs Q E hr h => ?_)
  · obtain ⟨a, hs, rfl, _⟩ := h
    rfl
  · obtain ⟨a, hs, rfl, hH, hz, hb, kQ, kE⟩ := h
    have nd := scSer.nd
    have hu := hu_of hr
    refine ⟨_, (pss_cons (ps_set (i := 1) nd rfl (Or.inl rfl) (pe_cal g_links hr (takes_of rfl rfl rfl rfl) (pa_cons (pv 0) pa_nil)))
      (pss_cons (ps_set (i := 2) nd rfl (Or.inr rfl) (pe_listRg rfl (by rfl) T.list (prg_1 (by rfl) T.range (pe_callB call_len_seq (by rfl) T.len PySem.boot_len (pa_cons (pv 0) pa_nil)))))
      (pss_cons (ps_set (i := 3) nd rfl (Or.inl rfl) (pe_lst pa_nil))
      (pss_cons (ps_while (passes_of rfl) (pt_cmpR op_gt (pe_callB call_len_seq (by rfl) T.len PySem.boot_len (pa_cons (pv 2) pa_nil)) pe_int (nomark _)) (pss_cons (ps_set (i := 4) nd rfl (Or.inr rfl) (pe_dc (own := [("row", 5)]) (g := gName 5) (by rfl) nd (pi_list (pv 1)) (blkOk_by (own := [("row", 5)]) (N := ["history", "found", "left", "order", "blocked", "row", "free", "program"]) (sc := defScope sSer) (by decide +kernel)) (fun _ _ _ _ _ => (pg_name (i := 5) nd rfl (Or.inl rfl))) (fun _ _ _ _ _ => (pts_one (pt_cmpR (show OpR _ _ (rIn K false) from op_in_seq) (pe_ix (show IxR _ (rIxT K) from ix_tup) (pv 5) pe_int (fun _ _ => rfl)) (pv 2) (by rfl)))) (fun _ _ _ _ _ => (pe_ix (show IxR _ (rIxT K) from ix_tup) (pv 5) pe_int (fun _ _ => rfl))) (fun _ _ _ _ _ => pe_bl)))
        (pss_cons (ps_setLc (i := 6) (own := [("program", 7)]) (g := gName 7) (by rfl) nd rfl rfl (sw_true rfl rfl rfl (by decide +kernel)) (pi_list (pv 2)) (blkOk_by (own := [("program", 7)]) (N := ["history", "found", "left", "order", "blocked", "row", "free", "program"]) (sc := defScope sSer) (by decide +kernel)) (fun _ _ _ _ _ => (pg_name (i := 7) nd rfl (Or.inl rfl))) (fun _ _ _ _ _ => (pts_one (pt_cmp (pc_dnotin hu (pv 7) (pv 4))))) (fun _ _ _ _ _ => (pv 7)))
        (pss_cons (ps_if (pt_cmpR op_eq (pe_callB call_len_seq (by rfl) T.len PySem.boot_len (pa_cons (pv 6) pa_nil)) pe_int (nomark _)) (pss_one (ps_raiseX rfl xOutOfOrder iOutOfOrder gOutOfOrder hr (takes_of rfl rfl rfl rfl) (pa_cons (pe_cal g_shortest_ring hr (takes_of rfl rfl rfl rfl) (pa_cons (pe_callB call_len_seq (by rfl) T.len PySem.boot_len (pa_cons (pv 0) pa_nil)) (pa_cons (pv 1) pa_nil))) pa_nil))) pss_nil)
        (pss_cons (ps_expr (pe_bm PySem.F.plainAttrs_list PySem.F.slot_list_append PySem.F.type_list_append mt_append (pv 3) (pa_cons (pe_ix ix_list (pv 6) pe_int (fun _ _ => rfl)) pa_nil)))
        (pss_one (ps_expr (pe_bm PySem.F.plainAttrs_list PySem.F.slot_list_remove PySem.F.type_list_remove mt_remove (pv 2) (pa_cons (pe_ix ix_list (pv 6) pe_int (fun _ _ => rfl)) pa_nil)))))))))
      (pss_one (ps_ret (pv 3))))))), ?_⟩
    refine ⟨_, rfl, a, hs, rfl, hH, hz, hb, fun fa H1 nfa s1 hF => ?_⟩
    obtain ⟨es, he, pe⟩ := hH
    obtain ⟨vF, hvF, pF⟩ := hF
    have eln : es.length = hs.length := pe.len
    refine ⟨_, rfl, a, es, rfl, .inl (SqL.of (s1 _ _ he)), _, rfl, (by refine ⟨?_, ?_⟩ <;> omega), fun L nL => ?_⟩
    rw [show ((es.length : Nat) : Int) = (hs.length : Nat) by rw [eln], zL_rg]
    have x1 := (Hx.refl H1).push (o := .lst ((zL (List.range hs.length)).map V.int)) nL
    walk_at "go"
    refine fun O nO => ?_
    have x2 := x1.push (o := .lst []) nO
    refine ⟨fun m σ H2 => ∃ left o u4 u5 u6 u7, σ = [some (.ref a), some (.ref fa), some (.ref L), some (.ref O), u4, u5, u6, u7] ∧ Hx H1 H2 [(O, .lst ((zL o).map V.int)), (L, .lst ((zL left).map V.int))] ∧
      ser (M.asc (ltA rwD) (lnk hs)) left.length left o = ser (M.asc (ltA rwD) (lnk hs)) hs.length (List.range hs.length) [] ∧ left.length = m ∧ o.length + left.length ≤ 100,
      ⟨hs.length, List.range hs.length, [], none, none, none, none, rfl, x2, by rw [List.length_range], List.length_range, by rw [List.length_range]; simpa using hz⟩, ?_⟩
    rintro m σ H2 ⟨left, o, u4, u5, u6, u7, rfl, x3, hser, rfl, hol⟩
    have H1O := x1.fresh nO
    have eF : vF.length = (M.asc (ltA rwD) (lnk hs)).length := pF.len
    have hlF : (M.asc (ltA rwD) (lnk hs)).length ≤ 10000 := by
      rw [asc_len]
      have h3 := fndN_len (W := look (puts hs)) hb hs.length
      exact Nat.le_trans (List.length_filterMap_le _ _) (by omega)
    generalize hFd : M.asc (ltA rwD) (lnk hs) = F at *
    have s2 : Same H1 H2 := x3.keep (by simp only [List.mem_cons, List.not_mem_nil, or_false]; rintro z (rfl | rfl) <;> assumption)
    refine ⟨_, rfl, L, _, rfl, .inl (SqL.of (x3.get 1 rfl)), _, _, rfl, rfl, _, rfl, ?_⟩
    rw [List.length_map, zL_len]
    cases left with
    | nil =>
      refine ite2 (fun c => absurd (of_decide_eq_true c) (by simp)) (fun _ => ?_)
      walk_at "go"
      refine kQ o O H2 ?_ (Same.free s1 H1O) (s1.trans s2) (x3.get 0 rfl)
      rw [← hser]
      rfl
    | cons p0 rest =>
      refine ite2 (fun _ => ?_) (fun c => absurd (decide_eq_true (show (0 : Int) < ((p0 :: rest).length : Nat) by rw [List.length_cons]; omega)) c)
      generalize hleft : p0 :: rest = left at *
      refine ⟨fun σ' H' => ∃ m', m' < left.length ∧ ∃ left o u4 u5 u6 u7, σ' = [some (.ref a), some (.ref fa), some (.ref L), some (.ref O), u4, u5, u6, u7] ∧ Hx H1 H' [(O, .lst ((zL o).map V.int)), (L, .lst ((zL left).map V.int))] ∧
        ser F left.length left o = ser F hs.length (List.range hs.length) [] ∧ left.length = m' ∧ o.length + left.length ≤ 100, fun _ _ z => z, ?_⟩
      refine ⟨_, rfl, fa, rfl, ⟨_, SqL.of (s2 _ _ hvF)⟩, fun D nD => ?_⟩
      have x4 := x3.push (o := .dK []) nD
      have H1D := x3.fresh nD
      refine dc_list (K := K) (a := fa) (xs := vF) (fun i H3 => ∃ kvs, Hx H1 H3 [(D, .dK kvs), (O, .lst ((zL o).map V.int)), (L, .lst ((zL left).map V.int))] ∧ (∀ p : Nat, valV kvs (Sum.inl (p : Int)) = if blkd (F.take i) left p = true then some (.bl true) else none) ∧ kvs.length ≤ i)
        ⟨[], x4, fun p => rfl, Nat.le_refl _⟩ (fun i H3 _ ⟨_, x, _⟩ => SqL.of (x.keep (by simp only [List.mem_cons, List.not_mem_nil, or_false]; rintro z (rfl | rfl | rfl) <;> assumption) _ _ hvF)) ?_ ?_
      · rintro i y H3 hi ⟨kvs, x5, hv, hkl⟩
        have s3 : Same H1 H3 := x5.keep (by simp only [List.mem_cons, List.not_mem_nil, or_false]; rintro z (rfl | rfl | rfl) <;> assumption)
        obtain ⟨r, hr', t, rfl, ht⟩ := pF.get hi
        have hsz : kvs.length < sizeLine := size_ok (m := 10000) (by have := (List.getElem?_eq_some_iff.mp hr').1; omega) (by decide)
        have eT : F.take (i + 1) = F.take i ++ [r] := by rw [List.take_add_one, hr']; rfl
        refine ⟨rfl, ?_⟩
        refine ⟨_, rfl, t, _, _, _, rfl, rfl, .inl (.inl (s3 _ _ ht)), (show atI [V.int (r.1 : Nat), V.int (r.2.1 : Nat), V.str r.2.2.1, V.str r.2.2.2] 0 = some (V.int (r.1 : Nat)) from rfl), _, rfl, L, _, rfl, .inl (SqL.of (x5.get 2 rfl)), rfl, flat_ints _, _, rfl, ?_⟩
        refine ite2 (fun c => ?_) (fun c => ?_)
        · have hm : r.1 ∈ left := of_decide_eq_true ((inV_zL r.1 left).symm.trans c)
          refine ⟨_, rfl, t, _, _, _, rfl, rfl, .inl (.inl (s3 _ _ ht)), (show atI [V.int (r.1 : Nat), V.int (r.2.1 : Nat), V.str r.2.2.1, V.str r.2.2.2] 1 = some (V.int (r.2.1 : Nat)) from rfl), kvs, Sum.inl ((r.2.1 : Nat) : Int), rfl, x5.get 0 rfl, hsz, _, x5.set 0 rfl, fun p => ?_, ?_⟩
          · rw [valV_put, eT, blkd_snoc, decide_eq_true hm, Bool.true_and]
            by_cases e : r.2.1 = p
            · rw [if_pos (by rw [e]), decide_eq_true e, Bool.or_true, if_pos rfl]
            · rw [if_neg (fun h => e (by have := Sum.inl.inj h; omega)), decide_eq_false e, Bool.or_false]
              exact hv p
          · have := putK_len kvs (Sum.inl ((r.2.1 : Nat) : Int)) (V.bl true)
            omega
        · have hm : ¬ r.1 ∈ left := fun h => c ((inV_zL r.1 left).trans (decide_eq_true h))
          refine ⟨kvs, x5, fun p => ?_, by omega⟩
          rw [eT, blkd_snoc, decide_eq_false hm, Bool.false_and, Bool.or_false]
          exact hv p
      · rintro H3 ⟨kvs, x5, hv, hkl⟩
        rw [eF, List.take_length] at hv
        clear x4 x3
        refine ⟨_, rfl, L, rfl, ⟨_, SqL.of (x5.get 2 rfl)⟩, fun B nB => ?_⟩
        have x6 := x5.push (o := .lst []) nB
        have H1B := x5.fresh nB
        refine lc_list (K := K) (a := L) (xs := (zL left).map V.int) (fun i H4 => Hx H1 H4 [(B, .lst ((zL ((left.take i).filter fun p => !blkd F left p)).map V.int)), (D, .dK kvs), (O, .lst ((zL o).map V.int)), (L, .lst ((zL left).map V.int))]) x6 (fun i H4 _ x => SqL.of (x.get 3 rfl)) ?_ ?_
        · rintro i y H4 hi x7
          obtain ⟨q, hq, rfl⟩ := zL_get hi
          have il := (List.getElem?_eq_some_iff.mp hq).1
          have eT : left.take (i + 1) = left.take i ++ [q] := by rw [List.take_add_one, hq]; rfl
          refine ⟨rfl, ?_⟩
          refine ⟨_, rfl, _, rfl, D, _, rfl, DGet.k (k := Sum.inl (q : Int)) (x7.get 1 rfl), ?_⟩
          rw [hv q, eT, List.filter_append]
          cases hb : blkd F left q with
          | true =>
            rw [if_pos rfl]
            refine ⟨_, rfl, iteF ?_⟩
            have e0 : [q].filter (fun p => !blkd F left p) = [] := by rw [List.filter_cons, hb]; rfl
            rw [e0, List.append_nil]
            exact x7
          | false =>
            rw [if_neg (by decide)]
            refine ⟨_, rfl, iteT ?_⟩
            have e0 : [q].filter (fun p => !blkd F left p) = [q] := by rw [List.filter_cons, hb]; rfl
            refine ⟨_, rfl, _, x7.get 0 rfl, ?_, ?_⟩
            · rw [List.length_map, zL_len]
              have := List.length_filter_le (fun p => !blkd F left p) (left.take i)
              rw [List.length_take] at this
              exact size_ok (m := 1000) (by omega) (by decide)
            · rw [e0, zL_snoc]
              exact x7.set 0 rfl
        · intro H4 x7
          rw [List.length_map, zL_len, List.take_length] at x7
          have s4 : Same H1 H4 := x7.keep (by simp only [List.mem_cons, List.not_mem_nil, or_false]; rintro z (rfl | rfl | rfl | rfl) <;> assumption)
          clear x5 x6
          change Hx H1 H4 [(B, .lst ((zL (freeL F left)).map V.int)), (D, .dK kvs), (O, .lst ((zL o).map V.int)), (L, .lst ((zL left).map V.int))] at x7
          refine ⟨_, rfl, B, _, rfl, .inl (SqL.of (x7.get 0 rfl)), rfl, _, rfl, ?_⟩
          have hst : ser F left.length left o = match freeL F left with
              | [] => none
              | p :: _ => ser F rest.length (left.erase p) (o ++ [p]) := by
            rw [← hleft]
            rfl
          have hrl : rest.length + 1 = left.length := by rw [← hleft, List.length_cons]
          cases hfr : freeL F left with
          | nil =>
            rw [hfr] at hst x7
            refine ite2 (fun _ => ?_) (fun c => absurd (decide_eq_true (show V.int _ = V.int 0 by rw [List.length_map, zL_len]; rfl)) c)
            have hE := kE fa H4 (by rw [← hser, hst]) (s1.trans s4) ⟨vF, s4 _ _ hvF, pF.mono fun v x => stRw _ _ v x s4⟩
            refine ⟨_, rfl, a, es, rfl, .inl (SqL.of ((s1.trans s4) _ _ he)), _, rfl, ?_⟩
            rw [eln]
            exact hmono _ _ _ _ _ (fun v H5 hz => ⟨rfl, (fun e => by cases e), fun _ d hd => hz d hd⟩) hE
          | cons q fr =>
            rw [hfr] at hst x7
            refine ite2 (fun c => absurd (V.int.inj (of_decide_eq_true c)) (by rw [List.length_map, zL_len, List.length_cons]; omega)) (fun _ => ?_)
            have hql : q ∈ left := (List.mem_filter.mp (show q ∈ freeL F left by rw [hfr]; exact List.mem_cons_self)).1
            obtain ⟨j, hj1, hj2, hj3⟩ := first_of left hql
            have a0 : ∀ r : List Nat, ((zL (q :: r)).map V.int)[0]? = some (V.int (q : Nat)) := fun _ => rfl
            refine ⟨_, rfl, .inl ⟨rfl, _, SqL.of (x7.get 2 rfl)⟩, ?_⟩
            refine ⟨_, rfl, B, _, _, V.int (q : Nat), rfl, rfl, SqL.of (x7.get 0 rfl), atI_nat (j := 0) (a0 fr), O, _, _, rfl, rfl, x7.get 2 rfl, ?_, ?_⟩
            · rw [List.length_map, zL_len]
              exact size_ok (m := 1000) (by omega) (by decide)
            rw [zL_snoc]
            have x8 := x7.set (o' := .lst ((zL (o ++ [q])).map V.int)) 2 rfl
            refine ⟨_, rfl, .inl ⟨rfl, _, SqL.of (x8.get 3 rfl)⟩, ?_⟩
            refine ⟨_, rfl, B, _, _, V.int (q : Nat), rfl, rfl, SqL.of (x8.get 0 rfl), atI_nat (j := 0) (a0 fr), L, zL left, (q : Int), j, rfl, rfl, x8.get 3 rfl, ?_, ?_, ?_⟩
            · unfold zL; rw [List.getElem?_map, hj1]; rfl
            · intro m hm
              unfold zL
              rw [List.getElem?_map]
              intro e
              cases e2 : left[m]? with
              | none => rw [e2] at e; cases e
              | some z =>
                rw [e2] at e
                have e3 : (z : Int) = (q : Int) := Option.some.inj e
                exact hj2 m hm (by rw [e2]; congr 1; omega)
            rw [zL_erase, hj3]
            have x9 := x8.set (o' := .lst ((zL (left.erase q)).map V.int)) 3 rfl
            have hel : (left.erase q).length = rest.length := by rw [List.length_erase_of_mem hql]; omega
            refine ⟨rest.length, by omega, left.erase q, o ++ [q], _, _, _, _, rfl, (x9.pop H1B).pop H1D, ?_, hel, by rw [hel, List.length_append, List.length_singleton]; omega⟩
            rw [hel, ← hser, hst]
end
/-! ### a def that is not reached -/
def spNo : Sp := fun _ _ _ _ => False
theorem ok_no {P : Program} {w : World} {K : PySem.W.Frag} {mg : Str → Option Value} {base : Heap} {k : Nat} {f : Addr} {fd : FuncData} {ps : List Str} {α : Prop} (F : α) : FnOk P w K mg base (L2.CX P w) k f fd ps spNo :=
  ⟨fun _ _ _ _ h => h.elim, fun _ _ _ _ _ _ _ _ _ _ _ _ _ h => h.elim⟩
abbrev sSr : Stmt := (top 9)

/-! ### the plain law: where all read the last versions, each link leads forward -/
theorem cW_mono {hs : List Ent} {p q : Nat} (h : p ≤ q) (i : Str) : cW hs p i ≤ cW hs q i := by
  unfold cW
  obtain ⟨d, rfl⟩ := Nat.le.dest h
  have : hs.take (p + d) = hs.take p ++ (hs.drop p).take d := List.take_add
  rw [this, List.countP_append]
  omega
theorem cW_succ {hs : List Ent} {q : Nat} {g : Ent} {x : Itv} (hq : hs[q]? = some g) (hx : x ∈ g.2.2) : cW hs (q + 1) x.1 = cW hs q x.1 + 1 := by
  unfold cW
  rw [List.take_add_one, hq, List.countP_append]
  show ((_ + List.countP _ [g] : Nat) : Int) = _
  rw [List.countP_singleton, if_pos (List.any_eq_true.mpr ⟨x, hx, decide_eq_true rfl⟩)]
  rfl
theorem cW_lt {hs : List Ent} {p q : Nat} {g : Ent} {x : Itv} (hq : hs[q]? = some g) (hx : x ∈ g.2.2) (h : q < p) : cW hs q x.1 + 1 ≤ cW hs p x.1 := by
  rw [← cW_succ hq hx]
  exact cW_mono h x.1
theorem lt_of_cW {hs : List Ent} {p q : Nat} {i : Str} (h : cW hs p i < cW hs q i) : p < q := by
  by_cases e : p < q
  · exact e
  · have := cW_mono (hs := hs) (p := q) (q := p) (by omega) i
    omega
theorem fresh_fwd {hs : List Ent} (w : HW true hs) {r : Rw} (h : LkP hs r) : r.1 < r.2.1 := by
  obtain ⟨e, g, x, he, hg, ne, h⟩ := h
  rcases h with ⟨h1, h2, _⟩ | ⟨h1, h2, _⟩ | ⟨h1, h2, _⟩
  · have a := w.wr _ e x he h1
    have b := (w.rd _ g x hg h2).2.2 rfl
    exact lt_of_cW (i := x.1) (hs := hs) (by omega)
  · have a := w.wr _ e x he h1
    have b : x.2 + 1 = cW hs r.2.1 x.1 + 1 := w.wr _ g _ hg h2
    exact lt_of_cW (i := x.1) (hs := hs) (by omega)
  · have a := (w.rd _ e x he h1).2.2 rfl
    have b : x.2 + 1 = cW hs r.2.1 x.1 + 1 := w.wr _ g _ hg h2
    by_cases q : r.1 < r.2.1
    · exact q
    · have : cW hs r.2.1 x.1 + 1 ≤ cW hs r.1 x.1 := cW_lt (x := (x.1, x.2 + 1)) hg h2 (by omega)
      omega
theorem ser_fwd {F : List Rw} (hF : ∀ r ∈ F, r.1 < r.2.1) : ∀ (m k : Nat) (o : List Nat), ser F m (List.range' k m) o = some (o ++ List.range' k m)
  | 0, k, o => by simp [ser]
  | m + 1, k, o => by
    have nb : blkd F (List.range' k (m + 1)) k = false := by
      unfold blkd
      rw [List.any_eq_false]
      intro r hr
      rw [Bool.and_eq_true, decide_eq_true_iff, decide_eq_true_iff]
      rintro ⟨h1, h2⟩
      have h3 := hF r hr
      have h4 := (List.mem_range'_1.mp h1).1
      omega
    have e : List.range' k (m + 1) = k :: List.range' (k + 1) m := List.range'_succ
    have fr : freeL F (k :: List.range' (k + 1) m) = k :: (List.range' (k + 1) m).filter (fun p => !blkd F (k :: List.range' (k + 1) m) p) := by
      unfold freeL
      rw [List.filter_cons, ← e, nb]
      rfl
    rw [e]
    show (match freeL F (k :: List.range' (k + 1) m) with
      | [] => none
      | p :: _ => ser F m ((k :: List.range' (k + 1) m).erase p) (o ++ [p])) = _
    rw [fr]
    show ser F m ((k :: List.range' (k + 1) m).erase k) (o ++ [k]) = _
    rw [List.erase_cons_head, ser_fwd hF m (k + 1) (o ++ [k]), List.append_assoc]
    rfl
theorem ser_fresh {hs : List Ent} (ok : HOk hs) (w : HW true hs) : ser (M.asc (ltA rwD) (lnk hs)) hs.length (List.range hs.length) [] = some (List.range hs.length) := by
  have hF : ∀ r ∈ M.asc (ltA rwD) (lnk hs), r.1 < r.2.1 := fun r hr => fresh_fwd w ((lnk_mem ok).mp ((asc_perm _ _).mem_iff.mp hr))
  have := ser_fwd hF hs.length 0 []
  rw [← List.range_eq_range'] at this
  simpa using this

/-! ### law k09 -/
abbrev sLaw : Stmt := (top 18)
theorem scLaw : FnScope ["_law_script", "_law_draws_here", "_law_many", "_law_history_here", "_law_passed", "_law_told", "_law_program", "_law_k"] ["_law_script"] (defScope sLaw) := ⟨rfl, rfl, rfl, by decide +kernel, rfl, by decide +kernel, by decide +kernel⟩
def spLaw (K : PySem.W.Frag) : Sp := fun vs H Q _ => ∃ (a : Addr) (ns : List Int), vs = [.ref a] ∧ SqL K H a (ns.map V.int) ∧ ns.length ≤ 63 ∧ ∀ H', Q (.bl true) H'
section
variable {P : Program} {w : World} {K : PySem.W.Frag} {mg : Str → Option Value} {base : Heap}
theorem ok_law {f CO : Addr} {fd : FuncData} {spR : Sp} (F : FnP K "law" sLaw f fd) (T : Bj mg)
    (g_draws : Cal P w K mg base 1 "_law_draws" ["_law_script", "_law_many"] (spDraws K)) (g_take : Cal P w K mg base 1 "_law_take" ["_law_draws_here", "_law_size"] spTake)
    (g_history : Cal P w K mg base 2 "_law_history" ["_law_draws_here", "_law_many", "_law_fresh"] spHi) (g_copied : Cal P w K mg base 1 "_law_copied" ["_law_history_here"] spCo) (g_serial_order : Cal P w K mg base 4 "serial_order" ["history"] (spSer CO spR))
    (g_whole : Cal P w K mg base 1 "_law_whole" ["_law_thing"] spWh) : FnOk P w K mg base (L2.CX P w) 6 f fd ["_law_script"] (spLaw K) := by
  refine F.ok scLaw (fun vs H Q E h => ?_) (fun cdv A outer s H vs Q E hr h => ?_)
  · obtain ⟨a, ns, rfl, _⟩ := h
    rfl
  · obtain ⟨a, ns, rfl, hS, hlen, kQ⟩ := h
    have nd := scLaw.nd
    refine ⟨_, (pss_cons (ps_set (i := 1) nd rfl (Or.inl rfl) (pe_cal g_draws hr takes0 (pa_cons (pv 0) (pa_cons pe_int pa_nil))))
      (pss_cons (ps_set (i := 2) nd rfl (Or.inl rfl) (pe_cal g_take hr takes0 (pa_cons (pv 1) (pa_cons pe_int pa_nil))))
      (pss_cons (ps_set (i := 3) nd rfl (Or.inl rfl) (pe_cal g_history hr takes0 (pa_cons (pv 1) (pa_cons (pv 2) (pa_cons pe_bl pa_nil)))))
      (pss_cons (ps_set (i := 4) nd rfl (Or.inl rfl) (pe_cal g_copied hr takes0 (pa_cons (pv 3) pa_nil)))
      (pss_cons (ps_set (i := 5) nd rfl (Or.inl rfl) (pe_cal g_serial_order hr takes0 (pa_cons (pv 4) pa_nil)))
      (pss_cons (ps_if (PW.pt (pw_or (pt_cmpR (op_neD hr.units) (pv 4) (pe_cal g_copied hr takes0 (pa_cons (pv 3) pa_nil)) (nomark _)) (pw_or1 (pt_not (pt_val (pe_callB call_isi (by rfl) T.isinstance (by decide +kernel) (pa_cons (pv 5) (pa_cons (pe_bltn (v := .ty "list") (by rfl) T.list (by decide +kernel) rfl) pa_nil)))))))) (pss_one (ps_ret pe_bl)) pss_nil)
      (pss_cons (ps_for (passes_of rfl) rfl (pi_list (pv 5)) (pg_name (i := 6) nd rfl (Or.inl rfl)) (pss_one (ps_if (pt_not (pt_val (pe_cal g_whole hr takes0 (pa_cons (pv 6) pa_nil)))) (pss_one (ps_ret pe_bl)) pss_nil)))
      (pss_one (ps_ret (pe_cmpR (op_eqD hr.units) (pv 5) (pe_lc (own := [("_law_k", 7)]) (g := gName 7) (tt := tYes) (by rfl) nd (pi_range1 (by rfl) T.range (pa_cons (pv 2) pa_nil)) (blkOk_by (own := [("_law_k", 7)]) (N := ["_law_script", "_law_draws_here", "_law_many", "_law_history_here", "_law_passed", "_law_told", "_law_program", "_law_k"]) (sc := defScope sLaw) (by decide +kernel)) (fun _ _ _ _ _ => (pg_name (i := 7) nd rfl (Or.inl rfl))) (fun _ _ _ _ _ => pts_nil) (fun _ _ _ _ _ => (pv 7))) (nomark _))))))))))), ?_⟩
    walk_at "go"
    refine ⟨a, ns, 70, rfl, hS, hlen, by decide, fun p ds H1 np s1 hp hl hd => ?_⟩
    refine ⟨_, rfl, p, ds, 13, rfl, hp, hd, by decide, fun d1 ds1 d10 d11 hd1 _ => ?_⟩
    obtain ⟨n, rfl⟩ := Int.eq_ofNat_of_zero_le d10
    refine ⟨_, rfl, _, rfl, p, ds1, n, true, rfl, upd_same, hd1, by omega, fun hA H2 hs ds3 fr2 hp2 hd3 hH ok hw hn hz => ?_⟩
    have okE : ∀ e ∈ hs, EntOk e := fun e he => (hz e he).2.2
    refine ⟨_, rfl, hA, hs, rfl, hH, by omega, fun cA H3 nc s3 hC => ?_⟩
    have hser := ser_fresh ok hw
    refine ⟨_, rfl, cA, hs, rfl, hC, by omega, fun e he => (by have := hz e he; omega), fun o tA H4 ho nt s4 hT => ?_, fun fa H4 ho => (by rw [hser] at ho; cases ho)⟩
    rw [hser] at ho
    cases ho
    have hH4 := (hH.same stEn s3).same stEn s4
    have hC4 := hC.same stEn s4
    refine ⟨_, rfl, _, rfl, hA, hs, rfl, hH4, by omega, fun c2 H5 n2 s5 hC2 => ?_⟩
    have hC5 := hC4.same stEn s5
    refine ⟨hsD hs, hsD hs, hs_dp hC5, hs_dp hC2, shaped_of (hs_lay okE), shaped_of (hs_lay okE), _, rfl, ?_⟩
    rw [SeqAt.eqv_refl _ (hs_lay okE).1]
    refine iteF ?_
    have hT5 := s5 _ _ hT
    refine ⟨_, rfl, _, _, _, _, true, rfl, .ty "list", .base (.lst hT5), if_pos rfl, ?_⟩
    refine ⟨_, rfl, iteF ?_⟩
    refine ⟨_, rfl, tA, rfl, ⟨_, SqL.of hT5⟩, ?_⟩
    refine for_list (K := K) (a := tA) (xs := (zL (List.range hs.length)).map V.int) (fun i σ H6 => ∃ u, σ = [some (.ref a), some (.ref p), some (.int (n : Nat)), some (.ref hA), some (.ref cA), some (.ref tA), u, none] ∧ H6 = H5) ⟨none, rfl, rfl⟩ (fun i σ H6 _ ⟨_, _, e⟩ => by rw [e]; exact SqL.of hT5) ?_ ?_
    · rintro i y σ H6 hi ⟨u, rfl, rfl⟩
      obtain ⟨k, _, rfl⟩ := zL_get hi
      exact ⟨_, rfl, _, rfl, _, rfl, iteF ⟨_, rfl, rfl⟩⟩
    · rintro σ H6 ⟨u, rfl, rfl⟩
      refine ⟨_, rfl, _, rfl, n, rfl, by omega, by omega, fun D hD => lc_range (lo := 0) (n := n) (fun i H7 => H7 = upd H6 D (.lst ((zL (List.range i)).map V.int))) rfl ?_ ?_⟩
      · rintro i H7 hi rfl
        refine ⟨rfl, tYes_if ?_⟩
        refine ⟨_, rfl, _, upd_same, ?_, ?_⟩
        · rw [List.length_map, zL_len, List.length_range]
          exact size_ok (m := 1000) (by omega) (by decide)
        · rw [Int.zero_add, zL_snoc, ← List.range_succ, upd_upd]
      · rintro H7 rfl
        rw [hn] at hT5
        refine ⟨zlD (List.range n), zlD (List.range n), zl_dp ((Same.refl H6).new hD _ _ hT5), zl_dp upd_same, shaped_of (zl_lay _), shaped_of (zl_lay _), ?_⟩
        rw [SeqAt.eqv_refl _ (zl_lay _).1]
        exact kQ _
end

/-! ### the head -/
def fn : List AD := [adG "_law_draws" sDraws, adG "_law_take" sTake, adG "_law_names" sNames, adG "_law_whole" sWh, adG "_law_history" sHi, adG "_law_copied" sCo, adG "ascending" sAsc, adG "links" sLinks, adG "shortest_ring" sSr, adG "serial_order" sSer, adG "law" sLaw]
def xs : List XD := [xdOutOfOrder]
def fyG : List Str := ["_law_draws", "_law_take", "_law_names", "_law_whole", "_law_history", "_law_copied", "ascending", "links", "shortest_ring", "serial_order", "law"]
def fy : List Fy := fyG.map (fun x => .fa (.glo x)) ++ (bnames.map (fun x => .fa (.free x)) ++ [])
def fb (K : PySem.W.Frag) : Bool := fy.all (Fy.ok K) && (decide (PySem.W.kitOne K (.type "int") (.type "bool") = some false))
abbrev R : PySem.W.OpenRow := PySem.W.OpenLaw.row PySem.Challenge.rw_latebridges_k09_programs_that_read_the_l
abbrev hk : PySem.W.Hook := hookM R.prog 5 fb fn xs
def ob (s : PySem.W.SharedT) : AlM := obsMG R.prog 5 fb fn xs (HandSHeadRun.getT s)
theorem ob_eq (s : PySem.W.SharedT) : ob s = hk.obs s.abs := obsMG_eq (HandSHeadRun.getT_eq s)
def loose : List Str := ["PlacementError","OutOfOrder","ascending","links","links_from","ring_from","shortest_ring","serial_order","_law_draws","_law_take","_law_names","_law_whole","_law_history","_law_copied"]
set_option maxHeartbeats 0 in
theorem run (w : World) : HandSHeadRun.RunEq R (PySem.W.view R.prog [18]) hk ob 6000 loose w := by
  intro os
  kernel_rfl
theorem facts {w : World} {K : PySem.W.Frag} {h : Heap} {mg : Str → Option Value} {f : Addr} (X : K.In h) (G : h.Ns mainGlobals mg) (hfa : mg ("law" : Str) = some (.ref f)) (c : SaysM R.prog fb fn xs K) :
    ∃ fd : FuncData, (∀ (s : Shared) (v : Value), BindsTo s fd ⟨[v], []⟩ [("_law_script", v)]) ∧ ∀ base : Heap, K.In base → base.Ns mainGlobals mg → FnOk R.prog w K mg base (L2.CX R.prog w) 6 f fd ["_law_script"] (spLaw K) := by
  have q : ∀ {y : Fy}, y ∈ fy → y.ok K = true := fun m => all_of (He.ba c.fact).1 m
  have qf : ∀ {y : He.Fa}, Fy.fa y ∈ fy → y.ok K = true := fun m => all_of (He.ba c.fact).1 m
  have glo : ∀ {x : Str}, x ∈ fyG → mg x = some (.ref (He.ga K x)) := fun m => He.glo_ok X G (qf (List.mem_append_left _ (List.mem_map.mpr ⟨_, m, rfl⟩)))
  have T : Bj mg := Bj.of fun x m => He.free_ok X G (qf (List.mem_append_right _ (List.mem_append_left _ (List.mem_map.mpr ⟨_, m, rfl⟩))))
  obtain ⟨fd0, F0⟩ := c.def_ 0 (d := adG "_law_draws" sDraws) rfl
  obtain ⟨fd1, F1⟩ := c.def_ 1 (d := adG "_law_take" sTake) rfl
  obtain ⟨fd2, F2⟩ := c.def_ 2 (d := adG "_law_names" sNames) rfl
  obtain ⟨fd3, F3⟩ := c.def_ 3 (d := adG "_law_whole" sWh) rfl
  obtain ⟨fd4, F4⟩ := c.def_ 4 (d := adG "_law_history" sHi) rfl
  obtain ⟨fd5, F5⟩ := c.def_ 5 (d := adG "_law_copied" sCo) rfl
  obtain ⟨fd6, F6⟩ := c.def_ 6 (d := adG "ascending" sAsc) rfl
  obtain ⟨fd7, F7⟩ := c.def_ 7 (d := adG "links" sLinks) rfl
  obtain ⟨fd8, F8⟩ := c.def_ 8 (d := adG "shortest_ring" sSr) rfl
  obtain ⟨fd9, F9⟩ := c.def_ 9 (d := adG "serial_order" sSer) rfl
  obtain ⟨fd10, F10⟩ := c.def_ 10 (d := adG "law" sLaw) rfl
  have ht : (R.prog.main.scope.names.lookup ("super" : Str)).isSome = false := by decide +kernel
  have xOutOfOrder := c.exc ht 0 (d := xdOutOfOrder) rfl
  have gOutOfOrder : mg ("OutOfOrder" : Str) = some (.ref (He.ga K "OutOfOrder")) := c.mgx X G 0 (d := xdOutOfOrder) rfl
  have kb : PySem.W.kitOne K (.type "int") (.type "bool") = some false := of_decide_eq_true (He.ba c.fact).2
  have e := hfa.symm.trans (glo (x := "law") (by simp [fyG]))
  cases e
  have b := FunD.bindsA (ps := ["_law_script"]) F10 fun _ _ _ _ _ _ us hl => match us, hl with | [_], _ => rfl
  refine ⟨fd10, fun s v => b s [v] rfl, fun base _ _ => ?_⟩
  have g_draws : Cal R.prog w K mg base 1 "_law_draws" ["_law_script", "_law_many"] (spDraws K) :=
    ⟨⟨_, fd0, glo (by simp [fyG]), F0.kp, F0.bindsN (ps := ["_law_script", "_law_many"]) (fun _ _ _ _ _ _ us hl => match us, hl with | [_, _], _ => rfl), ok_draws F0 T.toBi⟩⟩
  have g_take : Cal R.prog w K mg base 1 "_law_take" ["_law_draws_here", "_law_size"] (spTake) :=
    ⟨⟨_, fd1, glo (by simp [fyG]), F1.kp, F1.bindsN (ps := ["_law_draws_here", "_law_size"]) (fun _ _ _ _ _ _ us hl => match us, hl with | [_, _], _ => rfl), ok_take F1 T.toBi⟩⟩
  have g_names : Cal R.prog w K mg base 1 "_law_names" ["_law_draw", "_law_many"] (spNames) :=
    ⟨⟨_, fd2, glo (by simp [fyG]), F2.kp, F2.bindsN (ps := ["_law_draw", "_law_many"]) (fun _ _ _ _ _ _ us hl => match us, hl with | [_, _], _ => rfl), ok_names F2 T.toBi⟩⟩
  have g_whole : Cal R.prog w K mg base 1 "_law_whole" ["_law_thing"] (spWh) :=
    ⟨⟨_, fd3, glo (by simp [fyG]), F3.kp, F3.bindsN (ps := ["_law_thing"]) (fun _ _ _ _ _ _ us hl => match us, hl with | [_], _ => rfl), ok_wh F3 T kb⟩⟩
  have g_history : Cal R.prog w K mg base 2 "_law_history" ["_law_draws_here", "_law_many", "_law_fresh"] (spHi) :=
    ⟨⟨_, fd4, glo (by simp [fyG]), F4.kp, F4.bindsN (ps := ["_law_draws_here", "_law_many", "_law_fresh"]) (fun _ _ _ _ _ _ us hl => match us, hl with | [_, _, _], _ => rfl), ok_hi F4 T g_take g_names⟩⟩
  have g_copied : Cal R.prog w K mg base 1 "_law_copied" ["_law_history_here"] (spCo) :=
    ⟨⟨_, fd5, glo (by simp [fyG]), F5.kp, F5.bindsN (ps := ["_law_history_here"]) (fun _ _ _ _ _ _ us hl => match us, hl with | [_], _ => rfl), ok_co F5 T⟩⟩
  have g_ascending : Cal R.prog w K mg base 2 "ascending" ["rows"] (spAsc K) :=
    ⟨⟨_, fd6, glo (by simp [fyG]), F6.kp, F6.bindsN (ps := ["rows"]) (fun _ _ _ _ _ _ us hl => match us, hl with | [_], _ => rfl), ok_asc F6 T.toBi⟩⟩
  have g_links : Cal R.prog w K mg base 3 "links" ["history"] (spLinks) :=
    ⟨⟨_, fd7, glo (by simp [fyG]), F7.kp, F7.bindsN (ps := ["history"]) (fun _ _ _ _ _ _ us hl => match us, hl with | [_], _ => rfl), ok_links F7 T g_ascending⟩⟩
  have g_shortest_ring : Cal R.prog w K mg base 3 "shortest_ring" ["many", "found"] (spNo) :=
    ⟨⟨_, fd8, glo (by simp [fyG]), F8.kp, F8.bindsN (ps := ["many", "found"]) (fun _ _ _ _ _ _ us hl => match us, hl with | [_, _], _ => rfl), ok_no F8 ⟩⟩
  have g_serial_order : Cal R.prog w K mg base 4 "serial_order" ["history"] (spSer (He.ga K "OutOfOrder") spNo) :=
    ⟨⟨_, fd9, glo (by simp [fyG]), F9.kp, F9.bindsN (ps := ["history"]) (fun _ _ _ _ _ _ us hl => match us, hl with | [_], _ => rfl), ok_ser F9 T g_links g_shortest_ring (fun _ _ _ _ _ _ h => h.elim) xOutOfOrder gOutOfOrder⟩⟩
  exact ok_law F10 T g_draws g_take g_history g_copied g_serial_order g_whole
end M
open PySem PySem.W PySem.Calls PyProof.Rows
set_option maxRecDepth 100000 in
set_option maxHeartbeats 0 in
theorem PySem.Challenge.cw_latebridges_k09_programs_that_read_the_l_holds : PySem.Challenge.rw_latebridges_k09_programs_that_read_the_l.Holds := by
  w_on; o_law
  refine HandSHeadRun.head_any (r := OpenLaw.row PySem.Challenge.rw_latebridges_k09_programs_that_read_the_l) (q := view (OpenLaw.row PySem.Challenge.rw_latebridges_k09_programs_that_read_the_l).prog [18]) (H := M.hk) (ob := M.ob) (M := 6000) (loose := M.loose) (d := HandSHeadRun.topDef (OpenLaw.row PySem.Challenge.rw_latebridges_k09_programs_that_read_the_l).prog 18) (kwd := []) M.ob_eq
    (by kernel_rfl) (fun s => by kernel_rfl) M.run (by kernel_rfl) (by kernel_rfl) (by kernel_rfl) (by rfl) (by first | assumption | decide +kernel) (by decide +kernel) ⟨rfl, rfl, rfl, rfl, rfl, by decide +kernel⟩ ?hw ?hc
  case hw => w_witness2
  case hc =>
    refine L2.walk_ofE (l := PySem.Challenge.rw_latebridges_k09_programs_that_read_the_l) (n := 63) (k := 6) (x := "_law_script") (CX := L2.CX0) rfl (by decide) (by kernel_rfl) ⟨rfl, by decide, by decide⟩ ?F (fun _ _ _ _ z => z)
    intro w mg fa h Y G hmg0
    obtain ⟨K, KX, c⟩ := Y
    have hmg : mg ("law" : PySem.Str) = some (.ref fa) := by
      have e : (HandSHeadRun.topDef (OpenLaw.row PySem.Challenge.rw_latebridges_k09_programs_that_read_the_l).prog 18).name = ("law" : PySem.Str) := by kernel_rfl
      rw [← e]
      exact hmg0
    obtain ⟨fd, hb, hF⟩ := M.facts (w := w) KX G hmg c
    exact ⟨K, fd, M.spLaw K, KX, hb, fun H a ns hl _ hS => ⟨a, ns, rfl, hS, hl, fun _ => rfl⟩, fun base hB hG => M.calm_of (hF base hB hG) fun _ _ _ _ z => z⟩
