import PyProof.Rows.All
import Wide.All
import OpenK.AllK
import Wide.FinOn
import KE.KStateDown
import KE.KExcSuper
import HandS.ForMost
import HandS.Exc
import HandS.WordsExc
import HandS.TryOnly
import HandS.ExcOwn
import HandS.Defaults
import HandS.ExcInit
import HandS.ClsMeth
import HandS.Head0
import HandS.Head1
import HandS.Head2
import HandS.HeadEnd
import HandS.HeadHook1
import HandS.HeadHook2
import PySem.Challenge.RW_latebridges_k01_across_a_channel
set_option Elab.async false
set_option linter.all false
set_option maxRecDepth 100000
set_option maxHeartbeats 4000000

namespace PySem
namespace XEx
open PySem.W PySem.Calls PyProof.Rows PySem.HandSPX
/-- the stores behind super().__init__(..): self.f = f -/
inductive Stores : List Str → List Stmt → Prop where
  | nil : Stores [] []
  | cons {f : Str} {fs : List Str} {st : List Stmt} {q1 q2 q3 q4 : Pos} (r : Stores fs st) : Stores (f :: fs) (.Assign [.Attribute (.Name "self" q1) f q2] (.Name f q3) q4 :: st)
/-- the exception's own dict: d holds the pairs ps (the last stored first) -/
def DictIs (h : Heap) (lo e : Addr) (d : Option Addr) (ps : List (Str × Value)) : Prop :=
  match d with
  | none => ps = []
  | some dx => lo ≤ dx ∧ dx ≠ e ∧ ps ≠ [] ∧ h.Ns1 dx (fun y => ps.lookup y)
section
variable {prog : Program} {w : World} {M : Model} {A : Around} {E : Value → Shared → Prop} {R : Result → Shared → Prop} {s : Shared} {K : Frag}
theorem ldL {env : Env} {m : Str → Option Value} {x : Str} {pos : Pos} {v : Value} {Q : Value → Shared → Prop} (hn : s.heap.Ns env.locals m) (hv : m x = some v) (h : Q v s)
    (hk : env.scope.kind = .function) (hl : env.kindOf x = some .local) (hd : (x == ("__debug__" : Str)) = false) : wpAny M A (eval (.Name x pos) env) Q E s := wpAny_Name (wpAny_loadName_local hk hl hn hv h) hd
theorem lookup_cons (f y : Str) (v : Value) (ps : List (Str × Value)) : ((f, v) :: ps).lookup y = if y = f then some v else ps.lookup y := by
  by_cases h : y = f
  · subst h
    simp [List.lookup]
  · have e : (y == f) = false := by simpa using h
    rw [if_neg h]
    simp [List.lookup, e]
/-- all stores, one after the other -/
theorem stores_run {env : Env} {C x lo : Addr} {cd : ClassData} {m : Str → Option Value} (hk : env.scope.kind = .function) (hcd : W.clsIn K C = some cd) (hm : refsVE cd.mro = true) (hh : cd.hasDict = true) (sa : findIn K (.ref C) "__setattr__" = some (some (.builtin "object.__setattr__")))
    (hself : m "self" = some (.ref x)) (kself : env.kindOf "self" = some .local) (hlo : lo ≤ env.locals) (hxL : x ≠ env.locals) (hKx : K.lookup x = none) :
    ∀ {fs : List Str} {st : List Stmt} {vs : List Value} {ps : List (Str × Value)} {d : Option Addr} {s : Shared} {t1 : Addr} {Q : Flow → Shared → Prop}, Stores fs st → fs.length = vs.length → ps.length + fs.length ≤ 1000 →
      (∀ f ∈ fs, env.kindOf f = some .local ∧ (f == ("__debug__" : Str)) = false ∧ findIn K (.ref C) f = some none) → (∀ p ∈ fs.zip vs, m p.1 = some p.2) →
      K.In s.heap → s.heap.Ns env.locals m → s.heap.get? x = some { cls := .ref C, dict := d, data := .fields #[.ref t1, .none, .none, .none, .bool false, .none] } → DictIs s.heap lo x d ps → (∀ dx, d = some dx → K.lookup dx = none ∧ dx ≠ env.locals) →
      (∀ h' tk d', (∀ b o, b ≠ x → (∀ dx, d = some dx → b ≠ dx) → s.heap.get? b = some o → h'.get? b = some o) →
        h'.get? x = some { cls := .ref C, dict := d', data := .fields #[.ref t1, .none, .none, .none, .bool false, .none] } → DictIs h' lo x d' ((fs.zip vs).reverse ++ ps) → Q .next { s with heap := h', toks := tk }) →
      wpAny (model prog w) A (execs st env) Q E s := by
  intro fs
  induction fs with
  | nil =>
    intro st vs ps d s t1 Q S hl hz hf hv X hn hx hd hdx hq
    cases S
    refine wpAny_execs_nil ?_
    have z := hq s.heap s.toks d (fun b o _ _ q => q) hx hd
    exact z
  | cons f fs ih =>
    intro st vs ps d s t1 Q S hl hz hf hv X hn hx hd hdx hq
    cases S with
    | cons r =>
    cases vs with
    | nil => cases hl
    | cons v vs =>
      obtain ⟨kf, df, nf⟩ := hf f List.mem_cons_self
      have mf : m f = some v := hv (f, v) (by simp)
      refine wpAny_execs_cons (plainObj_wpAny_Assign_Attribute ?_)
      refine ldL hn mf (ldL hn hself ?_ hk kself (by decide)) hk kf df
      cases d with
      | none =>
        have hps : ps = [] := hd
        subst hps
        refine set_plain X (ox := { cls := .ref C, dict := none, data := .fields #[.ref t1, .none, .none, .none, .bool false, .none] }) (od := none) ⟨hx, rfl, rfl, trivial⟩ sa ?_
        obtain ⟨hp, g, dr, t, os⟩ := s
        refine exc_osa X hx hcd hm hh nf (fun h' tk' dx k dn dne hx' hn' => ?_)
        have keep : ∀ b o, b ≠ x → hp.get? b = some o → h'.get? b = some o := k
        refine ih (ps := [(f, v)]) (d := some dx) (s := ⟨h', g, dr, tk', os⟩) r (Nat.succ.inj hl) (by simp only [List.length_cons, List.length_nil] at hz ⊢; omega) (fun y hy => hf y (List.mem_cons_of_mem _ hy)) (fun p hp => hv p (by simp [hp])) (fun b o e => ?_) ?_ hx' ?_ (fun dy e => ?_) (fun h2 tk d' k2 hx2 hd2 => ?_)
        · refine keep b o (fun z => ?_) (X b o e)
          rw [z, hKx] at e
          cases e
        · obtain ⟨oL, es, ep, hL, rest⟩ := hn
          exact ⟨oL, es, ep, keep _ _ (Ne.symm hxL) hL, rest⟩
        · refine ⟨Nat.le_trans hlo (Nat.le_trans (Nat.le_of_lt hn.lt) dn), dne, by simp, ?_⟩
          have e : (fun y => ([(f, v)] : List (Str × Value)).lookup y) = (fun y => if y = f then some v else none) := by
            funext y
            rw [lookup_cons]
            rfl
          rw [e]
          exact hn'
        · cases e
          refine ⟨?_, ?_⟩
          · cases q : K.lookup dx with
            | none => rfl
            | some o => exact absurd (Nat.lt_of_lt_of_le (Heap.lt_size (X _ _ q)) dn) (Nat.lt_irrefl _)
          · intro z
            have h1 : env.locals < hp.objs.size := hn.lt
            rw [← z] at h1
            exact absurd (Nat.lt_of_lt_of_le h1 dn) (Nat.lt_irrefl _)
        · refine hq h2 tk d' (fun b o hb _ q => k2 b o hb (fun dy e => ?_) (keep b o hb q)) hx2 ?_
          · cases e
            exact Nat.ne_of_lt (Nat.lt_of_lt_of_le (Heap.lt_size q) dn)
          · have e : ((f :: fs).zip (v :: vs)).reverse ++ ([] : List (Str × Value)) = (fs.zip vs).reverse ++ [(f, v)] := by simp
            rw [e]
            exact hd2
      | some dx =>
        obtain ⟨dlo, dne, hne, hns⟩ := hd
        obtain ⟨hp, g, dr, t, os⟩ := s
        obtain ⟨oD, esD, epD, hoD, _⟩ := id hns
        refine set_plain X (ox := { cls := .ref C, dict := some dx, data := .fields #[.ref t1, .none, .none, .none, .bool false, .none] }) (od := some oD) ⟨hx, rfl, rfl, hoD⟩ sa ?_
        have hw : Within (fun y => ps.lookup y) (ps.map (·.1)) := fun y hy => by
          cases q : ps.lookup y with
          | none => exact absurd q hy
          | some u =>
            have : ∀ (l : List (Str × Value)), l.lookup y = some u → y ∈ l.map (·.1) := by
              intro l
              induction l with
              | nil => intro h; cases h
              | cons p l ih =>
                intro h
                obtain ⟨g, z⟩ := p
                rw [lookup_cons] at h
                by_cases e : y = g
                · rw [e]; exact List.mem_cons_self ..
                · rw [if_neg e] at h; exact List.mem_cons_of_mem _ (ih h)
            exact this ps q
        refine PySem.OEX.osa_old X hx hns hw (by rw [List.length_map]; omega) hcd hm hh nf (fun h' tk' k hn' => ?_)
        have hx' : h'.get? x = some { cls := .ref C, dict := some dx, data := .fields #[.ref t1, .none, .none, .none, .bool false, .none] } := k _ _ (Ne.symm dne) hx
        obtain ⟨kd1, kd2⟩ := hdx dx rfl
        refine ih (ps := (f, v) :: ps) (d := some dx) (s := ⟨h', g, dr, tk', os⟩) r (Nat.succ.inj hl) (by simp only [List.length_cons] at hz ⊢; omega) (fun y hy => hf y (List.mem_cons_of_mem _ hy)) (fun p hp => hv p (by simp [hp])) (fun b o e => ?_) ?_ hx' ?_ (fun dy e => ?_) (fun h2 tk d' k2 hx2 hd2 => ?_)
        · refine k b o (fun z => ?_) (X b o e)
          rw [z, kd1] at e
          cases e
        · obtain ⟨oL, es, ep, hL, rest⟩ := hn
          exact ⟨oL, es, ep, k _ _ (Ne.symm kd2) hL, rest⟩
        · refine ⟨dlo, dne, by simp, ?_⟩
          have e : (fun y => ((f, v) :: ps).lookup y) = (fun y => if y = f then some v else ps.lookup y) := by
            funext y
            rw [lookup_cons]
          rw [e]
          exact hn'
        · cases e
          exact ⟨kd1, kd2⟩
        · refine hq h2 tk d' (fun b o hb hbd q => k2 b o hb (fun dy e => ?_) (k b o (hbd dx rfl) q)) hx2 ?_
          · cases e
            exact hbd dx rfl
          · have e : ((f :: fs).zip (v :: vs)).reverse ++ ps = (fs.zip vs).reverse ++ (f, v) :: ps := by simp
            rw [e]
            exact hd2

/-- the bound ValueError.__init__ called: the args are laid anew -/
theorem call_bwV {h : Heap} {g : Array GenState} {d : Drawn} {t : Nat} {os : OsState} {nm q : Str} {C N : Addr} {bs bm : List Value} {hdct : Bool} {sn : List Str} {sub : List Value} {ab : Bool} {col : Option Bool} {dd : Option Addr} {k0 k1 k2 k3 k5 : Option Value}
    {u e t0 : Addr} {rest : List Value} {Q : Value → Shared → Prop}
    (hC : h.get? C = some (excClassObj nm q C N bs bm hdct sn sub ab col dd k0 k1 k2 k3 k5 "ValueError.__new__")) (he : h.get? e = some (excO C t0)) (hu : h.get? u = some (kxs_mw "ValueError.__init__" e)) (hrest : rest.length ≤ sizeLine)
    (hq : ∀ h' t1, (∀ b o, b ≠ e → h.get? b = some o → h'.get? b = some o) → h'.get? e = some (excO C t1) → Q .none ⟨h', g, d, t, os⟩) :
    wpAny (model prog w) A (call (.ref u) rest) Q E ⟨h, g, d, t, os⟩ := by
  refine wpAny_call (codeAny_of_tree ?_)
  show wpAny _ A.in1 (callAny (.ref u) ⟨rest, []⟩) _ _ _
  simp only [callAny]
  refine wpAny_bind (wpAny_load hu ?_)
  simp only [kxs_mw, show (Value.type "method-wrapper" == Value.type "method" || Value.type "method-wrapper" == Value.type "builtin_function_or_method" || Value.type "method-wrapper" == Value.type "method-wrapper") = true by decide, if_true]
  refine W.KFB.if_so (by decide) ?_
  refine wpAny_bind (check_bound_init F.excBase_ValueError.toExcCallFacts hC he rfl ?_)
  refine wpAny_bind (wpAny_pure (wpAny_pure ?_))
  refine ⟨Code.quiet_builtin _ (by decide +kernel), codeAny_builtin F.excBase_ValueError.initEntry ?_⟩
  rw [Around.under_plainId F.excBase_ValueError.init.plain _]
  wp_walk
  refine hq _ h.objs.size (fun b o hb ho => ?_) ?_
  · rw [Heap.get?_update_other _ _ (Ne.symm hb)]
    exact Heap.get?_push_of_some _ ho
  · rw [Heap.get?_update_self _ (Heap.get?_push_of_some _ he) rfl]
    rfl

theorem lookup_rev {k : Str} {v : Value} : ∀ {l : List (Str × Value)}, (l.map (·.1)).Nodup → (k, v) ∈ l → l.reverse.lookup k = some v := by
  intro l
  have key : ∀ (l : List (Str × Value)), (l.map (·.1)).Nodup → (k, v) ∈ l → l.lookup k = some v := by
    intro l
    induction l with
    | nil => intro _ h; cases h
    | cons p l ih =>
      intro nd h
      obtain ⟨f, u⟩ := p
      rw [lookup_cons]
      rw [List.map_cons, List.nodup_cons] at nd
      rcases List.mem_cons.mp h with e | h
      · cases e
        rw [if_pos rfl]
      · have ne : k ≠ f := fun e => nd.1 (by
          rw [← e]
          exact List.mem_map_of_mem (f := (·.1)) h)
        rw [if_neg ne]
        exact ih nd.2 h
  intro nd h
  refine key l.reverse ?_ (List.mem_reverse.mpr h)
  rw [List.map_reverse]
  exact List.pairwise_reverse.mpr (nd.imp fun {a b} h => Ne.symm h)
def superPl (o : Expr) (env : Env) : Sem Bool := do return (← importBound o env).getD true
theorem he_super {o : Expr} {name : Str} {p2 p3 p4 : Pos} {x : Const} {j : Nat} {env : Env} (hline : (p2.endLine == p4.line) = true) :
    eval (.Call (.Attribute o name p2) [.Constant x j p3] [] p4) env = (do
      let ov ← attributeBase o name env (eval o env)
      standAt p2.atName
      let (f, first) ← holding [ov] (getMethod ov name (superPl o env))
      callWith p4 f first (backTo p4 (starEach [.Constant x j p3] env)) []) := by
  rw [arm_eval_Call]
  have hform : methodCallForm ([Expr.Constant x j p3].length + ([] : List Keyword).length) (backTo p4 (starEach [.Constant x j p3] env)) (backToKw p4 (keywordEach [] env)) = true := rfl
  have hpos : methodCallPos true o env p2 p4 = pure p4 := by unfold methodCallPos; simp [hline]
  unfold methodCall
  rw [hform, hpos]
  simp only [pure_bind]
  rfl
/-- what the text says of such an __init__ -/
structure IText (fs : List Str) (params : Arguments) (body : List Stmt) (scope : Scope) : Prop where
  bd : ∃ (p0 p1 p2 p3 p4 p5 : Pos) (j : Nat) (txt : Str) (stores : List Stmt), body = .Expr (.Call (.Attribute (.Call (.Name "super" p0) [] [] p1) "__init__" p2) [.Constant (.str txt) j p3] [] p4) p5 :: stores ∧ Stores fs stores ∧ (p2.endLine == p4.line) = true
  hks : scope.names.lookup ("super" : Str) = some .globalImplicit
  hkc : scope.names.lookup ("__class__" : Str) = some .free
  hself : scope.names.lookup ("self" : Str) = some .local
  hf : ∀ f ∈ fs, scope.names.lookup f = some .local ∧ (f == ("__debug__" : Str)) = false
  hcell : ∀ x ∈ scope.names, x.2 ≠ .cell
  hco : scope.isCoroutine = false
  hgen : scope.isGenerator = false
  hk : scope.kind = .function
  hp : ∃ ar, (params.posonlyargs ++ params.args).head? = some ar ∧ ar.arg = ("self" : Str)
  bind : ∀ (name qual : Str) (cl : List (Str × Addr)) (kV doc pm : Value) (an : Option Addr) (cdv ct : Value) (us : List Value), us.length = fs.length + 1 → bindArgs (fnX name qual params body scope cl .none kV doc pm an cdv ct) ⟨us, []⟩ = pure ((("self" : Str) :: fs).zip us)
  nd : (("self" : Str) :: fs).Nodup
  len : fs.length ≤ 100
/-- what the written part says of the class at C -/
structure XCls (P : Program) (K : Frag) (C : Addr) (fs : List Str) (params : Arguments) (body : List Stmt) (scope : Scope) : Prop where
  cls : ∃ nm q N bs bm sn sub ab col dd k0 k1 k2 k3 k5, K.lookup C = some (excClassObj nm q C N bs bm true sn sub ab col dd k0 k1 k2 k3 k5 "ValueError.__new__") ∧ refsVE bm = true
  sa : findIn K (.ref C) "__setattr__" = some (some (.builtin "object.__setattr__"))
  ga : findIn K (.ref C) "__getattribute__" = some (some (.builtin "BaseException.__getattribute__"))
  gg : findIn K (.ref C) "__getattr__" = some none
  noF : ∀ f ∈ fs, findIn K (.ref C) f = some none
  kC : keepIn K (.ref C) = true
  exC : subIn K (.ref C) (.type "BaseException") = some true
  veC : subIn K (.ref C) (.type "ValueError") = some true
  tyC : typeIn K (.ref C) = some (.type "type")
  hdC : hasDictIn K C = true
  te : exmOne K (.ref C) (.ref C) = some true
  op : nsIn K cStatics "thirdparty.any" = some none
  sup : nsIn K mainGlobals "super" = some none
  sI : ks_superIn K C C "__init__" = some (some (.builtin "ValueError.__init__"))
  mC : mroIn K C (.ref C) = some true
  top : (P.main.scope.names.lookup ("super" : Str)).isSome = false
  fn : ∃ (fI : Addr) (name qual : Str) (oc : Value) (od : Option Addr) (kV doc pm : Value) (an : Option Addr) (cda cc : Addr) (ct ccl cl : Value) (cdd cld : Option Addr) (vs : Array Value) (file : Str) (tf : Tok) (osl ccs csl : Array (Option Value)),
    findIn K (.ref C) "__init__" = some (some (.ref fI)) ∧ typeIn K (.ref fI) = some (.type "function") ∧
    K.lookup fI = some ⟨oc, od, .func (fnX name qual params body scope [(("__class__" : Str), cc)] .none kV doc pm an (.ref cda) ct), osl⟩ ∧ codeIn K (.ref cda) qual = true ∧
    K.lookup cda = some ⟨ccl, cdd, .fields vs, ccs⟩ ∧ vs[2]? = some (.str file tf) ∧ ((P.main.file : Str) == file) = true ∧ K.lookup cc = some ⟨cl, cld, .cell (some (.ref C)), csl⟩
/-- a made exception -/
structure Made (h h' : Heap) (e C : Addr) (d : Option Addr) (ps : List (Str × Value)) : Prop where
  keep : ∀ b o, h.get? b = some o → h'.get? b = some o
  new : h.objs.size ≤ e
  obj : ∃ oe vs, h'.get? e = some oe ∧ oe.cls = .ref C ∧ oe.dict = d ∧ oe.data = .fields vs ∧ vs[1]? = some .none
  dct : DictIs h' h.objs.size e d ps
theorem zip_keys : ∀ {fs : List Str} {us : List Value}, fs.length = us.length → (fs.zip us).map (·.1) = fs
  | [], [], _ => rfl
  | f :: fs, u :: us, h => by
    rw [List.zip_cons_cons, List.map_cons, zip_keys (Nat.succ.inj h)]
  | [], _ :: _, h => by cases h
  | _ :: _, [], h => by cases h
theorem zip_fst_mem {p : Str × Value} : ∀ {fs : List Str} {us : List Value}, p ∈ fs.zip us → p.1 ∈ fs
  | [], _, h => by simp at h
  | _ :: _, [], h => by simp at h
  | f :: fs, u :: us, h => by
    rw [List.zip_cons_cons] at h
    rcases List.mem_cons.mp h with e | h
    · rw [e]; exact List.mem_cons_self ..
    · exact List.mem_cons_of_mem _ (zip_fst_mem h)
theorem exc_made {prog : Program} {w : World} {A : Around} {R : Result → Shared → Prop} {s : Shared} {K : Frag} {C : Addr} {fs : List Str} {params : Arguments} {body : List Stmt} {scope : Scope} {mg mb : Str → Option Value}
    (T : XCls prog K C fs params body scope) (I : IText fs params body scope) {us : List Value} (X : K.In s.heap) (hlim : s.heap.NoLimit) (G : s.heap.Ns mainGlobals mg) (B : s.heap.Ns builtinsNs mb) (hmb : mb "super" = bootBuiltins "super")
    (hroom : A.depth + 1 < recursionLimit) (hl : fs.length = us.length)
    (hq : ∀ h' tk e d, Made s.heap h' e C d (fs.zip us).reverse → R (.ok (.ret (.ref e))) { s with heap := h', toks := tk }) :
    codeAny (model prog w) A (.call (.ref C) ⟨us, []⟩) R s := by
  obtain ⟨nm, q, N, bs, bm, sn, sub, ab, col, dd, k0, k1, k2, k3, k5, hC, hbm⟩ := T.cls
  obtain ⟨fI, name, qual, oc, od, kV, doc, pm, an, cda, cc, ct, ccl, cl, cdd, cld, cvs, file, tf, osl, ccs, csl, iC, tI, ho, hcd, hcda, hfile0, hfile, hcc⟩ := T.fn
  obtain ⟨ar, har, harg⟩ := I.hp
  have hcl : clsIn K C = some { name := nm, bases := bs, mro := .ref C :: bm, ns := N, qualname := q, hasDict := true, slotNames := sn, subclasses := sub, abstract := ab, collection := col, hasDel := false } := by unfold clsIn; rw [hC] <;> rfl
  obtain ⟨hp, g, dr, tk, os⟩ := s
  have k : ∀ b o, hp.get? b = some o → ((hp.push (kdv_tup us)).push (excO C hp.objs.size)).get? b = some o := fun b o e => Heap.get?_push_of_some _ (Heap.get?_push_of_some _ e)
  have hget : ((hp.push (kdv_tup us)).push (excO C hp.objs.size)).get? (hp.objs.size + 1) = some (excO C hp.objs.size) := by heap_get
  have hnx : K.lookup (hp.objs.size + 1) = none := by
    cases e : K.lookup (hp.objs.size + 1) with
    | none => rfl
    | some o =>
      have z : hp.get? (hp.objs.size + 1) = some o := X _ _ e
      exact absurd (Nat.lt_of_succ_lt (Heap.lt_size z)) (Nat.lt_irrefl _)
  have hsz : us.length ≤ sizeLine := by
    rw [← hl, sizeLine_eq]
    exact Nat.le_trans I.len (by decide)
  refine call_own F.excBase_ValueError (fun X => refsVE_contains X bm hbm) (X _ _ hC) (looks_findIn X iC) (fun self => bind_fn X self tI) hsz ?_
  -- the own __init__
  generalize hx0 : hp.objs.size + 1 = x at *
  generalize hh0 : (hp.push (kdv_tup us)).push (excO C hp.objs.size) = h0 at *
  have X0 : K.In h0 := X.keeps k
  have hsize0 : h0.objs.size = hp.objs.size + 2 := by
    rw [← hh0, Heap.size_push, Heap.size_push]
  refine ks_codeAny_call_defAt (s := ⟨h0, g, dr, tk, os⟩) (fd := fnX name qual params body scope [(("__class__" : Str), cc)] .none kV doc pm an (.ref cda) ct) (body := body) (binds := (("self" : Str), .ref x) :: fs.zip us) hroom (X0 _ _ ho) rfl (hlim.keeps k) (codeRec_of X0 hcd) rfl
    (BindsTo.of_eq (I.bind name qual _ kV doc pm an _ ct (.ref x :: us) (by rw [List.length_cons, hl]))) I.hcell (fun y hy => ?_) (fun h₁ hns hk₁ => ?_) I.hco I.hgen I.hk
  · rcases List.mem_cons.mp hy with e | hy
    · rw [e]; exact I.hself
    · exact (I.hf _ (zip_fst_mem hy)).1
  have X1 : K.In h₁ := X0.keeps hk₁
  have kk : ∀ b o, hp.get? b = some o → h₁.get? b = some o := fun b o e => hk₁ b o (k b o e)
  have hx1 : h₁.get? x = some (excO C hp.objs.size) := hk₁ _ _ hget
  have hxL : x ≠ h0.objs.size := by
    rw [hsize0, ← hx0]
    exact Nat.ne_of_lt (Nat.lt_succ_self _)
  have hnd : ((((("self" : Str), Value.ref x) :: fs.zip us)).map (·.1)).Nodup := by
    rw [List.map_cons, zip_keys hl]
    exact I.nd
  have mself : (((("self" : Str), Value.ref x) :: fs.zip us)).reverse.lookup ("self" : Str) = some (Value.ref x) := lookup_rev hnd List.mem_cons_self
  obtain ⟨p0, p1, p2, p3, p4, p5, j, txt, stores, hb, hst, hline⟩ := I.bd
  rw [hb]
  have hD1 : h₁.get? C = some (excClassObj nm q C N bs bm true sn sub ab col dd k0 k1 k2 k3 k5 "ValueError.__new__") := X1 _ _ hC
  have hxC : x ≠ C := fun z => by rw [z, hC] at hnx; cases hnx
  -- super().__init__("..")
  refine ks_wpAt_execs_cons (ks_wpAt_Expr_any (ks_wpAt_MethodCall (pl := superPl _ _) ?_ (he_super hline)) (by show (scope.kind == _ && _) = false; rw [I.hk]; rfl) (by rfl))
  refine ks_wpAt_super_base I.hks I.hkc rfl rfl (X1 _ _ ho) rfl har rfl (X1 _ _ hcda) rfl hfile0 hfile T.top ?_
  refine ks_loadName_global I.hk I.hks (loadGlobal_builtin (G.keeps kk) (mg_none_of X G T.sup) (B.keeps kk) (hmb.trans (by decide +kernel : bootBuiltins "super" = some (.type "super"))) ⟨rfl, ?_⟩)
  refine wpAny_loadName_free I.hk I.hkc rfl ⟨_, X1 _ _ hcc, rfl⟩ ?_
  rw [harg]
  refine wpAny_loadName_local I.hk I.hself hns mself ?_
  refine ks_wpAny_isType_cls hD1 rfl ⟨rfl, ?_⟩
  refine ks_wpAny_call_super hD1 rfl hx1 rfl (fun c e => by cases e) (looks_mroIn X1 T.mC) (fun h2 e2 k2 => ?_)
  have X2 : K.In h2 := X1.keeps k2
  have hx2 : h2.get? x = some (excO C hp.objs.size) := k2 _ _ hx1
  have I2 : InstAt h2 x (excO C hp.objs.size) C none := ⟨hx2, rfl, rfl, trivial⟩
  have hsI : alongIn K "__init__" (((Value.ref C :: bm).dropWhile (· != .ref C)).drop 1) = some (some (.builtin "ValueError.__init__")) := by
    have z := T.sI
    unfold ks_superIn at z
    rw [hcl] at z
    exact z
  refine kxs_getMethod kxs_ValueError e2 (looks_opaque X2 T.op) (l₀ := .ref C :: bm) (fun A Q E s k q => wpAny_bind ((looks_clsIn X2 hcl) A _ E s k (wpAny_pure q))) rfl X2 hsI (I2.type.andThen (looks_subIn X2 T.veC)) hxC rfl ?_
  have e3 : (h2.push (kxs_mw "ValueError.__init__" x)).get? h2.objs.size = some (kxs_mw "ValueError.__init__" x) := Heap.get?_push_at rfl rfl
  have k3 : ∀ b o, h2.get? b = some o → (h2.push (kxs_mw "ValueError.__init__" x)).get? b = some o := fun b o e => Heap.get?_push_of_some _ e
  refine kxs_callWith (i := "ValueError.__init__") (x := x) rfl (evalArgs_plain (spliced_more (wpAny_Constant_str (spliced_none ⟨e3, ?_⟩))))
  refine call_bwV (k3 _ _ (X2 _ _ hC)) (k3 _ _ hx2) e3 (by rw [sizeLine_eq]; exact Nat.le_trans (Nat.le_refl 1) (by decide)) (fun h4 t1 k4 hx4 => ?_)
  -- the stores
  have old1 : ∀ b o, h₁.get? b = some o → b ≠ x → h4.get? b = some o := fun b o e ne => k4 b o ne (k3 _ _ (k2 _ _ e))
  have xlt : hp.objs.size ≤ x := by rw [← hx0]; exact Nat.le_succ _
  have hne : ∀ {b : Addr} {o : Obj}, hp.get? b = some o → b ≠ x := fun {b o} e => Nat.ne_of_lt (Nat.lt_of_lt_of_le (Heap.lt_size e) xlt)
  have X4 : K.In h4 := fun b o e => old1 b o (kk b o (X b o e)) (hne (X b o e))
  have hns4 : h4.Ns h0.objs.size (fun y => ((("self" : Str), Value.ref x) :: fs.zip us).reverse.lookup y) := by
    obtain ⟨oL, es, ep, hL, rest⟩ := hns
    exact ⟨oL, es, ep, old1 _ _ hL (Ne.symm hxL), rest⟩
  refine wpAt_of_wpAny ?_
  refine stores_run (env := callEnv (fnX name qual params _ scope [(("__class__" : Str), cc)] .none kV doc pm an (.ref cda) ct) h0.objs.size fI) (m := fun y => ((("self" : Str), Value.ref x) :: fs.zip us).reverse.lookup y) (K := K) (C := C) (x := x) (lo := hp.objs.size) (d := none) (ps := []) (s := ⟨h4, g, dr, _, os⟩) (vs := us) I.hk hcl (show refsVE (.ref C :: bm) = true from hbm) rfl T.sa mself I.hself (by show hp.objs.size ≤ h0.objs.size; rw [hsize0]; exact Nat.le_add_right _ _) hxL hnx hst hl (by
      show 0 + fs.length ≤ 1000
      have := I.len
      omega) (fun f hf => ⟨(I.hf f hf).1, (I.hf f hf).2, T.noF f hf⟩) (fun p hp' => lookup_rev hnd (List.mem_cons_of_mem _ hp')) X4 hns4 hx4 rfl (fun dx e => by cases e) (fun h' tk' d' k5' hx5 hd5 => ?_)
  have keep : ∀ b o, hp.get? b = some o → h'.get? b = some o := fun b o e => k5' b o (hne e) (fun dx z => by cases z) (old1 b o (kk b o e) (hne e))
  rw [List.append_nil] at hd5
  exact ⟨rfl, hq h' tk' x d' ⟨keep, xlt, ⟨_, _, hx5, rfl, rfl, rfl, rfl⟩, hd5⟩⟩
end
end XEx
end PySem

namespace L2
open PySem PySem.Spec PyProof.Rows PySem.XEx
theorem relO_rev {vs : List V} {us : List Value} : ∀ {fs : List Str}, Vals vs us → ∀ f, RelO ((fs.zip vs).reverse.lookup f) ((fs.zip us).reverse.lookup f) := by
  have key : ∀ {l1 : List (Str × V)} {l2 : List (Str × Value)}, Paired (fun (p : Str × V) (q : Str × Value) => p.1 = q.1 ∧ RelV p.2 q.2) l1 l2 → ∀ f, RelO (l1.lookup f) (l2.lookup f) := by
    intro l1 l2 h
    induction h with
    | nil => intro f; trivial
    | @cons p q l1 l2 r _ ih =>
      intro f
      obtain ⟨g, v⟩ := p
      obtain ⟨g', u⟩ := q
      obtain ⟨e, rv⟩ := r
      have e' : g = g' := e
      subst e'
      rw [lookup_put, XEx.lookup_cons]
      by_cases h : f = g
      · rw [if_pos h, if_pos h]; exact rv
      · rw [if_neg h, if_neg h]; exact ih f
  have app : ∀ {l1 m1 : List (Str × V)} {l2 m2 : List (Str × Value)}, Paired (fun (p : Str × V) (q : Str × Value) => p.1 = q.1 ∧ RelV p.2 q.2) l1 l2 → Paired (fun (p : Str × V) (q : Str × Value) => p.1 = q.1 ∧ RelV p.2 q.2) m1 m2 → Paired (fun (p : Str × V) (q : Str × Value) => p.1 = q.1 ∧ RelV p.2 q.2) (l1 ++ m1) (l2 ++ m2) := by
    intro l1 m1 l2 m2 h1 h2
    induction h1 with
    | nil => exact h2
    | cons r _ ih => exact .cons r ih
  have zp : ∀ {vs : List V} {us : List Value} {fs : List Str}, Vals vs us → Paired (fun (p : Str × V) (q : Str × Value) => p.1 = q.1 ∧ RelV p.2 q.2) (fs.zip vs).reverse (fs.zip us).reverse := by
    intro vs us fs r
    induction r generalizing fs with
    | nil => simp; exact .nil
    | @cons v u vs us r _ ih =>
      cases fs with
      | nil => simp; exact .nil
      | cons f fs =>
        rw [List.zip_cons_cons, List.zip_cons_cons, List.reverse_cons, List.reverse_cons]
        exact app ih (.cons ⟨rfl, r⟩ .nil)
  intro fs r
  exact key (zp r)
/-- X(..): an exception of a class with an own __init__ that says super().__init__("..") and stores its arguments -/
def tMkX (C : Addr) (fs : List Str) (ta : TA) : St → Hp → XK → Prop := fun σ H Q => ta σ H fun vs H1 => vs.length = fs.length ∧ (fs = [] → Q (.ref C) none H1) ∧ (fs ≠ [] → ∀ d, H1 d = none → Q (.ref C) (some d) (upd H1 d (.xd (fs.zip vs).reverse)))
section
variable {X : Cx} {C : Addr} {fs : List Str} {params : Arguments} {body : List Stmt} {scope : Scope} {k : Nat}
theorem run_mkx {pins : List (Addr × Obj)} {σ : St} {H : Hp} {s : Shared} {Q : XK} {us : List Value} {vs : List V} (T : XCls X.prog X.K C fs params body scope) (I : IText fs params body scope) (hr : Room k X.A) (I1 : Inv X pins σ H s) (r : Vals vs us) (hl : vs.length = fs.length)
    (q0 : fs = [] → Q (.ref C) none H) (q1 : fs ≠ [] → ∀ d, H d = none → Q (.ref C) (some d) (upd H d (.xd (fs.zip vs).reverse))) :
    wpAny (model X.prog X.w) X.A (call (.ref C) us) (MkP X pins σ Q) X.xe s := by
  obtain ⟨mb, hB, hmb⟩ := I1.ok.mod.blt
  have hlim := I1.nolimit
  refine wpAny_call (exc_made (mg := X.mg) (mb := mb) T I I1.kIn hlim (I1.ok.mod.glob.keeps I1.bk) (hB.keeps I1.bk) (hmb _ (by decide +kernel)) (by have := hr.dp; omega) (by rw [← hl, r.length]) fun h' tk e d M => ?_)
  obtain ⟨hp, g, dr, t, os⟩ := s
  obtain ⟨oe, fv, hoe, hc, hd, hdat, h1⟩ := M.obj
  have hne : H e = none := I1.hok.fresh M.new
  have hge : hp.get? e = none := by
    cases z : hp.get? e with
    | none => rfl
    | some o => exact absurd (Nat.lt_of_lt_of_le (Heap.lt_size z) M.new) (Nat.lt_irrefl _)
  cases d with
  | none =>
    have hz : (fs.zip us).reverse = [] := M.dct
    have hfs : fs = [] := by
      cases fs with
      | nil => rfl
      | cons f fs =>
        cases us with
        | nil =>
          rw [r.length] at hl
          cases hl
        | cons u us => simp at hz
    exact ⟨e, oe, fv, ⟨hp, g, dr, t, os⟩, H, .ref C, none, rfl, I1, M.keep, hge, hoe, ⟨hc, hd⟩, hdat, h1, hne, rfl, I1.bare, raises_own T.exC T.tyC, q0 hfs⟩
  | some dx =>
    obtain ⟨dlo, dne, hpn, hns⟩ := M.dct
    have hfs : fs ≠ [] := fun z => by
      rw [z] at hpn
      simp at hpn
    obtain ⟨G', g1, g2⟩ := restrict h' fun b => decide (b ≠ e)
    have gk : ∀ b, b ≠ e → G'.get? b = h'.get? b := fun b hb => g1 b (decide_eq_true hb)
    have ge : G'.get? e = none := g2 e (by simp)
    have old : ∀ b o, hp.get? b = some o → G'.get? b = some o := fun b o z => (gk b (fun y => by rw [y, hge] at z; cases z)).trans (M.keep b o z)
    have ob : ObjOk X.prog X.w (upd H dx (.xd (fs.zip vs).reverse)) G' dx (.xd (fs.zip vs).reverse) :=
      ⟨_, hns.at (fun o z => (gk dx dne).trans z), relO_rev r⟩
    have J : Inv X pins σ (upd H dx (.xd (fs.zip vs).reverse)) ⟨G', g, dr, tk, os⟩ := I1.laid (t' := tk) old dlo ob
    refine ⟨e, oe, fv, ⟨G', g, dr, tk, os⟩, _, .ref C, some dx, rfl, J, fun b o z => ?_, ge, hoe, ⟨hc, hd⟩, hdat, h1, ?_, rfl, I1.bare, raises_own T.exC T.tyC, q1 hfs dx (I1.hok.fresh dlo)⟩
    · by_cases hb : b = e
      · have z' : G'.get? b = some o := z
        rw [hb, ge] at z'; cases z'
      · exact (gk b hb).symm.trans z
    · rw [upd_ne (Ne.symm dne)]
      exact hne
theorem pmk_x {x : Str} {e : Expr} {es : List Expr} {ta : TA} {p pos : Pos} (T : XCls X.prog X.K C fs params body scope) (I : IText fs params body scope) (hm : X.mg x = some (.ref C)) (hr : Room k X.A) (ha : PA X (e :: es) ta) (hg : Gl X x := by rfl) (hdb : (x == ("__debug__" : Str)) = false := by decide)
    (he : starEach (e :: es) X.env = (false, eval e X.env) :: starEach es X.env := by rfl) (hpl : (backTo pos (starEach es X.env)).any (·.1) = false := by rfl) : PMk X (.Call (.Name x p) (e :: es) [] pos) (tMkX C fs ta) := by
  intro pins s σ H Q J h
  refine wpAny_Call_Name_kw (ld_glob J hg hm ?_ hdb)
  refine PySem.W.callWith_K (h₀ := X.base) J.ok.mod.kin T.kC (thn (ha.run pos pins s σ H _ J h) fun us s1 hh => ?_) he hpl
  obtain ⟨vs, H1, I1, r1, hl, q0, q1⟩ := hh
  exact ⟨I1.kIn, run_mkx T I hr I1 r1 hl q0 q1⟩
theorem pmk_x0 {x : Str} {p pos : Pos} (T : XCls X.prog X.K C fs params body scope) (I : IText fs params body scope) (hm : X.mg x = some (.ref C)) (hr : Room k X.A) (hg : Gl X x := by rfl) (hdb : (x == ("__debug__" : Str)) = false := by decide) : PMk X (.Call (.Name x p) [] [] pos) (tMkX C fs tNil) := by
  intro pins s σ H Q J h
  refine wpAny_Call_Name_kw (ld_glob J hg hm ?_ hdb)
  obtain ⟨hl, q0, q1⟩ := h
  exact PySem.W.callWith_K0 J.kIn T.kC (run_mkx T I hr J (.nil : Vals [] []) hl q0 q1)
/-- raise X(..) -/
def tRaiseX (C : Addr) (fs : List Str) (W : WX) (ta : TA) : TS := fun _ σ H => tMkX C fs ta σ H fun cls d H' => W cls d σ H'
theorem ps_raiseX {x : Str} {e : Expr} {es : List Expr} {ta : TA} {W : WX} {p pos pos2 : Pos} (hc : X.calm = true) (T : XCls X.prog X.K C fs params body scope) (I : IText fs params body scope) (hm : X.mg x = some (.ref C)) (hr : Room k X.A) (tk : Takes X W) (ha : PA X (e :: es) ta) (hg : Gl X x := by rfl) (hdb : (x == ("__debug__" : Str)) = false := by decide)
    (he : starEach (e :: es) X.env = (false, eval e X.env) :: starEach es X.env := by rfl) (hpl : (backTo pos (starEach es X.env)).any (·.1) = false := by rfl) : PS X (.Raise (some (.Call (.Name x p) (e :: es) [] pos)) none pos2) (tRaiseX C fs W ta) := ps_raise hc tk (pmk_x T I hm hr ha hg hdb he hpl)
theorem ps_raiseX0 {x : Str} {W : WX} {p pos pos2 : Pos} (hc : X.calm = true) (T : XCls X.prog X.K C fs params body scope) (I : IText fs params body scope) (hm : X.mg x = some (.ref C)) (hr : Room k X.A) (tk : Takes X W) (hg : Gl X x := by rfl) (hdb : (x == ("__debug__" : Str)) = false := by decide) : PS X (.Raise (some (.Call (.Name x p) [] [] pos)) none pos2) (tRaiseX C fs W tNil) := ps_raise hc tk (pmk_x0 T I hm hr hg hdb)
/-- e.f, e the exception that the suite holds (at a; its class cls, its dict d) -/
def tByX (C : Addr) (f : Str) (a : Addr) (cls : Value) (d : Option Addr) (te : TE) : TE := fun σ H Q => te σ H fun x H1 => x = .ref a ∧ cls = .ref C ∧ ∃ (dd : Addr) (ps : List (Str × V)) (v : V), d = some dd ∧ H1 dd = some (.xd ps) ∧ ps.lookup f = some v ∧ Q v H1
theorem pe_byX {a : Addr} {oe : Obj} {cls : Value} {d : Option Addr} {pn : List (Addr × Obj)} {e : Expr} {te : TE} {pos : Pos} {f : Str} (T : XCls X.prog X.K C fs params body scope) (hf' : PySem.W.findIn X.K (.ref C) f = some none) (hz : Zc cls d oe) (hf : ∃ vs, oe.data = .fields vs) (he : PE (X.suite a ((a, oe) :: pn)) e te)
    (hb : attributeBase e f X.env (eval e X.env) = eval e X.env := by rfl) : PE (X.suite a ((a, oe) :: pn)) (.Attribute e f pos) (tByX C f a cls d te) := by
  refine ⟨fun pins s σ H Q I h => ?_⟩
  refine attr_of hb (thn (he.run pins s σ H _ I h) fun u s1 hh => ?_)
  obtain ⟨x, H1, I1, rx, ex, ec, dd, ps, v, ed, ea, l, q⟩ := hh
  subst ex
  obtain rfl : u = Value.ref a := rx
  subst ec
  subst ed
  obtain ⟨ha, _⟩ := I1.pin (a, oe) (List.mem_append_left _ List.mem_cons_self)
  obtain ⟨vs, hd⟩ := hf
  have hx : ObjOk X.prog X.w H1 s1.heap dd (.xd ps) := I1.hok dd _ ea
  obtain ⟨mA, hns, hr⟩ := hx
  obtain ⟨od, ho, hl⟩ := lookIn_ns hns
  obtain ⟨u, hu, ru⟩ := RelO.some_of (v := v) (o := mA f) (by rw [← l]; exact hr f)
  have J : PySem.W.InstAt s1.heap a oe C (some od) := ⟨ha, hz.1, by unfold PySem.W.notCls; rw [hd] <;> rfl, by rw [hz.2]; exact ho⟩
  exact HandSPX.exc_get I1.kIn J T.ga T.gg T.exC (PySem.W.findObj_own T.hdC hf' rfl (by rw [hl, hu])) (handed_of ru) ⟨v, H1, I1.tok _, ru, q⟩
end
end L2

namespace M
open PySem PySem.Spec PyProof.Rows L2 PySem.XEx
/-! ### a hook over any test of the written part, the defs, and the exception classes' own __init__ -/
/-- an own exception class with an __init__: its name, fields, and the text of its __init__ -/
structure XD where
  cls : Str
  fs : List Str
  params : Arguments
  body : List Stmt
  scope : Scope
abbrev FnX : Type := Option (Arguments × FuncBody × Scope × Addr × Addr)
def XD.obs (K : PySem.W.Frag) (d : XD) : FnX := match K.lookup (He.ma K (He.ga K d.cls) "__init__") with
  | some ⟨_, _, .func fd, _⟩ => some (fd.params, fd.body, fd.scope, fd.globals, fd.builtins)
  | _ => none
def XD.val (d : XD) : FnX := some (d.params, .stmts d.body, d.scope, mainGlobals, builtinsNs)
def clsOk (K : PySem.W.Frag) (C : Addr) : Bool := match K.lookup C with
  | some ⟨.type t, _, .cls cd, sl⟩ => decide (t = "type") && (match cd.mro, sl.toList with
    | .ref C' :: bm, [_, _, _, _, some (.builtin n), _] => C' == C && (n == "ValueError.__new__" && (cd.hasDict && (!cd.hasDel && HandSPX.refsVE bm)))
    | _, _ => false)
  | _ => false
theorem clsOk_ok {K : PySem.W.Frag} {C : Addr} (h : clsOk K C = true) : ∃ nm q N bs bm sn sub ab col dd k0 k1 k2 k3 k5, K.lookup C = some (excClassObj nm q C N bs bm true sn sub ab col dd k0 k1 k2 k3 k5 "ValueError.__new__") ∧ HandSPX.refsVE bm = true := by
  unfold clsOk at h
  split at h
  · rename_i t dd cd sl ho
    obtain ⟨ht, h⟩ := He.ba h
    split at h
    · rename_i C' bm k0 k1 k2 k3 n k5 hm hs
      obtain ⟨h1, h⟩ := He.ba h
      obtain ⟨h2, h⟩ := He.ba h
      obtain ⟨h3, h⟩ := He.ba h
      obtain ⟨h4, h5⟩ := He.ba h
      have e1 : C' = C := eq_of_beq h1
      have e2 : n = "ValueError.__new__" := eq_of_beq h2
      have e4 : cd.hasDel = false := by simpa using h4
      have e0 : t = "type" := of_decide_eq_true ht
      subst e1 e2 e0
      obtain ⟨nm, bs, mro, ns, qn, hd, sn, sub, ab, col, del⟩ := cd
      dsimp only at hm h3 e4
      subst hm h3 e4
      have hsl : sl = #[k0, k1, k2, k3, some (.builtin "ValueError.__new__"), k5] := by
        obtain ⟨l⟩ := sl
        simp only at hs
        rw [hs]
      subst hsl
      exact ⟨nm, qn, ns, bs, bm, sn, sub, ab, col, dd, k0, k1, k2, k3, k5, ho, h5⟩
    · cases h
  · cases h
def fnOk (P : Program) (K : PySem.W.Frag) (C fI : Addr) : Bool := match K.lookup fI with
  | some ⟨_, _, .func fd, _⟩ => (match fd.code with
      | .ref cda => PySem.W.codeIn K (.ref cda) fd.qualname && (match K.lookup cda with
        | some ⟨_, _, .fields vs, _⟩ => (match (vs[2]? : Option Value) with
          | some (.str file _) => P.main.file == file
          | _ => false)
        | _ => false)
      | _ => false) && ((match fd.closure with
      | [(n, cc)] => decide (n = ("__class__" : Str)) && (match K.lookup cc with
        | some ⟨_, _, .cell (some (.ref D)), _⟩ => decide (D = C)
        | _ => false)
      | _ => false) && (match fd.defaults with
      | .none => true
      | _ => false))
  | _ => false
def XD.ok (P : Program) (K : PySem.W.Frag) (d : XD) : Bool :=
  let C := He.ga K d.cls
  let fI := He.ma K C "__init__"
  He.eqO (PySem.W.nsIn K mainGlobals d.cls) (some (some (.ref C))) && (clsOk K C && (He.eqO (PySem.W.findIn K (.ref C) "__setattr__") (some (some (.builtin "object.__setattr__"))) && (He.eqO (PySem.W.findIn K (.ref C) "__getattribute__") (some (some (.builtin "BaseException.__getattribute__"))) &&
  (He.eqO (PySem.W.findIn K (.ref C) "__getattr__") (some none) && ((d.fs.all fun f => He.eqO (PySem.W.findIn K (.ref C) f) (some none)) && (PySem.W.keepIn K (.ref C) && (decide (PySem.W.subIn K (.ref C) (.type "BaseException") = some true) &&
  (decide (PySem.W.subIn K (.ref C) (.type "ValueError") = some true) && (decide (PySem.W.typeIn K (.ref C) = some (.type "type")) && (PySem.W.hasDictIn K C && (decide (PySem.W.exmOne K (.ref C) (.ref C) = some true) &&
  (He.eqO (PySem.W.nsIn K cStatics "thirdparty.any") (some none) && (He.eqO (PySem.W.nsIn K mainGlobals "super") (some none) && (He.eqO (PySem.W.ks_superIn K C C "__init__") (some (some (.builtin "ValueError.__init__"))) && (decide (PySem.W.mroIn K C (.ref C) = some true) &&
  (He.eqO (PySem.W.findIn K (.ref C) "__init__") (some (some (.ref fI))) && (decide (PySem.W.typeIn K (.ref fI) = some (.type "function")) && fnOk P K C fI)))))))))))))))))
theorem XD.cls_of {P : Program} {K : PySem.W.Frag} {d : XD} (e : d.obs K = d.val) (c : d.ok P K = true) (ht : (P.main.scope.names.lookup ("super" : Str)).isSome = false) :
    XCls P K (He.ga K d.cls) d.fs d.params d.body d.scope := by
  unfold XD.ok at c
  obtain ⟨c0, c⟩ := He.ba c
  obtain ⟨c1, c⟩ := He.ba c
  obtain ⟨c2, c⟩ := He.ba c
  obtain ⟨c3, c⟩ := He.ba c
  obtain ⟨c4, c⟩ := He.ba c
  obtain ⟨c5, c⟩ := He.ba c
  obtain ⟨c6, c⟩ := He.ba c
  obtain ⟨c7, c⟩ := He.ba c
  obtain ⟨c8, c⟩ := He.ba c
  obtain ⟨c9, c⟩ := He.ba c
  obtain ⟨c10, c⟩ := He.ba c
  obtain ⟨c11, c⟩ := He.ba c
  obtain ⟨c12, c⟩ := He.ba c
  obtain ⟨c13, c⟩ := He.ba c
  obtain ⟨c14, c⟩ := He.ba c
  obtain ⟨c15, c⟩ := He.ba c
  obtain ⟨c16, c⟩ := He.ba c
  obtain ⟨c17, c18⟩ := He.ba c
  refine { cls := clsOk_ok c1, sa := He.eqO_ok c2, ga := He.eqO_ok c3, gg := He.eqO_ok c4, noF := fun f hf => He.eqO_ok (List.all_eq_true.mp c5 f hf), kC := c6, exC := of_decide_eq_true c7, veC := of_decide_eq_true c8, tyC := of_decide_eq_true c9, hdC := c10, te := of_decide_eq_true c11, op := He.eqO_ok c12, sup := He.eqO_ok c13, sI := He.eqO_ok c14, mC := of_decide_eq_true c15, top := ht, fn := ?_ }
  generalize hfI : He.ma K (He.ga K d.cls) "__init__" = fI at *
  unfold fnOk at c18
  unfold XD.obs at e
  rw [hfI] at e
  cases q : K.lookup fI with
  | none =>
    rw [q] at c18
    cases c18
  | some o =>
    obtain ⟨oc, od, dt, osl⟩ := o
    rw [q] at c18 e
    cases dt with
    | func fd =>
      obtain ⟨n1, n2, n3, n4, n5, n6, n7, n8, n9, n10, n11, n12, n13, n14, n15⟩ := fd
      have e2 : (some (n3, n4, n5, n6, n15) : FnX) = some (d.params, .stmts d.body, d.scope, mainGlobals, builtinsNs) := e
      simp only [Option.some.injEq, Prod.mk.injEq] at e2
      obtain ⟨h1, h2, h3, h4, h5⟩ := e2
      subst h1 h2 h3 h4 h5
      obtain ⟨k1, kr⟩ := He.ba c18
      obtain ⟨k2, k3⟩ := He.ba kr
      clear kr
      dsimp only at k1 k2 k3
      cases n13 with
      | ref cda =>
        obtain ⟨j1, j2⟩ := He.ba k1
        split at j2
        · rename_i ccl cdd vs ccs hcda
          split at j2
          · rename_i file tf hfile0
            cases n7 with
            | nil => cases k2
            | cons p rr =>
              obtain ⟨n, cc⟩ := p
              cases rr with
              | cons _ _ => cases k2
              | nil =>
                have k2' : (decide (n = ("__class__" : Str)) && (match K.lookup cc with
                  | some ⟨_, _, .cell (some (.ref D)), _⟩ => decide (D = He.ga K d.cls)
                  | _ => false)) = true := k2
                obtain ⟨i1, i2⟩ := He.ba k2'
                have en : n = ("__class__" : Str) := of_decide_eq_true i1
                subst en
                split at i2
                · rename_i cl cld D csl hcc
                  have eD : D = He.ga K d.cls := of_decide_eq_true i2
                  subst eD
                  cases n8 with
                  | none => exact ⟨fI, n1, n2, oc, od, n9, n10, n11, n12, cda, cc, n14, ccl, cl, cdd, cld, vs, file, tf, osl, ccs, csl, He.eqO_ok c16, of_decide_eq_true c17, q, j1, hcda, hfile0, j2, hcc⟩
                  | _ => cases k3
                · cases i2
          · cases j2
        · cases j2
      | _ => cases k1
    | _ => cases c18
/-! ### the hook -/
abbrev AlM : Type := Bool × List He.FnW × List FnX
def asM (g : Addr → Option Obj) : Nat → List Addr
  | 0 => [mainGlobals, cStatics]
  | n + 1 => He.growD g (asM g n)
def obsM (P : Program) (fb : PySem.W.Frag → Bool) (fn : List He.DefD) (xs : List XD) (K : PySem.W.Frag) : AlM := (fb K && ((fn.all fun d => d.ok K) && xs.all fun d => d.ok P K), fn.map fun d => He.fnW K d.at_, xs.map fun d => d.obs K)
def valM (fn : List He.DefD) (xs : List XD) : AlM := (true, fn.map He.DefD.val, xs.map XD.val)
def SaysM (P : Program) (fb : PySem.W.Frag → Bool) (fn : List He.DefD) (xs : List XD) (K : PySem.W.Frag) : Prop := obsM P fb fn xs K = valM fn xs
def obsMG (P : Program) (n : Nat) (fb : PySem.W.Frag → Bool) (fn : List He.DefD) (xs : List XD) (g : Addr → Option Obj) : AlM := obsM P fb fn xs (He.frG g (asM g n))
def hookM (P : Program) (n : Nat) (fb : PySem.W.Frag → Bool) (fn : List He.DefD) (xs : List XD) : PySem.W.Hook where
  α := AlM
  obs := fun s => obsMG P n fb fn xs s.heap.get?
  val := fun _ => valM fn xs
  says := fun _ h => ∃ K : PySem.W.Frag, K.In h ∧ SaysM P fb fn xs K
  of := fun _ _ e => ⟨_, He.frG_in, e⟩
  keeps := fun _ _ _ ⟨K, hK, c⟩ k => ⟨K, PySem.W.Frag.In.keeps hK k, c⟩
theorem obsMG_eq {P : Program} {n : Nat} {fb : PySem.W.Frag → Bool} {fn : List He.DefD} {xs : List XD} {g : Addr → Option Obj} {s : Shared} (h : ∀ a, g a = s.heap.get? a) : obsMG P n fb fn xs g = (hookM P n fb fn xs).obs s := by
  have e : g = s.heap.get? := funext h
  rw [e] <;> rfl
section
variable {P : Program} {fb : PySem.W.Frag → Bool} {fn : List He.DefD} {xs : List XD} {K : PySem.W.Frag}
theorem SaysM.all (c : SaysM P fb fn xs K) : (fb K && ((fn.all fun d => d.ok K) && xs.all fun d => d.ok P K)) = true := congrArg (fun z : AlM => z.1) c
theorem SaysM.fact (c : SaysM P fb fn xs K) : fb K = true := (He.ba c.all).1
theorem SaysM.def_ (c : SaysM P fb fn xs K) (i : Nat) {d : He.DefD} (h : fn[i]? = some d := by rfl) : ∃ fd, FunD K d.name d.qual d.params d.body d.scope (d.dvs K) (d.kws K) (He.fAd K d.at_) fd := by
  have c2 := (He.ba (He.ba c.all).2).1
  have e : fn.map (fun d => He.fnW K d.at_) = fn.map He.DefD.val := congrArg (fun z : AlM => z.2.1) c
  have e2 : (fn.map fun d => He.fnW K d.at_)[i]? = (fn.map He.DefD.val)[i]? := by rw [e]
  rw [List.getElem?_map, List.getElem?_map, h] at e2
  exact He.DefD.funD (Option.some.inj e2) (List.all_eq_true.mp c2 d (List.mem_of_getElem? h))
theorem SaysM.exc (c : SaysM P fb fn xs K) (ht : (P.main.scope.names.lookup ("super" : Str)).isSome = false) (i : Nat) {d : XD} (h : xs[i]? = some d := by rfl) : XCls P K (He.ga K d.cls) d.fs d.params d.body d.scope := by
  have c2 := (He.ba (He.ba c.all).2).2
  have e : xs.map (fun d => d.obs K) = xs.map XD.val := congrArg (fun z : AlM => z.2.2) c
  have e2 : (xs.map fun d => d.obs K)[i]? = (xs.map XD.val)[i]? := by rw [e]
  rw [List.getElem?_map, List.getElem?_map, h] at e2
  exact XD.cls_of (Option.some.inj e2) (List.all_eq_true.mp c2 d (List.mem_of_getElem? h)) ht
theorem SaysM.mgx (c : SaysM P fb fn xs K) {h : Heap} {mg : Str → Option Value} (X : K.In h) (G : h.Ns mainGlobals mg) (i : Nat) {d : XD} (hi : xs[i]? = some d := by rfl) : mg d.cls = some (.ref (He.ga K d.cls)) := by
  have c2 := List.all_eq_true.mp (He.ba (He.ba c.all).2).2 d (List.mem_of_getElem? hi)
  unfold XD.ok at c2
  exact PySem.W.mg_of X G (He.eqO_ok (He.ba c2).1)
end
end M

namespace L2
open PySem PySem.Spec PyProof.Rows
theorem Same.mut {H H' : Hp} {p : Addr} {o : HO} (e : Same H H') (h : H p = none) : Same H (upd H' p o) := fun a u ha => by
  rw [upd_ne (ne_of_none ha h)]
  exact e a u ha
theorem Same.new {H H' : Hp} {p : Addr} {o : HO} (e : Same H H') (h : H' p = none) : Same H (upd H' p o) := fun a u ha => by
  rw [upd_ne (ne_of_none (e a u ha) h)]
  exact e a u ha
end L2
namespace M
open PySem PySem.Spec PyProof.Rows L2
abbrev FnP (K : PySem.W.Frag) (x : Str) (st : Stmt) (f : Addr) (fd : FuncData) : Prop := FunD K x x (defArgs st) (defBody st) (defScope st) [] [] f fd
/-! ### ints in a list -/
theorem int_at {ns : List Int} {i : Nat} {y : V} (h : (ns.map V.int)[i]? = some y) : ∃ z, ns[i]? = some z ∧ y = .int z := by
  rw [List.getElem?_map] at h
  cases e : ns[i]? with
  | none => rw [e] at h; cases h
  | some z => rw [e] at h; exact ⟨z, rfl, (Option.some.inj h).symm⟩
theorem lt_of_at {α : Type} {l : List α} {i : Nat} {y : α} (h : l[i]? = some y) : i < l.length := (List.getElem?_eq_some_iff.mp h).1
/-- a list of draws -/
def Dr (ds : List Int) : Prop := ∀ d ∈ ds, 0 ≤ d ∧ d < 1000
theorem Dr.nil : Dr [] := fun _ h => by cases h
theorem Dr.snoc {ds : List Int} {d : Int} (h : Dr ds) (h0 : 0 ≤ d) (h1 : d < 1000) : Dr (ds ++ [d]) := fun x hx => by
  rcases List.mem_append.mp hx with hx | hx
  · exact h x hx
  · rw [List.mem_singleton.mp hx]; exact ⟨h0, h1⟩
theorem size_ok {n m : Nat} (h : n ≤ m) (hm : m < 16777216) : n < sizeLine := by rw [sizeLine_eq]; omega
theorem cut_to (xs : List V) {n : Nat} (h : n ≤ xs.length) : cutV xs none (some (n : Int)) = xs.take n := by
  unfold cutV
  rw [HT.sIx_nat, HT.sIx_none, Nat.min_eq_left h]
  simp
theorem fm_nonneg (z : Int) {m : Int} (h : 0 < m) : 0 ≤ z.fmod m := by
  rw [Int.fmod_eq_emod_of_nonneg _ (Int.le_of_lt h)]
  exact Int.emod_nonneg _ (by omega)
theorem fm_lt (z : Int) {m : Int} (h : 0 < m) : z.fmod m < m := by
  rw [Int.fmod_eq_emod_of_nonneg _ (Int.le_of_lt h)]
  exact Int.emod_lt_of_pos _ h
/-- what the text's top leaves of the names that every law uses -/
structure Bi (mg : Str → Option Value) : Prop where
  abs : mg "abs" = none
  int : mg "int" = none
  len : mg "len" = none
  range : mg "range" = none
end M

namespace L2
open PySem PySem.Spec PyProof.Rows
theorem foldl_repT (c : Nat) : ∀ (n : Nat) (acc : Array Nat), ((List.replicate n (#[c] : Array Nat)).foldl (· ++ ·) acc).toList = acc.toList ++ List.replicate n c := by
  intro n
  induction n with
  | zero => intro acc; simp
  | succ n ih =>
    intro acc
    rw [List.replicate_succ, List.foldl_cons, ih, Array.toList_append, List.replicate_succ, List.append_assoc]
    rfl
theorem txt_mul_one (c : Nat) (n : Int) (h : 1 ≤ n) : Txt.mul ⟨#[c]⟩ n = ⟨(List.replicate n.toNat c).toArray⟩ := by
  unfold Txt.mul
  rw [if_neg (by omega)]
  split
  · rename_i h1
    have e : n = 1 := by
      have h2 : ((n == 1) || ((⟨#[c]⟩ : Str).length == 0)) = true := h1
      rw [show ((⟨#[c]⟩ : Str).length == 0) = false from rfl, Bool.or_false] at h2
      exact eq_of_beq h2
    rw [e]
    rfl
  · have z := foldl_repT c n.toNat #[]
    have e : ((List.replicate n.toNat (#[c] : Array Nat)).foldl (· ++ ·) #[]) = (List.replicate n.toNat c).toArray := by
      apply Array.ext'
      rw [z]
      simp
    show (⟨(List.replicate n.toNat (⟨#[c]⟩ : Str).cps).foldl (· ++ ·) #[]⟩ : Str) = _
    rw [show ((⟨#[c]⟩ : Str).cps) = #[c] from rfl, e]
section
variable {X : Cx}
/-- 'c' * n -/
theorem op_mul_str : OpR X (binaryOp .Mult) (fun x y H Q => ∃ (c : Nat) (n : Int), x = .str ⟨#[c]⟩ ∧ y = .int n ∧ (1 ≤ n ∧ n ≤ 1000) ∧ Q (.str ⟨(List.replicate n.toNat c).toArray⟩) H) := by
  intro pins s σ H x y v u Q I rx ry h
  obtain ⟨c, n, rfl, rfl, ⟨h1, h2⟩, q⟩ := h
  obtain ⟨t, rfl⟩ := rx
  obtain ⟨t', rfl⟩ := ry
  refine SB.mul ⟨?_, fun _ _ => ?_, fun _ _ => ?_⟩ (fun t' k => ⟨.str ⟨(List.replicate n.toNat c).toArray⟩, H, I.tok _, ⟨t', by rw [txt_mul_one c n h1]⟩, q⟩)
  · simp only [Bool.or_eq_false_iff, decide_eq_false_iff_not]
    omega
  · show ¬ (((1 : Nat) : Int) > (2 ^ 63 - 1) / n)
    have : 1 ≤ (2 ^ 63 - 1 : Int) / n := by
      rw [Int.le_ediv_iff_mul_le (by omega)]
      omega
    omega
  · show Builtin.Str.tooLong (1 * n.toNat) = false
    unfold Builtin.Str.tooLong
    rw [decide_eq_false_iff_not, sizeLine_eq]
    omega
end
end L2
namespace M
open PySem PySem.Spec PyProof.Rows L2
/-! ### the names: which texts _law_names gives -/
def ltr (d k : Nat) : Nat := 97 + (d / 4 % 26 + 7 * k) % 26
def tailZ : List Nat := [122, 121, 120, 119, 118, 117, 116, 115]
def nmC (d n k : Nat) : List Nat :=
  if d % 4 = 0 then [ltr d k]
  else if d % 4 = 1 then List.replicate (d / 104 % 7) 113 ++ ([ltr d k] ++ List.replicate (6 - d / 104 % 7) 113)
  else if d % 4 = 2 then List.replicate (n - k) (97 + d / 4 % 26)
  else ltr d k :: tailZ.take ((d + 3 * k) % 8)
def nm (d n k : Nat) : Str := ⟨(nmC d n k).toArray⟩
def nmL (d n : Nat) : List Str := (List.range n).map (nm d n)
theorem nmL_len (d n : Nat) : (nmL d n).length = n := by unfold nmL; simp
theorem nmL_at {d n k : Nat} (h : k < n) : (nmL d n)[k]? = some (nm d n k) := by
  unfold nmL
  rw [List.getElem?_map, List.getElem?_range h]
  rfl
/-- a good name -/
def NameOk (s : Str) : Prop := 1 ≤ s.cps.toList.length ∧ s.cps.toList.length ≤ 8 ∧ ∀ c ∈ s.cps.toList, 97 ≤ c ∧ c ≤ 122
theorem ltr_in (d k : Nat) : 97 ≤ ltr d k ∧ ltr d k ≤ 122 := by unfold ltr; omega
theorem nm_ok {d n k : Nat} (hn : n ≤ 8) (hk : k < n) : NameOk (nm d n k) := by
  have hl := ltr_in d k
  unfold NameOk nm nmC
  simp only
  split
  · exact ⟨by simp, by simp, fun c hc => by simp at hc; rw [hc]; exact hl⟩
  · split
    · refine ⟨by simp; omega, by simp; omega, fun c hc => ?_⟩
      simp only [List.mem_append, List.mem_replicate, List.mem_singleton] at hc
      rcases hc with ⟨_, e⟩ | e | ⟨_, e⟩ <;> rw [e] <;> first | exact hl | omega
    · split
      · refine ⟨by simp; omega, by simp; omega, fun c hc => ?_⟩
        simp only [List.mem_replicate] at hc
        omega
      · refine ⟨by simp, by simp [tailZ]; omega, fun c hc => ?_⟩
        simp only [List.mem_cons] at hc
        rcases hc with e | hc
        · rw [e]; exact hl
        · have hm := List.mem_of_mem_take hc
          simp only [tailZ, List.mem_cons, List.not_mem_nil, or_false] at hm
          omega
theorem nm_inj {d n j k : Nat} (hn : n ≤ 26) (hj : j < n) (hk : k < n) (e : nm d n j = nm d n k) : j = k := by
  have e1 : nmC d n j = nmC d n k := by
    have z := congrArg (fun s : Str => s.cps.toList) e
    simpa [nm] using z
  have key : ltr d j = ltr d k → j = k := by unfold ltr; omega
  unfold nmC at e1
  by_cases h0 : d % 4 = 0
  · rw [if_pos h0, if_pos h0] at e1
    exact key (List.cons.inj e1).1
  · rw [if_neg h0, if_neg h0] at e1
    by_cases h1 : d % 4 = 1
    · rw [if_pos h1, if_pos h1] at e1
      have e2 := List.append_cancel_left e1
      exact key (List.cons.inj e2).1
    · rw [if_neg h1, if_neg h1] at e1
      by_cases h2 : d % 4 = 2
      · rw [if_pos h2, if_pos h2] at e1
        have e2 := congrArg List.length e1
        rw [List.length_replicate, List.length_replicate] at e2
        omega
      · rw [if_neg h2, if_neg h2] at e1
        exact key (List.cons.inj e1).1
theorem nmL_nodup {d n : Nat} (hn : n ≤ 26) : (nmL d n).Nodup := by
  unfold nmL
  rw [List.Nodup, List.pairwise_map]
  refine List.Pairwise.imp_of_mem (R := fun a b => a ≠ b) (fun {a b} ha hb hab e => hab (nm_inj hn (List.mem_range.mp ha) (List.mem_range.mp hb) e)) (List.nodup_range)
theorem nmL_mem_ok {d n : Nat} (hn : n ≤ 8) {s : Str} (h : s ∈ nmL d n) : NameOk s := by
  unfold nmL at h
  obtain ⟨k, hk, rfl⟩ := List.mem_map.mp h
  exact nm_ok hn (List.mem_range.mp hk)
end M

namespace M
open PySem PySem.Spec PyProof.Rows L2
/-! ### calls, whatever is raised: at the caller's slots it is wished for by W -/
/-- a def of the module -/
structure Cal (P : Program) (w : World) (K : PySem.W.Frag) (mg : Str → Option Value) (base : Heap) (k : Nat) (x : Str) (ps : List Str) (sp : Sp) : Prop where
  ex : ∃ (f : Addr) (fd : FuncData), mg x = some (.ref f) ∧ PySem.W.keepIn K (.ref f) = true ∧ Binds K fd ps [] ∧ FnOk P w K mg base (L2.CX P w) k f fd ps sp
/-- a method of the class at C (its own or a base's) -/
structure Mth (P : Program) (w : World) (K : PySem.W.Frag) (mg : Str → Option Value) (base : Heap) (k : Nat) (C : Addr) (m : Str) (ps : List Str) (sp : Sp) : Prop where
  cl : Cls K C
  ex : ∃ (f : Addr) (fd : FuncData), Meth K C m f ∧ Binds K fd ps [] ∧ FnOk P w K mg base (L2.CX P w) k f fd ps sp
/-- C.m read off the class, a plain def -/
structure ClF (K : PySem.W.Frag) (C : Addr) (m : Str) (f : Addr) : Prop where
  rd : PySem.W.readsIn K C (.type "type") = true
  ga : PySem.W.specialIn K (.ref C) "__getattribute__" = some (some (.builtin "type.__getattribute__"))
  at_ : PySem.W.findCls K (.ref C) (.type "type") m = some (.val (.ref f))
  kp : PySem.W.keepIn K (.ref f) = true
structure CFn (P : Program) (w : World) (K : PySem.W.Frag) (mg : Str → Option Value) (base : Heap) (k : Nat) (x : Str) (m : Str) (ps : List Str) (sp : Sp) : Prop where
  ex : ∃ (C f : Addr) (fd : FuncData), mg x = some (.ref C) ∧ ClF K C m f ∧ Binds K fd ps [] ∧ FnOk P w K mg base (L2.CX P w) k f fd ps sp
/-- C(..) -/
structure Mak (P : Program) (w : World) (K : PySem.W.Frag) (mg : Str → Option Value) (base : Heap) (k : Nat) (x : Str) (C : Addr) (ps : List Str) (sp : Sp) : Prop where
  gC : mg x = some (.ref C)
  ex : ∃ (f : Addr) (fd : FuncData), Mk K C f ∧ Binds K fd ps [] ∧ FnOk P w K mg base (L2.CX P w) k f fd ps sp
section
variable {X : Cx} {k j : Nat} {x m : Str} {ps : List Str} {sp : Sp} {W : WX} {e o : Expr} {es : List Expr} {t : TA} {ta : TE} {p pos apos np : Pos} {C : Addr}
theorem pe_cal (G : Cal X.prog X.w X.K X.mg X.base k x ps sp) (hr : Room j X.A) (tk : Takes X W) (ha : PA X (e :: es) t) (hk : k ≤ j := by decide) (hg : Gl X x := by rfl) (hdb : (x == ("__debug__" : Str)) = false := by decide)
    (he : starEach (e :: es) X.env = (false, eval e X.env) :: starEach es X.env := by rfl) (hpl : (backTo pos (starEach es X.env)).any (·.1) = false := by rfl) : PE X (.Call (.Name x p) (e :: es) [] pos) (tCallS sp (WE W) t) := by
  obtain ⟨f, fd, hm, hkp, hb, F⟩ := G.ex
  exact pe_callS F (hr.mono hk) hg hm hkp hb (fun σ => passAt tk σ) ha hdb he hpl
def tMethS (m : Str) (sp : Sp) (C : Addr) (E : L2.St → XK) (ta : TE) (t : TA) : TE := fun σ H Q => ta σ H fun x H1 => ∃ a dx fs, x = .ref a ∧ H1 a = some (.ins C dx fs) ∧ fs.lookup m = none ∧ t σ H1 fun vs H2 => sp (x :: vs) H2 Q (E σ)
theorem pe_mth {pl : Sem Bool} (G : Mth X.prog X.w X.K X.mg X.base k C m ps sp) (hr : Room j X.A) (tk : Takes X W) (he : PE X o ta) (ha : PA X (e :: es) t) (hk : k ≤ j := by decide)
    (hst : starEach (e :: es) X.env = (false, eval e X.env) :: starEach es X.env := by rfl) (hpl : (backTo pos (starEach es X.env)).any (·.1) = false := by rfl)
    (ht : eval (.Call (.Attribute o m apos) (e :: es) [] pos) X.env = (do
      let ov ← eval o X.env
      standAt apos.atName
      let (f, first) ← holding [ov] (getMethod ov m pl)
      callWith pos f first (backTo pos (starEach (e :: es) X.env)) (backToKw pos (keywordEach [] X.env))) := by rfl) :
    PE X (.Call (.Attribute o m apos) (e :: es) [] pos) (tMethS m sp C (WE W) ta t) := by
  obtain ⟨f, fd, hm, hb, F⟩ := G.ex
  refine ⟨fun pins s σ H Q I h => ?_⟩
  refine PySem.W.methodCall_KW (pl := pl) (thn (he.run pins s σ H _ I h) fun u s1 ⟨x, H1, I1, rx, a, dx, fs, ex, ea, l, q⟩ => ?_) ht
  subst ex
  obtain rfl : u = Value.ref a := rx
  refine getmeth_ok I1 ea G.cl hm l ?_
  refine PySem.W.callWith_K (first := [.ref a]) (h₀ := X.base) I.ok.mod.kin hm.kp (thn (ha.run pos pins s1 σ H1 _ I1 q) fun us s2 ⟨vs, H2, I2, r, q2⟩ => ⟨I2.kIn, ?_⟩) hst hpl
  exact run_fnS (us := .ref a :: us) (vs := .ref a :: vs) (E := WE W) F (hr.mono hk) hb (passAt tk σ) I2 (.cons rfl r) q2
theorem pe_mth0 {pl : Sem Bool} (G : Mth X.prog X.w X.K X.mg X.base k C m ps sp) (hr : Room j X.A) (tk : Takes X W) (he : PE X o ta) (hk : k ≤ j := by decide)
    (ht : eval (.Call (.Attribute o m apos) [] [] pos) X.env = (do
      let ov ← eval o X.env
      standAt apos.atName
      let (f, first) ← holding [ov] (getMethod ov m pl)
      callWith pos f first (backTo pos (starEach [] X.env)) (backToKw pos (keywordEach [] X.env))) := by rfl) :
    PE X (.Call (.Attribute o m apos) [] [] pos) (tMethS m sp C (WE W) ta tNil) := by
  obtain ⟨f, fd, hm, hb, F⟩ := G.ex
  refine ⟨fun pins s σ H Q I h => ?_⟩
  refine PySem.W.methodCall_KW (pl := pl) (thn (he.run pins s σ H _ I h) fun u s1 ⟨x, H1, I1, rx, a, dx, fs, ex, ea, l, q⟩ => ?_) ht
  subst ex
  obtain rfl : u = Value.ref a := rx
  refine getmeth_ok I1 ea G.cl hm l ?_
  exact PySem.W.callWith_K0 (first := [.ref a]) I1.kIn hm.kp (run_fnS (us := [.ref a]) (vs := [.ref a]) (E := WE W) F (hr.mono hk) hb (passAt tk σ) I1 (.cons rfl .nil) q)
/-- the same, the class and the method told by the reading -/
def tMthE (P : Program) (w : World) (K : PySem.W.Frag) (mg : Str → Option Value) (base : Heap) (j : Nat) (m : Str) (W : WX) (ta : TE) (t : TA) : TE := fun σ H Q => ta σ H fun x H1 => ∃ (a C dx : Addr) (fs : List (Str × V)) (k : Nat) (ps : List Str) (sp : Sp), x = .ref a ∧ H1 a = some (.ins C dx fs) ∧
  Mth P w K mg base k C m ps sp ∧ k ≤ j ∧ fs.lookup m = none ∧ t σ H1 fun vs H2 => sp (x :: vs) H2 Q (WE W σ)
theorem pe_mthE {pl : Sem Bool} (hr : Room j X.A) (tk : Takes X W) (he : PE X o ta) (ha : PA X (e :: es) t)
    (hst : starEach (e :: es) X.env = (false, eval e X.env) :: starEach es X.env := by rfl) (hpl : (backTo pos (starEach es X.env)).any (·.1) = false := by rfl)
    (ht : eval (.Call (.Attribute o m apos) (e :: es) [] pos) X.env = (do
      let ov ← eval o X.env
      standAt apos.atName
      let (f, first) ← holding [ov] (getMethod ov m pl)
      callWith pos f first (backTo pos (starEach (e :: es) X.env)) (backToKw pos (keywordEach [] X.env))) := by rfl) :
    PE X (.Call (.Attribute o m apos) (e :: es) [] pos) (tMthE X.prog X.w X.K X.mg X.base j m W ta t) := by
  refine ⟨fun pins s σ H Q I h => ?_⟩
  refine PySem.W.methodCall_KW (pl := pl) (thn (he.run pins s σ H _ I h) fun u s1 ⟨x, H1, I1, rx, a, C, dx, fs, k, ps, sp, ex, ea, G, hk, l, q⟩ => ?_) ht
  obtain ⟨f, fd, hm, hb, F⟩ := G.ex
  subst ex
  obtain rfl : u = Value.ref a := rx
  refine getmeth_ok I1 ea G.cl hm l ?_
  refine PySem.W.callWith_K (first := [.ref a]) (h₀ := X.base) I.ok.mod.kin hm.kp (thn (ha.run pos pins s1 σ H1 _ I1 q) fun us s2 ⟨vs, H2, I2, r, q2⟩ => ⟨I2.kIn, ?_⟩) hst hpl
  exact run_fnS (us := .ref a :: us) (vs := .ref a :: vs) (E := WE W) F (hr.mono hk) hb (passAt tk σ) I2 (.cons rfl r) q2
theorem pe_mthE0 {pl : Sem Bool} (hr : Room j X.A) (tk : Takes X W) (he : PE X o ta)
    (ht : eval (.Call (.Attribute o m apos) [] [] pos) X.env = (do
      let ov ← eval o X.env
      standAt apos.atName
      let (f, first) ← holding [ov] (getMethod ov m pl)
      callWith pos f first (backTo pos (starEach [] X.env)) (backToKw pos (keywordEach [] X.env))) := by rfl) :
    PE X (.Call (.Attribute o m apos) [] [] pos) (tMthE X.prog X.w X.K X.mg X.base j m W ta tNil) := by
  refine ⟨fun pins s σ H Q I h => ?_⟩
  refine PySem.W.methodCall_KW (pl := pl) (thn (he.run pins s σ H _ I h) fun u s1 ⟨x, H1, I1, rx, a, C, dx, fs, k, ps, sp, ex, ea, G, hk, l, q⟩ => ?_) ht
  obtain ⟨f, fd, hm, hb, F⟩ := G.ex
  subst ex
  obtain rfl : u = Value.ref a := rx
  refine getmeth_ok I1 ea G.cl hm l ?_
  exact PySem.W.callWith_K0 (first := [.ref a]) I1.kIn hm.kp (run_fnS (us := [.ref a]) (vs := [.ref a]) (E := WE W) F (hr.mono hk) hb (passAt tk σ) I1 (.cons rfl .nil) q)
/-- Cls.m(self, ..) -/
theorem pe_cfn {pl : Sem Bool} (G : CFn X.prog X.w X.K X.mg X.base k x m ps sp) (hr : Room j X.A) (tk : Takes X W) (ha : PA X (e :: es) t) (hk : k ≤ j := by decide) (hg : Gl X x := by rfl) (hdb : (x == ("__debug__" : Str)) = false := by decide)
    (hst : starEach (e :: es) X.env = (false, eval e X.env) :: starEach es X.env := by rfl) (hpl : (backTo pos (starEach es X.env)).any (·.1) = false := by rfl)
    (ht : eval (.Call (.Attribute (.Name x np) m apos) (e :: es) [] pos) X.env = (do
      let ov ← eval (.Name x np) X.env
      standAt apos.atName
      let (f, first) ← holding [ov] (getMethod ov m pl)
      callWith pos f first (backTo pos (starEach (e :: es) X.env)) (backToKw pos (keywordEach [] X.env))) := by rfl) :
    PE X (.Call (.Attribute (.Name x np) m apos) (e :: es) [] pos) (tCallS sp (WE W) t) := by
  obtain ⟨C, f, fd, hm, c, hb, F⟩ := G.ex
  refine ⟨fun pins s σ H Q I h => ?_⟩
  refine PySem.W.methodCall_KW (pl := pl) (ld_glob I hg hm ?_ hdb) ht
  refine PySem.W.method_cls I.kIn c.ga ?_
  refine PySem.W.cls_value I.kIn c.rd c.at_ rfl ?_
  refine PySem.W.callWith_K (first := []) (h₀ := X.base) I.ok.mod.kin c.kp (thn (ha.run pos pins _ σ H _ (I.tok _) h) fun us s2 ⟨vs, H2, I2, r, q2⟩ => ⟨I2.kIn, ?_⟩) hst hpl
  exact run_fnS (E := WE W) F (hr.mono hk) hb (passAt tk σ) I2 r q2
theorem run_makeS {CX : CXT} {fd : FuncData} {f : Addr} {E : L2.St → XK} {pins : List (Addr × Obj)} {σ : L2.St} {H : Hp} {s : Shared} {Q : VK} {us : List Value} {vs : List V} (M : Mk X.K C f) (F : FnOk X.prog X.w X.K X.mg X.base CX k f fd ps sp) (hr : Room (k + 1) X.A) (hb : Binds X.K fd ps [])
    (hx : PassesAt CX X σ (E σ)) (I : Inv X pins σ H s) (r : Vals vs us)
    (h : ∀ x dx, H x = none → H dx = none → dx ≠ x → sp (.ref x :: vs) (upd (upd H dx (.own x)) x (.ins C dx [])) (fun v H2 => v = .non ∧ Q (.ref x) H2) (E σ)) :
    wpAny (model X.prog X.w) X.A (call (.ref C) us) (EP X pins σ Q) X.xe s := by
  have hq := h (s.heap.objs.size + 1) s.heap.objs.size (I.hok.fresh (Nat.le_succ _)) (I.hok.fresh (Nat.le_refl _)) (Nat.ne_of_lt (Nat.lt_succ_self _))
  have I2 := Inv.made (C := C) I
  have r2 : Vals (V.ref (s.heap.objs.size + 1) :: vs) (Value.ref (s.heap.objs.size + 1) :: us) := .cons rfl r
  have hl : (Value.ref (s.heap.objs.size + 1) :: us).length = ps.length := by
    have e := r2.length
    rw [F.len _ _ _ _ hq] at e
    exact e.symm
  have b := hb { s with heap := _, toks := _ } (Value.ref (s.heap.objs.size + 1) :: us) I2.kIn (by rw [List.append_nil]; exact hl)
  rw [List.append_nil] at b
  refine wpAny_call (make_map (f := f) I.kIn M.makes M.init (beq_iff_eq.mp M.fn) (codeAny_mono (F.run _ X.stack _ _ ⟨Value.ref (s.heap.objs.size + 1) :: us, []⟩ (Value.ref (s.heap.objs.size + 1) :: us) _ _ (E σ) (hr.make C us [])
    (I2.env0.make C us []) b r2 hq) fun r s' hq' => ?_))
  cases r with
  | error e => exact hx pins _ _ e s' I2 hq'
  | ok fl =>
    cases fl with
    | ret u =>
      obtain ⟨v, H', I3, rv, ev, q3⟩ := I2.after hq'
      subst ev
      exact ⟨rv, ⟨V.ref (s.heap.objs.size + 1), H', I3, rfl, q3⟩⟩
    | next => exact False.elim hq'
    | brk => exact False.elim hq'
    | cont => exact False.elim hq'
def tMakeS (C : Addr) (sp : Sp) (E : L2.St → XK) (t : TA) : TE := fun σ H Q => t σ H fun vs H1 => ∀ x dx, H1 x = none → H1 dx = none → dx ≠ x → sp (.ref x :: vs) (upd (upd H1 dx (.own x)) x (.ins C dx [])) (fun v H2 => v = .non ∧ Q (.ref x) H2) (E σ)
theorem pe_mak (G : Mak X.prog X.w X.K X.mg X.base k x C ps sp) (hr : Room j X.A) (tk : Takes X W) (ha : PA X (e :: es) t) (hk : k + 1 ≤ j := by decide) (hg : Gl X x := by rfl) (hdb : (x == ("__debug__" : Str)) = false := by decide)
    (he : starEach (e :: es) X.env = (false, eval e X.env) :: starEach es X.env := by rfl) (hpl : (backTo pos (starEach es X.env)).any (·.1) = false := by rfl) : PE X (.Call (.Name x p) (e :: es) [] pos) (tMakeS C sp (WE W) t) := by
  obtain ⟨f, fd, M, hb, F⟩ := G.ex
  refine ⟨fun pins s σ H Q I h => ?_⟩
  refine wpAny_Call_Name_kw (ld_glob I hg G.gC ?_ hdb)
  refine PySem.W.callWith_K (h₀ := X.base) I.ok.mod.kin M.kp (thn (ha.run pos pins s σ H _ I h) fun us s1 ⟨vs, H1, I1, r, q⟩ => ⟨I1.kIn, ?_⟩) he hpl
  exact run_makeS (E := WE W) M F (hr.mono hk) hb (passAt tk σ) I1 r q
end
theorem putF_len (f : Str) (v : V) : ∀ fs : List (Str × V), (putF f v fs).length ≤ fs.length + 1
  | [] => Nat.le_refl 1
  | (g, u) :: r => by
    show (if g = f then (g, v) :: r else (g, u) :: putF f v r).length ≤ _
    split
    · exact Nat.le_succ _
    · exact Nat.succ_le_succ (putF_len f v r)
theorem putF_le {f : Str} {v : V} {fs : List (Str × V)} {m : Nat} (h : fs.length ≤ m) : (putF f v fs).length ≤ m + 1 := Nat.le_trans (putF_len f v fs) (Nat.succ_le_succ h)
theorem rd_upd {H : Hp} {a p : Addr} {o u : HO} (h : a ≠ p) (r : Rd H a u) : Rd (upd H p o) a u := by
  rcases r with r | ⟨q, r⟩
  · exact .inl (by rw [upd_ne h]; exact r)
  · exact .inr ⟨q, by rw [upd_ne h]; exact r⟩
theorem sqL_upd {K : PySem.W.Frag} {H : Hp} {a p : Addr} {o : HO} {xs : List V} (h : a ≠ p) (r : SqL K H a xs) : SqL K (upd H p o) a xs := by
  rcases r with r | r
  · exact .inl (rd_upd h r)
  · exact .inr r
theorem sqT_upd {K : PySem.W.Frag} {H : Hp} {a p : Addr} {o : HO} {xs : List V} (h : a ≠ p) (r : SqT K H a xs) : SqT K (upd H p o) a xs := by
  rcases r with r | r
  · exact .inl (rd_upd h r)
  · exact .inr r
/-! ### try, the readings of its parts as they come -/
theorem pss_imp {X : Cx} {ss : List Stmt} {t t' : TS} (h : PSs X ss t) (i : ∀ D σ H, t' D σ H → t D σ H) : PSs X ss t' := ⟨fun pins s σ H D I q => h.run pins s σ H D I (i D σ H q)⟩
theorem ps_tryA {X : Cx} {x n : Str} {c : Value} {i : Nat} {body suite : List Stmt} {b₀ : Stmt} {np pos pos' : Pos} {tb : WX → List (Addr × Obj) → (Value → Shared → Prop) → TS} {ts : Addr → Obj → Value → Option Addr → List (Addr × Obj) → TS} {Wout : WX}
    (hs : X.stack = X.env :: X.outer) (hf : X.env.frame = some X.env.locals) (hN : X.N.Nodup) (hi : X.N[i]? = some n) (hln : X.env.kindOf n = some .local) (hc : Names X x c) (tk : Takes X Wout)
    (hb : ∀ (W : WX) (pn : List (Addr × Obj)) (xe : Value → Shared → Prop), Takes (X.tr pn xe) W → PassesOwn (model X.prog X.w) X.A X.env xe → PSs (X.tr pn xe) body (tb W pn xe))
    (hsu : ∀ (a : Addr) (oe : Obj) (cls : Value) (d : Option Addr) (pn : List (Addr × Obj)), Zc cls d oe → (∃ vs, oe.data = .fields vs) → PSs (X.suite a ((a, oe) :: pn)) (b₀ :: suite) (ts a oe cls d pn)) :
    PS X (.Try body [.ExceptHandler (some (.Name x np)) (some n) (b₀ :: suite) pos'] [] [] pos)
      (fun D σ H => ∀ pn xe, tb (wAs X.K c i (fun a cls d => fun D σ H => ∀ oe pn, ts a oe cls d pn D σ H) Wout D) pn xe D σ H) :=
  ps_try_as (tb := fun W D σ H => ∀ pn xe, tb W pn xe D σ H) (ts := fun a cls d => fun D σ H => ∀ oe pn, ts a oe cls d pn D σ H) hs hf hN hi hln hc tk
    (fun W pn xe t p => pss_imp (hb W pn xe t p) fun D σ H q => q pn xe) (fun a oe cls d pn z f => pss_imp (hsu a oe cls d pn z f) fun D σ H q => q oe pn)
theorem iteNN {c A B : Prop} [Decidable c] (hc : ¬ c) (h : A) : if (!decide c) = true then A else B := by
  rw [decide_eq_false hc]
  exact iteT h
/-- a def whose promise wishes for nothing that is raised lets nothing out -/
theorem calm_of {P : Program} {w : World} {K : PySem.W.Frag} {mg : Str → Option Value} {base : Heap} {k : Nat} {f : Addr} {fd : FuncData} {ps : List Str} {sp : Sp} (F : FnOk P w K mg base (L2.CX P w) k f fd ps sp) (h : ∀ vs H Q E, sp vs H Q E → sp vs H Q fun _ _ _ => False) :
    FnOk P w K mg base CX0 k f fd ps sp := by
  refine ⟨F.len, fun A outer s H args us vs Q E hr he hb hv hs => ?_⟩
  refine codeAny_mono (F.run A outer s H args us vs Q _ hr he hb hv (h vs H Q E hs)) fun r s' hq => ?_
  cases r with
  | error e =>
    obtain ⟨_, _, _, _, _, _, _, _, _, _, _, _, z⟩ := hq
    exact z
  | ok fl =>
    cases fl with
    | ret u => exact hq
    | next => exact hq
    | brk => exact hq
    | cont => exact hq
/-! ### facts of the written part -/
inductive Fy where
  | fa (f : He.Fa)
  | clf (x m : Str)
  | tup (x : Str) (vs : List He.Dv)
def Fy.ok (K : PySem.W.Frag) : Fy → Bool
  | .fa f => f.ok K
  | .clf x m => PySem.W.readsIn K (He.ga K x) (.type "type") && (He.eqO (PySem.W.specialIn K (.ref (He.ga K x)) "__getattribute__") (some (some (.builtin "type.__getattribute__"))) &&
      ((match PySem.W.findCls K (.ref (He.ga K x)) (.type "type") m with
        | some (.val (.ref f)) => f == He.ma K (He.ga K x) m
        | _ => false) && PySem.W.keepIn K (.ref (He.ma K (He.ga K x) m))))
  | .tup x vs => He.eqO (PySem.W.nsIn K mainGlobals x) (some (some (.ref (He.ga K x)))) && He.tupB K x vs
theorem Fy.clf_ok {K : PySem.W.Frag} {x m : Str} (c : (Fy.clf x m).ok K = true) : ClF K (He.ga K x) m (He.ma K (He.ga K x) m) := by
  obtain ⟨c1, c⟩ := He.ba c
  obtain ⟨c2, c⟩ := He.ba c
  obtain ⟨c3, c4⟩ := He.ba c
  refine ⟨c1, He.eqO_ok c2, ?_, c4⟩
  split at c3
  · rename_i f e
    rw [e, eq_of_beq c3]
  · cases c3
theorem Fy.tup_ok {K : PySem.W.Frag} {x : Str} {vs : List He.Dv} {h : Heap} {mg : Str → Option Value} (X : K.In h) (G : h.Ns mainGlobals mg) (c : (Fy.tup x vs).ok K = true) : mg x = some (.ref (He.ga K x)) ∧ ∀ H : Hp, SqT K H (He.ga K x) (vs.map (He.Dv.v K)) := by
  obtain ⟨c1, c2⟩ := He.ba c
  exact ⟨PySem.W.mg_of X G (He.eqO_ok c1), fun H => He.tupB_ok c2 H⟩
end M

namespace M
open PySem PySem.Spec PyProof.Rows L2
local macro_rules | `(tactic| walk_at "go") => `(tactic| repeat (first | refine ⟨_, rfl, ?_⟩ | refine ⟨rfl, ?_⟩ | refine ⟨_, _, rfl, rfl, ?_⟩ | refine .inl ⟨_, rfl, ?_⟩ | refine .inr ⟨_, rfl, ?_⟩ | refine ⟨.inl ⟨rfl, _, SqL.of (by assumption)⟩, ?_⟩ | refine ⟨_, _, _, rfl, rfl, (by assumption), ?_⟩ | refine ⟨⟨by decide, by decide, by decide⟩, ?_⟩ | refine ⟨⟨by decide, by decide⟩, ?_⟩ | refine ⟨.inr ⟨by decide, by decide⟩, ?_⟩ | refine ⟨.inl ⟨by decide, by decide⟩, ?_⟩ | refine ⟨by decide, ?_⟩ | refine ⟨(by show (_ : Int) ≠ (0 : Int); decide), ?_⟩))
def top (i : Nat) : Stmt := PySem.Challenge.pw_latebridges_k01_across_a_channel.main.body.getD i (.Pass ⟨0, 0, 0, 0⟩)

/-! ### the exception class Unknown -/
abbrev sIUnknown : Stmt := (inClass (top 3) 0)
theorem iUnknown : PySem.XEx.IText ["name"] (defArgs sIUnknown) (defBody sIUnknown) (defScope sIUnknown) :=
  { bd := ⟨_, _, _, _, _, _, _, _, _, rfl, (.cons .nil), rfl⟩, hks := by decide +kernel, hkc := by decide +kernel, hself := by decide +kernel, hf := by decide +kernel, hcell := by decide +kernel, hco := rfl, hgen := rfl, hk := rfl, hp := ⟨_, rfl, rfl⟩,
    bind := fun name qual cl kV doc pm an cdv ct us hl => match us, hl with | [_, _], _ => rfl, nd := by decide +kernel, len := by decide }
abbrev xdUnknown : XD := ⟨"Unknown", ["name"], defArgs sIUnknown, defBody sIUnknown, defScope sIUnknown⟩

/-! ### the exception class BadKind -/
abbrev sIBadKind : Stmt := (inClass (top 4) 0)
theorem iBadKind : PySem.XEx.IText ["kind"] (defArgs sIBadKind) (defBody sIBadKind) (defScope sIBadKind) :=
  { bd := ⟨_, _, _, _, _, _, _, _, _, rfl, (.cons .nil), rfl⟩, hks := by decide +kernel, hkc := by decide +kernel, hself := by decide +kernel, hf := by decide +kernel, hcell := by decide +kernel, hco := rfl, hgen := rfl, hk := rfl, hp := ⟨_, rfl, rfl⟩,
    bind := fun name qual cl kV doc pm an cdv ct us hl => match us, hl with | [_, _], _ => rfl, nd := by decide +kernel, len := by decide }
abbrev xdBadKind : XD := ⟨"BadKind", ["kind"], defArgs sIBadKind, defBody sIBadKind, defScope sIBadKind⟩

/-! ### _law_draws -/
abbrev sDraws : Stmt := (top 12)
abbrev nDraws : List Str := ["_law_script", "_law_many", "_law_draws_here", "_law_cell", "_law_size", "_law_k", "_law_rest", "_law_draw"]
theorem scDraws : FnScope nDraws ["_law_script", "_law_many"] (defScope sDraws) := ⟨rfl, rfl, rfl, by decide +kernel, rfl, by decide +kernel, by decide +kernel⟩
def spDraws (K : PySem.W.Frag) : Sp := fun vs H Q _ => ∃ (a : Addr) (ns : List Int) (n : Nat), vs = [.ref a, .int n] ∧ SqL K H a (ns.map V.int) ∧ ns.length ≤ 63 ∧ n ≤ 1000 ∧
  ∀ (p : Addr) (ds : List Int) (H' : Hp), H p = none → Same H H' → H' p = some (.lst (ds.map V.int)) → ds.length = n → Dr ds → Q (.ref p) H'
section
variable {P : Program} {w : World} {K : PySem.W.Frag} {mg : Str → Option Value} {base : Heap}
theorem ok_draws {f : Addr} {fd : FuncData} (F : FnP K "_law_draws" sDraws f fd) (T : Bi mg) : FnOk P w K mg base (L2.CX P w) 1 f fd ["_law_script", "_law_many"] (spDraws K) := by
  refine F.ok scDraws (fun vs H Q E h => ?_) (fun cdv A outer s H vs Q E hr h => ?_)
  · obtain ⟨a, ns, n, rfl, _⟩ := h
    rfl
  · obtain ⟨a, ns, n, rfl, hS, hlen, hn, kQ⟩ := h
    have nd := scDraws.nd
    refine ⟨_, PSs.nox (pss_cons (ps_set (i := 2) nd rfl (Or.inl rfl) (pe_lst pa_nil))
      (pss_cons (ps_for PassesOwn.never rfl (pi_list (pv 0)) (pg_name (i := 3) nd rfl (Or.inl rfl)) (pss_cons (ps_set (i := 4) nd rfl (Or.inl rfl) (pe_callB call_abs (by rfl) T.abs (by decide +kernel) (pa_cons (pe_callTy call_int1 (by rfl) T.int (by decide +kernel) (pa_cons (pv 3) pa_nil)) pa_nil)))
        (pss_one (ps_if (pt_cmpR op_ge (pv 4) (pe_op op_pow pe_int pe_int) (nomark _)) (pss_one (ps_for PassesOwn.never rfl (pi_range1 (by rfl) T.range (pa_cons pe_int pa_nil)) (pg_name (i := 5) nd rfl (Or.inl rfl)) (pss_one (ps_if (pt_cmpR op_gt (pv 4) pe_int (nomark _)) (pss_cons (ps_expr (pe_bm PySem.F.plainAttrs_list PySem.F.slot_list_append PySem.F.type_list_append mt_append (pv 2) (pa_cons (pe_op op_modN (pe_callTy call_int1 (by rfl) T.int (by decide +kernel) (pa_cons (pv 4) pa_nil)) pe_int) pa_nil)))
              (pss_one (ps_set (i := 4) nd rfl (Or.inl rfl) (pe_op op_fdivN (pv 4) pe_int)))) pss_nil)))) (pss_cons (ps_set (i := 4) nd rfl (Or.inl rfl) (pe_op op_add (pv 4) (pe_op op_mul pe_int (pe_callTy call_int1 (by rfl) T.int (by decide +kernel) (pa_cons (pe_cmpR op_lt (pv 3) pe_int (nomark _)) pa_nil)))))
          (pss_one (ps_for PassesOwn.never rfl (pi_range1 (by rfl) T.range (pa_cons pe_int pa_nil)) (pg_name (i := 5) nd rfl (Or.inl rfl)) (pss_cons (ps_set (i := 4) nd rfl (Or.inl rfl) (pe_op op_modN (pe_callTy call_int1 (by rfl) T.int (by decide +kernel) (pa_cons (pe_op op_add (pe_op op_add (pe_op op_mul (pv 4) pe_int) (pe_op op_mul pe_int (pv 5))) pe_int) pa_nil)) pe_int))
            (pss_one (ps_expr (pe_bm PySem.F.plainAttrs_list PySem.F.slot_list_append PySem.F.type_list_append mt_append (pv 2) (pa_cons (pe_op op_modN (pe_callTy call_int1 (by rfl) T.int (by decide +kernel) (pa_cons (pe_op op_fdivN (pv 4) pe_int) pa_nil)) pe_int) pa_nil))))))))))))
      (pss_cons (ps_set (i := 6) nd rfl (Or.inl rfl) pe_int)
      (pss_cons (ps_for PassesOwn.never rfl (pi_list (pv 2)) (pg_name (i := 7) nd rfl (Or.inl rfl)) (pss_one (ps_set (i := 6) nd rfl (Or.inl rfl) (pe_op op_modN (pe_callTy call_int1 (by rfl) T.int (by decide +kernel) (pa_cons (pe_op op_add (pe_op op_mul (pv 6) pe_int) (pv 7)) pa_nil)) pe_int))))
      (pss_cons (ps_for PassesOwn.never rfl (pi_range1 (by rfl) T.range (pa_cons (pv 1) pa_nil)) (pg_name (i := 5) nd rfl (Or.inl rfl)) (pss_cons (ps_set (i := 6) nd rfl (Or.inl rfl) (pe_op op_modN (pe_callTy call_int1 (by rfl) T.int (by decide +kernel) (pa_cons (pe_op op_add (pe_op op_mul (pv 6) pe_int) (pe_op op_mul pe_int (pv 5))) pa_nil)) pe_int))
        (pss_one (ps_expr (pe_bm PySem.F.plainAttrs_list PySem.F.slot_list_append PySem.F.type_list_append mt_append (pv 2) (pa_cons (pe_op op_mul (pe_op op_modN (pe_callTy call_int1 (by rfl) T.int (by decide +kernel) (pa_cons (pe_op op_fdivN (pv 6) pe_int) pa_nil)) pe_int) (pe_callTy call_int1 (by rfl) T.int (by decide +kernel) (pa_cons (pe_cmpR op_gt (pe_callB call_len_seq (by rfl) T.len PySem.boot_len (pa_cons (pv 0) pa_nil)) pe_int (nomark _)) pa_nil))) pa_nil))))))
      (pss_cons (ps_set (i := 2) nd rfl (Or.inl rfl) (pe_slice sl_list (pv 2) po_none (po_some (pv 1))))
      (pss_cons (ps_expr (pe_bm0 PySem.F.plainAttrs_list PySem.F.slot_list_reverse PySem.F.type_list_reverse mt_reverse (pv 2)))
      (pss_one (ps_ret (pv 2)))))))))), ?_⟩
    walk_at "go"
    refine fun p np => ?_
    walk_at "go"
    refine ⟨⟨_, (Same.new (Same.refl H) np).seq hS⟩, for_list (K := K) (a := a) (xs := ns.map V.int)
      (fun i σ H1 => ∃ (ds : List Int) (c z k : Option V), σ = [some (.ref a), some (.int n), some (.ref p), c, z, k, none, none] ∧ Same H H1 ∧ H1 p = some (.lst (ds.map V.int)) ∧ Dr ds ∧ ds.length ≤ 45 * i)
      ⟨[], none, none, none, rfl, Same.new (Same.refl H) np, upd_same, Dr.nil, Nat.zero_le _⟩ (fun i σ H1 _ ⟨_, _, _, _, _, s1, _⟩ => s1.seq hS) ?_ ?_⟩
    · rintro i y σ H1 hi ⟨ds, c, z, k, rfl, s1, hp, hd, hl⟩
      have hil : i < ns.length := by
        have := lt_of_at hi
        rwa [List.length_map] at this
      obtain ⟨x, _, rfl⟩ := int_at hi
      walk_at "go"
      refine ite2 (fun _ => ?_) (fun hb => ?_)
      · refine ⟨_, rfl, by decide, by decide, for_range (n := 45) (fun j σ H2 => ∃ (ds : List Int) (z : Int) (k : Option V), σ = [some (.ref a), some (.int n), some (.ref p), some (.int x), some (.int z), k, none, none] ∧ Same H H2 ∧ H2 p = some (.lst (ds.map V.int)) ∧ Dr ds ∧ ds.length ≤ 45 * i + j)
          ⟨ds, _, k, rfl, s1, hp, hd, hl⟩ ?_ ?_⟩
        · rintro j σ H2 hj ⟨ds, z, k, rfl, s2, hp, hd, hl⟩
          walk_at "go"
          refine ite2 (fun _ => ?_) (fun _ => ?_)
          · walk_at "go"
            refine ⟨size_ok (m := 10000) (by rw [List.length_map]; omega) (by decide), ?_⟩
            walk_at "go"
            exact ⟨ds ++ [z.fmod 1000], _, _, rfl, s2.mut np, by rw [upd_same, List.map_append]; rfl, hd.snoc (fm_nonneg z (by decide)) (fm_lt z (by decide)), by rw [List.length_append, List.length_singleton]; omega⟩
          · exact ⟨ds, z, _, rfl, s2, hp, hd, by omega⟩
        · rintro σ H2 ⟨ds, z, k, rfl, s2, hp, hd, hl⟩
          exact ⟨ds, _, _, _, rfl, s2, hp, hd, by omega⟩
      · walk_at "go"
        refine for_range (n := 6) (fun j σ H2 => ∃ (ds : List Int) (z : Int) (k : Option V), σ = [some (.ref a), some (.int n), some (.ref p), some (.int x), some (.int z), k, none, none] ∧ Same H H2 ∧ H2 p = some (.lst (ds.map V.int)) ∧ Dr ds ∧ ds.length ≤ 45 * i + j)
          ⟨ds, _, k, rfl, s1, hp, hd, hl⟩ ?_ ?_
        · rintro j σ H2 hj ⟨ds, z, k, rfl, s2, hp, hd, hl⟩
          walk_at "go"
          refine ⟨size_ok (m := 10000) (by rw [List.length_map]; omega) (by decide), ?_⟩
          walk_at "go"
          exact ⟨ds ++ [_], _, _, rfl, s2.mut np, by rw [upd_same, List.map_append]; rfl, hd.snoc (fm_nonneg _ (by decide)) (fm_lt _ (by decide)), by rw [List.length_append, List.length_singleton]; omega⟩
        · rintro σ H2 ⟨ds, z, k, rfl, s2, hp, hd, hl⟩
          exact ⟨ds, _, _, _, rfl, s2, hp, hd, by omega⟩
    · rintro σ H1 ⟨ds, c, z, k, rfl, s1, hp, hd, hl⟩
      rw [List.length_map] at hl
      walk_at "go"
      refine ⟨⟨_, SqL.of hp⟩, for_list (K := K) (a := p) (xs := ds.map V.int)
        (fun i σ H2 => H2 = H1 ∧ ∃ (r : Int) (d : Option V), σ = [some (.ref a), some (.int n), some (.ref p), c, z, k, some (.int r), d])
        ⟨rfl, _, _, rfl⟩ (fun i σ H2 _ ⟨e, _⟩ => by rw [e]; exact SqL.of hp) ?_ ?_⟩
      · rintro i y σ H2 hi ⟨rfl, r, d, rfl⟩
        obtain ⟨x, _, rfl⟩ := int_at hi
        walk_at "go"
        exact ⟨_, _, rfl⟩
      · rintro σ H2 ⟨rfl, r, d, rfl⟩
        walk_at "go"
        refine ⟨by omega, by omega, for_range (n := n) (fun j σ H3 => ∃ (es : List Int) (k : Option V) (r : Int), σ = [some (.ref a), some (.int n), some (.ref p), c, z, k, some (.int r), d] ∧ Same H H3 ∧ H3 p = some (.lst (es.map V.int)) ∧ Dr es ∧ es.length = ds.length + j)
          ⟨ds, k, r, rfl, s1, hp, hd, rfl⟩ ?_ ?_⟩
        · rintro j σ H3 hj ⟨es, k, r, rfl, s3, hp, hd, hl3⟩
          walk_at "go"
          refine ⟨a, _, rfl, .inl (s3.seq hS), ?_⟩
          walk_at "go"
          generalize hz : ((((r * 16807 + 13 * (0 + (j : Int))).fmod 2147483647).fdiv 7).fmod 1000) = z
          have z0 : 0 ≤ z := by rw [← hz]; exact fm_nonneg _ (by decide)
          have z1 : z < 1000 := by rw [← hz]; exact fm_lt _ (by decide)
          generalize hb : (if decide ((0 : Int) < ((ns.map V.int).length : Int)) = true then (1 : Int) else 0) = b
          have b0 : b = 0 ∨ b = 1 := by
            rw [← hb]
            split
            · exact .inr rfl
            · exact .inl rfl
          have e0 : 0 ≤ z * b ∧ z * b < 1000 := by
            rcases b0 with e | e <;> rw [e] <;> omega
          refine ⟨.inl ⟨by omega, by omega⟩, ?_⟩
          walk_at "go"
          refine ⟨size_ok (m := 10000) (by rw [List.length_map]; omega) (by decide), ?_⟩
          exact ⟨es ++ [z * b], _, _, rfl, s3.mut np, by rw [upd_same, List.map_append]; rfl, hd.snoc e0.1 e0.2, by rw [List.length_append, List.length_singleton]; omega⟩
        · rintro σ H3 ⟨es, k, r, rfl, s3, hp, hd, hl3⟩
          walk_at "go"
          refine ⟨p, _, rfl, SqL.of hp, fun q nq => ?_⟩
          refine ⟨_, rfl, .inl ⟨rfl, _, SqL.of upd_same⟩, q, _, rfl, rfl, upd_same, ?_⟩
          refine ⟨_, rfl, ?_⟩
          have ec : cutV (es.map V.int) none (some (n : Int)) = (es.take n).map V.int := by
            rw [cut_to _ (by rw [List.length_map]; omega), List.map_take]
          refine kQ q (es.take n).reverse _ (s3.free nq) ?_ ?_ ?_ ?_
          · exact (s3.new nq).mut (s3.free nq)
          · rw [upd_same, ec, List.map_reverse]
          · rw [List.length_reverse, List.length_take]; omega
          · intro d hd'
            exact hd d (List.mem_of_mem_take (List.mem_reverse.mp hd'))
end

/-! ### _law_take -/
abbrev sTake : Stmt := (top 13)
theorem scTake : FnScope ["_law_draws_here", "_law_size"] ["_law_draws_here", "_law_size"] (defScope sTake) := ⟨rfl, rfl, rfl, by decide +kernel, rfl, by decide +kernel, by decide +kernel⟩
def spTake : Sp := fun vs H Q _ => ∃ (a : Addr) (ds : List Int) (m : Int), vs = [.ref a, .int m] ∧ H a = some (.lst (ds.map V.int)) ∧ Dr ds ∧ 0 < m ∧
  ∀ (d : Int) (ds' : List Int), 0 ≤ d → d < m → Dr ds' → ds'.length ≤ ds.length → Q (.int d) (upd H a (.lst (ds'.map V.int)))
section
variable {P : Program} {w : World} {K : PySem.W.Frag} {mg : Str → Option Value} {base : Heap}
theorem ok_take {f : Addr} {fd : FuncData} (F : FnP K "_law_take" sTake f fd) (T : Bi mg) : FnOk P w K mg base (L2.CX P w) 1 f fd ["_law_draws_here", "_law_size"] spTake := by
  refine F.ok scTake (fun vs H Q E h => ?_) (fun cdv A outer s H vs Q E hr h => ?_)
  · obtain ⟨a, ds, m, rfl, _⟩ := h
    rfl
  · obtain ⟨a, ds, m, rfl, ha, hd, hm, kQ⟩ := h
    have nd := scTake.nd
    refine ⟨_, PSs.nox (pss_cons (ps_if (pt_not (pt_truth (pv 0) (by intro _; rfl))) (pss_one (ps_ret pe_int)) pss_nil)
      (pss_one (ps_ret (pe_op op_modN (pe_callTy call_int1 (by rfl) T.int (by decide +kernel) (pa_cons (pe_bm0 PySem.F.plainAttrs_list PySem.F.slot_list_pop PySem.F.type_list_pop mt_pop (pv 0)) pa_nil)) (pv 1))))), ?_⟩
    refine ⟨_, rfl, !(ds.map V.int).isEmpty, .inl ⟨_, SqL.of ha, rfl⟩, ?_⟩
    cases ds with
    | nil =>
      refine iteT ?_
      have e : upd H a (.lst (([] : List Int).map V.int)) = H := by
        funext b
        unfold upd
        split
        · rename_i e; rw [e, ha]
        · rfl
      have z := kQ 0 [] (Int.le_refl 0) hm Dr.nil (Nat.le_refl _)
      rw [e] at z
      exact z
    | cons d0 ds =>
      refine iteF ?_
      obtain ⟨es, e, he⟩ : ∃ es e, d0 :: ds = es ++ [e] := ⟨(d0 :: ds).dropLast, (d0 :: ds).getLast (by simp), (List.dropLast_concat_getLast (by simp)).symm⟩
      rw [he] at ha hd kQ
      have hl : ((es ++ [e]).map V.int)[((es ++ [e]).map V.int).length - 1]? = some (.int e) := by
        rw [List.map_append, List.length_append, List.map_singleton, List.length_singleton, Nat.add_sub_cancel, List.getElem?_append_right (Nat.le_refl _), Nat.sub_self]
        rfl
      refine ⟨_, rfl, .inl ⟨rfl, _, SqL.of ha⟩, a, _, _, rfl, rfl, ha, hl, .inl ⟨_, rfl, _, rfl, _, _, rfl, rfl, Int.ne_of_gt hm, ?_⟩⟩
      have z := kQ (e.fmod m) es (fm_nonneg e hm) (fm_lt e hm) (fun x hx => hd x (List.mem_append_left _ hx)) (by rw [List.length_append]; exact Nat.le_add_right _ _)
      have ed : ((es ++ [e]).map V.int).dropLast = es.map V.int := by rw [List.map_append, List.map_singleton, List.dropLast_concat]
      rw [ed]
      exact z
end

/-! ### _law_names -/
abbrev sNames : Stmt := (top 14)
theorem scNames : FnScope ["_law_draw", "_law_many", "_law_letters", "_law_first", "_law_place", "_law_style", "_law_names_here", "_law_k", "_law_letter"] ["_law_draw", "_law_many"] (defScope sNames) := ⟨rfl, rfl, rfl, by decide +kernel, rfl, by decide +kernel, by decide +kernel⟩
def spNames : Sp := fun vs H Q _ => ∃ (d n : Nat), vs = [.int d, .int n] ∧ d < 1000 ∧ n ≤ 26 ∧
  ∀ (p : Addr) (H' : Hp), H p = none → Same H H' → H' p = some (.lst ((nmL d n).map V.str)) → Q (.ref p) H'
theorem abc_at {c : Nat} (h : c < 26) : atI ("abcdefghijklmnopqrstuvwxyz" : Str).cps.toList (c : Int) = some (97 + c) := by
  refine atI_nat ?_
  have e : ("abcdefghijklmnopqrstuvwxyz" : Str).cps.toList = (List.range 26).map (97 + ·) := by decide +kernel
  rw [e, List.getElem?_map, List.getElem?_range h]
  rfl
theorem q_to {c : Nat} (h : c < 7) : cutS ("qqqqqq" : Str) none (some (c : Int)) = ⟨(List.replicate c 113).toArray⟩ := by
  match c, h with
  | 0, _ => decide +kernel
  | 1, _ => decide +kernel
  | 2, _ => decide +kernel
  | 3, _ => decide +kernel
  | 4, _ => decide +kernel
  | 5, _ => decide +kernel
  | 6, _ => decide +kernel
theorem q_from {c : Nat} (h : c < 7) : cutS ("qqqqqq" : Str) (some (c : Int)) none = ⟨(List.replicate (6 - c) 113).toArray⟩ := by
  match c, h with
  | 0, _ => decide +kernel
  | 1, _ => decide +kernel
  | 2, _ => decide +kernel
  | 3, _ => decide +kernel
  | 4, _ => decide +kernel
  | 5, _ => decide +kernel
  | 6, _ => decide +kernel
theorem z_to {c : Nat} (h : c < 8) : cutS ("zyxwvuts" : Str) none (some (c : Int)) = ⟨(tailZ.take c).toArray⟩ := by
  match c, h with
  | 0, _ => decide +kernel
  | 1, _ => decide +kernel
  | 2, _ => decide +kernel
  | 3, _ => decide +kernel
  | 4, _ => decide +kernel
  | 5, _ => decide +kernel
  | 6, _ => decide +kernel
  | 7, _ => decide +kernel
theorem str_app (a b : List Nat) : (⟨a.toArray⟩ : Str) ++ ⟨b.toArray⟩ = ⟨(a ++ b).toArray⟩ := by
  show (⟨a.toArray ++ b.toArray⟩ : Str) = _
  rw [List.append_toArray]
theorem str_assoc (a b c : Str) : (a ++ b) ++ c = a ++ (b ++ c) := by
  show (⟨(a.cps ++ b.cps) ++ c.cps⟩ : Str) = ⟨a.cps ++ (b.cps ++ c.cps)⟩
  rw [Array.append_assoc]
theorem nmL_snoc (d n j : Nat) : ((List.range (j + 1)).map (nm d n)).map V.str = ((List.range j).map (nm d n)).map V.str ++ [.str (nm d n j)] := by
  rw [List.range_succ, List.map_append, List.map_append]
  rfl
section
variable {P : Program} {w : World} {K : PySem.W.Frag} {mg : Str → Option Value} {base : Heap}
theorem ok_names {f : Addr} {fd : FuncData} (F : FnP K "_law_names" sNames f fd) (T : Bi mg) : FnOk P w K mg base (L2.CX P w) 1 f fd ["_law_draw", "_law_many"] spNames := by
  refine F.ok scNames (fun vs H Q E h => ?_) (fun cdv A outer s H vs Q E hr h => ?_)
  · obtain ⟨d, n, rfl, _⟩ := h
    rfl
  · obtain ⟨d, n, rfl, hd, hn, kQ⟩ := h
    have nd := scNames.nd
    refine ⟨_, PSs.nox (pss_cons (ps_set (i := 2) nd rfl (Or.inl rfl) pe_str)
      (pss_cons (ps_set (i := 3) nd rfl (Or.inl rfl) (pe_op op_modN (pe_callTy call_int1 (by rfl) T.int (by decide +kernel) (pa_cons (pe_op op_fdivN (pv 0) pe_int) pa_nil)) pe_int))
      (pss_cons (ps_set (i := 4) nd rfl (Or.inl rfl) (pe_op op_modN (pe_callTy call_int1 (by rfl) T.int (by decide +kernel) (pa_cons (pe_op op_fdivN (pv 0) pe_int) pa_nil)) pe_int))
      (pss_cons (ps_set (i := 5) nd rfl (Or.inl rfl) (pe_op op_modN (pe_callTy call_int1 (by rfl) T.int (by decide +kernel) (pa_cons (pv 0) pa_nil)) pe_int))
      (pss_cons (ps_set (i := 6) nd rfl (Or.inl rfl) (pe_lst pa_nil))
      (pss_cons (ps_for PassesOwn.never rfl (pi_range1 (by rfl) T.range (pa_cons (pv 1) pa_nil)) (pg_name (i := 7) nd rfl (Or.inl rfl)) (pss_cons (ps_set (i := 8) nd rfl (Or.inl rfl) (pe_ix ix_str (pv 2) (pe_op op_modN (pe_callTy call_int1 (by rfl) T.int (by decide +kernel) (pa_cons (pe_op op_add (pv 3) (pe_op op_mul pe_int (pv 7))) pa_nil)) pe_int) (fun _ _ => rfl)))
        (pss_one (ps_if (pt_cmpR op_eq (pv 5) pe_int (nomark _)) (pss_one (ps_expr (pe_bm PySem.F.plainAttrs_list PySem.F.slot_list_append PySem.F.type_list_append mt_append (pv 6) (pa_cons (pv 8) pa_nil)))) (pss_one (ps_if (pt_cmpR op_eq (pv 5) pe_int (nomark _)) (pss_one (ps_expr (pe_bm PySem.F.plainAttrs_list PySem.F.slot_list_append PySem.F.type_list_append mt_append (pv 6) (pa_cons (pe_op op_add_str (pe_op op_add_str (pe_slice sl_str pe_str po_none (po_some (pv 4))) (pv 8)) (pe_slice sl_str pe_str (po_some (pv 4)) po_none)) pa_nil)))) (pss_one (ps_if (pt_cmpR op_eq (pv 5) pe_int (nomark _)) (pss_one (ps_expr (pe_bm PySem.F.plainAttrs_list PySem.F.slot_list_append PySem.F.type_list_append mt_append (pv 6) (pa_cons (pe_op op_mul_str (pe_ix ix_str (pv 2) (pv 3) (fun _ _ => rfl)) (pe_op op_sub (pv 1) (pv 7))) pa_nil)))) (pss_one (ps_expr (pe_bm PySem.F.plainAttrs_list PySem.F.slot_list_append PySem.F.type_list_append mt_append (pv 6) (pa_cons (pe_op op_add_str (pv 8) (pe_slice sl_str pe_str po_none (po_some (pe_op op_modN (pe_callTy call_int1 (by rfl) T.int (by decide +kernel) (pa_cons (pe_op op_add (pv 0) (pe_op op_mul pe_int (pv 7))) pa_nil)) pe_int)))) pa_nil))))))))))))
      (pss_one (ps_ret (pv 6))))))))), ?_⟩
    have f1 : ((d : Int).fdiv 4).fmod 26 = ((d / 4 % 26 : Nat) : Int) := by
      rw [Int.fdiv_eq_ediv_of_nonneg _ (by decide), Int.fmod_eq_emod_of_nonneg _ (by decide)]; omega
    have f2 : ((d : Int).fdiv 104).fmod 7 = ((d / 104 % 7 : Nat) : Int) := by
      rw [Int.fdiv_eq_ediv_of_nonneg _ (by decide), Int.fmod_eq_emod_of_nonneg _ (by decide)]; omega
    have f3 : (d : Int).fmod 4 = ((d % 4 : Nat) : Int) := by
      rw [Int.fmod_eq_emod_of_nonneg _ (by decide)]; omega
    walk_at "go"
    refine fun p np => ?_
    walk_at "go"
    refine ⟨by omega, by omega, for_range (n := n) (fun j σ H1 => ∃ (F G S : Int) (k l : Option V), σ = [some (.int d), some (.int n), some (.str "abcdefghijklmnopqrstuvwxyz"), some (.int F), some (.int G), some (.int S), some (.ref p), k, l] ∧ F = ((d / 4 % 26 : Nat) : Int) ∧ G = ((d / 104 % 7 : Nat) : Int) ∧ S = ((d % 4 : Nat) : Int) ∧
        Same H H1 ∧ H1 p = some (.lst (((List.range j).map (nm d n)).map V.str)))
      ⟨_, _, _, none, none, rfl, f1, f2, f3, (Same.refl H).new np, upd_same⟩ ?_ ?_⟩
    · rintro j σ H1 hj ⟨F, G, S, k, l, rfl, eF, eG, eS, s1, hp⟩
      have hsz : (((List.range j).map (nm d n)).map V.str).length < sizeLine := by
        rw [List.length_map, List.length_map, List.length_range]
        exact size_ok (m := 30) (by omega) (by decide)
      have hL : (F + 7 * (0 + (j : Int))).fmod 26 = (((d / 4 % 26 + 7 * j) % 26 : Nat) : Int) := by
        rw [Int.fmod_eq_emod_of_nonneg _ (by decide), eF]; omega
      have z26 : ("abcdefghijklmnopqrstuvwxyz" : Str).length ≤ sizeLine := by rw [sizeLine_eq]; decide +kernel
      have z6 : ("qqqqqq" : Str).length ≤ sizeLine := by rw [sizeLine_eq]; decide +kernel
      have z8 : ("zyxwvuts" : Str).length ≤ sizeLine := by rw [sizeLine_eq]; decide +kernel
      walk_at "go"
      refine ⟨_, _, 97 + (d / 4 % 26 + 7 * j) % 26, rfl, rfl, z26, ?_, ?_⟩
      · rw [hL]; exact abc_at (Nat.mod_lt _ (by decide))
      have eN : ∀ o, nmC d n j = o → nm d n j = ⟨o.toArray⟩ := fun o e => by rw [← e]; rfl
      walk_at "go"
      refine ite2 (fun c => ?_) (fun c => ?_)
      · have c0 : d % 4 = 0 := by
          have := of_decide_eq_true c
          have e := V.int.inj this
          omega
        walk_at "go"
        refine ⟨hsz, F, G, S, _, _, rfl, eF, eG, eS, s1.mut np, ?_⟩
        rw [upd_same, nmL_snoc, eN [ltr d j] (by unfold nmC; rw [if_pos c0])]
        rfl
      · have c0 : ¬ d % 4 = 0 := fun e => c (decide_eq_true (by rw [eS, e]; rfl))
        walk_at "go"
        refine ite2 (fun c => ?_) (fun c => ?_)
        · have c1 : d % 4 = 1 := by
            have := of_decide_eq_true c
            have e := V.int.inj this
            omega
          walk_at "go"
          rw [eG, q_to (Nat.mod_lt _ (by decide))]
          refine ⟨by rw [sizeLine_eq]; show (List.replicate _ _).toArray.size + 1 ≤ _; simp; omega, ?_⟩
          walk_at "go"
          rw [q_from (Nat.mod_lt _ (by decide))]
          walk_at "go"
          refine ⟨by rw [sizeLine_eq]; show ((List.replicate _ _).toArray ++ #[_]).size + (List.replicate _ _).toArray.size ≤ _; simp; omega, ?_⟩
          refine ⟨p, _, _, rfl, rfl, hp, hsz, F, _, S, _, _, rfl, eF, rfl, eS, s1.mut np, ?_⟩
          rw [upd_same, nmL_snoc, eN (List.replicate (d / 104 % 7) 113 ++ ([ltr d j] ++ List.replicate (6 - d / 104 % 7) 113)) (by unfold nmC; rw [if_neg c0, if_pos c1]), ← str_app, ← str_app, ← str_assoc]
          rfl
        · have c1 : ¬ d % 4 = 1 := fun e => c (decide_eq_true (by rw [eS, e]; rfl))
          walk_at "go"
          refine ite2 (fun c => ?_) (fun c => ?_)
          · have c2 : d % 4 = 2 := by
              have := of_decide_eq_true c
              have e := V.int.inj this
              omega
            walk_at "go"
            refine ⟨_, _, 97 + d / 4 % 26, rfl, rfl, z26, ?_, ?_⟩
            · rw [eF]; exact abc_at (Nat.mod_lt _ (by decide))
            walk_at "go"
            refine ⟨⟨by omega, by omega⟩, ?_⟩
            refine ⟨p, _, _, rfl, rfl, hp, hsz, F, G, S, _, _, rfl, eF, eG, eS, s1.mut np, ?_⟩
            rw [upd_same, nmL_snoc, eN (List.replicate (n - j) (97 + d / 4 % 26)) (by unfold nmC; rw [if_neg c0, if_neg c1, if_pos c2])]
            have e : ((n : Int) - (0 + (j : Int))).toNat = n - j := by omega
            rw [← e]
          · have c2 : ¬ d % 4 = 2 := fun e => c (decide_eq_true (by rw [eS, e]; rfl))
            walk_at "go"
            have e8 : ((d : Int) + 3 * (0 + (j : Int))).fmod 8 = (((d + 3 * j) % 8 : Nat) : Int) := by
              rw [Int.fmod_eq_emod_of_nonneg _ (by decide)]; omega
            rw [e8, z_to (Nat.mod_lt _ (by decide))]
            refine ⟨by rw [sizeLine_eq]; show 1 + (List.take _ tailZ).toArray.size ≤ _; simp [tailZ]; omega, ?_⟩
            refine ⟨p, _, _, rfl, rfl, hp, hsz, F, G, S, _, _, rfl, eF, eG, eS, s1.mut np, ?_⟩
            rw [upd_same, nmL_snoc, eN (ltr d j :: tailZ.take ((d + 3 * j) % 8)) (by unfold nmC; rw [if_neg c0, if_neg c1, if_neg c2]), show (ltr d j :: tailZ.take ((d + 3 * j) % 8)) = [ltr d j] ++ tailZ.take ((d + 3 * j) % 8) from rfl, ← str_app]
            rfl
    · rintro σ H1 ⟨F, G, S, k, l, rfl, eF, eG, eS, s1, hp⟩
      walk_at "go"
      exact kQ p _ np s1 hp
end

/-! ### channels.py: check_kind, Ends, Load, Channel -/
abbrev FnQ (K : PySem.W.Frag) (x q : Str) (st : Stmt) (f : Addr) (fd : FuncData) : Prop := FunD K x q (defArgs st) (defBody st) (defScope st) [] [] f fd
abbrev sCk : Stmt := (top 7)
abbrev sEnI : Stmt := (inClass (top 8) 0)
abbrev sEnA : Stmt := (inClass (top 8) 1)
abbrev sLoI : Stmt := (inClass (top 9) 0)
abbrev sChI : Stmt := (inClass (top 10) 0)
theorem scCk : FnScope ["kind"] ["kind"] (defScope sCk) := ⟨rfl, rfl, rfl, by decide +kernel, rfl, by decide +kernel, by decide +kernel⟩
theorem scEnI : FnScope ["self", "source", "target"] ["self", "source", "target"] (defScope sEnI) := ⟨rfl, rfl, rfl, by decide +kernel, rfl, by decide +kernel, by decide +kernel⟩
theorem scEnA : FnScope ["self", "site"] ["self", "site"] (defScope sEnA) := ⟨rfl, rfl, rfl, by decide +kernel, rfl, by decide +kernel, by decide +kernel⟩
theorem scLoI : FnScope ["self", "items"] ["self", "items"] (defScope sLoI) := ⟨rfl, rfl, rfl, by decide +kernel, rfl, by decide +kernel, by decide +kernel⟩
theorem scChI : FnScope ["self", "name", "source", "target", "items", "late"] ["self", "name", "source", "target", "items", "late"] (defScope sChI) := ⟨rfl, rfl, rfl, by decide +kernel, rfl, by decide +kernel, by decide +kernel⟩
def kinds : List Str := ["whole", "itemwise", "split", "overtaking", "passing"]
def kindsV : List V := kinds.map V.str
/-- None or a kind -/
def kindV : Option Str → V
  | none => .non
  | some s => .str s
def KindOk : Option Str → Prop
  | none => True
  | some s => s ∈ kinds
instance (k : Option Str) : Decidable (KindOk k) := by
  cases k with
  | none => exact .isTrue trivial
  | some s => exact (inferInstance : Decidable (s ∈ kinds))
/-- what is raised: an exception of the class at C whose own dict, new, holds ps -/
def Rz (E : XK) (C : Addr) (H : Hp) (ps : List (Str × V)) : Prop := ∀ d, H d = none → E (.ref C) (some d) (upd H d (.xd ps))
def spCk (CB : Addr) : Sp := fun vs H Q E => ∃ k : Option Str, vs = [kindV k] ∧ (KindOk k → Q .non H) ∧ (¬ KindOk k → Rz E CB H [("kind", kindV k)])
/-- the classes may be a base's or that of the instance -/
def spEnI (K : PySem.W.Frag) : Sp := fun vs H Q _ => ∃ (p C dx : Addr) (fs : List (Str × V)) (s t : V), vs = [.ref p, s, t] ∧ H p = some (.ins C dx fs) ∧ Cls K C ∧ NoAttr K C "source" ∧ NoAttr K C "target" ∧ fs.length < 100 ∧
  Q .non (upd H p (.ins C dx (putF "target" t (putF "source" s fs))))
def spEnA (K : PySem.W.Frag) (CU : Addr) : Sp := fun vs H Q E => ∃ (p C dx : Addr) (fs : List (Str × V)) (x s t : Str), vs = [.ref p, .str x] ∧ H p = some (.ins C dx fs) ∧ Cls K C ∧ NoAttr K C "source" ∧ NoAttr K C "target" ∧
  fs.lookup ("source" : Str) = some (.str s) ∧ fs.lookup ("target" : Str) = some (.str t) ∧ (x = s → Q (.str t) H) ∧ (x ≠ s → x = t → Q (.str s) H) ∧ (x ≠ s → x ≠ t → Rz E CU H [("name", .str x)])
def spLoI (K : PySem.W.Frag) : Sp := fun vs H Q _ => ∃ (p C dx a : Addr) (fs : List (Str × V)) (xs : List V), vs = [.ref p, .ref a] ∧ H p = some (.ins C dx fs) ∧ Cls K C ∧ NoAttr K C "names" ∧ fs.length < 100 ∧ (SqL K H a xs ∨ SqT K H a xs) ∧
  ∀ l, H l = none → Q .non (upd (upd H l (.lst xs)) p (.ins C dx (putF "names" (.ref l) fs)))
/-- a channel's attributes, in the order in which they are stored -/
def chF (s t : V) (l : Addr) (n k : V) : List (Str × V) := [("source", s), ("target", t), ("names", .ref l), ("name", n), ("kind", k)]
def spChI (K : PySem.W.Frag) (CB : Addr) : Sp := fun vs H Q E => ∃ (p C dx a : Addr) (n s t : V) (xs : List V) (k : Option Str), vs = [.ref p, n, s, t, .ref a, kindV k] ∧ H p = some (.ins C dx []) ∧ Cls K C ∧ NoAttr K C "source" ∧ NoAttr K C "target" ∧ NoAttr K C "names" ∧ NoAttr K C "name" ∧ NoAttr K C "kind" ∧
  (SqL K H a xs ∨ SqT K H a xs) ∧ a ≠ p ∧ (¬ KindOk k → Rz E CB H [("kind", kindV k)]) ∧ (KindOk k → ∀ l, H l = none → Q .non (upd (upd H l (.lst xs)) p (.ins C dx (chF s t l n (kindV k)))))
theorem putF_ne {f g : Str} {v u : V} {r : List (Str × V)} (h : ¬ g = f) : putF f v ((g, u) :: r) = (g, u) :: putF f v r := if_neg h
theorem ch_put (s t : V) (l : Addr) (n k : V) : putF "kind" k (putF "name" n (putF "names" (.ref l) (putF "target" t (putF "source" s [])))) = chF s t l n k := by
  show putF "kind" k (putF "name" n (putF "names" (.ref l) (putF "target" t [(("source" : Str), s)]))) = _
  rw [putF_ne (by decide +kernel)]
  show putF "kind" k (putF "name" n (putF "names" (.ref l) [(("source" : Str), s), ("target", t)])) = _
  rw [putF_ne (by decide +kernel), putF_ne (by decide +kernel)]
  show putF "kind" k (putF "name" n [(("source" : Str), s), ("target", t), ("names", .ref l)]) = _
  rw [putF_ne (by decide +kernel), putF_ne (by decide +kernel), putF_ne (by decide +kernel)]
  show putF "kind" k [(("source" : Str), s), ("target", t), ("names", .ref l), ("name", n)] = _
  rw [putF_ne (by decide +kernel), putF_ne (by decide +kernel), putF_ne (by decide +kernel), putF_ne (by decide +kernel)]
  rfl
section
variable {P : Program} {w : World} {K : PySem.W.Frag} {mg : Str → Option Value} {base : Heap}
theorem in_kinds (k : Str) : inV (.str k) kindsV = decide (k ∈ kinds) := by
  unfold inV kindsV
  rw [List.any_map]
  rw [Bool.eq_iff_iff, List.any_eq_true, decide_eq_true_iff]
  constructor
  · rintro ⟨y, hy, e⟩
    have e' : eqV (.str y) (.str k) = true := e
    have : y = k := by simpa [eqV] using e'
    rw [← this]; exact hy
  · intro h
    exact ⟨k, h, by simp [eqV]⟩
structure CkT (K : PySem.W.Frag) (mg : Str → Option Value) (aK : Addr) : Prop where
  gK : mg "KINDS" = some (.ref aK)
  tK : ∀ H, SqT K H aK kindsV
theorem ok_ck {f aK CB : Addr} {fd : FuncData} (F : FnP K "check_kind" sCk f fd) (T : CkT K mg aK) (xBadKind : PySem.XEx.XCls P K CB ["kind"] (defArgs sIBadKind) (defBody sIBadKind) (defScope sIBadKind)) (gBadKind : mg "BadKind" = some (.ref CB)) : FnOk P w K mg base (L2.CX P w) 3 f fd ["kind"] (spCk CB) := by
  refine F.ok scCk (fun vs H Q E h => ?_) (fun cdv A outer s H vs Q E hr h => ?_)
  · obtain ⟨k, rfl, _⟩ := h
    rfl
  · obtain ⟨k, rfl, kY, kN⟩ := h
    have nd := scCk.nd
    refine ⟨_, pss_one (ps_if (PW.pt (pw_and (pt_cmpR op_notN (pv 0) pe_non (nomark _)) (pw_and1 (pt_cmpR op_notIn_seq (pv 0) (pe_glob (v := .ref aK) (by rfl) T.gK rfl) (by rfl))))) (pss_one (ps_raiseX rfl xBadKind iBadKind gBadKind hr (takes_of rfl rfl rfl rfl) (pa_cons (pv 0) pa_nil))) pss_nil), ?_⟩
    walk_at "go"
    cases k with
    | none =>
      refine iteF ?_
      exact kY trivial
    | some k =>
      refine iteT ?_
      refine ⟨_, rfl, aK, _, rfl, .inr (T.tK _), rfl, rfl, _, rfl, ?_⟩
      have ei : inV (kindV (some k)) kindsV = decide (k ∈ kinds) := in_kinds k
      by_cases c : k ∈ kinds
      · rw [ei, decide_eq_true c]
        exact kY c
      · rw [ei, decide_eq_false c]
        refine ⟨_, rfl, rfl, (fun e => by cases e), fun _ d hd => ?_⟩
        exact kN c d hd
theorem ok_enI {f : Addr} {fd : FuncData} (F : FnQ K "__init__" "Ends.__init__" sEnI f fd) : FnOk P w K mg base (L2.CX P w) 1 f fd ["self", "source", "target"] (spEnI K) := by
  refine F.ok scEnI (fun vs H Q E h => ?_) (fun cdv A outer s H vs Q E hr h => ?_)
  · obtain ⟨p, C, dx, fs, s, t, rfl, _⟩ := h
    rfl
  · obtain ⟨p, C, dx, fs, s, t, rfl, hp, cl, n1, n2, hz, kQ⟩ := h
    have nd := scEnI.nd
    refine ⟨_, (pss_cons (ps_fld (pv 0) (pv 1) rfl)
      (pss_one (ps_fld (pv 0) (pv 2) rfl))), ?_⟩
    refine ⟨_, rfl, _, rfl, p, C, dx, fs, rfl, hp, cl, n1, Nat.lt_trans hz (by decide), ?_⟩
    refine ⟨_, rfl, _, rfl, p, C, dx, _, rfl, upd_same, cl, n2, Nat.lt_of_le_of_lt (putF_len _ _ _) (by omega), ?_⟩
    rw [upd_upd]
    exact kQ
theorem ok_enA {f CU : Addr} {fd : FuncData} (F : FnQ K "across" "Ends.across" sEnA f fd) (xUnknown : PySem.XEx.XCls P K CU ["name"] (defArgs sIUnknown) (defBody sIUnknown) (defScope sIUnknown)) (gUnknown : mg "Unknown" = some (.ref CU)) : FnOk P w K mg base (L2.CX P w) 3 f fd ["self", "site"] (spEnA K CU) := by
  refine F.ok scEnA (fun vs H Q E h => ?_) (fun cdv A outer s H vs Q E hr h => ?_)
  · obtain ⟨p, C, dx, fs, x, s, t, rfl, _⟩ := h
    rfl
  · obtain ⟨p, C, dx, fs, x, s, t, rfl, hp, cl, n1, n2, l1, l2, k1, k2, k3⟩ := h
    have nd := scEnA.nd
    refine ⟨_, pss_cons (ps_if (pt_cmpR op_eq (pv 1) (pe_fld (pv 0) rfl) (nomark _)) (pss_one (ps_ret (pe_fld (pv 0) rfl))) pss_nil) (pss_cons (ps_if (pt_cmpR op_eq (pv 1) (pe_fld (pv 0) rfl) (nomark _)) (pss_one (ps_ret (pe_fld (pv 0) rfl))) pss_nil)
      (pss_one (ps_raiseX rfl xUnknown iUnknown gUnknown hr (takes_of rfl rfl rfl rfl) (pa_cons (pv 1) pa_nil)))), ?_⟩
    refine ⟨_, rfl, _, rfl, p, C, dx, fs, _, rfl, hp, cl, n1, l1, rfl, _, rfl, ?_⟩
    refine ite2 (fun c => ?_) (fun c => ?_)
    · have e : x = s := V.str.inj (of_decide_eq_true c)
      exact ⟨_, rfl, p, C, dx, fs, _, rfl, hp, cl, n2, l2, k1 e⟩
    · have e : x ≠ s := fun e => c (decide_eq_true (by rw [e]))
      refine ⟨_, rfl, _, rfl, p, C, dx, fs, _, rfl, hp, cl, n2, l2, rfl, _, rfl, ?_⟩
      refine ite2 (fun c => ?_) (fun c => ?_)
      · have e2 : x = t := V.str.inj (of_decide_eq_true c)
        exact ⟨_, rfl, p, C, dx, fs, _, rfl, hp, cl, n1, l1, k2 e e2⟩
      · have e2 : x ≠ t := fun e => c (decide_eq_true (by rw [e]))
        exact ⟨_, rfl, rfl, (fun e => by cases e), fun _ d hd => k3 e e2 d hd⟩
theorem ok_loI {f : Addr} {fd : FuncData} (F : FnQ K "__init__" "Load.__init__" sLoI f fd) (T : Bi mg) (hL : mg "list" = none) : FnOk P w K mg base (L2.CX P w) 1 f fd ["self", "items"] (spLoI K) := by
  refine F.ok scLoI (fun vs H Q E h => ?_) (fun cdv A outer s H vs Q E hr h => ?_)
  · obtain ⟨p, C, dx, a, fs, xs, rfl, _⟩ := h
    rfl
  · obtain ⟨p, C, dx, a, fs, xs, rfl, hp, cl, n1, hz, hS, kQ⟩ := h
    have nd := scLoI.nd
    refine ⟨_, pss_one (ps_fld (pv 0) (pe_callTy call_list_of (by rfl) hL (by decide +kernel) (pa_cons (pv 1) pa_nil)) rfl), ?_⟩
    refine ⟨_, rfl, a, xs, rfl, hS, fun l hl => ?_⟩
    refine ⟨_, rfl, p, C, dx, fs, rfl, (by rw [upd_ne (ne_of_none hp hl)]; exact hp), cl, n1, Nat.lt_trans hz (by decide), ?_⟩
    exact kQ l hl
theorem ok_chI {f CB : Addr} {fd : FuncData} (F : FnQ K "__init__" "Channel.__init__" sChI f fd) (g_ck : Cal P w K mg base 3 "check_kind" ["kind"] (spCk CB)) (g_en : CFn P w K mg base 1 "Ends" "__init__" ["self", "source", "target"] (spEnI K)) (g_lo : CFn P w K mg base 1 "Load" "__init__" ["self", "items"] (spLoI K)) :
    FnOk P w K mg base (L2.CX P w) 4 f fd ["self", "name", "source", "target", "items", "late"] (spChI K CB) := by
  refine F.ok scChI (fun vs H Q E h => ?_) (fun cdv A outer s H vs Q E hr h => ?_)
  · obtain ⟨p, C, dx, a, n, s, t, xs, k, rfl, _⟩ := h
    rfl
  · obtain ⟨p, C, dx, a, n, s, t, xs, k, rfl, hp, cl, n1, n2, n3, n4, n5, hS, nap, kN, kY⟩ := h
    have nd := scChI.nd
    refine ⟨_, pss_cons (ps_expr (pe_cal g_ck hr (takes_of rfl rfl rfl rfl) (pa_cons (pv 5) pa_nil))) (pss_cons (ps_expr (pe_cfn g_en hr takes0 (pa_cons (pv 0) (pa_cons (pv 2) (pa_cons (pv 3) pa_nil)))))
      (pss_cons (ps_expr (pe_cfn g_lo hr takes0 (pa_cons (pv 0) (pa_cons (pv 4) pa_nil)))) (pss_cons (ps_fld (pv 0) (pv 1) rfl) (pss_one (ps_fld (pv 0) (pv 5) rfl))))), ?_⟩
    refine ⟨_, rfl, k, rfl, fun hk => ?_, fun hk => kN hk⟩
    refine ⟨_, rfl, _, rfl, _, rfl, p, C, dx, [], s, t, rfl, hp, cl, n1, n2, by decide, ?_⟩
    have hS' : ∀ o, SqL K (upd H p o) a xs ∨ SqT K (upd H p o) a xs := fun o => by
      rcases hS with hS | hS
      · exact .inl (sqL_upd nap hS)
      · exact .inr (sqT_upd nap hS)
    refine ⟨_, rfl, _, rfl, p, C, dx, a, _, xs, rfl, upd_same, cl, n3, Nat.lt_of_le_of_lt (putF_le (putF_le (Nat.le_refl 0))) (by decide), hS' _, fun l hl => ?_⟩
    have hlp : l ≠ p := fun e => by rw [e, upd_same] at hl; cases hl
    have hl0 : H l = none := by rw [upd_ne hlp] at hl; exact hl
    refine ⟨_, rfl, _, rfl, p, C, dx, _, rfl, upd_same, cl, n4, Nat.lt_of_le_of_lt (putF_le (putF_le (putF_le (Nat.le_refl 0)))) (by decide), ?_⟩
    refine ⟨_, rfl, _, rfl, p, C, dx, _, rfl, upd_same, cl, n5, Nat.lt_of_le_of_lt (putF_le (putF_le (putF_le (putF_le (Nat.le_refl 0))))) (by decide), ?_⟩
    have e : upd (upd (upd (upd (upd H p (.ins C dx (putF "target" t (putF "source" s [])))) l (.lst xs)) p (.ins C dx (putF "names" (.ref l) (putF "target" t (putF "source" s []))))) p (.ins C dx (putF "name" n (putF "names" (.ref l) (putF "target" t (putF "source" s []))))))
        p (.ins C dx (putF "kind" (kindV k) (putF "name" n (putF "names" (.ref l) (putF "target" t (putF "source" s []))))))
        = upd (upd H l (.lst xs)) p (.ins C dx (chF s t l n (kindV k))) := by
      rw [ch_put, upd_upd, upd_upd]
      funext b
      by_cases hb : b = p
      · rw [hb, upd_same, upd_same]
      · rw [upd_ne hb, upd_ne hb]
        by_cases hb2 : b = l
        · rw [hb2, upd_same, upd_same]
        · rw [upd_ne hb2, upd_ne hb2, upd_ne hb]
    have z := kY hk l hl0
    rw [← e] at z
    exact z
end

/-! ### law k01 -/
abbrev sLaw : Stmt := (top 15)
theorem scLaw : FnScope ["_law_script", "_law_draws_here", "_law_names_here", "_law_source", "_law_target", "_law_ends", "_law_line", "_law_one", "_law_other", "_law_raised", "e"] ["_law_script"] (defScope sLaw) := ⟨rfl, rfl, rfl, by decide +kernel, rfl, by decide +kernel, by decide +kernel⟩
def spLaw (K : PySem.W.Frag) : Sp := fun vs H Q _ => ∃ (a : Addr) (ns : List Int), vs = [.ref a] ∧ SqL K H a (ns.map V.int) ∧ ns.length ≤ 63 ∧ ∀ H', Q (.bl true) H'
theorem at_str {l : List Str} {k : Nat} {s : Str} (h : l[k]? = some s) : (l.map V.str)[k]? = some (.str s) := by rw [List.getElem?_map, h]; rfl
section
variable {P : Program} {w : World} {K : PySem.W.Frag} {mg : Str → Option Value} {base : Heap}
theorem ok_law {f CU CB CE CC : Addr} {fd : FuncData} (F : FnP K "law" sLaw f fd) (T : Bi mg)
    (g_draws : Cal P w K mg base 1 "_law_draws" ["_law_script", "_law_many"] (spDraws K)) (g_take : Cal P w K mg base 1 "_law_take" ["_law_draws_here", "_law_size"] spTake) (g_names : Cal P w K mg base 1 "_law_names" ["_law_draw", "_law_many"] spNames)
    (g_Ends : Mak P w K mg base 1 "Ends" CE ["self", "source", "target"] (spEnI K)) (g_Channel : Mak P w K mg base 4 "Channel" CC ["self", "name", "source", "target", "items", "late"] (spChI K CB))
    (m1 : Mth P w K mg base 3 CE "across" ["self", "site"] (spEnA K CU)) (m2 : Mth P w K mg base 3 CC "across" ["self", "site"] (spEnA K CU))
    (xUnknown : PySem.XEx.XCls P K CU ["name"] (defArgs sIUnknown) (defBody sIUnknown) (defScope sIUnknown)) (gUnknown : mg "Unknown" = some (.ref CU))
    (nE1 : NoAttr K CE "source") (nE2 : NoAttr K CE "target") (nC : ∀ f ∈ (["source", "target", "names", "name", "kind"] : List Str), NoAttr K CC f) : FnOk P w K mg base (L2.CX P w) 6 f fd ["_law_script"] (spLaw K) := by
  refine F.ok scLaw (fun vs H Q E h => ?_) (fun cdv A outer s H vs Q E hr h => ?_)
  · obtain ⟨a, ns, rfl, _⟩ := h
    rfl
  · obtain ⟨a, ns, rfl, hS, hlen, kQ⟩ := h
    have nd := scLaw.nd
    refine ⟨_, (pss_cons (ps_set (i := 1) nd rfl (Or.inl rfl) (pe_cal g_draws hr takes0 (pa_cons (pv 0) (pa_cons pe_int pa_nil))))
      (pss_cons (ps_set (i := 2) nd rfl (Or.inl rfl) (pe_cal g_names hr takes0 (pa_cons (pe_cal g_take hr takes0 (pa_cons (pv 1) (pa_cons pe_int pa_nil))) (pa_cons pe_int pa_nil))))
      (pss_cons (ps_set (i := 3) nd rfl (Or.inl rfl) (pe_ix ix_list (pv 2) (pe_cal g_take hr takes0 (pa_cons (pv 1) (pa_cons pe_int pa_nil))) (fun _ _ => rfl)))
      (pss_cons (ps_set (i := 4) nd rfl (Or.inl rfl) (pe_ix ix_list (pv 2) (pe_op op_add pe_int (pe_cal g_take hr takes0 (pa_cons (pv 1) (pa_cons pe_int pa_nil)))) (fun _ _ => rfl)))
      (pss_cons (ps_set (i := 5) nd rfl (Or.inl rfl) (pe_mak g_Ends hr takes0 (pa_cons (pv 3) (pa_cons (pv 4) pa_nil))))
      (pss_cons (ps_set (i := 6) nd rfl (Or.inl rfl) (pe_mak g_Channel hr takes0 (pa_cons (pe_ix ix_list (pv 2) pe_int (fun _ _ => rfl)) (pa_cons (pv 3) (pa_cons (pv 4) (pa_cons (pe_lst (pa_cons (pe_ix ix_list (pv 2) pe_int (fun _ _ => rfl)) pa_nil)) (pa_cons pe_non pa_nil)))))))
      (pss_cons (ps_for (passes_of rfl) rfl (pi_list (pe_lst (pa_cons (pv 5) (pa_cons (pv 6) pa_nil)))) (pg_name (i := 7) nd rfl (Or.inl rfl)) (pss_cons (ps_if (PW.pt (pw_or (pt_cmpR op_ne (pe_fld (pv 7) rfl) (pv 3) (nomark _)) (pw_or1 (pt_cmpR op_ne (pe_fld (pv 7) rfl) (pv 4) (nomark _))))) (pss_one (ps_ret pe_bl)) pss_nil)
        (pss_one (ps_if (PW.pt (pw_or (pt_cmpR op_ne (pe_mthE hr takes0 (pv 7) (pa_cons (pv 3) pa_nil)) (pv 4) (nomark _)) (pw_or1 (pt_cmpR op_ne (pe_mthE hr takes0 (pv 7) (pa_cons (pv 4) pa_nil)) (pv 3) (nomark _))))) (pss_one (ps_ret pe_bl)) pss_nil))))
      (pss_cons (ps_set (i := 8) nd rfl (Or.inl rfl) (pe_ix ix_list (pv 2) (pe_cal g_take hr takes0 (pa_cons (pv 1) (pa_cons pe_int pa_nil))) (fun _ _ => rfl)))
      (pss_cons (ps_set (i := 9) nd rfl (Or.inl rfl) pe_bl)
      (pss_cons (ps_tryA (i := 10) rfl rfl nd rfl rfl ⟨rfl, by decide, .inl gUnknown⟩ takes0 (fun W pn xe tk po => (pss_one (ps_expr (pe_mthE hr tk (pv 6) (pa_cons (pv 8) pa_nil))))) (fun a oe cls d pn hz hf => (pss_cons (ps_set (i := 9) nd rfl (Or.inl rfl) pe_bl)
        (pss_one (ps_if (pt_cmpR op_ne (pe_byX xUnknown (xUnknown.noF "name" (by simp)) hz hf (pv 10)) (pv 8) (nomark _)) (pss_one (ps_ret pe_bl)) pss_nil)))))
      (pss_one (ps_ret (pe_cmpR op_eq (pv 9) (pe_and (pe_cmpR op_ne (pv 8) (pv 3) (nomark _)) (pe_one (pe_cmpR op_ne (pv 8) (pv 4) (nomark _)))) (nomark _)))))))))))))), ?_⟩
    walk_at "go"
    refine ⟨a, ns, 8, rfl, hS, hlen, by decide, fun p ds H1 np s1 hp hl hd => ?_⟩
    -- names
    refine ⟨_, rfl, p, ds, 1000, rfl, hp, hd, by decide, fun d1 ds1 d10 d11 hd1 _ => ?_⟩
    obtain ⟨k1, rfl⟩ := Int.eq_ofNat_of_zero_le d10
    refine ⟨k1, 6, rfl, by omega, by decide, fun q H2 nq s2 hq => ?_⟩
    have hp2 : H2 p = some (.lst (ds1.map V.int)) := s2 _ _ upd_same
    have qp : q ≠ p := fun e => by rw [e, upd_same] at nq; cases nq
    -- source
    refine ⟨_, rfl, _, rfl, p, ds1, 3, rfl, hp2, hd1, by decide, fun d2 ds2 d20 d21 hd2 _ => ?_⟩
    obtain ⟨k2, rfl⟩ := Int.eq_ofNat_of_zero_le d20
    refine ⟨q, _, _, .str (nm k1 6 k2), rfl, rfl, SqL.of (by rw [upd_ne qp]; exact hq), atI_nat (at_str (nmL_at (by omega))), ?_⟩
    -- target
    refine ⟨_, rfl, _, rfl, p, ds2, 3, rfl, upd_same, hd2, by decide, fun d3 ds3 d30 d31 hd3 _ => ?_⟩
    obtain ⟨k3, rfl⟩ := Int.eq_ofNat_of_zero_le d30
    rw [upd_upd]
    refine ⟨_, _, rfl, rfl, q, _, _, .str (nm k1 6 (3 + k3)), rfl, rfl, SqL.of (by rw [upd_ne qp]; exact hq), ?_, ?_⟩
    · have e : (3 : Int) + (k3 : Int) = ((3 + k3 : Nat) : Int) := by omega
      show atI _ ((3 : Int) + (k3 : Int)) = _
      rw [e]
      exact atI_nat (at_str (nmL_at (by omega)))
    have ne23 : nm k1 6 k2 ≠ nm k1 6 (3 + k3) := fun e => by
      have := nm_inj (by decide) (by omega) (by omega) e
      omega
    generalize hH3 : upd H2 p (.lst (ds3.map V.int)) = H3
    have hq3 : H3 q = some (.lst ((nmL k1 6).map V.str)) := by rw [← hH3, upd_ne qp]; exact hq
    have hp3 : H3 p = some (.lst (ds3.map V.int)) := by rw [← hH3, upd_same]
    -- Ends(source, target)
    refine ⟨_, rfl, _, rfl, fun pe dxe npe ndxe nee => ?_⟩
    refine ⟨pe, CE, dxe, [], _, _, rfl, upd_same, m1.cl, nE1, nE2, by decide, rfl, ?_⟩
    rw [upd_upd]
    generalize hH4 : upd (upd H3 dxe (.own pe)) pe (.ins CE dxe (putF "target" (.str (nm k1 6 (3 + k3))) (putF "source" (.str (nm k1 6 k2)) []))) = H4
    have s4 : Same H3 H4 := fun b o e => by
      rw [← hH4, upd_ne (ne_of_none e npe), upd_ne (ne_of_none e ndxe)]; exact e
    have he4 : H4 pe = some (.ins CE dxe (putF "target" (.str (nm k1 6 (3 + k3))) (putF "source" (.str (nm k1 6 k2)) []))) := by rw [← hH4, upd_same]
    have hq4 := s4 _ _ hq3
    have hp4 := s4 _ _ hp3
    -- Channel(..)
    have z0 : atI ((nmL k1 6).map V.str) 0 = some (.str (nm k1 6 0)) := atI_nat (j := 0) (at_str (nmL_at (by decide)))
    have z1 : atI ((nmL k1 6).map V.str) 1 = some (.str (nm k1 6 1)) := atI_nat (j := 1) (at_str (nmL_at (by decide)))
    refine ⟨_, rfl, q, _, _, _, rfl, rfl, SqL.of hq4, z0, _, rfl, _, rfl, _, rfl, q, _, _, _, rfl, rfl, SqL.of hq4, z1, (show 1 ≤ sizeLine by decide), fun l hl => ?_⟩
    intro pc dxc npc ndxc nec
    have lpc : l ≠ pc := fun e => by rw [e] at npc; rw [upd_same] at npc; cases npc
    have ldx : l ≠ dxc := fun e => by rw [e] at ndxc; rw [upd_same] at ndxc; cases ndxc
    refine ⟨pc, CC, dxc, l, _, _, _, _, none, rfl, upd_same, m2.cl, nC _ (by simp), nC _ (by simp), nC _ (by simp), nC _ (by simp), nC _ (by simp), .inl (SqL.of (by rw [upd_ne lpc, upd_ne ldx, upd_same])), lpc, fun h => (h trivial).elim, fun _ l2 hl2 => ⟨rfl, ?_⟩⟩
    have l2pc : l2 ≠ pc := fun e => by rw [e, upd_same] at hl2; cases hl2
    generalize hH7 : upd (upd (upd (upd (upd H4 l (.lst [V.str (nm k1 6 1)])) dxc (.own pc)) pc (.ins CC dxc [])) l2 (.lst [V.str (nm k1 6 1)])) pc (.ins CC dxc (chF (.str (nm k1 6 k2)) (.str (nm k1 6 (3 + k3))) l2 (.str (nm k1 6 0)) (kindV none))) = H7
    have s7 : Same H4 H7 := fun b o e => by
      have b1 : b ≠ l := ne_of_none e hl
      have e1 : upd H4 l (.lst [V.str (nm k1 6 1)]) b = some o := by rw [upd_ne b1]; exact e
      have b2 := ne_of_none e1 npc
      have b3 := ne_of_none e1 ndxc
      have e2 : upd (upd (upd H4 l (.lst [V.str (nm k1 6 1)])) dxc (.own pc)) pc (.ins CC dxc []) b = some o := by rw [upd_ne b2, upd_ne b3]; exact e1
      have b4 := ne_of_none e2 hl2
      rw [← hH7, upd_ne b2, upd_ne b4]; exact e2
    have hc7 : H7 pc = some (.ins CC dxc (chF (.str (nm k1 6 k2)) (.str (nm k1 6 (3 + k3))) l2 (.str (nm k1 6 0)) (kindV none))) := by rw [← hH7, upd_same]
    have he7 := s7 _ _ he4
    have hq7 := s7 _ _ hq4
    have hp7 := s7 _ _ hp4
    -- what both objects show
    have both : ∀ H8 : Hp, Same H7 H8 → ∀ x ∈ ([pe, pc] : List Addr), ∃ (C dx : Addr) (fs : List (Str × V)), H8 x = some (.ins C dx fs) ∧ Cls K C ∧ NoAttr K C "source" ∧ NoAttr K C "target" ∧ fs.lookup ("source" : Str) = some (.str (nm k1 6 k2)) ∧
        fs.lookup ("target" : Str) = some (.str (nm k1 6 (3 + k3))) ∧ fs.lookup ("across" : Str) = none ∧ Mth P w K mg base 3 C "across" ["self", "site"] (spEnA K CU) := by
      intro H8 s8 x hx
      rcases List.mem_cons.mp hx with e | hx
      · rw [e]
        refine ⟨CE, dxe, _, s8 _ _ he7, m1.cl, nE1, nE2, ?_, ?_, ?_, m1⟩
        · rw [lookup_putF, if_neg (by decide +kernel), lookup_putF, if_pos rfl]
        · rw [lookup_putF, if_pos rfl]
        · rw [lookup_putF, if_neg (by decide +kernel), lookup_putF, if_neg (by decide +kernel)]; rfl
      · rw [List.mem_singleton.mp hx]
        refine ⟨CC, dxc, _, s8 _ _ hc7, m2.cl, nC _ (by simp), nC _ (by simp), ?_, ?_, ?_, m2⟩
        · unfold chF; rw [lookup_put, if_pos rfl]
        · unfold chF; rw [lookup_put, if_neg (by decide +kernel), lookup_put, if_pos rfl]
        · unfold chF; rw [lookup_put, if_neg (by decide +kernel), lookup_put, if_neg (by decide +kernel), lookup_put, if_neg (by decide +kernel), lookup_put, if_neg (by decide +kernel), lookup_put, if_neg (by decide +kernel)]; rfl
    -- for _law_one in [..]
    refine ⟨_, rfl, _, rfl, (show 2 ≤ sizeLine by decide), fun L hL => ⟨L, rfl, ⟨_, SqL.of upd_same⟩, ?_⟩⟩
    have s8 : Same H7 (upd H7 L (.lst [V.ref pe, V.ref pc])) := (Same.refl H7).new hL
    refine for_list (K := K) (a := L) (xs := [V.ref pe, V.ref pc]) (fun i σ H8 => H8 = upd H7 L (.lst [V.ref pe, V.ref pc]) ∧ ∃ v, σ = [some (.ref a), some (.ref p), some (.ref q), some (.str (nm k1 6 k2)), some (.str (nm k1 6 (3 + k3))), some (.ref pe), some (.ref pc), v, none, none, none])
      ⟨rfl, none, rfl⟩ (fun i σ H8 _ ⟨e, _⟩ => by rw [e]; exact SqL.of upd_same) ?_ ?_
    · rintro i y σ H8 hi ⟨rfl, v, rfl⟩
      obtain ⟨o, rfl, ho⟩ : ∃ o, y = V.ref o ∧ o ∈ ([pe, pc] : List Addr) := by
        match i, hi with
        | 0, hi => exact ⟨pe, (Option.some.inj hi).symm, by simp⟩
        | 1, hi => exact ⟨pc, (Option.some.inj hi).symm, by simp⟩
      obtain ⟨C, dx, fs, h, cl, n1, n2, l1, l2, l3, mm⟩ := both _ s8 o ho
      refine ⟨_, rfl, o, C, dx, fs, _, rfl, h, cl, n1, l1, _, rfl, rfl, _, rfl, iteNS rfl ?_⟩
      refine ⟨_, rfl, o, C, dx, fs, _, rfl, h, cl, n2, l2, _, rfl, rfl, _, rfl, iteNS rfl ?_⟩
      refine ⟨_, rfl, o, C, dx, fs, 3, _, _, rfl, h, mm, by decide, l3, _, rfl, o, C, dx, fs, _, _, _, rfl, h, cl, n1, n2, l1, l2, fun _ => ?_, fun h => (h rfl).elim, fun h => (h rfl).elim⟩
      refine ⟨_, rfl, rfl, _, rfl, iteNS rfl ?_⟩
      refine ⟨_, rfl, o, C, dx, fs, 3, _, _, rfl, h, mm, by decide, l3, _, rfl, o, C, dx, fs, _, _, _, rfl, h, cl, n1, n2, l1, l2, fun h => (ne23 h.symm).elim, fun _ _ => ?_, fun _ h => (h rfl).elim⟩
      refine ⟨_, rfl, rfl, _, rfl, iteNS rfl ?_⟩
      exact ⟨rfl, _, rfl⟩
    · rintro σ H8 ⟨rfl, v, rfl⟩
      have hp8 := s8 _ _ hp7
      have hq8 := s8 _ _ hq7
      refine ⟨_, rfl, _, rfl, p, ds3, 6, rfl, hp8, hd3, by decide, fun d4 ds4 d40 d41 hd4 _ => ?_⟩
      obtain ⟨k4, rfl⟩ := Int.eq_ofNat_of_zero_le d40
      have pep : pe ≠ p := fun e => by rw [e, hp3] at npe; cases npe
      have pcp : pc ≠ p := fun e => by
        rw [e, upd_ne (Ne.symm (fun z => by rw [z] at hl; rw [hp4] at hl; cases hl)), hp4] at npc
        cases npc
      refine ⟨q, _, _, _, rfl, rfl, SqL.of (by rw [upd_ne qp]; exact hq8), atI_nat (at_str (nmL_at (d := k1) (n := 6) (k := k4) (by omega))), ?_⟩
      obtain ⟨C, dx, fs, h, cl, n1, n2, l1, l2, l3, mm⟩ := both _ s8 pc (by simp)
      have h4 : upd (upd H7 L (.lst [V.ref pe, V.ref pc])) p (.lst (ds4.map V.int)) pc = some (.ins C dx fs) := by rw [upd_ne pcp]; exact h
      walk_at "go"
      intro pn xe
      refine ⟨_, rfl, pc, C, dx, fs, 3, _, _, rfl, h4, mm, by decide, l3, _, rfl, pc, C, dx, fs, _, _, _, rfl, h4, cl, n1, n2, l1, l2, fun e => ?_, fun ne e => ?_, fun ne1 ne2 d hd => ?_⟩
      · -- the source
        refine ⟨_, rfl, _, rfl, _, rfl, rfl, _, rfl, iteNS (congrArg V.str e) ?_⟩
        refine ⟨rfl, ?_⟩
        have e1 : V.bl (decide (V.bl false = V.bl false)) = V.bl true := by decide
        rw [e1]
        exact kQ _
      · -- the target
        refine ⟨_, rfl, _, rfl, _, rfl, rfl, _, rfl, iteNN (fun z => ne (V.str.inj z)) ?_⟩
        refine ⟨_, rfl, _, rfl, rfl, rfl, ?_⟩
        have e1 : V.bl (decide (V.bl false = V.bl (!decide (V.str (nm k1 6 k4) = V.str (nm k1 6 (3 + k3)))))) = V.bl true := by
          rw [decide_eq_true (congrArg V.str e)]; decide
        rw [e1]
        exact kQ _
      · -- another name: Unknown
        refine ⟨true, xUnknown.te, fun _ ae hae => ?_, fun q => by cases q⟩
        intro oe pn2
        walk_at "go"
        refine ⟨d, _, _, rfl, upd_same, rfl, _, rfl, rfl, _, rfl, iteNS rfl ?_⟩
        refine ⟨_, rfl, _, rfl, _, rfl, rfl, _, rfl, iteNN (fun z => ne1 (V.str.inj z)) ?_⟩
        refine ⟨_, rfl, _, rfl, rfl, rfl, ?_⟩
        have e1 : V.bl (decide (V.bl true = V.bl (!decide (V.str (nm k1 6 k4) = V.str (nm k1 6 (3 + k3)))))) = V.bl true := by
          rw [decide_eq_false (fun z => ne2 (V.str.inj z))]; decide
        rw [e1]
        exact kQ _
end

/-! ### the head -/
theorem all_of {p : Fy → Bool} {l : List Fy} (h : l.all p = true) {f : Fy} (m : f ∈ l) : p f = true := List.all_eq_true.mp h f m
def dDraws : He.DefD := ⟨("_law_draws", none), "_law_draws", "_law_draws", defArgs sDraws, defBody sDraws, defScope sDraws, [], []⟩
def dTake : He.DefD := ⟨("_law_take", none), "_law_take", "_law_take", defArgs sTake, defBody sTake, defScope sTake, [], []⟩
def dNames : He.DefD := ⟨("_law_names", none), "_law_names", "_law_names", defArgs sNames, defBody sNames, defScope sNames, [], []⟩
def dCk : He.DefD := ⟨("check_kind", none), "check_kind", "check_kind", defArgs sCk, defBody sCk, defScope sCk, [], []⟩
def dEnI : He.DefD := ⟨("Ends", some "__init__"), "__init__", "Ends.__init__", defArgs sEnI, defBody sEnI, defScope sEnI, [], []⟩
def dEnA : He.DefD := ⟨("Ends", some "across"), "across", "Ends.across", defArgs sEnA, defBody sEnA, defScope sEnA, [], []⟩
def dChA : He.DefD := ⟨("Channel", some "across"), "across", "Ends.across", defArgs sEnA, defBody sEnA, defScope sEnA, [], []⟩
def dLoI : He.DefD := ⟨("Load", some "__init__"), "__init__", "Load.__init__", defArgs sLoI, defBody sLoI, defScope sLoI, [], []⟩
def dChI : He.DefD := ⟨("Channel", some "__init__"), "__init__", "Channel.__init__", defArgs sChI, defBody sChI, defScope sChI, [], []⟩
def dLaw : He.DefD := ⟨("law", none), "law", "law", defArgs sLaw, defBody sLaw, defScope sLaw, [], []⟩
def fn : List He.DefD := [dDraws, dTake, dNames, dCk, dEnI, dEnA, dChA, dLoI, dChI, dLaw]
def xs : List XD := [xdUnknown, xdBadKind]
def kindsDv : List He.Dv := [.str "whole", .str "itemwise", .str "split", .str "overtaking", .str "passing"]
def fy : List Fy := [.fa (.glo "_law_draws"), .fa (.glo "_law_take"), .fa (.glo "_law_names"), .fa (.glo "check_kind"), .fa (.glo "law"), .fa (.glo "Ends"), .fa (.glo "Load"), .fa (.glo "Channel"),
  .fa (.free "abs"), .fa (.free "int"), .fa (.free "len"), .fa (.free "range"), .fa (.free "list"), .fa (.cls "Ends"), .fa (.cls "Channel"), .fa (.noat "Ends" "source"), .fa (.noat "Ends" "target"),
  .fa (.noat "Channel" "source"), .fa (.noat "Channel" "target"), .fa (.noat "Channel" "names"), .fa (.noat "Channel" "name"), .fa (.noat "Channel" "kind"), .fa (.mkr "Ends"), .fa (.mkr "Channel"), .fa (.meth "Ends" "across"), .fa (.meth "Channel" "across"),
  .clf "Ends" "__init__", .clf "Load" "__init__", .tup "KINDS" kindsDv]
def fb (K : PySem.W.Frag) : Bool := fy.all (Fy.ok K)
abbrev R : PySem.W.OpenRow := PySem.W.OpenLaw.row PySem.Challenge.rw_latebridges_k01_across_a_channel
abbrev hk : PySem.W.Hook := hookM R.prog 5 fb fn xs
def ob (s : PySem.W.SharedT) : AlM := obsMG R.prog 5 fb fn xs (HandSHeadRun.getT s)
theorem ob_eq (s : PySem.W.SharedT) : ob s = hk.obs s.abs := obsMG_eq (HandSHeadRun.getT_eq s)
def loose : List Str := ["_wall","PlacementError","Unknown","BadKind","KINDS","check_kind","Ends","Load","Channel","_law_draws","_law_take","_law_names"]
set_option maxHeartbeats 0 in
theorem run (w : World) : HandSHeadRun.RunEq R (PySem.W.view R.prog [15]) hk ob 3000 loose w := by
  intro os
  kernel_rfl
theorem facts {w : World} {K : PySem.W.Frag} {h : Heap} {mg : Str → Option Value} {f : Addr} (X : K.In h) (G : h.Ns mainGlobals mg) (hfa : mg ("law" : Str) = some (.ref f)) (c : SaysM R.prog fb fn xs K) :
    ∃ fd : FuncData, (∀ (s : Shared) (v : Value), BindsTo s fd ⟨[v], []⟩ [("_law_script", v)]) ∧ ∀ base : Heap, K.In base → base.Ns mainGlobals mg → FnOk R.prog w K mg base (L2.CX R.prog w) 6 f fd ["_law_script"] (spLaw K) := by
  have q : ∀ {y : Fy}, y ∈ fy → y.ok K = true := fun m => all_of c.fact m
  have qf : ∀ {y : He.Fa}, Fy.fa y ∈ fy → y.ok K = true := fun m => all_of c.fact m
  have glo : ∀ {x : Str}, Fy.fa (.glo x) ∈ fy → mg x = some (.ref (He.ga K x)) := fun m => He.glo_ok X G (q m)
  have free : ∀ {x : Str}, Fy.fa (.free x) ∈ fy → mg x = none := fun m => He.free_ok X G (q m)
  have T : Bi mg := ⟨free (by simp [fy]), free (by simp [fy]), free (by simp [fy]), free (by simp [fy])⟩
  obtain ⟨fd0, F0⟩ := c.def_ 0 (d := dDraws) rfl
  obtain ⟨fd1, F1⟩ := c.def_ 1 (d := dTake) rfl
  obtain ⟨fd2, F2⟩ := c.def_ 2 (d := dNames) rfl
  obtain ⟨fd3, F3⟩ := c.def_ 3 (d := dCk) rfl
  obtain ⟨fd4, F4⟩ := c.def_ 4 (d := dEnI) rfl
  obtain ⟨fd5, F5⟩ := c.def_ 5 (d := dEnA) rfl
  obtain ⟨fd6, F6⟩ := c.def_ 6 (d := dChA) rfl
  obtain ⟨fd7, F7⟩ := c.def_ 7 (d := dLoI) rfl
  obtain ⟨fd8, F8⟩ := c.def_ 8 (d := dChI) rfl
  obtain ⟨fd9, F9⟩ := c.def_ 9 (d := dLaw) rfl
  have ht : (R.prog.main.scope.names.lookup ("super" : Str)).isSome = false := by decide +kernel
  have xU := c.exc ht 0 (d := xdUnknown) rfl
  have xB := c.exc ht 1 (d := xdBadKind) rfl
  have gU : mg ("Unknown" : Str) = some (.ref (He.ga K "Unknown")) := c.mgx X G 0 (d := xdUnknown) rfl
  have gB : mg ("BadKind" : Str) = some (.ref (He.ga K "BadKind")) := c.mgx X G 1 (d := xdBadKind) rfl
  have e := hfa.symm.trans (glo (x := "law") (by simp [fy]))
  cases e
  have b := FunD.bindsA (ps := ["_law_script"]) F9 fun _ _ _ _ _ _ us hl => match us, hl with | [_], _ => rfl
  refine ⟨fd9, fun s v => b s [v] rfl, fun base _ _ => ?_⟩
  have tK : ∀ H, SqT K H (He.ga K "KINDS") kindsV := fun H => (Fy.tup_ok X G (q (y := .tup "KINDS" kindsDv) (by simp [fy]))).2 H
  have gck : Cal R.prog w K mg base 3 "check_kind" ["kind"] (spCk (He.ga K "BadKind")) :=
    ⟨⟨_, fd3, glo (by simp [fy]), F3.kp, F3.bindsN (ps := ["kind"]) (fun _ _ _ _ _ _ us hl => match us, hl with | [_], _ => rfl), ok_ck F3 ⟨(Fy.tup_ok X G (q (y := .tup "KINDS" kindsDv) (by simp [fy]))).1, tK⟩ xB gB⟩⟩
  have b4 := F4.bindsN (ps := ["self", "source", "target"]) (fun _ _ _ _ _ _ us hl => match us, hl with | [_, _, _], _ => rfl)
  have b7 := F7.bindsN (ps := ["self", "items"]) (fun _ _ _ _ _ _ us hl => match us, hl with | [_, _], _ => rfl)
  have cE := He.cls_ok (qf (y := .cls "Ends") (by simp [fy]))
  have cC := He.cls_ok (qf (y := .cls "Channel") (by simp [fy]))
  refine ok_law F9 T
    ⟨⟨_, fd0, glo (by simp [fy]), F0.kp, F0.bindsN (ps := ["_law_script", "_law_many"]) (fun _ _ _ _ _ _ us hl => match us, hl with | [_, _], _ => rfl), ok_draws F0 T⟩⟩
    ⟨⟨_, fd1, glo (by simp [fy]), F1.kp, F1.bindsN (ps := ["_law_draws_here", "_law_size"]) (fun _ _ _ _ _ _ us hl => match us, hl with | [_, _], _ => rfl), ok_take F1 T⟩⟩
    ⟨⟨_, fd2, glo (by simp [fy]), F2.kp, F2.bindsN (ps := ["_law_draw", "_law_many"]) (fun _ _ _ _ _ _ us hl => match us, hl with | [_, _], _ => rfl), ok_names F2 T⟩⟩
    (CE := He.ga K "Ends") (CC := He.ga K "Channel") (CB := He.ga K "BadKind") ⟨glo (by simp [fy]), _, fd4, He.mkr_ok (qf (by simp [fy])), b4, ok_enI F4⟩
    ⟨glo (by simp [fy]), _, fd8, He.mkr_ok (qf (by simp [fy])), F8.bindsN (ps := ["self", "name", "source", "target", "items", "late"]) (fun _ _ _ _ _ _ us hl => match us, hl with | [_, _, _, _, _, _], _ => rfl),
      ok_chI F8 gck ⟨⟨_, _, fd4, glo (by simp [fy]), Fy.clf_ok (q (by simp [fy])), b4, ok_enI F4⟩⟩ ⟨⟨_, _, fd7, glo (by simp [fy]), Fy.clf_ok (q (by simp [fy])), b7, ok_loI F7 T (free (by simp [fy]))⟩⟩⟩
    ⟨cE, _, fd5, He.meth_ok (qf (by simp [fy])), F5.bindsN (ps := ["self", "site"]) (fun _ _ _ _ _ _ us hl => match us, hl with | [_, _], _ => rfl), ok_enA F5 xU gU⟩
    ⟨cC, _, fd6, He.meth_ok (qf (by simp [fy])), F6.bindsN (ps := ["self", "site"]) (fun _ _ _ _ _ _ us hl => match us, hl with | [_, _], _ => rfl), ok_enA F6 xU gU⟩
    xU gU (He.noat_ok (qf (by simp [fy]))) (He.noat_ok (qf (by simp [fy]))) (fun f hf => ?_)
  simp only [List.mem_cons, List.not_mem_nil, or_false] at hf
  rcases hf with rfl | rfl | rfl | rfl | rfl <;> exact He.noat_ok (qf (by simp [fy]))
end M
open PySem PySem.W PySem.Calls PyProof.Rows
set_option maxRecDepth 100000 in
set_option maxHeartbeats 0 in
theorem PySem.Challenge.cw_latebridges_k01_across_a_channel_holds : PySem.Challenge.rw_latebridges_k01_across_a_channel.Holds := by
  w_on; o_law
  refine HandSHeadRun.head_any (r := OpenLaw.row PySem.Challenge.rw_latebridges_k01_across_a_channel) (q := view (OpenLaw.row PySem.Challenge.rw_latebridges_k01_across_a_channel).prog [15]) (H := M.hk) (ob := M.ob) (M := 3000) (loose := M.loose) (d := HandSHeadRun.topDef (OpenLaw.row PySem.Challenge.rw_latebridges_k01_across_a_channel).prog 15) (kwd := []) M.ob_eq
    (by kernel_rfl) (fun s => by kernel_rfl) M.run (by kernel_rfl) (by kernel_rfl) (by kernel_rfl) (by rfl) (by first | assumption | decide +kernel) (by decide +kernel) ⟨rfl, rfl, rfl, rfl, rfl, by decide +kernel⟩ ?hw ?hc
  case hw => w_witness2
  case hc =>
    refine L2.walk_ofE (l := PySem.Challenge.rw_latebridges_k01_across_a_channel) (n := 63) (k := 6) (x := "_law_script") (CX := L2.CX0) rfl (by decide) (by kernel_rfl) ⟨rfl, by decide, by decide⟩ ?F (fun _ _ _ _ z => z)
    intro w mg fa h Y G hmg0
    obtain ⟨K, KX, c⟩ := Y
    have hmg : mg ("law" : PySem.Str) = some (.ref fa) := by
      have e : (HandSHeadRun.topDef (OpenLaw.row PySem.Challenge.rw_latebridges_k01_across_a_channel).prog 15).name = ("law" : PySem.Str) := by kernel_rfl
      rw [← e]
      exact hmg0
    obtain ⟨fd, hb, hF⟩ := M.facts (w := w) KX G hmg c
    exact ⟨K, fd, M.spLaw K, KX, hb, fun H a ns hl _ hS => ⟨a, ns, rfl, hS, hl, fun _ => rfl⟩, fun base hB hG => M.calm_of (hF base hB hG) fun _ _ _ _ z => z⟩
