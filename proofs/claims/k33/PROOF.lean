import PyProof.Rows.All
import Wide.All
import OpenK.AllK
import Wide.FinOn
import KE.KStateDown
import KE.KExcSuper
import HandS.ForMost
import HandS.Exc
import HandS.WordsExc
import HandS.TryOnly
import HandS.ExcOwn
import HandS.Defaults
import HandS.HeadNt
import HandS.ExcInit
import HandS.ClsMeth
import HandS.Head0
import HandS.Head1
import HandS.Head2
import HandS.HeadEnd
import HandS.HeadHook1
import HandS.HeadHook2
import HandS.Property
import HandS.More
import HandS.IsInst
import HandS.RaiseMore
import HandS.Comp
import HandS.CallSlots
import HandS.MakeKw
import HandS.MakeKwOnly
import KE.LtData
import HandS.ExcValue
import KE.KExcIs
import HandS.Walk
import HandS.Deep
import HandS.Conv
import HandS.DictComp
import HandS.SetFor
import KE.DataFind
import PyProof.DictMoreH
import KE.KDictList
import KE.LtSeq
import HandS.Iter
import PySem.Challenge.RW_latebridges_k33_chains
set_option Elab.async false
set_option linter.all false
set_option maxRecDepth 100000
set_option maxHeartbeats 4000000

namespace PySem
namespace XEx
open PySem.W PySem.Calls PyProof.Rows PySem.HandSPX
/-- the stores behind super().__init__(..): self.f = f -/
inductive Stores : List Str → List Stmt → Prop where
  | nil : Stores [] []
  | cons {f : Str} {fs : List Str} {st : List Stmt} {q1 q2 q3 q4 : Pos} (r : Stores fs st) : Stores (f :: fs) (.Assign [.Attribute (.Name "self" q1) f q2] (.Name f q3) q4 :: st)
/-- the exception's own dict: d holds the pairs ps (the last stored first) -/
def DictIs (h : Heap) (lo e : Addr) (d : Option Addr) (ps : List (Str × Value)) : Prop :=
  match d with
  | none => ps = []
  | some dx => lo ≤ dx ∧ dx ≠ e ∧ ps ≠ [] ∧ h.Ns1 dx (fun y => ps.lookup y)
section
variable {prog : Program} {w : World} {M : Model} {A : Around} {E : Value → Shared → Prop} {R : Result → Shared → Prop} {s : Shared} {K : Frag}
theorem ldL {env : Env} {m : Str → Option Value} {x : Str} {pos : Pos} {v : Value} {Q : Value → Shared → Prop} (hn : s.heap.Ns env.locals m) (hv : m x = some v) (h : Q v s)
    (hk : env.scope.kind = .function) (hl : env.kindOf x = some .local) (hd : (x == ("__debug__" : Str)) = false) : wpAny M A (eval (.Name x pos) env) Q E s := wpAny_Name (wpAny_loadName_local hk hl hn hv h) hd
theorem lookup_cons (f y : Str) (v : Value) (ps : List (Str × Value)) : ((f, v) :: ps).lookup y = if y = f then some v else ps.lookup y := by
  by_cases h : y = f
  · subst h
    simp [List.lookup]
  · have e : (y == f) = false := by simpa using h
    rw [if_neg h]
    simp [List.lookup, e]
/-- all stores, one after the other -/
theorem stores_run {env : Env} {C x lo : Addr} {cd : ClassData} {m : Str → Option Value} (hk : env.scope.kind = .function) (hcd : W.clsIn K C = some cd) (hm : refsVE cd.mro = true) (hh : cd.hasDict = true) (sa : findIn K (.ref C) "__setattr__" = some (some (.builtin "object.__setattr__")))
    (hself : m "self" = some (.ref x)) (kself : env.kindOf "self" = some .local) (hlo : lo ≤ env.locals) (hxL : x ≠ env.locals) (hKx : K.lookup x = none) :
    ∀ {fs : List Str} {st : List Stmt} {vs : List Value} {ps : List (Str × Value)} {d : Option Addr} {s : Shared} {t1 : Addr} {Q : Flow → Shared → Prop}, Stores fs st → fs.length = vs.length → ps.length + fs.length ≤ 1000 →
      (∀ f ∈ fs, env.kindOf f = some .local ∧ (f == ("__debug__" : Str)) = false ∧ findIn K (.ref C) f = some none) → (∀ p ∈ fs.zip vs, m p.1 = some p.2) →
      K.In s.heap → s.heap.Ns env.locals m → s.heap.get? x = some { cls := .ref C, dict := d, data := .fields #[.ref t1, .none, .none, .none, .bool false, .none] } → DictIs s.heap lo x d ps → (∀ dx, d = some dx → K.lookup dx = none ∧ dx ≠ env.locals) →
      (∀ h' tk d', (∀ b o, b ≠ x → (∀ dx, d = some dx → b ≠ dx) → s.heap.get? b = some o → h'.get? b = some o) →
        h'.get? x = some { cls := .ref C, dict := d', data := .fields #[.ref t1, .none, .none, .none, .bool false, .none] } → DictIs h' lo x d' ((fs.zip vs).reverse ++ ps) → Q .next { s with heap := h', toks := tk }) →
      wpAny (model prog w) A (execs st env) Q E s := by
  intro fs
  induction fs with
  | nil =>
    intro st vs ps d s t1 Q S hl hz hf hv X hn hx hd hdx hq
    cases S
    refine wpAny_execs_nil ?_
    have z := hq s.heap s.toks d (fun b o _ _ q => q) hx hd
    exact z
  | cons f fs ih =>
    intro st vs ps d s t1 Q S hl hz hf hv X hn hx hd hdx hq
    cases S with
    | cons r =>
    cases vs with
    | nil => cases hl
    | cons v vs =>
      obtain ⟨kf, df, nf⟩ := hf f List.mem_cons_self
      have mf : m f = some v := hv (f, v) (by simp)
      refine wpAny_execs_cons (plainObj_wpAny_Assign_Attribute ?_)
      refine ldL hn mf (ldL hn hself ?_ hk kself (by decide)) hk kf df
      cases d with
      | none =>
        have hps : ps = [] := hd
        subst hps
        refine set_plain X (ox := { cls := .ref C, dict := none, data := .fields #[.ref t1, .none, .none, .none, .bool false, .none] }) (od := none) ⟨hx, rfl, rfl, trivial⟩ sa ?_
        obtain ⟨hp, g, dr, t, os⟩ := s
        refine exc_osa X hx hcd hm hh nf (fun h' tk' dx k dn dne hx' hn' => ?_)
        have keep : ∀ b o, b ≠ x → hp.get? b = some o → h'.get? b = some o := k
        refine ih (ps := [(f, v)]) (d := some dx) (s := ⟨h', g, dr, tk', os⟩) r (Nat.succ.inj hl) (by simp only [List.length_cons, List.length_nil] at hz ⊢; omega) (fun y hy => hf y (List.mem_cons_of_mem _ hy)) (fun p hp => hv p (by simp [hp])) (fun b o e => ?_) ?_ hx' ?_ (fun dy e => ?_) (fun h2 tk d' k2 hx2 hd2 => ?_)
        · refine keep b o (fun z => ?_) (X b o e)
          rw [z, hKx] at e
          cases e
        · obtain ⟨oL, es, ep, hL, rest⟩ := hn
          exact ⟨oL, es, ep, keep _ _ (Ne.symm hxL) hL, rest⟩
        · refine ⟨Nat.le_trans hlo (Nat.le_trans (Nat.le_of_lt hn.lt) dn), dne, by simp, ?_⟩
          have e : (fun y => ([(f, v)] : List (Str × Value)).lookup y) = (fun y => if y = f then some v else none) := by
            funext y
            rw [lookup_cons]
            rfl
          rw [e]
          exact hn'
        · cases e
          refine ⟨?_, ?_⟩
          · cases q : K.lookup dx with
            | none => rfl
            | some o => exact absurd (Nat.lt_of_lt_of_le (Heap.lt_size (X _ _ q)) dn) (Nat.lt_irrefl _)
          · intro z
            have h1 : env.locals < hp.objs.size := hn.lt
            rw [← z] at h1
            exact absurd (Nat.lt_of_lt_of_le h1 dn) (Nat.lt_irrefl _)
        · refine hq h2 tk d' (fun b o hb _ q => k2 b o hb (fun dy e => ?_) (keep b o hb q)) hx2 ?_
          · cases e
            exact Nat.ne_of_lt (Nat.lt_of_lt_of_le (Heap.lt_size q) dn)
          · have e : ((f :: fs).zip (v :: vs)).reverse ++ ([] : List (Str × Value)) = (fs.zip vs).reverse ++ [(f, v)] := by simp
            rw [e]
            exact hd2
      | some dx =>
        obtain ⟨dlo, dne, hne, hns⟩ := hd
        obtain ⟨hp, g, dr, t, os⟩ := s
        obtain ⟨oD, esD, epD, hoD, _⟩ := id hns
        refine set_plain X (ox := { cls := .ref C, dict := some dx, data := .fields #[.ref t1, .none, .none, .none, .bool false, .none] }) (od := some oD) ⟨hx, rfl, rfl, hoD⟩ sa ?_
        have hw : Within (fun y => ps.lookup y) (ps.map (·.1)) := fun y hy => by
          cases q : ps.lookup y with
          | none => exact absurd q hy
          | some u =>
            have : ∀ (l : List (Str × Value)), l.lookup y = some u → y ∈ l.map (·.1) := by
              intro l
              induction l with
              | nil => intro h; cases h
              | cons p l ih =>
                intro h
                obtain ⟨g, z⟩ := p
                rw [lookup_cons] at h
                by_cases e : y = g
                · rw [e]; exact List.mem_cons_self ..
                · rw [if_neg e] at h; exact List.mem_cons_of_mem _ (ih h)
            exact this ps q
        refine PySem.OEX.osa_old X hx hns hw (by rw [List.length_map]; omega) hcd hm hh nf (fun h' tk' k hn' => ?_)
        have hx' : h'.get? x = some { cls := .ref C, dict := some dx, data := .fields #[.ref t1, .none, .none, .none, .bool false, .none] } := k _ _ (Ne.symm dne) hx
        obtain ⟨kd1, kd2⟩ := hdx dx rfl
        refine ih (ps := (f, v) :: ps) (d := some dx) (s := ⟨h', g, dr, tk', os⟩) r (Nat.succ.inj hl) (by simp only [List.length_cons] at hz ⊢; omega) (fun y hy => hf y (List.mem_cons_of_mem _ hy)) (fun p hp => hv p (by simp [hp])) (fun b o e => ?_) ?_ hx' ?_ (fun dy e => ?_) (fun h2 tk d' k2 hx2 hd2 => ?_)
        · refine k b o (fun z => ?_) (X b o e)
          rw [z, kd1] at e
          cases e
        · obtain ⟨oL, es, ep, hL, rest⟩ := hn
          exact ⟨oL, es, ep, k _ _ (Ne.symm kd2) hL, rest⟩
        · refine ⟨dlo, dne, by simp, ?_⟩
          have e : (fun y => ((f, v) :: ps).lookup y) = (fun y => if y = f then some v else ps.lookup y) := by
            funext y
            rw [lookup_cons]
          rw [e]
          exact hn'
        · cases e
          exact ⟨kd1, kd2⟩
        · refine hq h2 tk d' (fun b o hb hbd q => k2 b o hb (fun dy e => ?_) (k b o (hbd dx rfl) q)) hx2 ?_
          · cases e
            exact hbd dx rfl
          · have e : ((f :: fs).zip (v :: vs)).reverse ++ ps = (fs.zip vs).reverse ++ (f, v) :: ps := by simp
            rw [e]
            exact hd2

/-- the bound ValueError.__init__ called: the args are laid anew -/
theorem call_bwV {h : Heap} {g : Array GenState} {d : Drawn} {t : Nat} {os : OsState} {nm q : Str} {C N : Addr} {bs bm : List Value} {hdct : Bool} {sn : List Str} {sub : List Value} {ab : Bool} {col : Option Bool} {dd : Option Addr} {k0 k1 k2 k3 k5 : Option Value}
    {u e t0 : Addr} {rest : List Value} {Q : Value → Shared → Prop}
    (hC : h.get? C = some (excClassObj nm q C N bs bm hdct sn sub ab col dd k0 k1 k2 k3 k5 "ValueError.__new__")) (he : h.get? e = some (excO C t0)) (hu : h.get? u = some (kxs_mw "ValueError.__init__" e)) (hrest : rest.length ≤ sizeLine)
    (hq : ∀ h' t1, (∀ b o, b ≠ e → h.get? b = some o → h'.get? b = some o) → h'.get? e = some (excO C t1) → Q .none ⟨h', g, d, t, os⟩) :
    wpAny (model prog w) A (call (.ref u) rest) Q E ⟨h, g, d, t, os⟩ := by
  refine wpAny_call (codeAny_of_tree ?_)
  show wpAny _ A.in1 (callAny (.ref u) ⟨rest, []⟩) _ _ _
  simp only [callAny]
  refine wpAny_bind (wpAny_load hu ?_)
  simp only [kxs_mw, show (Value.type "method-wrapper" == Value.type "method" || Value.type "method-wrapper" == Value.type "builtin_function_or_method" || Value.type "method-wrapper" == Value.type "method-wrapper") = true by decide, if_true]
  refine W.KFB.if_so (by decide) ?_
  refine wpAny_bind (check_bound_init F.excBase_ValueError.toExcCallFacts hC he rfl ?_)
  refine wpAny_bind (wpAny_pure (wpAny_pure ?_))
  refine ⟨Code.quiet_builtin _ (by decide +kernel), codeAny_builtin F.excBase_ValueError.initEntry ?_⟩
  rw [Around.under_plainId F.excBase_ValueError.init.plain _]
  wp_walk
  refine hq _ h.objs.size (fun b o hb ho => ?_) ?_
  · rw [Heap.get?_update_other _ _ (Ne.symm hb)]
    exact Heap.get?_push_of_some _ ho
  · rw [Heap.get?_update_self _ (Heap.get?_push_of_some _ he) rfl]
    rfl

theorem lookup_rev {k : Str} {v : Value} : ∀ {l : List (Str × Value)}, (l.map (·.1)).Nodup → (k, v) ∈ l → l.reverse.lookup k = some v := by
  intro l
  have key : ∀ (l : List (Str × Value)), (l.map (·.1)).Nodup → (k, v) ∈ l → l.lookup k = some v := by
    intro l
    induction l with
    | nil => intro _ h; cases h
    | cons p l ih =>
      intro nd h
      obtain ⟨f, u⟩ := p
      rw [lookup_cons]
      rw [List.map_cons, List.nodup_cons] at nd
      rcases List.mem_cons.mp h with e | h
      · cases e
        rw [if_pos rfl]
      · have ne : k ≠ f := fun e => nd.1 (by
          rw [← e]
          exact List.mem_map_of_mem (f := (·.1)) h)
        rw [if_neg ne]
        exact ih nd.2 h
  intro nd h
  refine key l.reverse ?_ (List.mem_reverse.mpr h)
  rw [List.map_reverse]
  exact List.pairwise_reverse.mpr (nd.imp fun {a b} h => Ne.symm h)
def superPl (o : Expr) (env : Env) : Sem Bool := do return (← importBound o env).getD true
theorem he_super {o : Expr} {name : Str} {p2 p3 p4 : Pos} {x : Const} {j : Nat} {env : Env} (hline : (p2.endLine == p4.line) = true) :
    eval (.Call (.Attribute o name p2) [.Constant x j p3] [] p4) env = (do
      let ov ← attributeBase o name env (eval o env)
      standAt p2.atName
      let (f, first) ← holding [ov] (getMethod ov name (superPl o env))
      callWith p4 f first (backTo p4 (starEach [.Constant x j p3] env)) []) := by
  rw [arm_eval_Call]
  have hform : methodCallForm ([Expr.Constant x j p3].length + ([] : List Keyword).length) (backTo p4 (starEach [.Constant x j p3] env)) (backToKw p4 (keywordEach [] env)) = true := rfl
  have hpos : methodCallPos true o env p2 p4 = pure p4 := by unfold methodCallPos; simp [hline]
  unfold methodCall
  rw [hform, hpos]
  simp only [pure_bind]
  rfl
/-- what the text says of such an __init__ -/
structure IText (fs : List Str) (params : Arguments) (body : List Stmt) (scope : Scope) : Prop where
  bd : ∃ (p0 p1 p2 p3 p4 p5 : Pos) (j : Nat) (txt : Str) (stores : List Stmt), body = .Expr (.Call (.Attribute (.Call (.Name "super" p0) [] [] p1) "__init__" p2) [.Constant (.str txt) j p3] [] p4) p5 :: stores ∧ Stores fs stores ∧ (p2.endLine == p4.line) = true
  hks : scope.names.lookup ("super" : Str) = some .globalImplicit
  hkc : scope.names.lookup ("__class__" : Str) = some .free
  hself : scope.names.lookup ("self" : Str) = some .local
  hf : ∀ f ∈ fs, scope.names.lookup f = some .local ∧ (f == ("__debug__" : Str)) = false
  hcell : ∀ x ∈ scope.names, x.2 ≠ .cell
  hco : scope.isCoroutine = false
  hgen : scope.isGenerator = false
  hk : scope.kind = .function
  hp : ∃ ar, (params.posonlyargs ++ params.args).head? = some ar ∧ ar.arg = ("self" : Str)
  bind : ∀ (name qual : Str) (cl : List (Str × Addr)) (kV doc pm : Value) (an : Option Addr) (cdv ct : Value) (us : List Value), us.length = fs.length + 1 → bindArgs (fnX name qual params body scope cl .none kV doc pm an cdv ct) ⟨us, []⟩ = pure ((("self" : Str) :: fs).zip us)
  nd : (("self" : Str) :: fs).Nodup
  len : fs.length ≤ 100
/-- what the written part says of the class at C -/
structure XCls (P : Program) (K : Frag) (C : Addr) (fs : List Str) (params : Arguments) (body : List Stmt) (scope : Scope) : Prop where
  cls : ∃ nm q N bs bm sn sub ab col dd k0 k1 k2 k3 k5, K.lookup C = some (excClassObj nm q C N bs bm true sn sub ab col dd k0 k1 k2 k3 k5 "ValueError.__new__") ∧ refsVE bm = true
  sa : findIn K (.ref C) "__setattr__" = some (some (.builtin "object.__setattr__"))
  ga : findIn K (.ref C) "__getattribute__" = some (some (.builtin "BaseException.__getattribute__"))
  gg : findIn K (.ref C) "__getattr__" = some none
  noF : ∀ f ∈ fs, findIn K (.ref C) f = some none
  kC : keepIn K (.ref C) = true
  exC : subIn K (.ref C) (.type "BaseException") = some true
  veC : subIn K (.ref C) (.type "ValueError") = some true
  tyC : typeIn K (.ref C) = some (.type "type")
  hdC : hasDictIn K C = true
  te : exmOne K (.ref C) (.ref C) = some true
  op : nsIn K cStatics "thirdparty.any" = some none
  sup : nsIn K mainGlobals "super" = some none
  sI : ks_superIn K C C "__init__" = some (some (.builtin "ValueError.__init__"))
  mC : mroIn K C (.ref C) = some true
  top : (P.main.scope.names.lookup ("super" : Str)).isSome = false
  fn : ∃ (fI : Addr) (name qual : Str) (oc : Value) (od : Option Addr) (kV doc pm : Value) (an : Option Addr) (cda cc : Addr) (ct ccl cl : Value) (cdd cld : Option Addr) (vs : Array Value) (file : Str) (tf : Tok) (osl ccs csl : Array (Option Value)),
    findIn K (.ref C) "__init__" = some (some (.ref fI)) ∧ typeIn K (.ref fI) = some (.type "function") ∧
    K.lookup fI = some ⟨oc, od, .func (fnX name qual params body scope [(("__class__" : Str), cc)] .none kV doc pm an (.ref cda) ct), osl⟩ ∧ codeIn K (.ref cda) qual = true ∧
    K.lookup cda = some ⟨ccl, cdd, .fields vs, ccs⟩ ∧ vs[2]? = some (.str file tf) ∧ ((P.main.file : Str) == file) = true ∧ K.lookup cc = some ⟨cl, cld, .cell (some (.ref C)), csl⟩
/-- a made exception -/
structure Made (h h' : Heap) (e C : Addr) (d : Option Addr) (ps : List (Str × Value)) : Prop where
  keep : ∀ b o, h.get? b = some o → h'.get? b = some o
  new : h.objs.size ≤ e
  obj : ∃ oe vs, h'.get? e = some oe ∧ oe.cls = .ref C ∧ oe.dict = d ∧ oe.data = .fields vs ∧ vs[1]? = some .none
  dct : DictIs h' h.objs.size e d ps
theorem zip_keys : ∀ {fs : List Str} {us : List Value}, fs.length = us.length → (fs.zip us).map (·.1) = fs
  | [], [], _ => rfl
  | f :: fs, u :: us, h => by
    rw [List.zip_cons_cons, List.map_cons, zip_keys (Nat.succ.inj h)]
  | [], _ :: _, h => by cases h
  | _ :: _, [], h => by cases h
theorem zip_fst_mem {p : Str × Value} : ∀ {fs : List Str} {us : List Value}, p ∈ fs.zip us → p.1 ∈ fs
  | [], _, h => by simp at h
  | _ :: _, [], h => by simp at h
  | f :: fs, u :: us, h => by
    rw [List.zip_cons_cons] at h
    rcases List.mem_cons.mp h with e | h
    · rw [e]; exact List.mem_cons_self ..
    · exact List.mem_cons_of_mem _ (zip_fst_mem h)
theorem exc_made {prog : Program} {w : World} {A : Around} {R : Result → Shared → Prop} {s : Shared} {K : Frag} {C : Addr} {fs : List Str} {params : Arguments} {body : List Stmt} {scope : Scope} {mg mb : Str → Option Value}
    (T : XCls prog K C fs params body scope) (I : IText fs params body scope) {us : List Value} (X : K.In s.heap) (hlim : s.heap.NoLimit) (G : s.heap.Ns mainGlobals mg) (B : s.heap.Ns builtinsNs mb) (hmb : mb "super" = bootBuiltins "super")
    (hroom : A.depth + 1 < recursionLimit) (hl : fs.length = us.length)
    (hq : ∀ h' tk e d, Made s.heap h' e C d (fs.zip us).reverse → R (.ok (.ret (.ref e))) { s with heap := h', toks := tk }) :
    codeAny (model prog w) A (.call (.ref C) ⟨us, []⟩) R s := by
  obtain ⟨nm, q, N, bs, bm, sn, sub, ab, col, dd, k0, k1, k2, k3, k5, hC, hbm⟩ := T.cls
  obtain ⟨fI, name, qual, oc, od, kV, doc, pm, an, cda, cc, ct, ccl, cl, cdd, cld, cvs, file, tf, osl, ccs, csl, iC, tI, ho, hcd, hcda, hfile0, hfile, hcc⟩ := T.fn
  obtain ⟨ar, har, harg⟩ := I.hp
  have hcl : clsIn K C = some { name := nm, bases := bs, mro := .ref C :: bm, ns := N, qualname := q, hasDict := true, slotNames := sn, subclasses := sub, abstract := ab, collection := col, hasDel := false } := by unfold clsIn; rw [hC] <;> rfl
  obtain ⟨hp, g, dr, tk, os⟩ := s
  have k : ∀ b o, hp.get? b = some o → ((hp.push (kdv_tup us)).push (excO C hp.objs.size)).get? b = some o := fun b o e => Heap.get?_push_of_some _ (Heap.get?_push_of_some _ e)
  have hget : ((hp.push (kdv_tup us)).push (excO C hp.objs.size)).get? (hp.objs.size + 1) = some (excO C hp.objs.size) := by heap_get
  have hnx : K.lookup (hp.objs.size + 1) = none := by
    cases e : K.lookup (hp.objs.size + 1) with
    | none => rfl
    | some o =>
      have z : hp.get? (hp.objs.size + 1) = some o := X _ _ e
      exact absurd (Nat.lt_of_succ_lt (Heap.lt_size z)) (Nat.lt_irrefl _)
  have hsz : us.length ≤ sizeLine := by
    rw [← hl, sizeLine_eq]
    exact Nat.le_trans I.len (by decide)
  refine call_own F.excBase_ValueError (fun X => refsVE_contains X bm hbm) (X _ _ hC) (looks_findIn X iC) (fun self => bind_fn X self tI) hsz ?_
  -- the own __init__
  generalize hx0 : hp.objs.size + 1 = x at *
  generalize hh0 : (hp.push (kdv_tup us)).push (excO C hp.objs.size) = h0 at *
  have X0 : K.In h0 := X.keeps k
  have hsize0 : h0.objs.size = hp.objs.size + 2 := by
    rw [← hh0, Heap.size_push, Heap.size_push]
  refine ks_codeAny_call_defAt (s := ⟨h0, g, dr, tk, os⟩) (fd := fnX name qual params body scope [(("__class__" : Str), cc)] .none kV doc pm an (.ref cda) ct) (body := body) (binds := (("self" : Str), .ref x) :: fs.zip us) hroom (X0 _ _ ho) rfl (hlim.keeps k) (codeRec_of X0 hcd) rfl
    (BindsTo.of_eq (I.bind name qual _ kV doc pm an _ ct (.ref x :: us) (by rw [List.length_cons, hl]))) I.hcell (fun y hy => ?_) (fun h₁ hns hk₁ => ?_) I.hco I.hgen I.hk
  · rcases List.mem_cons.mp hy with e | hy
    · rw [e]; exact I.hself
    · exact (I.hf _ (zip_fst_mem hy)).1
  have X1 : K.In h₁ := X0.keeps hk₁
  have kk : ∀ b o, hp.get? b = some o → h₁.get? b = some o := fun b o e => hk₁ b o (k b o e)
  have hx1 : h₁.get? x = some (excO C hp.objs.size) := hk₁ _ _ hget
  have hxL : x ≠ h0.objs.size := by
    rw [hsize0, ← hx0]
    exact Nat.ne_of_lt (Nat.lt_succ_self _)
  have hnd : ((((("self" : Str), Value.ref x) :: fs.zip us)).map (·.1)).Nodup := by
    rw [List.map_cons, zip_keys hl]
    exact I.nd
  have mself : (((("self" : Str), Value.ref x) :: fs.zip us)).reverse.lookup ("self" : Str) = some (Value.ref x) := lookup_rev hnd List.mem_cons_self
  obtain ⟨p0, p1, p2, p3, p4, p5, j, txt, stores, hb, hst, hline⟩ := I.bd
  rw [hb]
  have hD1 : h₁.get? C = some (excClassObj nm q C N bs bm true sn sub ab col dd k0 k1 k2 k3 k5 "ValueError.__new__") := X1 _ _ hC
  have hxC : x ≠ C := fun z => by rw [z, hC] at hnx; cases hnx
  -- super().__init__("..")
  refine ks_wpAt_execs_cons (ks_wpAt_Expr_any (ks_wpAt_MethodCall (pl := superPl _ _) ?_ (he_super hline)) (by show (scope.kind == _ && _) = false; rw [I.hk]; rfl) (by rfl))
  refine ks_wpAt_super_base I.hks I.hkc rfl rfl (X1 _ _ ho) rfl har rfl (X1 _ _ hcda) rfl hfile0 hfile T.top ?_
  refine ks_loadName_global I.hk I.hks (loadGlobal_builtin (G.keeps kk) (mg_none_of X G T.sup) (B.keeps kk) (hmb.trans (by decide +kernel : bootBuiltins "super" = some (.type "super"))) ⟨rfl, ?_⟩)
  refine wpAny_loadName_free I.hk I.hkc rfl ⟨_, X1 _ _ hcc, rfl⟩ ?_
  rw [harg]
  refine wpAny_loadName_local I.hk I.hself hns mself ?_
  refine ks_wpAny_isType_cls hD1 rfl ⟨rfl, ?_⟩
  refine ks_wpAny_call_super hD1 rfl hx1 rfl (fun c e => by cases e) (looks_mroIn X1 T.mC) (fun h2 e2 k2 => ?_)
  have X2 : K.In h2 := X1.keeps k2
  have hx2 : h2.get? x = some (excO C hp.objs.size) := k2 _ _ hx1
  have I2 : InstAt h2 x (excO C hp.objs.size) C none := ⟨hx2, rfl, rfl, trivial⟩
  have hsI : alongIn K "__init__" (((Value.ref C :: bm).dropWhile (· != .ref C)).drop 1) = some (some (.builtin "ValueError.__init__")) := by
    have z := T.sI
    unfold ks_superIn at z
    rw [hcl] at z
    exact z
  refine kxs_getMethod kxs_ValueError e2 (looks_opaque X2 T.op) (l₀ := .ref C :: bm) (fun A Q E s k q => wpAny_bind ((looks_clsIn X2 hcl) A _ E s k (wpAny_pure q))) rfl X2 hsI (I2.type.andThen (looks_subIn X2 T.veC)) hxC rfl ?_
  have e3 : (h2.push (kxs_mw "ValueError.__init__" x)).get? h2.objs.size = some (kxs_mw "ValueError.__init__" x) := Heap.get?_push_at rfl rfl
  have k3 : ∀ b o, h2.get? b = some o → (h2.push (kxs_mw "ValueError.__init__" x)).get? b = some o := fun b o e => Heap.get?_push_of_some _ e
  refine kxs_callWith (i := "ValueError.__init__") (x := x) rfl (evalArgs_plain (spliced_more (wpAny_Constant_str (spliced_none ⟨e3, ?_⟩))))
  refine call_bwV (k3 _ _ (X2 _ _ hC)) (k3 _ _ hx2) e3 (by rw [sizeLine_eq]; exact Nat.le_trans (Nat.le_refl 1) (by decide)) (fun h4 t1 k4 hx4 => ?_)
  -- the stores
  have old1 : ∀ b o, h₁.get? b = some o → b ≠ x → h4.get? b = some o := fun b o e ne => k4 b o ne (k3 _ _ (k2 _ _ e))
  have xlt : hp.objs.size ≤ x := by rw [← hx0]; exact Nat.le_succ _
  have hne : ∀ {b : Addr} {o : Obj}, hp.get? b = some o → b ≠ x := fun {b o} e => Nat.ne_of_lt (Nat.lt_of_lt_of_le (Heap.lt_size e) xlt)
  have X4 : K.In h4 := fun b o e => old1 b o (kk b o (X b o e)) (hne (X b o e))
  have hns4 : h4.Ns h0.objs.size (fun y => ((("self" : Str), Value.ref x) :: fs.zip us).reverse.lookup y) := by
    obtain ⟨oL, es, ep, hL, rest⟩ := hns
    exact ⟨oL, es, ep, old1 _ _ hL (Ne.symm hxL), rest⟩
  refine wpAt_of_wpAny ?_
  refine stores_run (env := callEnv (fnX name qual params _ scope [(("__class__" : Str), cc)] .none kV doc pm an (.ref cda) ct) h0.objs.size fI) (m := fun y => ((("self" : Str), Value.ref x) :: fs.zip us).reverse.lookup y) (K := K) (C := C) (x := x) (lo := hp.objs.size) (d := none) (ps := []) (s := ⟨h4, g, dr, _, os⟩) (vs := us) I.hk hcl (show refsVE (.ref C :: bm) = true from hbm) rfl T.sa mself I.hself (by show hp.objs.size ≤ h0.objs.size; rw [hsize0]; exact Nat.le_add_right _ _) hxL hnx hst hl (by
      show 0 + fs.length ≤ 1000
      have := I.len
      omega) (fun f hf => ⟨(I.hf f hf).1, (I.hf f hf).2, T.noF f hf⟩) (fun p hp' => lookup_rev hnd (List.mem_cons_of_mem _ hp')) X4 hns4 hx4 rfl (fun dx e => by cases e) (fun h' tk' d' k5' hx5 hd5 => ?_)
  have keep : ∀ b o, hp.get? b = some o → h'.get? b = some o := fun b o e => k5' b o (hne e) (fun dx z => by cases z) (old1 b o (kk b o e) (hne e))
  rw [List.append_nil] at hd5
  exact ⟨rfl, hq h' tk' x d' ⟨keep, xlt, ⟨_, _, hx5, rfl, rfl, rfl, rfl⟩, hd5⟩⟩
end
end XEx
end PySem

namespace L2
open PySem PySem.Spec PyProof.Rows PySem.XEx
theorem relO_rev {vs : List V} {us : List Value} : ∀ {fs : List Str}, Vals vs us → ∀ f, RelO ((fs.zip vs).reverse.lookup f) ((fs.zip us).reverse.lookup f) := by
  have key : ∀ {l1 : List (Str × V)} {l2 : List (Str × Value)}, Paired (fun (p : Str × V) (q : Str × Value) => p.1 = q.1 ∧ RelV p.2 q.2) l1 l2 → ∀ f, RelO (l1.lookup f) (l2.lookup f) := by
    intro l1 l2 h
    induction h with
    | nil => intro f; trivial
    | @cons p q l1 l2 r _ ih =>
      intro f
      obtain ⟨g, v⟩ := p
      obtain ⟨g', u⟩ := q
      obtain ⟨e, rv⟩ := r
      have e' : g = g' := e
      subst e'
      rw [lookup_put, XEx.lookup_cons]
      by_cases h : f = g
      · rw [if_pos h, if_pos h]; exact rv
      · rw [if_neg h, if_neg h]; exact ih f
  have app : ∀ {l1 m1 : List (Str × V)} {l2 m2 : List (Str × Value)}, Paired (fun (p : Str × V) (q : Str × Value) => p.1 = q.1 ∧ RelV p.2 q.2) l1 l2 → Paired (fun (p : Str × V) (q : Str × Value) => p.1 = q.1 ∧ RelV p.2 q.2) m1 m2 → Paired (fun (p : Str × V) (q : Str × Value) => p.1 = q.1 ∧ RelV p.2 q.2) (l1 ++ m1) (l2 ++ m2) := by
    intro l1 m1 l2 m2 h1 h2
    induction h1 with
    | nil => exact h2
    | cons r _ ih => exact .cons r ih
  have zp : ∀ {vs : List V} {us : List Value} {fs : List Str}, Vals vs us → Paired (fun (p : Str × V) (q : Str × Value) => p.1 = q.1 ∧ RelV p.2 q.2) (fs.zip vs).reverse (fs.zip us).reverse := by
    intro vs us fs r
    induction r generalizing fs with
    | nil => simp; exact .nil
    | @cons v u vs us r _ ih =>
      cases fs with
      | nil => simp; exact .nil
      | cons f fs =>
        rw [List.zip_cons_cons, List.zip_cons_cons, List.reverse_cons, List.reverse_cons]
        exact app ih (.cons ⟨rfl, r⟩ .nil)
  intro fs r
  exact key (zp r)
/-- X(..): an exception of a class with an own __init__ that says super().__init__("..") and stores its arguments -/
def tMkX (C : Addr) (fs : List Str) (ta : TA) : St → Hp → XK → Prop := fun σ H Q => ta σ H fun vs H1 => vs.length = fs.length ∧ (fs = [] → Q (.ref C) none H1) ∧ (fs ≠ [] → ∀ d, H1 d = none → Q (.ref C) (some d) (upd H1 d (.xd (fs.zip vs).reverse)))
section
variable {X : Cx} {C : Addr} {fs : List Str} {params : Arguments} {body : List Stmt} {scope : Scope} {k : Nat}
theorem run_mkx {pins : List (Addr × Obj)} {σ : St} {H : Hp} {s : Shared} {Q : XK} {us : List Value} {vs : List V} (T : XCls X.prog X.K C fs params body scope) (I : IText fs params body scope) (hr : Room k X.A) (I1 : Inv X pins σ H s) (r : Vals vs us) (hl : vs.length = fs.length)
    (q0 : fs = [] → Q (.ref C) none H) (q1 : fs ≠ [] → ∀ d, H d = none → Q (.ref C) (some d) (upd H d (.xd (fs.zip vs).reverse))) :
    wpAny (model X.prog X.w) X.A (call (.ref C) us) (MkP X pins σ Q) X.xe s := by
  obtain ⟨mb, hB, hmb⟩ := I1.ok.mod.blt
  have hlim := I1.nolimit
  refine wpAny_call (exc_made (mg := X.mg) (mb := mb) T I I1.kIn hlim (I1.ok.mod.glob.keeps I1.bk) (hB.keeps I1.bk) (hmb _ (by decide +kernel)) (by have := hr.dp; omega) (by rw [← hl, r.length]) fun h' tk e d M => ?_)
  obtain ⟨hp, g, dr, t, os⟩ := s
  obtain ⟨oe, fv, hoe, hc, hd, hdat, h1⟩ := M.obj
  have hne : H e = none := I1.hok.fresh M.new
  have hge : hp.get? e = none := by
    cases z : hp.get? e with
    | none => rfl
    | some o => exact absurd (Nat.lt_of_lt_of_le (Heap.lt_size z) M.new) (Nat.lt_irrefl _)
  cases d with
  | none =>
    have hz : (fs.zip us).reverse = [] := M.dct
    have hfs : fs = [] := by
      cases fs with
      | nil => rfl
      | cons f fs =>
        cases us with
        | nil =>
          rw [r.length] at hl
          cases hl
        | cons u us => simp at hz
    exact ⟨e, oe, fv, ⟨hp, g, dr, t, os⟩, H, .ref C, none, rfl, I1, M.keep, hge, hoe, ⟨hc, hd⟩, hdat, h1, hne, rfl, I1.bare, raises_own T.exC T.tyC, q0 hfs⟩
  | some dx =>
    obtain ⟨dlo, dne, hpn, hns⟩ := M.dct
    have hfs : fs ≠ [] := fun z => by
      rw [z] at hpn
      simp at hpn
    obtain ⟨G', g1, g2⟩ := restrict h' fun b => decide (b ≠ e)
    have gk : ∀ b, b ≠ e → G'.get? b = h'.get? b := fun b hb => g1 b (decide_eq_true hb)
    have ge : G'.get? e = none := g2 e (by simp)
    have old : ∀ b o, hp.get? b = some o → G'.get? b = some o := fun b o z => (gk b (fun y => by rw [y, hge] at z; cases z)).trans (M.keep b o z)
    have ob : ObjOk X.prog X.w (upd H dx (.xd (fs.zip vs).reverse)) G' dx (.xd (fs.zip vs).reverse) :=
      ⟨_, hns.at (fun o z => (gk dx dne).trans z), relO_rev r⟩
    have J : Inv X pins σ (upd H dx (.xd (fs.zip vs).reverse)) ⟨G', g, dr, tk, os⟩ := I1.laid (t' := tk) old dlo ob
    refine ⟨e, oe, fv, ⟨G', g, dr, tk, os⟩, _, .ref C, some dx, rfl, J, fun b o z => ?_, ge, hoe, ⟨hc, hd⟩, hdat, h1, ?_, rfl, I1.bare, raises_own T.exC T.tyC, q1 hfs dx (I1.hok.fresh dlo)⟩
    · by_cases hb : b = e
      · have z' : G'.get? b = some o := z
        rw [hb, ge] at z'; cases z'
      · exact (gk b hb).symm.trans z
    · rw [upd_ne (Ne.symm dne)]
      exact hne
theorem pmk_x {x : Str} {e : Expr} {es : List Expr} {ta : TA} {p pos : Pos} (T : XCls X.prog X.K C fs params body scope) (I : IText fs params body scope) (hm : X.mg x = some (.ref C)) (hr : Room k X.A) (ha : PA X (e :: es) ta) (hg : Gl X x := by rfl) (hdb : (x == ("__debug__" : Str)) = false := by decide)
    (he : starEach (e :: es) X.env = (false, eval e X.env) :: starEach es X.env := by rfl) (hpl : (backTo pos (starEach es X.env)).any (·.1) = false := by rfl) : PMk X (.Call (.Name x p) (e :: es) [] pos) (tMkX C fs ta) := by
  intro pins s σ H Q J h
  refine wpAny_Call_Name_kw (ld_glob J hg hm ?_ hdb)
  refine PySem.W.callWith_K (h₀ := X.base) J.ok.mod.kin T.kC (thn (ha.run pos pins s σ H _ J h) fun us s1 hh => ?_) he hpl
  obtain ⟨vs, H1, I1, r1, hl, q0, q1⟩ := hh
  exact ⟨I1.kIn, run_mkx T I hr I1 r1 hl q0 q1⟩
theorem pmk_x0 {x : Str} {p pos : Pos} (T : XCls X.prog X.K C fs params body scope) (I : IText fs params body scope) (hm : X.mg x = some (.ref C)) (hr : Room k X.A) (hg : Gl X x := by rfl) (hdb : (x == ("__debug__" : Str)) = false := by decide) : PMk X (.Call (.Name x p) [] [] pos) (tMkX C fs tNil) := by
  intro pins s σ H Q J h
  refine wpAny_Call_Name_kw (ld_glob J hg hm ?_ hdb)
  obtain ⟨hl, q0, q1⟩ := h
  exact PySem.W.callWith_K0 J.kIn T.kC (run_mkx T I hr J (.nil : Vals [] []) hl q0 q1)
/-- raise X(..) -/
def tRaiseX (C : Addr) (fs : List Str) (W : WX) (ta : TA) : TS := fun _ σ H => tMkX C fs ta σ H fun cls d H' => W cls d σ H'
theorem ps_raiseX {x : Str} {e : Expr} {es : List Expr} {ta : TA} {W : WX} {p pos pos2 : Pos} (hc : X.calm = true) (T : XCls X.prog X.K C fs params body scope) (I : IText fs params body scope) (hm : X.mg x = some (.ref C)) (hr : Room k X.A) (tk : Takes X W) (ha : PA X (e :: es) ta) (hg : Gl X x := by rfl) (hdb : (x == ("__debug__" : Str)) = false := by decide)
    (he : starEach (e :: es) X.env = (false, eval e X.env) :: starEach es X.env := by rfl) (hpl : (backTo pos (starEach es X.env)).any (·.1) = false := by rfl) : PS X (.Raise (some (.Call (.Name x p) (e :: es) [] pos)) none pos2) (tRaiseX C fs W ta) := ps_raise hc tk (pmk_x T I hm hr ha hg hdb he hpl)
theorem ps_raiseX0 {x : Str} {W : WX} {p pos pos2 : Pos} (hc : X.calm = true) (T : XCls X.prog X.K C fs params body scope) (I : IText fs params body scope) (hm : X.mg x = some (.ref C)) (hr : Room k X.A) (tk : Takes X W) (hg : Gl X x := by rfl) (hdb : (x == ("__debug__" : Str)) = false := by decide) : PS X (.Raise (some (.Call (.Name x p) [] [] pos)) none pos2) (tRaiseX C fs W tNil) := ps_raise hc tk (pmk_x0 T I hm hr hg hdb)
/-- e.f, e the exception that the suite holds (at a; its class cls, its dict d) -/
def tByX (C : Addr) (f : Str) (a : Addr) (cls : Value) (d : Option Addr) (te : TE) : TE := fun σ H Q => te σ H fun x H1 => x = .ref a ∧ cls = .ref C ∧ ∃ (dd : Addr) (ps : List (Str × V)) (v : V), d = some dd ∧ H1 dd = some (.xd ps) ∧ ps.lookup f = some v ∧ Q v H1
theorem pe_byX {a : Addr} {oe : Obj} {cls : Value} {d : Option Addr} {pn : List (Addr × Obj)} {e : Expr} {te : TE} {pos : Pos} {f : Str} (T : XCls X.prog X.K C fs params body scope) (hf' : PySem.W.findIn X.K (.ref C) f = some none) (hz : Zc cls d oe) (hf : ∃ vs, oe.data = .fields vs) (he : PE (X.suite a ((a, oe) :: pn)) e te)
    (hb : attributeBase e f X.env (eval e X.env) = eval e X.env := by rfl) : PE (X.suite a ((a, oe) :: pn)) (.Attribute e f pos) (tByX C f a cls d te) := by
  refine ⟨fun pins s σ H Q I h => ?_⟩
  refine attr_of hb (thn (he.run pins s σ H _ I h) fun u s1 hh => ?_)
  obtain ⟨x, H1, I1, rx, ex, ec, dd, ps, v, ed, ea, l, q⟩ := hh
  subst ex
  obtain rfl : u = Value.ref a := rx
  subst ec
  subst ed
  obtain ⟨ha, _⟩ := I1.pin (a, oe) (List.mem_append_left _ List.mem_cons_self)
  obtain ⟨vs, hd⟩ := hf
  have hx : ObjOk X.prog X.w H1 s1.heap dd (.xd ps) := I1.hok dd _ ea
  obtain ⟨mA, hns, hr⟩ := hx
  obtain ⟨od, ho, hl⟩ := lookIn_ns hns
  obtain ⟨u, hu, ru⟩ := RelO.some_of (v := v) (o := mA f) (by rw [← l]; exact hr f)
  have J : PySem.W.InstAt s1.heap a oe C (some od) := ⟨ha, hz.1, by unfold PySem.W.notCls; rw [hd] <;> rfl, by rw [hz.2]; exact ho⟩
  exact HandSPX.exc_get I1.kIn J T.ga T.gg T.exC (PySem.W.findObj_own T.hdC hf' rfl (by rw [hl, hu])) (handed_of ru) ⟨v, H1, I1.tok _, ru, q⟩
end
end L2

namespace M
open PySem PySem.Spec PyProof.Rows L2 PySem.XEx
/-! ### a hook over any test of the written part, the defs, and the exception classes' own __init__ -/
/-- an own exception class with an __init__: its name, fields, and the text of its __init__ -/
structure XD where
  cls : Str
  fs : List Str
  params : Arguments
  body : List Stmt
  scope : Scope
abbrev FnX : Type := Option (Arguments × FuncBody × Scope × Addr × Addr)
def XD.obs (K : PySem.W.Frag) (d : XD) : FnX := match K.lookup (He.ma K (He.ga K d.cls) "__init__") with
  | some ⟨_, _, .func fd, _⟩ => some (fd.params, fd.body, fd.scope, fd.globals, fd.builtins)
  | _ => none
def XD.val (d : XD) : FnX := some (d.params, .stmts d.body, d.scope, mainGlobals, builtinsNs)
def clsOk (K : PySem.W.Frag) (C : Addr) : Bool := match K.lookup C with
  | some ⟨.type t, _, .cls cd, sl⟩ => decide (t = "type") && (match cd.mro, sl.toList with
    | .ref C' :: bm, [_, _, _, _, some (.builtin n), _] => C' == C && (n == "ValueError.__new__" && (cd.hasDict && (!cd.hasDel && HandSPX.refsVE bm)))
    | _, _ => false)
  | _ => false
theorem clsOk_ok {K : PySem.W.Frag} {C : Addr} (h : clsOk K C = true) : ∃ nm q N bs bm sn sub ab col dd k0 k1 k2 k3 k5, K.lookup C = some (excClassObj nm q C N bs bm true sn sub ab col dd k0 k1 k2 k3 k5 "ValueError.__new__") ∧ HandSPX.refsVE bm = true := by
  unfold clsOk at h
  split at h
  · rename_i t dd cd sl ho
    obtain ⟨ht, h⟩ := He.ba h
    split at h
    · rename_i C' bm k0 k1 k2 k3 n k5 hm hs
      obtain ⟨h1, h⟩ := He.ba h
      obtain ⟨h2, h⟩ := He.ba h
      obtain ⟨h3, h⟩ := He.ba h
      obtain ⟨h4, h5⟩ := He.ba h
      have e1 : C' = C := eq_of_beq h1
      have e2 : n = "ValueError.__new__" := eq_of_beq h2
      have e4 : cd.hasDel = false := by simpa using h4
      have e0 : t = "type" := of_decide_eq_true ht
      subst e1 e2 e0
      obtain ⟨nm, bs, mro, ns, qn, hd, sn, sub, ab, col, del⟩ := cd
      dsimp only at hm h3 e4
      subst hm h3 e4
      have hsl : sl = #[k0, k1, k2, k3, some (.builtin "ValueError.__new__"), k5] := by
        obtain ⟨l⟩ := sl
        simp only at hs
        rw [hs]
      subst hsl
      exact ⟨nm, qn, ns, bs, bm, sn, sub, ab, col, dd, k0, k1, k2, k3, k5, ho, h5⟩
    · cases h
  · cases h
def fnOk (P : Program) (K : PySem.W.Frag) (C fI : Addr) : Bool := match K.lookup fI with
  | some ⟨_, _, .func fd, _⟩ => (match fd.code with
      | .ref cda => PySem.W.codeIn K (.ref cda) fd.qualname && (match K.lookup cda with
        | some ⟨_, _, .fields vs, _⟩ => (match (vs[2]? : Option Value) with
          | some (.str file _) => P.main.file == file
          | _ => false)
        | _ => false)
      | _ => false) && ((match fd.closure with
      | [(n, cc)] => decide (n = ("__class__" : Str)) && (match K.lookup cc with
        | some ⟨_, _, .cell (some (.ref D)), _⟩ => decide (D = C)
        | _ => false)
      | _ => false) && (match fd.defaults with
      | .none => true
      | _ => false))
  | _ => false
def XD.ok (P : Program) (K : PySem.W.Frag) (d : XD) : Bool :=
  let C := He.ga K d.cls
  let fI := He.ma K C "__init__"
  He.eqO (PySem.W.nsIn K mainGlobals d.cls) (some (some (.ref C))) && (clsOk K C && (He.eqO (PySem.W.findIn K (.ref C) "__setattr__") (some (some (.builtin "object.__setattr__"))) && (He.eqO (PySem.W.findIn K (.ref C) "__getattribute__") (some (some (.builtin "BaseException.__getattribute__"))) &&
  (He.eqO (PySem.W.findIn K (.ref C) "__getattr__") (some none) && ((d.fs.all fun f => He.eqO (PySem.W.findIn K (.ref C) f) (some none)) && (PySem.W.keepIn K (.ref C) && (decide (PySem.W.subIn K (.ref C) (.type "BaseException") = some true) &&
  (decide (PySem.W.subIn K (.ref C) (.type "ValueError") = some true) && (decide (PySem.W.typeIn K (.ref C) = some (.type "type")) && (PySem.W.hasDictIn K C && (decide (PySem.W.exmOne K (.ref C) (.ref C) = some true) &&
  (He.eqO (PySem.W.nsIn K cStatics "thirdparty.any") (some none) && (He.eqO (PySem.W.nsIn K mainGlobals "super") (some none) && (He.eqO (PySem.W.ks_superIn K C C "__init__") (some (some (.builtin "ValueError.__init__"))) && (decide (PySem.W.mroIn K C (.ref C) = some true) &&
  (He.eqO (PySem.W.findIn K (.ref C) "__init__") (some (some (.ref fI))) && (decide (PySem.W.typeIn K (.ref fI) = some (.type "function")) && fnOk P K C fI)))))))))))))))))
theorem XD.cls_of {P : Program} {K : PySem.W.Frag} {d : XD} (e : d.obs K = d.val) (c : d.ok P K = true) (ht : (P.main.scope.names.lookup ("super" : Str)).isSome = false) :
    XCls P K (He.ga K d.cls) d.fs d.params d.body d.scope := by
  unfold XD.ok at c
  obtain ⟨c0, c⟩ := He.ba c
  obtain ⟨c1, c⟩ := He.ba c
  obtain ⟨c2, c⟩ := He.ba c
  obtain ⟨c3, c⟩ := He.ba c
  obtain ⟨c4, c⟩ := He.ba c
  obtain ⟨c5, c⟩ := He.ba c
  obtain ⟨c6, c⟩ := He.ba c
  obtain ⟨c7, c⟩ := He.ba c
  obtain ⟨c8, c⟩ := He.ba c
  obtain ⟨c9, c⟩ := He.ba c
  obtain ⟨c10, c⟩ := He.ba c
  obtain ⟨c11, c⟩ := He.ba c
  obtain ⟨c12, c⟩ := He.ba c
  obtain ⟨c13, c⟩ := He.ba c
  obtain ⟨c14, c⟩ := He.ba c
  obtain ⟨c15, c⟩ := He.ba c
  obtain ⟨c16, c⟩ := He.ba c
  obtain ⟨c17, c18⟩ := He.ba c
  refine { cls := clsOk_ok c1, sa := He.eqO_ok c2, ga := He.eqO_ok c3, gg := He.eqO_ok c4, noF := fun f hf => He.eqO_ok (List.all_eq_true.mp c5 f hf), kC := c6, exC := of_decide_eq_true c7, veC := of_decide_eq_true c8, tyC := of_decide_eq_true c9, hdC := c10, te := of_decide_eq_true c11, op := He.eqO_ok c12, sup := He.eqO_ok c13, sI := He.eqO_ok c14, mC := of_decide_eq_true c15, top := ht, fn := ?_ }
  generalize hfI : He.ma K (He.ga K d.cls) "__init__" = fI at *
  unfold fnOk at c18
  unfold XD.obs at e
  rw [hfI] at e
  cases q : K.lookup fI with
  | none =>
    rw [q] at c18
    cases c18
  | some o =>
    obtain ⟨oc, od, dt, osl⟩ := o
    rw [q] at c18 e
    cases dt with
    | func fd =>
      obtain ⟨n1, n2, n3, n4, n5, n6, n7, n8, n9, n10, n11, n12, n13, n14, n15⟩ := fd
      have e2 : (some (n3, n4, n5, n6, n15) : FnX) = some (d.params, .stmts d.body, d.scope, mainGlobals, builtinsNs) := e
      simp only [Option.some.injEq, Prod.mk.injEq] at e2
      obtain ⟨h1, h2, h3, h4, h5⟩ := e2
      subst h1 h2 h3 h4 h5
      obtain ⟨k1, kr⟩ := He.ba c18
      obtain ⟨k2, k3⟩ := He.ba kr
      clear kr
      dsimp only at k1 k2 k3
      cases n13 with
      | ref cda =>
        obtain ⟨j1, j2⟩ := He.ba k1
        split at j2
        · rename_i ccl cdd vs ccs hcda
          split at j2
          · rename_i file tf hfile0
            cases n7 with
            | nil => cases k2
            | cons p rr =>
              obtain ⟨n, cc⟩ := p
              cases rr with
              | cons _ _ => cases k2
              | nil =>
                have k2' : (decide (n = ("__class__" : Str)) && (match K.lookup cc with
                  | some ⟨_, _, .cell (some (.ref D)), _⟩ => decide (D = He.ga K d.cls)
                  | _ => false)) = true := k2
                obtain ⟨i1, i2⟩ := He.ba k2'
                have en : n = ("__class__" : Str) := of_decide_eq_true i1
                subst en
                split at i2
                · rename_i cl cld D csl hcc
                  have eD : D = He.ga K d.cls := of_decide_eq_true i2
                  subst eD
                  cases n8 with
                  | none => exact ⟨fI, n1, n2, oc, od, n9, n10, n11, n12, cda, cc, n14, ccl, cl, cdd, cld, vs, file, tf, osl, ccs, csl, He.eqO_ok c16, of_decide_eq_true c17, q, j1, hcda, hfile0, j2, hcc⟩
                  | _ => cases k3
                · cases i2
          · cases j2
        · cases j2
      | _ => cases k1
    | _ => cases c18
/-! ### a def of the written part, found by any road -/
def pAd (C f : Str) (i : Nat) (K : PySem.W.Frag) : Addr := match PySem.W.recIn K (He.ma K (He.ga K C) f) "property" with
  | some l => (match l[i]? with
    | some (.ref g) => g
    | _ => 0)
  | _ => 0
structure AD where
  ad : PySem.W.Frag → Addr
  name : Str
  qual : Str
  params : Arguments
  body : List Stmt
  scope : Scope
  dfl : List He.Dv := []
  kwd : List (Str × He.Dv) := []
def AD.obs (K : PySem.W.Frag) (d : AD) : He.FnW := match K.lookup (d.ad K) with
  | some ⟨_, _, .func fd, _⟩ => some (fd.name, fd.qualname, fd.params, fd.body, fd.scope, fd.globals, fd.closure, fd.builtins)
  | _ => none
def AD.val (d : AD) : He.FnW := some (d.name, d.qual, d.params, .stmts d.body, d.scope, mainGlobals, [], builtinsNs)
def AD.dvs (K : PySem.W.Frag) (d : AD) : List V := d.dfl.map (He.Dv.v K)
def AD.kws (K : PySem.W.Frag) (d : AD) : List (Str × V) := d.kwd.map fun q => (q.1, q.2.v K)
def AD.ok (K : PySem.W.Frag) (d : AD) : Bool := PySem.W.keepIn K (.ref (d.ad K)) && (match K.lookup (d.ad K) with
  | some ⟨_, _, .func fd, _⟩ => PySem.W.codeIn K fd.code d.qual && (He.dflB K fd.defaults (d.dvs K) && He.kwdB K fd.kwdefaults (d.kws K))
  | _ => false)
theorem AD.funD {K : PySem.W.Frag} {d : AD} (e : d.obs K = d.val) (c : d.ok K = true) : ∃ fd, FunD K d.name d.qual d.params d.body d.scope (d.dvs K) (d.kws K) (d.ad K) fd := by
  obtain ⟨kp, c2⟩ := He.ba c
  unfold AD.obs at e
  cases q : K.lookup (d.ad K) with
  | none => rw [q] at c2; cases c2
  | some o =>
    obtain ⟨oc, od, dt, osl⟩ := o
    rw [q] at c2 e
    cases dt with
    | func fd =>
      obtain ⟨n1, n2, n3, n4, n5, n6, n7, n8, n9, n10, n11, n12, n13, n14, n15⟩ := fd
      have e2 : (some (n1, n2, n3, n4, n5, n6, n7, n15) : He.FnW) = some (d.name, d.qual, d.params, .stmts d.body, d.scope, mainGlobals, [], builtinsNs) := e
      simp only [Option.some.injEq, Prod.mk.injEq] at e2
      obtain ⟨h1, h2, h3, h4, h5, h6, h7, h8⟩ := e2
      subst h1 h2 h3 h4 h5 h6 h7 h8
      have c3 : (PySem.W.codeIn K n13 d.qual && (He.dflB K n8 (d.dvs K) && He.kwdB K n9 (d.kws K))) = true := c2
      obtain ⟨k1, k2⟩ := He.ba c3
      obtain ⟨k3, k4⟩ := He.ba k2
      exact ⟨_, ⟨oc, od, n8, n9, n10, n11, n12, n13, n14, osl, rfl, q, k1, He.dflB_ok k3, He.kwdB_ok k4⟩, kp⟩
    | _ => cases c2
/-! ### the hook -/
abbrev AlM : Type := Bool × List He.FnW × List FnX
/-- what the objects of fr name that is not in all -/
def newA (g : Addr → Option Obj) (all fr : List Addr) : List Addr := (fr.flatMap fun a => match g a with
  | some o => He.refsD o
  | none => []).foldl (fun acc a => if all.contains a || acc.contains a then acc else a :: acc) []
def grw (g : Addr → Option Obj) : List Addr → List Addr → Nat → List Addr
  | all, _, 0 => all
  | all, fr, n + 1 => grw g (all ++ newA g all fr) (newA g all fr) n
def asM (g : Addr → Option Obj) (n : Nat) : List Addr := grw g [mainGlobals, cStatics] [mainGlobals, cStatics] n
def obsM (P : Program) (fb : PySem.W.Frag → Bool) (fn : List AD) (xs : List XD) (K : PySem.W.Frag) : AlM := (fb K && ((fn.all fun d => d.ok K) && xs.all fun d => d.ok P K), fn.map fun d => d.obs K, xs.map fun d => d.obs K)
def valM (fn : List AD) (xs : List XD) : AlM := (true, fn.map AD.val, xs.map XD.val)
def SaysM (P : Program) (fb : PySem.W.Frag → Bool) (fn : List AD) (xs : List XD) (K : PySem.W.Frag) : Prop := obsM P fb fn xs K = valM fn xs
def obsMG (P : Program) (n : Nat) (fb : PySem.W.Frag → Bool) (fn : List AD) (xs : List XD) (g : Addr → Option Obj) : AlM := obsM P fb fn xs (He.frG g (asM g n))
def hookM (P : Program) (n : Nat) (fb : PySem.W.Frag → Bool) (fn : List AD) (xs : List XD) : PySem.W.Hook where
  α := AlM
  obs := fun s => obsMG P n fb fn xs s.heap.get?
  val := fun _ => valM fn xs
  says := fun _ h => ∃ K : PySem.W.Frag, K.In h ∧ SaysM P fb fn xs K
  of := fun _ _ e => ⟨_, He.frG_in, e⟩
  keeps := fun _ _ _ ⟨K, hK, c⟩ k => ⟨K, PySem.W.Frag.In.keeps hK k, c⟩
theorem obsMG_eq {P : Program} {n : Nat} {fb : PySem.W.Frag → Bool} {fn : List AD} {xs : List XD} {g : Addr → Option Obj} {s : Shared} (h : ∀ a, g a = s.heap.get? a) : obsMG P n fb fn xs g = (hookM P n fb fn xs).obs s := by
  have e : g = s.heap.get? := funext h
  rw [e] <;> rfl
section
variable {P : Program} {fb : PySem.W.Frag → Bool} {fn : List AD} {xs : List XD} {K : PySem.W.Frag}
theorem SaysM.all (c : SaysM P fb fn xs K) : (fb K && ((fn.all fun d => d.ok K) && xs.all fun d => d.ok P K)) = true := congrArg (fun z : AlM => z.1) c
theorem SaysM.fact (c : SaysM P fb fn xs K) : fb K = true := (He.ba c.all).1
theorem SaysM.def_ (c : SaysM P fb fn xs K) (i : Nat) {d : AD} (h : fn[i]? = some d := by rfl) : ∃ fd, FunD K d.name d.qual d.params d.body d.scope (d.dvs K) (d.kws K) (d.ad K) fd := by
  have c2 := (He.ba (He.ba c.all).2).1
  have e : fn.map (fun d => d.obs K) = fn.map AD.val := congrArg (fun z : AlM => z.2.1) c
  have e2 : (fn.map fun d => d.obs K)[i]? = (fn.map AD.val)[i]? := by rw [e]
  rw [List.getElem?_map, List.getElem?_map, h] at e2
  exact AD.funD (Option.some.inj e2) (List.all_eq_true.mp c2 d (List.mem_of_getElem? h))
theorem SaysM.exc (c : SaysM P fb fn xs K) (ht : (P.main.scope.names.lookup ("super" : Str)).isSome = false) (i : Nat) {d : XD} (h : xs[i]? = some d := by rfl) : XCls P K (He.ga K d.cls) d.fs d.params d.body d.scope := by
  have c2 := (He.ba (He.ba c.all).2).2
  have e : xs.map (fun d => d.obs K) = xs.map XD.val := congrArg (fun z : AlM => z.2.2) c
  have e2 : (xs.map fun d => d.obs K)[i]? = (xs.map XD.val)[i]? := by rw [e]
  rw [List.getElem?_map, List.getElem?_map, h] at e2
  exact XD.cls_of (Option.some.inj e2) (List.all_eq_true.mp c2 d (List.mem_of_getElem? h)) ht
theorem SaysM.mgx (c : SaysM P fb fn xs K) {h : Heap} {mg : Str → Option Value} (X : K.In h) (G : h.Ns mainGlobals mg) (i : Nat) {d : XD} (hi : xs[i]? = some d := by rfl) : mg d.cls = some (.ref (He.ga K d.cls)) := by
  have c2 := List.all_eq_true.mp (He.ba (He.ba c.all).2).2 d (List.mem_of_getElem? hi)
  unfold XD.ok at c2
  exact PySem.W.mg_of X G (He.eqO_ok (He.ba c2).1)
end
end M

namespace L2
open PySem PySem.Spec PyProof.Rows
theorem Same.mut {H H' : Hp} {p : Addr} {o : HO} (e : Same H H') (h : H p = none) : Same H (upd H' p o) := fun a u ha => by
  rw [upd_ne (ne_of_none ha h)]
  exact e a u ha
theorem Same.new {H H' : Hp} {p : Addr} {o : HO} (e : Same H H') (h : H' p = none) : Same H (upd H' p o) := fun a u ha => by
  rw [upd_ne (ne_of_none (e a u ha) h)]
  exact e a u ha
end L2
namespace M
open PySem PySem.Spec PyProof.Rows L2
abbrev FnP (K : PySem.W.Frag) (x : Str) (st : Stmt) (f : Addr) (fd : FuncData) : Prop := FunD K x x (defArgs st) (defBody st) (defScope st) [] [] f fd
/-! ### ints in a list -/
theorem int_at {ns : List Int} {i : Nat} {y : V} (h : (ns.map V.int)[i]? = some y) : ∃ z, ns[i]? = some z ∧ y = .int z := by
  rw [List.getElem?_map] at h
  cases e : ns[i]? with
  | none => rw [e] at h; cases h
  | some z => rw [e] at h; exact ⟨z, rfl, (Option.some.inj h).symm⟩
theorem lt_of_at {α : Type} {l : List α} {i : Nat} {y : α} (h : l[i]? = some y) : i < l.length := (List.getElem?_eq_some_iff.mp h).1
/-- a list of draws -/
def Dr (ds : List Int) : Prop := ∀ d ∈ ds, 0 ≤ d ∧ d < 1000
theorem Dr.nil : Dr [] := fun _ h => by cases h
theorem Dr.snoc {ds : List Int} {d : Int} (h : Dr ds) (h0 : 0 ≤ d) (h1 : d < 1000) : Dr (ds ++ [d]) := fun x hx => by
  rcases List.mem_append.mp hx with hx | hx
  · exact h x hx
  · rw [List.mem_singleton.mp hx]; exact ⟨h0, h1⟩
theorem size_ok {n m : Nat} (h : n ≤ m) (hm : m < 16777216) : n < sizeLine := by rw [sizeLine_eq]; omega
theorem cut_to (xs : List V) {n : Nat} (h : n ≤ xs.length) : cutV xs none (some (n : Int)) = xs.take n := by
  unfold cutV
  rw [HT.sIx_nat, HT.sIx_none, Nat.min_eq_left h]
  simp
theorem fm_nonneg (z : Int) {m : Int} (h : 0 < m) : 0 ≤ z.fmod m := by
  rw [Int.fmod_eq_emod_of_nonneg _ (Int.le_of_lt h)]
  exact Int.emod_nonneg _ (by omega)
theorem fm_lt (z : Int) {m : Int} (h : 0 < m) : z.fmod m < m := by
  rw [Int.fmod_eq_emod_of_nonneg _ (Int.le_of_lt h)]
  exact Int.emod_lt_of_pos _ h
/-- what the text's top leaves of the names that every law uses -/
structure Bi (mg : Str → Option Value) : Prop where
  abs : mg "abs" = none
  int : mg "int" = none
  len : mg "len" = none
  range : mg "range" = none
end M

namespace L2
open PySem PySem.Spec PyProof.Rows
theorem foldl_repT (c : Nat) : ∀ (n : Nat) (acc : Array Nat), ((List.replicate n (#[c] : Array Nat)).foldl (· ++ ·) acc).toList = acc.toList ++ List.replicate n c := by
  intro n
  induction n with
  | zero => intro acc; simp
  | succ n ih =>
    intro acc
    rw [List.replicate_succ, List.foldl_cons, ih, Array.toList_append, List.replicate_succ, List.append_assoc]
    rfl
theorem txt_mul_one (c : Nat) (n : Int) (h : 1 ≤ n) : Txt.mul ⟨#[c]⟩ n = ⟨(List.replicate n.toNat c).toArray⟩ := by
  unfold Txt.mul
  rw [if_neg (by omega)]
  split
  · rename_i h1
    have e : n = 1 := by
      have h2 : ((n == 1) || ((⟨#[c]⟩ : Str).length == 0)) = true := h1
      rw [show ((⟨#[c]⟩ : Str).length == 0) = false from rfl, Bool.or_false] at h2
      exact eq_of_beq h2
    rw [e]
    rfl
  · have z := foldl_repT c n.toNat #[]
    have e : ((List.replicate n.toNat (#[c] : Array Nat)).foldl (· ++ ·) #[]) = (List.replicate n.toNat c).toArray := by
      apply Array.ext'
      rw [z]
      simp
    show (⟨(List.replicate n.toNat (⟨#[c]⟩ : Str).cps).foldl (· ++ ·) #[]⟩ : Str) = _
    rw [show ((⟨#[c]⟩ : Str).cps) = #[c] from rfl, e]
section
variable {X : Cx}
/-- 'c' * n -/
theorem op_mul_str : OpR X (binaryOp .Mult) (fun x y H Q => ∃ (c : Nat) (n : Int), x = .str ⟨#[c]⟩ ∧ y = .int n ∧ (1 ≤ n ∧ n ≤ 1000) ∧ Q (.str ⟨(List.replicate n.toNat c).toArray⟩) H) := by
  intro pins s σ H x y v u Q I rx ry h
  obtain ⟨c, n, rfl, rfl, ⟨h1, h2⟩, q⟩ := h
  obtain ⟨t, rfl⟩ := rx
  obtain ⟨t', rfl⟩ := ry
  refine SB.mul ⟨?_, fun _ _ => ?_, fun _ _ => ?_⟩ (fun t' k => ⟨.str ⟨(List.replicate n.toNat c).toArray⟩, H, I.tok _, ⟨t', by rw [txt_mul_one c n h1]⟩, q⟩)
  · simp only [Bool.or_eq_false_iff, decide_eq_false_iff_not]
    omega
  · show ¬ (((1 : Nat) : Int) > (2 ^ 63 - 1) / n)
    have : 1 ≤ (2 ^ 63 - 1 : Int) / n := by
      rw [Int.le_ediv_iff_mul_le (by omega)]
      omega
    omega
  · show Builtin.Str.tooLong (1 * n.toNat) = false
    unfold Builtin.Str.tooLong
    rw [decide_eq_false_iff_not, sizeLine_eq]
    omega
end
end L2
namespace M
open PySem PySem.Spec PyProof.Rows L2
/-! ### the names: which texts _law_names gives -/
def ltr (d k : Nat) : Nat := 97 + (d / 4 % 26 + 7 * k) % 26
def tailZ : List Nat := [122, 121, 120, 119, 118, 117, 116, 115]
def nmC (d n k : Nat) : List Nat :=
  if d % 4 = 0 then [ltr d k]
  else if d % 4 = 1 then List.replicate (d / 104 % 7) 113 ++ ([ltr d k] ++ List.replicate (6 - d / 104 % 7) 113)
  else if d % 4 = 2 then List.replicate (n - k) (97 + d / 4 % 26)
  else ltr d k :: tailZ.take ((d + 3 * k) % 8)
def nm (d n k : Nat) : Str := ⟨(nmC d n k).toArray⟩
def nmL (d n : Nat) : List Str := (List.range n).map (nm d n)
theorem nmL_len (d n : Nat) : (nmL d n).length = n := by unfold nmL; simp
theorem nmL_at {d n k : Nat} (h : k < n) : (nmL d n)[k]? = some (nm d n k) := by
  unfold nmL
  rw [List.getElem?_map, List.getElem?_range h]
  rfl
/-- a good name -/
def NameOk (s : Str) : Prop := 1 ≤ s.cps.toList.length ∧ s.cps.toList.length ≤ 8 ∧ ∀ c ∈ s.cps.toList, 97 ≤ c ∧ c ≤ 122
theorem ltr_in (d k : Nat) : 97 ≤ ltr d k ∧ ltr d k ≤ 122 := by unfold ltr; omega
theorem nm_ok {d n k : Nat} (hn : n ≤ 8) (hk : k < n) : NameOk (nm d n k) := by
  have hl := ltr_in d k
  unfold NameOk nm nmC
  simp only
  split
  · exact ⟨by simp, by simp, fun c hc => by simp at hc; rw [hc]; exact hl⟩
  · split
    · refine ⟨by simp; omega, by simp; omega, fun c hc => ?_⟩
      simp only [List.mem_append, List.mem_replicate, List.mem_singleton] at hc
      rcases hc with ⟨_, e⟩ | e | ⟨_, e⟩ <;> rw [e] <;> first | exact hl | omega
    · split
      · refine ⟨by simp; omega, by simp; omega, fun c hc => ?_⟩
        simp only [List.mem_replicate] at hc
        omega
      · refine ⟨by simp, by simp [tailZ]; omega, fun c hc => ?_⟩
        simp only [List.mem_cons] at hc
        rcases hc with e | hc
        · rw [e]; exact hl
        · have hm := List.mem_of_mem_take hc
          simp only [tailZ, List.mem_cons, List.not_mem_nil, or_false] at hm
          omega
theorem nm_inj {d n j k : Nat} (hn : n ≤ 26) (hj : j < n) (hk : k < n) (e : nm d n j = nm d n k) : j = k := by
  have e1 : nmC d n j = nmC d n k := by
    have z := congrArg (fun s : Str => s.cps.toList) e
    simpa [nm] using z
  have key : ltr d j = ltr d k → j = k := by unfold ltr; omega
  unfold nmC at e1
  by_cases h0 : d % 4 = 0
  · rw [if_pos h0, if_pos h0] at e1
    exact key (List.cons.inj e1).1
  · rw [if_neg h0, if_neg h0] at e1
    by_cases h1 : d % 4 = 1
    · rw [if_pos h1, if_pos h1] at e1
      have e2 := List.append_cancel_left e1
      exact key (List.cons.inj e2).1
    · rw [if_neg h1, if_neg h1] at e1
      by_cases h2 : d % 4 = 2
      · rw [if_pos h2, if_pos h2] at e1
        have e2 := congrArg List.length e1
        rw [List.length_replicate, List.length_replicate] at e2
        omega
      · rw [if_neg h2, if_neg h2] at e1
        exact key (List.cons.inj e1).1
theorem nmL_nodup {d n : Nat} (hn : n ≤ 26) : (nmL d n).Nodup := by
  unfold nmL
  rw [List.Nodup, List.pairwise_map]
  refine List.Pairwise.imp_of_mem (R := fun a b => a ≠ b) (fun {a b} ha hb hab e => hab (nm_inj hn (List.mem_range.mp ha) (List.mem_range.mp hb) e)) (List.nodup_range)
theorem nmL_mem_ok {d n : Nat} (hn : n ≤ 8) {s : Str} (h : s ∈ nmL d n) : NameOk s := by
  unfold nmL at h
  obtain ⟨k, hk, rfl⟩ := List.mem_map.mp h
  exact nm_ok hn (List.mem_range.mp hk)
end M

namespace M
open PySem PySem.Spec PyProof.Rows L2
/-! ### calls, whatever is raised: at the caller's slots it is wished for by W -/
/-- a def of the module -/
structure Cal (P : Program) (w : World) (K : PySem.W.Frag) (mg : Str → Option Value) (base : Heap) (k : Nat) (x : Str) (ps : List Str) (sp : Sp) : Prop where
  ex : ∃ (f : Addr) (fd : FuncData), mg x = some (.ref f) ∧ PySem.W.keepIn K (.ref f) = true ∧ Binds K fd ps [] ∧ FnOk P w K mg base (L2.CX P w) k f fd ps sp
/-- a method of the class at C (its own or a base's) -/
structure Mth (P : Program) (w : World) (K : PySem.W.Frag) (mg : Str → Option Value) (base : Heap) (k : Nat) (C : Addr) (m : Str) (ps : List Str) (sp : Sp) : Prop where
  cl : Cls K C
  ex : ∃ (f : Addr) (fd : FuncData), Meth K C m f ∧ Binds K fd ps [] ∧ FnOk P w K mg base (L2.CX P w) k f fd ps sp
/-- C.m read off the class, a plain def -/
structure ClF (K : PySem.W.Frag) (C : Addr) (m : Str) (f : Addr) : Prop where
  rd : PySem.W.readsIn K C (.type "type") = true
  ga : PySem.W.specialIn K (.ref C) "__getattribute__" = some (some (.builtin "type.__getattribute__"))
  at_ : PySem.W.findCls K (.ref C) (.type "type") m = some (.val (.ref f))
  kp : PySem.W.keepIn K (.ref f) = true
structure CFn (P : Program) (w : World) (K : PySem.W.Frag) (mg : Str → Option Value) (base : Heap) (k : Nat) (x : Str) (m : Str) (ps : List Str) (sp : Sp) : Prop where
  ex : ∃ (C f : Addr) (fd : FuncData), mg x = some (.ref C) ∧ ClF K C m f ∧ Binds K fd ps [] ∧ FnOk P w K mg base (L2.CX P w) k f fd ps sp
/-- C(..) -/
structure Mak (P : Program) (w : World) (K : PySem.W.Frag) (mg : Str → Option Value) (base : Heap) (k : Nat) (x : Str) (C : Addr) (ps : List Str) (sp : Sp) : Prop where
  gC : mg x = some (.ref C)
  ex : ∃ (f : Addr) (fd : FuncData), Mk K C f ∧ Binds K fd ps [] ∧ FnOk P w K mg base (L2.CX P w) k f fd ps sp
section
variable {X : Cx} {k j : Nat} {x m : Str} {ps : List Str} {sp : Sp} {W : WX} {e o : Expr} {es : List Expr} {t : TA} {ta : TE} {p pos apos np : Pos} {C : Addr}
theorem pe_cal (G : Cal X.prog X.w X.K X.mg X.base k x ps sp) (hr : Room j X.A) (tk : Takes X W) (ha : PA X (e :: es) t) (hk : k ≤ j := by decide) (hg : Gl X x := by rfl) (hdb : (x == ("__debug__" : Str)) = false := by decide)
    (he : starEach (e :: es) X.env = (false, eval e X.env) :: starEach es X.env := by rfl) (hpl : (backTo pos (starEach es X.env)).any (·.1) = false := by rfl) : PE X (.Call (.Name x p) (e :: es) [] pos) (tCallS sp (WE W) t) := by
  obtain ⟨f, fd, hm, hkp, hb, F⟩ := G.ex
  exact pe_callS F (hr.mono hk) hg hm hkp hb (fun σ => passAt tk σ) ha hdb he hpl
def tMethS (m : Str) (sp : Sp) (C : Addr) (E : L2.St → XK) (ta : TE) (t : TA) : TE := fun σ H Q => ta σ H fun x H1 => ∃ a dx fs, x = .ref a ∧ H1 a = some (.ins C dx fs) ∧ fs.lookup m = none ∧ t σ H1 fun vs H2 => sp (x :: vs) H2 Q (E σ)
theorem pe_mth {pl : Sem Bool} (G : Mth X.prog X.w X.K X.mg X.base k C m ps sp) (hr : Room j X.A) (tk : Takes X W) (he : PE X o ta) (ha : PA X (e :: es) t) (hk : k ≤ j := by decide)
    (hst : starEach (e :: es) X.env = (false, eval e X.env) :: starEach es X.env := by rfl) (hpl : (backTo pos (starEach es X.env)).any (·.1) = false := by rfl)
    (ht : eval (.Call (.Attribute o m apos) (e :: es) [] pos) X.env = (do
      let ov ← eval o X.env
      standAt apos.atName
      let (f, first) ← holding [ov] (getMethod ov m pl)
      callWith pos f first (backTo pos (starEach (e :: es) X.env)) (backToKw pos (keywordEach [] X.env))) := by rfl) :
    PE X (.Call (.Attribute o m apos) (e :: es) [] pos) (tMethS m sp C (WE W) ta t) := by
  obtain ⟨f, fd, hm, hb, F⟩ := G.ex
  refine ⟨fun pins s σ H Q I h => ?_⟩
  refine PySem.W.methodCall_KW (pl := pl) (thn (he.run pins s σ H _ I h) fun u s1 ⟨x, H1, I1, rx, a, dx, fs, ex, ea, l, q⟩ => ?_) ht
  subst ex
  obtain rfl : u = Value.ref a := rx
  refine getmeth_ok I1 ea G.cl hm l ?_
  refine PySem.W.callWith_K (first := [.ref a]) (h₀ := X.base) I.ok.mod.kin hm.kp (thn (ha.run pos pins s1 σ H1 _ I1 q) fun us s2 ⟨vs, H2, I2, r, q2⟩ => ⟨I2.kIn, ?_⟩) hst hpl
  exact run_fnS (us := .ref a :: us) (vs := .ref a :: vs) (E := WE W) F (hr.mono hk) hb (passAt tk σ) I2 (.cons rfl r) q2
theorem pe_mth0 {pl : Sem Bool} (G : Mth X.prog X.w X.K X.mg X.base k C m ps sp) (hr : Room j X.A) (tk : Takes X W) (he : PE X o ta) (hk : k ≤ j := by decide)
    (ht : eval (.Call (.Attribute o m apos) [] [] pos) X.env = (do
      let ov ← eval o X.env
      standAt apos.atName
      let (f, first) ← holding [ov] (getMethod ov m pl)
      callWith pos f first (backTo pos (starEach [] X.env)) (backToKw pos (keywordEach [] X.env))) := by rfl) :
    PE X (.Call (.Attribute o m apos) [] [] pos) (tMethS m sp C (WE W) ta tNil) := by
  obtain ⟨f, fd, hm, hb, F⟩ := G.ex
  refine ⟨fun pins s σ H Q I h => ?_⟩
  refine PySem.W.methodCall_KW (pl := pl) (thn (he.run pins s σ H _ I h) fun u s1 ⟨x, H1, I1, rx, a, dx, fs, ex, ea, l, q⟩ => ?_) ht
  subst ex
  obtain rfl : u = Value.ref a := rx
  refine getmeth_ok I1 ea G.cl hm l ?_
  exact PySem.W.callWith_K0 (first := [.ref a]) I1.kIn hm.kp (run_fnS (us := [.ref a]) (vs := [.ref a]) (E := WE W) F (hr.mono hk) hb (passAt tk σ) I1 (.cons rfl .nil) q)
/-- the same, the class and the method told by the reading -/
def tMthE (P : Program) (w : World) (K : PySem.W.Frag) (mg : Str → Option Value) (base : Heap) (j : Nat) (m : Str) (W : WX) (ta : TE) (t : TA) : TE := fun σ H Q => ta σ H fun x H1 => ∃ (a C dx : Addr) (fs : List (Str × V)) (k : Nat) (ps : List Str) (sp : Sp), x = .ref a ∧ H1 a = some (.ins C dx fs) ∧
  Mth P w K mg base k C m ps sp ∧ k ≤ j ∧ fs.lookup m = none ∧ t σ H1 fun vs H2 => sp (x :: vs) H2 Q (WE W σ)
theorem pe_mthE {pl : Sem Bool} (hr : Room j X.A) (tk : Takes X W) (he : PE X o ta) (ha : PA X (e :: es) t)
    (hst : starEach (e :: es) X.env = (false, eval e X.env) :: starEach es X.env := by rfl) (hpl : (backTo pos (starEach es X.env)).any (·.1) = false := by rfl)
    (ht : eval (.Call (.Attribute o m apos) (e :: es) [] pos) X.env = (do
      let ov ← eval o X.env
      standAt apos.atName
      let (f, first) ← holding [ov] (getMethod ov m pl)
      callWith pos f first (backTo pos (starEach (e :: es) X.env)) (backToKw pos (keywordEach [] X.env))) := by rfl) :
    PE X (.Call (.Attribute o m apos) (e :: es) [] pos) (tMthE X.prog X.w X.K X.mg X.base j m W ta t) := by
  refine ⟨fun pins s σ H Q I h => ?_⟩
  refine PySem.W.methodCall_KW (pl := pl) (thn (he.run pins s σ H _ I h) fun u s1 ⟨x, H1, I1, rx, a, C, dx, fs, k, ps, sp, ex, ea, G, hk, l, q⟩ => ?_) ht
  obtain ⟨f, fd, hm, hb, F⟩ := G.ex
  subst ex
  obtain rfl : u = Value.ref a := rx
  refine getmeth_ok I1 ea G.cl hm l ?_
  refine PySem.W.callWith_K (first := [.ref a]) (h₀ := X.base) I.ok.mod.kin hm.kp (thn (ha.run pos pins s1 σ H1 _ I1 q) fun us s2 ⟨vs, H2, I2, r, q2⟩ => ⟨I2.kIn, ?_⟩) hst hpl
  exact run_fnS (us := .ref a :: us) (vs := .ref a :: vs) (E := WE W) F (hr.mono hk) hb (passAt tk σ) I2 (.cons rfl r) q2
theorem pe_mthE0 {pl : Sem Bool} (hr : Room j X.A) (tk : Takes X W) (he : PE X o ta)
    (ht : eval (.Call (.Attribute o m apos) [] [] pos) X.env = (do
      let ov ← eval o X.env
      standAt apos.atName
      let (f, first) ← holding [ov] (getMethod ov m pl)
      callWith pos f first (backTo pos (starEach [] X.env)) (backToKw pos (keywordEach [] X.env))) := by rfl) :
    PE X (.Call (.Attribute o m apos) [] [] pos) (tMthE X.prog X.w X.K X.mg X.base j m W ta tNil) := by
  refine ⟨fun pins s σ H Q I h => ?_⟩
  refine PySem.W.methodCall_KW (pl := pl) (thn (he.run pins s σ H _ I h) fun u s1 ⟨x, H1, I1, rx, a, C, dx, fs, k, ps, sp, ex, ea, G, hk, l, q⟩ => ?_) ht
  obtain ⟨f, fd, hm, hb, F⟩ := G.ex
  subst ex
  obtain rfl : u = Value.ref a := rx
  refine getmeth_ok I1 ea G.cl hm l ?_
  exact PySem.W.callWith_K0 (first := [.ref a]) I1.kIn hm.kp (run_fnS (us := [.ref a]) (vs := [.ref a]) (E := WE W) F (hr.mono hk) hb (passAt tk σ) I1 (.cons rfl .nil) q)
/-- Cls.m(self, ..) -/
theorem pe_cfn {pl : Sem Bool} (G : CFn X.prog X.w X.K X.mg X.base k x m ps sp) (hr : Room j X.A) (tk : Takes X W) (ha : PA X (e :: es) t) (hk : k ≤ j := by decide) (hg : Gl X x := by rfl) (hdb : (x == ("__debug__" : Str)) = false := by decide)
    (hst : starEach (e :: es) X.env = (false, eval e X.env) :: starEach es X.env := by rfl) (hpl : (backTo pos (starEach es X.env)).any (·.1) = false := by rfl)
    (ht : eval (.Call (.Attribute (.Name x np) m apos) (e :: es) [] pos) X.env = (do
      let ov ← eval (.Name x np) X.env
      standAt apos.atName
      let (f, first) ← holding [ov] (getMethod ov m pl)
      callWith pos f first (backTo pos (starEach (e :: es) X.env)) (backToKw pos (keywordEach [] X.env))) := by rfl) :
    PE X (.Call (.Attribute (.Name x np) m apos) (e :: es) [] pos) (tCallS sp (WE W) t) := by
  obtain ⟨C, f, fd, hm, c, hb, F⟩ := G.ex
  refine ⟨fun pins s σ H Q I h => ?_⟩
  refine PySem.W.methodCall_KW (pl := pl) (ld_glob I hg hm ?_ hdb) ht
  refine PySem.W.method_cls I.kIn c.ga ?_
  refine PySem.W.cls_value I.kIn c.rd c.at_ rfl ?_
  refine PySem.W.callWith_K (first := []) (h₀ := X.base) I.ok.mod.kin c.kp (thn (ha.run pos pins _ σ H _ (I.tok _) h) fun us s2 ⟨vs, H2, I2, r, q2⟩ => ⟨I2.kIn, ?_⟩) hst hpl
  exact run_fnS (E := WE W) F (hr.mono hk) hb (passAt tk σ) I2 r q2
theorem run_makeS {CX : CXT} {fd : FuncData} {f : Addr} {E : L2.St → XK} {pins : List (Addr × Obj)} {σ : L2.St} {H : Hp} {s : Shared} {Q : VK} {us : List Value} {vs : List V} (M : Mk X.K C f) (F : FnOk X.prog X.w X.K X.mg X.base CX k f fd ps sp) (hr : Room (k + 1) X.A) (hb : Binds X.K fd ps [])
    (hx : PassesAt CX X σ (E σ)) (I : Inv X pins σ H s) (r : Vals vs us)
    (h : ∀ x dx, H x = none → H dx = none → dx ≠ x → sp (.ref x :: vs) (upd (upd H dx (.own x)) x (.ins C dx [])) (fun v H2 => v = .non ∧ Q (.ref x) H2) (E σ)) :
    wpAny (model X.prog X.w) X.A (call (.ref C) us) (EP X pins σ Q) X.xe s := by
  have hq := h (s.heap.objs.size + 1) s.heap.objs.size (I.hok.fresh (Nat.le_succ _)) (I.hok.fresh (Nat.le_refl _)) (Nat.ne_of_lt (Nat.lt_succ_self _))
  have I2 := Inv.made (C := C) I
  have r2 : Vals (V.ref (s.heap.objs.size + 1) :: vs) (Value.ref (s.heap.objs.size + 1) :: us) := .cons rfl r
  have hl : (Value.ref (s.heap.objs.size + 1) :: us).length = ps.length := by
    have e := r2.length
    rw [F.len _ _ _ _ hq] at e
    exact e.symm
  have b := hb { s with heap := _, toks := _ } (Value.ref (s.heap.objs.size + 1) :: us) I2.kIn (by rw [List.append_nil]; exact hl)
  rw [List.append_nil] at b
  refine wpAny_call (make_map (f := f) I.kIn M.makes M.init (beq_iff_eq.mp M.fn) (codeAny_mono (F.run _ X.stack _ _ ⟨Value.ref (s.heap.objs.size + 1) :: us, []⟩ (Value.ref (s.heap.objs.size + 1) :: us) _ _ (E σ) (hr.make C us [])
    (I2.env0.make C us []) b r2 hq) fun r s' hq' => ?_))
  cases r with
  | error e => exact hx pins _ _ e s' I2 hq'
  | ok fl =>
    cases fl with
    | ret u =>
      obtain ⟨v, H', I3, rv, ev, q3⟩ := I2.after hq'
      subst ev
      exact ⟨rv, ⟨V.ref (s.heap.objs.size + 1), H', I3, rfl, q3⟩⟩
    | next => exact False.elim hq'
    | brk => exact False.elim hq'
    | cont => exact False.elim hq'
def tMakeS (C : Addr) (sp : Sp) (E : L2.St → XK) (t : TA) : TE := fun σ H Q => t σ H fun vs H1 => ∀ x dx, H1 x = none → H1 dx = none → dx ≠ x → sp (.ref x :: vs) (upd (upd H1 dx (.own x)) x (.ins C dx [])) (fun v H2 => v = .non ∧ Q (.ref x) H2) (E σ)
theorem pe_mak (G : Mak X.prog X.w X.K X.mg X.base k x C ps sp) (hr : Room j X.A) (tk : Takes X W) (ha : PA X (e :: es) t) (hk : k + 1 ≤ j := by decide) (hg : Gl X x := by rfl) (hdb : (x == ("__debug__" : Str)) = false := by decide)
    (he : starEach (e :: es) X.env = (false, eval e X.env) :: starEach es X.env := by rfl) (hpl : (backTo pos (starEach es X.env)).any (·.1) = false := by rfl) : PE X (.Call (.Name x p) (e :: es) [] pos) (tMakeS C sp (WE W) t) := by
  obtain ⟨f, fd, M, hb, F⟩ := G.ex
  refine ⟨fun pins s σ H Q I h => ?_⟩
  refine wpAny_Call_Name_kw (ld_glob I hg G.gC ?_ hdb)
  refine PySem.W.callWith_K (h₀ := X.base) I.ok.mod.kin M.kp (thn (ha.run pos pins s σ H _ I h) fun us s1 ⟨vs, H1, I1, r, q⟩ => ⟨I1.kIn, ?_⟩) he hpl
  exact run_makeS (E := WE W) M F (hr.mono hk) hb (passAt tk σ) I1 r q
end
theorem putF_len (f : Str) (v : V) : ∀ fs : List (Str × V), (putF f v fs).length ≤ fs.length + 1
  | [] => Nat.le_refl 1
  | (g, u) :: r => by
    show (if g = f then (g, v) :: r else (g, u) :: putF f v r).length ≤ _
    split
    · exact Nat.le_succ _
    · exact Nat.succ_le_succ (putF_len f v r)
theorem putF_le {f : Str} {v : V} {fs : List (Str × V)} {m : Nat} (h : fs.length ≤ m) : (putF f v fs).length ≤ m + 1 := Nat.le_trans (putF_len f v fs) (Nat.succ_le_succ h)
theorem rd_upd {H : Hp} {a p : Addr} {o u : HO} (h : a ≠ p) (r : Rd H a u) : Rd (upd H p o) a u := by
  rcases r with r | ⟨q, r⟩
  · exact .inl (by rw [upd_ne h]; exact r)
  · exact .inr ⟨q, by rw [upd_ne h]; exact r⟩
theorem sqL_upd {K : PySem.W.Frag} {H : Hp} {a p : Addr} {o : HO} {xs : List V} (h : a ≠ p) (r : SqL K H a xs) : SqL K (upd H p o) a xs := by
  rcases r with r | r
  · exact .inl (rd_upd h r)
  · exact .inr r
theorem sqT_upd {K : PySem.W.Frag} {H : Hp} {a p : Addr} {o : HO} {xs : List V} (h : a ≠ p) (r : SqT K H a xs) : SqT K (upd H p o) a xs := by
  rcases r with r | r
  · exact .inl (rd_upd h r)
  · exact .inr r
/-! ### try, the readings of its parts as they come -/
theorem pss_imp {X : Cx} {ss : List Stmt} {t t' : TS} (h : PSs X ss t) (i : ∀ D σ H, t' D σ H → t D σ H) : PSs X ss t' := ⟨fun pins s σ H D I q => h.run pins s σ H D I (i D σ H q)⟩
theorem ps_tryA {X : Cx} {x n : Str} {c : Value} {i : Nat} {body suite : List Stmt} {b₀ : Stmt} {np pos pos' : Pos} {tb : WX → List (Addr × Obj) → (Value → Shared → Prop) → TS} {ts : Addr → Obj → Value → Option Addr → List (Addr × Obj) → TS} {Wout : WX}
    (hs : X.stack = X.env :: X.outer) (hf : X.env.frame = some X.env.locals) (hN : X.N.Nodup) (hi : X.N[i]? = some n) (hln : X.env.kindOf n = some .local) (hc : Names X x c) (tk : Takes X Wout)
    (hb : ∀ (W : WX) (pn : List (Addr × Obj)) (xe : Value → Shared → Prop), Takes (X.tr pn xe) W → PassesOwn (model X.prog X.w) X.A X.env xe → PSs (X.tr pn xe) body (tb W pn xe))
    (hsu : ∀ (a : Addr) (oe : Obj) (cls : Value) (d : Option Addr) (pn : List (Addr × Obj)), Zc cls d oe → (∃ vs, oe.data = .fields vs) → PSs (X.suite a ((a, oe) :: pn)) (b₀ :: suite) (ts a oe cls d pn)) :
    PS X (.Try body [.ExceptHandler (some (.Name x np)) (some n) (b₀ :: suite) pos'] [] [] pos)
      (fun D σ H => ∀ pn xe, tb (wAs X.K c i (fun a cls d => fun D σ H => ∀ oe pn, ts a oe cls d pn D σ H) Wout D) pn xe D σ H) :=
  ps_try_as (tb := fun W D σ H => ∀ pn xe, tb W pn xe D σ H) (ts := fun a cls d => fun D σ H => ∀ oe pn, ts a oe cls d pn D σ H) hs hf hN hi hln hc tk
    (fun W pn xe t p => pss_imp (hb W pn xe t p) fun D σ H q => q pn xe) (fun a oe cls d pn z f => pss_imp (hsu a oe cls d pn z f) fun D σ H q => q oe pn)
theorem iteNN {c A B : Prop} [Decidable c] (hc : ¬ c) (h : A) : if (!decide c) = true then A else B := by
  rw [decide_eq_false hc]
  exact iteT h
/-- a def whose promise wishes for nothing that is raised lets nothing out -/
theorem calm_of {P : Program} {w : World} {K : PySem.W.Frag} {mg : Str → Option Value} {base : Heap} {k : Nat} {f : Addr} {fd : FuncData} {ps : List Str} {sp : Sp} (F : FnOk P w K mg base (L2.CX P w) k f fd ps sp) (h : ∀ vs H Q E, sp vs H Q E → sp vs H Q fun _ _ _ => False) :
    FnOk P w K mg base CX0 k f fd ps sp := by
  refine ⟨F.len, fun A outer s H args us vs Q E hr he hb hv hs => ?_⟩
  refine codeAny_mono (F.run A outer s H args us vs Q _ hr he hb hv (h vs H Q E hs)) fun r s' hq => ?_
  cases r with
  | error e =>
    obtain ⟨_, _, _, _, _, _, _, _, _, _, _, _, z⟩ := hq
    exact z
  | ok fl =>
    cases fl with
    | ret u => exact hq
    | next => exact hq
    | brk => exact hq
    | cont => exact hq
/-! ### facts of the written part -/
inductive Fy where
  | fa (f : He.Fa)
  | clf (x m : Str)
  | tup (x : Str) (vs : List He.Dv)
  | prp (x f : Str)
  | prs (x f : Str)
def Fy.ok (K : PySem.W.Frag) : Fy → Bool
  | .fa f => f.ok K
  | .clf x m => PySem.W.readsIn K (He.ga K x) (.type "type") && (He.eqO (PySem.W.specialIn K (.ref (He.ga K x)) "__getattribute__") (some (some (.builtin "type.__getattribute__"))) &&
      ((match PySem.W.findCls K (.ref (He.ga K x)) (.type "type") m with
        | some (.val (.ref f)) => f == He.ma K (He.ga K x) m
        | _ => false) && PySem.W.keepIn K (.ref (He.ma K (He.ga K x) m))))
  | .prp x f => (He.Fa.cls x).ok K && (He.eqO (PySem.W.findIn K (.ref (He.ga K x)) f) (some (some (.ref (He.ma K (He.ga K x) f)))) && (He.eqO (PySem.W.specialIn K (.ref (He.ma K (He.ga K x) f)) "__get__") (some (some (.builtin "property.__get__"))) &&
      (decide (PySem.W.takesIn K (.ref (He.ma K (He.ga K x) f)) = some true) && (match PySem.W.recIn K (He.ma K (He.ga K x) f) "property" with
        | some (.ref g :: _) => g == pAd x f 0 K
        | _ => false))))
  | .prs x f => (He.Fa.cls x).ok K && (He.eqO (PySem.W.findIn K (.ref (He.ga K x)) f) (some (some (.ref (He.ma K (He.ga K x) f)))) && (decide (PySem.W.takesIn K (.ref (He.ma K (He.ga K x) f)) = some true) &&
      (He.eqO ((PySem.W.typeIn K (.ref (He.ma K (He.ga K x) f))).map some) (some (some (.type "property"))) && (match PySem.W.recIn K (He.ma K (He.ga K x) f) "property" with
        | some (_ :: .ref g :: _) => g == pAd x f 1 K
        | _ => false))))
  | .tup x vs => He.eqO (PySem.W.nsIn K mainGlobals x) (some (some (.ref (He.ga K x)))) && He.tupB K x vs
theorem Fy.clf_ok {K : PySem.W.Frag} {x m : Str} (c : (Fy.clf x m).ok K = true) : ClF K (He.ga K x) m (He.ma K (He.ga K x) m) := by
  obtain ⟨c1, c⟩ := He.ba c
  obtain ⟨c2, c⟩ := He.ba c
  obtain ⟨c3, c4⟩ := He.ba c
  refine ⟨c1, He.eqO_ok c2, ?_, c4⟩
  split at c3
  · rename_i f e
    rw [e, eq_of_beq c3]
  · cases c3
theorem Fy.prp_ok {K : PySem.W.Frag} {x f : Str} (c : (Fy.prp x f).ok K = true) : Cls K (He.ga K x) ∧ PropOf K (He.ga K x) f (He.ma K (He.ga K x) f) (pAd x f 0 K) := by
  obtain ⟨c0, c⟩ := He.ba c
  obtain ⟨c1, c⟩ := He.ba c
  obtain ⟨c2, c⟩ := He.ba c
  obtain ⟨c3, c4⟩ := He.ba c
  refine ⟨He.cls_ok c0, He.eqO_ok c1, He.eqO_ok c2, of_decide_eq_true c3, ?_⟩
  split at c4
  · rename_i g rest e
    exact ⟨rest, by rw [e, eq_of_beq c4]⟩
  · cases c4
/-- the class has the name as a property at p whose setter is the def at g -/
structure PropSet (K : PySem.W.Frag) (C : Addr) (f : Str) (p g : Addr) : Prop where
  tk : PySem.W.takerIn K C f = some (some (.ref p))
  ty : PySem.W.typeIn K (.ref p) = some (.type "property")
  rec_ : ∃ a rest, PySem.W.recIn K p "property" = some (a :: .ref g :: rest)
theorem Fy.prs_ok {K : PySem.W.Frag} {x f : Str} (c : (Fy.prs x f).ok K = true) : Cls K (He.ga K x) ∧ PropSet K (He.ga K x) f (He.ma K (He.ga K x) f) (pAd x f 1 K) := by
  obtain ⟨c0, c⟩ := He.ba c
  obtain ⟨c1, c⟩ := He.ba c
  obtain ⟨c2, c⟩ := He.ba c
  obtain ⟨c3, c4⟩ := He.ba c
  refine ⟨He.cls_ok c0, ?_, ?_, ?_⟩
  · unfold PySem.W.takerIn
    rw [He.eqO_ok c1]
    show (PySem.W.takesIn K _).map _ = _
    rw [of_decide_eq_true c2]
    rfl
  · have := He.eqO_ok c3
    cases e : PySem.W.typeIn K (.ref (He.ma K (He.ga K x) f)) with
    | none => rw [e] at this; cases this
    | some v => rw [e] at this; exact Option.some.inj this
  · split at c4
    · rename_i a g rest e
      exact ⟨a, rest, by rw [e, eq_of_beq c4]⟩
    · cases c4
theorem Fy.tup_ok {K : PySem.W.Frag} {x : Str} {vs : List He.Dv} {h : Heap} {mg : Str → Option Value} (X : K.In h) (G : h.Ns mainGlobals mg) (c : (Fy.tup x vs).ok K = true) : mg x = some (.ref (He.ga K x)) ∧ ∀ H : Hp, SqT K H (He.ga K x) (vs.map (He.Dv.v K)) := by
  obtain ⟨c1, c2⟩ := He.ba c
  exact ⟨PySem.W.mg_of X G (He.eqO_ok c1), fun H => He.tupB_ok c2 H⟩
/-! ### defs by names -/
def adG (x : Str) (s : Stmt) (dfl : List He.Dv := []) : AD := ⟨fun K => He.ga K x, x, x, defArgs s, defBody s, defScope s, dfl, []⟩
def adM (C m q : Str) (s : Stmt) (dfl : List He.Dv := []) : AD := ⟨fun K => He.ma K (He.ga K C) m, m, q, defArgs s, defBody s, defScope s, dfl, []⟩
def adP (C m q : Str) (i : Nat) (s : Stmt) : AD := ⟨pAd C m i, m, q, defArgs s, defBody s, defScope s, [], []⟩
theorem all_of {p : Fy → Bool} {l : List Fy} (h : l.all p = true) {f : Fy} (m : f ∈ l) : p f = true := List.all_eq_true.mp h f m
end M

namespace L2
open PySem PySem.Spec PyProof.Rows
/-! ### < of data -/
def rLtD (K : PySem.W.Frag) : R2 := fun x y H Q => ∃ d e, Dp K H x d ∧ Dp K H y e ∧ PySem.W.alike d e = true ∧ d ≠ .none ∧ d.depth ≤ 60 ∧ Q (.bl (PySem.W.dataLt d e)) H
section
variable {X : Cx}
theorem op_ltD (hu : X.A.units + 64 < cLine) : OpR X (compareOp .Lt) (rLtD X.K) := by
  intro pins s σ H x y v u Q I rx ry h
  obtain ⟨d, e, hd, he, al, nn, hz, q⟩ := h
  obtain ⟨as, r1⟩ := Dp.reads I d x v hd rx
  obtain ⟨bs, r2⟩ := Dp.reads I e y u he ry
  have z := PySem.W.rcLt_alike d e X.A s v u as bs r1 r2 al nn (by omega) X.prog X.w X.xe (EP X pins σ Q) ⟨.bl _, H, I, rfl, q⟩
  exact z
end
end L2
namespace M
open PySem PySem.Spec PyProof.Rows L2
/-! ### x in o, o of an own class -/
def tInOwn (P : Program) (w : World) (K : PySem.W.Frag) (mg : Str → Option Value) (base : Heap) (j : Nat) (neg : Bool) (W : WX) (ta tb : TE) : TE := fun σ H Q => ta σ H fun x H1 => tb σ H1 fun y H2 => ∃ (a C dx : Addr) (fs : List (Str × V)) (k : Nat) (ps : List Str) (sp : Sp), y = .ref a ∧ H2 a = some (.ins C dx fs) ∧
  Mth P w K mg base k C "__contains__" ps sp ∧ k ≤ j ∧ sp [.ref a, x] H2 (fun v H3 => ∃ b, v = .bl b ∧ Q (.bl (if neg then !b else b)) H3) (WE W σ)
section
variable {X : Cx} {j : Nat} {W : WX} {a b : Expr} {ta tb : TE}
theorem pc_own (hr : Room j X.A) (tk : Takes X W) (ha : PE X a ta) (hb : PE X b tb) : PC X .In a b (tInOwn X.prog X.w X.K X.mg X.base j false W ta tb) := by
  refine ⟨fun pins s σ H Q I h => ?_⟩
  refine thn (ha.run pins s σ H _ I h) fun v s1 ⟨x, H1, I1, rx, q1⟩ => thn (hb.run pins s1 σ H1 _ I1 q1) fun u s2 ⟨y, H2, I2, ry, o, C, dx, fs, k, ps, sp, ey, eo, G, hk, q⟩ => ?_
  subst ey
  obtain rfl : u = Value.ref o := ry
  obtain ⟨f, fd, hm, hbd, F⟩ := G.ex
  obtain ⟨mA, O, _, _, _, _⟩ := ins_get I2.hok eo
  obtain ⟨od, J, _⟩ := O.look
  obtain ⟨m, hF⟩ := I2.fr
  refine PySem.W.in_K hF I2.ok.mod.kin J hm.at_ hm.fn (wpAny_mono (run_fnS (us := [.ref o, v]) (vs := [.ref o, x]) (E := WE W) F (hr.mono hk) hbd (passAt tk σ) I2 (.cons rfl (.cons rx .nil)) q) (fun r s3 hq => ?_) fun _ _ z => z)
  obtain ⟨w', H3, I3, rw', b', eb, q3⟩ := hq
  subst eb
  cases rw'
  exact wpAny_truthy_bool ⟨.bl b', H3, I3, rfl, q3⟩
theorem pc_notOwn (hr : Room j X.A) (tk : Takes X W) (ha : PE X a ta) (hb : PE X b tb) : PC X .NotIn a b (tInOwn X.prog X.w X.K X.mg X.base j true W ta tb) := by
  refine ⟨fun pins s σ H Q I h => ?_⟩
  refine thn (ha.run pins s σ H _ I h) fun v s1 ⟨x, H1, I1, rx, q1⟩ => thn (hb.run pins s1 σ H1 _ I1 q1) fun u s2 ⟨y, H2, I2, ry, o, C, dx, fs, k, ps, sp, ey, eo, G, hk, q⟩ => ?_
  subst ey
  obtain rfl : u = Value.ref o := ry
  obtain ⟨f, fd, hm, hbd, F⟩ := G.ex
  obtain ⟨mA, O, _, _, _, _⟩ := ins_get I2.hok eo
  obtain ⟨od, J, _⟩ := O.look
  obtain ⟨m, hF⟩ := I2.fr
  refine PySem.W.notIn_K hF I2.ok.mod.kin J hm.at_ hm.fn (wpAny_mono (run_fnS (us := [.ref o, v]) (vs := [.ref o, x]) (E := WE W) F (hr.mono hk) hbd (passAt tk σ) I2 (.cons rfl (.cons rx .nil)) q) (fun r s3 hq => ?_) fun _ _ z => z)
  obtain ⟨w', H3, I3, rw', b', eb, q3⟩ := hq
  subst eb
  cases rw'
  exact wpAny_truthy_bool ⟨.bl (!b'), H3, I3, rfl, q3⟩
end
/-! ### e.f, a property that hands back a field g -/
structure Prp (P : Program) (w : World) (K : PySem.W.Frag) (mg : Str → Option Value) (base : Heap) (C : Addr) (f g : Str) : Prop where
  cl : Cls K C
  ex : ∃ (p ge : Addr) (fd : FuncData), PropOf K C f p ge ∧ Binds K fd ["self"] [] ∧ FnOk P w K mg base CX0 1 ge fd ["self"] (getSp C g)
theorem nox_pass {X : Cx} : Passes CX0 X.nox E0 := fun _ _ _ _ _ _ _ h => h.elim
def tPrp (C : Addr) (g : Str) (ta : TE) : TE := fun σ H Q => ta σ H fun x H1 => ∃ (a dx : Addr) (fs : List (Str × V)) (v : V), x = .ref a ∧ H1 a = some (.ins C dx fs) ∧ fs.lookup g = some v ∧ Q v H1
theorem pe_prp {X : Cx} {j : Nat} {C : Addr} {f g : Str} {e : Expr} {pos : Pos} {ta : TE} (G : Prp X.prog X.w X.K X.mg X.base C f g) (hr : Room j X.A) (he : PE X e ta) (hj : 2 ≤ j := by decide)
    (hab : attributeBase e f X.env (eval e X.env) = eval e X.env := by rfl) : PE X (.Attribute e f pos) (tPrp C g ta) := by
  obtain ⟨p, ge, fd, hp, hb, F⟩ := G.ex
  refine ⟨fun pins s σ H Q I h => ?_⟩
  refine attr_of hab (thn (he.run pins s σ H _ I h) fun u s1 ⟨x, H1, I1, rx, a, dx, fs, v, ex, ea, l, q⟩ => ?_)
  subst ex
  obtain rfl : u = Value.ref a := rx
  exact getprop_ok I1 ea G.cl hp F (hr.mono hj) hb .nil nox_pass ⟨a, dx, fs, v, rfl, ea, l, q⟩
theorem same_t {K : PySem.W.Frag} {H H' : Hp} {a : Addr} {xs : List V} (e : Same H H') (h : SqT K H a xs) : SqT K H' a xs := by
  rcases h with (h | ⟨o, h⟩) | h
  · exact .inl (.inl (e _ _ h))
  · exact .inl (.inr ⟨o, e _ _ h⟩)
  · exact .inr h
mutual
theorem dp_same {K : PySem.W.Frag} {H H' : Hp} (e : Same H H') : ∀ {v : V} {d : PyData}, Dp K H v d → Dp K H' v d
  | _, _, .non => .non
  | _, _, .bl b => .bl b
  | _, _, .int i => .int i
  | _, _, .str x => .str x
  | _, _, .lst h r => .lst (e.seq h) (dpAll_same e r)
  | _, _, .tup h r => .tup (same_t e h) (dpAll_same e r)
theorem dpAll_same {K : PySem.W.Frag} {H H' : Hp} (e : Same H H') : ∀ {vs : List V} {ds : List PyData}, DpAll K H vs ds → DpAll K H' vs ds
  | _, _, .nil => .nil
  | _, _, .cons h r => .cons (dp_same e h) (dpAll_same e r)
end
/-! ### the order of data, for lists of alike rows -/
def ltP (p q : V × PyData) : Bool := PySem.W.dataLt p.2 q.2
/-! ### ascending: rows put in their places one by one -/
section
variable {α : Type} (lt : α → α → Bool)
/-- behind the last one that it isn't less than: l read from its end -/
def insR (x : α) : List α → List α
  | [] => [x]
  | e :: r => if lt x e then e :: insR x r else x :: e :: r
/-- the rows in ascending order (l is kept turned round) -/
def asc (l : List α) : List α := (l.foldl (fun acc x => insR lt x acc) []).reverse
theorem insR_perm (x : α) : ∀ l : List α, (insR lt x l).Perm (x :: l)
  | [] => .refl _
  | e :: r => by
    unfold insR
    split
    · exact ((insR_perm x r).cons e).trans (List.Perm.swap x e r)
    · exact .refl _
theorem asc_fold_perm : ∀ (l acc : List α), (l.foldl (fun acc x => insR lt x acc) acc).Perm (l ++ acc)
  | [], acc => .refl _
  | x :: l, acc => by
    rw [List.foldl_cons]
    refine (asc_fold_perm l _).trans ?_
    refine ((insR_perm lt x acc).append_left l).trans ?_
    exact List.perm_middle
theorem asc_perm (l : List α) : (asc lt l).Perm l := by
  unfold asc
  refine (List.reverse_perm _).trans ?_
  have := asc_fold_perm lt l []
  rwa [List.append_nil] at this
theorem asc_len (l : List α) : (asc lt l).length = l.length := (asc_perm lt l).length_eq
/-- a strict order on what the list holds -/
structure Ord (S : α → Prop) : Prop where
  irr : ∀ a, S a → lt a a = false
  tr : ∀ a b c, S a → S b → S c → lt a b = true → lt b c = true → lt a c = true
  tot : ∀ a b, S a → S b → lt a b = true ∨ a = b ∨ lt b a = true
variable {lt}
/-- from the end: no one is less than the next -/
def Down (lt : α → α → Bool) (l : List α) : Prop := l.Pairwise fun a b => lt a b = false
theorem Ord.nlt_tr {S : α → Prop} (O : Ord lt S) {a b c : α} (ha : S a) (hb : S b) (hc : S c) (h1 : lt a b = false) (h2 : lt b c = false) : lt a c = false := by
  cases e : lt a c with
  | false => rfl
  | true =>
    rcases O.tot b c hb hc with h | h | h
    · rw [h] at h2; cases h2
    · rw [← h, h1] at e; cases e
    · have := O.tr a c b ha hc hb e h
      rw [this] at h1; cases h1
theorem insR_down {S : α → Prop} (O : Ord lt S) {x : α} (hx : S x) : ∀ {l : List α}, (∀ a ∈ l, S a) → Down lt l → Down lt (insR lt x l)
  | [], _, _ => by unfold insR Down; exact List.pairwise_singleton _ _
  | e :: r, hs, d => by
    have d' := List.pairwise_cons.mp d
    have he := hs e List.mem_cons_self
    unfold insR
    split
    · rename_i h
      refine List.pairwise_cons.mpr ⟨fun b hb => ?_, insR_down O hx (fun a ha => hs a (List.mem_cons_of_mem _ ha)) d'.2⟩
      rcases List.mem_cons.mp ((insR_perm lt x r).mem_iff.mp hb) with e1 | hb
      · subst e1
        cases q : lt e b with
        | false => rfl
        | true =>
          have := O.tr b e b hx he hx h q
          rw [O.irr b hx] at this; cases this
      · exact d'.1 b hb
    · rename_i h
      have h0 : lt x e = false := by simpa using h
      refine List.pairwise_cons.mpr ⟨fun b hb => ?_, d⟩
      rcases List.mem_cons.mp hb with e1 | hb
      · rw [e1]; exact h0
      · exact O.nlt_tr hx he (hs b (List.mem_cons_of_mem _ hb)) h0 (d'.1 b hb)
theorem asc_fold_down {S : α → Prop} (O : Ord lt S) : ∀ {l acc : List α}, (∀ a ∈ l, S a) → (∀ a ∈ acc, S a) → Down lt acc → Down lt (l.foldl (fun acc x => insR lt x acc) acc)
  | [], _, _, _, d => d
  | x :: l, acc, hl, ha, d => by
    rw [List.foldl_cons]
    refine asc_fold_down O (fun a h => hl a (List.mem_cons_of_mem _ h)) (fun a h => ?_) (insR_down O (hl x List.mem_cons_self) ha d)
    rcases List.mem_cons.mp ((insR_perm lt x acc).mem_iff.mp h) with e | h
    · rw [e]; exact hl x List.mem_cons_self
    · exact ha a h
/-- ascending: no later one is less than an earlier one -/
theorem asc_up {S : α → Prop} (O : Ord lt S) {l : List α} (hl : ∀ a ∈ l, S a) : (asc lt l).Pairwise fun a b => lt b a = false := by
  unfold asc
  exact List.pairwise_reverse.mpr (asc_fold_down O hl (fun _ h => by cases h) List.Pairwise.nil)
/-- two ascending lists of the same things are one -/
theorem up_unique {S : α → Prop} (O : Ord lt S) : ∀ {l m : List α}, (∀ a ∈ l, S a) → l.Perm m → (l.Pairwise fun a b => lt b a = false) → (m.Pairwise fun a b => lt b a = false) → l = m
  | [], m, _, p, _, _ => (List.Perm.nil_eq p)
  | a :: l, [], _, p, _, _ => absurd p.length_eq (by simp)
  | a :: l, b :: m, hs, p, d1, d2 => by
    have e1 := List.pairwise_cons.mp d1
    have e2 := List.pairwise_cons.mp d2
    have ha := hs a List.mem_cons_self
    have hb : S b := hs b (p.mem_iff.mpr List.mem_cons_self)
    have eab : a = b := by
      rcases List.mem_cons.mp (p.mem_iff.mp (List.mem_cons_self (a := a))) with e | h
      · exact e
      · have h1 := e2.1 a h
        rcases List.mem_cons.mp (p.mem_iff.mpr (List.mem_cons_self (a := b))) with e | h'
        · exact e.symm
        · have h2 := e1.1 b h'
          rcases O.tot a b ha hb with z | z | z
          · rw [z] at h1; cases h1
          · exact z
          · rw [z] at h2; cases h2
    subst eab
    rw [up_unique O (fun x hx => hs x (List.mem_cons_of_mem _ hx)) (List.Perm.cons_inv p) e1.2 e2.2]
end
theorem insR_split {α : Type} {lt : α → α → Bool} {x : α} : ∀ {l m : List α}, (∀ e ∈ l, lt x e = true) → (∀ e r, m = e :: r → lt x e = false) → insR lt x (l ++ m) = l ++ x :: m
  | [], [], _, _ => rfl
  | [], e :: r, _, h => by
    show (if lt x e then e :: insR lt x r else x :: e :: r) = _
    rw [h e r rfl]
    rfl
  | e :: l, m, h1, h2 => by
    show (if lt x e then e :: insR lt x (l ++ m) else x :: e :: (l ++ m)) = _
    rw [h1 e List.mem_cons_self, insR_split (fun a ha => h1 a (List.mem_cons_of_mem _ ha)) h2]
    rfl
/-! ### texts in order -/
def ltS (a b : Str) : Bool := decide (a.cps.toList < b.cps.toList)
theorem str_ext {x y : Str} (h : x.cps.toList = y.cps.toList) : x = y := by
  cases x; cases y
  simp only [Str.mk.injEq]
  exact Array.ext' h
theorem ordS : Ord ltS (fun _ => True) where
  irr := fun a _ => decide_eq_false (List.lt_irrefl _)
  tr := fun a b c _ _ _ h1 h2 => decide_eq_true (List.lt_trans (of_decide_eq_true h1) (of_decide_eq_true h2))
  tot := fun a b _ _ => by
    by_cases h : a.cps.toList < b.cps.toList
    · exact .inl (decide_eq_true h)
    · by_cases h2 : b.cps.toList < a.cps.toList
      · exact .inr (.inr (decide_eq_true h2))
      · exact .inr (.inl (str_ext (List.le_antisymm (List.not_lt.mp h2) (List.not_lt.mp h))))
end M

namespace M
open PySem PySem.Spec PyProof.Rows L2
/-! ### lists of texts -/
theorem insR_map {α β : Type} {lt : α → α → Bool} {lt2 : β → β → Bool} {f : α → β} (h : ∀ a b, lt2 (f a) (f b) = lt a b) (x : α) : ∀ l : List α, insR lt2 (f x) (l.map f) = (insR lt x l).map f
  | [] => rfl
  | e :: r => by
    show (if lt2 (f x) (f e) then f e :: insR lt2 (f x) (r.map f) else f x :: f e :: r.map f) = (if lt x e then e :: insR lt x r else x :: e :: r).map f
    rw [h, insR_map h x r]
    split <;> rfl
theorem asc_foldmap {α β : Type} {lt : α → α → Bool} {lt2 : β → β → Bool} {f : α → β} (h : ∀ a b, lt2 (f a) (f b) = lt a b) : ∀ l acc : List α, (l.map f).foldl (fun acc x => insR lt2 x acc) (acc.map f) = (l.foldl (fun acc x => insR lt x acc) acc).map f
  | [], _ => rfl
  | x :: r, acc => by
    show (r.map f).foldl _ (insR lt2 (f x) (acc.map f)) = _
    rw [insR_map h x acc]
    exact asc_foldmap h r _
theorem asc_map {α β : Type} {lt : α → α → Bool} {lt2 : β → β → Bool} {f : α → β} (h : ∀ a b, lt2 (f a) (f b) = lt a b) (l : List α) : asc lt2 (l.map f) = (asc lt l).map f := by
  unfold asc
  rw [List.map_reverse, ← asc_foldmap h l []]
  rfl
/-- the texts ascending -/
def upS (l : List Str) : List Str := asc ltS l
def dS (s : Str) : V × PyData := (.str s, .str s)
theorem ltP_dS (a b : Str) : ltP (dS a) (dS b) = ltS a b := PySem.W.dataLt_str a b
theorem asc_dS (l : List Str) : (asc ltP (l.map dS)).map (·.1) = (upS l).map V.str := by
  rw [asc_map (lt := ltS) ltP_dS, List.map_map]
  rfl
theorem upS_perm (l : List Str) : (upS l).Perm l := asc_perm ltS l
theorem risingS_all : ∀ (r : List Str) (p : Str), risingS p r = true → (p :: r).Pairwise fun a b => ltS b a = false
  | [], p, _ => List.pairwise_singleton _ _
  | x :: r, p, h => by
    have h' : (!ltCps x.cps.toList p.cps.toList && risingS x r) = true := h
    rw [Bool.and_eq_true] at h'
    have i := risingS_all r x h'.2
    have e1 : ltS x p = false := by
      have := h'.1
      rw [ltCps_eq] at this
      unfold ltS
      simpa using this
    refine List.pairwise_cons.mpr ⟨fun y hy => ?_, i⟩
    rcases List.mem_cons.mp hy with rfl | hy
    · exact e1
    · have e2 := (List.pairwise_cons.mp i).1 y hy
      exact Ord.nlt_tr ordS trivial trivial trivial e2 e1
theorem sortedS_up {l : List Str} (h : sortedS l = true) : l.Pairwise fun a b => ltS b a = false := by
  cases l with
  | nil => exact .nil
  | cons x r => exact risingS_all r x h
theorem sortedS_eq {ys xs : List Str} (p : ys.Perm xs) (h : sortedS ys = true) : ys = upS xs :=
  up_unique ordS (fun _ _ => trivial) (p.trans (upS_perm xs).symm) (sortedS_up h) (asc_up ordS fun _ _ => trivial)
theorem inV_strs (x : Str) (l : List Str) : inV (.str x) (l.map V.str) = decide (x ∈ l) := by
  unfold inV
  rw [List.any_map, Bool.eq_iff_iff, List.any_eq_true, decide_eq_true_iff]
  constructor
  · rintro ⟨y, hy, e⟩
    have e' : eqV (.str y) (.str x) = true := e
    have : y = x := by simpa [eqV] using e'
    rw [← this]; exact hy
  · intro h
    exact ⟨x, h, by simp [eqV]⟩
theorem flat_strs (l : List Str) : (l.map V.str).all flatV = true := by
  rw [List.all_map, List.all_eq_true]
  exact fun _ _ => rfl
theorem dp_strs {K : PySem.W.Frag} {H : Hp} : ∀ l : List Str, DpAll K H (l.map V.str) (l.map PyData.str)
  | [] => .nil
  | x :: l => .cons (.str x) (dp_strs l)
theorem dp_strL {K : PySem.W.Frag} {H : Hp} {a : Addr} {l : List Str} (h : SqL K H a (l.map V.str)) : Dp K H (.ref a) (.list (l.map .str)) := .lst h (dp_strs l)
theorem eqv_strs : ∀ l m : List Str, PyData.eqvAll (l.map .str) (m.map .str) = decide (l = m)
  | [], [] => by simp [PyData.eqvAll]
  | [], _ :: _ => by simp [PyData.eqvAll]
  | _ :: _, [] => by simp [PyData.eqvAll]
  | x :: l, y :: m => by
    show PyData.eqvAll (PyData.str x :: l.map .str) (PyData.str y :: m.map .str) = _
    rw [PyData.eqvAll, eqv_strs l m]
    have e : PyData.eqv (.str x) (.str y) = decide (x = y) := by
      rw [PyData.eqv]
      by_cases h : x = y
      · rw [h, decide_eq_true rfl]; exact beq_self_eq_true y
      · rw [decide_eq_false h]; exact beq_false_of_ne h
    rw [e]
    by_cases h1 : x = y <;> by_cases h2 : l = m <;> simp [h1, h2]
theorem eqv_strL (l m : List Str) : PyData.eqv (.list (l.map .str)) (.list (m.map .str)) = decide (l = m) := by
  rw [← eqv_strs l m, PyData.eqv]
theorem eqS_self (l : List Str) : PyData.eqv (.list (l.map .str)) (.list (l.map .str)) = true := by rw [eqv_strL, decide_eq_true rfl]
theorem canlay_strs : ∀ l : List Str, (∀ x ∈ l, PyData.strOk x = true) → PyData.canLayAll0 (l.map PyData.str) = true
  | [], _ => rfl
  | x :: l, h => by
    show PyData.canLayAll0 (PyData.str x :: l.map .str) = true
    rw [PyData.canLayAll0, canlay_strs l fun y hy => h y (List.mem_cons_of_mem _ hy), PyData.canLay0, h x List.mem_cons_self]
    rfl
theorem depth_strs : ∀ l : List Str, PyData.depthAll (l.map PyData.str) ≤ 1
  | [] => by rw [List.map_nil, PyData.depthAll]; decide
  | x :: l => by
    show PyData.depthAll (PyData.str x :: l.map .str) ≤ 1
    rw [PyData.depthAll, PyData.depth]
    have := depth_strs l
    omega
theorem shaped_strL (l : List Str) (h : ∀ x ∈ l, PyData.strOk x = true) : SeqAt.shaped (.list (l.map PyData.str)) = true := by
  unfold SeqAt.shaped
  rw [PyData.canLay0, PyData.depth, canlay_strs l h, decide_eq_true (by have := depth_strs l; omega)]
  rfl
theorem tYes_if {σ : L2.St} {H : Hp} {A B : Hp → Prop} (h : A H) : tYes σ H (fun b H3 => if b = true then A H3 else B H3) := h
theorem nmC_lt {d n k : Nat} : ∀ c ∈ nmC d n k, c < 128 := by
  have hl : ∀ j, ltr d j < 128 := fun j => by
    unfold ltr
    have := Nat.mod_lt (d / 4 % 26 + 7 * j) (show 26 > 0 by decide)
    omega
  intro c hc
  unfold nmC at hc
  split at hc
  · rw [List.mem_singleton.mp hc]; exact hl _
  split at hc
  · simp only [List.mem_append, List.mem_singleton, List.mem_replicate] at hc
    rcases hc with ⟨_, rfl⟩ | rfl | ⟨_, rfl⟩ <;> first | exact hl _ | decide
  split at hc
  · rw [(List.mem_replicate.mp hc).2]; have := Nat.mod_lt (d / 4) (show 26 > 0 by decide); omega
  · rcases List.mem_cons.mp hc with rfl | hc
    · exact hl _
    · have h2 := List.mem_of_mem_take hc
      have h3 : ∀ c ∈ tailZ, c < 128 := by decide
      exact h3 c h2
theorem nm_strOk (d n k : Nat) : PyData.strOk (nm d n k) = true := by
  unfold PyData.strOk nm
  rw [Array.all_eq_true']
  intro c hc
  have := nmC_lt (d := d) (n := n) (k := k) c (by simpa using hc)
  exact decide_eq_true (by omega)
theorem nmL_ok {d n : Nat} : ∀ x ∈ nmL d n, PyData.strOk x = true := fun x hx => by
  obtain ⟨k, _, rfl⟩ := List.mem_map.mp hx
  exact nm_strOk d n k
/-! ### a statement whose ends meet: J is what holds behind it -/
def tJ (t : TS) : TS := fun D σ H => ∃ J : L2.St → Hp → Prop, t { D with nx := J } σ H ∧ ∀ σ' H', J σ' H' → D.nx σ' H'
theorem ps_j {X : Cx} {st : Stmt} {t : TS} (h : PS X st t) : PS X st (tJ t) := by
  refine ⟨fun pins s σ H D I hw => ?_⟩
  obtain ⟨J, h1, h2⟩ := hw
  refine thn (h.run pins s σ H { D with nx := J } I h1) fun fl s' q => ?_
  cases fl with
  | next =>
    obtain ⟨σ', H', I', z⟩ := q
    exact ⟨σ', H', I', h2 _ _ z⟩
  | ret u => exact q
  | brk => exact q
  | cont => exact q
/-! ### built-in names that the text leaves free -/
def bnames : List Str := ["abs", "int", "len", "range", "list", "str", "sorted", "isinstance", "tuple", "enumerate", "dict", "set", "bool", "min", "max", "sum", "any", "all", "zip", "reversed", "ValueError", "type"]
structure Bj (mg : Str → Option Value) : Prop extends Bi mg where
  list : mg "list" = none
  str : mg "str" = none
  sorted : mg "sorted" = none
  isinstance : mg "isinstance" = none
  tuple : mg "tuple" = none
  enumerate : mg "enumerate" = none
  dict : mg "dict" = none
  set : mg "set" = none
  bool : mg "bool" = none
  min : mg "min" = none
  max : mg "max" = none
  sum : mg "sum" = none
  any : mg "any" = none
  all : mg "all" = none
  zip : mg "zip" = none
  reversed : mg "reversed" = none
  ValueError : mg "ValueError" = none
  type : mg "type" = none
theorem Bj.of {mg : Str → Option Value} (h : ∀ x ∈ bnames, mg x = none) : Bj mg := by
  constructor
  · constructor <;> exact h _ (by simp [bnames])
  all_goals exact h _ (by simp [bnames])
end M

namespace M
open PySem PySem.Spec PyProof.Rows L2
local macro_rules | `(tactic| walk_at "go") => `(tactic| repeat (first | refine ⟨_, rfl, ?_⟩ | refine ⟨rfl, ?_⟩ | refine ⟨_, _, rfl, rfl, ?_⟩ | refine .inl ⟨_, rfl, ?_⟩ | refine .inr ⟨_, rfl, ?_⟩ | refine ⟨.inl ⟨rfl, _, SqL.of (by assumption)⟩, ?_⟩ | refine ⟨_, _, _, rfl, rfl, (by assumption), ?_⟩ | refine ⟨⟨by decide, by decide, by decide⟩, ?_⟩ | refine ⟨⟨by decide, by decide⟩, ?_⟩ | refine ⟨.inr ⟨by decide, by decide⟩, ?_⟩ | refine ⟨.inl ⟨by decide, by decide⟩, ?_⟩ | refine ⟨by decide, ?_⟩ | refine ⟨(by show (_ : Int) ≠ (0 : Int); decide), ?_⟩))
local macro_rules | `(tactic| walk_at "at") => `(tactic| first | assumption | (refine LS.at_ (by assumption) ?_; walk_at "at") | (refine Same.ap (by assumption) ?_; walk_at "at"))
def top (i : Nat) : Stmt := PySem.Challenge.pw_latebridges_k33_chains.main.body.getD i (.Pass ⟨0, 0, 0, 0⟩)

abbrev sDraws : Stmt := (top 34)
abbrev sTake : Stmt := (top 35)
abbrev sNames : Stmt := (top 36)
abbrev sCn : Stmt := (top 21)
abbrev sKn : Stmt := (top 22)
def abc : Str := "abcdefghijklmnopqrstuvwxyz"
abbrev sCk : Stmt := (top 14)
abbrev sEnI : Stmt := (inClass (top 15) 0)
abbrev sLoI : Stmt := (inClass (top 16) 0)
abbrev sChI : Stmt := (inClass (top 17) 0)
abbrev sCs : Stmt := (top 23)
abbrev sCc : Stmt := (top 24)
abbrev sItI : Stmt := (inClass (top 31) 0)
abbrev sHm : Stmt := (top 25)
abbrev sWb : Stmt := (top 26)
abbrev sBr : Stmt := (top 27)
abbrev sPlI : Stmt := (inClass (top 32) 0)
abbrev sAsc : Stmt := (top 13)
abbrev sLoC : Stmt := (inClass (top 16) 1)
abbrev sLoR : Stmt := (inClass (top 16) 2)
abbrev sChG : Stmt := (inClass (top 17) 1)
abbrev sRw : Stmt := (inClass (top 32) 18)
abbrev sSo : Stmt := (top 37)
abbrev sTd : Stmt := (top 38)
abbrev sChn : Stmt := (inClass (top 32) 1)
abbrev sChd : Stmt := (top 39)
abbrev sLaw : Stmt := (top 40)
/-! ### the exception class BadName -/
abbrev sIBadName : Stmt := (inClass (top 3) 0)
theorem iBadName : PySem.XEx.IText ["name"] (defArgs sIBadName) (defBody sIBadName) (defScope sIBadName) :=
  { bd := ⟨_, _, _, _, _, _, _, _, _, rfl, (.cons .nil), rfl⟩, hks := by decide +kernel, hkc := by decide +kernel, hself := by decide +kernel, hf := by decide +kernel, hcell := by decide +kernel, hco := rfl, hgen := rfl, hk := rfl, hp := ⟨_, rfl, rfl⟩,
    bind := fun name qual cl kV doc pm an cdv ct us hl => match us, hl with | [_, _], _ => rfl, nd := by decide +kernel, len := by decide }
abbrev xdBadName : XD := ⟨"BadName", ["name"], defArgs sIBadName, defBody sIBadName, defScope sIBadName⟩

/-! ### the exception class Taken -/
abbrev sITaken : Stmt := (inClass (top 4) 0)
theorem iTaken : PySem.XEx.IText ["name"] (defArgs sITaken) (defBody sITaken) (defScope sITaken) :=
  { bd := ⟨_, _, _, _, _, _, _, _, _, rfl, (.cons .nil), rfl⟩, hks := by decide +kernel, hkc := by decide +kernel, hself := by decide +kernel, hf := by decide +kernel, hcell := by decide +kernel, hco := rfl, hgen := rfl, hk := rfl, hp := ⟨_, rfl, rfl⟩,
    bind := fun name qual cl kV doc pm an cdv ct us hl => match us, hl with | [_, _], _ => rfl, nd := by decide +kernel, len := by decide }
abbrev xdTaken : XD := ⟨"Taken", ["name"], defArgs sITaken, defBody sITaken, defScope sITaken⟩

/-! ### the exception class Unknown -/
abbrev sIUnknown : Stmt := (inClass (top 5) 0)
theorem iUnknown : PySem.XEx.IText ["name"] (defArgs sIUnknown) (defBody sIUnknown) (defScope sIUnknown) :=
  { bd := ⟨_, _, _, _, _, _, _, _, _, rfl, (.cons .nil), rfl⟩, hks := by decide +kernel, hkc := by decide +kernel, hself := by decide +kernel, hf := by decide +kernel, hcell := by decide +kernel, hco := rfl, hgen := rfl, hk := rfl, hp := ⟨_, rfl, rfl⟩,
    bind := fun name qual cl kV doc pm an cdv ct us hl => match us, hl with | [_, _], _ => rfl, nd := by decide +kernel, len := by decide }
abbrev xdUnknown : XD := ⟨"Unknown", ["name"], defArgs sIUnknown, defBody sIUnknown, defScope sIUnknown⟩

/-! ### the exception class BadChannel -/
abbrev sIBadChannel : Stmt := (inClass (top 6) 0)
theorem iBadChannel : PySem.XEx.IText ["name"] (defArgs sIBadChannel) (defBody sIBadChannel) (defScope sIBadChannel) :=
  { bd := ⟨_, _, _, _, _, _, _, _, _, rfl, (.cons .nil), rfl⟩, hks := by decide +kernel, hkc := by decide +kernel, hself := by decide +kernel, hf := by decide +kernel, hcell := by decide +kernel, hco := rfl, hgen := rfl, hk := rfl, hp := ⟨_, rfl, rfl⟩,
    bind := fun name qual cl kV doc pm an cdv ct us hl => match us, hl with | [_, _], _ => rfl, nd := by decide +kernel, len := by decide }
abbrev xdBadChannel : XD := ⟨"BadChannel", ["name"], defArgs sIBadChannel, defBody sIBadChannel, defScope sIBadChannel⟩

/-! ### the exception class BadKind -/
abbrev sIBadKind : Stmt := (inClass (top 7) 0)
theorem iBadKind : PySem.XEx.IText ["kind"] (defArgs sIBadKind) (defBody sIBadKind) (defScope sIBadKind) :=
  { bd := ⟨_, _, _, _, _, _, _, _, _, rfl, (.cons .nil), rfl⟩, hks := by decide +kernel, hkc := by decide +kernel, hself := by decide +kernel, hf := by decide +kernel, hcell := by decide +kernel, hco := rfl, hgen := rfl, hk := rfl, hp := ⟨_, rfl, rfl⟩,
    bind := fun name qual cl kV doc pm an cdv ct us hl => match us, hl with | [_, _], _ => rfl, nd := by decide +kernel, len := by decide }
abbrev xdBadKind : XD := ⟨"BadKind", ["kind"], defArgs sIBadKind, defBody sIBadKind, defScope sIBadKind⟩

/-! ### the exception class TwoWays -/
abbrev sITwoWays : Stmt := (inClass (top 8) 0)
theorem iTwoWays : PySem.XEx.IText ["item", "site"] (defArgs sITwoWays) (defBody sITwoWays) (defScope sITwoWays) :=
  { bd := ⟨_, _, _, _, _, _, _, _, _, rfl, (.cons (.cons .nil)), rfl⟩, hks := by decide +kernel, hkc := by decide +kernel, hself := by decide +kernel, hf := by decide +kernel, hcell := by decide +kernel, hco := rfl, hgen := rfl, hk := rfl, hp := ⟨_, rfl, rfl⟩,
    bind := fun name qual cl kV doc pm an cdv ct us hl => match us, hl with | [_, _, _], _ => rfl, nd := by decide +kernel, len := by decide }
abbrev xdTwoWays : XD := ⟨"TwoWays", ["item", "site"], defArgs sITwoWays, defBody sITwoWays, defScope sITwoWays⟩

/-! ### the exception class NotHeld -/
abbrev sINotHeld : Stmt := (inClass (top 9) 0)
theorem iNotHeld : PySem.XEx.IText ["item", "site"] (defArgs sINotHeld) (defBody sINotHeld) (defScope sINotHeld) :=
  { bd := ⟨_, _, _, _, _, _, _, _, _, rfl, (.cons (.cons .nil)), rfl⟩, hks := by decide +kernel, hkc := by decide +kernel, hself := by decide +kernel, hf := by decide +kernel, hcell := by decide +kernel, hco := rfl, hgen := rfl, hk := rfl, hp := ⟨_, rfl, rfl⟩,
    bind := fun name qual cl kV doc pm an cdv ct us hl => match us, hl with | [_, _, _], _ => rfl, nd := by decide +kernel, len := by decide }
abbrev xdNotHeld : XD := ⟨"NotHeld", ["item", "site"], defArgs sINotHeld, defBody sINotHeld, defScope sINotHeld⟩

/-! ### the head -/
def kindsDv : List He.Dv := [.str "whole", .str "itemwise", .str "split", .str "overtaking", .str "passing"]
def adS (C m q : Str) (s : Stmt) : AD := ⟨fun K => He5.wf K (He.ga K C) "staticmethod" m, m, q, defArgs s, defBody s, defScope s, [], []⟩
def fn : List AD := [adG "_law_draws" sDraws, adG "_law_take" sTake, adG "_law_names" sNames, adG "check_name" sCn, adG "check_known" sKn, adG "checked_sites" sCs, adG "check_kind" sCk, adG "check_channel" sCc, adG "homes_of" sHm, adG "way_back" sWb, adG "bringers_of" sBr, adM "Ends" "__init__" "Ends.__init__" sEnI, adM "Load" "__init__" "Load.__init__" sLoI, adM "Item" "__init__" "Item.__init__" sItI, adM "Channel" "__init__" "Channel.__init__" sChI, adM "Placement" "__init__" "Placement.__init__" sPlI [.adr (He.dflAt ("Placement", some "__init__") 0), .adr (He.dflAt ("Placement", some "__init__") 1), .adr (He.dflAt ("Placement", some "__init__") 2)], adG "ascending" sAsc, adM "Channel" "carried" "Load.carried" sLoR, adM "Placement" "rows" "Placement.rows" sRw, adG "_law_sorted" sSo, adG "_law_told" sTd, adS "Placement" "chain" "Placement.chain" sChn, adG "_law_chained" sChd, adG "law" sLaw]
def xs : List XD := [xdBadName, xdTaken, xdUnknown, xdBadChannel, xdBadKind, xdTwoWays, xdNotHeld]
def fyG : List Str := [("_law_draws" : Str), ("_law_take" : Str), ("_law_names" : Str), ("check_name" : Str), ("check_known" : Str), ("checked_sites" : Str), ("check_kind" : Str), ("check_channel" : Str), ("homes_of" : Str), ("way_back" : Str), ("bringers_of" : Str), ("ascending" : Str), ("_law_sorted" : Str), ("_law_told" : Str), ("_law_chained" : Str), ("law" : Str), ("Item" : Str), ("Ends" : Str), ("Load" : Str), ("Channel" : Str), ("Placement" : Str)]
def fy : List Fy := fyG.map (fun x => .fa (.glo x)) ++ (bnames.map (fun x => .fa (.free x)) ++ [.tup "KINDS" kindsDv, .fa (.str "LETTERS" abc), .fa (.int "LONGEST" 8), .fa (.exm "Taken" "BadName" false), .fa (.exm "BadKind" "BadName" false), .fa (.exm "BadKind" "Taken" false), .clf "Placement" "rows", .fa (.cls "Item"), .fa (.cls "Channel"), .fa (.cls "Placement"), .fa (.noat "Item" "owner"), .fa (.noat "Item" "name"), .fa (.noat "Item" "seat"), .fa (.noat "Channel" "source"), .fa (.noat "Channel" "target"), .fa (.noat "Channel" "names"), .fa (.noat "Channel" "name"), .fa (.noat "Channel" "kind"), .fa (.noat "Placement" "places"), .fa (.noat "Placement" "seats"), .fa (.noat "Placement" "lines"), .fa (.noat "Placement" "bringers"), .fa (.mkr "Item"), .fa (.mkr "Channel"), .fa (.mkr "Placement"), .fa (.meth "Channel" "carried"), .fa (.meth "Placement" "rows"), .clf "Ends" "__init__", .clf "Load" "__init__"])
def fb (K : PySem.W.Frag) : Bool := fy.all (Fy.ok K) && (He5.wrapB K (He.ga K "Placement") "staticmethod" "staticmethod.__get__" "chain")
abbrev R : PySem.W.OpenRow := PySem.W.OpenLaw.row PySem.Challenge.rw_latebridges_k33_chains
abbrev hk : PySem.W.Hook := hookM R.prog 5 fb fn xs
def ob (s : PySem.W.SharedT) : AlM := obsMG R.prog 5 fb fn xs (HandSHeadRun.getT s)
theorem ob_eq (s : PySem.W.SharedT) : ob s = hk.obs s.abs := obsMG_eq (HandSHeadRun.getT_eq s)
def loose : List Str := (["_wall","PlacementError","BadName","Taken","Unknown","BadChannel","BadKind","TwoWays","NotHeld","Mismatch"] : List Str) ++ (["KINDS","ascending","check_kind","Ends","Load","Channel","LETTERS","LONGEST","check_name","check_known"] : List Str) ++ (["checked_sites","check_channel","homes_of","way_back","bringers_of","matches","check_match","pruned","Item","Placement"] : List Str) ++ (["_law_draws","_law_take","_law_names","_law_sorted","_law_told","_law_chained"] : List Str)
set_option maxHeartbeats 0 in
theorem run (w : World) : HandSHeadRun.RunEq R (PySem.W.view R.prog [40]) hk ob 20000 loose w := by
  intro os
  kernel_rfl

end M
namespace M
open PySem PySem.Spec PyProof.Rows L2 PySem.XEx
/-! ### own exceptions as values -/
/-- an exception object of the class at C with the own dict d, at a -/
def XV (C : Addr) (d : Option Addr) (a : Addr) : HO := .ext fun h => ∃ (oe : Obj) (vs : Array Value), h.get? a = some oe ∧ Zc (.ref C) d oe ∧ oe.data = .fields vs
theorem xv_ok {P : Program} {w : World} {H : Hp} {h : Heap} {a C : Addr} {d : Option Addr} {oe : Obj} {vs : Array Value} (e : h.get? a = some oe) (z : Zc (.ref C) d oe) (hd : oe.data = .fields vs) : ObjOk P w H h a (XV C d a) :=
  ⟨⟨oe, vs, e, z, hd⟩, ⟨oe, e⟩, fun _ _ ⟨o, v, q, r⟩ k => ⟨o, v, k o q, r⟩⟩
def tMkV (C : Addr) (fs : List Str) (ta : TA) : TE := fun σ H Q => ta σ H fun vs H1 => vs.length = fs.length ∧ (fs = [] → ∀ a, H1 a = none → Q (.ref a) (upd H1 a (XV C none a))) ∧
  (fs ≠ [] → ∀ d a, H1 d = none → H1 a = none → a ≠ d → Q (.ref a) (upd (upd H1 d (.xd (fs.zip vs).reverse)) a (XV C (some d) a)))
section
variable {X : Cx} {C : Addr} {fs : List Str} {params : Arguments} {body : List Stmt} {scope : Scope} {k : Nat}
theorem run_mkv {pins : List (Addr × Obj)} {σ : L2.St} {H : Hp} {s : Shared} {Q : VK} {us : List Value} {vs : List V} (T : XCls X.prog X.K C fs params body scope) (I : IText fs params body scope) (hr : Room k X.A) (I1 : Inv X pins σ H s) (r : Vals vs us) (hl : vs.length = fs.length)
    (q0 : fs = [] → ∀ a, H a = none → Q (.ref a) (upd H a (XV C none a))) (q1 : fs ≠ [] → ∀ d a, H d = none → H a = none → a ≠ d → Q (.ref a) (upd (upd H d (.xd (fs.zip vs).reverse)) a (XV C (some d) a))) :
    wpAny (model X.prog X.w) X.A (call (.ref C) us) (EP X pins σ Q) X.xe s := by
  obtain ⟨mb, hB, hmb⟩ := I1.ok.mod.blt
  have hlim := I1.nolimit
  refine wpAny_call (exc_made (mg := X.mg) (mb := mb) T I I1.kIn hlim (I1.ok.mod.glob.keeps I1.bk) (hB.keeps I1.bk) (hmb _ (by decide +kernel)) (by have := hr.dp; omega) (by rw [← hl, r.length]) fun h' tk e d M => ?_)
  obtain ⟨hp, g, dr, t, os⟩ := s
  obtain ⟨oe, fv, hoe, hc, hd, hdat, h1⟩ := M.obj
  have hne : H e = none := I1.hok.fresh M.new
  have hge : hp.get? e = none := by
    cases z : hp.get? e with
    | none => rfl
    | some o => exact absurd (Nat.lt_of_lt_of_le (Heap.lt_size z) M.new) (Nat.lt_irrefl _)
  cases d with
  | none =>
    have hz : (fs.zip us).reverse = [] := M.dct
    have hfs : fs = [] := by
      cases fs with
      | nil => rfl
      | cons f fs =>
        cases us with
        | nil =>
          rw [r.length] at hl
          cases hl
        | cons u us => simp at hz
    exact ⟨.ref e, _, I1.laid (t' := tk) M.keep M.new (xv_ok hoe ⟨hc, hd⟩ hdat), rfl, q0 hfs e hne⟩
  | some dx =>
    obtain ⟨dlo, dne, hpn, hns⟩ := M.dct
    have hfs : fs ≠ [] := fun z => by
      rw [z] at hpn
      simp at hpn
    obtain ⟨G', g1, g2⟩ := restrict h' fun b => decide (b ≠ e)
    have gk : ∀ b, b ≠ e → G'.get? b = h'.get? b := fun b hb => g1 b (decide_eq_true hb)
    have ge : G'.get? e = none := g2 e (by simp)
    have old : ∀ b o, hp.get? b = some o → G'.get? b = some o := fun b o z => (gk b (fun y => by rw [y, hge] at z; cases z)).trans (M.keep b o z)
    have ob : ObjOk X.prog X.w (upd H dx (.xd (fs.zip vs).reverse)) G' dx (.xd (fs.zip vs).reverse) :=
      ⟨_, hns.at (fun o z => (gk dx dne).trans z), relO_rev r⟩
    have J : Inv X pins σ (upd H dx (.xd (fs.zip vs).reverse)) ⟨G', g, dr, tk, os⟩ := I1.laid (t' := tk) old dlo ob
    have hne2 : (upd H dx (.xd (fs.zip vs).reverse)) e = none := by rw [upd_ne (Ne.symm dne)]; exact hne
    have J2 := J.laidN (h' := h') (t' := tk) (a := e) (o := XV C (some dx) e) (fun b u z => by
      by_cases hb : b = e
      · have z' : G'.get? b = some u := z
        rw [hb, ge] at z'; cases z'
      · exact (gk b hb).symm.trans z) ge hne2 (xv_ok hoe ⟨hc, hd⟩ hdat)
    exact ⟨.ref e, _, J2, rfl, q1 hfs dx e (I1.hok.fresh dlo) hne (Ne.symm dne)⟩
theorem pe_mkv {x : Str} {e : Expr} {es : List Expr} {ta : TA} {p pos : Pos} (T : XCls X.prog X.K C fs params body scope) (I : IText fs params body scope) (hm : X.mg x = some (.ref C)) (hr : Room k X.A) (ha : PA X (e :: es) ta) (hg : Gl X x := by rfl) (hdb : (x == ("__debug__" : Str)) = false := by decide)
    (he : starEach (e :: es) X.env = (false, eval e X.env) :: starEach es X.env := by rfl) (hpl : (backTo pos (starEach es X.env)).any (·.1) = false := by rfl) : PE X (.Call (.Name x p) (e :: es) [] pos) (tMkV C fs ta) := by
  refine ⟨fun pins s σ H Q J h => ?_⟩
  refine wpAny_Call_Name_kw (ld_glob J hg hm ?_ hdb)
  refine PySem.W.callWith_K (h₀ := X.base) J.ok.mod.kin T.kC (thn (ha.run pos pins s σ H _ J h) fun us s1 hh => ?_) he hpl
  obtain ⟨vs, H1, I1, r1, hl, q0, q1⟩ := hh
  exact ⟨I1.kIn, run_mkv T I hr I1 r1 hl q0 q1⟩
theorem pe_mkv0 {x : Str} {p pos : Pos} (T : XCls X.prog X.K C fs params body scope) (I : IText fs params body scope) (hm : X.mg x = some (.ref C)) (hr : Room k X.A) (hg : Gl X x := by rfl) (hdb : (x == ("__debug__" : Str)) = false := by decide) : PE X (.Call (.Name x p) [] [] pos) (tMkV C fs tNil) := by
  refine ⟨fun pins s σ H Q J h => ?_⟩
  refine wpAny_Call_Name_kw (ld_glob J hg hm ?_ hdb)
  obtain ⟨hl, q0, q1⟩ := h
  exact PySem.W.callWith_K0 J.kIn T.kC (run_mkv T I hr J (.nil : Vals [] []) hl q0 q1)
end
/-- such an object: its address, class, dict, and what the dict holds -/
structure XR where
  a : Addr
  C : Addr
  d : Option Addr
  ps : List (Str × V)
def XObj (H : Hp) (x : XR) : Prop := H x.a = some (XV x.C x.d x.a) ∧ (x.d = none ∨ ∃ dd, x.d = some dd ∧ H dd = some (.xd x.ps))
theorem XObj.same {H H' : Hp} {x : XR} (s : Same H H') (h : XObj H x) : XObj H' x := by
  refine ⟨s _ _ h.1, ?_⟩
  rcases h.2 with h | ⟨dd, e, h⟩
  · exact .inl h
  · exact .inr ⟨dd, e, s _ _ h⟩
theorem XObj.made {H : Hp} {C d a : Addr} {ps : List (Str × V)} (nd : H d = none) (na : H a = none) (ne : a ≠ d) : Same H (upd (upd H d (.xd ps)) a (XV C (some d) a)) ∧ XObj (upd (upd H d (.xd ps)) a (XV C (some d) a)) ⟨a, C, some d, ps⟩ := by
  have na2 : (upd H d (.xd ps)) a = none := by rw [upd_ne ne]; exact na
  refine ⟨((Same.refl H).new nd).new na2, ?_, .inr ⟨d, rfl, ?_⟩⟩
  · rw [upd_same]
  · show upd (upd H d (.xd ps)) a (XV C (some d) a) d = _
    rw [upd_ne (Ne.symm ne), upd_same]
theorem XObj.made0 {H : Hp} {C a : Addr} (na : H a = none) : Same H (upd H a (XV C none a)) ∧ XObj (upd H a (XV C none a)) ⟨a, C, none, []⟩ :=
  ⟨(Same.refl H).new na, upd_same, .inl rfl⟩
/-- what reading an exception's fields and isinstance ask of its class -/
structure XKit (K : PySem.W.Frag) (C : Addr) : Prop where
  hcl : (PySem.W.clsIn K C).isSome = true
  ga : PySem.W.findIn K (.ref C) "__getattribute__" = some (some (.builtin "BaseException.__getattribute__"))
  gg : PySem.W.findIn K (.ref C) "__getattr__" = some none
  exC : PySem.W.subIn K (.ref C) (.type "BaseException") = some true
  cl : PySem.W.findIn K (.ref C) "__class__" = some (some (.builtin "object.__class__"))
  sp : PySem.W.specialIn K (.builtin "object.__class__") "__get__" = some (some (.builtin "getset_descriptor.__get__"))
  tk : PySem.W.takesIn K (.builtin "object.__class__") = some true
  mr : PySem.W.mroIn K C (.type "object") = some true
  hd : PySem.W.hasDictIn K C = true
def XKit.ok (K : PySem.W.Frag) (C : Addr) : Bool := (PySem.W.clsIn K C).isSome && (He.eqO (PySem.W.findIn K (.ref C) "__getattribute__") (some (some (.builtin "BaseException.__getattribute__"))) && (He.eqO (PySem.W.findIn K (.ref C) "__getattr__") (some none) &&
  (decide (PySem.W.subIn K (.ref C) (.type "BaseException") = some true) && (He.eqO (PySem.W.findIn K (.ref C) "__class__") (some (some (.builtin "object.__class__"))) && (He.eqO (PySem.W.specialIn K (.builtin "object.__class__") "__get__") (some (some (.builtin "getset_descriptor.__get__"))) &&
  (decide (PySem.W.takesIn K (.builtin "object.__class__") = some true) && (decide (PySem.W.mroIn K C (.type "object") = some true) && PySem.W.hasDictIn K C)))))))
theorem XKit.of {K : PySem.W.Frag} {C : Addr} (c : XKit.ok K C = true) : XKit K C := by
  unfold XKit.ok at c
  obtain ⟨c0, c⟩ := He.ba c
  obtain ⟨c1, c⟩ := He.ba c
  obtain ⟨c2, c⟩ := He.ba c
  obtain ⟨c3, c⟩ := He.ba c
  obtain ⟨c4, c⟩ := He.ba c
  obtain ⟨c5, c⟩ := He.ba c
  obtain ⟨c6, c⟩ := He.ba c
  obtain ⟨c7, c8⟩ := He.ba c
  exact ⟨c0, He.eqO_ok c1, He.eqO_ok c2, of_decide_eq_true c3, He.eqO_ok c4, He.eqO_ok c5, of_decide_eq_true c6, of_decide_eq_true c7, c8⟩
section
variable {X : Cx}
theorem x_inst {pins : List (Addr × Obj)} {σ : L2.St} {H : Hp} {s : Shared} (I : Inv X pins σ H s) {x : XR} (h : XObj H x) : ∃ (ox : Obj) (od : Option Obj), PySem.W.InstAt s.heap x.a ox x.C od ∧
    (∀ dd ps, x.d = some dd → H dd = some (.xd ps) → ∃ (mA : Str → Option Value) (o : Obj), od = some o ∧ (∀ f, PySem.W.lookIn f o = some (mA f)) ∧ ∀ f, RelO (ps.lookup f) (mA f)) := by
  obtain ⟨⟨oe, vs, e, z, hd⟩, _, _⟩ := (show ObjOk X.prog X.w H s.heap x.a (XV x.C x.d x.a) from I.hok _ _ h.1)
  rcases h.2 with hn | ⟨dd, ed, hx⟩
  · refine ⟨oe, none, ⟨e, z.1, by unfold PySem.W.notCls; rw [hd] <;> rfl, by rw [z.2, hn]; trivial⟩, fun dd ps h2 => ?_⟩
    rw [hn] at h2; cases h2
  · obtain ⟨mA, hns, hr⟩ := (show ObjOk X.prog X.w H s.heap dd (.xd x.ps) from I.hok dd _ hx)
    obtain ⟨od, ho, hl⟩ := lookIn_ns hns
    refine ⟨oe, some od, ⟨e, z.1, by unfold PySem.W.notCls; rw [hd] <;> rfl, by rw [z.2, ed]; exact ho⟩, fun dd2 ps h2 h3 => ?_⟩
    rw [ed] at h2
    cases h2
    rw [hx] at h3
    cases h3
    exact ⟨mA, od, rfl, hl, hr⟩
def rIsX (K : PySem.W.Frag) : List V → Hp → VK → Prop := fun xs H Q => ∃ (x : XR) (c : V) (u : Value) (b : Bool), xs = [.ref x.a, c] ∧ ClsV c u ∧ XObj H x ∧ XKit K x.C ∧ PySem.W.kitOne K (.ref x.C) u = some b ∧ Q (.bl b) H
theorem call_isX : CallR X (.builtin "isinstance") (rIsX X.K) := by
  intro pins s σ H xs us Q I r h
  obtain ⟨x, c, u, b, rfl, k, hx, T, e, q⟩ := h
  obtain ⟨u1, u2, rfl, r1, r2⟩ := vals2 r
  cases (show u1 = Value.ref x.a from r1)
  have e2 := k.eq r2
  subst e2
  obtain ⟨ox, od, J, _⟩ := x_inst I hx
  exact PySem.W.kia_one (PySem.W.kitx_exc T.hcl T.ga T.gg T.exC T.cl T.sp T.tk T.mr) I.kIn J e (fun z => nomatch z) fun tk => ⟨.bl b, H, I.tok tk, rfl, q⟩
def tXf (K : PySem.W.Frag) (f : Str) (te : TE) : TE := fun σ H Q => te σ H fun y H1 => ∃ (x : XR) (v : V), y = .ref x.a ∧ XObj H1 x ∧ XKit K x.C ∧ PySem.W.findIn K (.ref x.C) f = some none ∧ x.d ≠ none ∧ x.ps.lookup f = some v ∧ Q v H1
theorem pe_xf {e : Expr} {te : TE} {pos : Pos} {f : Str} (he : PE X e te) (hb : attributeBase e f X.env (eval e X.env) = eval e X.env := by rfl) : PE X (.Attribute e f pos) (tXf X.K f te) := by
  refine ⟨fun pins s σ H Q I h => ?_⟩
  refine attr_of hb (thn (he.run pins s σ H _ I h) fun u s1 hh => ?_)
  obtain ⟨y, H1, I1, rx, x, v, ey, hx, T, hn, hd, l, q⟩ := hh
  subst ey
  obtain rfl : u = Value.ref x.a := rx
  obtain ⟨ox, od, J, hJ⟩ := x_inst I1 hx
  rcases hx.2 with h0 | ⟨dd, ed, hxd⟩
  · exact absurd h0 hd
  obtain ⟨mA, o, eo, hl, hr⟩ := hJ dd x.ps ed hxd
  subst eo
  obtain ⟨u, hu, ru⟩ := RelO.some_of (v := v) (o := mA f) (by rw [← l]; exact hr f)
  exact HandSPX.exc_get I1.kIn J T.ga T.gg T.exC (PySem.W.findObj_own T.hd hn rfl (by rw [hl, hu])) (handed_of ru) ⟨v, H1, I1.tok _, ru, q⟩
end
end M

namespace M
open PySem PySem.Spec PyProof.Rows L2
/-! ### _law_sorted's mathematics: put in behind all that are less -/
section
variable {α : Type} {lt : α → α → Bool}
def insC (lt : α → α → Bool) (x : α) (acc : List α) : List α := acc.take (acc.countP fun o => lt o x) ++ x :: acc.drop (acc.countP fun o => lt o x)
def srt (lt : α → α → Bool) (l : List α) : List α := l.foldl (fun acc x => insC lt x acc) []
theorem insC_perm (x : α) (acc : List α) : (insC lt x acc).Perm (x :: acc) := by
  unfold insC
  refine List.perm_middle.trans ?_
  rw [List.take_append_drop]
theorem srt_fold_perm : ∀ (l acc : List α), (l.foldl (fun acc x => insC lt x acc) acc).Perm (l ++ acc)
  | [], acc => .refl _
  | x :: r, acc => by
    show (r.foldl _ (insC lt x acc)).Perm _
    refine (srt_fold_perm r _).trans ?_
    refine ((insC_perm x acc).append_left r).trans ?_
    show (r ++ x :: acc).Perm (x :: (r ++ acc))
    exact List.perm_middle
theorem srt_perm (l : List α) : (srt lt l).Perm l := by
  have := srt_fold_perm (lt := lt) l []
  rwa [List.append_nil] at this
abbrev Up (lt : α → α → Bool) (l : List α) : Prop := l.Pairwise fun a b => lt b a = false
/-- in a list that goes up, those below x stand first -/
theorem up_split {S : α → Prop} (O : Ord lt S) {x : α} (hx : S x) : ∀ {l : List α}, (∀ a ∈ l, S a) → Up lt l → (∀ a ∈ l.take (l.countP fun o => lt o x), lt a x = true) ∧ ∀ a ∈ l.drop (l.countP fun o => lt o x), lt a x = false
  | [], _, _ => ⟨fun a h => by simp at h, fun a h => by simp at h⟩
  | e :: r, hs, hu => by
    have hu' := List.pairwise_cons.mp hu
    have ih := up_split O hx (l := r) (fun a h => hs a (List.mem_cons_of_mem _ h)) hu'.2
    cases q : lt e x with
    | true =>
      rw [List.countP_cons_of_pos (by exact q)]
      refine ⟨fun a h => ?_, fun a h => ?_⟩
      · rw [List.take_succ_cons] at h
        rcases List.mem_cons.mp h with rfl | h
        · exact q
        · exact ih.1 a h
      · rw [List.drop_succ_cons] at h
        exact ih.2 a h
    | false =>
      have hall : ∀ a ∈ r, lt a x = false := fun a h => O.nlt_tr (hs a (List.mem_cons_of_mem _ h)) (hs e List.mem_cons_self) hx (hu'.1 a h) q
      have h0 : (e :: r).countP (fun o => lt o x) = 0 := List.countP_eq_zero.mpr fun a h => by
        rcases List.mem_cons.mp h with rfl | h
        · rw [q]; decide
        · rw [hall a h]; decide
      rw [h0]
      refine ⟨fun a h => by simp at h, fun a h => ?_⟩
      rw [List.drop_zero] at h
      rcases List.mem_cons.mp h with rfl | h
      · exact q
      · exact hall a h
theorem insC_up {S : α → Prop} (O : Ord lt S) {x : α} (hx : S x) {l : List α} (hs : ∀ a ∈ l, S a) (hu : Up lt l) : Up lt (insC lt x l) := by
  obtain ⟨h1, h2⟩ := up_split O hx hs hu
  have hu2 : Up lt (l.take (l.countP fun o => lt o x) ++ l.drop (l.countP fun o => lt o x)) := by rw [List.take_append_drop]; exact hu
  obtain ⟨p1, p2, p3⟩ := List.pairwise_append.mp hu2
  unfold insC
  refine List.pairwise_append.mpr ⟨p1, List.pairwise_cons.mpr ⟨h2, p2⟩, fun a ha b hb => ?_⟩
  rcases List.mem_cons.mp hb with rfl | hb
  · cases q : lt b a with
    | false => rfl
    | true =>
      have := O.tr b a b hx (hs a (List.mem_of_mem_take ha)) hx q (h1 a ha)
      rw [O.irr b hx] at this
      cases this
  · exact p3 a ha b hb
theorem srt_fold_up {S : α → Prop} (O : Ord lt S) : ∀ {l acc : List α}, (∀ a ∈ l, S a) → (∀ a ∈ acc, S a) → Up lt acc → Up lt (l.foldl (fun acc x => insC lt x acc) acc)
  | [], _, _, _, h => h
  | x :: r, acc, hl, ha, h => by
    refine srt_fold_up O (l := r) (acc := insC lt x acc) (fun a h => hl a (List.mem_cons_of_mem _ h)) (fun a h => ?_) (insC_up O (hl x List.mem_cons_self) ha h)
    rcases List.mem_cons.mp ((insC_perm x acc).mem_iff.mp h) with rfl | h
    · exact hl _ List.mem_cons_self
    · exact ha a h
theorem srt_up {S : α → Prop} (O : Ord lt S) {l : List α} (hl : ∀ a ∈ l, S a) : Up lt (srt lt l) := srt_fold_up O hl (fun _ h => by cases h) .nil
theorem srt_asc {S : α → Prop} (O : Ord lt S) {l m : List α} (hl : ∀ a ∈ l, S a) (p : l.Perm m) : srt lt l = asc lt m := by
  refine up_unique O (fun a h => hl a ((srt_perm l).mem_iff.mp h)) ((srt_perm l).trans (p.trans (asc_perm lt m).symm)) (srt_up O hl) (asc_up O fun a h => hl a (p.mem_iff.mpr h))
end
/-! ### < of rows of data is an order where the rows differ in their signs -/
theorem ordD {S : PyData → Prop} (inj : ∀ a b, S a → S b → PySem.W.keyToks a = PySem.W.keyToks b → a = b) : Ord PySem.W.dataLt S where
  irr := fun a _ => PyProof.Rows.lex_irrefl _
  tr := fun a b c _ _ _ h1 h2 => PyProof.Rows.lex_trans _ _ _ h1 h2
  tot := fun a b ha hb => by
    cases h1 : PySem.W.dataLt a b with
    | true => exact .inl rfl
    | false =>
      cases h2 : PySem.W.dataLt b a with
      | true => exact .inr (.inr rfl)
      | false => exact .inr (.inl (inj a b ha hb (PyProof.Rows.lex_total _ _ h1 h2)))
end M

namespace M
open PySem PySem.Spec PyProof.Rows L2
/-! ### lists of things laid out in the heap -/
structure Pw {α : Type} (R : V → α → Prop) (vs : List V) (xs : List α) : Prop where
  len : vs.length = xs.length
  at_ : ∀ (i : Nat) v x, vs[i]? = some v → xs[i]? = some x → R v x
section
variable {α : Type} {R R' : V → α → Prop} {vs : List V} {xs : List α}
theorem Pw.nil : Pw R [] [] := ⟨rfl, fun _ _ _ h => by simp at h⟩
theorem Pw.mono (h : ∀ v x, R v x → R' v x) (p : Pw R vs xs) : Pw R' vs xs := ⟨p.len, fun i v x a b => h v x (p.at_ i v x a b)⟩
theorem Pw.get (p : Pw R vs xs) {i : Nat} {v : V} (h : vs[i]? = some v) : ∃ x, xs[i]? = some x ∧ R v x := by
  have hi : i < xs.length := by
    rw [← p.len]
    exact (List.getElem?_eq_some_iff.mp h).1
  exact ⟨xs[i], List.getElem?_eq_getElem hi, p.at_ i v _ h (List.getElem?_eq_getElem hi)⟩
theorem Pw.getR (p : Pw R vs xs) {i : Nat} {x : α} (h : xs[i]? = some x) : ∃ v, vs[i]? = some v ∧ R v x := by
  have hi : i < vs.length := by
    rw [p.len]
    exact (List.getElem?_eq_some_iff.mp h).1
  exact ⟨vs[i], List.getElem?_eq_getElem hi, p.at_ i _ x (List.getElem?_eq_getElem hi) h⟩
theorem Pw.snoc (p : Pw R vs xs) {v : V} {x : α} (h : R v x) : Pw R (vs ++ [v]) (xs ++ [x]) := by
  refine ⟨by rw [List.length_append, List.length_append, p.len]; rfl, fun i v' x' h1 h2 => ?_⟩
  by_cases hi : i < vs.length
  · rw [List.getElem?_append_left hi] at h1
    rw [List.getElem?_append_left (by rw [← p.len]; exact hi)] at h2
    exact p.at_ i _ _ h1 h2
  · rw [List.getElem?_append_right (by omega)] at h1
    rw [List.getElem?_append_right (by rw [← p.len]; omega)] at h2
    have e1 : i - vs.length = 0 := by
      have := (List.getElem?_eq_some_iff.mp h1).1
      simp at this
      omega
    rw [e1] at h1
    rw [← p.len, e1] at h2
    simp at h1 h2
    rw [← h1, ← h2]
    exact h
theorem Pw.mem (p : Pw R vs xs) : ∀ z ∈ vs.zip xs, R z.1 z.2 := fun z hz => by
  obtain ⟨i, hi, e⟩ := List.getElem_of_mem hz
  have h1 : i < vs.length := by rw [List.length_zip] at hi; omega
  have h2 : i < xs.length := by rw [List.length_zip] at hi; omega
  have e1 : (vs.zip xs)[i] = (vs[i], xs[i]) := List.getElem_zip
  rw [e1] at e
  rw [← e]
  exact p.at_ i _ _ (List.getElem?_eq_getElem h1) (List.getElem?_eq_getElem h2)
theorem Pw.of_zip {zs : List (V × α)} (h : ∀ z ∈ zs, R z.1 z.2) : Pw R (zs.map (·.1)) (zs.map (·.2)) := by
  refine ⟨by rw [List.length_map, List.length_map], fun i v x h1 h2 => ?_⟩
  rw [List.getElem?_map] at h1 h2
  cases e : zs[i]? with
  | none => rw [e] at h1; cases h1
  | some z =>
    rw [e] at h1 h2
    cases h1; cases h2
    exact h z (List.mem_of_getElem? e)
theorem Pw.fst (p : Pw R vs xs) : (vs.zip xs).map (·.1) = vs := by
  rw [List.map_fst_zip]
  rw [p.len]
  exact Nat.le_refl _
theorem Pw.snd (p : Pw R vs xs) : (vs.zip xs).map (·.2) = xs := by
  rw [List.map_snd_zip]
  rw [p.len]
  exact Nat.le_refl _
end
theorem insC_map {α β : Type} {lt : α → α → Bool} {lt2 : β → β → Bool} {f : α → β} (h : ∀ a b, lt2 (f a) (f b) = lt a b) (x : α) (l : List α) : insC lt2 (f x) (l.map f) = (insC lt x l).map f := by
  unfold insC
  have e : (l.map f).countP (fun o => lt2 o (f x)) = l.countP (fun o => lt o x) := by
    rw [List.countP_map]
    exact congrArg (fun g => List.countP g l) (funext fun o => h o x)
  rw [e, List.map_append, List.map_cons, List.map_take, List.map_drop]
theorem srt_foldmap {α β : Type} {lt : α → α → Bool} {lt2 : β → β → Bool} {f : α → β} (h : ∀ a b, lt2 (f a) (f b) = lt a b) : ∀ l acc : List α, (l.map f).foldl (fun acc x => insC lt2 x acc) (acc.map f) = (l.foldl (fun acc x => insC lt x acc) acc).map f
  | [], _ => rfl
  | x :: r, acc => by
    show (r.map f).foldl _ (insC lt2 (f x) (acc.map f)) = _
    rw [insC_map h x acc]
    exact srt_foldmap h r _
theorem srt_map {α β : Type} {lt : α → α → Bool} {lt2 : β → β → Bool} {f : α → β} (h : ∀ a b, lt2 (f a) (f b) = lt a b) (l : List α) : srt lt2 (l.map f) = (srt lt l).map f := srt_foldmap h l []
/-- what a list's things are as data -/
def ltA {α : Type} (D : α → PyData) (a b : α) : Bool := PySem.W.dataLt (D a) (D b)
section
variable {α : Type} {R : V → α → Prop} {vs : List V} {xs : List α} {D : α → PyData}
def zd (D : α → PyData) (zs : List (V × α)) : List (V × PyData) := zs.map fun z => (z.1, D z.2)
theorem zd_fst (p : Pw R vs xs) : (zd D (vs.zip xs)).map (·.1) = vs := by
  unfold zd
  rw [List.map_map]
  exact p.fst
theorem zd_mem {q : V × PyData} (h : q ∈ zd D (vs.zip xs)) (p : Pw R vs xs) : ∃ x ∈ xs, q.2 = D x ∧ R q.1 x := by
  obtain ⟨z, hz, rfl⟩ := List.mem_map.mp h
  exact ⟨z.2, (List.of_mem_zip hz).2, rfl, p.mem z hz⟩
theorem zd_len (p : Pw R vs xs) : (zd D (vs.zip xs)).length = xs.length := by
  unfold zd
  rw [List.length_map, List.length_zip, p.len, Nat.min_self]
theorem Pw.asc (p : Pw R vs xs) : Pw R ((asc ltP (zd D (vs.zip xs))).map (·.1)) (M.asc (ltA D) xs) := by
  have e1 : M.asc ltP (zd D (vs.zip xs)) = zd D (M.asc (fun a b : V × α => ltA D a.2 b.2) (vs.zip xs)) := asc_map (f := fun z : V × α => (z.1, D z.2)) (fun a b => rfl) _
  have e2 : M.asc (ltA D) xs = (M.asc (fun a b : V × α => ltA D a.2 b.2) (vs.zip xs)).map (·.2) := by
    rw [← asc_map (lt2 := ltA D) (f := fun z : V × α => z.2) (fun a b => rfl), p.snd]
  rw [e1, e2]
  unfold zd
  rw [List.map_map]
  exact Pw.of_zip fun z hz => p.mem z ((asc_perm _ _).mem_iff.mp hz)
theorem Pw.srt (p : Pw R vs xs) : Pw R ((srt ltP (zd D (vs.zip xs))).map (·.1)) (M.srt (ltA D) xs) := by
  have e1 : M.srt ltP (zd D (vs.zip xs)) = zd D (M.srt (fun a b : V × α => ltA D a.2 b.2) (vs.zip xs)) := srt_map (f := fun z : V × α => (z.1, D z.2)) (fun a b => rfl) _
  have e2 : M.srt (ltA D) xs = (M.srt (fun a b : V × α => ltA D a.2 b.2) (vs.zip xs)).map (·.2) := by
    rw [← srt_map (lt2 := ltA D) (f := fun z : V × α => z.2) (fun a b => rfl), p.snd]
  rw [e1, e2]
  unfold zd
  rw [List.map_map]
  exact Pw.of_zip fun z hz => p.mem z ((srt_perm _).mem_iff.mp hz)
end
/-- a list at a of things told by R -/
def LsA {α : Type} (R : Hp → V → α → Prop) (H : Hp) (a : Addr) (xs : List α) : Prop := ∃ vs, H a = some (.lst vs) ∧ Pw (R H) vs xs
/-- a way of telling that new objects don't disturb -/
def Stay {α : Type} (R : Hp → V → α → Prop) : Prop := ∀ H H' v x, Same H H' → R H v x → R H' v x
theorem LsA.same {α : Type} {R : Hp → V → α → Prop} (st : Stay R) {H H' : Hp} {a : Addr} {xs : List α} (s : Same H H') (h : LsA R H a xs) : LsA R H' a xs := by
  obtain ⟨vs, e, p⟩ := h
  exact ⟨vs, s _ _ e, p.mono fun v x => st H H' v x s⟩
/-! ### histories -/
abbrev Itv := Str × Int
abbrev Ent := Str × List Itv × List Itv
def PrA (H : Hp) (v : V) (x : Itv) : Prop := ∃ t, v = .ref t ∧ H t = some (.tup [.str x.1, .int x.2])
theorem stPr : Stay PrA := fun H H' v x s ⟨t, e, h⟩ => ⟨t, e, s _ _ h⟩
def EnA (H : Hp) (v : V) (e : Ent) : Prop := ∃ t r w, v = .ref t ∧ H t = some (.tup [.str e.1, .ref r, .ref w]) ∧ LsA PrA H r e.2.1 ∧ LsA PrA H w e.2.2
theorem stEn : Stay EnA := fun H H' v x s ⟨t, r, w, e, h, h1, h2⟩ => ⟨t, r, w, e, s _ _ h, h1.same stPr s, h2.same stPr s⟩
abbrev HsA (H : Hp) (a : Addr) (hs : List Ent) : Prop := LsA EnA H a hs
/-! ### a list that grows while its things stand elsewhere -/
theorem delH_upd {H : Hp} {D : Addr} {o : HO} : delH (upd H D o) D = delH H D := by
  funext b
  by_cases e : b = D
  · rw [e, delH_same, delH_same]
  · rw [delH_ne e, delH_ne e, upd_ne e]
theorem same_del {H H' : Hp} {D : Addr} (s : Same H H') (h : H D = none) : Same H (delH H' D) := fun b o e => by
  rw [delH_ne (ne_of_none e h)]
  exact s b o e
theorem same_del2 {H H' : Hp} {D : Addr} (s : Same H H') : Same (delH H D) (delH H' D) := fun b o e => by
  by_cases hb : b = D
  · rw [hb, delH_same] at e; cases e
  · rw [delH_ne hb] at e ⊢
    exact s b o e
theorem del_same {H : Hp} {D : Addr} : Same (delH H D) H := fun b o e => by
  by_cases hb : b = D
  · rw [hb, delH_same] at e; cases e
  · rw [delH_ne hb] at e
    exact e
def rLof (K : PySem.W.Frag) : List V → Hp → VK → Prop := fun xs H Q => ∃ p ys, xs = [V.ref p] ∧ (SqL K H p ys ∨ SqT K H p ys) ∧ ∀ l, H l = none → Q (V.ref l) (upd H l (.lst ys))
theorem call_list_ofK {X : Cx} : CallR X (.type "list") (rLof X.K) := call_list_of
/-- the list at L, that grows: what it holds is told by R and stands elsewhere -/
structure GS {α : Type} (R : Hp → V → α → Prop) (H0 : Hp) (L : Addr) (H : Hp) (vs : List V) (xs : List α) : Prop where
  s : Same H0 H
  hL : H L = some (.lst vs)
  pw : Pw (R (delH H L)) vs xs
section
variable {α : Type} {R : Hp → V → α → Prop} {H0 H H' : Hp} {L T : Addr} {vs : List V} {xs : List α} {v : V} {x : α} {o : HO}
theorem GS.start (h : H0 L = none) : GS R H0 L (upd H0 L (.lst [])) [] [] := ⟨(Same.refl H0).new h, upd_same, Pw.nil⟩
theorem GS.same (st : Stay R) (f : GS R H0 L H vs xs) (z : Same H H') : GS R H0 L H' vs xs := ⟨f.s.trans z, z _ _ f.hL, f.pw.mono fun v x => st _ _ v x (same_del2 z)⟩
theorem GS.new (st : Stay R) (f : GS R H0 L H vs xs) (n : H T = none) : GS R H0 L (upd H T o) vs xs := f.same st ((Same.refl H).new n)
theorem GS.app (f : GS R H0 L H vs xs) (h0 : H0 L = none) (h : R (delH H L) v x) : GS R H0 L (upd H L (.lst (vs ++ [v]))) (vs ++ [v]) (xs ++ [x]) :=
  ⟨f.s.mut h0, upd_same, by rw [delH_upd]; exact f.pw.snoc h⟩
theorem GS.done (st : Stay R) (f : GS R H0 L H vs xs) : LsA R H L xs := ⟨vs, f.hL, f.pw.mono fun v x => st _ _ v x del_same⟩
/-- a new tuple stands elsewhere -/
theorem GS.del (f : GS R H0 L H vs xs) {ys : List V} (h : H T = some (.tup ys)) : delH H L T = some (.tup ys) := by
  rw [delH_ne (fun e => by rw [e, f.hL] at h; cases h)]
  exact h
end
theorem at_at {l : List V} {i : Nat} {v : V} (h : l[i]? = some v) : atI l (i : Int) = some v := atI_nat h
theorem mem_Pr {K : PySem.W.Frag} {H : Hp} {a : Addr} {xs : List Itv} (h : LsA PrA H a xs) : Dp K H (.ref a) (.list (xs.map fun x => .tuple [.str x.1, .int x.2])) := by
  obtain ⟨vs, e, p⟩ := h
  refine .lst (SqL.of e) ?_
  clear e
  induction xs generalizing vs with
  | nil =>
    have := p.len
    cases vs with
    | nil => exact .nil
    | cons v vs => cases this
  | cons x xs ih =>
    cases vs with
    | nil => have := p.len; cases this
    | cons v vs =>
      refine .cons ?_ (ih vs ⟨by have := p.len; simpa using this, fun i v' x' h1 h2 => p.at_ (i + 1) v' x' (by simpa using h1) (by simpa using h2)⟩)
      obtain ⟨t, rfl, ht⟩ := p.at_ 0 v x rfl rfl
      exact .tup (.inl (.inl ht)) (.cons (.str _) (.cons (.int _) .nil))
def itD (x : Itv) : PyData := .tuple [.str x.1, .int x.2]
theorem itD_eqv (x y : Itv) : PyData.eqv (itD x) (itD y) = decide (x = y) := by
  have e1 : PyData.eqv (.str x.1) (.str y.1) = decide (x.1 = y.1) := by
    rw [PyData.eqv]
    by_cases h : x.1 = y.1
    · rw [h, decide_eq_true rfl]; exact beq_self_eq_true y.1
    · rw [decide_eq_false h]; exact beq_false_of_ne h
  have e2 : PyData.eqv (.int x.2) (.int y.2) = decide (x.2 = y.2) := by
    rw [PyData.eqv]
    by_cases h : x.2 = y.2
    · rw [h, decide_eq_true rfl]; exact beq_self_eq_true y.2
    · rw [decide_eq_false h]; exact beq_false_of_ne h
  unfold itD
  rw [PyData.eqv, PyData.eqvAll, PyData.eqvAll, PyData.eqvAll, e1, e2]
  rw [Bool.eq_iff_iff]
  simp [Prod.ext_iff]
theorem it_any (x : Itv) (l : List Itv) : (l.map itD).any (fun z => PyData.eqv z (itD x)) = decide (x ∈ l) := by
  rw [List.any_map, Bool.eq_iff_iff, List.any_eq_true, decide_eq_true_iff]
  constructor
  · rintro ⟨y, hy, e⟩
    have e' : PyData.eqv (itD y) (itD x) = true := e
    rw [itD_eqv] at e'
    rw [← of_decide_eq_true e']
    exact hy
  · intro h
    exact ⟨x, h, by show PyData.eqv (itD x) (itD x) = true; rw [itD_eqv]; exact decide_eq_true rfl⟩
theorem it_shaped {x : Itv} (h : PyData.strOk x.1 = true) : SeqAt.shaped (itD x) = true := by
  unfold SeqAt.shaped itD
  rw [PyData.canLay0, PyData.canLayAll0, PyData.canLayAll0, PyData.canLayAll0, PyData.canLay0, PyData.canLay0, h]
  rfl
theorem its_lay : ∀ {l : List Itv}, (∀ x ∈ l, PyData.strOk x.1 = true) → PyData.canLayAll0 (l.map itD) = true ∧ PyData.depthAll (l.map itD) ≤ 2
  | [], _ => ⟨rfl, Nat.zero_le _⟩
  | x :: l, h => by
    obtain ⟨i1, i2⟩ := its_lay (l := l) fun y hy => h y (List.mem_cons_of_mem _ hy)
    have hx := h x List.mem_cons_self
    refine ⟨?_, ?_⟩
    · rw [List.map_cons, PyData.canLayAll0, i1]
      unfold itD
      rw [PyData.canLay0, PyData.canLayAll0, PyData.canLayAll0, PyData.canLayAll0, PyData.canLay0, PyData.canLay0, hx]
      rfl
    · rw [List.map_cons, PyData.depthAll]
      have : (itD x).depth = 1 := by simp [itD, PyData.depth, PyData.depthAll]
      omega
theorem its_shaped {l : List Itv} (h : ∀ x ∈ l, PyData.strOk x.1 = true) : SeqAt.shaped (.list (l.map itD)) = true := by
  unfold SeqAt.shaped
  obtain ⟨h1, h2⟩ := its_lay h
  rw [PyData.canLay0, PyData.depth, h1, decide_eq_true (by omega)]
  rfl
theorem hu65 {A : Around} {k : Nat} (hr : Room k A) : A.units + 65 < cLine := by have := hr.un; omega
end M

namespace M
open PySem PySem.Spec PyProof.Rows L2
/-! ### a table of objects: what stands at which address, all else as it was in H0 -/
structure Hx (H0 H : Hp) (l : List (Addr × HO)) : Prop where
  at_ : ∀ z ∈ l, H z.1 = some z.2
  nd : (l.map (·.1)).Nodup
  fr : ∀ b o, H0 b = some o → (∀ z ∈ l, z.1 ≠ b) → H b = some o
section
variable {H0 H H' : Hp} {l : List (Addr × HO)} {T a : Addr} {o o' : HO}
theorem Hx.refl (H0 : Hp) : Hx H0 H0 [] := ⟨fun z h => (by cases h), List.Pairwise.nil, fun _ _ h _ => h⟩
theorem Hx.same (x : Hx H0 H l) (s : Same H H') : Hx H0 H' l := ⟨fun z h => s _ _ (x.at_ z h), x.nd, fun b o h n => s _ _ (x.fr b o h n)⟩
theorem Hx.new (x : Hx H0 H l) (n : H T = none) : Hx H0 (upd H T o) l := x.same ((Same.refl H).new n)
theorem Hx.get (x : Hx H0 H l) (i : Nat) (h : l[i]? = some (a, o)) : H a = some o := x.at_ _ (List.mem_of_getElem? h)
theorem Hx.ne (x : Hx H0 H l) (n : H T = none) (i : Nat) (h : l[i]? = some (a, o)) : a ≠ T := ne_of_none (x.get i h) n
/-- an object known already -/
theorem Hx.own (x : Hx H0 H l) (h : H a = some o) (n : ∀ z ∈ l, z.1 ≠ a) : Hx H0 H ((a, o) :: l) := by
  refine ⟨fun z hz => ?_, ?_, fun b u hb nb => x.fr b u hb fun z hz => nb z (List.mem_cons_of_mem _ hz)⟩
  · rcases List.mem_cons.mp hz with rfl | hz
    · exact h
    · exact x.at_ z hz
  · rw [List.map_cons]
    refine List.nodup_cons.mpr ⟨fun h => ?_, x.nd⟩
    obtain ⟨z, hz, e⟩ := List.mem_map.mp h
    exact n z hz e
theorem Hx.fresh (x : Hx H0 H l) (n : H T = none) : H0 T = none := by
  cases q : H0 T with
  | none => rfl
  | some o =>
    have := x.fr T o q fun z hz => ne_of_none (x.at_ z hz) n
    rw [n] at this
    cases this
theorem Hx.out (x : Hx H0 H l) (n : H T = none) : T ∉ l.map (·.1) := fun h => by
  obtain ⟨z, hz, e⟩ := List.mem_map.mp h
  exact ne_of_none (x.at_ z hz) n e
theorem Hx.push (x : Hx H0 H l) (n : H T = none) : Hx H0 (upd H T o) ((T, o) :: l) :=
  (x.new n).own upd_same fun z hz => ne_of_none (x.at_ z hz) n
theorem Hx.set (x : Hx H0 H l) (i : Nat) (h : l[i]? = some (a, o)) : Hx H0 (upd H a o') (l.set i (a, o')) := by
  have hi := (List.getElem?_eq_some_iff.mp h).1
  have hai : l[i] = (a, o) := (List.getElem?_eq_some_iff.mp h).2
  have key : ∀ (j : Nat) (hj : j < l.length), j ≠ i → (l[j]).1 ≠ a := fun j hj ne e => by
    have h1 : (l.map (·.1))[j]'(by rw [List.length_map]; exact hj) = (l.map (·.1))[i]'(by rw [List.length_map]; exact hi) := by
      rw [List.getElem_map, List.getElem_map, hai, e]
    exact ne ((List.getElem_inj x.nd).mp h1)
  refine ⟨fun z hz => ?_, ?_, fun b u hb nb => ?_⟩
  · obtain ⟨j, hj, e⟩ := List.getElem_of_mem hz
    rw [List.getElem_set] at e
    split at e
    · rw [← e, upd_same]
    · rename_i ne
      rw [List.length_set] at hj
      rw [← e, upd_ne (key j hj (fun q => ne q.symm))]
      exact x.at_ _ (List.getElem_mem _)
  · have e : (l.set i (a, o')).map (·.1) = l.map (·.1) := by
      rw [List.map_set]
      show (l.map (·.1)).set i a = _
      have hi2 : i < (l.map (·.1)).length := by rw [List.length_map]; exact hi
      have e2 : (l.map (·.1))[i] = a := by rw [List.getElem_map, hai]
      conv => lhs; rw [← e2]
      exact List.set_getElem_self hi2
    rw [e]
    exact x.nd
  · have hm : (a, o') ∈ l.set i (a, o') := List.mem_set hi _
    rw [upd_ne (Ne.symm (nb _ hm))]
    refine x.fr b u hb fun z hz e => ?_
    obtain ⟨j, hj, ez⟩ := List.getElem_of_mem hz
    by_cases q : j = i
    · subst q
      rw [hai] at ez
      exact nb _ hm (by rw [← e, ← ez])
    · exact nb (l[j]) (List.mem_iff_getElem.mpr ⟨j, by rw [List.length_set]; exact hj, by rw [List.getElem_set, if_neg (Ne.symm q)]⟩) (by rw [ez, e])
/-- the last pushed is forgotten (it stays where it is) -/
theorem Hx.pop {z : Addr × HO} (x : Hx H0 H (z :: l)) (h0 : H0 z.1 = none) : Hx H0 H l :=
  ⟨fun y h => x.at_ y (List.mem_cons_of_mem _ h), (List.nodup_cons.mp x.nd).2, fun b o hb nb => x.fr b o hb fun y hy => by
    rcases List.mem_cons.mp hy with rfl | hy
    · exact fun e => by rw [e, hb] at h0; cases h0
    · exact nb y hy⟩
end
/-! ### what stands outside a table -/
def cut (H : Hp) (A : List Addr) : Hp := fun b => if b ∈ A then none else H b
theorem cut_in {H : Hp} {A : List Addr} {b : Addr} (h : b ∈ A) : cut H A b = none := if_pos h
theorem cut_out {H : Hp} {A : List Addr} {b : Addr} (h : b ∉ A) : cut H A b = H b := if_neg h
theorem cut_upd {H : Hp} {A : List Addr} {a : Addr} {o : HO} (h : a ∈ A) : cut (upd H a o) A = cut H A := by
  funext b
  by_cases e : b ∈ A
  · rw [cut_in e, cut_in e]
  · rw [cut_out e, cut_out e, upd_ne (fun q => e (by rw [q]; exact h))]
theorem cut_same {H H' : Hp} {A : List Addr} (s : Same H H') : Same (cut H A) (cut H' A) := fun b o e => by
  by_cases q : b ∈ A
  · rw [cut_in q] at e; cases e
  · rw [cut_out q] at e ⊢; exact s b o e
theorem cut_push {H : Hp} {A : List Addr} {T : Addr} {o : HO} (n : H T = none) : Same (cut H A) (cut (upd H T o) (T :: A)) := fun b u e => by
  by_cases q : b ∈ A
  · rw [cut_in q] at e; cases e
  · rw [cut_out q] at e
    have ne := ne_of_none e n
    rw [cut_out (fun z => (List.mem_cons.mp z).elim ne q), upd_ne ne]
    exact e
theorem cut_pop {H : Hp} {A : List Addr} {T : Addr} : Same (cut H (T :: A)) (cut H A) := fun b u e => by
  by_cases q : b ∈ T :: A
  · rw [cut_in q] at e; cases e
  · rw [cut_out q] at e
    rw [cut_out (fun z => q (List.mem_cons_of_mem _ z))]
    exact e
theorem cut_all {H : Hp} {A : List Addr} : Same (cut H A) H := fun b u e => by
  by_cases q : b ∈ A
  · rw [cut_in q] at e; cases e
  · rw [cut_out q] at e; exact e
theorem cut_of {H0 H : Hp} {A : List Addr} (s : ∀ b o, H0 b = some o → b ∉ A → H b = some o) (h : ∀ a ∈ A, H0 a = none) : Same H0 (cut H A) := fun b u e => by
  have q : b ∉ A := fun z => by rw [h b z] at e; cases e
  rw [cut_out q]
  exact s b u e q
end M

namespace M
open PySem PySem.Spec PyProof.Rows L2
/-! ### a list laid out in the heap, as data -/
section
variable {α : Type} {K : PySem.W.Frag} {H : Hp} {a : Addr} {D : α → PyData}
theorem pw_dpAll {R : V → α → Prop} (h : ∀ v x, R v x → Dp K H v (D x)) : ∀ {vs : List V} {xs : List α}, Pw R vs xs → DpAll K H vs (xs.map D)
  | [], [], _ => .nil
  | [], _ :: _, p => absurd p.len (by simp)
  | _ :: _, [], p => absurd p.len (by simp)
  | v :: vs, x :: xs, p => .cons (h v x (p.at_ 0 v x rfl rfl)) (pw_dpAll h ⟨by have := p.len; simpa using this, fun i v' x' h1 h2 => p.at_ (i + 1) v' x' (by simpa using h1) (by simpa using h2)⟩)
theorem ls_dp {R : Hp → V → α → Prop} {xs : List α} (h : ∀ v x, R H v x → Dp K H v (D x)) (l : LsA R H a xs) : Dp K H (.ref a) (.list (xs.map D)) := by
  obtain ⟨vs, e, p⟩ := l
  exact .lst (SqL.of e) (pw_dpAll h p)
theorem lay_all {n : Nat} : ∀ {xs : List α}, (∀ x ∈ xs, (D x).canLay0 = true ∧ (D x).depth ≤ n) → PyData.canLayAll0 (xs.map D) = true ∧ PyData.depthAll (xs.map D) ≤ n
  | [], _ => ⟨rfl, Nat.zero_le _⟩
  | x :: l, h => by
    obtain ⟨i1, i2⟩ := lay_all (xs := l) fun y hy => h y (List.mem_cons_of_mem _ hy)
    obtain ⟨h1, h2⟩ := h x List.mem_cons_self
    rw [List.map_cons, PyData.canLayAll0, PyData.depthAll, i1, h1]
    exact ⟨rfl, by omega⟩
theorem ls_lay {n : Nat} {xs : List α} (h : ∀ x ∈ xs, (D x).canLay0 = true ∧ (D x).depth ≤ n) : (PyData.list (xs.map D)).canLay0 = true ∧ (PyData.list (xs.map D)).depth ≤ n + 1 := by
  obtain ⟨h1, h2⟩ := lay_all h
  rw [PyData.canLay0, PyData.depth]
  exact ⟨h1, by omega⟩
theorem shaped_of {d : PyData} (h : d.canLay0 = true ∧ d.depth ≤ 64) : SeqAt.shaped d = true := by
  unfold SeqAt.shaped
  rw [h.1, decide_eq_true h.2]
  rfl
theorem ls_shaped {n : Nat} {xs : List α} (h : ∀ x ∈ xs, (D x).canLay0 = true ∧ (D x).depth ≤ n) (hn : n ≤ 63) : SeqAt.shaped (.list (xs.map D)) = true :=
  shaped_of ⟨(ls_lay h).1, Nat.le_trans (ls_lay h).2 (by omega)⟩
end
/-! ### a history, as data -/
def enD (e : Ent) : PyData := .tuple [.str e.1, .list (e.2.1.map itD), .list (e.2.2.map itD)]
def hsD (hs : List Ent) : PyData := .list (hs.map enD)
abbrev EntOk (e : Ent) : Prop := (∀ x ∈ e.2.1, PyData.strOk x.1 = true) ∧ (∀ x ∈ e.2.2, PyData.strOk x.1 = true) ∧ PyData.strOk e.1 = true
theorem it_lay {x : Itv} (h : PyData.strOk x.1 = true) : (itD x).canLay0 = true ∧ (itD x).depth ≤ 1 := by
  refine ⟨?_, by simp [itD, PyData.depth, PyData.depthAll]⟩
  unfold itD
  rw [PyData.canLay0, PyData.canLayAll0, PyData.canLayAll0, PyData.canLayAll0, PyData.canLay0, PyData.canLay0, h]
  rfl
theorem en_dp {K : PySem.W.Frag} {H : Hp} {v : V} {e : Ent} (h : EnA H v e) : Dp K H v (enD e) := by
  obtain ⟨t, r, w, rfl, ht, hr, hw⟩ := h
  exact .tup (.inl (.inl ht)) (.cons (.str _) (.cons (mem_Pr hr) (.cons (mem_Pr hw) .nil)))
theorem hs_dp {K : PySem.W.Frag} {H : Hp} {a : Addr} {hs : List Ent} (h : HsA H a hs) : Dp K H (.ref a) (hsD hs) := ls_dp (fun v x h => en_dp h) h
theorem en_lay {e : Ent} (h : EntOk e) : (enD e).canLay0 = true ∧ (enD e).depth ≤ 3 := by
  obtain ⟨h1, h2, h3⟩ := h
  have a1 := ls_lay (D := itD) (n := 1) fun x hx => it_lay (h1 x hx)
  have a2 := ls_lay (D := itD) (n := 1) fun x hx => it_lay (h2 x hx)
  unfold enD
  rw [PyData.canLay0, PyData.canLayAll0, PyData.canLayAll0, PyData.canLayAll0, PyData.canLayAll0, PyData.depth, PyData.depthAll, PyData.depthAll, PyData.depthAll, PyData.depthAll, a1.1, a2.1, PyData.canLay0, h3]
  refine ⟨rfl, ?_⟩
  have e1 : (PyData.str e.1).depth = 0 := by rw [PyData.depth]
  rw [e1]
  omega
theorem hs_lay {hs : List Ent} (h : ∀ e ∈ hs, EntOk e) : (hsD hs).canLay0 = true ∧ (hsD hs).depth ≤ 64 := by
  obtain ⟨h1, h2⟩ := ls_lay (D := enD) (n := 3) fun e he => en_lay (h e he)
  exact ⟨h1, Nat.le_trans h2 (by decide)⟩
end M

namespace M
open PySem PySem.Spec PyProof.Rows L2
/-- what is raised: an exception of the class at C whose own dict, new, holds ps -/
def Rz (E : XK) (C : Addr) (H : Hp) (ps : List (Str × V)) : Prop := ∀ d, H d = none → E (.ref C) (some d) (upd H d (.xd ps))
theorem Hx.keep {H0 H : Hp} {l : List (Addr × HO)} (x : Hx H0 H l) (n : ∀ z ∈ l, H0 z.1 = none) : Same H0 H := fun b o e => x.fr b o e fun z hz q => by
  have := n z hz
  rw [q, e] at this
  cases this
theorem putK_len {κ : Type} [DecidableEq κ] (kvs : List (κ × V)) (k : κ) (v : V) : (putK kvs k v).length ≤ kvs.length + 1 := by
  unfold putK
  split
  · rw [List.length_map]; omega
  · rw [List.length_append]; exact Nat.le_refl _
/-! ### lists of counts -/
def zL (l : List Nat) : List Int := l.map fun k : Nat => (k : Int)
theorem zL_len (l : List Nat) : (zL l).length = l.length := by unfold zL; rw [List.length_map]
theorem zL_at {l : List Nat} {i k : Nat} (h : l[i]? = some k) : ((zL l).map V.int)[i]? = some (.int (k : Nat)) := by
  unfold zL
  rw [List.map_map, List.getElem?_map, h]
  rfl
theorem zL_get {l : List Nat} {i : Nat} {v : V} (h : ((zL l).map V.int)[i]? = some v) : ∃ k, l[i]? = some k ∧ v = .int (k : Nat) := by
  unfold zL at h
  rw [List.map_map, List.getElem?_map] at h
  cases e : l[i]? with
  | none => rw [e] at h; cases h
  | some k => rw [e] at h; exact ⟨k, rfl, (Option.some.inj h).symm⟩
theorem zL_snoc (l : List Nat) (k : Nat) : (zL l).map V.int ++ [V.int (k : Nat)] = (zL (l ++ [k])).map V.int := by
  unfold zL
  simp
theorem zL_rg (n : Nat) : rgV 0 (n : Int) = (zL (List.range n)).map V.int := by
  unfold rgV zL
  rw [List.map_map, show ((n : Int) - 0).toNat = n from by omega]
  refine List.map_congr_left fun i _ => ?_
  show V.int (0 + (i : Int)) = V.int (i : Int)
  rw [Int.zero_add]
theorem flat_ints (l : List Int) : (l.map V.int).all flatV = true := by
  rw [List.all_map, List.all_eq_true]
  intro x _
  rfl
theorem inV_zL (k : Nat) (l : List Nat) : inV (.int (k : Nat)) ((zL l).map V.int) = decide (k ∈ l) := by
  unfold inV zL
  rw [List.map_map, List.any_map, Bool.eq_iff_iff, List.any_eq_true, decide_eq_true_iff]
  constructor
  · rintro ⟨y, hy, e⟩
    have e' : decide ((y : Int) = (k : Int)) = true := e
    have : y = k := by have := of_decide_eq_true e'; omega
    rw [← this]; exact hy
  · intro h
    exact ⟨k, h, decide_eq_true (rfl : (k : Int) = k)⟩
theorem zL_erase (l : List Nat) (j : Nat) : ((zL l).eraseIdx j) = zL (l.eraseIdx j) := by
  unfold zL
  induction l generalizing j with
  | nil => rfl
  | cons x l ih =>
    cases j with
    | zero => rfl
    | succ j => show _ :: ((l.map _).eraseIdx j) = _ :: _; rw [ih j]
def zlD (l : List Nat) : PyData := .list (l.map fun k => .int (k : Nat))
theorem zl_dp {K : PySem.W.Frag} {H : Hp} {a : Addr} {l : List Nat} (h : H a = some (.lst ((zL l).map V.int))) : Dp K H (.ref a) (zlD l) := by
  refine .lst (SqL.of h) ?_
  clear h
  unfold zL
  rw [List.map_map]
  induction l with
  | nil => exact .nil
  | cons x l ih => exact .cons (.int _) ih
theorem zl_lay (l : List Nat) : (zlD l).canLay0 = true ∧ (zlD l).depth ≤ 64 := by
  obtain ⟨h1, h2⟩ := ls_lay (D := fun k : Nat => PyData.int (k : Nat)) (n := 0) (xs := l) fun x _ => ⟨by rw [PyData.canLay0], by simp [PyData.depth]⟩
  exact ⟨h1, Nat.le_trans h2 (by decide)⟩
theorem filter_snoc {α : Type} (f : α → Bool) (l : List α) (x : α) : (l ++ [x]).filter f = l.filter f ++ if f x = true then [x] else [] := by
  rw [List.filter_append, List.filter_cons]
  split <;> rfl
theorem at_map {α : Type} {f : α → V} {l : List α} {i : Nat} {y : V} (h : (l.map f)[i]? = some y) : ∃ x, l[i]? = some x ∧ y = f x := by
  rw [List.getElem?_map] at h
  cases e : l[i]? with
  | none => rw [e] at h; cases h
  | some x => rw [e] at h; exact ⟨x, rfl, (Option.some.inj h).symm⟩
theorem take_snoc {α : Type} {l : List α} {i : Nat} {x : α} (h : l[i]? = some x) : l.take (i + 1) = l.take i ++ [x] := by rw [List.take_add_one, h]; rfl
/-- an index drawn -/
theorem drawn {d : Int} {n : Nat} (h : 0 < n) : ∃ k : Nat, d.fmod (n : Int) = (k : Int) ∧ k < n := by
  obtain ⟨k, hk⟩ := Int.eq_ofNat_of_zero_le (fm_nonneg d (m := (n : Int)) (by omega))
  exact ⟨k, hk, by have := fm_lt d (m := (n : Int)) (by omega); omega⟩
def tTruK (K : PySem.W.Frag) (ta : TE) : TT := fun σ H Q => ta σ H fun x H' => ∃ k, TruV K x H' k ∧ Q k H'
theorem same_t2 {K : PySem.W.Frag} {H H' : Hp} {a : Addr} {xs : List V} (e : ∀ o, H a = some o → H' a = some o) (h : SqT K H a xs) : SqT K H' a xs := by
  rcases h with (h | ⟨o, h⟩) | h
  · exact .inl (.inl (e _ h))
  · exact .inl (.inr ⟨o, e _ h⟩)
  · exact .inr h
theorem same_l2 {K : PySem.W.Frag} {H H' : Hp} {a : Addr} {xs : List V} (e : ∀ o, H a = some o → H' a = some o) (h : SqL K H a xs) : SqL K H' a xs := by
  rcases h with (h | ⟨o, h⟩) | h
  · exact .inl (.inl (e _ h))
  · exact .inl (.inr ⟨o, e _ h⟩)
  · exact .inr h
/-! ### dict comprehensions over a list that stays -/
theorem dc_list {K : PySem.W.Frag} {a : Addr} {xs : List V} {g : TG} {tt : TT} {tk tv : TE} {vs : List Nat} {σ : L2.St} {H1 : Hp} {D : Addr} {Qd : Hp → Prop} (Pv : Nat → Hp → Prop) (h0 : Pv 0 (upd H1 D (.dK []))) (hl : ∀ i H, i ≤ xs.length → Pv i H → SqL K H a xs)
    (hs : ∀ i x H, xs[i]? = some x → Pv i H → g x (wipe σ vs) H fun σ2 H2 => wipe σ2 vs = wipe σ vs ∧ tt σ2 H2 fun b H3 =>
      if b = true then tk σ2 H3 fun y H4 => tv σ2 H4 fun z H5 => ∃ kvs k, y = kV k ∧ H5 D = some (.dK kvs) ∧ kvs.length < sizeLine ∧ Pv (i + 1) (upd H5 D (.dK (putK kvs k z))) else Pv (i + 1) H3) (hd : ∀ H, Pv xs.length H → Qd H) :
    ∃ W : Nat → Nat → Hp → Prop, (∃ m, W 0 m (upd H1 D (.dK []))) ∧ ∀ i m H, W i m H →
      ((Itl K a).stop i H ∧ Qd H) ∨ ((Itl K a).go i H ∧ ∃ Nx : Hp → Prop, (∀ H', Nx H' → ∃ m', m' < m ∧ W (i + 1) m' H') ∧ ∀ x H', (Itl K a).yld i H x H' → g x (wipe σ vs) H' fun σ2 H2 => wipe σ2 vs = wipe σ vs ∧ tt σ2 H2 fun b H3 =>
        if b = true then tk σ2 H3 fun y H4 => tv σ2 H4 fun z H5 => ∃ kvs k, y = kV k ∧ H5 D = some (.dK kvs) ∧ kvs.length < sizeLine ∧ Nx (upd H5 D (.dK (putK kvs k z))) else Nx H3) := by
  refine ⟨fun i m H => m = xs.length - i ∧ i ≤ xs.length ∧ Pv i H, ⟨xs.length, by simp, Nat.zero_le _, h0⟩, ?_⟩
  rintro i m H ⟨rfl, hi, p⟩
  have q := hl i H hi p
  by_cases hlt : i < xs.length
  · refine .inr ⟨⟨xs, xs[i], q, by simp [hlt]⟩, Pv (i + 1), fun H' p' => ⟨xs.length - (i + 1), by omega, rfl, hlt, p'⟩, fun x H' y => ?_⟩
    obtain ⟨e, y⟩ := y
    subst e
    exact hs i x _ (y xs q) p
  · have e : i = xs.length := by omega
    subst e
    exact .inl ⟨⟨xs, q, Nat.le_refl _⟩, hd H p⟩
theorem find_none {κ : Type} [DecidableEq κ] {kvs : List (κ × V)} {k : κ} (h : valV kvs k = none) : (putK kvs k v).length = kvs.length + 1 := by
  unfold putK
  rw [valV_any, h]
  show (if (none : Option V).isSome = true then _ else _ : List (κ × V)).length = _
  rw [if_neg (by decide), List.length_append]
  rfl
end M

namespace M
open PySem PySem.Spec PyProof.Rows L2
theorem nodup_le {α : Type} [DecidableEq α] : ∀ {l m : List α}, l.Nodup → (∀ x ∈ l, x ∈ m) → l.length ≤ m.length
  | [], _, _, _ => Nat.zero_le _
  | x :: l, m, nd, h => by
    have n := List.nodup_cons.mp nd
    have h2 : l.length ≤ (m.erase x).length := nodup_le n.2 fun y hy => (List.mem_erase_of_ne (fun e => n.1 (by rw [← e]; exact hy))).mpr (h y (List.mem_cons_of_mem _ hy))
    have hx := h x List.mem_cons_self
    rw [List.length_erase_of_mem hx] at h2
    have := List.length_pos_of_mem hx
    rw [List.length_cons]
    omega
/-! ### kinds -/
def kinds : List Str := ["whole", "itemwise", "split", "overtaking", "passing"]
def kindsV : List V := kinds.map V.str
/-- None or a kind -/
def kindV : Option Str → V
  | none => .non
  | some s => .str s
def KindOk : Option Str → Prop
  | none => True
  | some s => s ∈ kinds
instance (k : Option Str) : Decidable (KindOk k) := by
  cases k with
  | none => exact .isTrue trivial
  | some s => exact (inferInstance : Decidable (s ∈ kinds))
/-! ### the ground of the laws on placements: sites, homes, lines, ways -/
structure Ln where
  nm : Str
  src : Str
  tgt : Str
  it : List Str
  kd : Option Str
abbrev Ways := Str → Str → Option (List Str)
structure Gd where
  sites : List Str
  homes : List (Str × Str)
  lines : List Ln
  ways : Ways
def Gd.goods (g : Gd) : List Str := g.homes.map (·.1)
/-- what a ground keeps while its lines are loaded -/
structure GdOk (g : Gd) : Prop where
  sN : g.sites.Nodup
  hN : g.goods.Nodup
  hS : ∀ h ∈ g.homes, h.2 ∈ g.sites
  lN : (g.lines.map (·.nm)).Nodup
  lE : ∀ l ∈ g.lines, l.src ∈ g.sites ∧ l.tgt ∈ g.sites ∧ l.src ≠ l.tgt
  lI : ∀ l ∈ g.lines, l.it.Nodup ∧ ∀ i ∈ l.it, i ∈ g.goods
  wH : ∀ h ∈ g.homes, g.ways h.1 h.2 = some []
  wL : ∀ l ∈ g.lines, ∀ i ∈ l.it, ∃ w, g.ways i l.src = some w ∧ g.ways i l.tgt = some (w ++ [l.nm])
  wD : ∀ i s w, g.ways i s = some w → (i, s) ∈ g.homes ∨ ∃ l ∈ g.lines, l.tgt = s ∧ i ∈ l.it
  u : ∀ (j k : Nat) l m i, g.lines[j]? = some l → g.lines[k]? = some m → l.tgt = m.tgt → i ∈ l.it → i ∈ m.it → j = k
def wSet (w : Ways) (i s : Str) (v : List Str) : Ways := fun i' s' => if i' = i ∧ s' = s then some v else w i' s'
theorem wSet_same {w : Ways} {i s : Str} {v : List Str} : wSet w i s v i s = some v := if_pos ⟨rfl, rfl⟩
theorem wSet_ne {w : Ways} {i s i' s' : Str} {v : List Str} (h : ¬ (i' = i ∧ s' = s)) : wSet w i s v i' s' = w i' s' := if_neg h
/-- one more item -/
def Ln.more (l : Ln) (i : Str) : Ln := { l with it := l.it ++ [i] }
def Gd.carry (g : Gd) (k : Nat) (l : Ln) (i : Str) (w : List Str) : Gd := { g with lines := g.lines.set k (l.more i), ways := wSet g.ways i l.tgt (w ++ [l.nm]) }
theorem mem_set_of {α : Type} {l : List α} {k : Nat} {x y : α} (h : y ∈ l.set k x) : y = x ∨ y ∈ l := by
  rcases List.mem_or_eq_of_mem_set h with h | h
  · exact .inr h
  · exact .inl h
theorem map_set_same {α β : Type} (f : α → β) {l : List α} {k : Nat} {x y : α} (h : l[k]? = some x) (e : f y = f x) : (l.set k y).map f = l.map f := by
  have hk := (List.getElem?_eq_some_iff.mp h).1
  have hx := (List.getElem?_eq_some_iff.mp h).2
  refine List.ext_getElem (by simp) fun j h1 h2 => ?_
  rw [List.getElem_map, List.getElem_map, List.getElem_set]
  split
  · rename_i q
    subst q
    rw [e, hx]
  · rfl
theorem GdOk.carry {g : Gd} (o : GdOk g) {k : Nat} {l : Ln} {i : Str} {w : List Str} (hl : g.lines[k]? = some l) (hi : i ∈ g.goods) (hw : g.ways i l.src = some w) (hn : g.ways i l.tgt = none) : GdOk (g.carry k l i w) := by
  have lm := List.mem_of_getElem? hl
  have hk := (List.getElem?_eq_some_iff.mp hl).1
  obtain ⟨e1, e2, e3⟩ := o.lE l lm
  have nin : ∀ m ∈ g.lines, m.tgt = l.tgt → i ∉ m.it := fun m hm e h => by
    obtain ⟨w', _, h2⟩ := o.wL m hm i h
    rw [e, hn] at h2
    cases h2
  have old : ∀ i' s' v, g.ways i' s' = some v → wSet g.ways i l.tgt (w ++ [l.nm]) i' s' = some v := fun i' s' v h => by
    rw [wSet_ne]
    · exact h
    · rintro ⟨rfl, rfl⟩
      rw [hn] at h
      cases h
  have at_ : ∀ (j : Nat) m, (g.lines.set k (l.more i))[j]? = some m → (j = k ∧ m = l.more i) ∨ (j ≠ k ∧ g.lines[j]? = some m) := fun j m h => by
    rw [List.getElem?_set] at h
    split at h
    · rename_i q
      exact .inl ⟨q.symm, (Option.some.inj h).symm⟩
    · rename_i q
      exact .inr ⟨fun z => q z.symm, h⟩
  refine ⟨o.sN, o.hN, o.hS, ?_, ?_, ?_, ?_, ?_, ?_, ?_⟩
  · show ((g.lines.set k (l.more i)).map (·.nm)).Nodup
    rw [map_set_same (y := l.more i) (fun x : Ln => x.nm) hl rfl]
    exact o.lN
  · intro m hm
    rcases mem_set_of hm with rfl | hm
    · exact ⟨e1, e2, e3⟩
    · exact o.lE m hm
  · intro m hm
    rcases mem_set_of hm with rfl | hm
    · refine ⟨List.nodup_append.mpr ⟨(o.lI l lm).1, List.pairwise_singleton _ _, fun a ha b hb e => ?_⟩, fun j hj => ?_⟩
      · rw [List.mem_singleton.mp hb] at e
        exact nin l lm rfl (by rw [← e]; exact ha)
      · rcases List.mem_append.mp hj with hj | hj
        · exact (o.lI l lm).2 j hj
        · rw [List.mem_singleton.mp hj]; exact hi
    · exact o.lI m hm
  · exact fun h hh => old _ _ _ (o.wH h hh)
  · intro m hm j hj
    have key : ∀ m ∈ g.lines, j ∈ m.it → ∃ w', wSet g.ways i l.tgt (w ++ [l.nm]) j m.src = some w' ∧ wSet g.ways i l.tgt (w ++ [l.nm]) j m.tgt = some (w' ++ [m.nm]) := fun m hm hj => by
      obtain ⟨w', h1, h2⟩ := o.wL m hm j hj
      exact ⟨w', old _ _ _ h1, old _ _ _ h2⟩
    rcases mem_set_of hm with rfl | hm
    · rcases List.mem_append.mp hj with hj | hj
      · exact key l lm hj
      · rw [List.mem_singleton.mp hj]
        exact ⟨w, old _ _ _ hw, wSet_same⟩
    · exact key m hm hj
  · intro i' s' v h
    by_cases q : i' = i ∧ s' = l.tgt
    · obtain ⟨rfl, rfl⟩ := q
      exact .inr ⟨l.more i', List.mem_set hk _, rfl, by simp [Ln.more]⟩
    · have h' : g.ways i' s' = some v := by
        have z : wSet g.ways i l.tgt (w ++ [l.nm]) i' s' = some v := h
        rwa [wSet_ne q] at z
      rcases o.wD i' s' v h' with h2 | ⟨m, hm, h2, h3⟩
      · exact .inl h2
      · obtain ⟨j, hj⟩ := List.getElem?_of_mem hm
        by_cases e : j = k
        · subst e
          rw [hl] at hj
          cases hj
          exact .inr ⟨l.more i, List.mem_set hk _, h2, List.mem_append_left _ h3⟩
        · refine .inr ⟨m, List.mem_of_getElem? (i := j) ?_, h2, h3⟩
          show (g.lines.set k (l.more i))[j]? = some m
          rw [List.getElem?_set_ne (Ne.symm e)]
          exact hj
  · intro j k' a b i' ha hb ht h1 h2
    rcases at_ j a ha with ⟨e1, e2⟩ | ⟨n1, ha'⟩ <;> rcases at_ k' b hb with ⟨e3, e4⟩ | ⟨n2, hb'⟩
    · rw [e1, e3]
    · subst e2
      rcases List.mem_append.mp h1 with h1 | h1
      · rw [e1]
        exact o.u _ _ l b i' hl hb' ht h1 h2
      · rw [List.mem_singleton.mp h1] at h2
        exact absurd h2 (nin b (List.mem_of_getElem? hb') ht.symm)
    · subst e4
      rcases List.mem_append.mp h2 with h2 | h2
      · rw [e3]
        exact o.u _ _ a l i' ha' hl ht h1 h2
      · rw [List.mem_singleton.mp h2] at h1
        exact absurd h1 (nin a (List.mem_of_getElem? ha') ht)
    · exact o.u _ _ a b i' ha' hb' ht h1 h2
/-- lines that carry nothing are left out -/
def Gd.drop (g : Gd) : Gd := { g with lines := g.lines.filter fun l => !l.it.isEmpty }
theorem GdOk.drop {g : Gd} (o : GdOk g) : GdOk g.drop := by
  have mem : ∀ {l}, l ∈ g.drop.lines → l ∈ g.lines := fun h => (List.mem_filter.mp h).1
  have keep : ∀ {l} {i}, l ∈ g.lines → i ∈ l.it → l ∈ g.drop.lines := fun {l i} h hi => List.mem_filter.mpr ⟨h, by
    cases e : l.it with
    | nil => rw [e] at hi; cases hi
    | cons a r => rfl⟩
  have nn : g.lines.Pairwise fun l m => ¬ (l.tgt = m.tgt ∧ ∃ i, i ∈ l.it ∧ i ∈ m.it) := List.pairwise_iff_getElem.mpr fun j k hj hk jk ⟨ht, i, h1, h2⟩ => by
    have := o.u j k _ _ i (List.getElem?_eq_getElem hj) (List.getElem?_eq_getElem hk) ht h1 h2
    omega
  have nd : g.drop.lines.Pairwise fun l m => ¬ (l.tgt = m.tgt ∧ ∃ i, i ∈ l.it ∧ i ∈ m.it) := nn.sublist List.filter_sublist
  refine ⟨o.sN, o.hN, o.hS, o.lN.sublist (List.filter_sublist.map _), fun l h => o.lE l (mem h), fun l h => o.lI l (mem h), o.wH, fun l h => o.wL l (mem h), fun i s w h => ?_, fun j k l m i hj hk ht h1 h2 => ?_⟩
  · rcases o.wD i s w h with h | ⟨l, h1, h2, h3⟩
    · exact .inl h
    · exact .inr ⟨l, keep h1 h3, h2, h3⟩
  · obtain ⟨j1, j2⟩ := List.getElem?_eq_some_iff.mp hj
    obtain ⟨k1, k2⟩ := List.getElem?_eq_some_iff.mp hk
    rcases Nat.lt_trichotomy j k with q | q | q
    · exact absurd ⟨by rw [j2, k2]; exact ht, i, by rw [j2]; exact h1, by rw [k2]; exact h2⟩ (List.pairwise_iff_getElem.mp nd j k j1 k1 q)
    · exact q
    · exact absurd ⟨by rw [j2, k2]; exact ht.symm, i, by rw [k2]; exact h2, by rw [j2]; exact h1⟩ (List.pairwise_iff_getElem.mp nd k j k1 j1 q)
section
variable {g : Gd} (o : GdOk g)
include o
theorem GdOk.homeU {i h h' : Str} (a : (i, h) ∈ g.homes) (b : (i, h') ∈ g.homes) : h = h' := by
  obtain ⟨j, hj, e⟩ := List.getElem_of_mem a
  obtain ⟨k, hk, e'⟩ := List.getElem_of_mem b
  have q : g.goods[j]'(by simpa [Gd.goods] using hj) = g.goods[k]'(by simpa [Gd.goods] using hk) := by simp [Gd.goods, e, e']
  have := (List.getElem_inj o.hN).mp q
  subst this
  rw [e] at e'
  exact (Prod.mk.inj e').2
theorem GdOk.step {i s : Str} {w : List Str} (h : g.ways i s = some w) (n : w ≠ []) : ∃ l ∈ g.lines, l.tgt = s ∧ i ∈ l.it ∧ ∃ w', g.ways i l.src = some w' ∧ w = w' ++ [l.nm] := by
  rcases o.wD i s w h with a | ⟨l, hl, e, hi⟩
  · have := o.wH _ a
    rw [h] at this
    exact absurd (Option.some.inj this) n
  · obtain ⟨w', h1, h2⟩ := o.wL l hl i hi
    rw [e, h] at h2
    exact ⟨l, hl, e, hi, w', h1, Option.some.inj h2⟩
theorem GdOk.atHome {i s hm : Str} {w : List Str} (h : g.ways i s = some w) (a : (i, hm) ∈ g.homes) : w = [] ↔ s = hm := by
  constructor
  · rintro rfl
    rcases o.wD i s [] h with b | ⟨l, hl, e, hi⟩
    · exact o.homeU b a
    · obtain ⟨w', _, h2⟩ := o.wL l hl i hi
      rw [e, h] at h2
      have := congrArg List.length (Option.some.inj h2)
      simp at this
  · rintro rfl
    have := o.wH _ a
    rw [h] at this
    exact Option.some.inj this
theorem GdOk.lineU {l m : Ln} (a : l ∈ g.lines) (b : m ∈ g.lines) (e : l.nm = m.nm) : l = m := by
  obtain ⟨j, hj, e1⟩ := List.getElem_of_mem a
  obtain ⟨k, hk, e2⟩ := List.getElem_of_mem b
  have q : (g.lines.map (·.nm))[j]'(by simpa using hj) = (g.lines.map (·.nm))[k]'(by simpa using hk) := by simp [e1, e2, e]
  have := (List.getElem_inj o.lN).mp q
  subst this
  rw [← e1, ← e2]
theorem GdOk.bringU {l m : Ln} {i : Str} (a : l ∈ g.lines) (b : m ∈ g.lines) (e : l.tgt = m.tgt) (h1 : i ∈ l.it) (h2 : i ∈ m.it) : l = m := by
  obtain ⟨j, hj⟩ := List.getElem?_of_mem a
  obtain ⟨k, hk⟩ := List.getElem?_of_mem b
  have := o.u j k l m i hj hk e h1 h2
  subst this
  rw [hj] at hk
  exact Option.some.inj hk
theorem GdOk.wayMem : ∀ (n : Nat) {i s : Str} {w : List Str}, w.length = n → g.ways i s = some w → ∀ x ∈ w, ∃ m ∈ g.lines, m.nm = x ∧ i ∈ m.it ∧ ∃ u, g.ways i m.tgt = some u ∧ u.length ≤ w.length
  | 0, _, _, [], _, _, x, hx => by cases hx
  | n + 1, i, s, w, hn, h, x, hx => by
    obtain ⟨l, hl, e, hi, w', h1, rfl⟩ := o.step h (fun z => by rw [z] at hn; cases hn)
    rcases List.mem_append.mp hx with hx | hx
    · obtain ⟨m, hm, e1, hi1, u, h2, h3⟩ := GdOk.wayMem n (w := w') (by simpa using hn) h1 x hx
      exact ⟨m, hm, e1, hi1, u, h2, by simp; omega⟩
    · rw [List.mem_singleton.mp hx]
      exact ⟨l, hl, rfl, hi, _, by rw [e]; exact h, Nat.le_refl _⟩
theorem GdOk.wayNew {i : Str} {l : Ln} {w : List Str} (hl : l ∈ g.lines) (h : g.ways i l.tgt = some (w ++ [l.nm])) (h' : g.ways i l.src = some w) : l.nm ∉ w := fun hx => by
  obtain ⟨m, hm, e, hi, u, h2, h3⟩ := o.wayMem _ rfl h' l.nm hx
  have := o.lineU hm hl e
  subst this
  rw [h] at h2
  have := congrArg List.length (Option.some.inj h2)
  simp at this
  omega
theorem GdOk.wayNodup : ∀ (n : Nat) {i s : Str} {w : List Str}, w.length = n → g.ways i s = some w → w.Nodup
  | 0, _, _, [], _, _ => List.nodup_nil
  | n + 1, i, s, w, hn, h => by
    obtain ⟨l, hl, e, hi, w', h1, rfl⟩ := o.step h (fun z => by rw [z] at hn; cases hn)
    refine List.nodup_append.mpr ⟨GdOk.wayNodup n (by simpa using hn) h1, List.pairwise_singleton _ _, fun a ha b hb e2 => ?_⟩
    rw [List.mem_singleton.mp hb] at e2
    exact o.wayNew hl (by rw [e]; exact h) h1 (by rw [← e2]; exact ha)
theorem GdOk.wayLen {i s : Str} {w : List Str} (h : g.ways i s = some w) : w.length ≤ g.lines.length := by
  have := nodup_le (o.wayNodup _ rfl h) (m := g.lines.map (·.nm)) fun x hx => by
    obtain ⟨m, hm, e, _⟩ := o.wayMem _ rfl h x hx
    exact List.mem_map.mpr ⟨m, hm, e⟩
  rwa [List.length_map] at this
theorem GdOk.itLen {l : Ln} (h : l ∈ g.lines) : l.it.length ≤ g.goods.length := nodup_le (o.lI l h).1 (o.lI l h).2
theorem GdOk.siteIn {i s : Str} {w : List Str} (h : g.ways i s = some w) : i ∈ g.goods ∧ s ∈ g.sites := by
  rcases o.wD i s w h with a | ⟨l, hl, e, hi⟩
  · exact ⟨List.mem_map.mpr ⟨_, a, rfl⟩, o.hS _ a⟩
  · exact ⟨(o.lI l hl).2 i hi, by rw [← e]; exact (o.lE l hl).2.1⟩
end
end M

namespace M
open PySem PySem.Spec PyProof.Rows L2
/-! ### a ground laid out in the heap, while it is made -/
def k2 (i s : Str) : List L2.Key := [Sum.inr i, Sum.inr s]
theorem k2_inj {i s i' s' : Str} (h : k2 i s = k2 i' s') : i = i' ∧ s = s' := by
  have h1 := List.cons.inj h
  have h2 := List.cons.inj h1.2
  exact ⟨Sum.inr.inj h1.1, Sum.inr.inj h2.1⟩
/-- the ways' dict: each known way a list that stands in Hc -/
structure WyS (Hc : Hp) (kvs : List (List L2.Key × V)) (w : Ways) : Prop where
  some_ : ∀ i s v, w i s = some v → ∃ a, valV kvs (k2 i s) = some (.ref a) ∧ Hc a = some (.lst (v.map V.str))
  none_ : ∀ i s, w i s = none → valV kvs (k2 i s) = none
  keys : ∀ e ∈ kvs, ∃ i s, e.1 = k2 i s
  nd : (kvs.map (·.1)).Nodup
theorem putK_nd {κ : Type} [DecidableEq κ] {kvs : List (κ × V)} {k : κ} {v : V} (h : (kvs.map (·.1)).Nodup) : ((putK kvs k v).map (·.1)).Nodup := by
  unfold putK
  split
  · have e : (kvs.map fun kv => if kv.1 = k then (kv.1, v) else kv).map (·.1) = kvs.map (·.1) := by
      rw [List.map_map]
      refine List.map_congr_left fun x _ => ?_
      show (if x.1 = k then (x.1, v) else x).1 = x.1
      split <;> rfl
    rw [e]
    exact h
  · rename_i q
    rw [List.map_append]
    refine List.nodup_append.mpr ⟨h, List.pairwise_singleton _ _, fun a ha b hb e => q ?_⟩
    obtain ⟨x, hx, rfl⟩ := List.mem_map.mp ha
    have e2 : x.1 = k := e.trans (List.mem_singleton.mp hb)
    exact List.any_eq_true.mpr ⟨x, hx, decide_eq_true e2⟩
theorem WyS.same {Hc Hc' : Hp} {kvs : List (List L2.Key × V)} {w : Ways} (x : WyS Hc kvs w) (s : Same Hc Hc') : WyS Hc' kvs w :=
  ⟨fun i t v h => let ⟨a, h1, h2⟩ := x.some_ i t v h; ⟨a, h1, s _ _ h2⟩, x.none_, x.keys, x.nd⟩
theorem putK_mem {κ : Type} [DecidableEq κ] {kvs : List (κ × V)} {k : κ} {v : V} {e : κ × V} (h : e ∈ putK kvs k v) : e.1 = k ∨ ∃ e' ∈ kvs, e'.1 = e.1 := by
  unfold putK at h
  split at h
  · obtain ⟨e', h1, h2⟩ := List.mem_map.mp h
    refine .inr ⟨e', h1, ?_⟩
    rw [← h2]
    split <;> rfl
  · rcases List.mem_append.mp h with h | h
    · exact .inr ⟨e, h, rfl⟩
    · rw [List.mem_singleton.mp h]; exact .inl rfl
theorem WyS.put {Hc : Hp} {kvs : List (List L2.Key × V)} {w : Ways} (x : WyS Hc kvs w) {i s : Str} {v : List Str} {a : Addr} (h : Hc a = some (.lst (v.map V.str))) : WyS Hc (putK kvs (k2 i s) (.ref a)) (wSet w i s v) := by
  refine ⟨fun i' s' v' h' => ?_, fun i' s' h' => ?_, fun e he => ?_, putK_nd x.nd⟩
  · rw [valV_put]
    by_cases e : i' = i ∧ s' = s
    · obtain ⟨rfl, rfl⟩ := e
      rw [wSet_same] at h'
      cases h'
      exact ⟨a, if_pos rfl, h⟩
    · rw [wSet_ne e] at h'
      rw [if_neg (fun q => e (k2_inj q))]
      exact x.some_ i' s' v' h'
  · rw [valV_put]
    by_cases e : i' = i ∧ s' = s
    · obtain ⟨rfl, rfl⟩ := e
      rw [wSet_same] at h'
      cases h'
    · rw [wSet_ne e] at h'
      rw [if_neg (fun q => e (k2_inj q))]
      exact x.none_ i' s' h'
  · rcases putK_mem he with q | ⟨e', h1, h2⟩
    · exact ⟨i, s, q⟩
    · obtain ⟨i', s', q⟩ := x.keys e' h1
      exact ⟨i', s', by rw [← h2]; exact q⟩
/-- the lines' lists of items -/
def itT (as : List Addr) (ls : List Ln) : List (Addr × HO) := List.zipWith (fun a l => (a, .lst (l.it.map V.str))) as ls
theorem itT_fst {as : List Addr} {ls : List Ln} (h : as.length = ls.length) : (itT as ls).map (·.1) = as := by
  unfold itT
  rw [List.map_zipWith]
  induction as generalizing ls with
  | nil => rfl
  | cons a as ih =>
    cases ls with
    | nil => cases h
    | cons l ls =>
      show a :: _ = _
      rw [ih (by simpa using h)]
theorem itT_at {as : List Addr} {ls : List Ln} {k : Nat} {a : Addr} {l : Ln} (h1 : as[k]? = some a) (h2 : ls[k]? = some l) : (itT as ls)[k]? = some (a, .lst (l.it.map V.str)) := by
  unfold itT
  rw [List.getElem?_zipWith, h1, h2]
theorem itT_set {as : List Addr} {ls : List Ln} {k : Nat} {a : Addr} (h1 : as[k]? = some a) (l' : Ln) : (itT as ls).set k (a, .lst (l'.it.map V.str)) = itT as (ls.set k l') := by
  unfold itT
  induction as generalizing ls k with
  | nil => cases h1
  | cons b as ih =>
    cases ls with
    | nil => cases k <;> rfl
    | cons l ls =>
      cases k with
      | zero => cases h1; rfl
      | succ k =>
        show _ :: _ = _ :: _
        rw [ih (by simpa using h1)]
theorem itT_get {as : List Addr} {ls : List Ln} {k : Nat} {z : Addr × HO} (h : (itT as ls)[k]? = some z) : ∃ a l, as[k]? = some a ∧ ls[k]? = some l ∧ z = (a, .lst (l.it.map V.str)) := by
  unfold itT at h
  rw [List.getElem?_zipWith] at h
  cases e1 : as[k]? with
  | none => rw [e1] at h; cases h
  | some a =>
    cases e2 : ls[k]? with
    | none => rw [e1, e2] at h; cases h
    | some l => rw [e1, e2] at h; exact ⟨a, l, rfl, rfl, (Option.some.inj h).symm⟩
/-- a line as _law_rows keeps it: a list, its items a list of their own -/
def rwV (l : Ln) (a : Addr) : List V := [.str l.nm, .str l.src, .str l.tgt, .ref a, kindV l.kd]
structure RwS (Hc : Hp) (as : List Addr) (rws : List V) (ls : List Ln) : Prop where
  al : as.length = ls.length
  rl : rws.length = ls.length
  at_ : ∀ (k : Nat) l a, ls[k]? = some l → as[k]? = some a → ∃ r, rws[k]? = some (.ref r) ∧ Hc r = some (.lst (rwV l a))
theorem RwS.same {Hc Hc' : Hp} {as : List Addr} {rws : List V} {ls : List Ln} (x : RwS Hc as rws ls) (s : Same Hc Hc') : RwS Hc' as rws ls :=
  ⟨x.al, x.rl, fun k l a h1 h2 => let ⟨r, h3, h4⟩ := x.at_ k l a h1 h2; ⟨r, h3, s _ _ h4⟩⟩
theorem RwS.set {Hc : Hp} {as : List Addr} {rws : List V} {ls : List Ln} (x : RwS Hc as rws ls) {k : Nat} {l : Ln} (h : ls[k]? = some l) (i : Str) : RwS Hc as rws (ls.set k (l.more i)) := by
  refine ⟨by rw [List.length_set]; exact x.al, by rw [List.length_set]; exact x.rl, fun j m a h1 h2 => ?_⟩
  rw [List.getElem?_set] at h1
  split at h1
  · rename_i q
    subst q
    rw [if_pos (List.getElem?_eq_some_iff.mp h).1] at h1
    cases h1
    exact x.at_ k l a h h2
  · exact x.at_ j m a h1 h2
/-- the ground's objects: over H0, the draws at p, the ways at W, the items' lists at as; all else stays -/
structure Gr (H0 H : Hp) (p W : Addr) (as : List Addr) (ds : List Int) (kvs : List (List L2.Key × V)) (rws : List V) (g : Gd) : Prop where
  x : Hx H0 H ((p, .lst (ds.map V.int)) :: (W, .dT kvs) :: itT as g.lines)
  r : RwS (cut H (p :: W :: as)) as rws g.lines
  w : WyS (cut H (p :: W :: as)) kvs g.ways
section
variable {H0 H H' : Hp} {p W : Addr} {as : List Addr} {ds : List Int} {kvs : List (List L2.Key × V)} {rws : List V} {g : Gd}
theorem Gr.same (x : Gr H0 H p W as ds kvs rws g) (s : Same H H') : Gr H0 H' p W as ds kvs rws g := ⟨x.x.same s, x.r.same (cut_same s), x.w.same (cut_same s)⟩
theorem Gr.draw (x : Gr H0 H p W as ds kvs rws g) (ds' : List Int) : Gr H0 (upd H p (.lst (ds'.map V.int))) p W as ds' kvs rws g :=
  ⟨x.x.set 0 rfl, by rw [cut_upd (by simp)]; exact x.r, by rw [cut_upd (by simp)]; exact x.w⟩
theorem Gr.hp (x : Gr H0 H p W as ds kvs rws g) : H p = some (.lst (ds.map V.int)) := x.x.get 0 rfl
theorem Gr.hW (x : Gr H0 H p W as ds kvs rws g) : H W = some (.dT kvs) := x.x.get 1 rfl
theorem Gr.ha (x : Gr H0 H p W as ds kvs rws g) {k : Nat} {a : Addr} {l : Ln} (h1 : as[k]? = some a) (h2 : g.lines[k]? = some l) : H a = some (.lst (l.it.map V.str)) :=
  x.x.get (k + 2) (by rw [List.getElem?_cons_succ, List.getElem?_cons_succ]; exact itT_at h1 h2)
theorem Gr.item (x : Gr H0 H p W as ds kvs rws g) {k : Nat} {a : Addr} {l : Ln} (h1 : as[k]? = some a) (h2 : g.lines[k]? = some l) (i : Str) :
    Gr H0 (upd H a (.lst ((l.more i).it.map V.str))) p W as ds kvs rws { g with lines := g.lines.set k (l.more i) } := by
  have am : a ∈ p :: W :: as := by
    have := List.mem_of_getElem? h1
    simp [this]
  refine ⟨?_, by rw [cut_upd am]; exact x.r.set h2 i, by rw [cut_upd am]; exact x.w⟩
  have z := x.x.set (o' := .lst ((l.more i).it.map V.str)) (k + 2) (by rw [List.getElem?_cons_succ, List.getElem?_cons_succ]; exact itT_at h1 h2)
  rw [List.set_cons_succ, List.set_cons_succ, itT_set h1] at z
  exact z
theorem Gr.way (x : Gr H0 H p W as ds kvs rws g) {i s : Str} {v : List Str} {a : Addr} (h : cut H (p :: W :: as) a = some (.lst (v.map V.str))) :
    Gr H0 (upd H W (.dT (putK kvs (k2 i s) (.ref a)))) p W as ds (putK kvs (k2 i s) (.ref a)) rws { g with ways := wSet g.ways i s v } :=
  ⟨x.x.set 1 rfl, by rw [cut_upd (by simp)]; exact x.r, by rw [cut_upd (by simp)]; exact x.w.put h⟩
theorem Gr.out (x : Gr H0 H p W as ds kvs rws g) {T : Addr} (n : H T = none) : T ∉ p :: W :: as := fun h => by
  refine x.x.out n ?_
  rw [List.map_cons, List.map_cons, itT_fst x.r.al]
  exact h
theorem WyS.isSome {Hc : Hp} {w : Ways} (x : WyS Hc kvs w) (i s : Str) : (valV kvs (k2 i s)).isSome = (w i s).isSome := by
  cases e : w i s with
  | none => rw [x.none_ i s e]; rfl
  | some v => obtain ⟨a, h, _⟩ := x.some_ i s v e; rw [h]; rfl
end
def able (w : Ways) (l : Ln) (i : Str) : Bool := (w i l.src).isSome && !(w i l.tgt).isSome
theorem Hx.more {H0 H : Hp} {l l' : List (Addr × HO)} (x : Hx H0 H l) (h : ∀ z ∈ l', H z.1 = some z.2) (n : (l'.map (·.1)).Nodup) (s : ∀ z ∈ l, z.1 ∈ l'.map (·.1) ∨ H0 z.1 = none) : Hx H0 H l' :=
  ⟨h, n, fun b o hb nb => x.fr b o hb fun z hz e => by
    rcases s z hz with q | q
    · obtain ⟨y, hy, q⟩ := List.mem_map.mp q
      exact nb y hy (by rw [q, e])
    · rw [e, hb] at q; cases q⟩
theorem cut_sub {H : Hp} {A B : List Addr} (s : ∀ a ∈ B, a ∈ A) : Same (cut H A) (cut H B) := fun b o e => by
  by_cases q : b ∈ A
  · rw [cut_in q] at e; cases e
  · rw [cut_out q] at e
    rw [cut_out fun h => q (s b h)]
    exact e
theorem cut_grow {H H' : Hp} {A : List Addr} {T : Addr} (s : Same H H') (n : H T = none) : Same (cut H A) (cut H' (T :: A)) := fun b u e => by
  by_cases q : b ∈ A
  · rw [cut_in q] at e; cases e
  · rw [cut_out q] at e
    have ne := ne_of_none e n
    rw [cut_out (fun z => (List.mem_cons.mp z).elim ne q)]
    exact s b u e
theorem cut_mem {H : Hp} {A : List Addr} {b : Addr} {o : HO} (e : cut H A b = some o) : b ∉ A := fun q => by rw [cut_in q] at e; cases e
/-- a pair of texts as a tuple -/
def PsA (H : Hp) (v : V) (x : Str × Str) : Prop := ∃ t, v = .ref t ∧ H t = some (.tup [.str x.1, .str x.2])
theorem stPs : Stay PsA := fun H H' v x s ⟨t, e, h⟩ => ⟨t, e, s _ _ h⟩
/-- the homes alone -/
def ways0 (hs : List (Str × Str)) : Ways := fun i s => if (i, s) ∈ hs then some [] else none
theorem ways0_snoc (hs : List (Str × Str)) (i s : Str) : wSet (ways0 hs) i s [] = ways0 (hs ++ [(i, s)]) := by
  funext i' s'
  unfold wSet ways0
  by_cases e : i' = i ∧ s' = s
  · rw [if_pos e, if_pos (by rw [e.1, e.2]; simp)]
  · rw [if_neg e]
    by_cases m : (i', s') ∈ hs
    · rw [if_pos m, if_pos (List.mem_append_left _ m)]
    · rw [if_neg m, if_neg]
      intro h
      rcases List.mem_append.mp h with h | h
      · exact m h
      · exact e (by have := List.mem_singleton.mp h; exact ⟨congrArg Prod.fst this, congrArg Prod.snd this⟩)
/-- lines that carry nothing yet -/
structure Ln0 (KP : Option Str → Prop) (sites names : List Str) (ls : List Ln) : Prop where
  e : ∀ l ∈ ls, l.it = [] ∧ l.src ∈ sites ∧ l.tgt ∈ sites ∧ l.src ≠ l.tgt ∧ KP l.kd ∧ l.nm ∈ names
  n : (ls.map (·.nm)).Nodup
theorem gd0 {KP : Option Str → Prop} {sites : List Str} {homes : List (Str × Str)} {names : List Str} {ls : List Ln} (sN : sites.Nodup) (hN : (homes.map (·.1)).Nodup) (hS : ∀ h ∈ homes, h.2 ∈ sites) (l0 : Ln0 KP sites names ls) : GdOk ⟨sites, homes, ls, ways0 homes⟩ where
  sN := sN
  hN := hN
  hS := hS
  lN := l0.n
  lE := fun l hl => let ⟨_, a, b, c, _⟩ := l0.e l hl; ⟨a, b, c⟩
  lI := fun l hl => by
    have := (l0.e l hl).1
    rw [this]
    exact ⟨List.nodup_nil, fun i h => by cases h⟩
  wH := fun h hh => if_pos hh
  wL := fun l hl i hi => by
    rw [(l0.e l hl).1] at hi
    cases hi
  wD := fun i s w h => by
    left
    have h' : (if (i, s) ∈ homes then some [] else none) = some w := h
    split at h'
    · assumption
    · cases h'
  u := fun j k l m i hj _ _ hi _ => by
    rw [(l0.e l (List.mem_of_getElem? hj)).1] at hi
    cases hi
theorem snoc_at {α : Type} {l : List α} {x y : α} {k : Nat} (h : (l ++ [x])[k]? = some y) : (l[k]? = some y ∧ k < l.length) ∨ (y = x ∧ k = l.length) := by
  by_cases hp : k < l.length
  · rw [List.getElem?_append_left hp] at h
    exact .inl ⟨h, hp⟩
  · rw [List.getElem?_append_right (by omega)] at h
    have := (List.getElem?_eq_some_iff.mp h).1
    have e0 : k - l.length = 0 := by simp at this; omega
    rw [e0] at h
    exact .inr ⟨(Option.some.inj h).symm, by omega⟩
theorem RwS.snoc {Hc : Hp} {as : List Addr} {rws : List V} {ls : List Ln} (x : RwS Hc as rws ls) {l : Ln} {a r : Addr} (h : Hc r = some (.lst (rwV l a))) : RwS Hc (as ++ [a]) (rws ++ [V.ref r]) (ls ++ [l]) := by
  refine ⟨by simp [x.al], by simp [x.rl], fun k m b h1 h2 => ?_⟩
  rcases snoc_at h1 with ⟨h1, k1⟩ | ⟨rfl, k1⟩
  · rcases snoc_at h2 with ⟨h2, k2⟩ | ⟨rfl, k2⟩
    · obtain ⟨r', h3, h4⟩ := x.at_ k m b h1 h2
      exact ⟨r', by rw [List.getElem?_append_left (by rw [x.rl]; exact k1)]; exact h3, h4⟩
    · have := x.al; omega
  · rcases snoc_at h2 with ⟨h2, k2⟩ | ⟨rfl, k2⟩
    · have := x.al; omega
    · refine ⟨r, ?_, h⟩
      rw [List.getElem?_append_right (by rw [x.rl]; omega), x.rl, k1]
      simp
theorem Ln0.grow {KP : Option Str → Prop} {sites names : List Str} {k : Nat} {ls : List Ln} (x : Ln0 KP sites (names.take k) ls) : Ln0 KP sites (names.take (k + 1)) ls :=
  ⟨fun l hl => let ⟨a, b, c, d, e, f⟩ := x.e l hl; ⟨a, b, c, d, e, List.take_subset_take_left names (Nat.le_succ k) f⟩, x.n⟩
theorem Ln0.snoc {KP : Option Str → Prop} {sites names : List Str} {k : Nat} {ls : List Ln} (x : Ln0 KP sites (names.take k) ls) {l : Ln} (hk : names[k]? = some l.nm) (nd : names.Nodup) (h : l.it = [] ∧ l.src ∈ sites ∧ l.tgt ∈ sites ∧ l.src ≠ l.tgt ∧ KP l.kd) : Ln0 KP sites (names.take (k + 1)) (ls ++ [l]) := by
  have eT := take_snoc hk
  have nn : l.nm ∉ names.take k := fun q => by
    have := List.nodup_append.mp (by rw [← eT]; exact nd.sublist (List.take_sublist _ _) : (names.take k ++ [l.nm]).Nodup)
    exact this.2.2 _ q _ (List.mem_singleton.mpr rfl) rfl
  refine ⟨fun m hm => ?_, ?_⟩
  · rcases List.mem_append.mp hm with hm | hm
    · exact x.grow.e m hm
    · rw [List.mem_singleton.mp hm, eT]
      exact ⟨h.1, h.2.1, h.2.2.1, h.2.2.2.1, h.2.2.2.2, by simp⟩
  · rw [List.map_append]
    refine List.nodup_append.mpr ⟨x.n, List.pairwise_singleton _ _, fun a ha b hb e => ?_⟩
    obtain ⟨m, hm, rfl⟩ := List.mem_map.mp ha
    rw [List.mem_singleton.mp hb] at e
    have e' : m.nm = l.nm := e
    exact nn (by rw [← e']; exact (x.e m hm).2.2.2.2.2)
theorem zip_filter_snd {α β : Type} (f : β → Bool) : ∀ (as : List α) (ls : List β), as.length = ls.length → ((as.zip ls).filter fun z => f z.2).map (·.2) = ls.filter f
  | [], [], _ => rfl
  | [], _ :: _, h => by cases h
  | _ :: _, [], h => by cases h
  | a :: as, l :: ls, h => by
    have ih := zip_filter_snd f as ls (by simpa using h)
    rw [List.zip_cons_cons, List.filter_cons, List.filter_cons]
    show List.map _ (if f l = true then _ else _) = _
    by_cases q : f l = true
    · rw [if_pos q, if_pos q, List.map_cons, ih]
    · rw [if_neg q, if_neg q, ih]
theorem zip_fst_sub0 {α β : Type} : ∀ (as : List α) (ls : List β), ((as.zip ls).map (·.1)).Sublist as
  | [], ls => by simp
  | a :: as, [] => by simp
  | a :: as, l :: ls => (zip_fst_sub0 as ls).cons_cons a
theorem zip_fst_sub {α β : Type} (f : α × β → Bool) (as : List α) (ls : List β) : (((as.zip ls).filter f).map (·.1)).Sublist as :=
  (List.filter_sublist.map _).trans (zip_fst_sub0 as ls)
/-- what _law_rows hands back: the tuple at T of sites, homes, channels, ways; the channels' items' lists at as -/
structure GdA (H : Hp) (T S HM CH W : Addr) (as : List Addr) (kvs : List (List L2.Key × V)) (g : Gd) : Prop where
  t : cut H as T = some (.tup [.ref S, .ref HM, .ref CH, .ref W])
  s : cut H as S = some (.lst (g.sites.map V.str))
  h : LsA PsA (cut H as) HM g.homes
  al : as.length = g.lines.length
  c : ∃ cs, cut H as CH = some (.lst cs) ∧ cs.length = g.lines.length ∧ ∀ (k : Nat) l a, g.lines[k]? = some l → as[k]? = some a → ∃ r, cs[k]? = some (.ref r) ∧ cut H as r = some (.tup (rwV l a))
  i : ∀ (k : Nat) l a, g.lines[k]? = some l → as[k]? = some a → H a = some (.lst (l.it.map V.str))
  n : as.Nodup
  w : cut H as W = some (.dT kvs)
  y : WyS (cut H as) kvs g.ways
theorem GdA.same {H H' : Hp} {T S HM CH W : Addr} {as : List Addr} {kvs : List (List L2.Key × V)} {g : Gd} (x : GdA H T S HM CH W as kvs g) (s : Same H H') : GdA H' T S HM CH W as kvs g := by
  have c := cut_same (A := as) s
  obtain ⟨cs, h1, h2, h3⟩ := x.c
  exact ⟨c _ _ x.t, c _ _ x.s, x.h.same stPs c, x.al, ⟨cs, c _ _ h1, h2, fun k l a e1 e2 => let ⟨r, q1, q2⟩ := h3 k l a e1 e2; ⟨r, q1, c _ _ q2⟩⟩, fun k l a e1 e2 => s _ _ (x.i k l a e1 e2), x.n, c _ _ x.w, x.y.same c⟩
end M

namespace M
open PySem PySem.Spec PyProof.Rows L2
/-! ### x in o, o a list of texts or a dict with texts as keys -/
def InA (K : PySem.W.Frag) (H : Hp) (a : Addr) (P : Str → Bool) : Prop := (∃ l : List Str, SqL K H a (l.map V.str) ∧ ∀ x, P x = decide (x ∈ l)) ∨ ∃ kvs : List (Key × V), Rd H a (.dK kvs) ∧ ∀ x, P x = (valV kvs (Sum.inr x)).isSome
def rInA (K : PySem.W.Frag) (neg : Bool) : R2 := fun x y H Q => ∃ (a : Addr) (s : Str) (P : Str → Bool), x = .str s ∧ y = .ref a ∧ InA K H a P ∧ Q (.bl (if neg = true then !P s else P s)) H
section
variable {X : Cx}
theorem op_inA (hu : X.A.units + 1 < cLine) : OpR X (compareOp .In) (rInA X.K false) := by
  intro pins s σ H x y v u Q I rx ry h
  obtain ⟨a, t, P, rfl, rfl, hI, q⟩ := h
  rcases hI with ⟨l, hl, e⟩ | ⟨kvs, hk, e⟩
  · refine op_in_seq pins s σ H _ _ v u Q I rx ry ⟨a, _, rfl, .inl hl, rfl, flat_strs l, ?_⟩
    have q' : Q (.bl (P t)) H := q
    show Q (.bl (inV (.str t) (l.map V.str))) H
    rw [inV_strs, ← e]
    exact q'
  · obtain rfl : u = Value.ref a := ry
    refine d_in hu I (.inl ⟨kvs, Sum.inr t, hk, rfl, rfl⟩) rx fun s3 I3 => ⟨.bl _, H, I3, rfl, ?_⟩
    rw [← e]
    exact q
theorem op_notInA (hu : X.A.units + 1 < cLine) : OpR X (compareOp .NotIn) (rInA X.K true) := by
  intro pins s σ H x y v u Q I rx ry h
  obtain ⟨a, t, P, rfl, rfl, hI, q⟩ := h
  rcases hI with ⟨l, hl, e⟩ | ⟨kvs, hk, e⟩
  · refine op_notIn_seq pins s σ H _ _ v u Q I rx ry ⟨a, _, rfl, .inl hl, rfl, flat_strs l, ?_⟩
    have q' : Q (.bl (!P t)) H := q
    show Q (.bl (!inV (.str t) (l.map V.str))) H
    rw [inV_strs, ← e]
    exact q'
  · obtain rfl : u = Value.ref a := ry
    refine d_notIn hu I (.inl ⟨kvs, Sum.inr t, hk, rfl, rfl⟩) rx fun s3 I3 => ⟨.bl _, H, I3, rfl, ?_⟩
    rw [← e]
    exact q
/-! ### list(d.values()) -/
def tListVals (te : TE) : TE := fun σ H Q => te σ H fun x H1 => ∃ (d : Addr) (kvs : List (Key × V)), x = .ref d ∧ H1 d = some (.dK kvs) ∧ ∀ p, H1 p = none → Q (.ref p) (upd H1 p (.lst (kvs.map (·.2))))
theorem vals_at2 {vs : List Value} {xs : List V} (hl : xs.length = vs.length) (h : ∀ (j : Nat) (v : Value), vs[j]? = some v → ∃ x, xs[j]? = some x ∧ RelV x v) : Vals xs vs := by
  induction vs generalizing xs with
  | nil =>
    cases xs with
    | nil => exact .nil
    | cons x xs => cases hl
  | cons v vs ih =>
    cases xs with
    | nil => cases hl
    | cons x xs =>
      obtain ⟨y, e, r⟩ := h 0 v rfl
      cases e
      exact .cons r (ih (by simpa using hl) fun j w hw => h (j + 1) w hw)
theorem paired_getR {α β : Type} {F : α → β → Prop} : ∀ {xs : List α} {ys : List β}, Paired F xs ys → ∀ {i : Nat} {y : β}, ys[i]? = some y → ∃ x, xs[i]? = some x ∧ F x y
  | _, _, .nil, i, y, h => by cases h
  | _, _, .cons r t, 0, y, h => by
    have e := Option.some.inj h
    subst e
    exact ⟨_, rfl, r⟩
  | _, _, .cons r t, i + 1, y, h => paired_getR t (i := i) (by simpa using h)
theorem pe_listVals {o : Expr} {to : TE} {pl pv pa pc : Pos} (calm : X.calm = true) (ho : PE X o to) (gl : Gl X "list" := by rfl) (ml : X.mg "list" = none) (bl : bootBuiltins "list" = some (.type "list") := by decide +kernel)
    (base : attributeBase o "values" X.env (eval o X.env) = eval o X.env := by rfl) (line : (pa.endLine == pv.line) = true := by rfl)
    (one : starEach [.Call (.Attribute o "values" pa) [] [] pv] X.env = (false, eval (.Call (.Attribute o "values" pa) [] [] pv) X.env) :: starEach [] X.env := by rfl) :
    PE X (.Call (.Name "list" pl) [.Call (.Attribute o "values" pa) [] [] pv] [] pc) (tListVals to) := by
  constructor
  intro ps s σ H Q I want
  apply wpAny_Call_Name_kw
  apply ld_blt I gl ml bl
  refine PyProof.Rows.callWith_type1 ?_ one rfl
  rw [one]
  refine Calls.spliced_cons (rest := backTo pc (starEach [] X.env)) ?_
  apply wpAny_Call_method (T := "dict") (id := "dict.values") base rfl line F.plainAttrs_dict F.slot_dict_values F.type_dict_values
  refine thn (ho.run ps s σ H _ I want) fun v t ⟨x, G, J, rel, a, kvs, isA, hA, give⟩ => ?_
  cases isA
  cases (show v = Value.ref a from rel)
  obtain ⟨small, noSys, ws, pair, dict⟩ := J.hok a _ hA
  obtain ⟨_, dAt⟩ := dict.dictAt
  have many : kvs.length = ws.length := Paired.length pair
  have J' : Inv X ps σ G { t with heap := t.heap.push { cls := .type "dict_values", data := .fields #[.ref a] } } := J.kept (t' := t.toks) fun _ _ k => Heap.get?_push_of_some _ k
  refine ⟨dict.typeIs, dict.mapOf.noDict, method_meetsIn F.slot_dict_values F.entry_dict_values rfl (PySem.evalArgs_none ⟨rfl, dict.typeIs, F.args_dict_values_1 _, _, meets_dict_values (mixKind X.prog X.w) a noSys, ⟨ws, dict⟩, Calls.spliced_nil ?_⟩)⟩
  refine PySem.W.kdl_call (PySem.W.kdl_values (knd := mixKind X.prog X.w) (kvs := ws)) (J.ok.hd calm) ⟨⟨_, Heap.get?_push_size _ rfl, rfl, rfl⟩, dAt.push _⟩ (by omega) fun g tk acc cap keep laid items => ?_
  have vals : Vals (kvs.map (·.2)) acc.toList := vals_at2 (by rw [List.length_map, Array.length_toList]; exact many.trans items.1.symm) fun j v e => by
    obtain ⟨k, hj⟩ := items.2 j v (by rw [← Array.getElem?_toList]; exact e)
    obtain ⟨p, hp, _, rp⟩ := paired_getR pair hj
    exact ⟨p.2, by rw [List.getElem?_map, hp]; rfl, rp⟩
  refine ⟨.ref _, upd G _ (.lst (kvs.map (·.2))), J'.laid (t' := tk) keep (Nat.le_refl _) ?_, rfl, give _ (J'.hok.fresh (Nat.le_refl _))⟩
  exact (show ObjOk X.prog X.w _ _ _ (.lst (kvs.map (·.2))) from ⟨by rw [List.length_map]; exact small, acc.toList, cap, vals, by rw [Array.toArray_toList]; exact laid⟩)
end
/-! ### comprehensions over any walk -/
theorem dc_any {J : It} {n : Nat} {g : TG} {tt : TT} {tk tv : TE} {vs : List Nat} {σ : L2.St} {H1 : Hp} {D : Addr} {Qd : Hp → Prop} (Pv : Nat → Hp → Prop) (h0 : Pv 0 (upd H1 D (.dK []))) (hgo : ∀ i H, i < n → Pv i H → J.go i H) (hst : ∀ H, Pv n H → J.stop n H)
    (hs : ∀ i x H H', i < n → Pv i H → J.yld i H x H' → g x (wipe σ vs) H' fun σ2 H2 => wipe σ2 vs = wipe σ vs ∧ tt σ2 H2 fun b H3 =>
      if b = true then tk σ2 H3 fun y H4 => tv σ2 H4 fun z H5 => ∃ kvs k, y = kV k ∧ H5 D = some (.dK kvs) ∧ kvs.length < sizeLine ∧ Pv (i + 1) (upd H5 D (.dK (putK kvs k z))) else Pv (i + 1) H3) (hd : ∀ H, Pv n H → Qd H) :
    ∃ W : Nat → Nat → Hp → Prop, (∃ m, W 0 m (upd H1 D (.dK []))) ∧ ∀ i m H, W i m H →
      (J.stop i H ∧ Qd H) ∨ (J.go i H ∧ ∃ Nx : Hp → Prop, (∀ H', Nx H' → ∃ m', m' < m ∧ W (i + 1) m' H') ∧ ∀ x H', J.yld i H x H' → g x (wipe σ vs) H' fun σ2 H2 => wipe σ2 vs = wipe σ vs ∧ tt σ2 H2 fun b H3 =>
        if b = true then tk σ2 H3 fun y H4 => tv σ2 H4 fun z H5 => ∃ kvs k, y = kV k ∧ H5 D = some (.dK kvs) ∧ kvs.length < sizeLine ∧ Nx (upd H5 D (.dK (putK kvs k z))) else Nx H3) := by
  refine ⟨fun i m H => m = n - i ∧ i ≤ n ∧ Pv i H, ⟨n, by simp, Nat.zero_le _, h0⟩, ?_⟩
  rintro i m H ⟨rfl, hi, p⟩
  by_cases hlt : i < n
  · exact .inr ⟨hgo i H hlt p, Pv (i + 1), fun H' p' => ⟨n - (i + 1), by omega, rfl, hlt, p'⟩, fun x H' y => hs i x H H' hlt p y⟩
  · have e : i = n := by omega
    subst e
    exact .inl ⟨hst H p, hd H p⟩
theorem lc_any {J : It} {n : Nat} {g : TG} {tt : TT} {te : TE} {vs : List Nat} {σ : L2.St} {H1 : Hp} {D : Addr} {Qd : Hp → Prop} (Pv : Nat → Hp → Prop) (h0 : Pv 0 (upd H1 D (.lst []))) (hgo : ∀ i H, i < n → Pv i H → J.go i H) (hst : ∀ H, Pv n H → J.stop n H)
    (hs : ∀ i x H H', i < n → Pv i H → J.yld i H x H' → g x (wipe σ vs) H' fun σ2 H2 => wipe σ2 vs = wipe σ vs ∧ tt σ2 H2 fun b H3 =>
      if b = true then te σ2 H3 fun y H4 => ∃ acc, H4 D = some (.lst acc) ∧ acc.length < sizeLine ∧ Pv (i + 1) (upd H4 D (.lst (acc ++ [y]))) else Pv (i + 1) H3) (hd : ∀ H, Pv n H → Qd H) :
    ∃ W : Nat → Nat → Hp → Prop, (∃ m, W 0 m (upd H1 D (.lst []))) ∧ ∀ i m H, W i m H →
      (J.stop i H ∧ Qd H) ∨ (J.go i H ∧ ∃ Nx : Hp → Prop, (∀ H', Nx H' → ∃ m', m' < m ∧ W (i + 1) m' H') ∧ ∀ x H', J.yld i H x H' → g x (wipe σ vs) H' fun σ2 H2 => wipe σ2 vs = wipe σ vs ∧ tt σ2 H2 fun b H3 =>
        if b = true then te σ2 H3 fun y H4 => ∃ acc, H4 D = some (.lst acc) ∧ acc.length < sizeLine ∧ Nx (upd H4 D (.lst (acc ++ [y]))) else Nx H3) := by
  refine ⟨fun i m H => m = n - i ∧ i ≤ n ∧ Pv i H, ⟨n, by simp, Nat.zero_le _, h0⟩, ?_⟩
  rintro i m H ⟨rfl, hi, p⟩
  by_cases hlt : i < n
  · exact .inr ⟨hgo i H hlt p, Pv (i + 1), fun H' p' => ⟨n - (i + 1), by omega, rfl, hlt, p'⟩, fun x H' y => hs i x H H' hlt p y⟩
  · have e : i = n := by omega
    subst e
    exact .inl ⟨hst H p, hd H p⟩
end M

namespace M
open PySem PySem.Spec PyProof.Rows L2
theorem upd_id {H : Hp} {a : Addr} {o : HO} (h : H a = some o) : upd H a o = H := by
  funext b
  by_cases e : b = a
  · rw [e, upd_same, h]
  · rw [upd_ne e]
theorem upd_swap {H : Hp} {a b : Addr} {o u : HO} (h : a ≠ b) : upd (upd H a o) b u = upd (upd H b u) a o := by
  funext c
  by_cases e1 : c = b
  · subst e1
    rw [upd_same, upd_ne h.symm, upd_same]
  · by_cases e2 : c = a
    · subst e2
      rw [upd_ne e1, upd_same, upd_same]
    · rw [upd_ne e1, upd_ne e2, upd_ne e2, upd_ne e1]
/-! ### a placement's items and channels as objects -/
structure Seat where
  nm : Str
  st : Str
  a : Addr
  dx : Addr
structure Cn where
  l : Ln
  a : Addr
  dx : Addr
  la : Addr
def seatF (p : Addr) (s : Seat) : List (Str × V) := [("owner", .ref p), ("name", .str s.nm), ("seat", .str s.st)]
/-- a channel's attributes, in the order in which they are stored -/
def chF (s t : V) (l : Addr) (n k : V) : List (Str × V) := [("source", s), ("target", t), ("names", .ref l), ("name", n), ("kind", k)]
def cnF (c : Cn) : List (Str × V) := chF (.str c.l.src) (.str c.l.tgt) c.la (.str c.l.nm) (kindV c.l.kd)
def kvS (ss : List Seat) : List (Key × V) := ss.map fun s => (Sum.inr s.nm, .ref s.a)
def kvL (cs : List Cn) : List (Key × V) := cs.map fun c => (Sum.inr c.l.nm, .ref c.a)
def kvH (hs : List (Str × Str)) : List (Key × V) := hs.map fun h => (Sum.inr h.1, .str h.2)
theorem valV_map_in {α : Type} {f : α → Str} {v : α → V} : ∀ {l : List α}, (l.map f).Nodup → ∀ {x : α}, x ∈ l → valV (l.map fun x => ((Sum.inr (f x) : Key), v x)) (Sum.inr (f x)) = some (v x)
  | y :: l, nd, x, h => by
    unfold valV
    rw [List.map_cons, List.find?_cons]
    have n := List.nodup_cons.mp nd
    by_cases e : f y = f x
    · have ey : y = x := by
        rcases List.mem_cons.mp h with h | h
        · exact h.symm
        · exact absurd (by rw [e]; exact List.mem_map.mpr ⟨x, h, rfl⟩) n.1
      subst ey
      rw [decide_eq_true rfl]
      rfl
    · rw [decide_eq_false (fun q => e (Sum.inr.inj q))]
      have hl : x ∈ l := by
        rcases List.mem_cons.mp h with h | h
        · exact absurd (by rw [h]) e
        · exact h
      exact valV_map_in n.2 hl
theorem valV_map_out {α : Type} {f : α → Str} {v : α → V} : ∀ {l : List α} {k : Str}, k ∉ l.map f → valV (l.map fun x => ((Sum.inr (f x) : Key), v x)) (Sum.inr k) = none
  | [], _, _ => rfl
  | y :: l, k, h => by
    unfold valV
    rw [List.map_cons, List.find?_cons]
    rw [decide_eq_false (fun q => h (by rw [← Sum.inr.inj q]; exact List.mem_cons_self))]
    exact valV_map_out (l := l) fun q => h (List.mem_cons_of_mem _ q)
theorem valV_map_isSome {α : Type} {f : α → Str} {v : α → V} {l : List α} (k : Str) : (valV (l.map fun x => ((Sum.inr (f x) : Key), v x)) (Sum.inr k)).isSome = decide (k ∈ l.map f) := by
  induction l with
  | nil => rfl
  | cons y l ih =>
    unfold valV
    rw [List.map_cons, List.find?_cons]
    by_cases e : f y = k
    · rw [decide_eq_true (by rw [e]), decide_eq_true (by rw [← e]; exact List.mem_cons_self)]
      rfl
    · rw [decide_eq_false (fun q => e (Sum.inr.inj q))]
      have ih' : (Option.map (·.2) (List.find? (fun kv : Key × V => decide (kv.1 = Sum.inr k)) (l.map fun x => ((Sum.inr (f x) : Key), v x)))).isSome = decide (k ∈ l.map f) := ih
      show (Option.map _ (List.find? _ (l.map fun x => ((Sum.inr (f x) : Key), v x)))).isSome = _
      rw [ih']
      by_cases m : k ∈ l.map f
      · rw [decide_eq_true m]
        exact (decide_eq_true (show k ∈ (y :: l).map f from List.mem_cons_of_mem _ m)).symm
      · rw [decide_eq_false m]
        refine (decide_eq_false (show ¬ k ∈ (y :: l).map f from fun q => ?_)).symm
        rcases List.mem_cons.mp q with q | q
        · exact e q.symm
        · exact m q
theorem putK_new {κ : Type} [DecidableEq κ] {kvs : List (κ × V)} {k : κ} {v : V} (h : valV kvs k = none) : putK kvs k v = kvs ++ [(k, v)] := by
  unfold putK
  rw [valV_any, h]
  exact if_neg (by decide)
/-- who brings what: the channels' objects by copy -/
structure BrA (kvb : List (List L2.Key × V)) (cs : List Cn) : Prop where
  in_ : ∀ c ∈ cs, ∀ i ∈ c.l.it, valV kvb (k2 i c.l.tgt) = some (.ref c.a)
  out : ∀ i s, (∀ c ∈ cs, ¬ (i ∈ c.l.it ∧ c.l.tgt = s)) → valV kvb (k2 i s) = none
  keys : ∀ e ∈ kvb, ∃ i s, e.1 = k2 i s
  nd : (kvb.map (·.1)).Nodup
def Cn.part (c : Cn) (n : Nat) : Cn := { c with l := { c.l with it := c.l.it.take n } }
theorem Cn.part_all (c : Cn) : c.part c.l.it.length = c := by
  unfold Cn.part
  rw [List.take_length]
theorem BrA.start {kvb : List (List L2.Key × V)} {cs : List Cn} (b : BrA kvb cs) (c : Cn) : BrA kvb (cs ++ [c.part 0]) := by
  refine ⟨fun d hd i hi => ?_, fun i s h => b.out i s fun d hd => h d (List.mem_append_left _ hd), b.keys, b.nd⟩
  rcases List.mem_append.mp hd with hd | hd
  · exact b.in_ d hd i hi
  · rw [List.mem_singleton.mp hd] at hi
    have hi' : i ∈ c.l.it.take 0 := hi
    rw [List.take_zero] at hi'
    cases hi'
theorem BrA.put {kvb : List (List L2.Key × V)} {cs : List Cn} {c : Cn} {n : Nat} {i : Str} (b : BrA kvb (cs ++ [c.part n])) (hi : c.l.it[n]? = some i) (nw : ∀ d ∈ cs, ¬ (i ∈ d.l.it ∧ d.l.tgt = c.l.tgt)) : BrA (putK kvb (k2 i c.l.tgt) (.ref c.a)) (cs ++ [c.part (n + 1)]) := by
  have eT : c.l.it.take (n + 1) = c.l.it.take n ++ [i] := take_snoc hi
  refine ⟨fun d hd j hj => ?_, fun j s h => ?_, fun e he => ?_, putK_nd b.nd⟩
  · rw [valV_put]
    rcases List.mem_append.mp hd with hd | hd
    · rw [if_neg]
      · exact b.in_ d (List.mem_append_left _ hd) j hj
      · intro e
        obtain ⟨e1, e2⟩ := k2_inj e
        exact nw d hd ⟨by rw [← e1]; exact hj, e2⟩
    · have e0 := List.mem_singleton.mp hd
      subst e0
      have hj' : j ∈ c.l.it.take (n + 1) := hj
      rw [eT] at hj'
      by_cases e : k2 j c.l.tgt = k2 i c.l.tgt
      · exact if_pos e
      · rw [show (c.part (n + 1)).l.tgt = c.l.tgt from rfl, if_neg e]
        rcases List.mem_append.mp hj' with hj' | hj'
        · exact b.in_ (c.part n) (by simp) j hj'
        · exact absurd (by rw [List.mem_singleton.mp hj']) e
  · rw [valV_put]
    by_cases e : k2 j s = k2 i c.l.tgt
    · obtain ⟨rfl, rfl⟩ := k2_inj e
      refine absurd ⟨?_, rfl⟩ (h (c.part (n + 1)) (by simp))
      show j ∈ c.l.it.take (n + 1)
      rw [eT]
      simp
    · rw [if_neg e]
      refine b.out j s fun d hd hh => ?_
      rcases List.mem_append.mp hd with hd | hd
      · exact h d (List.mem_append_left _ hd) hh
      · have e0 := List.mem_singleton.mp hd
        subst e0
        refine h (c.part (n + 1)) (by simp) ⟨?_, hh.2⟩
        show j ∈ c.l.it.take (n + 1)
        rw [eT]
        exact List.mem_append_left _ hh.1
  · rcases putK_mem he with q | ⟨e', h1, h2⟩
    · exact ⟨i, c.l.tgt, q⟩
    · obtain ⟨i', s', q⟩ := b.keys e' h1
      exact ⟨i', s', by rw [← h2]; exact q⟩
theorem Hx.keep2 {H0 H : Hp} {l : List (Addr × HO)} (x : Hx H0 H l) (n : ∀ z ∈ l, H0 z.1 = none ∨ H0 z.1 = some z.2) : Same H0 H := fun b o e => by
  by_cases q : ∃ z ∈ l, z.1 = b
  · obtain ⟨z, hz, rfl⟩ := q
    rcases n z hz with h | h
    · rw [h] at e; cases e
    · rw [h] at e
      cases e
      exact x.at_ z hz
  · exact x.fr b o e fun z hz e => q ⟨z, hz, e⟩
theorem Hx.perm {H0 H : Hp} {l l' : List (Addr × HO)} (x : Hx H0 H l) (p : l.Perm l') : Hx H0 H l' :=
  ⟨fun z hz => x.at_ z (p.mem_iff.mpr hz), (p.map _).nodup_iff.mp x.nd, fun b o hb nb => x.fr b o hb fun z hz => nb z (p.mem_iff.mp hz)⟩
theorem Hx.snoc {H0 H : Hp} {l : List (Addr × HO)} {T : Addr} {o : HO} (x : Hx H0 H l) (n : H T = none) : Hx H0 (upd H T o) (l ++ [(T, o)]) :=
  (x.push (o := o) n).perm (List.perm_append_singleton _ _).symm
/-! ### a placement's state -/
structure PSt where
  p : Addr
  dp : Addr
  LP : Addr
  DS : Addr
  DL : Addr
  DB : Addr
  places : List Str
  seats : List Seat
  lines : List Cn
  kvb : List (List L2.Key × V)
def PSt.F (s : PSt) : List (Str × V) := [("places", .ref s.LP), ("seats", .ref s.DS), ("lines", .ref s.DL), ("bringers", .ref s.DB)]
def seT (CI p : Addr) (ss : List Seat) : List (Addr × HO) := ss.map fun i => (i.a, .ins CI i.dx (seatF p i))
def chT (CC : Addr) (cs : List Cn) : List (Addr × HO) := cs.flatMap fun c => [(c.a, .ins CC c.dx (cnF c)), (c.la, .lst (c.l.it.map V.str))]
def PSt.tbl (CP CI CC : Addr) (s : PSt) : List (Addr × HO) := [(s.DB, .dT s.kvb), (s.DL, .dK (kvL s.lines)), (s.DS, .dK (kvS s.seats)), (s.LP, .lst (s.places.map V.str)), (s.p, .ins CP s.dp s.F)] ++ (seT CI s.p s.seats ++ chT CC s.lines)
def PSt.g (s : PSt) (w : Ways) : Gd := ⟨s.places, s.seats.map fun i => (i.nm, i.st), s.lines.map (·.l), w⟩
structure PlA (CP CI CC : Addr) (H0 H : Hp) (s : PSt) (w : Ways) : Prop where
  x : Hx H0 H (s.tbl CP CI CC)
  b : BrA s.kvb s.lines
  o : GdOk (s.g w)
theorem seT_mem {CI p : Addr} {ss : List Seat} {i : Seat} (h : i ∈ ss) : (i.a, .ins CI i.dx (seatF p i)) ∈ seT CI p ss := List.mem_map.mpr ⟨i, h, rfl⟩
theorem chT_mem {CC : Addr} {cs : List Cn} {c : Cn} (h : c ∈ cs) : (c.a, .ins CC c.dx (cnF c)) ∈ chT CC cs ∧ (c.la, .lst (c.l.it.map V.str)) ∈ chT CC cs :=
  ⟨List.mem_flatMap.mpr ⟨c, h, by simp⟩, List.mem_flatMap.mpr ⟨c, h, by simp⟩⟩
theorem seT_snoc {CI p : Addr} {ss : List Seat} {i : Seat} : seT CI p (ss ++ [i]) = seT CI p ss ++ [(i.a, .ins CI i.dx (seatF p i))] := by unfold seT; rw [List.map_append]; rfl
theorem chT_snoc {CC : Addr} {cs : List Cn} {c : Cn} : chT CC (cs ++ [c]) = chT CC cs ++ [(c.a, .ins CC c.dx (cnF c))] ++ [(c.la, .lst (c.l.it.map V.str))] := by
  unfold chT
  rw [List.flatMap_append, List.append_assoc]
  rfl
section
variable {CP CI CC : Addr} {H0 H : Hp} {s : PSt} {w : Ways}
theorem PlA.hp (x : PlA CP CI CC H0 H s w) : H s.p = some (.ins CP s.dp s.F) := x.x.get 4 rfl
theorem PlA.hLP (x : PlA CP CI CC H0 H s w) : H s.LP = some (.lst (s.places.map V.str)) := x.x.get 3 rfl
theorem PlA.hDS (x : PlA CP CI CC H0 H s w) : H s.DS = some (.dK (kvS s.seats)) := x.x.get 2 rfl
theorem PlA.hDL (x : PlA CP CI CC H0 H s w) : H s.DL = some (.dK (kvL s.lines)) := x.x.get 1 rfl
theorem PlA.hDB (x : PlA CP CI CC H0 H s w) : H s.DB = some (.dT s.kvb) := x.x.get 0 rfl
theorem PlA.hse (x : PlA CP CI CC H0 H s w) {i : Seat} (h : i ∈ s.seats) : H i.a = some (.ins CI i.dx (seatF s.p i)) := x.x.at_ (i.a, .ins CI i.dx (seatF s.p i)) (List.mem_append_right _ (List.mem_append_left _ (seT_mem h)))
theorem PlA.hca (x : PlA CP CI CC H0 H s w) {c : Cn} (h : c ∈ s.lines) : H c.a = some (.ins CC c.dx (cnF c)) := x.x.at_ (c.a, .ins CC c.dx (cnF c)) (List.mem_append_right _ (List.mem_append_right _ (chT_mem h).1))
theorem PlA.hla (x : PlA CP CI CC H0 H s w) {c : Cn} (h : c ∈ s.lines) : H c.la = some (.lst (c.l.it.map V.str)) := x.x.at_ (c.la, .lst (c.l.it.map V.str)) (List.mem_append_right _ (List.mem_append_right _ (chT_mem h).2))
theorem PlA.same {H' : Hp} (x : PlA CP CI CC H0 H s w) (e : Same H H') : PlA CP CI CC H0 H' s w := ⟨x.x.same e, x.b, x.o⟩
end
/-- a row of a placement as a tuple, its items in a list -/
def RwT (H : Hp) (v : V) (l : Ln) : Prop := ∃ t a, v = .ref t ∧ H t = some (.tup (rwV l a)) ∧ H a = some (.lst (l.it.map V.str))
theorem stRwT : Stay RwT := fun H H' v x s ⟨t, a, e, h, q⟩ => ⟨t, a, e, s _ _ h, s _ _ q⟩
/-- a text that _law_names gives -/
def Gen (x : Str) : Prop := ∃ d n k, x = nm d n k
theorem gen_mem {d n : Nat} {x : Str} (h : x ∈ nmL d n) : Gen x := by
  unfold nmL at h
  obtain ⟨k, _, e⟩ := List.mem_map.mp h
  exact ⟨d, n, k, e.symm⟩
/-- a word that _law_names gives has one sign, seven signs, its first sign again behind it, or z -/
theorem gen_form {x : Str} (h : Gen x) : x.cps.toList.length = 1 ∨ x.cps.toList.length = 7 ∨ (∃ n c, x.cps.toList = List.replicate n c) ∨ ∃ c r, x.cps.toList = c :: 122 :: r := by
  obtain ⟨d, n, k, rfl⟩ := h
  show (nmC d n k).toArray.toList.length = 1 ∨ (nmC d n k).toArray.toList.length = 7 ∨ (∃ n' c, (nmC d n k).toArray.toList = List.replicate n' c) ∨ ∃ c r, (nmC d n k).toArray.toList = c :: 122 :: r
  rw [List.toList_toArray]
  unfold nmC
  split
  · exact .inl rfl
  · split
    · refine .inr (.inl ?_)
      simp
      omega
    · split
      · exact .inr (.inr (.inl ⟨_, _, rfl⟩))
      · cases e : (d + 3 * k) % 8 with
        | zero => exact .inl rfl
        | succ m => exact .inr (.inr (.inr ⟨_, _, rfl⟩))
theorem not_gen {x : Str} (h1 : x.cps.toList.length ≠ 1) (h7 : x.cps.toList.length ≠ 7) {a b : Nat} {r : List Nat} (e : x.cps.toList = a :: b :: r) (hab : a ≠ b) (hb : b ≠ 122) : ¬ Gen x := fun h => by
  rcases gen_form h with h | h | ⟨n, c, h⟩ | ⟨c, r', h⟩
  · exact h1 h
  · exact h7 h
  · rw [e] at h
    match n, h with
    | 0, h => cases h
    | 1, h => simp at h
    | n + 2, h =>
      rw [List.replicate_succ, List.replicate_succ] at h
      have h2 := List.cons.inj h
      have h3 := List.cons.inj h2.2
      exact hab (h2.1.trans h3.1.symm)
  · rw [e] at h
    exact hb (List.cons.inj (List.cons.inj h).2).1
theorem gen_zebra : ¬ Gen "zebra" := not_gen (a := 122) (b := 101) (r := [98, 114, 97]) (by decide +kernel) (by decide +kernel) (by decide +kernel) (by decide) (by decide)
theorem gen_yak : ¬ Gen "yak" := not_gen (a := 121) (b := 97) (r := [107]) (by decide +kernel) (by decide +kernel) (by decide +kernel) (by decide) (by decide)
theorem gen_gnu : ¬ Gen "gnu" := not_gen (a := 103) (b := 110) (r := [117]) (by decide +kernel) (by decide +kernel) (by decide +kernel) (by decide) (by decide)
theorem gen_ibis : ¬ Gen "ibis" := not_gen (a := 105) (b := 98) (r := [105, 115]) (by decide +kernel) (by decide +kernel) (by decide +kernel) (by decide) (by decide)
/-- names in use are good -/
structure GdNm (g : Gd) : Prop where
  s : ∀ x ∈ g.sites, NameOk x ∧ PyData.strOk x = true
  i : ∀ x ∈ g.goods, NameOk x ∧ PyData.strOk x = true
  l : ∀ l ∈ g.lines, NameOk l.nm ∧ PyData.strOk l.nm = true ∧ KindOk l.kd
  gs : ∀ x ∈ g.sites, Gen x
  gi : ∀ x ∈ g.goods, Gen x
  gl : ∀ l ∈ g.lines, Gen l.nm
end M

namespace M
open PySem PySem.Spec PyProof.Rows L2
/-! ### try with several clauses, each with a name -/
abbrev TsA := Addr → Value → Option Addr → TS
/-- the ends of a clause whose name stands at slot i -/
def offN (D : Ends) (i : Nat) : Ends := { nx := fun σ' H' => D.nx (σ'.set i none) H', rt := D.rt, bk := fun σ' H' => D.bk (σ'.set i none) H', ct := fun σ' H' => D.ct (σ'.set i none) H' }
def wAsM (K : PySem.W.Frag) (Wout : WX) (D : Ends) : List (Value × Nat × TsA) → WX
  | [] => Wout
  | (c, i, ts) :: r => fun cls d σ H => ∃ b, PySem.W.exmOne K cls c = some b ∧ (b = true → ∀ a, H a = none → ts a cls d (offN D i) (σ.set i (some (.ref a))) H) ∧ (b = false → wAsM K Wout D r cls d σ H)
inductive HdsAs (X : Cx) : List ExceptHandler → List (Value × Nat × TsA) → Prop
  | nil : HdsAs X [] []
  | cons {x n : Str} {c : Value} {i : Nat} {ts : Addr → Obj → Value → Option Addr → List (Addr × Obj) → TS} {b₀ : Stmt} {suite : List Stmt} {np pos' : Pos} {hds : List ExceptHandler} {l : List (Value × Nat × TsA)}
      (hN : X.N.Nodup) (hi : X.N[i]? = some n) (hln : X.env.kindOf n = some .local) (hc : Names X x c)
      (hsu : ∀ (a : Addr) (oe : Obj) (cls : Value) (d : Option Addr) (pn : List (Addr × Obj)), Zc cls d oe → (∃ vs, oe.data = .fields vs) → PSs (X.suite a ((a, oe) :: pn)) (b₀ :: suite) (ts a oe cls d pn)) (r : HdsAs X hds l) :
      HdsAs X (.ExceptHandler (some (.Name x np)) (some n) (b₀ :: suite) pos' :: hds) ((c, i, fun a cls d => fun D σ H => ∀ oe pn, ts a oe cls d pn D σ H) :: l)
section
variable {X : Cx} {ss : List Stmt} {e₁ : ExceptHandler} {er : List ExceptHandler} {cl : List (Value × Nat × TsA)} {pl : Pos} {tb : WX → List (Addr × Obj) → (Value → Shared → Prop) → TS} {Wo : WX}
/-- a suite's end: the clause's name is gone, the try's end is that of its suite -/
theorem suite_end {Y : Cx} {ps : List (Addr × Obj)} {D : Ends} {i : Nat} {n : Str} {q : Pos} {fl : Flow} {t : Shared} (un : ∀ {σ : L2.St} {H : Hp}, Inv Y [] σ H t → Inv X ps σ H t) (hN : X.N.Nodup) (hi : X.N[i]? = some n) (hk : X.env.kindOf n = some .local) (h : SP Y [] (offN D i) fl t) :
    wpAny (model X.prog X.w) X.A (do bindName X.env n .none; unbindBehindTheSuite X.env n q) (fun _ t' => SP X ps D fl t') X.xe t := by
  cases fl <;> first
    | (obtain ⟨σ, H, J, z⟩ := h; exact gone_ok (un J) hN hi hk fun _ J' => ⟨_, _, J', z⟩)
    | (obtain ⟨v, σ, H, J, r, z⟩ := h; exact gone_ok (un J) hN hi hk fun _ J' => ⟨v, _, _, J', r, z⟩)
theorem ps_tryM (st : X.stack = X.env :: X.outer) (fr : X.env.frame = some X.env.locals) (tk : Takes X Wo)
    (body : ∀ W pn xe, Takes (X.tr pn xe) W → PassesOwn (model X.prog X.w) X.A X.env xe → PSs (X.tr pn xe) ss (tb W pn xe)) (hh : HdsAs X (e₁ :: er) cl) :
    PS X (.Try ss (e₁ :: er) [] [] pl) fun D σ H => ∀ pn xe, tb (wAsM X.K Wo D cl) pn xe D σ H := by
  refine ⟨fun ps s σ H D I wish => ?_⟩
  have fA : X.A.frames = some (X.env :: X.outer) := st ▸ I.ok.frames
  let found : Value → Shared → Prop := fun e s => wpAny (model X.prog X.w) X.A (noteFrame e X.env) (fun _ s => wpAny (model X.prog X.w) X.A (setFlight e none) (fun _ s => wpAny (model X.prog X.w) X.A (handleBy e X.env (e₁ :: er)) (SP X ps D) X.xe s) X.xe s) X.xe s
  have caught : Takes (X.tr (X.pn ++ ps) found) (wAsM X.K Wo D cl) := by
    rintro u s' ⟨x, B, t, qs, τ, G, cls, d, rfl, J0, nb, up, sky, emp, os, ag, cw⟩
    have J := J0.ofTry I.ok
    rw [show (X.tr (X.pn ++ ps) found).stack = X.env :: X.outer from st] at sky
    refine Sky.land Zc.steady fA fr sky fun g fl up1 => ?_
    have Jg : Inv X ps τ G { s' with heap := g } := J.landed nb fl.1 (up.trans up1) os ag
    obtain ⟨o, vals, at_, zc, dat⟩ := fl.there
    have out : x ∉ frs (X.env :: X.outer) := fun m => by
      obtain ⟨_, o', q, no⟩ := fl.2.2.1.mem m
      cases at_.symm.trans q
      exact no _ dat
    have oL : x ≠ X.env.locals := fun z => out (List.mem_filterMap.mpr ⟨X.env, List.mem_cons_self, by rw [fr, z]⟩)
    have oF : x ∉ X.fs := fun m => by
      obtain ⟨v, hv, q⟩ := List.mem_filterMap.mp m
      exact out (List.mem_filterMap.mpr ⟨v, List.mem_cons_of_mem _ hv, q⟩)
    have type_ : PySem.W.Looks (model X.prog X.w) g (typeOf (.ref x)) cls := fun _ _ _ _ keep q => wpAny_typeOf_ref (keep _ _ at_) (zc.1.symm ▸ q)
    suffices all : ∀ {er' cl'}, HdsAs X er' cl' → wAsM X.K Wo D cl' cls d τ G → wpAny (model X.prog X.w) X.A (handleBy (.ref x) X.env er') (SP X ps D) X.xe { s' with heap := g } from all hh cw
    intro er' cl' ok
    induction ok with
    | nil =>
      intro w
      have land := fl
      obtain ⟨_, _, _, _, _, T, _, _, a1, _, a2, a3, _⟩ := fl
      have again : wpAny (model X.prog X.w) X.A (setFlight (.ref x) X.env.frame) (fun _ s => wpAny (model X.prog X.w) X.A (throw (.ref x) : Sem Flow) (SP X ps D) X.xe s) X.xe { s' with heap := g } := by
        rw [fr]
        exact HandSPX.setFlight_upZ land fun _ hot up2 => wpAny_throw (tk _ _ ⟨x, B, t, ps, τ, G, cls, d, rfl, J, nb, (up.trans up1).trans up2, .inr (.inr (st ▸ hot)), emp, os, ag, w⟩)
      refine wpAny_handleBy_nil ?_
      unfold PySem.passOn
      refine wpAny_bind (wpAny_field a1 a2 a3 ?_)
      rw [if_neg (show ¬ (Value.ref T == Value.none) = true from by simp)]
      first | exact wpAny_bind again | exact wpAny_bind (wpAny_pure (wpAny_bind again))
    | @cons x₁ n c i ts b₀ suite np q hds2 l2 hN hi hk nm hsu _ ih =>
      rintro ⟨b, say, yes, no⟩
      refine wpAny_handleBy_cons (codeAny_handlers_test ?_) (fun z => by cases z)
      have S := Jg.suite at_ dat emp oL oF
      have name : ∀ {R E : Value → Shared → Prop}, R c { s' with heap := g } → wpAny (model X.prog X.w) (X.A.mark (some (.ref x))) (eval (.Name x₁ np) X.env) R E { s' with heap := g } := by
        intro R E r
        rcases nm with ⟨ng, nd, nm | ⟨nm, nv, nn⟩⟩
        · exact ld_glob (X := X.suite x ((x, o) :: (X.pn ++ ps))) S ng nm r nd
        · exact ld_blt (X := X.suite x ((x, o) :: (X.pn ++ ps))) S ng nm nv r nn nd
      refine name ((PySem.W.exm_one (M := model X.prog X.w) Jg.kIn type_ say).here ?_)
      cases b with
      | false => exact ih (no rfl)
      | true =>
        refine codeAny_handlers_suite_as (HandSPX.lands_againZ fl fun g2 fl2 up2 => ?_)
        obtain ⟨o2, _, at2, zc2, dat2⟩ := fl2.there
        have J2 : Inv X ps τ G { s' with heap := g2 } := J.landed nb fl2.1 ((up.trans up1).trans up2) os ag
        have S2 := J2.suite at2 dat2 emp oL oF
        refine store_ok (X := X.suite x ((x, o2) :: (X.pn ++ ps))) (v := .ref x) S2 hN hi (.inl hk) rfl (fun t2 S3 => ?_) (.inr hk)
        exact wpAny_mono ((hsu x o2 cls d _ zc2 ⟨_, dat2⟩).run [] t2 _ G _ S3 (yes rfl x emp _ _)) (fun _ _ z => suite_end (fun J => J.unsuite I.ok) hN hi hk z) fun _ _ z => z.elim
  refine wpAny_Try_except (wpAny_mono ((body _ _ found caught PassesOwn.looking).run [] s σ H D (I.toTry _) (wish _ _)) (fun fl t z => ?_) fun _ _ z => z)
  cases fl <;> first
    | (obtain ⟨σ', H', J, z⟩ := z; first | exact wpAny_execs_nil ⟨σ', H', J.ofTry I.ok, z⟩ | exact ⟨σ', H', J.ofTry I.ok, z⟩)
    | (obtain ⟨v, σ', H', J, r, z⟩ := z; exact ⟨v, σ', H', J.ofTry I.ok, r, z⟩)
end
theorem Hx.base {H0 H1 H : Hp} {l : List (Addr × HO)} (x : Hx H1 H l) (s : Same H0 H1) : Hx H0 H l := ⟨x.at_, x.nd, fun b o e n => x.fr b o (s _ _ e) n⟩
end M

namespace M
open PySem PySem.Spec PyProof.Rows L2
/-! ### x < y, x and y tuples whose first items differ -/
section
open PySem.SeqAt PySem.MeetsSeq PySem.MeetsSeq2 PySem.MeetsSeq3
open PySem.AutoSeq1 (wpAny_loadPart')
theorem lt_heads {a c : Addr} {v u : Value} {vs us : List Value} {m m' : Nat} {d d' : Option Addr} {z z' : Array (Option Value)} {k : Bool} :
    Meets (Builtin.«tuple.__lt__» ⟨[.ref a, .ref c], []⟩) fun A R s => s.heap.get? a = some { cls := .type "tuple", dict := d, data := .seq (v :: vs).toArray m, slots := z } ∧ s.heap.get? c = some { cls := .type "tuple", dict := d', data := .seq (u :: us).toArray m', slots := z' } ∧
      EqAt A.in1 s v u false ∧ RcLt A.in1 s v u k ∧ R (.ok (.ret (.bool k))) s := by
  refine .of_wp fun prog w A R s ⟨ga, gc, differ, less, want⟩ => ?_
  obtain ⟨hp, gn, dr, tk, os⟩ := s
  have sub := AutoSeq1.sub_tuple_tuple
  wp_walk using wpAny_loadPart' ga, wpAny_loadPart' gc, wpAny_forIn_list _ (fun todo acc s' => acc.1 = none ∧ s' = ⟨hp, gn, dr, tk, os⟩ ∧ ∃ more, todo = (v, u) :: more) _
  case turn =>
    rintro ⟨p, q⟩ todo acc s' ⟨_, rfl, more, e⟩
    cases e
    refine wpAny_bind (differ prog w _ _ ?_)
    generalize hrc : PySem.richCompare CmpOp.Lt v u = rc
    wp_walk
    rw [← hrc]
    refine less prog w _ _ ?_
    wp_walk
    exact ⟨_, rfl, want⟩
  case fin =>
    rintro ⟨_, _⟩ s' ⟨_, _, more, e⟩
    cases e
  case h => exact ⟨rfl, rfl, _, rfl⟩
end
/-- x < y is b: alike data, or tuples whose first texts differ -/
def CmpR (K : PySem.W.Frag) (H : Hp) (x y : V) (b : Bool) : Prop :=
  (∃ d e, Dp K H x d ∧ Dp K H y e ∧ PySem.W.alike d e = true ∧ d ≠ .none ∧ d.depth ≤ 60 ∧ b = PySem.W.dataLt d e) ∨
  ∃ a c s t xs ys, x = .ref a ∧ y = .ref c ∧ H a = some (.tup (.str s :: xs)) ∧ H c = some (.tup (.str t :: ys)) ∧ s ≠ t ∧ b = ltS s t
theorem CmpR.same {K : PySem.W.Frag} {H H' : Hp} {x y : V} {b : Bool} (s : Same H H') (h : CmpR K H x y b) : CmpR K H' x y b := by
  rcases h with ⟨d, e, h1, h2, r⟩ | ⟨a, c, t, u, xs, ys, e1, e2, h1, h2, r⟩
  · exact .inl ⟨d, e, dp_same s h1, dp_same s h2, r⟩
  · exact .inr ⟨a, c, t, u, xs, ys, e1, e2, s _ _ h1, s _ _ h2, r⟩
def rLtC (K : PySem.W.Frag) : R2 := fun x y H Q => ∃ b, CmpR K H x y b ∧ Q (.bl b) H
section
variable {X : Cx}
theorem op_ltC (hu : X.A.units + 64 < cLine) : OpR X (compareOp .Lt) (rLtC X.K) := by
  intro pins s σ H x y v u Q I rx ry h
  obtain ⟨b, h, q⟩ := h
  rcases h with ⟨d, e, h1, h2, al, nn, hz, rfl⟩ | ⟨a, c, t1, t2, xs, ys, rfl, rfl, h1, h2, ne, rfl⟩
  · exact op_ltD hu pins s σ H x y v u Q I rx ry ⟨d, e, h1, h2, al, nn, hz, q⟩
  · cases rx
    cases ry
    obtain ⟨i1, r1, p1, _⟩ := I.tuple (.inl (.inl h1))
    obtain ⟨i2, r2, p2, _⟩ := I.tuple (.inl (.inl h2))
    cases r1 with
    | @cons _ w1 _ w1s e1 _ =>
      cases r2 with
      | @cons _ w2 _ w2s e2 _ =>
        obtain ⟨k1, rfl⟩ := e1
        obtain ⟨k2, rfl⟩ := e2
        obtain ⟨⟨cls, dd, data, sl⟩, ho, hc, n, hd⟩ := id p1
        obtain ⟨⟨cls2, dd2, data2, sl2⟩, ho2, hc2, n2, hd2⟩ := id p2
        simp only at hc hd hc2 hd2
        subst hc hd hc2 hd2
        have eqs := SeqAt.EqAt.str_str (A := X.A.in1) (s := s) t1 k1 t2 k2
        rw [show (t1 == t2) = false from beq_false_of_ne ne] at eqs
        have lts : SeqAt.RcLt X.A.in1 s (.str t1 k1) (.str t2 k2) (ltS t1 t2) := fun prog w E Q hq => (PyProof.Rows.lt_str hq : wpAny (model prog w) X.A.in1 (compareOp .Lt (.str t1 k1) (.str t2 k2)) Q E s)
        have fin : Value.bool (ltS t1 t2) ≠ Value.notImplemented ∧ EP X pins σ Q (.bool (ltS t1 t2)) s := ⟨(by intro z; cases z), ⟨.bl _, H, I, rfl, q⟩⟩
        have room : X.A.units < cLine := by omega
        have mt := @lt_heads a c (.str t1 k1) (.str t2 k2) w1s w2s n n2 dd dd2 sl sl2 (ltS t1 t2)
        exact richCompare_meets_room (op := .Lt) (Q := EP X pins σ Q) ⟨_, ho, rfl⟩ ⟨_, ho2, rfl⟩ PySem.F.slot_tuple_lt PySem.F.entry_tuple_lt (PySem.F.args_tuple_lt_2 _ _) mt ⟨ho, ho2, eqs, lts, fin⟩ room
end
end M

namespace M
open PySem PySem.Spec PyProof.Rows L2
/-! ### rows in the order of their names -/
def ltN {α : Type} (f : α → Str) (a b : α) : Bool := ltS (f a) (f b)
theorem ordN {α : Type} {f : α → Str} {l : List α} (nd : (l.map f).Nodup) : Ord (ltN f) (· ∈ l) where
  irr := fun a _ => ordS.irr _ trivial
  tr := fun a b c _ _ _ h1 h2 => ordS.tr _ _ _ trivial trivial trivial h1 h2
  tot := fun a b ha hb => by
    rcases ordS.tot (f a) (f b) trivial trivial with h | h | h
    · exact .inl h
    · refine .inr (.inl ?_)
      obtain ⟨i, hi, rfl⟩ := List.getElem_of_mem ha
      obtain ⟨j, hj, rfl⟩ := List.getElem_of_mem hb
      have : (l.map f)[i]'(by simpa using hi) = (l.map f)[j]'(by simpa using hj) := by simpa using h
      have := (List.getElem_inj nd).mp this
      subst this
      rfl
    · exact .inr (.inr h)
theorem upS_map {α : Type} (f : α → Str) (l : List α) : upS (l.map f) = (asc (ltN f) l).map f := asc_map (lt := ltN f) (lt2 := ltS) (fun _ _ => rfl) l
/-! ### what rows tells, as data -/
def kdD : Option Str → PyData
  | none => .none
  | some s => .str s
def prD (h : Str × Str) : PyData := .tuple [.str h.1, .str h.2]
def strsD (l : List Str) : PyData := .list (l.map PyData.str)
def lnD (l : Ln) : PyData := .tuple [.str l.nm, .str l.src, .str l.tgt, strsD (upS l.it), kdD l.kd]
def toldD (sites : List Str) (homes : List (Str × Str)) (lines : List Ln) : PyData := .tuple [strsD (upS sites), .list ((asc (ltN (·.1)) homes).map prD), .list ((asc (ltN (·.nm)) lines).map lnD)]
theorem strs_dp {K : PySem.W.Frag} {H : Hp} {a : Addr} {l : List Str} (h : H a = some (.lst (l.map V.str))) : Dp K H (.ref a) (strsD l) := by
  refine .lst (SqL.of h) ?_
  clear h
  induction l with
  | nil => exact .nil
  | cons x l ih => exact .cons (.str _) ih
theorem strs_lay {l : List Str} (h : ∀ x ∈ l, PyData.strOk x = true) : (strsD l).canLay0 = true ∧ (strsD l).depth ≤ 1 :=
  ls_lay (D := PyData.str) (n := 0) fun x hx => ⟨by rw [PyData.canLay0]; exact h x hx, by simp [PyData.depth]⟩
theorem kd_dp {K : PySem.W.Frag} {H : Hp} : ∀ k : Option Str, Dp K H (kindV k) (kdD k)
  | none => .non
  | some s => .str s
theorem kd_lay {k : Option Str} (h : KindOk k) : (kdD k).canLay0 = true ∧ (kdD k).depth = 0 := by
  cases k with
  | none => exact ⟨by rw [kdD, PyData.canLay0], by rw [kdD, PyData.depth]⟩
  | some s =>
    have h' : s ∈ kinds := h
    have e : PyData.strOk s = true := by
      simp only [kinds, List.mem_cons, List.not_mem_nil, or_false] at h'
      rcases h' with rfl | rfl | rfl | rfl | rfl <;> decide +kernel
    exact ⟨by rw [kdD, PyData.canLay0]; exact e, by rw [kdD, PyData.depth]⟩
theorem pr_lay {h : Str × Str} (h1 : PyData.strOk h.1 = true) (h2 : PyData.strOk h.2 = true) : (prD h).canLay0 = true ∧ (prD h).depth ≤ 1 := by
  unfold prD
  rw [PyData.canLay0, PyData.canLayAll0, PyData.canLayAll0, PyData.canLayAll0, PyData.canLay0, PyData.canLay0, h1, h2]
  exact ⟨rfl, by simp [PyData.depth, PyData.depthAll]⟩
structure LnOk (l : Ln) : Prop where
  nm : PyData.strOk l.nm = true
  src : PyData.strOk l.src = true
  tgt : PyData.strOk l.tgt = true
  it : ∀ i ∈ l.it, PyData.strOk i = true
  kd : KindOk l.kd
theorem ln_lay {l : Ln} (o : LnOk l) : (lnD l).canLay0 = true ∧ (lnD l).depth ≤ 2 := by
  have h1 := strs_lay (l := upS l.it) fun x hx => o.it x ((upS_perm _).mem_iff.mp hx)
  have h2 := kd_lay o.kd
  have e : ∀ s : Str, (PyData.str s).depth = 0 := fun s => by rw [PyData.depth]
  unfold lnD
  rw [PyData.canLay0, PyData.canLayAll0, PyData.canLayAll0, PyData.canLayAll0, PyData.canLayAll0, PyData.canLayAll0, PyData.canLayAll0, PyData.canLay0, PyData.canLay0, PyData.canLay0, o.nm, o.src, o.tgt, h1.1, h2.1,
    PyData.depth, PyData.depthAll, PyData.depthAll, PyData.depthAll, PyData.depthAll, PyData.depthAll, PyData.depthAll, e, e, e, h2.2]
  exact ⟨rfl, by omega⟩
structure ToldOk (sites : List Str) (homes : List (Str × Str)) (lines : List Ln) : Prop where
  s : ∀ x ∈ sites, PyData.strOk x = true
  h : ∀ x ∈ homes, PyData.strOk x.1 = true ∧ PyData.strOk x.2 = true
  l : ∀ x ∈ lines, LnOk x
theorem told_lay {sites : List Str} {homes : List (Str × Str)} {lines : List Ln} (o : ToldOk sites homes lines) : (toldD sites homes lines).canLay0 = true ∧ (toldD sites homes lines).depth ≤ 64 := by
  have h1 := strs_lay (l := upS sites) fun x hx => o.s x ((upS_perm _).mem_iff.mp hx)
  have h2 := ls_lay (D := prD) (n := 1) (xs := asc (ltN (·.1)) homes) fun x hx => pr_lay (o.h x ((asc_perm _ _).mem_iff.mp hx)).1 (o.h x ((asc_perm _ _).mem_iff.mp hx)).2
  have h3 := ls_lay (D := lnD) (n := 2) (xs := asc (ltN (·.nm)) lines) fun x hx => ln_lay (o.l x ((asc_perm _ _).mem_iff.mp hx))
  unfold toldD
  rw [PyData.canLay0, PyData.canLayAll0, PyData.canLayAll0, PyData.canLayAll0, PyData.canLayAll0, h1.1, h2.1, h3.1, PyData.depth, PyData.depthAll, PyData.depthAll, PyData.depthAll, PyData.depthAll]
  exact ⟨rfl, by omega⟩
end M

namespace M
open PySem PySem.Spec PyProof.Rows L2
/-! ### rows sorted by their first texts -/
section
variable {α : Type} {R : V → α → Prop} {vs : List V} {xs : List α}
theorem Pw.srtG {lt : α → α → Bool} (p : Pw R vs xs) : Pw R ((M.srt (fun p q : V × α => lt p.2 q.2) (vs.zip xs)).map (·.1)) (M.srt lt xs) := by
  have e2 : M.srt lt xs = (M.srt (fun p q : V × α => lt p.2 q.2) (vs.zip xs)).map (·.2) := by
    rw [← srt_map (lt2 := lt) (f := fun z : V × α => z.2) (fun a b => rfl), p.snd]
  rw [e2]
  exact Pw.of_zip fun z hz => p.mem z ((srt_perm _).mem_iff.mp hz)
theorem srt_ltN {f : α → Str} {l : List α} (nd : (l.map f).Nodup) : srt (ltN f) l = asc (ltN f) l := srt_asc (ordN nd) (fun _ h => h) (.refl _)
theorem zip_fst (p : Pw R vs xs) : (vs.zip xs).map (·.1) = vs := by
  rw [List.map_fst_zip]
  exact Nat.le_of_eq p.len
/-- a tuple with a text at its head -/
def HdT (f : α → Str) (H : Hp) (v : V) (x : α) : Prop := ∃ t r, v = .ref t ∧ H t = some (.tup (.str (f x) :: r))
theorem pw_cmp {K : PySem.W.Frag} {H : Hp} {f : α → Str} (p : Pw R vs xs) (nd : (xs.map f).Nodup) (hh : ∀ v x, R v x → HdT f H v x) : (vs.zip xs).Pairwise (fun p q => CmpR K H p.1 q.1 (ltN f p.2 q.2)) := by
  refine List.pairwise_iff_getElem.mpr fun i j hi hj lt => ?_
  have hi1 : i < xs.length := by rw [List.length_zip] at hi; omega
  have hj1 : j < xs.length := by rw [List.length_zip] at hj; omega
  have hi2 : i < vs.length := by rw [List.length_zip] at hi; omega
  have hj2 : j < vs.length := by rw [List.length_zip] at hj; omega
  rw [List.getElem_zip, List.getElem_zip]
  obtain ⟨t, r, e1, h1⟩ := hh _ _ (p.at_ i _ _ (List.getElem?_eq_getElem hi2) (List.getElem?_eq_getElem hi1))
  obtain ⟨t', r', e2, h2⟩ := hh _ _ (p.at_ j _ _ (List.getElem?_eq_getElem hj2) (List.getElem?_eq_getElem hj1))
  refine .inr ⟨t, t', _, _, r, r', e1, e2, h1, h2, fun e => ?_, rfl⟩
  have hij : (xs.map f)[i]'(by simpa using hi1) = (xs.map f)[j]'(by simpa using hj1) := by simpa using e
  have := (List.getElem_inj nd).mp hij
  omega
end
/-- a row of a placement as told: its items ascend -/
def RwU (H : Hp) (v : V) (l : Ln) : Prop := ∃ t a, v = .ref t ∧ H t = some (.tup (rwV l a)) ∧ H a = some (.lst ((upS l.it).map V.str))
theorem stRwU : Stay RwU := fun H H' v x s ⟨t, a, e, h, q⟩ => ⟨t, a, e, s _ _ h, s _ _ q⟩
theorem hd_PsA {H : Hp} : ∀ v x, PsA H v x → HdT (fun x : Str × Str => x.1) H v x := fun v x ⟨t, e, h⟩ => ⟨t, _, e, h⟩
theorem hd_RwU {H : Hp} : ∀ v x, RwU H v x → HdT (fun x : Ln => x.nm) H v x := fun v x ⟨t, a, e, h, _⟩ => ⟨t, _, e, h⟩
theorem told_dp {K : PySem.W.Frag} {H : Hp} {T A B C : Addr} {sites : List Str} {homes : List (Str × Str)} {lines : List Ln} (hT : H T = some (.tup [.ref A, .ref B, .ref C])) (hA : H A = some (.lst ((upS sites).map V.str)))
    (hB : LsA PsA H B (asc (ltN (·.1)) homes)) (hC : LsA RwU H C (asc (ltN (·.nm)) lines)) : Dp K H (.ref T) (toldD sites homes lines) := by
  refine .tup (.inl (.inl hT)) (.cons (strs_dp hA) (.cons (ls_dp (fun v x h => ?_) hB) (.cons (ls_dp (fun v x h => ?_) hC) .nil)))
  · obtain ⟨t, rfl, ht⟩ := h
    exact .tup (.inl (.inl ht)) (.cons (.str _) (.cons (.str _) .nil))
  · obtain ⟨t, a, rfl, ht, ha⟩ := h
    exact .tup (.inl (.inl ht)) (.cons (.str _) (.cons (.str _) (.cons (.str _) (.cons (strs_dp ha) (.cons (kd_dp _) .nil)))))
end M

namespace M
open PySem PySem.Spec PyProof.Rows L2
/-! ### e.f = v, a property with a setter -/
section
variable {X : Cx} {CX : CXT} {k j : Nat} {C p g a dx : Addr} {fs : List (Str × V)} {f : Str} {fd : FuncData} {ps : List Str} {sp : Sp} {E : L2.St → XK} {W : WX} {o value : Expr} {pos pos' : Pos} {ta tv : TE}
theorem setprop_ok {pins : List (Addr × Obj)} {σ : L2.St} {H : Hp} {s : Shared} {D : Hp → Prop} {y : V} {u : Value} (I : Inv X pins σ H s) (ea : H a = some (.ins C dx fs)) (c : Cls X.K C) (hp : PropSet X.K C f p g)
    (F : FnOk X.prog X.w X.K X.mg X.base CX k g fd ps sp) (hr : Room (k + 2) X.A) (hb : Binds X.K fd ps []) (hx : ∀ (s : Shared), PassesAt CX X σ (E σ)) (ry : RelV y u) (h : sp [.ref a, y] H (fun _ H' => D H') (E σ)) :
    wpAny (model X.prog X.w) X.A (setAttr (.ref a) f u) (fun _ s' => ∃ H', Inv X pins σ H' s' ∧ D H') X.xe s := by
  obtain ⟨mA, O, _, _, _, _⟩ := ins_get I.hok ea
  obtain ⟨od, J, _⟩ := O.look
  obtain ⟨a0, rest, hrec⟩ := hp.rec_
  have I1 := I.tok (s.toks + 1)
  have hl : ([Value.ref a, u]).length = ps.length := by
    rw [← F.len _ _ _ _ h]
    rfl
  have b := hb { s with toks := s.toks + 1 } [.ref a, u] I1.kIn (by rw [List.append_nil]; exact hl)
  rw [List.append_nil] at b
  refine PySem.W.set_plain I.kIn J c.sa (PySem.W.osa_descr (s := { s with toks := s.toks + 1 }) PySem.W.KF.slot_pset I.kIn J c.po hp.tk hp.ty (PySem.W.prop_set (s := { s with toks := s.toks + 1 }) I.kIn hrec ?_))
  refine codeAny_mono (F.run X.A.in1.in1 X.stack { s with toks := s.toks + 1 } H ⟨[.ref a, u], []⟩ [.ref a, u] [.ref a, y] (fun _ H' => D H') (E σ) hr.in1.in1 I1.env0.in1.in1 b (.cons rfl (.cons ry .nil)) h) fun r s' hq => ?_
  cases r with
  | error er => exact hx s pins H _ er s' I1 hq
  | ok fl =>
    cases fl with
    | ret v =>
      obtain ⟨v', H', I3, rv, q3⟩ := I1.after hq
      exact ⟨H', I3, q3⟩
    | next => exact False.elim hq
    | brk => exact False.elim hq
    | cont => exact False.elim hq
end
/-- its promise -/
structure PSet (P : Program) (w : World) (K : PySem.W.Frag) (mg : Str → Option Value) (base : Heap) (k : Nat) (C : Addr) (f : Str) (sp : Sp) : Prop where
  cl : Cls K C
  ex : ∃ (p g : Addr) (fd : FuncData) (ps : List Str), PropSet K C f p g ∧ Binds K fd ps [] ∧ FnOk P w K mg base (L2.CX P w) k g fd ps sp
def sPst (C : Addr) (sp : Sp) (E : L2.St → XK) (ta tv : TE) : TS := fun D σ H => tv σ H fun y H1 => ta σ H1 fun x H2 => ∃ (a dx : Addr) (fs : List (Str × V)), x = .ref a ∧ H2 a = some (.ins C dx fs) ∧ sp [.ref a, y] H2 (fun _ H' => D.nx σ H') (E σ)
theorem ps_pst {X : Cx} {j k : Nat} {C : Addr} {f : Str} {sp : Sp} {W : WX} {o value : Expr} {pos pos' : Pos} {ta tv : TE} (G : PSet X.prog X.w X.K X.mg X.base k C f sp) (hr : Room j X.A) (tk : Takes X W) (ha : PE X o ta) (hv : PE X value tv) (hk : k + 2 ≤ j := by decide)
    (hs : swapsWith value (some (.Attribute o f pos')) pos.line X.env = pure false := by rfl) : PS X (.Assign [.Attribute o f pos'] value pos) (sPst C sp (WE W) ta tv) := by
  obtain ⟨p, g, fd, ps, hp, hb, F⟩ := G.ex
  refine ⟨fun pins s σ H D I h => ?_⟩
  refine plainObj_wpAny_Assign_Attribute (thn (hv.run pins s σ H _ I h) fun u s1 ⟨y, H1, I1, ry, q⟩ => thn (ha.run pins s1 σ H1 _ I1 q) fun ov s2 ⟨x, H2, I2, rx, a, dx, fs, ex, ea, q2⟩ => ?_) hs
  subst ex
  obtain rfl : ov = Value.ref a := rx
  exact wpAny_mono (setprop_ok I2 ea G.cl hp F (hr.mono hk) hb (fun _ => passAt tk σ) ry q2) (fun _ s3 ⟨H', I3, q3⟩ => ⟨σ, _, I3, q3⟩) fun _ _ z => z
end M

namespace M
open PySem PySem.Spec PyProof.Rows L2
/-! ### a channel gets another kind -/
def insN : HO → Nat
  | .ins _ _ fs => fs.length
  | _ => 0
def PSt.homes (s : PSt) : List (Str × Str) := s.seats.map fun i => (i.nm, i.st)
def PSt.lns (s : PSt) : List Ln := s.lines.map (·.l)
theorem Hx.updM {H0 H : Hp} {l l' : List (Addr × HO)} {a : Addr} {o : HO} (x : Hx H0 H l) (ha : a ∈ l.map (·.1)) (e : l'.map (·.1) = l.map (·.1)) (h : ∀ z ∈ l', z = (a, o) ∨ (z ∈ l ∧ z.1 ≠ a)) : Hx H0 (upd H a o) l' := by
  refine ⟨fun z hz => ?_, by rw [e]; exact x.nd, fun b u hb nb => ?_⟩
  · rcases h z hz with rfl | ⟨hm, ne⟩
    · exact upd_same
    · rw [upd_ne ne]; exact x.at_ z hm
  · have ne : ∀ z ∈ l, z.1 ≠ b := fun z hz q => by
      have : z.1 ∈ l'.map (·.1) := by rw [e]; exact List.mem_map.mpr ⟨z, hz, rfl⟩
      obtain ⟨y, hy, e2⟩ := List.mem_map.mp this
      exact nb y hy (e2.trans q)
    obtain ⟨z, hz, e1⟩ := List.mem_map.mp ha
    have := ne z hz
    rw [upd_ne (fun q => this (by rw [e1, q]))]
    exact x.fr b u hb ne
def Ln.kdTo (n : Str) (k : Option Str) (l : Ln) : Ln := { l with kd := if l.nm = n then k else l.kd }
def Cn.kdTo (n : Str) (k : Option Str) (c : Cn) : Cn := { c with l := c.l.kdTo n k }
def PSt.kdTo (s : PSt) (n : Str) (k : Option Str) : PSt := { s with lines := s.lines.map (Cn.kdTo n k) }
theorem GdOk.kdTo {g : Gd} (o : GdOk g) (n : Str) (k : Option Str) : GdOk { g with lines := g.lines.map (Ln.kdTo n k) } := by
  refine ⟨o.sN, o.hN, o.hS, ?_, ?_, ?_, o.wH, ?_, ?_, ?_⟩
  · show ((g.lines.map (Ln.kdTo n k)).map (·.nm)).Nodup
    rw [List.map_map]
    exact o.lN
  · intro l hl
    obtain ⟨m, hm, rfl⟩ := List.mem_map.mp hl
    exact o.lE m hm
  · intro l hl
    obtain ⟨m, hm, rfl⟩ := List.mem_map.mp hl
    exact o.lI m hm
  · intro l hl i hi
    obtain ⟨m, hm, rfl⟩ := List.mem_map.mp hl
    exact o.wL m hm i hi
  · intro i s w h
    rcases o.wD i s w h with h | ⟨l, hl, e, hi⟩
    · exact .inl h
    · exact .inr ⟨_, List.mem_map.mpr ⟨l, hl, rfl⟩, e, hi⟩
  · intro i j l m x hi hj e hl hm
    have hi' : (g.lines.map (Ln.kdTo n k))[i]? = some l := hi
    have hj' : (g.lines.map (Ln.kdTo n k))[j]? = some m := hj
    rw [List.getElem?_map] at hi' hj'
    cases e1 : g.lines[i]? with
    | none => rw [e1] at hi'; cases hi'
    | some l0 =>
      cases e2 : g.lines[j]? with
      | none => rw [e2] at hj'; cases hj'
      | some m0 =>
        rw [e1] at hi'
        rw [e2] at hj'
        cases hi'
        cases hj'
        exact o.u i j l0 m0 x e1 e2 e hl hm
theorem BrA.kdTo {kvb : List (List L2.Key × V)} {cs : List Cn} (b : BrA kvb cs) (n : Str) (k : Option Str) : BrA kvb (cs.map (Cn.kdTo n k)) := by
  refine ⟨fun c hc i hi => ?_, fun i s h => b.out i s fun c hc => h (c.kdTo n k) (List.mem_map.mpr ⟨c, hc, rfl⟩), b.keys, b.nd⟩
  obtain ⟨d, hd, rfl⟩ := List.mem_map.mp hc
  exact b.in_ d hd i hi
theorem PlA.kdTo {CP CI CC : Addr} {H0 H : Hp} {s : PSt} {w : Ways} (x : PlA CP CI CC H0 H s w) {c : Cn} (hc : c ∈ s.lines) (k : Option Str) : PlA CP CI CC H0 (upd H c.a (.ins CC c.dx (cnF (c.kdTo c.l.nm k)))) (s.kdTo c.l.nm k) w := by
  have hca := x.hca hc
  have nl : (s.lines.map (·.l.nm)).Nodup := by
    have := x.o.lN
    unfold PSt.g at this
    rw [List.map_map] at this
    exact this
  have same : ∀ d ∈ s.lines, d.l.nm = c.l.nm → d = c := fun d hd e => by
    obtain ⟨i, hi, rfl⟩ := List.getElem_of_mem hd
    obtain ⟨j, hj, rfl⟩ := List.getElem_of_mem hc
    have : (s.lines.map (·.l.nm))[i]'(by simpa using hi) = (s.lines.map (·.l.nm))[j]'(by simpa using hj) := by simpa using e
    have := (List.getElem_inj nl).mp this
    subst this
    rfl
  have ne : ∀ z ∈ s.tbl CP CI CC, z.1 = c.a → z.2 = .ins CC c.dx (cnF c) := fun z hz e => by
    have := x.x.at_ z hz
    rw [e, hca] at this
    exact (Option.some.inj this).symm
  refine ⟨x.x.updM (List.mem_map.mpr ⟨(c.a, .ins CC c.dx (cnF c)), List.mem_append_right _ (List.mem_append_right _ (chT_mem hc).1), rfl⟩) ?_ ?_, x.b.kdTo _ _, ?_⟩
  · have e : (chT CC (s.lines.map (Cn.kdTo c.l.nm k))).map (·.1) = (chT CC s.lines).map (·.1) := by
      unfold chT
      rw [List.flatMap_map, List.map_flatMap, List.map_flatMap]
      rfl
    have e2 : (PSt.tbl CP CI CC (s.kdTo c.l.nm k)).map (·.1) = [s.DB, s.DL, s.DS, s.LP, s.p] ++ ((seT CI s.p s.seats).map (·.1) ++ (chT CC (s.lines.map (Cn.kdTo c.l.nm k))).map (·.1)) := by
      unfold PSt.tbl
      rw [List.map_append, List.map_append]
      rfl
    have e3 : (PSt.tbl CP CI CC s).map (·.1) = [s.DB, s.DL, s.DS, s.LP, s.p] ++ ((seT CI s.p s.seats).map (·.1) ++ (chT CC s.lines).map (·.1)) := by
      unfold PSt.tbl
      rw [List.map_append, List.map_append]
      rfl
    rw [e2, e3, e]
  · intro z hz
    have eL : kvL (s.lines.map (Cn.kdTo c.l.nm k)) = kvL s.lines := by
      unfold kvL
      rw [List.map_map]
      rfl
    rcases List.mem_append.mp hz with hz | hz
    · have hz' : z ∈ ([(s.DB, .dT s.kvb), (s.DL, .dK (kvL (s.lines.map (Cn.kdTo c.l.nm k)))), (s.DS, .dK (kvS s.seats)), (s.LP, .lst (s.places.map V.str)), (s.p, .ins CP s.dp s.F)] : List (Addr × HO)) := hz
      rw [eL] at hz'
      have hm : z ∈ s.tbl CP CI CC := List.mem_append_left _ hz'
      refine .inr ⟨hm, fun e => ?_⟩
      have e2 := ne z hm e
      simp only [List.mem_cons, List.not_mem_nil, or_false] at hz'
      rcases hz' with rfl | rfl | rfl | rfl | rfl
      · cases e2
      · cases e2
      · cases e2
      · cases e2
      · have e3 : (4 : Nat) = 5 := congrArg insN e2
        exact absurd e3 (by decide)
    rcases List.mem_append.mp hz with hz | hz
    · have hm : z ∈ s.tbl CP CI CC := List.mem_append_right _ (List.mem_append_left _ hz)
      refine .inr ⟨hm, fun e => ?_⟩
      have e2 := ne z hm e
      obtain ⟨i, _, rfl⟩ := List.mem_map.mp hz
      have e3 : (3 : Nat) = 5 := congrArg insN e2
      exact absurd e3 (by decide)
    · obtain ⟨d', hd', hz⟩ := List.mem_flatMap.mp hz
      obtain ⟨d, hd, rfl⟩ := List.mem_map.mp hd'
      simp only [List.mem_cons, List.not_mem_nil, or_false] at hz
      rcases hz with rfl | rfl
      · by_cases q : d.l.nm = c.l.nm
        · rw [same d hd q]
          exact .inl rfl
        · have ek : d.kdTo c.l.nm k = d := by
            unfold Cn.kdTo Ln.kdTo
            rw [if_neg q]
          rw [ek]
          have hm : (d.a, HO.ins CC d.dx (cnF d)) ∈ s.tbl CP CI CC := List.mem_append_right _ (List.mem_append_right _ (chT_mem hd).1)
          refine .inr ⟨hm, fun e => ?_⟩
          have e2 := ne _ hm e
          have e3 : cnF d = cnF c := by injection e2
          exact q (by
            have e4 := congrArg (fun f => f.lookup ("name" : Str)) e3
            have e5 : some (V.str d.l.nm) = some (V.str c.l.nm) := e4
            injection e5 with e6
            injection e6)
      · have hm : (d.la, HO.lst (d.l.it.map V.str)) ∈ s.tbl CP CI CC := List.mem_append_right _ (List.mem_append_right _ (chT_mem hd).2)
        refine .inr ⟨hm, fun e => ?_⟩
        cases ne _ hm e
  · have := x.o.kdTo c.l.nm k
    have e : (s.kdTo c.l.nm k).g w = { s.g w with lines := (s.g w).lines.map (Ln.kdTo c.l.nm k) } := by
      unfold PSt.g PSt.kdTo
      simp only [List.map_map]
      rfl
    rw [e]
    exact this
theorem asc_perm_eq {α : Type} {f : α → Str} {l m : List α} (nd : (l.map f).Nodup) (p : l.Perm m) : asc (ltN f) l = asc (ltN f) m := by
  rw [← srt_ltN nd]
  exact srt_asc (ordN nd) (fun _ h => h) p
theorem kdTo_perm : ∀ {ls : List Ln}, (ls.map (·.nm)).Nodup → ∀ {l : Ln}, l ∈ ls → ∀ k : Option Str, (ls.filter (fun m => !decide (m.nm = l.nm)) ++ [l.kdTo l.nm k]).Perm (ls.map (Ln.kdTo l.nm k))
  | m :: ls, nd, l, hl, k => by
    have n := List.nodup_cons.mp nd
    by_cases q : m.nm = l.nm
    · have el : l = m := by
        rcases List.mem_cons.mp hl with h | h
        · exact h
        · exact absurd (List.mem_map.mpr ⟨l, h, q.symm⟩) n.1
      subst el
      have ne : ∀ x ∈ ls, ¬ x.nm = l.nm := fun x hx e => n.1 (List.mem_map.mpr ⟨x, hx, e⟩)
      have e1 : (l :: ls).filter (fun m => !decide (m.nm = l.nm)) = ls := by
        rw [List.filter_cons, if_neg (by simp)]
        exact List.filter_eq_self.mpr fun x hx => by rw [decide_eq_false (ne x hx)]; rfl
      have e2 : ls.map (Ln.kdTo l.nm k) = ls := by
        have := List.map_congr_left (f := Ln.kdTo l.nm k) (g := id) (l := ls) fun x hx => by
          unfold Ln.kdTo
          rw [if_neg (ne x hx)]
          rfl
        rw [this, List.map_id]
      rw [e1, List.map_cons, e2]
      exact List.perm_append_singleton _ _
    · have hl' : l ∈ ls := by
        rcases List.mem_cons.mp hl with h | h
        · exact absurd (by rw [h]) q
        · exact h
      have e1 : (m :: ls).filter (fun m => !decide (m.nm = l.nm)) = m :: ls.filter (fun m => !decide (m.nm = l.nm)) := by
        rw [List.filter_cons, if_pos (by rw [decide_eq_false q]; rfl)]
      have e2 : m.kdTo l.nm k = m := by
        unfold Ln.kdTo
        rw [if_neg q]
      rw [e1, List.map_cons, e2]
      exact (kdTo_perm n.2 hl' k).cons m
theorem PSt.kdTo_lns (s : PSt) (n : Str) (k : Option Str) : (s.kdTo n k).lns = s.lns.map (Ln.kdTo n k) := by
  unfold PSt.lns PSt.kdTo
  rw [List.map_map, List.map_map]
  rfl
theorem kdTo_told {sites : List Str} {homes : List (Str × Str)} {lines : List Ln} (o : ToldOk sites homes lines) (n : Str) {k : Option Str} (hk : KindOk k) : ToldOk sites homes (lines.map (Ln.kdTo n k)) :=
  ⟨o.s, o.h, fun x hx => by
    obtain ⟨y, hy, rfl⟩ := List.mem_map.mp hx
    have z := o.l y hy
    refine ⟨z.nm, z.src, z.tgt, z.it, ?_⟩
    show KindOk (if y.nm = n then k else y.kd)
    split
    · exact hk
    · exact z.kd⟩
end M

namespace M
open PySem PySem.Spec PyProof.Rows L2
/-! ### a channel carries one more item -/
def Cn.more (c : Cn) (i : Str) : Cn := { c with l := c.l.more i }
def PSt.add (s : PSt) (k : Nat) (c : Cn) (i : Str) : PSt := { s with lines := s.lines.set k (c.more i), kvb := putK s.kvb (k2 i c.l.tgt) (.ref c.a) }
theorem la_sub (CC : Addr) : ∀ cs : List Cn, (cs.map (·.la)).Sublist ((chT CC cs).map (·.1))
  | [] => by unfold chT; exact List.Sublist.slnil
  | c :: cs => by
    have ih := la_sub CC cs
    unfold chT at ih ⊢
    rw [List.flatMap_cons, List.map_append, List.map_cons]
    show (c.la :: _).Sublist (c.a :: c.la :: _)
    exact (ih.cons_cons c.la).cons c.a
theorem PlA.ndLa {CP CI CC : Addr} {H0 H : Hp} {s : PSt} {w : Ways} (x : PlA CP CI CC H0 H s w) : (s.lines.map (·.la)).Nodup := by
  have h := x.x.nd
  unfold PSt.tbl at h
  rw [List.map_append, List.map_append] at h
  exact (List.nodup_append.mp (List.nodup_append.mp h).2.1).2.1.sublist (la_sub CC s.lines)
theorem BrA.add {kvb : List (List L2.Key × V)} {cs : List Cn} {k : Nat} {c : Cn} {i : Str} (b : BrA kvb cs) (hk : cs[k]? = some c) (nw : ∀ d ∈ cs, ¬ (i ∈ d.l.it ∧ d.l.tgt = c.l.tgt)) : BrA (putK kvb (k2 i c.l.tgt) (.ref c.a)) (cs.set k (c.more i)) := by
  have kl := (List.getElem?_eq_some_iff.mp hk).1
  have cm := List.mem_of_getElem? hk
  have hm : c.more i ∈ cs.set k (c.more i) := List.mem_of_getElem? (by rw [List.getElem?_set_self kl] : (cs.set k (c.more i))[k]? = some (c.more i))
  refine ⟨fun d hd j hj => ?_, fun j s h => ?_, fun e he => ?_, putK_nd b.nd⟩
  · rw [valV_put]
    by_cases q : k2 j d.l.tgt = k2 i c.l.tgt
    · rw [if_pos q]
      obtain ⟨q1, q2⟩ := k2_inj q
      rcases mem_set_of hd with rfl | hd
      · rfl
      · exact absurd ⟨by rw [← q1]; exact hj, q2⟩ (nw d hd)
    · rw [if_neg q]
      rcases mem_set_of hd with rfl | hd
      · have hj' : j ∈ c.l.it ++ [i] := hj
        rcases List.mem_append.mp hj' with hj' | hj'
        · exact b.in_ c cm j hj'
        · exact absurd (by rw [List.mem_singleton.mp hj']; rfl) q
      · exact b.in_ d hd j hj
  · rw [valV_put]
    by_cases q : k2 j s = k2 i c.l.tgt
    · obtain ⟨rfl, rfl⟩ := k2_inj q
      exact absurd ⟨List.mem_append_right _ (List.mem_singleton.mpr rfl), rfl⟩ (h _ hm)
    · rw [if_neg q]
      refine b.out j s fun d hd hh => ?_
      obtain ⟨n, hn⟩ := List.getElem?_of_mem hd
      by_cases e : n = k
      · subst e
        rw [hk] at hn
        cases hn
        exact h _ hm ⟨List.mem_append_left _ hh.1, hh.2⟩
      · have : (cs.set k (c.more i))[n]? = some d := by rw [List.getElem?_set_ne (Ne.symm e)]; exact hn
        exact h _ (List.mem_of_getElem? this) hh
  · rcases putK_mem he with q | ⟨e', h1, h2⟩
    · exact ⟨i, c.l.tgt, q⟩
    · obtain ⟨i', s', q⟩ := b.keys e' h1
      exact ⟨i', s', by rw [← h2]; exact q⟩
theorem PlA.add {CP CI CC : Addr} {H0 H : Hp} {s : PSt} {w : Ways} {k : Nat} {c : Cn} {i : Str} {v : List Str} (x : PlA CP CI CC H0 H s w) (hk : s.lines[k]? = some c) (hi : i ∈ (s.g w).goods) (hw : w i c.l.src = some v) (hn : w i c.l.tgt = none) :
    PlA CP CI CC H0 (upd (upd H c.la (.lst ((c.l.it ++ [i]).map V.str))) s.DB (.dT (putK s.kvb (k2 i c.l.tgt) (.ref c.a)))) (s.add k c i) (wSet w i c.l.tgt (v ++ [c.l.nm])) := by
  have hc := List.mem_of_getElem? hk
  have kl := (List.getElem?_eq_some_iff.mp hk).1
  have nla := x.ndLa
  have hca := x.hca hc
  have hla := x.hla hc
  have nw : ∀ d ∈ s.lines, ¬ (i ∈ d.l.it ∧ d.l.tgt = c.l.tgt) := fun d hd ⟨h1, h2⟩ => by
    obtain ⟨v', _, h3⟩ := x.o.wL d.l (List.mem_map.mpr ⟨d, hd, rfl⟩) i h1
    have h4 : w i d.l.tgt = some (v' ++ [d.l.nm]) := h3
    rw [h2, hn] at h4
    cases h4
  have e0 : ∀ f : Cn → List Addr, f (c.more i) = f c → (s.lines.set k (c.more i)).map f = s.lines.map f := fun f e => map_set_same f hk e
  have eL : kvL (s.lines.set k (c.more i)) = kvL s.lines := map_set_same (fun c : Cn => ((Sum.inr c.l.nm : Key), V.ref c.a)) hk rfl
  have eK : ∀ cs : List Cn, (chT CC cs).map (·.1) = (cs.map fun c => [c.a, c.la]).flatten := fun cs => by
    unfold chT
    rw [List.map_flatMap, List.flatMap_def]
    rfl
  let l1 : List (Addr × HO) := [(s.DB, .dT s.kvb), (s.DL, .dK (kvL s.lines)), (s.DS, .dK (kvS s.seats)), (s.LP, .lst (s.places.map V.str)), (s.p, .ins CP s.dp s.F)] ++ (seT CI s.p s.seats ++ chT CC (s.lines.set k (c.more i)))
  have ne : ∀ z ∈ s.tbl CP CI CC, z.1 = c.la → z.2 = .lst (c.l.it.map V.str) := fun z hz e => by
    have := x.x.at_ z hz
    rw [e, hla] at this
    exact (Option.some.inj this).symm
  have nd := x.x.nd
  have x1 : Hx H0 (upd H c.la (.lst ((c.l.it ++ [i]).map V.str))) l1 := by
    refine x.x.updM (List.mem_map.mpr ⟨(c.la, .lst (c.l.it.map V.str)), List.mem_append_right _ (List.mem_append_right _ (chT_mem hc).2), rfl⟩) ?_ ?_
    · show List.map _ (_ ++ (_ ++ _)) = List.map _ (PSt.tbl CP CI CC s)
      unfold PSt.tbl
      rw [List.map_append, List.map_append, List.map_append, List.map_append, eK, eK, e0 (fun c => [c.a, c.la]) rfl]
    · intro z hz
      have hz : z ∈ ([(s.DB, .dT s.kvb), (s.DL, .dK (kvL s.lines)), (s.DS, .dK (kvS s.seats)), (s.LP, .lst (s.places.map V.str)), (s.p, .ins CP s.dp s.F)] : List (Addr × HO)) ++ (seT CI s.p s.seats ++ chT CC (s.lines.set k (c.more i))) := hz
      have hla2 : c.la ∈ (seT CI s.p s.seats ++ chT CC s.lines).map (·.1) := List.mem_map.mpr ⟨(c.la, .lst (c.l.it.map V.str)), List.mem_append_right _ (chT_mem hc).2, rfl⟩
      have hla3 : c.la ∈ (chT CC s.lines).map (·.1) := List.mem_map.mpr ⟨(c.la, .lst (c.l.it.map V.str)), (chT_mem hc).2, rfl⟩
      have nd1 := nd
      unfold PSt.tbl at nd1
      rw [List.map_append] at nd1
      have nd2 := List.nodup_append.mp nd1
      rcases List.mem_append.mp hz with hz | hz
      · exact .inr ⟨List.mem_append_left _ hz, fun e => nd2.2.2 _ (List.mem_map.mpr ⟨z, hz, rfl⟩) _ hla2 e⟩
      have nd3 := nd2.2.1
      rw [List.map_append] at nd3
      rcases List.mem_append.mp hz with hz | hz
      · exact .inr ⟨List.mem_append_right _ (List.mem_append_left _ hz), fun e => (List.nodup_append.mp nd3).2.2 _ (List.mem_map.mpr ⟨z, hz, rfl⟩) _ hla3 e⟩
      · obtain ⟨d, hd, hz⟩ := List.mem_flatMap.mp hz
        simp only [List.mem_cons, List.not_mem_nil, or_false] at hz
        obtain ⟨n, hn'⟩ := List.getElem?_of_mem hd
        by_cases e : n = k
        · subst e
          rw [List.getElem?_set_self kl] at hn'
          cases hn'
          rcases hz with rfl | rfl
          · have hm : (c.a, HO.ins CC c.dx (cnF c)) ∈ s.tbl CP CI CC := List.mem_append_right _ (List.mem_append_right _ (chT_mem hc).1)
            exact .inr ⟨hm, fun e => by cases ne _ hm e⟩
          · exact .inl rfl
        · rw [List.getElem?_set_ne (Ne.symm e)] at hn'
          have hd' := List.mem_of_getElem? hn'
          rcases hz with rfl | rfl
          · have hm : (d.a, HO.ins CC d.dx (cnF d)) ∈ s.tbl CP CI CC := List.mem_append_right _ (List.mem_append_right _ (chT_mem hd').1)
            exact .inr ⟨hm, fun e => by cases ne _ hm e⟩
          · have hm : (d.la, HO.lst (d.l.it.map V.str)) ∈ s.tbl CP CI CC := List.mem_append_right _ (List.mem_append_right _ (chT_mem hd').2)
            refine .inr ⟨hm, fun e2 => e ?_⟩
            have n1 := (List.getElem?_eq_some_iff.mp hn')
            have n2 := (List.getElem?_eq_some_iff.mp hk)
            have h3 : (s.lines.map (·.la))[n]'(by simpa using n1.1) = (s.lines.map (·.la))[k]'(by simpa using n2.1) := by
              rw [List.getElem_map, List.getElem_map, n1.2, n2.2]
              exact e2
            exact (List.getElem_inj nla).mp h3
  refine ⟨?_, x.b.add hk nw, ?_⟩
  · have z := x1.set (o' := .dT (putK s.kvb (k2 i c.l.tgt) (.ref c.a))) 0 rfl
    have e : l1.set 0 (s.DB, .dT (putK s.kvb (k2 i c.l.tgt) (.ref c.a))) = (s.add k c i).tbl CP CI CC := by
      show _ = [_, (s.DL, HO.dK (kvL (s.lines.set k (c.more i)))), _, _, _] ++ _
      rw [eL]
      rfl
    rw [← e]
    exact z
  · have z := x.o.carry (k := k) (l := c.l) (i := i) (w := v) (by show (s.lines.map (·.l))[k]? = some c.l; rw [List.getElem?_map, hk]; rfl) hi hw hn
    have e : (s.add k c i).g (wSet w i c.l.tgt (v ++ [c.l.nm])) = (s.g w).carry k c.l i v := by
      unfold PSt.g PSt.add Gd.carry
      simp only [List.map_set]
      rfl
    rw [e]
    exact z
end M

namespace M
open PySem PySem.Spec PyProof.Rows L2
/-! ### names.remove(k), texts, k there -/
def rRemS : V → List V → Hp → VK → Prop := fun x xs H Q => ∃ (l : Addr) (ns : List Str) (k : Str), x = .ref l ∧ xs = [.str k] ∧ H l = some (.lst (ns.map V.str)) ∧ k ∈ ns ∧ Q .non (upd H l (.lst ((ns.erase k).map V.str)))
theorem vals_erase {vs : List V} {us : List Value} (r : Vals vs us) (j : Nat) : Vals (vs.eraseIdx j) (us.eraseIdx j) := r.eraseIdx j
theorem map_erase_str (ns : List Str) (k : Str) : (ns.erase k).map V.str = (ns.map V.str).eraseIdx (ns.idxOf k) := by
  rw [List.erase_eq_eraseIdx_of_idxOf (i := ns.idxOf k) rfl]
  generalize ns.idxOf k = j
  induction ns generalizing j with
  | nil => rfl
  | cons a ns ih => cases j with
    | zero => rfl
    | succ j => show _ :: _ = _ :: _; rw [ih]
theorem mt_removeS {X : Cx} : MtM X "list.remove" rRemS := by
  intro pins s σ H x xs v us Q I rx rxs h
  obtain ⟨l, ns, k, rfl, rfl, hH, hk, q⟩ := h
  cases rx
  obtain ⟨u, rfl, ru⟩ := rxs.one
  obtain ⟨z, its, n, r, hl, e⟩ := I.lstM hH
  have hjn : ns.idxOf k < ns.length := List.idxOf_lt_length_iff.mpr hk
  rw [List.length_map] at hl z
  have hjl : ns.idxOf k < its.toArray.size := by rw [List.size_toArray]; omega
  have hno : ∀ m (hm : m < ns.length), m < ns.idxOf k → ns[m] ≠ k := fun m hm hmj e => by
    have h1 := List.not_of_lt_findIdx (p := fun x => x == k) (xs := ns) (i := m) hmj
    rw [e] at h1
    simp at h1
  refine call_meets PySem.F.slot_list_remove ⟨_, e, rfl⟩ PySem.F.entry_list_remove (PySem.F.args_list_remove_2 _ _)
    (SeqAt.list_removeAt l its.toArray n none #[] u (eqU (.str k)) (ns.idxOf k) hjl ?_ ?_ (by rw [List.size_toArray]; omega)) ⟨e, fun y hy => mem_eqAt ru rfl r (flat_strs ns) y (by simpa using hy), ?_⟩
  · obtain ⟨w, hw, rw'⟩ := r.get (i := ns.idxOf k) (x := V.str k) (by rw [List.getElem?_map, List.getElem?_eq_getElem hjn, List.getElem_idxOf]; rfl)
    obtain ⟨h1, h2⟩ := List.getElem?_eq_some_iff.mp hw
    have e1 : its.toArray[ns.idxOf k] = w := by simpa using h2
    rw [e1, eqU_of rw' rfl]
    simp [eqV]
  · intro m hm hmj
    have hmn : m < ns.length := by omega
    obtain ⟨w, hw, rw'⟩ := r.get (i := m) (x := V.str ns[m]) (by rw [List.getElem?_map, List.getElem?_eq_getElem hmn]; rfl)
    obtain ⟨h1, h2⟩ := List.getElem?_eq_some_iff.mp hw
    have e1 : its.toArray[m] = w := by simpa using h2
    rw [e1, eqU_of rw' rfl]
    have := hno m hmn hmj
    simp [eqV, this]
  · refine ⟨.non, _, I.lset (its' := its.eraseIdx (ns.idxOf k)) (t' := s.toks) hH e ?_ (by rw [map_erase_str]; exact r.eraseIdx _) ?_, rfl, q⟩
    · show its.toArray.eraseIdxIfInBounds (ns.idxOf k) = (its.eraseIdx (ns.idxOf k)).toArray
      rw [List.eraseIdxIfInBounds_toArray]
    · rw [List.length_map]
      have := List.length_erase_le (a := k) (l := ns)
      omega
/-! ### d.pop(k), k a tuple that is there -/
theorem KT.drop {H : Hp} {kvs : List (List L2.Key × V)} {xs : List (List L2.Key × Addr × Value)} (r : KT H kvs xs) (k : List L2.Key) : KT H (dropK kvs k) (withoutH xs k) := by
  unfold KT at r ⊢
  unfold dropK withoutH
  induction r with
  | nil => exact .nil
  | @cons p q ps qs h t ih =>
    obtain ⟨h1, h2⟩ := h
    rw [List.filter_cons, List.filter_cons]
    by_cases e : p.1 = k
    · rw [if_neg (by simp [e]), if_neg (by simp [← h1, e])]
      exact ih
    · rw [if_pos (by simp [e]), if_pos (by simp [← h1, e])]
      exact .cons ⟨h1, h2⟩ ih
theorem dropK_len {κ : Type} [DecidableEq κ] (kvs : List (κ × V)) (k : κ) : (dropK kvs k).length ≤ kvs.length := by
  unfold dropK
  exact List.length_filter_le _ _
section
variable {X : Cx} {pins : List (Addr × Obj)} {σ : L2.St} {H : Hp} {s : Shared} {a b : Addr} {kvs : List (List L2.Key × V)} {k : List L2.Key} {A : Around} {E : Value → Shared → Prop}
theorem d_popT {v : V} {Q : Value → Shared → Prop} (hu : A.units + 1 < cLine) (I : Inv X pins σ H s) (e : H a = some (.dT kvs)) (eb : H b = some (.tup (k.map kV))) (l : valV kvs k = some v)
    (h : ∀ w' s', Inv X pins σ (upd H a (.dT (dropK kvs k))) s' → RelV v w' → Q w' s') : wpAny (model X.prog X.w) A (call (.builtin "dict.pop") [.ref a, .ref b]) Q E s := by
  obtain ⟨z, hd, xs, rel, dd⟩ := dt_of I.hok e
  have hz : xs.length ≤ sizeLine := by rw [← Paired.length rel]; exact z
  obtain ⟨w', hw, rw'⟩ := RelO.some_of (v := v) (o := (atKey xs k).map (·.2)) (by rw [← l]; exact rel.val k)
  obtain ⟨p, hp, hp2⟩ := Option.map_eq_some_iff.mp hw
  refine call_pop_heap (more := []) (hsz := hz) (.inl rfl) (PySem.F.args_dict_pop_2 _ _) (tupleKind_room_in1 hu) (key_of I.hok eb) hd dd hp fun h' dd' hs => ?_
  rw [hp2]
  refine h w' _ ?_ rw'
  obtain ⟨q, es, ep, hq, h2, h3, h4, _, h5⟩ := dd'
  refine d_write I (by rw [e]; exact True.intro) hs ⟨_, hq⟩ ⟨Nat.le_trans (dropK_len _ _) z, hd, _, (KT.drop rel k).keeps fun c ys ec => ?_, q, es, ep, hq, h2, h3, h4, h5⟩
  rw [upd_ne (ne_of ec e (fun z => nomatch z))]
  exact ec
end
def tDPopT (td ty : TE) : TE := fun σ H Q => td σ H fun x H1 => ∃ a, x = .ref a ∧ IsD H1 a ∧ ty σ H1 fun y H2 => ∃ kvs k b v, H2 a = some (.dT kvs) ∧ y = .ref b ∧ H2 b = some (.tup (k.map kV)) ∧ valV kvs k = some v ∧ Q v (upd H2 a (.dT (dropK kvs k)))
theorem pe_dpopT {X : Cx} {o e : Expr} {apos cpos : Pos} {td ty : TE} (hu : X.A.units + 1 < cLine) (ho : PE X o td) (he : PE X e ty) (m : M1 X o "pop" apos e cpos) : PE X (.Call (.Attribute o "pop" apos) [e] [] cpos) (tDPopT td ty) := by
  refine ⟨fun pins s σ H Q I h => ?_⟩
  refine wpAny_Call_method m.base m.few m.line PySem.F.plainAttrs_dict PySem.F.slot_dict_pop PySem.F.type_dict_pop (thn (ho.run pins s σ H _ I h) fun u s1 ⟨x, H1, I1, rx, a, ex, d, q1⟩ => ?_)
  subst ex
  obtain rfl : u = Value.ref a := rx
  obtain ⟨t1, t2, _⟩ := isD_at I1 d
  refine ⟨t1, t2, ?_⟩
  rw [m.trees]
  refine Calls.callWith_builtin rfl (Calls.evalArgs_plain (Calls.spliced_cons (thn (he.run pins s1 σ H1 _ I1 q1) fun iv s2 ⟨y, H2, I2, ry, kvs, k, b, v, ea, ey, eb, l, q2⟩ => Calls.spliced_nil ?_)))
  subst ey
  obtain rfl : iv = Value.ref b := ry
  exact d_popT hu I2 ea eb l fun w' s3 I3 rw' => ⟨v, _, I3, rw', q2⟩
end M

namespace M
open PySem PySem.Spec PyProof.Rows L2
/-! ### what is left of a placement when copies are given up -/
abbrev KeepP := Str → Str → Bool
def Ln.kept (K : KeepP) (l : Ln) : List Str := l.it.filter fun i => K i l.tgt
def Ln.keep (K : KeepP) (l : Ln) : Option Ln := if (l.kept K).isEmpty then none else some { l with it := l.kept K }
def Cn.keep (K : KeepP) (c : Cn) : Option Cn := if (c.l.kept K).isEmpty then none else some { c with l := { c.l with it := c.l.kept K } }
def keyK (K : KeepP) : List L2.Key → Bool
  | [.inr i, .inr t] => K i t
  | _ => true
def PSt.keep (s : PSt) (K : KeepP) : PSt := { s with lines := s.lines.filterMap (Cn.keep K), kvb := s.kvb.filter fun e => keyK K e.1 }
theorem Ln.keep_some {K : KeepP} {l m : Ln} (h : l.keep K = some m) : m = { l with it := l.kept K } ∧ l.kept K ≠ [] := by
  unfold Ln.keep at h
  split at h
  · cases h
  · rename_i q
    exact ⟨(Option.some.inj h).symm, fun e => q (by rw [e]; rfl)⟩
theorem Cn.keep_some {K : KeepP} {c d : Cn} (h : c.keep K = some d) : d = { c with l := { c.l with it := c.l.kept K } } ∧ c.l.kept K ≠ [] := by
  unfold Cn.keep at h
  split at h
  · cases h
  · rename_i q
    exact ⟨(Option.some.inj h).symm, fun e => q (by rw [e]; rfl)⟩
theorem Ln.mem_kept {K : KeepP} {l : Ln} {i : Str} : i ∈ l.kept K ↔ i ∈ l.it ∧ K i l.tgt = true := List.mem_filter
theorem Ln.keep_of {K : KeepP} {l : Ln} {i : Str} (hi : i ∈ l.it) (hk : K i l.tgt = true) : l.keep K = some { l with it := l.kept K } := by
  unfold Ln.keep
  rw [if_neg]
  intro h
  have := Ln.mem_kept.mpr ⟨hi, hk⟩
  rw [List.isEmpty_iff.mp h] at this
  cases this
theorem Cn.keep_of {K : KeepP} {c : Cn} {i : Str} (hi : i ∈ c.l.it) (hk : K i c.l.tgt = true) : c.keep K = some { c with l := { c.l with it := c.l.kept K } } := by
  unfold Cn.keep
  rw [if_neg]
  intro h
  have := Ln.mem_kept.mpr ⟨hi, hk⟩
  rw [List.isEmpty_iff.mp h] at this
  cases this
theorem fm_sub {α β : Type} {f : α → Option α} {g : α → β} (h : ∀ a b, f a = some b → g b = g a) : ∀ l : List α, ((l.filterMap f).map g).Sublist (l.map g)
  | [] => .slnil
  | a :: l => by
    rw [List.filterMap_cons]
    cases e : f a with
    | none => exact (fm_sub h l).cons _
    | some b =>
      show (g b :: _).Sublist (g a :: _)
      rw [h a b e]
      exact (fm_sub h l).cons_cons _
theorem fm_map {α β : Type} {f : α → Option α} {g : α → β} {q : β → Bool} : ∀ l : List α, (∀ a ∈ l, (∃ b, f a = some b ∧ g b = g a ∧ q (g a) = true) ∨ (f a = none ∧ q (g a) = false)) → (l.filterMap f).map g = (l.map g).filter q
  | [], _ => rfl
  | a :: l, h => by
    have ih := fm_map l fun x hx => h x (List.mem_cons_of_mem _ hx)
    rw [List.filterMap_cons, List.map_cons, List.filter_cons]
    rcases h a List.mem_cons_self with ⟨b, e1, e2, e3⟩ | ⟨e1, e3⟩
    · rw [e1, if_pos e3]
      show g b :: _ = _
      rw [e2, ih]
    · rw [e1, e3]
      exact ih
theorem fm_all {α β : Type} {f : α → Option α} {g : α → β} {l : List α} (h : ∀ a ∈ l, ∃ b, f a = some b ∧ g b = g a) : (l.filterMap f).map g = l.map g := by
  rw [fm_map (q := fun _ => true) l fun a ha => let ⟨b, e1, e2⟩ := h a ha; .inl ⟨b, e1, e2, rfl⟩]
  exact List.filter_eq_self.mpr fun _ _ => rfl
theorem GdOk.keep {g : Gd} (o : GdOk g) {K : KeepP} (hm : ∀ h ∈ g.homes, K h.1 h.2 = true) (cl : ∀ l ∈ g.lines, ∀ i ∈ l.it, K i l.tgt = true → K i l.src = true) :
    GdOk { g with lines := g.lines.filterMap (Ln.keep K), ways := fun i s => if K i s = true then g.ways i s else none } := by
  have mem : ∀ m ∈ g.lines.filterMap (Ln.keep K), ∃ l ∈ g.lines, m = { l with it := l.kept K } ∧ l.kept K ≠ [] := fun m hm => by
    obtain ⟨l, hl, e⟩ := List.mem_filterMap.mp hm
    exact ⟨l, hl, Ln.keep_some e⟩
  have nn : g.lines.Pairwise fun l m => ¬ (l.tgt = m.tgt ∧ ∃ i, i ∈ l.it ∧ i ∈ m.it) := List.pairwise_iff_getElem.mpr fun j k hj hk jk ⟨ht, i, h1, h2⟩ => by
    have := o.u j k _ _ i (List.getElem?_eq_getElem hj) (List.getElem?_eq_getElem hk) ht h1 h2
    omega
  have nd : (g.lines.filterMap (Ln.keep K)).Pairwise fun l m => ¬ (l.tgt = m.tgt ∧ ∃ i, i ∈ l.it ∧ i ∈ m.it) := List.Pairwise.filterMap _ (fun a b r c hc d hd => by
    obtain ⟨rfl, _⟩ := Ln.keep_some hc
    obtain ⟨rfl, _⟩ := Ln.keep_some hd
    rintro ⟨e, i, h1, h2⟩
    exact r ⟨e, i, (Ln.mem_kept.mp h1).1, (Ln.mem_kept.mp h2).1⟩) nn
  refine ⟨o.sN, o.hN, o.hS, ?_, ?_, ?_, ?_, ?_, ?_, ?_⟩
  · exact o.lN.sublist (fm_sub (fun a b h => by rw [(Ln.keep_some h).1]) _)
  · intro m hm
    obtain ⟨l, hl, rfl, _⟩ := mem m hm
    exact o.lE l hl
  · intro m hm
    obtain ⟨l, hl, rfl, _⟩ := mem m hm
    exact ⟨(o.lI l hl).1.sublist List.filter_sublist, fun i hi => (o.lI l hl).2 i (Ln.mem_kept.mp hi).1⟩
  · intro h hh
    show (if K h.1 h.2 = true then g.ways h.1 h.2 else none) = _
    rw [if_pos (hm h hh)]
    exact o.wH h hh
  · intro m hm i hi
    obtain ⟨l, hl, rfl, _⟩ := mem m hm
    obtain ⟨hi, hk⟩ := Ln.mem_kept.mp hi
    obtain ⟨w, h1, h2⟩ := o.wL l hl i hi
    refine ⟨w, ?_, ?_⟩
    · show (if K i l.src = true then g.ways i l.src else none) = _
      rw [if_pos (cl l hl i hi hk)]; exact h1
    · show (if K i l.tgt = true then g.ways i l.tgt else none) = _
      rw [if_pos hk]; exact h2
  · intro i s w h
    have h' : (if K i s = true then g.ways i s else none) = some w := h
    split at h'
    · rename_i hk
      rcases o.wD i s w h' with h | ⟨l, hl, rfl, hi⟩
      · exact .inl h
      · exact .inr ⟨_, List.mem_filterMap.mpr ⟨l, hl, Ln.keep_of hi hk⟩, rfl, Ln.mem_kept.mpr ⟨hi, hk⟩⟩
    · cases h'
  · intro j k l m i hj hk ht h1 h2
    obtain ⟨j1, j2⟩ := List.getElem?_eq_some_iff.mp hj
    obtain ⟨k1, k2⟩ := List.getElem?_eq_some_iff.mp hk
    rcases Nat.lt_trichotomy j k with q | q | q
    · exact absurd ⟨by rw [j2, k2]; exact ht, i, by rw [j2]; exact h1, by rw [k2]; exact h2⟩ (List.pairwise_iff_getElem.mp nd j k j1 k1 q)
    · exact q
    · exact absurd ⟨by rw [j2, k2]; exact ht.symm, i, by rw [k2]; exact h2, by rw [j2]; exact h1⟩ (List.pairwise_iff_getElem.mp nd k j k1 j1 q)
theorem PSt.keep_lns (s : PSt) (K : KeepP) : (s.keep K).lns = s.lns.filterMap (Ln.keep K) := by
  unfold PSt.lns PSt.keep
  show (s.lines.filterMap (Cn.keep K)).map (·.l) = (s.lines.map (·.l)).filterMap (Ln.keep K)
  induction s.lines with
  | nil => rfl
  | cons c cs ih =>
    rw [List.filterMap_cons, List.map_cons, List.filterMap_cons]
    unfold Cn.keep Ln.keep
    by_cases q : (c.l.kept K).isEmpty = true
    · rw [if_pos q, if_pos q]; exact ih
    · rw [if_neg q, if_neg q]
      exact congrArg (List.cons _) ih
theorem Ln.keep_keep (K1 K2 : KeepP) (l : Ln) : (l.keep K1).bind (Ln.keep K2) = l.keep fun i t => K1 i t && K2 i t := by
  have e : ∀ l : Ln, (Ln.kept K2 { l with it := l.kept K1 }) = l.kept fun i t => K1 i t && K2 i t := fun l => by
    unfold Ln.kept
    rw [List.filter_filter]
    exact List.filter_congr fun i _ => by rw [Bool.and_comm]
  cases q : l.keep K1 with
  | none =>
    unfold Ln.keep at q ⊢
    split at q
    · rename_i h
      rw [← e l, if_pos]
      · rfl
      · unfold Ln.kept at h ⊢
        rw [List.isEmpty_iff.mp h]
        rfl
    · cases q
  | some m =>
    obtain ⟨rfl, _⟩ := Ln.keep_some q
    show Ln.keep K2 _ = _
    unfold Ln.keep
    rw [e l]
theorem Cn.keep_keep (K1 K2 : KeepP) (c : Cn) : (c.keep K1).bind (Cn.keep K2) = c.keep fun i t => K1 i t && K2 i t := by
  have e : ∀ l : Ln, (Ln.kept K2 { l with it := l.kept K1 }) = l.kept fun i t => K1 i t && K2 i t := fun l => by
    unfold Ln.kept
    rw [List.filter_filter]
    exact List.filter_congr fun i _ => by rw [Bool.and_comm]
  cases q : c.keep K1 with
  | none =>
    unfold Cn.keep at q ⊢
    split at q
    · rename_i h
      rw [← e c.l, if_pos]
      · rfl
      · unfold Ln.kept at h ⊢
        rw [List.isEmpty_iff.mp h]
        rfl
    · cases q
  | some d =>
    obtain ⟨rfl, _⟩ := Cn.keep_some q
    show Cn.keep K2 _ = _
    unfold Cn.keep
    rw [e c.l]
theorem PSt.keep_keep (s : PSt) (K1 K2 : KeepP) : (s.keep K1).keep K2 = s.keep fun i t => K1 i t && K2 i t := by
  have e1 : (s.lines.filterMap (Cn.keep K1)).filterMap (Cn.keep K2) = s.lines.filterMap (Cn.keep fun i t => K1 i t && K2 i t) := by
    rw [List.filterMap_filterMap]
    refine congrArg (fun f => s.lines.filterMap f) (funext fun c => Cn.keep_keep K1 K2 c)
  have e2 : (s.kvb.filter fun e => keyK K1 e.1).filter (fun e => keyK K2 e.1) = s.kvb.filter fun e => keyK (fun i t => K1 i t && K2 i t) e.1 := by
    rw [List.filter_filter]
    refine List.filter_congr fun e _ => ?_
    unfold keyK
    split
    · rw [Bool.and_comm]
    · rfl
  unfold PSt.keep
  rw [e1, e2]
theorem PSt.keep_all {s : PSt} (ne : ∀ c ∈ s.lines, c.l.it ≠ []) {K : KeepP} (h : ∀ c ∈ s.lines, ∀ i ∈ c.l.it, K i c.l.tgt = true) (hb : ∀ e ∈ s.kvb, keyK K e.1 = true) : s.keep K = s := by
  have e1 : s.lines.filterMap (Cn.keep K) = s.lines := by
    have : ∀ l : List Cn, (∀ c ∈ l, c.keep K = some c) → l.filterMap (Cn.keep K) = l := fun l => by
      induction l with
      | nil => intro _; rfl
      | cons c l ih =>
        intro h
        rw [List.filterMap_cons, h c List.mem_cons_self]
        show c :: _ = _
        rw [ih fun d hd => h d (List.mem_cons_of_mem _ hd)]
    refine this _ fun c hc => ?_
    have ek : c.l.kept K = c.l.it := List.filter_eq_self.mpr fun i hi => h c hc i hi
    unfold Cn.keep
    rw [ek, if_neg]
    intro q
    exact ne c hc (List.isEmpty_iff.mp q)
  have e2 : (s.kvb.filter fun e => keyK K e.1) = s.kvb := List.filter_eq_self.mpr fun e he => hb e he
  unfold PSt.keep
  rw [e1, e2]
theorem valV_filter {κ : Type} [DecidableEq κ] (p : κ → Bool) (k : κ) : ∀ kvs : List (κ × V), valV (kvs.filter fun e => p e.1) k = if p k = true then valV kvs k else none
  | [] => by unfold valV; simp
  | e :: kvs => by
    have ih := valV_filter p k kvs
    rw [List.filter_cons]
    by_cases q : e.1 = k
    · by_cases h : p k = true
      · rw [if_pos (by rw [q]; exact h), if_pos h, valV_pos q, valV_pos q]
      · rw [if_neg (by rw [q]; exact h), if_neg h, ih, if_neg h]
    · rw [valV_neg q]
      split
      · rw [valV_neg q]; exact ih
      · exact ih
theorem BrA.keep {kvb : List (List L2.Key × V)} {cs : List Cn} (b : BrA kvb cs) (K : KeepP) : BrA (kvb.filter fun e => keyK K e.1) (cs.filterMap (Cn.keep K)) := by
  refine ⟨fun d hd i hi => ?_, fun i s h => ?_, fun e he => b.keys e (List.mem_filter.mp he).1, b.nd.sublist (List.filter_sublist.map _)⟩
  · obtain ⟨c, hc, e⟩ := List.mem_filterMap.mp hd
    obtain ⟨rfl, _⟩ := Cn.keep_some e
    obtain ⟨hi, hk⟩ := Ln.mem_kept.mp hi
    rw [valV_filter]
    have e2 : keyK K (k2 i c.l.tgt) = true := hk
    rw [if_pos e2]
    exact b.in_ c hc i hi
  · rw [valV_filter]
    by_cases q : keyK K (k2 i s) = true
    · rw [if_pos q]
      refine b.out i s fun c hc ⟨hi, ht⟩ => ?_
      have hk : K i c.l.tgt = true := by rw [ht]; exact q
      exact h _ (List.mem_filterMap.mpr ⟨c, hc, Cn.keep_of hi hk⟩) ⟨Ln.mem_kept.mpr ⟨hi, hk⟩, ht⟩
    · rw [if_neg q]
/-! ### a placement's state while copies are lost -/
structure PlW (CP CI CC : Addr) (H0 H : Hp) (s : PSt) : Prop where
  x : Hx H0 H (s.tbl CP CI CC)
  b : BrA s.kvb s.lines
  nl : (s.lines.map (·.l.nm)).Nodup
  ni : ∀ c ∈ s.lines, c.l.it.Nodup
  u : s.lines.Pairwise fun c d => ¬ (c.l.tgt = d.l.tgt ∧ ∃ i, i ∈ c.l.it ∧ i ∈ d.l.it)
  ne : ∀ c ∈ s.lines, c.l.it ≠ []
  z0 : ∀ z ∈ s.tbl CP CI CC, H0 z.1 = none
  kz : s.kvb.length ≤ 10000
  zl : s.lines.length ≤ 100
  zs : s.seats.length ≤ 100
  zp : s.places.length ≤ 100
  zi : ∀ c ∈ s.lines, c.l.it.length ≤ 100
theorem none_of {H H' : Hp} {a : Addr} (h : H' a = none) (e : Same H H') : H a = none := by
  cases q : H a with
  | none => rfl
  | some o => have := e _ _ q; rw [h] at this; cases this
section
variable {CP CI CC : Addr} {H0 H H' : Hp} {s : PSt}
theorem PlW.same (x : PlW CP CI CC H0 H s) (e : Same H H') : PlW CP CI CC H0 H' s := ⟨x.x.same e, x.b, x.nl, x.ni, x.u, x.ne, x.z0, x.kz, x.zl, x.zs, x.zp, x.zi⟩
theorem PlW.sj (x : PlW CP CI CC H0 H s) : Same H0 H := x.x.keep x.z0
theorem PlW.hp (x : PlW CP CI CC H0 H s) : H s.p = some (.ins CP s.dp s.F) := x.x.get 4 rfl
theorem PlW.hLP (x : PlW CP CI CC H0 H s) : H s.LP = some (.lst (s.places.map V.str)) := x.x.get 3 rfl
theorem PlW.hDS (x : PlW CP CI CC H0 H s) : H s.DS = some (.dK (kvS s.seats)) := x.x.get 2 rfl
theorem PlW.hDL (x : PlW CP CI CC H0 H s) : H s.DL = some (.dK (kvL s.lines)) := x.x.get 1 rfl
theorem PlW.hDB (x : PlW CP CI CC H0 H s) : H s.DB = some (.dT s.kvb) := x.x.get 0 rfl
theorem PlW.hse (x : PlW CP CI CC H0 H s) {i : Seat} (h : i ∈ s.seats) : H i.a = some (.ins CI i.dx (seatF s.p i)) := x.x.at_ (i.a, .ins CI i.dx (seatF s.p i)) (List.mem_append_right _ (List.mem_append_left _ (seT_mem h)))
theorem PlW.hca (x : PlW CP CI CC H0 H s) {c : Cn} (h : c ∈ s.lines) : H c.a = some (.ins CC c.dx (cnF c)) := x.x.at_ (c.a, .ins CC c.dx (cnF c)) (List.mem_append_right _ (List.mem_append_right _ (chT_mem h).1))
theorem PlW.hla (x : PlW CP CI CC H0 H s) {c : Cn} (h : c ∈ s.lines) : H c.la = some (.lst (c.l.it.map V.str)) := x.x.at_ (c.la, .lst (c.l.it.map V.str)) (List.mem_append_right _ (List.mem_append_right _ (chT_mem h).2))
theorem PlW.base {H1 : Hp} (x : PlW CP CI CC H1 H s) (e : Same H0 H1) : PlW CP CI CC H0 H s := ⟨x.x.base e, x.b, x.nl, x.ni, x.u, x.ne, fun z hz => none_of (x.z0 z hz) e, x.kz, x.zl, x.zs, x.zp, x.zi⟩
/-- more that stays -/
theorem PlW.grow {T : Addr} {o : HO} (x : PlW CP CI CC H0 H s) (n : H T = none) : PlW CP CI CC (upd H0 T o) (upd H T o) s := by
  have ne : ∀ z ∈ s.tbl CP CI CC, z.1 ≠ T := fun z hz e => by have := x.x.at_ z hz; rw [e, n] at this; cases this
  refine ⟨⟨fun z hz => by rw [upd_ne (ne z hz)]; exact x.x.at_ z hz, x.x.nd, fun b u hb nb => ?_⟩, x.b, x.nl, x.ni, x.u, x.ne, fun z hz => by rw [upd_ne (ne z hz)]; exact x.z0 z hz, x.kz, x.zl, x.zs, x.zp, x.zi⟩
  by_cases q : b = T
  · subst q
    rw [upd_same] at hb ⊢
    exact hb
  · rw [upd_ne q] at hb ⊢
    exact x.x.fr b u hb nb
theorem PlW.ndLa (x : PlW CP CI CC H0 H s) : (s.lines.map (·.la)).Nodup := by
  have h := x.x.nd
  unfold PSt.tbl at h
  rw [List.map_append, List.map_append] at h
  exact (List.nodup_append.mp (List.nodup_append.mp h).2.1).2.1.sublist (la_sub CC s.lines)
theorem nodup_inj {α β : Type} {f : α → β} {l : List α} (nd : (l.map f).Nodup) {a b : α} (ha : a ∈ l) (hb : b ∈ l) (e : f a = f b) : a = b := by
  obtain ⟨i, hi, rfl⟩ := List.getElem_of_mem ha
  obtain ⟨j, hj, rfl⟩ := List.getElem_of_mem hb
  have : (l.map f)[i]'(by simpa using hi) = (l.map f)[j]'(by simpa using hj) := by simpa using e
  have := (List.getElem_inj nd).mp this
  subst this
  rfl
theorem pw_sym {α : Type} {R : α → α → Prop} (sym : ∀ a b, R a b → R b a) {l : List α} (p : l.Pairwise R) {a b : α} (ha : a ∈ l) (hb : b ∈ l) (ne : a ≠ b) : R a b := by
  obtain ⟨i, hi, rfl⟩ := List.getElem_of_mem ha
  obtain ⟨j, hj, rfl⟩ := List.getElem_of_mem hb
  rcases Nat.lt_trichotomy i j with h | h | h
  · exact List.pairwise_iff_getElem.mp p i j hi hj h
  · subst h; exact absurd rfl ne
  · exact sym _ _ (List.pairwise_iff_getElem.mp p j i hj hi h)
theorem PlW.one (x : PlW CP CI CC H0 H s) {c d : Cn} {i : Str} (hc : c ∈ s.lines) (hd : d ∈ s.lines) (e : c.l.tgt = d.l.tgt) (h1 : i ∈ c.l.it) (h2 : i ∈ d.l.it) : c = d := by
  by_cases q : c = d
  · exact q
  · exact absurd ⟨e, i, h1, h2⟩ (pw_sym (fun a b r z => r ⟨z.1.symm, z.2.elim fun i h => ⟨i, h.2, h.1⟩⟩) x.u hc hd q)
/-- all but one copy -/
def but (i t : Str) : KeepP := fun j u => !(decide (j = i) && decide (u = t))
theorem but_same {i t : Str} : but i t i t = false := by unfold but; simp
theorem but_ne {i t j u : Str} (h : ¬ (j = i ∧ u = t)) : but i t j u = true := by
  unfold but
  by_cases a : j = i <;> by_cases b : u = t <;> simp [a, b] at h ⊢
theorem dropK_keep {kvb : List (List L2.Key × V)} (hk : ∀ e ∈ kvb, ∃ i s, e.1 = k2 i s) (i t : Str) : dropK kvb (k2 i t) = kvb.filter fun e => keyK (but i t) e.1 := by
  unfold dropK
  refine List.filter_congr fun e he => ?_
  obtain ⟨j, u, q⟩ := hk e he
  rw [q]
  show _ = but i t j u
  by_cases a : j = i ∧ u = t
  · obtain ⟨rfl, rfl⟩ := a
    rw [but_same]
    simp
  · rw [but_ne a]
    exact decide_eq_true fun e => a (k2_inj e)

theorem chT_sub (K : KeepP) (CC : Addr) : ∀ cs : List Cn, ((chT CC (cs.filterMap (Cn.keep K))).map (·.1)).Sublist ((chT CC cs).map (·.1))
  | [] => .slnil
  | c :: cs => by
    have ih := chT_sub K CC cs
    have e1 : ∀ (d : Cn) ds, (chT CC (d :: ds)).map (·.1) = d.a :: d.la :: (chT CC ds).map (·.1) := fun d ds => by
      unfold chT
      rw [List.flatMap_cons, List.map_append]
      rfl
    rw [List.filterMap_cons, e1]
    cases q : c.keep K with
    | none => exact (ih.cons _).cons _
    | some d =>
      obtain ⟨rfl, _⟩ := Cn.keep_some q
      show ((chT CC (_ :: _)).map (·.1)).Sublist _
      rw [e1]
      exact (ih.cons_cons _).cons_cons _
theorem PSt.keep_sub (K : KeepP) : (((s.keep K).tbl CP CI CC).map (·.1)).Sublist ((s.tbl CP CI CC).map (·.1)) := by
  unfold PSt.tbl
  rw [List.map_append, List.map_append, List.map_append, List.map_append]
  exact (List.Sublist.refl _).append ((List.Sublist.refl _).append (chT_sub K CC s.lines))
theorem PlW.keepTo (x : PlW CP CI CC H0 H s) (K : KeepP) (h : ∀ z ∈ (s.keep K).tbl CP CI CC, H' z.1 = some z.2) (fr : Same H0 H') : PlW CP CI CC H0 H' (s.keep K) := by
  have mem : ∀ d ∈ (s.keep K).lines, ∃ c ∈ s.lines, d = { c with l := { c.l with it := c.l.kept K } } ∧ c.l.kept K ≠ [] := fun d hd => by
    obtain ⟨c, hc, e⟩ := List.mem_filterMap.mp hd
    exact ⟨c, hc, Cn.keep_some e⟩
  refine ⟨⟨h, x.x.nd.sublist (PSt.keep_sub K), fun b o hb _ => fr b o hb⟩, x.b.keep K, ?_, ?_, ?_, ?_, ?_, ?_, ?_, x.zs, x.zp, ?_⟩
  · exact x.nl.sublist (fm_sub (fun a b h => by rw [(Cn.keep_some h).1]) _)
  · intro d hd
    obtain ⟨c, hc, rfl, _⟩ := mem d hd
    exact (x.ni c hc).sublist List.filter_sublist
  · exact List.Pairwise.filterMap _ (fun a b r c hc d hd => by
      obtain ⟨rfl, _⟩ := Cn.keep_some hc
      obtain ⟨rfl, _⟩ := Cn.keep_some hd
      rintro ⟨e, i, h1, h2⟩
      exact r ⟨e, i, (Ln.mem_kept.mp h1).1, (Ln.mem_kept.mp h2).1⟩) x.u
  · intro d hd
    obtain ⟨c, hc, rfl, ne⟩ := mem d hd
    exact ne
  · intro z hz
    have hm : z.1 ∈ ((s.keep K).tbl CP CI CC).map (·.1) := List.mem_map.mpr ⟨z, hz, rfl⟩
    obtain ⟨y, hy, e⟩ := List.mem_map.mp ((PSt.keep_sub K).subset hm)
    rw [← e]
    exact x.z0 y hy
  · exact Nat.le_trans (List.length_filter_le _ _) x.kz
  · exact Nat.le_trans (List.length_filterMap_le _ _) x.zl
  · intro d hd
    obtain ⟨c, hc, rfl, _⟩ := mem d hd
    exact Nat.le_trans (List.length_filter_le _ _) (x.zi c hc)
theorem PlW.sep1 (x : PlW CP CI CC H0 H s) {a b : Addr} (ha : a ∈ [s.DB, s.DL, s.DS, s.LP, s.p]) (hb : b ∈ (seT CI s.p s.seats ++ chT CC s.lines).map (·.1)) : a ≠ b := by
  have nd := x.x.nd
  unfold PSt.tbl at nd
  rw [List.map_append] at nd
  exact fun e => (List.nodup_append.mp nd).2.2 a ha b hb e
theorem PlW.sep2 (x : PlW CP CI CC H0 H s) {a b : Addr} (ha : a ∈ (seT CI s.p s.seats).map (·.1)) (hb : b ∈ (chT CC s.lines).map (·.1)) : a ≠ b := by
  have nd := x.x.nd
  unfold PSt.tbl at nd
  rw [List.map_append, List.map_append] at nd
  exact fun e => (List.nodup_append.mp (List.nodup_append.mp nd).2.1).2.2 a ha b hb e
theorem PlW.nd5 (x : PlW CP CI CC H0 H s) : [s.DB, s.DL, s.DS, s.LP, s.p].Nodup := by
  have nd := x.x.nd
  unfold PSt.tbl at nd
  rw [List.map_append] at nd
  exact (List.nodup_append.mp nd).1
theorem erase_kept {l : Ln} {i : Str} (nd : l.it.Nodup) : l.kept (but i l.tgt) = l.it.erase i := by
  rw [nd.erase_eq_filter]
  unfold Ln.kept
  refine List.filter_congr fun j _ => ?_
  by_cases q : j = i
  · subst q; rw [but_same]; simp
  · rw [but_ne (fun h => q h.1)]; simp [q]
theorem PlW.kept_other (x : PlW CP CI CC H0 H s) {c d : Cn} {i : Str} (hc : c ∈ s.lines) (hi : i ∈ c.l.it) (hd : d ∈ s.lines) (ne : d ≠ c) : d.keep (but i c.l.tgt) = some d := by
  have ek : d.l.kept (but i c.l.tgt) = d.l.it := List.filter_eq_self.mpr fun j hj => but_ne fun ⟨e1, e2⟩ => ne (x.one hd hc e2 (by rw [e1] at hj; exact hj) hi)
  unfold Cn.keep
  rw [ek, if_neg]
  intro q
  exact x.ne d hd (List.isEmpty_iff.mp q)
theorem PlW.kept_this (x : PlW CP CI CC H0 H s) {c : Cn} {i : Str} (hc : c ∈ s.lines) : c.keep (but i c.l.tgt) = if (c.l.it.erase i).isEmpty then none else some { c with l := { c.l with it := c.l.it.erase i } } := by
  unfold Cn.keep
  rw [erase_kept (x.ni c hc)]
theorem PlW.loseTo (x : PlW CP CI CC H0 H s) {c : Cn} {i : Str} (hc : c ∈ s.lines) (hi : i ∈ c.l.it) (h1 : H' s.DB = some (.dT (dropK s.kvb (k2 i c.l.tgt)))) (h2 : H' c.la = some (.lst ((c.l.it.erase i).map V.str)))
    (h3 : H' s.DL = some (.dK (kvL (s.lines.filterMap (Cn.keep (but i c.l.tgt)))))) (h4 : ∀ b, b ≠ s.DB → b ≠ c.la → b ≠ s.DL → H' b = H b) : PlW CP CI CC H0 H' (s.keep (but i c.l.tgt)) := by
  have n5 := x.nd5
  simp only [List.nodup_cons, List.mem_cons, List.not_mem_nil, or_false, not_or, List.nodup_nil, not_false_eq_true, and_true] at n5
  obtain ⟨⟨n12, n13, n14, n15⟩, ⟨n23, n24, n25⟩, ⟨n34, n35⟩, n45⟩ := n5
  have cIn : ∀ d ∈ s.lines, d.a ∈ (chT CC s.lines).map (·.1) ∧ d.la ∈ (chT CC s.lines).map (·.1) := fun d hd => ⟨List.mem_map.mpr ⟨_, (chT_mem hd).1, rfl⟩, List.mem_map.mpr ⟨_, (chT_mem hd).2, rfl⟩⟩
  have inR : ∀ {a : Addr}, a ∈ (chT CC s.lines).map (·.1) → a ∈ (seT CI s.p s.seats ++ chT CC s.lines).map (·.1) := fun h => by rw [List.map_append]; exact List.mem_append_right _ h
  have inL : ∀ {a : Addr}, a ∈ (seT CI s.p s.seats).map (·.1) → a ∈ (seT CI s.p s.seats ++ chT CC s.lines).map (·.1) := fun h => by rw [List.map_append]; exact List.mem_append_left _ h
  have hla := cIn c hc
  have f : ∀ {a : Addr}, a ∈ [s.DB, s.DL, s.DS, s.LP, s.p] → a ≠ c.la := fun h => x.sep1 h (inR hla.2)
  have ndl := x.ndLa
  refine x.keepTo _ (fun z hz => ?_) (fun b o hb => ?_)
  · have hz : z ∈ ([(s.DB, .dT (s.kvb.filter fun e => keyK (but i c.l.tgt) e.1)), (s.DL, .dK (kvL (s.lines.filterMap (Cn.keep (but i c.l.tgt))))), (s.DS, .dK (kvS s.seats)), (s.LP, .lst (s.places.map V.str)), (s.p, .ins CP s.dp s.F)] : List (Addr × HO)) ++ (seT CI s.p s.seats ++ chT CC (s.lines.filterMap (Cn.keep (but i c.l.tgt)))) := hz
    rcases List.mem_append.mp hz with hz | hz
    · simp only [List.mem_cons, List.not_mem_nil, or_false] at hz
      rcases hz with rfl | rfl | rfl | rfl | rfl
      · rw [h1, dropK_keep x.b.keys]
      · exact h3
      · rw [h4 _ (Ne.symm n13) (f (by simp)) (Ne.symm n23)]; exact x.hDS
      · rw [h4 _ (Ne.symm n14) (f (by simp)) (Ne.symm n24)]; exact x.hLP
      · rw [h4 _ (Ne.symm n15) (f (by simp)) (Ne.symm n25)]; exact x.hp
    rcases List.mem_append.mp hz with hz | hz
    · have hm : z.1 ∈ (seT CI s.p s.seats).map (·.1) := List.mem_map.mpr ⟨z, hz, rfl⟩
      rw [h4 _ (Ne.symm (x.sep1 (by simp) (inL hm))) (x.sep2 hm hla.2) (Ne.symm (x.sep1 (by simp) (inL hm)))]
      exact x.x.at_ z (List.mem_append_right _ (List.mem_append_left _ hz))
    · obtain ⟨d', hd', hz⟩ := List.mem_flatMap.mp hz
      obtain ⟨d, hd, e⟩ := List.mem_filterMap.mp hd'
      have ca := cIn d hd
      have fa : H' d.a = H d.a := h4 _ (Ne.symm (x.sep1 (by simp) (inR ca.1))) (fun q => by have := x.hca hd; rw [q, x.hla hc] at this; cases this) (Ne.symm (x.sep1 (by simp) (inR ca.1)))
      by_cases q : d = c
      · subst q
        rw [x.kept_this hd] at e
        split at e
        · cases e
        · cases e
          simp only [List.mem_cons, List.not_mem_nil, or_false] at hz
          rcases hz with rfl | rfl
          · exact fa.trans (x.hca hd)
          · exact h2
      · rw [x.kept_other hc hi hd q] at e
        cases e
        simp only [List.mem_cons, List.not_mem_nil, or_false] at hz
        rcases hz with rfl | rfl
        · exact fa.trans (x.hca hd)
        · exact (h4 _ (Ne.symm (x.sep1 (by simp) (inR ca.2))) (fun e => q (nodup_inj ndl hd hc e)) (Ne.symm (x.sep1 (by simp) (inR ca.2)))).trans (x.hla hd)
  · have ne : ∀ z ∈ s.tbl CP CI CC, b ≠ z.1 := fun z hz e => by have := x.z0 z hz; rw [← e, hb] at this; cases this
    rw [h4 b (ne (s.DB, .dT s.kvb) (List.mem_append_left _ (by simp))) (ne (c.la, .lst (c.l.it.map V.str)) (List.mem_append_right _ (List.mem_append_right _ (chT_mem hc).2))) (ne (s.DL, .dK (kvL s.lines)) (List.mem_append_left _ (by simp)))]
    exact x.sj b o hb
theorem kvL_lose1 (x : PlW CP CI CC H0 H s) {c : Cn} {i : Str} (hc : c ∈ s.lines) (hi : i ∈ c.l.it) (ne : c.l.it.erase i ≠ []) : kvL (s.lines.filterMap (Cn.keep (but i c.l.tgt))) = kvL s.lines := by
  unfold kvL
  refine fm_all fun d hd => ?_
  by_cases q : d = c
  · subst q
    rw [x.kept_this hd, if_neg (fun h => ne (List.isEmpty_iff.mp h))]
    exact ⟨_, rfl, rfl⟩
  · exact ⟨d, x.kept_other hc hi hd q, rfl⟩
theorem kvL_lose0 (x : PlW CP CI CC H0 H s) {c : Cn} {i : Str} (hc : c ∈ s.lines) (hi : i ∈ c.l.it) (em : c.l.it.erase i = []) : kvL (s.lines.filterMap (Cn.keep (but i c.l.tgt))) = dropK (kvL s.lines) (.inr c.l.nm) := by
  unfold kvL dropK
  refine fm_map _ fun d hd => ?_
  by_cases q : d = c
  · subst q
    refine .inr ⟨by rw [x.kept_this hd, if_pos (by rw [em]; rfl)], by simp⟩
  · refine .inl ⟨d, x.kept_other hc hi hd q, rfl, decide_eq_true fun e => q (nodup_inj x.nl hd hc (Sum.inr.inj e))⟩
end
/-! ### copies: pairs of texts as data -/
theorem pr_inj {a b : Str × Str} (h : PySem.W.keyToks (prD a) = PySem.W.keyToks (prD b)) : a = b := by
  obtain ⟨a1, a2⟩ := a
  obtain ⟨b1, b2⟩ := b
  simp only [prD, PySem.W.keyToks, PySem.W.keyToksAll, List.singleton_append, List.cons_append, List.nil_append, List.cons.injEq, Sum.inl.injEq, Sum.inr.injEq, true_and, and_true] at h
  obtain ⟨h1, h2⟩ := h
  rw [str_ext h1, str_ext h2]
theorem ordPr : Ord (ltA prD) (fun _ => True) where
  irr := fun a _ => PyProof.Rows.lex_irrefl _
  tr := fun a b c _ _ _ h1 h2 => PyProof.Rows.lex_trans _ _ _ h1 h2
  tot := fun a b _ _ => by
    cases h1 : ltA prD a b with
    | true => exact .inl rfl
    | false =>
      cases h2 : ltA prD b a with
      | true => exact .inr (.inr rfl)
      | false => exact .inr (.inl (pr_inj (PyProof.Rows.lex_total _ _ h1 h2)))
theorem ps_dp {K : PySem.W.Frag} {H : Hp} {v : V} {x : Str × Str} (h : PsA H v x) : Dp K H v (prD x) := by
  obtain ⟨t, rfl, ht⟩ := h
  exact .tup (.inl (.inl ht)) (.cons (.str _) (.cons (.str _) .nil))
def prsD (l : List (Str × Str)) : PyData := .list (l.map prD)
theorem prs_dp {K : PySem.W.Frag} {H : Hp} {a : Addr} {l : List (Str × Str)} (h : LsA PsA H a l) : Dp K H (.ref a) (prsD l) := ls_dp (fun v x h => ps_dp h) h
theorem prs_lay {l : List (Str × Str)} (h : ∀ x ∈ l, PyData.strOk x.1 = true ∧ PyData.strOk x.2 = true) : (prsD l).canLay0 = true ∧ (prsD l).depth ≤ 2 :=
  ls_lay (D := prD) (n := 1) fun x hx => pr_lay (h x hx).1 (h x hx).2
theorem pr_eqv (x y : Str × Str) : PyData.eqv (prD x) (prD y) = decide (x = y) := by
  have e : ∀ a b : Str, PyData.eqv (.str a) (.str b) = decide (a = b) := fun a b => by
    rw [PyData.eqv]
    by_cases h : a = b
    · rw [h, decide_eq_true rfl]; exact beq_self_eq_true b
    · rw [decide_eq_false h]; exact beq_false_of_ne h
  unfold prD
  rw [PyData.eqv, PyData.eqvAll, PyData.eqvAll, PyData.eqvAll, e, e]
  rw [Bool.eq_iff_iff]
  simp [Prod.ext_iff]
theorem pr_any (x : Str × Str) (l : List (Str × Str)) : (l.map prD).any (fun z => PyData.eqv z (prD x)) = decide (x ∈ l) := by
  rw [List.any_map, Bool.eq_iff_iff, List.any_eq_true, decide_eq_true_iff]
  constructor
  · rintro ⟨y, hy, e⟩
    have e' : PyData.eqv (prD y) (prD x) = true := e
    rw [pr_eqv] at e'
    rw [← of_decide_eq_true e']
    exact hy
  · intro h
    exact ⟨x, h, by show PyData.eqv (prD x) (prD x) = true; rw [pr_eqv]; exact decide_eq_true rfl⟩
def keyP : List L2.Key → Str × Str
  | [.inr i, .inr t] => (i, t)
  | _ => ("", "")
theorem keyP_k2 (i t : Str) : keyP (k2 i t) = (i, t) := rfl
/-- the copies, in the order of the dict -/
def PSt.cps (s : PSt) : List (Str × Str) := s.kvb.map fun e => keyP e.1
/-- what ascending asks of a list of pairs, and what it gives -/
theorem asc_prs {K : PySem.W.Frag} {H : Hp} {Q : VK} {E : XK} {a : Addr} {vs : List V} {l : List (Str × Str)} (h : H a = some (.lst vs)) (pw : Pw (PsA H) vs l) (hz : l.length ≤ 10000) (sp : Sp)
    (hsp : ∀ xs : List (V × PyData), SqL K H a (xs.map (·.1)) → (∀ p ∈ xs, Dp K H p.1 p.2 ∧ p.2 ≠ .none ∧ p.2.depth ≤ 60) → (∀ p ∈ xs, ∀ q ∈ xs, PySem.W.alike p.2 q.2 = true) → xs.length ≤ 10000 → (∀ r, H r = none → Q (.ref r) (upd H r (.lst ((asc ltP xs).map (·.1))))) → sp [.ref a] H Q E)
    (kQ : ∀ r H', H r = none → Same H H' → LsA PsA H' r (asc (ltA prD) l) → Q (.ref r) H') : sp [.ref a] H Q E := by
  refine hsp (zd prD (vs.zip l)) (by rw [zd_fst pw]; exact SqL.of h) (fun q hq => ?_) (fun q hq q2 hq2 => ?_) (by rw [zd_len pw]; exact hz) fun r hr => ?_
  · obtain ⟨x, _, e, hx⟩ := zd_mem hq pw
    refine ⟨by rw [e]; exact ps_dp hx, (by rw [e]; exact fun z => by cases z), ?_⟩
    rw [e]
    simp [prD, PyData.depth, PyData.depthAll]
  · obtain ⟨x, _, e, _⟩ := zd_mem hq pw
    obtain ⟨x2, _, e2, _⟩ := zd_mem hq2 pw
    rw [e, e2]
    rfl
  · have sr : Same H (upd H r (.lst ((asc ltP (zd prD (vs.zip l))).map (·.1)))) := (Same.refl _).new hr
    exact kQ r _ hr sr ⟨_, upd_same, pw.asc.mono fun v x => stPs _ _ v x sr⟩
theorem paired_atR {α β : Type} {F : α → β → Prop} : ∀ {xs : List α} {ys : List β}, Paired F xs ys → ∀ {i : Nat} {x : α} {y : β}, xs[i]? = some x → ys[i]? = some y → F x y
  | _, _, .nil, i, x, y, h, _ => by cases h
  | _, _, .cons r t, 0, x, y, h, h2 => by cases h; cases h2; exact r
  | _, _, .cons r t, i + 1, x, y, h, h2 => paired_atR t (i := i) (by simpa using h) (by simpa using h2)
theorem keys_pw {H H' : Hp} {kvb : List (List L2.Key × V)} {bs : List Addr} (hk : ∀ e ∈ kvb, ∃ i s, e.1 = k2 i s) (k : IsKeys H kvb bs) (s : Same H H') : Pw (PsA H') (bs.map V.ref) (kvb.map fun e => keyP e.1) := by
  have hl : kvb.length = bs.length := Paired.length k
  refine ⟨by rw [List.length_map, List.length_map, hl], fun i v x h1 h2 => ?_⟩
  rw [List.getElem?_map] at h1 h2
  cases e1 : bs[i]? with
  | none => rw [e1] at h1; cases h1
  | some b =>
    cases e2 : kvb[i]? with
    | none => rw [e2] at h2; cases h2
    | some e =>
      rw [e1] at h1
      rw [e2] at h2
      cases h1
      cases h2
      have hb := paired_atR k e2 e1
      obtain ⟨i', t', q⟩ := hk e (List.mem_of_getElem? e2)
      show PsA H' (V.ref b) (keyP e.1)
      rw [q] at hb ⊢
      exact ⟨b, rfl, s _ _ hb⟩
end M

namespace M
open PySem PySem.Spec PyProof.Rows L2
/-! ### the sites that a way visits -/
def Gd.vis (g : Gd) (v : List Str) (u t : Str) : Bool := decide (u = t) || g.lines.any fun l => decide (l.nm ∈ v) && decide (l.src = t)
theorem Gd.vis_nil (g : Gd) (u t : Str) : g.vis [] u t = decide (u = t) := by
  unfold Gd.vis
  simp
theorem GdOk.vis_step {g : Gd} (o : GdOk g) {l : Ln} {w : List Str} {t : Str} (hl : l ∈ g.lines) (ne : l.tgt ≠ t) : g.vis (w ++ [l.nm]) l.tgt t = g.vis w l.src t := by
  unfold Gd.vis
  rw [decide_eq_false ne, Bool.false_or, Bool.eq_iff_iff, List.any_eq_true, Bool.or_eq_true, List.any_eq_true]
  constructor
  · rintro ⟨m, hm, h⟩
    obtain ⟨h1, h2⟩ := Bool.and_eq_true_iff.mp h
    rcases List.mem_append.mp (of_decide_eq_true h1) with h1 | h1
    · exact .inr ⟨m, hm, Bool.and_eq_true_iff.mpr ⟨decide_eq_true h1, h2⟩⟩
    · have e := o.lineU hm hl (List.mem_singleton.mp h1)
      rw [e] at h2
      exact .inl h2
  · rintro (h | ⟨m, hm, h⟩)
    · exact ⟨l, hl, Bool.and_eq_true_iff.mpr ⟨decide_eq_true (by simp), h⟩⟩
    · obtain ⟨h1, h2⟩ := Bool.and_eq_true_iff.mp h
      exact ⟨m, hm, Bool.and_eq_true_iff.mpr ⟨decide_eq_true (List.mem_append_left _ (of_decide_eq_true h1)), h2⟩⟩
theorem Gd.vis_here (g : Gd) (v : List Str) (t : Str) : g.vis v t t = true := by
  unfold Gd.vis
  simp
/-- the copy of i at u is lost when its copy at t is given up -/
def Gd.lost (g : Gd) (i t u : Str) : Bool := match g.ways i u with
  | some v => g.vis v u t
  | none => false
def Gd.keepT (g : Gd) (i t : Str) : KeepP := fun j u => !(decide (j = i) && g.lost i t u)
theorem GdOk.noHome {g : Gd} (o : GdOk g) {i t : Str} {w : List Str} (h : g.ways i t = some w) (n : w ≠ []) : (i, t) ∉ g.homes := fun m => by
  have := o.wH _ m
  rw [h] at this
  exact n (Option.some.inj this)
theorem GdOk.keepT_home {g : Gd} (o : GdOk g) {i t : Str} (nh : (i, t) ∉ g.homes) : ∀ h ∈ g.homes, g.keepT i t h.1 h.2 = true := fun h hh => by
  unfold Gd.keepT
  by_cases q : h.1 = i
  · have e : g.lost i t h.2 = false := by
      unfold Gd.lost
      rw [← q, o.wH h hh]
      show g.vis [] h.2 t = false
      rw [Gd.vis_nil]
      refine decide_eq_false fun e => nh ?_
      rw [← q, ← e]
      exact hh
    rw [e, Bool.and_false]
    rfl
  · rw [decide_eq_false q]
    rfl
theorem GdOk.keepT_cl {g : Gd} (o : GdOk g) (i t : Str) : ∀ l ∈ g.lines, ∀ j ∈ l.it, g.keepT i t j l.tgt = true → g.keepT i t j l.src = true := fun l hl j hj h => by
  unfold Gd.keepT at h ⊢
  by_cases q : j = i
  · subst q
    rw [decide_eq_true rfl, Bool.true_and] at h ⊢
    obtain ⟨w, h1, h2⟩ := o.wL l hl j hj
    unfold Gd.lost at h ⊢
    rw [h2] at h
    rw [h1]
    show (!g.vis w l.src t) = true
    have h' : (!g.vis (w ++ [l.nm]) l.tgt t) = true := h
    by_cases e : l.tgt = t
    · rw [e, Gd.vis_here] at h'
      cases h'
    · rw [← o.vis_step hl e]
      exact h'
  · rw [decide_eq_false q]
    rfl
/-- what is kept of the ways -/
def keepW (K : KeepP) (w : Ways) : Ways := fun i s => if K i s = true then w i s else none
theorem PSt.keep_g (s : PSt) (K : KeepP) (w : Ways) : (s.keep K).g (keepW K w) = { s.g w with lines := (s.g w).lines.filterMap (Ln.keep K), ways := keepW K w } := by
  have := s.keep_lns K
  unfold PSt.lns at this
  unfold PSt.g
  rw [this]
  rfl
/-- a valid placement, with what the walks that change it need -/
structure PlV (CP CI CC : Addr) (H0 H : Hp) (s : PSt) (w : Ways) : Prop where
  w_ : PlW CP CI CC H0 H s
  o : GdOk (s.g w)
section
variable {CP CI CC : Addr} {H0 H H' : Hp} {s : PSt} {w : Ways}
theorem PlV.a (x : PlV CP CI CC H0 H s w) : PlA CP CI CC H0 H s w := ⟨x.w_.x, x.w_.b, x.o⟩
theorem PlV.same (x : PlV CP CI CC H0 H s w) (e : Same H H') : PlV CP CI CC H0 H' s w := ⟨x.w_.same e, x.o⟩
theorem PlV.sj (x : PlV CP CI CC H0 H s w) : Same H0 H := x.w_.sj
theorem PlV.grow {T : Addr} {o : HO} (x : PlV CP CI CC H0 H s w) (n : H T = none) : PlV CP CI CC (upd H0 T o) (upd H T o) s w := ⟨x.w_.grow n, x.o⟩
theorem PlV.base {H1 : Hp} (x : PlV CP CI CC H1 H s w) (e : Same H0 H1) : PlV CP CI CC H0 H s w := ⟨x.w_.base e, x.o⟩
theorem PlV.keep {K : KeepP} (x : PlV CP CI CC H0 H s w) {J : Hp} (y : PlW CP CI CC J H' (s.keep K)) (hm : ∀ h ∈ s.homes, K h.1 h.2 = true) (cl : ∀ l ∈ s.lns, ∀ i ∈ l.it, K i l.tgt = true → K i l.src = true) : PlV CP CI CC J H' (s.keep K) (keepW K w) := by
  refine ⟨y, ?_⟩
  rw [PSt.keep_g]
  exact x.o.keep hm cl
theorem tbl_notup {z : Addr × HO} (h : z ∈ s.tbl CP CI CC) (xs : List V) : z.2 ≠ .tup xs := by
  intro e
  rcases List.mem_append.mp h with h | h
  · simp only [List.mem_cons, List.not_mem_nil, or_false] at h
    rcases h with rfl | rfl | rfl | rfl | rfl <;> cases e
  rcases List.mem_append.mp h with h | h
  · obtain ⟨i, _, rfl⟩ := List.mem_map.mp h
    cases e
  · obtain ⟨d, _, h⟩ := List.mem_flatMap.mp h
    simp only [List.mem_cons, List.not_mem_nil, or_false] at h
    rcases h with rfl | rfl <;> cases e
def PSt.ads (CP CI CC : Addr) (s : PSt) : List Addr := (s.tbl CP CI CC).map (·.1)
/-- all that stands besides -/
theorem PlW.rest (x : PlW CP CI CC H0 H s) : PlW CP CI CC (cut H (s.ads CP CI CC)) H s := by
  refine ⟨⟨x.x.at_, x.x.nd, fun b o hb _ => cut_all _ _ hb⟩, x.b, x.nl, x.ni, x.u, x.ne, fun z hz => cut_in (List.mem_map.mpr ⟨z, hz, rfl⟩), x.kz, x.zl, x.zs, x.zp, x.zi⟩
theorem PlW.restS (x : PlW CP CI CC H0 H s) : Same H0 (cut H (s.ads CP CI CC)) := fun b o e => by
  rw [cut_out fun h => ?_]
  · exact x.sj _ _ e
  · obtain ⟨z, hz, e2⟩ := List.mem_map.mp h
    have := x.z0 z hz
    rw [e2, e] at this
    cases this
theorem PlW.out (x : PlW CP CI CC H0 H s) {a : Addr} {o : HO} (h : H a = some o) (n : ∀ z ∈ s.tbl CP CI CC, z.2 ≠ o) : cut H (s.ads CP CI CC) a = some o := by
  rw [cut_out fun h2 => ?_]
  · exact h
  · obtain ⟨z, hz, e⟩ := List.mem_map.mp h2
    have := x.x.at_ z hz
    rw [e, h] at this
    exact n z hz (Option.some.inj this).symm
theorem PlW.outN (x : PlW CP CI CC H0 H s) {a : Addr} {o : HO} {G : Hp} (n : G a = none) (sm : Same G H) (xg : PlW CP CI CC H0 G s) (h : H a = some o) : cut H (s.ads CP CI CC) a = some o := by
  rw [cut_out fun h2 => ?_]
  · exact h
  · obtain ⟨z, hz, e⟩ := List.mem_map.mp h2
    have := xg.x.at_ z hz
    rw [e, n] at this
    cases this
theorem PlW.outLs (x : PlW CP CI CC H0 H s) {a : Addr} {l : List (Str × Str)} {G : Hp} (n : G a = none) (sm : Same G H) (xg : PlW CP CI CC H0 G s) (h : LsA PsA H a l) : LsA PsA (cut H (s.ads CP CI CC)) a l := by
  obtain ⟨vs, h1, p⟩ := h
  exact ⟨vs, x.outN n sm xg h1, p.mono fun v y ⟨t, e, ht⟩ => ⟨t, e, x.out ht fun z hz => tbl_notup hz _⟩⟩
theorem PSt.keep_congr {K1 K2 : KeepP} (b : BrA s.kvb s.lines) (h : ∀ x ∈ s.cps, K1 x.1 x.2 = K2 x.1 x.2) : s.keep K1 = s.keep K2 := by
  have hb : ∀ i t, (valV s.kvb (k2 i t)).isSome = true → K1 i t = K2 i t := fun i t q => by
    rw [← valV_any] at q
    obtain ⟨e, he, q⟩ := List.any_eq_true.mp q
    have q' : e.1 = k2 i t := of_decide_eq_true q
    exact h (i, t) (List.mem_map.mpr ⟨e, he, by rw [q']; rfl⟩)
  have e1 : s.lines.filterMap (Cn.keep K1) = s.lines.filterMap (Cn.keep K2) := by
    have aux : ∀ l : List Cn, (∀ c ∈ l, c.keep K1 = c.keep K2) → l.filterMap (Cn.keep K1) = l.filterMap (Cn.keep K2) := fun l => by
      induction l with
      | nil => intro _; rfl
      | cons c l ih =>
        intro h
        rw [List.filterMap_cons, List.filterMap_cons, h c List.mem_cons_self, ih fun d hd => h d (List.mem_cons_of_mem _ hd)]
    refine aux _ fun c hc => ?_
    have ek : c.l.kept K1 = c.l.kept K2 := List.filter_congr fun i hi => hb i c.l.tgt (by rw [b.in_ c hc i hi]; rfl)
    unfold Cn.keep
    rw [ek]
  have e2 : (s.kvb.filter fun e => keyK K1 e.1) = s.kvb.filter fun e => keyK K2 e.1 := List.filter_congr fun e he => by
    obtain ⟨i, t, q⟩ := b.keys e he
    rw [q]
    exact h (i, t) (List.mem_map.mpr ⟨e, he, by rw [q]; rfl⟩)
  unfold PSt.keep
  rw [e1, e2]
theorem cps_line (b : BrA s.kvb s.lines) {i t : Str} : (i, t) ∈ s.cps ↔ ∃ c ∈ s.lines, i ∈ c.l.it ∧ c.l.tgt = t := by
  constructor
  · intro h
    obtain ⟨e, he, q⟩ := List.mem_map.mp h
    obtain ⟨j, u, q2⟩ := b.keys e he
    rw [q2, keyP_k2] at q
    cases q
    by_cases z : ∃ c ∈ s.lines, i ∈ c.l.it ∧ c.l.tgt = t
    · exact z
    · have := b.out i t fun c hc h => z ⟨c, hc, h⟩
      have h2 : (s.kvb.any fun kv => decide (kv.1 = k2 i t)) = true := List.any_eq_true.mpr ⟨e, he, decide_eq_true q2⟩
      rw [valV_any, this] at h2
      cases h2
  · rintro ⟨c, hc, hi, rfl⟩
    have h2 := b.in_ c hc i hi
    have h3 : (s.kvb.any fun kv => decide (kv.1 = k2 i c.l.tgt)) = true := by rw [valV_any, h2]; rfl
    obtain ⟨e, he, q⟩ := List.any_eq_true.mp h3
    exact List.mem_map.mpr ⟨e, he, by rw [of_decide_eq_true q]; rfl⟩
theorem cps_nodup (b : BrA s.kvb s.lines) : s.cps.Nodup := by
  unfold PSt.cps
  have nd := b.nd
  rw [List.Nodup, List.pairwise_map] at nd ⊢
  refine nd.imp_of_mem fun {e f} he hf ne q => ne ?_
  obtain ⟨i, t, q1⟩ := b.keys e he
  obtain ⟨j, u, q2⟩ := b.keys f hf
  rw [q1, q2, keyP_k2, keyP_k2] at q
  cases q
  rw [q1, q2]
/-- a copy: a way that isn't empty -/
theorem PlV.cps_way (x : PlV CP CI CC H0 H s w) {i t : Str} : (i, t) ∈ s.cps ↔ ∃ v, w i t = some v ∧ v ≠ [] := by
  rw [cps_line x.w_.b]
  constructor
  · rintro ⟨c, hc, hi, rfl⟩
    obtain ⟨v, _, h2⟩ := x.o.wL c.l (List.mem_map.mpr ⟨c, hc, rfl⟩) i hi
    exact ⟨v ++ [c.l.nm], h2, by simp⟩
  · rintro ⟨v, h1, h2⟩
    obtain ⟨l, hl, e, hi, _⟩ := x.o.step h1 h2
    obtain ⟨c, hc, rfl⟩ := List.mem_map.mp hl
    exact ⟨c, hc, hi, e⟩
end
/-! ### the copies that are lost, one by one -/
def PSt.lostL (s : PSt) (f : Str × Str → Bool) : List (Str × Str) := (asc (ltA prD) s.cps).filter f
def notIn (l : List (Str × Str)) : KeepP := fun j u => !decide ((j, u) ∈ l)
section
variable {CP CI CC : Addr} {H0 H H' : Hp} {s : PSt} {w : Ways} {f : Str × Str → Bool}
theorem lostL_mem {x : Str × Str} : x ∈ s.lostL f ↔ x ∈ s.cps ∧ f x = true := by
  unfold PSt.lostL
  rw [List.mem_filter, (asc_perm _ _).mem_iff]
theorem lostL_nodup (b : BrA s.kvb s.lines) : (s.lostL f).Nodup := ((asc_perm _ _).nodup_iff.mpr (cps_nodup b)).sublist List.filter_sublist
theorem keep_none (ne : ∀ c ∈ s.lines, c.l.it ≠ []) : s.keep (notIn []) = s := PSt.keep_all ne (fun _ _ _ _ => rfl) fun e _ => by
  unfold keyK
  split <;> rfl
theorem lose_step (b : BrA s.kvb s.lines) {l : List (Str × Str)} (nd : l.Nodup) (hl : ∀ x ∈ l, x ∈ s.cps) {n : Nat} {i t : Str} (hn : l[n]? = some (i, t)) :
    ∃ c ∈ (s.keep (notIn (l.take n))).lines, i ∈ c.l.it ∧ c.l.tgt = t ∧ (s.keep (notIn (l.take n))).keep (but i t) = s.keep (notIn (l.take (n + 1))) := by
  have hm := List.mem_of_getElem? hn
  obtain ⟨c, hc, hi, rfl⟩ := (cps_line b).mp (hl _ hm)
  have eT := take_snoc hn
  have nin : (i, c.l.tgt) ∉ l.take n := fun q => by
    have := List.nodup_append.mp (by rw [← eT]; exact nd.sublist (List.take_sublist _ _) : (l.take n ++ [(i, c.l.tgt)]).Nodup)
    exact this.2.2 _ q _ (List.mem_singleton.mpr rfl) rfl
  have hk : notIn (l.take n) i c.l.tgt = true := by
    unfold notIn
    rw [decide_eq_false nin]
    rfl
  refine ⟨_, List.mem_filterMap.mpr ⟨c, hc, Cn.keep_of hi hk⟩, Ln.mem_kept.mpr ⟨hi, hk⟩, rfl, ?_⟩
  rw [PSt.keep_keep, eT]
  refine congrArg s.keep (funext fun j => funext fun u => ?_)
  unfold notIn but
  by_cases a : (j, u) ∈ l.take n
  · rw [decide_eq_true a, decide_eq_true (List.mem_append_left _ a)]
    rfl
  · rw [decide_eq_false a]
    by_cases q : j = i ∧ u = c.l.tgt
    · obtain ⟨rfl, rfl⟩ := q
      rw [decide_eq_true (by simp : (j, c.l.tgt) ∈ l.take n ++ [(j, c.l.tgt)])]
      simp
    · have h1 : (j, u) ∉ l.take n ++ [(i, c.l.tgt)] := fun h => by
        rcases List.mem_append.mp h with h | h
        · exact a h
        · cases List.mem_singleton.mp h
          exact q ⟨rfl, rfl⟩
      have h2 : (decide (j = i) && decide (u = c.l.tgt)) = false := by
        by_cases q1 : j = i
        · rw [decide_eq_false (fun e => q ⟨q1, e⟩), Bool.and_false]
        · rw [decide_eq_false q1]; rfl
      rw [decide_eq_false h1, h2]
      rfl
theorem lostL_keep (b : BrA s.kvb s.lines) {K : KeepP} (hK : ∀ x ∈ s.cps, K x.1 x.2 = !f x) : s.keep (notIn (s.lostL f)) = s.keep K := by
  refine PSt.keep_congr b fun x hx => ?_
  rw [hK x hx]
  unfold notIn
  by_cases q : f x = true
  · rw [q, decide_eq_true (show (x.1, x.2) ∈ s.lostL f from lostL_mem.mpr ⟨hx, q⟩)]
  · rw [decide_eq_false (fun h : (x.1, x.2) ∈ s.lostL f => q (lostL_mem.mp h).2)]
    have : f x = false := by simpa using q
    rw [this]
theorem lostL_len (b : BrA s.kvb s.lines) (kz : s.kvb.length ≤ 10000) : (s.lostL f).length ≤ 10000 := by
  unfold PSt.lostL
  refine Nat.le_trans (List.length_filter_le _ _) ?_
  rw [(asc_perm _ _).length_eq]
  unfold PSt.cps
  rw [List.length_map]
  exact kz
end
end M

namespace M
open PySem PySem.Spec PyProof.Rows L2
theorem Same.ap {H H' : Hp} {a : Addr} {u : HO} (s : Same H H') (h : H a = some u) : H' a = some u := s a u h
theorem Same.upd2 {H H' : Hp} {T : Addr} {o : HO} (s : Same H H') : Same (upd H T o) (upd H' T o) := fun b u e => by
  by_cases q : b = T
  · subst q
    rw [upd_same] at e ⊢
    exact e
  · rw [upd_ne q] at e ⊢
    exact s b u e
/-! ### where a law stands: what stays (J0), the draws at p, a placement -/
structure LS (CP CI CC : Addr) (J0 J H : Hp) (p : Addr) (ds : List Int) (s : PSt) (wy : Ways) : Prop where
  s0 : Same J0 J
  p0 : J0 p = none
  hJ : J p = some (.lst (ds.map V.int))
  dr : Dr ds
  pl : PlV CP CI CC J H s wy
section
variable {CP CI CC : Addr} {J0 J H H' : Hp} {p T : Addr} {ds ds' : List Int} {s s' : PSt} {wy wy' : Ways} {o : HO} {u : HO} {a : Addr}
theorem LS.sj (L : LS CP CI CC J0 J H p ds s wy) : Same J0 H := L.s0.trans L.pl.sj
theorem LS.at_ (L : LS CP CI CC J0 J H p ds s wy) (h : J0 a = some u) : H a = some u := L.sj a u h
theorem LS.hp (L : LS CP CI CC J0 J H p ds s wy) : H p = some (.lst (ds.map V.int)) := L.pl.sj _ _ L.hJ
theorem LS.ho (L : LS CP CI CC J0 J H p ds s wy) : H s.p = some (.ins CP s.dp s.F) := L.pl.w_.hp
/-- a new object -/
theorem LS.new (L : LS CP CI CC J0 J H p ds s wy) (n : H T = none) (o : HO) : ∃ J1 K1 H1, upd H T o = H1 ∧ Same J0 J1 ∧ Same H H1 ∧ J1 T = some o ∧ LS CP CI CC J1 K1 H1 p ds s wy := by
  have ne : p ≠ T := fun e => by have := L.hp; rw [e, n] at this; cases this
  have nj : J0 T = none := none_of n L.sj
  refine ⟨upd J0 T o, upd J T o, upd H T o, rfl, (Same.refl _).new nj, (Same.refl _).new n, upd_same, M.Same.upd2 L.s0, ?_, ?_, L.dr, L.pl.grow n⟩
  · rw [upd_ne ne]; exact L.p0
  · rw [upd_ne ne]; exact L.hJ
theorem PlW.updO (x : PlW CP CI CC J H s) (h : J a = some u) (o : HO) : PlW CP CI CC (upd J a o) (upd H a o) s := by
  have ne : ∀ z ∈ s.tbl CP CI CC, z.1 ≠ a := fun z hz e => by have := x.z0 z hz; rw [e, h] at this; cases this
  refine ⟨⟨fun z hz => by rw [upd_ne (ne z hz)]; exact x.x.at_ z hz, x.x.nd, fun b v hb nb => ?_⟩, x.b, x.nl, x.ni, x.u, x.ne, fun z hz => by rw [upd_ne (ne z hz)]; exact x.z0 z hz, x.kz, x.zl, x.zs, x.zp, x.zi⟩
  by_cases q : b = a
  · subst q
    rw [upd_same] at hb ⊢
    exact hb
  · rw [upd_ne q] at hb ⊢
    exact x.x.fr b v hb nb
theorem LS.draw (L : LS CP CI CC J0 J H p ds s wy) (h : Dr ds') : ∃ K1 H1, upd H p (.lst (ds'.map V.int)) = H1 ∧ LS CP CI CC J0 K1 H1 p ds' s wy :=
  ⟨upd J p (.lst (ds'.map V.int)), _, rfl, L.s0.mut L.p0, L.p0, upd_same, h, L.pl.w_.updO L.hJ _, L.pl.o⟩
/-- what stands besides the draws and the placement -/
def LS.mx (CP CI CC : Addr) (H : Hp) (p : Addr) (s : PSt) : Hp := cut (cut H (s.ads CP CI CC)) [p]
theorem LS.mx_at (h : H a = some u) (n : a ≠ p) (m : a ∉ s.ads CP CI CC) : LS.mx CP CI CC H p s a = some u := by
  unfold LS.mx
  rw [cut_out (by simpa using n), cut_out m]
  exact h
theorem LS.step (L : LS CP CI CC J0 J H p ds s wy) (sm : Same H H') : ∃ J1 K1, J1 = LS.mx CP CI CC H' p s ∧ Same J0 J1 ∧ LS CP CI CC J1 K1 H' p ds s wy := by
  have x := L.pl.same sm
  have sR := x.w_.restS
  refine ⟨_, cut H' (s.ads CP CI CC), rfl, fun b v e => ?_, cut_all, ?_, sR _ _ L.hJ, L.dr, x.w_.rest, x.o⟩
  · have nb : b ≠ p := fun q => by rw [q, L.p0] at e; cases e
    unfold LS.mx
    rw [cut_out (by simpa using nb)]
    exact sR _ _ (L.s0 _ _ e)
  · unfold LS.mx
    exact cut_in (by simp)
theorem LS.mx_new (L : LS CP CI CC J0 J H p ds s wy) (sm : Same H H') (n : H a = none) (h : H' a = some u) : LS.mx CP CI CC H' p s a = some u := by
  have x := L.pl.same sm
  refine LS.mx_at h (fun e => by have := L.hp; rw [← e, n] at this; cases this) fun m => ?_
  obtain ⟨z, hz, e⟩ := List.mem_map.mp m
  have := L.pl.w_.x.at_ z hz
  rw [e, n] at this
  cases this
theorem LS.mx_tup {xs : List V} (L : LS CP CI CC J0 J H p ds s wy) (sm : Same H H') (h : H' a = some (.tup xs)) : LS.mx CP CI CC H' p s a = some (.tup xs) := by
  have x := L.pl.same sm
  refine LS.mx_at h (fun e => by have := sm _ _ L.hp; rw [← e, h] at this; cases this) fun m => ?_
  obtain ⟨z, hz, e⟩ := List.mem_map.mp m
  have := x.w_.x.at_ z hz
  rw [e, h] at this
  exact tbl_notup hz xs (Option.some.inj this).symm
theorem LS.mx_prs {l : List (Str × Str)} (L : LS CP CI CC J0 J H p ds s wy) (sm : Same H H') (n : H a = none) (h : LsA PsA H' a l) : LsA PsA (LS.mx CP CI CC H' p s) a l := by
  obtain ⟨vs, h1, pw⟩ := h
  exact ⟨vs, L.mx_new sm n h1, pw.mono fun v y ⟨t, e, ht⟩ => ⟨t, e, L.mx_tup sm ht⟩⟩
/-- a deed: besides the placement all stays -/
theorem LS.deed {J' : Hp} (L : LS CP CI CC J0 J H p ds s wy) (sJ : Same (cut H (s.ads CP CI CC)) J') (x : PlV CP CI CC J' H' s' wy') : ∃ J1, J1 = cut J' [p] ∧ Same J0 J1 ∧ LS CP CI CC J1 J' H' p ds s' wy' := by
  have sR := L.pl.w_.restS
  refine ⟨_, rfl, fun b v e => ?_, cut_all, cut_in (by simp), sJ _ _ (sR _ _ L.hJ), L.dr, x⟩
  have nb : b ≠ p := fun q => by rw [q, L.p0] at e; cases e
  rw [cut_out (by simpa using nb)]
  exact sJ _ _ (sR _ _ (L.s0 _ _ e))
theorem LS.deed_prs {J' : Hp} {l : List (Str × Str)} (L : LS CP CI CC J0 J H p ds s wy) (sJ : Same (cut H (s.ads CP CI CC)) J') (n : H a = none) (h : LsA PsA J' a l) : LsA PsA (cut J' [p]) a l := by
  have hp := sJ _ _ (L.pl.w_.restS _ _ L.hJ)
  obtain ⟨vs, h1, pw⟩ := h
  have np : a ≠ p := fun e => by have := L.hp; rw [← e, n] at this; cases this
  refine ⟨vs, by rw [cut_out (by simpa using np)]; exact h1, pw.mono fun v y ⟨t, e, ht⟩ => ⟨t, e, ?_⟩⟩
  have tp : t ≠ p := fun e => by rw [e, hp] at ht; cases ht
  rw [cut_out (by simpa using tp)]
  exact ht
end
end M

namespace M
open PySem PySem.Spec PyProof.Rows L2
/-! ### all copies of an item are given up; an item gets another home -/
def noItem (i : Str) : KeepP := fun j _ => !decide (j = i)
def Seat.to (i t : Str) (x : Seat) : Seat := { x with st := if x.nm = i then t else x.st }
def PSt.rehome (s : PSt) (i t : Str) : PSt := { s with seats := s.seats.map (Seat.to i t) }
def reW (i t : Str) (w : Ways) : Ways := fun j u => if j = i then (if u = t then some [] else none) else w j u
/-- all but the copies of i -/
def homeK (g : Gd) (i : Str) : KeepP := fun j u => !decide (j = i) || decide ((j, u) ∈ g.homes)
theorem GdOk.rehome {g : Gd} (o : GdOk g) {i t : Str} (hi : i ∈ g.goods) (ht : t ∈ g.sites) (no : ∀ l ∈ g.lines, i ∉ l.it) : GdOk { g with homes := g.homes.map (fun h => (h.1, if h.1 = i then t else h.2)), ways := reW i t g.ways } := by
  have e1 : (g.homes.map fun h => (h.1, if h.1 = i then t else h.2)).map (·.1) = g.homes.map (·.1) := by rw [List.map_map]; rfl
  refine ⟨o.sN, ?_, ?_, o.lN, o.lE, ?_, ?_, ?_, ?_, o.u⟩
  · show ((g.homes.map fun h => (h.1, if h.1 = i then t else h.2)).map (·.1)).Nodup
    rw [e1]; exact o.hN
  · intro h hh
    obtain ⟨x, hx, rfl⟩ := List.mem_map.mp hh
    show (if x.1 = i then t else x.2) ∈ g.sites
    split
    · exact ht
    · exact o.hS x hx
  · intro l hl
    refine ⟨(o.lI l hl).1, fun j hj => ?_⟩
    show j ∈ (g.homes.map fun h => (h.1, if h.1 = i then t else h.2)).map (·.1)
    rw [e1]
    exact (o.lI l hl).2 j hj
  · intro h hh
    obtain ⟨x, hx, rfl⟩ := List.mem_map.mp hh
    show reW i t g.ways x.1 (if x.1 = i then t else x.2) = some []
    unfold reW
    by_cases q : x.1 = i
    · rw [if_pos q, if_pos q, if_pos rfl]
    · rw [if_neg q, if_neg q]; exact o.wH x hx
  · intro l hl j hj
    have q : j ≠ i := fun e => no l hl (by rw [← e]; exact hj)
    obtain ⟨w, h1, h2⟩ := o.wL l hl j hj
    refine ⟨w, ?_, ?_⟩
    · show reW i t g.ways j l.src = _
      unfold reW
      rw [if_neg q]; exact h1
    · show reW i t g.ways j l.tgt = _
      unfold reW
      rw [if_neg q]; exact h2
  · intro j u w h
    have h' : reW i t g.ways j u = some w := h
    unfold reW at h'
    by_cases q : j = i
    · rw [if_pos q] at h'
      split at h'
      · rename_i qu
        left
        obtain ⟨x, hx, e⟩ := List.mem_map.mp hi
        refine List.mem_map.mpr ⟨x, hx, ?_⟩
        have e' : x.1 = i := e
        rw [if_pos e', qu, e', q]
      · cases h'
    · rw [if_neg q] at h'
      rcases o.wD j u w h' with h | h
      · refine .inl (List.mem_map.mpr ⟨(j, u), h, ?_⟩)
        show (j, if j = i then t else u) = (j, u)
        rw [if_neg q]
      · exact .inr h
theorem reW_keep (g : Gd) (i t : Str) (w : Ways) : reW i t (keepW (homeK g i) w) = reW i t w := by
  funext j u
  unfold reW keepW homeK
  by_cases q : j = i
  · rw [if_pos q, if_pos q]
  · rw [if_neg q, if_neg q, decide_eq_false q]
    rfl
section
variable {CP CI CC : Addr} {H0 H H' : Hp} {s : PSt} {w : Ways}
theorem seatTo_kvS (ss : List Seat) (i t : Str) : kvS (ss.map (Seat.to i t)) = kvS ss := by
  unfold kvS
  rw [List.map_map]
  rfl
theorem PlW.ndA (x : PlW CP CI CC H0 H s) : (s.seats.map (·.a)).Nodup := by
  have h := x.x.nd
  unfold PSt.tbl at h
  rw [List.map_append, List.map_append] at h
  have h2 := (List.nodup_append.mp (List.nodup_append.mp h).2.1).1
  unfold seT at h2
  rwa [List.map_map] at h2
theorem PlW.rehome (x : PlW CP CI CC H0 H s) {st : Seat} (hs : st ∈ s.seats) (hn : (s.seats.map (·.nm)).Nodup) (t : Str) : PlW CP CI CC H0 (upd H st.a (.ins CI st.dx (seatF s.p { st with st := t }))) (s.rehome st.nm t) := by
  have nda := x.ndA
  have inS : ∀ d ∈ s.seats, d.a ∈ (seT CI s.p s.seats).map (·.1) := fun d hd => List.mem_map.mpr ⟨_, seT_mem hd, rfl⟩
  have inL : ∀ {a : Addr}, a ∈ (seT CI s.p s.seats).map (·.1) → a ∈ (seT CI s.p s.seats ++ chT CC s.lines).map (·.1) := fun h => by rw [List.map_append]; exact List.mem_append_left _ h
  have eK : (seT CI s.p (s.seats.map (Seat.to st.nm t))).map (·.1) = (seT CI s.p s.seats).map (·.1) := by
    unfold seT
    rw [List.map_map, List.map_map, List.map_map]
    rfl
  have eF : ((s.rehome st.nm t).tbl CP CI CC).map (·.1) = (s.tbl CP CI CC).map (·.1) := by
    unfold PSt.tbl
    rw [List.map_append, List.map_append, List.map_append, List.map_append]
    show _ ++ ((seT CI s.p (s.seats.map (Seat.to st.nm t))).map (·.1) ++ _) = _
    rw [eK]
    rfl
  refine ⟨x.x.updM (List.mem_map.mpr ⟨(st.a, .ins CI st.dx (seatF s.p st)), List.mem_append_right _ (List.mem_append_left _ (seT_mem hs)), rfl⟩) eF ?_, x.b, x.nl, x.ni, x.u, x.ne, fun z hz => ?_, x.kz, x.zl, by show (s.seats.map _).length ≤ 100; rw [List.length_map]; exact x.zs, x.zp, x.zi⟩
  · intro z hz
    have hz : z ∈ ([(s.DB, .dT s.kvb), (s.DL, .dK (kvL s.lines)), (s.DS, .dK (kvS (s.seats.map (Seat.to st.nm t)))), (s.LP, .lst (s.places.map V.str)), (s.p, .ins CP s.dp s.F)] : List (Addr × HO)) ++ (seT CI s.p (s.seats.map (Seat.to st.nm t)) ++ chT CC s.lines) := hz
    rw [seatTo_kvS] at hz
    rcases List.mem_append.mp hz with hz | hz
    · refine .inr ⟨List.mem_append_left _ hz, x.sep1 ?_ (inL (inS st hs))⟩
      exact (List.mem_map (f := fun z : Addr × HO => z.1)).mpr ⟨z, hz, rfl⟩
    rcases List.mem_append.mp hz with hz | hz
    · obtain ⟨d', hd', rfl⟩ := List.mem_map.mp hz
      obtain ⟨d, hd, rfl⟩ := List.mem_map.mp hd'
      by_cases q : d.nm = st.nm
      · have := nodup_inj hn hd hs q
        subst this
        left
        unfold Seat.to
        rw [if_pos rfl]
      · have e : d.to st.nm t = d := by
          unfold Seat.to
          rw [if_neg q]
        rw [e]
        refine .inr ⟨List.mem_append_right _ (List.mem_append_left _ (seT_mem hd)), fun e2 => q ?_⟩
        rw [nodup_inj nda hd hs e2]
    · exact .inr ⟨List.mem_append_right _ (List.mem_append_right _ hz), fun e => x.sep2 (inS st hs) (List.mem_map.mpr ⟨z, hz, rfl⟩) e.symm⟩
  · have hm : z.1 ∈ ((s.rehome st.nm t).tbl CP CI CC).map (·.1) := List.mem_map.mpr ⟨z, hz, rfl⟩
    rw [eF] at hm
    obtain ⟨y, hy, e⟩ := List.mem_map.mp hm
    rw [← e]
    exact x.z0 y hy
theorem homeK_cps (x : PlV CP CI CC H0 H s w) (i : Str) : s.keep (noItem i) = s.keep (homeK (s.g w) i) := by
  refine PSt.keep_congr x.w_.b fun y hy => ?_
  obtain ⟨j, u⟩ := y
  obtain ⟨v, hv, vn⟩ := x.cps_way.mp hy
  unfold noItem homeK
  rw [decide_eq_false (x.o.noHome hv vn), Bool.or_false]
theorem PlV.noItem (x : PlV CP CI CC H0 H s w) (i : Str) {J : Hp} (y : PlW CP CI CC J H' (s.keep (noItem i))) : PlV CP CI CC J H' (s.keep (noItem i)) (keepW (homeK (s.g w) i) w) := by
  rw [homeK_cps x] at y ⊢
  refine x.keep y (fun h hh => ?_) (fun l hl j hj h => ?_)
  · unfold homeK
    rw [decide_eq_true (show (h.1, h.2) ∈ (s.g w).homes from hh), Bool.or_true]
  · unfold homeK at h ⊢
    by_cases q : j = i
    · exfalso
      subst q
      rw [decide_eq_true rfl] at h
      have hm : (j, l.tgt) ∈ (s.g w).homes := by
        have h' : (false || decide ((j, l.tgt) ∈ (s.g w).homes)) = true := h
        rw [Bool.false_or] at h'
        exact of_decide_eq_true h'
      obtain ⟨v, _, h2⟩ := x.o.wL l hl j hj
      exact x.o.noHome h2 (by simp) hm
    · rw [decide_eq_false q]; rfl
theorem noItem_lines {i : Str} : ∀ c ∈ (s.keep (M.noItem i)).lines, i ∉ c.l.it := fun c hc h => by
  obtain ⟨d, _, e⟩ := List.mem_filterMap.mp hc
  obtain ⟨rfl, _⟩ := Cn.keep_some e
  have := (Ln.mem_kept.mp h).2
  unfold M.noItem at this
  rw [decide_eq_true rfl] at this
  cases this
theorem PlV.nms (x : PlV CP CI CC H0 H s w) : (s.seats.map (·.nm)).Nodup := by
  have := x.o.hN
  unfold Gd.goods PSt.g at this
  rw [List.map_map] at this
  exact this
theorem PlV.rehome (x : PlV CP CI CC H0 H s w) {st : Seat} (hs : st ∈ s.seats) {t : Str} (ht : t ∈ s.places) (no : ∀ c ∈ s.lines, st.nm ∉ c.l.it) : PlV CP CI CC H0 (upd H st.a (.ins CI st.dx (seatF s.p { st with st := t }))) (s.rehome st.nm t) (reW st.nm t w) := by
  refine ⟨x.w_.rehome hs x.nms t, ?_⟩
  have z := x.o.rehome (i := st.nm) (t := t) (by unfold Gd.goods PSt.g; rw [List.map_map]; exact List.mem_map.mpr ⟨st, hs, rfl⟩) ht (fun l hl => by obtain ⟨c, hc, rfl⟩ := List.mem_map.mp hl; exact no c hc)
  have e : (s.rehome st.nm t).g (reW st.nm t w) = { s.g w with homes := (s.g w).homes.map (fun h => (h.1, if h.1 = st.nm then t else h.2)), ways := reW st.nm t (s.g w).ways } := by
    unfold PSt.g PSt.rehome
    simp only [List.map_map]
    rfl
  rw [e]
  exact z
end
end M

namespace M
open PySem PySem.Spec PyProof.Rows L2
/-! ### a way passes a site if the site's way begins it -/
def pre : Option (List Str) → Option (List Str) → Bool
  | some p, some v => p.isPrefixOf v
  | _, _ => false
theorem GdOk.wayEnd {g : Gd} (o : GdOk g) {i t u : Str} {v : List Str} (h1 : g.ways i t = some v) (h2 : g.ways i u = some v) : t = u := by
  by_cases e : v = []
  · subst e
    have a : ∃ hm, (i, hm) ∈ g.homes := by
      obtain ⟨x, hx, e⟩ := List.mem_map.mp (o.siteIn h1).1
      exact ⟨x.2, by rw [← e]; exact hx⟩
    obtain ⟨hm, a⟩ := a
    rw [(o.atHome h1 a).mp rfl, (o.atHome h2 a).mp rfl]
  · obtain ⟨l, hl, e1, _, w, _, q1⟩ := o.step h1 e
    obtain ⟨m, hm, e2, _, w', _, q2⟩ := o.step h2 e
    rw [q1] at q2
    have := (List.append_inj' q2 rfl).2
    have e3 := o.lineU hl hm (List.cons.inj this).1
    rw [← e1, ← e2, e3]
theorem isPre_snoc {p w : List Str} {x : Str} (ne : p ≠ w ++ [x]) : p.isPrefixOf (w ++ [x]) = p.isPrefixOf w := by
  rw [Bool.eq_iff_iff, List.isPrefixOf_iff_prefix, List.isPrefixOf_iff_prefix]
  constructor
  · intro h
    rcases List.prefix_concat_iff.mp h with h | h
    · exact absurd h ne
    · exact h
  · intro h
    exact h.trans (List.prefix_append _ _)
theorem GdOk.vis_pre {g : Gd} (o : GdOk g) {i t : Str} : ∀ (n : Nat) {u : Str} {v : List Str}, v.length = n → g.ways i u = some v → g.vis v u t = pre (g.ways i t) (some v)
  | 0, u, v, hn, h => by
    have e := List.length_eq_zero_iff.mp hn
    subst e
    rw [Gd.vis_nil]
    by_cases q : u = t
    · subst q
      rw [decide_eq_true rfl, h]
      rfl
    · rw [decide_eq_false q]
      cases e : g.ways i t with
      | none => rfl
      | some p =>
        show false = p.isPrefixOf []
        cases p with
        | nil => exact absurd (o.wayEnd h e) q
        | cons _ _ => rfl
  | n + 1, u, v, hn, h => by
    obtain ⟨l, hl, et, hi, w, h1, rfl⟩ := o.step h (fun e => by rw [e] at hn; cases hn)
    subst et
    by_cases q : l.tgt = t
    · rw [q, Gd.vis_here]
      rw [q] at h
      rw [h]
      show true = List.isPrefixOf (w ++ [l.nm]) (w ++ [l.nm])
      exact (List.isPrefixOf_iff_prefix.mpr (List.prefix_refl _)).symm
    · rw [o.vis_step hl q, GdOk.vis_pre o n (by simpa using hn) h1]
      cases e : g.ways i t with
      | none => rfl
      | some p =>
        show p.isPrefixOf w = p.isPrefixOf (w ++ [l.nm])
        rw [isPre_snoc]
        intro e2
        rw [e2] at e
        exact q (o.wayEnd h e)
theorem GdOk.lost_pre {g : Gd} (o : GdOk g) (i t u : Str) : g.lost i t u = pre (g.ways i t) (g.ways i u) := by
  unfold Gd.lost
  cases e : g.ways i u with
  | none => cases g.ways i t <;> rfl
  | some v => exact o.vis_pre _ rfl e
theorem pre_some {a b : Option (List Str)} (h : pre a b = true) : ∃ p v, a = some p ∧ b = some v ∧ p <+: v := by
  cases a with
  | none => cases h
  | some p =>
    cases b with
    | none => cases h
    | some v => exact ⟨p, v, rfl, rfl, List.isPrefixOf_iff_prefix.mp h⟩
theorem pre_self {a : Option (List Str)} (h : a ≠ none) : pre a a = true := by
  cases a with
  | none => exact absurd rfl h
  | some p => exact List.isPrefixOf_iff_prefix.mpr (List.prefix_refl _)
/-! ### items go -/
def itemK (P : Str → Bool) : KeepP := fun j _ => !P j
def dropW (P : Str → Bool) (w : Ways) : Ways := fun j u => if P j = true then none else w j u
theorem GdOk.without {g : Gd} (o : GdOk g) (P : Str → Bool) : GdOk { g with homes := g.homes.filter (fun h => !P h.1), lines := g.lines.filterMap (Ln.keep (itemK P)), ways := dropW P g.ways } := by
  have mem : ∀ m ∈ g.lines.filterMap (Ln.keep (itemK P)), ∃ l ∈ g.lines, m = { l with it := l.kept (itemK P) } ∧ l.kept (itemK P) ≠ [] := fun m hm => by
    obtain ⟨l, hl, e⟩ := List.mem_filterMap.mp hm
    exact ⟨l, hl, Ln.keep_some e⟩
  have nn : g.lines.Pairwise fun l m => ¬ (l.tgt = m.tgt ∧ ∃ i, i ∈ l.it ∧ i ∈ m.it) := List.pairwise_iff_getElem.mpr fun j k hj hk jk ⟨ht, i, h1, h2⟩ => by
    have := o.u j k _ _ i (List.getElem?_eq_getElem hj) (List.getElem?_eq_getElem hk) ht h1 h2
    omega
  have nd : (g.lines.filterMap (Ln.keep (itemK P))).Pairwise fun l m => ¬ (l.tgt = m.tgt ∧ ∃ i, i ∈ l.it ∧ i ∈ m.it) := List.Pairwise.filterMap _ (fun a b r c hc d hd => by
    obtain ⟨rfl, _⟩ := Ln.keep_some hc
    obtain ⟨rfl, _⟩ := Ln.keep_some hd
    rintro ⟨e, i, h1, h2⟩
    exact r ⟨e, i, (Ln.mem_kept.mp h1).1, (Ln.mem_kept.mp h2).1⟩) nn
  have kp : ∀ {l : Ln} {i : Str}, i ∈ l.kept (itemK P) → i ∈ l.it ∧ P i = false := fun h => by
    obtain ⟨h1, h2⟩ := Ln.mem_kept.mp h
    unfold itemK at h2
    exact ⟨h1, by simpa using h2⟩
  have dw : ∀ {i s : Str}, P i = false → dropW P g.ways i s = g.ways i s := fun h => by unfold dropW; rw [h]; rfl
  refine ⟨o.sN, o.hN.sublist (List.filter_sublist.map _), fun h hh => o.hS h (List.mem_filter.mp hh).1, o.lN.sublist (fm_sub (fun a b h => by rw [(Ln.keep_some h).1]) _), ?_, ?_, ?_, ?_, ?_, ?_⟩
  · intro m hm
    obtain ⟨l, hl, rfl, _⟩ := mem m hm
    exact o.lE l hl
  · intro m hm
    obtain ⟨l, hl, rfl, _⟩ := mem m hm
    refine ⟨(o.lI l hl).1.sublist List.filter_sublist, fun i hi => ?_⟩
    obtain ⟨h1, h2⟩ := kp hi
    obtain ⟨x, hx, e⟩ := List.mem_map.mp ((o.lI l hl).2 i h1)
    refine List.mem_map.mpr ⟨x, List.mem_filter.mpr ⟨hx, ?_⟩, e⟩
    rw [e, h2]; rfl
  · intro h hh
    obtain ⟨h1, h2⟩ := List.mem_filter.mp hh
    show dropW P g.ways h.1 h.2 = _
    rw [dw (by simpa using h2)]
    exact o.wH h h1
  · intro m hm i hi
    obtain ⟨l, hl, rfl, _⟩ := mem m hm
    obtain ⟨h1, h2⟩ := kp hi
    obtain ⟨w, q1, q2⟩ := o.wL l hl i h1
    exact ⟨w, (dw h2).trans q1, (dw h2).trans q2⟩
  · intro i s w h
    have h' : dropW P g.ways i s = some w := h
    have hP : P i = false := by
      unfold dropW at h'
      split at h'
      · cases h'
      · rename_i q; simpa using q
    rw [dw hP] at h'
    rcases o.wD i s w h' with h | ⟨l, hl, rfl, hi⟩
    · exact .inl (List.mem_filter.mpr ⟨h, by rw [hP]; rfl⟩)
    · have hk : itemK P i l.tgt = true := by unfold itemK; rw [hP]; rfl
      exact .inr ⟨_, List.mem_filterMap.mpr ⟨l, hl, Ln.keep_of hi hk⟩, rfl, Ln.mem_kept.mpr ⟨hi, hk⟩⟩
  · intro j k l m i hj hk ht h1 h2
    obtain ⟨j1, j2⟩ := List.getElem?_eq_some_iff.mp hj
    obtain ⟨k1, k2⟩ := List.getElem?_eq_some_iff.mp hk
    rcases Nat.lt_trichotomy j k with q | q | q
    · exact absurd ⟨by rw [j2, k2]; exact ht, i, by rw [j2]; exact h1, by rw [k2]; exact h2⟩ (List.pairwise_iff_getElem.mp nd j k j1 k1 q)
    · exact q
    · exact absurd ⟨by rw [j2, k2]; exact ht.symm, i, by rw [k2]; exact h2, by rw [j2]; exact h1⟩ (List.pairwise_iff_getElem.mp nd k j k1 j1 q)
/-- a site goes where nothing is held -/
theorem GdOk.offSite {g : Gd} (o : GdOk g) {t : Str} (h : ∀ i, g.ways i t = none) (ne : ∀ l ∈ g.lines, l.it ≠ []) : GdOk { g with sites := g.sites.erase t } := by
  have keep : ∀ x ∈ g.sites, x ≠ t → x ∈ g.sites.erase t := fun x hx n => (List.mem_erase_of_ne n).mpr hx
  refine ⟨o.sN.sublist List.erase_sublist, o.hN, fun x hx => keep _ (o.hS x hx) fun e => ?_, o.lN, fun l hl => ?_, o.lI, o.wH, o.wL, o.wD, o.u⟩
  · have := o.wH x hx
    rw [e, h] at this
    cases this
  · obtain ⟨i, r, e⟩ : ∃ i r, l.it = i :: r := by
      cases q : l.it with
      | nil => exact absurd q (ne l hl)
      | cons i r => exact ⟨i, r, rfl⟩
    obtain ⟨w, h1, h2⟩ := o.wL l hl i (by rw [e]; exact List.mem_cons_self)
    obtain ⟨q1, q2, q3⟩ := o.lE l hl
    exact ⟨keep _ q1 (fun e => by rw [e, h] at h1; cases h1), keep _ q2 (fun e => by rw [e, h] at h2; cases h2), q3⟩
section
variable {CP CI CC : Addr} {H0 H H' : Hp} {s : PSt} {w : Ways}
/-- a seat goes -/
def PSt.unseat (s : PSt) (i : Str) : PSt := { s with seats := s.seats.filter fun x => !decide (x.nm = i) }
theorem kvS_drop (ss : List Seat) (i : Str) : kvS (ss.filter fun x => !decide (x.nm = i)) = dropK (kvS ss) (Sum.inr i) := by
  unfold kvS dropK
  rw [List.filter_map]
  refine congrArg (List.map _) (List.filter_congr fun x _ => ?_)
  show (!decide (x.nm = i)) = decide ((Sum.inr x.nm : L2.Key) ≠ Sum.inr i)
  by_cases q : x.nm = i
  · rw [decide_eq_true q]
    exact (decide_eq_false (p := (Sum.inr x.nm : L2.Key) ≠ Sum.inr i) fun h => h (by rw [q])).symm
  · rw [decide_eq_false q]
    exact (decide_eq_true (p := (Sum.inr x.nm : L2.Key) ≠ Sum.inr i) fun e => q (Sum.inr.inj e)).symm
theorem PlW.unseat (x : PlW CP CI CC H0 H s) (i : Str) : PlW CP CI CC H0 (upd H s.DS (.dK (dropK (kvS s.seats) (Sum.inr i)))) (s.unseat i) := by
  have sub : (((s.unseat i).tbl CP CI CC).map (·.1)).Sublist ((s.tbl CP CI CC).map (·.1)) := by
    unfold PSt.tbl
    rw [List.map_append, List.map_append, List.map_append, List.map_append]
    refine (List.Sublist.refl _).append (List.Sublist.append ?_ (List.Sublist.refl _))
    show ((seT CI s.p (s.seats.filter _)).map (·.1)).Sublist _
    unfold seT
    exact (List.filter_sublist.map _).map _
  have n5 := x.nd5
  simp only [List.nodup_cons, List.mem_cons, List.not_mem_nil, or_false, not_or, List.nodup_nil, not_false_eq_true, and_true] at n5
  obtain ⟨⟨n12, n13, n14, n15⟩, ⟨n23, n24, n25⟩, ⟨n34, n35⟩, n45⟩ := n5
  have hDSn : H0 s.DS = none := x.z0 (s.DS, .dK (kvS s.seats)) (List.mem_append_left _ (by simp))
  refine ⟨⟨fun z hz => ?_, x.x.nd.sublist sub, fun b o hb _ => ?_⟩, x.b, x.nl, x.ni, x.u, x.ne, fun z hz => ?_, x.kz, x.zl, Nat.le_trans (List.length_filter_le _ _) x.zs, x.zp, x.zi⟩
  · have hz : z ∈ ([(s.DB, .dT s.kvb), (s.DL, .dK (kvL s.lines)), (s.DS, .dK (kvS (s.seats.filter fun x => !decide (x.nm = i)))), (s.LP, .lst (s.places.map V.str)), (s.p, .ins CP s.dp s.F)] : List (Addr × HO)) ++ (seT CI s.p (s.seats.filter fun x => !decide (x.nm = i)) ++ chT CC s.lines) := hz
    rcases List.mem_append.mp hz with hz | hz
    · simp only [List.mem_cons, List.not_mem_nil, or_false] at hz
      rcases hz with rfl | rfl | rfl | rfl | rfl
      · rw [upd_ne n13]; exact x.hDB
      · rw [upd_ne n23]; exact x.hDL
      · rw [upd_same, kvS_drop]
      · rw [upd_ne (Ne.symm n34)]; exact x.hLP
      · rw [upd_ne (Ne.symm n35)]; exact x.hp
    · have hm : z ∈ seT CI s.p s.seats ++ chT CC s.lines := by
        rcases List.mem_append.mp hz with hz | hz
        · obtain ⟨d, hd, rfl⟩ := List.mem_map.mp hz
          exact List.mem_append_left _ (seT_mem (List.mem_filter.mp hd).1)
        · exact List.mem_append_right _ hz
      rw [upd_ne (Ne.symm (x.sep1 (by simp) ((List.mem_map (f := fun z : Addr × HO => z.1)).mpr ⟨z, hm, rfl⟩)))]
      exact x.x.at_ z (List.mem_append_right _ hm)
  · rw [upd_ne (fun e => by rw [e, hDSn] at hb; cases hb)]
    exact x.sj b o hb
  · obtain ⟨y, hy, e⟩ := List.mem_map.mp (sub.subset ((List.mem_map (f := fun z : Addr × HO => z.1)).mpr ⟨z, hz, rfl⟩))
    rw [← e]
    exact x.z0 y hy
/-- a site goes -/
def PSt.unplace (s : PSt) (t : Str) : PSt := { s with places := s.places.erase t }
theorem PlW.unplace (x : PlW CP CI CC H0 H s) (t : Str) : PlW CP CI CC H0 (upd H s.LP (.lst ((s.places.erase t).map V.str))) (s.unplace t) := by
  have z := x.x.set (o' := .lst ((s.places.erase t).map V.str)) 3 rfl
  exact ⟨z, x.b, x.nl, x.ni, x.u, x.ne, fun y hy => by
    have hm : y.1 ∈ ((s.unplace t).tbl CP CI CC).map (·.1) := List.mem_map.mpr ⟨y, hy, rfl⟩
    have e : ((s.unplace t).tbl CP CI CC).map (·.1) = (s.tbl CP CI CC).map (·.1) := rfl
    rw [e] at hm
    obtain ⟨y', hy', e'⟩ := List.mem_map.mp hm
    rw [← e']
    exact x.z0 y' hy', x.kz, x.zl, x.zs, Nat.le_trans List.length_erase_le x.zp, x.zi⟩
/-- the items of P go, with their copies -/
def PSt.off (s : PSt) (P : Str → Bool) : PSt := { s.keep (itemK P) with seats := s.seats.filter fun x => !P x.nm }
theorem PSt.off_g (s : PSt) (P : Str → Bool) (w : Ways) : (s.off P).g (dropW P w) = { s.g w with homes := (s.g w).homes.filter (fun h => !P h.1), lines := (s.g w).lines.filterMap (Ln.keep (itemK P)), ways := dropW P (s.g w).ways } := by
  have := s.keep_lns (itemK P)
  unfold PSt.lns at this
  unfold PSt.g PSt.off
  show Gd.mk s.places ((s.seats.filter fun x => !P x.nm).map fun i => (i.nm, i.st)) ((s.keep (itemK P)).lines.map (·.l)) _ = _
  rw [this]
  have e : ((s.seats.filter fun x => !P x.nm).map fun i => (i.nm, i.st)) = (s.seats.map fun i => (i.nm, i.st)).filter fun h => !P h.1 := by
    rw [List.filter_map]
    rfl
  rw [e]
theorem PlV.off (x : PlV CP CI CC H0 H s w) {J : Hp} {P : Str → Bool} (y : PlW CP CI CC J H' (s.off P)) : PlV CP CI CC J H' (s.off P) (dropW P w) := by
  refine ⟨y, ?_⟩
  rw [PSt.off_g]
  exact x.o.without P
theorem PSt.off_step (s : PSt) (P : Str → Bool) (i : Str) : ((s.off P).keep (noItem i)).unseat i = s.off fun j => P j || decide (j = i) := by
  have e1 : ((s.keep (itemK P)).keep (noItem i)) = s.keep (itemK fun j => P j || decide (j = i)) := by
    rw [PSt.keep_keep]
    refine congrArg s.keep (funext fun j => funext fun u => ?_)
    show (!P j && !decide (j = i)) = !(P j || decide (j = i))
    rw [Bool.not_or]
  have e2 : ((s.seats.filter fun x => !P x.nm).filter fun x => !decide (x.nm = i)) = s.seats.filter fun x => !(P x.nm || decide (x.nm = i)) := by
    rw [List.filter_filter]
    refine List.filter_congr fun x _ => ?_
    rw [Bool.not_or, Bool.and_comm]
  unfold PSt.unseat
  show PSt.mk _ _ _ _ _ _ _ ((s.seats.filter fun x => !P x.nm).filter _) ((s.keep (itemK P)).keep (noItem i)).lines ((s.keep (itemK P)).keep (noItem i)).kvb = _
  rw [e1, e2]
  rfl
end
end M

namespace M
open PySem PySem.Spec PyProof.Rows L2
/-! ### runs of a network, in plain Lean -/
abbrev Pc := List Itv
/-- the version of an item among pairs -/
def vat (f : Pc) (i : Str) : Option Int := (f.find? fun x => decide (x.1 = i)).map (·.2)
theorem vat_mem {f : Pc} {i : Str} {v : Int} (h : vat f i = some v) : (i, v) ∈ f := by
  unfold vat at h
  cases e : f.find? fun x => decide (x.1 = i) with
  | none => rw [e] at h; cases h
  | some x =>
    rw [e] at h
    have h1 := List.find?_some e
    have h2 := List.mem_of_find?_eq_some e
    have h3 : x.2 = v := Option.some.inj h
    have h4 : x.1 = i := of_decide_eq_true h1
    rw [← h3, ← h4]
    exact h2
theorem vat_of {f : Pc} (nd : (f.map (·.1)).Nodup) {i : Str} {v : Int} (h : (i, v) ∈ f) : vat f i = some v := by
  unfold vat
  induction f with
  | nil => cases h
  | cons x f ih =>
    have n := List.nodup_cons.mp nd
    rw [List.find?_cons]
    by_cases q : x.1 = i
    · rw [decide_eq_true q]
      rcases List.mem_cons.mp h with e | h
      · rw [← e]; rfl
      · exact absurd (List.mem_map.mpr ⟨_, h, q.symm⟩) n.1
    · rw [decide_eq_false q]
      rcases List.mem_cons.mp h with e | h
      · exact absurd (by rw [← e]) q
      · exact ih n.2 h
theorem vat_none {f : Pc} {i : Str} : vat f i = none ↔ i ∉ f.map (·.1) := by
  unfold vat
  rw [Option.map_eq_none_iff, List.find?_eq_none]
  constructor
  · intro h hm
    obtain ⟨x, hx, e⟩ := List.mem_map.mp hm
    exact h x hx (decide_eq_true e)
  · intro h x hx e
    exact h (List.mem_map.mpr ⟨x, hx, of_decide_eq_true e⟩)
/-- from s the new version of x comes to t over channels at once -/
inductive Rch (ls : List Ln) (x s : Str) : Str → Prop
  | here : Rch ls x s s
  | hop {l : Ln} (m : l ∈ ls) (k : l.kd = none) (i : x ∈ l.it) (p : Rch ls x s l.src) : Rch ls x s l.tgt
theorem Rch.mono {ls ms : List Ln} (h : ∀ l ∈ ls, l.kd = none → ∀ x ∈ l.it, ∃ m ∈ ms, m.kd = none ∧ x ∈ m.it ∧ m.src = l.src ∧ m.tgt = l.tgt) {x s t : Str} (r : Rch ls x s t) : Rch ms x s t := by
  induction r with
  | here => exact .here
  | @hop l m k i _ ih =>
    obtain ⟨l', m', k', i', e1, e2⟩ := h l m k x i
    rw [← e2]
    exact .hop m' k' i' (by rw [e1]; exact ih)
open Classical in
/-- the new versions of one step that begins at s -/
noncomputable def newV (ls : List Ln) (s : Str) (f : Pc) (t i : Str) : Option Int := if Rch ls i s t then vat f i else none
theorem newV_some {ls : List Ln} {s : Str} {f : Pc} {t i : Str} {v : Int} : newV ls s f t i = some v ↔ Rch ls i s t ∧ vat f i = some v := by
  unfold newV
  split
  · rename_i h; exact ⟨fun e => ⟨h, e⟩, fun e => e.2⟩
  · rename_i h; exact ⟨fun e => (by cases e), fun e => absurd e.1 h⟩
theorem newV_none {ls : List Ln} {s : Str} {f : Pc} {t i : Str} : newV ls s f t i = none ↔ ¬ Rch ls i s t ∨ vat f i = none := by
  unfold newV
  split
  · rename_i h; exact ⟨fun e => .inr e, fun e => e.elim (absurd h) id⟩
  · rename_i h; exact ⟨fun _ => .inl h, fun _ => rfl⟩
/-- a network's state -/
structure NS where
  ver : Str → Str → Option Int
  q : Str → List Pc
  es : List Ent
/-- the piece that a channel gets of new versions -/
noncomputable def pieceOf (nv : Str → Str → Option Int) (l : Ln) : Pc := l.it.filterMap fun i => (nv l.src i).map fun v => (i, v)
def hasIt (p : Pc) (i : Str) : Bool := decide (i ∈ p.map (·.1))
def putIt (i : Str) (v : Int) (p : Pc) : Pc := p.map fun x => if x.1 = i then (i, v) else x
/-- a piece is queued -/
def enq (k : Str) (q : List Pc) (p : Pc) : List Pc :=
  if k = "itemwise" ∨ k = "split" then q ++ p.map fun x => [x]
  else if k = "passing" then
    let q' := p.foldl (fun q x => q.map (putIt x.1 x.2)) q
    let left := p.filter fun x => !q.any fun w => hasIt w x.1
    if left = [] then q' else q' ++ [left]
  else if p = [] then q else q ++ [p]
/-- new versions are installed and queued -/
noncomputable def NS.inst (n : NS) (ls : List Ln) (nv : Str → Str → Option Int) : NS where
  ver := fun i t => (nv t i).or (n.ver i t)
  q := fun c => match ls.find? fun l => decide (l.nm = c) with
    | some l => match l.kd with
      | some k => enq k (n.q c) (pieceOf nv l)
      | none => n.q c
    | none => n.q c
  es := n.es
/-- a program runs -/
def NS.seen (n : NS) (s : Str) (rs : List Str) : Pc := rs.map fun i => (i, (n.ver i s).getD 0)
def NS.fresh (n : NS) (s : Str) (ws : List Str) : Pc := ws.map fun i => (i, (n.ver i s).getD 0 + 1)
noncomputable def NS.run (n : NS) (ls : List Ln) (s : Str) (rs ws : List Str) : NS :=
  { n.inst ls (newV ls s (n.fresh s ws)) with es := n.es ++ [(s, n.seen s rs, n.fresh s ws)] }
/-- a piece is delivered -/
def NS.news (n : NS) (t : Str) (p : Pc) : Pc := p.filter fun x => decide (x.2 > (n.ver x.1 t).getD 0)
noncomputable def NS.del (n : NS) (ls : List Ln) (l : Ln) (k : Nat) (p : Pc) : NS :=
  ({ n with q := fun c => if c = l.nm then (n.q c).eraseIdx k else n.q c } : NS).inst ls (newV ls l.tgt (n.news l.tgt p))
def dueP (k : Str) (q : List Pc) (pick : Nat) : Bool :=
  match q[pick]? with
  | none => false
  | some p =>
    if k = "split" then (q.take pick).all fun w => p.all fun x => !hasIt w x.1
    else if k = "overtaking" then true else decide (pick = 0)
/-! ### rounds over the channels at once -/
/-- one channel after the other hands on x -/
def hand (x : Str) (S : List Str) (l : Ln) : List Str := if l.kd = none ∧ x ∈ l.it ∧ l.src ∈ S ∧ l.tgt ∉ S then S ++ [l.tgt] else S
def round (x : Str) (ls : List Ln) (S : List Str) : List Str := ls.foldl (hand x) S
def rounds (x : Str) (ls : List Ln) : Nat → List Str → List Str
  | 0, S => S
  | n + 1, S => rounds x ls n (round x ls S)
theorem hand_sub (x : Str) (S : List Str) (l : Ln) : ∀ t ∈ S, t ∈ hand x S l := fun t h => by
  unfold hand
  split
  · exact List.mem_append_left _ h
  · exact h
theorem round_sub (x : Str) : ∀ (ls : List Ln) (S : List Str), ∀ t ∈ S, t ∈ round x ls S
  | [], _, _, h => h
  | l :: ls, S, t, h => round_sub x ls (hand x S l) t (hand_sub x S l t h)
theorem rounds_sub (x : Str) (ls : List Ln) : ∀ (n : Nat) (S : List Str), ∀ t ∈ S, t ∈ rounds x ls n S
  | 0, _, _, h => h
  | n + 1, S, t, h => rounds_sub x ls n _ t (round_sub x ls S t h)
/-- what is handed on is reached -/
theorem hand_rch {x s : Str} {ls : List Ln} {S : List Str} {l : Ln} (hl : l ∈ ls) (h : ∀ t ∈ S, Rch ls x s t) : ∀ t ∈ hand x S l, Rch ls x s t := fun t ht => by
  unfold hand at ht
  split at ht
  · rename_i c
    rcases List.mem_append.mp ht with ht | ht
    · exact h t ht
    · rw [List.mem_singleton.mp ht]
      exact .hop hl c.1 c.2.1 (h _ c.2.2.1)
  · exact h t ht
theorem round_rch {x s : Str} {ls : List Ln} : ∀ (ms : List Ln) {S : List Str}, (∀ l ∈ ms, l ∈ ls) → (∀ t ∈ S, Rch ls x s t) → ∀ t ∈ round x ms S, Rch ls x s t
  | [], _, _, h => h
  | l :: ms, S, hm, h => round_rch ms (fun m hx => hm m (List.mem_cons_of_mem _ hx)) (hand_rch (hm l List.mem_cons_self) h)
theorem rounds_rch {x s : Str} {ls : List Ln} : ∀ (n : Nat) {S : List Str}, (∀ t ∈ S, Rch ls x s t) → ∀ t ∈ rounds x ls n S, Rch ls x s t
  | 0, _, h => h
  | n + 1, _, h => rounds_rch n (round_rch ls (fun _ h => h) h)
/-- nothing more is handed on -/
def Shut (x : Str) (ls : List Ln) (S : List Str) : Prop := ∀ l ∈ ls, l.kd = none → x ∈ l.it → l.src ∈ S → l.tgt ∈ S
theorem Shut.rch {x s : Str} {ls : List Ln} {S : List Str} (c : Shut x ls S) (h : s ∈ S) {t : Str} (r : Rch ls x s t) : t ∈ S := by
  induction r with
  | here => exact h
  | hop m k i _ ih => exact c _ m k i ih
theorem hand_len (x : Str) (S : List Str) (l : Ln) : S.length ≤ (hand x S l).length := by
  unfold hand
  split
  · rw [List.length_append]; exact Nat.le_add_right _ _
  · exact Nat.le_refl _
theorem round_len (x : Str) : ∀ (ls : List Ln) (S : List Str), S.length ≤ (round x ls S).length
  | [], _ => Nat.le_refl _
  | l :: ls, S => Nat.le_trans (hand_len x S l) (round_len x ls _)
theorem round_same {x : Str} : ∀ {ls : List Ln} {S : List Str}, (round x ls S).length = S.length → round x ls S = S ∧ Shut x ls S
  | [], S, _ => ⟨rfl, fun _ h => by cases h⟩
  | l :: ls, S, h => by
    have h1 := hand_len x S l
    have h2 := round_len x ls (hand x S l)
    have h' : (round x ls (hand x S l)).length = S.length := h
    have e1 : hand x S l = S := by
      have e : (hand x S l).length = S.length := by omega
      unfold hand at e ⊢
      split at e
      · rw [List.length_append] at e
        simp at e
      · rename_i c
        rw [if_neg c]
    have sh : l.kd = none → x ∈ l.it → l.src ∈ S → l.tgt ∈ S := fun k i a => by
      by_cases q : l.tgt ∈ S
      · exact q
      · have e := e1
        unfold hand at e
        rw [if_pos ⟨k, i, a, q⟩] at e
        have := congrArg List.length e
        simp at this
    rw [e1] at h'
    obtain ⟨i1, i2⟩ := round_same h'
    refine ⟨by show round x ls (hand x S l) = S; rw [e1]; exact i1, fun m hm => ?_⟩
    rcases List.mem_cons.mp hm with rfl | hm
    · exact sh
    · exact i2 m hm
theorem shut_round {x : Str} : ∀ {ls : List Ln} {S : List Str}, Shut x ls S → round x ls S = S
  | [], _, _ => rfl
  | l :: ls, S, c => by
    have e : hand x S l = S := by
      unfold hand
      rw [if_neg]
      rintro ⟨k, i, a, b⟩
      exact b (c l List.mem_cons_self k i a)
    show round x ls (hand x S l) = S
    rw [e]
    exact shut_round fun m hm => c m (List.mem_cons_of_mem _ hm)
theorem shut_rounds {x : Str} {ls : List Ln} {S : List Str} (c : Shut x ls S) : ∀ n, rounds x ls n S = S
  | 0 => rfl
  | n + 1 => by
    show rounds x ls n (round x ls S) = S
    rw [shut_round c]
    exact shut_rounds c n
/-- sites that stand in a list that only targets enter -/
theorem hand_bound {x s : Str} {S : List Str} {l : Ln} (T : List Str) (hl : l.kd = none → l.tgt ∈ T) (nd : S.Nodup) (h : ∀ t ∈ S, t = s ∨ t ∈ T) : (hand x S l).Nodup ∧ ∀ t ∈ hand x S l, t = s ∨ t ∈ T := by
  unfold hand
  split
  · rename_i c
    refine ⟨List.nodup_append.mpr ⟨nd, List.pairwise_singleton _ _, fun a ha b hb e => c.2.2.2 (by rw [← List.mem_singleton.mp hb, ← e]; exact ha)⟩, fun t ht => ?_⟩
    rcases List.mem_append.mp ht with ht | ht
    · exact h t ht
    · rw [List.mem_singleton.mp ht]; exact .inr (hl c.1)
  · exact ⟨nd, h⟩
theorem round_bound {x s : Str} (T : List Str) : ∀ {ls : List Ln} {S : List Str}, (∀ l ∈ ls, l.kd = none → l.tgt ∈ T) → S.Nodup → (∀ t ∈ S, t = s ∨ t ∈ T) → (round x ls S).Nodup ∧ ∀ t ∈ round x ls S, t = s ∨ t ∈ T
  | [], _, _, nd, h => ⟨nd, h⟩
  | l :: ls, S, hl, nd, h => by
    obtain ⟨a, b⟩ := hand_bound (x := x) T (hl l List.mem_cons_self) nd h
    exact round_bound (ls := ls) (S := hand x S l) T (fun m hm => hl m (List.mem_cons_of_mem _ hm)) a b
/-- as many rounds as there are channels at once are enough -/
theorem rounds_shut {x s : Str} {ls : List Ln} (T : List Str) (hT : ∀ l ∈ ls, l.kd = none → l.tgt ∈ T) : ∀ (n : Nat) {S : List Str}, S.Nodup → (∀ t ∈ S, t = s ∨ t ∈ T) → T.length + 1 ≤ S.length + n → Shut x ls (rounds x ls n S)
  | 0, S, nd, h, hn => by
    show Shut x ls S
    have e : S.length ≤ (s :: T).length := nodup_le nd fun t ht => by
      rcases h t ht with e | e
      · rw [e]; exact List.mem_cons_self
      · exact List.mem_cons_of_mem _ e
    have all : ∀ t ∈ T, t ∈ S := fun t ht => by
      by_cases q : t ∈ S
      · exact q
      · have := nodup_le (List.nodup_cons.mpr ⟨q, nd⟩) (m := s :: T) fun u hu => by
          rcases List.mem_cons.mp hu with e | hu
          · rw [e]; exact List.mem_cons_of_mem _ ht
          · rcases h u hu with e | e
            · rw [e]; exact List.mem_cons_self
            · exact List.mem_cons_of_mem _ e
        simp at this
        omega
    exact fun l hl k _ _ => all _ (hT l hl k)
  | n + 1, S, nd, h, hn => by
    show Shut x ls (rounds x ls n (round x ls S))
    have hl := round_len x ls S
    by_cases q : (round x ls S).length = S.length
    · obtain ⟨e, c⟩ := round_same q
      rw [e, shut_rounds c n]
      exact c
    · obtain ⟨a, b⟩ := round_bound (x := x) T hT nd h
      exact rounds_shut T hT n a b (by omega)
theorem rounds_iff {x s : Str} {ls : List Ln} {n : Nat} (hn : (ls.filter fun l => l.kd.isNone).length ≤ n) {t : Str} : t ∈ rounds x ls n [s] ↔ Rch ls x s t := by
  constructor
  · exact rounds_rch n (fun t ht => by rw [List.mem_singleton.mp ht]; exact .here) t
  · intro r
    have c : Shut x ls (rounds x ls n [s]) := rounds_shut (s := s) ((ls.filter fun l => l.kd.isNone).map (·.tgt)) (fun l hl k => List.mem_map.mpr ⟨l, List.mem_filter.mpr ⟨hl, by rw [k]; rfl⟩, rfl⟩) n (List.pairwise_singleton _ _) (fun t ht => .inl (List.mem_singleton.mp ht)) (by rw [List.length_map]; simp; omega)
    exact c.rch (rounds_sub x ls n [s] s (List.mem_singleton.mpr rfl)) r
end M

namespace M
open PySem PySem.Spec PyProof.Rows L2
/-! ### what stays (J) and what changes (the table l) -/
structure Bd (J H : Hp) (l : List (Addr × HO)) : Prop where
  at_ : ∀ z ∈ l, H z.1 = some z.2
  nd : (l.map (·.1)).Nodup
  z0 : ∀ z ∈ l, J z.1 = none
  sj : Same J H
section
variable {J J' H H' : Hp} {l l' m m' : List (Addr × HO)} {T a : Addr} {o u : HO}
theorem Bd.get (x : Bd J H l) (i : Nat) (h : l[i]? = some (a, o)) : H a = some o := x.at_ _ (List.mem_of_getElem? h)
theorem Bd.same (x : Bd J H l) (s : Same H H') : Bd J H' l := ⟨fun z hz => s _ _ (x.at_ z hz), x.nd, x.z0, x.sj.trans s⟩
theorem Bd.at0 (x : Bd J H l) (h : J a = some u) : H a = some u := x.sj a u h
theorem Bd.base (x : Bd J' H l) (s : Same J J') : Bd J H l := ⟨x.at_, x.nd, fun z hz => none_of (x.z0 z hz) s, s.trans x.sj⟩
/-- a new object that stays -/
theorem Bd.new (x : Bd J H l) (n : H T = none) (o : HO) : ∃ J1 H1, upd H T o = H1 ∧ Same J J1 ∧ Same H H1 ∧ J1 T = some o ∧ Bd J1 H1 l := by
  have ne : ∀ z ∈ l, z.1 ≠ T := fun z hz e => by have := x.at_ z hz; rw [e, n] at this; cases this
  have nj : J T = none := none_of n x.sj
  exact ⟨upd J T o, _, rfl, (Same.refl _).new nj, (Same.refl _).new n, upd_same, fun z hz => by rw [upd_ne (ne z hz)]; exact x.at_ z hz, x.nd, fun z hz => by rw [upd_ne (ne z hz)]; exact x.z0 z hz, M.Same.upd2 x.sj⟩
/-- a new object of the table -/
theorem Bd.push (x : Bd J H l) (n : H T = none) (o : HO) : Bd J (upd H T o) ((T, o) :: l) := by
  have ne : ∀ z ∈ l, z.1 ≠ T := fun z hz e => by have := x.at_ z hz; rw [e, n] at this; cases this
  refine ⟨fun z hz => ?_, ?_, fun z hz => ?_, x.sj.new n⟩
  · rcases List.mem_cons.mp hz with rfl | hz
    · exact upd_same
    · rw [upd_ne (ne z hz)]; exact x.at_ z hz
  · rw [List.map_cons]
    refine List.nodup_cons.mpr ⟨fun h => ?_, x.nd⟩
    obtain ⟨z, hz, e⟩ := List.mem_map.mp h
    exact ne z hz e
  · rcases List.mem_cons.mp hz with rfl | hz
    · exact none_of n x.sj
    · exact x.z0 z hz
/-- an object of the table changes -/
theorem Bd.set (x : Bd J H l) (i : Nat) (h : l[i]? = some (a, o)) (o' : HO) : Bd J (upd H a o') (l.set i (a, o')) := by
  have hi := (List.getElem?_eq_some_iff.mp h).1
  have hx := (List.getElem?_eq_some_iff.mp h).2
  have e : (l.set i (a, o')).map (·.1) = l.map (·.1) := map_set_same (fun z : Addr × HO => z.1) h rfl
  have key : ∀ (j : Nat) (hj : j < l.length), j ≠ i → (l[j]).1 ≠ a := fun j hj ne q => ne (by
    have hj2 : j < (l.map (·.1)).length := by rw [List.length_map]; exact hj
    have hi2 : i < (l.map (·.1)).length := by rw [List.length_map]; exact hi
    refine (List.getElem_inj (h₀ := hj2) (h₁ := hi2) x.nd).mp ?_
    rw [List.getElem_map, List.getElem_map, hx]
    exact q)
  refine ⟨fun z hz => ?_, by rw [e]; exact x.nd, fun z hz => ?_, fun b v hb => ?_⟩
  · obtain ⟨j, hj, ez⟩ := List.getElem_of_mem hz
    rw [List.length_set] at hj
    rw [List.getElem_set] at ez
    split at ez
    · rw [← ez]; exact upd_same
    · rename_i ne
      rw [← ez, upd_ne (key j hj (fun q => ne q.symm))]
      exact x.at_ _ (List.getElem_mem hj)
  · have hm : z.1 ∈ (l.set i (a, o')).map (·.1) := List.mem_map.mpr ⟨z, hz, rfl⟩
    rw [e] at hm
    obtain ⟨y, hy, e2⟩ := List.mem_map.mp hm
    rw [← e2]; exact x.z0 y hy
  · rw [upd_ne (fun q => by have := x.z0 _ (List.mem_of_getElem? h); rw [← q, hb] at this; cases this)]
    exact x.sj b v hb
theorem Bd.perm (x : Bd J H l) (p : l.Perm l') : Bd J H l' := ⟨fun z hz => x.at_ z (p.mem_iff.mpr hz), (p.map _).nodup_iff.mp x.nd, fun z hz => x.z0 z (p.mem_iff.mpr hz), x.sj⟩
theorem Bd.sub (x : Bd J H l) (s : ∀ z ∈ l', z ∈ l) (n : (l'.map (·.1)).Nodup) : Bd J H l' := ⟨fun z hz => x.at_ z (s z hz), n, fun z hz => x.z0 z (s z hz), x.sj⟩
theorem Bd.right (x : Bd J H (l ++ m)) : Bd J H m := x.sub (fun z hz => List.mem_append_right _ hz) (by have := x.nd; rw [List.map_append] at this; exact (List.nodup_append.mp this).2.1)
theorem Bd.left (x : Bd J H (l ++ m)) : Bd J H l := x.sub (fun z hz => List.mem_append_left _ hz) (by have := x.nd; rw [List.map_append] at this; exact (List.nodup_append.mp this).1)
abbrev ads (l : List (Addr × HO)) : List Addr := l.map (·.1)
theorem Bd.rest (x : Bd J H l) : Bd (cut H (ads l)) H l := ⟨x.at_, x.nd, fun z hz => cut_in (List.mem_map.mpr ⟨z, hz, rfl⟩), cut_all⟩
theorem Bd.restS (x : Bd J H l) : Same J (cut H (ads l)) := fun b v e => by
  rw [cut_out fun h => ?_]
  · exact x.sj _ _ e
  · obtain ⟨z, hz, e2⟩ := List.mem_map.mp h
    have := x.z0 z hz
    rw [e2, e] at this
    cases this
theorem Bd.rest_at (x : Bd J H l) (h : H a = some u) (n : a ∉ ads l) : cut H (ads l) a = some u := by rw [cut_out n]; exact h
theorem Bd.notin (x : Bd J H l) (n : H a = none) : a ∉ ads l := fun h => by
  obtain ⟨z, hz, e⟩ := List.mem_map.mp h
  have := x.at_ z hz
  rw [e, n] at this
  cases this
/-- what is new in H' stays -/
theorem Bd.rest_new (x : Bd J H l) (s : Same H H') (n : H a = none) (h : H' a = some u) : cut H' (ads l) a = some u := by rw [cut_out (x.notin n)]; exact h
theorem Bd.rest_ne (x : Bd J H l) (h : H a = some u) (n : ∀ z ∈ l, z.2 ≠ u) : cut H (ads l) a = some u := by
  rw [cut_out fun h2 => ?_]
  · exact h
  · obtain ⟨z, hz, e⟩ := List.mem_map.mp h2
    have := x.at_ z hz
    rw [e, h] at this
    exact n z hz (Option.some.inj this).symm
theorem Bd.step (x : Bd J H l) (s : Same H H') : ∃ J1, J1 = cut H' (ads l) ∧ Same J J1 ∧ Bd J1 H' l := ⟨_, rfl, (x.same s).restS, (x.same s).rest⟩
/-- a deed on a part of the table -/
theorem Bd.deed (x : Bd J H (l ++ m)) (sJ : Same (cut H (ads m)) J') (y : Bd J' H' m') : ∃ J1, J1 = cut J' (ads l) ∧ Same J J1 ∧ Bd J1 H' (l ++ m') := by
  have nd := x.nd
  rw [List.map_append] at nd
  have dis := (List.nodup_append.mp nd).2.2
  have hl : ∀ z ∈ l, J' z.1 = some z.2 := fun z hz => sJ _ _ (by
    rw [cut_out fun h => dis _ (List.mem_map.mpr ⟨z, hz, rfl⟩) _ h rfl]
    exact x.at_ z (List.mem_append_left _ hz))
  refine ⟨_, rfl, fun b v e => ?_, fun z hz => ?_, ?_, fun z hz => ?_, cut_all.trans y.sj⟩
  · rw [cut_out fun h => ?_]
    · exact sJ _ _ ((x.right).restS _ _ e)
    · obtain ⟨z, hz, e2⟩ := List.mem_map.mp h
      have := x.z0 z (List.mem_append_left _ hz)
      rw [e2, e] at this
      cases this
  · rcases List.mem_append.mp hz with hz | hz
    · exact y.sj _ _ (hl z hz)
    · exact y.at_ z hz
  · rw [List.map_append]
    refine List.nodup_append.mpr ⟨(List.nodup_append.mp nd).1, y.nd, fun a ha b hb e => ?_⟩
    obtain ⟨z, hz, e1⟩ := List.mem_map.mp ha
    obtain ⟨w, hw, e2⟩ := List.mem_map.mp hb
    have h1 := hl z hz
    have h2 := y.z0 w hw
    rw [e2, ← e, ← e1, h1] at h2
    cases h2
  · rcases List.mem_append.mp hz with hz | hz
    · exact cut_in (List.mem_map.mpr ⟨z, hz, rfl⟩)
    · exact none_of (y.z0 z hz) cut_all
theorem Bd.hx (x : Bd J H l) : Hx J H l := ⟨x.at_, x.nd, fun b o hb _ => x.sj b o hb⟩
end
end M

namespace M
open PySem PySem.Spec PyProof.Rows L2
/-! ### a network in the heap -/
/-- a channel of a network: its row, where the row stands, its items, its queue -/
structure NL where
  l : Ln
  t : Addr
  la : Addr
  qa : Addr
structure Net where
  n : Addr
  dn : Addr
  LP : Addr
  DSt : Addr
  DC : Addr
  DQ : Addr
  DV : Addr
  LE : Addr
  sites : List Str
  homes : List (Str × Str)
  ls : List NL
  od : Option Obj
/-- what changes -/
structure NM where
  kvv : List (List L2.Key × V)
  ev : List V
  es : List Ent
  ps : Str → List (Addr × Pc)
  hold : V
  k : Nat
def Net.F (n : Net) (h : V) : List (Str × V) := [("places", .ref n.LP), ("seats", .ref n.DSt), ("carriers", .ref n.DC), ("queues", .ref n.DQ), ("versions", .ref n.DV), ("entries", .ref n.LE), ("hold", h)]
def ntFs : List Str := ["places", "seats", "carriers", "queues", "versions", "entries", "hold"]
def Net.kvC (n : Net) : List (Key × V) := n.ls.map fun c => (Sum.inr c.l.nm, .ref c.t)
def Net.kvQ (n : Net) : List (Key × V) := n.ls.map fun c => (Sum.inr c.l.nm, .ref c.qa)
def Net.lns (n : Net) : List Ln := n.ls.map (·.l)
def lckO : Option Obj → HO → HO
  | none, u => u
  | some o, u => .frz o u
theorem lckO_rd {H : Hp} {a : Addr} {u : HO} : ∀ {o : Option Obj}, H a = some (lckO o u) → Rd H a u
  | none, h => .inl h
  | some o, h => .inr ⟨o, h⟩
def pcK (p : Pc) : List (Key × V) := p.map fun x => (Sum.inr x.1, .int x.2)
def qV (q : List (Addr × Pc)) : List V := q.map fun x => .ref x.1
structure NA (CN : Addr) (J H : Hp) (n : Net) (m : NM) : Prop where
  sj : Same J H
  jP : J n.LP = some (.lst (n.sites.map V.str))
  jS : J n.DSt = some (.dK (kvH n.homes))
  jC : J n.DC = some (lckO n.od (.dK n.kvC))
  jQ : J n.DQ = some (.dK n.kvQ)
  jt : ∀ c ∈ n.ls, J c.t = some (.tup (rwV c.l c.la))
  jl : ∀ c ∈ n.ls, J c.la = some (.lst (c.l.it.map V.str))
  je : Pw (EnA J) m.ev m.es
  hn : H n.n = some (.ins CN n.dn (n.F m.hold))
  nn : J n.n = none
  hV : H n.DV = some (.dT m.kvv)
  nV : J n.DV = none
  hE : H n.LE = some (.lst m.ev)
  nE : J n.LE = none
  hq : ∀ c ∈ n.ls, H c.qa = some (.lst (qV (m.ps c.l.nm)))
  nq : ∀ c ∈ n.ls, J c.qa = none
  hp : ∀ c ∈ n.ls, ∀ x ∈ m.ps c.l.nm, H x.1 = some (.dK (pcK x.2))
  np : ∀ c ∈ n.ls, ∀ x ∈ m.ps c.l.nm, J x.1 = none
  dq : (n.LE :: n.ls.map (·.qa)).Nodup
  dp : ∀ c ∈ n.ls, ((m.ps c.l.nm).map (·.1)).Nodup
  dpp : ∀ c ∈ n.ls, ∀ c' ∈ n.ls, c.l.nm ≠ c'.l.nm → ∀ x ∈ m.ps c.l.nm, ∀ y ∈ m.ps c'.l.nm, x.1 ≠ y.1
  dS : n.DSt ≠ n.DC
  dQ : n.DQ ≠ n.DC
  lN : (n.ls.map (·.l.nm)).Nodup
  hN : (n.homes.map (·.1)).Nodup
  zl : n.ls.length ≤ 100
  zh : n.homes.length ≤ 100
  zs : n.sites.length ≤ 100
  zi : ∀ c ∈ n.ls, c.l.it.length ≤ 100
  zv : m.kvv.length ≤ 20000
  zE : m.es.length ≤ m.k
  zq : ∀ c ∈ n.ls, (m.ps c.l.nm).length ≤ m.k
theorem ne_kind {H : Hp} {a b : Addr} {o u : HO} (h : H a = some o) (k : H b = some u) (d : o ≠ u) : a ≠ b := fun e => by
  subst e
  rw [h] at k
  exact d (Option.some.inj k)
theorem map_inj_of {α β : Type} {f : α → β} {l : List α} (nd : (l.map f).Nodup) {x y : α} (hx : x ∈ l) (hy : y ∈ l) (e : f x = f y) : x = y := by
  induction l with
  | nil => cases hx
  | cons z l ih =>
    have n := List.nodup_cons.mp nd
    rcases List.mem_cons.mp hx with h1 | h1
    · rcases List.mem_cons.mp hy with h2 | h2
      · rw [h1, h2]
      · exact absurd (List.mem_map.mpr ⟨y, h2, by rw [← e, h1]⟩) n.1
    · rcases List.mem_cons.mp hy with h2 | h2
      · exact absurd (List.mem_map.mpr ⟨x, h1, by rw [e, h2]⟩) n.1
      · exact ih n.2 h1 h2
section
variable {CN : Addr} {J J' H H' : Hp} {n : Net} {m : NM} {T a : Addr} {o u : HO}
theorem NA.same (x : NA CN J H n m) (s : Same H H') : NA CN J H' n m :=
  { x with sj := x.sj.trans s, hn := s _ _ x.hn, hV := s _ _ x.hV, hE := s _ _ x.hE, hq := fun c hc => s _ _ (x.hq c hc), hp := fun c hc y hy => s _ _ (x.hp c hc y hy) }
theorem NA.later (x : NA CN J H n m) {k : Nat} (h : m.k ≤ k) : NA CN J H n { m with k := k } :=
  { x with zE := Nat.le_trans x.zE h, zq := fun c hc => Nat.le_trans (x.zq c hc) h }
theorem NA.Pm (x : NA CN J H n m) : H n.LP = some (.lst (n.sites.map V.str)) := x.sj _ _ x.jP
theorem NA.Sm (x : NA CN J H n m) : H n.DSt = some (.dK (kvH n.homes)) := x.sj _ _ x.jS
theorem NA.Cm (x : NA CN J H n m) : Rd H n.DC (.dK n.kvC) := lckO_rd (x.sj _ _ x.jC)
theorem NA.Qm (x : NA CN J H n m) : H n.DQ = some (.dK n.kvQ) := x.sj _ _ x.jQ
theorem NA.tm (x : NA CN J H n m) {c : NL} (hc : c ∈ n.ls) : H c.t = some (.tup (rwV c.l c.la)) := x.sj _ _ (x.jt c hc)
theorem NA.lm (x : NA CN J H n m) {c : NL} (hc : c ∈ n.ls) : H c.la = some (.lst (c.l.it.map V.str)) := x.sj _ _ (x.jl c hc)
theorem NA.getC (x : NA CN J H n m) {c : NL} (hc : c ∈ n.ls) : DGet H n.DC (.str c.l.nm) (some (.ref c.t)) := .inl ⟨n.kvC, Sum.inr c.l.nm, x.Cm, rfl, (valV_map_in (f := fun c : NL => c.l.nm) (v := fun c : NL => V.ref c.t) x.lN hc).symm⟩
theorem NA.getQ (x : NA CN J H n m) {c : NL} (hc : c ∈ n.ls) : DGet H n.DQ (.str c.l.nm) (some (.ref c.qa)) := .inl ⟨n.kvQ, Sum.inr c.l.nm, .inl x.Qm, rfl, (valV_map_in (f := fun c : NL => c.l.nm) (v := fun c : NL => V.ref c.qa) x.lN hc).symm⟩
theorem NA.qne (x : NA CN J H n m) {c : NL} (hc : c ∈ n.ls) : c.qa ≠ n.LE := fun e => (List.nodup_cons.mp x.dq).1 (List.mem_map.mpr ⟨c, hc, e⟩)
theorem NA.qinj (x : NA CN J H n m) {c c' : NL} (hc : c ∈ n.ls) (hc' : c' ∈ n.ls) (e : c.qa = c'.qa) : c = c' := map_inj_of (List.nodup_cons.mp x.dq).2 hc hc' e
theorem NA.nmi (x : NA CN J H n m) {c c' : NL} (hc : c ∈ n.ls) (hc' : c' ∈ n.ls) (e : c.l.nm = c'.l.nm) : c = c' := map_inj_of x.lN hc hc' e
/-- the versions change -/
theorem NA.upV (x : NA CN J H n m) (kv : List (List L2.Key × V)) (z : kv.length ≤ 20000) : NA CN J (upd H n.DV (.dT kv)) n { m with kvv := kv } :=
  { x with
    sj := x.sj.mut x.nV
    hn := by show (upd H n.DV (.dT kv)) n.n = _; rw [upd_ne (ne_kind x.hn x.hV (by intro e; cases e))]; exact x.hn
    hV := upd_same
    hE := by show (upd H n.DV (.dT kv)) n.LE = _; rw [upd_ne (ne_kind x.hE x.hV (by intro e; cases e))]; exact x.hE
    hq := fun c hc => by show (upd H n.DV (.dT kv)) c.qa = _; rw [upd_ne (ne_kind (x.hq c hc) x.hV (by intro e; cases e))]; exact x.hq c hc
    hp := fun c hc y hy => by show (upd H n.DV (.dT kv)) y.1 = _; rw [upd_ne (ne_kind (x.hp c hc y hy) x.hV (by intro e; cases e))]; exact x.hp c hc y hy
    zv := z }
/-- an entry more -/
theorem NA.upE (x : NA CN J H n m) {v : V} {e : Ent} (h : EnA J v e) : NA CN J (upd H n.LE (.lst (m.ev ++ [v]))) n { m with ev := m.ev ++ [v], es := m.es ++ [e], k := m.k + 1 } :=
  { x with
    sj := x.sj.mut x.nE
    je := x.je.snoc h
    hn := by show (upd H n.LE _) n.n = _; rw [upd_ne (ne_kind x.hn x.hE (by intro e; cases e))]; exact x.hn
    hV := by show (upd H n.LE _) n.DV = _; rw [upd_ne (ne_kind x.hV x.hE (by intro e; cases e))]; exact x.hV
    hE := upd_same
    hq := fun c hc => by show (upd H n.LE _) c.qa = _; rw [upd_ne (x.qne hc)]; exact x.hq c hc
    hp := fun c hc y hy => by show (upd H n.LE _) y.1 = _; rw [upd_ne (ne_kind (x.hp c hc y hy) x.hE (by intro e; cases e))]; exact x.hp c hc y hy
    zE := by show (m.es ++ [e]).length ≤ m.k + 1; rw [List.length_append]; exact Nat.add_le_add_right x.zE 1
    zq := fun c hc => Nat.le_succ_of_le (x.zq c hc) }
/-- what is held -/
theorem NA.upH (x : NA CN J H n m) (v : V) : NA CN J (upd H n.n (.ins CN n.dn (n.F v))) n { m with hold := v } :=
  { x with
    sj := x.sj.mut x.nn
    hn := upd_same
    hV := by show (upd H n.n _) n.DV = _; rw [upd_ne (ne_kind x.hV x.hn (by intro e; cases e))]; exact x.hV
    hE := by show (upd H n.n _) n.LE = _; rw [upd_ne (ne_kind x.hE x.hn (by intro e; cases e))]; exact x.hE
    hq := fun c hc => by show (upd H n.n _) c.qa = _; rw [upd_ne (ne_kind (x.hq c hc) x.hn (by intro e; cases e))]; exact x.hq c hc
    hp := fun c hc y hy => by show (upd H n.n _) y.1 = _; rw [upd_ne (ne_kind (x.hp c hc y hy) x.hn (by intro e; cases e))]; exact x.hp c hc y hy }
def psW (ps : Str → List (Addr × Pc)) (c : Str) (q : List (Addr × Pc)) : Str → List (Addr × Pc) := fun d => if d = c then q else ps d
theorem psW_same {ps : Str → List (Addr × Pc)} {c : Str} {q : List (Addr × Pc)} : psW ps c q c = q := if_pos rfl
theorem psW_ne {ps : Str → List (Addr × Pc)} {c d : Str} {q : List (Addr × Pc)} (h : d ≠ c) : psW ps c q d = ps d := if_neg h
/-- a queue's pieces: some of those that were there, or new ones -/
theorem NA.upQ (x : NA CN J H n m) {c : NL} (hc : c ∈ n.ls) (q : List (Addr × Pc)) (k : Nat) (zk : q.length ≤ k) (hk : m.k ≤ k) (nd : (q.map (·.1)).Nodup) (hh : ∀ y ∈ q, H y.1 = some (.dK (pcK y.2))) (hj : ∀ y ∈ q, J y.1 = none)
    (hd : ∀ c' ∈ n.ls, c'.l.nm ≠ c.l.nm → ∀ y ∈ q, ∀ z ∈ m.ps c'.l.nm, y.1 ≠ z.1) : NA CN J (upd H c.qa (.lst (qV q))) n { m with ps := psW m.ps c.l.nm q, k := k } := by
  have hcq := x.hq c hc
  have low : ∀ c' ∈ n.ls, ∀ y ∈ psW m.ps c.l.nm q c'.l.nm, H y.1 = some (.dK (pcK y.2)) ∧ J y.1 = none := fun c' hc' y hy => by
    by_cases e : c'.l.nm = c.l.nm
    · rw [e, psW_same] at hy; exact ⟨hh y hy, hj y hy⟩
    · rw [psW_ne e] at hy; exact ⟨x.hp c' hc' y hy, x.np c' hc' y hy⟩
  exact { x with
    sj := x.sj.mut (x.nq c hc)
    hn := by show (upd H c.qa _) n.n = _; rw [upd_ne (ne_kind x.hn hcq (by intro e; cases e))]; exact x.hn
    hV := by show (upd H c.qa _) n.DV = _; rw [upd_ne (ne_kind x.hV hcq (by intro e; cases e))]; exact x.hV
    hE := by show (upd H c.qa _) n.LE = _; rw [upd_ne (Ne.symm (x.qne hc))]; exact x.hE
    hq := fun c' hc' => by
      show (upd H c.qa _) c'.qa = some (.lst (qV (psW m.ps c.l.nm q c'.l.nm)))
      by_cases e : c'.l.nm = c.l.nm
      · rw [x.nmi hc' hc e, upd_same, psW_same]
      · rw [upd_ne (fun z => e (by rw [x.qinj hc' hc z])), psW_ne e]; exact x.hq c' hc'
    hp := fun c' hc' y hy => by
      have l := (low c' hc' y hy).1
      show (upd H c.qa _) y.1 = _
      rw [upd_ne (ne_kind l hcq (by intro e; cases e))]
      exact l
    np := fun c' hc' y hy => (low c' hc' y hy).2
    dp := fun c' hc' => by
      show ((psW m.ps c.l.nm q c'.l.nm).map (·.1)).Nodup
      by_cases e : c'.l.nm = c.l.nm
      · rw [e, psW_same]; exact nd
      · rw [psW_ne e]; exact x.dp c' hc'
    dpp := fun c1 h1 c2 h2 ne y hy z hz => by
      have hy : y ∈ psW m.ps c.l.nm q c1.l.nm := hy
      have hz : z ∈ psW m.ps c.l.nm q c2.l.nm := hz
      by_cases e1 : c1.l.nm = c.l.nm
      · have e2 : c2.l.nm ≠ c.l.nm := fun e => ne (by rw [e1, e])
        rw [e1, psW_same] at hy
        rw [psW_ne e2] at hz
        exact hd c2 h2 e2 y hy z hz
      · rw [psW_ne e1] at hy
        by_cases e2 : c2.l.nm = c.l.nm
        · rw [e2, psW_same] at hz
          exact Ne.symm (hd c1 h1 e1 z hz y hy)
        · rw [psW_ne e2] at hz
          exact x.dpp c1 h1 c2 h2 ne y hy z hz
    zE := Nat.le_trans x.zE hk
    zq := fun c' hc' => by
      show (psW m.ps c.l.nm q c'.l.nm).length ≤ k
      by_cases e : c'.l.nm = c.l.nm
      · rw [e, psW_same]; exact zk
      · rw [psW_ne e]; exact Nat.le_trans (x.zq c' hc') hk }
/-- a new piece at the end -/
theorem NA.push (x : NA CN J H n m) {c : NL} (hc : c ∈ n.ls) {p : Pc} (hT : H T = some (.dK (pcK p))) (jT : J T = none) (f : ∀ c' ∈ n.ls, ∀ y ∈ m.ps c'.l.nm, T ≠ y.1) :
    NA CN J (upd H c.qa (.lst (qV (m.ps c.l.nm) ++ [.ref T]))) n { m with ps := psW m.ps c.l.nm (m.ps c.l.nm ++ [(T, p)]), k := m.k + 1 } := by
  have e : qV (m.ps c.l.nm) ++ [V.ref T] = qV (m.ps c.l.nm ++ [(T, p)]) := by unfold qV; rw [List.map_append]; rfl
  rw [e]
  refine x.upQ hc _ _ (by rw [List.length_append]; exact Nat.add_le_add_right (x.zq c hc) 1) (Nat.le_succ _) ?_ (fun y hy => ?_) (fun y hy => ?_) fun c' hc' ne y hy z hz => ?_
  · rw [List.map_append]
    exact List.nodup_append.mpr ⟨x.dp c hc, List.pairwise_singleton _ _, fun a ha b hb q => by
      obtain ⟨y, hy, rfl⟩ := List.mem_map.mp ha
      rw [List.mem_singleton.mp hb] at q
      exact f c hc y hy q.symm⟩
  · rcases List.mem_append.mp hy with hy | hy
    · exact x.hp c hc y hy
    · rw [List.mem_singleton.mp hy]; exact hT
  · rcases List.mem_append.mp hy with hy | hy
    · exact x.np c hc y hy
    · rw [List.mem_singleton.mp hy]; exact jT
  · rcases List.mem_append.mp hy with hy | hy
    · exact x.dpp c hc c' hc' (Ne.symm ne) y hy z hz
    · rw [List.mem_singleton.mp hy]; exact f c' hc' z hz
/-- a piece taken out -/
theorem NA.pop (x : NA CN J H n m) {c : NL} (hc : c ∈ n.ls) (i : Nat) :
    NA CN J (upd H c.qa (.lst ((qV (m.ps c.l.nm)).eraseIdx i))) n { m with ps := psW m.ps c.l.nm ((m.ps c.l.nm).eraseIdx i) } := by
  have e : (qV (m.ps c.l.nm)).eraseIdx i = qV ((m.ps c.l.nm).eraseIdx i) := by
    unfold qV
    generalize m.ps c.l.nm = l
    induction l generalizing i with
    | nil => rfl
    | cons y l ih =>
      cases i with
      | zero => rfl
      | succ i => show _ :: ((l.map _).eraseIdx i) = _ :: _; rw [ih i]
  rw [e]
  have sub : (m.ps c.l.nm).eraseIdx i ⊆ m.ps c.l.nm := (List.eraseIdx_sublist _ _).subset
  exact x.upQ hc _ m.k (Nat.le_trans (List.eraseIdx_sublist _ _).length_le (x.zq c hc)) (Nat.le_refl _) ((x.dp c hc).sublist ((List.eraseIdx_sublist _ _).map _)) (fun y hy => x.hp c hc y (sub hy)) (fun y hy => x.np c hc y (sub hy)) fun c' hc' ne y hy z hz => x.dpp c hc c' hc' (Ne.symm ne) y (sub hy) z hz
/-- a piece changes -/
theorem NA.upP (x : NA CN J H n m) {c : NL} (hc : c ∈ n.ls) {i : Nat} {z : Addr × Pc} (hi : (m.ps c.l.nm)[i]? = some z) (p : Pc) :
    NA CN J (upd H z.1 (.dK (pcK p))) n { m with ps := psW m.ps c.l.nm ((m.ps c.l.nm).set i (z.1, p)) } := by
  have hz := List.mem_of_getElem? hi
  have hcz := x.hp c hc z hz
  have jz := x.np c hc z hz
  have ea : ((m.ps c.l.nm).set i (z.1, p)).map (·.1) = (m.ps c.l.nm).map (·.1) := map_set_same (fun w : Addr × Pc => w.1) hi rfl
  have mem : ∀ y ∈ (m.ps c.l.nm).set i (z.1, p), ∃ w ∈ m.ps c.l.nm, w.1 = y.1 := fun y hy => by
    have : y.1 ∈ ((m.ps c.l.nm).set i (z.1, p)).map (·.1) := List.mem_map.mpr ⟨y, hy, rfl⟩
    rw [ea] at this
    obtain ⟨w, hw, e⟩ := List.mem_map.mp this
    exact ⟨w, hw, e⟩
  have other : ∀ c' ∈ n.ls, c'.l.nm ≠ c.l.nm → ∀ y ∈ m.ps c'.l.nm, y.1 ≠ z.1 := fun c' hc' ne y hy => x.dpp c' hc' c hc ne y hy z hz
  have low : ∀ c' ∈ n.ls, ∀ y ∈ psW m.ps c.l.nm ((m.ps c.l.nm).set i (z.1, p)) c'.l.nm, (upd H z.1 (.dK (pcK p))) y.1 = some (.dK (pcK y.2)) ∧ J y.1 = none := fun c' hc' y hy => by
    by_cases e : c'.l.nm = c.l.nm
    · rw [e, psW_same] at hy
      obtain ⟨j, hj, ey⟩ := List.getElem_of_mem hy
      rw [List.length_set] at hj
      by_cases q : j = i
      · subst q
        rw [List.getElem_set_self] at ey
        rw [← ey]
        exact ⟨upd_same, jz⟩
      · rw [List.getElem_set_ne (Ne.symm q)] at ey
        have hy2 : y ∈ m.ps c.l.nm := by rw [← ey]; exact List.getElem_mem hj
        refine ⟨?_, x.np c hc y hy2⟩
        rw [upd_ne fun e2 => q ?_]
        · exact x.hp c hc y hy2
        · have hi' := (List.getElem?_eq_some_iff.mp hi).1
          have hz' := (List.getElem?_eq_some_iff.mp hi).2
          have h1 : j < ((m.ps c.l.nm).map (·.1)).length := by rw [List.length_map]; exact hj
          have h2 : i < ((m.ps c.l.nm).map (·.1)).length := by rw [List.length_map]; exact hi'
          refine (List.getElem_inj (h₀ := h1) (h₁ := h2) (x.dp c hc)).mp ?_
          rw [List.getElem_map, List.getElem_map, ey, hz']
          exact e2
    · rw [psW_ne e] at hy
      exact ⟨by rw [upd_ne (other c' hc' e y hy)]; exact x.hp c' hc' y hy, x.np c' hc' y hy⟩
  exact { x with
    sj := x.sj.mut jz
    hn := by show (upd H z.1 _) n.n = _; rw [upd_ne (ne_kind x.hn hcz (by intro e; cases e))]; exact x.hn
    hV := by show (upd H z.1 _) n.DV = _; rw [upd_ne (ne_kind x.hV hcz (by intro e; cases e))]; exact x.hV
    hE := by show (upd H z.1 _) n.LE = _; rw [upd_ne (ne_kind x.hE hcz (by intro e; cases e))]; exact x.hE
    hq := fun c' hc' => by
      show (upd H z.1 _) c'.qa = some (.lst (qV (psW m.ps c.l.nm _ c'.l.nm)))
      rw [upd_ne (ne_kind (x.hq c' hc') hcz (by intro e; cases e))]
      by_cases e : c'.l.nm = c.l.nm
      · rw [x.nmi hc' hc e, psW_same]
        have : qV ((m.ps c.l.nm).set i (z.1, p)) = qV (m.ps c.l.nm) := map_set_same (fun w : Addr × Pc => V.ref w.1) hi rfl
        rw [this]
        exact x.hq c hc
      · rw [psW_ne e]; exact x.hq c' hc'
    hp := fun c' hc' y hy => (low c' hc' y hy).1
    np := fun c' hc' y hy => (low c' hc' y hy).2
    dp := fun c' hc' => by
      show ((psW m.ps c.l.nm _ c'.l.nm).map (·.1)).Nodup
      by_cases e : c'.l.nm = c.l.nm
      · rw [e, psW_same, ea]; exact x.dp c hc
      · rw [psW_ne e]; exact x.dp c' hc'
    dpp := fun c1 h1 c2 h2 ne y hy w hw => by
      have hy : y ∈ psW m.ps c.l.nm _ c1.l.nm := hy
      have hw : w ∈ psW m.ps c.l.nm _ c2.l.nm := hw
      by_cases e1 : c1.l.nm = c.l.nm
      · have e2 : c2.l.nm ≠ c.l.nm := fun e => ne (by rw [e1, e])
        rw [e1, psW_same] at hy
        rw [psW_ne e2] at hw
        obtain ⟨y', hy', ey⟩ := mem y hy
        rw [← ey]
        exact x.dpp c hc c2 h2 (Ne.symm e2) y' hy' w hw
      · rw [psW_ne e1] at hy
        by_cases e2 : c2.l.nm = c.l.nm
        · rw [e2, psW_same] at hw
          obtain ⟨w', hw', ew⟩ := mem w hw
          rw [← ew]
          exact x.dpp c1 h1 c hc e1 y hy w' hw'
        · rw [psW_ne e2] at hw
          exact x.dpp c1 h1 c2 h2 ne y hy w hw
    zq := fun c' hc' => by
      show (psW m.ps c.l.nm _ c'.l.nm).length ≤ m.k
      by_cases e : c'.l.nm = c.l.nm
      · rw [e, psW_same, List.length_set]; exact x.zq c hc
      · rw [psW_ne e]; exact x.zq c' hc' }
/-! ### its addresses; what stands besides -/
def NM.ads (n : Net) (m : NM) : List Addr := n.n :: n.DV :: n.LE :: (n.ls.map (·.qa) ++ n.ls.flatMap fun c => (m.ps c.l.nm).map (·.1))
theorem NA.none_ads (x : NA CN J H n m) (h : a ∈ m.ads n) : J a = none := by
  unfold NM.ads at h
  rcases List.mem_cons.mp h with e | h
  · rw [e]; exact x.nn
  rcases List.mem_cons.mp h with e | h
  · rw [e]; exact x.nV
  rcases List.mem_cons.mp h with e | h
  · rw [e]; exact x.nE
  rcases List.mem_append.mp h with h | h
  · obtain ⟨c, hc, e⟩ := List.mem_map.mp h
    rw [← e]; exact x.nq c hc
  · obtain ⟨c, hc, h⟩ := List.mem_flatMap.mp h
    obtain ⟨y, hy, e⟩ := List.mem_map.mp h
    rw [← e]; exact x.np c hc y hy
theorem NA.some_ads (x : NA CN J H n m) (h : a ∈ m.ads n) : ∃ u, H a = some u := by
  unfold NM.ads at h
  rcases List.mem_cons.mp h with e | h
  · rw [e]; exact ⟨_, x.hn⟩
  rcases List.mem_cons.mp h with e | h
  · rw [e]; exact ⟨_, x.hV⟩
  rcases List.mem_cons.mp h with e | h
  · rw [e]; exact ⟨_, x.hE⟩
  rcases List.mem_append.mp h with h | h
  · obtain ⟨c, hc, e⟩ := List.mem_map.mp h
    rw [← e]; exact ⟨_, x.hq c hc⟩
  · obtain ⟨c, hc, h⟩ := List.mem_flatMap.mp h
    obtain ⟨y, hy, e⟩ := List.mem_map.mp h
    rw [← e]; exact ⟨_, x.hp c hc y hy⟩
theorem ads_n {n : Net} {m : NM} : n.n ∈ m.ads n := List.mem_cons_self
theorem ads_V {n : Net} {m : NM} : n.DV ∈ m.ads n := List.mem_cons_of_mem _ List.mem_cons_self
theorem ads_E {n : Net} {m : NM} : n.LE ∈ m.ads n := List.mem_cons_of_mem _ (List.mem_cons_of_mem _ List.mem_cons_self)
theorem ads_q {n : Net} {m : NM} {c : NL} (hc : c ∈ n.ls) : c.qa ∈ m.ads n := List.mem_cons_of_mem _ (List.mem_cons_of_mem _ (List.mem_cons_of_mem _ (List.mem_append_left _ (List.mem_map.mpr ⟨c, hc, rfl⟩))))
theorem ads_p {n : Net} {m : NM} {c : NL} (hc : c ∈ n.ls) {y : Addr × Pc} (hy : y ∈ m.ps c.l.nm) : y.1 ∈ m.ads n := List.mem_cons_of_mem _ (List.mem_cons_of_mem _ (List.mem_cons_of_mem _ (List.mem_append_right _ (List.mem_flatMap.mpr ⟨c, hc, List.mem_map.mpr ⟨y, hy, rfl⟩⟩))))
/-- other statics -/
theorem NA.base (x : NA CN J H n m) (s : Same J J') (sj : Same J' H) (h : ∀ a ∈ m.ads n, J' a = none) : NA CN J' H n m :=
  { x with
    sj := sj
    jP := s _ _ x.jP
    jS := s _ _ x.jS
    jC := s _ _ x.jC
    jQ := s _ _ x.jQ
    jt := fun c hc => s _ _ (x.jt c hc)
    jl := fun c hc => s _ _ (x.jl c hc)
    je := x.je.mono fun v e => stEn _ _ _ _ s
    nn := h _ ads_n
    nV := h _ ads_V
    nE := h _ ads_E
    nq := fun c hc => h _ (ads_q hc)
    np := fun c hc y hy => h _ (ads_p hc hy) }
theorem NA.restS (x : NA CN J H n m) : Same J (cut H (m.ads n)) := fun b v e => by
  rw [cut_out fun h => by rw [x.none_ads h] at e; cases e]
  exact x.sj _ _ e
theorem NA.rest (x : NA CN J H n m) : NA CN (cut H (m.ads n)) H n m := x.base x.restS cut_all fun a h => cut_in h
theorem NA.out (x : NA CN J H n m) (h : H a = none) : a ∉ m.ads n := fun q => by
  obtain ⟨u, e⟩ := x.some_ads q
  rw [h] at e
  cases e
/-- new things stay -/
theorem NA.grow (x : NA CN J H n m) (s : Same H H') : ∃ J1, Same J J1 ∧ (∀ b u, H b = none → H' b = some u → J1 b = some u) ∧ NA CN J1 H' n m :=
  ⟨cut H' (m.ads n), (x.same s).restS, fun b u h e => by rw [cut_out (x.out h)]; exact e, (x.same s).rest⟩
/-! ### the table of channels is locked -/
theorem EnA.del {v : V} {e : Ent} {C : Addr} {w : HO} (h : EnA J v e) (hC : J C = some w) (h1 : ∀ l, w ≠ .lst l) (h2 : ∀ l, w ≠ .tup l) : EnA (delH J C) v e := by
  have tu : ∀ t l, J t = some (.tup l) → delH J C t = some (.tup l) := fun t l q => by rw [delH_ne (ne_kind q hC (Ne.symm (h2 l)))]; exact q
  have ls : ∀ t l, J t = some (.lst l) → delH J C t = some (.lst l) := fun t l q => by rw [delH_ne (ne_kind q hC (Ne.symm (h1 l)))]; exact q
  have pr : ∀ r l, LsA PrA J r l → LsA PrA (delH J C) r l := fun r l ⟨vs, q, p⟩ => ⟨vs, ls _ _ q, p.mono fun v x ⟨t, e, ht⟩ => ⟨t, e, tu _ _ ht⟩⟩
  obtain ⟨t, r, w', e, ht, hr, hw⟩ := h
  exact ⟨t, r, w', e, tu _ _ ht, pr _ _ hr, pr _ _ hw⟩
theorem del_upd {H : Hp} {D : Addr} {o : HO} : Same (delH H D) (upd H D o) := fun b u e => by
  by_cases q : b = D
  · rw [q, delH_same] at e; cases e
  · rw [delH_ne q] at e
    rw [upd_ne q]
    exact e
theorem NA.relock (x : NA CN J H n m) (od : Option Obj) : NA CN (upd J n.DC (lckO od (.dK n.kvC))) (upd H n.DC (lckO od (.dK n.kvC))) { n with od := od } m := by
  have k1 : ∀ (o : Option Obj) (kv : List (Key × V)) l, lckO o (.dK kv) ≠ .lst l := fun o kv l e => by cases o <;> cases e
  have k2 : ∀ (o : Option Obj) (kv : List (Key × V)) l, lckO o (.dK kv) ≠ .tup l := fun o kv l e => by cases o <;> cases e
  have ne : ∀ {b : Addr}, J b = none → b ≠ n.DC := fun h e => by rw [e, x.jC] at h; cases h
  have jn : ∀ {b : Addr}, J b = none → (upd J n.DC (lckO od (.dK n.kvC))) b = none := fun h => by rw [upd_ne (ne h)]; exact h
  have hh : ∀ {b : Addr} {u : HO}, J b = none → H b = some u → (upd H n.DC (lckO od (.dK n.kvC))) b = some u := fun h e => by rw [upd_ne (ne h)]; exact e
  have jl : ∀ {b : Addr} {l}, J b = some (.lst l) → (upd J n.DC (lckO od (.dK n.kvC))) b = some (.lst l) := fun h => by rw [upd_ne (ne_kind h x.jC (Ne.symm (k1 _ _ _)))]; exact h
  have jt : ∀ {b : Addr} {l}, J b = some (.tup l) → (upd J n.DC (lckO od (.dK n.kvC))) b = some (.tup l) := fun h => by rw [upd_ne (ne_kind h x.jC (Ne.symm (k2 _ _ _)))]; exact h
  exact { x with
    sj := M.Same.upd2 x.sj
    jP := jl x.jP
    jS := by show (upd J n.DC _) n.DSt = _; rw [upd_ne x.dS]; exact x.jS
    jC := upd_same
    jQ := by show (upd J n.DC _) n.DQ = _; rw [upd_ne x.dQ]; exact x.jQ
    jt := fun c hc => jt (x.jt c hc)
    jl := fun c hc => jl (x.jl c hc)
    je := x.je.mono fun v e h => stEn _ _ _ _ del_upd (EnA.del h x.jC (k1 _ _) (k2 _ _))
    hn := hh x.nn x.hn
    nn := jn x.nn
    hV := hh x.nV x.hV
    nV := jn x.nV
    hE := hh x.nE x.hE
    nE := jn x.nE
    hq := fun c hc => hh (x.nq c hc) (x.hq c hc)
    nq := fun c hc => jn (x.nq c hc)
    hp := fun c hc y hy => hh (x.np c hc y hy) (x.hp c hc y hy)
    np := fun c hc y hy => jn (x.np c hc y hy) }
theorem NA.unlock {od od' : Option Obj} (x : NA CN J H { n with od := od } m) : NA CN (upd J n.DC (lckO od' (.dK n.kvC))) (upd H n.DC (lckO od' (.dK n.kvC))) { n with od := od' } m := x.relock od'
/-! ### what it means -/
structure NOk (n : Net) (m : NM) (z : NS) : Prop where
  v : ∀ i t, valV m.kvv (k2 i t) = (z.ver i t).map V.int
  q : ∀ c ∈ n.ls, (m.ps c.l.nm).map (·.2) = z.q c.l.nm
  e : m.es = z.es
end
end M

namespace M
open PySem PySem.Spec PyProof.Rows L2
/-! ### the new versions of one step -/
/-- a site, where its dict stands, what is in it -/
abbrev Nw := Str × Addr × Pc
def nwK (ws : List Nw) : List (Key × V) := ws.map fun w => (Sum.inr w.1, .ref w.2.1)
structure NwS (ls : List Ln) (s : Str) (f : Pc) (ws : List Nw) : Prop where
  hd : ∃ w ∈ ws, w.1 = s ∧ ∀ x ∈ f, x ∈ w.2.2
  sd : ∀ w ∈ ws, ∀ x ∈ w.2.2, Rch ls x.1 s w.1 ∧ x ∈ f
  ne : ∀ w ∈ ws, w.1 = s ∨ ∃ l ∈ ls, l.tgt = w.1
  nt : (ws.map (·.1)).Nodup
  ni : ∀ w ∈ ws, (w.2.2.map (·.1)).Nodup
  nf : (f.map (·.1)).Nodup
structure NwA (H0 H : Hp) (D : Addr) (ws : List Nw) : Prop where
  sm : Same H0 H
  hD : H D = some (.dK (nwK ws))
  ha : ∀ w ∈ ws, H w.2.1 = some (.dK (pcK w.2.2))
  dn : (D :: ws.map (·.2.1)).Nodup
  fD : H0 D = none
  fa : ∀ w ∈ ws, H0 w.2.1 = none
def hasN (ws : List Nw) (t i : Str) : Bool := ws.any fun w => decide (w.1 = t) && hasIt w.2.2 i
theorem hasN_iff {ws : List Nw} {t i : Str} : hasN ws t i = true ↔ ∃ w ∈ ws, w.1 = t ∧ i ∈ w.2.2.map (·.1) := by
  unfold hasN hasIt
  rw [List.any_eq_true]
  constructor
  · rintro ⟨w, hw, e⟩
    rw [Bool.and_eq_true] at e
    exact ⟨w, hw, of_decide_eq_true e.1, of_decide_eq_true e.2⟩
  · rintro ⟨w, hw, e1, e2⟩
    exact ⟨w, hw, by rw [decide_eq_true e1, decide_eq_true e2]; rfl⟩
def todo (ls : List Ln) (ws : List Nw) : Nat := (ls.map fun l => (l.it.filter fun i => !hasN ws l.tgt i).length).sum
/-- what is there stays there -/
def UpN (ws vs : List Nw) : Prop := ∀ t i, hasN ws t i = true → hasN vs t i = true
theorem UpN.refl (ws : List Nw) : UpN ws ws := fun _ _ h => h
theorem UpN.trans {ws vs us : List Nw} (h : UpN ws vs) (k : UpN vs us) : UpN ws us := fun t i e => k t i (h t i e)
theorem filter_le {α : Type} {p q : α → Bool} : ∀ {l : List α}, (∀ x ∈ l, p x = true → q x = true) → (l.filter p).length ≤ (l.filter q).length
  | [], _ => Nat.le_refl _
  | x :: l, h => by
    have ih := filter_le (l := l) fun y hy => h y (List.mem_cons_of_mem _ hy)
    rw [List.filter_cons, List.filter_cons]
    cases e : p x with
    | false =>
      rw [if_neg (by simp)]
      split
      · exact Nat.le_succ_of_le ih
      · exact ih
    | true =>
      rw [if_pos rfl, if_pos (h x List.mem_cons_self e)]
      exact Nat.succ_le_succ ih
theorem filter_lt {α : Type} {p q : α → Bool} {x : α} : ∀ {l : List α}, (∀ x ∈ l, p x = true → q x = true) → x ∈ l → p x = false → q x = true → (l.filter p).length < (l.filter q).length
  | [], _, h, _, _ => by cases h
  | y :: l, h, hx, h1, h2 => by
    have hl : ∀ y ∈ l, p y = true → q y = true := fun y hy => h y (List.mem_cons_of_mem _ hy)
    rw [List.filter_cons, List.filter_cons]
    rcases List.mem_cons.mp hx with e | hx
    · subst e
      rw [if_neg (by rw [h1]; simp), if_pos h2]
      exact Nat.lt_succ_of_le (filter_le hl)
    · have ih := filter_lt hl hx h1 h2
      cases e : p y with
      | false =>
        rw [if_neg (by simp)]
        split
        · exact Nat.lt_succ_of_lt ih
        · exact ih
      | true =>
        rw [if_pos rfl, if_pos (h y List.mem_cons_self e)]
        exact Nat.succ_lt_succ ih
theorem todo_le {ws vs : List Nw} (u : UpN ws vs) : ∀ ls : List Ln, todo ls vs ≤ todo ls ws
  | [] => Nat.le_refl _
  | l :: ls => by
    have ih := todo_le u ls
    have h : (l.it.filter fun i => !hasN vs l.tgt i).length ≤ (l.it.filter fun i => !hasN ws l.tgt i).length := filter_le fun i _ e => by
      cases q : hasN ws l.tgt i with
      | false => rfl
      | true => rw [u _ _ q] at e; cases e
    show _ + _ ≤ _ + _
    exact Nat.add_le_add h ih
theorem todo_lt {ws vs : List Nw} (u : UpN ws vs) {l : Ln} {i : Str} (hi : i ∈ l.it) (h1 : hasN ws l.tgt i = false) (h2 : hasN vs l.tgt i = true) : ∀ {ls : List Ln}, l ∈ ls → todo ls vs < todo ls ws
  | [], h => by cases h
  | k :: ls, h => by
    show _ + _ < _ + _
    rcases List.mem_cons.mp h with e | h
    · subst e
      refine Nat.add_lt_add_of_lt_of_le (filter_lt (x := i) (fun j _ e => ?_) hi (by rw [h2]; rfl) (by rw [h1]; rfl)) (todo_le u ls)
      cases q : hasN ws l.tgt j with
      | false => rfl
      | true => rw [u _ _ q] at e; cases e
    · refine Nat.add_lt_add_of_le_of_lt (filter_le fun j _ e => ?_) (todo_lt u hi h1 h2 h)
      cases q : hasN ws k.tgt j with
      | false => rfl
      | true => rw [u _ _ q] at e; cases e
/-- nothing more is passed on -/
def Cls1 (ws : List Nw) (l : Ln) : Prop := l.kd = none → ∀ i ∈ l.it, hasN ws l.src i = true → hasN ws l.tgt i = true
theorem NwS.full {ls : List Ln} {s : Str} {f : Pc} {ws : List Nw} (x : NwS ls s f ws) (c : ∀ l ∈ ls, Cls1 ws l) {t i : Str} {v : Int} : newV ls s f t i = some v ↔ ∃ w ∈ ws, w.1 = t ∧ (i, v) ∈ w.2.2 := by
  constructor
  · intro h
    obtain ⟨r, e⟩ := newV_some.mp h
    have hf := vat_mem e
    have k : hasN ws t i = true := by
      clear h
      induction r with
      | here =>
        obtain ⟨w, hw, e1, e2⟩ := x.hd
        exact hasN_iff.mpr ⟨w, hw, e1, List.mem_map.mpr ⟨_, e2 _ hf, rfl⟩⟩
      | hop m k i _ ih => exact c _ m k _ i ih
    obtain ⟨w, hw, e1, e2⟩ := hasN_iff.mp k
    obtain ⟨y, hy, e3⟩ := List.mem_map.mp e2
    obtain ⟨_, hy2⟩ := x.sd w hw y hy
    have : y.2 = v := by
      have h1 := vat_of x.nf (show (y.1, y.2) ∈ f from hy2)
      rw [e3, e] at h1
      exact (Option.some.inj h1).symm
    exact ⟨w, hw, e1, by rw [← e3, ← this]; exact hy⟩
  · rintro ⟨w, hw, e1, hi⟩
    obtain ⟨r, hf⟩ := x.sd w hw _ hi
    rw [e1] at r
    exact newV_some.mpr ⟨r, vat_of x.nf hf⟩
theorem NwS.start {ls : List Ln} {s : Str} {f : Pc} {a : Addr} (nf : (f.map (·.1)).Nodup) : NwS ls s f [(s, a, f)] where
  hd := ⟨_, List.mem_singleton.mpr rfl, rfl, fun x h => h⟩
  sd := fun w hw x hx => by rw [List.mem_singleton.mp hw] at hx ⊢; exact ⟨.here, hx⟩
  ne := fun w hw => by rw [List.mem_singleton.mp hw]; exact .inl rfl
  nt := List.pairwise_singleton _ _
  ni := fun w hw => by rw [List.mem_singleton.mp hw]; exact nf
  nf := nf
/-- an item more at a site -/
def putN (ws : List Nw) (t : Str) (T : Addr) (x : Itv) : List Nw := if t ∈ ws.map (·.1) then ws.map fun w => if w.1 = t then (w.1, w.2.1, w.2.2 ++ [x]) else w else ws ++ [(t, T, [x])]
theorem putN_mem {ws : List Nw} {t : Str} {T : Addr} {x : Itv} {w : Nw} (h : w ∈ putN ws t T x) : w ∈ ws ∧ w.1 ≠ t ∨ w.1 = t ∧ (∃ u ∈ ws, u.1 = t ∧ w = (u.1, u.2.1, u.2.2 ++ [x])) ∨ t ∉ ws.map (·.1) ∧ (w = (t, T, [x]) ∨ w ∈ ws) := by
  unfold putN at h
  split at h
  · obtain ⟨u, hu, e⟩ := List.mem_map.mp h
    split at e
    · rename_i q
      exact .inr (.inl ⟨by rw [← e]; exact q, u, hu, q, e.symm⟩)
    · rename_i q
      rw [← e]
      exact .inl ⟨hu, q⟩
  · rename_i q
    rcases List.mem_append.mp h with h | h
    · exact .inr (.inr ⟨q, .inr h⟩)
    · exact .inr (.inr ⟨q, .inl (List.mem_singleton.mp h)⟩)
theorem putN_up {ws : List Nw} {t : Str} {T : Addr} {x : Itv} : UpN ws (putN ws t T x) := fun u i h => by
  obtain ⟨w, hw, e1, e2⟩ := hasN_iff.mp h
  unfold putN
  split
  · by_cases q : w.1 = t
    · exact hasN_iff.mpr ⟨_, List.mem_map.mpr ⟨w, hw, rfl⟩, by rw [if_pos q]; exact e1, by rw [if_pos q]; show i ∈ (w.2.2 ++ [x]).map (·.1); rw [List.map_append]; exact List.mem_append_left _ e2⟩
    · exact hasN_iff.mpr ⟨_, List.mem_map.mpr ⟨w, hw, rfl⟩, by rw [if_neg q]; exact e1, by rw [if_neg q]; exact e2⟩
  · exact hasN_iff.mpr ⟨w, List.mem_append_left _ hw, e1, e2⟩
theorem putN_has {ws : List Nw} {t : Str} {T : Addr} {x : Itv} : hasN (putN ws t T x) t x.1 = true := by
  unfold putN
  split
  · rename_i q
    obtain ⟨w, hw, e⟩ := List.mem_map.mp q
    exact hasN_iff.mpr ⟨_, List.mem_map.mpr ⟨w, hw, rfl⟩, by rw [if_pos e]; exact e, by rw [if_pos e]; show x.1 ∈ (w.2.2 ++ [x]).map (·.1); rw [List.map_append]; exact List.mem_append_right _ (List.mem_singleton.mpr rfl)⟩
  · exact hasN_iff.mpr ⟨_, List.mem_append_right _ (List.mem_singleton.mpr rfl), rfl, List.mem_singleton.mpr rfl⟩
theorem NwS.put {ls : List Ln} {s : Str} {f : Pc} {ws : List Nw} {T : Addr} {l : Ln} {x : Itv} (w_ : NwS ls s f ws) (hl : l ∈ ls) (k : l.kd = none) (hi : x.1 ∈ l.it) (hs : ∃ w ∈ ws, w.1 = l.src ∧ x ∈ w.2.2) (ht : hasN ws l.tgt x.1 = false) : NwS ls s f (putN ws l.tgt T x) := by
  have rx : Rch ls x.1 s l.tgt ∧ x ∈ f := by
    obtain ⟨w, hw, e, hx⟩ := hs
    obtain ⟨r, h⟩ := w_.sd w hw x hx
    rw [e] at r
    exact ⟨.hop hl k hi r, h⟩
  refine ⟨?_, fun w hw y hy => ?_, fun w hw => ?_, ?_, fun w hw => ?_, w_.nf⟩
  · obtain ⟨w, hw, e1, e2⟩ := w_.hd
    unfold putN
    split
    · refine ⟨_, List.mem_map.mpr ⟨w, hw, rfl⟩, ?_, fun y hy => ?_⟩
      · split
        · exact e1
        · exact e1
      · split
        · exact List.mem_append_left _ (e2 y hy)
        · exact e2 y hy
    · exact ⟨w, List.mem_append_left _ hw, e1, e2⟩
  · rcases putN_mem hw with ⟨h, _⟩ | ⟨_, u, hu, e1, e2⟩ | ⟨_, e | h⟩
    · exact w_.sd w h y hy
    · rw [e2] at hy ⊢
      rcases List.mem_append.mp hy with hy | hy
      · exact w_.sd u hu y hy
      · rw [List.mem_singleton.mp hy]
        show Rch ls x.1 s u.1 ∧ _
        rw [e1]
        exact rx
    · rw [e] at hy ⊢
      rw [List.mem_singleton.mp hy]
      exact rx
    · exact w_.sd w h y hy
  · rcases putN_mem hw with ⟨h, _⟩ | ⟨_, u, hu, e1, e2⟩ | ⟨_, e | h⟩
    · exact w_.ne w h
    · rw [e2]
      exact .inr ⟨l, hl, e1.symm⟩
    · rw [e]
      exact .inr ⟨l, hl, rfl⟩
    · exact w_.ne w h
  · unfold putN
    split
    · rw [List.map_map]
      have : (ws.map ((fun w : Nw => w.1) ∘ fun w => if w.1 = l.tgt then (w.1, w.2.1, w.2.2 ++ [x]) else w)) = ws.map (·.1) := List.map_congr_left fun w _ => by
        show (if w.1 = l.tgt then _ else w : Nw).1 = w.1
        split <;> rfl
      rw [this]
      exact w_.nt
    · rename_i q
      rw [List.map_append]
      exact List.nodup_append.mpr ⟨w_.nt, List.pairwise_singleton _ _, fun a ha b hb e => q (by have e2 : b = l.tgt := List.mem_singleton.mp hb; rw [← e2, ← e]; exact ha)⟩
  · rcases putN_mem hw with ⟨h, _⟩ | ⟨_, u, hu, e1, e2⟩ | ⟨_, e | h⟩
    · exact w_.ni w h
    · rw [e2]
      show ((u.2.2 ++ [x]).map (·.1)).Nodup
      rw [List.map_append]
      refine List.nodup_append.mpr ⟨w_.ni u hu, List.pairwise_singleton _ _, fun a ha b hb e => ?_⟩
      have : hasN ws l.tgt x.1 = true := hasN_iff.mpr ⟨u, hu, e1, by have e3 : b = x.1 := List.mem_singleton.mp hb; rw [← e3, ← e]; exact ha⟩
      rw [ht] at this
      cases this
    · rw [e]; exact List.pairwise_singleton _ _
    · exact w_.ni w h
section
variable {H0 H H' : Hp} {D T : Addr} {ws : List Nw} {o : HO} {C : Addr}
theorem NwA.same (x : NwA H0 H D ws) (s : Same H H') : NwA H0 H' D ws := ⟨x.sm.trans s, s _ _ x.hD, fun w hw => s _ _ (x.ha w hw), x.dn, x.fD, x.fa⟩
theorem NwA.relock (x : NwA H0 H D ws) (h : H0 C = some o) (u : HO) : NwA (upd H0 C u) (upd H C u) D ws := by
  have ne : ∀ {b : Addr}, H0 b = none → b ≠ C := fun q e => by rw [e, h] at q; cases q
  exact ⟨M.Same.upd2 x.sm, by rw [upd_ne (ne x.fD)]; exact x.hD, fun w hw => by rw [upd_ne (ne (x.fa w hw))]; exact x.ha w hw, x.dn, by rw [upd_ne (ne x.fD)]; exact x.fD, fun w hw => by rw [upd_ne (ne (x.fa w hw))]; exact x.fa w hw⟩
theorem nwK_get {ws : List Nw} (nt : (ws.map (·.1)).Nodup) {w : Nw} (hw : w ∈ ws) : valV (nwK ws) (Sum.inr w.1) = some (.ref w.2.1) := valV_map_in (f := fun w : Nw => w.1) (v := fun w : Nw => V.ref w.2.1) nt hw
theorem nwK_none {ws : List Nw} {t : Str} (h : t ∉ ws.map (·.1)) : valV (nwK ws) (Sum.inr t) = none := valV_map_out (f := fun w : Nw => w.1) (v := fun w : Nw => V.ref w.2.1) h
theorem pcK_get {p : Pc} (nd : (p.map (·.1)).Nodup) {x : Itv} (h : x ∈ p) : valV (pcK p) (Sum.inr x.1) = some (.int x.2) := valV_map_in (f := fun x : Itv => x.1) (v := fun x : Itv => V.int x.2) nd h
theorem pcK_none {p : Pc} {i : Str} (h : i ∉ p.map (·.1)) : valV (pcK p) (Sum.inr i) = none := valV_map_out (f := fun x : Itv => x.1) (v := fun x : Itv => V.int x.2) h
theorem pcK_isSome {p : Pc} {i : Str} : (valV (pcK p) (Sum.inr i)).isSome = hasIt p i := valV_map_isSome (f := fun x : Itv => x.1) (v := fun x : Itv => V.int x.2) i
theorem nwK_isSome {ws : List Nw} {t : Str} : (valV (nwK ws) (Sum.inr t)).isSome = decide (t ∈ ws.map (·.1)) := valV_map_isSome (f := fun w : Nw => w.1) (v := fun w : Nw => V.ref w.2.1) t
theorem putK_pc {p : Pc} {x : Itv} (h : x.1 ∉ p.map (·.1)) : putK (pcK p) (Sum.inr x.1) (.int x.2) = pcK (p ++ [x]) := by
  rw [M.putK_new (pcK_none h)]
  unfold pcK
  rw [List.map_append]
  rfl
theorem putK_id {κ : Type} [DecidableEq κ] {kvs : List (κ × V)} {k : κ} {v : V} (nd : (kvs.map (·.1)).Nodup) (h : valV kvs k = some v) : putK kvs k v = kvs := by
  unfold putK
  rw [valV_any, h]
  show (if (some v).isSome = true then _ else _ : List (κ × V)) = kvs
  rw [show (some v).isSome = true from rfl, if_pos rfl]
  have : ∀ e ∈ kvs, (if e.1 = k then (e.1, v) else e) = e := fun e he => by
    split
    · rename_i q
      have : valV kvs e.1 = some e.2 := by
        clear h
        induction kvs with
        | nil => cases he
        | cons y l ih =>
          have n := List.nodup_cons.mp nd
          rcases List.mem_cons.mp he with e1 | he
          · rw [e1]; exact valV_pos rfl
          · rw [valV_neg fun z => n.1 (List.mem_map.mpr ⟨e, he, z.symm⟩)]
            exact ih n.2 he
      rw [q, h] at this
      rw [Option.some.inj this]
    · rfl
  conv => rhs; rw [← List.map_id kvs]
  exact List.map_congr_left this
theorem nwK_nd {ws : List Nw} (nt : (ws.map (·.1)).Nodup) : ((nwK ws).map (·.1)).Nodup := by
  unfold nwK
  rw [List.map_map]
  have : (ws.map ((fun e : Key × V => e.1) ∘ fun w : Nw => (Sum.inr w.1, V.ref w.2.1))) = (ws.map (·.1)).map Sum.inr := by rw [List.map_map]; rfl
  rw [this]
  exact List.Pairwise.map _ (fun a b h e => h (Sum.inr.inj e)) nt
/-- an item more at a site that has some -/
theorem NwA.putOld (x : NwA H0 H D ws) (nt : (ws.map (·.1)).Nodup) {w : Nw} (hw : w ∈ ws) {y : Itv} (hy : y.1 ∉ w.2.2.map (·.1)) : NwA H0 (upd H w.2.1 (.dK (putK (pcK w.2.2) (Sum.inr y.1) (.int y.2)))) D (putN ws w.1 T y) := by
  rw [putK_pc hy]
  have hm : w.1 ∈ ws.map (·.1) := List.mem_map.mpr ⟨w, hw, rfl⟩
  have dn := List.nodup_cons.mp x.dn
  have ee : ∀ u ∈ ws, u.1 = w.1 → u = w := fun u hu e => map_inj_of nt hu hw e
  have ek : ∀ u ∈ ws, u.2.1 = w.2.1 → u = w := fun u hu e => map_inj_of dn.2 hu hw e
  have e1 : nwK (putN ws w.1 T y) = nwK ws := by
    unfold putN nwK
    rw [if_pos hm, List.map_map]
    refine List.map_congr_left fun u _ => ?_
    show (Sum.inr (if u.1 = w.1 then _ else u : Nw).1, V.ref (if u.1 = w.1 then _ else u : Nw).2.1) = _
    split <;> rfl
  have e2 : (putN ws w.1 T y).map (·.2.1) = ws.map (·.2.1) := by
    unfold putN
    rw [if_pos hm, List.map_map]
    refine List.map_congr_left fun u _ => ?_
    show (if u.1 = w.1 then _ else u : Nw).2.1 = _
    split <;> rfl
  have key : ∀ v ∈ putN ws w.1 T y, v = (w.1, w.2.1, w.2.2 ++ [y]) ∨ v ∈ ws ∧ v ≠ w := fun v hv => by
    unfold putN at hv
    rw [if_pos hm] at hv
    obtain ⟨u, hu, e⟩ := List.mem_map.mp hv
    split at e
    · rename_i q
      rw [ee u hu q] at e
      exact .inl e.symm
    · rename_i q
      rw [← e]
      exact .inr ⟨hu, fun z => q (by rw [z])⟩
  refine ⟨x.sm.mut (x.fa w hw), ?_, fun v hv => ?_, by rw [e2]; exact x.dn, x.fD, fun v hv => ?_⟩
  · rw [e1, upd_ne fun e => dn.1 (List.mem_map.mpr ⟨w, hw, e.symm⟩)]
    exact x.hD
  · rcases key v hv with e | ⟨h, ne⟩
    · rw [e]; exact upd_same
    · rw [upd_ne fun e => ne (ek v h e)]
      exact x.ha v h
  · rcases key v hv with e | ⟨h, ne⟩
    · rw [e]; exact x.fa w hw
    · exact x.fa v h
/-- the first item of a site -/
theorem NwA.putNew (x : NwA H0 H D ws) {t : Str} (ht : t ∉ ws.map (·.1)) (nT : H T = none) {y : Itv} : NwA H0 (upd (upd H T (.dK [(Sum.inr y.1, .int y.2)])) D (.dK (putK (nwK ws) (Sum.inr t) (.ref T)))) D (putN ws t T y) := by
  have neT : ∀ {b : Addr} {u : HO}, H b = some u → b ≠ T := fun h e => by rw [e, nT] at h; cases h
  have e1 : putK (nwK ws) (Sum.inr t) (.ref T) = nwK (putN ws t T y) := by
    rw [M.putK_new (nwK_none ht)]
    unfold putN nwK
    rw [if_neg ht, List.map_append]
    rfl
  have f0 : H0 T = none := none_of nT x.sm
  have dn := List.nodup_cons.mp x.dn
  have e2 : (putN ws t T y).map (·.2.1) = ws.map (·.2.1) ++ [T] := by
    unfold putN
    rw [if_neg ht, List.map_append]
    rfl
  have key : ∀ v ∈ putN ws t T y, v = (t, T, [y]) ∨ v ∈ ws := fun v hv => by
    unfold putN at hv
    rw [if_neg ht] at hv
    rcases List.mem_append.mp hv with h | h
    · exact .inr h
    · exact .inl (List.mem_singleton.mp h)
  refine ⟨(x.sm.mut f0).mut x.fD, by rw [e1]; exact upd_same, fun v hv => ?_, ?_, x.fD, fun v hv => ?_⟩
  · rcases key v hv with e | h
    · rw [e, upd_ne (Ne.symm (neT x.hD))]; exact upd_same
    · rw [upd_ne fun e => dn.1 (List.mem_map.mpr ⟨v, h, e⟩), upd_ne (neT (x.ha v h))]
      exact x.ha v h
  · rw [e2]
    refine List.nodup_cons.mpr ⟨fun h => ?_, ?_⟩
    · rcases List.mem_append.mp h with h | h
      · exact dn.1 h
      · exact neT x.hD (List.mem_singleton.mp h)
    · exact List.nodup_append.mpr ⟨dn.2, List.pairwise_singleton _ _, fun a ha b hb e => by
        obtain ⟨v, hv, q⟩ := List.mem_map.mp ha
        exact neT (x.ha v hv) (by rw [q, e]; exact List.mem_singleton.mp hb)⟩
  · rcases key v hv with e | h
    · rw [e]; exact f0
    · exact x.fa v h
end
theorem putN_keys {ws : List Nw} {t u : Str} {T : Addr} {x : Itv} (h : u ∈ ws.map (·.1)) : u ∈ (putN ws t T x).map (·.1) := by
  obtain ⟨w, hw, e⟩ := List.mem_map.mp h
  unfold putN
  split
  · refine List.mem_map.mpr ⟨_, List.mem_map.mpr ⟨w, hw, rfl⟩, ?_⟩
    split
    · exact e
    · exact e
  · exact List.mem_map.mpr ⟨w, List.mem_append_left _ hw, e⟩
theorem Rch.at_ {ls : List Ln} {x s t : Str} (r : Rch ls x s t) : t = s ∨ ∃ l ∈ ls, l.tgt = t ∧ x ∈ l.it := by
  cases r with
  | here => exact .inl rfl
  | hop m k i _ => exact .inr ⟨_, m, rfl, i⟩
theorem NwS.len {ls : List Ln} {s : Str} {f : Pc} {ws : List Nw} (x : NwS ls s f ws) : ws.length ≤ ls.length + 1 := by
  have := nodup_le x.nt (m := s :: ls.map (·.tgt)) fun t ht => by
    obtain ⟨w, hw, e⟩ := List.mem_map.mp ht
    rcases x.ne w hw with h | h
    · rw [← e, h]; exact List.mem_cons_self
    · obtain ⟨l, hl, h2⟩ := h
      rw [← e, ← h2]; exact List.mem_cons_of_mem _ (List.mem_map.mpr ⟨l, hl, rfl⟩)
  rw [List.length_map, List.length_cons, List.length_map] at this
  exact this
theorem NwS.lenI {ls : List Ln} {s : Str} {f : Pc} {ws : List Nw} (x : NwS ls s f ws) {w : Nw} (hw : w ∈ ws) : w.2.2.length ≤ f.length := by
  have := nodup_le (x.ni w hw) (m := f.map (·.1)) fun t ht => by
    obtain ⟨y, hy, e⟩ := List.mem_map.mp ht
    exact List.mem_map.mpr ⟨y, (x.sd w hw y hy).2, e⟩
  rw [List.length_map, List.length_map] at this
  exact this
/-- a target that gets nothing as yet -/
theorem NwS.addE {ls : List Ln} {s : Str} {f : Pc} {ws : List Nw} {T : Addr} {l : Ln} (w_ : NwS ls s f ws) (hl : l ∈ ls) (ht : l.tgt ∉ ws.map (·.1)) : NwS ls s f (ws ++ [(l.tgt, T, [])]) := by
  have key : ∀ {Q : Nw → Prop}, (∀ w ∈ ws, Q w) → Q (l.tgt, T, []) → ∀ w ∈ ws ++ [(l.tgt, T, [])], Q w := fun h1 h2 w hw => by
    rcases List.mem_append.mp hw with hw | hw
    · exact h1 w hw
    · rw [List.mem_singleton.mp hw]; exact h2
  refine ⟨?_, key w_.sd (fun x hx => by cases hx), key w_.ne (.inr ⟨l, hl, rfl⟩), ?_, key w_.ni List.Pairwise.nil, w_.nf⟩
  · obtain ⟨w, hw, e1, e2⟩ := w_.hd
    exact ⟨w, List.mem_append_left _ hw, e1, e2⟩
  · rw [List.map_append]
    exact List.nodup_append.mpr ⟨w_.nt, List.pairwise_singleton _ _, fun a ha b hb e => ht (by have e2 : b = l.tgt := List.mem_singleton.mp hb; rw [← e2, ← e]; exact ha)⟩
end M

namespace M
open PySem PySem.Spec PyProof.Rows L2
/-! ### queueing, on pieces with their addresses -/
abbrev Qe := List (Addr × Pc)
def uz (x : Itv) (z : Addr × Pc) : Addr × Pc := (z.1, putIt x.1 x.2 z.2)
def uq (x : Itv) (q : Qe) (j : Nat) : Qe := (q.take j).map (uz x) ++ q.drop j
def passQ (p : Pc) (q : Qe) : Qe := p.foldl (fun q x => q.map (uz x)) q
def hitQ (q : Qe) (i : Str) : Bool := q.any fun z => hasIt z.2 i
theorem putIt_keys (i : Str) (v : Int) (p : Pc) : (putIt i v p).map (·.1) = p.map (·.1) := by
  unfold putIt
  rw [List.map_map]
  refine List.map_congr_left fun x _ => ?_
  show (if x.1 = i then (i, v) else x : Itv).1 = x.1
  split
  · rename_i h; exact h.symm
  · rfl
theorem putIt_has (i : Str) (v : Int) (p : Pc) (j : Str) : hasIt (putIt i v p) j = hasIt p j := by
  unfold hasIt
  rw [putIt_keys]
theorem putIt_no {i : Str} {v : Int} {p : Pc} (h : hasIt p i = false) : putIt i v p = p := by
  unfold putIt
  conv => rhs; rw [← List.map_id p]
  refine List.map_congr_left fun x hx => ?_
  show (if x.1 = i then (i, v) else x : Itv) = x
  rw [if_neg fun e => (of_decide_eq_false h) (List.mem_map.mpr ⟨x, hx, e⟩)]
theorem pcK_put {i : Str} {v : Int} {p : Pc} (h : hasIt p i = true) : putK (pcK p) (Sum.inr i) (.int v) = pcK (putIt i v p) := by
  unfold putK
  rw [valV_any, pcK_isSome, h, if_pos rfl]
  unfold pcK putIt
  rw [List.map_map, List.map_map]
  refine List.map_congr_left fun x _ => ?_
  show (if (Sum.inr x.1 : Key) = Sum.inr i then ((Sum.inr x.1 : Key), V.int v) else (Sum.inr x.1, V.int x.2)) = (Sum.inr (if x.1 = i then (i, v) else x : Itv).1, V.int (if x.1 = i then (i, v) else x : Itv).2)
  by_cases e : x.1 = i
  · rw [if_pos e, if_pos (by rw [e])]
    rw [e]
  · rw [if_neg e, if_neg fun q => e (Sum.inr.inj q)]
theorem pcK_drop (i : Str) (p : Pc) : dropK (pcK p) (Sum.inr i) = pcK (p.filter fun y => !decide (y.1 = i)) := by
  unfold dropK pcK
  rw [List.filter_map]
  congr 1
  refine List.filter_congr fun y _ => ?_
  show decide ((Sum.inr y.1 : Key) ≠ Sum.inr i) = !decide (y.1 = i)
  by_cases e : y.1 = i
  · simp [e]
  · simp [e]
theorem uq_zero (x : Itv) (q : Qe) : uq x q 0 = q := by unfold uq; simp
theorem uq_all (x : Itv) (q : Qe) : uq x q q.length = q.map (uz x) := by unfold uq; simp
theorem uq_at {x : Itv} {q : Qe} {j : Nat} {z : Addr × Pc} (h : q[j]? = some z) : (uq x q j)[j]? = some z := by
  have hj := (List.getElem?_eq_some_iff.mp h).1
  unfold uq
  rw [List.getElem?_append_right (by rw [List.length_map, List.length_take]; omega), List.length_map, List.length_take, Nat.min_eq_left (Nat.le_of_lt hj), Nat.sub_self, List.getElem?_drop]
  exact h
theorem uq_succ {x : Itv} {q : Qe} {j : Nat} {z : Addr × Pc} (h : q[j]? = some z) : uq x q (j + 1) = (uq x q j).set j (uz x z) := by
  have hj := (List.getElem?_eq_some_iff.mp h).1
  have hz := (List.getElem?_eq_some_iff.mp h).2
  unfold uq
  rw [take_snoc h, List.map_append, List.set_append_right _ _ (by rw [List.length_map, List.length_take]; omega), List.length_map, List.length_take, Nat.min_eq_left (Nat.le_of_lt hj), Nat.sub_self, List.drop_eq_getElem_cons hj, hz, List.append_assoc]
  rfl
theorem uq_no {x : Itv} {q : Qe} {j : Nat} {z : Addr × Pc} (h : q[j]? = some z) (n : hasIt z.2 x.1 = false) : uq x q (j + 1) = uq x q j := by
  rw [uq_succ h]
  have e : uz x z = z := by unfold uz; rw [putIt_no n]
  rw [e]
  have h2 := uq_at (x := x) h
  have hj := (List.getElem?_eq_some_iff.mp h2).1
  have hz := (List.getElem?_eq_some_iff.mp h2).2
  conv => lhs; rw [← hz]
  exact List.set_getElem_self hj
theorem uq_ad (x : Itv) (q : Qe) (j : Nat) : (uq x q j).map (·.1) = q.map (·.1) := by
  unfold uq
  rw [List.map_append, List.map_map, show ((fun z : Addr × Pc => z.1) ∘ uz x) = fun z => z.1 from rfl, ← List.map_append, List.take_append_drop]
theorem uq_len (x : Itv) (q : Qe) (j : Nat) : (uq x q j).length = q.length := by
  have := congrArg List.length (uq_ad x q j)
  rwa [List.length_map, List.length_map] at this
theorem passQ_snoc (p : Pc) (x : Itv) (q : Qe) : passQ (p ++ [x]) q = (passQ p q).map (uz x) := by
  unfold passQ
  rw [List.foldl_append]
  rfl
theorem hit_map (x : Itv) (q : Qe) (i : Str) : hitQ (q.map (uz x)) i = hitQ q i := by
  unfold hitQ
  rw [List.any_map]
  refine congrArg (fun f => List.any q f) (funext fun z => ?_)
  exact putIt_has _ _ _ _
theorem hit_pass : ∀ (p : Pc) (q : Qe) (i : Str), hitQ (passQ p q) i = hitQ q i
  | [], _, _ => rfl
  | x :: p, q, i => by
    show hitQ (passQ p (q.map (uz x))) i = _
    rw [hit_pass p, hit_map]
/-- each item waits in one piece at most -/
def Uq (q : List Pc) : Prop := ∀ (j j' : Nat) (z z' : Pc) (i : Str), q[j]? = some z → q[j']? = some z' → hasIt z i = true → hasIt z' i = true → j = j'
theorem Uq.map {x : Itv} {q : Qe} (h : Uq (q.map (·.2))) : Uq ((q.map (uz x)).map (·.2)) := by
  rw [List.map_map]
  have key : ∀ (j : Nat) z, (q.map ((fun w : Addr × Pc => w.2) ∘ uz x))[j]? = some z → ∃ w, (q.map (·.2))[j]? = some w ∧ ∀ i, hasIt z i = hasIt w i := fun j z e => by
    rw [List.getElem?_map] at e ⊢
    cases ej : q[j]? with
    | none => rw [ej] at e; cases e
    | some w =>
      rw [ej] at e
      refine ⟨w.2, rfl, fun i => ?_⟩
      rw [← Option.some.inj e]
      exact putIt_has _ _ _ _
  intro j j' z z' i h1 h2 h3 h4
  obtain ⟨w, e1, f1⟩ := key j z h1
  obtain ⟨w', e2, f2⟩ := key j' z' h2
  exact h j j' w w' i e1 e2 (by rw [← f1]; exact h3) (by rw [← f2]; exact h4)
theorem Uq.pass : ∀ (p : Pc) {q : Qe}, Uq (q.map (·.2)) → Uq ((passQ p q).map (·.2))
  | [], _, h => h
  | x :: p, q, h => Uq.pass p (q := q.map (uz x)) h.map
theorem pass_snd : ∀ (p : Pc) (q : Qe), (passQ p q).map (·.2) = p.foldl (fun q x => q.map (putIt x.1 x.2)) (q.map (·.2))
  | [], _ => rfl
  | x :: p, q => by
    show (passQ p (q.map (uz x))).map (·.2) = p.foldl _ ((q.map (·.2)).map (putIt x.1 x.2))
    rw [pass_snd p, List.map_map, List.map_map]
    rfl
theorem pass_len : ∀ (p : Pc) (q : Qe), (passQ p q).length = q.length
  | [], _ => rfl
  | x :: p, q => by
    show (passQ p (q.map (uz x))).length = _
    rw [pass_len p, List.length_map]
theorem passQ_sz {N : Nat} : ∀ {p : Pc} {q : Qe}, (∀ z ∈ q, z.2.length ≤ N) → ∀ z ∈ passQ p q, z.2.length ≤ N
  | [], _, h => h
  | x :: p, q, h => passQ_sz (p := p) (q := q.map (uz x)) fun z hz => by
    obtain ⟨w, hw, e⟩ := List.mem_map.mp hz
    rw [← e]
    have := congrArg List.length (putIt_keys x.1 x.2 w.2)
    rw [List.length_map, List.length_map] at this
    show (putIt x.1 x.2 w.2).length ≤ N
    rw [this]
    exact h w hw
/-- what is left of a piece when the first n of its items have been looked up -/
def leftN (p : Pc) (q : Qe) (n : Nat) : Pc := p.filter fun y => !(decide (y.1 ∈ (p.take n).map (·.1)) && hitQ q y.1)
def leftJ (p : Pc) (q : Qe) (n : Nat) (x : Itv) (j : Nat) : Pc := (leftN p q n).filter fun y => !(decide (y.1 = x.1) && hitQ (q.take j) x.1)
theorem leftN_zero (p : Pc) (q : Qe) : leftN p q 0 = p := by
  unfold leftN
  rw [List.take_zero]
  exact List.filter_eq_self.mpr fun y _ => rfl
theorem leftJ_zero (p : Pc) (q : Qe) (n : Nat) (x : Itv) : leftJ p q n x 0 = leftN p q n := by
  unfold leftJ
  refine List.filter_eq_self.mpr fun y _ => ?_
  rw [List.take_zero]
  show (!(_ && false)) = true
  rw [Bool.and_false]
  rfl
theorem leftJ_all {p : Pc} {q : Qe} {n : Nat} {x : Itv} (h : p[n]? = some x) : leftJ p q n x q.length = leftN p q (n + 1) := by
  unfold leftJ leftN
  rw [List.filter_filter, List.take_length, take_snoc h]
  refine List.filter_congr fun y _ => ?_
  rw [List.map_append, Bool.eq_iff_iff]
  simp only [Bool.and_eq_true, Bool.not_eq_true', Bool.and_eq_false_iff, decide_eq_false_iff_not, List.mem_append, List.map_cons, List.map_nil, List.mem_singleton]
  constructor
  · rintro ⟨h1, h2⟩
    by_cases e : y.1 = x.1
    · rcases h1 with h1 | h1
      · exact absurd e h1
      · exact .inr (by rw [e]; exact h1)
    · rcases h2 with h2 | h2
      · exact .inl fun z => z.elim h2 e
      · exact .inr h2
  · rintro (h1 | h1)
    · exact ⟨.inl fun e => h1 (.inr e), .inl fun e => h1 (.inl e)⟩
    · refine ⟨?_, .inr h1⟩
      by_cases e : y.1 = x.1
      · exact .inr (by rw [← e]; exact h1)
      · exact .inl e
theorem hit_snoc {q : Qe} {j : Nat} {z : Addr × Pc} (h : q[j]? = some z) (i : Str) : hitQ (q.take (j + 1)) i = (hitQ (q.take j) i || hasIt z.2 i) := by
  unfold hitQ
  rw [take_snoc h, List.any_append]
  simp
theorem leftJ_no {p : Pc} {q : Qe} {n j : Nat} {x : Itv} {z : Addr × Pc} (h : q[j]? = some z) (nz : hasIt z.2 x.1 = false) : leftJ p q n x (j + 1) = leftJ p q n x j := by
  unfold leftJ
  rw [hit_snoc h, nz, Bool.or_false]
theorem leftJ_yes {p : Pc} {q : Qe} {n j : Nat} {x : Itv} {z : Addr × Pc} (h : q[j]? = some z) (yz : hasIt z.2 x.1 = true) : leftJ p q n x (j + 1) = (leftJ p q n x j).filter fun y => !decide (y.1 = x.1) := by
  unfold leftJ
  rw [hit_snoc h, yz, Bool.or_true, List.filter_filter]
  refine List.filter_congr fun y _ => ?_
  by_cases e : y.1 = x.1
  · rw [decide_eq_true e]; rfl
  · rw [decide_eq_false e]; rfl
/-- the item is left until its piece is met -/
theorem left_has {p : Pc} {q : Qe} {n j : Nat} {x : Itv} {z : Addr × Pc} (nd : (p.map (·.1)).Nodup) (hx : p[n]? = some x) (u : Uq (q.map (·.2))) (h : q[j]? = some z) (yz : hasIt z.2 x.1 = true) : hasIt (leftJ p q n x j) x.1 = true := by
  unfold hasIt
  refine decide_eq_true (List.mem_map.mpr ⟨x, ?_, rfl⟩)
  have no : hitQ (q.take j) x.1 = false := by
    cases e : hitQ (q.take j) x.1 with
    | false => rfl
    | true =>
      unfold hitQ at e
      obtain ⟨w, hw, e2⟩ := List.any_eq_true.mp e
      obtain ⟨k, hk, ew⟩ := List.getElem_of_mem hw
      rw [List.length_take] at hk
      rw [List.getElem_take] at ew
      have h1 : (q.map (·.2))[k]? = some w.2 := by rw [List.getElem?_map, List.getElem?_eq_getElem (by omega), ew]; rfl
      have h2 : (q.map (·.2))[j]? = some z.2 := by rw [List.getElem?_map, h]; rfl
      have := u k j _ _ x.1 h1 h2 e2 yz
      omega
  refine List.mem_filter.mpr ⟨List.mem_filter.mpr ⟨List.mem_of_getElem? hx, ?_⟩, by rw [no, Bool.and_false]; rfl⟩
  have nm : x.1 ∉ (p.take n).map (·.1) := fun hm => by
    obtain ⟨y, hy, e⟩ := List.mem_map.mp hm
    obtain ⟨k, hk, ey⟩ := List.getElem_of_mem hy
    rw [List.length_take] at hk
    rw [List.getElem_take] at ey
    have hn := (List.getElem?_eq_some_iff.mp hx).1
    have hxe := (List.getElem?_eq_some_iff.mp hx).2
    have h1 : k < (p.map (·.1)).length := by rw [List.length_map]; omega
    have h2 : n < (p.map (·.1)).length := by rw [List.length_map]; exact hn
    have := (List.getElem_inj (h₀ := h1) (h₁ := h2) nd).mp (by rw [List.getElem_map, List.getElem_map, ey, hxe]; exact e)
    omega
  rw [decide_eq_false nm]
  rfl
theorem left_nd {p : Pc} {q : Qe} {n : Nat} (nd : (p.map (·.1)).Nodup) : ((leftN p q n).map (·.1)).Nodup := nd.sublist (List.filter_sublist.map _)
theorem leftJ_nd {p : Pc} {q : Qe} {n j : Nat} {x : Itv} (nd : (p.map (·.1)).Nodup) : ((leftJ p q n x j).map (·.1)).Nodup := (left_nd nd).sublist (List.filter_sublist.map _)
theorem left_all {p : Pc} {q : Qe} : leftN p q p.length = p.filter fun y => !hitQ q y.1 := by
  unfold leftN
  rw [List.take_length]
  refine List.filter_congr fun y hy => ?_
  rw [decide_eq_true (List.mem_map.mpr ⟨y, hy, rfl⟩), Bool.true_and]
theorem hit_snd (q : Qe) (i : Str) : hitQ q i = (q.map (·.2)).any fun w => hasIt w i := by
  unfold hitQ
  rw [List.any_map]
  rfl
/-! ### the network while a queue changes -/
def NM.q (m : NM) (c : Str) (q : Qe) (k : Nat) : NM := { m with ps := psW m.ps c q, k := k }
theorem psW_id (ps : Str → Qe) (c : Str) : psW ps c (ps c) = ps := by
  funext d
  unfold psW
  split
  · rename_i h; rw [h]
  · rfl
theorem NM.q_id (m : NM) (c : Str) : m.q c (m.ps c) m.k = m := by
  unfold NM.q
  rw [psW_id]
theorem NM.q_q (m : NM) (c : Str) (q r : Qe) (k j : Nat) : (m.q c q k).q c r j = m.q c r j := by
  have e : psW (psW m.ps c q) c r = psW m.ps c r := by
    funext d
    by_cases h : d = c
    · rw [h, psW_same, psW_same]
    · rw [psW_ne h, psW_ne h, psW_ne h]
  show { m with ps := psW (psW m.ps c q) c r, k := j } = _
  rw [e]
  rfl
theorem NM.q_ps {m : NM} {c : Str} {q : Qe} {k : Nat} : (m.q c q k).ps c = q := psW_same
section
variable {CN : Addr} {J J' H H' : Hp} {n : Net} {m : NM} {T C : Addr} {o u w : HO}
/-- another thing that stays is locked or freed -/
theorem NA.updS (x : NA CN J H n m) (hC : J C = some w) (k1 : ∀ l, w ≠ .lst l) (k2 : ∀ l, w ≠ .tup l) (nS : C ≠ n.DSt ∧ C ≠ n.DC ∧ C ≠ n.DQ) (u : HO) : NA CN (upd J C u) (upd H C u) n m := by
  have ne : ∀ {b : Addr}, J b = none → b ≠ C := fun h e => by rw [e, hC] at h; cases h
  have jn : ∀ {b : Addr}, J b = none → (upd J C u) b = none := fun h => by rw [upd_ne (ne h)]; exact h
  have hh : ∀ {b : Addr} {v : HO}, J b = none → H b = some v → (upd H C u) b = some v := fun h e => by rw [upd_ne (ne h)]; exact e
  have jl : ∀ {b : Addr} {l}, J b = some (.lst l) → (upd J C u) b = some (.lst l) := fun h => by rw [upd_ne (ne_kind h hC (Ne.symm (k1 _)))]; exact h
  have jt : ∀ {b : Addr} {l}, J b = some (.tup l) → (upd J C u) b = some (.tup l) := fun h => by rw [upd_ne (ne_kind h hC (Ne.symm (k2 _)))]; exact h
  exact { x with
    sj := M.Same.upd2 x.sj
    jP := jl x.jP
    jS := by rw [upd_ne (Ne.symm nS.1)]; exact x.jS
    jC := by rw [upd_ne (Ne.symm nS.2.1)]; exact x.jC
    jQ := by rw [upd_ne (Ne.symm nS.2.2)]; exact x.jQ
    jt := fun c hc => jt (x.jt c hc)
    jl := fun c hc => jl (x.jl c hc)
    je := x.je.mono fun v e h => stEn _ _ _ _ del_upd (EnA.del h hC k1 k2)
    hn := hh x.nn x.hn
    nn := jn x.nn
    hV := hh x.nV x.hV
    nV := jn x.nV
    hE := hh x.nE x.hE
    nE := jn x.nE
    hq := fun c hc => hh (x.nq c hc) (x.hq c hc)
    nq := fun c hc => jn (x.nq c hc)
    hp := fun c hc y hy => hh (x.np c hc y hy) (x.hp c hc y hy)
    np := fun c hc y hy => jn (x.np c hc y hy) }
/-- a dict that is neither what stays nor the network's -/
theorem NA.free {kv kv' : List (Key × V)} (x : NA CN J H n m) (hT : H T = some (.dK kv)) (jT : J T = none) (f : ∀ c ∈ n.ls, ∀ y ∈ m.ps c.l.nm, T ≠ y.1) : NA CN J (upd H T (.dK kv')) n m :=
  { x with
    sj := x.sj.mut jT
    hn := by rw [upd_ne (ne_kind x.hn hT (by intro e; cases e))]; exact x.hn
    hV := by rw [upd_ne (ne_kind x.hV hT (by intro e; cases e))]; exact x.hV
    hE := by rw [upd_ne (ne_kind x.hE hT (by intro e; cases e))]; exact x.hE
    hq := fun c hc => by rw [upd_ne (ne_kind (x.hq c hc) hT (by intro e; cases e))]; exact x.hq c hc
    hp := fun c hc y hy => by rw [upd_ne (Ne.symm (f c hc y hy))]; exact x.hp c hc y hy }
theorem NA.fresh (x : NA CN J H n m) (n0 : H T = none) : J T = none ∧ ∀ c ∈ n.ls, ∀ y ∈ m.ps c.l.nm, T ≠ y.1 :=
  ⟨none_of n0 x.sj, fun c hc y hy e => by have := x.hp c hc y hy; rw [← e, n0] at this; cases this⟩
theorem NA.pushQ (x : NA CN J H n m) {c : NL} (hc : c ∈ n.ls) {p : Pc} (hT : H T = some (.dK (pcK p))) (jT : J T = none) (f : ∀ c' ∈ n.ls, ∀ y ∈ m.ps c'.l.nm, T ≠ y.1) :
    NA CN J (upd H c.qa (.lst (qV (m.ps c.l.nm) ++ [.ref T]))) n (m.q c.l.nm (m.ps c.l.nm ++ [(T, p)]) (m.k + 1)) := x.push hc hT jT f
theorem NA.putQ (x : NA CN J H n m) {c : NL} (hc : c ∈ n.ls) {i : Nat} {z : Addr × Pc} (hi : (m.ps c.l.nm)[i]? = some z) (y : Itv) :
    NA CN J (upd H z.1 (.dK (pcK (putIt y.1 y.2 z.2)))) n (m.q c.l.nm ((m.ps c.l.nm).set i (uz y z)) m.k) := x.upP hc hi _
end
end M

namespace M
open PySem PySem.Spec PyProof.Rows L2
/-! ### new versions are installed -/
theorem pcK_val (p : Pc) (i : Str) : valV (pcK p) (Sum.inr i) = (vat p i).map V.int := by
  induction p with
  | nil => rfl
  | cons x p ih =>
    unfold pcK vat at ih ⊢
    rw [List.map_cons, List.find?_cons]
    by_cases e : x.1 = i
    · rw [valV_pos (by rw [e]), decide_eq_true e]
      rfl
    · rw [valV_neg fun q => e (Sum.inr.inj q), decide_eq_false e]
      exact ih
/-- the new version of an item at a site -/
def nwV (ws : List Nw) (t i : Str) : Option Int := (ws.find? fun w => decide (w.1 = t)).bind fun w => vat w.2.2 i
theorem find_at {ws : List Nw} (nt : (ws.map (·.1)).Nodup) {w : Nw} (hw : w ∈ ws) : ws.find? (fun u => decide (u.1 = w.1)) = some w := by
  cases e : ws.find? (fun u => decide (u.1 = w.1)) with
  | none => exact absurd (decide_eq_true rfl) (List.find?_eq_none.mp e w hw)
  | some u =>
    have h0 := List.find?_some e
    have h1 : u.1 = w.1 := of_decide_eq_true h0
    rw [map_inj_of nt (List.mem_of_find?_eq_some e) hw h1]
theorem nwV_at {ws : List Nw} (nt : (ws.map (·.1)).Nodup) {w : Nw} (hw : w ∈ ws) (i : Str) : nwV ws w.1 i = vat w.2.2 i := by
  unfold nwV
  rw [find_at nt hw]
  rfl
theorem nwV_out {ws : List Nw} {t : Str} (h : t ∉ ws.map (·.1)) (i : Str) : nwV ws t i = none := by
  unfold nwV
  rw [List.find?_eq_none.mpr fun w hw e => h (List.mem_map.mpr ⟨w, hw, of_decide_eq_true e⟩)]
  rfl
theorem NwS.val {ls : List Ln} {s : Str} {f : Pc} {ws : List Nw} (x : NwS ls s f ws) (c : ∀ l ∈ ls, Cls1 ws l) (t i : Str) : nwV ws t i = newV ls s f t i := by
  refine Option.ext fun v => ?_
  show nwV ws t i = some v ↔ newV ls s f t i = some v
  rw [x.full c]
  by_cases h : t ∈ ws.map (·.1)
  · obtain ⟨w, hw, e⟩ := List.mem_map.mp h
    rw [← e, nwV_at x.nt hw]
    constructor
    · exact fun q => ⟨w, hw, rfl, vat_mem q⟩
    · rintro ⟨u, hu, e1, e2⟩
      rw [map_inj_of x.nt hu hw e1] at e2
      exact vat_of (x.ni w hw) e2
  · rw [nwV_out h]
    constructor
    · intro q; cases q
    · rintro ⟨u, hu, e1, _⟩
      exact absurd (List.mem_map.mpr ⟨u, hu, e1⟩) h
def putW (kv : List (List L2.Key × V)) (t : Str) (p : Pc) : List (List L2.Key × V) := p.foldl (fun kv x => putK kv (k2 x.1 t) (.int x.2)) kv
def instK (kv : List (List L2.Key × V)) (ws : List Nw) : List (List L2.Key × V) := ws.foldl (fun kv w => putW kv w.1 w.2.2) kv
theorem k2_eq {i t j u : Str} : k2 i t = k2 j u ↔ i = j ∧ t = u := by
  unfold k2
  constructor
  · intro h
    injection h with h1 h2
    injection h2 with h2 _
    exact ⟨Sum.inr.inj h1, Sum.inr.inj h2⟩
  · rintro ⟨rfl, rfl⟩; rfl
theorem putW_val : ∀ {p : Pc} (kv : List (List L2.Key × V)) (t i u : Str), (p.map (·.1)).Nodup → valV (putW kv t p) (k2 i u) = (if u = t then (vat p i).map V.int else none).or (valV kv (k2 i u))
  | [], kv, t, i, u, _ => by
    show valV kv (k2 i u) = _
    split <;> rfl
  | x :: p, kv, t, i, u, nd => by
    have n := List.nodup_cons.mp nd
    show valV (putW (putK kv (k2 x.1 t) (.int x.2)) t p) (k2 i u) = _
    rw [putW_val _ t i u n.2, valV_put]
    by_cases e : u = t
    · subst e
      rw [if_pos rfl, if_pos rfl]
      have ev : vat (x :: p) i = if x.1 = i then some x.2 else vat p i := by
        unfold vat
        rw [List.find?_cons]
        by_cases q : x.1 = i
        · rw [decide_eq_true q, if_pos q]; rfl
        · rw [decide_eq_false q, if_neg q]
      rw [ev]
      by_cases q : x.1 = i
      · rw [if_pos q, if_pos (by rw [q])]
        have : vat p i = none := vat_none.mpr (by rw [← q]; exact n.1)
        rw [this]
        rfl
      · rw [if_neg q, if_neg fun z => q (k2_eq.mp z).1.symm]
    · rw [if_neg e, if_neg e, if_neg fun z => e (k2_eq.mp z).2]
theorem putW_some {kv : List (List L2.Key × V)} {t : Str} : ∀ {p : Pc} {k : List L2.Key}, (valV kv k).isSome = true → (valV (putW kv t p) k).isSome = true := by
  intro p
  induction p generalizing kv with
  | nil => exact fun h => h
  | cons x p ih =>
    intro k h
    refine ih (kv := putK kv (k2 x.1 t) (.int x.2)) ?_
    rw [valV_put]
    split
    · rfl
    · exact h
theorem putK_old {κ : Type} [DecidableEq κ] {kv : List (κ × V)} {k : κ} {v : V} (h : (valV kv k).isSome = true) : (putK kv k v).length = kv.length := by
  unfold putK
  rw [valV_any, h, if_pos rfl, List.length_map]
theorem putW_len {t : Str} : ∀ {p : Pc} {kv : List (List L2.Key × V)}, (∀ x ∈ p, (valV kv (k2 x.1 t)).isSome = true) → (putW kv t p).length = kv.length
  | [], _, _ => rfl
  | x :: p, kv, h => by
    show (putW (putK kv (k2 x.1 t) (.int x.2)) t p).length = _
    rw [putW_len fun y hy => ?_, putK_old (h x List.mem_cons_self)]
    rw [valV_put]
    split
    · rfl
    · exact h y (List.mem_cons_of_mem _ hy)
theorem instK_some {kv : List (List L2.Key × V)} : ∀ {ws : List Nw} {k : List L2.Key}, (valV kv k).isSome = true → (valV (instK kv ws) k).isSome = true := by
  intro ws
  induction ws generalizing kv with
  | nil => exact fun h => h
  | cons w ws ih => exact fun h => ih (kv := putW kv w.1 w.2.2) (putW_some h)
theorem instK_len : ∀ {ws : List Nw} {kv : List (List L2.Key × V)}, (∀ w ∈ ws, ∀ x ∈ w.2.2, (valV kv (k2 x.1 w.1)).isSome = true) → (instK kv ws).length = kv.length
  | [], _, _ => rfl
  | w :: ws, kv, h => by
    show (instK (putW kv w.1 w.2.2) ws).length = _
    rw [instK_len fun u hu x hx => putW_some (h u (List.mem_cons_of_mem _ hu) x hx), putW_len (h w List.mem_cons_self)]
theorem instK_val : ∀ {ws : List Nw} (kv : List (List L2.Key × V)) (i t : Str), (ws.map (·.1)).Nodup → (∀ w ∈ ws, (w.2.2.map (·.1)).Nodup) → valV (instK kv ws) (k2 i t) = ((nwV ws t i).map V.int).or (valV kv (k2 i t))
  | [], _, _, _, _, _ => rfl
  | w :: ws, kv, i, t, nt, ni => by
    have n := List.nodup_cons.mp nt
    show valV (instK (putW kv w.1 w.2.2) ws) (k2 i t) = _
    rw [instK_val _ i t n.2 fun u hu => ni u (List.mem_cons_of_mem _ hu), putW_val _ _ _ _ (ni w List.mem_cons_self)]
    by_cases e : t = w.1
    · subst e
      rw [if_pos rfl, nwV_at nt List.mem_cons_self, nwV_out n.1]
      rfl
    · have : nwV (w :: ws) t i = nwV ws t i := by
        unfold nwV
        rw [List.find?_cons, decide_eq_false (fun q => e q.symm)]
      rw [if_neg e, this]
      rfl
theorem instK_snoc {ws : List Nw} {w : Nw} (kv : List (List L2.Key × V)) : instK kv (ws ++ [w]) = putW (instK kv ws) w.1 w.2.2 := by
  unfold instK
  rw [List.foldl_append]
  rfl
theorem putW_snoc {p : Pc} {x : Itv} {t : Str} (kv : List (List L2.Key × V)) : putW kv t (p ++ [x]) = putK (putW kv t p) (k2 x.1 t) (.int x.2) := by
  unfold putW
  rw [List.foldl_append]
  rfl
theorem nodup_at {α β : Type} {f : α → β} {l : List α} (nd : (l.map f).Nodup) {i j : Nat} {x y : α} (hx : l[i]? = some x) (hy : l[j]? = some y) (e : f x = f y) : i = j := by
  have h1 := (List.getElem?_eq_some_iff.mp hx).1
  have h2 := (List.getElem?_eq_some_iff.mp hy).1
  have e1 := (List.getElem?_eq_some_iff.mp hx).2
  have e2 := (List.getElem?_eq_some_iff.mp hy).2
  have g1 : i < (l.map f).length := by rw [List.length_map]; exact h1
  have g2 : j < (l.map f).length := by rw [List.length_map]; exact h2
  refine (List.getElem_inj (h₀ := g1) (h₁ := g2) nd).mp ?_
  rw [List.getElem_map, List.getElem_map, e1, e2, e]
/-- what a channel gets -/
def pieceW (p : Pc) (its : List Str) : Pc := its.filterMap fun i => (vat p i).map fun v => (i, v)
theorem pieceW_keys (p : Pc) (its : List Str) : ∀ x ∈ pieceW p its, x.1 ∈ its := fun x hx => by
  obtain ⟨i, hi, e⟩ := List.mem_filterMap.mp hx
  cases h : vat p i with
  | none => rw [h] at e; cases e
  | some v => rw [h] at e; rw [← Option.some.inj e]; exact hi
theorem pieceW_map (p : Pc) (its : List Str) : (pieceW p its).map (·.1) = its.filter fun i => hasIt p i := by
  induction its with
  | nil => rfl
  | cons i its ih =>
    unfold pieceW at ih ⊢
    rw [List.filterMap_cons, List.filter_cons]
    cases h : vat p i with
    | none =>
      have : hasIt p i = false := decide_eq_false (vat_none.mp h)
      rw [this]
      exact ih
    | some v =>
      have : hasIt p i = true := decide_eq_true (List.mem_map.mpr ⟨_, vat_mem h, rfl⟩)
      rw [this]
      show i :: _ = i :: _
      rw [ih]
theorem pieceW_nd {p : Pc} {its : List Str} (h : its.Nodup) : ((pieceW p its).map (·.1)).Nodup := by
  rw [pieceW_map]
  exact h.sublist List.filter_sublist
theorem pieceW_len (p : Pc) (its : List Str) : (pieceW p its).length ≤ its.length := List.length_filterMap_le _ _
theorem pieceW_snoc (p : Pc) (its : List Str) (i : Str) : pieceW p (its ++ [i]) = pieceW p its ++ (match vat p i with | some v => [(i, v)] | none => []) := by
  unfold pieceW
  rw [List.filterMap_append, List.filterMap_cons]
  cases vat p i <;> rfl
theorem hasIt_vat (p : Pc) (i : Str) : hasIt p i = (vat p i).isSome := by
  cases h : vat p i with
  | none => exact decide_eq_false (vat_none.mp h)
  | some v => exact decide_eq_true (List.mem_map.mpr ⟨_, vat_mem h, rfl⟩)
theorem enq_nil (k : Str) (q : List Pc) : enq k q [] = q := by
  unfold enq
  split
  · exact List.append_nil _
  · split
    · rfl
    · rfl
/-- new versions that stand among what stays -/
structure NwR (J : Hp) (n : Net) (D : Addr) (ws : List Nw) : Prop where
  hD : J D = some (.dK (nwK ws))
  ha : ∀ w ∈ ws, J w.2.1 = some (.dK (pcK w.2.2))
  dn : (D :: ws.map (·.2.1)).Nodup
  nD : D ≠ n.DSt ∧ D ≠ n.DC ∧ D ≠ n.DQ
  na : ∀ w ∈ ws, w.2.1 ≠ n.DSt ∧ w.2.1 ≠ n.DC ∧ w.2.1 ≠ n.DQ
  nt : (ws.map (·.1)).Nodup
  ni : ∀ w ∈ ws, (w.2.2.map (·.1)).Nodup
  zw : ws.length ≤ 1000
  zi : ∀ w ∈ ws, w.2.2.length ≤ 1000
theorem NwR.same {J J' : Hp} {n : Net} {D : Addr} {ws : List Nw} (x : NwR J n D ws) (s : Same J J') : NwR J' n D ws := { x with hD := s _ _ x.hD, ha := fun w hw => s _ _ (x.ha w hw) }
/-- a queue after new versions of its channel's source -/
def queW (ws : List Nw) (l : Ln) (q : List Pc) : List Pc := match l.kd with
  | none => q
  | some k => match ws.find? fun w => decide (w.1 = l.src) with
    | none => q
    | some w => enq k q (pieceW w.2.2 l.it)
end M

namespace M
open PySem PySem.Spec PyProof.Rows L2
/-! ### x = {k: v for ..}, x a local of the def -/
section
variable {X : Cx}
theorem ps_setDc {i : Nat} {y : Str} {py : Pos} {kx vx tg iter : Expr} {ifs : List Expr} {scope : Scope} {own : List (Str × Nat)} {pos spos : Pos} {wi : TI} {g : TG} {tt : TT} {tk tv : TE} (hc : X.calm = true) (hN : X.N.Nodup) (hy : X.N[i]? = some y) (hyl : X.env.scope.names.lookup y = some .local)
    (hsw : swapsWith (.DictComp kx vx [⟨tg, iter, ifs, 0⟩] scope pos) (some (.Name y py)) spos.line X.env = pure true) (hi : PI X tg iter wi) (ok : BlkOk X.N X.env.scope scope own)
    (hg : ∀ (s : Shared) (H : Hp) (C : Addr) (cl : List (Str × Addr)) (fp : List Addr), PG (X.blk s H scope (compEnvC scope cl C X.env) fp) tg g) (ht : ∀ (s : Shared) (H : Hp) (C : Addr) (cl : List (Str × Addr)) (fp : List Addr), PTs (X.blk s H scope (compEnvC scope cl C X.env) fp) ifs tt)
    (hk : ∀ (s : Shared) (H : Hp) (C : Addr) (cl : List (Str × Addr)) (fp : List Addr), PE (X.blk s H scope (compEnvC scope cl C X.env) fp) kx tk)
    (he : ∀ (s : Shared) (H : Hp) (C : Addr) (cl : List (Str × Addr)) (fp : List Addr), PE (X.blk s H scope (compEnvC scope cl C X.env) fp) vx tv) (hs : ∀ x, foldedSetIterable iter X.env x = pure x := by intro _; rfl) :
    PS X (.Assign [.Name y py] (.DictComp kx vx [⟨tg, iter, ifs, 0⟩] scope pos) spos) (tAsg (tDc wi g tt tk tv (own.map (·.2))) (gName i)) := by
  refine ⟨fun pins s σ H D I h => ?_⟩
  rw [exec_Assign_Name_used _ _ _ _ hsw]
  refine wpAny_bind (wpAny_standAt (wpAny_bind ?_))
  show wpAny _ X.A (do let _ ← comprehension (.DictComp kx vx [⟨tg, iter, ifs, 0⟩] scope pos) scope X.env (firstIterPos [⟨tg, iter, ifs, 0⟩] pos) newDict false (eval iter X.env) (some (assign (.Name y py) X.env))) _ _ s
  have h : tDc wi g tt tk tv (own.map (·.2)) σ H (fun x H1 => gName i x σ H1 D.nx) := h
  refine wpAny_bind (thn (dc_core (Qf := fun _ s' => SP X pins D .next s') hc hN I hi ok hg ht hk he hs h fun L C s' m H' I' q hn f => ?_) fun _ s' hq => wpAny_pure (wpAny_pure hq))
  show wpAny _ _ (assign (.Name y py) X.env (.ref L)) _ _ _
  refine wpAny_assign_Name (store_ok2 (v := V.ref L) I' hN hy (.inl hyl) rfl (fun s2 I2 ⟨a, sb, ha⟩ => ?_) (.inr hyl))
  obtain ⟨f0, f1, f2, f3, f4, f5⟩ := f
  have haC : C ≠ a := by
    rcases ha with z | z
    · rw [z]; exact f1
    · exact fun e => f4 y a z e.symm
  refine ⟨m, hn.sameBut sb haC, fun h3 sb3 => ?_⟩
  exact ⟨_, H', I2.turned (t' := s2.toks) (fun b o hb e => (sb3.2 b hb).trans e) f0 f1 f3 f4 f5, q⟩
theorem sw_trueD {kx vx : Expr} {gs : List Comprehension} {scope : Scope} {pos py : Pos} {y : Str} {l : Nat} {env : Env} (hk : env.scope.kind = .function) (hy : env.scope.names.lookup y = some .local) (hl : (py.line == pos.line) = true)
    (ha : (scope.names.any fun (n, k) => n == y && (k == .local || k == .cell)) = false) : swapsWith (.DictComp kx vx gs scope pos) (some (.Name y py)) l env = pure true := by
  have ky : env.kindOf y = some .local := hy
  have hb : env.blockKind = .function := by unfold Env.blockKind; rw [hk]; rfl
  unfold swapsWith
  simp only [hb, ky, ha, Expr.pos, hl]
  rfl
end
end M

namespace M
open PySem PySem.Spec PyProof.Rows L2
section
variable {CN : Addr} {J J' H H' : Hp} {n : Net} {m : NM} {T C : Addr} {o u w : HO}
/-- new things stay; tuples stay -/
theorem NA.grow2 (x : NA CN J H n m) (s : Same H H') : ∃ J1, Same J J1 ∧ (∀ b u, H b = none → H' b = some u → J1 b = some u) ∧ (∀ b l, H' b = some (.tup l) → J1 b = some (.tup l)) ∧ NA CN J1 H' n m := by
  refine ⟨cut H' (m.ads n), (x.same s).restS, fun b u h e => by rw [cut_out (x.out h)]; exact e, fun b l e => ?_, (x.same s).rest⟩
  rw [cut_out fun h => ?_]
  · exact e
  · unfold NM.ads at h
    have y := x.same s
    have nt : ∀ {u : HO}, H' b = some u → (∀ l, u ≠ .tup l) → False := fun h1 h2 => by rw [e] at h1; exact h2 l (Option.some.inj h1).symm
    rcases List.mem_cons.mp h with q | h
    · exact nt (by rw [q]; exact y.hn) fun l e => by cases e
    rcases List.mem_cons.mp h with q | h
    · exact nt (by rw [q]; exact y.hV) fun l e => by cases e
    rcases List.mem_cons.mp h with q | h
    · exact nt (by rw [q]; exact y.hE) fun l e => by cases e
    rcases List.mem_append.mp h with h | h
    · obtain ⟨c, hc, q⟩ := List.mem_map.mp h
      exact nt (by rw [← q]; exact y.hq c hc) fun l e => by cases e
    · obtain ⟨c, hc, h⟩ := List.mem_flatMap.mp h
      obtain ⟨z, hz, q⟩ := List.mem_map.mp h
      exact nt (by rw [← q]; exact y.hp c hc z hz) fun l e => by cases e
end
/-- a piece whose items ascend -/
def PcUp (p : Pc) : Prop := (p.map (·.1)).Pairwise fun a b => ltS a b = true
/-! ### what a run keeps -/
structure NInv (n : Net) (z : NS) : Prop where
  it : ∀ c ∈ n.ls, c.l.it.Nodup
  hl : ∀ c ∈ n.ls, ∀ i ∈ c.l.it, (z.ver i c.l.tgt).isSome = true
  hh : ∀ h ∈ n.homes, (z.ver h.1 h.2).isSome = true
  nq : ∀ c ∈ n.ls, ∀ p ∈ z.q c.l.nm, (p.map (·.1)).Nodup
  iq : ∀ c ∈ n.ls, ∀ p ∈ z.q c.l.nm, ∀ x ∈ p, x.1 ∈ c.l.it
  uq : ∀ c ∈ n.ls, c.l.kd = some ("passing" : Str) → Uq (z.q c.l.nm)
  eq0 : ∀ c ∈ n.ls, c.l.kd = none → z.q c.l.nm = []
  iu : ∀ c ∈ n.ls, c.l.it.Pairwise fun a b => ltS a b = true
  pu : ∀ c ∈ n.ls, ∀ p ∈ z.q c.l.nm, PcUp p
theorem NInv.len {n : Net} {z : NS} (v : NInv n z) {c : NL} (hc : c ∈ n.ls) (zi : c.l.it.length ≤ 100) {p : Pc} (hp : p ∈ z.q c.l.nm) : p.length ≤ 1000 := by
  have := nodup_le (v.nq c hc p hp) (m := c.l.it) fun i hi => by
    obtain ⟨x, hx, e⟩ := List.mem_map.mp hi
    rw [← e]
    exact v.iq c hc p hp x hx
  rw [List.length_map] at this
  omega
/-- new versions are of items that are held there -/
theorem held_new {n : Net} {z : NS} (v : NInv n z) {s : Str} {f : Pc} (hf : ∀ x ∈ f, (z.ver x.1 s).isSome = true) {ws : List Nw} (w_ : NwS n.lns s f ws) : ∀ w ∈ ws, ∀ x ∈ w.2.2, (z.ver x.1 w.1).isSome = true := fun w hw x hx => by
  obtain ⟨r, h⟩ := w_.sd w hw x hx
  rcases r.at_ with e | ⟨l, hl, e, hi⟩
  · rw [e]; exact hf x h
  · obtain ⟨c, hc, rfl⟩ := List.mem_map.mp hl
    rw [← e]; exact v.hl c hc x.1 hi
theorem inst_find {n : Net} (lN : (n.ls.map (·.l.nm)).Nodup) {c : NL} (hc : c ∈ n.ls) : n.lns.find? (fun l => decide (l.nm = c.l.nm)) = some c.l := by
  cases e : n.lns.find? (fun l => decide (l.nm = c.l.nm)) with
  | none => exact absurd (decide_eq_true rfl) (List.find?_eq_none.mp e c.l (List.mem_map.mpr ⟨c, hc, rfl⟩))
  | some l =>
    have h0 := List.find?_some e
    have h1 : l.nm = c.l.nm := of_decide_eq_true h0
    obtain ⟨c', hc', rfl⟩ := List.mem_map.mp (List.mem_of_find?_eq_some e)
    rw [map_inj_of lN hc' hc h1]
/-- what a channel gets, told by the new versions -/
theorem queW_eq {ls : List Ln} {s : Str} {f : Pc} {ws : List Nw} (w_ : NwS ls s f ws) (cl : ∀ l ∈ ls, Cls1 ws l) (l : Ln) (q : List Pc) : queW ws l q = match l.kd with
    | some k => enq k q (pieceOf (newV ls s f) l)
    | none => q := by
  unfold queW
  cases hk : l.kd with
  | none => rfl
  | some k =>
    show (match ws.find? fun w => decide (w.1 = l.src) with | none => q | some w => enq k q (pieceW w.2.2 l.it)) = enq k q (pieceOf (newV ls s f) l)
    cases e : ws.find? fun w => decide (w.1 = l.src) with
    | none =>
      have : pieceOf (newV ls s f) l = [] := by
        unfold pieceOf
        refine List.filterMap_eq_nil_iff.mpr fun i _ => ?_
        rw [← w_.val cl, nwV_out fun h => ?_]
        · rfl
        · obtain ⟨w, hw, e2⟩ := List.mem_map.mp h
          exact absurd (decide_eq_true e2) (List.find?_eq_none.mp e w hw)
      rw [this, enq_nil]
    | some w =>
      have h0 := List.find?_some e
      have h1 : w.1 = l.src := of_decide_eq_true h0
      have hw := List.mem_of_find?_eq_some e
      have : pieceW w.2.2 l.it = pieceOf (newV ls s f) l := by
        unfold pieceW pieceOf
        have e2 : (fun i => (vat w.2.2 i).map fun v => (i, v)) = fun i => (newV ls s f l.src i).map fun v => (i, v) := funext fun i => by rw [← w_.val cl, ← h1, nwV_at w_.nt hw]
        rw [e2]
      show enq k q (pieceW w.2.2 l.it) = _
      rw [this]
theorem NS.inst_q {n : Net} (lN : (n.ls.map (·.l.nm)).Nodup) {c : NL} (hc : c ∈ n.ls) (z : NS) (nv : Str → Str → Option Int) : (z.inst n.lns nv).q c.l.nm = match c.l.kd with
    | some k => enq k (z.q c.l.nm) (pieceOf nv c.l)
    | none => z.q c.l.nm := by
  unfold NS.inst
  show (match n.lns.find? fun l => decide (l.nm = c.l.nm) with | some l => (match l.kd with | some k => enq k (z.q c.l.nm) (pieceOf nv l) | none => z.q c.l.nm) | none => z.q c.l.nm) = _
  rw [inst_find lN hc]
theorem map_or {a b : Option Int} : (a.map V.int).or (b.map V.int) = (a.or b).map V.int := by cases a <;> rfl
/-- a network after an install means what it should -/
theorem NOk.inst {n : Net} {m : NM} {z : NS} {s : Str} {f : Pc} {ws : List Nw} {ps' : Str → Qe} {k : Nat} (ok : NOk n m z) (lN : (n.ls.map (·.l.nm)).Nodup) (w_ : NwS n.lns s f ws) (cl : ∀ l ∈ n.lns, Cls1 ws l)
    (hq : ∀ c ∈ n.ls, (ps' c.l.nm).map (·.2) = queW ws c.l ((m.ps c.l.nm).map (·.2))) : NOk n { m with kvv := instK m.kvv ws, ps := ps', k := k } (z.inst n.lns (newV n.lns s f)) where
  v := fun i t => by
    show valV (instK m.kvv ws) (k2 i t) = _
    rw [instK_val _ i t w_.nt w_.ni, ok.v, w_.val cl, map_or]
    rfl
  q := fun c hc => by
    show (ps' c.l.nm).map (·.2) = _
    rw [hq c hc, ok.q c hc, queW_eq w_ cl, NS.inst_q lN hc]
  e := ok.e
/-! ### what is kept -/
theorem pieceOf_mem {nv : Str → Str → Option Int} {l : Ln} : ∀ x ∈ pieceOf nv l, x.1 ∈ l.it := fun x hx => by
  obtain ⟨i, hi, e⟩ := List.mem_filterMap.mp hx
  cases h : nv l.src i with
  | none => rw [h] at e; cases e
  | some v => rw [h] at e; rw [← Option.some.inj e]; exact hi
theorem pieceOf_pw {R : Str → Str → Prop} {nv : Str → Str → Option Int} {l : Ln} (h : l.it.Pairwise R) : ((pieceOf nv l).map (·.1)).Pairwise R := by
  have : (pieceOf nv l).map (·.1) = l.it.filter fun i => (nv l.src i).isSome := by
    unfold pieceOf
    generalize l.it = its
    induction its with
    | nil => rfl
    | cons i its ih =>
      rw [List.filterMap_cons, List.filter_cons]
      cases h : nv l.src i with
      | none => exact ih
      | some v => show i :: _ = i :: _; rw [← ih]
  rw [this]
  exact h.sublist List.filter_sublist
theorem foldPut_mem {p : Pc} : ∀ {q : List Pc} {w : Pc}, w ∈ p.foldl (fun q x => q.map (putIt x.1 x.2)) q → ∃ u ∈ q, u.map (·.1) = w.map (·.1) := by
  induction p with
  | nil => exact fun {q w} h => ⟨w, h, rfl⟩
  | cons x p ih =>
    intro q w h
    obtain ⟨u, hu, e⟩ := ih (q := q.map (putIt x.1 x.2)) h
    obtain ⟨u', hu', rfl⟩ := List.mem_map.mp hu
    exact ⟨u', hu', by rw [← e, putIt_keys]⟩
theorem enq_mem {k : Str} {q : List Pc} {p w : Pc} (h : w ∈ enq k q p) : (∃ u ∈ q, u.map (·.1) = w.map (·.1)) ∨ ∀ x ∈ w, x.1 ∈ p.map (·.1) := by
  unfold enq at h
  split at h
  · rcases List.mem_append.mp h with h | h
    · exact .inl ⟨w, h, rfl⟩
    · obtain ⟨x, hx, rfl⟩ := List.mem_map.mp h
      exact .inr fun y hy => by rw [List.mem_singleton.mp hy]; exact List.mem_map.mpr ⟨x, hx, rfl⟩
  · split at h
    · simp only at h
      split at h
      · exact .inl (foldPut_mem h)
      · rcases List.mem_append.mp h with h | h
        · exact .inl (foldPut_mem h)
        · rw [List.mem_singleton.mp h]
          exact .inr fun y hy => List.mem_map.mpr ⟨y, (List.mem_filter.mp hy).1, rfl⟩
    · split at h
      · exact .inl ⟨w, h, rfl⟩
      · rcases List.mem_append.mp h with h | h
        · exact .inl ⟨w, h, rfl⟩
        · rw [List.mem_singleton.mp h]
          exact .inr fun y hy => List.mem_map.mpr ⟨y, hy, rfl⟩
theorem enq_pw {R : Str → Str → Prop} {k : Str} {q : List Pc} {p w : Pc} (hq : ∀ u ∈ q, (u.map (·.1)).Pairwise R) (hp : (p.map (·.1)).Pairwise R) (h : w ∈ enq k q p) : (w.map (·.1)).Pairwise R := by
  unfold enq at h
  split at h
  · rcases List.mem_append.mp h with h | h
    · exact hq w h
    · obtain ⟨x, hx, rfl⟩ := List.mem_map.mp h
      exact List.pairwise_singleton _ _
  · split at h
    · simp only at h
      split at h
      · obtain ⟨u, hu, e⟩ := foldPut_mem h
        rw [← e]; exact hq u hu
      · rcases List.mem_append.mp h with h | h
        · obtain ⟨u, hu, e⟩ := foldPut_mem h
          rw [← e]; exact hq u hu
        · rw [List.mem_singleton.mp h]
          exact hp.sublist (List.filter_sublist.map _)
    · split at h
      · exact hq w h
      · rcases List.mem_append.mp h with h | h
        · exact hq w h
        · rw [List.mem_singleton.mp h]; exact hp
theorem fold_at {p : Pc} : ∀ {q : List Pc} {j : Nat} {w : Pc}, (p.foldl (fun q x => q.map (putIt x.1 x.2)) q)[j]? = some w → ∃ u, q[j]? = some u ∧ ∀ i, hasIt w i = hasIt u i := by
  induction p with
  | nil => exact fun {q j w} h => ⟨w, h, fun _ => rfl⟩
  | cons x p ih =>
    intro q j w h
    obtain ⟨u, hu, e⟩ := ih (q := q.map (putIt x.1 x.2)) h
    rw [List.getElem?_map] at hu
    cases hj : q[j]? with
    | none => rw [hj] at hu; cases hu
    | some u' =>
      rw [hj] at hu
      refine ⟨u', rfl, fun i => ?_⟩
      rw [e, ← Option.some.inj hu, putIt_has]
theorem enq_uq {q : List Pc} {p : Pc} (h : Uq q) : Uq (enq "passing" q p) := by
  unfold enq
  rw [if_neg (by decide), if_pos rfl]
  simp only
  have base : Uq (p.foldl (fun q x => q.map (putIt x.1 x.2)) q) := fun j j' z z' i h1 h2 h3 h4 => by
    obtain ⟨u, hu, e⟩ := fold_at h1
    obtain ⟨u', hu', e'⟩ := fold_at h2
    exact h j j' u u' i hu hu' (by rw [← e]; exact h3) (by rw [← e']; exact h4)
  have new : ∀ i, hasIt (p.filter fun x => !q.any fun w => hasIt w x.1) i = true → ∀ (j : Nat) w, (p.foldl (fun q x => q.map (putIt x.1 x.2)) q)[j]? = some w → hasIt w i = false := fun i hi j w hw => by
    obtain ⟨u, hu, e⟩ := fold_at hw
    obtain ⟨x, hx, ex⟩ := List.mem_map.mp (of_decide_eq_true hi)
    obtain ⟨_, h2⟩ := List.mem_filter.mp hx
    cases q2 : hasIt w i with
    | false => rfl
    | true =>
      have : (q.any fun w => hasIt w x.1) = true := List.any_eq_true.mpr ⟨u, List.mem_of_getElem? hu, by rw [ex, ← e]; exact q2⟩
      rw [this] at h2
      cases h2
  generalize p.foldl (fun q x => q.map (putIt x.1 x.2)) q = q' at *
  generalize (p.filter fun x => !q.any fun w => hasIt w x.1) = lf at *
  split
  · exact base
  · intro j j' z z' i h1 h2 h3 h4
    rw [List.getElem?_append] at h1 h2
    split at h1
    · split at h2
      · exact base j j' z z' i h1 h2 h3 h4
      · rename_i a b
        have e : j' - q'.length = 0 := by have := (List.getElem?_eq_some_iff.mp h2).1; simp at this; omega
        rw [e] at h2
        cases h2
        rw [new i h4 j z h1] at h3
        cases h3
    · split at h2
      · rename_i a b
        have e : j - q'.length = 0 := by have := (List.getElem?_eq_some_iff.mp h1).1; simp at this; omega
        rw [e] at h1
        cases h1
        rw [new i h3 j' z' h2] at h4
        cases h4
      · have e1 := (List.getElem?_eq_some_iff.mp h1).1
        have e2 := (List.getElem?_eq_some_iff.mp h2).1
        simp at e1 e2
        omega
theorem pieceOf_nd {nv : Str → Str → Option Int} {l : Ln} (h : l.it.Nodup) : ((pieceOf nv l).map (·.1)).Nodup := pieceOf_pw h
theorem enq_nd {k : Str} {q : List Pc} {p w : Pc} (hq : ∀ u ∈ q, (u.map (·.1)).Nodup) (hp : (p.map (·.1)).Nodup) (h : w ∈ enq k q p) : (w.map (·.1)).Nodup := enq_pw hq hp h
theorem NInv.inst {n : Net} {z : NS} (v : NInv n z) (lN : (n.ls.map (·.l.nm)).Nodup) (nv : Str → Str → Option Int) : NInv n (z.inst n.lns nv) where
  it := v.it
  hl := fun c hc i hi => by
    show ((nv c.l.tgt i).or (z.ver i c.l.tgt)).isSome = true
    have := v.hl c hc i hi
    cases nv c.l.tgt i with
    | none => exact this
    | some _ => rfl
  hh := fun h hh => by
    show ((nv h.2 h.1).or (z.ver h.1 h.2)).isSome = true
    have := v.hh h hh
    cases nv h.2 h.1 with
    | none => exact this
    | some _ => rfl
  nq := fun c hc p hp => by
    rw [NS.inst_q lN hc] at hp
    cases hk : c.l.kd with
    | none => rw [hk] at hp; exact v.nq c hc p hp
    | some k => rw [hk] at hp; exact enq_nd (v.nq c hc) (pieceOf_nd (v.it c hc)) hp
  iq := fun c hc p hp x hx => by
    rw [NS.inst_q lN hc] at hp
    cases hk : c.l.kd with
    | none => rw [hk] at hp; exact v.iq c hc p hp x hx
    | some k =>
      rw [hk] at hp
      rcases enq_mem hp with ⟨u, hu, e⟩ | h
      · have : x.1 ∈ u.map (·.1) := by rw [e]; exact List.mem_map.mpr ⟨x, hx, rfl⟩
        obtain ⟨y, hy, e2⟩ := List.mem_map.mp this
        rw [← e2]
        exact v.iq c hc u hu y hy
      · obtain ⟨y, hy, e2⟩ := List.mem_map.mp (h x hx)
        rw [← e2]
        exact pieceOf_mem y hy
  uq := fun c hc hk => by
    rw [NS.inst_q lN hc, hk]
    exact enq_uq (v.uq c hc hk)
  eq0 := fun c hc hk => by
    rw [NS.inst_q lN hc, hk]
    exact v.eq0 c hc hk
  iu := v.iu
  pu := fun c hc p hp => by
    rw [NS.inst_q lN hc] at hp
    cases hk : c.l.kd with
    | none => rw [hk] at hp; exact v.pu c hc p hp
    | some k => rw [hk] at hp; exact enq_pw (v.pu c hc) (pieceOf_pw (v.iu c hc)) hp
theorem NInv.es {n : Net} {z : NS} (v : NInv n z) (es : List Ent) : NInv n { z with es := es } := ⟨v.it, v.hl, v.hh, v.nq, v.iq, v.uq, v.eq0, v.iu, v.pu⟩
end M

namespace M
open PySem PySem.Spec PyProof.Rows L2
/-! ### ascending, of rows that ascend already -/
theorem asc_foldid {α : Type} {lt : α → α → Bool} : ∀ {l acc : List α}, (∀ x ∈ l, ∀ e ∈ acc, lt x e = false) → l.Pairwise (fun a b => lt b a = false) → l.foldl (fun acc x => insR lt x acc) acc = l.reverse ++ acc
  | [], _, _, _ => rfl
  | x :: l, acc, h, pw => by
    have p := List.pairwise_cons.mp pw
    have e : insR lt x acc = x :: acc := by
      cases acc with
      | nil => rfl
      | cons y r =>
        unfold insR
        rw [h x List.mem_cons_self y List.mem_cons_self]
        rfl
    show l.foldl _ (insR lt x acc) = _
    rw [e, asc_foldid (fun z hz e he => ?_) p.2, List.reverse_cons, List.append_assoc]
    · rfl
    · rcases List.mem_cons.mp he with rfl | he
      · exact p.1 z hz
      · exact h z (List.mem_cons_of_mem _ hz) e he
theorem asc_id {α : Type} {lt : α → α → Bool} {l : List α} (pw : l.Pairwise (fun a b => lt b a = false)) : asc lt l = l := by
  unfold asc
  rw [asc_foldid (fun _ _ _ h => by cases h) pw, List.append_nil, List.reverse_reverse]
theorem it_lt {a b : Itv} (h : ltS a.1 b.1 = true) : ltA itD b a = false := by
  have h1 : ltA itD a b = true := by
    unfold ltA itD
    rw [PySem.W.dataLt_tuple]
    simp only [PySem.W.keyToks, PySem.W.keyToksAll, List.singleton_append, List.cons_append, List.nil_append]
    have ne : a.1.cps.toList ≠ b.1.cps.toList := fun e => by
      unfold ltS at h
      rw [e] at h
      exact absurd (of_decide_eq_true h) (List.lt_irrefl _)
    rw [PyProof.Rows.lex_self, PyProof.Rows.lex_diff (fun e => ne (by simpa using e))]
    exact h
  cases q : ltA itD b a with
  | false => rfl
  | true =>
    have := PyProof.Rows.lex_trans _ _ _ h1 q
    rw [PyProof.Rows.lex_irrefl] at this
    cases this
theorem PcUp.asc {p : Pc} (h : PcUp p) : M.asc (ltA itD) p = p := asc_id ((List.pairwise_map.mp h).imp fun e => it_lt e)
theorem upS_strict {l : List Str} (nd : l.Nodup) : (upS l).Pairwise fun a b => ltS a b = true := by
  have h1 : (upS l).Pairwise fun a b => ltS b a = false := asc_up ordS fun _ _ => trivial
  have h2 : (upS l).Pairwise fun a b => a ≠ b := (upS_perm l).nodup_iff.mpr nd
  refine (h1.and h2).imp fun {a b} h => ?_
  rcases ordS.tot a b trivial trivial with q | q | q
  · exact q
  · exact absurd q h.2
  · rw [h.1] at q; cases q
theorem it_dp {K : PySem.W.Frag} {H : Hp} {v : V} {x : Itv} (h : PrA H v x) : Dp K H v (itD x) := by
  obtain ⟨t, rfl, ht⟩ := h
  exact .tup (.inl (.inl ht)) (.cons (.str _) (.cons (.int _) .nil))
theorem asc_its {K : PySem.W.Frag} {H : Hp} {Q : VK} {E : XK} {a : Addr} {vs : List V} {l : Pc} (h : H a = some (.lst vs)) (pw : Pw (PrA H) vs l) (hz : l.length ≤ 10000) (sp : Sp)
    (hsp : ∀ xs : List (V × PyData), SqL K H a (xs.map (·.1)) → (∀ p ∈ xs, Dp K H p.1 p.2 ∧ p.2 ≠ .none ∧ p.2.depth ≤ 60) → (∀ p ∈ xs, ∀ q ∈ xs, PySem.W.alike p.2 q.2 = true) → xs.length ≤ 10000 → (∀ r, H r = none → Q (.ref r) (upd H r (.lst ((asc ltP xs).map (·.1))))) → sp [.ref a] H Q E)
    (kQ : ∀ r ws, H r = none → Pw (PrA H) ws (asc (ltA itD) l) → Q (.ref r) (upd H r (.lst ws))) : sp [.ref a] H Q E := by
  refine hsp (zd itD (vs.zip l)) (by rw [zd_fst pw]; exact SqL.of h) (fun q hq => ?_) (fun q hq q2 hq2 => ?_) (by rw [zd_len pw]; exact hz) fun r hr => kQ r _ hr pw.asc
  · obtain ⟨x, _, e, hx⟩ := zd_mem hq pw
    refine ⟨by rw [e]; exact it_dp hx, (by rw [e]; exact fun z => by cases z), ?_⟩
    rw [e]
    simp [itD, PyData.depth, PyData.depthAll]
  · obtain ⟨x, _, e, _⟩ := zd_mem hq pw
    obtain ⟨x2, _, e2, _⟩ := zd_mem hq2 pw
    rw [e, e2]
    rfl
/-- the list at L of new lists rs, each with the pairs of a piece -/
structure PcsA (H0 H : Hp) (L : Addr) (rs : List Addr) (ps : List Pc) : Prop where
  s : Same H0 H
  nL : H0 L = none
  hL : H L = some (.lst (rs.map V.ref))
  nr : ∀ r ∈ rs, H0 r = none
  nd : (L :: rs).Nodup
  len : rs.length = ps.length
  at_ : ∀ (k : Nat) r p, rs[k]? = some r → ps[k]? = some p → LsA PrA H r p
theorem PcsA.start {H0 : Hp} {L : Addr} (h : H0 L = none) : PcsA H0 (upd H0 L (.lst [])) L [] [] :=
  ⟨(Same.refl _).new h, h, upd_same, fun _ h => (by cases h), List.pairwise_singleton _ _, rfl, fun k r p h => (by simp at h)⟩
theorem PcsA.same {H0 H H' : Hp} {L : Addr} {rs : List Addr} {ps : List Pc} (x : PcsA H0 H L rs ps) (s : Same H H') : PcsA H0 H' L rs ps :=
  { x with s := x.s.trans s, hL := s _ _ x.hL, at_ := fun k r p h1 h2 => (x.at_ k r p h1 h2).same stPr s }
theorem PcsA.app {H0 H : Hp} {L r : Addr} {rs : List Addr} {ps : List Pc} {p : Pc} {vs : List V} (x : PcsA H0 H L rs ps) (nr : H r = none) (hp : Pw (PrA H) vs p) : PcsA H0 (upd (upd H r (.lst vs)) L (.lst (rs.map V.ref ++ [.ref r]))) L (rs ++ [r]) (ps ++ [p]) := by
  have s1 : Same H (upd H r (.lst vs)) := (Same.refl _).new nr
  have y := x.same s1
  have hr : (upd H r (.lst vs)) r = some (.lst vs) := upd_same
  have p1 : Pw (PrA (upd H r (.lst vs))) vs p := hp.mono fun v z => stPr _ _ v z s1
  have rL : r ≠ L := fun e => by rw [e, x.hL] at nr; cases nr
  have nr0 : H0 r = none := none_of nr x.s
  have n2 := List.nodup_cons.mp x.nd
  have rr : ∀ a ∈ rs, a ≠ r := fun a ha e => by
    obtain ⟨k, hk, ek⟩ := List.getElem_of_mem ha
    have hk2 : k < ps.length := by rw [← x.len]; exact hk
    obtain ⟨vs', h1, _⟩ := x.at_ k a _ (by rw [List.getElem?_eq_getElem hk, ek]) (List.getElem?_eq_getElem hk2)
    rw [e, nr] at h1
    cases h1
  generalize upd H r (.lst vs) = H1 at *
  have keep : ∀ a q, a ≠ L → LsA PrA H1 a q → LsA PrA (upd H1 L (.lst (rs.map V.ref ++ [.ref r]))) a q := fun a q ne ⟨us, h1, h2⟩ => ⟨us, by rw [upd_ne ne]; exact h1, h2.mono fun v z ⟨t, e, ht⟩ => ⟨t, e, by rw [upd_ne (ne_kind ht y.hL (by intro e; cases e))]; exact ht⟩⟩
  refine ⟨y.s.mut x.nL, x.nL, by rw [List.map_append]; exact upd_same, fun a ha => ?_, ?_, by rw [List.length_append, List.length_append, x.len]; rfl, fun k a q h1 h2 => ?_⟩
  · rcases List.mem_append.mp ha with ha | ha
    · exact x.nr a ha
    · rw [List.mem_singleton.mp ha]; exact nr0
  · refine List.nodup_cons.mpr ⟨fun h => ?_, List.nodup_append.mpr ⟨n2.2, List.pairwise_singleton _ _, fun a ha b hb e => rr a ha (by rw [e]; exact List.mem_singleton.mp hb)⟩⟩
    rcases List.mem_append.mp h with h | h
    · exact n2.1 h
    · exact rL (List.mem_singleton.mp h).symm
  · rw [List.getElem?_append] at h1 h2
    split at h1
    · rename_i hk
      rw [if_pos (by rw [← x.len]; exact hk)] at h2
      exact keep a q (fun e => n2.1 (by rw [← e]; exact List.mem_of_getElem? h1)) (y.at_ k a q h1 h2)
    · rename_i hk
      rw [if_neg (by rw [← x.len]; exact hk)] at h2
      have e : k - rs.length = 0 := by have := (List.getElem?_eq_some_iff.mp h1).1; simp at this; omega
      rw [e] at h1
      rw [← x.len, e] at h2
      cases h1
      cases h2
      exact keep r p rL ⟨vs, hr, p1⟩
theorem thawS {H H' : Hp} {W : Addr} {o u : HO} (h : H W = some u) (s : Same (upd H W o) H') : Same H (upd H' W u) := fun b v e => by
  by_cases q : b = W
  · subst q
    rw [h] at e
    cases e
    exact upd_same
  · rw [upd_ne q]
    exact s b v (by rw [upd_ne q]; exact e)
end M

namespace M
open PySem PySem.Spec PyProof.Rows L2
/-! ### o[k], o of an own class with its own __getitem__ -/
section
variable {X : Cx}
theorem run_fnS1 {CX : CXT} {k : Nat} {f : Addr} {fd : FuncData} {ps : List Str} {sp : Sp} {E : L2.St → XK} {pins : List (Addr × Obj)} {σ : L2.St} {H : Hp} {s : Shared} {Q : VK} {us : List Value} {vs : List V} (F : FnOk X.prog X.w X.K X.mg X.base CX k f fd ps sp) (hr : Room (k + 1) X.A) (hb : Binds X.K fd ps []) (hx : PassesAt CX X σ (E σ))
    (I : Inv X pins σ H s) (r : Vals vs us) (h : sp vs H Q (E σ)) : wpAny (model X.prog X.w) X.A.in1 (call (.ref f) us) (EP X pins σ Q) X.xe s := by
  have hl : us.length = ps.length := by rw [← r.length]; exact F.len _ _ _ _ h
  have b := hb s us I.kIn (by rw [List.append_nil]; exact hl)
  rw [List.append_nil] at b
  refine wpAny_call (codeAny_mono (F.run X.A.in1 X.stack s H ⟨us, []⟩ us vs Q (E σ) hr.in1 I.env0.in1 b r h) fun r s' hq => ?_)
  cases r with
  | error e => exact hx pins H s e s' I hq
  | ok fl =>
    cases fl with
    | ret u => exact I.after hq
    | next => exact False.elim hq
    | brk => exact False.elim hq
    | cont => exact False.elim hq
structure MthG (P : Program) (w : World) (K : PySem.W.Frag) (mg : Str → Option Value) (base : Heap) (k : Nat) (C : Addr) (m : Str) (ps : List Str) (sp : Sp) : Prop where
  cl : Cls K C
  ex : ∃ (f : Addr) (fd : FuncData), Meth K C m f ∧ PySem.W.fnIn K f = true ∧ Binds K fd ps [] ∧ FnOk P w K mg base (L2.CX P w) k f fd ps sp
def tGetIt (P : Program) (w : World) (K : PySem.W.Frag) (mg : Str → Option Value) (base : Heap) (j : Nat) (W : WX) (ta tb : TE) : TE := fun σ H Q => ta σ H fun x H1 => tb σ H1 fun y H2 => ∃ (a C dx : Addr) (fs : List (Str × V)) (k : Nat) (ps : List Str) (sp : Sp), x = .ref a ∧ H2 a = some (.ins C dx fs) ∧
  MthG P w K mg base k C "__getitem__" ps sp ∧ k + 1 ≤ j ∧ sp [.ref a, y] H2 Q (WE W σ)
theorem pe_getit {j : Nat} {W : WX} {a b : Expr} {pos : Pos} {ta tb : TE} (hr : Room j X.A) (tk : Takes X W) (ha : PE X a ta) (hb : PE X b tb) (hs : ∀ v i, subscripted b true v i = runValue (.builtin "lifetime.subscript" ⟨[v, i], []⟩)) : PE X (.Subscript a b pos) (tGetIt X.prog X.w X.K X.mg X.base j W ta tb) := by
  refine ⟨fun pins s σ H Q I h => ?_⟩
  refine Subscript_ (thn (ha.run pins s σ H _ I h) fun v s1 ⟨x, H1, I1, rx, q1⟩ => thn (hb.run pins s1 σ H1 _ I1 q1) fun u s2 ⟨y, H2, I2, ry, o, C, dx, fs, k, ps, sp, ey, eo, G, hk, q⟩ => ?_)
  subst ey
  obtain rfl : v = Value.ref o := rx
  obtain ⟨f, fd, hm, hfn, hbd, F⟩ := G.ex
  obtain ⟨mA, O, _, _, _, _⟩ := ins_get I2.hok eo
  obtain ⟨od, J, _⟩ := O.look
  obtain ⟨m, hF⟩ := I2.fr
  exact PySem.W.sub_K hF I2.ok.mod.kin J hm.at_ hfn hm.fn (run_fnS1 (us := [.ref o, u]) (vs := [.ref o, y]) (E := WE W) F (hr.mono hk) hbd (passAt tk σ) I2 (.cons rfl (.cons ry .nil)) q) (hs _ _)
theorem fnIn_of {K : PySem.W.Frag} {x qual : Str} {params : Arguments} {body : List Stmt} {scope : Scope} {dvs : List V} {kws : List (Str × V)} {f : Addr} {fd : FuncData} (F : FunD K x qual params body scope dvs kws f fd) : PySem.W.fnIn K f = true := by
  obtain ⟨oc, od, dV, kV, doc, pm, an, cdv, ct, osl, _, lk, _⟩ := F.ex
  unfold PySem.W.fnIn
  rw [lk]
end
end M

namespace M
open PySem PySem.Spec PyProof.Rows L2
/-! ### a network at its start -/
def kv0 (ps : List (Str × Str)) : List (List L2.Key × V) := ps.foldl (fun kv h => putK kv (k2 h.1 h.2) (.int 0)) []
theorem kv0_snoc (ps : List (Str × Str)) (h : Str × Str) : kv0 (ps ++ [h]) = putK (kv0 ps) (k2 h.1 h.2) (.int 0) := by
  unfold kv0
  rw [List.foldl_append]
  rfl
theorem kv0_fold (i t : Str) : ∀ (ps : List (Str × Str)) (kv : List (List L2.Key × V)), valV (ps.foldl (fun kv h => putK kv (k2 h.1 h.2) (.int 0)) kv) (k2 i t) = if (i, t) ∈ ps then some (.int 0) else valV kv (k2 i t)
  | [], kv => by rw [if_neg (by simp)]; rfl
  | h :: ps, kv => by
    show valV (ps.foldl _ (putK kv (k2 h.1 h.2) (.int 0))) (k2 i t) = _
    rw [kv0_fold i t ps, valV_put]
    by_cases q : (i, t) ∈ ps
    · rw [if_pos q, if_pos (List.mem_cons_of_mem _ q)]
    · rw [if_neg q]
      by_cases e : (i, t) = h
      · rw [if_pos (by rw [← e]), if_pos (by rw [e]; exact List.mem_cons_self)]
      · rw [if_neg fun z => e (by obtain ⟨z1, z2⟩ := k2_eq.mp z; rw [z1, z2]), if_neg fun z => (List.mem_cons.mp z).elim e q]
theorem kv0_val (ps : List (Str × Str)) (i t : Str) : valV (kv0 ps) (k2 i t) = if (i, t) ∈ ps then some (.int 0) else none := kv0_fold i t ps []
theorem kv0_foldlen : ∀ (ps : List (Str × Str)) (kv : List (List L2.Key × V)), (ps.foldl (fun kv h => putK kv (k2 h.1 h.2) (.int 0)) kv).length ≤ kv.length + ps.length
  | [], kv => Nat.le_refl _
  | h :: ps, kv => by
    have h1 := kv0_foldlen ps (putK kv (k2 h.1 h.2) (.int 0))
    have h2 := M.putK_len kv (k2 h.1 h.2) (.int 0)
    show (ps.foldl _ (putK kv (k2 h.1 h.2) (.int 0))).length ≤ kv.length + (ps.length + 1)
    omega
theorem kv0_len (ps : List (Str × Str)) : (kv0 ps).length ≤ ps.length := by have := kv0_foldlen ps []; unfold kv0; simpa using this
theorem mergeK_nd : ∀ {ms kvs : List (Key × V)}, ((kvs ++ ms).map (·.1)).Nodup → mergeK kvs ms = kvs ++ ms
  | [], kvs, _ => (List.append_nil _).symm
  | p :: ms, kvs, nd => by
    show mergeK (putK kvs p.1 p.2) ms = _
    have n0 : valV kvs p.1 = none := by
      cases q : valV kvs p.1 with
      | none => rfl
      | some v =>
        have hm := valV_in q
        rw [List.map_append] at nd
        exact absurd rfl ((List.nodup_append.mp nd).2.2 _ hm _ (List.mem_map.mpr ⟨p, List.mem_cons_self, rfl⟩))
    rw [M.putK_new n0, mergeK_nd (by rw [List.append_assoc]; exact nd), List.append_assoc]
    rfl
theorem kvH_merge {hs : List (Str × Str)} (nd : (hs.map (·.1)).Nodup) : mergeK [] (kvH hs) = kvH hs := by
  refine mergeK_nd (kvs := []) ?_
  unfold kvH
  rw [List.nil_append, List.map_map]
  have : hs.map ((fun e : Key × V => e.1) ∘ fun h => (Sum.inr h.1, V.str h.2)) = (hs.map (·.1)).map Sum.inr := by rw [List.map_map]; rfl
  rw [this]
  exact List.Pairwise.map _ (fun a b h e => h (Sum.inr.inj e)) nd
/-- where versions are at the start -/
def lnP (l : Ln) : List (Str × Str) := l.it.map fun i => (i, l.tgt)
def prs0 (hs : List (Str × Str)) (ls : List Ln) : List (Str × Str) := hs ++ ls.flatMap lnP
def NS0 (hs : List (Str × Str)) (ls : List Ln) : NS := ⟨fun i t => if (i, t) ∈ prs0 hs ls then some 0 else none, fun _ => [], []⟩
theorem NInv.start {n : Net} (hi : ∀ c ∈ n.ls, c.l.it.Nodup) (hu : ∀ c ∈ n.ls, c.l.it.Pairwise fun a b => ltS a b = true) : NInv n (NS0 n.homes n.lns) where
  it := hi
  hl := fun c hc i h => by
    show (if (i, c.l.tgt) ∈ prs0 n.homes n.lns then some (0 : Int) else none).isSome = true
    have hm : (i, c.l.tgt) ∈ prs0 n.homes n.lns := List.mem_append_right _ (List.mem_flatMap.mpr ⟨c.l, List.mem_map.mpr ⟨c, hc, rfl⟩, List.mem_map.mpr ⟨i, h, rfl⟩⟩)
    rw [if_pos hm]
    rfl
  hh := fun h hh => by
    show (if (h.1, h.2) ∈ prs0 n.homes n.lns then some (0 : Int) else none).isSome = true
    have hm : (h.1, h.2) ∈ prs0 n.homes n.lns := List.mem_append_left _ hh
    rw [if_pos hm]
    rfl
  nq := fun c hc p hp => by cases hp
  iq := fun c hc p hp => by cases hp
  uq := fun c hc hk j j' z z' i h => by simp [NS0] at h
  eq0 := fun c hc hk => rfl
  iu := hu
  pu := fun c hc p hp => by cases hp
theorem NOk.start {n : Net} {m : NM} (hk : m.kvv = kv0 (prs0 n.homes n.lns)) (hp : ∀ c ∈ n.ls, m.ps c.l.nm = []) (he : m.es = []) : NOk n m (NS0 n.homes n.lns) where
  v := fun i t => by
    rw [hk, kv0_val]
    show _ = (if (i, t) ∈ prs0 n.homes n.lns then some (0 : Int) else none).map V.int
    split <;> rfl
  q := fun c hc => by rw [hp c hc]; rfl
  e := he
theorem Bd.freeze {J H : Hp} {l : List (Addr × HO)} {a : Addr} {o : HO} (x : Bd J H ((a, o) :: l)) : ∃ J1, Same J J1 ∧ J1 a = some o ∧ Bd J1 H l := by
  have n := List.nodup_cons.mp x.nd
  have y : Bd J H l := x.sub (fun z hz => List.mem_cons_of_mem _ hz) n.2
  exact ⟨cut H (ads l), y.restS, y.rest_at (x.get 0 rfl) n.1, y.rest⟩
def qT (nls : List NL) : List (Addr × HO) := nls.map fun c => (c.qa, .lst [])
theorem qT_snoc {J H : Hp} {nls : List NL} {c : NL} {z : Addr × HO} {base : List (Addr × HO)} (x : Bd J H ((c.qa, .lst []) :: z :: (qT nls ++ base))) : Bd J H (z :: (qT (nls ++ [c]) ++ base)) := by
  refine x.perm ?_
  refine (List.Perm.swap z (c.qa, .lst []) _).trans (.cons z ?_)
  unfold qT
  rw [List.map_append, List.append_assoc]
  exact List.perm_middle.symm
theorem flat_len {α β : Type} {f : α → List β} {N M : Nat} : ∀ {l : List α}, (∀ x ∈ l, (f x).length ≤ N) → l.length ≤ M → (l.flatMap f).length ≤ M * N := by
  intro l
  induction l generalizing M with
  | nil => intro _ _; exact Nat.zero_le _
  | cons x l ih =>
    intro h hl
    cases M with
    | zero => simp at hl
    | succ M =>
      rw [List.flatMap_cons, List.length_append, Nat.succ_mul]
      have h1 := h x List.mem_cons_self
      have h2 := ih (M := M) (fun y hy => h y (List.mem_cons_of_mem _ hy)) (by simpa using hl)
      omega
end M

namespace M
open PySem PySem.Spec PyProof.Rows L2
/-! ### the law's own state of a run: [versions, queues, entries] -/
/-- a waiting piece: where its list stands, what is in it, what that means -/
abbrev Lp := Addr × List V × Pc
structure LNet where
  st : Addr
  LV : Addr
  LQ : Addr
  LE : Addr
  ls : List (Ln × Addr)
structure LM where
  kvv : List (List L2.Key × V)
  ev : List V
  es : List Ent
  qs : Str → List Lp
  k : Nat
def lqV (q : List Lp) : List V := q.map fun x => .ref x.1
structure LA (J H : Hp) (n : LNet) (m : LM) : Prop where
  sj : Same J H
  jst : J n.st = some (.lst [.ref n.LV, .ref n.LQ, .ref n.LE])
  jQ : J n.LQ = some (.dK (n.ls.map fun c => (Sum.inr c.1.nm, .ref c.2)))
  je : Pw (EnA J) m.ev m.es
  jp : ∀ c ∈ n.ls, ∀ x ∈ m.qs c.1.nm, Pw (PrA J) x.2.1 x.2.2
  hV : H n.LV = some (.dT m.kvv)
  nV : J n.LV = none
  hE : H n.LE = some (.lst m.ev)
  nE : J n.LE = none
  hq : ∀ c ∈ n.ls, H c.2 = some (.lst (lqV (m.qs c.1.nm)))
  nq : ∀ c ∈ n.ls, J c.2 = none
  hp : ∀ c ∈ n.ls, ∀ x ∈ m.qs c.1.nm, H x.1 = some (.lst x.2.1)
  np : ∀ c ∈ n.ls, ∀ x ∈ m.qs c.1.nm, J x.1 = none
  dq : (n.LE :: n.ls.map (·.2)).Nodup
  dp : ∀ c ∈ n.ls, ((m.qs c.1.nm).map (·.1)).Nodup
  dpp : ∀ c ∈ n.ls, ∀ c' ∈ n.ls, c.1.nm ≠ c'.1.nm → ∀ x ∈ m.qs c.1.nm, ∀ y ∈ m.qs c'.1.nm, x.1 ≠ y.1
  dpq : ∀ c ∈ n.ls, ∀ x ∈ m.qs c.1.nm, x.1 ≠ n.LE ∧ ∀ c' ∈ n.ls, x.1 ≠ c'.2
  lN : (n.ls.map (·.1.nm)).Nodup
  zl : n.ls.length ≤ 100
  zv : m.kvv.length ≤ 20000
  zE : m.es.length ≤ m.k
  zq : ∀ c ∈ n.ls, (m.qs c.1.nm).length ≤ m.k
section
variable {J J' H H' : Hp} {n : LNet} {m : LM} {T a : Addr} {o u : HO}
theorem LA.same (x : LA J H n m) (s : Same H H') : LA J H' n m :=
  { x with sj := x.sj.trans s, hV := s _ _ x.hV, hE := s _ _ x.hE, hq := fun c hc => s _ _ (x.hq c hc), hp := fun c hc y hy => s _ _ (x.hp c hc y hy) }
theorem LA.later (x : LA J H n m) {k : Nat} (h : m.k ≤ k) : LA J H n { m with k := k } :=
  { x with zE := Nat.le_trans x.zE h, zq := fun c hc => Nat.le_trans (x.zq c hc) h }
theorem LA.Qm (x : LA J H n m) : H n.LQ = some (.dK (n.ls.map fun c => (Sum.inr c.1.nm, .ref c.2))) := x.sj _ _ x.jQ
theorem LA.getQ (x : LA J H n m) {c : Ln × Addr} (hc : c ∈ n.ls) : DGet H n.LQ (.str c.1.nm) (some (.ref c.2)) := .inl ⟨_, Sum.inr c.1.nm, .inl x.Qm, rfl, (valV_map_in (f := fun c : Ln × Addr => c.1.nm) (v := fun c : Ln × Addr => V.ref c.2) x.lN hc).symm⟩
theorem LA.qne (x : LA J H n m) {c : Ln × Addr} (hc : c ∈ n.ls) : c.2 ≠ n.LE := fun e => (List.nodup_cons.mp x.dq).1 (List.mem_map.mpr ⟨c, hc, e⟩)
theorem LA.qinj (x : LA J H n m) {c c' : Ln × Addr} (hc : c ∈ n.ls) (hc' : c' ∈ n.ls) (e : c.2 = c'.2) : c = c' := map_inj_of (List.nodup_cons.mp x.dq).2 hc hc' e
theorem LA.nmi (x : LA J H n m) {c c' : Ln × Addr} (hc : c ∈ n.ls) (hc' : c' ∈ n.ls) (e : c.1.nm = c'.1.nm) : c = c' := map_inj_of x.lN hc hc' e
theorem LA.upV (x : LA J H n m) (kv : List (List L2.Key × V)) (z : kv.length ≤ 20000) : LA J (upd H n.LV (.dT kv)) n { m with kvv := kv } :=
  { x with
    sj := x.sj.mut x.nV
    hV := upd_same
    hE := by show (upd H n.LV (.dT kv)) n.LE = _; rw [upd_ne (ne_kind x.hE x.hV (by intro e; cases e))]; exact x.hE
    hq := fun c hc => by show (upd H n.LV (.dT kv)) c.2 = _; rw [upd_ne (ne_kind (x.hq c hc) x.hV (by intro e; cases e))]; exact x.hq c hc
    hp := fun c hc y hy => by show (upd H n.LV (.dT kv)) y.1 = _; rw [upd_ne (ne_kind (x.hp c hc y hy) x.hV (by intro e; cases e))]; exact x.hp c hc y hy
    zv := z }
theorem LA.upE (x : LA J H n m) {v : V} {e : Ent} (h : EnA J v e) : LA J (upd H n.LE (.lst (m.ev ++ [v]))) n { m with ev := m.ev ++ [v], es := m.es ++ [e], k := m.k + 1 } :=
  { x with
    sj := x.sj.mut x.nE
    je := x.je.snoc h
    hV := by show (upd H n.LE _) n.LV = _; rw [upd_ne (ne_kind x.hV x.hE (by intro e; cases e))]; exact x.hV
    hE := upd_same
    hq := fun c hc => by show (upd H n.LE _) c.2 = _; rw [upd_ne (x.qne hc)]; exact x.hq c hc
    hp := fun c hc y hy => by show (upd H n.LE _) y.1 = _; rw [upd_ne (x.dpq c hc y hy).1]; exact x.hp c hc y hy
    zE := by show (m.es ++ [e]).length ≤ m.k + 1; rw [List.length_append]; exact Nat.add_le_add_right x.zE 1
    zq := fun c hc => Nat.le_succ_of_le (x.zq c hc) }
def qsW (qs : Str → List Lp) (c : Str) (q : List Lp) : Str → List Lp := fun d => if d = c then q else qs d
theorem qsW_same {qs : Str → List Lp} {c : Str} {q : List Lp} : qsW qs c q c = q := if_pos rfl
theorem qsW_ne {qs : Str → List Lp} {c d : Str} {q : List Lp} (h : d ≠ c) : qsW qs c q d = qs d := if_neg h
/-- a queue's pieces: some of those that were there, or new ones -/
theorem LA.upQ (x : LA J H n m) {c : Ln × Addr} (hc : c ∈ n.ls) (q : List Lp) (k : Nat) (zk : q.length ≤ k) (hk : m.k ≤ k) (nd : (q.map (·.1)).Nodup) (hh : ∀ y ∈ q, H y.1 = some (.lst y.2.1)) (hj : ∀ y ∈ q, J y.1 = none) (hpw : ∀ y ∈ q, Pw (PrA J) y.2.1 y.2.2)
    (hd : ∀ c' ∈ n.ls, c'.1.nm ≠ c.1.nm → ∀ y ∈ q, ∀ z ∈ m.qs c'.1.nm, y.1 ≠ z.1) (hdq : ∀ y ∈ q, y.1 ≠ n.LE ∧ ∀ c' ∈ n.ls, y.1 ≠ c'.2) : LA J (upd H c.2 (.lst (lqV q))) n { m with qs := qsW m.qs c.1.nm q, k := k } := by
  have hcq := x.hq c hc
  have low : ∀ c' ∈ n.ls, ∀ y ∈ qsW m.qs c.1.nm q c'.1.nm, H y.1 = some (.lst y.2.1) ∧ J y.1 = none ∧ Pw (PrA J) y.2.1 y.2.2 ∧ (y.1 ≠ n.LE ∧ ∀ c' ∈ n.ls, y.1 ≠ c'.2) := fun c' hc' y hy => by
    by_cases e : c'.1.nm = c.1.nm
    · rw [e, qsW_same] at hy; exact ⟨hh y hy, hj y hy, hpw y hy, hdq y hy⟩
    · rw [qsW_ne e] at hy; exact ⟨x.hp c' hc' y hy, x.np c' hc' y hy, x.jp c' hc' y hy, x.dpq c' hc' y hy⟩
  exact { x with
    sj := x.sj.mut (x.nq c hc)
    jp := fun c' hc' y hy => (low c' hc' y hy).2.2.1
    hV := by show (upd H c.2 _) n.LV = _; rw [upd_ne (ne_kind x.hV hcq (by intro e; cases e))]; exact x.hV
    hE := by show (upd H c.2 _) n.LE = _; rw [upd_ne (Ne.symm (x.qne hc))]; exact x.hE
    hq := fun c' hc' => by
      show (upd H c.2 _) c'.2 = some (.lst (lqV (qsW m.qs c.1.nm q c'.1.nm)))
      by_cases e : c'.1.nm = c.1.nm
      · rw [x.nmi hc' hc e, upd_same, qsW_same]
      · rw [upd_ne (fun z => e (by rw [x.qinj hc' hc z])), qsW_ne e]; exact x.hq c' hc'
    hp := fun c' hc' y hy => by
      have l := low c' hc' y hy
      show (upd H c.2 _) y.1 = _
      rw [upd_ne (l.2.2.2.2 c hc)]
      exact l.1
    np := fun c' hc' y hy => (low c' hc' y hy).2.1
    dp := fun c' hc' => by
      show ((qsW m.qs c.1.nm q c'.1.nm).map (·.1)).Nodup
      by_cases e : c'.1.nm = c.1.nm
      · rw [e, qsW_same]; exact nd
      · rw [qsW_ne e]; exact x.dp c' hc'
    dpp := fun c1 h1 c2 h2 ne y hy z hz => by
      have hy : y ∈ qsW m.qs c.1.nm q c1.1.nm := hy
      have hz : z ∈ qsW m.qs c.1.nm q c2.1.nm := hz
      by_cases e1 : c1.1.nm = c.1.nm
      · have e2 : c2.1.nm ≠ c.1.nm := fun e => ne (by rw [e1, e])
        rw [e1, qsW_same] at hy
        rw [qsW_ne e2] at hz
        exact hd c2 h2 e2 y hy z hz
      · rw [qsW_ne e1] at hy
        by_cases e2 : c2.1.nm = c.1.nm
        · rw [e2, qsW_same] at hz
          exact Ne.symm (hd c1 h1 e1 z hz y hy)
        · rw [qsW_ne e2] at hz
          exact x.dpp c1 h1 c2 h2 ne y hy z hz
    dpq := fun c' hc' y hy => (low c' hc' y hy).2.2.2
    zE := Nat.le_trans x.zE hk
    zq := fun c' hc' => by
      show (qsW m.qs c.1.nm q c'.1.nm).length ≤ k
      by_cases e : c'.1.nm = c.1.nm
      · rw [e, qsW_same]; exact zk
      · rw [qsW_ne e]; exact Nat.le_trans (x.zq c' hc') hk }
theorem LA.push (x : LA J H n m) {c : Ln × Addr} (hc : c ∈ n.ls) {vs : List V} {p : Pc} (hT : H T = some (.lst vs)) (jT : J T = none) (pw : Pw (PrA J) vs p) (f : ∀ c' ∈ n.ls, ∀ y ∈ m.qs c'.1.nm, T ≠ y.1) (g : T ≠ n.LE ∧ ∀ c' ∈ n.ls, T ≠ c'.2) :
    LA J (upd H c.2 (.lst (lqV (m.qs c.1.nm) ++ [.ref T]))) n { m with qs := qsW m.qs c.1.nm (m.qs c.1.nm ++ [(T, vs, p)]), k := m.k + 1 } := by
  have e : lqV (m.qs c.1.nm) ++ [V.ref T] = lqV (m.qs c.1.nm ++ [(T, vs, p)]) := by unfold lqV; rw [List.map_append]; rfl
  rw [e]
  have key : ∀ {Q : Lp → Prop}, (∀ y ∈ m.qs c.1.nm, Q y) → Q (T, vs, p) → ∀ y ∈ m.qs c.1.nm ++ [(T, vs, p)], Q y := fun h1 h2 y hy => by
    rcases List.mem_append.mp hy with hy | hy
    · exact h1 y hy
    · rw [List.mem_singleton.mp hy]; exact h2
  refine x.upQ hc _ _ (by rw [List.length_append]; exact Nat.add_le_add_right (x.zq c hc) 1) (Nat.le_succ _) ?_ (key (x.hp c hc) hT) (key (x.np c hc) jT) (key (x.jp c hc) pw) (fun c' hc' ne => key (fun y hy => x.dpp c hc c' hc' (Ne.symm ne) y hy) (f c' hc')) (key (x.dpq c hc) g)
  rw [List.map_append]
  exact List.nodup_append.mpr ⟨x.dp c hc, List.pairwise_singleton _ _, fun a ha b hb q => by
    obtain ⟨y, hy, rfl⟩ := List.mem_map.mp ha
    rw [List.mem_singleton.mp hb] at q
    exact f c hc y hy q.symm⟩
def LM.ads (n : LNet) (m : LM) : List Addr := n.LV :: n.LE :: (n.ls.map (·.2) ++ n.ls.flatMap fun c => (m.qs c.1.nm).map (·.1))
theorem LA.none_ads (x : LA J H n m) (h : a ∈ m.ads n) : J a = none := by
  unfold LM.ads at h
  rcases List.mem_cons.mp h with e | h
  · rw [e]; exact x.nV
  rcases List.mem_cons.mp h with e | h
  · rw [e]; exact x.nE
  rcases List.mem_append.mp h with h | h
  · obtain ⟨c, hc, e⟩ := List.mem_map.mp h
    rw [← e]; exact x.nq c hc
  · obtain ⟨c, hc, h⟩ := List.mem_flatMap.mp h
    obtain ⟨y, hy, e⟩ := List.mem_map.mp h
    rw [← e]; exact x.np c hc y hy
theorem LA.some_ads (x : LA J H n m) (h : a ∈ m.ads n) : ∃ u, H a = some u ∧ ∀ l, u ≠ .tup l := by
  unfold LM.ads at h
  rcases List.mem_cons.mp h with e | h
  · rw [e]; exact ⟨_, x.hV, fun l e => by cases e⟩
  rcases List.mem_cons.mp h with e | h
  · rw [e]; exact ⟨_, x.hE, fun l e => by cases e⟩
  rcases List.mem_append.mp h with h | h
  · obtain ⟨c, hc, e⟩ := List.mem_map.mp h
    rw [← e]; exact ⟨_, x.hq c hc, fun l e => by cases e⟩
  · obtain ⟨c, hc, h⟩ := List.mem_flatMap.mp h
    obtain ⟨y, hy, e⟩ := List.mem_map.mp h
    rw [← e]; exact ⟨_, x.hp c hc y hy, fun l e => by cases e⟩
theorem LA.base (x : LA J H n m) (s : Same J J') (sj : Same J' H) (h : ∀ a ∈ m.ads n, J' a = none) : LA J' H n m :=
  { x with
    sj := sj
    jst := s _ _ x.jst
    jQ := s _ _ x.jQ
    je := x.je.mono fun v e => stEn _ _ _ _ s
    jp := fun c hc y hy => (x.jp c hc y hy).mono fun v e => stPr _ _ _ _ s
    nV := h _ List.mem_cons_self
    nE := h _ (List.mem_cons_of_mem _ List.mem_cons_self)
    nq := fun c hc => h _ (List.mem_cons_of_mem _ (List.mem_cons_of_mem _ (List.mem_append_left _ (List.mem_map.mpr ⟨c, hc, rfl⟩))))
    np := fun c hc y hy => h _ (List.mem_cons_of_mem _ (List.mem_cons_of_mem _ (List.mem_append_right _ (List.mem_flatMap.mpr ⟨c, hc, List.mem_map.mpr ⟨y, hy, rfl⟩⟩)))) }
theorem LA.restS (x : LA J H n m) : Same J (cut H (m.ads n)) := fun b v e => by
  rw [cut_out fun h => by rw [x.none_ads h] at e; cases e]
  exact x.sj _ _ e
theorem LA.rest (x : LA J H n m) : LA (cut H (m.ads n)) H n m := x.base x.restS cut_all fun a h => cut_in h
theorem LA.out (x : LA J H n m) (h : H a = none) : a ∉ m.ads n := fun q => by
  obtain ⟨u, e, _⟩ := x.some_ads q
  rw [h] at e
  cases e
theorem LA.grow (x : LA J H n m) (s : Same H H') : ∃ J1, Same J J1 ∧ (∀ b u, H b = none → H' b = some u → J1 b = some u) ∧ (∀ b l, H' b = some (.tup l) → J1 b = some (.tup l)) ∧ LA J1 H' n m := by
  refine ⟨cut H' (m.ads n), (x.same s).restS, fun b u h e => by rw [cut_out (x.out h)]; exact e, fun b l e => ?_, (x.same s).rest⟩
  rw [cut_out fun h => ?_]
  · exact e
  · obtain ⟨u, h1, h2⟩ := (x.same s).some_ads h
    rw [e] at h1
    exact h2 l (Option.some.inj h1).symm
theorem LA.fresh (x : LA J H n m) (n0 : H T = none) : J T = none ∧ (∀ c ∈ n.ls, ∀ y ∈ m.qs c.1.nm, T ≠ y.1) ∧ (T ≠ n.LE ∧ ∀ c ∈ n.ls, T ≠ c.2) :=
  ⟨none_of n0 x.sj, fun c hc y hy => Ne.symm (ne_of_none (x.hp c hc y hy) n0), Ne.symm (ne_of_none x.hE n0), fun c hc => Ne.symm (ne_of_none (x.hq c hc) n0)⟩
/-- all keys are pairs of texts -/
def Kf (kv : List (List L2.Key × V)) : Prop := ∀ e ∈ kv, ∃ i t, e.1 = k2 i t
theorem Kf.put {kv : List (List L2.Key × V)} (h : Kf kv) (i t : Str) (v : V) : Kf (putK kv (k2 i t) v) := fun e he => by
  rcases M.putK_mem he with q | ⟨e', h1, h2⟩
  · exact ⟨i, t, q⟩
  · obtain ⟨j, u, q⟩ := h e' h1
    exact ⟨j, u, by rw [← h2, q]⟩
theorem Kf.fold : ∀ {ps : List (Str × Str)} {kv : List (List L2.Key × V)}, Kf kv → Kf (ps.foldl (fun kv h => putK kv (k2 h.1 h.2) (.int 0)) kv)
  | [], _, h => h
  | p :: ps, _, h => Kf.fold (ps := ps) (h.put p.1 p.2 _)
theorem Kf.kv0 (ps : List (Str × Str)) : Kf (kv0 ps) := Kf.fold (fun e h => by cases h)
theorem Kf.putW {t : Str} : ∀ {p : Pc} {kv : List (List L2.Key × V)}, Kf kv → Kf (putW kv t p)
  | [], _, h => h
  | x :: p, _, h => Kf.putW (p := p) (h.put x.1 t _)
theorem Kf.instK : ∀ {ws : List Nw} {kv : List (List L2.Key × V)}, Kf kv → Kf (instK kv ws)
  | [], _, h => h
  | w :: ws, _, h => Kf.instK (ws := ws) (Kf.putW h)
/-- what it means -/
structure LOk (n : LNet) (m : LM) (z : NS) : Prop where
  v : ∀ i t, valV m.kvv (k2 i t) = (z.ver i t).map V.int
  q : ∀ c ∈ n.ls, (m.qs c.1.nm).map (·.2.2) = z.q c.1.nm
  e : m.es = z.es
  kf : Kf m.kvv
end
end M

namespace M
open PySem PySem.Spec PyProof.Rows L2
/-- an entry whose lists are new -/
def EnN (H0 : Hp) (H : Hp) (v : V) (e : Ent) : Prop := ∃ t r w, v = .ref t ∧ H0 r = none ∧ H0 w = none ∧ H t = some (.tup [.str e.1, .ref r, .ref w]) ∧ LsA PrA H r e.2.1 ∧ LsA PrA H w e.2.2
theorem stEnN (H0 : Hp) : Stay (EnN H0) := fun H H' v x s ⟨t, r, w, e, n1, n2, h, h1, h2⟩ => ⟨t, r, w, e, n1, n2, s _ _ h, h1.same stPr s, h2.same stPr s⟩
theorem EnN.en {H0 H : Hp} {v : V} {e : Ent} (h : EnN H0 H v e) : EnA H v e := by
  obtain ⟨t, r, w, rfl, _, _, h, h1, h2⟩ := h
  exact ⟨t, r, w, rfl, h, h1, h2⟩
theorem EnN.mono {H0 H1 H : Hp} {v : V} {e : Ent} (h : EnN H1 H v e) (s : Same H0 H1) : EnN H0 H v e := by
  obtain ⟨t, r, w, rfl, n1, n2, h, h1, h2⟩ := h
  exact ⟨t, r, w, rfl, none_of n1 s, none_of n2 s, h, h1, h2⟩
/-- what is cut away holds no tuples, nor lists that are new -/
theorem EnN.cut {J J' : Hp} {B : List Addr} {v : V} {e : Ent} (h : EnN J J' v e) (hB : ∀ b ∈ B, (∃ u, J b = some u) ∧ ∀ l, J' b ≠ some (.tup l)) : EnA (M.cut J' B) v e := by
  obtain ⟨t, r, w, rfl, n1, n2, h, h1, h2⟩ := h
  have tu : ∀ {b : Addr} {l}, J' b = some (.tup l) → M.cut J' B b = some (.tup l) := fun q => by rw [cut_out fun hb => (hB _ hb).2 _ q]; exact q
  have ls : ∀ {b : Addr} {l}, J b = none → LsA PrA J' b l → LsA PrA (M.cut J' B) b l := fun n0 ⟨vs, q, pw⟩ => ⟨vs, by rw [cut_out fun hb => by obtain ⟨u, hu⟩ := (hB _ hb).1; rw [n0] at hu; cases hu]; exact q, pw.mono fun v x ⟨t, e, ht⟩ => ⟨t, e, tu ht⟩⟩
  exact ⟨t, r, w, rfl, tu h, ls n1 h1, ls n2 h2⟩
section
variable {CN : Addr} {J J1 J' H H' : Hp} {n : Net} {m m' : NM} {ln : LNet} {lm lm' : LM} {T p : Addr} {o u : HO} {ds ds' : List Int}
/-- less stays -/
theorem NA.down (y : NA CN J' H' n m') (x : NA CN J H n m) (s1 : Same J J1) (s2 : Same J1 J') (je : Pw (EnA J1) m'.ev m'.es) : NA CN J1 H' n m' :=
  { y with
    sj := s2.trans y.sj
    jP := s1 _ _ x.jP
    jS := s1 _ _ x.jS
    jC := s1 _ _ x.jC
    jQ := s1 _ _ x.jQ
    jt := fun c hc => s1 _ _ (x.jt c hc)
    jl := fun c hc => s1 _ _ (x.jl c hc)
    je := je
    nn := none_of y.nn s2
    nV := none_of y.nV s2
    nE := none_of y.nE s2
    nq := fun c hc => none_of (y.nq c hc) s2
    np := fun c hc z hz => none_of (y.np c hc z hz) s2 }
theorem LA.down (y : LA J' H' ln lm') (x : LA J H ln lm) (s1 : Same J J1) (s2 : Same J1 J') (je : Pw (EnA J1) lm'.ev lm'.es) (jp : ∀ c ∈ ln.ls, ∀ z ∈ lm'.qs c.1.nm, Pw (PrA J1) z.2.1 z.2.2) : LA J1 H' ln lm' :=
  { y with
    sj := s2.trans y.sj
    jst := s1 _ _ x.jst
    jQ := s1 _ _ x.jQ
    je := je
    jp := jp
    nV := none_of y.nV s2
    nE := none_of y.nE s2
    nq := fun c hc => none_of (y.nq c hc) s2
    np := fun c hc z hz => none_of (y.np c hc z hz) s2 }
/-- something else changes -/
theorem NA.upO (x : NA CN J H n m) (h : J p = none) (hp : p ∉ m.ads n) (o : HO) : NA CN J (upd H p o) n m := by
  have ne : ∀ {a : Addr}, a ∈ m.ads n → a ≠ p := fun ha e => hp (by rw [← e]; exact ha)
  exact { x with
    sj := x.sj.mut h
    hn := by rw [upd_ne (ne ads_n)]; exact x.hn
    hV := by rw [upd_ne (ne ads_V)]; exact x.hV
    hE := by rw [upd_ne (ne ads_E)]; exact x.hE
    hq := fun c hc => by rw [upd_ne (ne (ads_q hc))]; exact x.hq c hc
    hp := fun c hc y hy => by rw [upd_ne (ne (ads_p hc hy))]; exact x.hp c hc y hy }
theorem lads_V {n : LNet} {m : LM} : n.LV ∈ m.ads n := List.mem_cons_self
theorem lads_E {n : LNet} {m : LM} : n.LE ∈ m.ads n := List.mem_cons_of_mem _ List.mem_cons_self
theorem lads_q {n : LNet} {m : LM} {c : Ln × Addr} (hc : c ∈ n.ls) : c.2 ∈ m.ads n := List.mem_cons_of_mem _ (List.mem_cons_of_mem _ (List.mem_append_left _ (List.mem_map.mpr ⟨c, hc, rfl⟩)))
theorem lads_p {n : LNet} {m : LM} {c : Ln × Addr} (hc : c ∈ n.ls) {y : Lp} (hy : y ∈ m.qs c.1.nm) : y.1 ∈ m.ads n := List.mem_cons_of_mem _ (List.mem_cons_of_mem _ (List.mem_append_right _ (List.mem_flatMap.mpr ⟨c, hc, List.mem_map.mpr ⟨y, hy, rfl⟩⟩)))
theorem LA.upO (x : LA J H ln lm) (h : J p = none) (hp : p ∉ lm.ads ln) (o : HO) : LA J (upd H p o) ln lm := by
  have ne : ∀ {a : Addr}, a ∈ lm.ads ln → a ≠ p := fun ha e => hp (by rw [← e]; exact ha)
  exact { x with
    sj := x.sj.mut h
    hV := by rw [upd_ne (ne lads_V)]; exact x.hV
    hE := by rw [upd_ne (ne lads_E)]; exact x.hE
    hq := fun c hc => by rw [upd_ne (ne (lads_q hc))]; exact x.hq c hc
    hp := fun c hc y hy => by rw [upd_ne (ne (lads_p hc hy))]; exact x.hp c hc y hy }
/-! ### where a law on runs stands: the draws at p, the network, the law's own state; J is all else -/
structure RS (CN : Addr) (J H : Hp) (p : Addr) (ds : List Int) (n : Net) (m : NM) (ln : LNet) (lm : LM) : Prop where
  na : NA CN J H n m
  la : LA J H ln lm
  hp : H p = some (.lst (ds.map V.int))
  np : J p = none
  pn : p ∉ m.ads n
  pl : p ∉ lm.ads ln
  nl : ∀ a ∈ m.ads n, a ∉ lm.ads ln
  dr : Dr ds
theorem RS.draw (x : RS CN J H p ds n m ln lm) (h : Dr ds') : RS CN J (upd H p (.lst (ds'.map V.int))) p ds' n m ln lm :=
  ⟨x.na.upO x.np x.pn _, x.la.upO x.np x.pl _, upd_same, x.np, x.pn, x.pl, x.nl, h⟩
/-- what is neither the draws nor theirs -/
def RS.mx (H : Hp) (p : Addr) (n : Net) (m : NM) (ln : LNet) (lm : LM) : Hp := cut H (p :: (m.ads n ++ lm.ads ln))
/-- new things stay -/
theorem RS.grow (x : RS CN J H p ds n m ln lm) (s : Same H H') : ∃ J1, Same J J1 ∧ (∀ b u, H b = none → H' b = some u → J1 b = some u) ∧ (∀ b l, H' b = some (.tup l) → J1 b = some (.tup l)) ∧ RS CN J1 H' p ds n m ln lm := by
  have na := x.na.same s
  have la := x.la.same s
  have all : ∀ a ∈ p :: (m.ads n ++ lm.ads ln), J a = none ∧ (∃ u, H a = some u) ∧ ∀ l, H' a ≠ some (.tup l) := fun a ha => by
    rcases List.mem_cons.mp ha with rfl | ha
    · exact ⟨x.np, ⟨_, x.hp⟩, fun l e => by rw [s _ _ x.hp] at e; cases e⟩
    · rcases List.mem_append.mp ha with ha | ha
      · refine ⟨x.na.none_ads ha, x.na.some_ads ha, fun l e => ?_⟩
        obtain ⟨J2, _, _, t2, y2⟩ := x.na.grow2 s
        have := y2.none_ads ha
        rw [t2 _ _ e] at this
        cases this
      · obtain ⟨u, h1, h2⟩ := x.la.some_ads ha
        exact ⟨x.la.none_ads ha, ⟨u, h1⟩, fun l e => by rw [s _ _ h1] at e; exact h2 l (Option.some.inj e)⟩
  have sJ : Same J (cut H' (p :: (m.ads n ++ lm.ads ln))) := fun b v e => by
    rw [cut_out fun h => by rw [(all b h).1] at e; cases e]
    exact na.sj _ _ e
  refine ⟨_, sJ, fun b u h e => ?_, fun b l e => ?_, na.base sJ cut_all fun a h => cut_in (List.mem_cons_of_mem _ (List.mem_append_left _ h)), la.base sJ cut_all fun a h => cut_in (List.mem_cons_of_mem _ (List.mem_append_right _ h)), s _ _ x.hp, cut_in List.mem_cons_self, x.pn, x.pl, x.nl, x.dr⟩
  · rw [cut_out fun hb => by obtain ⟨w, hw⟩ := (all b hb).2.1; rw [h] at hw; cases hw]
    exact e
  · rw [cut_out fun hb => (all b hb).2.2 l e]
    exact e
/-- a deed of the network -/
theorem RS.deedN (x : RS CN J H p ds n m ln lm) (X : List Addr) (hX : ∀ b ∈ X, J b = none ∧ ∃ u, cut H (m.ads n) b = some u ∧ ∀ l, u ≠ .tup l) (sJ : Same (cut H (m.ads n)) J') (y : NA CN J' H' n m') (he : (m'.ev = m.ev ∧ m'.es = m.es) ∨ ∃ v e, m'.ev = m.ev ++ [v] ∧ m'.es = m.es ++ [e] ∧ EnN (cut H (m.ads n)) J' v e) :
    ∃ J1, Same J J1 ∧ Same J1 J' ∧ (∀ b ∈ X, J1 b = none) ∧ (∀ b u, cut H (m.ads n) b = none → J' b = some u → J1 b = some u) ∧ (∀ b u, b ∉ X → b ≠ p → b ∉ lm.ads ln → J' b = some u → J1 b = some u) ∧ (∀ b l, J' b = some (.tup l) → J1 b = some (.tup l)) ∧ RS CN J1 H' p ds n m' ln lm := by
  have all : ∀ b ∈ p :: (lm.ads ln ++ X), J b = none ∧ ∃ u, H b = some u ∧ cut H (m.ads n) b = some u ∧ J' b = some u ∧ ∀ l, u ≠ .tup l := fun b hb => by
    rcases List.mem_cons.mp hb with rfl | hb
    · have h1 : cut H (m.ads n) b = some (.lst (ds.map V.int)) := by rw [cut_out x.pn]; exact x.hp
      exact ⟨x.np, _, x.hp, h1, sJ _ _ h1, fun l e => by cases e⟩
    rcases List.mem_append.mp hb with hb | hb
    · obtain ⟨u, h1, h2⟩ := x.la.some_ads hb
      have h3 : cut H (m.ads n) b = some u := by rw [cut_out fun h => x.nl _ h hb]; exact h1
      exact ⟨x.la.none_ads hb, u, h1, h3, sJ _ _ h3, h2⟩
    · obtain ⟨h1, u, h2, h3⟩ := hX b hb
      exact ⟨h1, u, cut_all _ _ h2, h2, sJ _ _ h2, h3⟩
  have sJ1 : Same J (cut J' (p :: (lm.ads ln ++ X))) := fun b v e => by
    rw [cut_out fun h => by rw [(all b h).1] at e; cases e]
    exact sJ _ _ (x.na.restS _ _ e)
  have tup : ∀ b l, J' b = some (.tup l) → cut J' (p :: (lm.ads ln ++ X)) b = some (.tup l) := fun b l e => by
    rw [cut_out fun h => by obtain ⟨_, u, _, _, h3, h4⟩ := all b h; rw [e] at h3; exact h4 l (Option.some.inj h3).symm]
    exact e
  have hb : ∀ b ∈ p :: (lm.ads ln ++ X), ∀ u, H b = some u → H' b = some u := fun b h u e => by
    obtain ⟨_, w, h1, _, h3, _⟩ := all b h
    rw [e] at h1
    cases h1
    exact y.sj _ _ h3
  have je : Pw (EnA (cut J' (p :: (lm.ads ln ++ X)))) m'.ev m'.es := by
    have old := x.na.je.mono fun v e => stEn _ _ v e sJ1
    rcases he with ⟨h1, h2⟩ | ⟨v, e, h1, h2, h3⟩
    · rw [h1, h2]; exact old
    · rw [h1, h2]
      exact old.snoc (h3.cut fun b hb => by
        obtain ⟨_, u, _, h4, h5, h6⟩ := all b hb
        exact ⟨⟨u, h4⟩, fun l e => h6 l (by rw [h5] at e; exact Option.some.inj e)⟩)
  have mem : ∀ {a : Addr}, a ∈ lm.ads ln → a ∈ p :: (lm.ads ln ++ X) := fun h => List.mem_cons_of_mem _ (List.mem_append_left _ h)
  refine ⟨_, sJ1, cut_all, fun b h => cut_in (List.mem_cons_of_mem _ (List.mem_append_right _ h)), fun b u h e => ?_, fun b u h1 h2 h3 e => ?_, tup, y.down x.na sJ1 cut_all je, ?_, hb _ List.mem_cons_self _ x.hp, cut_in List.mem_cons_self, fun h => ?_, x.pl, fun a ha hl => ?_, x.dr⟩
  · rw [cut_out fun hm => by obtain ⟨_, w, _, h4, _⟩ := all b hm; rw [h] at h4; cases h4]
    exact e
  · rw [cut_out fun hm => by
      rcases List.mem_cons.mp hm with q | hm
      · exact h2 q
      · exact (List.mem_append.mp hm).elim h3 h1]
    exact e
  · exact { x.la with
      sj := cut_all.trans y.sj
      jst := sJ1 _ _ x.la.jst
      jQ := sJ1 _ _ x.la.jQ
      je := x.la.je.mono fun v e => stEn _ _ v e sJ1
      jp := fun c hc z hz => (x.la.jp c hc z hz).mono fun v e => stPr _ _ v e sJ1
      hV := hb _ (mem lads_V) _ x.la.hV
      nV := cut_in (mem lads_V)
      hE := hb _ (mem lads_E) _ x.la.hE
      nE := cut_in (mem lads_E)
      hq := fun c hc => hb _ (mem (lads_q hc)) _ (x.la.hq c hc)
      nq := fun c hc => cut_in (mem (lads_q hc))
      hp := fun c hc z hz => hb _ (mem (lads_p hc hz)) _ (x.la.hp c hc z hz)
      np := fun c hc z hz => cut_in (mem (lads_p hc hz)) }
  · obtain ⟨_, u, _, _, h5, _⟩ := all p List.mem_cons_self
    rw [y.none_ads h] at h5
    cases h5
  · obtain ⟨_, u, _, _, h5, _⟩ := all a (mem hl)
    rw [y.none_ads ha] at h5
    cases h5
/-- a deed on the law's own state -/
theorem RS.deedL (x : RS CN J H p ds n m ln lm) (X : List Addr) (hX : ∀ b ∈ X, J b = none ∧ ∃ u, cut H (lm.ads ln) b = some u ∧ ∀ l, u ≠ .tup l) (sJ : Same (cut H (lm.ads ln)) J') (y : LA J' H' ln lm') (he : (lm'.ev = lm.ev ∧ lm'.es = lm.es) ∨ ∃ v e, lm'.ev = lm.ev ++ [v] ∧ lm'.es = lm.es ++ [e] ∧ EnN (cut H (lm.ads ln)) J' v e) :
    ∃ J1, Same J J1 ∧ Same J1 J' ∧ (∀ b ∈ X, J1 b = none) ∧ (∀ b u, cut H (lm.ads ln) b = none → J' b = some u → J1 b = some u) ∧ (∀ b l, J' b = some (.tup l) → J1 b = some (.tup l)) ∧ RS CN J1 H' p ds n m ln lm' := by
  have ntup : ∀ {a : Addr}, a ∈ m.ads n → ∃ u, H a = some u ∧ ∀ l, u ≠ .tup l := fun h => by
    obtain ⟨u, h1⟩ := x.na.some_ads h
    refine ⟨u, h1, fun l e => ?_⟩
    obtain ⟨J2, _, _, t2, y2⟩ := x.na.grow2 (Same.refl H)
    have := y2.none_ads h
    rw [t2 _ l (by rw [h1, e])] at this
    cases this
  have all : ∀ b ∈ p :: (m.ads n ++ X), J b = none ∧ ∃ u, H b = some u ∧ cut H (lm.ads ln) b = some u ∧ J' b = some u ∧ ∀ l, u ≠ .tup l := fun b hb => by
    rcases List.mem_cons.mp hb with rfl | hb
    · have h1 : cut H (lm.ads ln) b = some (.lst (ds.map V.int)) := by rw [cut_out x.pl]; exact x.hp
      exact ⟨x.np, _, x.hp, h1, sJ _ _ h1, fun l e => by cases e⟩
    rcases List.mem_append.mp hb with hb | hb
    · obtain ⟨u, h1, h2⟩ := ntup hb
      have h3 : cut H (lm.ads ln) b = some u := by rw [cut_out fun h => x.nl _ hb h]; exact h1
      exact ⟨x.na.none_ads hb, u, h1, h3, sJ _ _ h3, h2⟩
    · obtain ⟨h1, u, h2, h3⟩ := hX b hb
      exact ⟨h1, u, cut_all _ _ h2, h2, sJ _ _ h2, h3⟩
  have sJ1 : Same J (cut J' (p :: (m.ads n ++ X))) := fun b v e => by
    rw [cut_out fun h => by rw [(all b h).1] at e; cases e]
    exact sJ _ _ (x.la.restS _ _ e)
  have tup : ∀ b l, J' b = some (.tup l) → cut J' (p :: (m.ads n ++ X)) b = some (.tup l) := fun b l e => by
    rw [cut_out fun h => by obtain ⟨_, u, _, _, h3, h4⟩ := all b h; rw [e] at h3; exact h4 l (Option.some.inj h3).symm]
    exact e
  have hb : ∀ b ∈ p :: (m.ads n ++ X), ∀ u, H b = some u → H' b = some u := fun b h u e => by
    obtain ⟨_, w, h1, _, h3, _⟩ := all b h
    rw [e] at h1
    cases h1
    exact y.sj _ _ h3
  have je : Pw (EnA (cut J' (p :: (m.ads n ++ X)))) lm'.ev lm'.es := by
    have old := x.la.je.mono fun v e => stEn _ _ v e sJ1
    rcases he with ⟨h1, h2⟩ | ⟨v, e, h1, h2, h3⟩
    · rw [h1, h2]; exact old
    · rw [h1, h2]
      exact old.snoc (h3.cut fun b hb => by
        obtain ⟨_, u, _, h4, h5, h6⟩ := all b hb
        exact ⟨⟨u, h4⟩, fun l e => h6 l (by rw [h5] at e; exact Option.some.inj e)⟩)
  have mem : ∀ {a : Addr}, a ∈ m.ads n → a ∈ p :: (m.ads n ++ X) := fun h => List.mem_cons_of_mem _ (List.mem_append_left _ h)
  refine ⟨_, sJ1, cut_all, fun b h => cut_in (List.mem_cons_of_mem _ (List.mem_append_right _ h)), fun b u h e => ?_, tup, ?_, y.down x.la sJ1 cut_all je fun c hc z hz => (y.jp c hc z hz).mono fun v w ⟨t, e, ht⟩ => ⟨t, e, tup _ _ ht⟩, hb _ List.mem_cons_self _ x.hp, cut_in List.mem_cons_self, x.pn, fun h => ?_, fun a ha hl => ?_, x.dr⟩
  · rw [cut_out fun hm => by obtain ⟨_, w, _, h4, _⟩ := all b hm; rw [h] at h4; cases h4]
    exact e
  · exact { x.na with
      sj := cut_all.trans y.sj
      jP := sJ1 _ _ x.na.jP
      jS := sJ1 _ _ x.na.jS
      jC := sJ1 _ _ x.na.jC
      jQ := sJ1 _ _ x.na.jQ
      jt := fun c hc => sJ1 _ _ (x.na.jt c hc)
      jl := fun c hc => sJ1 _ _ (x.na.jl c hc)
      je := x.na.je.mono fun v e => stEn _ _ v e sJ1
      hn := hb _ (mem ads_n) _ x.na.hn
      nn := cut_in (mem ads_n)
      hV := hb _ (mem ads_V) _ x.na.hV
      nV := cut_in (mem ads_V)
      hE := hb _ (mem ads_E) _ x.na.hE
      nE := cut_in (mem ads_E)
      hq := fun c hc => hb _ (mem (ads_q hc)) _ (x.na.hq c hc)
      nq := fun c hc => cut_in (mem (ads_q hc))
      hp := fun c hc z hz => hb _ (mem (ads_p hc hz)) _ (x.na.hp c hc z hz)
      np := fun c hc z hz => cut_in (mem (ads_p hc hz)) }
  · obtain ⟨_, u, _, _, h5, _⟩ := all p List.mem_cons_self
    rw [y.none_ads h] at h5
    cases h5
  · obtain ⟨_, u, _, _, h5, _⟩ := all a (mem ha)
    rw [y.none_ads hl] at h5
    cases h5
/-- a dict that is neither what stays nor the law's state -/
theorem LA.free {kv kv' : List (Key × V)} (x : LA J H ln lm) (hT : H T = some (.dK kv)) (jT : J T = none) : LA J (upd H T (.dK kv')) ln lm :=
  { x with
    sj := x.sj.mut jT
    hV := by rw [upd_ne (ne_kind x.hV hT (by intro e; cases e))]; exact x.hV
    hE := by rw [upd_ne (ne_kind x.hE hT (by intro e; cases e))]; exact x.hE
    hq := fun c hc => by rw [upd_ne (ne_kind (x.hq c hc) hT (by intro e; cases e))]; exact x.hq c hc
    hp := fun c hc y hy => by rw [upd_ne (ne_kind (x.hp c hc y hy) hT (by intro e; cases e))]; exact x.hp c hc y hy }
/-- a piece changes at a place -/
theorem LA.upP (x : LA J H ln lm) {c : Ln × Addr} (hc : c ∈ ln.ls) {i : Nat} {z : Lp} (hi : (lm.qs c.1.nm)[i]? = some z) {vs : List V} {q : Pc} (pw : Pw (PrA J) vs q) :
    LA J (upd H z.1 (.lst vs)) ln { lm with qs := qsW lm.qs c.1.nm ((lm.qs c.1.nm).set i (z.1, vs, q)) } := by
  have hz := List.mem_of_getElem? hi
  have jz := x.np c hc z hz
  have ea : ((lm.qs c.1.nm).set i (z.1, vs, q)).map (·.1) = (lm.qs c.1.nm).map (·.1) := map_set_same (fun w : Lp => w.1) hi rfl
  have mem : ∀ y ∈ (lm.qs c.1.nm).set i (z.1, vs, q), ∃ w ∈ lm.qs c.1.nm, w.1 = y.1 := fun y hy => by
    have : y.1 ∈ ((lm.qs c.1.nm).set i (z.1, vs, q)).map (·.1) := List.mem_map.mpr ⟨y, hy, rfl⟩
    rw [ea] at this
    obtain ⟨w, hw, e⟩ := List.mem_map.mp this
    exact ⟨w, hw, e⟩
  have low : ∀ c' ∈ ln.ls, ∀ y ∈ qsW lm.qs c.1.nm ((lm.qs c.1.nm).set i (z.1, vs, q)) c'.1.nm, (upd H z.1 (.lst vs)) y.1 = some (.lst y.2.1) ∧ J y.1 = none ∧ Pw (PrA J) y.2.1 y.2.2 ∧ (y.1 ≠ ln.LE ∧ ∀ c' ∈ ln.ls, y.1 ≠ c'.2) := fun c' hc' y hy => by
    by_cases e : c'.1.nm = c.1.nm
    · rw [e, qsW_same] at hy
      obtain ⟨j, hj, ey⟩ := List.getElem_of_mem hy
      rw [List.length_set] at hj
      by_cases qe : j = i
      · subst qe
        rw [List.getElem_set_self] at ey
        rw [← ey]
        exact ⟨upd_same, jz, pw, x.dpq c hc z hz⟩
      · rw [List.getElem_set_ne (Ne.symm qe)] at ey
        have hy2 : y ∈ lm.qs c.1.nm := by rw [← ey]; exact List.getElem_mem hj
        refine ⟨?_, x.np c hc y hy2, x.jp c hc y hy2, x.dpq c hc y hy2⟩
        rw [upd_ne fun e2 => qe (nodup_at (x.dp c hc) (by rw [List.getElem?_eq_getElem hj, ey]) hi e2)]
        exact x.hp c hc y hy2
    · rw [qsW_ne e] at hy
      exact ⟨by rw [upd_ne (x.dpp c' hc' c hc e y hy z hz)]; exact x.hp c' hc' y hy, x.np c' hc' y hy, x.jp c' hc' y hy, x.dpq c' hc' y hy⟩
  exact { x with
    sj := x.sj.mut jz
    jp := fun c' hc' y hy => (low c' hc' y hy).2.2.1
    hV := by show (upd H z.1 _) ln.LV = _; rw [upd_ne (ne_kind x.hV (x.hp c hc z hz) (by intro e; cases e))]; exact x.hV
    hE := by show (upd H z.1 _) ln.LE = _; rw [upd_ne (Ne.symm (x.dpq c hc z hz).1)]; exact x.hE
    hq := fun c' hc' => by
      show (upd H z.1 _) c'.2 = some (.lst (lqV (qsW lm.qs c.1.nm _ c'.1.nm)))
      rw [upd_ne (Ne.symm ((x.dpq c hc z hz).2 c' hc'))]
      by_cases e : c'.1.nm = c.1.nm
      · rw [x.nmi hc' hc e, qsW_same]
        have : lqV ((lm.qs c.1.nm).set i (z.1, vs, q)) = lqV (lm.qs c.1.nm) := map_set_same (fun w : Lp => V.ref w.1) hi rfl
        rw [this]
        exact x.hq c hc
      · rw [qsW_ne e]; exact x.hq c' hc'
    hp := fun c' hc' y hy => (low c' hc' y hy).1
    np := fun c' hc' y hy => (low c' hc' y hy).2.1
    dp := fun c' hc' => by
      show ((qsW lm.qs c.1.nm _ c'.1.nm).map (·.1)).Nodup
      by_cases e : c'.1.nm = c.1.nm
      · rw [e, qsW_same, ea]; exact x.dp c hc
      · rw [qsW_ne e]; exact x.dp c' hc'
    dpp := fun c1 h1 c2 h2 ne y hy w hw => by
      have hy : y ∈ qsW lm.qs c.1.nm _ c1.1.nm := hy
      have hw : w ∈ qsW lm.qs c.1.nm _ c2.1.nm := hw
      by_cases e1 : c1.1.nm = c.1.nm
      · have e2 : c2.1.nm ≠ c.1.nm := fun e => ne (by rw [e1, e])
        rw [e1, qsW_same] at hy
        rw [qsW_ne e2] at hw
        obtain ⟨y', hy', ey⟩ := mem y hy
        rw [← ey]
        exact x.dpp c hc c2 h2 (Ne.symm e2) y' hy' w hw
      · rw [qsW_ne e1] at hy
        by_cases e2 : c2.1.nm = c.1.nm
        · rw [e2, qsW_same] at hw
          obtain ⟨w', hw', ew⟩ := mem w hw
          rw [← ew]
          exact x.dpp c1 h1 c hc e1 y hy w' hw'
        · rw [qsW_ne e2] at hw
          exact x.dpp c1 h1 c2 h2 ne y hy w hw
    dpq := fun c' hc' y hy => (low c' hc' y hy).2.2.2
    zq := fun c' hc' => by
      show (qsW lm.qs c.1.nm _ c'.1.nm).length ≤ lm.k
      by_cases e : c'.1.nm = c.1.nm
      · rw [e, qsW_same, List.length_set]; exact x.zq c hc
      · rw [qsW_ne e]; exact x.zq c' hc' }
end
end M

namespace M
open PySem PySem.Spec PyProof.Rows L2
/-! ### the law's own pass over the rows: lemmas -/
def upL (l : Ln) : Ln := { l with it := upS l.it }
/-- the network's rows and the law's: the same, with sorted items -/
structure LsOk (gl ls : List Ln) : Prop where
  up : ∀ l ∈ gl, upL l ∈ ls
  dn : ∀ m ∈ ls, ∃ l ∈ gl, m = upL l
  nd : (ls.map (·.nm)).Nodup
theorem rounds_snoc (x : Str) (ls : List Ln) : ∀ (n : Nat) (S : List Str), rounds x ls (n + 1) S = round x ls (rounds x ls n S)
  | 0, _ => rfl
  | n + 1, S => by
    show rounds x ls (n + 1) (round x ls S) = _
    rw [rounds_snoc x ls n]
    rfl
theorem round_snoc (x : Str) (ls : List Ln) (l : Ln) (S : List Str) : round x (ls ++ [l]) S = hand x (round x ls S) l := by
  unfold round
  rw [List.foldl_append]
  rfl
/-- x has come to all sites of S -/
def Got (ws : List Nw) (x : Str) (S : List Str) : Prop := ∀ t ∈ S, hasN ws t x = true
theorem Got.up {ws vs : List Nw} {x : Str} {S : List Str} (h : Got ws x S) (u : UpN ws vs) : Got vs x S := fun t ht => u _ _ (h t ht)
theorem Got.hand {ws vs : List Nw} {x : Str} {S : List Str} {l : Ln} (h : Got ws x S) (u : UpN ws vs) (k : x ∈ l.it → hasN ws l.src x = true → hasN vs l.tgt x = true) : Got vs x (hand x S l) := fun t ht => by
  unfold M.hand at ht
  split at ht
  · rename_i c
    rcases List.mem_append.mp ht with ht | ht
    · exact u _ _ (h t ht)
    · rw [List.mem_singleton.mp ht]
      exact k c.2.1 (h _ c.2.2.1)
  · exact u _ _ (h t ht)
theorem rch_fast {gl ls : List Ln} (lo : LsOk gl ls) {x s t : Str} (r : Rch ls x s t) : Rch (gl.filter fun l => l.kd.isNone) x s t := r.mono fun l hl k y hy => by
  obtain ⟨l0, h0, rfl⟩ := lo.dn l hl
  have k0 : l0.kd = none := k
  exact ⟨l0, List.mem_filter.mpr ⟨h0, by rw [k0]; rfl⟩, k0, (upS_perm l0.it).mem_iff.mp hy, rfl, rfl⟩
theorem NwS.cls {gl ls : List Ln} {s : Str} {f : Pc} {ws : List Nw} (w_ : NwS ls s f ws) (lo : LsOk gl ls) {n : Nat} (hn : (gl.filter fun l => l.kd.isNone).length ≤ n) (h : ∀ y ∈ f, Got ws y.1 (rounds y.1 (gl.filter fun l => l.kd.isNone) n [s])) : ∀ m ∈ ls, Cls1 ws m := fun m hm k i hi hh => by
  obtain ⟨w, hw, e, hk⟩ := hasN_iff.mp hh
  obtain ⟨y, hy, rfl⟩ := List.mem_map.mp hk
  obtain ⟨r, hf⟩ := w_.sd w hw y hy
  rw [e] at r
  have r2 : Rch ls y.1 s m.tgt := .hop hm k hi r
  refine h y hf _ ((rounds_iff ?_).mpr (rch_fast lo r2))
  exact Nat.le_trans (List.length_filter_le _ _) hn
section
variable {J J' H H' : Hp} {n : LNet} {m : LM} {T C : Addr} {o u w : HO}
theorem LA.free' {kv : List (Key × V)} (x : LA J H n m) (hT : H T = some (.dK kv)) (jT : J T = none) : LA J (delH H T) n m :=
  { x with
    sj := fun b v e => by
      by_cases q : b = T
      · rw [q, jT] at e; cases e
      · rw [delH_ne q]; exact x.sj b v e
    hV := by rw [delH_ne (ne_kind x.hV hT (by intro e; cases e))]; exact x.hV
    hE := by rw [delH_ne (ne_kind x.hE hT (by intro e; cases e))]; exact x.hE
    hq := fun c hc => by rw [delH_ne (ne_kind (x.hq c hc) hT (by intro e; cases e))]; exact x.hq c hc
    hp := fun c hc y hy => by rw [delH_ne (ne_kind (x.hp c hc y hy) hT (by intro e; cases e))]; exact x.hp c hc y hy }
/-- another thing that stays is locked or freed -/
theorem LA.updS (x : LA J H n m) (hC : J C = some w) (k1 : ∀ l, w ≠ .lst l) (k2 : ∀ l, w ≠ .tup l) (nS : C ≠ n.LQ) (u : HO) : LA (upd J C u) (upd H C u) n m := by
  have ne : ∀ {b : Addr}, J b = none → b ≠ C := fun h e => by rw [e, hC] at h; cases h
  have jn : ∀ {b : Addr}, J b = none → (upd J C u) b = none := fun h => by rw [upd_ne (ne h)]; exact h
  have hh : ∀ {b : Addr} {v : HO}, J b = none → H b = some v → (upd H C u) b = some v := fun h e => by rw [upd_ne (ne h)]; exact e
  have jl : ∀ {b : Addr} {l}, J b = some (.lst l) → (upd J C u) b = some (.lst l) := fun h => by rw [upd_ne (ne_kind h hC (Ne.symm (k1 _)))]; exact h
  have jt : ∀ {b : Addr} {l}, J b = some (.tup l) → (upd J C u) b = some (.tup l) := fun h => by rw [upd_ne (ne_kind h hC (Ne.symm (k2 _)))]; exact h
  exact { x with
    sj := M.Same.upd2 x.sj
    jst := jl x.jst
    jQ := by rw [upd_ne (Ne.symm nS)]; exact x.jQ
    je := x.je.mono fun v e h => stEn _ _ _ _ del_upd (EnA.del h hC k1 k2)
    jp := fun c hc y hy => (x.jp c hc y hy).mono fun v e ⟨t, h1, h2⟩ => ⟨t, h1, jt h2⟩
    hV := hh x.nV x.hV
    nV := jn x.nV
    hE := hh x.nE x.hE
    nE := jn x.nE
    hq := fun c hc => hh (x.nq c hc) (x.hq c hc)
    nq := fun c hc => jn (x.nq c hc)
    hp := fun c hc y hy => hh (x.np c hc y hy) (x.hp c hc y hy)
    np := fun c hc y hy => jn (x.np c hc y hy) }
/-- less stays -/
theorem LA.base' {J1 : Hp} (y : LA J' H' n m) (x : LA J H n m) (s : Same J J1) (sd : Same J1 J') : LA J1 H' n m :=
  y.down x s sd (x.je.mono fun v e => stEn _ _ _ _ s) fun c hc z hz => (x.jp c hc z hz).mono fun v e => stPr _ _ _ _ s
theorem ls_find {ls : List Ln} (lN : (ls.map (·.nm)).Nodup) {l : Ln} (hl : l ∈ ls) : ls.find? (fun k => decide (k.nm = l.nm)) = some l := by
  cases e : ls.find? (fun k => decide (k.nm = l.nm)) with
  | none => exact absurd (decide_eq_true rfl) (List.find?_eq_none.mp e l hl)
  | some k =>
    have h0 := List.find?_some e
    have h1 : k.nm = l.nm := of_decide_eq_true h0
    rw [map_inj_of lN (List.mem_of_find?_eq_some e) hl h1]
theorem NS.inst_l {ls : List Ln} (lN : (ls.map (·.nm)).Nodup) {l : Ln} (hl : l ∈ ls) (z : NS) (nv : Str → Str → Option Int) : (z.inst ls nv).q l.nm = match l.kd with
    | some k => enq k (z.q l.nm) (pieceOf nv l)
    | none => z.q l.nm := by
  unfold NS.inst
  show (match ls.find? fun k => decide (k.nm = l.nm) with | some l' => (match l'.kd with | some k => enq k (z.q l.nm) (pieceOf nv l') | none => z.q l.nm) | none => z.q l.nm) = _
  rw [ls_find lN hl]
theorem LOk.inst {gl ls : List Ln} {z : NS} {s : Str} {f : Pc} {ws : List Nw} {qs' : Str → List Lp} {k : Nat} (ok : LOk n m z) (lo : LsOk gl ls) (en : n.ls.map (·.1) = gl) (w_ : NwS ls s f ws) (cl : ∀ l ∈ ls, Cls1 ws l)
    (hq : ∀ c ∈ n.ls, (qs' c.1.nm).map (·.2.2) = queW ws (upL c.1) ((m.qs c.1.nm).map (·.2.2))) : LOk n { m with kvv := instK m.kvv ws, qs := qs', k := k } (z.inst ls (newV ls s f)) where
  v := fun i t => by
    show valV (instK m.kvv ws) (k2 i t) = _
    rw [instK_val _ i t w_.nt w_.ni, ok.v, w_.val cl, map_or]
    rfl
  q := fun c hc => by
    show (qs' c.1.nm).map (·.2.2) = _
    have hm : upL c.1 ∈ ls := lo.up _ (by rw [← en]; exact List.mem_map.mpr ⟨c, hc, rfl⟩)
    rw [hq c hc, ok.q c hc, queW_eq w_ cl]
    exact (NS.inst_l lo.nd hm z _).symm
  e := ok.e
  kf := ok.kf.instK
theorem RS.same {CN p : Addr} {ds : List Int} {nn : Net} {mm : NM} (x : RS CN J H p ds nn mm n m) (s : Same H H') : RS CN J H' p ds nn mm n m := ⟨x.na.same s, x.la.same s, s _ _ x.hp, x.np, x.pn, x.pl, x.nl, x.dr⟩
def pcD (p : Pc) : PyData := .list (p.map itD)
def pcsD (ps : List Pc) : PyData := .list (ps.map pcD)
theorem pcs_lay {ps : List Pc} (h : ∀ p ∈ ps, ∀ x ∈ p, PyData.strOk x.1 = true) : (pcsD ps).canLay0 = true ∧ (pcsD ps).depth ≤ 64 := by
  obtain ⟨h1, h2⟩ := ls_lay (D := pcD) (n := 2) fun p hp => ls_lay (D := itD) (n := 1) fun x hx => it_lay (h p hp x hx)
  exact ⟨h1, Nat.le_trans h2 (by decide)⟩
theorem pieceW_upL (p : Pc) (l : Ln) : pieceW p (upL l).it = pieceW p (upS l.it) := rfl
end
/-! ### news while a dict of items grows that may not be entered as yet -/
theorem nwK_put {ws : List Nw} {t : Str} {T : Addr} {y : Itv} (h : t ∈ ws.map (·.1)) : nwK (putN ws t T y) = nwK ws := by
  unfold putN nwK
  rw [if_pos h, List.map_map]
  refine List.map_congr_left fun u _ => ?_
  show (Sum.inr (if u.1 = t then _ else u : Nw).1, V.ref (if u.1 = t then _ else u : Nw).2.1) = _
  split <;> rfl
theorem pcK_nd {p : Pc} (nt : (p.map (·.1)).Nodup) : ((pcK p).map (·.1)).Nodup := by
  unfold pcK
  rw [List.map_map]
  have : (p.map ((fun e : Key × V => e.1) ∘ fun w : Itv => (Sum.inr w.1, V.int w.2))) = (p.map (·.1)).map Sum.inr := by rw [List.map_map]; rfl
  rw [this]
  exact List.Pairwise.map _ (fun a b h e => h (Sum.inr.inj e)) nt
/-- all is as with NwA but for the dict of sites itself -/
structure NwD (B H : Hp) (D : Addr) (kv : List (Key × V)) (ws : List Nw) : Prop where
  hD : H D = some (.dK kv)
  na : NwA B (upd H D (.dK (nwK ws))) D ws
section
variable {B H H' : Hp} {D T : Addr} {ws : List Nw} {kv : List (Key × V)}
theorem NwA.toD (x : NwA B H D ws) : NwD B H D (nwK ws) ws := ⟨x.hD, by rw [upd_id x.hD]; exact x⟩
theorem NwD.sm (x : NwD B H D kv ws) : Same B H := fun b v e => by
  have ne : b ≠ D := fun q => by rw [q, x.na.fD] at e; cases e
  have := x.na.sm b v e
  rw [upd_ne ne] at this
  exact this
theorem NwD.ha (x : NwD B H D kv ws) {w : Nw} (hw : w ∈ ws) : H w.2.1 = some (.dK (pcK w.2.2)) := by
  have := x.na.ha w hw
  rw [upd_ne fun e => (List.nodup_cons.mp x.na.dn).1 (List.mem_map.mpr ⟨w, hw, e⟩)] at this
  exact this
theorem NwD.put (x : NwD B H D kv ws) (nt : (ws.map (·.1)).Nodup) {w : Nw} (hw : w ∈ ws) {y : Itv} (hy : y.1 ∉ w.2.2.map (·.1)) : NwD B (upd H w.2.1 (.dK (putK (pcK w.2.2) (Sum.inr y.1) (.int y.2)))) D kv (putN ws w.1 T y) := by
  have ne : D ≠ w.2.1 := fun e => (List.nodup_cons.mp x.na.dn).1 (List.mem_map.mpr ⟨w, hw, e.symm⟩)
  refine ⟨by rw [upd_ne ne]; exact x.hD, ?_⟩
  have z := x.na.putOld (T := T) nt hw hy
  rw [upd_swap ne] at z
  rw [nwK_put (List.mem_map.mpr ⟨w, hw, rfl⟩)]
  exact z
theorem NwD.fin (x : NwD B H D kv ws) : NwA B (upd H D (.dK (nwK ws))) D ws := x.na
/-- a site more, with nothing as yet -/
theorem NwA.addE (x : NwA B H D ws) {t : Str} (nT : H T = none) : NwD B (upd H T (.dK [])) D (nwK ws) (ws ++ [(t, T, [])]) := by
  have neT : ∀ {b : Addr} {u : HO}, H b = some u → b ≠ T := fun h e => by rw [e, nT] at h; cases h
  have f0 : B T = none := none_of nT x.sm
  have dn := List.nodup_cons.mp x.dn
  have DT := neT x.hD
  have key : ∀ {Q : Nw → Prop}, (∀ w ∈ ws, Q w) → Q (t, T, []) → ∀ w ∈ ws ++ [(t, T, [])], Q w := fun h1 h2 w hw => by
    rcases List.mem_append.mp hw with hw | hw
    · exact h1 w hw
    · rw [List.mem_singleton.mp hw]; exact h2
  refine ⟨by rw [upd_ne DT]; exact x.hD, ⟨((x.sm.mut f0).mut x.fD), upd_same, key (fun w hw => ?_) ?_, ?_, x.fD, key x.fa f0⟩⟩
  · rw [upd_ne fun e => dn.1 (List.mem_map.mpr ⟨w, hw, e⟩), upd_ne (neT (x.ha w hw))]
    exact x.ha w hw
  · rw [upd_ne (Ne.symm DT)]; exact upd_same
  · rw [List.map_append]
    refine List.nodup_cons.mpr ⟨fun h => ?_, List.nodup_append.mpr ⟨dn.2, List.pairwise_singleton _ _, fun a ha b hb e => ?_⟩⟩
    · rcases List.mem_append.mp h with h | h
      · exact dn.1 h
      · exact DT (List.mem_singleton.mp h)
    · obtain ⟨w, hw, rfl⟩ := List.mem_map.mp ha
      have e2 : b = T := List.mem_singleton.mp hb
      exact neT (x.ha w hw) (by rw [e, e2])
end
/-! ### the law's rows as a list of their places -/
abbrev Rt := Ln × Addr × Addr
theorem rowsT {J : Hp} : ∀ {vs : List V} {ls : List Ln}, Pw (RwT J) vs ls → ∃ cs : List Rt, vs = cs.map (fun c => V.ref c.2.1) ∧ cs.map (·.1) = ls ∧ ∀ c ∈ cs, J c.2.1 = some (.tup (rwV c.1 c.2.2)) ∧ J c.2.2 = some (.lst (c.1.it.map V.str))
  | [], [], _ => ⟨[], rfl, rfl, fun _ h => by cases h⟩
  | [], _ :: _, p => absurd p.len (by simp)
  | _ :: _, [], p => absurd p.len (by simp)
  | v :: vs, l :: ls, p => by
    obtain ⟨cs, e, e2, q⟩ := rowsT (vs := vs) (ls := ls) ⟨by have := p.len; simpa using this, fun i v' x' h1 h2 => p.at_ (i + 1) v' x' (by simpa using h1) (by simpa using h2)⟩
    obtain ⟨t, a, rfl, ht, ha⟩ := p.at_ 0 v l rfl rfl
    refine ⟨(l, t, a) :: cs, by rw [e]; rfl, by rw [List.map_cons, e2], fun c hc => ?_⟩
    rcases List.mem_cons.mp hc with rfl | hc
    · exact ⟨ht, ha⟩
    · exact q c hc
end M

namespace M
open PySem PySem.Spec PyProof.Rows L2
/-! ### where a law on runs starts -/
section
variable {CN : Addr} {J J0 J1 J' H H' : Hp} {n : Net} {m m' : NM} {ln : LNet} {lm lm' : LM} {T p : Addr} {o u : HO} {ds ds' : List Int}
theorem RS.upO (x : RS CN J H p ds n m ln lm) (h : J T = none) (ne : T ≠ p) (hn : T ∉ m.ads n) (hl : T ∉ lm.ads ln) (o : HO) : RS CN J (upd H T o) p ds n m ln lm :=
  ⟨x.na.upO h hn o, x.la.upO h hl o, by rw [upd_ne (Ne.symm ne)]; exact x.hp, x.np, x.pn, x.pl, x.nl, x.dr⟩
/-- the draws are no part of a network at its start -/
theorem NA.hide (x : NA CN J H n m) (jp : J p = some (.lst (ds.map V.int))) (hs : n.sites ≠ []) (hi : ∀ c ∈ n.ls, c.l.it ≠ []) (k0 : m.k = 0) : NA CN (delH J p) H n m := by
  have ns : ∀ {l : List Str}, l ≠ [] → (HO.lst (l.map V.str)) ≠ .lst (ds.map V.int) := fun {l} h e => by
    injection e with e
    cases l with
    | nil => exact h rfl
    | cons y l =>
      cases ds with
      | nil => simp at e
      | cons d ds => simp at e
  have es : m.es = [] := List.length_eq_zero_iff.mp (by have := x.zE; omega)
  have ev : m.ev = [] := List.length_eq_zero_iff.mp (by have := x.je.len; rw [this, es]; rfl)
  have nd : ∀ {b : Addr} {u : HO}, J b = some u → u ≠ .lst (ds.map V.int) → (delH J p) b = some u := fun h ne => by rw [delH_ne (ne_kind h jp ne)]; exact h
  have nn : ∀ {b : Addr}, J b = none → (delH J p) b = none := fun {b} h => by
    by_cases q : b = p
    · rw [q]; exact delH_same
    · rw [delH_ne q]; exact h
  exact { x with
    sj := del_same.trans x.sj
    jP := nd x.jP (ns hs)
    jS := nd x.jS (by intro e; cases e)
    jC := nd x.jC (by intro e; cases h : n.od <;> rw [h] at e <;> cases e)
    jQ := nd x.jQ (by intro e; cases e)
    jt := fun c hc => nd (x.jt c hc) (by intro e; cases e)
    jl := fun c hc => nd (x.jl c hc) (ns (hi c hc))
    je := by rw [ev, es]; exact Pw.nil
    nn := nn x.nn
    nV := nn x.nV
    nE := nn x.nE
    nq := fun c hc => nn (x.nq c hc)
    np := fun c hc y hy => nn (x.np c hc y hy) }
/-- the law's own state is made beside a network -/
theorem RS.start (na : NA CN J0 H n m) (jp0 : J0 p = none) (hp : H p = some (.lst (ds.map V.int))) (dr : Dr ds) (pn : p ∉ m.ads n) (sH : Same H J') (la : LA J' H' ln lm) (nst : H ln.st = none) (nLQ : H ln.LQ = none) (k0 : lm.k = 0) :
    ∃ J1, Same J0 J1 ∧ RS CN J1 H' p ds n m ln lm := by
  have es : lm.es = [] := List.length_eq_zero_iff.mp (by have := la.zE; omega)
  have ev : lm.ev = [] := List.length_eq_zero_iff.mp (by have := la.je.len; rw [this, es]; rfl)
  have qs : ∀ c ∈ ln.ls, lm.qs c.1.nm = [] := fun c hc => List.length_eq_zero_iff.mp (by have := la.zq c hc; omega)
  have old : ∀ b ∈ p :: m.ads n, J0 b = none ∧ ∃ u, H b = some u := fun b hb => by
    rcases List.mem_cons.mp hb with rfl | hb
    · exact ⟨jp0, _, hp⟩
    · exact ⟨na.none_ads hb, na.some_ads hb⟩
  have sJ : Same J0 (cut J' (p :: m.ads n)) := fun b v e => by
    rw [cut_out fun h => by rw [(old b h).1] at e; cases e]
    exact sH _ _ (na.sj _ _ e)
  have s' : Same H H' := sH.trans la.sj
  have new : ∀ {b : Addr} {u : HO}, H b = none → J' b = some u → cut J' (p :: m.ads n) b = some u := fun h e => by
    rw [cut_out fun hm => by obtain ⟨_, w, hw⟩ := old _ hm; rw [h] at hw; cases hw]
    exact e
  have nn : ∀ {b : Addr}, J' b = none → cut J' (p :: m.ads n) b = none := fun {b} h => by
    cases e : cut J' (p :: m.ads n) b with
    | none => rfl
    | some w => rw [cut_all _ _ e] at h; cases h
  have lold : ∀ b ∈ p :: m.ads n, b ∉ lm.ads ln := fun b hb hl => by
    obtain ⟨_, w, hw⟩ := old b hb
    have := la.none_ads hl
    rw [sH _ _ hw] at this
    cases this
  refine ⟨_, sJ, (na.same s').base sJ (cut_all.trans la.sj) fun a h => cut_in (List.mem_cons_of_mem _ h), ?_, s' _ _ hp, cut_in List.mem_cons_self, pn, lold _ List.mem_cons_self, fun a h => lold a (List.mem_cons_of_mem _ h), dr⟩
  exact { la with
    sj := cut_all.trans la.sj
    jst := new nst la.jst
    jQ := new nLQ la.jQ
    je := by rw [ev, es]; exact Pw.nil
    jp := fun c hc y hy => by rw [qs c hc] at hy; cases hy
    nV := nn la.nV
    nE := nn la.nE
    nq := fun c hc => nn (la.nq c hc)
    np := fun c hc y hy => nn (la.np c hc y hy) }
end
/-! ### new versions come only where there are some -/
theorem held_or {n : Net} {z : NS} (v : NInv n z) {s : Str} {f : Pc} (hf : ∀ x ∈ f, (z.ver x.1 s).isSome = true) (i t : Str) : ((newV n.lns s f t i).or (z.ver i t)).isSome = (z.ver i t).isSome := by
  cases e : newV n.lns s f t i with
  | none => rfl
  | some w =>
    obtain ⟨r, h⟩ := newV_some.mp e
    have : (z.ver i t).isSome = true := by
      rcases r.at_ with q | ⟨l, hl, q, hi⟩
      · rw [q]; exact hf _ (vat_mem h)
      · obtain ⟨c, hc, rfl⟩ := List.mem_map.mp hl
        rw [← q]; exact v.hl c hc i hi
    rw [this]
    rfl
/-! ### the law's queues change -/
def LM.q (m : LM) (c : Str) (q : List Lp) (k : Nat) : LM := { m with qs := qsW m.qs c q, k := k }
theorem LM.q_id (m : LM) (c : Str) : m.q c (m.qs c) m.k = m := by
  unfold LM.q
  have : qsW m.qs c (m.qs c) = m.qs := by
    funext d
    unfold qsW
    split
    · rename_i h; rw [h]
    · rfl
  rw [this]
theorem LM.q_q (m : LM) (c : Str) (q r : List Lp) (k j : Nat) : (m.q c q k).q c r j = m.q c r j := by
  have e : qsW (qsW m.qs c q) c r = qsW m.qs c r := by
    funext d
    by_cases h : d = c
    · rw [h, qsW_same, qsW_same]
    · rw [qsW_ne h, qsW_ne h, qsW_ne h]
  show { m with qs := qsW (qsW m.qs c q) c r, k := j } = _
  rw [e]
  rfl
theorem LM.q_qs {m : LM} {c : Str} {q : List Lp} {k : Nat} : (m.q c q k).qs c = q := qsW_same
section
variable {J J' H H' : Hp} {n : LNet} {m : LM} {T C : Addr} {o u w : HO}
/-- a new thing that stays -/
theorem LA.newJ (x : LA J H n m) (h : H T = none) (o : HO) : LA (upd J T o) (upd H T o) n m := by
  have s : Same H (upd H T o) := (Same.refl _).new h
  refine (x.same s).base ((Same.refl _).new (none_of h x.sj)) (M.Same.upd2 x.sj) fun a ha => ?_
  rw [upd_ne fun e => by obtain ⟨u, hu, _⟩ := x.some_ads ha; rw [e, h] at hu; cases hu]
  exact x.none_ads ha
theorem lads_of {a : Addr} (h1 : a ≠ n.LV) (h2 : a ≠ n.LE) (h3 : ∀ c ∈ n.ls, a ≠ c.2) (h4 : ∀ c ∈ n.ls, ∀ y ∈ m.qs c.1.nm, a ≠ y.1) : a ∉ m.ads n := fun h => by
  unfold LM.ads at h
  rcases List.mem_cons.mp h with e | h
  · exact h1 e
  rcases List.mem_cons.mp h with e | h
  · exact h2 e
  rcases List.mem_append.mp h with h | h
  · obtain ⟨c, hc, e⟩ := List.mem_map.mp h
    exact h3 c hc e.symm
  · obtain ⟨c, hc, h⟩ := List.mem_flatMap.mp h
    obtain ⟨y, hy, e⟩ := List.mem_map.mp h
    exact h4 c hc y hy e.symm
theorem lads_q_of {a : Addr} {c : Str} {q : List Lp} {k : Nat} (h : a ∉ m.ads n) (hq : a ∉ q.map (·.1)) : a ∉ (m.q c q k).ads n := by
  refine lads_of (fun e => h (by rw [e]; exact lads_V)) (fun e => h (by rw [e]; exact lads_E)) (fun c' hc e => h (by rw [e]; exact lads_q hc)) fun c' hc y hy e => ?_
  by_cases q' : c'.1.nm = c
  · rw [q', LM.q_qs] at hy
    exact hq (by rw [e]; exact List.mem_map.mpr ⟨y, hy, rfl⟩)
  · have hy2 : y ∈ m.qs c'.1.nm := by
      have : (m.q c q k).qs c'.1.nm = m.qs c'.1.nm := qsW_ne q'
      rwa [this] at hy
    exact h (by rw [e]; exact lads_p hc hy2)
theorem LA.pushQ (x : LA J H n m) {c : Ln × Addr} (hc : c ∈ n.ls) {vs : List V} {p : Pc} (hT : H T = some (.lst vs)) (jT : J T = none) (pw : Pw (PrA J) vs p) (f : T ∉ m.ads n) :
    LA J (upd H c.2 (.lst (lqV (m.qs c.1.nm) ++ [.ref T]))) n (m.q c.1.nm (m.qs c.1.nm ++ [(T, vs, p)]) (m.k + 1)) :=
  x.push hc hT jT pw (fun c' hc' y hy e => f (by rw [e]; exact lads_p hc' hy)) ⟨fun e => f (by rw [e]; exact lads_E), fun c' hc' e => f (by rw [e]; exact lads_q hc')⟩
theorem LA.putQ (x : LA J H n m) {c : Ln × Addr} (hc : c ∈ n.ls) {i : Nat} {z : Lp} (hi : (m.qs c.1.nm)[i]? = some z) {vs : List V} {q : Pc} (pw : Pw (PrA J) vs q) :
    LA J (upd H z.1 (.lst vs)) n (m.q c.1.nm ((m.qs c.1.nm).set i (z.1, vs, q)) m.k) := x.upP hc hi pw
end
theorem set_putIt {q : Pc} (nd : (q.map (·.1)).Nodup) {j : Nat} {y x : Itv} (hj : q[j]? = some y) (e : y.1 = x.1) : q.set j x = putIt x.1 x.2 q := by
  unfold putIt
  refine List.ext_getElem (by simp) fun l h1 h2 => ?_
  rw [List.getElem_set, List.getElem_map]
  have hl : l < q.length := by simpa using h1
  by_cases c : j = l
  · subst c
    have := (List.getElem?_eq_some_iff.mp hj).2
    rw [if_pos rfl, this, if_pos e]
  · rw [if_neg c, if_neg fun z => c ?_]
    exact nodup_at nd hj (List.getElem?_eq_getElem hl) (by rw [z, e])
theorem Pw.set {R : V → Itv → Prop} {vs : List V} {q : Pc} (p : Pw R vs q) {j : Nat} {v : V} {x : Itv} (h : R v x) : Pw R (vs.set j v) (q.set j x) := by
  refine ⟨by rw [List.length_set, List.length_set]; exact p.len, fun i v' x' h1 h2 => ?_⟩
  rw [List.getElem?_set] at h1 h2
  have hl := p.len
  by_cases c : j = i
  · subst c
    by_cases hj : j < vs.length
    · rw [if_pos rfl, if_pos hj] at h1
      rw [if_pos rfl, if_pos (by omega)] at h2
      rw [← Option.some.inj h1, ← Option.some.inj h2]
      exact h
    · rw [if_pos rfl, if_neg hj] at h1
      cases h1
  · rw [if_neg c] at h1 h2
    exact p.at_ i v' x' h1 h2
end M

namespace M
open PySem PySem.Spec PyProof.Rows L2
/-! ### a statement under a lock that may raise: what is raised finds the thing free -/
def tLockX (Wo : WX) (t : WX → TS) : TS := fun D σ H => ∃ d u, H d = some u ∧ Mut (some u) ∧ ∀ od, t (fun cls dd σ' H' => H' d = some (.frz od u) ∧ Wo cls dd σ' (upd H' d u)) ⟨fun σ' H' => H' d = some (.frz od u) ∧ D.nx σ' (upd H' d u), fun v H' => H' d = some (.frz od u) ∧ D.rt v (upd H' d u), fun σ' H' => H' d = some (.frz od u) ∧ D.bk σ' (upd H' d u), fun σ' H' => H' d = some (.frz od u) ∧ D.ct σ' (upd H' d u)⟩ σ (upd H d (.frz od u))
section
variable {X : Cx}
theorem ps_lockX {st : Stmt} {t : WX → TS} {Wo : WX} (tk : Takes X Wo) (h : ∀ W, Takes X W → PS X st (t W)) : PS X st (tLockX Wo t) := by
  refine ⟨fun pins s σ H D I hw => ?_⟩
  obtain ⟨d, u, hd, mu, hw⟩ := hw
  obtain ⟨od, I1⟩ := I.lock hd mu
  have nf := I.nofrz hd mu
  have tk' : Takes X (fun cls dd σ' H' => H' d = some (.frz od u) ∧ Wo cls dd σ' (upd H' d u)) := fun v s' ⟨a, B, sI, pins, σ, H', cls, dd, e, I2, nb, up, sky, na, os, ag, w1, w2⟩ =>
    tk v s' ⟨a, B, sI, pins, σ, upd H' d u, cls, dd, e, I2.unlock w1 nf, nb, up, sky, by rw [upd_ne fun q => by rw [q, w1] at na; cases na]; exact na, os, ag, w2⟩
  refine thn ((h _ tk').run pins s σ _ _ I1 (hw od)) fun f s1 q => ?_
  cases f with
  | next => obtain ⟨σ', H', I2, e, q⟩ := q; exact ⟨σ', _, I2.unlock e nf, q⟩
  | brk => obtain ⟨σ', H', I2, e, q⟩ := q; exact ⟨σ', _, I2.unlock e nf, q⟩
  | cont => obtain ⟨σ', H', I2, e, q⟩ := q; exact ⟨σ', _, I2.unlock e nf, q⟩
  | ret v => obtain ⟨x, σ', H', I2, r, e, q⟩ := q; exact ⟨x, σ', _, I2.unlock e nf, r, q⟩
end
/-- a dict comprehension over a walk -/
theorem dc_it {J : It} {n : Nat} {G : Hp → Prop} {Y : Nat → Hp → V → Hp → Prop} (w : Walk J n G Y) {g : TG} {tt : TT} {tk tv : TE} {vs : List Nat} {σ : L2.St} {H1 : Hp} {D : Addr} {Qd : Hp → Prop} (Pv : Nat → Hp → Prop) (h0 : Pv 0 (upd H1 D (.dK []))) (hG : ∀ i H, i ≤ n → Pv i H → G H)
    (hs : ∀ i x H H', i < n → Pv i H → Y i H x H' → g x (wipe σ vs) H' fun σ2 H2 => wipe σ2 vs = wipe σ vs ∧ tt σ2 H2 fun b H3 =>
      if b = true then tk σ2 H3 fun y H4 => tv σ2 H4 fun z H5 => ∃ kvs k, y = kV k ∧ H5 D = some (.dK kvs) ∧ kvs.length < sizeLine ∧ Pv (i + 1) (upd H5 D (.dK (putK kvs k z))) else Pv (i + 1) H3) (hd : ∀ H, Pv n H → Qd H) :
    ∃ W : Nat → Nat → Hp → Prop, (∃ m, W 0 m (upd H1 D (.dK []))) ∧ ∀ i m H, W i m H →
      (J.stop i H ∧ Qd H) ∨ (J.go i H ∧ ∃ Nx : Hp → Prop, (∀ H', Nx H' → ∃ m', m' < m ∧ W (i + 1) m' H') ∧ ∀ x H', J.yld i H x H' → g x (wipe σ vs) H' fun σ2 H2 => wipe σ2 vs = wipe σ vs ∧ tt σ2 H2 fun b H3 =>
        if b = true then tk σ2 H3 fun y H4 => tv σ2 H4 fun z H5 => ∃ kvs k, y = kV k ∧ H5 D = some (.dK kvs) ∧ kvs.length < sizeLine ∧ Nx (upd H5 D (.dK (putK kvs k z))) else Nx H3) :=
  dc_any Pv h0 (fun i H hi p => w.goes i H hi (hG i H (Nat.le_of_lt hi) p)) (fun H p => w.stops H (hG n H (Nat.le_refl _) p)) (fun i x H H' hi p y => hs i x H H' hi p (w.yields i H x H' hi (hG i H (Nat.le_of_lt hi) p) y)) hd
/-! ### the rows of a law, as they stay -/
structure GdR (J : Hp) (T S HM CH : Addr) (r : List V) (as : List Addr) (g : Gd) : Prop where
  t : J T = some (.tup (.ref S :: .ref HM :: .ref CH :: r))
  s : J S = some (.lst (g.sites.map V.str))
  h : LsA PsA J HM g.homes
  al : as.length = g.lines.length
  c : ∃ cs, J CH = some (.lst cs) ∧ cs.length = g.lines.length ∧ ∀ (k : Nat) l a, g.lines[k]? = some l → as[k]? = some a → ∃ r, cs[k]? = some (.ref r) ∧ J r = some (.tup (rwV l a))
  i : ∀ (k : Nat) l a, g.lines[k]? = some l → as[k]? = some a → J a = some (.lst (l.it.map V.str))
theorem GdR.same {J J' : Hp} {T S HM CH : Addr} {rr : List V} {as : List Addr} {g : Gd} (x : GdR J T S HM CH rr as g) (s : Same J J') : GdR J' T S HM CH rr as g := by
  obtain ⟨cs, h1, h2, h3⟩ := x.c
  exact ⟨s _ _ x.t, s _ _ x.s, x.h.same stPs s, x.al, ⟨cs, s _ _ h1, h2, fun k l a e1 e2 => let ⟨r, q1, q2⟩ := h3 k l a e1 e2; ⟨r, q1, s _ _ q2⟩⟩, fun k l a e1 e2 => s _ _ (x.i k l a e1 e2)⟩
theorem GdR.rw {J : Hp} {T S HM CH : Addr} {rr : List V} {as : List Addr} {g : Gd} (x : GdR J T S HM CH rr as g) : LsA RwT J CH g.lines := by
  obtain ⟨cs, h1, h2, h3⟩ := x.c
  refine ⟨cs, h1, h2, fun k v l e1 e2 => ?_⟩
  obtain ⟨a, ha⟩ : ∃ a, as[k]? = some a := ⟨_, List.getElem?_eq_getElem (by have := (List.getElem?_eq_some_iff.mp e2).1; rw [x.al]; omega)⟩
  obtain ⟨r, q1, q2⟩ := h3 k l a e2 ha
  rw [e1] at q1
  cases q1
  exact ⟨r, a, rfl, q2, x.i k l a e2 ha⟩
theorem GdR.rws {J : Hp} {T S HM CH : Addr} {rr : List V} {as : List Addr} {g : Gd} (x : GdR J T S HM CH rr as g) : ∃ rc : List Rt, J CH = some (.lst (rc.map fun c => V.ref c.2.1)) ∧ rc.map (·.1) = g.lines ∧ ∀ c ∈ rc, J c.2.1 = some (.tup (rwV c.1 c.2.2)) ∧ J c.2.2 = some (.lst (c.1.it.map V.str)) := by
  obtain ⟨vs, h, pw⟩ := x.rw
  obtain ⟨cs, e, e2, h3⟩ := rowsT pw
  exact ⟨cs, by rw [h, e], e2, h3⟩
theorem GdA.toR {H : Hp} {T S HM CH W : Addr} {as : List Addr} {kvs : List (List L2.Key × V)} {g : Gd} (x : GdA H T S HM CH W as kvs g) : GdR H T S HM CH [.ref W] as g := by
  obtain ⟨cs, h1, h2, h3⟩ := x.c
  exact ⟨cut_all _ _ x.t, cut_all _ _ x.s, x.h.same stPs cut_all, x.al, ⟨cs, cut_all _ _ h1, h2, fun k l a e1 e2 => let ⟨r, q1, q2⟩ := h3 k l a e1 e2; ⟨r, q1, cut_all _ _ q2⟩⟩, x.i⟩
end M

open PySem PySem.Spec PyProof.Rows L2
namespace M
/-! ### C21: a method called with defaults left out -/
structure MthD (P : Program) (w : World) (K : PySem.W.Frag) (mg : Str → Option Value) (base : Heap) (k : Nat) (C : Addr) (m : Str) (ps : List Str) (sp : Sp) (dvs : List V) : Prop where
  cl : Cls K C
  ex : ∃ (f : Addr) (fd : FuncData) (ds : List Value), Meth K C m f ∧ Binds K fd ps ds ∧ Vals dvs ds ∧ FnOk P w K mg base (L2.CX P w) k f fd ps sp
def tMthDE (P : Program) (w : World) (K : PySem.W.Frag) (mg : Str → Option Value) (base : Heap) (j : Nat) (m : Str) (W : WX) (ta : TE) (t : TA) : TE := fun σ H Q => ta σ H fun x H1 => ∃ (a C dx : Addr) (fs : List (Str × V)) (k : Nat) (ps : List Str) (sp : Sp) (dvs : List V), x = .ref a ∧ H1 a = some (.ins C dx fs) ∧
  MthD P w K mg base k C m ps sp dvs ∧ k ≤ j ∧ fs.lookup m = none ∧ t σ H1 fun vs H2 => sp (x :: vs ++ dvs) H2 Q (WE W σ)
section
variable {X : Cx} {k j : Nat} {x m : Str} {ps : List Str} {sp : Sp} {W : WX} {e o : Expr} {es : List Expr} {t : TA} {ta : TE} {p pos apos np : Pos} {C : Addr}
theorem pe_mthDE {pl : Sem Bool} (hr : Room j X.A) (tk : Takes X W) (he : PE X o ta) (ha : PA X (e :: es) t)
    (hst : starEach (e :: es) X.env = (false, eval e X.env) :: starEach es X.env := by rfl) (hpl : (backTo pos (starEach es X.env)).any (·.1) = false := by rfl)
    (ht : eval (.Call (.Attribute o m apos) (e :: es) [] pos) X.env = (do
      let ov ← eval o X.env
      standAt apos.atName
      let (f, first) ← holding [ov] (getMethod ov m pl)
      callWith pos f first (backTo pos (starEach (e :: es) X.env)) (backToKw pos (keywordEach [] X.env))) := by rfl) :
    PE X (.Call (.Attribute o m apos) (e :: es) [] pos) (tMthDE X.prog X.w X.K X.mg X.base j m W ta t) := by
  refine ⟨fun pins s σ H Q I h => ?_⟩
  refine PySem.W.methodCall_KW (pl := pl) (thn (he.run pins s σ H _ I h) fun u s1 ⟨x, H1, I1, rx, a, C, dx, fs, k, ps, sp, dvs, ex, ea, G, hk, l, q⟩ => ?_) ht
  obtain ⟨f, fd, ds, hm, hb, hd, F⟩ := G.ex
  subst ex
  obtain rfl : u = Value.ref a := rx
  refine getmeth_ok I1 ea G.cl hm l ?_
  refine PySem.W.callWith_K (first := [.ref a]) (h₀ := X.base) I.ok.mod.kin hm.kp (thn (ha.run pos pins s1 σ H1 _ I1 q) fun us s2 ⟨vs, H2, I2, r, q2⟩ => ⟨I2.kIn, ?_⟩) hst hpl
  exact run_fnSD (us := .ref a :: us) (vs := .ref a :: vs) (E := WE W) F (hr.mono hk) hb hd (passAt tk σ) I2 (.cons rfl r) q2
end
end M

namespace M
open PySem PySem.Spec PyProof.Rows L2
/-! ### what the making of a placement raises, in plain Lean -/
instance nameOkDec (x : Str) : Decidable (NameOk x) := by unfold NameOk; infer_instance
inductive Er where
  | badName (x : Str)
  | taken (x : Str)
  | unknown (x : Str)
  | badChannel (x : Str)
  | badKind (x : Str)
  | twoWays (i s : Str)
  | notHeld (i s : Str)
/-- the errors' classes -/
structure XA where
  bn : Addr
  tk : Addr
  un : Addr
  bc : Addr
  bk : Addr
  tw : Addr
  nh : Addr
def Er.rz (X : XA) (E : XK) (H : Hp) : Er → Prop
  | .badName x => Rz E X.bn H [("name", .str x)]
  | .taken x => Rz E X.tk H [("name", .str x)]
  | .unknown x => Rz E X.un H [("name", .str x)]
  | .badChannel x => Rz E X.bc H [("name", .str x)]
  | .badKind x => Rz E X.bk H [("kind", .str x)]
  | .twoWays i s => Rz E X.tw H [("site", .str s), ("item", .str i)]
  | .notHeld i s => Rz E X.nh H [("site", .str s), ("item", .str i)]
/-- the first error of a list, each element checked against those before it -/
def firstE {α : Type} (f : List α → α → Option Er) : List α → List α → Option Er
  | _, [] => none
  | b, x :: r => match f b x with
    | some e => some e
    | none => firstE f (b ++ [x]) r
theorem firstE_at {α : Type} {f : List α → α → Option Er} : ∀ {xs : List α} {b : List α} {i : Nat} {x : α} {e : Er}, (∀ (j : Nat) y, j < i → xs[j]? = some y → f (b ++ xs.take j) y = none) → xs[i]? = some x → f (b ++ xs.take i) x = some e → firstE f b xs = some e
  | [], _, i, _, _, _, h, _ => by rw [List.getElem?_nil] at h; cases h
  | y :: r, b, 0, x, e, _, h, he => by
    cases h
    rw [List.take_zero, List.append_nil] at he
    unfold firstE
    rw [he]
  | y :: r, b, i + 1, x, e, hb, h, he => by
    have h0 := hb 0 y (Nat.succ_pos _) rfl
    rw [List.take_zero, List.append_nil] at h0
    unfold firstE
    rw [h0]
    refine firstE_at (i := i) (x := x) (fun j z hj hz => ?_) h ?_
    · have := hb (j + 1) z (by omega) hz
      rwa [List.take_succ_cons, List.append_cons] at this
    · rwa [List.take_succ_cons, List.append_cons] at he
theorem firstE_none {α : Type} {f : List α → α → Option Er} : ∀ {xs : List α} {b : List α}, (∀ (j : Nat) y, xs[j]? = some y → f (b ++ xs.take j) y = none) → firstE f b xs = none
  | [], _, _ => rfl
  | y :: r, b, hb => by
    have h0 := hb 0 y rfl
    rw [List.take_zero, List.append_nil] at h0
    unfold firstE
    rw [h0]
    refine firstE_none fun j z hz => ?_
    have := hb (j + 1) z hz
    rwa [List.take_succ_cons, List.append_cons] at this
theorem firstE_all {α : Type} {f : List α → α → Option Er} : ∀ {xs : List α} {b : List α}, firstE f b xs = none → ∀ (j : Nat) y, xs[j]? = some y → f (b ++ xs.take j) y = none
  | [], _, _, j, _, h => by rw [List.getElem?_nil] at h; cases h
  | y :: r, b, hn, j, z, hz => by
    unfold firstE at hn
    split at hn
    · cases hn
    · rename_i h0
      cases j with
      | zero => cases hz; rw [List.take_zero, List.append_nil]; exact h0
      | succ j =>
        rw [List.take_succ_cons, List.append_cons]
        exact firstE_all hn j z hz
def chkName (P : Str → Bool) (x : Str) : Option Er := if NameOk x then (if P x = true then some (.taken x) else none) else some (.badName x)
def chkKnown (P : Str → Bool) (x : Str) : Option Er := if P x = true then none else some (.unknown x)
def chkKind : Option Str → Option Er
  | none => none
  | some k => if k ∈ kinds then none else some (.badKind k)
def chkEnds (l : Ln) : Option Er := if l.src = l.tgt ∨ l.it = [] then some (.badChannel l.nm) else none
def chkDup (l : Ln) : Option Er := if l.it.Nodup then none else some (.badChannel l.nm)
def chkItems (P : Str → Bool) (it : List Str) : Option Er := firstE (fun _ i => chkKnown P i) [] it
/-- check_channel -/
def chkCh (Ps Pi Pt : Str → Bool) (l : Ln) : Option Er := (chkName Pt l.nm).or ((chkKnown Ps l.src).or ((chkKnown Ps l.tgt).or ((chkEnds l).or ((chkDup l).or ((chkItems Pi l.it).or (chkKind l.kd))))))
def chkSites (xs : List Str) : Option Er := firstE (fun b x => chkName (fun y => decide (y ∈ b)) x) [] xs
def chkHome (sites : List Str) (b : List (Str × Str)) (h : Str × Str) : Option Er := (chkName (fun y => decide (y ∈ b.map (·.1))) h.1).or (chkKnown (fun y => decide (y ∈ sites)) h.2)
def chkHomes (sites : List Str) (hs : List (Str × Str)) : Option Er := firstE (chkHome sites) [] hs
def chkLine (sites goods : List Str) (b : List Ln) (l : Ln) : Option Er := chkCh (fun y => decide (y ∈ sites)) (fun y => decide (y ∈ goods)) (fun y => decide (y ∈ b.map (·.nm))) l
def chkLines (sites goods : List Str) (ls : List Ln) : Option Er := firstE (chkLine sites goods) [] ls
/-- does an item come twice, or home? -/
def chkTwo1 (hs : List (Str × Str)) (b : List Ln) (l : Ln) (c : List Str) (i : Str) : Option Er := if (i, l.tgt) ∈ hs ∨ (∃ m ∈ b, i ∈ m.it ∧ m.tgt = l.tgt) ∨ i ∈ c then some (.twoWays i l.tgt) else none
def chkTwo (hs : List (Str × Str)) (ls : List Ln) : Option Er := firstE (fun b l => firstE (chkTwo1 hs b l) [] l.it) [] ls
def chkHeld1 (w : Ways) (l : Ln) (i : Str) : Option Er := if (w i l.src).isSome = true then none else some (.notHeld i l.src)
def chkHeld (w : Ways) (ls : List Ln) : Option Er := firstE (fun _ l => firstE (fun _ i => chkHeld1 w l i) [] l.it) [] ls
/-- an item comes to a site over these channels -/
inductive Way (hs : List (Str × Str)) (ls : List Ln) : Str → Str → List Str → Prop
  | home {i s : Str} : (i, s) ∈ hs → Way hs ls i s []
  | step {i : Str} {l : Ln} {w : List Str} : l ∈ ls → i ∈ l.it → Way hs ls i l.src w → Way hs ls i l.tgt (w ++ [l.nm])
open Classical in
noncomputable def waysOf (hs : List (Str × Str)) (ls : List Ln) : Ways := fun i s => if h : ∃ w, Way hs ls i s w then some h.choose else none
/-- what is known of a ground ahead of the look whether sources hold -/
structure GdPre (g : Gd) : Prop where
  hN : g.goods.Nodup
  lN : (g.lines.map (·.nm)).Nodup
  lI : ∀ l ∈ g.lines, l.it.Nodup ∧ ∀ i ∈ l.it, i ∈ g.goods
  nh : ∀ l ∈ g.lines, ∀ i ∈ l.it, (i, l.tgt) ∉ g.homes
  u : ∀ (j k : Nat) l m i, g.lines[j]? = some l → g.lines[k]? = some m → l.tgt = m.tgt → i ∈ l.it → i ∈ m.it → j = k
  wH : ∀ h ∈ g.homes, g.ways h.1 h.2 = some []
  wL : ∀ l ∈ g.lines, ∀ i ∈ l.it, g.ways i l.tgt = (g.ways i l.src).map (· ++ [l.nm])
  wD : ∀ i s w, g.ways i s = some w → (i, s) ∈ g.homes ∨ ∃ l ∈ g.lines, l.tgt = s ∧ i ∈ l.it
  wN : ∀ i s w, g.ways i s = some w → w.Nodup
theorem GdOk.pre {g : Gd} (o : GdOk g) : GdPre g := by
  refine ⟨o.hN, o.lN, o.lI, fun l hl i hi hh => ?_, o.u, o.wH, fun l hl i hi => ?_, o.wD, fun i s w h => o.wayNodup _ rfl h⟩
  · obtain ⟨w, _, h2⟩ := o.wL l hl i hi
    have := o.wH _ hh
    rw [h2] at this
    have := congrArg List.length (Option.some.inj this)
    simp at this
  · obtain ⟨w, h1, h2⟩ := o.wL l hl i hi
    rw [h1, h2]
    rfl
section
variable {g : Gd} (o : GdPre g)
include o
theorem GdPre.homeU {i h h' : Str} (a : (i, h) ∈ g.homes) (b : (i, h') ∈ g.homes) : h = h' := by
  obtain ⟨j, hj, e⟩ := List.getElem_of_mem a
  obtain ⟨k, hk, e'⟩ := List.getElem_of_mem b
  have q : g.goods[j]'(by simpa [Gd.goods] using hj) = g.goods[k]'(by simpa [Gd.goods] using hk) := by simp [Gd.goods, e, e']
  have := (List.getElem_inj o.hN).mp q
  subst this
  rw [e] at e'
  exact (Prod.mk.inj e').2
theorem GdPre.step {i s : Str} {w : List Str} (h : g.ways i s = some w) (n : w ≠ []) : ∃ l ∈ g.lines, l.tgt = s ∧ i ∈ l.it ∧ ∃ w', g.ways i l.src = some w' ∧ w = w' ++ [l.nm] := by
  rcases o.wD i s w h with a | ⟨l, hl, e, hi⟩
  · have := o.wH _ a
    rw [h] at this
    exact absurd (Option.some.inj this) n
  · have h1 := o.wL l hl i hi
    rw [e, h] at h1
    cases h2 : g.ways i l.src with
    | none => rw [h2] at h1; cases h1
    | some w' => rw [h2] at h1; exact ⟨l, hl, e, hi, w', h2, Option.some.inj h1⟩
theorem GdPre.atHome {i s hm : Str} {w : List Str} (h : g.ways i s = some w) (a : (i, hm) ∈ g.homes) : w = [] ↔ s = hm := by
  constructor
  · rintro rfl
    rcases o.wD i s [] h with b | ⟨l, hl, e, hi⟩
    · exact o.homeU b a
    · have h1 := o.wL l hl i hi
      rw [e, h] at h1
      cases h2 : g.ways i l.src with
      | none => rw [h2] at h1; cases h1
      | some w' => rw [h2] at h1; have := congrArg List.length (Option.some.inj h1); simp at this
  · rintro rfl
    have := o.wH _ a
    rw [h] at this
    exact Option.some.inj this
theorem GdPre.bringU {l m : Ln} {i : Str} (a : l ∈ g.lines) (b : m ∈ g.lines) (e : l.tgt = m.tgt) (h1 : i ∈ l.it) (h2 : i ∈ m.it) : l = m := by
  obtain ⟨j, hj⟩ := List.getElem?_of_mem a
  obtain ⟨k, hk⟩ := List.getElem?_of_mem b
  have := o.u j k l m i hj hk e h1 h2
  subst this
  rw [hj] at hk
  exact Option.some.inj hk
theorem GdPre.itLen {l : Ln} (h : l ∈ g.lines) : l.it.length ≤ g.goods.length := nodup_le (o.lI l h).1 (o.lI l h).2
/-- with its sources holding it is a ground -/
theorem GdPre.ok (sN : g.sites.Nodup) (hS : ∀ h ∈ g.homes, h.2 ∈ g.sites) (lE : ∀ l ∈ g.lines, l.src ∈ g.sites ∧ l.tgt ∈ g.sites ∧ l.src ≠ l.tgt) (hd : ∀ l ∈ g.lines, ∀ i ∈ l.it, (g.ways i l.src).isSome = true) : GdOk g := by
  refine ⟨sN, o.hN, hS, o.lN, lE, o.lI, o.wH, fun l hl i hi => ?_, o.wD, o.u⟩
  obtain ⟨w, hw⟩ := Option.isSome_iff_exists.mp (hd l hl i hi)
  exact ⟨w, hw, by rw [o.wL l hl i hi, hw]; rfl⟩
end
section
variable {hs : List (Str × Str)} {ls : List Ln}
theorem Way.uniq (nh : ∀ l ∈ ls, ∀ i ∈ l.it, (i, l.tgt) ∉ hs) (u : ∀ l ∈ ls, ∀ m ∈ ls, ∀ i, l.tgt = m.tgt → i ∈ l.it → i ∈ m.it → l = m) {i s : Str} {w : List Str} (h : Way hs ls i s w) : ∀ {w'}, Way hs ls i s w' → w = w' := by
  induction h with
  | home h =>
    intro w' h'
    cases h' with
    | home _ => rfl
    | step hl hi _ => exact absurd h (nh _ hl _ hi)
  | @step l w hl hi hw ih =>
    intro w' h'
    generalize et : l.tgt = t at h'
    cases h' with
    | home h => rw [← et] at h; exact absurd h (nh _ hl _ hi)
    | @step m v hm hi' hv =>
      have := u _ hl _ hm i et hi hi'
      subst this
      rw [ih hv]
theorem Way.mem {i s : Str} {w : List Str} (h : Way hs ls i s w) : ∀ x ∈ w, ∃ m ∈ ls, m.nm = x ∧ i ∈ m.it ∧ ∃ u, Way hs ls i m.tgt u ∧ u.length ≤ w.length := by
  induction h with
  | home _ => intro x hx; cases hx
  | @step l w hl hi hw ih =>
    intro x hx
    rcases List.mem_append.mp hx with hx | hx
    · obtain ⟨m, hm, e, hi', u, h1, h2⟩ := ih x hx
      exact ⟨m, hm, e, hi', u, h1, by simp; omega⟩
    · rw [List.mem_singleton.mp hx]
      exact ⟨l, hl, rfl, hi, _, .step hl hi hw, Nat.le_refl _⟩
theorem Way.nodup (nh : ∀ l ∈ ls, ∀ i ∈ l.it, (i, l.tgt) ∉ hs) (u : ∀ l ∈ ls, ∀ m ∈ ls, ∀ i, l.tgt = m.tgt → i ∈ l.it → i ∈ m.it → l = m) (lu : ∀ l ∈ ls, ∀ m ∈ ls, l.nm = m.nm → l = m) {i s : Str} {w : List Str} (h : Way hs ls i s w) : w.Nodup := by
  induction h with
  | home _ => exact List.nodup_nil
  | @step l w hl hi hw ih =>
    refine List.nodup_append.mpr ⟨ih, List.pairwise_singleton _ _, fun a ha b hb e => ?_⟩
    rw [List.mem_singleton.mp hb] at e
    subst e
    obtain ⟨m, hm, e2, _, v, hv, hl2⟩ := hw.mem _ ha
    have := lu _ hm _ hl e2
    subst this
    have := (Way.step hl hi hw).uniq nh u hv
    rw [← this] at hl2
    simp at hl2
    omega
end
theorem nodup_ix_of {α β : Type} {f : α → β} {l : List α} (h : (l.map f).Nodup) {x y : α} (hx : x ∈ l) (hy : y ∈ l) (e : f x = f y) : x = y := by
  obtain ⟨j, hj, e1⟩ := List.getElem_of_mem hx
  obtain ⟨k, hk, e2⟩ := List.getElem_of_mem hy
  have q : (l.map f)[j]'(by simpa using hj) = (l.map f)[k]'(by simpa using hk) := by simp [e1, e2, e]
  have := (List.getElem_inj h).mp q
  subst this
  rw [← e1, ← e2]
theorem waysOf_some {hs : List (Str × Str)} {ls : List Ln} {i s : Str} {w : List Str} (h : waysOf hs ls i s = some w) : Way hs ls i s w := by
  unfold waysOf at h
  split at h
  · rename_i q
    rw [← Option.some.inj h]
    exact q.choose_spec
  · cases h
theorem chkTwo_none {hs : List (Str × Str)} {ls : List Ln} (h : chkTwo hs ls = none) : (∀ l ∈ ls, ∀ i ∈ l.it, (i, l.tgt) ∉ hs) ∧ (∀ l ∈ ls, l.it.Nodup) ∧ ∀ (j k : Nat) l m i, ls[j]? = some l → ls[k]? = some m → l.tgt = m.tgt → i ∈ l.it → i ∈ m.it → j = k := by
  have key : ∀ (j : Nat) l, ls[j]? = some l → ∀ (n : Nat) i, l.it[n]? = some i → ¬ ((i, l.tgt) ∈ hs ∨ (∃ m ∈ ls.take j, i ∈ m.it ∧ m.tgt = l.tgt) ∨ i ∈ l.it.take n) := fun j l hj n i hn q => by
    have h1 := firstE_all (firstE_all h j l hj) n i hn
    rw [List.nil_append, List.nil_append] at h1
    unfold chkTwo1 at h1
    rw [if_pos q] at h1
    cases h1
  refine ⟨fun l hl i hi hh => ?_, fun l hl => ?_, ?_⟩
  · obtain ⟨j, hj⟩ := List.getElem?_of_mem hl
    obtain ⟨n, hn⟩ := List.getElem?_of_mem hi
    exact key j l hj n i hn (.inl hh)
  · obtain ⟨j, hj⟩ := List.getElem?_of_mem hl
    refine List.pairwise_iff_getElem.mpr fun a b ha hb hab e => ?_
    refine key j l hj b _ (List.getElem?_eq_getElem hb) (.inr (.inr ?_))
    rw [← e]
    exact List.mem_take_iff_getElem.mpr ⟨a, by omega, rfl⟩
  · have lt : ∀ (j k : Nat) l m i, ls[j]? = some l → ls[k]? = some m → l.tgt = m.tgt → i ∈ l.it → i ∈ m.it → ¬ j < k := fun j k l m i hj hk et hl hm q => by
      obtain ⟨n, hn⟩ := List.getElem?_of_mem hm
      refine key k m hk n i hn (.inr (.inl ⟨l, ?_, hl, et⟩))
      have := (List.getElem?_eq_some_iff.mp hj)
      obtain ⟨h1, h2⟩ := this
      rw [← h2]
      exact List.mem_take_iff_getElem.mpr ⟨j, by have := (List.getElem?_eq_some_iff.mp hk).1; omega, rfl⟩
    intro j k l m i hj hk et hl hm
    have a := lt j k l m i hj hk et hl hm
    have b := lt k j m l i hk hj et.symm hm hl
    omega
/-- a ground's lines without two ways: its ways are told -/
theorem GdPre.of {sites : List Str} {hs : List (Str × Str)} {ls : List Ln} (hN : (hs.map (·.1)).Nodup) (lN : (ls.map (·.nm)).Nodup) (lI : ∀ l ∈ ls, ∀ i ∈ l.it, i ∈ hs.map (·.1)) (two : chkTwo hs ls = none) : GdPre ⟨sites, hs, ls, waysOf hs ls⟩ := by
  obtain ⟨nh, nd, u⟩ := chkTwo_none two
  have u' : ∀ l ∈ ls, ∀ m ∈ ls, ∀ i, l.tgt = m.tgt → i ∈ l.it → i ∈ m.it → l = m := fun l hl m hm i e h1 h2 => by
    obtain ⟨j, hj⟩ := List.getElem?_of_mem hl
    obtain ⟨k, hk⟩ := List.getElem?_of_mem hm
    have := u j k l m i hj hk e h1 h2
    subst this
    rw [hj] at hk
    exact Option.some.inj hk
  have lu : ∀ l ∈ ls, ∀ m ∈ ls, l.nm = m.nm → l = m := fun l hl m hm e => nodup_ix_of lN hl hm e
  have is : ∀ {i s w}, Way hs ls i s w → waysOf hs ls i s = some w := fun {i s w} h => by
    have q : ∃ w, Way hs ls i s w := ⟨w, h⟩
    unfold waysOf
    rw [dif_pos q, (q.choose_spec).uniq nh u' h]
  refine ⟨hN, lN, fun l hl => ⟨nd l hl, lI l hl⟩, nh, u, fun h hh => is (.home hh), fun l hl i hi => ?_, fun i s w h => ?_, fun i s w h => (waysOf_some h).nodup nh u' lu⟩
  · show waysOf hs ls i l.tgt = (waysOf hs ls i l.src).map _
    cases e : waysOf hs ls i l.src with
    | some w => exact is (.step hl hi (waysOf_some e))
    | none =>
      cases e2 : waysOf hs ls i l.tgt with
      | none => rfl
      | some v =>
        exfalso
        have h := waysOf_some e2
        generalize et : l.tgt = t at h
        cases h with
        | home h => rw [← et] at h; exact nh l hl i hi h
        | @step m w hm hi' hv =>
          have := u' l hl m hm i et hi hi'
          subst this
          rw [is hv] at e
          cases e
  · have h := waysOf_some h
    cases h with
    | home h' => exact .inl h'
    | step hl hi _ => exact .inr ⟨_, hl, rfl, hi⟩
/-- Placement(..) -/
noncomputable def mkErr (sites : List Str) (hs : List (Str × Str)) (ls : List Ln) : Option Er :=
  (chkSites sites).or ((chkHomes sites hs).or ((chkLines sites (hs.map (·.1)) ls).or ((chkTwo hs ls).or (chkHeld (waysOf hs ls) ls))))
theorem or_none {a b : Option Er} : a.or b = none ↔ a = none ∧ b = none := by
  cases a <;> simp
theorem chkName_none {P : Str → Bool} {x : Str} (h : chkName P x = none) : NameOk x ∧ P x = false := by
  unfold chkName at h
  split at h
  · rename_i q
    split at h
    · cases h
    · rename_i p; exact ⟨q, by simpa using p⟩
  · cases h
theorem chkKnown_none {P : Str → Bool} {x : Str} (h : chkKnown P x = none) : P x = true := by
  unfold chkKnown at h
  split at h
  · assumption
  · cases h
theorem chkKind_none {k : Option Str} (h : chkKind k = none) : KindOk k := by
  cases k with
  | none => trivial
  | some k =>
    have h' : (if k ∈ kinds then none else some (Er.badKind k)) = none := h
    split at h'
    · assumption
    · cases h'
theorem nodup_by_take {α β : Type} {f : α → β} {xs : List α} (h : ∀ (j : Nat) y, xs[j]? = some y → f y ∉ (xs.take j).map f) : (xs.map f).Nodup := by
  refine List.pairwise_iff_getElem.mpr fun a b ha hb hab e => ?_
  rw [List.getElem_map, List.getElem_map] at e
  rw [List.length_map] at ha hb
  refine h b _ (List.getElem?_eq_getElem hb) ?_
  rw [← e]
  exact List.mem_map.mpr ⟨_, List.mem_take_iff_getElem.mpr ⟨a, by omega, rfl⟩, rfl⟩
theorem chkSites_none {xs : List Str} (h : chkSites xs = none) : xs.Nodup ∧ ∀ x ∈ xs, NameOk x := by
  have key : ∀ (j : Nat) y, xs[j]? = some y → NameOk y ∧ y ∉ xs.take j := fun j y hj => by
    have h1 := chkName_none (firstE_all h j y hj)
    rw [List.nil_append] at h1
    exact ⟨h1.1, of_decide_eq_false h1.2⟩
  refine ⟨?_, fun x hx => ?_⟩
  · have := nodup_by_take (f := fun x : Str => x) (xs := xs) fun j y hj => by rw [List.map_id']; exact (key j y hj).2
    rwa [List.map_id'] at this
  · obtain ⟨j, hj⟩ := List.getElem?_of_mem hx
    exact (key j x hj).1
theorem chkHomes_none {sites : List Str} {hs : List (Str × Str)} (h : chkHomes sites hs = none) : (hs.map (·.1)).Nodup ∧ ∀ x ∈ hs, NameOk x.1 ∧ x.2 ∈ sites := by
  have key : ∀ (j : Nat) y, hs[j]? = some y → (NameOk y.1 ∧ y.1 ∉ (hs.take j).map (·.1)) ∧ y.2 ∈ sites := fun j y hj => by
    have h1 := or_none.mp (firstE_all h j y hj)
    rw [List.nil_append] at h1
    have h2 := chkName_none h1.1
    exact ⟨⟨h2.1, of_decide_eq_false h2.2⟩, of_decide_eq_true (chkKnown_none h1.2)⟩
  refine ⟨nodup_by_take fun j y hj => (key j y hj).1.2, fun x hx => ?_⟩
  obtain ⟨j, hj⟩ := List.getElem?_of_mem hx
  exact ⟨(key j x hj).1.1, (key j x hj).2⟩
theorem chkCh_none {Ps Pi Pt : Str → Bool} {l : Ln} (h : chkCh Ps Pi Pt l = none) : (NameOk l.nm ∧ Pt l.nm = false) ∧ Ps l.src = true ∧ Ps l.tgt = true ∧ (l.src ≠ l.tgt ∧ l.it ≠ []) ∧ l.it.Nodup ∧ (∀ i ∈ l.it, Pi i = true) ∧ KindOk l.kd := by
  obtain ⟨h1, h⟩ := or_none.mp h
  obtain ⟨h2, h⟩ := or_none.mp h
  obtain ⟨h3, h⟩ := or_none.mp h
  obtain ⟨h4, h⟩ := or_none.mp h
  obtain ⟨h5, h⟩ := or_none.mp h
  obtain ⟨h6, h7⟩ := or_none.mp h
  refine ⟨chkName_none h1, chkKnown_none h2, chkKnown_none h3, ?_, ?_, fun i hi => ?_, chkKind_none h7⟩
  · unfold chkEnds at h4
    split at h4
    · cases h4
    · rename_i q
      exact ⟨fun e => q (.inl e), fun e => q (.inr e)⟩
  · unfold chkDup at h5
    split at h5
    · assumption
    · cases h5
  · obtain ⟨j, hj⟩ := List.getElem?_of_mem hi
    exact chkKnown_none (firstE_all h6 j i hj)
theorem chkLines_none {sites goods : List Str} {ls : List Ln} (h : chkLines sites goods ls = none) : (ls.map (·.nm)).Nodup ∧ ∀ l ∈ ls, NameOk l.nm ∧ (l.src ∈ sites ∧ l.tgt ∈ sites ∧ l.src ≠ l.tgt) ∧ l.it ≠ [] ∧ (l.it.Nodup ∧ ∀ i ∈ l.it, i ∈ goods) ∧ KindOk l.kd := by
  have key : ∀ (j : Nat) l, ls[j]? = some l → l.nm ∉ (ls.take j).map (·.nm) ∧ NameOk l.nm ∧ (l.src ∈ sites ∧ l.tgt ∈ sites ∧ l.src ≠ l.tgt) ∧ l.it ≠ [] ∧ (l.it.Nodup ∧ ∀ i ∈ l.it, i ∈ goods) ∧ KindOk l.kd := fun j l hj => by
    have h1 := firstE_all h j l hj
    rw [List.nil_append] at h1
    obtain ⟨⟨a, b⟩, c, d, ⟨e, f⟩, k, m, n⟩ := chkCh_none h1
    exact ⟨of_decide_eq_false b, a, ⟨of_decide_eq_true c, of_decide_eq_true d, e⟩, f, ⟨k, fun i hi => of_decide_eq_true (m i hi)⟩, n⟩
  refine ⟨nodup_by_take fun j y hj => (key j y hj).1, fun l hl => ?_⟩
  obtain ⟨j, hj⟩ := List.getElem?_of_mem hl
  exact (key j l hj).2
theorem chkHeld_none {w : Ways} {ls : List Ln} (h : chkHeld w ls = none) : ∀ l ∈ ls, ∀ i ∈ l.it, (w i l.src).isSome = true := fun l hl i hi => by
  obtain ⟨j, hj⟩ := List.getElem?_of_mem hl
  obtain ⟨n, hn⟩ := List.getElem?_of_mem hi
  have h1 := firstE_all (firstE_all h j l hj) n i hn
  unfold chkHeld1 at h1
  split at h1
  · assumption
  · cases h1
/-- what is made without an error is a ground -/
theorem mkErr_none {sites : List Str} {hs : List (Str × Str)} {ls : List Ln} (h : mkErr sites hs ls = none) : GdOk ⟨sites, hs, ls, waysOf hs ls⟩ ∧ (∀ x ∈ sites, NameOk x) ∧ (∀ x ∈ hs, NameOk x.1) ∧ (∀ l ∈ ls, NameOk l.nm ∧ l.it ≠ [] ∧ KindOk l.kd) := by
  obtain ⟨h1, h⟩ := or_none.mp h
  obtain ⟨h2, h⟩ := or_none.mp h
  obtain ⟨h3, h⟩ := or_none.mp h
  obtain ⟨h4, h5⟩ := or_none.mp h
  obtain ⟨a1, a2⟩ := chkSites_none h1
  obtain ⟨b1, b2⟩ := chkHomes_none h2
  obtain ⟨c1, c2⟩ := chkLines_none h3
  have pre := GdPre.of (sites := sites) b1 c1 (fun l hl => (c2 l hl).2.2.2.1.2) h4
  exact ⟨pre.ok a1 (fun h hh => (b2 h hh).2) (fun l hl => (c2 l hl).2.1) (chkHeld_none h5), a2, fun x hx => (b2 x hx).1, fun l hl => ⟨(c2 l hl).1, (c2 l hl).2.2.1, (c2 l hl).2.2.2.2⟩⟩
/-! what is valid raises nothing -/
theorem chkName_ok {P : Str → Bool} {x : Str} (h : NameOk x) (p : P x = false) : chkName P x = none := by unfold chkName; rw [if_pos h, if_neg (by rw [p]; decide)]
theorem chkKnown_ok {P : Str → Bool} {x : Str} (p : P x = true) : chkKnown P x = none := by unfold chkKnown; rw [if_pos p]
theorem chkKind_ok {k : Option Str} (h : KindOk k) : chkKind k = none := by
  cases k with
  | none => rfl
  | some k => unfold chkKind; exact if_pos h
theorem chkEnds_ok {l : Ln} (h : l.src ≠ l.tgt) (h2 : l.it ≠ []) : chkEnds l = none := by unfold chkEnds; exact if_neg fun q => q.elim h h2
theorem chkDup_ok {l : Ln} (h : l.it.Nodup) : chkDup l = none := by unfold chkDup; exact if_pos h
theorem chkItems_ok {P : Str → Bool} {it : List Str} (h : ∀ i ∈ it, P i = true) : chkItems P it = none := firstE_none fun j i hj => chkKnown_ok (h i (List.mem_of_getElem? hj))
theorem chkCh_ok {Ps Pi Pt : Str → Bool} {l : Ln} (h1 : NameOk l.nm) (h2 : Pt l.nm = false) (h3 : Ps l.src = true) (h4 : Ps l.tgt = true) (h5 : l.src ≠ l.tgt) (h6 : l.it ≠ []) (h7 : l.it.Nodup) (h8 : ∀ i ∈ l.it, Pi i = true) (h9 : KindOk l.kd) : chkCh Ps Pi Pt l = none := by
  unfold chkCh
  rw [chkName_ok h1 h2, chkKnown_ok h3, chkKnown_ok h4, chkEnds_ok h5 h6, chkDup_ok h7, chkItems_ok h8, chkKind_ok h9]
  rfl
theorem nodup_take {α β : Type} {f : α → β} {xs : List α} (h : (xs.map f).Nodup) {j : Nat} {y : α} (hj : xs[j]? = some y) : f y ∉ (xs.take j).map f := fun q => by
  obtain ⟨z, hz, e⟩ := List.mem_map.mp q
  obtain ⟨a, ha, e1⟩ := List.mem_take_iff_getElem.mp hz
  obtain ⟨b1, b2⟩ := List.getElem?_eq_some_iff.mp hj
  have := (List.getElem_inj (i := a) (j := j) (h₀ := by rw [List.length_map]; omega) (h₁ := by rw [List.length_map]; omega) h).mp (by rw [List.getElem_map, List.getElem_map, e1, b2, e])
  omega
theorem chkSites_ok {xs : List Str} (h : xs.Nodup) (n : ∀ x ∈ xs, NameOk x) : chkSites xs = none := firstE_none fun j y hj => chkName_ok (n y (List.mem_of_getElem? hj)) (decide_eq_false (by
  rw [List.nil_append]
  have := nodup_take (f := fun x : Str => x) (xs := xs) (by rw [List.map_id']; exact h) hj
  rwa [List.map_id'] at this))
theorem chkHomes_ok {sites : List Str} {hs : List (Str × Str)} (h : (hs.map (·.1)).Nodup) (n : ∀ x ∈ hs, NameOk x.1 ∧ x.2 ∈ sites) : chkHomes sites hs = none := firstE_none fun j y hj => by
  have m := n y (List.mem_of_getElem? hj)
  unfold chkHome
  rw [chkName_ok m.1 (decide_eq_false (by rw [List.nil_append]; exact nodup_take h hj)), chkKnown_ok (decide_eq_true m.2)]
  rfl
theorem chkLines_ok {sites goods : List Str} {ls : List Ln} (h : (ls.map (·.nm)).Nodup) (n : ∀ l ∈ ls, NameOk l.nm ∧ (l.src ∈ sites ∧ l.tgt ∈ sites ∧ l.src ≠ l.tgt) ∧ l.it ≠ [] ∧ (l.it.Nodup ∧ ∀ i ∈ l.it, i ∈ goods) ∧ KindOk l.kd) : chkLines sites goods ls = none := firstE_none fun j l hj => by
  obtain ⟨a, ⟨b, c, d⟩, e, ⟨f, k⟩, m⟩ := n l (List.mem_of_getElem? hj)
  exact chkCh_ok a (decide_eq_false (by rw [List.nil_append]; exact nodup_take h hj)) (decide_eq_true b) (decide_eq_true c) d e f (fun i hi => decide_eq_true (k i hi)) m
theorem chkTwo_ok {hs : List (Str × Str)} {ls : List Ln} (nh : ∀ l ∈ ls, ∀ i ∈ l.it, (i, l.tgt) ∉ hs) (nd : ∀ l ∈ ls, l.it.Nodup) (u : ∀ (j k : Nat) l m i, ls[j]? = some l → ls[k]? = some m → l.tgt = m.tgt → i ∈ l.it → i ∈ m.it → j = k) : chkTwo hs ls = none := firstE_none fun j l hj => firstE_none fun n i hn => by
  rw [List.nil_append, List.nil_append]
  have hl := List.mem_of_getElem? hj
  have hi := List.mem_of_getElem? hn
  unfold chkTwo1
  rw [if_neg]
  rintro (q | ⟨m, hm, h1, h2⟩ | q)
  · exact nh l hl i hi q
  · obtain ⟨a, ha, e1⟩ := List.mem_take_iff_getElem.mp hm
    have := u a j m l i (by rw [← e1]; exact List.getElem?_eq_getElem _) hj h2 h1 hi
    omega
  · have := nodup_take (f := fun x : Str => x) (xs := l.it) (by rw [List.map_id']; exact nd l hl) hn
    rw [List.map_id'] at this
    exact this q
theorem chkHeld_ok {w : Ways} {ls : List Ln} (h : ∀ l ∈ ls, ∀ i ∈ l.it, (w i l.src).isSome = true) : chkHeld w ls = none := firstE_none fun j l hj => firstE_none fun n i hn => by
  unfold chkHeld1
  rw [if_pos (h l (List.mem_of_getElem? hj) i (List.mem_of_getElem? hn))]
/-- the ways of a ground are those told by its lines -/
theorem GdOk.waysOf {g : Gd} (o : GdOk g) : g.ways = M.waysOf g.homes g.lines := by
  have pre : GdPre ⟨g.sites, g.homes, g.lines, M.waysOf g.homes g.lines⟩ := GdPre.of o.hN o.lN (fun l hl => (o.lI l hl).2) (chkTwo_ok o.pre.nh (fun l hl => (o.lI l hl).1) o.u)
  have key : ∀ (n : Nat) i s w, w.length = n → g.ways i s = some w → M.waysOf g.homes g.lines i s = some w := by
    intro n
    induction n with
    | zero =>
      intro i s w hn h
      have := List.length_eq_zero_iff.mp hn
      subst this
      rcases o.wD i s [] h with a | ⟨l, hl, e, hi⟩
      · exact pre.wH _ a
      · obtain ⟨w', _, h2⟩ := o.wL l hl i hi
        rw [e, h] at h2
        have := congrArg List.length (Option.some.inj h2)
        simp at this
    | succ n ih =>
      intro i s w hn h
      obtain ⟨l, hl, e, hi, w', h1, rfl⟩ := o.step h (fun z => by rw [z] at hn; cases hn)
      have h2 := ih i l.src w' (by simpa using hn) h1
      have h3 := pre.wL l hl i hi
      rw [← e]
      show M.waysOf g.homes g.lines i l.tgt = _
      rw [show M.waysOf g.homes g.lines i l.tgt = (M.waysOf g.homes g.lines i l.src).map _ from h3, h2]
      rfl
  have key2 : ∀ i s w, Way g.homes g.lines i s w → g.ways i s = some w := fun i s w h => by
    induction h with
    | home h => exact o.wH _ h
    | @step l w hl hi _ ih =>
      obtain ⟨w', h1, h2⟩ := o.wL l hl i hi
      rw [ih] at h1
      rw [h2, ← Option.some.inj h1]
  funext i s
  cases e : g.ways i s with
  | some w => exact (key _ i s w rfl e).symm
  | none =>
    cases e2 : M.waysOf g.homes g.lines i s with
    | none => rfl
    | some w => rw [key2 i s w (waysOf_some e2)] at e; cases e
theorem mkErr_ok {g : Gd} (o : GdOk g) (s : ∀ x ∈ g.sites, NameOk x) (h : ∀ x ∈ g.goods, NameOk x) (l : ∀ l ∈ g.lines, NameOk l.nm ∧ l.it ≠ [] ∧ KindOk l.kd) : mkErr g.sites g.homes g.lines = none := by
  unfold mkErr
  show (chkSites g.sites).or ((chkHomes g.sites g.homes).or ((chkLines g.sites g.goods g.lines).or ((chkTwo g.homes g.lines).or (chkHeld (M.waysOf g.homes g.lines) g.lines)))) = none
  rw [chkSites_ok o.sN s, chkHomes_ok o.hN (fun x hx => ⟨h _ (List.mem_map.mpr ⟨x, hx, rfl⟩), o.hS x hx⟩), chkLines_ok o.lN (fun m hm => ⟨(l m hm).1, o.lE m hm, (l m hm).2.1, o.lI m hm, (l m hm).2.2⟩), chkTwo_ok o.pre.nh (fun l hl => (o.lI l hl).1) o.u,
    chkHeld_ok fun l hl i hi => ?_]
  · rfl
  · rw [← o.waysOf]
    obtain ⟨w, h1, _⟩ := o.wL l hl i hi
    rw [h1]
    rfl
end M

namespace L2
open PySem PySem.Spec PyProof.Rows
/-! ### a list or a tuple walked, told by the reading -/
def Itx (b : Bool) (K : PySem.W.Frag) (a : Addr) : It := match b with
  | true => Itl K a
  | false => Itt K a
def SqX (b : Bool) (K : PySem.W.Frag) (H : Hp) (a : Addr) (xs : List V) : Prop := match b with
  | true => SqL K H a xs
  | false => SqT K H a xs
def iSeq (K : PySem.W.Frag) (tl : TE) : TI := fun σ H R => tl σ H fun x H1 => ∃ (a : Addr) (b : Bool), x = .ref a ∧ (∃ xs, SqX b K H1 a xs) ∧ R (Itx b K a) H1
section
variable {X : Cx} {tg : Expr}
theorem pi_seq {l : Expr} {tl : TE} (hl : PE X l tl) : PI X tg l (iSeq X.K tl) := by
  refine ⟨fun pins s σ H R I h => ?_⟩
  refine thn (hl.run pins s σ H _ I h) fun v s1 ⟨x, H1, I1, r1, q1⟩ => ?_
  obtain ⟨a, b, e, ⟨xs, hq⟩, q⟩ := q1
  subst e
  cases r1
  cases b with
  | true =>
    obtain ⟨its, rv, p, hz⟩ := I1.list hq
    refine wpAny_pyIter_list p.isList ?_
    refine ⟨s1.heap.objs.size, [s1.heap.objs.size], _, _, H1, rfl, I1.kept (t' := s1.toks) fun b o e => Heap.get?_push_of_some _ e, turn_list a _, ⟨_, Heap.get?_push_size _ rfl, rfl, rfl⟩, fun b hb => ?_, q⟩
    have e : b = s1.heap.objs.size := by simpa using hb
    subst e
    exact I1.fpOk (Nat.le_refl _) (I1.hok.fresh (Nat.le_refl _))
  | false =>
    obtain ⟨its, rv, p, hz⟩ := I1.tuple hq
    refine wpAny_pyIter_tuple (show s1.heap.IsTuple a its.toArray from p) ?_
    refine ⟨s1.heap.objs.size, [s1.heap.objs.size], _, _, H1, rfl, I1.kept (t' := s1.toks) fun b o e => Heap.get?_push_of_some _ e, turn_tuple a _, ⟨_, Heap.get?_push_size _ rfl, rfl, rfl⟩, fun b hb => ?_, q⟩
    have e : b = s1.heap.objs.size := by simpa using hb
    subst e
    exact I1.fpOk (Nat.le_refl _) (I1.hok.fresh (Nat.le_refl _))
end
theorem walk_x {b : Bool} {K : PySem.W.Frag} {a : Addr} {xs : List V} : Walk (Itx b K a) xs.length (fun H => SqX b K H a xs) (YAt xs) := by
  cases b
  · exact walk_tup
  · exact walk_list
theorem Same.seqX {H H' : Hp} {b : Bool} {K : PySem.W.Frag} {a : Addr} {xs : List V} (s : Same H H') (h : SqX b K H a xs) : SqX b K H' a xs := by
  cases b with
  | true =>
    rcases h with (h | ⟨o, h⟩) | h
    · exact .inl (.inl (s _ _ h))
    · exact .inl (.inr ⟨o, s _ _ h⟩)
    · exact .inr h
  | false =>
    rcases h with (h | ⟨o, h⟩) | h
    · exact .inl (.inl (s _ _ h))
    · exact .inl (.inr ⟨o, s _ _ h⟩)
    · exact .inr h
end L2

namespace M
open PySem PySem.Spec PyProof.Rows L2
/-! ### a method called with keywords, in any order, defaults left out -/
structure MthN (P : Program) (w : World) (K : PySem.W.Frag) (mg : Str → Option Value) (base : Heap) (k : Nat) (C : Addr) (m : Str) (ps : List Str) (n : Nat) (ks : List Str) (gV : List V → List V → List V) (sp : Sp) : Prop where
  cl : Cls K C
  ex : ∃ (f : Addr) (fd : FuncData) (g : List Value → List Value → List Value), Meth K C m f ∧ KBn K fd ps (n + 1) ks g gV ∧ FnOk P w K mg base (L2.CX P w) k f fd ps sp
def tMthNE (P : Program) (w : World) (K : PySem.W.Frag) (mg : Str → Option Value) (base : Heap) (j : Nat) (m : Str) (ks : List Str) (W : WX) (ta : TE) (t tk : TA) : TE := fun σ H Q => ta σ H fun x H1 => ∃ (a C dx : Addr) (fs : List (Str × V)) (k : Nat) (ps : List Str) (n : Nat) (gV : List V → List V → List V) (sp : Sp), x = .ref a ∧ H1 a = some (.ins C dx fs) ∧
  MthN P w K mg base k C m ps n ks gV sp ∧ k ≤ j ∧ fs.lookup m = none ∧ t σ H1 fun vs H2 => tk σ H2 fun zs H3 => vs.length = n ∧ zs.length = ks.length ∧ sp (gV (x :: vs) zs) H3 Q (WE W σ)
section
variable {X : Cx} {k j : Nat} {x m : Str} {ps ks : List Str} {sp : Sp} {W : WX} {e o : Expr} {es : List Expr} {kws : List Keyword} {t tk : TA} {ta : TE} {p pos apos np : Pos} {C : Addr}
theorem pe_mthNE {pl : Sem Bool} (hr : Room j X.A) (hT : Takes X W) (he : PE X o ta) (ha : PA X (e :: es) t) (hkw : PK X kws tk) (hall : (backToKw pos (keywordEach kws X.env)).all (·.1.isSome) = true := by rfl) (hks : (backToKw pos (keywordEach kws X.env)).filterMap (·.1) = ks := by rfl)
    (hst : starEach (e :: es) X.env = (false, eval e X.env) :: starEach es X.env := by rfl) (hpl : ((backTo pos (starEach (e :: es) X.env)).any (·.1) || (backToKw pos (keywordEach kws X.env)).any (·.1.isNone)) = false := by rfl)
    (ht : eval (.Call (.Attribute o m apos) (e :: es) kws pos) X.env = (do
      let ov ← eval o X.env
      standAt apos.atName
      let (f, first) ← holding [ov] (getMethod ov m pl)
      callWith pos f first (backTo pos (starEach (e :: es) X.env)) (backToKw pos (keywordEach kws X.env))) := by rfl) :
    PE X (.Call (.Attribute o m apos) (e :: es) kws pos) (tMthNE X.prog X.w X.K X.mg X.base j m ks W ta t tk) := by
  refine ⟨fun pins s σ H Q I h => ?_⟩
  refine PySem.W.methodCall_KW (pl := pl) (thn (he.run pins s σ H _ I h) fun u s1 ⟨x, H1, I1, rx, a, C, dx, fs, k, ps, n, gV, sp, ex, ea, G, hk, l, q⟩ => ?_) ht
  obtain ⟨f, fd, g, hm, hb, F⟩ := G.ex
  subst ex
  obtain rfl : u = Value.ref a := rx
  refine getmeth_ok I1 ea G.cl hm l ?_
  refine PySem.W.callWith_KW (first := [.ref a]) (h₀ := X.base) I.ok.mod.kin hm.kp hall (thn (ha.run pos pins s1 σ H1 _ I1 q) fun us s2 ⟨vs, H2, I2, r, q2⟩ => ?_) hpl hst
  refine thn (hkw.run pos pins s2 σ H2 _ I2 q2) fun ws s3 ⟨zs, H3, I3, rz, l1, l2, q3⟩ => ⟨I3.kIn, ?_⟩
  rw [hks]
  have e1 : (Value.ref a :: us).length = n + 1 := congrArg Nat.succ (r.length.symm.trans l1)
  have e2 : ws.length = ks.length := rz.length.symm.trans l2
  have r1 : Vals (V.ref a :: vs) (Value.ref a :: us) := .cons rfl r
  refine wpAny_call (codeAny_mono (F.run X.A X.stack s3 H3 ⟨Value.ref a :: us, ks.zip ws⟩ (g (Value.ref a :: us) ws) (gV (V.ref a :: vs) zs) Q (WE W σ) (hr.mono hk) I3.env0 (hb.to s3 (Value.ref a :: us) ws I3.kIn e1 e2) (hb.rel r1 rz) q3) fun r s' hq => ?_)
  cases r with
  | error e => exact passAt hT σ pins H3 s3 e s' I3 hq
  | ok fl =>
    cases fl with
    | ret u => exact I3.after hq
    | next => exact False.elim hq
    | brk => exact False.elim hq
    | cont => exact False.elim hq
end
end M

namespace M
open PySem PySem.Spec PyProof.Rows L2
/-! ### one more item, one more channel -/
theorem GdOk.addItem {g : Gd} (o : GdOk g) {n t : Str} (hn : n ∉ g.goods) (ht : t ∈ g.sites) : GdOk { g with homes := g.homes ++ [(n, t)], ways := wSet g.ways n t [] } := by
  have noW : ∀ s, g.ways n s = none := fun s => by
    cases e : g.ways n s with
    | none => rfl
    | some w => exact absurd (o.siteIn e).1 hn
  have ne : ∀ {i s v}, g.ways i s = some v → wSet g.ways n t [] i s = some v := fun {i s v} h => by
    rw [wSet_ne]
    · exact h
    · rintro ⟨rfl, rfl⟩
      rw [noW] at h
      cases h
  refine ⟨o.sN, ?_, fun h hh => ?_, o.lN, o.lE, fun l hl => ⟨(o.lI l hl).1, fun i hi => ?_⟩, fun h hh => ?_, fun l hl i hi => ?_, fun i s w h => ?_, o.u⟩
  · show ((g.homes ++ [(n, t)]).map (·.1)).Nodup
    rw [List.map_append]
    exact List.nodup_append.mpr ⟨o.hN, List.pairwise_singleton _ _, fun a ha b hb e => hn (by rw [← show b = n from List.mem_singleton.mp hb, ← e]; exact ha)⟩
  · rcases List.mem_append.mp hh with hh | hh
    · exact o.hS h hh
    · rw [List.mem_singleton.mp hh]; exact ht
  · show i ∈ (g.homes ++ [(n, t)]).map (·.1)
    rw [List.map_append]
    exact List.mem_append_left _ ((o.lI l hl).2 i hi)
  · rcases List.mem_append.mp hh with hh | hh
    · exact ne (o.wH h hh)
    · rw [List.mem_singleton.mp hh]; exact wSet_same
  · obtain ⟨w, h1, h2⟩ := o.wL l hl i hi
    exact ⟨w, ne h1, ne h2⟩
  · by_cases q : i = n ∧ s = t
    · obtain ⟨rfl, rfl⟩ := q
      exact .inl (List.mem_append_right _ (List.mem_singleton.mpr rfl))
    · have h' : wSet g.ways n t [] i s = some w := h
      rw [wSet_ne q] at h'
      rcases o.wD i s w h' with h | h
      · exact .inl (List.mem_append_left _ h)
      · exact .inr h
/-- the ways with a further channel -/
def addW (w : Ways) (l : Ln) : Ways := fun i s => if i ∈ l.it ∧ s = l.tgt then (w i l.src).map (· ++ [l.nm]) else w i s
theorem GdOk.addLine {g : Gd} (o : GdOk g) {l : Ln} (hn : l.nm ∉ g.lines.map (·.nm)) (hE : l.src ∈ g.sites ∧ l.tgt ∈ g.sites ∧ l.src ≠ l.tgt) (hI : l.it.Nodup ∧ ∀ i ∈ l.it, i ∈ g.goods) (ht : ∀ i ∈ l.it, g.ways i l.tgt = none) (hs : ∀ i ∈ l.it, (g.ways i l.src).isSome = true) :
    GdOk { g with lines := g.lines ++ [l], ways := addW g.ways l } := by
  have ne : ∀ {i s v}, g.ways i s = some v → addW g.ways l i s = some v := fun {i s v} h => by
    unfold addW
    rw [if_neg]
    · exact h
    · rintro ⟨h1, rfl⟩
      rw [ht i h1] at h
      cases h
  have at_ : ∀ i ∈ l.it, ∃ w, g.ways i l.src = some w ∧ addW g.ways l i l.tgt = some (w ++ [l.nm]) := fun i hi => by
    obtain ⟨w, hw⟩ := Option.isSome_iff_exists.mp (hs i hi)
    refine ⟨w, hw, ?_⟩
    unfold addW
    rw [if_pos ⟨hi, rfl⟩, hw]
    rfl
  have nb : ∀ m ∈ g.lines, ∀ i, m.tgt = l.tgt → i ∈ m.it → i ∉ l.it := fun m hm i e h1 h2 => by
    obtain ⟨w, _, h3⟩ := o.wL m hm i h1
    rw [e, ht i h2] at h3
    cases h3
  refine ⟨o.sN, o.hN, o.hS, ?_, fun m hm => ?_, fun m hm => ?_, fun h hh => ne (o.wH h hh), fun m hm i hi => ?_, fun i s w h => ?_, ?_⟩
  · show ((g.lines ++ [l]).map (·.nm)).Nodup
    rw [List.map_append]
    exact List.nodup_append.mpr ⟨o.lN, List.pairwise_singleton _ _, fun a ha b hb e => hn (by rw [← show b = l.nm from List.mem_singleton.mp hb, ← e]; exact ha)⟩
  · rcases List.mem_append.mp hm with hm | hm
    · exact o.lE m hm
    · rw [List.mem_singleton.mp hm]; exact hE
  · rcases List.mem_append.mp hm with hm | hm
    · exact o.lI m hm
    · rw [List.mem_singleton.mp hm]; exact hI
  · rcases List.mem_append.mp hm with hm | hm
    · obtain ⟨w, h1, h2⟩ := o.wL m hm i hi
      exact ⟨w, ne h1, ne h2⟩
    · rw [List.mem_singleton.mp hm] at hi ⊢
      obtain ⟨w, h1, h2⟩ := at_ i hi
      exact ⟨w, ne h1, h2⟩
  · by_cases q : i ∈ l.it ∧ s = l.tgt
    · exact .inr ⟨l, List.mem_append_right _ (List.mem_singleton.mpr rfl), q.2.symm, q.1⟩
    · have h' : addW g.ways l i s = some w := h
      unfold addW at h'
      rw [if_neg q] at h'
      rcases o.wD i s w h' with h | ⟨m, hm, h⟩
      · exact .inl h
      · exact .inr ⟨m, List.mem_append_left _ hm, h⟩
  · have key : ∀ (j : Nat) m, (g.lines ++ [l])[j]? = some m → (g.lines[j]? = some m ∧ m ∈ g.lines) ∨ (j = g.lines.length ∧ m = l) := fun j m h => by
      by_cases q : j < g.lines.length
      · rw [List.getElem?_append_left q] at h
        exact .inl ⟨h, List.mem_of_getElem? h⟩
      · rw [List.getElem?_append_right (by omega)] at h
        have e : j - g.lines.length = 0 := by
          have := (List.getElem?_eq_some_iff.mp h).1
          simp at this
          omega
        rw [e] at h
        exact .inr ⟨by omega, (Option.some.inj h).symm⟩
    intro j k a b i ha hb et h1 h2
    rcases key j a ha with ⟨ha, ma⟩ | ⟨ja, rfl⟩ <;> rcases key k b hb with ⟨hb, mb⟩ | ⟨kb, rfl⟩
    · exact o.u j k a b i ha hb et h1 h2
    · exact absurd h2 (nb a ma i et h1)
    · exact absurd h1 (nb b mb i et.symm h2)
    · omega
/-! ### the placement's state with them -/
def PSt.addSeat (s : PSt) (x : Seat) : PSt := { s with seats := s.seats ++ [x] }
def PSt.addLn (s : PSt) (c : Cn) (kvb : List (List L2.Key × V)) : PSt := { s with lines := s.lines ++ [c], kvb := kvb }
section
variable {CP CI CC : Addr} {H0 H H' : Hp} {s : PSt} {w : Ways}
theorem PSt.addSeat_tbl (s : PSt) (x : Seat) : ((s.addSeat x).tbl CP CI CC).Perm ((s.tbl CP CI CC).set 2 (s.DS, .dK (kvS (s.seats ++ [x]))) ++ [(x.a, .ins CI x.dx (seatF s.p x))]) := by
  show ([(s.DB, HO.dT s.kvb), (s.DL, .dK (kvL s.lines)), (s.DS, .dK (kvS (s.seats ++ [x]))), (s.LP, .lst (s.places.map V.str)), (s.p, .ins CP s.dp s.F)] ++ (seT CI s.p (s.seats ++ [x]) ++ chT CC s.lines)).Perm
    ([(s.DB, HO.dT s.kvb), (s.DL, .dK (kvL s.lines)), (s.DS, .dK (kvS (s.seats ++ [x]))), (s.LP, .lst (s.places.map V.str)), (s.p, .ins CP s.dp s.F)] ++ (seT CI s.p s.seats ++ chT CC s.lines) ++ [(x.a, .ins CI x.dx (seatF s.p x))])
  rw [seT_snoc, List.append_assoc, List.append_assoc]
  refine List.Perm.append_left _ ?_
  rw [List.append_assoc]
  exact List.Perm.append_left _ List.perm_append_comm
theorem PlV.addSeat {J : Hp} (v : PlV CP CI CC H0 H s w) {x : Seat} (y : Hx J H' ((s.addSeat x).tbl CP CI CC)) (z0 : ∀ z ∈ (s.addSeat x).tbl CP CI CC, J z.1 = none) (hn : x.nm ∉ s.seats.map (·.nm)) (ht : x.st ∈ s.places) (zs : s.seats.length < 100) : PlV CP CI CC J H' (s.addSeat x) (wSet w x.nm x.st []) := by
  have p := v.w_
  refine ⟨⟨y, p.b, p.nl, p.ni, p.u, p.ne, z0, p.kz, p.zl, by show (s.seats ++ [x]).length ≤ 100; rw [List.length_append]; exact zs, p.zp, p.zi⟩, ?_⟩
  have e : (s.addSeat x).g (wSet w x.nm x.st []) = { s.g w with homes := (s.g w).homes ++ [(x.nm, x.st)], ways := wSet (s.g w).ways x.nm x.st [] } := by
    unfold PSt.addSeat PSt.g
    simp
  rw [e]
  refine v.o.addItem ?_ ht
  unfold Gd.goods PSt.g
  rw [List.map_map]
  exact hn
theorem PSt.addLn_tbl (s : PSt) (c : Cn) (kvb : List (List L2.Key × V)) : (s.addLn c kvb).tbl CP CI CC = ((s.tbl CP CI CC).set 1 (s.DL, .dK (kvL (s.lines ++ [c])))).set 0 (s.DB, .dT kvb) ++ [(c.a, .ins CC c.dx (cnF c))] ++ [(c.la, .lst (c.l.it.map V.str))] := by
  show [(s.DB, HO.dT kvb), (s.DL, .dK (kvL (s.lines ++ [c]))), (s.DS, .dK (kvS s.seats)), (s.LP, .lst (s.places.map V.str)), (s.p, .ins CP s.dp s.F)] ++ (seT CI s.p s.seats ++ chT CC (s.lines ++ [c])) =
    [(s.DB, HO.dT kvb), (s.DL, .dK (kvL (s.lines ++ [c]))), (s.DS, .dK (kvS s.seats)), (s.LP, .lst (s.places.map V.str)), (s.p, .ins CP s.dp s.F)] ++ (seT CI s.p s.seats ++ chT CC s.lines) ++ [(c.a, .ins CC c.dx (cnF c))] ++ [(c.la, .lst (c.l.it.map V.str))]
  rw [chT_snoc]
  simp
theorem PlV.addLn {J : Hp} (v : PlV CP CI CC H0 H s w) {c : Cn} {kvb : List (List L2.Key × V)} (y : Hx J H' ((s.addLn c kvb).tbl CP CI CC)) (b : BrA kvb (s.lines ++ [c])) (z0 : ∀ z ∈ (s.addLn c kvb).tbl CP CI CC, J z.1 = none) (kz : kvb.length ≤ 10000) (zl : s.lines.length < 100) (zi : c.l.it.length ≤ 100)
    (hn : c.l.nm ∉ s.lines.map (·.l.nm)) (hE : c.l.src ∈ s.places ∧ c.l.tgt ∈ s.places ∧ c.l.src ≠ c.l.tgt) (ne : c.l.it ≠ []) (hI : c.l.it.Nodup ∧ ∀ i ∈ c.l.it, i ∈ s.seats.map (·.nm)) (ht : ∀ i ∈ c.l.it, w i c.l.tgt = none) (hs : ∀ i ∈ c.l.it, (w i c.l.src).isSome = true) :
    PlV CP CI CC J H' (s.addLn c kvb) (addW w c.l) := by
  have p := v.w_
  have mem : ∀ d, d ∈ (s.addLn c kvb).lines → d ∈ s.lines ∨ d = c := fun d hd => by
    rcases List.mem_append.mp hd with h | h
    · exact .inl h
    · exact .inr (List.mem_singleton.mp h)
  have o2 : GdOk ((s.addLn c kvb).g (addW w c.l)) := by
    have e : (s.addLn c kvb).g (addW w c.l) = { s.g w with lines := (s.g w).lines ++ [c.l], ways := addW (s.g w).ways c.l } := by
      unfold PSt.addLn PSt.g
      simp
    rw [e]
    refine v.o.addLine ?_ hE ⟨hI.1, fun i hi => ?_⟩ ht hs
    · show c.l.nm ∉ (s.lines.map (·.l)).map (·.nm)
      rw [List.map_map]
      exact hn
    · unfold Gd.goods PSt.g
      rw [List.map_map]
      exact hI.2 i hi
  refine ⟨⟨y, b, ?_, fun d hd => ?_, ?_, fun d hd => ?_, z0, kz, by show (s.lines ++ [c]).length ≤ 100; rw [List.length_append]; exact zl, p.zs, p.zp, fun d hd => ?_⟩, o2⟩
  · have := o2.lN
    unfold PSt.g at this
    rwa [List.map_map] at this
  · rcases mem d hd with h | rfl
    · exact p.ni d h
    · exact hI.1
  · show (s.lines ++ [c]).Pairwise _
    refine List.pairwise_append.mpr ⟨p.u, List.pairwise_singleton _ _, fun d hd d' hd' ⟨e, i, h1, h2⟩ => ?_⟩
    rw [List.mem_singleton.mp hd'] at e h2
    obtain ⟨v', _, h3⟩ := v.o.wL d.l (List.mem_map.mpr ⟨d, hd, rfl⟩) i h1
    rw [e] at h3
    have h4 : w i c.l.tgt = some (v' ++ [d.l.nm]) := h3
    rw [ht i h2] at h4
    cases h4
  · rcases mem d hd with h | rfl
    · exact p.ne d h
    · exact ne
  · rcases mem d hd with h | rfl
    · exact p.zi d h
    · exact zi
end
/-- what add_channel raises -/
def chkTgt (w : Ways) (l : Ln) : Option Er := firstE (fun _ i => if (w i l.tgt).isSome = true then some (.twoWays i l.tgt) else none) [] l.it
def chkSrc (w : Ways) (l : Ln) : Option Er := firstE (fun _ i => chkHeld1 w l i) [] l.it
def chkAdd (s : PSt) (w : Ways) (l : Ln) : Option Er := (chkCh (fun x => decide (x ∈ s.places)) (fun x => decide (x ∈ s.seats.map (·.nm))) (fun x => decide (x ∈ s.lines.map (·.l.nm))) l).or ((chkTgt w l).or (chkSrc w l))
/-- what add_item raises -/
def chkItem (s : PSt) (n t : Str) : Option Er := (chkName (fun x => decide (x ∈ s.seats.map (·.nm))) n).or (chkKnown (fun x => decide (x ∈ s.places)) t)
theorem chkAdd_none {s : PSt} {w : Ways} {l : Ln} (h : chkAdd s w l = none) : NameOk l.nm ∧ l.nm ∉ s.lines.map (·.l.nm) ∧ (l.src ∈ s.places ∧ l.tgt ∈ s.places ∧ l.src ≠ l.tgt) ∧ l.it ≠ [] ∧ (l.it.Nodup ∧ ∀ i ∈ l.it, i ∈ s.seats.map (·.nm)) ∧ KindOk l.kd ∧ (∀ i ∈ l.it, w i l.tgt = none) ∧ (∀ i ∈ l.it, (w i l.src).isSome = true) := by
  obtain ⟨h1, h⟩ := or_none.mp h
  obtain ⟨h2, h3⟩ := or_none.mp h
  obtain ⟨⟨a, b⟩, c, d, ⟨e, f⟩, k, m, n⟩ := chkCh_none h1
  refine ⟨a, of_decide_eq_false b, ⟨of_decide_eq_true c, of_decide_eq_true d, e⟩, f, ⟨k, fun i hi => of_decide_eq_true (m i hi)⟩, n, fun i hi => ?_, fun i hi => ?_⟩
  · obtain ⟨j, hj⟩ := List.getElem?_of_mem hi
    have := firstE_all h2 j i hj
    split at this
    · cases this
    · rename_i q
      cases e : w i l.tgt with
      | none => rfl
      | some v => rw [e] at q; exact absurd rfl q
  · obtain ⟨j, hj⟩ := List.getElem?_of_mem hi
    have := firstE_all h3 j i hj
    unfold chkHeld1 at this
    split at this
    · assumption
    · cases this
end M

namespace M
open PySem PySem.Spec PyProof.Rows L2
/-! ### a helper of a law that draws: what stays (J), the draws at p -/
structure DrS (J H H1 : Hp) (p : Addr) (ds : List Int) : Prop where
  d : Dr ds
  s : Same (upd H p (.lst (ds.map V.int))) H1
  sj : Same J H
  jp : J p = none
  hp : ∃ xs, H p = some (.lst xs)
section
variable {J H H1 H2 : Hp} {p a : Addr} {ds ds' : List Int} {o : HO}
theorem DrS.start (sj : Same J H) (jp : J p = none) (hp : H p = some (.lst (ds.map V.int))) (d : Dr ds) : DrS J H H p ds := ⟨d, by rw [upd_id hp]; exact Same.refl _, sj, jp, _, hp⟩
theorem DrS.at_p (x : DrS J H H1 p ds) : H1 p = some (.lst (ds.map V.int)) := x.s _ _ upd_same
theorem DrS.at_ (x : DrS J H H1 p ds) (h : J a = some o) : H1 a = some o := by
  refine x.s _ _ ?_
  rw [upd_ne fun e => by rw [e, x.jp] at h; cases h]
  exact x.sj _ _ h
theorem DrS.grow (x : DrS J H H1 p ds) (s : Same H1 H2) : DrS J H H2 p ds := ⟨x.d, x.s.trans s, x.sj, x.jp, x.hp⟩
theorem DrS.draw (x : DrS J H H1 p ds) (d : Dr ds') : DrS J H (upd H1 p (.lst (ds'.map V.int))) p ds' := by
  refine ⟨d, fun b u h => ?_, x.sj, x.jp, x.hp⟩
  by_cases q : b = p
  · subst q
    rw [upd_same] at h ⊢
    exact h
  · rw [upd_ne q] at h ⊢
    exact x.s _ _ (by rw [upd_ne q]; exact h)
theorem DrS.free (x : DrS J H H1 p ds) (h : H1 a = none) : H a = none ∧ a ≠ p := by
  have q : a ≠ p := fun e => by rw [e, x.at_p] at h; cases h
  refine ⟨?_, q⟩
  have := none_of h x.s
  rwa [upd_ne q] at this
theorem DrS.ne (x : DrS J H H1 p ds) (h : H1 a = none) : a ≠ p := (x.free h).2
/-- another new object changes -/
theorem DrS.mut (x : DrS J H H1 p ds) (h : H a = none) : DrS J H (upd H1 a o) p ds := by
  have q : a ≠ p := fun e => by obtain ⟨xs, hx⟩ := x.hp; rw [e, hx] at h; cases h
  exact ⟨x.d, x.s.mut (by rw [upd_ne q]; exact h), x.sj, x.jp, x.hp⟩
end
/-- what an error is told as: a list -/
def Er.told : Er → List V
  | .badName x => [.str "bad name", .str x]
  | .taken x => [.str "taken", .str x]
  | .unknown x => [.str "unknown", .str x]
  | .badChannel x => [.str "bad channel", .str x]
  | .badKind x => [.str "bad kind", .str x]
  | .twoWays i s => [.str "two ways", .str i, .str s]
  | .notHeld i s => [.str "not held", .str i, .str s]
def Er.strs : Er → List Str
  | .badName x => ["bad name", x]
  | .taken x => ["taken", x]
  | .unknown x => ["unknown", x]
  | .badChannel x => ["bad channel", x]
  | .badKind x => ["bad kind", x]
  | .twoWays i s => ["two ways", i, s]
  | .notHeld i s => ["not held", i, s]
theorem Er.told_eq (e : Er) : e.told = e.strs.map V.str := by cases e <;> rfl
/-- an index that is drawn -/
theorem at_draw {α : Type} {f : α → V} {l : List α} {d : Int} {n : Nat} (h0 : 0 ≤ d) (h1 : d < (n : Int)) (hn : n = l.length) : ∃ x, x ∈ l ∧ atI (l.map f) d = some (f x) := by
  obtain ⟨c, rfl⟩ := Int.eq_ofNat_of_zero_le h0
  have lt : c < l.length := by omega
  exact ⟨l[c], List.getElem_mem _, atI_nat (by rw [List.getElem?_map, List.getElem?_eq_getElem lt]; rfl)⟩
/-- [x[0] for x in rows]: rows a list of tuples that stays -/
theorem lc_first {α : Type} {K : PySem.W.Frag} {a D : Addr} {xs : List V} {ys : List α} {R : Hp → V → α → Prop} {i : Nat} {σ : L2.St} {H : Hp} {Qd : Hp → Prop} (f : α → V) (hT : H a = some (.lst xs)) (pw : Pw (R H) xs ys) (hR : ∀ H' v y, Same H H' → R H v y → ∃ t zs, v = V.ref t ∧ H' t = some (.tup zs) ∧ atI zs 0 = some (f y))
    (nD : H D = none) (hi : i < σ.length) (hz : ys.length ≤ 10000) (hd : Qd (upd H D (.lst (ys.map f)))) :
    ∃ W : Nat → Nat → Hp → Prop, (∃ m, W 0 m (upd H D (.lst []))) ∧ ∀ k m H1, W k m H1 →
      ((Itl K a).stop k H1 ∧ Qd H1) ∨ ((Itl K a).go k H1 ∧ ∃ Nx : Hp → Prop, (∀ H', Nx H' → ∃ m', m' < m ∧ W (k + 1) m' H') ∧ ∀ x H', (Itl K a).yld k H1 x H' → gName i x (wipe σ [i]) H' fun σ2 H2 => wipe σ2 [i] = wipe σ [i] ∧ tYes σ2 H2 fun b H3 =>
        if b = true then tOp (rIxT K) (tVar i) (tC (.int 0)) σ2 H3 fun y H4 => ∃ acc, H4 D = some (.lst acc) ∧ acc.length < sizeLine ∧ Nx (upd H4 D (.lst (acc ++ [y]))) else Nx H3) := by
  have sD : ∀ {o : HO}, Same H (upd H D o) := (Same.refl H).new nD
  refine lc_list (K := K) (a := a) (xs := xs) (fun k H' => H' = upd H D (.lst ((ys.take k).map f))) (by rw [List.take_zero]; rfl) (fun k H' _ e => by rw [e]; exact SqL.of (sD _ _ hT)) ?_ ?_
  · rintro k v H' hk rfl
    obtain ⟨y, hy, hr⟩ := pw.get hk
    obtain ⟨t, zs, rfl, ht, h0⟩ := hR _ v y (sD (o := .lst ((ys.take k).map f))) hr
    refine ⟨?_, tYes_if ?_⟩
    · show ((σ.set i none).set i (some (V.ref t))).set i none = σ.set i none
      rw [List.set_set, List.set_set]
    · refine ⟨.ref t, ?_, t, _, _, f y, rfl, rfl, .inl (.inl ht), h0, _, upd_same, ?_, ?_⟩
      · show ((σ.set i none).set i (some (V.ref t)))[i]? = _
        rw [List.getElem?_set_self (by rw [List.length_set]; exact hi)]
      · rw [List.length_map, List.length_take]
        exact size_ok (m := 100000) (by omega) (by decide)
      · rw [upd_upd, take_snoc hy, List.map_append]
        rfl
  · rintro H' rfl
    rw [pw.len, List.take_length]
    exact hd
/-- another thing that stands changes -/
theorem LS.updJ {CP CI CC : Addr} {J0 J H : Hp} {p a : Addr} {ds : List Int} {s : PSt} {wy : Ways} {u : HO} (L : LS CP CI CC J0 J H p ds s wy) (h : J0 a = some u) (o : HO) : LS CP CI CC (upd J0 a o) (upd J a o) (upd H a o) p ds s wy := by
  have ap : a ≠ p := fun e => by rw [e, L.p0] at h; cases h
  exact ⟨M.Same.upd2 L.s0, by rw [upd_ne (Ne.symm ap)]; exact L.p0, by rw [upd_ne (Ne.symm ap)]; exact L.hJ, L.dr, L.pl.w_.updO (L.s0 _ _ h) o, L.pl.o⟩
/-- lists of texts and None -/
def vD : Option Str → PyData
  | none => .none
  | some x => .str x
/-- what an error names -/
def Er.okP (P : Str → Prop) : Er → Prop
  | .badName x => P x
  | .taken x => P x
  | .unknown x => P x
  | .badChannel x => P x
  | .badKind x => P x
  | .twoWays i s => P i ∧ P s
  | .notHeld i s => P i ∧ P s
theorem or_some {a b : Option Er} {e : Er} (h : a.or b = some e) : a = some e ∨ (a = none ∧ b = some e) := by
  cases a with
  | none => exact .inr ⟨rfl, h⟩
  | some x => exact .inl h
theorem firstE_some {α : Type} {f : List α → α → Option Er} : ∀ {xs : List α} {b : List α} {e : Er}, firstE f b xs = some e → ∃ c x, x ∈ xs ∧ f c x = some e
  | [], _, _, h => by cases h
  | y :: r, b, e, h => by
    unfold firstE at h
    split at h
    · rename_i e' he
      cases h
      exact ⟨b, y, List.mem_cons_self, he⟩
    · obtain ⟨c, x, hx, hc⟩ := firstE_some h
      exact ⟨c, x, List.mem_cons_of_mem _ hx, hc⟩
section
variable {P : Str → Prop} {e : Er} {Q : Str → Bool} {x : Str} {l : Ln}
theorem chkName_okP (h : chkName Q x = some e) (p : P x) : e.okP P := by
  unfold chkName at h
  split at h
  · split at h
    · cases h; exact p
    · cases h
  · cases h; exact p
theorem chkKnown_okP (h : chkKnown Q x = some e) (p : P x) : e.okP P := by
  unfold chkKnown at h
  split at h
  · cases h
  · cases h; exact p
theorem chkCh_okP {Ps Pi Pt : Str → Bool} (h : chkCh Ps Pi Pt l = some e) (p1 : P l.nm) (p2 : P l.src) (p3 : P l.tgt) (p4 : ∀ i ∈ l.it, P i) (p5 : ∀ k, l.kd = some k → P k) : e.okP P := by
  unfold chkCh at h
  rcases or_some h with h | ⟨_, h⟩
  · exact chkName_okP h p1
  rcases or_some h with h | ⟨_, h⟩
  · exact chkKnown_okP h p2
  rcases or_some h with h | ⟨_, h⟩
  · exact chkKnown_okP h p3
  rcases or_some h with h | ⟨_, h⟩
  · unfold chkEnds at h
    split at h
    · cases h; exact p1
    · cases h
  rcases or_some h with h | ⟨_, h⟩
  · unfold chkDup at h
    split at h
    · cases h
    · cases h; exact p1
  rcases or_some h with h | ⟨_, h⟩
  · obtain ⟨_, i, hi, he⟩ := firstE_some h
    exact chkKnown_okP he (p4 i hi)
  · cases ek : l.kd with
    | none => rw [ek] at h; cases h
    | some k =>
      rw [ek] at h
      have h' : (if k ∈ kinds then none else some (Er.badKind k)) = some e := h
      split at h'
      · cases h'
      · cases h'; exact p5 k ek
theorem chkLoad_okP {w : Ways} (h : (chkTgt w l).or (chkSrc w l) = some e) (p2 : P l.src) (p3 : P l.tgt) (p4 : ∀ i ∈ l.it, P i) : e.okP P := by
  rcases or_some h with h | ⟨_, h⟩
  · obtain ⟨_, i, hi, he⟩ := firstE_some h
    split at he
    · cases he; exact ⟨p4 i hi, p3⟩
    · cases he
  · obtain ⟨_, i, hi, he⟩ := firstE_some h
    unfold chkHeld1 at he
    split at he
    · cases he
    · cases he; exact ⟨p4 i hi, p2⟩
end
theorem Er.strs_ok {e : Er} (h : e.okP fun x => PyData.strOk x = true) : ∀ x ∈ e.strs, PyData.strOk x = true := by
  have tags : ∀ t ∈ (["bad name", "taken", "unknown", "bad channel", "bad kind", "two ways", "not held"] : List Str), PyData.strOk t = true := by decide +kernel
  intro x hx
  cases e <;> simp only [Er.strs, List.mem_cons, List.not_mem_nil, or_false] at hx <;> first
    | (rcases hx with rfl | rfl
       · exact tags _ (by simp)
       · exact h)
    | (rcases hx with rfl | rfl | rfl
       · exact tags _ (by simp)
       · exact h.1
       · exact h.2)
theorem Er.lay {e : Er} (h : e.okP fun x => PyData.strOk x = true) : (strsD e.strs).canLay0 = true ∧ (strsD e.strs).depth ≤ 64 := ⟨(strs_lay (Er.strs_ok h)).1, Nat.le_trans (strs_lay (Er.strs_ok h)).2 (by decide)⟩
theorem flat_le {α β : Type} {f : α → List β} {n : Nat} : ∀ {l : List α}, (∀ x ∈ l, (f x).length ≤ n) → (l.flatMap f).length ≤ n * l.length
  | [], _ => Nat.zero_le _
  | x :: r, h => by
    rw [List.flatMap_cons, List.length_append, List.length_cons, Nat.mul_succ]
    have h1 := h x List.mem_cons_self
    have h2 := flat_le (l := r) fun y hy => h y (List.mem_cons_of_mem _ hy)
    omega
/-- as many copies as the channels bring -/
theorem kvb_le {s : PSt} {n : Nat} (b : BrA s.kvb s.lines) (h : ∀ c ∈ s.lines, c.l.it.length ≤ n) : s.kvb.length ≤ n * s.lines.length := by
  have h1 := nodup_le (cps_nodup b) (m := s.lines.flatMap fun c => c.l.it.map fun i => (i, c.l.tgt)) fun x hx => by
    obtain ⟨c, hc, hi, e⟩ := (cps_line b (i := x.1) (t := x.2)).mp hx
    exact List.mem_flatMap.mpr ⟨c, hc, List.mem_map.mpr ⟨x.1, hi, by rw [e]⟩⟩
  have h2 := flat_le (f := fun c : Cn => c.l.it.map fun i => (i, c.l.tgt)) (l := s.lines) (n := n) fun c hc => by rw [List.length_map]; exact h c hc
  have h3 : s.cps.length = s.kvb.length := by unfold PSt.cps; rw [List.length_map]
  omega
/-! ### add_channel's keywords: items alone; late, items; items, late -/
def gg2 {α : Type} : List α → List α → List α
  | us, [a, b] => us ++ [b, a]
  | us, ws => us ++ ws
def gN1 (vs zs : List V) : List V := vs ++ (zs ++ [.non])
def gN2 (vs zs : List V) : List V := gg2 vs zs
def gN3 (vs zs : List V) : List V := vs ++ zs
theorem gg2_rel {vs zs : List V} {us ws : List Value} (r : Vals vs us) (z : Vals zs ws) : Vals (gg2 vs zs) (gg2 us ws) := by
  cases z with
  | nil => exact r.append .nil
  | cons a z =>
    cases z with
    | nil => exact r.append (.cons a .nil)
    | cons b z =>
      cases z with
      | nil => exact r.append (.cons b (.cons a .nil))
      | cons c z => exact r.append (.cons a (.cons b (.cons c z)))
/-- the errors' classes of a placement -/
abbrev exA (K : PySem.W.Frag) : XA := ⟨He.ga K "BadName", He.ga K "Taken", He.ga K "Unknown", He.ga K "BadChannel", He.ga K "BadKind", He.ga K "TwoWays", He.ga K "NotHeld"⟩
end M

namespace M
open PySem PySem.Spec PyProof.Rows L2
/-! ### lists of loads that grow, beside the draws -/
structure Lo (J H : Hp) (p : Addr) (as : List Addr) (ds : List Int) (its : List (List Str)) : Prop where
  s : Same J H
  p0 : J p = none
  hp : H p = some (.lst (ds.map V.int))
  dr : Dr ds
  la : as.length = its.length
  a0 : ∀ a ∈ as, J a = none ∧ a ≠ p
  at_ : ∀ (k : Nat) a it, as[k]? = some a → its[k]? = some it → H a = some (.lst (it.map V.str))
  nd : as.Nodup
section
variable {J H H' : Hp} {p a T : Addr} {as : List Addr} {ds ds' : List Int} {its : List (List Str)} {o : HO}
theorem Lo.draw (x : Lo J H p as ds its) (d : Dr ds') : Lo J (upd H p (.lst (ds'.map V.int))) p as ds' its :=
  ⟨x.s.mut x.p0, x.p0, upd_same, d, x.la, x.a0, fun k a it h1 h2 => by rw [upd_ne (x.a0 a (List.mem_of_getElem? h1)).2]; exact x.at_ k a it h1 h2, x.nd⟩
theorem Lo.grow (x : Lo J H p as ds its) (s : Same H H') : Lo J H' p as ds its :=
  ⟨x.s.trans s, x.p0, s _ _ x.hp, x.dr, x.la, x.a0, fun k a it h1 h2 => s _ _ (x.at_ k a it h1 h2), x.nd⟩
theorem Lo.app (x : Lo J H p as ds its) {k : Nat} {it it' : List Str} (h1 : as[k]? = some a) (h2 : its[k]? = some it) : Lo J (upd H a (.lst (it'.map V.str))) p as ds (its.set k it') := by
  have am := x.a0 a (List.mem_of_getElem? h1)
  refine ⟨x.s.mut am.1, x.p0, by rw [upd_ne (Ne.symm am.2)]; exact x.hp, x.dr, by rw [List.length_set]; exact x.la, x.a0, fun k' a' it2 h3 h4 => ?_, x.nd⟩
  by_cases e : k = k'
  · subst e
    rw [h1] at h3
    cases h3
    rw [List.getElem?_set_self (by have := (List.getElem?_eq_some_iff.mp h2).1; exact this)] at h4
    cases h4
    exact upd_same
  · rw [List.getElem?_set_ne e] at h4
    have ne : a' ≠ a := fun q => by
      subst q
      obtain ⟨i1, e1⟩ := List.getElem?_eq_some_iff.mp h1
      obtain ⟨i2, e2⟩ := List.getElem?_eq_some_iff.mp h3
      exact e ((List.getElem_inj x.nd).mp (e1.trans e2.symm))
    rw [upd_ne ne]
    exact x.at_ k' a' it2 h3 h4
theorem Lo.ne (x : Lo J H p as ds its) (n : H T = none) : T ≠ p ∧ T ∉ as := by
  refine ⟨fun e => (by rw [e, x.hp] at n; cases n), fun h => ?_⟩
  obtain ⟨k, hk⟩ := List.getElem?_of_mem h
  obtain ⟨it, hi⟩ : ∃ it, its[k]? = some it := ⟨_, List.getElem?_eq_getElem (by have := (List.getElem?_eq_some_iff.mp hk).1; rw [x.la] at this; exact this)⟩
  rw [x.at_ k T it hk hi] at n
  cases n
/-- a new object that stays -/
theorem Lo.new (x : Lo J H p as ds its) (n : H T = none) (o : HO) : Same J (upd J T o) ∧ Lo (upd J T o) (upd H T o) p as ds its := by
  have nj := none_of n x.s
  obtain ⟨n1, n2⟩ := x.ne n
  refine ⟨(Same.refl _).new nj, M.Same.upd2 x.s, by rw [upd_ne (Ne.symm n1)]; exact x.p0, by rw [upd_ne (Ne.symm n1)]; exact x.hp, x.dr, x.la, fun a h => ?_, fun k a it h1 h2 => ?_, x.nd⟩
  · have ne : a ≠ T := fun e => n2 (e ▸ h)
    rw [upd_ne ne]
    exact x.a0 a h
  · have ne : a ≠ T := fun e => n2 (e ▸ List.mem_of_getElem? h1)
    rw [upd_ne ne]
    exact x.at_ k a it h1 h2
/-- one more empty load -/
theorem Lo.add (x : Lo J H p as ds its) (n : H T = none) : Lo J (upd H T (.lst [])) p (as ++ [T]) ds (its ++ [[]]) := by
  have nj := none_of n x.s
  obtain ⟨n1, n2⟩ := x.ne n
  have y := x.grow ((Same.refl H).new (o := .lst []) n)
  refine ⟨y.s, y.p0, y.hp, y.dr, by simp [x.la], fun a h => ?_, fun k a it h1 h2 => ?_, ?_⟩
  · rcases List.mem_append.mp h with h | h
    · exact x.a0 a h
    · rw [List.mem_singleton.mp h]; exact ⟨nj, n1⟩
  · by_cases e : k < as.length
    · rw [List.getElem?_append_left e] at h1
      rw [List.getElem?_append_left (by rw [← x.la]; exact e)] at h2
      exact y.at_ k a it h1 h2
    · have ea : k - as.length = 0 := by
        have := (List.getElem?_eq_some_iff.mp h1).1
        rw [List.length_append] at this
        simp at this
        omega
      rw [List.getElem?_append_right (by omega), ea] at h1
      rw [List.getElem?_append_right (by rw [← x.la]; omega), ← x.la, ea] at h2
      cases h1
      cases h2
      exact upd_same
  · rw [List.nodup_append]
    exact ⟨x.nd, List.pairwise_singleton _ _, fun b hb c hc e => n2 (by rw [← List.mem_singleton.mp hc, ← e]; exact hb)⟩
theorem Lo.mut (x : Lo J H p as ds its) (n : J T = none) (n1 : T ≠ p) (n2 : T ∉ as) : Lo J (upd H T o) p as ds its :=
  ⟨x.s.mut n, x.p0, by rw [upd_ne (Ne.symm n1)]; exact x.hp, x.dr, x.la, x.a0, fun k a it h1 h2 => by
    have ne : a ≠ T := fun e => n2 (e ▸ List.mem_of_getElem? h1)
    rw [upd_ne ne]; exact x.at_ k a it h1 h2, x.nd⟩
/-- all that stands now stays -/
theorem Lo.re (x : Lo J H p as ds its) : Same J (cut H (p :: as)) ∧ Lo (cut H (p :: as)) H p as ds its := by
  refine ⟨fun b o h => ?_, cut_all, cut_in List.mem_cons_self, x.hp, x.dr, x.la, fun a h => ⟨cut_in (List.mem_cons_of_mem _ h), (x.a0 a h).2⟩, x.at_, x.nd⟩
  rw [cut_out (fun q => by
    rcases List.mem_cons.mp q with e | e
    · rw [e, x.p0] at h; cases h
    · rw [(x.a0 b e).1] at h; cases h)]
  exact x.s _ _ h
theorem Lo.start (hp : H p = some (.lst (ds.map V.int))) (d : Dr ds) : Lo (cut H [p]) H p [] ds [] :=
  ⟨cut_all, cut_in (by simp), hp, d, rfl, fun a h => (by cases h), fun k a it h _ => (by cases h), List.nodup_nil⟩
theorem Lo.cut_ (x : Lo J H p as ds its) : Same J (cut H [p]) := fun b o h => by
  rw [cut_out (by
    intro q
    rw [List.mem_singleton.mp q, x.p0] at h
    cases h)]
  exact x.s _ _ h
theorem PsA.mut {v : V} {x : Str × Str} {l : List V} (h : PsA H v x) (ha : H a = some (.lst l)) : PsA (upd H a o) v x := by
  obtain ⟨t, e, ht⟩ := h
  exact ⟨t, e, by rw [upd_ne fun q => by rw [q, ha] at ht; cases ht]; exact ht⟩
/-- pairs in a list, while another list changes -/
theorem prs_mut {B : Addr} {ps : List (Str × Str)} {l : List V} (h : LsA PsA H B ps) (ha : H a = some (.lst l)) (ne : B ≠ a) : LsA PsA (upd H a o) B ps := by
  obtain ⟨vs, e, pw⟩ := h
  exact ⟨vs, by rw [upd_ne ne]; exact e, pw.mono fun v x q => q.mut ha⟩
/-- one pair more -/
theorem prs_app {B T : Addr} {ps : List (Str × Str)} {x : Str × Str} {vs : List V} (e : H B = some (.lst vs)) (pw : Pw (PsA H) vs ps) (hT : H T = some (.tup [.str x.1, .str x.2])) : LsA PsA (upd H B (.lst (vs ++ [.ref T]))) B (ps ++ [x]) :=
  ⟨_, upd_same, (pw.mono fun v y q => q.mut e).snoc (PsA.mut ⟨T, rfl, hT⟩ e)⟩
end
theorem NameOk.ok_ {x : Str} (h : NameOk x) : PyData.strOk x = true := by
  unfold PyData.strOk
  rw [← Array.all_toList, List.all_eq_true]
  intro c hc
  have := h.2.2 c hc
  exact decide_eq_true (Nat.lt_trans (show c < 128 by omega) (by decide))
theorem Lo.lists (x : Lo J H p as ds its) : ∀ a ∈ p :: as, ∃ l, H a = some (.lst l) := fun a h => by
  rcases List.mem_cons.mp h with e | h
  · exact ⟨_, by rw [e]; exact x.hp⟩
  · obtain ⟨k, hk⟩ := List.getElem?_of_mem h
    obtain ⟨it, hi⟩ : ∃ it, its[k]? = some it := ⟨_, List.getElem?_eq_getElem (by have := (List.getElem?_eq_some_iff.mp hk).1; rw [x.la] at this; exact this)⟩
    exact ⟨_, x.at_ k a it hk hi⟩
theorem tup_cut {A : List Addr} {ys : List V} (hA : ∀ a ∈ A, ∃ l, H a = some (.lst l)) (h : H T = some (.tup ys)) : cut H A T = some (.tup ys) := by
  rw [cut_out fun q => by obtain ⟨l, e⟩ := hA T q; rw [h] at e; cases e]
  exact h
theorem prs_cut {A : List Addr} {B : Addr} {ps : List (Str × Str)} (h : LsA PsA H B ps) (nB : B ∉ A) (hA : ∀ a ∈ A, ∃ l, H a = some (.lst l)) : LsA PsA (cut H A) B ps := by
  obtain ⟨vs, e, pw⟩ := h
  exact ⟨vs, by rw [cut_out nB]; exact e, pw.mono fun v x ⟨t, e, ht⟩ => ⟨t, e, tup_cut hA ht⟩⟩
/-! ### the errors of a list that grows -/
theorem firstE_snoc {α : Type} {f : List α → α → Option Er} : ∀ {xs : List α} {b : List α} {y : α}, firstE f b (xs ++ [y]) = (firstE f b xs).or (f (b ++ xs) y)
  | [], b, y => by
    rw [List.nil_append, List.append_nil]
    unfold firstE
    cases h : f b y with
    | none => rfl
    | some e => rfl
  | x :: r, b, y => by
    rw [List.cons_append]
    unfold firstE
    cases h : f b x with
    | none => show firstE f (b ++ [x]) (r ++ [y]) = _; rw [firstE_snoc, List.append_assoc]; rfl
    | some e => rfl
/-! ### what comes where -/
def brg (ls : List Ln) : List (Str × Str) := ls.flatMap fun l => l.it.map fun i => (i, l.tgt)
theorem mem_brg {ls : List Ln} {x : Str × Str} : x ∈ brg ls ↔ ∃ m ∈ ls, x.1 ∈ m.it ∧ m.tgt = x.2 := by
  unfold brg
  rw [List.mem_flatMap]
  constructor
  · rintro ⟨m, hm, h⟩
    obtain ⟨i, hi, rfl⟩ := List.mem_map.mp h
    exact ⟨m, hm, hi, rfl⟩
  · rintro ⟨m, hm, h, e⟩
    exact ⟨m, hm, List.mem_map.mpr ⟨x.1, h, by rw [e]⟩⟩
theorem brg_ge {ls : List Ln} (h : ∀ l ∈ ls, l.it ≠ []) : ls.length ≤ (brg ls).length := by
  induction ls with
  | nil => exact Nat.zero_le _
  | cons l r ih =>
    have := ih fun m hm => h m (List.mem_cons_of_mem _ hm)
    have l1 : 0 < l.it.length := List.length_pos_iff.mpr (h l List.mem_cons_self)
    unfold brg at this ⊢
    rw [List.flatMap_cons, List.length_append, List.length_map, List.length_cons]
    omega
theorem ways_has {hs : List (Str × Str)} {ls : List Ln} {i s : Str} : (waysOf hs ls i s).isSome = true ↔ ∃ w, Way hs ls i s w := by
  unfold waysOf
  constructor
  · intro h
    split at h
    · rename_i q; exact q
    · cases h
  · intro h
    rw [dif_pos h]
    rfl
/-- what is held after k rounds -/
structure Hld (hs : List (Str × Str)) (ls : List Ln) (k : Nat) (hd : List (Str × Str)) : Prop where
  w : ∀ x ∈ hd, ∃ w, Way hs ls x.1 x.2 w
  c : ∀ i s w, Way hs ls i s w → w.length ≤ k → (i, s) ∈ hd
theorem Hld.start (hs : List (Str × Str)) (ls : List Ln) : Hld hs ls 0 hs := by
  refine ⟨fun x hx => ⟨[], .home hx⟩, fun i s w h z => ?_⟩
  cases h with
  | home h => exact h
  | step _ _ _ => simp at z
/-- within a round: the lines ahead of j are done, and the items ahead of n of the next one -/
structure Rnd (hs : List (Str × Str)) (ls : List Ln) (h0 hd : List (Str × Str)) (j : Nat) : Prop where
  w : ∀ x ∈ hd, ∃ w, Way hs ls x.1 x.2 w
  s : ∀ x ∈ h0, x ∈ hd
  c : ∀ l ∈ ls.take j, ∀ i ∈ l.it, (i, l.src) ∈ h0 → (i, l.tgt) ∈ hd
structure Rnd2 (hs : List (Str × Str)) (ls : List Ln) (h0 hd : List (Str × Str)) (j : Nat) (l : Ln) (n : Nat) : Prop where
  r : Rnd hs ls h0 hd j
  d : ∀ i ∈ l.it.take n, (i, l.src) ∈ h0 → (i, l.tgt) ∈ hd
section
variable {hs : List (Str × Str)} {ls : List Ln} {h0 hd : List (Str × Str)} {j n k : Nat} {l : Ln} {i : Str}
theorem Rnd.start (h : Hld hs ls k h0) : Rnd hs ls h0 h0 0 := ⟨h.w, fun _ h => h, fun l h => by rw [List.take_zero] at h; cases h⟩
theorem Rnd.line (r : Rnd hs ls h0 hd j) : Rnd2 hs ls h0 hd j l 0 := ⟨r, fun i h => by rw [List.take_zero] at h; cases h⟩
theorem Rnd2.done (r : Rnd2 hs ls h0 hd j l l.it.length) (hl : ls[j]? = some l) : Rnd hs ls h0 hd (j + 1) := by
  refine ⟨r.r.w, r.r.s, fun m hm i hi hs => ?_⟩
  rw [take_snoc hl] at hm
  rcases List.mem_append.mp hm with h | h
  · exact r.r.c m h i hi hs
  · rw [List.mem_singleton.mp h] at hi hs ⊢
    exact r.d i (by rw [List.take_length]; exact hi) hs
/-- the item comes over the line -/
theorem Rnd2.add (r : Rnd2 hs ls h0 hd j l n) (hl : ls[j]? = some l) (hi : l.it[n]? = some i) (a : (i, l.src) ∈ hd) : Rnd2 hs ls h0 (hd ++ [(i, l.tgt)]) j l (n + 1) := by
  refine ⟨⟨fun x hx => ?_, fun x hx => List.mem_append_left _ (r.r.s x hx), fun m hm y hy hh => List.mem_append_left _ (r.r.c m hm y hy hh)⟩, fun y hy hh => ?_⟩
  · rcases List.mem_append.mp hx with h | h
    · exact r.r.w x h
    · rw [List.mem_singleton.mp h]
      obtain ⟨w, hw⟩ := r.r.w _ a
      exact ⟨_, .step (List.mem_of_getElem? hl) (List.mem_of_getElem? hi) hw⟩
  · rw [take_snoc hi] at hy
    rcases List.mem_append.mp hy with h | h
    · exact List.mem_append_left _ (r.d y h hh)
    · rw [List.mem_singleton.mp h]; exact List.mem_append_right _ (List.mem_singleton.mpr rfl)
theorem Rnd2.skip (r : Rnd2 hs ls h0 hd j l n) (hi : l.it[n]? = some i) (a : (i, l.src) ∉ hd ∨ (i, l.tgt) ∈ hd) : Rnd2 hs ls h0 hd j l (n + 1) := by
  refine ⟨r.r, fun y hy hh => ?_⟩
  rw [take_snoc hi] at hy
  rcases List.mem_append.mp hy with h | h
  · exact r.d y h hh
  · rw [List.mem_singleton.mp h] at hh ⊢
    rcases a with a | a
    · exact absurd (r.r.s _ hh) a
    · exact a
theorem Rnd.next (r : Rnd hs ls h0 hd ls.length) (h : Hld hs ls k h0) : Hld hs ls (k + 1) hd := by
  refine ⟨r.w, fun i s w hw z => ?_⟩
  cases hw with
  | home hh => exact r.s _ (h.c i s [] (.home hh) (Nat.zero_le _))
  | @step l v hl hi hv =>
    refine r.c l (by rw [List.take_length]; exact hl) i hi (h.c i l.src v hv ?_)
    rw [List.length_append] at z
    simp at z
    exact z
/-- after as many rounds as there are copies all is held that can be -/
theorem Hld.all (h : Hld hs ls (brg ls).length hd) (two : chkTwo hs ls = none) (lN : (ls.map (·.nm)).Nodup) (ne : ∀ l ∈ ls, l.it ≠ []) {i s : Str} : (i, s) ∈ hd ↔ (waysOf hs ls i s).isSome = true := by
  rw [ways_has]
  constructor
  · exact fun q => h.w _ q
  · rintro ⟨w, hw⟩
    refine h.c i s w hw ?_
    obtain ⟨nh, _, u⟩ := chkTwo_none two
    have lu : ∀ l ∈ ls, ∀ m ∈ ls, l.nm = m.nm → l = m := fun l hl m hm e => nodup_ix_of lN hl hm e
    have u2 : ∀ l ∈ ls, ∀ m ∈ ls, ∀ i, l.tgt = m.tgt → i ∈ l.it → i ∈ m.it → l = m := fun l hl m hm i e h1 h2 => by
      obtain ⟨a, ha⟩ := List.getElem?_of_mem hl
      obtain ⟨b, hb⟩ := List.getElem?_of_mem hm
      have := u a b l m i ha hb e h1 h2
      subst this
      rw [ha] at hb
      exact Option.some.inj hb
    have nd := hw.nodup nh u2 lu
    have le : w.length ≤ (ls.map (·.nm)).length := nodup_le nd fun x hx => by
      obtain ⟨m, hm, e, _⟩ := hw.mem x hx
      exact List.mem_map.mpr ⟨m, hm, e⟩
    rw [List.length_map] at le
    exact Nat.le_trans le (brg_ge ne)
end
end M

namespace M
open PySem PySem.Spec PyProof.Rows L2
/-! ### a staticmethod read off its class -/
structure ClS (K : PySem.W.Frag) (C : Addr) (m : Str) (p f : Addr) : Prop where
  rd : PySem.W.readsIn K C (.type "type") = true
  ga : PySem.W.specialIn K (.ref C) "__getattribute__" = some (some (.builtin "type.__getattribute__"))
  at_ : PySem.W.findCls K (.ref C) (.type "type") m = some (.get (.builtin "staticmethod.__get__") (.ref p) .none (.ref C))
  rc : ∃ rest, PySem.W.recIn K p "staticmethod" = some (.ref f :: rest)
  kp : PySem.W.keepIn K (.ref f) = true
structure SFn (P : Program) (w : World) (K : PySem.W.Frag) (mg : Str → Option Value) (base : Heap) (k : Nat) (x : Str) (m : Str) (ps : List Str) (sp : Sp) : Prop where
  ex : ∃ (C p f : Addr) (fd : FuncData), mg x = some (.ref C) ∧ ClS K C m p f ∧ Binds K fd ps [] ∧ FnOk P w K mg base (L2.CX P w) k f fd ps sp
section
variable {X : Cx} {k j : Nat} {x m : Str} {ps : List Str} {sp : Sp} {W : WX} {e o : Expr} {es : List Expr} {t : TA} {ta : TE} {p pos apos np : Pos} {C : Addr}
theorem pe_sfn {pl : Sem Bool} (G : SFn X.prog X.w X.K X.mg X.base k x m ps sp) (hr : Room j X.A) (tk : Takes X W) (ha : PA X (e :: es) t) (hk : k ≤ j := by decide) (hg : Gl X x := by rfl) (hdb : (x == ("__debug__" : Str)) = false := by decide)
    (hst : starEach (e :: es) X.env = (false, eval e X.env) :: starEach es X.env := by rfl) (hpl : (backTo pos (starEach es X.env)).any (·.1) = false := by rfl)
    (ht : eval (.Call (.Attribute (.Name x np) m apos) (e :: es) [] pos) X.env = (do
      let ov ← eval (.Name x np) X.env
      standAt apos.atName
      let (f, first) ← holding [ov] (getMethod ov m pl)
      callWith pos f first (backTo pos (starEach (e :: es) X.env)) (backToKw pos (keywordEach [] X.env))) := by rfl) :
    PE X (.Call (.Attribute (.Name x np) m apos) (e :: es) [] pos) (tCallS sp (WE W) t) := by
  obtain ⟨C, q, f, fd, hm, c, hb, F⟩ := G.ex
  obtain ⟨rest, hp⟩ := c.rc
  refine ⟨fun pins s σ H Q I h => ?_⟩
  refine PySem.W.methodCall_KW (pl := pl) (ld_glob I hg hm ?_ hdb) ht
  refine PySem.W.method_cls I.kIn c.ga ?_
  refine PySem.W.cls_bind I.kIn c.rd c.at_ ?_
  refine wpAny_call (PySem.W.sm_get (s := { s with toks := s.toks + 1 }) I.kIn hp (PySem.W.handed_on rfl ?_))
  refine PySem.W.callWith_K (first := []) (h₀ := X.base) I.ok.mod.kin c.kp (thn (ha.run pos pins _ σ H _ (I.tok _) h) fun us s2 ⟨vs, H2, I2, r, q2⟩ => ⟨I2.kIn, ?_⟩) hst hpl
  exact run_fnS (E := WE W) F (hr.mono hk) hb (passAt tk σ) I2 r q2
end
end M

namespace M
open PySem PySem.Spec PyProof.Rows L2
/-! ### a op b, a <= b with the methods of an own class, both of one class -/
def tBinOwn (P : Program) (w : World) (K : PySem.W.Frag) (mg : Str → Option Value) (base : Heap) (j : Nat) (m : Str) (W : WX) (ta tb : TE) : TE := fun σ H Q => ta σ H fun x H1 => tb σ H1 fun y H2 => ∃ (a b C dx dy : Addr) (fs gs : List (Str × V)) (k : Nat) (ps : List Str) (sp : Sp), x = .ref a ∧ y = .ref b ∧ H2 a = some (.ins C dx fs) ∧ H2 b = some (.ins C dy gs) ∧
  PySem.W.selfFirst K C = true ∧ Mth P w K mg base k C m ps sp ∧ k ≤ j ∧ sp [.ref a, .ref b] H2 Q (WE W σ)
theorem rel_some {v : V} : ¬ RelV v .notImplemented := by
  intro h
  cases v <;> first | exact nomatch h | (obtain ⟨_, h⟩ := h; cases h) | cases h
theorem back_of {Q : Value → Shared → Prop} {r : Value} {s : Shared} (n : r ≠ .notImplemented) (h : Q r s) : PySem.W.CmpBack Q r s := by
  unfold PySem.W.CmpBack
  split
  · exact n rfl
  · exact h
section
variable {X : Cx} {j : Nat} {W : WX} {a b : Expr} {ta tb : TE} {pos : Pos} {m : Str}
theorem pe_binOwn {op : Operator} (hr : Room j X.A) (tk : Takes X W) (ha : PE X a ta) (hb : PE X b tb) (hd : PySem.dunder op.info.2 = m := by decide +kernel) : PE X (.BinOp a op b pos) (tBinOwn X.prog X.w X.K X.mg X.base j m W ta tb) := by
  refine ⟨fun pins s σ H Q I h => ?_⟩
  refine wpAny_BinOp (binT ha hb I h fun v u s2 x y H2 I2 rx ry q => ?_)
  obtain ⟨o, o2, C, dx, dy, fs, gs, k, ps, sp, ex, ey, eo, eo2, sf, G, hk, q⟩ := q
  subst ex
  subst ey
  obtain rfl : v = Value.ref o := rx
  obtain rfl : u = Value.ref o2 := ry
  obtain ⟨f, fd, hm, hbd, F⟩ := G.ex
  obtain ⟨mA, O, _, _, _, _⟩ := ins_get I2.hok eo
  obtain ⟨mB, O2, _, _, _, _⟩ := ins_get I2.hok eo2
  obtain ⟨od, J, _⟩ := O.look
  obtain ⟨od2, J2, _⟩ := O2.look
  obtain ⟨mm, hF⟩ := I2.fr
  refine PySem.W.binop_K hF I2.ok.mod.kin J J2.type sf (by rw [hd]; exact hm.at_) hm.fn (wpAny_mono (run_fnS (us := [.ref o, .ref o2]) (vs := [.ref o, .ref o2]) (E := WE W) F (hr.mono hk) hbd (passAt tk σ) I2 (.cons rfl (.cons rfl .nil)) q) (fun r s3 hq => back_of (fun e => ?_) hq) fun _ _ z => z)
  subst e
  obtain ⟨w', H3, I3, rw', _⟩ := hq
  exact rel_some rw'
theorem pc_cmpOwn {op : CmpOp} (hr : Room j X.A) (tk : Takes X W) (ha : PE X a ta) (hb : PE X b tb) (hd : (cmpInfo op).2.1 = m := by decide +kernel) (hu : X.A.units < cLine) (hc : ∀ v u, compareOp op v u = richCompare op v u := by intro v u; rfl) : PC X op a b (tBinOwn X.prog X.w X.K X.mg X.base j m W ta tb) := by
  refine ⟨fun pins s σ H Q I h => ?_⟩
  refine thn (ha.run pins s σ H _ I h) fun v s1 ⟨x, H1, I1, rx, q1⟩ => thn (hb.run pins s1 σ H1 _ I1 q1) fun u s2 ⟨y, H2, I2, ry, o, o2, C, dx, dy, fs, gs, k, ps, sp, ex, ey, eo, eo2, sf, G, hk, q⟩ => ?_
  subst ex
  subst ey
  obtain rfl : v = Value.ref o := rx
  obtain rfl : u = Value.ref o2 := ry
  obtain ⟨f, fd, hm, hbd, F⟩ := G.ex
  obtain ⟨mA, O, _, _, _, _⟩ := ins_get I2.hok eo
  obtain ⟨mB, O2, _, _, _, _⟩ := ins_get I2.hok eo2
  obtain ⟨od, J, _⟩ := O.look
  obtain ⟨od2, J2, _⟩ := O2.look
  obtain ⟨mm, hF⟩ := I2.fr
  rw [hc]
  refine PySem.W.cmp_K hu hF I2.ok.mod.kin J J2.type (by simp [PySem.W.notFirst]) (by rw [hd]; exact hm.at_) hm.fn (wpAny_mono (run_fnS (us := [.ref o, .ref o2]) (vs := [.ref o, .ref o2]) (E := WE W) F (hr.mono hk) hbd (passAt tk σ) I2 (.cons rfl (.cons rfl .nil)) q) (fun r s3 hq => back_of (fun e => ?_) hq) fun _ _ z => z)
  subst e
  obtain ⟨w', H3, I3, rw', _⟩ := hq
  exact rel_some rw'
end
end M

namespace M
open PySem PySem.Spec PyProof.Rows L2
local macro_rules | `(tactic| walk_at "go") => `(tactic| repeat (first | refine ⟨_, rfl, ?_⟩ | refine ⟨rfl, ?_⟩ | refine ⟨_, _, rfl, rfl, ?_⟩ | refine .inl ⟨_, rfl, ?_⟩ | refine .inr ⟨_, rfl, ?_⟩ | refine ⟨.inl ⟨rfl, _, SqL.of (by assumption)⟩, ?_⟩ | refine ⟨_, _, _, rfl, rfl, (by assumption), ?_⟩ | refine ⟨⟨by decide, by decide, by decide⟩, ?_⟩ | refine ⟨⟨by decide, by decide⟩, ?_⟩ | refine ⟨.inr ⟨by decide, by decide⟩, ?_⟩ | refine ⟨.inl ⟨by decide, by decide⟩, ?_⟩ | refine ⟨by decide, ?_⟩ | refine ⟨(by show (_ : Int) ≠ (0 : Int); decide), ?_⟩))
local macro_rules | `(tactic| walk_at "at") => `(tactic| first | assumption | (refine LS.at_ (by assumption) ?_; walk_at "at") | (refine Same.ap (by assumption) ?_; walk_at "at"))

/-! ### _law_draws -/
abbrev nDraws : List Str := ["_law_script", "_law_many", "_law_draws_here", "_law_cell", "_law_size", "_law_k", "_law_rest", "_law_draw"]
theorem scDraws : FnScope nDraws ["_law_script", "_law_many"] (defScope sDraws) := ⟨rfl, rfl, rfl, by decide +kernel, rfl, by decide +kernel, by decide +kernel⟩
def spDraws (K : PySem.W.Frag) : Sp := fun vs H Q _ => ∃ (a : Addr) (ns : List Int) (n : Nat), vs = [.ref a, .int n] ∧ SqL K H a (ns.map V.int) ∧ ns.length ≤ 63 ∧ n ≤ 1000 ∧
  ∀ (p : Addr) (ds : List Int) (H' : Hp), H p = none → Same H H' → H' p = some (.lst (ds.map V.int)) → ds.length = n → Dr ds → Q (.ref p) H'
section
variable {P : Program} {w : World} {K : PySem.W.Frag} {mg : Str → Option Value} {base : Heap}
theorem ok_draws {f : Addr} {fd : FuncData} (F : FnP K "_law_draws" sDraws f fd) (T : Bi mg) : FnOk P w K mg base (L2.CX P w) 1 f fd ["_law_script", "_law_many"] (spDraws K) := by
  refine F.ok scDraws (fun vs H Q E h => ?_) (fun cdv A outer s H vs Q E hr h => ?_)
  · obtain ⟨a, ns, n, rfl, _⟩ := h
    rfl
  · obtain ⟨a, ns, n, rfl, hS, hlen, hn, kQ⟩ := h
    have nd := scDraws.nd
    refine ⟨_, PSs.nox (pss_cons (ps_set (i := 2) nd rfl (Or.inl rfl) (pe_lst pa_nil))
      (pss_cons (ps_for PassesOwn.never rfl (pi_list (pv 0)) (pg_name (i := 3) nd rfl (Or.inl rfl)) (pss_cons (ps_set (i := 4) nd rfl (Or.inl rfl) (pe_callB call_abs (by rfl) T.abs (by decide +kernel) (pa_cons (pe_callTy call_int1 (by rfl) T.int (by decide +kernel) (pa_cons (pv 3) pa_nil)) pa_nil)))
        (pss_one (ps_if (pt_cmpR op_ge (pv 4) (pe_op op_pow pe_int pe_int) (nomark _)) (pss_one (ps_for PassesOwn.never rfl (pi_range1 (by rfl) T.range (pa_cons pe_int pa_nil)) (pg_name (i := 5) nd rfl (Or.inl rfl)) (pss_one (ps_if (pt_cmpR op_gt (pv 4) pe_int (nomark _)) (pss_cons (ps_expr (pe_bm PySem.F.plainAttrs_list PySem.F.slot_list_append PySem.F.type_list_append mt_append (pv 2) (pa_cons (pe_op op_modN (pe_callTy call_int1 (by rfl) T.int (by decide +kernel) (pa_cons (pv 4) pa_nil)) pe_int) pa_nil)))
              (pss_one (ps_set (i := 4) nd rfl (Or.inl rfl) (pe_op op_fdivN (pv 4) pe_int)))) pss_nil)))) (pss_cons (ps_set (i := 4) nd rfl (Or.inl rfl) (pe_op op_add (pv 4) (pe_op op_mul pe_int (pe_callTy call_int1 (by rfl) T.int (by decide +kernel) (pa_cons (pe_cmpR op_lt (pv 3) pe_int (nomark _)) pa_nil)))))
          (pss_one (ps_for PassesOwn.never rfl (pi_range1 (by rfl) T.range (pa_cons pe_int pa_nil)) (pg_name (i := 5) nd rfl (Or.inl rfl)) (pss_cons (ps_set (i := 4) nd rfl (Or.inl rfl) (pe_op op_modN (pe_callTy call_int1 (by rfl) T.int (by decide +kernel) (pa_cons (pe_op op_add (pe_op op_add (pe_op op_mul (pv 4) pe_int) (pe_op op_mul pe_int (pv 5))) pe_int) pa_nil)) pe_int))
            (pss_one (ps_expr (pe_bm PySem.F.plainAttrs_list PySem.F.slot_list_append PySem.F.type_list_append mt_append (pv 2) (pa_cons (pe_op op_modN (pe_callTy call_int1 (by rfl) T.int (by decide +kernel) (pa_cons (pe_op op_fdivN (pv 4) pe_int) pa_nil)) pe_int) pa_nil))))))))))))
      (pss_cons (ps_set (i := 6) nd rfl (Or.inl rfl) pe_int)
      (pss_cons (ps_for PassesOwn.never rfl (pi_list (pv 2)) (pg_name (i := 7) nd rfl (Or.inl rfl)) (pss_one (ps_set (i := 6) nd rfl (Or.inl rfl) (pe_op op_modN (pe_callTy call_int1 (by rfl) T.int (by decide +kernel) (pa_cons (pe_op op_add (pe_op op_mul (pv 6) pe_int) (pv 7)) pa_nil)) pe_int))))
      (pss_cons (ps_for PassesOwn.never rfl (pi_range1 (by rfl) T.range (pa_cons (pv 1) pa_nil)) (pg_name (i := 5) nd rfl (Or.inl rfl)) (pss_cons (ps_set (i := 6) nd rfl (Or.inl rfl) (pe_op op_modN (pe_callTy call_int1 (by rfl) T.int (by decide +kernel) (pa_cons (pe_op op_add (pe_op op_mul (pv 6) pe_int) (pe_op op_mul pe_int (pv 5))) pa_nil)) pe_int))
        (pss_one (ps_expr (pe_bm PySem.F.plainAttrs_list PySem.F.slot_list_append PySem.F.type_list_append mt_append (pv 2) (pa_cons (pe_op op_mul (pe_op op_modN (pe_callTy call_int1 (by rfl) T.int (by decide +kernel) (pa_cons (pe_op op_fdivN (pv 6) pe_int) pa_nil)) pe_int) (pe_callTy call_int1 (by rfl) T.int (by decide +kernel) (pa_cons (pe_cmpR op_gt (pe_callB call_len_seq (by rfl) T.len PySem.boot_len (pa_cons (pv 0) pa_nil)) pe_int (nomark _)) pa_nil))) pa_nil))))))
      (pss_cons (ps_set (i := 2) nd rfl (Or.inl rfl) (pe_slice sl_list (pv 2) po_none (po_some (pv 1))))
      (pss_cons (ps_expr (pe_bm0 PySem.F.plainAttrs_list PySem.F.slot_list_reverse PySem.F.type_list_reverse mt_reverse (pv 2)))
      (pss_one (ps_ret (pv 2)))))))))), ?_⟩
    walk_at "go"
    refine fun p np => ?_
    walk_at "go"
    refine ⟨⟨_, (Same.new (Same.refl H) np).seq hS⟩, for_list (K := K) (a := a) (xs := ns.map V.int)
      (fun i σ H1 => ∃ (ds : List Int) (c z k : Option V), σ = [some (.ref a), some (.int n), some (.ref p), c, z, k, none, none] ∧ Same H H1 ∧ H1 p = some (.lst (ds.map V.int)) ∧ Dr ds ∧ ds.length ≤ 45 * i)
      ⟨[], none, none, none, rfl, Same.new (Same.refl H) np, upd_same, Dr.nil, Nat.zero_le _⟩ (fun i σ H1 _ ⟨_, _, _, _, _, s1, _⟩ => s1.seq hS) ?_ ?_⟩
    · rintro i y σ H1 hi ⟨ds, c, z, k, rfl, s1, hp, hd, hl⟩
      have hil : i < ns.length := by
        have := lt_of_at hi
        rwa [List.length_map] at this
      obtain ⟨x, _, rfl⟩ := int_at hi
      walk_at "go"
      refine ite2 (fun _ => ?_) (fun hb => ?_)
      · refine ⟨_, rfl, by decide, by decide, for_range (n := 45) (fun j σ H2 => ∃ (ds : List Int) (z : Int) (k : Option V), σ = [some (.ref a), some (.int n), some (.ref p), some (.int x), some (.int z), k, none, none] ∧ Same H H2 ∧ H2 p = some (.lst (ds.map V.int)) ∧ Dr ds ∧ ds.length ≤ 45 * i + j)
          ⟨ds, _, k, rfl, s1, hp, hd, hl⟩ ?_ ?_⟩
        · rintro j σ H2 hj ⟨ds, z, k, rfl, s2, hp, hd, hl⟩
          walk_at "go"
          refine ite2 (fun _ => ?_) (fun _ => ?_)
          · walk_at "go"
            refine ⟨size_ok (m := 10000) (by rw [List.length_map]; omega) (by decide), ?_⟩
            walk_at "go"
            exact ⟨ds ++ [z.fmod 1000], _, _, rfl, s2.mut np, by rw [upd_same, List.map_append]; rfl, hd.snoc (fm_nonneg z (by decide)) (fm_lt z (by decide)), by rw [List.length_append, List.length_singleton]; omega⟩
          · exact ⟨ds, z, _, rfl, s2, hp, hd, by omega⟩
        · rintro σ H2 ⟨ds, z, k, rfl, s2, hp, hd, hl⟩
          exact ⟨ds, _, _, _, rfl, s2, hp, hd, by omega⟩
      · walk_at "go"
        refine for_range (n := 6) (fun j σ H2 => ∃ (ds : List Int) (z : Int) (k : Option V), σ = [some (.ref a), some (.int n), some (.ref p), some (.int x), some (.int z), k, none, none] ∧ Same H H2 ∧ H2 p = some (.lst (ds.map V.int)) ∧ Dr ds ∧ ds.length ≤ 45 * i + j)
          ⟨ds, _, k, rfl, s1, hp, hd, hl⟩ ?_ ?_
        · rintro j σ H2 hj ⟨ds, z, k, rfl, s2, hp, hd, hl⟩
          walk_at "go"
          refine ⟨size_ok (m := 10000) (by rw [List.length_map]; omega) (by decide), ?_⟩
          walk_at "go"
          exact ⟨ds ++ [_], _, _, rfl, s2.mut np, by rw [upd_same, List.map_append]; rfl, hd.snoc (fm_nonneg _ (by decide)) (fm_lt _ (by decide)), by rw [List.length_append, List.length_singleton]; omega⟩
        · rintro σ H2 ⟨ds, z, k, rfl, s2, hp, hd, hl⟩
          exact ⟨ds, _, _, _, rfl, s2, hp, hd, by omega⟩
    · rintro σ H1 ⟨ds, c, z, k, rfl, s1, hp, hd, hl⟩
      rw [List.length_map] at hl
      walk_at "go"
      refine ⟨⟨_, SqL.of hp⟩, for_list (K := K) (a := p) (xs := ds.map V.int)
        (fun i σ H2 => H2 = H1 ∧ ∃ (r : Int) (d : Option V), σ = [some (.ref a), some (.int n), some (.ref p), c, z, k, some (.int r), d])
        ⟨rfl, _, _, rfl⟩ (fun i σ H2 _ ⟨e, _⟩ => by rw [e]; exact SqL.of hp) ?_ ?_⟩
      · rintro i y σ H2 hi ⟨rfl, r, d, rfl⟩
        obtain ⟨x, _, rfl⟩ := int_at hi
        walk_at "go"
        exact ⟨_, _, rfl⟩
      · rintro σ H2 ⟨rfl, r, d, rfl⟩
        walk_at "go"
        refine ⟨by omega, by omega, for_range (n := n) (fun j σ H3 => ∃ (es : List Int) (k : Option V) (r : Int), σ = [some (.ref a), some (.int n), some (.ref p), c, z, k, some (.int r), d] ∧ Same H H3 ∧ H3 p = some (.lst (es.map V.int)) ∧ Dr es ∧ es.length = ds.length + j)
          ⟨ds, k, r, rfl, s1, hp, hd, rfl⟩ ?_ ?_⟩
        · rintro j σ H3 hj ⟨es, k, r, rfl, s3, hp, hd, hl3⟩
          walk_at "go"
          refine ⟨a, _, rfl, .inl (s3.seq hS), ?_⟩
          walk_at "go"
          generalize hz : ((((r * 16807 + 13 * (0 + (j : Int))).fmod 2147483647).fdiv 7).fmod 1000) = z
          have z0 : 0 ≤ z := by rw [← hz]; exact fm_nonneg _ (by decide)
          have z1 : z < 1000 := by rw [← hz]; exact fm_lt _ (by decide)
          generalize hb : (if decide ((0 : Int) < ((ns.map V.int).length : Int)) = true then (1 : Int) else 0) = b
          have b0 : b = 0 ∨ b = 1 := by
            rw [← hb]
            split
            · exact .inr rfl
            · exact .inl rfl
          have e0 : 0 ≤ z * b ∧ z * b < 1000 := by
            rcases b0 with e | e <;> rw [e] <;> omega
          refine ⟨.inl ⟨by omega, by omega⟩, ?_⟩
          walk_at "go"
          refine ⟨size_ok (m := 10000) (by rw [List.length_map]; omega) (by decide), ?_⟩
          exact ⟨es ++ [z * b], _, _, rfl, s3.mut np, by rw [upd_same, List.map_append]; rfl, hd.snoc e0.1 e0.2, by rw [List.length_append, List.length_singleton]; omega⟩
        · rintro σ H3 ⟨es, k, r, rfl, s3, hp, hd, hl3⟩
          walk_at "go"
          refine ⟨p, _, rfl, SqL.of hp, fun q nq => ?_⟩
          refine ⟨_, rfl, .inl ⟨rfl, _, SqL.of upd_same⟩, q, _, rfl, rfl, upd_same, ?_⟩
          refine ⟨_, rfl, ?_⟩
          have ec : cutV (es.map V.int) none (some (n : Int)) = (es.take n).map V.int := by
            rw [cut_to _ (by rw [List.length_map]; omega), List.map_take]
          refine kQ q (es.take n).reverse _ (s3.free nq) ?_ ?_ ?_ ?_
          · exact (s3.new nq).mut (s3.free nq)
          · rw [upd_same, ec, List.map_reverse]
          · rw [List.length_reverse, List.length_take]; omega
          · intro d hd'
            exact hd d (List.mem_of_mem_take (List.mem_reverse.mp hd'))
end

/-! ### _law_take -/
theorem scTake : FnScope ["_law_draws_here", "_law_size"] ["_law_draws_here", "_law_size"] (defScope sTake) := ⟨rfl, rfl, rfl, by decide +kernel, rfl, by decide +kernel, by decide +kernel⟩
def spTake : Sp := fun vs H Q _ => ∃ (a : Addr) (ds : List Int) (m : Int), vs = [.ref a, .int m] ∧ H a = some (.lst (ds.map V.int)) ∧ Dr ds ∧ 0 < m ∧
  ∀ (d : Int) (ds' : List Int), 0 ≤ d → d < m → Dr ds' → ds'.length ≤ ds.length → Q (.int d) (upd H a (.lst (ds'.map V.int)))
section
variable {P : Program} {w : World} {K : PySem.W.Frag} {mg : Str → Option Value} {base : Heap}
theorem ok_take {f : Addr} {fd : FuncData} (F : FnP K "_law_take" sTake f fd) (T : Bi mg) : FnOk P w K mg base (L2.CX P w) 1 f fd ["_law_draws_here", "_law_size"] spTake := by
  refine F.ok scTake (fun vs H Q E h => ?_) (fun cdv A outer s H vs Q E hr h => ?_)
  · obtain ⟨a, ds, m, rfl, _⟩ := h
    rfl
  · obtain ⟨a, ds, m, rfl, ha, hd, hm, kQ⟩ := h
    have nd := scTake.nd
    refine ⟨_, PSs.nox (pss_cons (ps_if (pt_not (pt_truth (pv 0) (by intro _; rfl))) (pss_one (ps_ret pe_int)) pss_nil)
      (pss_one (ps_ret (pe_op op_modN (pe_callTy call_int1 (by rfl) T.int (by decide +kernel) (pa_cons (pe_bm0 PySem.F.plainAttrs_list PySem.F.slot_list_pop PySem.F.type_list_pop mt_pop (pv 0)) pa_nil)) (pv 1))))), ?_⟩
    refine ⟨_, rfl, !(ds.map V.int).isEmpty, .inl ⟨_, SqL.of ha, rfl⟩, ?_⟩
    cases ds with
    | nil =>
      refine iteT ?_
      have e : upd H a (.lst (([] : List Int).map V.int)) = H := by
        funext b
        unfold upd
        split
        · rename_i e; rw [e, ha]
        · rfl
      have z := kQ 0 [] (Int.le_refl 0) hm Dr.nil (Nat.le_refl _)
      rw [e] at z
      exact z
    | cons d0 ds =>
      refine iteF ?_
      obtain ⟨es, e, he⟩ : ∃ es e, d0 :: ds = es ++ [e] := ⟨(d0 :: ds).dropLast, (d0 :: ds).getLast (by simp), (List.dropLast_concat_getLast (by simp)).symm⟩
      rw [he] at ha hd kQ
      have hl : ((es ++ [e]).map V.int)[((es ++ [e]).map V.int).length - 1]? = some (.int e) := by
        rw [List.map_append, List.length_append, List.map_singleton, List.length_singleton, Nat.add_sub_cancel, List.getElem?_append_right (Nat.le_refl _), Nat.sub_self]
        rfl
      refine ⟨_, rfl, .inl ⟨rfl, _, SqL.of ha⟩, a, _, _, rfl, rfl, ha, hl, .inl ⟨_, rfl, _, rfl, _, _, rfl, rfl, Int.ne_of_gt hm, ?_⟩⟩
      have z := kQ (e.fmod m) es (fm_nonneg e hm) (fm_lt e hm) (fun x hx => hd x (List.mem_append_left _ hx)) (by rw [List.length_append]; exact Nat.le_add_right _ _)
      have ed : ((es ++ [e]).map V.int).dropLast = es.map V.int := by rw [List.map_append, List.map_singleton, List.dropLast_concat]
      rw [ed]
      exact z
end

/-! ### _law_names -/
theorem scNames : FnScope ["_law_draw", "_law_many", "_law_letters", "_law_first", "_law_place", "_law_style", "_law_names_here", "_law_k", "_law_letter"] ["_law_draw", "_law_many"] (defScope sNames) := ⟨rfl, rfl, rfl, by decide +kernel, rfl, by decide +kernel, by decide +kernel⟩
def spNames : Sp := fun vs H Q _ => ∃ (d n : Nat), vs = [.int d, .int n] ∧ d < 1000 ∧ n ≤ 26 ∧
  ∀ (p : Addr) (H' : Hp), H p = none → Same H H' → H' p = some (.lst ((nmL d n).map V.str)) → Q (.ref p) H'
theorem abc_at {c : Nat} (h : c < 26) : atI ("abcdefghijklmnopqrstuvwxyz" : Str).cps.toList (c : Int) = some (97 + c) := by
  refine atI_nat ?_
  have e : ("abcdefghijklmnopqrstuvwxyz" : Str).cps.toList = (List.range 26).map (97 + ·) := by decide +kernel
  rw [e, List.getElem?_map, List.getElem?_range h]
  rfl
theorem q_to {c : Nat} (h : c < 7) : cutS ("qqqqqq" : Str) none (some (c : Int)) = ⟨(List.replicate c 113).toArray⟩ := by
  match c, h with
  | 0, _ => decide +kernel
  | 1, _ => decide +kernel
  | 2, _ => decide +kernel
  | 3, _ => decide +kernel
  | 4, _ => decide +kernel
  | 5, _ => decide +kernel
  | 6, _ => decide +kernel
theorem q_from {c : Nat} (h : c < 7) : cutS ("qqqqqq" : Str) (some (c : Int)) none = ⟨(List.replicate (6 - c) 113).toArray⟩ := by
  match c, h with
  | 0, _ => decide +kernel
  | 1, _ => decide +kernel
  | 2, _ => decide +kernel
  | 3, _ => decide +kernel
  | 4, _ => decide +kernel
  | 5, _ => decide +kernel
  | 6, _ => decide +kernel
theorem z_to {c : Nat} (h : c < 8) : cutS ("zyxwvuts" : Str) none (some (c : Int)) = ⟨(tailZ.take c).toArray⟩ := by
  match c, h with
  | 0, _ => decide +kernel
  | 1, _ => decide +kernel
  | 2, _ => decide +kernel
  | 3, _ => decide +kernel
  | 4, _ => decide +kernel
  | 5, _ => decide +kernel
  | 6, _ => decide +kernel
  | 7, _ => decide +kernel
theorem str_app (a b : List Nat) : (⟨a.toArray⟩ : Str) ++ ⟨b.toArray⟩ = ⟨(a ++ b).toArray⟩ := by
  show (⟨a.toArray ++ b.toArray⟩ : Str) = _
  rw [List.append_toArray]
theorem str_assoc (a b c : Str) : (a ++ b) ++ c = a ++ (b ++ c) := by
  show (⟨(a.cps ++ b.cps) ++ c.cps⟩ : Str) = ⟨a.cps ++ (b.cps ++ c.cps)⟩
  rw [Array.append_assoc]
theorem nmL_snoc (d n j : Nat) : ((List.range (j + 1)).map (nm d n)).map V.str = ((List.range j).map (nm d n)).map V.str ++ [.str (nm d n j)] := by
  rw [List.range_succ, List.map_append, List.map_append]
  rfl
section
variable {P : Program} {w : World} {K : PySem.W.Frag} {mg : Str → Option Value} {base : Heap}
theorem ok_names {f : Addr} {fd : FuncData} (F : FnP K "_law_names" sNames f fd) (T : Bi mg) : FnOk P w K mg base (L2.CX P w) 1 f fd ["_law_draw", "_law_many"] spNames := by
  refine F.ok scNames (fun vs H Q E h => ?_) (fun cdv A outer s H vs Q E hr h => ?_)
  · obtain ⟨d, n, rfl, _⟩ := h
    rfl
  · obtain ⟨d, n, rfl, hd, hn, kQ⟩ := h
    have nd := scNames.nd
    refine ⟨_, PSs.nox (pss_cons (ps_set (i := 2) nd rfl (Or.inl rfl) pe_str)
      (pss_cons (ps_set (i := 3) nd rfl (Or.inl rfl) (pe_op op_modN (pe_callTy call_int1 (by rfl) T.int (by decide +kernel) (pa_cons (pe_op op_fdivN (pv 0) pe_int) pa_nil)) pe_int))
      (pss_cons (ps_set (i := 4) nd rfl (Or.inl rfl) (pe_op op_modN (pe_callTy call_int1 (by rfl) T.int (by decide +kernel) (pa_cons (pe_op op_fdivN (pv 0) pe_int) pa_nil)) pe_int))
      (pss_cons (ps_set (i := 5) nd rfl (Or.inl rfl) (pe_op op_modN (pe_callTy call_int1 (by rfl) T.int (by decide +kernel) (pa_cons (pv 0) pa_nil)) pe_int))
      (pss_cons (ps_set (i := 6) nd rfl (Or.inl rfl) (pe_lst pa_nil))
      (pss_cons (ps_for PassesOwn.never rfl (pi_range1 (by rfl) T.range (pa_cons (pv 1) pa_nil)) (pg_name (i := 7) nd rfl (Or.inl rfl)) (pss_cons (ps_set (i := 8) nd rfl (Or.inl rfl) (pe_ix ix_str (pv 2) (pe_op op_modN (pe_callTy call_int1 (by rfl) T.int (by decide +kernel) (pa_cons (pe_op op_add (pv 3) (pe_op op_mul pe_int (pv 7))) pa_nil)) pe_int) (fun _ _ => rfl)))
        (pss_one (ps_if (pt_cmpR op_eq (pv 5) pe_int (nomark _)) (pss_one (ps_expr (pe_bm PySem.F.plainAttrs_list PySem.F.slot_list_append PySem.F.type_list_append mt_append (pv 6) (pa_cons (pv 8) pa_nil)))) (pss_one (ps_if (pt_cmpR op_eq (pv 5) pe_int (nomark _)) (pss_one (ps_expr (pe_bm PySem.F.plainAttrs_list PySem.F.slot_list_append PySem.F.type_list_append mt_append (pv 6) (pa_cons (pe_op op_add_str (pe_op op_add_str (pe_slice sl_str pe_str po_none (po_some (pv 4))) (pv 8)) (pe_slice sl_str pe_str (po_some (pv 4)) po_none)) pa_nil)))) (pss_one (ps_if (pt_cmpR op_eq (pv 5) pe_int (nomark _)) (pss_one (ps_expr (pe_bm PySem.F.plainAttrs_list PySem.F.slot_list_append PySem.F.type_list_append mt_append (pv 6) (pa_cons (pe_op op_mul_str (pe_ix ix_str (pv 2) (pv 3) (fun _ _ => rfl)) (pe_op op_sub (pv 1) (pv 7))) pa_nil)))) (pss_one (ps_expr (pe_bm PySem.F.plainAttrs_list PySem.F.slot_list_append PySem.F.type_list_append mt_append (pv 6) (pa_cons (pe_op op_add_str (pv 8) (pe_slice sl_str pe_str po_none (po_some (pe_op op_modN (pe_callTy call_int1 (by rfl) T.int (by decide +kernel) (pa_cons (pe_op op_add (pv 0) (pe_op op_mul pe_int (pv 7))) pa_nil)) pe_int)))) pa_nil))))))))))))
      (pss_one (ps_ret (pv 6))))))))), ?_⟩
    have f1 : ((d : Int).fdiv 4).fmod 26 = ((d / 4 % 26 : Nat) : Int) := by
      rw [Int.fdiv_eq_ediv_of_nonneg _ (by decide), Int.fmod_eq_emod_of_nonneg _ (by decide)]; omega
    have f2 : ((d : Int).fdiv 104).fmod 7 = ((d / 104 % 7 : Nat) : Int) := by
      rw [Int.fdiv_eq_ediv_of_nonneg _ (by decide), Int.fmod_eq_emod_of_nonneg _ (by decide)]; omega
    have f3 : (d : Int).fmod 4 = ((d % 4 : Nat) : Int) := by
      rw [Int.fmod_eq_emod_of_nonneg _ (by decide)]; omega
    walk_at "go"
    refine fun p np => ?_
    walk_at "go"
    refine ⟨by omega, by omega, for_range (n := n) (fun j σ H1 => ∃ (F G S : Int) (k l : Option V), σ = [some (.int d), some (.int n), some (.str "abcdefghijklmnopqrstuvwxyz"), some (.int F), some (.int G), some (.int S), some (.ref p), k, l] ∧ F = ((d / 4 % 26 : Nat) : Int) ∧ G = ((d / 104 % 7 : Nat) : Int) ∧ S = ((d % 4 : Nat) : Int) ∧
        Same H H1 ∧ H1 p = some (.lst (((List.range j).map (nm d n)).map V.str)))
      ⟨_, _, _, none, none, rfl, f1, f2, f3, (Same.refl H).new np, upd_same⟩ ?_ ?_⟩
    · rintro j σ H1 hj ⟨F, G, S, k, l, rfl, eF, eG, eS, s1, hp⟩
      have hsz : (((List.range j).map (nm d n)).map V.str).length < sizeLine := by
        rw [List.length_map, List.length_map, List.length_range]
        exact size_ok (m := 30) (by omega) (by decide)
      have hL : (F + 7 * (0 + (j : Int))).fmod 26 = (((d / 4 % 26 + 7 * j) % 26 : Nat) : Int) := by
        rw [Int.fmod_eq_emod_of_nonneg _ (by decide), eF]; omega
      have z26 : ("abcdefghijklmnopqrstuvwxyz" : Str).length ≤ sizeLine := by rw [sizeLine_eq]; decide +kernel
      have z6 : ("qqqqqq" : Str).length ≤ sizeLine := by rw [sizeLine_eq]; decide +kernel
      have z8 : ("zyxwvuts" : Str).length ≤ sizeLine := by rw [sizeLine_eq]; decide +kernel
      walk_at "go"
      refine ⟨_, _, 97 + (d / 4 % 26 + 7 * j) % 26, rfl, rfl, z26, ?_, ?_⟩
      · rw [hL]; exact abc_at (Nat.mod_lt _ (by decide))
      have eN : ∀ o, nmC d n j = o → nm d n j = ⟨o.toArray⟩ := fun o e => by rw [← e]; rfl
      walk_at "go"
      refine ite2 (fun c => ?_) (fun c => ?_)
      · have c0 : d % 4 = 0 := by
          have := of_decide_eq_true c
          have e := V.int.inj this
          omega
        walk_at "go"
        refine ⟨hsz, F, G, S, _, _, rfl, eF, eG, eS, s1.mut np, ?_⟩
        rw [upd_same, nmL_snoc, eN [ltr d j] (by unfold nmC; rw [if_pos c0])]
        rfl
      · have c0 : ¬ d % 4 = 0 := fun e => c (decide_eq_true (by rw [eS, e]; rfl))
        walk_at "go"
        refine ite2 (fun c => ?_) (fun c => ?_)
        · have c1 : d % 4 = 1 := by
            have := of_decide_eq_true c
            have e := V.int.inj this
            omega
          walk_at "go"
          rw [eG, q_to (Nat.mod_lt _ (by decide))]
          refine ⟨by rw [sizeLine_eq]; show (List.replicate _ _).toArray.size + 1 ≤ _; simp; omega, ?_⟩
          walk_at "go"
          rw [q_from (Nat.mod_lt _ (by decide))]
          walk_at "go"
          refine ⟨by rw [sizeLine_eq]; show ((List.replicate _ _).toArray ++ #[_]).size + (List.replicate _ _).toArray.size ≤ _; simp; omega, ?_⟩
          refine ⟨p, _, _, rfl, rfl, hp, hsz, F, _, S, _, _, rfl, eF, rfl, eS, s1.mut np, ?_⟩
          rw [upd_same, nmL_snoc, eN (List.replicate (d / 104 % 7) 113 ++ ([ltr d j] ++ List.replicate (6 - d / 104 % 7) 113)) (by unfold nmC; rw [if_neg c0, if_pos c1]), ← str_app, ← str_app, ← str_assoc]
          rfl
        · have c1 : ¬ d % 4 = 1 := fun e => c (decide_eq_true (by rw [eS, e]; rfl))
          walk_at "go"
          refine ite2 (fun c => ?_) (fun c => ?_)
          · have c2 : d % 4 = 2 := by
              have := of_decide_eq_true c
              have e := V.int.inj this
              omega
            walk_at "go"
            refine ⟨_, _, 97 + d / 4 % 26, rfl, rfl, z26, ?_, ?_⟩
            · rw [eF]; exact abc_at (Nat.mod_lt _ (by decide))
            walk_at "go"
            refine ⟨⟨by omega, by omega⟩, ?_⟩
            refine ⟨p, _, _, rfl, rfl, hp, hsz, F, G, S, _, _, rfl, eF, eG, eS, s1.mut np, ?_⟩
            rw [upd_same, nmL_snoc, eN (List.replicate (n - j) (97 + d / 4 % 26)) (by unfold nmC; rw [if_neg c0, if_neg c1, if_pos c2])]
            have e : ((n : Int) - (0 + (j : Int))).toNat = n - j := by omega
            rw [← e]
          · have c2 : ¬ d % 4 = 2 := fun e => c (decide_eq_true (by rw [eS, e]; rfl))
            walk_at "go"
            have e8 : ((d : Int) + 3 * (0 + (j : Int))).fmod 8 = (((d + 3 * j) % 8 : Nat) : Int) := by
              rw [Int.fmod_eq_emod_of_nonneg _ (by decide)]; omega
            rw [e8, z_to (Nat.mod_lt _ (by decide))]
            refine ⟨by rw [sizeLine_eq]; show 1 + (List.take _ tailZ).toArray.size ≤ _; simp [tailZ]; omega, ?_⟩
            refine ⟨p, _, _, rfl, rfl, hp, hsz, F, G, S, _, _, rfl, eF, eG, eS, s1.mut np, ?_⟩
            rw [upd_same, nmL_snoc, eN (ltr d j :: tailZ.take ((d + 3 * j) % 8)) (by unfold nmC; rw [if_neg c0, if_neg c1, if_neg c2]), show (ltr d j :: tailZ.take ((d + 3 * j) % 8)) = [ltr d j] ++ tailZ.take ((d + 3 * j) % 8) from rfl, ← str_app]
            rfl
    · rintro σ H1 ⟨F, G, S, k, l, rfl, eF, eG, eS, s1, hp⟩
      walk_at "go"
      exact kQ p _ np s1 hp
end

/-! ### check_name, check_known -/
theorem scCn : FnScope ["name", "taken", "letter"] ["name", "taken"] (defScope sCn) := ⟨rfl, rfl, rfl, by decide +kernel, rfl, by decide +kernel, by decide +kernel⟩
theorem scKn : FnScope ["name", "known"] ["name", "known"] (defScope sKn) := ⟨rfl, rfl, rfl, by decide +kernel, rfl, by decide +kernel, by decide +kernel⟩
def spCn (K : PySem.W.Frag) (CB CT : Addr) : Sp := fun vs H Q E => ∃ (x : Str) (a : Addr) (P : Str → Bool), vs = [.str x, .ref a] ∧ InA K H a P ∧ x.length ≤ sizeLine ∧ (NameOk x → P x = false → Q .non H) ∧ (¬ NameOk x → Rz E CB H [("name", .str x)]) ∧ (NameOk x → P x = true → Rz E CT H [("name", .str x)])
def spKn (K : PySem.W.Frag) (CU : Addr) : Sp := fun vs H Q E => ∃ (x : Str) (a : Addr) (P : Str → Bool), vs = [.str x, .ref a] ∧ InA K H a P ∧ (P x = true → Q .non H) ∧ (P x = false → Rz E CU H [("name", .str x)])
section
variable {P : Program} {w : World} {K : PySem.W.Frag} {mg : Str → Option Value} {base : Heap}
theorem ok_kn {f CU : Addr} {fd : FuncData} (F : FnP K "check_known" sKn f fd) (T : Bj mg) (xUnknown : PySem.XEx.XCls P K CU ["name"] (defArgs sIUnknown) (defBody sIUnknown) (defScope sIUnknown)) (gUnknown : mg "Unknown" = some (.ref CU)) : FnOk P w K mg base (L2.CX P w) 1 f fd ["name", "known"] (spKn K CU) := by
  refine F.ok scKn (fun vs H Q E h => ?_) (fun cdv A outer s H vs Q E hr h => ?_)
  · obtain ⟨x, a, P, rfl, _⟩ := h
    rfl
  · obtain ⟨x, a, P, rfl, hI, k1, k2⟩ := h
    have nd := scKn.nd
    have hu := hu_of hr
    refine ⟨_, (pss_one (ps_if (pt_cmpR (show OpR _ _ (rInA K true) from op_notInA hu) (pv 0) (pv 1) (by rfl)) (pss_one (ps_raiseX rfl xUnknown iUnknown gUnknown hr (takes_of rfl rfl rfl rfl) (pa_cons (pv 0) pa_nil))) pss_nil)), ?_⟩
    refine ⟨_, rfl, _, rfl, a, x, P, rfl, rfl, hI, _, rfl, ?_⟩
    refine ite2 (fun c => ?_) (fun c => ?_)
    · have e : P x = false := by
        have c' : (!P x) = true := c
        cases q : P x with
        | false => rfl
        | true => rw [q] at c'; cases c'
      exact ⟨_, rfl, rfl, (fun e => by cases e), fun _ d hd => k2 e d hd⟩
    · have e : P x = true := by
        have c' : ¬ (!P x) = true := c
        cases q : P x with
        | true => rfl
        | false => rw [q] at c'; exact absurd rfl c'
      exact k1 e
theorem ok_cn {f CB CT : Addr} {fd : FuncData} (F : FnP K "check_name" sCn f fd) (T : Bj mg) (gLet : ∃ t, mg "LETTERS" = some (.str abc t)) (gLon : ∃ t, mg "LONGEST" = some (.int 8 t)) (xBadName : PySem.XEx.XCls P K CB ["name"] (defArgs sIBadName) (defBody sIBadName) (defScope sIBadName)) (gBadName : mg "BadName" = some (.ref CB))
    (xTaken : PySem.XEx.XCls P K CT ["name"] (defArgs sITaken) (defBody sITaken) (defScope sITaken)) (gTaken : mg "Taken" = some (.ref CT)) : FnOk P w K mg base (L2.CX P w) 1 f fd ["name", "taken"] (spCn K CB CT) := by
  obtain ⟨tLe, gLET⟩ := gLet
  obtain ⟨tLo, gLON⟩ := gLon
  refine F.ok scCn (fun vs H Q E h => ?_) (fun cdv A outer s H vs Q E hr h => ?_)
  · obtain ⟨x, a, P, rfl, _⟩ := h
    rfl
  · obtain ⟨x, a, P, rfl, hI, hxl, k1, k2, k3⟩ := h
    have nd := scCn.nd
    have hu := hu_of hr
    refine ⟨_, (pss_cons (ps_if (pt_not (pt_chain op_le op_le pe_int (pe_callB call_len_str (by rfl) T.len PySem.boot_len (pa_cons (pv 0) pa_nil)) (pe_glob (v := .int 8) (by rfl) gLON ⟨_, rfl⟩))) (pss_one (ps_raiseX rfl xBadName iBadName gBadName hr (takes_of rfl rfl rfl rfl) (pa_cons (pv 0) pa_nil))) pss_nil)
      (pss_cons (ps_for (passes_of rfl) rfl (pi_str (pv 0)) (pg_name (i := 2) nd rfl (Or.inl rfl)) (pss_one (ps_if (pt_cmpR op_notIn_sign (pv 2) (pe_glob (v := .str abc) (by rfl) gLET ⟨_, rfl⟩) rfl) (pss_one (ps_raiseX rfl xBadName iBadName gBadName hr (takes_of rfl rfl rfl rfl) (pa_cons (pv 0) pa_nil))) pss_nil)))
      (pss_one (ps_if (pt_cmpR (show OpR _ _ (rInA K false) from op_inA hu) (pv 0) (pv 1) (by rfl)) (pss_one (ps_raiseX rfl xTaken iTaken gTaken hr (takes_of rfl rfl rfl rfl) (pa_cons (pv 0) pa_nil))) pss_nil)))), ?_⟩
    have habc : ∀ c, c ∈ abc.cps.toList ↔ 97 ≤ c ∧ c ≤ 122 := fun c => by
      rw [show abc.cps.toList = List.range' 97 26 from by decide +kernel, List.mem_range'_1]
      omega
    have hlen : x.cps.toList.length = x.length := by rw [Array.length_toList]; rfl
    refine ⟨_, rfl, x, rfl, hxl, _, _, rfl, rfl, _, rfl, ?_⟩
    refine ite2 (fun c1 => ?_) (fun c1 => ?_)
    · have c1' := of_decide_eq_true c1
      refine ⟨_, _, rfl, rfl, _, rfl, ?_⟩
      by_cases c2 : (x.length : Int) ≤ 8
      · rw [decide_eq_true c2]
        refine iteF ?_
        refine ⟨_, rfl, x, rfl, ?_⟩
        refine for_it walk_str (fun i σ H1 => (∃ u, σ = [some (.str x), some (.ref a), u]) ∧ H1 = H ∧ ∀ (j : Nat) c, j < i → x.cps[j]? = some c → 97 ≤ c ∧ c ≤ 122) ⟨⟨none, rfl⟩, rfl, fun j c hj => absurd hj (Nat.not_lt_zero _)⟩ (fun _ _ _ _ _ => trivial) ?_ ?_
        · rintro i y σ H1 H2 hi ⟨⟨u, rfl⟩, rfl, hc⟩ ⟨rfl, c, hx, rfl⟩
          refine ⟨_, rfl, c, abc, rfl, rfl, _, rfl, ?_⟩
          refine ite2 (fun d1 => ?_) (fun d1 => ?_)
          · have nc : ¬ (97 ≤ c ∧ c ≤ 122) := fun h => by
              have := decide_eq_true ((habc c).mpr h)
              have d1' : (!decide (c ∈ abc.cps.toList)) = true := d1
              rw [this] at d1'
              cases d1'
            have nn : ¬ NameOk x := fun h => nc (h.2.2 c (by
              rw [Array.getElem?_eq_some_iff] at hx
              obtain ⟨h1, h2⟩ := hx
              rw [← h2]
              exact Array.mem_toList_iff.mpr (Array.getElem_mem h1)))
            exact ⟨_, rfl, rfl, (fun e => by cases e), fun _ d hd => k2 nn d hd⟩
          · refine ⟨⟨_, rfl⟩, rfl, fun j c' hj hc' => ?_⟩
            by_cases e : j < i
            · exact hc j c' e hc'
            · have : j = i := by omega
              subst this
              rw [hx] at hc'
              cases hc'
              by_cases q : c ∈ abc.cps.toList
              · exact (habc c).mp q
              · exact absurd (show (!decide (c ∈ abc.cps.toList)) = true by rw [decide_eq_false q]; rfl) d1
        · rintro σ H1 ⟨⟨u, rfl⟩, rfl, hc⟩
          have nk : NameOk x := by
            refine ⟨by omega, by omega, fun c hcm => ?_⟩
            obtain ⟨j, hj, e⟩ := List.getElem_of_mem hcm
            rw [Array.length_toList] at hj
            exact hc j c hj (by rw [Array.getElem?_eq_getElem hj]; rw [Array.getElem_toList] at e; rw [e])
          refine ⟨_, rfl, _, rfl, a, x, P, rfl, rfl, hI, _, rfl, ?_⟩
          refine ite2 (fun c => ?_) (fun c => ?_)
          · exact ⟨_, rfl, rfl, (fun e => by cases e), fun _ d hd => k3 nk c d hd⟩
          · have e : P x = false := by
              have c' : ¬ P x = true := c
              simpa using c'
            exact k1 nk e
      · rw [decide_eq_false c2]
        refine iteT ?_
        have nn : ¬ NameOk x := fun h => c2 (by have := h.2.1; omega)
        exact ⟨_, rfl, rfl, (fun e => by cases e), fun _ d hd => k2 nn d hd⟩
    · have nn : ¬ NameOk x := fun h => c1 (decide_eq_true (by have := h.1; omega))
      refine ⟨_, rfl, iteT ?_⟩
      exact ⟨_, rfl, rfl, (fun e => by cases e), fun _ d hd => k2 nn d hd⟩
end

/-! ### channels.py: check_kind, Ends, Load, Channel -/
abbrev FnQ (K : PySem.W.Frag) (x q : Str) (st : Stmt) (f : Addr) (fd : FuncData) : Prop := FunD K x q (defArgs st) (defBody st) (defScope st) [] [] f fd
theorem scCk : FnScope ["kind"] ["kind"] (defScope sCk) := ⟨rfl, rfl, rfl, by decide +kernel, rfl, by decide +kernel, by decide +kernel⟩
theorem scEnI : FnScope ["self", "source", "target"] ["self", "source", "target"] (defScope sEnI) := ⟨rfl, rfl, rfl, by decide +kernel, rfl, by decide +kernel, by decide +kernel⟩
theorem scLoI : FnScope ["self", "items"] ["self", "items"] (defScope sLoI) := ⟨rfl, rfl, rfl, by decide +kernel, rfl, by decide +kernel, by decide +kernel⟩
theorem scChI : FnScope ["self", "name", "source", "target", "items", "late"] ["self", "name", "source", "target", "items", "late"] (defScope sChI) := ⟨rfl, rfl, rfl, by decide +kernel, rfl, by decide +kernel, by decide +kernel⟩
def spCk (CB : Addr) : Sp := fun vs H Q E => ∃ k : Option Str, vs = [kindV k] ∧ (KindOk k → Q .non H) ∧ (¬ KindOk k → Rz E CB H [("kind", kindV k)])
/-- the classes may be a base's or that of the instance -/
def spEnI (K : PySem.W.Frag) : Sp := fun vs H Q _ => ∃ (p C dx : Addr) (fs : List (Str × V)) (s t : V), vs = [.ref p, s, t] ∧ H p = some (.ins C dx fs) ∧ Cls K C ∧ NoAttr K C "source" ∧ NoAttr K C "target" ∧ fs.length < 100 ∧
  Q .non (upd H p (.ins C dx (putF "target" t (putF "source" s fs))))
def spLoI (K : PySem.W.Frag) : Sp := fun vs H Q _ => ∃ (p C dx a : Addr) (fs : List (Str × V)) (xs : List V), vs = [.ref p, .ref a] ∧ H p = some (.ins C dx fs) ∧ Cls K C ∧ NoAttr K C "names" ∧ fs.length < 100 ∧ (SqL K H a xs ∨ SqT K H a xs) ∧
  ∀ l, H l = none → Q .non (upd (upd H l (.lst xs)) p (.ins C dx (putF "names" (.ref l) fs)))
def spChI (K : PySem.W.Frag) (CB : Addr) : Sp := fun vs H Q E => ∃ (p C dx a : Addr) (n s t : V) (xs : List V) (k : Option Str), vs = [.ref p, n, s, t, .ref a, kindV k] ∧ H p = some (.ins C dx []) ∧ Cls K C ∧ NoAttr K C "source" ∧ NoAttr K C "target" ∧ NoAttr K C "names" ∧ NoAttr K C "name" ∧ NoAttr K C "kind" ∧
  (SqL K H a xs ∨ SqT K H a xs) ∧ a ≠ p ∧ (¬ KindOk k → Rz E CB H [("kind", kindV k)]) ∧ (KindOk k → ∀ l, H l = none → Q .non (upd (upd H l (.lst xs)) p (.ins C dx (chF s t l n (kindV k)))))
theorem putF_ne {f g : Str} {v u : V} {r : List (Str × V)} (h : ¬ g = f) : putF f v ((g, u) :: r) = (g, u) :: putF f v r := if_neg h
theorem ch_put (s t : V) (l : Addr) (n k : V) : putF "kind" k (putF "name" n (putF "names" (.ref l) (putF "target" t (putF "source" s [])))) = chF s t l n k := by
  show putF "kind" k (putF "name" n (putF "names" (.ref l) (putF "target" t [(("source" : Str), s)]))) = _
  rw [putF_ne (by decide +kernel)]
  show putF "kind" k (putF "name" n (putF "names" (.ref l) [(("source" : Str), s), ("target", t)])) = _
  rw [putF_ne (by decide +kernel), putF_ne (by decide +kernel)]
  show putF "kind" k (putF "name" n [(("source" : Str), s), ("target", t), ("names", .ref l)]) = _
  rw [putF_ne (by decide +kernel), putF_ne (by decide +kernel), putF_ne (by decide +kernel)]
  show putF "kind" k [(("source" : Str), s), ("target", t), ("names", .ref l), ("name", n)] = _
  rw [putF_ne (by decide +kernel), putF_ne (by decide +kernel), putF_ne (by decide +kernel), putF_ne (by decide +kernel)]
  rfl
section
variable {P : Program} {w : World} {K : PySem.W.Frag} {mg : Str → Option Value} {base : Heap}
theorem in_kinds (k : Str) : inV (.str k) kindsV = decide (k ∈ kinds) := by
  unfold inV kindsV
  rw [List.any_map]
  rw [Bool.eq_iff_iff, List.any_eq_true, decide_eq_true_iff]
  constructor
  · rintro ⟨y, hy, e⟩
    have e' : eqV (.str y) (.str k) = true := e
    have : y = k := by simpa [eqV] using e'
    rw [← this]; exact hy
  · intro h
    exact ⟨k, h, by simp [eqV]⟩
structure CkT (K : PySem.W.Frag) (mg : Str → Option Value) (aK : Addr) : Prop where
  gK : mg "KINDS" = some (.ref aK)
  tK : ∀ H, SqT K H aK kindsV
theorem ok_ck {f aK CB : Addr} {fd : FuncData} (F : FnP K "check_kind" sCk f fd) (T : CkT K mg aK) (xBadKind : PySem.XEx.XCls P K CB ["kind"] (defArgs sIBadKind) (defBody sIBadKind) (defScope sIBadKind)) (gBadKind : mg "BadKind" = some (.ref CB)) : FnOk P w K mg base (L2.CX P w) 3 f fd ["kind"] (spCk CB) := by
  refine F.ok scCk (fun vs H Q E h => ?_) (fun cdv A outer s H vs Q E hr h => ?_)
  · obtain ⟨k, rfl, _⟩ := h
    rfl
  · obtain ⟨k, rfl, kY, kN⟩ := h
    have nd := scCk.nd
    refine ⟨_, pss_one (ps_if (PW.pt (pw_and (pt_cmpR op_notN (pv 0) pe_non (nomark _)) (pw_and1 (pt_cmpR op_notIn_seq (pv 0) (pe_glob (v := .ref aK) (by rfl) T.gK rfl) (by rfl))))) (pss_one (ps_raiseX rfl xBadKind iBadKind gBadKind hr (takes_of rfl rfl rfl rfl) (pa_cons (pv 0) pa_nil))) pss_nil), ?_⟩
    walk_at "go"
    cases k with
    | none =>
      refine iteF ?_
      exact kY trivial
    | some k =>
      refine iteT ?_
      refine ⟨_, rfl, aK, _, rfl, .inr (T.tK _), rfl, rfl, _, rfl, ?_⟩
      have ei : inV (kindV (some k)) kindsV = decide (k ∈ kinds) := in_kinds k
      by_cases c : k ∈ kinds
      · rw [ei, decide_eq_true c]
        exact kY c
      · rw [ei, decide_eq_false c]
        refine ⟨_, rfl, rfl, (fun e => by cases e), fun _ d hd => ?_⟩
        exact kN c d hd
theorem ok_enI {f : Addr} {fd : FuncData} (F : FnQ K "__init__" "Ends.__init__" sEnI f fd) : FnOk P w K mg base (L2.CX P w) 1 f fd ["self", "source", "target"] (spEnI K) := by
  refine F.ok scEnI (fun vs H Q E h => ?_) (fun cdv A outer s H vs Q E hr h => ?_)
  · obtain ⟨p, C, dx, fs, s, t, rfl, _⟩ := h
    rfl
  · obtain ⟨p, C, dx, fs, s, t, rfl, hp, cl, n1, n2, hz, kQ⟩ := h
    have nd := scEnI.nd
    refine ⟨_, (pss_cons (ps_fld (pv 0) (pv 1) rfl)
      (pss_one (ps_fld (pv 0) (pv 2) rfl))), ?_⟩
    refine ⟨_, rfl, _, rfl, p, C, dx, fs, rfl, hp, cl, n1, Nat.lt_trans hz (by decide), ?_⟩
    refine ⟨_, rfl, _, rfl, p, C, dx, _, rfl, upd_same, cl, n2, Nat.lt_of_le_of_lt (putF_len _ _ _) (by omega), ?_⟩
    rw [upd_upd]
    exact kQ
theorem ok_loI {f : Addr} {fd : FuncData} (F : FnQ K "__init__" "Load.__init__" sLoI f fd) (T : Bi mg) (hL : mg "list" = none) : FnOk P w K mg base (L2.CX P w) 1 f fd ["self", "items"] (spLoI K) := by
  refine F.ok scLoI (fun vs H Q E h => ?_) (fun cdv A outer s H vs Q E hr h => ?_)
  · obtain ⟨p, C, dx, a, fs, xs, rfl, _⟩ := h
    rfl
  · obtain ⟨p, C, dx, a, fs, xs, rfl, hp, cl, n1, hz, hS, kQ⟩ := h
    have nd := scLoI.nd
    refine ⟨_, pss_one (ps_fld (pv 0) (pe_callTy call_list_of (by rfl) hL (by decide +kernel) (pa_cons (pv 1) pa_nil)) rfl), ?_⟩
    refine ⟨_, rfl, a, xs, rfl, hS, fun l hl => ?_⟩
    refine ⟨_, rfl, p, C, dx, fs, rfl, (by rw [upd_ne (ne_of_none hp hl)]; exact hp), cl, n1, Nat.lt_trans hz (by decide), ?_⟩
    exact kQ l hl
theorem ok_chI {f CB : Addr} {fd : FuncData} (F : FnQ K "__init__" "Channel.__init__" sChI f fd) (g_ck : Cal P w K mg base 3 "check_kind" ["kind"] (spCk CB)) (g_en : CFn P w K mg base 1 "Ends" "__init__" ["self", "source", "target"] (spEnI K)) (g_lo : CFn P w K mg base 1 "Load" "__init__" ["self", "items"] (spLoI K)) :
    FnOk P w K mg base (L2.CX P w) 4 f fd ["self", "name", "source", "target", "items", "late"] (spChI K CB) := by
  refine F.ok scChI (fun vs H Q E h => ?_) (fun cdv A outer s H vs Q E hr h => ?_)
  · obtain ⟨p, C, dx, a, n, s, t, xs, k, rfl, _⟩ := h
    rfl
  · obtain ⟨p, C, dx, a, n, s, t, xs, k, rfl, hp, cl, n1, n2, n3, n4, n5, hS, nap, kN, kY⟩ := h
    have nd := scChI.nd
    refine ⟨_, pss_cons (ps_expr (pe_cal g_ck hr (takes_of rfl rfl rfl rfl) (pa_cons (pv 5) pa_nil))) (pss_cons (ps_expr (pe_cfn g_en hr takes0 (pa_cons (pv 0) (pa_cons (pv 2) (pa_cons (pv 3) pa_nil)))))
      (pss_cons (ps_expr (pe_cfn g_lo hr takes0 (pa_cons (pv 0) (pa_cons (pv 4) pa_nil)))) (pss_cons (ps_fld (pv 0) (pv 1) rfl) (pss_one (ps_fld (pv 0) (pv 5) rfl))))), ?_⟩
    refine ⟨_, rfl, k, rfl, fun hk => ?_, fun hk => kN hk⟩
    refine ⟨_, rfl, _, rfl, _, rfl, p, C, dx, [], s, t, rfl, hp, cl, n1, n2, by decide, ?_⟩
    have hS' : ∀ o, SqL K (upd H p o) a xs ∨ SqT K (upd H p o) a xs := fun o => by
      rcases hS with hS | hS
      · exact .inl (sqL_upd nap hS)
      · exact .inr (sqT_upd nap hS)
    refine ⟨_, rfl, _, rfl, p, C, dx, a, _, xs, rfl, upd_same, cl, n3, Nat.lt_of_le_of_lt (putF_le (putF_le (Nat.le_refl 0))) (by decide), hS' _, fun l hl => ?_⟩
    have hlp : l ≠ p := fun e => by rw [e, upd_same] at hl; cases hl
    have hl0 : H l = none := by rw [upd_ne hlp] at hl; exact hl
    refine ⟨_, rfl, _, rfl, p, C, dx, _, rfl, upd_same, cl, n4, Nat.lt_of_le_of_lt (putF_le (putF_le (putF_le (Nat.le_refl 0)))) (by decide), ?_⟩
    refine ⟨_, rfl, _, rfl, p, C, dx, _, rfl, upd_same, cl, n5, Nat.lt_of_le_of_lt (putF_le (putF_le (putF_le (putF_le (Nat.le_refl 0))))) (by decide), ?_⟩
    have e : upd (upd (upd (upd (upd H p (.ins C dx (putF "target" t (putF "source" s [])))) l (.lst xs)) p (.ins C dx (putF "names" (.ref l) (putF "target" t (putF "source" s []))))) p (.ins C dx (putF "name" n (putF "names" (.ref l) (putF "target" t (putF "source" s []))))))
        p (.ins C dx (putF "kind" (kindV k) (putF "name" n (putF "names" (.ref l) (putF "target" t (putF "source" s []))))))
        = upd (upd H l (.lst xs)) p (.ins C dx (chF s t l n (kindV k))) := by
      rw [ch_put, upd_upd, upd_upd]
      funext b
      by_cases hb : b = p
      · rw [hb, upd_same, upd_same]
      · rw [upd_ne hb, upd_ne hb]
        by_cases hb2 : b = l
        · rw [hb2, upd_same, upd_same]
        · rw [upd_ne hb2, upd_ne hb2, upd_ne hb]
    have z := kY hk l hl0
    rw [← e] at z
    exact z
end

/-! ### checked_sites, check_channel, what is not valid too -/
theorem scCs : FnScope ["names", "sites", "name"] ["names"] (defScope sCs) := ⟨rfl, rfl, rfl, by decide +kernel, rfl, by decide +kernel, by decide +kernel⟩
def spCs (K : PySem.W.Frag) (X : XA) : Sp := fun vs H Q E => ∃ (a : Addr) (b : Bool) (xs : List Str), vs = [.ref a] ∧ SqX b K H a (xs.map V.str) ∧ (∀ x ∈ xs, x.length ≤ sizeLine) ∧ xs.length ≤ 1000 ∧
  (∀ e, chkSites xs = some e → ∀ H', Same H H' → e.rz X E H') ∧ (chkSites xs = none → ∀ l, H l = none → Q (.ref l) (upd H l (.lst (xs.map V.str))))
theorem scCc : FnScope ["row", "sites", "items", "taken", "name", "source", "target", "load", "late", "at", "item"] ["row", "sites", "items", "taken"] (defScope sCc) := ⟨rfl, rfl, rfl, by decide +kernel, rfl, by decide +kernel, by decide +kernel⟩
def spCc (K : PySem.W.Frag) (X : XA) : Sp := fun vs H Q E => ∃ (r S I T a : Addr) (l : Ln) (Ps Pi Pt : Str → Bool), vs = [.ref r, .ref S, .ref I, .ref T] ∧ H r = some (.tup (rwV l a)) ∧ SqL K H a (l.it.map V.str) ∧ InA K H S Ps ∧ InA K H I Pi ∧ InA K H T Pt ∧
  l.nm.length ≤ sizeLine ∧ l.it.length ≤ 1000 ∧ (∀ e, chkCh Ps Pi Pt l = some e → ∀ H', Same H H' → e.rz X E H') ∧ (chkCh Ps Pi Pt l = none → ∀ H', Same H H' → Q .non H')
theorem InA.same {K : PySem.W.Frag} {H H' : Hp} {a : Addr} {P : Str → Bool} (s : Same H H') (h : InA K H a P) : InA K H' a P := by
  rcases h with ⟨l, hl, e⟩ | ⟨kvs, hk, e⟩
  · exact .inl ⟨l, s.seq hl, e⟩
  · refine .inr ⟨kvs, ?_, e⟩
    rcases hk with hk | ⟨o, hk⟩
    · exact .inl (s _ _ hk)
    · exact .inr ⟨o, s _ _ hk⟩
theorem nm_size {x : Str} (h : NameOk x) : x.length ≤ sizeLine := by
  have e : x.length = x.cps.toList.length := by rw [Array.length_toList]; rfl
  have := h.2.1
  exact Nat.le_of_lt (size_ok (m := 1000) (by omega) (by decide))
section
variable {P : Program} {w : World} {K : PySem.W.Frag} {mg : Str → Option Value} {base : Heap}
theorem ok_cs {f : Addr} {X : XA} {fd : FuncData} (F : FnP K "checked_sites" sCs f fd) (T : Bj mg) (g_check_name : Cal P w K mg base 1 "check_name" ["name", "taken"] (spCn K X.bn X.tk)) : FnOk P w K mg base (L2.CX P w) 2 f fd ["names"] (spCs K X) := by
  refine F.ok scCs (fun vs H Q E h => ?_) (fun cdv A outer s H vs Q E hr h => ?_)
  · obtain ⟨a, b, xs, rfl, _⟩ := h
    rfl
  · obtain ⟨a, b, xs, rfl, ha, hxl, hz, kE, kQ⟩ := h
    have nd := scCs.nd
    refine ⟨_, (pss_cons (ps_set (i := 1) nd rfl (Or.inl rfl) (pe_lst pa_nil))
      (pss_cons (ps_for (passes_of rfl) rfl (pi_seq (pv 0)) (pg_name (i := 2) nd rfl (Or.inl rfl)) (pss_cons (ps_expr (pe_cal g_check_name hr (takes_of rfl rfl rfl rfl) (pa_cons (pv 2) (pa_cons (pv 1) pa_nil))))
        (pss_one (ps_expr (pe_bm PySem.F.plainAttrs_list PySem.F.slot_list_append PySem.F.type_list_append mt_append (pv 1) (pa_cons (pv 2) pa_nil))))))
      (pss_one (ps_ret (pv 1))))), ?_⟩
    walk_at "go"
    refine fun L nL => ?_
    have s1 : ∀ {o : HO}, Same H (upd H L o) := (Same.refl H).new nL
    refine ⟨_, rfl, a, b, rfl, ⟨_, Same.seqX s1 ha⟩, ?_⟩
    refine for_it (walk_x (b := b) (K := K) (a := a) (xs := xs.map V.str)) (fun i σ H1 => ∃ u, σ = [some (.ref a), some (.ref L), u] ∧ H1 = upd H L (.lst ((xs.take i).map V.str)) ∧ ∀ (j : Nat) y, j < i → xs[j]? = some y → chkName (fun z => decide (z ∈ [] ++ xs.take j)) y = none) ⟨none, rfl, rfl, fun j y h => absurd h (Nat.not_lt_zero _)⟩ (fun i σ H1 _ ⟨_, _, e, _⟩ => by rw [e]; exact Same.seqX s1 ha) ?_ ?_
    · rintro i y σ H1 H2 hi ⟨u, rfl, rfl, hb⟩ ⟨rfl, hy⟩
      obtain ⟨x, hx, rfl⟩ := at_map hy
      have eT := take_snoc hx
      rw [List.length_map] at hi
      refine ⟨_, rfl, _, rfl, x, L, fun z => decide (z ∈ xs.take i), rfl, .inl ⟨_, SqL.of upd_same, fun _ => rfl⟩, hxl x (List.mem_of_getElem? hx), fun o1 o2 => ?_, fun h => kE (.badName x) (firstE_at hb hx (by unfold chkName; rw [if_neg h])) _ s1, fun h h' => kE (.taken x) (firstE_at hb hx (by unfold chkName; rw [if_pos h]; exact if_pos h')) _ s1⟩
      refine ⟨_, rfl, .inl ⟨rfl, _, SqL.of upd_same⟩, _, rfl, L, _, _, rfl, rfl, upd_same, ?_, ?_⟩
      · rw [List.length_map, List.length_take]
        exact size_ok (m := 10000) (by omega) (by decide)
      · refine ⟨_, rfl, ?_, fun j y hj hjy => ?_⟩
        · rw [upd_upd, eT, List.map_append]
          rfl
        · by_cases q : j < i
          · exact hb j y q hjy
          · have : j = i := by omega
            subst this
            rw [hx] at hjy
            cases hjy
            exact chkName_ok o1 o2
    · rintro σ H1 ⟨u, rfl, rfl, hb⟩
      rw [List.length_map, List.take_length]
      walk_at "go"
      refine kQ (firstE_none fun j y hj => hb j y ?_ hj) L nL
      rw [List.length_map]
      exact (List.getElem?_eq_some_iff.mp hj).1
theorem ok_cc {f : Addr} {X : XA} {fd : FuncData} (F : FnP K "check_channel" sCc f fd) (T : Bj mg) (g_check_name : Cal P w K mg base 1 "check_name" ["name", "taken"] (spCn K X.bn X.tk)) (g_check_known : Cal P w K mg base 1 "check_known" ["name", "known"] (spKn K X.un))
    (g_check_kind : Cal P w K mg base 3 "check_kind" ["kind"] (spCk X.bk)) (xBadChannel : PySem.XEx.XCls P K X.bc ["name"] (defArgs sIBadChannel) (defBody sIBadChannel) (defScope sIBadChannel)) (gBadChannel : mg "BadChannel" = some (.ref X.bc)) : FnOk P w K mg base (L2.CX P w) 4 f fd ["row", "sites", "items", "taken"] (spCc K X) := by
  refine F.ok scCc (fun vs H Q E h => ?_) (fun cdv A outer s H vs Q E hr h => ?_)
  · obtain ⟨r, S, I, T, a, l, Ps, Pi, Pt, rfl, _⟩ := h
    rfl
  · obtain ⟨r, S, I, Tk, a, l, Ps, Pi, Pt, rfl, hr1, ha, hS, hI, hT, n1, n8, kE, kQ⟩ := h
    have nd := scCc.nd
    refine ⟨_, (pss_cons (ps_asg (pv 0) (pg_tup rfl (pgs_cons (pg_name (i := 4) nd rfl (Or.inl rfl)) (pgs_cons (pg_name (i := 5) nd rfl (Or.inl rfl)) (pgs_cons (pg_name (i := 6) nd rfl (Or.inl rfl)) (pgs_cons (pg_name (i := 7) nd rfl (Or.inl rfl)) (pgs_cons (pg_name (i := 8) nd rfl (Or.inl rfl)) pgs_nil)))))))
      (pss_cons (ps_expr (pe_cal g_check_name hr (takes_of rfl rfl rfl rfl) (pa_cons (pv 4) (pa_cons (pv 3) pa_nil))))
      (pss_cons (ps_expr (pe_cal g_check_known hr (takes_of rfl rfl rfl rfl) (pa_cons (pv 5) (pa_cons (pv 1) pa_nil))))
      (pss_cons (ps_expr (pe_cal g_check_known hr (takes_of rfl rfl rfl rfl) (pa_cons (pv 6) (pa_cons (pv 1) pa_nil))))
      (pss_cons (ps_if (PW.pt (pw_or (pt_cmpR op_eq (pv 5) (pv 6) (nomark _)) (pw_or1 (pt_cmpR op_eq (pe_callB call_len_seq (by rfl) T.len PySem.boot_len (pa_cons (pv 7) pa_nil)) pe_int (nomark _))))) (pss_one (ps_raiseX rfl xBadChannel iBadChannel gBadChannel hr (takes_of rfl rfl rfl rfl) (pa_cons (pv 4) pa_nil))) pss_nil)
      (pss_cons (ps_for (passes_of rfl) rfl (pi_enum (by rfl) T.enumerate (pa_cons (pv 7) pa_nil)) (pg_tup rfl (pgs_cons (pg_name (i := 9) nd rfl (Or.inl rfl)) (pgs_cons (pg_name (i := 10) nd rfl (Or.inl rfl)) pgs_nil))) (pss_one (ps_if (pt_cmpR op_in_seq (pv 10) (pe_slice sl_list (pv 7) po_none (po_some (pv 9))) (by rfl)) (pss_one (ps_raiseX rfl xBadChannel iBadChannel gBadChannel hr (takes_of rfl rfl rfl rfl) (pa_cons (pv 4) pa_nil))) pss_nil)))
      (pss_cons (ps_for (passes_of rfl) rfl (pi_list (pv 7)) (pg_name (i := 10) nd rfl (Or.inl rfl)) (pss_one (ps_expr (pe_cal g_check_known hr (takes_of rfl rfl rfl rfl) (pa_cons (pv 10) (pa_cons (pv 2) pa_nil))))))
      (pss_one (ps_expr (pe_cal g_check_kind hr (takes_of rfl rfl rfl rfl) (pa_cons (pv 8) pa_nil))))))))))), ?_⟩
    refine ⟨_, rfl, r, _, rfl, .inl (.inl hr1), rfl, _, _, rfl, _, _, rfl, _, _, rfl, _, _, rfl, _, _, rfl, rfl, ?_⟩
    have sH := Same.refl H
    refine ⟨_, rfl, _, rfl, l.nm, Tk, Pt, rfl, hT, n1, fun o1 o2 => ?_, fun h => kE (.badName l.nm) (by unfold chkCh chkName; rw [if_neg h]; rfl) H sH, fun h h' => kE (.taken l.nm) (by unfold chkCh chkName; rw [if_pos h, if_pos h']; rfl) H sH⟩
    have c1 := chkName_ok o1 o2
    refine ⟨_, rfl, _, rfl, l.src, S, Ps, rfl, hS, fun o3 => ?_, fun h => kE (.unknown l.src) (by unfold chkCh; rw [c1]; unfold chkKnown; rw [if_neg (by rw [h]; decide)]; rfl) H sH⟩
    have c2 := chkKnown_ok o3
    refine ⟨_, rfl, _, rfl, l.tgt, S, Ps, rfl, hS, fun o4 => ?_, fun h => kE (.unknown l.tgt) (by unfold chkCh; rw [c1, c2]; unfold chkKnown; rw [if_neg (by rw [h]; decide)]; rfl) H sH⟩
    have c3 := chkKnown_ok o4
    refine ⟨_, rfl, _, rfl, rfl, _, rfl, ?_⟩
    by_cases n5 : l.src = l.tgt
    · rw [decide_eq_true (congrArg V.str n5)]
      refine iteT ?_
      exact ⟨_, rfl, rfl, (fun e => by cases e), fun _ d hd => kE (.badChannel l.nm) (by unfold chkCh; rw [c1, c2, c3]; unfold chkEnds; rw [if_pos (.inl n5)]; rfl) H sH d hd⟩
    rw [decide_eq_false (fun e => n5 (V.str.inj e))]
    refine iteF ?_
    refine ⟨_, rfl, a, _, rfl, .inl ha, rfl, _, rfl, ?_⟩
    by_cases n6 : l.it = []
    · rw [decide_eq_true (by rw [n6]; rfl)]
      refine iteT ?_
      exact ⟨_, rfl, rfl, (fun e => by cases e), fun _ d hd => kE (.badChannel l.nm) (by unfold chkCh; rw [c1, c2, c3]; unfold chkEnds; rw [if_pos (.inr n6)]; rfl) H sH d hd⟩
    have nl : 0 < l.it.length := List.length_pos_iff.mpr n6
    rw [decide_eq_false (fun e => by have := V.int.inj e; rw [List.length_map] at this; omega)]
    refine iteF ?_
    have c4 := chkEnds_ok n5 n6
    have h0 : ∀ {H' : Hp}, Same H H' → SqL K H' a (l.it.map V.str) := fun s => s.seq ha
    refine ⟨_, rfl, a, _, rfl, ha, ?_⟩
    refine for_it (walk_enum (K := K) (a := a) (xs := l.it.map V.str)) (fun n σ H1 => ∃ u9 u10, σ = [some (.ref r), some (.ref S), some (.ref I), some (.ref Tk), some (.str l.nm), some (.str l.src), some (.str l.tgt), some (.ref a), some (kindV l.kd), u9, u10] ∧ Same H H1 ∧ (l.it.take n).Nodup)
      ⟨none, none, rfl, Same.refl _, by rw [List.take_zero]; exact List.nodup_nil⟩ (fun n σ H1 _ ⟨_, _, _, s, _⟩ => h0 s) ?_ ?_
    · rintro n x σ H1 H2 hn ⟨u9, u10, rfl, s1, nn⟩ ⟨T1, x1, v, rfl, nT, rfl, hi, hv⟩
      cases hi
      obtain ⟨i, hit, rfl⟩ := at_map hv
      have s2 := s1.new (o := .tup [V.int (n : Nat), .str i]) nT
      refine ⟨T1, _, rfl, .inl (.inl upd_same), rfl, _, _, rfl, _, _, rfl, rfl, ?_⟩
      refine ⟨_, rfl, ?_⟩
      walk_at "go"
      refine ⟨a, _, rfl, h0 s2, fun q nq => ?_⟩
      have s3 := s2.new (o := .lst (cutV (l.it.map V.str) none (some (n : Int)))) nq
      rw [List.length_map] at hn
      have ec : cutV (l.it.map V.str) none (some (n : Int)) = (l.it.take n).map V.str := by
        rw [cut_to _ (by rw [List.length_map]; omega), List.map_take]
      rw [ec] at s3 ⊢
      refine ⟨q, _, rfl, .inl (SqL.of upd_same), rfl, flat_strs _, _, rfl, ?_⟩
      refine ite2 (fun c => ?_) (fun c => ?_)
      · have hm := of_decide_eq_true ((inV_strs i (l.it.take n)).symm.trans c)
        have nd' : ¬ l.it.Nodup := fun h => by
          have := List.nodup_append.mp (by rw [← take_snoc hit]; exact h.sublist (List.take_sublist _ _) : (l.it.take n ++ [i]).Nodup)
          exact this.2.2 i hm i (List.mem_singleton.mpr rfl) rfl
        exact ⟨_, rfl, rfl, (fun e => by cases e), fun _ d hd => kE (.badChannel l.nm) (by unfold chkCh; rw [c1, c2, c3, c4]; unfold chkDup; rw [if_neg nd']; rfl) _ s3 d hd⟩
      · refine ⟨_, _, rfl, s3, ?_⟩
        rw [take_snoc hit]
        refine List.nodup_append.mpr ⟨nn, List.pairwise_singleton _ _, fun x hx y hy e => c ((inV_strs i (l.it.take n)).trans (decide_eq_true ?_))⟩
        rw [List.mem_singleton.mp hy] at e
        rw [← e]
        exact hx
    · rintro σ H1 ⟨u9, u10, rfl, s1, nn⟩
      rw [List.length_map, List.take_length] at nn
      have c5 := chkDup_ok nn
      refine ⟨_, rfl, a, rfl, ⟨_, h0 s1⟩, ?_⟩
      refine for_list (K := K) (a := a) (xs := l.it.map V.str) (fun n σ H2 => ∃ u9 u10, σ = [some (.ref r), some (.ref S), some (.ref I), some (.ref Tk), some (.str l.nm), some (.str l.src), some (.str l.tgt), some (.ref a), some (kindV l.kd), u9, u10] ∧ H2 = H1 ∧ ∀ (j : Nat) y, j < n → l.it[j]? = some y → chkKnown Pi y = none)
        ⟨_, _, rfl, rfl, fun j y h => absurd h (Nat.not_lt_zero _)⟩ (fun n σ H2 _ ⟨_, _, _, e, _⟩ => by rw [e]; exact h0 s1) ?_ ?_
      · rintro n y σ H2 hn ⟨u9, u10, rfl, rfl, hb⟩
        obtain ⟨i, hit, rfl⟩ := at_map hn
        refine ⟨_, rfl, _, rfl, i, I, Pi, rfl, hI.same s1, fun o => ⟨_, _, rfl, rfl, fun j y hj hy => ?_⟩, fun h => kE (.unknown i) (by unfold chkCh; rw [c1, c2, c3, c4, c5]; unfold chkItems; rw [firstE_at (f := fun _ i => chkKnown Pi i) hb hit (e := .unknown i) (by unfold chkKnown; rw [if_neg (by rw [h]; decide)])]; rfl) _ s1⟩
        by_cases q : j < n
        · exact hb j y q hy
        · have : j = n := by omega
          subst this
          rw [hit] at hy
          cases hy
          exact chkKnown_ok o
      · rintro σ H2 ⟨u9, u10, rfl, rfl, hb⟩
        have c6 : chkItems Pi l.it = none := firstE_none fun j y hj => hb j y (by rw [List.length_map]; exact (List.getElem?_eq_some_iff.mp hj).1) hj
        refine ⟨_, rfl, l.kd, rfl, fun o => kQ (by unfold chkCh; rw [c1, c2, c3, c4, c5, c6, chkKind_ok o]; rfl) _ s1, fun h => ?_⟩
        cases ek : l.kd with
        | none => rw [ek] at h; exact absurd trivial h
        | some k =>
          rw [ek] at h
          exact kE (.badKind k) (by unfold chkCh; rw [c1, c2, c3, c4, c5, c6, ek]; exact if_neg h) _ s1
end

/-! ### homes_of, way_back, Item (no source need hold) -/
theorem scItI : FnScope ["self", "owner", "name", "seat"] ["self", "owner", "name", "seat"] (defScope sItI) := ⟨rfl, rfl, rfl, by decide +kernel, rfl, by decide +kernel, by decide +kernel⟩
def spItI (K : PySem.W.Frag) (CI : Addr) : Sp := fun vs H Q _ => ∃ (x p dx : Addr) (n s : Str), vs = [.ref x, .ref p, .str n, .str s] ∧ H x = some (.ins CI dx []) ∧ Cls K CI ∧ NoAttr K CI "owner" ∧ NoAttr K CI "name" ∧ NoAttr K CI "seat" ∧ Q .non (upd H x (.ins CI dx (seatF p ⟨n, s, x, dx⟩)))
theorem scHm : FnScope ["seats", "name"] ["seats"] (defScope sHm) := ⟨rfl, rfl, rfl, by decide +kernel, rfl, by decide +kernel, by decide +kernel⟩
def spHm (K : PySem.W.Frag) (CI : Addr) : Sp := fun vs H Q _ => ∃ (DS p : Addr) (ss : List Seat), vs = [.ref DS] ∧ H DS = some (.dK (kvS ss)) ∧ (∀ s ∈ ss, H s.a = some (.ins CI s.dx (seatF p s))) ∧ (ss.map (·.nm)).Nodup ∧ Cls K CI ∧ NoAttr K CI "seat" ∧ ss.length ≤ 1000 ∧
  ∀ D, H D = none → Q (.ref D) (upd H D (.dK (kvH (ss.map fun s => (s.nm, s.st)))))
theorem scWb : FnScope ["homes", "bringers", "item", "site", "way", "line"] ["homes", "bringers", "item", "site"] (defScope sWb) := ⟨rfl, rfl, rfl, by decide +kernel, rfl, by decide +kernel, by decide +kernel⟩
def spWb (K : PySem.W.Frag) (CC : Addr) : Sp := fun vs H Q _ => ∃ (Dh Db : Addr) (i s hm : Str) (g : Gd) (cs : List Cn) (kvb : List (List L2.Key × V)), vs = [.ref Dh, .ref Db, .str i, .str s] ∧ H Dh = some (.dK (kvH g.homes)) ∧ H Db = some (.dT kvb) ∧ BrA kvb cs ∧ GdPre g ∧ g.lines = cs.map (·.l) ∧ (i, hm) ∈ g.homes ∧
  (∀ c ∈ cs, H c.a = some (.ins CC c.dx (cnF c))) ∧ Cls K CC ∧ NoAttr K CC "name" ∧ NoAttr K CC "source" ∧ g.lines.length ≤ 1000 ∧
  (∀ v, g.ways i s = some v → ∀ L H', H L = none → Same H H' → H' L = some (.lst (v.map V.str)) → Q (.ref L) H') ∧ (g.ways i s = none → ∀ H', Same H H' → Q .non H')
section
variable {P : Program} {w : World} {K : PySem.W.Frag} {mg : Str → Option Value} {base : Heap}
theorem ok_itI {f CI : Addr} {fd : FuncData} (F : FnQ K "__init__" "Item.__init__" sItI f fd) : FnOk P w K mg base (L2.CX P w) 1 f fd ["self", "owner", "name", "seat"] (spItI K CI) := by
  refine F.ok scItI (fun vs H Q E h => ?_) (fun cdv A outer s H vs Q E hr h => ?_)
  · obtain ⟨x, p, dx, n, s, rfl, _⟩ := h
    rfl
  · obtain ⟨x, p, dx, n, s, rfl, hx, cl, n1, n2, n3, kQ⟩ := h
    have nd := scItI.nd
    refine ⟨_, (pss_cons (ps_fld (pv 0) (pv 1) rfl)
      (pss_cons (ps_fld (pv 0) (pv 2) rfl)
      (pss_one (ps_fld (pv 0) (pv 3) rfl)))), ?_⟩
    refine ⟨_, rfl, _, rfl, x, CI, dx, [], rfl, hx, cl, n1, by decide, ?_⟩
    refine ⟨_, rfl, _, rfl, x, CI, dx, _, rfl, upd_same, cl, n2, Nat.lt_of_le_of_lt (putF_len _ _ _) (by decide), ?_⟩
    refine ⟨_, rfl, _, rfl, x, CI, dx, _, rfl, upd_same, cl, n3, Nat.lt_of_le_of_lt (putF_len _ _ _) (Nat.lt_of_le_of_lt (Nat.succ_le_succ (putF_len _ _ _)) (by decide)), ?_⟩
    rw [upd_upd, upd_upd]
    have e : putF "seat" (V.str s) (putF "name" (V.str n) (putF "owner" (V.ref p) [])) = seatF p ⟨n, s, x, dx⟩ := by
      show putF "seat" (V.str s) (putF "name" (V.str n) [(("owner" : Str), V.ref p)]) = _
      rw [putF_ne (by decide +kernel)]
      show putF "seat" (V.str s) [(("owner" : Str), V.ref p), ("name", V.str n)] = _
      rw [putF_ne (by decide +kernel), putF_ne (by decide +kernel)]
      rfl
    rw [e]
    exact kQ
theorem ok_hm {f CI : Addr} {fd : FuncData} (F : FnP K "homes_of" sHm f fd) (T : Bj mg) : FnOk P w K mg base (L2.CX P w) 1 f fd ["seats"] (spHm K CI) := by
  refine F.ok scHm (fun vs H Q E h => ?_) (fun cdv A outer s H vs Q E hr h => ?_)
  · obtain ⟨DS, p, ss, rfl, _⟩ := h
    rfl
  · obtain ⟨DS, p, ss, rfl, hD, hs, hnd, cl, n1, hl, kQ⟩ := h
    have nd := scHm.nd
    have hu := hu_of hr
    refine ⟨_, (pss_one (ps_ret (pe_lock (pe_dc (own := [("name", 1)]) (g := gName 1) (tt := tYes) (by rfl) nd (pi_keys (pv 0)) (blkOk_by (own := [("name", 1)]) (N := ["seats", "name"]) (sc := defScope sHm) (by decide +kernel)) (fun _ _ _ _ _ => (pg_name (i := 1) nd rfl (Or.inl rfl))) (fun _ _ _ _ _ => pts_nil) (fun _ _ _ _ _ => (pv 1)) (fun _ _ _ _ _ => (show PE _ _ (tFld K _ _) from (pe_fld (pe_dget hu (pv 0) (pv 1) (fun _ _ => rfl)) rfl))))))), ?_⟩
    refine ⟨DS, _, hD, trivial, fun od => ?_⟩
    refine ⟨_, rfl, DS, od, rfl, .inl ⟨kvS ss, upd_same, fun D nD => ?_⟩⟩
    have dD : DS ≠ D := fun e => by rw [← e, upd_same] at nD; cases nD
    have hD0 : H D = none := by rw [upd_ne dD.symm] at nD; exact nD
    have kl : (kvS ss).length = ss.length := by unfold kvS; rw [List.length_map]
    have fz : ∀ o, upd (upd H DS (.frz od (.dK (kvS ss)))) D o DS = some (.frz od (.dK (kvS ss))) := fun o => by rw [upd_ne dD, upd_same]
    refine dc_any (n := ss.length) (fun i H1 => H1 = upd (upd H DS (.frz od (.dK (kvS ss)))) D (.dK (kvH ((ss.take i).map fun s => (s.nm, s.st))))) rfl (fun i H1 hi e => ⟨by rw [e]; exact fz _, by rw [kl]; exact hi⟩) (fun H1 e => ⟨by rw [e]; exact fz _, by rw [kl]; exact Nat.le_refl _⟩) ?_ ?_
    · rintro i y H1 H2 hi rfl ⟨rfl, k, v, hk, rfl⟩
      obtain ⟨s, hsi⟩ : ∃ s, ss[i]? = some s := ⟨_, List.getElem?_eq_getElem hi⟩
      have e1 : (kvS ss)[i]? = some (Sum.inr s.nm, V.ref s.a) := by unfold kvS; rw [List.getElem?_map, hsi]; rfl
      rw [e1] at hk
      cases hk
      have sm := List.mem_of_getElem? hsi
      have sa := hs s sm
      have na : s.a ≠ DS := fun e => by rw [e, hD] at sa; cases sa
      refine ⟨rfl, tYes_if ⟨_, rfl, ?_⟩⟩
      refine ⟨_, rfl, _, rfl, DS, .ref s.a, rfl, .inl ⟨kvS ss, Sum.inr s.nm, .inr ⟨od, fz _⟩, rfl, (valV_map_in (f := fun s : Seat => s.nm) (v := fun s : Seat => V.ref s.a) hnd sm).symm⟩, s.a, CI, s.dx, _, .str s.st, rfl, (by rw [upd_ne (ne_of_none sa hD0), upd_ne na]; exact sa), cl, n1, rfl, ?_⟩
      refine ⟨_, Sum.inr s.nm, rfl, upd_same, ?_, ?_⟩
      · unfold kvH
        rw [List.length_map, List.length_map, List.length_take]
        exact size_ok (m := 10000) (by omega) (by decide)
      · rw [upd_upd, putK_new]
        · rw [take_snoc hsi, List.map_append]
          unfold kvH
          rw [List.map_append]
          rfl
        · unfold kvH
          rw [List.map_map]
          refine valV_map_out (f := fun s : Seat => s.nm) (v := fun s : Seat => V.str s.st) ?_
          intro h
          have := List.nodup_append.mp (by rw [← List.map_singleton (f := fun s : Seat => s.nm), ← List.map_append, ← take_snoc hsi]; exact hnd.sublist ((List.take_sublist _ _).map _) : ((ss.take i).map (fun s => s.nm) ++ [s.nm]).Nodup)
          exact this.2.2 s.nm h s.nm (List.mem_singleton.mpr rfl) rfl
    · rintro H1 rfl
      refine ⟨fz _, ?_⟩
      rw [List.take_length, upd_swap dD.symm, upd_upd, upd_id hD]
      exact kQ D hD0
theorem ok_wb {f CC : Addr} {fd : FuncData} (F : FnP K "way_back" sWb f fd) (T : Bj mg) : FnOk P w K mg base (L2.CX P w) 1 f fd ["homes", "bringers", "item", "site"] (spWb K CC) := by
  refine F.ok scWb (fun vs H Q E h => ?_) (fun cdv A outer s H vs Q E hr h => ?_)
  · obtain ⟨Dh, Db, i, s, hm, g, cs, kvb, rfl, _⟩ := h
    rfl
  · obtain ⟨Dh, Db, i, s, hm, g, cs, kvb, rfl, hDh, hDb, br, ok, hgl, hih, hcs, cl, n1, n2, hz, kS, kN⟩ := h
    have nd := scWb.nd
    have hu := hu_of hr
    refine ⟨_, (pss_cons (ps_set (i := 4) nd rfl (Or.inl rfl) (pe_lst pa_nil))
      (pss_cons (ps_while (passes_of rfl) (pt_cmpR op_ne (pv 3) (pe_dget hu (pv 0) (pv 2) (fun _ _ => rfl)) (nomark _)) (pss_cons (ps_set (i := 5) nd rfl (Or.inl rfl) (pe_dget1 hu (pv 1) (pe_tup (pa_cons (pv 2) (pa_cons (pv 3) pa_nil))) ⟨rfl, by rfl, by rfl, rfl⟩))
        (pss_cons (ps_if (PW.pt (pw_or (pt_cmpR op_isN (pv 5) pe_non (nomark _)) (pw_or1 (pt_cmpR op_in_seq (pe_fld (pv 5) rfl) (pv 4) (by rfl))))) (pss_one (ps_ret pe_non)) pss_nil)
        (pss_cons (ps_expr (pe_bm PySem.F.plainAttrs_list PySem.F.slot_list_insert PySem.F.type_list_insert mt_insert (pv 4) (pa_cons pe_int (pa_cons (pe_fld (pv 5) rfl) pa_nil))))
        (pss_one (ps_set (i := 3) nd rfl (Or.inl rfl) (pe_fld (pv 5) rfl)))))))
      (pss_one (ps_ret (pv 4))))), ?_⟩
    have hval : valV (kvH g.homes) (Sum.inr i) = some (.str hm) := valV_map_in (f := fun h : Str × Str => h.1) (v := fun h : Str × Str => V.str h.2) ok.hN hih
    walk_at "go"
    refine fun L nL => ?_
    have x1 := (Hx.refl H).push (o := .lst (([] : List Str).map V.str)) nL
    have kp : ∀ {H' : Hp} {o : HO}, Hx H H' [(L, o)] → Same H H' := fun x => x.keep (by simp [nL])
    have lmem : ∀ c ∈ cs, c.l ∈ g.lines := fun c hc => by rw [hgl]; exact List.mem_map.mpr ⟨c, hc, rfl⟩
    refine ⟨fun m σ H1 => ∃ (t : Str) (way : List Str) (u5 : Option V), σ = [some (.ref Dh), some (.ref Db), some (.str i), some (.str t), some (.ref L), u5] ∧ Hx H H1 [(L, .lst (way.map V.str))] ∧
      g.ways i s = (g.ways i t).map (· ++ way) ∧ way.Nodup ∧ (∀ x ∈ way, x ∈ g.lines.map (·.nm)) ∧ m = g.lines.length - way.length, ?_, ?_⟩
    · exact ⟨g.lines.length, s, [], none, rfl, x1, by cases g.ways i s <;> simp, List.nodup_nil, fun x hx => (by cases hx), by simp⟩
    · rintro m σ H1 ⟨t, way, u5, rfl, x2, hw, wnd, wsub, rfl⟩
      have s1 := kp x2
      have wl : way.length ≤ g.lines.length := by
        have := nodup_le wnd wsub
        rwa [List.length_map] at this
      refine ⟨_, rfl, _, rfl, _, rfl, Dh, .str hm, rfl, (by have z := DGet.k (k := Sum.inr i) (s1 _ _ hDh); rw [hval] at z; exact z), rfl, _, rfl, ?_⟩
      by_cases eh : t = hm
      · subst eh
        rw [show (!decide (V.str t = V.str t)) = false by simp]
        refine iteF ?_
        walk_at "go"
        rw [ok.wH _ hih] at hw
        exact kS way hw L H1 nL s1 (x2.get 0 rfl)
      · rw [show (!decide (V.str t = V.str hm)) = true by rw [decide_eq_false (fun e => eh (V.str.inj e))]; rfl]
        refine iteT ?_
        refine ⟨fun σ' H' => ∃ m', m' < g.lines.length - way.length ∧ ∃ (t : Str) (way : List Str) (u5 : Option V), σ' = [some (.ref Dh), some (.ref Db), some (.str i), some (.str t), some (.ref L), u5] ∧ Hx H H' [(L, .lst (way.map V.str))] ∧
          g.ways i s = (g.ways i t).map (· ++ way) ∧ way.Nodup ∧ (∀ x ∈ way, x ∈ g.lines.map (·.nm)) ∧ m' = g.lines.length - way.length, fun _ _ z => z, ?_⟩
        refine ⟨_, rfl, Db, rfl, ?_, _, rfl, _, rfl, (show 2 ≤ sizeLine by decide), fun T1 nT1 => ?_⟩
        · exact .inr ⟨_, .inl (s1 _ _ hDb)⟩
        have x3 := x2.new (o := .tup [V.str i, .str t]) nT1
        have s3 := kp x3
        refine ⟨_, DGet.t (k := k2 i t) (s3 _ _ hDb) upd_same, ?_⟩
        generalize upd H1 T1 (.tup [V.str i, .str t]) = H2 at *
        by_cases hb : ∃ c ∈ cs, i ∈ c.l.it ∧ c.l.tgt = t
        · obtain ⟨c, hc, hi, rfl⟩ := hb
          have hcl := lmem c hc
          rw [br.in_ c hc i hi]
          have hca := s3 _ _ (hcs c hc)
          have ew := ok.wL _ hcl i hi
          refine ⟨_, rfl, rfl, _, rfl, iteF ?_⟩
          refine ⟨_, rfl, c.a, CC, c.dx, _, .str c.l.nm, rfl, hca, cl, n1, rfl, _, rfl, L, _, rfl, .inl (SqL.of (x3.get 0 rfl)), rfl, flat_strs _, _, rfl, ?_⟩
          refine ite2 (fun q => ?_) (fun q => ?_)
          · have nn := of_decide_eq_true ((inV_strs _ _).symm.trans q)
            refine kN ?_ _ s3
            rw [hw, ew]
            cases es : g.ways i c.l.src with
            | none => rfl
            | some u =>
              exfalso
              rw [ew, es] at hw
              have := ok.wN _ _ _ hw
              exact (List.nodup_append.mp this).2.2 c.l.nm (by simp) c.l.nm nn rfl
          have nn : c.l.nm ∉ way := fun h => q ((inV_strs _ _).trans (decide_eq_true h))
          refine ⟨_, rfl, .inl ⟨rfl, _, SqL.of (x3.get 0 rfl)⟩, ?_⟩
          refine ⟨_, rfl, c.a, CC, c.dx, _, .str c.l.nm, rfl, hca, cl, n1, rfl, L, _, _, _, rfl, rfl, x3.get 0 rfl, size_ok (m := 10000) (by rw [List.length_map]; omega) (by decide), by decide, by decide, ?_⟩
          have x4 := x3.set (o' := .lst ((c.l.nm :: way).map V.str)) 0 rfl
          have e5 : (way.map V.str).take (0 : Int).toNat ++ [V.str c.l.nm] ++ (way.map V.str).drop (0 : Int).toNat = (c.l.nm :: way).map V.str := by simp
          rw [e5]
          have nla : c.a ≠ L := fun e => by
            have := hcs c hc
            rw [e, nL] at this
            cases this
          refine ⟨_, rfl, c.a, CC, c.dx, _, .str c.l.src, rfl, (by rw [upd_ne nla]; exact hca), cl, n2, rfl, ?_⟩
          have nd2 : (c.l.nm :: way).Nodup := List.nodup_cons.mpr ⟨nn, wnd⟩
          have sub2 : ∀ x ∈ c.l.nm :: way, x ∈ g.lines.map (·.nm) := fun x hx => by
            rcases List.mem_cons.mp hx with rfl | hx
            · exact List.mem_map.mpr ⟨_, hcl, rfl⟩
            · exact wsub x hx
          have wl2 := nodup_le nd2 sub2
          rw [List.length_map, List.length_cons] at wl2
          refine ⟨g.lines.length - (c.l.nm :: way).length, by rw [List.length_cons]; omega, c.l.src, c.l.nm :: way, _, rfl, x4, ?_, nd2, sub2, rfl⟩
          rw [hw, ew]
          cases g.ways i c.l.src <;> simp
        · have nb : valV kvb (k2 i t) = none := br.out i t fun c hc hh => hb ⟨c, hc, hh.1, hh.2⟩
          rw [nb]
          refine ⟨_, rfl, rfl, _, rfl, iteT ?_⟩
          refine kN ?_ _ s3
          rw [hw]
          cases et : g.ways i t with
          | none => rfl
          | some v =>
            exfalso
            rcases ok.wD i t v et with h | ⟨l, hl, e, hi⟩
            · exact eh (ok.homeU h hih)
            · rw [hgl] at hl
              obtain ⟨c, hc, rfl⟩ := List.mem_map.mp hl
              exact hb ⟨c, hc, hi, e⟩
end

/-! ### bringers_of, what is not valid too -/
theorem scBr : FnScope ["homes", "lines", "bringers", "line", "item"] ["homes", "lines"] (defScope sBr) := ⟨rfl, rfl, rfl, by decide +kernel, rfl, by decide +kernel, by decide +kernel⟩
def spBr (K : PySem.W.Frag) (CC : Addr) (X : XA) : Sp := fun vs H Q E => ∃ (Dh LL : Addr) (hs : List (Str × Str)) (cs : List Cn), vs = [.ref Dh, .ref LL] ∧ H Dh = some (.dK (kvH hs)) ∧ H LL = some (.lst (cs.map fun c => V.ref c.a)) ∧ (hs.map (·.1)).Nodup ∧ (cs.map (·.l.nm)).Nodup ∧ (∀ c ∈ cs, c.l.it.Nodup ∧ ∀ i ∈ c.l.it, i ∈ hs.map (·.1)) ∧
  (∀ c ∈ cs, H c.a = some (.ins CC c.dx (cnF c)) ∧ H c.la = some (.lst (c.l.it.map V.str))) ∧ Cls K CC ∧ (∀ f ∈ (["source", "target", "names", "name", "kind"] : List Str), NoAttr K CC f) ∧ cs.length ≤ 100 ∧ hs.length ≤ 100 ∧
  (∀ e, (chkTwo hs (cs.map (·.l))).or (chkHeld (waysOf hs (cs.map (·.l))) (cs.map (·.l))) = some e → ∀ H', Same H H' → e.rz X E H') ∧
  ((chkTwo hs (cs.map (·.l))).or (chkHeld (waysOf hs (cs.map (·.l))) (cs.map (·.l))) = none → ∀ DB H' kvb, H DB = none → Same H H' → H' DB = some (.dT kvb) → BrA kvb cs → kvb.length ≤ 10000 → Q (.ref DB) H')
section
variable {P : Program} {w : World} {K : PySem.W.Frag} {mg : Str → Option Value} {base : Heap}
theorem ok_br {f CC : Addr} {X : XA} {fd : FuncData} (F : FnP K "bringers_of" sBr f fd) (T : Bj mg) (g_way_back : Cal P w K mg base 1 "way_back" ["homes", "bringers", "item", "site"] (spWb K CC))
    (xTwoWays : PySem.XEx.XCls P K X.tw ["item", "site"] (defArgs sITwoWays) (defBody sITwoWays) (defScope sITwoWays)) (gTwoWays : mg "TwoWays" = some (.ref X.tw)) (xNotHeld : PySem.XEx.XCls P K X.nh ["item", "site"] (defArgs sINotHeld) (defBody sINotHeld) (defScope sINotHeld)) (gNotHeld : mg "NotHeld" = some (.ref X.nh)) :
    FnOk P w K mg base (L2.CX P w) 2 f fd ["homes", "lines"] (spBr K CC X) := by
  refine F.ok scBr (fun vs H Q E h => ?_) (fun cdv A outer s H vs Q E hr h => ?_)
  · obtain ⟨Dh, LL, hs, cs, rfl, _⟩ := h
    rfl
  · obtain ⟨Dh, LL, hs, cs, rfl, hDh, hLL, hN, lN, lI, hcs, cl, nC, hz, hgz, kE, kQ⟩ := h
    have nd := scBr.nd
    have hu := hu_of hr
    refine ⟨_, (pss_cons (ps_set (i := 2) nd rfl (Or.inl rfl) pe_dnewT)
      (pss_cons (ps_for (passes_of rfl) rfl (pi_list (pv 1)) (pg_name (i := 3) nd rfl (Or.inl rfl)) (pss_one (ps_for (passes_of rfl) rfl (pi_list (pe_fld (pv 3) rfl)) (pg_name (i := 4) nd rfl (Or.inl rfl)) (pss_cons (ps_if (PW.pt (pw_or (pt_cmpR op_eq (pe_dget hu (pv 0) (pv 4) (fun _ _ => rfl)) (pe_fld (pv 3) rfl) (nomark _)) (pw_or1 (pt_cmp (pc_din hu (pe_tup (pa_cons (pv 4) (pa_cons (pe_fld (pv 3) rfl) pa_nil))) (pv 2)))))) (pss_one (ps_raiseX rfl xTwoWays iTwoWays gTwoWays hr (takes_of rfl rfl rfl rfl) (pa_cons (pv 4) (pa_cons (pe_fld (pv 3) rfl) pa_nil)))) pss_nil)
          (pss_one (ps_dput hu (pv 2) (pe_tup (pa_cons (pv 4) (pa_cons (pe_fld (pv 3) rfl) pa_nil))) (pv 3) rfl))))))
      (pss_cons (ps_for (passes_of rfl) rfl (pi_list (pv 1)) (pg_name (i := 3) nd rfl (Or.inl rfl)) (pss_one (ps_for (passes_of rfl) rfl (pi_list (pe_fld (pv 3) rfl)) (pg_name (i := 4) nd rfl (Or.inl rfl)) (pss_one (ps_if (pt_cmpR op_isN (pe_cal g_way_back hr (takes_of rfl rfl rfl rfl) (pa_cons (pv 0) (pa_cons (pv 2) (pa_cons (pv 4) (pa_cons (pe_fld (pv 3) rfl) pa_nil))))) pe_non (nomark _)) (pss_one (ps_raiseX rfl xNotHeld iNotHeld gNotHeld hr (takes_of rfl rfl rfl rfl) (pa_cons (pv 4) (pa_cons (pe_fld (pv 3) rfl) pa_nil)))) pss_nil)))))
      (pss_one (ps_ret (pv 2)))))), ?_⟩
    refine fun DB nDB => ?_
    have x1 := (Hx.refl H).push (o := .dT []) nDB
    have kp : ∀ {H' : Hp} {o : HO}, Hx H H' [(DB, o)] → Same H H' := fun x => x.keep (by simp [nDB])
    have itl : ∀ c ∈ cs, c.l.it.length ≤ 100 := fun c hc => by
      have := nodup_le (lI c hc).1 (lI c hc).2
      rw [List.length_map] at this
      omega
    have lat : ∀ {j : Nat} {c : Cn}, cs[j]? = some c → (cs.map (·.l))[j]? = some c.l := fun h => by rw [List.getElem?_map, h]; rfl
    refine ⟨_, rfl, LL, rfl, ⟨_, SqL.of (kp x1 _ _ hLL)⟩, ?_⟩
    refine for_list (K := K) (a := LL) (xs := cs.map fun c => V.ref c.a) (fun j σ H1 => ∃ (kvb : List (List L2.Key × V)) (u3 u4 : Option V), σ = [some (.ref Dh), some (.ref LL), some (.ref DB), u3, u4] ∧ Hx H H1 [(DB, .dT kvb)] ∧ BrA kvb (cs.take j) ∧ kvb.length ≤ 100 * j ∧
        ∀ (k : Nat) l, k < j → (cs.map (·.l))[k]? = some l → firstE (chkTwo1 hs ([] ++ (cs.map (·.l)).take k) l) [] l.it = none)
      ⟨[], none, none, rfl, x1, ⟨fun c hc => (by rw [List.take_zero] at hc; cases hc), fun _ _ _ => rfl, fun _ h => (by cases h), List.Pairwise.nil⟩, by simp, fun k l h => absurd h (Nat.not_lt_zero _)⟩ (fun j σ H1 _ ⟨_, _, _, _, x, _⟩ => SqL.of (kp x _ _ hLL)) ?_ ?_
    · rintro j y σ H1 hj ⟨kvb, u3, u4, rfl, x2, br, hkl, hb⟩
      obtain ⟨c, hc, rfl⟩ := at_map hj
      have cm := List.mem_of_getElem? hc
      have jl := (List.getElem?_eq_some_iff.mp hc).1
      have hca : ∀ {H' : Hp} {o : HO}, Hx H H' [(DB, o)] → H' c.a = some (.ins CC c.dx (cnF c)) := fun x => kp x _ _ (hcs c cm).1
      have hla : ∀ {H' : Hp} {o : HO}, Hx H H' [(DB, o)] → H' c.la = some (.lst (c.l.it.map V.str)) := fun x => kp x _ _ (hcs c cm).2
      refine ⟨_, rfl, c.a, CC, c.dx, _, .ref c.la, rfl, hca x2, cl, nC _ (by simp), rfl, c.la, rfl, ⟨_, SqL.of (hla x2)⟩, ?_⟩
      refine for_list (K := K) (a := c.la) (xs := c.l.it.map V.str) (fun n σ H2 => ∃ (kvb : List (List L2.Key × V)) (u4 : Option V), σ = [some (.ref Dh), some (.ref LL), some (.ref DB), some (.ref c.a), u4] ∧ Hx H H2 [(DB, .dT kvb)] ∧ BrA kvb (cs.take j ++ [c.part n]) ∧ kvb.length ≤ 100 * j + n ∧
          ∀ (k : Nat) i, k < n → c.l.it[k]? = some i → chkTwo1 hs ([] ++ (cs.map (·.l)).take j) c.l ([] ++ c.l.it.take k) i = none)
        ⟨kvb, _, rfl, x2, br.start c, by omega, fun k l h => absurd h (Nat.not_lt_zero _)⟩ (fun n σ H2 _ ⟨_, _, _, x, _⟩ => SqL.of (hla x)) ?_ ?_
      · rintro n y σ H2 hn ⟨kvb, u4, rfl, x3, br, hkl, hb2⟩
        obtain ⟨i, hi, rfl⟩ := at_map hn
        have im := List.mem_of_getElem? hi
        have nl := (List.getElem?_eq_some_iff.mp hi).1
        have il := itl c cm
        obtain ⟨hm, hih⟩ : ∃ hm, (i, hm) ∈ hs := by
          obtain ⟨z, hz, rfl⟩ := List.mem_map.mp ((lI c cm).2 i im)
          exact ⟨z.2, hz⟩
        have hval : valV (kvH hs) (Sum.inr i) = some (.str hm) := valV_map_in (f := fun h : Str × Str => h.1) (v := fun h : Str × Str => V.str h.2) hN hih
        have err : ((i, c.l.tgt) ∈ hs ∨ (∃ m ∈ [] ++ (cs.map (·.l)).take j, i ∈ m.it ∧ m.tgt = c.l.tgt) ∨ i ∈ [] ++ c.l.it.take n) → ∀ H', Same H H' → Er.rz X E H' (.twoWays i c.l.tgt) := fun q => by
          refine kE _ ?_
          have e1 : firstE (chkTwo1 hs ([] ++ (cs.map (·.l)).take j) c.l) [] c.l.it = some (.twoWays i c.l.tgt) := firstE_at hb2 hi (by unfold chkTwo1; exact if_pos q)
          have e2 : chkTwo hs (cs.map (·.l)) = some (.twoWays i c.l.tgt) := firstE_at hb (lat hc) e1
          rw [e2]
          rfl
        refine ⟨_, rfl, _, rfl, Dh, .str hm, rfl, (by have z := DGet.k (k := Sum.inr i) (kp x3 _ _ hDh); rw [hval] at z; exact z), _, rfl, c.a, CC, c.dx, _, .str c.l.tgt, rfl, hca x3, cl, nC _ (by simp), rfl, rfl, _, rfl, ?_⟩
        by_cases nh : hm = c.l.tgt
        · rw [decide_eq_true (congrArg V.str nh)]
          refine iteT (iteT ?_)
          exact ⟨_, rfl, _, rfl, c.a, CC, c.dx, _, .str c.l.tgt, rfl, hca x3, cl, nC _ (by simp), rfl, rfl, (fun e => by cases e), fun _ d hd => err (.inl (by rw [← nh]; exact hih)) _ (kp x3) d hd⟩
        rw [decide_eq_false (fun e => nh (V.str.inj e))]
        refine iteF ?_
        refine ⟨_, rfl, _, rfl, c.a, CC, c.dx, _, .str c.l.tgt, rfl, hca x3, cl, nC _ (by simp), rfl, (show 2 ≤ sizeLine by decide), fun T1 n1 => ?_⟩
        have x4 := x3.new (o := .tup [V.str i, .str c.l.tgt]) n1
        refine ⟨_, rfl, DB, _, rfl, DGet.t (k := k2 i c.l.tgt) (x4.get 0 rfl) upd_same, ?_⟩
        generalize upd H2 T1 (.tup [V.str i, .str c.l.tgt]) = H3 at *
        cases nb : valV kvb (k2 i c.l.tgt) with
        | some v =>
          refine ⟨_, rfl, iteT ?_⟩
          have q : (∃ m ∈ [] ++ (cs.map (·.l)).take j, i ∈ m.it ∧ m.tgt = c.l.tgt) ∨ i ∈ [] ++ c.l.it.take n := by
            apply Classical.byContradiction
            intro q
            rw [br.out i c.l.tgt fun d hd hh => q ?_] at nb
            · cases nb
            · rcases List.mem_append.mp hd with hd | hd
              · refine .inl ⟨d.l, ?_, hh.1, hh.2⟩
                rw [List.nil_append, ← List.map_take]
                exact List.mem_map.mpr ⟨d, hd, rfl⟩
              · have e0 := List.mem_singleton.mp hd
                subst e0
                exact .inr hh.1
          exact ⟨_, rfl, _, rfl, c.a, CC, c.dx, _, .str c.l.tgt, rfl, hca x4, cl, nC _ (by simp), rfl, rfl, (fun e => by cases e), fun _ d hd => err (.inr q) _ (kp x4) d hd⟩
        | none =>
          refine ⟨_, rfl, iteF ?_⟩
          have nw : ∀ d ∈ cs.take j, ¬ (i ∈ d.l.it ∧ d.l.tgt = c.l.tgt) := fun d hd hh => by
            have := br.in_ d (List.mem_append_left _ hd) i hh.1
            rw [hh.2, nb] at this
            cases this
          refine ⟨_, rfl, _, rfl, _, rfl, _, rfl, c.a, CC, c.dx, _, .str c.l.tgt, rfl, hca x4, cl, nC _ (by simp), rfl, (show 2 ≤ sizeLine by decide), fun T2 n2 => ?_⟩
          have x5 := x4.new (o := .tup [V.str i, .str c.l.tgt]) n2
          refine ⟨DB, _, rfl, DPut.t (k := k2 i c.l.tgt) (x5.get 0 rfl) upd_same (size_ok (m := 100000) (by omega) (by decide)), ?_⟩
          refine ⟨_, _, rfl, x5.set 0 rfl, br.put hi nw, Nat.le_trans (putK_len _ _ _) (by omega), fun k i' hk hi' => ?_⟩
          by_cases q : k < n
          · exact hb2 k i' q hi'
          · have : k = n := by omega
            subst this
            rw [hi] at hi'
            cases hi'
            unfold chkTwo1
            rw [if_neg]
            rintro (q1 | ⟨m, hm', q2, q3⟩ | q1)
            · have := nodup_ix_of (f := fun h : Str × Str => h.1) hN hih q1 rfl
              exact nh (Prod.mk.inj this).2
            · rw [List.nil_append, ← List.map_take] at hm'
              obtain ⟨d, hd, rfl⟩ := List.mem_map.mp hm'
              exact nw d hd ⟨q2, q3⟩
            · have := nodup_take (f := fun x : Str => x) (xs := c.l.it) (by rw [List.map_id']; exact (lI c cm).1) hi
              rw [List.map_id'] at this
              exact this q1
      · rintro σ H2 ⟨kvb, u4, rfl, x3, br, hkl, hb2⟩
        rw [List.length_map] at br hkl hb2
        rw [c.part_all, ← take_snoc hc] at br
        have il := itl c cm
        refine ⟨kvb, _, _, rfl, x3, br, by omega, fun k l hk hl => ?_⟩
        by_cases q : k < j
        · exact hb k l q hl
        · have : k = j := by omega
          subst this
          rw [lat hc] at hl
          cases hl
          exact firstE_none fun n i hn => hb2 n i (List.getElem?_eq_some_iff.mp hn).1 hn
    · rintro σ H1 ⟨kvb, u3, u4, rfl, x2, br, hkl, hb⟩
      rw [List.length_map] at br hkl hb
      rw [List.take_length] at br
      have c1 : chkTwo hs (cs.map (·.l)) = none := firstE_none fun k l hk => hb k l (by have := (List.getElem?_eq_some_iff.mp hk).1; rwa [List.length_map] at this) hk
      have pre : GdPre ⟨[], hs, cs.map (·.l), waysOf hs (cs.map (·.l))⟩ := GdPre.of hN (by rw [List.map_map]; exact lN) (fun l hl => by obtain ⟨c, hc, rfl⟩ := List.mem_map.mp hl; exact (lI c hc).2) c1
      have s2 := kp x2
      have hDB := x2.get 0 rfl
      refine ⟨_, rfl, LL, rfl, ⟨_, SqL.of (s2 _ _ hLL)⟩, ?_⟩
      refine for_list (K := K) (a := LL) (xs := cs.map fun c => V.ref c.a) (fun j σ H2 => ∃ (u3 u4 : Option V), σ = [some (.ref Dh), some (.ref LL), some (.ref DB), u3, u4] ∧ Same H1 H2 ∧ ∀ (k : Nat) l, k < j → (cs.map (·.l))[k]? = some l → firstE (fun _ i => chkHeld1 (waysOf hs (cs.map (·.l))) l i) [] l.it = none) ⟨_, _, rfl, Same.refl _, fun k l h => absurd h (Nat.not_lt_zero _)⟩ (fun j σ H2 _ ⟨_, _, _, s, _⟩ => SqL.of (s _ _ (s2 _ _ hLL))) ?_ ?_
      · rintro j y σ H2 hj ⟨u3, u4, rfl, s3, hb3⟩
        obtain ⟨c, hc, rfl⟩ := at_map hj
        have cm := List.mem_of_getElem? hc
        have hca : ∀ {H' : Hp}, Same H1 H' → H' c.a = some (.ins CC c.dx (cnF c)) := fun s => s _ _ (s2 _ _ (hcs c cm).1)
        have hla : ∀ {H' : Hp}, Same H1 H' → H' c.la = some (.lst (c.l.it.map V.str)) := fun s => s _ _ (s2 _ _ (hcs c cm).2)
        refine ⟨_, rfl, c.a, CC, c.dx, _, .ref c.la, rfl, hca s3, cl, nC _ (by simp), rfl, c.la, rfl, ⟨_, SqL.of (hla s3)⟩, ?_⟩
        refine for_list (K := K) (a := c.la) (xs := c.l.it.map V.str) (fun n σ H3 => ∃ (u4 : Option V), σ = [some (.ref Dh), some (.ref LL), some (.ref DB), some (.ref c.a), u4] ∧ Same H1 H3 ∧ ∀ (k : Nat) i, k < n → c.l.it[k]? = some i → chkHeld1 (waysOf hs (cs.map (·.l))) c.l i = none) ⟨_, rfl, s3, fun k l h => absurd h (Nat.not_lt_zero _)⟩ (fun n σ H3 _ ⟨_, _, s, _⟩ => SqL.of (hla s)) ?_ ?_
        · rintro n y σ H3 hn ⟨u4, rfl, s4, hb4⟩
          obtain ⟨i, hi, rfl⟩ := at_map hn
          have im := List.mem_of_getElem? hi
          obtain ⟨hm, hih⟩ : ∃ hm, (i, hm) ∈ hs := by
            obtain ⟨z, hz, rfl⟩ := List.mem_map.mp ((lI c cm).2 i im)
            exact ⟨z.2, hz⟩
          refine ⟨_, rfl, _, rfl, _, rfl, _, rfl, c.a, CC, c.dx, _, .str c.l.src, rfl, hca s4, cl, nC _ (by simp), rfl, Dh, DB, i, c.l.src, hm, _, cs, kvb, rfl, s4 _ _ (s2 _ _ hDh), s4 _ _ hDB, br, pre, rfl, hih, fun d hd => s4 _ _ (s2 _ _ (hcs d hd).1), cl, nC _ (by simp), nC _ (by simp), by show (cs.map (·.l)).length ≤ 1000; rw [List.length_map]; omega, fun v hv L H' nL sL hL => ?_, fun e H' sL => ?_⟩
          · refine ⟨rfl, _, rfl, iteF ?_⟩
            refine ⟨_, rfl, s4.trans sL, fun k i' hk hi' => ?_⟩
            by_cases q : k < n
            · exact hb4 k i' q hi'
            · have : k = n := by omega
              subst this
              rw [hi] at hi'
              cases hi'
              unfold chkHeld1
              exact if_pos (by rw [show waysOf hs (cs.map (·.l)) i c.l.src = some v from hv]; rfl)
          · refine ⟨rfl, _, rfl, iteT ?_⟩
            have s5 := s4.trans sL
            refine ⟨_, rfl, _, rfl, c.a, CC, c.dx, _, .str c.l.src, rfl, hca s5, cl, nC _ (by simp), rfl, rfl, (fun e => by cases e), fun _ d hd => ?_⟩
            have e1 : firstE (fun _ i => chkHeld1 (waysOf hs (cs.map (·.l))) c.l i) [] c.l.it = some (.notHeld i c.l.src) := firstE_at hb4 hi (by unfold chkHeld1; exact if_neg (by rw [show waysOf hs (cs.map (·.l)) i c.l.src = none from e]; decide))
            have e2 : chkHeld (waysOf hs (cs.map (·.l))) (cs.map (·.l)) = some (.notHeld i c.l.src) := by
              unfold chkHeld
              exact firstE_at hb3 (lat hc) e1
            exact kE (.notHeld i c.l.src) (by rw [c1, e2]; rfl) _ (s2.trans s5) d hd
        · rintro σ H3 ⟨u4, rfl, s4, hb4⟩
          rw [List.length_map] at hb4
          refine ⟨_, _, rfl, s4, fun k l hk hl => ?_⟩
          by_cases q : k < j
          · exact hb3 k l q hl
          · have : k = j := by omega
            subst this
            rw [lat hc] at hl
            cases hl
            exact firstE_none fun n i hn => hb4 n i (List.getElem?_eq_some_iff.mp hn).1 hn
      · rintro σ H2 ⟨u3, u4, rfl, s3, hb3⟩
        rw [List.length_map] at hb3
        walk_at "go"
        have c2 : chkHeld (waysOf hs (cs.map (·.l))) (cs.map (·.l)) = none := firstE_none fun k l hk => hb3 k l (by have := (List.getElem?_eq_some_iff.mp hk).1; rwa [List.length_map] at this) hk
        exact kQ (by rw [c1, c2]; rfl) DB H2 kvb nDB (s2.trans s3) (s3 _ _ hDB) br (by omega)
end

/-! ### Placement.__init__, what is not valid too -/
theorem scPlI : FnScope ["self", "sites", "homes", "channels", "places", "seats", "name", "home", "lines", "row"] ["self", "sites", "homes", "channels"] (defScope sPlI) := ⟨rfl, rfl, rfl, by decide +kernel, rfl, by decide +kernel, by decide +kernel⟩
def plFs : List Str := ["places", "seats", "lines", "bringers"]
def spPlI (K : PySem.W.Frag) (CP CI CC : Addr) (X : XA) : Sp := fun vs H Q E => ∃ (p dp LS LH LC : Addr) (bS bH bC : Bool) (hv cv : List V) (sites : List Str) (homes : List (Str × Str)) (lines : List Ln), vs = [.ref p, .ref LS, .ref LH, .ref LC] ∧ H p = some (.ins CP dp []) ∧ Cls K CP ∧ (∀ f ∈ plFs, NoAttr K CP f) ∧
  SqX bS K H LS (sites.map V.str) ∧ SqX bH K H LH hv ∧ Pw (PsA H) hv homes ∧ SqX bC K H LC cv ∧ Pw (RwT H) cv lines ∧ (∀ x ∈ sites, x.length ≤ sizeLine) ∧ (∀ x ∈ homes, x.1.length ≤ sizeLine) ∧ (∀ l ∈ lines, l.nm.length ≤ sizeLine ∧ l.it.length ≤ 1000) ∧ sites.length ≤ 100 ∧ homes.length ≤ 100 ∧ lines.length ≤ 100 ∧
  (∀ e, mkErr sites homes lines = some e → ∀ H', Same (delH H p) H' → e.rz X E H') ∧
  (mkErr sites homes lines = none → ∀ (H' : Hp) (s : PSt), s.p = p → s.dp = dp → s.places = sites → (s.seats.map fun i => (i.nm, i.st)) = homes → s.lines.map (·.l) = lines → PlA CP CI CC H H' s (waysOf homes lines) → s.kvb.length ≤ 10000 → (∀ z ∈ s.tbl CP CI CC, z.1 = p ∨ H z.1 = none) → Q .non H')
theorem set_head {α : Type} (a a' : α) (A3 B C : List α) (x y : α) : ((a :: A3 ++ (B ++ C)) ++ [x] ++ [y]).set 0 a' = a' :: A3 ++ (B ++ (C ++ [x] ++ [y])) := by simp
theorem pl_put (s : PSt) : putF "bringers" (V.ref s.DB) (putF "lines" (V.ref s.DL) (putF "seats" (V.ref s.DS) (putF "places" (V.ref s.LP) []))) = s.F := by
  show putF "bringers" (V.ref s.DB) (putF "lines" (V.ref s.DL) (putF "seats" (V.ref s.DS) [(("places" : Str), V.ref s.LP)])) = _
  rw [putF_ne (by decide +kernel)]
  show putF "bringers" (V.ref s.DB) (putF "lines" (V.ref s.DL) [(("places" : Str), V.ref s.LP), ("seats", V.ref s.DS)]) = _
  rw [putF_ne (by decide +kernel), putF_ne (by decide +kernel)]
  show putF "bringers" (V.ref s.DB) [(("places" : Str), V.ref s.LP), ("seats", V.ref s.DS), ("lines", V.ref s.DL)] = _
  rw [putF_ne (by decide +kernel), putF_ne (by decide +kernel), putF_ne (by decide +kernel)]
  rfl
section
variable {P : Program} {w : World} {K : PySem.W.Frag} {mg : Str → Option Value} {base : Heap}
theorem ok_plI {f CP CI CC : Addr} {X : XA} {fd : FuncData} {dv : List V} (F : FunD K "__init__" "Placement.__init__" (defArgs sPlI) (defBody sPlI) (defScope sPlI) dv [] f fd) (T : Bj mg) (g_checked_sites : Cal P w K mg base 2 "checked_sites" ["names"] (spCs K X)) (g_check_name : Cal P w K mg base 1 "check_name" ["name", "taken"] (spCn K X.bn X.tk)) (g_check_known : Cal P w K mg base 1 "check_known" ["name", "known"] (spKn K X.un))
    (g_check_channel : Cal P w K mg base 4 "check_channel" ["row", "sites", "items", "taken"] (spCc K X)) (g_Item : Mak P w K mg base 1 "Item" CI ["self", "owner", "name", "seat"] (spItI K CI)) (g_Channel : Mak P w K mg base 4 "Channel" CC ["self", "name", "source", "target", "items", "late"] (spChI K X.bk))
    (g_homes_of : Cal P w K mg base 1 "homes_of" ["seats"] (spHm K CI)) (g_bringers_of : Cal P w K mg base 2 "bringers_of" ["homes", "lines"] (spBr K CC X)) (cI : Cls K CI) (nI : ∀ f ∈ (["owner", "name", "seat"] : List Str), NoAttr K CI f) (cC : Cls K CC) (nC : ∀ f ∈ (["source", "target", "names", "name", "kind"] : List Str), NoAttr K CC f) :
    FnOk P w K mg base (L2.CX P w) 6 f fd ["self", "sites", "homes", "channels"] (spPlI K CP CI CC X) := by
  refine F.ok scPlI (fun vs H Q E h => ?_) (fun cdv A outer s H vs Q E hr h => ?_)
  · obtain ⟨p, dp, LS, LH, LC, bS, bH, bC, hv, cv, sites, homes, lines, rfl, _⟩ := h
    rfl
  · obtain ⟨p, dp, LS, LH, LC, bS, bH, bC, hv, cv, sites, homes, lines, rfl, hp, cl, nP, hLS, hLH, ph, hLC, pc, zs, zh, zl, z1, z2, z3, kE, kQ⟩ := h
    have nd := scPlI.nd
    have hu := hu_of hr
    refine ⟨_, (pss_cons (ps_set (i := 4) nd rfl (Or.inl rfl) (pe_cal g_checked_sites hr (takes_of rfl rfl rfl rfl) (pa_cons (pv 1) pa_nil)))
      (pss_cons (ps_set (i := 5) nd rfl (Or.inl rfl) pe_dnewK)
      (pss_cons (ps_for (passes_of rfl) rfl (pi_seq (pv 2)) (pg_tup rfl (pgs_cons (pg_name (i := 6) nd rfl (Or.inl rfl)) (pgs_cons (pg_name (i := 7) nd rfl (Or.inl rfl)) pgs_nil))) (pss_cons (ps_expr (pe_cal g_check_name hr (takes_of rfl rfl rfl rfl) (pa_cons (pv 6) (pa_cons (pv 5) pa_nil))))
        (pss_cons (ps_expr (pe_cal g_check_known hr (takes_of rfl rfl rfl rfl) (pa_cons (pv 7) (pa_cons (pv 4) pa_nil))))
        (pss_one (ps_dput hu (pv 5) (pv 6) (pe_mak g_Item hr (takes_of rfl rfl rfl rfl) (pa_cons (pv 0) (pa_cons (pv 6) (pa_cons (pv 7) pa_nil)))) rfl)))))
      (pss_cons (ps_set (i := 8) nd rfl (Or.inl rfl) pe_dnewK)
      (pss_cons (ps_for (passes_of rfl) rfl (pi_seq (pv 3)) (pg_name (i := 9) nd rfl (Or.inl rfl)) (pss_cons (ps_expr (pe_cal g_check_channel hr (takes_of rfl rfl rfl rfl) (pa_cons (pv 9) (pa_cons (pv 4) (pa_cons (pv 5) (pa_cons (pv 8) pa_nil))))))
        (pss_one (ps_dput hu (pv 8) (pe_ix ix_tup (pv 9) pe_int (fun _ _ => rfl)) (pe_mak g_Channel hr (takes_of rfl rfl rfl rfl) (pa_cons (pe_ix ix_tup (pv 9) pe_int (fun _ _ => rfl)) (pa_cons (pe_ix ix_tup (pv 9) pe_int (fun _ _ => rfl)) (pa_cons (pe_ix ix_tup (pv 9) pe_int (fun _ _ => rfl)) (pa_cons (pe_ix ix_tup (pv 9) pe_int (fun _ _ => rfl)) (pa_cons (pe_ix ix_tup (pv 9) pe_int (fun _ _ => rfl)) pa_nil)))))) rfl))))
      (pss_cons (ps_fld (pv 0) (pv 4) rfl)
      (pss_cons (ps_fld (pv 0) (pv 5) rfl)
      (pss_cons (ps_fld (pv 0) (pv 8) rfl)
      (pss_one (ps_fld (pv 0) (pe_cal g_bringers_of hr (takes_of rfl rfl rfl rfl) (pa_cons (pe_cal g_homes_of hr (takes_of rfl rfl rfl rfl) (pa_cons (pv 5) pa_nil)) (pa_cons (pe_listVals rfl (pv 8) (by rfl) T.list) pa_nil))) rfl)))))))))), ?_⟩
    have kE1 : ∀ e, mkErr sites homes lines = some e → ∀ H', Same H H' → e.rz X E H' := fun e he H' s => kE e he H' fun b u hb => s b u (by
      by_cases q : b = p
      · rw [q] at hb
        unfold delH at hb
        rw [if_pos rfl] at hb
        cases hb
      · rwa [delH_ne q] at hb)
    refine ⟨_, rfl, LS, bS, sites, rfl, hLS, zs, by omega, fun e he => kE1 e (by unfold mkErr; rw [he]; rfl), fun c1 LP nLP => ?_⟩
    have x0 : Hx H H [(p, .ins CP dp [])] := (Hx.refl H).own hp (fun z hz => by cases hz)
    have x1 := x0.push (o := .lst (sites.map V.str)) nLP
    have H0LP : H LP = none := nLP
    refine fun DS nDS => ?_
    have H0DS := x1.fresh nDS
    have x2 := x1.push (o := .dK []) nDS
    clear x0 x1
    refine ⟨_, rfl, LH, bH, rfl, ⟨_, Same.seqX (x2.keep2 (by simp [H0LP, H0DS, hp])) hLH⟩, ?_⟩
    have kp : ∀ {H' : Hp} {o : HO} {ss : List Seat}, Hx H H' ([(DS, o), (LP, .lst (sites.map V.str)), (p, .ins CP dp [])] ++ seT CI p ss) → (∀ i ∈ ss, H i.a = none) → Same H H' := fun x n => x.keep2 fun z hz => by
      rcases List.mem_append.mp hz with hz | hz
      · simp only [List.mem_cons, List.not_mem_nil, or_false] at hz
        rcases hz with rfl | rfl | rfl
        · exact .inl H0DS
        · exact .inl H0LP
        · exact .inr hp
      · obtain ⟨i, hi, rfl⟩ := List.mem_map.mp hz
        exact .inl (n i hi)
    refine for_it (walk_x (b := bH) (K := K) (a := LH) (xs := hv)) (fun j σ H1 => ∃ (ss : List Seat) (u6 u7 : Option V), σ = [some (.ref p), some (.ref LS), some (.ref LH), some (.ref LC), some (.ref LP), some (.ref DS), u6, u7, none, none] ∧
        Hx H H1 ([(DS, .dK (kvS ss)), (LP, .lst (sites.map V.str)), (p, .ins CP dp [])] ++ seT CI p ss) ∧ (ss.map fun i => (i.nm, i.st)) = homes.take j ∧ (∀ i ∈ ss, H i.a = none) ∧ ∀ (k : Nat) h, k < j → homes[k]? = some h → chkHome sites ([] ++ homes.take k) h = none)
      ⟨[], none, none, rfl, x2, by rw [List.take_zero]; rfl, fun _ h => (by cases h), fun k h q => absurd q (Nat.not_lt_zero _)⟩ (fun j σ H1 _ ⟨_, _, _, _, x, _, n, _⟩ => Same.seqX (kp x n) hLH) ?_ ?_
    · rintro j y σ H1' H1 hj' ⟨ss, u6, u7, rfl, x3, he, hn, hb⟩ ⟨rfl, hj⟩
      have s1 := kp x3 hn
      obtain ⟨⟨n, hm⟩, hh, t, rfl, ht⟩ := ph.get hj
      have ht1 := s1 _ _ ht
      have jl := (List.getElem?_eq_some_iff.mp hh).1
      have hmem := List.mem_of_getElem? hh
      have en : ss.map (·.nm) = (homes.take j).map (·.1) := by rw [← he, List.map_map]; rfl
      have sl : ss.length ≤ 100 := by
        have := congrArg List.length he
        rw [List.length_map, List.length_take] at this
        omega
      have err : ∀ e, chkHome sites ([] ++ homes.take j) (n, hm) = some e → ∀ H', Same H H' → e.rz X E H' := fun e h => kE1 e (by
        have e2 : chkHomes sites homes = some e := firstE_at hb hh h
        unfold mkErr
        rw [c1, e2]
        rfl)
      have dec : (fun y => decide (y ∈ ([] ++ homes.take j).map fun h : Str × Str => h.1)) = fun x => decide (x ∈ ss.map (·.nm)) := by rw [List.nil_append, en]
      refine ⟨t, _, rfl, .inl (.inl ht1), rfl, _, _, rfl, _, _, rfl, rfl, ?_⟩
      refine ⟨_, rfl, _, rfl, n, DS, fun x => decide (x ∈ ss.map (·.nm)), rfl, .inr ⟨kvS ss, .inl (x3.get 0 rfl), fun x => (valV_map_isSome x).symm⟩, zh _ hmem, fun o1 o2 => ?_, fun h => err (.badName n) (by unfold chkHome chkName; rw [if_neg h]; rfl) _ s1, fun h h' => err (.taken n) (by unfold chkHome; rw [dec]; unfold chkName; rw [if_pos h, if_pos h']; rfl) _ s1⟩
      have nn : n ∉ ss.map (·.nm) := of_decide_eq_false o2
      have k1 : chkName (fun y => decide (y ∈ ([] ++ homes.take j).map fun h : Str × Str => h.1)) n = none := by rw [dec]; exact chkName_ok o1 o2
      refine ⟨_, rfl, _, rfl, hm, LP, fun x => decide (x ∈ sites), rfl, .inl ⟨_, SqL.of (x3.get 1 rfl), fun _ => rfl⟩, fun o3 => ?_, fun h => err (.unknown hm) (by unfold chkHome; rw [k1]; unfold chkKnown; rw [if_neg (by rw [h]; decide)]; rfl) _ s1⟩
      refine ⟨_, rfl, _, rfl, _, rfl, fun x dx nx ndx nex => ?_⟩
      refine ⟨x, p, dx, n, hm, rfl, upd_same, cI, nI _ (by simp), nI _ (by simp), nI _ (by simp), rfl, ?_⟩
      rw [upd_upd]
      have x4 := x3.new (o := .own x) ndx
      have nx2 : (upd H1 dx (.own x)) x = none := by rw [upd_ne (Ne.symm nex)]; exact nx
      have x5 := x4.snoc (o := .ins CI dx (seatF p ⟨n, hm, x, dx⟩)) nx2
      refine ⟨_, rfl, _, rfl, DS, _, rfl, DPut.k (k := Sum.inr n) (x5.get 0 rfl) (size_ok (m := 1000) (by unfold kvS; rw [List.length_map]; omega) (by decide)), ?_⟩
      have x6 := x5.set (o' := .dK (putK (kvS ss) (Sum.inr n) (.ref x))) 0 rfl
      have ek : putK (kvS ss) (Sum.inr n) (.ref x) = kvS (ss ++ [⟨n, hm, x, dx⟩]) := by
        have hn0 : valV (kvS ss) (Sum.inr n) = none := valV_map_out (f := fun i : Seat => i.nm) (v := fun i : Seat => V.ref i.a) nn
        rw [putK_new hn0]
        unfold kvS
        rw [List.map_append]
        rfl
      rw [ek] at x6 ⊢
      refine ⟨ss ++ [⟨n, hm, x, dx⟩], _, _, rfl, ?_, ?_, fun i hi => ?_, fun k h hk hkh => ?_⟩
      · rw [seT_snoc]
        exact x6
      · rw [List.map_append, he, take_snoc hh]
        rfl
      · rcases List.mem_append.mp hi with hi | hi
        · exact hn i hi
        · rw [List.mem_singleton.mp hi]
          exact x4.fresh nx2
      · by_cases q : k < j
        · exact hb k h q hkh
        · have : k = j := by omega
          subst this
          rw [hh] at hkh
          cases hkh
          unfold chkHome
          rw [k1, chkKnown_ok o3]
          rfl
    · rintro σ H1 ⟨ss, u6, u7, rfl, x3, he, hn, hb⟩
      rw [ph.len] at hb
      have c2 : chkHomes sites homes = none := firstE_none fun k h hk => hb k h (List.getElem?_eq_some_iff.mp hk).1 hk
      rw [ph.len, List.take_length] at he
      have sl : ss.length ≤ 100 := by
        have := congrArg List.length he
        rw [List.length_map] at this
        omega
      clear kp x2
      refine fun DL nDL => ?_
      have H0DL := x3.fresh nDL
      have x4 := x3.push (o := .dK []) nDL
      have kp : ∀ {H' : Hp} {o : HO} {cs : List Cn}, Hx H H' ([(DL, o), (DS, .dK (kvS ss)), (LP, .lst (sites.map V.str)), (p, .ins CP dp [])] ++ (seT CI p ss ++ chT CC cs)) → (∀ c ∈ cs, H c.a = none ∧ H c.la = none) → Same H H' := fun x n => x.keep2 fun z hz => by
        rcases List.mem_append.mp hz with hz | hz
        · simp only [List.mem_cons, List.not_mem_nil, or_false] at hz
          rcases hz with rfl | rfl | rfl | rfl
          · exact .inl H0DL
          · exact .inl H0DS
          · exact .inl H0LP
          · exact .inr hp
        · rcases List.mem_append.mp hz with hz | hz
          · obtain ⟨i, hi, rfl⟩ := List.mem_map.mp hz
            exact .inl (hn i hi)
          · obtain ⟨c, hc, hz⟩ := List.mem_flatMap.mp hz
            simp only [List.mem_cons, List.not_mem_nil, or_false] at hz
            rcases hz with rfl | rfl
            · exact .inl (n c hc).1
            · exact .inl (n c hc).2
      have x4' : Hx H (upd H1 DL (.dK [])) ([(DL, .dK (kvL [])), (DS, .dK (kvS ss)), (LP, .lst (sites.map V.str)), (p, .ins CP dp [])] ++ (seT CI p ss ++ chT CC [])) := by
        rw [show chT CC [] = [] from rfl, List.append_nil]
        exact x4
      refine ⟨_, rfl, LC, bC, rfl, ⟨_, Same.seqX (kp x4' (fun _ h => by cases h)) hLC⟩, ?_⟩
      refine for_it (walk_x (b := bC) (K := K) (a := LC) (xs := cv)) (fun j σ H2 => ∃ (cs : List Cn) (u9 : Option V), σ = [some (.ref p), some (.ref LS), some (.ref LH), some (.ref LC), some (.ref LP), some (.ref DS), u6, u7, some (.ref DL), u9] ∧
          Hx H H2 ([(DL, .dK (kvL cs)), (DS, .dK (kvS ss)), (LP, .lst (sites.map V.str)), (p, .ins CP dp [])] ++ (seT CI p ss ++ chT CC cs)) ∧ cs.map (·.l) = lines.take j ∧ (∀ c ∈ cs, H c.a = none ∧ H c.la = none) ∧ ∀ (k : Nat) l, k < j → lines[k]? = some l → chkLine sites (homes.map (·.1)) ([] ++ lines.take k) l = none)
        ⟨[], none, rfl, x4', by rw [List.take_zero]; rfl, fun _ h => (by cases h), fun k h q => absurd q (Nat.not_lt_zero _)⟩ (fun j σ H2 _ ⟨_, _, _, x, _, n, _⟩ => Same.seqX (kp x n) hLC) ?_ ?_
      · rintro j y σ H2' H2 hj' ⟨cs, u9, rfl, x5, hce, hcn, hb⟩ ⟨rfl, hj⟩
        have s2 := kp x5 hcn
        obtain ⟨l, hl, t, a, rfl, ht, ha⟩ := pc.get hj
        have ht2 := s2 _ _ ht
        have ha2 := s2 _ _ ha
        have lm := List.mem_of_getElem? hl
        have jl := (List.getElem?_eq_some_iff.mp hl).1
        have en : cs.map (·.l.nm) = (lines.take j).map (·.nm) := by rw [← hce, List.map_map]; rfl
        have cl' : cs.length ≤ 100 := by
          have := congrArg List.length hce
          rw [List.length_map, List.length_take] at this
          omega
        have zll := zl l lm
        have eg : homes.map (·.1) = ss.map (·.nm) := by rw [← he, List.map_map]; rfl
        have dec : chkLine sites (homes.map (·.1)) ([] ++ lines.take j) l = chkCh (fun x => decide (x ∈ sites)) (fun x => decide (x ∈ ss.map (·.nm))) (fun x => decide (x ∈ cs.map (·.l.nm))) l := by
          unfold chkLine
          rw [List.nil_append, en, eg]
        have err : ∀ e, chkCh (fun x => decide (x ∈ sites)) (fun x => decide (x ∈ ss.map (·.nm))) (fun x => decide (x ∈ cs.map (·.l.nm))) l = some e → ∀ H', Same H H' → e.rz X E H' := fun e h => kE1 e (by
          have e2 : chkLines sites (homes.map (·.1)) lines = some e := firstE_at hb hl (by rw [dec]; exact h)
          unfold mkErr
          rw [c1, c2, e2]
          rfl)
        refine ⟨_, rfl, _, rfl, _, rfl, _, rfl, t, LP, DS, DL, a, l, fun x => decide (x ∈ sites), fun x => decide (x ∈ ss.map (·.nm)), fun x => decide (x ∈ cs.map (·.l.nm)), rfl, ht2, SqL.of ha2, .inl ⟨_, SqL.of (x5.get 2 rfl), fun _ => rfl⟩, .inr ⟨kvS ss, .inl (x5.get 1 rfl), fun x => (valV_map_isSome x).symm⟩, .inr ⟨kvL cs, .inl (x5.get 0 rfl), fun x => (valV_map_isSome (f := fun c : Cn => c.l.nm) x).symm⟩,
          zll.1, zll.2, fun e h H3 s3 => err e h H3 (s2.trans s3), fun k1 H3 s3 => ?_⟩
        obtain ⟨⟨o1, o2⟩, e1, e2, ⟨e3, o4⟩, e4, e5, o7⟩ := chkCh_none k1
        have nn : l.nm ∉ cs.map (·.l.nm) := of_decide_eq_false o2
        have x6 := x5.same s3
        have ht3 := s3 _ _ ht2
        have ha3 := s3 _ _ ha2
        clear x5 s2 ht2 ha2
        refine ⟨_, rfl, t, _, _, _, rfl, rfl, .inl (.inl ht3), (show atI (rwV l a) 0 = some (.str l.nm) from rfl), ?_⟩
        refine ⟨_, rfl, t, _, _, _, rfl, rfl, .inl (.inl ht3), (show atI (rwV l a) 1 = some (.str l.src) from rfl), ?_⟩
        refine ⟨_, rfl, t, _, _, _, rfl, rfl, .inl (.inl ht3), (show atI (rwV l a) 2 = some (.str l.tgt) from rfl), ?_⟩
        refine ⟨_, rfl, t, _, _, _, rfl, rfl, .inl (.inl ht3), (show atI (rwV l a) 3 = some (.ref a) from rfl), ?_⟩
        refine ⟨_, rfl, t, _, _, _, rfl, rfl, .inl (.inl ht3), (show atI (rwV l a) 4 = some (kindV l.kd) from rfl), fun pC dC npC ndC neC => ?_⟩
        have apC : a ≠ pC := ne_of_none ha3 npC
        have adC : a ≠ dC := ne_of_none ha3 ndC
        refine ⟨pC, CC, dC, a, _, _, _, l.it.map V.str, l.kd, rfl, upd_same, cC, nC _ (by simp), nC _ (by simp), nC _ (by simp), nC _ (by simp), nC _ (by simp), .inl (SqL.of (by rw [upd_ne apC, upd_ne adC]; exact ha3)), apC, fun h => (h o7).elim, fun _ la hla => ⟨rfl, ?_⟩⟩
        have lpC : la ≠ pC := fun e => by rw [e, upd_same] at hla; cases hla
        have hla2 : (upd H3 dC (.own pC)) la = none := by rw [upd_ne lpC] at hla; exact hla
        have npC2 : (upd H3 dC (.own pC)) pC = none := by rw [upd_ne (Ne.symm neC)]; exact npC
        rw [upd_swap lpC, upd_upd]
        have x7 := x6.new (o := .own pC) ndC
        have x8 := x7.snoc (o := .ins CC dC (chF (.str l.src) (.str l.tgt) la (.str l.nm) (kindV l.kd))) npC2
        have x9 := x8.snoc (T := la) (o := .lst (l.it.map V.str)) (by rw [upd_ne lpC]; exact hla2)
        have H0C := x7.fresh npC2
        have H0l := x7.fresh hla2
        have s9 := (((Same.refl H3).new (o := .own pC) ndC).new (o := .ins CC dC (chF (.str l.src) (.str l.tgt) la (.str l.nm) (kindV l.kd))) npC2).new (p := la) (o := .lst (l.it.map V.str)) (by rw [upd_ne lpC]; exact hla2)
        have ht9 := s9 _ _ ht3
        refine ⟨_, rfl, _, rfl, t, _, _, _, rfl, rfl, .inl (.inl ht9), (show atI (rwV l a) 0 = some (.str l.nm) from rfl), DL, _, rfl, DPut.k (k := Sum.inr l.nm) (x9.get 0 rfl) (size_ok (m := 1000) (by unfold kvL; rw [List.length_map]; omega) (by decide)), ?_⟩
        have x10 := x9.set (o' := .dK (putK (kvL cs) (Sum.inr l.nm) (.ref pC))) 0 rfl
        have ek : putK (kvL cs) (Sum.inr l.nm) (.ref pC) = kvL (cs ++ [⟨l, pC, dC, la⟩]) := by
          have hn0 : valV (kvL cs) (Sum.inr l.nm) = none := valV_map_out (f := fun c : Cn => c.l.nm) (v := fun c : Cn => V.ref c.a) nn
          rw [putK_new hn0]
          unfold kvL
          rw [List.map_append]
          rfl
        rw [ek] at x10 ⊢
        refine ⟨cs ++ [⟨l, pC, dC, la⟩], _, rfl, ?_, ?_, fun c hc => ?_, fun k h hk hkh => ?_⟩
        · rw [chT_snoc]
          rw [set_head] at x10
          exact x10
        · rw [List.map_append, hce, take_snoc hl]
          rfl
        · rcases List.mem_append.mp hc with hc | hc
          · exact hcn c hc
          · rw [List.mem_singleton.mp hc]
            exact ⟨H0C, H0l⟩
        · by_cases q : k < j
          · exact hb k h q hkh
          · have : k = j := by omega
            subst this
            rw [hl] at hkh
            cases hkh
            rw [dec]
            exact k1
      · rintro σ H2 ⟨cs, u9, rfl, x5, hce, hcn, hb⟩
        rw [pc.len] at hb
        have c3 : chkLines sites (homes.map (·.1)) lines = none := firstE_none fun k l hk => hb k l (List.getElem?_eq_some_iff.mp hk).1 hk
        obtain ⟨d1, d2⟩ := chkHomes_none c2
        obtain ⟨d3, d4⟩ := chkLines_none c3
        rw [pc.len, List.take_length] at hce
        have clen : cs.length ≤ 100 := by
          have := congrArg List.length hce
          rw [List.length_map] at this
          omega
        have gh : (ss.map fun i => (i.nm, i.st)) = homes := he
        have sfr : ∀ z ∈ ([(DL, HO.dK (kvL cs)), (DS, .dK (kvS ss)), (LP, .lst (sites.map V.str)), (p, .ins CP dp [])] ++ (seT CI p ss ++ chT CC cs)), z.1 = p ∨ H z.1 = none := fun z hz => by
          rcases List.mem_append.mp hz with hz | hz
          · simp only [List.mem_cons, List.not_mem_nil, or_false] at hz
            rcases hz with rfl | rfl | rfl | rfl
            · exact .inr H0DL
            · exact .inr H0DS
            · exact .inr H0LP
            · exact .inl rfl
          · rcases List.mem_append.mp hz with hz | hz
            · obtain ⟨i, hi, rfl⟩ := List.mem_map.mp hz
              exact .inr (hn i hi)
            · obtain ⟨c, hc, hz⟩ := List.mem_flatMap.mp hz
              simp only [List.mem_cons, List.not_mem_nil, or_false] at hz
              rcases hz with rfl | rfl
              · exact .inr (hcn c hc).1
              · exact .inr (hcn c hc).2
        have sfr2 : ∀ z ∈ ([(DL, HO.dK (kvL cs)), (DS, .dK (kvS ss)), (LP, .lst (sites.map V.str)), (p, .ins CP dp (putF "lines" (.ref DL) (putF "seats" (.ref DS) (putF "places" (.ref LP) []))))] ++ (seT CI p ss ++ chT CC cs)), z.1 = p ∨ H z.1 = none := fun z hz => by
          rcases List.mem_append.mp hz with hz | hz
          · simp only [List.mem_cons, List.not_mem_nil, or_false] at hz
            rcases hz with rfl | rfl | rfl | rfl
            · exact .inr H0DL
            · exact .inr H0DS
            · exact .inr H0LP
            · exact .inl rfl
          · exact sfr z (List.mem_append_right _ hz)
        refine ⟨_, rfl, _, rfl, p, CP, dp, [], rfl, x5.get 3 rfl, cl, nP _ (by simp [plFs]), by decide, ?_⟩
        have x6 := x5.set (o' := .ins CP dp (putF "places" (.ref LP) [])) 3 rfl
        have pl1 : (putF "places" (V.ref LP) []).length ≤ 1 := putF_len _ _ _
        have pl2 : (putF "seats" (V.ref DS) (putF "places" (V.ref LP) [])).length ≤ 2 := Nat.le_trans (putF_len _ _ _) (by omega)
        have pl3 : (putF "lines" (V.ref DL) (putF "seats" (V.ref DS) (putF "places" (V.ref LP) []))).length ≤ 3 := Nat.le_trans (putF_len _ _ _) (by omega)
        refine ⟨_, rfl, _, rfl, p, CP, dp, _, rfl, upd_same, cl, nP _ (by simp [plFs]), by omega, ?_⟩
        have x7 := x6.set (o' := .ins CP dp (putF "seats" (.ref DS) (putF "places" (.ref LP) []))) 3 rfl
        refine ⟨_, rfl, _, rfl, p, CP, dp, _, rfl, upd_same, cl, nP _ (by simp [plFs]), by omega, ?_⟩
        have x8 := x7.set (o' := .ins CP dp (putF "lines" (.ref DL) (putF "seats" (.ref DS) (putF "places" (.ref LP) [])))) 3 rfl
        have x8 : Hx H _ ([(DL, .dK (kvL cs)), (DS, .dK (kvS ss)), (LP, .lst (sites.map V.str)), (p, .ins CP dp (putF "lines" (.ref DL) (putF "seats" (.ref DS) (putF "places" (.ref LP) []))))] ++ (seT CI p ss ++ chT CC cs)) := x8
        clear x5 x6 x7
        generalize upd (upd (upd H2 p (.ins CP dp (putF "places" (.ref LP) []))) p (.ins CP dp (putF "seats" (.ref DS) (putF "places" (.ref LP) [])))) p (.ins CP dp (putF "lines" (.ref DL) (putF "seats" (.ref DS) (putF "places" (.ref LP) [])))) = H3 at *
        have hse : ∀ i ∈ ss, H3 i.a = some (.ins CI i.dx (seatF p i)) := fun i hi => x8.at_ (i.a, .ins CI i.dx (seatF p i)) (List.mem_append_right _ (List.mem_append_left _ (seT_mem hi)))
        have hch : ∀ c ∈ cs, H3 c.a = some (.ins CC c.dx (cnF c)) ∧ H3 c.la = some (.lst (c.l.it.map V.str)) := fun c hc => ⟨x8.at_ (c.a, .ins CC c.dx (cnF c)) (List.mem_append_right _ (List.mem_append_right _ (chT_mem hc).1)), x8.at_ (c.la, .lst (c.l.it.map V.str)) (List.mem_append_right _ (List.mem_append_right _ (chT_mem hc).2))⟩
        refine ⟨_, rfl, DS, p, ss, rfl, x8.get 1 rfl, hse, ?_, cI, nI _ (by simp), by omega, fun D nD => ?_⟩
        · have := d1
          rw [← gh, List.map_map] at this
          exact this
        have sD : Same H3 (upd H3 D (.dK (kvH (ss.map fun s => (s.nm, s.st))))) := (Same.refl _).new nD
        have hD : (upd H3 D (.dK (kvH (ss.map fun s => (s.nm, s.st))))) D = some (.dK (kvH homes)) := by rw [upd_same, gh]
        generalize upd H3 D (.dK (kvH (ss.map fun s => (s.nm, s.st)))) = H4 at *
        refine ⟨_, rfl, DL, _, rfl, sD _ _ (x8.get 0 rfl), fun LL nLL => ?_⟩
        have sL : Same H4 (upd H4 LL (.lst ((kvL cs).map (·.2)))) := (Same.refl _).new nLL
        have eL : (kvL cs).map (·.2) = cs.map fun c => V.ref c.a := by unfold kvL; rw [List.map_map]; rfl
        have hL : (upd H4 LL (.lst ((kvL cs).map (·.2)))) LL = some (.lst (cs.map fun c => V.ref c.a)) := by rw [upd_same, eL]
        generalize upd H4 LL (.lst ((kvL cs).map (·.2))) = H5 at *
        have s5 := sD.trans sL
        have s05 : Same (delH H p) H5 := fun b u hb => by
          have q : b ≠ p := fun q => by
            rw [q] at hb
            unfold delH at hb
            rw [if_pos rfl] at hb
            cases hb
          rw [delH_ne q] at hb
          refine s5 _ _ (x8.fr b u hb fun z hz e => ?_)
          rcases sfr2 z hz with h | h
          · exact q (by rw [← e, h])
          · rw [e, hb] at h; cases h
        refine ⟨D, LL, homes, cs, rfl, sL _ _ hD, hL, d1, by rw [show (fun c : Cn => c.l.nm) = (fun l : Ln => l.nm) ∘ (fun c : Cn => c.l) from rfl, ← List.map_map, hce]; exact d3, fun c hc => (d4 c.l (by rw [← hce]; exact List.mem_map.mpr ⟨c, hc, rfl⟩)).2.2.2.1, fun c hc => ⟨s5 _ _ (hch c hc).1, s5 _ _ (hch c hc).2⟩, cC, nC, clen, z2, fun e h H6 s6 => ?_, fun k5 DB H6 kvb nDB s6 hDB br hkl => ?_⟩
        · rw [hce] at h
          exact kE e (by unfold mkErr; rw [c1, c2, c3]; exact h) H6 (s05.trans s6)
        rw [hce] at k5
        have mk : mkErr sites homes lines = none := by unfold mkErr; rw [c1, c2, c3]; exact k5
        have x9 := x8.same (s5.trans s6)
        have H0DB := (x8.same s5).fresh nDB
        have x10 := x9.own hDB fun z hz => ne_of_none ((x8.same s5).at_ z hz) nDB
        refine ⟨_, rfl, p, CP, dp, _, rfl, x10.get 4 rfl, cl, nP _ (by simp [plFs]), by omega, ?_⟩
        have x11 := x10.set (o' := .ins CP dp (putF "bringers" (.ref DB) (putF "lines" (.ref DL) (putF "seats" (.ref DS) (putF "places" (.ref LP) []))))) 4 rfl
        have eF := pl_put ⟨p, dp, LP, DS, DL, DB, sites, ss, cs, kvb⟩
        dsimp only at eF
        rw [eF] at x11 ⊢
        refine kQ mk _ ⟨p, dp, LP, DS, DL, DB, sites, ss, cs, kvb⟩ rfl rfl rfl gh hce ⟨x11, br, ?_⟩ hkl fun z hz => ?_
        · have e : (PSt.g ⟨p, dp, LP, DS, DL, DB, sites, ss, cs, kvb⟩ (waysOf homes lines)) = ⟨sites, homes, lines, waysOf homes lines⟩ := by
            unfold PSt.g
            rw [gh, hce]
          rw [e]
          exact (mkErr_none mk).1
        · rcases List.mem_cons.mp hz with rfl | hz
          · exact .inr H0DB
          · rcases List.mem_append.mp (show z ∈ [(DL, HO.dK (kvL cs)), (DS, .dK (kvS ss)), (LP, .lst (sites.map V.str)), (p, .ins CP dp (PSt.F ⟨p, dp, LP, DS, DL, DB, sites, ss, cs, kvb⟩))] ++ (seT CI p ss ++ chT CC cs) from hz) with hz | hz
            · simp only [List.mem_cons, List.not_mem_nil, or_false] at hz
              rcases hz with rfl | rfl | rfl | rfl
              · exact .inr H0DL
              · exact .inr H0DS
              · exact .inr H0LP
              · exact .inl rfl
            · exact sfr z (List.mem_append_right _ hz)
end

/-! ### ascending -/
theorem scAsc : FnScope ["rows", "ordered", "row", "at"] ["rows"] (defScope sAsc) := ⟨rfl, rfl, rfl, by decide +kernel, rfl, by decide +kernel, by decide +kernel⟩
def spAsc (K : PySem.W.Frag) : Sp := fun vs H Q _ => ∃ (a : Addr) (xs : List (V × PyData)), vs = [.ref a] ∧ SqL K H a (xs.map (·.1)) ∧ (∀ p ∈ xs, Dp K H p.1 p.2 ∧ p.2 ≠ .none ∧ p.2.depth ≤ 60) ∧ (∀ p ∈ xs, ∀ q ∈ xs, PySem.W.alike p.2 q.2 = true) ∧ xs.length ≤ 10000 ∧
  ∀ l, H l = none → Q (.ref l) (upd H l (.lst ((asc ltP xs).map (·.1))))
section
variable {P : Program} {w : World} {K : PySem.W.Frag} {mg : Str → Option Value} {base : Heap}
theorem ok_asc {f : Addr} {fd : FuncData} (F : FnP K "ascending" sAsc f fd) (T : Bi mg) : FnOk P w K mg base (L2.CX P w) 2 f fd ["rows"] (spAsc K) := by
  refine F.ok scAsc (fun vs H Q E h => ?_) (fun cdv A outer s H vs Q E hr h => ?_)
  · obtain ⟨a, xs, rfl, _⟩ := h
    rfl
  · obtain ⟨a, xs, rfl, hS, hD, hal, hz, kQ⟩ := h
    have nd := scAsc.nd
    refine ⟨_, (pss_cons (ps_set (i := 1) nd rfl (Or.inl rfl) (pe_lst pa_nil))
      (pss_cons (ps_for (passes_of rfl) rfl (pi_list (pv 0)) (pg_name (i := 2) nd rfl (Or.inl rfl)) (pss_cons (ps_set (i := 3) nd rfl (Or.inl rfl) (pe_callB call_len_seq (by rfl) T.len PySem.boot_len (pa_cons (pv 1) pa_nil)))
        (pss_cons (ps_while (passes_of rfl) (PW.pt (pw_and (pt_cmpR op_gt (pv 3) pe_int (nomark _)) (pw_and1 (pt_cmpR (op_ltD hr.units) (pv 2) (pe_ix ix_list (pv 1) (pe_op op_sub (pv 3) pe_int) (fun _ _ => rfl)) (nomark _))))) (pss_one (ps_set (i := 3) nd rfl (Or.inl rfl) (pe_op op_sub (pv 3) pe_int))))
        (pss_one (ps_expr (pe_bm PySem.F.plainAttrs_list PySem.F.slot_list_insert PySem.F.type_list_insert mt_insert (pv 1) (pa_cons (pv 3) (pa_cons (pv 2) pa_nil))))))))
      (pss_one (ps_ret (pv 1))))), ?_⟩
    walk_at "go"
    refine fun l hl => ?_
    walk_at "go"
    refine ⟨⟨_, (Same.new (Same.refl H) hl).seq hS⟩, for_list (K := K) (a := a) (xs := xs.map (·.1))
      (fun i σ H1 => ∃ (R : List (V × PyData)) (r k : Option V), R = (xs.take i).foldl (fun acc x => insR ltP x acc) [] ∧ σ = [some (.ref a), some (.ref l), r, k] ∧ H1 = upd H l (.lst (R.reverse.map (·.1))))
      ⟨[], none, none, rfl, rfl, rfl⟩ (fun i σ H1 _ ⟨R, _, _, _, _, e⟩ => by rw [e]; exact ((Same.refl H).new hl).seq hS) ?_ ?_⟩
    · rintro i y σ H1 hi ⟨R, r, k, eR, rfl, rfl⟩
      have hil : i < xs.length := by
        have := lt_of_at hi
        rwa [List.length_map] at this
      obtain ⟨x, hx, rfl⟩ : ∃ x, xs[i]? = some x ∧ y = x.1 := by
        rw [List.getElem?_map] at hi
        cases e : xs[i]? with
        | none => rw [e] at hi; cases hi
        | some x => rw [e] at hi; exact ⟨x, rfl, (Option.some.inj hi).symm⟩
      have hxm : x ∈ xs := List.mem_of_getElem? hx
      have hRm : ∀ p ∈ R, p ∈ xs := fun p hp => by
        rw [eR] at hp
        have := (asc_fold_perm ltP (xs.take i) []).mem_iff.mp hp
        rw [List.append_nil] at this
        exact List.mem_of_mem_take this
      have hRl : R.length = i := by
        rw [eR, (asc_fold_perm ltP (xs.take i) []).length_eq, List.append_nil, List.length_take]
        omega
      have eR' : insR ltP x R = (xs.take (i + 1)).foldl (fun acc x => insR ltP x acc) [] := by
        rw [List.take_add_one, hx, List.foldl_append, ← eR]
        rfl
      have s1 : Same H (upd H l (.lst (R.reverse.map (·.1)))) := (Same.refl H).new hl
      walk_at "go"
      refine ⟨l, _, rfl, .inl (SqL.of upd_same), ?_⟩
      -- while at > 0 and row < ordered[at - 1]
      refine ⟨fun m σ H2 => ∃ (R1 R2 : List (V × PyData)), R = R1 ++ R2 ∧ m = R2.length ∧ (∀ e ∈ R1, ltP x e = true) ∧ σ = [some (.ref a), some (.ref l), some x.1, some (.int (R2.length : Nat))] ∧ H2 = upd H l (.lst (R.reverse.map (·.1))), ⟨R.length, [], R, rfl, rfl, (fun _ h => by cases h), by rw [List.length_map, List.length_reverse]; rfl, rfl⟩, ?_⟩
      rintro m σ H2 ⟨R1, R2, e12, rfl, hlt, rfl, rfl⟩
      have hsz : ((R1 ++ R2).reverse.map (·.1)).length < sizeLine := by
        rw [List.length_map, List.length_reverse, ← e12]
        exact size_ok (m := 10000) (by omega) (by decide)
      have ins : (∀ e r, R2 = e :: r → ltP x e = false) → ((R1 ++ R2).reverse.map (·.1)).take R2.length ++ [x.1] ++ ((R1 ++ R2).reverse.map (·.1)).drop R2.length = (insR ltP x R).reverse.map (·.1) := fun h2 => by
        rw [e12, insR_split hlt h2, List.reverse_append, List.map_append, List.take_left' (by rw [List.length_map, List.length_reverse]), List.drop_left' (by rw [List.length_map, List.length_reverse])]
        simp
      walk_at "go"
      cases R2 with
      | nil =>
        refine ite2 (fun c => absurd (of_decide_eq_true c) (by simp)) (fun _ => ?_)
        refine ⟨_, rfl, .inl ⟨rfl, _, SqL.of upd_same⟩, _, rfl, _, rfl, l, _, _, _, rfl, rfl, upd_same, by rw [e12]; exact hsz, by decide, by decide, ?_⟩
        refine ⟨insR ltP x R, _, _, eR', rfl, ?_⟩
        rw [upd_upd, e12]
        exact congrArg (fun z => upd H l (.lst z)) (ins (fun e r h => by cases h) |>.trans (by rw [e12]))
      | cons e r =>
        refine ite2 (fun _ => ?_) (fun c => absurd c (by simp))
        have hem : e ∈ R := by rw [e12]; exact List.mem_append_right _ List.mem_cons_self
        have hat : atI (R.reverse.map (·.1)) (((e :: r).length : Nat) - 1 : Int) = some e.1 := by
          have e0 : (((e :: r).length : Nat) - 1 : Int) = (r.length : Nat) := by rw [List.length_cons]; omega
          rw [e0, e12]
          refine atI_nat ?_
          rw [List.reverse_append, List.reverse_cons, List.map_append, List.map_append, List.getElem?_append_left (by simp), List.getElem?_append_right (by simp)]
          simp
        refine ⟨_, rfl, _, rfl, _, rfl, _, _, rfl, rfl, l, _, _, _, rfl, rfl, SqL.of upd_same, hat, x.2, e.2, dp_same s1 (hD x hxm).1, dp_same s1 (hD e (hRm e hem)).1, hal x hxm e (hRm e hem), (hD x hxm).2.1, (hD x hxm).2.2, _, rfl, ?_⟩
        show (if ltP x e = true then _ else _)
        cases q : ltP x e with
        | true =>
          refine iteT ?_
          refine ⟨fun σ' H' => ∃ m', m' < (e :: r).length ∧ ∃ (R1 R2 : List (V × PyData)), R = R1 ++ R2 ∧ m' = R2.length ∧ (∀ e ∈ R1, ltP x e = true) ∧ σ' = [some (.ref a), some (.ref l), some x.1, some (.int (R2.length : Nat))] ∧ H' = upd H l (.lst (R.reverse.map (·.1))), fun _ _ z => z, ?_⟩
          walk_at "go"
          refine ⟨r.length, by simp, R1 ++ [e], r, by rw [e12]; simp, rfl, fun b hb => ?_, ?_, rfl⟩
          · rcases List.mem_append.mp hb with hb | hb
            · exact hlt b hb
            · rw [List.mem_singleton.mp hb]; exact q
          · have e0 : (((e :: r).length : Nat) : Int) - 1 = (r.length : Nat) := by rw [List.length_cons]; omega
            show [some (V.ref a), some (V.ref l), some x.1, some (V.int ((((e :: r).length : Nat) : Int) - 1))] = _
            rw [e0]
        | false =>
          refine iteF ?_
          refine ⟨_, rfl, .inl ⟨rfl, _, SqL.of upd_same⟩, _, rfl, _, rfl, l, _, _, _, rfl, rfl, upd_same, by rw [e12]; exact hsz, by omega, by rw [List.length_cons]; have : r.length ≤ R.length := (by rw [e12]; simp; omega); omega, ?_⟩
          refine ⟨insR ltP x R, _, _, eR', rfl, ?_⟩
          rw [upd_upd, e12]
          exact congrArg (fun z => upd H l (.lst z)) (ins (fun e' r' h => by cases h; exact q) |>.trans (by rw [e12]))
    · rintro σ H1 ⟨R, r, k, eR, rfl, rfl⟩
      rw [List.length_map, List.take_length] at eR
      walk_at "go"
      have z := kQ l hl
      unfold asc at z
      rw [eR]
      exact z
end

/-! ### Load.__contains__, Load.carried; Channel.late -/
theorem scLoC : FnScope ["self", "item"] ["self", "item"] (defScope sLoC) := ⟨rfl, rfl, rfl, by decide +kernel, rfl, by decide +kernel, by decide +kernel⟩
theorem scLoR : FnScope ["self"] ["self"] (defScope sLoR) := ⟨rfl, rfl, rfl, by decide +kernel, rfl, by decide +kernel, by decide +kernel⟩
theorem scChG : FnScope ["self"] ["self"] (defScope sChG) := ⟨rfl, rfl, rfl, by decide +kernel, rfl, by decide +kernel, by decide +kernel⟩
def spLoC (K : PySem.W.Frag) : Sp := fun vs H Q _ => ∃ (p C dx l : Addr) (fs : List (Str × V)) (x : Str) (xs : List Str), vs = [.ref p, .str x] ∧ H p = some (.ins C dx fs) ∧ Cls K C ∧ NoAttr K C "names" ∧ fs.lookup ("names" : Str) = some (.ref l) ∧ SqL K H l (xs.map V.str) ∧ Q (.bl (decide (x ∈ xs))) H
def spLoR (K : PySem.W.Frag) : Sp := fun vs H Q _ => ∃ (p C dx l : Addr) (fs : List (Str × V)) (xs : List Str), vs = [.ref p] ∧ H p = some (.ins C dx fs) ∧ Cls K C ∧ NoAttr K C "names" ∧ fs.lookup ("names" : Str) = some (.ref l) ∧ SqL K H l (xs.map V.str) ∧ xs.length ≤ 10000 ∧
  ∀ r, H r = none → Q (.ref r) (upd H r (.lst ((upS xs).map V.str)))
section
variable {P : Program} {w : World} {K : PySem.W.Frag} {mg : Str → Option Value} {base : Heap}
theorem ok_loC {f : Addr} {fd : FuncData} (F : FnQ K "__contains__" "Load.__contains__" sLoC f fd) : FnOk P w K mg base (L2.CX P w) 1 f fd ["self", "item"] (spLoC K) := by
  refine F.ok scLoC (fun vs H Q E h => ?_) (fun cdv A outer s H vs Q E hr h => ?_)
  · obtain ⟨p, C, dx, l, fs, x, xs, rfl, _⟩ := h
    rfl
  · obtain ⟨p, C, dx, l, fs, x, xs, rfl, hp, cl, n1, l1, hS, kQ⟩ := h
    have nd := scLoC.nd
    refine ⟨_, (pss_one (ps_ret (pe_cmpR op_in_seq (pv 1) (pe_fld (pv 0) rfl) (by rfl)))), ?_⟩
    refine ⟨_, rfl, _, rfl, p, C, dx, fs, _, rfl, hp, cl, n1, l1, l, _, rfl, .inl hS, rfl, flat_strs _, ?_⟩
    show Q (.bl (inV (.str x) (xs.map V.str))) H
    rw [inV_strs]
    exact kQ
theorem ok_loR {f : Addr} {fd : FuncData} (F : FnQ K "carried" "Load.carried" sLoR f fd) (g_ascending : Cal P w K mg base 2 "ascending" ["rows"] (spAsc K)) : FnOk P w K mg base (L2.CX P w) 3 f fd ["self"] (spLoR K) := by
  refine F.ok scLoR (fun vs H Q E h => ?_) (fun cdv A outer s H vs Q E hr h => ?_)
  · obtain ⟨p, C, dx, l, fs, xs, rfl, _⟩ := h
    rfl
  · obtain ⟨p, C, dx, l, fs, xs, rfl, hp, cl, n1, l1, hS, hz, kQ⟩ := h
    have nd := scLoR.nd
    refine ⟨_, (pss_one (ps_ret (pe_cal g_ascending hr takes0 (pa_cons (pe_fld (pv 0) rfl) pa_nil)))), ?_⟩
    refine ⟨_, rfl, p, C, dx, fs, _, rfl, hp, cl, n1, l1, l, xs.map dS, rfl, by rw [List.map_map]; exact hS, ?_, ?_, by rw [List.length_map]; exact hz, fun r hr => ?_⟩
    · intro q hq
      obtain ⟨s, _, rfl⟩ := List.mem_map.mp hq
      exact ⟨.str s, (fun e => by cases e), Nat.zero_le _⟩
    · intro q hq r hr
      obtain ⟨s, _, rfl⟩ := List.mem_map.mp hq
      obtain ⟨t, _, rfl⟩ := List.mem_map.mp hr
      rfl
    · rw [asc_dS]
      exact kQ r hr
theorem prp_late {f p C : Addr} {fd : FuncData} (F : FnQ K "late" "Channel.late" sChG f fd) (c : Cls K C) (hp : PropOf K C "late" p f) (n : NoAttr K C "kind") : Prp P w K mg base C "late" "kind" := by
  refine ⟨c, p, f, fd, hp, F.bindsN (ps := ["self"]) (fun _ _ _ _ _ _ us hl => match us, hl with | [_], _ => rfl), ?_⟩
  refine F.ok scChG (fun vs H Q E h => ?_) (fun cdv A outer s H vs Q E hr h => ?_)
  · obtain ⟨a, dx, fs, v, rfl, _⟩ := h
    rfl
  · obtain ⟨a, dx, fs, v, rfl, ea, l, q⟩ := h
    have nd := scChG.nd
    refine ⟨_, (pss_one (ps_ret (pe_fld (pv 0) rfl))), ?_⟩
    walk_at "go"
    exact ⟨a, C, dx, fs, v, rfl, ea, c, n, l, q⟩
end

/-! ### Placement.rows -/
theorem scRw : FnScope ["self", "homes", "name", "lines", "channels", "line"] ["self"] (defScope sRw) := ⟨rfl, rfl, rfl, by decide +kernel, rfl, by decide +kernel, by decide +kernel⟩
/-- a row whose list of items is new since H0 -/
def RwN (H0 H : Hp) (v : V) (l : Ln) : Prop := ∃ t a, v = .ref t ∧ H t = some (.tup (rwV l a)) ∧ H a = some (.lst ((upS l.it).map V.str)) ∧ H0 a = none
theorem stRwN {H0 : Hp} : Stay (RwN H0) := fun H H' v x s ⟨t, a, e, h, q, n⟩ => ⟨t, a, e, s _ _ h, s _ _ q, n⟩
theorem RwN.toU {H0 H : Hp} {v : V} {l : Ln} (h : RwN H0 H v l) : RwU H v l := let ⟨t, a, e, h1, q, _⟩ := h; ⟨t, a, e, h1, q⟩
/-- what rows hands back: new objects -/
structure RowsA (H H' : Hp) (T A B C : Addr) (sites : List Str) (homes : List (Str × Str)) (lines : List Ln) : Prop where
  s : Same H H'
  nA : H A = none
  hT : H' T = some (.tup [.ref A, .ref B, .ref C])
  hA : H' A = some (.lst ((upS sites).map V.str))
  hB : LsA PsA H' B (asc (ltN (·.1)) homes)
  hN : LsA (RwN H) H' C (asc (ltN (·.nm)) lines)
  nB : H B = none
  nC : H C = none
theorem RowsA.hC {H H' : Hp} {T A B C : Addr} {sites : List Str} {homes : List (Str × Str)} {lines : List Ln} (x : RowsA H H' T A B C sites homes lines) : LsA RwU H' C (asc (ltN (·.nm)) lines) :=
  let ⟨vs, h, p⟩ := x.hN
  ⟨vs, h, p.mono fun _ _ q => q.toU⟩
theorem at_mapG {α β : Type} {f : α → β} {l : List α} {i : Nat} {y : β} (h : (l.map f)[i]? = some y) : ∃ x, l[i]? = some x ∧ y = f x := by
  rw [List.getElem?_map] at h
  cases e : l[i]? with
  | none => rw [e] at h; cases h
  | some x => rw [e] at h; exact ⟨x, rfl, (Option.some.inj h).symm⟩
theorem asc_strs {K : PySem.W.Frag} {H : Hp} {Q : VK} {E : XK} {a : Addr} {l : List Str} (h : H a = some (.lst (l.map V.str))) (hz : l.length ≤ 10000) (kQ : ∀ r, H r = none → Q (.ref r) (upd H r (.lst ((upS l).map V.str)))) : spAsc K [.ref a] H Q E := by
  refine ⟨a, l.map dS, rfl, by rw [List.map_map]; exact SqL.of h, ?_, ?_, by rw [List.length_map]; exact hz, fun r hr => ?_⟩
  · intro q hq
    obtain ⟨s, _, rfl⟩ := List.mem_map.mp hq
    exact ⟨.str s, (fun e => by cases e), Nat.zero_le _⟩
  · intro q hq r hr
    obtain ⟨s, _, rfl⟩ := List.mem_map.mp hq
    obtain ⟨t, _, rfl⟩ := List.mem_map.mp hr
    rfl
  · rw [asc_dS]
    exact kQ r hr
def spRw (CP CI CC : Addr) : Sp := fun vs H Q _ => ∃ (H0 : Hp) (s : PSt) (wy : Ways), vs = [.ref s.p] ∧ PlA CP CI CC H0 H s wy ∧ s.places.length ≤ 100 ∧ s.lines.length ≤ 100 ∧ s.seats.length ≤ 100 ∧ (∀ c ∈ s.lines, c.l.it.length ≤ 100) ∧
  ∀ T A B C H', RowsA H H' T A B C s.places s.homes s.lns → Q (.ref T) H'
section
variable {P : Program} {w : World} {K : PySem.W.Frag} {mg : Str → Option Value} {base : Heap}
theorem ok_rw {f CP CI CC : Addr} {fd : FuncData} (F : FnQ K "rows" "Placement.rows" sRw f fd) (T : Bj mg) (g_ascending : Cal P w K mg base 2 "ascending" ["rows"] (spAsc K)) (g_carried : Mth P w K mg base 3 CC "carried" ["self"] (spLoR K))
    (cP : Cls K CP) (nP : ∀ f ∈ plFs, NoAttr K CP f) (cI : Cls K CI) (nI : ∀ f ∈ (["owner", "name", "seat"] : List Str), NoAttr K CI f) (cC : Cls K CC) (nC : ∀ f ∈ (["source", "target", "names", "name", "kind"] : List Str), NoAttr K CC f) :
    FnOk P w K mg base (L2.CX P w) 4 f fd ["self"] (spRw CP CI CC) := by
  refine F.ok scRw (fun vs H Q E h => ?_) (fun cdv A outer s H vs Q E hr h => ?_)
  · obtain ⟨H0, s, wy, rfl, _⟩ := h
    rfl
  · obtain ⟨H0, s, wy, rfl, pl, zp, zl, zs, zi, kQ⟩ := h
    have nd := scRw.nd
    have hu := hu_of hr
    refine ⟨_, (pss_cons (ps_setLc (i := 1) (own := [("name", 2)]) (g := gName 2) (tt := tYes) (by rfl) nd rfl rfl (sw_true rfl rfl rfl (by decide +kernel)) (pi_list (pe_cal g_ascending hr takes0 (pa_cons (pe_callTy (call_listD rfl) (by rfl) T.list (by decide +kernel) (pa_cons (pe_fld (pv 0) rfl) pa_nil)) pa_nil))) (blkOk_by (own := [("name", 2)]) (N := ["self", "homes", "name", "lines", "channels", "line"]) (sc := defScope sRw) (by decide +kernel)) (fun _ _ _ _ _ => (pg_name (i := 2) nd rfl (Or.inl rfl))) (fun _ _ _ _ _ => pts_nil) (fun _ _ _ _ _ => (pe_tup (pa_cons (pv 2) (pa_cons (show PE _ _ (tFld K _ _) from (pe_fld (pe_dget hu (show PE _ _ (tFld K _ _) from (pe_fld (pv 0) rfl)) (pv 2) (fun _ _ => rfl)) rfl)) pa_nil)))))
      (pss_cons (ps_setLc (i := 3) (own := [("name", 2)]) (g := gName 2) (tt := tYes) (by rfl) nd rfl rfl (sw_true rfl rfl rfl (by decide +kernel)) (pi_list (pe_cal g_ascending hr takes0 (pa_cons (pe_callTy (call_listD rfl) (by rfl) T.list (by decide +kernel) (pa_cons (pe_fld (pv 0) rfl) pa_nil)) pa_nil))) (blkOk_by (own := [("name", 2)]) (N := ["self", "homes", "name", "lines", "channels", "line"]) (sc := defScope sRw) (by decide +kernel)) (fun _ _ _ _ _ => (pg_name (i := 2) nd rfl (Or.inl rfl))) (fun _ _ _ _ _ => pts_nil) (fun _ _ _ _ _ => (pe_dget hu (show PE _ _ (tFld K _ _) from (pe_fld (pv 0) rfl)) (pv 2) (fun _ _ => rfl))))
      (pss_cons (ps_setLc (i := 4) (own := [("line", 5)]) (g := gName 5) (tt := tYes) (by rfl) nd rfl rfl (sw_true rfl rfl rfl (by decide +kernel)) (pi_list (pv 3)) (blkOk_by (own := [("line", 5)]) (N := ["self", "homes", "name", "lines", "channels", "line"]) (sc := defScope sRw) (by decide +kernel)) (fun _ _ _ _ _ => (pg_name (i := 5) nd rfl (Or.inl rfl))) (fun _ _ _ _ _ => pts_nil) (fun _ _ _ _ _ => (pe_tup (pa_cons (show PE _ _ (tFld K _ _) from (pe_fld (pv 5) rfl)) (pa_cons (show PE _ _ (tFld K _ _) from (pe_fld (pv 5) rfl)) (pa_cons (show PE _ _ (tFld K _ _) from (pe_fld (pv 5) rfl)) (pa_cons (show PE _ _ (tMthE P w K mg base _ _ _ _ tNil) from (pe_mthE0 hr takes0 (pv 5))) (pa_cons (show PE _ _ (tFld K _ _) from (pe_fld (pv 5) rfl)) pa_nil))))))))
      (pss_one (ps_ret (pe_tup (pa_cons (pe_cal g_ascending hr takes0 (pa_cons (pe_fld (pv 0) rfl) pa_nil)) (pa_cons (pv 1) (pa_cons (pv 4) pa_nil))))))))), ?_⟩
    have hnd : (s.seats.map (·.nm)).Nodup := by
      have := pl.o.hN
      unfold Gd.goods PSt.g at this
      rw [List.map_map] at this
      exact this
    have hnl : (s.lines.map (·.l.nm)).Nodup := by
      have := pl.o.lN
      unfold PSt.g at this
      rw [List.map_map] at this
      exact this
    refine ⟨_, rfl, s.p, CP, s.dp, _, .ref s.DS, rfl, pl.hp, cP, nP _ (by simp [plFs]), rfl, s.DS, kvS s.seats, rfl, .inl pl.hDS, fun L1 n1 => ?_⟩
    have e1 : (kvS s.seats).map (fun kv => kV kv.1) = (s.seats.map (·.nm)).map V.str := by
      unfold kvS
      rw [List.map_map, List.map_map]
      rfl
    rw [e1]
    have s1 : Same H (upd H L1 (.lst ((s.seats.map (·.nm)).map V.str))) := (Same.refl _).new n1
    have hL1 : (upd H L1 (.lst ((s.seats.map (·.nm)).map V.str))) L1 = some (.lst ((s.seats.map (·.nm)).map V.str)) := upd_same
    generalize upd H L1 (.lst ((s.seats.map (·.nm)).map V.str)) = H1 at *
    simp only [tNil]
    refine asc_strs hL1 (by rw [List.length_map]; omega) fun L2 n2 => ?_
    rw [upS_map]
    have s2 : Same H1 (upd H1 L2 (.lst (((asc (ltN (·.nm)) s.seats).map (·.nm)).map V.str))) := (Same.refl _).new n2
    have hL2 : (upd H1 L2 (.lst (((asc (ltN (·.nm)) s.seats).map (·.nm)).map V.str))) L2 = some (.lst (((asc (ltN (·.nm)) s.seats).map (·.nm)).map V.str)) := upd_same
    generalize upd H1 L2 (.lst (((asc (ltN (·.nm)) s.seats).map (·.nm)).map V.str)) = H2 at *
    have s02 := s1.trans s2
    have pS : (asc (ltN (·.nm)) s.seats).Perm s.seats := asc_perm _ _
    have eSS : (asc (ltN (·.nm)) s.seats).map (fun i => (i.nm, i.st)) = asc (ltN (·.1)) s.homes := (asc_map (lt := ltN fun i : Seat => i.nm) (lt2 := ltN fun x : Str × Str => x.1) (f := fun i : Seat => (i.nm, i.st)) (fun _ _ => rfl) _).symm
    generalize asc (ltN (·.nm)) s.seats = SS at *
    refine ⟨L2, rfl, ⟨_, SqL.of hL2⟩, fun D nD => ?_⟩
    refine lc_list (K := K) (a := L2) (xs := (SS.map (·.nm)).map V.str) (fun i H3 => ∃ us, GS PsA H2 D H3 us ((SS.take i).map fun i => (i.nm, i.st))) ⟨[], GS.start nD⟩ (fun i H3 _ ⟨_, f⟩ => SqL.of (f.s _ _ hL2)) ?_ ?_
    · rintro i y H3 hi ⟨us, f⟩
      obtain ⟨x, hx, rfl⟩ := at_map hi
      obtain ⟨st, hst, rfl⟩ := at_mapG hx
      have sm : st ∈ s.seats := pS.mem_iff.mp (List.mem_of_getElem? hst)
      have pl3 := pl.same (s02.trans f.s)
      refine ⟨rfl, tYes_if ?_⟩
      refine ⟨_, rfl, _, rfl, s.p, CP, s.dp, _, .ref s.DS, rfl, pl3.hp, cP, nP _ (by simp [plFs]), rfl, _, rfl, s.DS, _, rfl, (by have z := DGet.k (k := Sum.inr st.nm) pl3.hDS; unfold kvS at z; rw [valV_map_in hnd sm] at z; exact z), st.a, CI, st.dx, _, .str st.st, rfl, pl3.hse sm, cI, nI _ (by simp), rfl, (show 2 ≤ sizeLine by decide), fun T2 n2 => ?_⟩
      have f2 := f.new stPs (o := .tup [V.str st.nm, .str st.st]) n2
      have hT2 : (upd H3 T2 (.tup [V.str st.nm, .str st.st])) T2 = some (.tup [V.str st.nm, .str st.st]) := upd_same
      have := f.pw.len
      rw [List.length_map, List.length_take] at this
      have := pS.length_eq
      refine ⟨us, f2.hL, size_ok (m := 1000) (by omega) (by decide), us ++ [V.ref T2], ?_⟩
      rw [take_snoc hst, List.map_append]
      exact f2.app nD ⟨T2, rfl, f2.del hT2⟩
    rintro H3 ⟨hv, f⟩
    rw [List.length_map, List.length_map, List.take_length, eSS] at f
    obtain ⟨hv', hD3, pB⟩ := f.done stPs
    rw [f.hL] at hD3
    cases hD3
    have hD3 := f.hL
    have s03 := s02.trans f.s
    clear f
    have pl3 := pl.same s03
    refine ⟨_, rfl, s.p, CP, s.dp, _, .ref s.DL, rfl, pl3.hp, cP, nP _ (by simp [plFs]), rfl, s.DL, kvL s.lines, rfl, .inl pl3.hDL, fun L3 n3 => ?_⟩
    have e3 : (kvL s.lines).map (fun kv => kV kv.1) = (s.lines.map (·.l.nm)).map V.str := by
      unfold kvL
      rw [List.map_map, List.map_map]
      rfl
    rw [e3]
    have s4 : Same H3 (upd H3 L3 (.lst ((s.lines.map (·.l.nm)).map V.str))) := (Same.refl _).new n3
    have hL3 : (upd H3 L3 (.lst ((s.lines.map (·.l.nm)).map V.str))) L3 = some (.lst ((s.lines.map (·.l.nm)).map V.str)) := upd_same
    generalize upd H3 L3 (.lst ((s.lines.map (·.l.nm)).map V.str)) = H4 at *
    simp only [tNil]
    refine asc_strs hL3 (by rw [List.length_map]; omega) fun L4 n4 => ?_
    rw [upS_map (fun c : Cn => c.l.nm)]
    have s5 : Same H4 (upd H4 L4 (.lst (((asc (ltN fun c : Cn => c.l.nm) s.lines).map fun c => c.l.nm).map V.str))) := (Same.refl _).new n4
    have hL4 : (upd H4 L4 (.lst (((asc (ltN fun c : Cn => c.l.nm) s.lines).map fun c => c.l.nm).map V.str))) L4 = some (.lst (((asc (ltN fun c : Cn => c.l.nm) s.lines).map fun c => c.l.nm).map V.str)) := upd_same
    generalize upd H4 L4 (.lst (((asc (ltN fun c : Cn => c.l.nm) s.lines).map fun c => c.l.nm).map V.str)) = H5 at *
    have pL : (asc (ltN fun c : Cn => c.l.nm) s.lines).Perm s.lines := asc_perm _ _
    have eLL : (asc (ltN fun c : Cn => c.l.nm) s.lines).map (·.l) = asc (ltN (·.nm)) s.lns := (asc_map (lt := ltN fun c : Cn => c.l.nm) (lt2 := ltN fun x : Ln => x.nm) (f := fun c : Cn => c.l) (fun _ _ => rfl) _).symm
    generalize asc (ltN fun c : Cn => c.l.nm) s.lines = LL at *
    have s35 := s4.trans s5
    have s05 := s03.trans s35
    have pl5 := pl.same s05
    refine ⟨L4, rfl, ⟨_, SqL.of hL4⟩, fun D2 nD2 => ?_⟩
    refine lc_list (K := K) (a := L4) (xs := (LL.map fun c => c.l.nm).map V.str) (fun i H6 => H6 = upd H5 D2 (.lst ((LL.take i).map fun c => V.ref c.a))) rfl (fun i H6 _ e => by rw [e]; exact ((Same.refl _).new nD2).seq (SqL.of hL4)) ?_ ?_
    · rintro i y H6 hi rfl
      obtain ⟨x, hx, rfl⟩ := at_map hi
      obtain ⟨c, hc, rfl⟩ := at_mapG hx
      have cm : c ∈ s.lines := pL.mem_iff.mp (List.mem_of_getElem? hc)
      have pl6 := pl5.same ((Same.refl H5).new (o := .lst ((LL.take i).map fun c => V.ref c.a)) nD2)
      have := pL.length_eq
      refine ⟨rfl, tYes_if ⟨_, rfl, s.p, CP, s.dp, _, .ref s.DL, rfl, pl6.hp, cP, nP _ (by simp [plFs]), rfl, _, rfl, s.DL, .ref c.a, rfl, (by have z := DGet.k (k := Sum.inr c.l.nm) pl6.hDL; unfold kvL at z; rw [valV_map_in hnl cm] at z; exact z), _, upd_same, ?_, ?_⟩⟩
      · rw [List.length_map, List.length_take]
        exact size_ok (m := 1000) (by omega) (by decide)
      · rw [upd_upd, take_snoc hc, List.map_append]
        rfl
    rintro H6 rfl
    rw [List.length_map, List.length_map, List.take_length]
    have s6 : Same H5 (upd H5 D2 (.lst (LL.map fun c => V.ref c.a))) := (Same.refl _).new nD2
    have hD2 : (upd H5 D2 (.lst (LL.map fun c => V.ref c.a))) D2 = some (.lst (LL.map fun c => V.ref c.a)) := upd_same
    generalize upd H5 D2 (.lst (LL.map fun c => V.ref c.a)) = H6 at *
    have s06 := s05.trans s6
    refine ⟨_, rfl, D2, rfl, ⟨_, SqL.of hD2⟩, fun D3 nD3 => ?_⟩
    refine lc_list (K := K) (a := D2) (xs := LL.map fun c => V.ref c.a) (fun i H7 => ∃ us, GS (RwN H) H6 D3 H7 us ((LL.take i).map (·.l))) ⟨[], GS.start nD3⟩ (fun i H7 _ ⟨_, f⟩ => SqL.of (f.s _ _ hD2)) ?_ ?_
    · rintro i y H7 hi ⟨us, f⟩
      obtain ⟨c, hc, rfl⟩ := at_map hi
      have cm : c ∈ s.lines := pL.mem_iff.mp (List.mem_of_getElem? hc)
      have pl7 := pl.same (s06.trans f.s)
      have hca := pl7.hca cm
      refine ⟨rfl, tYes_if ?_⟩
      refine ⟨_, rfl, c.a, CC, c.dx, _, .str c.l.nm, rfl, hca, cC, nC _ (by simp), rfl, ?_⟩
      refine ⟨_, rfl, c.a, CC, c.dx, _, .str c.l.src, rfl, hca, cC, nC _ (by simp), rfl, ?_⟩
      refine ⟨_, rfl, c.a, CC, c.dx, _, .str c.l.tgt, rfl, hca, cC, nC _ (by simp), rfl, ?_⟩
      refine ⟨_, rfl, c.a, CC, c.dx, _, _, _, _, rfl, hca, g_carried, (by decide), rfl, c.a, CC, c.dx, c.la, _, c.l.it, rfl, hca, cC, nC _ (by simp), rfl, SqL.of (pl7.hla cm), (by have := zi c cm; omega), fun b nb => ?_⟩
      have f2 := f.new stRwN (o := .lst ((upS c.l.it).map V.str)) nb
      have hb : (upd H7 b (.lst ((upS c.l.it).map V.str))) b = some (.lst ((upS c.l.it).map V.str)) := upd_same
      have hca2 : (upd H7 b (.lst ((upS c.l.it).map V.str))) c.a = some (.ins CC c.dx (cnF c)) := (Same.refl _).new nb _ _ hca
      have bD : b ≠ D3 := fun e => by rw [e, f.hL] at nb; cases nb
      generalize upd H7 b (.lst ((upS c.l.it).map V.str)) = H8 at *
      refine ⟨_, rfl, c.a, CC, c.dx, _, kindV c.l.kd, rfl, hca2, cC, nC _ (by simp), rfl, (show 5 ≤ sizeLine by decide), fun T2 n2 => ?_⟩
      have f3 := f2.new stRwN (o := .tup (rwV c.l b)) n2
      have hT2 : (upd H8 T2 (.tup (rwV c.l b))) T2 = some (.tup (rwV c.l b)) := upd_same
      have hb3 : (upd H8 T2 (.tup (rwV c.l b))) b = some (.lst ((upS c.l.it).map V.str)) := (Same.refl _).new n2 _ _ hb
      have := f.pw.len
      rw [List.length_map, List.length_take] at this
      have := pL.length_eq
      refine ⟨us, f3.hL, size_ok (m := 1000) (by omega) (by decide), us ++ [V.ref T2], ?_⟩
      rw [take_snoc hc, List.map_append]
      exact f3.app nD3 ⟨T2, b, rfl, f3.del hT2, by rw [delH_ne bD]; exact hb3, none_of nb (s06.trans f.s)⟩
    rintro H7 ⟨cv, f⟩
    rw [List.length_map, List.take_length, eLL] at f
    obtain ⟨cv', hD7, pC⟩ := f.done stRwN
    rw [f.hL] at hD7
    cases hD7
    have hD7 := f.hL
    have s67 := f.s
    clear f
    have s07 := s06.trans s67
    have pl7 := pl.same s07
    refine ⟨_, rfl, s.p, CP, s.dp, _, .ref s.LP, rfl, pl7.hp, cP, nP _ (by simp [plFs]), rfl, ?_⟩
    simp only [tNil]
    refine asc_strs pl7.hLP (by omega) fun A nA => ?_
    have s8 : Same H7 (upd H7 A (.lst ((upS s.places).map V.str))) := (Same.refl _).new nA
    have hA : (upd H7 A (.lst ((upS s.places).map V.str))) A = some (.lst ((upS s.places).map V.str)) := upd_same
    generalize upd H7 A (.lst ((upS s.places).map V.str)) = H8 at *
    refine ⟨_, rfl, _, rfl, (show 3 ≤ sizeLine by decide), fun T2 n2 => ?_⟩
    have s9 : Same H8 (upd H8 T2 (.tup [.ref A, .ref D, .ref D3])) := (Same.refl _).new n2
    have s79 := s8.trans s9
    have s39 := (s35.trans s6).trans (s67.trans s79)
    refine kQ T2 A D D3 _ ⟨s07.trans s79, s07.free nA, upd_same, s9 _ _ hA, ⟨hv, s39 _ _ hD3, pB.mono fun v x => stPs _ _ v x s39⟩, ⟨cv, s79 _ _ hD7, pC.mono fun v x => stRwN _ _ v x s79⟩, s02.free nD, s06.free nD3⟩
end

/-! ### rows compared -/
theorem eqD_of {K : PySem.W.Frag} {x y : V} {H : Hp} {Q : VK} {d : PyData} (h1 : Dp K H x d) (h2 : Dp K H y d) (l : d.canLay0 = true ∧ d.depth ≤ 64) (q : Q (.bl true) H) : rEqD K x y H Q :=
  ⟨d, d, h1, h2, shaped_of l, shaped_of l, by rw [SeqAt.eqv_refl _ l.1]; exact q⟩
theorem neD_of {K : PySem.W.Frag} {x y : V} {H : Hp} {Q : VK} {d : PyData} (h1 : Dp K H x d) (h2 : Dp K H y d) (l : d.canLay0 = true ∧ d.depth ≤ 64) (q : Q (.bl false) H) : rNeD K x y H Q :=
  ⟨d, d, h1, h2, shaped_of l, shaped_of l, by rw [SeqAt.eqv_refl _ l.1]; exact q⟩
/-- placement.rows() compared with what ty tells -/
theorem rows_cmp {P : Program} {w : World} {K : PySem.W.Frag} {mg : Str → Option Value} {base : Heap} {CP CI CC : Addr} {J0 J H : Hp} {p : Addr} {ds : List Int} {s : PSt} {wy : Ways} {j i : Nat} {W : WX} {ty : TE} {σ : L2.St} {Q : VK} {R : R2} {b : Bool} (L : LS CP CI CC J0 J H p ds s wy)
    (hR : ∀ (x y : V) (H : Hp) (Q : VK) (d : PyData), Dp K H x d → Dp K H y d → (d.canLay0 = true ∧ d.depth ≤ 64) → Q (.bl b) H → R x y H Q) (mR : Mth P w K mg base 4 CP "rows" ["self"] (spRw CP CI CC)) (hj : 4 ≤ j) (hi : σ[i]? = some (some (.ref s.p))) (ok : ToldOk s.places s.homes s.lns)
    (kX : ∀ J1 K1 HY T1, Same H HY → Same J0 J1 → LS CP CI CC J1 K1 HY p ds s wy → (∀ v H3, Same HY H3 → Dp K H3 v (toldD s.places s.homes s.lns) → Q (.bl b) H3 → R (.ref T1) v H3 Q) → ty σ HY fun v H3 => R (.ref T1) v H3 Q) :
    tOp R (tMthE P w K mg base j "rows" W (tVar i) tNil) ty σ H Q := by
  refine ⟨_, hi, s.p, CP, s.dp, _, 4, _, _, rfl, L.ho, mR, hj, rfl, J, s, wy, rfl, L.pl.a, L.pl.w_.zp, L.pl.w_.zl, L.pl.w_.zs, L.pl.w_.zi, fun T1 A1 B1 C1 HY ra => ?_⟩
  obtain ⟨J1, K1, _, sJ, L1⟩ := L.step ra.s
  exact kX J1 K1 HY T1 ra.s sJ L1 fun v H3 s3 dv q => hR _ _ _ _ _ (dp_same s3 (told_dp (K := K) ra.hT ra.hA ra.hB ra.hC)) dv (told_lay ok) q

/-! ### what rows told, kept beside the placement -/
theorem RowsA.dpJ {K : PySem.W.Frag} {CP CI CC : Addr} {J0 J H H' : Hp} {p : Addr} {ds : List Int} {s : PSt} {wy : Ways} {T A B C : Addr} (ra : RowsA H H' T A B C s.places s.homes s.lns) (L : LS CP CI CC J0 J H p ds s wy) : Dp K (LS.mx CP CI CC H' p s) (.ref T) (toldD s.places s.homes s.lns) := by
  have sm := ra.s
  have mt : ∀ {a : Addr} {xs : List V}, H' a = some (.tup xs) → LS.mx CP CI CC H' p s a = some (.tup xs) := fun h => L.mx_tup sm h
  have mn : ∀ {a : Addr} {u : HO}, H a = none → H' a = some u → LS.mx CP CI CC H' p s a = some u := fun n h => L.mx_new sm n h
  obtain ⟨vb, hB, pB⟩ := ra.hB
  obtain ⟨vc, hC, pC⟩ := ra.hN
  exact told_dp (K := K) (mt ra.hT) (mn ra.nA ra.hA) ⟨vb, mn ra.nB hB, pB.mono fun v x ⟨t, e, h⟩ => ⟨t, e, mt h⟩⟩ ⟨vc, mn ra.nC hC, pC.mono fun v x ⟨t, a, e, h, q, n⟩ => ⟨t, a, e, mt h, mn n q⟩⟩
theorem eqvAll_len : ∀ {xs ys : List PyData}, PyData.eqvAll xs ys = true → xs.length = ys.length
  | [], [], _ => rfl
  | x :: xs, y :: ys, h => by
    rw [PyData.eqvAll, Bool.and_eq_true] at h
    rw [List.length_cons, List.length_cons, eqvAll_len h.2]
  | [], y :: ys, h => by rw [PyData.eqvAll] at h; cases h
  | x :: xs, [], h => by rw [PyData.eqvAll] at h; cases h
/-- rows of another size are other rows -/
theorem told_ne {s s' : List Str} {h h' : List (Str × Str)} {l l' : List Ln} (ne : s.length ≠ s'.length ∨ h.length ≠ h'.length ∨ l.length ≠ l'.length) : PyData.eqv (toldD s h l) (toldD s' h' l') = false := by
  cases e : PyData.eqv (toldD s h l) (toldD s' h' l') with
  | false => rfl
  | true =>
    exfalso
    unfold toldD strsD at e
    rw [PyData.eqv, PyData.eqvAll, PyData.eqvAll, PyData.eqvAll, PyData.eqvAll, PyData.eqv, PyData.eqv, PyData.eqv] at e
    simp only [Bool.and_eq_true] at e
    obtain ⟨e1, e2, e3, _⟩ := e
    have e1 := eqvAll_len e1
    have e2 := eqvAll_len e2
    have e3 := eqvAll_len e3
    rw [List.length_map, List.length_map, (upS_perm _).length_eq, (upS_perm _).length_eq] at e1
    rw [List.length_map, List.length_map, (asc_perm _ _).length_eq, (asc_perm _ _).length_eq] at e2 e3
    rcases ne with n | n | n
    · exact n e1
    · exact n e2
    · exact n e3
/-- rows asked: the answer stays -/
theorem rows_get {P : Program} {w : World} {K : PySem.W.Frag} {mg : Str → Option Value} {base : Heap} {CP CI CC : Addr} {J0 J H : Hp} {p : Addr} {ds : List Int} {s : PSt} {wy : Ways} {j i : Nat} {W : WX} {σ : L2.St} {Q : VK} (L : LS CP CI CC J0 J H p ds s wy) (mR : Mth P w K mg base 4 CP "rows" ["self"] (spRw CP CI CC)) (hj : 4 ≤ j) (hi : σ[i]? = some (some (.ref s.p)))
    (kX : ∀ J1 K1 HY T1, Same H HY → Same J0 J1 → LS CP CI CC J1 K1 HY p ds s wy → Dp K J1 (.ref T1) (toldD s.places s.homes s.lns) → Q (.ref T1) HY) : tMthE P w K mg base j "rows" W (tVar i) tNil σ H Q := by
  refine ⟨_, hi, s.p, CP, s.dp, _, 4, _, _, rfl, L.ho, mR, hj, rfl, J, s, wy, rfl, L.pl.a, L.pl.w_.zp, L.pl.w_.zl, L.pl.w_.zs, L.pl.w_.zi, fun T1 A1 B1 C1 HY ra => ?_⟩
  obtain ⟨J1, K1, e1, sJ, L1⟩ := L.step ra.s
  exact kX J1 K1 HY T1 ra.s sJ L1 (by rw [e1]; exact ra.dpJ L)
/-- a placement just made, with what its walks need -/
theorem PlV.made {CP CI CC : Addr} {Hb H' : Hp} {s : PSt} {w : Ways} (x : PlA CP CI CC Hb H' s w) (kz : s.kvb.length ≤ 10000) (fr : ∀ z ∈ s.tbl CP CI CC, Hb z.1 = none) (ne : ∀ c ∈ s.lines, c.l.it ≠ []) (zl : s.lines.length ≤ 100) (zs : s.seats.length ≤ 100) (zp : s.places.length ≤ 100) (zi : ∀ c ∈ s.lines, c.l.it.length ≤ 100) : PlV CP CI CC Hb H' s w := by
  have o := x.o
  refine ⟨⟨x.x, x.b, ?_, fun c hc => (o.lI c.l (List.mem_map.mpr ⟨c, hc, rfl⟩)).1, ?_, ne, fr, kz, zl, zs, zp, zi⟩, o⟩
  · have := o.lN
    unfold PSt.g at this
    rwa [List.map_map] at this
  · have nn : (s.lines.map (·.l)).Pairwise fun l m => ¬ (l.tgt = m.tgt ∧ ∃ i, i ∈ l.it ∧ i ∈ m.it) := List.pairwise_iff_getElem.mpr fun j k hj hk jk ⟨ht, i, h1, h2⟩ => by
      have := o.u j k _ _ i (List.getElem?_eq_getElem hj) (List.getElem?_eq_getElem hk) ht h1 h2
      omega
    rwa [List.pairwise_map] at nn
/-- where a law stands behind the making of a placement: the draws at p stood before -/
theorem LS.made {CP CI CC : Addr} {Hb H' : Hp} {p : Addr} {ds : List Int} {s : PSt} {w : Ways} (hp : Hb p = some (.lst (ds.map V.int))) (d : Dr ds) (x : PlV CP CI CC Hb H' s w) : LS CP CI CC (cut Hb [p]) Hb H' p ds s w := ⟨cut_all, cut_in (by simp), hp, d, x⟩

/-! ### _law_sorted, of rows whose first texts differ -/
theorem scSo : FnScope ["_law_rows", "_law_ordered", "_law_row", "_law_at", "_law_other"] ["_law_rows"] (defScope sSo) := ⟨rfl, rfl, rfl, by decide +kernel, rfl, by decide +kernel, by decide +kernel⟩
abbrev lt2 {α : Type} (lt : α → α → Bool) (p q : V × α) : Bool := lt p.2 q.2
def spSoG (K : PySem.W.Frag) : Sp := fun vs H Q _ => ∃ (α : Type) (lt : α → α → Bool) (a : Addr) (xs : List (V × α)), vs = [.ref a] ∧ SqL K H a (xs.map (·.1)) ∧ xs.Pairwise (fun p q => CmpR K H p.1 q.1 (lt p.2 q.2)) ∧ xs.length ≤ 10000 ∧
  ∀ l, H l = none → Q (.ref l) (upd H l (.lst ((srt (lt2 lt) xs).map (·.1))))
section
variable {P : Program} {w : World} {K : PySem.W.Frag} {mg : Str → Option Value} {base : Heap}
theorem ok_soG {f : Addr} {fd : FuncData} (F : FnP K "_law_sorted" sSo f fd) (T : Bi mg) : FnOk P w K mg base (L2.CX P w) 2 f fd ["_law_rows"] (spSoG K) := by
  refine F.ok scSo (fun vs H Q E h => ?_) (fun cdv A outer s H vs Q E hr h => ?_)
  · obtain ⟨_, _, a, xs, rfl, _⟩ := h
    rfl
  · obtain ⟨α, lt, a, xs, rfl, hS, hal, hz, kQ⟩ := h
    have nd := scSo.nd
    refine ⟨_, (pss_cons (ps_set (i := 1) nd rfl (Or.inl rfl) (pe_lst pa_nil))
      (pss_cons (ps_for (passes_of rfl) rfl (pi_list (pv 0)) (pg_name (i := 2) nd rfl (Or.inl rfl)) (pss_cons (ps_set (i := 3) nd rfl (Or.inl rfl) pe_int)
        (pss_cons (ps_for (passes_of rfl) rfl (pi_list (pv 1)) (pg_name (i := 4) nd rfl (Or.inl rfl)) (pss_one (ps_if (pt_cmpR (op_ltC hr.units) (pv 4) (pv 2) (nomark _)) (pss_one (ps_set (i := 3) nd rfl (Or.inl rfl) (pe_op op_add (pv 3) pe_int))) pss_nil)))
        (pss_one (ps_expr (pe_bm PySem.F.plainAttrs_list PySem.F.slot_list_insert PySem.F.type_list_insert mt_insert (pv 1) (pa_cons (pv 3) (pa_cons (pv 2) pa_nil))))))))
      (pss_one (ps_ret (pv 1))))), ?_⟩
    walk_at "go"
    refine fun l hl => ?_
    walk_at "go"
    refine ⟨⟨_, (Same.new (Same.refl H) hl).seq hS⟩, for_list (K := K) (a := a) (xs := xs.map (·.1))
      (fun i σ H1 => ∃ (R : List (V × α)) (r k o : Option V), R = (xs.take i).foldl (fun acc x => insC (lt2 lt) x acc) [] ∧ σ = [some (.ref a), some (.ref l), r, k, o] ∧ H1 = upd H l (.lst (R.map (·.1))))
      ⟨[], none, none, none, rfl, rfl, rfl⟩ (fun i σ H1 _ ⟨R, _, _, _, _, _, e⟩ => by rw [e]; exact ((Same.refl H).new hl).seq hS) ?_ ?_⟩
    · rintro i y σ H1 hi ⟨R, r, k, o, eR, rfl, rfl⟩
      have hil : i < xs.length := by
        have := lt_of_at hi
        rwa [List.length_map] at this
      obtain ⟨x, hx, rfl⟩ : ∃ x, xs[i]? = some x ∧ y = x.1 := by
        rw [List.getElem?_map] at hi
        cases e : xs[i]? with
        | none => rw [e] at hi; cases hi
        | some x => rw [e] at hi; exact ⟨x, rfl, (Option.some.inj hi).symm⟩
      have hRm : ∀ p ∈ R, CmpR K H p.1 x.1 (lt p.2 x.2) := fun p hp => by
        rw [eR] at hp
        have := (srt_fold_perm (lt := lt2 lt) (xs.take i) []).mem_iff.mp hp
        rw [List.append_nil] at this
        obtain ⟨j, hj, rfl⟩ := List.mem_take_iff_getElem.mp this
        have ex : x = xs[i] := by
          have := List.getElem?_eq_some_iff.mp hx
          exact this.2.symm
        rw [ex]
        exact List.pairwise_iff_getElem.mp hal j i (by omega) hil (by omega)
      have hRl : R.length = i := by
        rw [eR, (srt_fold_perm (lt := lt2 lt) (xs.take i) []).length_eq, List.append_nil, List.length_take]
        omega
      have eR' : insC (lt2 lt) x R = (xs.take (i + 1)).foldl (fun acc x => insC (lt2 lt) x acc) [] := by
        rw [List.take_add_one, hx, List.foldl_append, ← eR]
        rfl
      have s1 : Same H (upd H l (.lst (R.map (·.1)))) := (Same.refl H).new hl
      walk_at "go"
      refine ⟨⟨_, SqL.of upd_same⟩, ?_⟩
      refine for_list (K := K) (a := l) (xs := R.map (·.1)) (fun j σ H2 => ∃ o, σ = [some (.ref a), some (.ref l), some x.1, some (.int ((R.take j).countP fun e => lt2 lt e x : Nat)), o] ∧ H2 = upd H l (.lst (R.map (·.1))))
        ⟨_, rfl, rfl⟩ (fun j σ H2 _ ⟨_, _, e⟩ => by rw [e]; exact SqL.of upd_same) ?_ ?_
      · rintro j z σ H2 hj ⟨o2, rfl, rfl⟩
        obtain ⟨e, he, rfl⟩ : ∃ e, R[j]? = some e ∧ z = e.1 := by
          rw [List.getElem?_map] at hj
          cases q : R[j]? with
          | none => rw [q] at hj; cases hj
          | some x => rw [q] at hj; exact ⟨x, rfl, (Option.some.inj hj).symm⟩
        have hem := hRm e (List.mem_of_getElem? he)
        have ec : (R.take (j + 1)).countP (fun e => lt2 lt e x) = (R.take j).countP (fun e => lt2 lt e x) + if lt2 lt e x = true then 1 else 0 := by
          rw [List.take_add_one, he, List.countP_append]
          show _ + List.countP _ [e] = _
          rw [List.countP_singleton]
        refine ⟨_, rfl, _, rfl, lt e.2 x.2, hem.same s1, _, rfl, ?_⟩
        show (if lt2 lt e x = true then _ else _)
        cases q : lt2 lt e x with
        | true =>
          rw [if_pos q] at ec
          refine iteT ?_
          walk_at "go"
          refine ⟨some e.1, ?_, rfl⟩
          rw [ec]
          rfl
        | false =>
          rw [if_neg (by rw [q]; decide)] at ec
          refine iteF ?_
          refine ⟨some e.1, ?_, rfl⟩
          rw [ec]
          rfl
      · rintro σ H2 ⟨o2, rfl, rfl⟩
        rw [List.length_map, List.take_length]
        have hcl : R.countP (fun e => lt2 lt e x) ≤ R.length := List.countP_le_length
        refine ⟨_, rfl, .inl ⟨rfl, _, SqL.of upd_same⟩, _, rfl, _, rfl, l, _, _, _, rfl, rfl, upd_same, ?_, ?_, ?_, ?_⟩
        · rw [List.length_map]; exact size_ok (m := 10000) (by omega) (by decide)
        · omega
        · omega
        refine ⟨insC (lt2 lt) x R, _, _, _, eR', rfl, ?_⟩
        rw [upd_upd]
        refine congrArg (fun z => upd H l (.lst z)) ?_
        unfold insC
        rw [List.map_append, List.map_cons, List.map_take, List.map_drop]
        simp
    · rintro σ H1 ⟨R, r, k, o, eR, rfl, rfl⟩
      rw [List.length_map, List.take_length] at eR
      walk_at "go"
      have z := kQ l hl
      unfold srt at z
      rw [eR]
      exact z
end

/-! ### _law_told, what it tells stands apart from the lists that were there -/
theorem scTd : FnScope ["_law_rows", "_law_channels", "_law_item", "_law_row", "_law_site"] ["_law_rows"] (defScope sTd) := ⟨rfl, rfl, rfl, by decide +kernel, rfl, by decide +kernel, by decide +kernel⟩
/-- rows as they are told: sites, homes, lines -/
structure TdA (H : Hp) (S HM CH : Addr) (sites : List Str) (homes : List (Str × Str)) (lines : List Ln) : Prop where
  s : H S = some (.lst (sites.map V.str))
  h : LsA PsA H HM homes
  c : LsA RwT H CH lines
  zs : sites.length < 64
  zh : homes.length < 64
  zl : lines.length < 64
  zi : ∀ l ∈ lines, l.it.length < 64
  nh : (homes.map (·.1)).Nodup
  nl : (lines.map (·.nm)).Nodup
theorem TdA.same {H H' : Hp} {S HM CH : Addr} {sites : List Str} {homes : List (Str × Str)} {lines : List Ln} (x : TdA H S HM CH sites homes lines) (e : Same H H') : TdA H' S HM CH sites homes lines :=
  ⟨e _ _ x.s, x.h.same stPs e, x.c.same stRwT e, x.zs, x.zh, x.zl, x.zi, x.nh, x.nl⟩
def spTdG (K : PySem.W.Frag) : Sp := fun vs H Q _ => ∃ (T S HM CH : Addr) (r : List V) (sites : List Str) (homes : List (Str × Str)) (lines : List Ln), vs = [.ref T] ∧ H T = some (.tup (.ref S :: .ref HM :: .ref CH :: r)) ∧ TdA H S HM CH sites homes lines ∧
  ∀ (v : Addr) (H' : Hp), Same H H' → Dp K H' (.ref v) (toldD sites homes lines) → (∀ z l, H z = some (.lst l) → Dp K (delH H' z) (.ref v) (toldD sites homes lines)) → Q (.ref v) H'
section
variable {P : Program} {w : World} {K : PySem.W.Frag} {mg : Str → Option Value} {base : Heap}
theorem ok_tdG {f : Addr} {fd : FuncData} (F : FnP K "_law_told" sTd f fd) (T : Bj mg) (g_sorted : Cal P w K mg base 2 "_law_sorted" ["_law_rows"] (spSoG K)) : FnOk P w K mg base (L2.CX P w) 3 f fd ["_law_rows"] (spTdG K) := by
  refine F.ok scTd (fun vs H Q E h => ?_) (fun cdv A outer s H vs Q E hr h => ?_)
  · obtain ⟨T, S, HM, CH, r, sites, homes, lines, rfl, _⟩ := h
    rfl
  · obtain ⟨T1, S, HM, CH, r, sites, homes, lines, rfl, hT, td, kQ⟩ := h
    have nd := scTd.nd
    refine ⟨_, (pss_cons (ps_setLc (i := 1) (own := [("_law_row", 3)]) (g := gName 3) (tt := tYes) (by rfl) nd rfl rfl (sw_true rfl rfl rfl (by decide +kernel)) (pi_list (pe_ix ix_tup (pv 0) pe_int (fun _ _ => rfl))) (blkOk_by (own := [("_law_row", 3)]) (N := ["_law_rows", "_law_channels", "_law_item", "_law_row", "_law_site"]) (sc := defScope sTd) (by decide +kernel)) (fun _ _ _ _ _ => (pg_name (i := 3) nd rfl (Or.inl rfl))) (fun _ _ _ _ _ => pts_nil) (fun _ _ _ _ _ => (pe_tup (pa_cons (pe_ix (show IxR _ (rIxT K) from ix_tup) (pv 3) pe_int (fun _ _ => rfl)) (pa_cons (pe_ix (show IxR _ (rIxT K) from ix_tup) (pv 3) pe_int (fun _ _ => rfl)) (pa_cons (pe_ix (show IxR _ (rIxT K) from ix_tup) (pv 3) pe_int (fun _ _ => rfl)) (pa_cons (pe_callB (show CallR _ (.builtin "sorted") (rSortedS K) from cr_sortedS) (by rfl) T.sorted (by decide +kernel) (pa_cons (show PE _ _ (tLc (iList K _) _ _ _ _) from (pe_lc (own := [("_law_item", 2)]) (g := gName 2) (tt := tYes) (by rfl) nd (pi_list (pe_ix (show IxR _ (rIxT K) from ix_tup) (pv 3) pe_int (fun _ _ => rfl))) (blkOk_by (own := [("_law_item", 2)]) (N := ["_law_rows", "_law_channels", "_law_item", "_law_row", "_law_site"]) (by rfl)) (fun _ _ _ _ _ => (pg_name (i := 2) nd rfl (Or.inl rfl))) (fun _ _ _ _ _ => pts_nil) (fun _ _ _ _ _ => (pe_callTy SkE.call_str_str (by rfl) T.str (by decide +kernel) (pa_cons (pv 2) pa_nil))))) pa_nil)) (pa_cons (pe_ix (show IxR _ (rIxT K) from ix_tup) (pv 3) pe_int (fun _ _ => rfl)) pa_nil))))))))
      (pss_one (ps_ret (pe_tup (pa_cons (pe_callB cr_sortedS (by rfl) T.sorted (by decide +kernel) (pa_cons (pe_lc (own := [("_law_site", 4)]) (g := gName 4) (tt := tYes) (by rfl) nd (pi_list (pe_ix ix_tup (pv 0) pe_int (fun _ _ => rfl))) (blkOk_by (own := [("_law_site", 4)]) (N := ["_law_rows", "_law_channels", "_law_item", "_law_row", "_law_site"]) (sc := defScope sTd) (by decide +kernel)) (fun _ _ _ _ _ => (pg_name (i := 4) nd rfl (Or.inl rfl))) (fun _ _ _ _ _ => pts_nil) (fun _ _ _ _ _ => (pe_callTy SkE.call_str_str (by rfl) T.str (by decide +kernel) (pa_cons (pv 4) pa_nil)))) pa_nil)) (pa_cons (pe_cal g_sorted hr takes0 (pa_cons (pe_ix ix_tup (pv 0) pe_int (fun _ _ => rfl)) pa_nil)) (pa_cons (pe_cal g_sorted hr takes0 (pa_cons (pv 1) pa_nil)) pa_nil))))))), ?_⟩
    obtain ⟨hv, hHM, ph⟩ := td.h
    obtain ⟨cs, hCH, pc⟩ := td.c
    have hS := td.s
    refine ⟨_, rfl, T1, _, _, _, rfl, rfl, .inl (.inl hT), (show atI (V.ref S :: V.ref HM :: V.ref CH :: r) 2 = some (.ref CH) from at_at (i := 2) rfl), CH, rfl, ⟨_, SqL.of hCH⟩, fun D nD => ?_⟩
    refine lc_list (K := K) (a := CH) (xs := cs) (fun i H1 => ∃ us, GS (RwN H) H D H1 us (lines.take i)) ⟨[], GS.start nD⟩ (fun i H1 _ ⟨_, f⟩ => SqL.of (f.s _ _ hCH)) ?_ ?_
    · rintro i y H1 hi ⟨us, f⟩
      obtain ⟨l, hl, t, a, rfl, ht, ha⟩ := pc.get hi
      have lm := List.mem_of_getElem? hl
      have ht1 := f.s _ _ ht
      have ha1 := f.s _ _ ha
      refine ⟨rfl, tYes_if ?_⟩
      refine ⟨_, rfl, t, _, _, _, rfl, rfl, .inl (.inl ht1), (show atI (rwV l a) 0 = some (.str l.nm) from rfl), ?_⟩
      refine ⟨_, rfl, t, _, _, _, rfl, rfl, .inl (.inl ht1), (show atI (rwV l a) 1 = some (.str l.src) from rfl), ?_⟩
      refine ⟨_, rfl, t, _, _, _, rfl, rfl, .inl (.inl ht1), (show atI (rwV l a) 2 = some (.str l.tgt) from rfl), ?_⟩
      refine ⟨_, rfl, t, _, _, _, rfl, rfl, .inl (.inl ht1), (show atI (rwV l a) 3 = some (.ref a) from rfl), a, rfl, ⟨_, SqL.of ha1⟩, fun E nE => ?_⟩
      have ED : E ≠ D := fun e => by rw [e, f.hL] at nE; cases nE
      refine lc_list (K := K) (a := a) (xs := l.it.map V.str) (fun j H2 => H2 = upd H1 E (.lst ((l.it.take j).map V.str))) rfl (fun j H2 _ e => by rw [e]; exact ((Same.refl _).new nE).seq (SqL.of ha1)) ?_ ?_
      · rintro j y H2 hj rfl
        obtain ⟨x, hx, rfl⟩ := at_map hj
        refine ⟨rfl, tYes_if ⟨_, rfl, _, rfl, _, upd_same, ?_, ?_⟩⟩
        · rw [List.length_map, List.length_take]
          exact size_ok (m := 1000) (by have := td.zi l lm; omega) (by decide)
        · rw [upd_upd, take_snoc hx, List.map_append]
          rfl
      rintro H2 rfl
      rw [List.length_map, List.take_length]
      have f2 := f.new stRwN (o := .lst (l.it.map V.str)) nE
      have hE : (upd H1 E (.lst (l.it.map V.str))) E = some (.lst (l.it.map V.str)) := upd_same
      have s2 : Same H1 (upd H1 E (.lst (l.it.map V.str))) := (Same.refl _).new nE
      generalize upd H1 E (.lst (l.it.map V.str)) = H2 at *
      refine ⟨E, l.it, rfl, SqL.of hE, td.zi l lm, fun ys b pys sys nb => ?_⟩
      have eys := sortedS_eq pys sys
      subst eys
      have f3 := f2.new stRwN (o := .lst ((upS l.it).map V.str)) nb
      have ht3 : (upd H2 b (.lst ((upS l.it).map V.str))) t = some (.tup (rwV l a)) := (Same.refl _).new nb _ _ (s2 _ _ ht1)
      have hb : (upd H2 b (.lst ((upS l.it).map V.str))) b = some (.lst ((upS l.it).map V.str)) := upd_same
      have bD : b ≠ D := fun e => by rw [e, f2.hL] at nb; cases nb
      generalize upd H2 b (.lst ((upS l.it).map V.str)) = H3 at *
      refine ⟨_, rfl, t, _, _, _, rfl, rfl, .inl (.inl ht3), (show atI (rwV l a) 4 = some (kindV l.kd) from rfl), (show 5 ≤ sizeLine by decide), fun T2 n2 => ?_⟩
      have f4 := f3.new stRwN (o := .tup (rwV l b)) n2
      have hT2 : (upd H3 T2 (.tup (rwV l b))) T2 = some (.tup (rwV l b)) := upd_same
      have hb4 : (upd H3 T2 (.tup (rwV l b))) b = some (.lst ((upS l.it).map V.str)) := (Same.refl _).new n2 _ _ hb
      have := f.pw.len
      rw [List.length_take] at this
      have := td.zl
      refine ⟨us, f4.hL, size_ok (m := 1000) (by omega) (by decide), us ++ [V.ref T2], ?_⟩
      rw [take_snoc hl]
      exact f4.app nD ⟨T2, b, rfl, f4.del hT2, by rw [delH_ne bD]; exact hb4, none_of nb f2.s⟩
    · rintro H1 ⟨us, f⟩
      rw [pc.len, List.take_length] at f
      obtain ⟨us', hD1, pd⟩ := f.done stRwN
      rw [f.hL] at hD1
      cases hD1
      have hD1 := f.hL
      have hT1 := f.s _ _ hT
      have hS1 := f.s _ _ hS
      have s1 := f.s
      clear f
      refine ⟨_, rfl, T1, _, _, _, rfl, rfl, .inl (.inl hT1), (show atI (V.ref S :: V.ref HM :: V.ref CH :: r) 0 = some (.ref S) from at_at (i := 0) rfl), S, rfl, ⟨_, SqL.of hS1⟩, fun E nE => ?_⟩
      refine lc_list (K := K) (a := S) (xs := sites.map V.str) (fun j H2 => H2 = upd H1 E (.lst ((sites.take j).map V.str))) rfl (fun j H2 _ e => by rw [e]; exact ((Same.refl _).new nE).seq (SqL.of hS1)) ?_ ?_
      · rintro j y H2 hj rfl
        obtain ⟨x, hx, rfl⟩ := at_map hj
        refine ⟨rfl, tYes_if ⟨_, rfl, _, rfl, _, upd_same, ?_, ?_⟩⟩
        · rw [List.length_map, List.length_take]
          exact size_ok (m := 1000) (by have := td.zs; omega) (by decide)
        · rw [upd_upd, take_snoc hx, List.map_append]
          rfl
      rintro H2 rfl
      rw [List.length_map, List.take_length]
      have hE : (upd H1 E (.lst (sites.map V.str))) E = some (.lst (sites.map V.str)) := upd_same
      have s2 : Same H1 (upd H1 E (.lst (sites.map V.str))) := (Same.refl _).new nE
      generalize upd H1 E (.lst (sites.map V.str)) = H2 at *
      refine ⟨E, sites, rfl, SqL.of hE, td.zs, fun ys b pys sys nb => ?_⟩
      have eys := sortedS_eq pys sys
      subst eys
      have hb : (upd H2 b (.lst ((upS sites).map V.str))) b = some (.lst ((upS sites).map V.str)) := upd_same
      have s3 : Same H2 (upd H2 b (.lst ((upS sites).map V.str))) := (Same.refl _).new nb
      generalize upd H2 b (.lst ((upS sites).map V.str)) = H3 at *
      have s13 := s2.trans s3
      refine ⟨_, rfl, T1, _, _, _, rfl, rfl, .inl (.inl (s13 _ _ hT1)), (show atI (V.ref S :: V.ref HM :: V.ref CH :: r) 1 = some (.ref HM) from at_at (i := 1) rfl), ?_⟩
      have s03 := s1.trans s13
      have p3 := ph.mono fun v x => stPs _ _ v x s03
      refine ⟨_, _, HM, hv.zip homes, rfl, ?_, pw_cmp p3 td.nh hd_PsA, ?_, fun B nB => ?_⟩
      · rw [zip_fst p3]; exact SqL.of (s03 _ _ hHM)
      · have := td.zh; rw [List.length_zip]; omega
      have q4 := p3.srtG (lt := ltN fun x : Str × Str => x.1)
      rw [srt_ltN td.nh] at q4
      generalize (M.srt (fun p q : V × (Str × Str) => ltN (fun x : Str × Str => x.1) p.2 q.2) (hv.zip homes)).map (·.1) = hv2 at *
      have s4 : Same H3 (upd H3 B (.lst hv2)) := (Same.refl _).new nB
      have hB : (upd H3 B (.lst hv2)) B = some (.lst hv2) := upd_same
      generalize upd H3 B (.lst hv2) = H4 at *
      have s14 := s13.trans s4
      have p5 := pd.mono fun v x => stRwN _ _ v x s14
      refine ⟨_, rfl, _, _, D, us.zip lines, rfl, ?_, pw_cmp p5 td.nl (fun v x h => hd_RwU v x (RwN.toU h)), ?_, fun C nC => ?_⟩
      · rw [zip_fst p5]; exact SqL.of (s14 _ _ hD1)
      · have := td.zl; rw [List.length_zip]; omega
      have q5 := p5.srtG (lt := ltN fun x : Ln => x.nm)
      rw [srt_ltN td.nl] at q5
      generalize (M.srt (fun p q : V × Ln => ltN (fun x : Ln => x.nm) p.2 q.2) (us.zip lines)).map (·.1) = us2 at *
      have s5 : Same H4 (upd H4 C (.lst us2)) := (Same.refl _).new nC
      have hC : (upd H4 C (.lst us2)) C = some (.lst us2) := upd_same
      generalize upd H4 C (.lst us2) = H5 at *
      refine ⟨(show 3 ≤ sizeLine by decide), fun T2 n2 => ?_⟩
      have s6 : Same H5 (upd H5 T2 (.tup [.ref b, .ref B, .ref C])) := (Same.refl _).new n2
      have s46 := s5.trans s6
      have s36 := s4.trans s46
      have n1 : H b = none := none_of nb (s1.trans s2)
      have n2' : H B = none := none_of nB s03
      have n3 : H C = none := none_of nC (s03.trans s4)
      have hb6 := s36 _ _ hb
      have hB6 := s46 _ _ hB
      have hC6 := s6 _ _ hC
      have hT6 : (upd H5 T2 (.tup [.ref b, .ref B, .ref C])) T2 = some (.tup [.ref b, .ref B, .ref C]) := upd_same
      have q46 := q4.mono fun v x => stPs _ _ v x s36
      have q56 := q5.mono fun v x => stRwN _ _ v x s46
      have s06 := s03.trans s36
      generalize upd H5 T2 (.tup [.ref b, .ref B, .ref C]) = H6 at *
      refine kQ _ _ s06 (told_dp hT6 hb6 ⟨hv2, hB6, q46⟩ ⟨us2, hC6, q56.mono fun v x h => RwN.toU h⟩) fun z l hz => ?_
      have hz6 := s06 _ _ hz
      have tz : ∀ {t : Addr} {ys : List V}, H6 t = some (.tup ys) → t ≠ z := fun h e => by rw [e, hz6] at h; cases h
      have nz : ∀ {t : Addr}, H t = none → t ≠ z := fun h e => by rw [e, hz] at h; cases h
      exact told_dp (by rw [delH_ne (tz hT6)]; exact hT6) (by rw [delH_ne (nz n1)]; exact hb6) ⟨hv2, by rw [delH_ne (nz n2')]; exact hB6, q46.mono fun v x ⟨t, e, ht⟩ => ⟨t, e, by rw [delH_ne (tz ht)]; exact ht⟩⟩ ⟨us2, by rw [delH_ne (nz n3)]; exact hC6, q56.mono fun v x ⟨t, a, e, ht, ha, na⟩ => ⟨t, a, e, by rw [delH_ne (tz ht)]; exact ht, by rw [delH_ne (nz na)]; exact ha⟩⟩
end

/-! ### Placement.chain -/
theorem scChn : FnScope ["names", "late", "homes", "name", "channels", "at"] ["names", "late"] (defScope sChn) := ⟨rfl, rfl, rfl, by decide +kernel, rfl, by decide +kernel, by decide +kernel⟩
def chnL (xs : List Str) (k : Option Str) (i : Nat) : Ln := ⟨xs.getD (i + 1) "", xs.getD i "", xs.getD (i + 1) "", xs.take (i + 1), k⟩
def chnLs (xs : List Str) (k : Option Str) : List Ln := (List.range (xs.length - 1)).map (chnL xs k)
def chnH (xs : List Str) : List (Str × Str) := xs.map fun x => (x, x)
def spChn (CP CI CC : Addr) (X : XA) : Sp := fun vs H Q E => ∃ (N : Addr) (xs : List Str) (k : Option Str), vs = [.ref N, kindV k] ∧ H N = some (.lst (xs.map V.str)) ∧ xs.length ≤ 30 ∧ (∀ x ∈ xs, x.length ≤ sizeLine) ∧
  (∀ e, mkErr xs (chnH xs) (chnLs xs k) = some e → ∀ H', Same H H' → e.rz X E H') ∧
  (mkErr xs (chnH xs) (chnLs xs k) = none → ∀ H' s wy, s.places = xs → s.homes = chnH xs → s.lns = chnLs xs k → PlV CP CI CC H H' s wy → Q (.ref s.p) H')
section
variable {P : Program} {w : World} {K : PySem.W.Frag} {mg : Str → Option Value} {base : Heap}
theorem ok_chn {f CP CI CC : Addr} {X : XA} {fd : FuncData} (F : FnQ K "chain" "Placement.chain" sChn f fd) (T : Bj mg) (g_Placement : Mak P w K mg base 6 "Placement" CP ["self", "sites", "homes", "channels"] (spPlI K CP CI CC X)) (cP : Cls K CP) (nP : ∀ f ∈ plFs, NoAttr K CP f) : FnOk P w K mg base (L2.CX P w) 8 f fd ["names", "late"] (spChn CP CI CC X) := by
  refine F.ok scChn (fun vs H Q E h => ?_) (fun cdv A outer s H vs Q E hr h => ?_)
  · obtain ⟨N, xs, k, rfl, _⟩ := h
    rfl
  · obtain ⟨N, xs, k, rfl, hN, zx, zs, kE, kQ⟩ := h
    have nd := scChn.nd
    have hu := hu_of hr
    refine ⟨_, (pss_cons (ps_set (i := 0) nd rfl (Or.inr rfl) (pe_callTy call_list_of (by rfl) T.list (by decide +kernel) (pa_cons (pv 0) pa_nil)))
      (pss_cons (ps_setLc (i := 2) (own := [("name", 3)]) (g := gName 3) (tt := tYes) (by rfl) nd rfl rfl (sw_true rfl rfl rfl (by decide +kernel)) (pi_list (pv 0)) (blkOk_by (own := [("name", 3)]) (N := ["names", "late", "homes", "name", "channels", "at"]) (sc := defScope sChn) (by decide +kernel)) (fun _ _ _ _ _ => (pg_name (i := 3) nd rfl (Or.inl rfl))) (fun _ _ _ _ _ => pts_nil) (fun _ _ _ _ _ => (pe_tup (pa_cons (pv 3) (pa_cons (pv 3) pa_nil)))))
      (pss_cons (ps_setLc (i := 4) (own := [("at", 5)]) (g := gName 5) (tt := tYes) (by rfl) nd rfl rfl (sw_true rfl rfl rfl (by decide +kernel)) (pi_range2 (by rfl) T.range (pa_cons pe_int (pa_cons (pe_callB call_len_seq (by rfl) T.len PySem.boot_len (pa_cons (pv 0) pa_nil)) pa_nil))) (blkOk_by (own := [("at", 5)]) (N := ["names", "late", "homes", "name", "channels", "at"]) (sc := defScope sChn) (by decide +kernel)) (fun _ _ _ _ _ => (pg_name (i := 5) nd rfl (Or.inl rfl))) (fun _ _ _ _ _ => pts_nil) (fun _ _ _ _ _ => (pe_tup (pa_cons (pe_ix (show IxR _ (rIxL K) from ix_list) (pv 0) (pv 5) (fun _ _ => rfl)) (pa_cons (pe_ix (show IxR _ (rIxL K) from ix_list) (pv 0) (pe_op op_sub (pv 5) pe_int) (fun _ _ => rfl)) (pa_cons (pe_ix (show IxR _ (rIxL K) from ix_list) (pv 0) (pv 5) (fun _ _ => rfl)) (pa_cons (pe_slice (show SlR _ (rSlL K) from sl_list) (pv 0) po_none (po_some (pv 5))) (pa_cons (pv 1) pa_nil))))))))
      (pss_one (ps_ret (pe_mak g_Placement hr (takes_of rfl rfl rfl rfl) (pa_cons (pv 0) (pa_cons (pv 2) (pa_cons (pv 4) pa_nil))))))))), ?_⟩
    refine ⟨_, rfl, N, _, rfl, .inl (SqL.of hN), fun N1 nN1 => ?_⟩
    have s1 : Same H (upd H N1 (.lst (xs.map V.str))) := (Same.refl _).new nN1
    have hN1 : (upd H N1 (.lst (xs.map V.str))) N1 = some (.lst (xs.map V.str)) := upd_same
    generalize upd H N1 (.lst (xs.map V.str)) = H1 at *
    refine ⟨_, rfl, N1, rfl, ⟨_, SqL.of hN1⟩, fun D nD => ?_⟩
    refine lc_list (K := K) (a := N1) (xs := xs.map V.str) (fun i H2 => ∃ us, GS PsA H1 D H2 us (chnH (xs.take i))) ⟨[], by rw [List.take_zero]; exact GS.start nD⟩ (fun i H2 _ ⟨_, g⟩ => SqL.of (g.s _ _ hN1)) ?_ ?_
    · rintro i y H2 hi ⟨us, g⟩
      obtain ⟨x, hx, rfl⟩ := at_map hi
      have il := (List.getElem?_eq_some_iff.mp hx).1
      refine ⟨rfl, tYes_if ?_⟩
      refine ⟨_, rfl, _, rfl, (show 2 ≤ sizeLine by decide), fun T1 nT1 => ?_⟩
      have g3 := g.new stPs (o := .tup [V.str x, .str x]) nT1
      have hT1 : (upd H2 T1 (.tup [V.str x, .str x])) T1 = some (.tup [V.str x, .str x]) := upd_same
      have gl := g3.pw.len
      unfold chnH at gl
      rw [List.length_map, List.length_take] at gl
      refine ⟨us, g3.hL, size_ok (m := 10000) (by omega) (by decide), us ++ [.ref T1], ?_⟩
      unfold chnH
      rw [take_snoc hx, List.map_append]
      exact g3.app nD ⟨T1, rfl, g3.del hT1⟩
    rintro H2 ⟨us, g⟩
    rw [List.length_map, List.take_length] at g
    have hD2 := g.done stPs
    have s12 := g.s
    have hN2 := s12 _ _ hN1
    clear g
    have lx : (xs.map V.str).length = xs.length := List.length_map _
    refine ⟨_, rfl, N1, _, rfl, .inl (SqL.of hN2), 1, _, rfl, ⟨by decide, by decide, by omega, by omega⟩, fun C nC => ?_⟩
    have eLn : ((((xs.map V.str).length : Nat) : Int) - 1).toNat = xs.length - 1 := by rw [lx]; omega
    rw [eLn]
    refine lc_range (lo := 1) (n := xs.length - 1) (fun i H3 => ∃ us, GS RwT H2 C H3 us ((List.range i).map (chnL xs k))) ⟨[], GS.start nC⟩ ?_ ?_
    · rintro i H3 hi ⟨us3, g⟩
      have h3 := g.s _ _ hN2
      have at1 : atI (xs.map V.str) ((1 : Int) + (i : Int)) = some (.str (xs.getD (i + 1) "")) := by
        rw [show (1 : Int) + (i : Int) = ((i + 1 : Nat) : Int) by omega]
        exact atI_nat (by rw [List.getElem?_map, List.getElem?_eq_getElem (by omega), List.getD_eq_getElem?_getD, List.getElem?_eq_getElem (by omega)]; rfl)
      have at0 : atI (xs.map V.str) ((1 : Int) + (i : Int) - 1) = some (.str (xs.getD i "")) := by
        rw [show (1 : Int) + (i : Int) - 1 = ((i : Nat) : Int) by omega]
        exact atI_nat (by rw [List.getElem?_map, List.getElem?_eq_getElem (by omega), List.getD_eq_getElem?_getD, List.getElem?_eq_getElem (by omega)]; rfl)
      refine ⟨rfl, tYes_if ?_⟩
      refine ⟨_, rfl, _, rfl, N1, _, _, _, rfl, rfl, SqL.of h3, at1, _, rfl, _, rfl, _, _, rfl, rfl, N1, _, _, _, rfl, rfl, SqL.of h3, at0, _, rfl, _, rfl, N1, _, _, _, rfl, rfl, SqL.of h3, at1, ?_⟩
      refine ⟨_, rfl, ?_⟩
      walk_at "go"
      refine ⟨N1, _, rfl, SqL.of h3, fun L nL => ?_⟩
      have ec : cutV (xs.map V.str) none (some ((1 : Int) + (i : Int))) = (xs.take (i + 1)).map V.str := by
        rw [show (1 : Int) + (i : Int) = ((i + 1 : Nat) : Int) by omega, cut_to _ (by rw [List.length_map]; omega), List.map_take]
      rw [ec]
      have g4 := g.new stRwT (o := .lst ((xs.take (i + 1)).map V.str)) nL
      have hL : (upd H3 L (.lst ((xs.take (i + 1)).map V.str))) L = some (.lst ((xs.take (i + 1)).map V.str)) := upd_same
      have LC : L ≠ C := fun e => by rw [e, g.hL] at nL; cases nL
      generalize upd H3 L (.lst ((xs.take (i + 1)).map V.str)) = H4 at *
      refine ⟨_, rfl, (show 5 ≤ sizeLine by decide), fun T1 nT1 => ?_⟩
      have sT : Same H4 (upd H4 T1 (.tup (rwV (chnL xs k i) L))) := (Same.refl _).new nT1
      have g5 := g4.new stRwT (o := .tup (rwV (chnL xs k i) L)) nT1
      have hT1 : (upd H4 T1 (.tup (rwV (chnL xs k i) L))) T1 = some (.tup (rwV (chnL xs k i) L)) := upd_same
      have hL5 := sT _ _ hL
      have gl := g5.pw.len
      rw [List.length_map, List.length_range] at gl
      refine ⟨us3, g5.hL, size_ok (m := 10000) (by omega) (by decide), us3 ++ [.ref T1], ?_⟩
      rw [List.range_succ, List.map_append]
      exact g5.app nC ⟨T1, L, rfl, g5.del hT1, by rw [delH_ne LC]; exact hL5⟩
    rintro H3 ⟨us3, g⟩
    have hC3 := g.done stRwT
    have s23 := g.s
    have s03 := (s1.trans s12).trans s23
    have hN3 := s23 _ _ hN2
    obtain ⟨hv, hDv, phD⟩ := hD2.same stPs s23
    obtain ⟨cv, hCv, pcC⟩ := hC3
    have zc : ((List.range (xs.length - 1)).map (chnL xs k)).length ≤ 30 := by rw [List.length_map, List.length_range]; omega
    have inC : ∀ l ∈ chnLs xs k, l.nm.length ≤ sizeLine ∧ l.it.length ≤ 30 := fun l hl => by
      obtain ⟨i, hi, rfl⟩ := List.mem_map.mp hl
      have il := List.mem_range.mp hi
      refine ⟨?_, ?_⟩
      · show (xs.getD (i + 1) "").length ≤ _
        rw [List.getD_eq_getElem?_getD, List.getElem?_eq_getElem (by omega)]
        exact zs _ (List.getElem_mem _)
      · show (xs.take (i + 1)).length ≤ 30
        rw [List.length_take]; omega
    refine ⟨_, rfl, _, rfl, _, rfl, fun q dq nq ndq neq => ?_⟩
    have nq2 : (upd H3 dq (.own q)) q = none := by rw [upd_ne (Ne.symm neq)]; exact nq
    have sB : Same H3 (upd (upd H3 dq (.own q)) q (.ins CP dq [])) := ((Same.refl _).new ndq).new nq2
    refine ⟨q, dq, N1, D, C, true, true, true, _, _, xs, chnH xs, chnLs xs k, rfl, upd_same, cP, nP, SqL.of (sB _ _ hN3), SqL.of (sB _ _ hDv), phD.mono fun v x h => stPs _ _ v x sB h, SqL.of (sB _ _ hCv), pcC.mono fun v x h => stRwT _ _ v x sB h, zs, fun x hx => ?_, fun l hl => ⟨(inC l hl).1, Nat.le_trans (inC l hl).2 (by decide)⟩, by omega, by unfold chnH; rw [List.length_map]; omega, by unfold chnLs; omega, fun e he H' s' => ?_, fun he H' s e1 e2 e3 e4 e5 pl hk hf => ⟨rfl, ?_⟩⟩
    · obtain ⟨y, hy, rfl⟩ := List.mem_map.mp hx
      exact zs y hy
    · exact kE e he H' (s03.trans ((same_del sB nq).trans s'))
    · subst e1
      obtain ⟨gok, nS, nH, nL⟩ := mkErr_none he
      generalize hwy : waysOf (chnH xs) (chnLs xs k) = wy at *
      have le5 := congrArg List.length e5
      have le4 := congrArg List.length e4
      unfold chnLs at le5
      unfold chnH at le4
      rw [List.length_map, List.length_map, List.length_range] at le5
      rw [List.length_map, List.length_map] at le4
      have lin : ∀ c ∈ s.lines, c.l ∈ chnLs xs k := fun c hc => by
        have : c.l ∈ s.lines.map (·.l) := List.mem_map.mpr ⟨c, hc, rfl⟩
        rw [e5] at this
        exact this
      have plv : PlV CP CI CC H3 H' s wy := PlV.made ⟨pl.x.base sB, pl.b, pl.o⟩ hk (fun z hz => by
        rcases hf z hz with e | e
        · rw [e]; exact nq
        · exact sB.free e) (fun c hc => (nL c.l (lin c hc)).2.1) (by omega) (by omega) (by rw [e3]; omega) (fun c hc => Nat.le_trans (inC c.l (lin c hc)).2 (by decide))
      exact kQ he H' s wy e3 e4 e5 (plv.base s03)
end

/-! ### _law_chained of k33 -/
theorem scChd : FnScope ["_law_names_here", "_law_kind", "e"] ["_law_names_here", "_law_kind"] (defScope sChd) := ⟨rfl, rfl, rfl, by decide +kernel, rfl, by decide +kernel, by decide +kernel⟩
/-- the errors that a chain's names can give -/
def ErC : Er → Prop
  | .badName _ => True
  | .taken _ => True
  | .badKind _ => True
  | _ => False
def spChd (K : PySem.W.Frag) : Sp := fun vs H Q _ => ∃ (N : Addr) (xs : List Str) (k : Option Str), vs = [.ref N, kindV k] ∧ H N = some (.lst (xs.map V.str)) ∧ xs.length ≤ 30 ∧ (∀ x ∈ xs, x.length ≤ sizeLine) ∧
  (∀ e, mkErr xs (chnH xs) (chnLs xs k) = some e → ErC e) ∧
  (∀ e, mkErr xs (chnH xs) (chnLs xs k) = some e → ∀ A H', H A = none → Same H H' → H' A = some (.lst e.told) → Q (.ref A) H') ∧
  (mkErr xs (chnH xs) (chnLs xs k) = none → ∀ A T H', H A = none → Same H H' → H' A = some (.lst [.str "chain", .ref T]) → Dp K H' (.ref T) (toldD xs (chnH xs) (chnLs xs k)) → Q (.ref A) H')
section
variable {P : Program} {w : World} {K : PySem.W.Frag} {mg : Str → Option Value} {base : Heap}
theorem ok_chd {f CP CI CC : Addr} {X : XA} {fd : FuncData} (F : FnP K "_law_chained" sChd f fd) (T : Bj mg) (f_chain : SFn P w K mg base 8 "Placement" "chain" ["names", "late"] (spChn CP CI CC X)) (m_rows : Mth P w K mg base 4 CP "rows" ["self"] (spRw CP CI CC))
    (xBadName : PySem.XEx.XCls P K X.bn ["name"] (defArgs sIBadName) (defBody sIBadName) (defScope sIBadName)) (gBadName : mg "BadName" = some (.ref X.bn)) (xTaken : PySem.XEx.XCls P K X.tk ["name"] (defArgs sITaken) (defBody sITaken) (defScope sITaken)) (gTaken : mg "Taken" = some (.ref X.tk)) (xBadKind : PySem.XEx.XCls P K X.bk ["kind"] (defArgs sIBadKind) (defBody sIBadKind) (defScope sIBadKind)) (gBadKind : mg "BadKind" = some (.ref X.bk))
    (o_Taken_BadName : PySem.W.exmOne K (.ref X.tk) (.ref X.bn) = some false) (o_BadKind_BadName : PySem.W.exmOne K (.ref X.bk) (.ref X.bn) = some false) (o_BadKind_Taken : PySem.W.exmOne K (.ref X.bk) (.ref X.tk) = some false) :
    FnOk P w K mg base (L2.CX P w) 9 f fd ["_law_names_here", "_law_kind"] (spChd K) := by
  refine F.ok scChd (fun vs H Q E h => ?_) (fun cdv A outer s H vs Q E hr h => ?_)
  · obtain ⟨N, xs, k, rfl, _⟩ := h
    rfl
  · obtain ⟨N, xs, k, rfl, hN, zx, zs, kC, kE, kQ⟩ := h
    have nd := scChd.nd
    refine ⟨_, (pss_one (ps_tryM rfl rfl takes0 (fun W pn xe tk po => (pss_one (ps_ret (pe_lst (pa_cons pe_str (pa_cons (pe_mthE0 hr tk (pe_sfn f_chain hr tk (pa_cons (pv 0) (pa_cons (pv 1) pa_nil)))) pa_nil)))))) (.cons (i := 2) nd rfl rfl ⟨rfl, by decide, .inl gBadName⟩ (fun a oe cls d pn hz hf => (pss_one (ps_ret (pe_lst (pa_cons pe_str (pa_cons (pe_byX xBadName (xBadName.noF "name" (by simp)) hz hf (pv 2)) pa_nil)))))) (.cons (i := 2) nd rfl rfl ⟨rfl, by decide, .inl gTaken⟩ (fun a oe cls d pn hz hf => (pss_one (ps_ret (pe_lst (pa_cons pe_str (pa_cons (pe_byX xTaken (xTaken.noF "name" (by simp)) hz hf (pv 2)) pa_nil)))))) (.cons (i := 2) nd rfl rfl ⟨rfl, by decide, .inl gBadKind⟩ (fun a oe cls d pn hz hf => (pss_one (ps_ret (pe_lst (pa_cons pe_str (pa_cons (pe_byX xBadKind (xBadKind.noF "kind" (by simp)) hz hf (pv 2)) pa_nil)))))) .nil))))), ?_⟩
    intro pn xe
    refine ⟨_, rfl, _, rfl, N, xs, k, rfl, hN, zx, zs, fun e he H1 s1 => ?_, fun he H' s wy e3 e4 e5 plv => ?_⟩
    · have hc := kC e he
      cases e with
      | badName x =>
        intro d hd
        refine ⟨true, xBadName.te, fun _ ae hae oe pn2 => ?_, fun e => by cases e⟩
        have s2 := s1.new (o := .xd [(Str.ofString "name", V.str x)]) hd
        refine ⟨_, rfl, rfl, rfl, d, _, _, rfl, upd_same, rfl, (show 2 ≤ sizeLine by decide), fun A nA => ?_⟩
        exact kE (.badName x) he A _ (s2.free nA) (s2.new nA) upd_same
      | taken x =>
        intro d hd
        refine ⟨false, o_Taken_BadName, fun e => (by cases e), fun _ => ⟨true, xTaken.te, fun _ ae hae oe pn2 => ?_, fun e => by cases e⟩⟩
        have s2 := s1.new (o := .xd [(Str.ofString "name", V.str x)]) hd
        refine ⟨_, rfl, rfl, rfl, d, _, _, rfl, upd_same, rfl, (show 2 ≤ sizeLine by decide), fun A nA => ?_⟩
        exact kE (.taken x) he A _ (s2.free nA) (s2.new nA) upd_same
      | unknown x =>
        exact hc.elim
      | badChannel x =>
        exact hc.elim
      | badKind x =>
        intro d hd
        refine ⟨false, o_BadKind_BadName, fun e => (by cases e), fun _ => ⟨false, o_BadKind_Taken, fun e => (by cases e), fun _ => ⟨true, xBadKind.te, fun _ ae hae oe pn2 => ?_, fun e => by cases e⟩⟩⟩
        have s2 := s1.new (o := .xd [(Str.ofString "kind", V.str x)]) hd
        refine ⟨_, rfl, rfl, rfl, d, _, _, rfl, upd_same, rfl, (show 2 ≤ sizeLine by decide), fun A nA => ?_⟩
        exact kE (.badKind x) he A _ (s2.free nA) (s2.new nA) upd_same
      | twoWays i_ s_ =>
        exact hc.elim
      | notHeld i_ s_ =>
        exact hc.elim
    · have nLz : s.lines.length ≤ 100 := by
        have le5 := congrArg List.length e5
        unfold chnLs PSt.lns at le5
        rw [List.length_map, List.length_map, List.length_range] at le5
        omega
      refine ⟨s.p, CP, s.dp, _, 4, _, _, rfl, plv.w_.hp, m_rows, by decide, rfl, H, s, wy, rfl, plv.a, plv.w_.zp, plv.w_.zl, plv.w_.zs, plv.w_.zi, fun T1 A1 B1 C1 HY ra => ?_⟩
      have td := told_dp (K := K) ra.hT ra.hA ra.hB ra.hC
      rw [e3, e4, e5] at td
      refine ⟨(show 2 ≤ sizeLine by decide), fun A nA => ?_⟩
      have sY := plv.sj.trans ra.s
      exact kQ he A T1 _ (none_of nA sY) (sY.trans ((Same.refl _).new nA)) upd_same (dp_same ((Same.refl _).new nA) td)
end

/-! ### a chain's mathematics -/
theorem getD_at {xs : List Str} {i : Nat} (h : i < xs.length) : xs.getD i "" = xs[i] := by rw [List.getD_eq_getElem?_getD, List.getElem?_eq_getElem h]; rfl
theorem firstE_app {α : Type} {f : List α → α → Option Er} : ∀ {xs : List α} {b ys : List α}, firstE f b (xs ++ ys) = (firstE f b xs).or (firstE f (b ++ xs) ys)
  | [], b, ys => by rw [List.nil_append, List.append_nil]; rfl
  | x :: r, b, ys => by
    rw [List.cons_append]
    show (match f b x with | some e => some e | none => firstE f (b ++ [x]) (r ++ ys)) = (match f b x with | some e => some e | none => firstE f (b ++ [x]) r).or _
    cases h : f b x with
    | none => show firstE f (b ++ [x]) (r ++ ys) = (firstE f (b ++ [x]) r).or _; rw [firstE_app, List.append_assoc]; rfl
    | some e => rfl
section
variable {xs : List Str} {k : Option Str}
theorem chn_in {l : Ln} (h : l ∈ chnLs xs k) : ∃ i, ∃ (h1 : i < xs.length) (h2 : i + 1 < xs.length), l = ⟨xs[i + 1], xs[i], xs[i + 1], xs.take (i + 1), k⟩ := by
  obtain ⟨i, hi, rfl⟩ := List.mem_map.mp h
  have il := List.mem_range.mp hi
  refine ⟨i, by omega, by omega, ?_⟩
  unfold chnL
  rw [getD_at (by omega), getD_at (by omega)]
theorem chn_at {i : Nat} {l : Ln} (h : (chnLs xs k)[i]? = some l) : ∃ (h1 : i < xs.length) (h2 : i + 1 < xs.length), l = ⟨xs[i + 1], xs[i], xs[i + 1], xs.take (i + 1), k⟩ := by
  unfold chnLs at h
  rw [List.getElem?_map] at h
  have il : i < xs.length - 1 := by
    cases e : (List.range (xs.length - 1))[i]? with
    | none => rw [e] at h; cases h
    | some j => have := (List.getElem?_eq_some_iff.mp e).1; rw [List.length_range] at this; exact this
  rw [List.getElem?_range il] at h
  cases h
  refine ⟨by omega, by omega, ?_⟩
  unfold chnL
  rw [getD_at (by omega), getD_at (by omega)]
theorem chnH_fst : (chnH xs).map (·.1) = xs := by unfold chnH; rw [List.map_map]; exact List.map_id _
theorem chn_way (nd : xs.Nodup) {a : Nat} (ha : a < xs.length) : ∀ (b : Nat) (hb : b < xs.length), a ≤ b → ∃ w, Way (chnH xs) (chnLs xs k) xs[a] xs[b] w
  | 0, hb, h => by
    have : a = 0 := by omega
    subst this
    exact ⟨[], .home (List.mem_map.mpr ⟨xs[0], List.getElem_mem hb, rfl⟩)⟩
  | b + 1, hb, h => by
    by_cases e : a = b + 1
    · subst e
      exact ⟨[], .home (List.mem_map.mpr ⟨xs[b + 1], List.getElem_mem hb, rfl⟩)⟩
    · obtain ⟨w, hw⟩ := chn_way nd ha b (by omega) (by omega)
      have hl : (⟨xs[b + 1], xs[b], xs[b + 1], xs.take (b + 1), k⟩ : Ln) ∈ chnLs xs k := by
        refine List.mem_map.mpr ⟨b, List.mem_range.mpr (by omega), ?_⟩
        unfold chnL
        rw [getD_at (by omega), getD_at (by omega)]
      have hi : xs[a] ∈ xs.take (b + 1) := List.mem_take_iff_getElem.mpr ⟨a, by omega, rfl⟩
      exact ⟨_, Way.step hl hi hw⟩
theorem chn_nms (nd : xs.Nodup) : ((chnLs xs k).map (·.nm)).Nodup := by
  unfold chnLs
  rw [List.map_map]
  refine List.pairwise_map.mpr (List.Pairwise.imp_of_mem (R := fun a b => a < b) (fun {a b} ha hb lt e => ?_) List.pairwise_lt_range)
  have h1 := List.mem_range.mp ha
  have h2 := List.mem_range.mp hb
  have e' : xs.getD (a + 1) "" = xs.getD (b + 1) "" := e
  rw [getD_at (by omega), getD_at (by omega)] at e'
  have := (List.getElem_inj nd).mp e'
  omega
theorem chn_ok (nd : xs.Nodup) (ok : ∀ x ∈ xs, NameOk x) (kk : KindOk k) : mkErr xs (chnH xs) (chnLs xs k) = none := by
  have h1 := chkSites_ok nd ok
  have h2 : chkHomes xs (chnH xs) = none := chkHomes_ok (by rw [chnH_fst]; exact nd) fun x hx => by
    obtain ⟨y, hy, rfl⟩ := List.mem_map.mp hx
    exact ⟨ok y hy, hy⟩
  have h3 : chkLines xs ((chnH xs).map (·.1)) (chnLs xs k) = none := chkLines_ok (chn_nms nd) fun l hl => by
    obtain ⟨i, i1, i2, rfl⟩ := chn_in hl
    refine ⟨ok _ (List.getElem_mem i2), ⟨List.getElem_mem i1, List.getElem_mem i2, fun e => ?_⟩, fun e => ?_, ⟨nd.sublist (List.take_sublist _ _), fun y hy => by rw [chnH_fst]; exact List.mem_of_mem_take hy⟩, kk⟩
    · have := (List.getElem_inj nd).mp e
      omega
    · have := congrArg List.length e
      simp at this
      rw [this] at i1
      cases i1
  have h4 : chkTwo (chnH xs) (chnLs xs k) = none := by
    refine chkTwo_ok (fun l hl i hi hh => ?_) (fun l hl => ?_) fun a b l m i ha hb et h1 h2 => ?_
    · obtain ⟨j, j1, j2, rfl⟩ := chn_in hl
      obtain ⟨y, hy, e⟩ := List.mem_map.mp hh
      have e1 := congrArg Prod.fst e
      have e2 := congrArg Prod.snd e
      dsimp only at e1 e2
      obtain ⟨c, hc, e3⟩ := List.mem_take_iff_getElem.mp hi
      have e4 : xs[c]'(by omega) = xs[j + 1] := by rw [e3, ← e1, e2]
      have := (List.getElem_inj nd).mp e4
      omega
    · obtain ⟨j, j1, j2, rfl⟩ := chn_in hl
      exact nd.sublist (List.take_sublist _ _)
    · obtain ⟨a1, a2, rfl⟩ := chn_at ha
      obtain ⟨b1, b2, rfl⟩ := chn_at hb
      have := (List.getElem_inj nd).mp et
      omega
  have h5 : chkHeld (waysOf (chnH xs) (chnLs xs k)) (chnLs xs k) = none := chkHeld_ok fun l hl i hi => by
    obtain ⟨j, j1, j2, rfl⟩ := chn_in hl
    obtain ⟨c, hc, e⟩ := List.mem_take_iff_getElem.mp hi
    rw [ways_has, ← e]
    exact chn_way nd (by omega) j j1 (by omega)
  unfold mkErr
  rw [h1, h2, h3, h4, h5]
  rfl
/-- a word that fits no place -/
theorem chn_bad {ys zs : List Str} {y : Str} {e : Er} (nd : ys.Nodup) (ok : ∀ x ∈ ys, NameOk x) (h : chkName (fun z => decide (z ∈ ys)) y = some e) {hs : List (Str × Str)} {ls : List Ln} : mkErr (ys ++ y :: zs) hs ls = some e := by
  unfold mkErr chkSites
  rw [firstE_app, show firstE (fun b x => chkName (fun y => decide (y ∈ b)) x) [] ys = none from chkSites_ok nd ok, List.nil_append]
  unfold firstE
  rw [h]
  rfl
theorem chn_once (nd : xs.Nodup) (ok : ∀ x ∈ xs, NameOk x) (z : 1 < xs.length) : mkErr xs (chnH xs) (chnLs xs (some "once")) = some (.badKind "once") := by
  have h1 := chkSites_ok nd ok
  have h2 : chkHomes xs (chnH xs) = none := chkHomes_ok (by rw [chnH_fst]; exact nd) fun x hx => by
    obtain ⟨y, hy, rfl⟩ := List.mem_map.mp hx
    exact ⟨ok y hy, hy⟩
  have h0 : (chnLs xs (some "once"))[0]? = some ⟨xs[1], xs[0], xs[1], xs.take 1, some "once"⟩ := by
    unfold chnLs
    rw [List.getElem?_map, List.getElem?_range (by omega)]
    show some (chnL xs _ 0) = _
    unfold chnL
    rw [getD_at (by omega), getD_at (by omega)]
  have kk : chkKind (some "once") = some (.badKind "once") := by show (if ("once" : Str) ∈ kinds then none else some (Er.badKind "once")) = _; exact if_neg (by decide +kernel)
  have h3 : chkLines xs ((chnH xs).map (·.1)) (chnLs xs (some "once")) = some (.badKind "once") := by
    unfold chkLines
    refine firstE_at (i := 0) (fun j y hj => absurd hj (Nat.not_lt_zero _)) h0 ?_
    have m0 : xs[0] ∈ xs := List.getElem_mem _
    have m1 : xs[1] ∈ xs := List.getElem_mem _
    have n01 : xs[0] ≠ xs[1] := fun e => by have := (List.getElem_inj nd).mp e; omega
    have e1 : xs.take 1 = [xs[0]] := by
      match xs, z with
      | x :: y :: r, _ => rfl
    unfold chkLine chkCh
    dsimp only
    rw [e1, chkName_ok (ok _ m1) rfl, chkKnown_ok (decide_eq_true m0), chkKnown_ok (decide_eq_true m1), chkEnds_ok n01 (by simp)]
    unfold chkDup
    dsimp only
    rw [if_pos (show List.Nodup [xs[0]] from List.pairwise_singleton _ _), chkItems_ok (fun i hi => by rw [List.mem_singleton.mp hi, chnH_fst]; exact decide_eq_true m0), kk]
    rfl
  unfold mkErr
  rw [h1, h2, h3]
  rfl
end

/-! ### law k33 -/
theorem scLaw : FnScope ["_law_script", "_law_draws_here", "_law_names_here", "_law_kind", "_law_choice", "_law_place", "_law_due", "_law_kept", "_law_told_here", "_law_channels", "_law_at", "_law_name"] ["_law_script"] (defScope sLaw) := ⟨rfl, rfl, rfl, by decide +kernel, rfl, by decide +kernel, by decide +kernel⟩
def spLaw (K : PySem.W.Frag) : Sp := fun vs H Q _ => ∃ (a : Addr) (ns : List Int), vs = [.ref a] ∧ SqL K H a (ns.map V.int) ∧ ns.length ≤ 63 ∧ ∀ H', Q (.bl true) H'
def kds : List (Option Str) := [none, some "whole", some "itemwise", some "split", some "overtaking", some "passing"]
theorem kds_ok : ∀ k ∈ kds, KindOk k := fun k hk => by
  rcases List.mem_cons.mp hk with e | h
  · rw [e]; trivial
  · rcases List.mem_cons.mp h with e | h
    · rw [e]; show ("whole" : Str) ∈ kinds; decide +kernel
    · rcases List.mem_cons.mp h with e | h
      · rw [e]; show ("itemwise" : Str) ∈ kinds; decide +kernel
      · rcases List.mem_cons.mp h with e | h
        · rw [e]; show ("split" : Str) ∈ kinds; decide +kernel
        · rcases List.mem_cons.mp h with e | h
          · rw [e]; show ("overtaking" : Str) ∈ kinds; decide +kernel
          · rw [List.mem_singleton.mp h]; show ("passing" : Str) ∈ kinds; decide +kernel
theorem told_layC {s : Str} (hs : PyData.strOk s = true) {sites : List Str} {homes : List (Str × Str)} {lines : List Ln} (o : ToldOk sites homes lines) : (PyData.list [.str s, toldD sites homes lines]).canLay0 = true ∧ (PyData.list [.str s, toldD sites homes lines]).depth ≤ 64 := by
  have h1 := strs_lay (l := upS sites) fun x hx => o.s x ((upS_perm _).mem_iff.mp hx)
  have h2 := ls_lay (D := prD) (n := 1) (xs := asc (ltN (·.1)) homes) fun x hx => pr_lay (o.h x ((asc_perm _ _).mem_iff.mp hx)).1 (o.h x ((asc_perm _ _).mem_iff.mp hx)).2
  have h3 := ls_lay (D := lnD) (n := 2) (xs := asc (ltN (·.nm)) lines) fun x hx => ln_lay (o.l x ((asc_perm _ _).mem_iff.mp hx))
  have hd : (toldD sites homes lines).depth ≤ 10 := by
    unfold toldD
    rw [PyData.depth, PyData.depthAll, PyData.depthAll, PyData.depthAll, PyData.depthAll]
    omega
  have h4 := strs_lay (l := [s]) fun x hx => by rw [List.mem_singleton.mp hx]; exact hs
  have hs1 : (PyData.str s).canLay0 = true := by rw [PyData.canLay0]; exact hs
  have hz : (PyData.str s).depth ≤ 1 := by rw [PyData.depth]; omega
  have hl := (told_lay o).1
  generalize toldD sites homes lines = d at *
  constructor
  · rw [PyData.canLay0, PyData.canLayAll0, PyData.canLayAll0, PyData.canLayAll0, hs1, hl]
    rfl
  · rw [PyData.depth, PyData.depthAll, PyData.depthAll, PyData.depthAll]
    omega
/-- where the law stands: no fault yet, or one -/
def St33 (names : List Str) (k0 : Option Str) (c n : Nat) (xs : List Str) (k : Option Str) (dl : List V) : Prop :=
  (dl = [] ∧ xs = names ∧ k = k0) ∨ ∃ e, dl = e.told ∧ mkErr xs (chnH xs) (chnLs xs k) = some e ∧ ErC e ∧ (e.okP fun x => PyData.strOk x = true) ∧ 1 ≤ c ∧ c ≤ n
theorem St33.le {names : List Str} {k0 : Option Str} {c n m : Nat} {xs : List Str} {k : Option Str} {dl : List V} (h : St33 names k0 c n xs k dl) (l : n ≤ m) : St33 names k0 c m xs k dl := by
  rcases h with h | ⟨e, h1, h2, h3, h4, h5, h6⟩
  · exact .inl h
  · exact .inr ⟨e, h1, h2, h3, h4, h5, by omega⟩
theorem ins_map {names : List Str} {pl : Nat} {y : Str} : (names.map V.str).take ((pl : Int)).toNat ++ [V.str y] ++ (names.map V.str).drop ((pl : Int)).toNat = (names.take pl ++ y :: names.drop pl).map V.str := by
  rw [Int.toNat_natCast, ← List.map_take, ← List.map_drop, List.append_assoc, List.map_append]
  rfl
section
variable {P : Program} {w : World} {K : PySem.W.Frag} {mg : Str → Option Value} {base : Heap}
theorem ok_law {f : Addr} {fd : FuncData} (F : FnP K "law" sLaw f fd) (T : Bj mg)
    (g_draws : Cal P w K mg base 1 "_law_draws" ["_law_script", "_law_many"] (spDraws K)) (g_take : Cal P w K mg base 1 "_law_take" ["_law_draws_here", "_law_size"] spTake) (g_names : Cal P w K mg base 1 "_law_names" ["_law_draw", "_law_many"] spNames)
    (g_chained : Cal P w K mg base 9 "_law_chained" ["_law_names_here", "_law_kind"] (spChd K)) (g_told : Cal P w K mg base 3 "_law_told" ["_law_rows"] (spTdG K)) : FnOk P w K mg base (L2.CX P w) 10 f fd ["_law_script"] (spLaw K) := by
  refine F.ok scLaw (fun vs H Q E h => ?_) (fun cdv A outer s H vs Q E hr h => ?_)
  · obtain ⟨a, ns, rfl, _⟩ := h
    rfl
  · obtain ⟨a, ns, rfl, hS, hlen, kQ⟩ := h
    have nd := scLaw.nd
    have hu := hu_of hr
    refine ⟨_, (pss_cons (ps_set (i := 1) nd rfl (Or.inl rfl) (pe_cal g_draws hr takes0 (pa_cons (pv 0) (pa_cons pe_int pa_nil))))
      (pss_cons (ps_set (i := 2) nd rfl (Or.inr rfl) (pe_slice sl_list (pe_cal g_names hr takes0 (pa_cons (pe_cal g_take hr takes0 (pa_cons (pv 1) (pa_cons pe_int pa_nil))) (pa_cons pe_int pa_nil))) po_none (po_some (pe_cal g_take hr takes0 (pa_cons (pv 1) (pa_cons pe_int pa_nil))))))
      (pss_cons (ps_set (i := 3) nd rfl (Or.inr rfl) (pe_ix ix_list (pe_lst (pa_cons pe_non (pa_cons pe_str (pa_cons pe_str (pa_cons pe_str (pa_cons pe_str (pa_cons pe_str pa_nil))))))) (pe_cal g_take hr takes0 (pa_cons (pv 1) (pa_cons pe_int pa_nil))) (fun _ _ => rfl)))
      (pss_cons (ps_set (i := 4) nd rfl (Or.inl rfl) (pe_cal g_take hr takes0 (pa_cons (pv 1) (pa_cons pe_int pa_nil))))
      (pss_cons (ps_set (i := 5) nd rfl (Or.inl rfl) (pe_cal g_take hr takes0 (pa_cons (pv 1) (pa_cons (pe_op op_add (pe_callB call_len_seq (by rfl) T.len PySem.boot_len (pa_cons (pv 2) pa_nil)) pe_int) pa_nil))))
      (pss_cons (ps_set (i := 6) nd rfl (Or.inl rfl) (pe_lst pa_nil))
      (pss_cons (ps_j (ps_if (PW.pt (pw_and (pt_cmpR op_eq (pv 4) pe_int (nomark _)) (pw_and1 (pt_truth (pv 2) (by intro _; rfl))))) (pss_cons (ps_set (i := 6) nd rfl (Or.inl rfl) (pe_lst (pa_cons pe_str (pa_cons (pe_ix ix_list (pv 2) pe_int (fun _ _ => rfl)) pa_nil))))
        (pss_one (ps_expr (pe_bm PySem.F.plainAttrs_list PySem.F.slot_list_insert PySem.F.type_list_insert mt_insert (pv 2) (pa_cons (pv 5) (pa_cons (pe_ix ix_list (pv 2) pe_int (fun _ _ => rfl)) pa_nil)))))) pss_nil))
      (pss_cons (ps_j (ps_if (pt_cmpR op_eq (pv 4) pe_int (nomark _)) (pss_cons (ps_set (i := 6) nd rfl (Or.inl rfl) (pe_lst (pa_cons pe_str (pa_cons pe_str pa_nil))))
        (pss_one (ps_expr (pe_bm PySem.F.plainAttrs_list PySem.F.slot_list_insert PySem.F.type_list_insert mt_insert (pv 2) (pa_cons (pv 5) (pa_cons pe_str pa_nil)))))) pss_nil))
      (pss_cons (ps_j (ps_if (PW.pt (pw_and (pt_cmpR op_eq (pv 4) pe_int (nomark _)) (pw_and1 (pt_cmpR op_gt (pe_callB call_len_seq (by rfl) T.len PySem.boot_len (pa_cons (pv 2) pa_nil)) pe_int (nomark _))))) (pss_cons (ps_set (i := 6) nd rfl (Or.inl rfl) (pe_lst (pa_cons pe_str (pa_cons pe_str pa_nil))))
        (pss_one (ps_set (i := 3) nd rfl (Or.inr rfl) pe_str))) pss_nil))
      (pss_cons (ps_set (i := 7) nd rfl (Or.inl rfl) (pe_callTy call_list_of (by rfl) T.list (by decide +kernel) (pa_cons (pv 2) pa_nil)))
      (pss_cons (ps_set (i := 8) nd rfl (Or.inl rfl) (pe_cal g_chained hr takes0 (pa_cons (pv 2) (pa_cons (pv 3) pa_nil))))
      (pss_cons (ps_if (pt_cmpR (op_neD hr.units) (pv 2) (pv 7) (nomark _)) (pss_one (ps_ret pe_bl)) pss_nil)
      (pss_cons (ps_if (pt_truth (pv 6) (by intro _; rfl)) (pss_one (ps_ret (pe_cmpR (op_eqD hr.units) (pv 8) (pv 6) (nomark _)))) pss_nil)
      (pss_cons (ps_setLc (i := 9) (own := [("_law_at", 10)]) (g := gName 10) (tt := tYes) (by rfl) nd rfl rfl (sw_true rfl rfl rfl (by decide +kernel)) (pi_range2 (by rfl) T.range (pa_cons pe_int (pa_cons (pe_callB call_len_seq (by rfl) T.len PySem.boot_len (pa_cons (pv 2) pa_nil)) pa_nil))) (blkOk_by (own := [("_law_at", 10)]) (N := ["_law_script", "_law_draws_here", "_law_names_here", "_law_kind", "_law_choice", "_law_place", "_law_due", "_law_kept", "_law_told_here", "_law_channels", "_law_at", "_law_name"]) (sc := defScope sLaw) (by decide +kernel)) (fun _ _ _ _ _ => (pg_name (i := 10) nd rfl (Or.inl rfl))) (fun _ _ _ _ _ => pts_nil) (fun _ _ _ _ _ => (pe_tup (pa_cons (pe_ix (show IxR _ (rIxL K) from ix_list) (pv 2) (pv 10) (fun _ _ => rfl)) (pa_cons (pe_ix (show IxR _ (rIxL K) from ix_list) (pv 2) (pe_op op_sub (pv 10) pe_int) (fun _ _ => rfl)) (pa_cons (pe_ix (show IxR _ (rIxL K) from ix_list) (pv 2) (pv 10) (fun _ _ => rfl)) (pa_cons (pe_slice (show SlR _ (rSlL K) from sl_list) (pv 2) po_none (po_some (pv 10))) (pa_cons (pv 3) pa_nil))))))))
      (pss_one (ps_ret (pe_cmpR (op_eqD hr.units) (pv 8) (pe_lst (pa_cons pe_str (pa_cons (pe_cal g_told hr takes0 (pa_cons (pe_tup (pa_cons (pv 2) (pa_cons (pe_lc (own := [("_law_name", 11)]) (g := gName 11) (tt := tYes) (by rfl) nd (pi_list (pv 2)) (blkOk_by (own := [("_law_name", 11)]) (N := ["_law_script", "_law_draws_here", "_law_names_here", "_law_kind", "_law_choice", "_law_place", "_law_due", "_law_kept", "_law_told_here", "_law_channels", "_law_at", "_law_name"]) (sc := defScope sLaw) (by decide +kernel)) (fun _ _ _ _ _ => (pg_name (i := 11) nd rfl (Or.inl rfl))) (fun _ _ _ _ _ => pts_nil) (fun _ _ _ _ _ => (pe_tup (pa_cons (pv 11) (pa_cons (pv 11) pa_nil))))) (pa_cons (pv 9) pa_nil)))) pa_nil)) pa_nil))) (nomark _)))))))))))))))))), ?_⟩
    walk_at "go"
    refine ⟨a, ns, 10, rfl, hS, hlen, by decide, fun p ds H1 np s1 hp hl hd => ?_⟩
    have x1 := Lo.start hp hd
    generalize cut H1 [p] = J1 at *
    clear hp hl hd np s1
    refine ⟨_, rfl, p, ds, 1000, rfl, x1.hp, x1.dr, by decide, fun d1 ds1 d10 d11 hd1 _ => ?_⟩
    have x2 := x1.draw hd1
    generalize upd H1 p (.lst (ds1.map V.int)) = H2 at *
    obtain ⟨c1, rfl⟩ := Int.eq_ofNat_of_zero_le d10
    refine ⟨c1, 7, rfl, by omega, by omega, fun N0 H3 nN0 s3 hN0 => ?_⟩
    have x3 := x2.grow s3
    have N0p := (x2.ne nN0).1
    have lN : (nmL c1 7).length = 7 := nmL_len _ _
    have okN : ∀ x ∈ nmL c1 7, NameOk x := fun x hx => nmL_mem_ok (by omega) hx
    have ndN : (nmL c1 7).Nodup := nmL_nodup (by omega)
    generalize nmL c1 7 = ns7 at *
    refine ⟨_, rfl, p, ds1, 8, rfl, x3.hp, x3.dr, by decide, fun d2 ds2 d20 d21 hd2 _ => ?_⟩
    have x4 := x3.draw hd2
    have hN04 : (upd H3 p (.lst (ds2.map V.int))) N0 = some (.lst (ns7.map V.str)) := by rw [upd_ne N0p]; exact hN0
    generalize upd H3 p (.lst (ds2.map V.int)) = H4 at *
    obtain ⟨c2, rfl⟩ := Int.eq_ofNat_of_zero_le d20
    refine ⟨_, rfl, N0, _, rfl, SqL.of hN04, fun N nN => ?_⟩
    have ec : cutV (ns7.map V.str) none (some (c2 : Int)) = (ns7.take c2).map V.str := by
      rw [cut_to _ (by rw [List.length_map]; omega), List.map_take]
    rw [ec]
    have x5 := x4.grow ((Same.refl H4).new (o := .lst ((ns7.take c2).map V.str)) nN)
    have hN5 : (upd H4 N (.lst ((ns7.take c2).map V.str))) N = some (.lst ((ns7.take c2).map V.str)) := upd_same
    have Np := (x4.ne nN).1
    have okn : ∀ x ∈ ns7.take c2, NameOk x := fun x hx => okN x (List.mem_of_mem_take hx)
    have ndn : (ns7.take c2).Nodup := ndN.sublist (List.take_sublist _ _)
    have zn : (ns7.take c2).length ≤ 7 := by rw [List.length_take]; omega
    generalize ns7.take c2 = names at *
    generalize upd H4 N (.lst (names.map V.str)) = H5 at *
    clear hN04 nN x4 x3 hN0 s3 nN0 x2 x1 N0p
    -- the kind
    refine ⟨(show 6 ≤ sizeLine by decide), fun KA nKA => ?_⟩
    have sK : Same H5 (upd H5 KA (.lst (kds.map kindV))) := (Same.refl _).new nKA
    have hKA : (upd H5 KA (.lst (kds.map kindV))) KA = some (.lst (kds.map kindV)) := upd_same
    rw [show (HO.lst [V.non, .str "whole", .str "itemwise", .str "split", .str "overtaking", .str "passing"]) = .lst (kds.map kindV) from rfl]
    have x6 := x5.grow sK
    have hN6 := sK _ _ hN5
    have KAp := (x5.ne nKA).1
    generalize upd H5 KA (.lst (kds.map kindV)) = H6 at *
    refine ⟨_, rfl, p, ds2, 6, rfl, x6.hp, x6.dr, by decide, fun d3 ds3 d30 d31 hd3 _ => ?_⟩
    obtain ⟨ck, rfl⟩ := Int.eq_ofNat_of_zero_le d30
    have hckl : ck < kds.length := by show ck < 6; omega
    have x7 := x6.draw hd3
    have hN7 : (upd H6 p (.lst (ds3.map V.int))) N = some (.lst (names.map V.str)) := by rw [upd_ne Np]; exact hN6
    have hKA7 : (upd H6 p (.lst (ds3.map V.int))) KA = some (.lst (kds.map kindV)) := by rw [upd_ne KAp]; exact hKA
    generalize upd H6 p (.lst (ds3.map V.int)) = H7 at *
    refine ⟨KA, _, _, kindV (kds[ck]'hckl), rfl, rfl, SqL.of hKA7, atI_nat (by rw [List.getElem?_map, List.getElem?_eq_getElem hckl]; rfl), ?_⟩
    have kko : KindOk (kds[ck]'hckl) := kds_ok _ (List.getElem_mem hckl)
    generalize kds[ck]'hckl = k0 at *
    -- the choice
    refine ⟨_, rfl, p, ds3, 6, rfl, x7.hp, x7.dr, by decide, fun d4 ds4 d40 d41 hd4 _ => ?_⟩
    obtain ⟨c, rfl⟩ := Int.eq_ofNat_of_zero_le d40
    have x8 := x7.draw hd4
    have hN8 : (upd H7 p (.lst (ds4.map V.int))) N = some (.lst (names.map V.str)) := by rw [upd_ne Np]; exact hN7
    generalize upd H7 p (.lst (ds4.map V.int)) = H8 at *
    refine ⟨_, rfl, _, rfl, N, _, rfl, .inl (SqL.of hN8), _, _, rfl, rfl, p, ds4, ((names.map V.str).length : Int) + 1, rfl, x8.hp, x8.dr, by omega, fun d5 ds5 d50 d51 hd5 _ => ?_⟩
    obtain ⟨pl, rfl⟩ := Int.eq_ofNat_of_zero_le d50
    rw [List.length_map] at d51
    have hpl : pl ≤ names.length := by omega
    have hN9 : (upd H8 p (.lst (ds5.map V.int))) N = some (.lst (names.map V.str)) := by rw [upd_ne Np]; exact hN8
    generalize upd H8 p (.lst (ds5.map V.int)) = H9 at *
    clear x8 hN8 x7 hN7 hKA7 x6 hN6 x5 hN5 hKA sK nKA KAp
    -- what stays
    have sJ : Same (delH H9 N) H9 := del_same
    have jN : (delH H9 N) N = none := delH_same
    generalize delH H9 N = J at *
    refine ⟨(show 0 ≤ sizeLine by decide), fun DU nDU => ?_⟩
    have sD : Same J (upd H9 DU (.lst [])) := sJ.trans ((Same.refl _).new nDU)
    have hND : (upd H9 DU (.lst [])) N = some (.lst (names.map V.str)) := (Same.refl _).new nDU _ _ hN9
    have hDU : (upd H9 DU (.lst [])) DU = some (.lst []) := upd_same
    have jDU : DU ≠ N := fun e => by rw [e, hN9] at nDU; cases nDU
    generalize upd H9 DU (.lst []) = HA at *
    have ne2 : (2 : Nat) ≤ sizeLine := by decide
    have lnm : names.length = (names.map V.str).length := (List.length_map _).symm
    -- a name twice
    refine ⟨fun σ H' => ∃ xs k DU dl, σ = [some (.ref a), some (.ref p), some (.ref N), some (kindV k), some (.int (c : Nat)), some (.int (pl : Nat)), some (.ref DU), none, none, none, none, none] ∧ Same J H' ∧ H' N = some (.lst (xs.map V.str)) ∧ H' DU = some (.lst dl) ∧ DU ≠ N ∧ xs.length ≤ 8 ∧ (∀ x ∈ xs, x.length ≤ sizeLine ∧ PyData.strOk x = true) ∧ St33 names k0 c 1 xs k dl, ?_, ?_⟩
    · have zst0 : ∀ x ∈ names, x.length ≤ sizeLine ∧ PyData.strOk x = true := fun x hx => ⟨nm_size (okn x hx), (okn x hx).ok_⟩
      have same0 : ∀ DU, HA DU = some (.lst []) → DU ≠ N → ∃ xs k DU' dl, ([some (.ref a), some (.ref p), some (.ref N), some (kindV k0), some (.int (c : Nat)), some (.int (pl : Nat)), some (.ref DU), none, none, none, none, none] : L2.St) = [some (.ref a), some (.ref p), some (.ref N), some (kindV k), some (.int (c : Nat)), some (.int (pl : Nat)), some (.ref DU'), none, none, none, none, none] ∧ Same J HA ∧ HA N = some (.lst (xs.map V.str)) ∧ HA DU' = some (.lst dl) ∧ DU' ≠ N ∧ xs.length ≤ 8 ∧ (∀ x ∈ xs, x.length ≤ sizeLine ∧ PyData.strOk x = true) ∧ St33 names k0 c 1 xs k dl := fun DU h1 h2 => ⟨names, k0, DU, [], rfl, sD, hND, h1, h2, by omega, zst0, .inl ⟨rfl, rfl, rfl⟩⟩
      refine ⟨_, rfl, rfl, _, rfl, ?_⟩
      by_cases c1 : c = 1
      · subst c1
        refine iteT ?_
        refine ⟨_, rfl, !(names.map V.str).isEmpty, .inl ⟨_, SqL.of hND, rfl⟩, ?_⟩
        cases names with
        | nil => exact iteF (same0 DU hDU jDU)
        | cons x r =>
          refine iteT ?_
          have at0 : atI ((x :: r).map V.str) 0 = some (.str x) := at_at (i := 0) rfl
          refine ⟨_, rfl, N, _, _, _, rfl, rfl, SqL.of hND, at0, ne2, fun D1 nD1 => ?_⟩
          have sE : Same HA (upd HA D1 (.lst [.str "taken", .str x])) := (Same.refl _).new nD1
          have hNE := sE _ _ hND
          have hDE : (upd HA D1 (.lst [.str "taken", .str x])) D1 = some (.lst [.str "taken", .str x]) := upd_same
          have D1N : D1 ≠ N := fun e => by rw [e, hND] at nD1; cases nD1
          have sJE := sD.trans sE
          generalize upd HA D1 (.lst [.str "taken", .str x]) = HE at *
          have zz : ((x :: r).map V.str).length < sizeLine := by rw [List.length_map]; exact size_ok (m := 100) (by omega) (by decide)
          refine ⟨_, rfl, .inl ⟨rfl, _, SqL.of hNE⟩, _, rfl, _, rfl, N, _, _, _, rfl, rfl, SqL.of hNE, at0, N, _, _, _, rfl, rfl, hNE, zz, by omega, by omega, ?_⟩
          rw [ins_map]
          refine ⟨(x :: r).take pl ++ x :: (x :: r).drop pl, k0, D1, _, rfl, sJE.mut jN, upd_same, by rw [upd_ne D1N]; exact hDE, D1N, by rw [List.length_append, List.length_cons, List.length_take, List.length_drop]; omega, fun y hy => ?_, .inr ⟨.taken x, rfl, ?_, trivial, (okn x (by simp)).ok_, by omega, by omega⟩⟩
          · rcases List.mem_append.mp hy with h | h
            · exact zst0 y (List.mem_of_mem_take h)
            · rcases List.mem_cons.mp h with h | h
              · rw [h]; exact zst0 x (by simp)
              · exact zst0 y (List.mem_of_mem_drop h)
          · match pl with
            | 0 => exact chn_bad (ys := [x]) (y := x) (zs := r) (List.pairwise_singleton _ _) (fun y hy => by rw [List.mem_singleton.mp hy]; exact okn x (by simp)) (by unfold chkName; rw [if_pos (okn x (by simp)), if_pos (decide_eq_true (by simp))])
            | q + 1 => exact chn_bad (ndn.sublist (List.take_sublist _ _)) (fun y hy => okn y (List.mem_of_mem_take hy)) (by unfold chkName; rw [if_pos (okn x (by simp)), if_pos (decide_eq_true (by simp))])
      · rw [decide_eq_false (fun e => c1 (by have := V.int.inj e; omega))]
        exact iteF (iteF (same0 DU hDU jDU))
    clear hDU sD hND jDU hN9 nDU sJ
    rintro σ HB ⟨xs, k, DU, dl, rfl, sB, hNB, hDB, dne, zxs, zst, st⟩
    -- a word that is no name
    refine ⟨fun σ H' => ∃ xs k DU dl, σ = [some (.ref a), some (.ref p), some (.ref N), some (kindV k), some (.int (c : Nat)), some (.int (pl : Nat)), some (.ref DU), none, none, none, none, none] ∧ Same J H' ∧ H' N = some (.lst (xs.map V.str)) ∧ H' DU = some (.lst dl) ∧ DU ≠ N ∧ xs.length ≤ 8 ∧ (∀ x ∈ xs, x.length ≤ sizeLine ∧ PyData.strOk x = true) ∧ St33 names k0 c 2 xs k dl, ?_, ?_⟩
    · refine ⟨_, rfl, rfl, _, rfl, ?_⟩
      by_cases c2 : c = 2
      · subst c2
        refine iteT ?_
        obtain ⟨rfl, rfl, rfl⟩ : dl = [] ∧ xs = names ∧ k = k0 := by
          rcases st with h | ⟨_, _, _, _, _, _, h⟩
          · exact h
          · omega
        refine ⟨ne2, fun D1 nD1 => ?_⟩
        have sE : Same HB (upd HB D1 (.lst [.str "bad name", .str "Ab"])) := (Same.refl _).new nD1
        have hNE := sE _ _ hNB
        have hDE : (upd HB D1 (.lst [.str "bad name", .str "Ab"])) D1 = some (.lst [.str "bad name", .str "Ab"]) := upd_same
        have D1N : D1 ≠ N := fun e => by rw [e, hNB] at nD1; cases nD1
        have sJE := sB.trans sE
        generalize upd HB D1 (.lst [.str "bad name", .str "Ab"]) = HE at *
        have zz : (xs.map V.str).length < sizeLine := by rw [List.length_map]; exact size_ok (m := 100) (by omega) (by decide)
        refine ⟨_, rfl, .inl ⟨rfl, _, SqL.of hNE⟩, _, rfl, N, _, _, _, rfl, rfl, hNE, zz, by omega, by omega, ?_⟩
        rw [ins_map]
        refine ⟨xs.take pl ++ ("Ab" : Str) :: xs.drop pl, k, D1, _, rfl, sJE.mut jN, upd_same, by rw [upd_ne D1N]; exact hDE, D1N, by rw [List.length_append, List.length_cons, List.length_take, List.length_drop]; omega, fun y hy => ?_, .inr ⟨.badName "Ab", rfl, chn_bad (ndn.sublist (List.take_sublist _ _)) (fun y hy => okn y (List.mem_of_mem_take hy)) (by unfold chkName; rw [if_neg (by decide +kernel)]), trivial, (show PyData.strOk _ = true by decide +kernel), by omega, by omega⟩⟩
        rcases List.mem_append.mp hy with h | h
        · exact zst y (List.mem_of_mem_take h)
        · rcases List.mem_cons.mp h with h | h
          · rw [h]; exact ⟨by rw [sizeLine_eq]; decide +kernel, by decide +kernel⟩
          · exact zst y (List.mem_of_mem_drop h)
      · rw [decide_eq_false (fun e => c2 (by have := V.int.inj e; omega))]
        exact iteF ⟨xs, k, DU, dl, rfl, sB, hNB, hDB, dne, zxs, zst, st.le (by omega)⟩
    clear hDB sB hNB dne zxs zst st
    rintro σ HC ⟨xs, k, DU, dl, rfl, sC, hNC, hDC, dne, zxs, zst, st⟩
    -- another kind
    refine ⟨fun σ H' => ∃ xs k DU dl, σ = [some (.ref a), some (.ref p), some (.ref N), some (kindV k), some (.int (c : Nat)), some (.int (pl : Nat)), some (.ref DU), none, none, none, none, none] ∧ Same J H' ∧ H' N = some (.lst (xs.map V.str)) ∧ H' DU = some (.lst dl) ∧ DU ≠ N ∧ xs.length ≤ 8 ∧ (∀ x ∈ xs, x.length ≤ sizeLine ∧ PyData.strOk x = true) ∧ St33 names k0 c 3 xs k dl, ?_, ?_⟩
    · refine ⟨_, rfl, rfl, _, rfl, ?_⟩
      by_cases c3 : c = 3
      · subst c3
        refine iteT ?_
        obtain ⟨rfl, rfl, rfl⟩ : dl = [] ∧ xs = names ∧ k = k0 := by
          rcases st with h | ⟨_, _, _, _, _, _, h⟩
          · exact h
          · omega
        refine ⟨_, rfl, N, _, rfl, .inl (SqL.of hNC), _, _, rfl, rfl, _, rfl, ?_⟩
        refine ite2 (fun q => ?_) (fun _ => ⟨xs, k, DU, [], rfl, sC, hNC, hDC, dne, zxs, zst, .inl ⟨rfl, rfl, rfl⟩⟩)
        have q := of_decide_eq_true q
        rw [List.length_map] at q
        refine ⟨ne2, fun D1 nD1 => ?_⟩
        have sE : Same HC (upd HC D1 (.lst [.str "bad kind", .str "once"])) := (Same.refl _).new nD1
        have D1N : D1 ≠ N := fun e => by rw [e, hNC] at nD1; cases nD1
        exact ⟨xs, some "once", D1, _, rfl, sC.trans sE, sE _ _ hNC, upd_same, D1N, zxs, zst, .inr ⟨.badKind "once", rfl, chn_once ndn okn (by omega), trivial, (show PyData.strOk _ = true by decide +kernel), by omega, by omega⟩⟩
      · rw [decide_eq_false (fun e => c3 (by have := V.int.inj e; omega))]
        exact iteF (iteF ⟨xs, k, DU, dl, rfl, sC, hNC, hDC, dne, zxs, zst, st.le (by omega)⟩)
    clear hDC sC hNC dne zxs zst st
    rintro σ HC ⟨xs, k, DU, dl, rfl, sC, hNC, hDC, dne, zxs, zst, st⟩
    refine ⟨_, rfl, N, _, rfl, .inl (SqL.of hNC), fun KP nKP => ?_⟩
    have s1 : Same HC (upd HC KP (.lst (xs.map V.str))) := (Same.refl _).new nKP
    have hKD : (upd HC KP (.lst (xs.map V.str))) KP = some (.lst (xs.map V.str)) := upd_same
    have hND := s1 _ _ hNC
    have hDD := s1 _ _ hDC
    generalize upd HC KP (.lst (xs.map V.str)) = HD at *
    have lay := strs_lay (l := xs) fun x hx => (zst x hx).2
    rcases st with ⟨rfl, rfl, rfl⟩ | ⟨e0, rfl, he0, hc0, ho0, _, _⟩
    · have mk := chn_ok ndn okn kko
      refine ⟨_, rfl, _, rfl, N, xs, k, rfl, hND, by omega, fun x hx => (zst x hx).1, fun e he => (by rw [mk] at he; cases he), fun e he A1 HE nA1 sE hA1 => (by rw [mk] at he; cases he), fun he A1 T1 HE nA1 sE hA1 dT => ?_⟩
      have hNE := sE _ _ hND
      refine ⟨_, rfl, _, rfl, neD_of (strs_dp hNE) (strs_dp (sE _ _ hKD)) ⟨lay.1, Nat.le_trans lay.2 (by decide)⟩ ⟨_, rfl, iteF ?_⟩⟩
      refine ⟨_, rfl, false, .inl ⟨[], SqL.of (sE _ _ hDD), rfl⟩, iteF ?_⟩
      have lx : (xs.map V.str).length = xs.length := List.length_map _
      refine ⟨_, rfl, N, _, rfl, .inl (SqL.of hNE), 1, _, rfl, ⟨by decide, by decide, by omega, by omega⟩, fun C nC => ?_⟩
      have eLn : ((((xs.map V.str).length : Nat) : Int) - 1).toNat = xs.length - 1 := by rw [lx]; omega
      rw [eLn]
      refine lc_range (lo := 1) (n := xs.length - 1) (fun i H3 => ∃ us, GS RwT HE C H3 us ((List.range i).map (chnL xs k))) ⟨[], GS.start nC⟩ ?_ ?_
      · rintro i H3 hi ⟨us3, g⟩
        have h3 := g.s _ _ hNE
        have at1 : atI (xs.map V.str) ((1 : Int) + (i : Int)) = some (.str (xs.getD (i + 1) "")) := by
          rw [show (1 : Int) + (i : Int) = ((i + 1 : Nat) : Int) by omega]
          exact atI_nat (by rw [List.getElem?_map, List.getElem?_eq_getElem (by omega), List.getD_eq_getElem?_getD, List.getElem?_eq_getElem (by omega)]; rfl)
        have at0 : atI (xs.map V.str) ((1 : Int) + (i : Int) - 1) = some (.str (xs.getD i "")) := by
          rw [show (1 : Int) + (i : Int) - 1 = ((i : Nat) : Int) by omega]
          exact atI_nat (by rw [List.getElem?_map, List.getElem?_eq_getElem (by omega), List.getD_eq_getElem?_getD, List.getElem?_eq_getElem (by omega)]; rfl)
        refine ⟨rfl, tYes_if ?_⟩
        refine ⟨_, rfl, _, rfl, N, _, _, _, rfl, rfl, SqL.of h3, at1, _, rfl, _, rfl, _, _, rfl, rfl, N, _, _, _, rfl, rfl, SqL.of h3, at0, _, rfl, _, rfl, N, _, _, _, rfl, rfl, SqL.of h3, at1, ?_⟩
        refine ⟨_, rfl, ?_⟩
        walk_at "go"
        refine ⟨N, _, rfl, SqL.of h3, fun L nL => ?_⟩
        have ec : cutV (xs.map V.str) none (some ((1 : Int) + (i : Int))) = (xs.take (i + 1)).map V.str := by
          rw [show (1 : Int) + (i : Int) = ((i + 1 : Nat) : Int) by omega, cut_to _ (by rw [List.length_map]; omega), List.map_take]
        rw [ec]
        have g4 := g.new stRwT (o := .lst ((xs.take (i + 1)).map V.str)) nL
        have hL : (upd H3 L (.lst ((xs.take (i + 1)).map V.str))) L = some (.lst ((xs.take (i + 1)).map V.str)) := upd_same
        have LC : L ≠ C := fun e => by rw [e, g.hL] at nL; cases nL
        generalize upd H3 L (.lst ((xs.take (i + 1)).map V.str)) = H4 at *
        refine ⟨_, rfl, (show 5 ≤ sizeLine by decide), fun T2 nT2 => ?_⟩
        have sT : Same H4 (upd H4 T2 (.tup (rwV (chnL xs k i) L))) := (Same.refl _).new nT2
        have g5 := g4.new stRwT (o := .tup (rwV (chnL xs k i) L)) nT2
        have hT2 : (upd H4 T2 (.tup (rwV (chnL xs k i) L))) T2 = some (.tup (rwV (chnL xs k i) L)) := upd_same
        have hL5 := sT _ _ hL
        have gl := g5.pw.len
        rw [List.length_map, List.length_range] at gl
        refine ⟨us3, g5.hL, size_ok (m := 10000) (by omega) (by decide), us3 ++ [.ref T2], ?_⟩
        rw [List.range_succ, List.map_append]
        exact g5.app nC ⟨T2, L, rfl, g5.del hT2, by rw [delH_ne LC]; exact hL5⟩
      rintro HF ⟨us3, gC⟩
      have sEF := gC.s
      have hCF := gC.done stRwT
      have hNF := sEF _ _ hNE
      clear gC
      refine ⟨_, rfl, _, rfl, _, rfl, N, rfl, ⟨_, SqL.of hNF⟩, fun D nD => ?_⟩
      refine lc_list (K := K) (a := N) (xs := xs.map V.str) (fun i H2 => ∃ us, GS PsA HF D H2 us (chnH (xs.take i))) ⟨[], by rw [List.take_zero]; exact GS.start nD⟩ (fun i H2 _ ⟨_, g⟩ => SqL.of (g.s _ _ hNF)) ?_ ?_
      · rintro i y H2 hi ⟨us, g⟩
        obtain ⟨x, hx, rfl⟩ := at_map hi
        have il := (List.getElem?_eq_some_iff.mp hx).1
        refine ⟨rfl, tYes_if ?_⟩
        refine ⟨_, rfl, _, rfl, (show 2 ≤ sizeLine by decide), fun T2 nT2 => ?_⟩
        have g3 := g.new stPs (o := .tup [V.str x, .str x]) nT2
        have hT2 : (upd H2 T2 (.tup [V.str x, .str x])) T2 = some (.tup [V.str x, .str x]) := upd_same
        have gl := g3.pw.len
        unfold chnH at gl
        rw [List.length_map, List.length_take] at gl
        refine ⟨us, g3.hL, size_ok (m := 10000) (by omega) (by decide), us ++ [.ref T2], ?_⟩
        unfold chnH
        rw [take_snoc hx, List.map_append]
        exact g3.app nD ⟨T2, rfl, g3.del hT2⟩
      rintro HG ⟨us, g⟩
      rw [List.length_map, List.take_length] at g
      have hDG := g.done stPs
      have sFG := g.s
      refine ⟨_, rfl, (show 3 ≤ sizeLine by decide), fun TT nTT => ?_⟩
      have sT : Same HG (upd HG TT (.tup [.ref N, .ref D, .ref C])) := (Same.refl _).new nTT
      have sET := (sEF.trans sFG).trans sT
      have inC : ∀ l ∈ chnLs xs k, l.it.length ≤ 30 := fun l hl => by
        obtain ⟨i, hi, rfl⟩ := List.mem_map.mp hl
        show (xs.take (i + 1)).length ≤ 30
        rw [List.length_take]; omega
      have zL : (chnLs xs k).length < 64 := by unfold chnLs; rw [List.length_map, List.length_range]; omega
      have zH : (chnH xs).length < 64 := by unfold chnH; rw [List.length_map]; omega
      have td : TdA (upd HG TT (.tup [.ref N, .ref D, .ref C])) N D C xs (chnH xs) (chnLs xs k) := ⟨sET _ _ hNE, hDG.same stPs sT, hCF.same stRwT (sFG.trans sT), by omega, zH, zL, fun l hl => by have := inC l hl; omega, by rw [chnH_fst]; exact ndn, chn_nms ndn⟩
      refine ⟨TT, N, D, C, [], xs, chnH xs, chnLs xs k, rfl, upd_same, td, fun v HP sP dv _ => ?_⟩
      refine ⟨ne2, fun B nB => ?_⟩
      have sB : Same HP (upd HP B (.lst [.str "chain", .ref v])) := (Same.refl _).new nB
      have sF : Same HE (upd HP B (.lst [.str "chain", .ref v])) := (sET.trans sP).trans sB
      have okS : ∀ x ∈ xs, PyData.strOk x = true := fun x hx => (zst x hx).2
      have tok : ToldOk xs (chnH xs) (chnLs xs k) := ⟨okS, fun x hx => by
        obtain ⟨y, hy, rfl⟩ := List.mem_map.mp hx
        exact ⟨okS y hy, okS y hy⟩, fun l hl => by
        obtain ⟨i, i1, i2, rfl⟩ := chn_in hl
        exact ⟨okS _ (List.getElem_mem i2), okS _ (List.getElem_mem i1), okS _ (List.getElem_mem i2), fun y hy => okS y (List.mem_of_mem_take hy), kko⟩⟩
      exact eqD_of (d := .list [.str "chain", toldD xs (chnH xs) (chnLs xs k)]) (.lst (SqL.of (sF _ _ hA1)) (.cons (.str _) (.cons (dp_same sF dT) .nil))) (.lst (SqL.of upd_same) (.cons (.str _) (.cons (dp_same sB dv) .nil))) (told_layC (by decide +kernel) tok) (kQ _)
    · refine ⟨_, rfl, _, rfl, N, xs, k, rfl, hND, by omega, fun x hx => (zst x hx).1, fun e he => (by rw [he0] at he; cases he; exact hc0), fun e he A1 HE nA1 sE hA1 => ?_, fun he A1 T1 HE nA1 sE hA1 dT => (by rw [he0] at he; cases he)⟩
      have ee : e0 = e := by rw [he0] at he; exact Option.some.inj he
      subst ee
      have hNE := sE _ _ hND
      refine ⟨_, rfl, _, rfl, neD_of (strs_dp hNE) (strs_dp (sE _ _ hKD)) ⟨lay.1, Nat.le_trans lay.2 (by decide)⟩ ⟨_, rfl, iteF ?_⟩⟩
      have hDE := sE _ _ hDD
      refine ⟨_, rfl, true, .inl ⟨_, SqL.of hDE, by cases e0 <;> rfl⟩, iteT ?_⟩
      rw [Er.told_eq] at hA1 hDE
      exact ⟨_, rfl, _, rfl, eqD_of (strs_dp hA1) (strs_dp hDE) (Er.lay ho0) (kQ _)⟩
end

theorem facts {w : World} {K : PySem.W.Frag} {h : Heap} {mg : Str → Option Value} {f : Addr} (X : K.In h) (G : h.Ns mainGlobals mg) (hfa : mg ("law" : Str) = some (.ref f)) (c : SaysM R.prog fb fn xs K) :
    ∃ fd : FuncData, (∀ (s : Shared) (v : Value), BindsTo s fd ⟨[v], []⟩ [("_law_script", v)]) ∧ ∀ base : Heap, K.In base → base.Ns mainGlobals mg → FnOk R.prog w K mg base (L2.CX R.prog w) 10 f fd ["_law_script"] (spLaw K) := by
  have q : ∀ {y : Fy}, y ∈ fy → y.ok K = true := fun m => all_of (He.ba c.fact).1 m
  have qf : ∀ {y : He.Fa}, Fy.fa y ∈ fy → y.ok K = true := fun m => all_of (He.ba c.fact).1 m
  have glo : ∀ {x : Str}, x ∈ fyG → mg x = some (.ref (He.ga K x)) := fun m => He.glo_ok X G (qf (List.mem_append_left _ (List.mem_map.mpr ⟨_, m, rfl⟩)))
  have T : Bj mg := Bj.of fun x m => He.free_ok X G (qf (List.mem_append_right _ (List.mem_append_left _ (List.mem_map.mpr ⟨_, m, rfl⟩))))
  obtain ⟨fd0, F0⟩ := c.def_ 0 (d := adG "_law_draws" sDraws) rfl
  obtain ⟨fd1, F1⟩ := c.def_ 1 (d := adG "_law_take" sTake) rfl
  obtain ⟨fd2, F2⟩ := c.def_ 2 (d := adG "_law_names" sNames) rfl
  obtain ⟨fd3, F3⟩ := c.def_ 3 (d := adG "check_name" sCn) rfl
  obtain ⟨fd4, F4⟩ := c.def_ 4 (d := adG "check_known" sKn) rfl
  obtain ⟨fd5, F5⟩ := c.def_ 5 (d := adG "checked_sites" sCs) rfl
  obtain ⟨fd6, F6⟩ := c.def_ 6 (d := adG "check_kind" sCk) rfl
  obtain ⟨fd7, F7⟩ := c.def_ 7 (d := adG "check_channel" sCc) rfl
  obtain ⟨fd8, F8⟩ := c.def_ 8 (d := adG "homes_of" sHm) rfl
  obtain ⟨fd9, F9⟩ := c.def_ 9 (d := adG "way_back" sWb) rfl
  obtain ⟨fd10, F10⟩ := c.def_ 10 (d := adG "bringers_of" sBr) rfl
  obtain ⟨fd11, F11⟩ := c.def_ 11 (d := adM "Ends" "__init__" "Ends.__init__" sEnI) rfl
  obtain ⟨fd12, F12⟩ := c.def_ 12 (d := adM "Load" "__init__" "Load.__init__" sLoI) rfl
  obtain ⟨fd13, F13⟩ := c.def_ 13 (d := adM "Item" "__init__" "Item.__init__" sItI) rfl
  obtain ⟨fd14, F14⟩ := c.def_ 14 (d := adM "Channel" "__init__" "Channel.__init__" sChI) rfl
  obtain ⟨fd15, F15⟩ := c.def_ 15 (d := adM "Placement" "__init__" "Placement.__init__" sPlI [.adr (He.dflAt ("Placement", some "__init__") 0), .adr (He.dflAt ("Placement", some "__init__") 1), .adr (He.dflAt ("Placement", some "__init__") 2)]) rfl
  obtain ⟨fd16, F16⟩ := c.def_ 16 (d := adG "ascending" sAsc) rfl
  obtain ⟨fd17, F17⟩ := c.def_ 17 (d := adM "Channel" "carried" "Load.carried" sLoR) rfl
  obtain ⟨fd18, F18⟩ := c.def_ 18 (d := adM "Placement" "rows" "Placement.rows" sRw) rfl
  obtain ⟨fd19, F19⟩ := c.def_ 19 (d := adG "_law_sorted" sSo) rfl
  obtain ⟨fd20, F20⟩ := c.def_ 20 (d := adG "_law_told" sTd) rfl
  obtain ⟨fd21, F21⟩ := c.def_ 21 (d := adS "Placement" "chain" "Placement.chain" sChn) rfl
  obtain ⟨fd22, F22⟩ := c.def_ 22 (d := adG "_law_chained" sChd) rfl
  obtain ⟨fd23, F23⟩ := c.def_ 23 (d := adG "law" sLaw) rfl
  have ht : (R.prog.main.scope.names.lookup ("super" : Str)).isSome = false := by decide +kernel
  have xBadName := c.exc ht 0 (d := xdBadName) rfl
  have gBadName : mg ("BadName" : Str) = some (.ref (He.ga K "BadName")) := c.mgx X G 0 (d := xdBadName) rfl
  have xTaken := c.exc ht 1 (d := xdTaken) rfl
  have gTaken : mg ("Taken" : Str) = some (.ref (He.ga K "Taken")) := c.mgx X G 1 (d := xdTaken) rfl
  have xUnknown := c.exc ht 2 (d := xdUnknown) rfl
  have gUnknown : mg ("Unknown" : Str) = some (.ref (He.ga K "Unknown")) := c.mgx X G 2 (d := xdUnknown) rfl
  have xBadChannel := c.exc ht 3 (d := xdBadChannel) rfl
  have gBadChannel : mg ("BadChannel" : Str) = some (.ref (He.ga K "BadChannel")) := c.mgx X G 3 (d := xdBadChannel) rfl
  have xBadKind := c.exc ht 4 (d := xdBadKind) rfl
  have gBadKind : mg ("BadKind" : Str) = some (.ref (He.ga K "BadKind")) := c.mgx X G 4 (d := xdBadKind) rfl
  have xTwoWays := c.exc ht 5 (d := xdTwoWays) rfl
  have gTwoWays : mg ("TwoWays" : Str) = some (.ref (He.ga K "TwoWays")) := c.mgx X G 5 (d := xdTwoWays) rfl
  have xNotHeld := c.exc ht 6 (d := xdNotHeld) rfl
  have gNotHeld : mg ("NotHeld" : Str) = some (.ref (He.ga K "NotHeld")) := c.mgx X G 6 (d := xdNotHeld) rfl
  have e := hfa.symm.trans (glo (x := "law") (by simp [fyG]))
  cases e
  have b := FunD.bindsA (ps := ["_law_script"]) F23 fun _ _ _ _ _ _ us hl => match us, hl with | [_], _ => rfl
  refine ⟨fd23, fun s v => b s [v] rfl, fun base _ _ => ?_⟩
  have cItem : Cls K (He.ga K "Item") := He.cls_ok (qf (y := .cls "Item") (by simp [fy]))
  have nItem : ∀ f ∈ (["owner", "name", "seat"] : List Str), NoAttr K (He.ga K "Item") f := fun f hf => by
    simp only [List.mem_cons, List.not_mem_nil, or_false] at hf
    rcases hf with rfl | rfl | rfl <;> exact He.noat_ok (qf (by simp [fy]))
  have cChannel : Cls K (He.ga K "Channel") := He.cls_ok (qf (y := .cls "Channel") (by simp [fy]))
  have nChannel : ∀ f ∈ (["source", "target", "names", "name", "kind"] : List Str), NoAttr K (He.ga K "Channel") f := fun f hf => by
    simp only [List.mem_cons, List.not_mem_nil, or_false] at hf
    rcases hf with rfl | rfl | rfl | rfl | rfl <;> exact He.noat_ok (qf (by simp [fy]))
  have cPlacement : Cls K (He.ga K "Placement") := He.cls_ok (qf (y := .cls "Placement") (by simp [fy]))
  have nPlacement : ∀ f ∈ (["places", "seats", "lines", "bringers"] : List Str), NoAttr K (He.ga K "Placement") f := fun f hf => by
    simp only [List.mem_cons, List.not_mem_nil, or_false] at hf
    rcases hf with rfl | rfl | rfl | rfl <;> exact He.noat_ok (qf (by simp [fy]))
  obtain ⟨sw1, sw2⟩ := He5.wrapB_ok (He.ba c.fact).2
  have cf := Fy.clf_ok (q (y := .clf "Placement" "rows") (by simp [fy]))
  have g_draws : Cal R.prog w K mg base 1 "_law_draws" ["_law_script", "_law_many"] (spDraws K) :=
    ⟨⟨_, fd0, glo (by simp [fyG]), F0.kp, F0.bindsN (ps := ["_law_script", "_law_many"]) (fun _ _ _ _ _ _ us hl => match us, hl with | [_, _], _ => rfl), ok_draws F0 T.toBi⟩⟩
  have g_take : Cal R.prog w K mg base 1 "_law_take" ["_law_draws_here", "_law_size"] (spTake) :=
    ⟨⟨_, fd1, glo (by simp [fyG]), F1.kp, F1.bindsN (ps := ["_law_draws_here", "_law_size"]) (fun _ _ _ _ _ _ us hl => match us, hl with | [_, _], _ => rfl), ok_take F1 T.toBi⟩⟩
  have g_names : Cal R.prog w K mg base 1 "_law_names" ["_law_draw", "_law_many"] (spNames) :=
    ⟨⟨_, fd2, glo (by simp [fyG]), F2.kp, F2.bindsN (ps := ["_law_draw", "_law_many"]) (fun _ _ _ _ _ _ us hl => match us, hl with | [_, _], _ => rfl), ok_names F2 T.toBi⟩⟩
  have g_check_name : Cal R.prog w K mg base 1 "check_name" ["name", "taken"] (spCn K (He.ga K "BadName") (He.ga K "Taken")) :=
    ⟨⟨_, fd3, glo (by simp [fyG]), F3.kp, F3.bindsN (ps := ["name", "taken"]) (fun _ _ _ _ _ _ us hl => match us, hl with | [_, _], _ => rfl), ok_cn F3 T (He.str_ok X G (qf (y := .str "LETTERS" abc) (by simp [fy]))) (He.int_ok X G (qf (y := .int "LONGEST" 8) (by simp [fy]))) xBadName gBadName xTaken gTaken⟩⟩
  have g_check_known : Cal R.prog w K mg base 1 "check_known" ["name", "known"] (spKn K (He.ga K "Unknown")) :=
    ⟨⟨_, fd4, glo (by simp [fyG]), F4.kp, F4.bindsN (ps := ["name", "known"]) (fun _ _ _ _ _ _ us hl => match us, hl with | [_, _], _ => rfl), ok_kn F4 T xUnknown gUnknown⟩⟩
  have g_checked_sites : Cal R.prog w K mg base 2 "checked_sites" ["names"] (spCs K (exA K)) :=
    ⟨⟨_, fd5, glo (by simp [fyG]), F5.kp, F5.bindsN (ps := ["names"]) (fun _ _ _ _ _ _ us hl => match us, hl with | [_], _ => rfl), ok_cs F5 T g_check_name⟩⟩
  have g_check_kind : Cal R.prog w K mg base 3 "check_kind" ["kind"] (spCk (He.ga K "BadKind")) :=
    ⟨⟨_, fd6, glo (by simp [fyG]), F6.kp, F6.bindsN (ps := ["kind"]) (fun _ _ _ _ _ _ us hl => match us, hl with | [_], _ => rfl), ok_ck F6 ⟨(Fy.tup_ok X G (q (y := .tup "KINDS" kindsDv) (by simp [fy]))).1, fun H => (Fy.tup_ok X G (q (y := .tup "KINDS" kindsDv) (by simp [fy]))).2 H⟩ xBadKind gBadKind⟩⟩
  have g_check_channel : Cal R.prog w K mg base 4 "check_channel" ["row", "sites", "items", "taken"] (spCc K (exA K)) :=
    ⟨⟨_, fd7, glo (by simp [fyG]), F7.kp, F7.bindsN (ps := ["row", "sites", "items", "taken"]) (fun _ _ _ _ _ _ us hl => match us, hl with | [_, _, _, _], _ => rfl), ok_cc F7 T g_check_name g_check_known g_check_kind xBadChannel gBadChannel⟩⟩
  have g_homes_of : Cal R.prog w K mg base 1 "homes_of" ["seats"] (spHm K (He.ga K "Item")) :=
    ⟨⟨_, fd8, glo (by simp [fyG]), F8.kp, F8.bindsN (ps := ["seats"]) (fun _ _ _ _ _ _ us hl => match us, hl with | [_], _ => rfl), ok_hm F8 T⟩⟩
  have g_way_back : Cal R.prog w K mg base 1 "way_back" ["homes", "bringers", "item", "site"] (spWb K (He.ga K "Channel")) :=
    ⟨⟨_, fd9, glo (by simp [fyG]), F9.kp, F9.bindsN (ps := ["homes", "bringers", "item", "site"]) (fun _ _ _ _ _ _ us hl => match us, hl with | [_, _, _, _], _ => rfl), ok_wb F9 T⟩⟩
  have g_bringers_of : Cal R.prog w K mg base 2 "bringers_of" ["homes", "lines"] (spBr K (He.ga K "Channel") (exA K)) :=
    ⟨⟨_, fd10, glo (by simp [fyG]), F10.kp, F10.bindsN (ps := ["homes", "lines"]) (fun _ _ _ _ _ _ us hl => match us, hl with | [_, _], _ => rfl), ok_br F10 T g_way_back xTwoWays gTwoWays xNotHeld gNotHeld⟩⟩
  have f_Ends : CFn R.prog w K mg base 1 "Ends" "__init__" ["self", "source", "target"] (spEnI K) :=
    ⟨⟨_, _, fd11, glo (by simp [fyG]), Fy.clf_ok (q (by simp [fy])), F11.bindsN (ps := ["self", "source", "target"]) (fun _ _ _ _ _ _ us hl => match us, hl with | [_, _, _], _ => rfl), ok_enI F11 ⟩⟩
  have f_Load : CFn R.prog w K mg base 1 "Load" "__init__" ["self", "items"] (spLoI K) :=
    ⟨⟨_, _, fd12, glo (by simp [fyG]), Fy.clf_ok (q (by simp [fy])), F12.bindsN (ps := ["self", "items"]) (fun _ _ _ _ _ _ us hl => match us, hl with | [_, _], _ => rfl), ok_loI F12 T.toBi T.list⟩⟩
  have g_Item : Mak R.prog w K mg base 1 "Item" (He.ga K "Item") ["self", "owner", "name", "seat"] (spItI K (He.ga K "Item")) :=
    ⟨glo (by simp [fyG]), _, fd13, He.mkr_ok (qf (by simp [fy])), F13.bindsN (ps := ["self", "owner", "name", "seat"]) (fun _ _ _ _ _ _ us hl => match us, hl with | [_, _, _, _], _ => rfl), ok_itI F13 ⟩
  have g_Channel : Mak R.prog w K mg base 4 "Channel" (He.ga K "Channel") ["self", "name", "source", "target", "items", "late"] (spChI K (He.ga K "BadKind")) :=
    ⟨glo (by simp [fyG]), _, fd14, He.mkr_ok (qf (by simp [fy])), F14.bindsN (ps := ["self", "name", "source", "target", "items", "late"]) (fun _ _ _ _ _ _ us hl => match us, hl with | [_, _, _, _, _, _], _ => rfl), ok_chI F14 g_check_kind f_Ends f_Load⟩
  obtain ⟨ds15, hv15, bd15⟩ := F15.binds1 (ps := ["self", "sites", "homes", "channels"]) 4 3 (by intro e; cases e) rfl (fun _ _ _ _ _ _ _ us its h1 h2 => match us, its, h1, h2 with | [_, _, _, _], [_, _, _], _, _ => ⟨_, rfl, rfl⟩)
  have bd15 : Binds K fd15 ["self", "sites", "homes", "channels"] [] := by cases hv15; exact bd15
  have g_Placement : Mak R.prog w K mg base 6 "Placement" (He.ga K "Placement") ["self", "sites", "homes", "channels"] (spPlI K (He.ga K "Placement") (He.ga K "Item") (He.ga K "Channel") (exA K)) :=
    ⟨glo (by simp [fyG]), _, fd15, He.mkr_ok (qf (by simp [fy])), bd15, ok_plI F15 T g_checked_sites g_check_name g_check_known g_check_channel g_Item g_Channel g_homes_of g_bringers_of cItem nItem cChannel nChannel⟩
  have g_ascending : Cal R.prog w K mg base 2 "ascending" ["rows"] (spAsc K) :=
    ⟨⟨_, fd16, glo (by simp [fyG]), F16.kp, F16.bindsN (ps := ["rows"]) (fun _ _ _ _ _ _ us hl => match us, hl with | [_], _ => rfl), ok_asc F16 T.toBi⟩⟩
  have m_Channel_carried : Mth R.prog w K mg base 3 (He.ga K "Channel") "carried" ["self"] (spLoR K) :=
    ⟨He.cls_ok (qf (y := .cls "Channel") (by simp [fy])), _, fd17, He.meth_ok (qf (by simp [fy])), F17.bindsN (ps := ["self"]) (fun _ _ _ _ _ _ us hl => match us, hl with | [_], _ => rfl), ok_loR F17 g_ascending⟩
  have m_Placement_rows : Mth R.prog w K mg base 4 (He.ga K "Placement") "rows" ["self"] (spRw (He.ga K "Placement") (He.ga K "Item") (He.ga K "Channel")) :=
    ⟨He.cls_ok (qf (y := .cls "Placement") (by simp [fy])), _, fd18, He.meth_ok (qf (by simp [fy])), F18.bindsN (ps := ["self"]) (fun _ _ _ _ _ _ us hl => match us, hl with | [_], _ => rfl), ok_rw F18 T g_ascending m_Channel_carried cPlacement nPlacement cItem nItem cChannel nChannel⟩
  have g_sorted : Cal R.prog w K mg base 2 "_law_sorted" ["_law_rows"] (spSoG K) :=
    ⟨⟨_, fd19, glo (by simp [fyG]), F19.kp, F19.bindsN (ps := ["_law_rows"]) (fun _ _ _ _ _ _ us hl => match us, hl with | [_], _ => rfl), ok_soG F19 T.toBi⟩⟩
  have g_told : Cal R.prog w K mg base 3 "_law_told" ["_law_rows"] (spTdG K) :=
    ⟨⟨_, fd20, glo (by simp [fyG]), F20.kp, F20.bindsN (ps := ["_law_rows"]) (fun _ _ _ _ _ _ us hl => match us, hl with | [_], _ => rfl), ok_tdG F20 T g_sorted⟩⟩
  have f_chain : SFn R.prog w K mg base 8 "Placement" "chain" ["names", "late"] (spChn (He.ga K "Placement") (He.ga K "Item") (He.ga K "Channel") (exA K)) :=
    ⟨⟨_, _, _, fd21, glo (by simp [fyG]), ⟨cf.rd, cf.ga, sw1, sw2, F21.kp⟩, F21.bindsN (ps := ["names", "late"]) (fun _ _ _ _ _ _ us hl => match us, hl with | [_, _], _ => rfl), ok_chn F21 T g_Placement cPlacement nPlacement⟩⟩
  have g_chained : Cal R.prog w K mg base 9 "_law_chained" ["_law_names_here", "_law_kind"] (spChd K) :=
    ⟨⟨_, fd22, glo (by simp [fyG]), F22.kp, F22.bindsN (ps := ["_law_names_here", "_law_kind"]) (fun _ _ _ _ _ _ us hl => match us, hl with | [_, _], _ => rfl), ok_chd F22 (X := exA K) T f_chain m_Placement_rows xBadName gBadName xTaken gTaken xBadKind gBadKind (He.exm_ok (qf (y := .exm "Taken" "BadName" false) (by simp [fy]))) (He.exm_ok (qf (y := .exm "BadKind" "BadName" false) (by simp [fy]))) (He.exm_ok (qf (y := .exm "BadKind" "Taken" false) (by simp [fy])))⟩⟩
  exact ok_law F23 T g_draws g_take g_names g_chained g_told
end M
open PySem PySem.W PySem.Calls PyProof.Rows
set_option maxRecDepth 100000 in
set_option maxHeartbeats 0 in
theorem PySem.Challenge.cw_latebridges_k33_chains_holds : PySem.Challenge.rw_latebridges_k33_chains.Holds := by
  w_on; o_law
  refine HandSHeadRun.head_any (r := OpenLaw.row PySem.Challenge.rw_latebridges_k33_chains) (q := view (OpenLaw.row PySem.Challenge.rw_latebridges_k33_chains).prog [40]) (H := M.hk) (ob := M.ob) (M := 20000) (loose := M.loose) (d := HandSHeadRun.topDef (OpenLaw.row PySem.Challenge.rw_latebridges_k33_chains).prog 40) (kwd := []) M.ob_eq
    (by kernel_rfl) (fun s => by kernel_rfl) M.run (by kernel_rfl) (by kernel_rfl) (by kernel_rfl) (by rfl) (by first | assumption | decide +kernel) (by decide +kernel) ⟨rfl, rfl, rfl, rfl, rfl, by decide +kernel⟩ ?hw ?hc
  case hw => w_witness2
  case hc =>
    refine L2.walk_ofE (l := PySem.Challenge.rw_latebridges_k33_chains) (n := 63) (k := 10) (x := "_law_script") (CX := L2.CX0) rfl (by decide) (by kernel_rfl) ⟨rfl, by decide, by decide⟩ ?F (fun _ _ _ _ z => z)
    intro w mg fa h Y G hmg0
    obtain ⟨K, KX, c⟩ := Y
    have hmg : mg ("law" : PySem.Str) = some (.ref fa) := by
      have e : (HandSHeadRun.topDef (OpenLaw.row PySem.Challenge.rw_latebridges_k33_chains).prog 40).name = ("law" : PySem.Str) := by kernel_rfl
      rw [← e]
      exact hmg0
    obtain ⟨fd, hb, hF⟩ := M.facts (w := w) KX G hmg c
    exact ⟨K, fd, M.spLaw K, KX, hb, fun H a ns hl _ hS => ⟨a, ns, rfl, hS, hl, fun _ => rfl⟩, fun base hB hG => M.calm_of (hF base hB hG) fun _ _ _ _ z => z⟩
