import PyProof.Rows.All
import Wide.All
import OpenK.AllK
import Wide.FinOn
import PyProof.EqAt
import PyProof.EqKinds
import PyProof.TupleCall
import KE.KSuperObj
import KE.KSuper
import KE.KExcInit
import HandS.ForMost
import HandS.ExcSuper
import HandS.ForExc
import HandS.IsInst
import HandS.Property
import HandS.TryMany
import HandS.ExcField
import HandS.Deep
import HandS.Sort
import HandS.Flow
import HandS.Small
import HandS.CallSlots
import HandS.WordsDict
import HandS.Steps
import HandS.TupAny
import HandS.TupLe
import HandS.More
import HandS.Conv
import HandS.TupSets
import KE.SortData
import KE.KeyNested
import PySem.Challenge.RW_nowaittasks_k07_whole_levels_any_schedul
import PyProof.Rows.SortShell
import HandS.Walk
import HandS.ExcOwn
set_option Elab.async false
set_option linter.all false
set_option maxHeartbeats 4000000
set_option maxRecDepth 100000
/-! The package's own errors: a class over TaskError over Exception, its __init__ says super().__init__(text) and stores one field. -/
namespace PySem
namespace K07X
open PySem.W PySem.Calls PyProof.Rows
/-- what the written part says of an error class at C (its own __init__ at fI) and of its field -/
structure ErrTxt (P : Program) (K : Frag) (mg : Str → Option Value) (x fld qual : Str) (params : Arguments) (body : List Stmt) (scope : Scope) (C fI : Addr) : Prop where
  gC : mg x = some (.ref C)
  cls : ∃ nm q N bs bm sn sub ab col dd k0 k1 k2 k3 k5, K.lookup C = some (excClassObj nm q C N bs bm true sn sub ab col dd k0 k1 k2 k3 k5 "Exception.__new__") ∧ excTail ESX.exTail bm = true ∧ alongIn K "__init__" bm = some (some (.builtin "Exception.__init__"))
  ov : excOver K C ESX.exTail = true
  sa : findIn K (.ref C) "__setattr__" = some (some (.builtin "object.__setattr__"))
  ga : findIn K (.ref C) "__getattribute__" = some (some (.builtin "BaseException.__getattribute__"))
  gg : findIn K (.ref C) "__getattr__" = some none
  noN : findIn K (.ref C) fld = some none
  iC : findIn K (.ref C) "__init__" = some (some (.ref fI))
  tI : typeIn K (.ref fI) = some (.type "function")
  kC : keepIn K (.ref C) = true
  exC : subIn K (.ref C) (.type "BaseException") = some true
  exE : subIn K (.ref C) (.type "Exception") = some true
  slf : subIn K (.ref C) (.ref C) = some true
  tyC : typeIn K (.ref C) = some (.type "type")
  hdC : hasDictIn K C = true
  gS : mg "super" = none
  op : nsIn K cStatics "thirdparty.any" = some none
  fn : ∃ (oc : Value) (od : Option Addr) (kV doc pm : Value) (an : Option Addr) (ct : Value) (osl : Array (Option Value)) (cda cc : Addr) (ccl cl : Value) (cdd cld : Option Addr) (ccs csl : Array (Option Value)) (vs : Array Value) (file : Str) (tf : Tok),
    K.lookup fI = some ⟨oc, od, .func (ksFn "__init__" qual params body scope .none kV doc pm an (.ref cda) ct cc), osl⟩ ∧ codeIn K (.ref cda) qual = true ∧
    K.lookup cda = some ⟨ccl, cdd, .fields vs, ccs⟩ ∧ vs[2]? = some (.str file tf) ∧ ((P.main.file : Str) == file) = true ∧ K.lookup cc = some ⟨cl, cld, .cell (some (.ref C)), csl⟩
theorem few_size (v : Value) : [v].length ≤ sizeLine := by
  rw [sizeLine_eq]
  exact (by decide : 1 ≤ 16777216)
section
open Builtin Builtin.ObjectAttr
variable {prog : Program} {w : World} {A : Around} {E : Value → Shared → Prop} {R : Result → Shared → Prop} {hp : Heap} {g : Array GenState} {d : Drawn} {t : Nat} {os : OsState}
/-- self.fld = v on a new error -/
theorem osa_err {K : Frag} {name : Str} {tk : Tok} {v : Value} {x C : Addr} {fv : Array Value}
    (X : K.In hp) (hx : hp.get? x = some { cls := .ref C, data := .fields fv }) (ho : excOver K C ESX.exTail = true) (hh : hasDictIn K C = true) (ha : findIn K (.ref C) name = some none)
    (hq : ∀ h' tk' dx, (∀ b o, b ≠ x → hp.get? b = some o → h'.get? b = some o) → hp.objs.size ≤ dx → dx ≠ x → h'.get? x = some { cls := .ref C, dict := some dx, data := .fields fv } →
      h'.Ns1 dx (fun y => if y = name then some v else none) → R (.ok (.ret .none)) ⟨h', g, d, tk', os⟩) :
    codeAny (model prog w) A (.call (.builtin "object.__setattr__") ⟨[.ref x, .str name tk, v], []⟩) R ⟨hp, g, d, t, os⟩ := by
  have I : InstAt hp x { cls := .ref C, data := .fields fv } C none := ⟨hx, rfl, rfl, trivial⟩
  have hxs : x ≠ hp.objs.size := Nat.ne_of_lt (Heap.lt_size hx)
  have ht : takerIn K C name = some none := by unfold takerIn; rw [ha]; rfl
  refine osa_openX (s := ⟨hp, g, d, t, os⟩) F.store_Exception X I ho ht fun b => ?_
  show wpAny _ _ (storeInOwnDict (.ref x) (.ref C) (.str name tk) name v b) _ _ _
  obtain ⟨cd, hc, hd'⟩ := any_some hh
  have hcls : Looks (model prog w) hp (classData C) cd := looks_clsIn X hc
  obtain ⟨nm, bs, mro, ns, qn, hd, sn, sb, ab, col, del⟩ := cd
  dsimp only at hd'
  subst hd'
  unfold storeInOwnDict ownDictForStores
  cases b <;> repeat (first | with_reducible refine HandSPX.store_in_new ?_ ?_ | with_reducible refine wpAny_loadPart_at hx ?_ | with_reducible refine hcls.at ?_ | wp_step)
  all_goals first
    | exact ⟨_, #[], _, (Heap.get?_update_ne _ _ _ _ hxs.symm).trans (Heap.get?_push_at rfl rfl), rfl, fun e he => absurd he (by simp), fun _ => rfl⟩
    | (intro h' tk' hn' hs
       have hx₁ : (hp.push { cls := .type "dict", data := .dict #[] }).get? x = some { cls := .ref C, data := .fields fv } := Heap.get?_push_of_some _ hx
       refine hq h' tk' hp.objs.size (fun b o hb ho => ?_) (Nat.le_refl _) hxs.symm ?_ hn'
       · exact (hs.2 b (Nat.ne_of_lt (Heap.lt_size ho))).trans ((Heap.get?_update_ne _ _ _ _ hb).trans (Heap.get?_push_of_some _ ho))
       · exact (hs.2 x hxs).trans (Heap.get?_update_self _ hx₁ rfl))
    | trace_state
end

/-- the body of such an __init__: super().__init__(msg); self.fld = fld -/
abbrev errBody (fld : Str) (msg : Expr) (p0 p1 p2 p3 p4 q1 q2 q3 q4 : Pos) : List Stmt :=
  [.Expr (.Call (.Attribute (.Call (.Name "super" p0) [] [] p1) "__init__" p2) [msg] [] p3) p4, .Assign [.Attribute (.Name "self" q1) fld q2] (.Name fld q3) q4]
/-- how the two arguments are bound -/
def errBinds (fld : Str) (x : Addr) (v : Value) : List (Str × Value) := [(("self" : Str), Value.ref x), (fld, v)]
/-- what __init__ leaves of the new error at x -/
structure ErrInit (fld : Str) (h h' : Heap) (x C dx t1 : Addr) (v : Value) : Prop where
  keep : ∀ b o, b ≠ x → h.get? b = some o → h'.get? b = some o
  obj : h'.get? x = some { cls := .ref C, dict := some dx, data := .fields #[.ref t1, .none, .none, .none, .bool false, .none] }
  dbig : h.objs.size ≤ dx
  dne : dx ≠ x
  ns : h'.Ns1 dx (fun y => if y = fld then some v else none)
/-- how the body is to be read -/
structure ErrRead (prog : Program) (w : World) (fld : Str) (params : Arguments) (scope : Scope) (msg : Expr) (p0 p1 p2 p3 : Pos) (ok : Value → Prop) : Prop where
  ar : ∃ ar, (params.posonlyargs ++ params.args).head? = some ar ∧ ar.arg = ("self" : Str)
  ks : scope.names.lookup ("super" : Str) = some .globalImplicit
  kc : scope.names.lookup ("__class__" : Str) = some .free
  k1 : scope.names.lookup ("self" : Str) = some .local
  k2 : scope.names.lookup fld = some .local
  kk : scope.kind = .function
  cell : ∀ y ∈ scope.names, y.2 ≠ .cell
  ne : fld ≠ ("self" : Str)
  db : (fld == ("__debug__" : Str)) = false
  top : (prog.main.scope.names.lookup ("super" : Str)).isSome = false
  bind : ∀ (fd : FuncData) (x : Addr) (v : Value), fd.params = params → fd.defaults = .none → ∀ s : Shared, BindsTo s fd ⟨[.ref x, v], []⟩ (errBinds fld x v)
  ev : ∀ (env : Env) (s1 : Shared) (A : Around) (E : Value → Shared → Prop) (x : Addr) (v : Value) (Q : List Value → Shared → Prop), ok v → env.scope = scope → s1.heap.Ns env.locals (fun y => (errBinds fld x v).reverse.lookup y) → (∀ u tk, Q [u] { s1 with toks := tk }) →
      wpAny (model prog w) A (spliced (backTo p3 (starEach [msg] env))) Q E s1
  st : ∀ env, starEach [msg] env = (false, eval msg env) :: starEach [] env
  he : ∀ env : Env, ∃ pl : Sem Bool, eval (.Call (.Attribute (.Call (.Name "super" p0) [] [] p1) "__init__" p2) [msg] [] p3) env = (do
      let ov ← attributeBase (.Call (.Name "super" p0) [] [] p1) "__init__" env (eval (.Call (.Name "super" p0) [] [] p1) env)
      standAt p2.atName
      let (f, first) ← holding [ov] (getMethod ov "__init__" pl)
      callWith p3 f first (backTo p3 (starEach [msg] env)) [])
  it : ∀ env : Env, env.scope = scope → interactive env = false
  sw : ∀ (env : Env) (p4 : Pos), env.scope = scope → swapsWith (.Call (.Attribute (.Call (.Name "super" p0) [] [] p1) "__init__" p2) [msg] [] p3) none p4.line env = pure false
  sw2 : ∀ (env : Env) (q1 q2 q3 q4 : Pos), env.scope = scope → swapsWith (.Name fld q3) (some (.Attribute (.Name "self" q1) fld q2)) q4.line env = pure false
  co : scope.isCoroutine = false
  gen : scope.isGenerator = false
section
variable {prog : Program} {w : World} {A : Around} {R : Result → Shared → Prop} {s : Shared} {K : Frag} {mg mb : Str → Option Value} {C fI : Addr} {x0 fld qual : Str} {params : Arguments} {scope : Scope} {msg : Expr} {p0 p1 p2 p3 p4 q1 q2 q3 q4 : Pos} {ok : Value → Prop}
theorem err_init (T : ErrTxt prog K mg x0 fld qual params (errBody fld msg p0 p1 p2 p3 p4 q1 q2 q3 q4) scope C fI) (D : ErrRead prog w fld params scope msg p0 p1 p2 p3 ok) {x t0 : Addr} {v : Value} (X : K.In s.heap) (hlim : s.heap.NoLimit) (G : s.heap.Ns mainGlobals mg) (B : s.heap.Ns builtinsNs mb) (hB : mb "super" = some (.type "super"))
    (hx : s.heap.get? x = some (HandSPX.excO C t0)) (hnx : K.lookup x = none) (hroom : A.depth < recursionLimit) (hv : ok v)
    (hq : ∀ h' tk dx t1, ErrInit fld s.heap h' x C dx t1 v → R (.ok (.ret .none)) { s with heap := h', toks := tk }) :
    codeAny (model prog w) A (.call (.ref fI) ⟨[.ref x, v], []⟩) R s := by
  obtain ⟨oc, od, kV, doc, pm, an, ct, osl, cda, cc, ccl, cl, cdd, cld, ccs, csl, vs, file, tf, hf, hcd, hcode, hvs, hfile, hcl⟩ := T.fn
  obtain ⟨nm, q, N, bs, bm, sn, sub, ab, col, dd, k0, k1, k2, k3, k5, hC, hbm, hal⟩ := T.cls
  have hci : clsIn K C = some { name := nm, bases := bs, mro := .ref C :: bm, ns := N, qualname := q, hasDict := true, slotNames := sn, subclasses := sub, abstract := ab, collection := col, hasDel := false } := by unfold clsIn; rw [hC] <;> rfl
  refine ks_codeAny_call_defAt (fd := ksFn "__init__" qual params (errBody fld msg p0 p1 p2 p3 p4 q1 q2 q3 q4) scope .none kV doc pm an (.ref cda) ct cc) (body := errBody fld msg p0 p1 p2 p3 p4 q1 q2 q3 q4) (binds := errBinds fld x v) hroom (X _ _ hf) rfl hlim (codeRec_of X hcd) rfl
    (D.bind _ x v rfl rfl s) D.cell (fun y hy => ?_) (fun h1 hns hk => ?_) D.co D.gen D.kk
  · rcases List.mem_cons.mp hy with e | hy
    · subst e; exact D.k1
    · have e := List.mem_singleton.mp hy
      subst e; exact D.k2
  obtain ⟨ar, hps, har⟩ := D.ar
  have hms : (errBinds fld x v).reverse.lookup ("self" : Str) = some (.ref x) := by
    show List.lookup ("self" : Str) [(fld, v), (("self" : Str), Value.ref x)] = _
    have e : (("self" : Str) == fld) = false := by simpa using fun z : ("self" : Str) = fld => D.ne z.symm
    simp [List.lookup, e]
  have hmf : (errBinds fld x v).reverse.lookup fld = some v := by
    show List.lookup fld [(fld, v), (("self" : Str), Value.ref x)] = _
    simp [List.lookup]
  have X1 : K.In h1 := X.keeps hk
  have hx1 := hk _ _ hx
  have hxL : s.heap.objs.size ≠ x := Nat.ne_of_gt (Heap.lt_size hx)
  obtain ⟨pl, he⟩ := D.he (ksEnv qual scope s.heap.objs.size fI (.ref cda) cc)
  refine ks_wpAt_execs_cons (ks_wpAt_Expr_any (ks_wpAt_MethodCall (pl := pl) ?_ he) (D.it _ rfl) (D.sw _ _ rfl))
  refine ks_wpAt_super_base (env := ksEnv qual scope s.heap.objs.size fI (.ref cda) cc) D.ks D.kc (by decide +kernel) rfl (X1 _ _ hf) rfl hps rfl (X1 _ _ hcode) rfl hvs hfile D.top ?_
  refine ks_loadName_global D.kk D.ks (Calls.loadGlobal_builtin (env := ksEnv qual scope s.heap.objs.size fI (.ref cda) cc) (G.keeps hk) T.gS (B.keeps hk) hB ⟨rfl, ?_⟩)
  refine wpAny_loadName_free D.kk D.kc rfl ⟨_, X1 _ _ hcl, rfl⟩ ?_
  rw [har]
  refine wpAny_loadName_local D.kk D.k1 hns hms ?_
  refine ks_wpAny_isType_cls (X1 _ _ hC) rfl ⟨rfl, ?_⟩
  have I1 : InstAt h1 x (HandSPX.excO C t0) C none := ⟨hx1, rfl, rfl, trivial⟩
  have hxC : x ≠ C := ks_ne X1 I1 hci
  refine ks_wpAny_call_super (X1 _ _ hC) rfl hx1 rfl (fun c e => by cases e) (looks_subIn X1 T.slf) (fun h2 hso k2 => ?_)
  have X2 : K.In h2 := X1.keeps k2
  have hx2 := k2 _ _ hx1
  have I2 : InstAt h2 x (HandSPX.excO C t0) C none := ⟨hx2, rfl, rfl, trivial⟩
  refine ESX.getMethod_super hso (looks_opaque X2 T.op) (l₀ := .ref C :: bm) ((looks_clsIn X2 hci).andThen .now) (ESX.drop_own C bm) X2 hal hxC (by decide +kernel) (I2.type.andThen (looks_subIn X2 T.exE)) ?_
  have k3 : ∀ b o, h2.get? b = some o → (h2.push (ESX.bw x)).get? b = some o := fun b o e => Heap.get?_push_of_some _ e
  refine ESX.callWith_bound (x := x) ?_ (D.st _) rfl
  refine D.ev _ _ _ _ x v _ hv rfl ((hns.keeps k2).keeps k3) fun u tk => ?_
  refine ⟨Heap.get?_push_size h2 rfl, ?_⟩
  refine ESX.call_bw (X2.keeps k3 _ _ hC) (k3 _ _ hx2) (Heap.get?_push_size h2 rfl) (few_size u) fun h4 t1 k4 hx4 => ?_
  -- self.fld = fld
  have K4 : ∀ b o, b ≠ x → h1.get? b = some o → h4.get? b = some o := fun b o hb e => k4 b o hb (k3 b o (k2 b o e))
  have kx : ∀ a o, K.lookup a = some o → a ≠ x := fun a o e z => by
    subst z
    rw [hnx] at e
    cases e
  have X4 : K.In h4 := fun a o e => K4 a o (kx a o e) (X1 a o e)
  have hns4 : h4.Ns s.heap.objs.size (fun y => (errBinds fld x v).reverse.lookup y) := hns.at fun o e => K4 _ o hxL e
  refine wpAt_of_wpAny ?_
  refine wpAny_execs_cons (plainObj_wpAny_Assign_Attribute ?_ (D.sw2 _ _ _ _ _ rfl))
  refine ESX.ldL hns4 hmf (ESX.ldL hns4 hms ?_ D.kk D.k1) D.kk D.k2 D.db
  refine set_plain X4 (ox := HandSPX.excO C t1) (od := none) ⟨hx4, rfl, rfl, trivial⟩ T.sa ?_
  refine osa_err X4 hx4 T.ov T.hdC T.noN (fun h5 tk5 dx k5 dn dne hx5 hn5 => ?_)
  refine wpAny_execs_nil (hq h5 tk5 dx t1 ⟨fun b o hb e => k5 b o hb (K4 b o hb (hk b o e)), hx5, ?_, dne, hn5⟩)
  have z1 : s.heap.objs.size < h4.objs.size := hns4.lt
  exact Nat.le_of_lt (Nat.lt_of_lt_of_le z1 dn)
/-- a made error: its own dict at d holds the field -/
structure ErrMade (fld : Str) (h h' : Heap) (e C d : Addr) (v : Value) : Prop where
  keep : ∀ b o, h.get? b = some o → h'.get? b = some o
  new : h.objs.size ≤ e
  obj : ∃ oe vs, h'.get? e = some oe ∧ oe.cls = .ref C ∧ oe.dict = some d ∧ oe.data = .fields vs ∧ vs[1]? = some .none
  dbig : h.objs.size ≤ d
  dne : d ≠ e
  ns : h'.Ns1 d (fun y => if y = fld then some v else none)
theorem err_made (T : ErrTxt prog K mg x0 fld qual params (errBody fld msg p0 p1 p2 p3 p4 q1 q2 q3 q4) scope C fI) (D : ErrRead prog w fld params scope msg p0 p1 p2 p3 ok) {v : Value} (X : K.In s.heap) (hlim : s.heap.NoLimit) (G : s.heap.Ns mainGlobals mg) (B : s.heap.Ns builtinsNs mb) (hB : mb "super" = some (.type "super"))
    (hroom : A.depth + 1 < recursionLimit) (hv : ok v)
    (hq : ∀ h' tk e d, ErrMade fld s.heap h' e C d v → R (.ok (.ret (.ref e))) { s with heap := h', toks := tk }) :
    codeAny (model prog w) A (.call (.ref C) ⟨[v], []⟩) R s := by
  obtain ⟨nm, q, N, bs, bm, sn, sub, ab, col, dd, k0, k1, k2, k3, k5, hC, hbm, hal⟩ := T.cls
  obtain ⟨hp, g, dr, tk, os⟩ := s
  have k : ∀ b o, hp.get? b = some o → ((hp.push (kdv_tup [v])).push (HandSPX.excO C hp.objs.size)).get? b = some o := fun b o e => Heap.get?_push_of_some _ (Heap.get?_push_of_some _ e)
  have hget : ((hp.push (kdv_tup [v])).push (HandSPX.excO C hp.objs.size)).get? (hp.objs.size + 1) = some (HandSPX.excO C hp.objs.size) := by heap_get
  have hnx : K.lookup (hp.objs.size + 1) = none := by
    cases e : K.lookup (hp.objs.size + 1) with
    | none => rfl
    | some o =>
      have z : hp.get? (hp.objs.size + 1) = some o := X _ _ e
      exact absurd (Nat.lt_of_succ_lt (Heap.lt_size z)) (Nat.lt_irrefl _)
  refine HandSPX.call_own F.excBase_Exception (fun X => excTail_contains X bm hbm) (X _ _ hC) (looks_findIn X T.iC) (fun self => bind_fn X self T.tI) (few_size v) ?_
  refine err_init (s := ⟨(hp.push (kdv_tup [v])).push (HandSPX.excO C hp.objs.size), g, dr, tk, os⟩) T D (X.keeps k) (hlim.keeps k) (G.keeps k) (B.keeps k) hB hget hnx ?_ hv fun h' tk' dx t1 M => ?_
  · show A.depth + 1 < recursionLimit
    exact hroom
  · have old : ∀ b o, hp.get? b = some o → h'.get? b = some o := fun b o e => M.keep b o (Nat.ne_of_lt (Nat.lt_succ_of_lt (Heap.lt_size e))) (k b o e)
    have z : hp.objs.size + 1 + 1 ≤ dx := by
      have q := M.dbig
      first
        | exact q
        | (rw [Heap.size_push, Heap.size_push] at q; exact q)
        | (simpa only [Heap.size_push] using q)
    exact ⟨rfl, hq h' tk' (hp.objs.size + 1) dx ⟨old, Nat.le_succ _, ⟨_, _, M.obj, rfl, rfl, rfl, rfl⟩, Nat.le_trans (Nat.le_trans (Nat.le_succ _) (Nat.le_succ _)) z, M.dne, M.ns⟩⟩
end
end K07X
end PySem
namespace L2
open PySem PySem.Spec PyProof.Rows
theorem relO_err {v : V} {v' : Value} (r : RelV v v') (fld f : Str) : RelO (List.lookup f [(fld, v)]) (if f = fld then some v' else none) := by
  by_cases hw : f = fld
  · subst hw
    rw [if_pos rfl]
    have q : List.lookup f [(f, v)] = some v := by simp [List.lookup]
    rw [q]
    exact r
  · rw [if_neg hw]
    have qw : (f == fld) = false := by simpa using hw
    have q2 : List.lookup f [(fld, v)] = none := by simp [List.lookup, qw]
    rw [q2]
    trivial
section
variable {X : Cx} {C fI : Addr} {x fld qual : Str} {params : Arguments} {scope : Scope} {msg : Expr} {p0 p1 p2 p3 p4 q1 q2 q3 q4 : Pos} {ok : Value → Prop} {okV : V → Prop}
/-- x(e) -/
def tMkErr (C : Addr) (fld : Str) (okV : V → Prop) (ta : TA) : St → Hp → XK → Prop := fun σ H Q => ta σ H fun vs H1 => ∃ v, vs = [v] ∧ okV v ∧ ∀ d, H1 d = none → Q (.ref C) (some d) (upd H1 d (.xd [(fld, v)]))
theorem pmk_err {a : Expr} {ta : TA} {p pos : Pos} {k : Nat} (T : PySem.K07X.ErrTxt X.prog X.K X.mg x fld qual params (PySem.K07X.errBody fld msg p0 p1 p2 p3 p4 q1 q2 q3 q4) scope C fI) (D : PySem.K07X.ErrRead X.prog X.w fld params scope msg p0 p1 p2 p3 ok)
    (hok : ∀ v u, okV v → RelV v u → ok u) (hr : Room k X.A) (ha : PA X [a] ta) (hg : Gl X x := by rfl) (hdx : (x == ("__debug__" : Str)) = false := by decide)
    (he : starEach (a :: []) X.env = (false, eval a X.env) :: starEach [] X.env := by rfl) (hpl : (backTo pos (starEach [] X.env)).any (·.1) = false := by rfl) :
    PMk X (.Call (.Name x p) [a] [] pos) (tMkErr C fld okV ta) := by
  intro pins s σ H Q I h
  refine wpAny_Call_Name_kw (ld_glob I hg T.gC ?_ hdx)
  refine PySem.W.callWith_K (h₀ := X.base) I.ok.mod.kin T.kC (thn (ha.run pos pins s σ H _ I h) fun us s1 hh => ?_) he hpl
  obtain ⟨vs, H1, I1, r1, v, ev, hv, q1⟩ := hh
  subst ev
  refine ⟨I1.kIn, ?_⟩
  cases r1 with
  | cons rv rn =>
    rename_i v' us'
    cases rn
    show wpAny _ _ (call (.ref C) [v']) _ _ _
    have hlim := I1.nolimit
    have hG := I1.mod.glob.keeps I1.bk
    obtain ⟨mb, hB1, hB2⟩ := I1.mod.blt
    have hB := hB1.keeps I1.bk
    obtain ⟨hp, g, dr, tk, os⟩ := s1
    refine wpAny_call (PySem.K07X.err_made (mb := mb) T D I1.kIn hlim hG hB ((hB2 _ (by decide)).trans (by decide +kernel)) (by have := hr.dp; omega) (hok v v' hv rv) fun h' tk' e d M => ?_)
    show MkP X pins σ Q (.ref e) ⟨h', g, dr, tk', os⟩
    obtain ⟨oe, fv, hoe, hc, hd, hdat, h1⟩ := M.obj
    have hns := M.ns
    obtain ⟨G', g1, g2⟩ := restrict h' fun b => decide (b ≠ e)
    have gk : ∀ b, b ≠ e → G'.get? b = h'.get? b := fun b hb => g1 b (decide_eq_true hb)
    have ge : G'.get? e = none := g2 e (by simp)
    have old : ∀ b o, hp.get? b = some o → G'.get? b = some o := fun b o q => (gk b (Nat.ne_of_lt (Nat.lt_of_lt_of_le (Heap.lt_size q) M.new))).trans (M.keep b o q)
    have ob : ObjOk X.prog X.w (upd H1 d (.xd [(fld, v)])) G' d (.xd [(fld, v)]) :=
      ⟨_, hns.at (fun o q => (gk d M.dne).trans q), fun f => relO_err rv fld f⟩
    have J : Inv X pins σ (upd H1 d (.xd [(fld, v)])) ⟨G', g, dr, tk', os⟩ := I1.laid (t' := tk') old M.dbig ob
    refine ⟨e, oe, fv, ⟨G', g, dr, tk', os⟩, _, .ref C, some d, rfl, J, fun b o q => ?_, ge, hoe, ⟨hc, hd⟩, hdat, h1, ?_, rfl, I1.bare, raises_own T.exC T.tyC, q1 d (I1.hok.fresh M.dbig)⟩
    · by_cases hb : b = e
      · have q' : G'.get? b = some o := q
        rw [hb, ge] at q'; cases q'
      · exact (gk b hb).symm.trans q
    · rw [upd_ne (Ne.symm M.dne)]
      exact I1.hok.fresh M.new
/-- raise x(e) -/
def tRaiseErr (C : Addr) (fld : Str) (okV : V → Prop) (W : WX) (ta : TA) : TS := fun _ σ H => tMkErr C fld okV ta σ H fun cls d H' => W cls d σ H'
theorem ps_raiseErr {a : Expr} {ta : TA} {W : WX} {p pos pos2 : Pos} {k : Nat} (hc : X.calm = true) (T : PySem.K07X.ErrTxt X.prog X.K X.mg x fld qual params (PySem.K07X.errBody fld msg p0 p1 p2 p3 p4 q1 q2 q3 q4) scope C fI) (D : PySem.K07X.ErrRead X.prog X.w fld params scope msg p0 p1 p2 p3 ok)
    (hok : ∀ v u, okV v → RelV v u → ok u) (hr : Room k X.A) (tk : Takes X W) (ha : PA X [a] ta) (hg : Gl X x := by rfl) (hdx : (x == ("__debug__" : Str)) = false := by decide)
    (he : starEach (a :: []) X.env = (false, eval a X.env) :: starEach [] X.env := by rfl) (hpl : (backTo pos (starEach [] X.env)).any (·.1) = false := by rfl) :
    PS X (.Raise (some (.Call (.Name x p) [a] [] pos)) none pos2) (tRaiseErr C fld okV W ta) := ps_raise hc tk (pmk_err T D hok hr ha hg hdx he hpl)
end
end L2
/-! The text by places; the two errors' readings. -/
namespace K07
open PySem PySem.Spec PyProof.Rows L2
abbrev PR : Program := PySem.Challenge.pw_nowaittasks_k07_whole_levels_any_schedul
def top (i : Nat) : Stmt := PySem.Challenge.pw_nowaittasks_k07_whole_levels_any_schedul.main.body.getD i (.Pass ⟨0, 0, 0, 0⟩)
abbrev sBName : Stmt := inClass (top 2) 0
abbrev sBNum : Stmt := inClass (top 3) 0
abbrev sIsInt : Stmt := top 5
abbrev sIsRow : Stmt := top 6
abbrev sChkNum : Stmt := top 7
abbrev sChkLev : Stmt := top 10
abbrev sInit : Stmt := inClass (top 11) 0
abbrev sWrote : Stmt := inClass (top 11) 1
abbrev sGone : Stmt := inClass (top 11) 2
abbrev sLevel : Stmt := inClass (top 11) 3
abbrev sTaken : Stmt := inClass (top 11) 4
abbrev sStep : Stmt := inClass (top 11) 5
abbrev sKnown : Stmt := inClass (top 11) 6
abbrev sChkSch : Stmt := top 12
abbrev sRun : Stmt := top 13
abbrev sBlocks : Stmt := top 14
abbrev lDrawn : Stmt := top 16
abbrev lTake : Stmt := top 17
abbrev lInt : Stmt := top 18
abbrev lRefused : Stmt := top 19
abbrev lSchedule : Stmt := top 20
abbrev lNew : Stmt := top 21
abbrev lStep : Stmt := top 22
abbrev lFew : Stmt := top 23
abbrev lSame : Stmt := top 24
abbrev lWithin : Stmt := top 25
abbrev lRight : Stmt := top 26
abbrev lDue : Stmt := top 27
abbrev lWalked : Stmt := top 28
abbrev lFinish : Stmt := top 29
abbrev lAll : Stmt := top 30
abbrev lLaw : Stmt := top 31
/-! ### the two errors -/
abbrev mN : Expr := .Constant (.str "not a name that can stand here") 0 ⟨7, 25, 7, 57⟩
abbrev mB : Expr := .BinOp (.Constant (.str "a number is out of range: ") 0 ⟨12, 25, 12, 53⟩) .Add (.Name "word" ⟨12, 56, 12, 60⟩) ⟨12, 25, 12, 60⟩
abbrev bodyN : List Stmt := PySem.K07X.errBody "name" mN ⟨7, 8, 7, 13⟩ ⟨7, 8, 7, 15⟩ ⟨7, 8, 7, 24⟩ ⟨7, 8, 7, 58⟩ ⟨7, 8, 7, 58⟩ ⟨8, 8, 8, 12⟩ ⟨8, 8, 8, 17⟩ ⟨8, 20, 8, 24⟩ ⟨8, 8, 8, 24⟩
abbrev bodyB : List Stmt := PySem.K07X.errBody "word" mB ⟨12, 8, 12, 13⟩ ⟨12, 8, 12, 15⟩ ⟨12, 8, 12, 24⟩ ⟨12, 8, 12, 61⟩ ⟨12, 8, 12, 61⟩ ⟨13, 8, 13, 12⟩ ⟨13, 8, 13, 17⟩ ⟨13, 20, 13, 24⟩ ⟨13, 8, 13, 24⟩
theorem bodyN_eq : defBody sBName = bodyN := rfl
theorem bodyB_eq : defBody sBNum = bodyB := rfl
abbrev NameTxt (K : PySem.W.Frag) (mg : Str → Option Value) (C fI : Addr) : Prop := PySem.K07X.ErrTxt PR K mg "BadName" "name" "BadName.__init__" (defArgs sBName) bodyN (defScope sBName) C fI
abbrev NumTxt (K : PySem.W.Frag) (mg : Str → Option Value) (C fI : Addr) : Prop := PySem.K07X.ErrTxt PR K mg "BadNumber" "word" "BadNumber.__init__" (defArgs sBNum) bodyB (defScope sBNum) C fI
def okN : V → Prop := fun _ => True
def okB : V → Prop := fun v => ∃ z : Str, v = .str z ∧ z.length ≤ 100
theorem readN (w : World) : PySem.K07X.ErrRead PR w "name" (defArgs sBName) (defScope sBName) mN ⟨7, 8, 7, 13⟩ ⟨7, 8, 7, 15⟩ ⟨7, 8, 7, 24⟩ ⟨7, 8, 7, 58⟩ (fun _ => True) where
  ar := ⟨_, rfl, rfl⟩
  ks := by rfl
  kc := by rfl
  k1 := by rfl
  k2 := by rfl
  kk := rfl
  cell := by decide +kernel
  ne := by decide +kernel
  db := by decide +kernel
  top := by decide +kernel
  bind := fun fd x v hp hd s => by
    refine BindsTo.of_eq ?_
    unfold bindArgs
    rw [hp, hd]
    rfl
  ev := fun env s1 A E x v Q _ hs hn hq => by
    show wpAny _ _ (spliced ((false, eval mN env) :: backTo _ (starEach [] env))) _ _ s1
    refine Calls.spliced_cons (Calls.Constant_str ?_)
    exact Calls.spliced_nil (hq _ _)
  st := fun env => by rfl
  he := fun env => ⟨_, by rfl⟩
  it := fun env h => by
    obtain ⟨sc, b, c, d, e, f, g, k, l⟩ := env
    subst h
    rfl
  sw := fun env p4 h => by
    obtain ⟨sc, b, c, d, e, f, g, k, l⟩ := env
    subst h
    rfl
  sw2 := fun env _ _ _ _ h => by
    obtain ⟨sc, b, c, d, e, f, g, k, l⟩ := env
    subst h
    rfl
  co := rfl
  gen := rfl
theorem readB (w : World) : PySem.K07X.ErrRead PR w "word" (defArgs sBNum) (defScope sBNum) mB ⟨12, 8, 12, 13⟩ ⟨12, 8, 12, 15⟩ ⟨12, 8, 12, 24⟩ ⟨12, 8, 12, 61⟩ (fun u => ∃ z t, u = .str z t ∧ z.length ≤ 100) where
  ar := ⟨_, rfl, rfl⟩
  ks := by rfl
  kc := by rfl
  k1 := by rfl
  k2 := by rfl
  kk := rfl
  cell := by decide +kernel
  ne := by decide +kernel
  db := by decide +kernel
  top := by decide +kernel
  bind := fun fd x v hp hd s => by
    refine BindsTo.of_eq ?_
    unfold bindArgs
    rw [hp, hd]
    rfl
  ev := fun env s1 A E x v Q hok hs hn hq => by
    obtain ⟨z, t, rfl, hz⟩ := hok
    obtain ⟨sc, b, c, d, e, f, g, k, l⟩ := env
    subst hs
    show wpAny _ _ (spliced ((false, eval mB _) :: backTo _ (starEach [] _))) _ _ s1
    refine Calls.spliced_cons (wpAny_BinOp (Calls.Constant_str ?_))
    refine PySem.ESX.ldL hn (v := .str z t) (by rfl) ?_
    refine add_str (fun t' tk => ?_) ?_
    · exact Calls.spliced_nil (hq _ _)
    · refine Nat.le_trans (Nat.add_le_add_left hz _) ?_
      decide +kernel
  st := fun env => by rfl
  he := fun env => ⟨_, by rfl⟩
  it := fun env h => by
    obtain ⟨sc, b, c, d, e, f, g, k, l⟩ := env
    subst h
    rfl
  sw := fun env p4 h => by
    obtain ⟨sc, b, c, d, e, f, g, k, l⟩ := env
    subst h
    rfl
  sw2 := fun env _ _ _ _ h => by
    obtain ⟨sc, b, c, d, e, f, g, k, l⟩ := env
    subst h
    rfl
  co := rfl
  gen := rfl
end K07
/-! The small defs: is_int, is_row, check_number, check_levels. -/
namespace K07
open PySem PySem.Spec PyProof.Rows L2
/-- the built-in names that the program leaves as they are -/
structure Blt (mg : Str → Option Value) : Prop where
  isi : mg "isinstance" = none
  int : mg "int" = none
  bool : mg "bool" = none
  list : mg "list" = none
  tuple : mg "tuple" = none
  len : mg "len" = none
  range : mg "range" = none
  min : mg "min" = none
  sorted : mg "sorted" = none
  set : mg "set" = none
  all : mg "all" = none
theorem b_isinstance : bootBuiltins "isinstance" = some (.builtin "isinstance") := by decide +kernel
theorem b_int : bootBuiltins "int" = some (.type "int") := by decide +kernel
theorem b_bool : bootBuiltins "bool" = some (.type "bool") := by decide +kernel
theorem b_list : bootBuiltins "list" = some (.type "list") := by decide +kernel
theorem b_tuple : bootBuiltins "tuple" = some (.type "tuple") := by decide +kernel
theorem b_len : bootBuiltins "len" = some (.builtin "len") := by decide +kernel
theorem b_range : bootBuiltins "range" = some (.type "range") := by decide +kernel
theorem b_min : bootBuiltins "min" = some (.builtin "min") := by decide +kernel
theorem b_sorted : bootBuiltins "sorted" = some (.builtin "sorted") := by decide +kernel
theorem b_set : bootBuiltins "set" = some (.type "set") := by decide +kernel
theorem b_all : bootBuiltins "all" = some (.builtin "all") := by decide +kernel
/-- plain values -/
inductive Flat : V → Prop where
  | non : Flat .non
  | bl (b : Bool) : Flat (.bl b)
  | int (i : Int) : Flat (.int i)
  | str (z : Str) : Flat (.str z)
def isIntV : V → Bool
  | .int _ => true
  | _ => false
theorem kit_int {K : PySem.W.Frag} : PySem.W.kitOne K (.type "int") (.type "int") = some true ∧ PySem.W.kitOne K (.type "int") (.type "bool") = some false ∧ PySem.W.kitOne K (.type "bool") (.type "int") = some true ∧ PySem.W.kitOne K (.type "bool") (.type "bool") = some true ∧ PySem.W.kitOne K (.type "NoneType") (.type "int") = some false ∧ PySem.W.kitOne K (.type "str") (.type "int") = some false := by
  refine ⟨?_, ?_, ?_, ?_, ?_, ?_⟩ <;> exact kit_ty (by decide +kernel)
/-- is_int(v), v plain -/
def spIsInt : Sp := fun vs H Q _ => ∃ v, vs = [v] ∧ Flat v ∧ Q (.bl (isIntV v)) H
section
variable {P : Program} {w : World} {K : PySem.W.Frag} {mg : Str → Option Value} {base : Heap}
theorem scIsInt : FnScope ["thing"] ["thing"] (defScope sIsInt) := ⟨rfl, rfl, rfl, by decide +kernel, rfl, by decide +kernel, by decide +kernel⟩
theorem ok_isInt {f : Addr} {fd : FuncData} (F : Fun K "is_int" "is_int" sIsInt f fd) (T : Blt mg) : FnOk P w K mg base CX0 1 f fd ["thing"] spIsInt := by
  refine F.ok scIsInt (fun vs H Q E h => ?_) (fun cdv A outer s H vs Q E hr h => ?_)
  · obtain ⟨v, rfl, _⟩ := h
    rfl
  · obtain ⟨v, rfl, hv, k⟩ := h
    obtain ⟨k1, k2, k3, k4, k5, k6⟩ := kit_int (K := K)
    refine ⟨_, pss_one (ps_ret (pe_and (pe_callB call_isi (by rfl) T.isi b_isinstance (pa_cons (pv 0) (pa_cons (pe_bltn (v := .ty "int") (by rfl) T.int b_int rfl) pa_nil)))
      (pe_one (pe_not (pe_callB call_isi (by rfl) T.isi b_isinstance (pa_cons (pv 0) (pa_cons (pe_bltn (v := .ty "bool") (by rfl) T.bool b_bool rfl) pa_nil))))))), ?_⟩
    cases hv with
    | non => exact ⟨_, rfl, _, _, _, _, false, rfl, .ty _, .base .non, k5, _, rfl, iteF k⟩
    | bl b => exact ⟨_, rfl, _, _, _, _, true, rfl, .ty _, .base (.bl b), k3, _, rfl, iteT ⟨_, rfl, _, _, _, _, true, rfl, .ty _, .base (.bl b), k4, _, rfl, k⟩⟩
    | int i => exact ⟨_, rfl, _, _, _, _, true, rfl, .ty _, .base (.int i), k1, _, rfl, iteT ⟨_, rfl, _, _, _, _, false, rfl, .ty _, .base (.int i), k2, _, rfl, k⟩⟩
    | str z => exact ⟨_, rfl, _, _, _, _, false, rfl, .ty _, .base (.str z), k6, _, rfl, iteF k⟩
/-- a row (true) or a plain value -/
inductive RowV (H : Hp) : V → Bool → Prop where
  | lst {a : Addr} {xs : List V} (h : H a = some (.lst xs)) : RowV H (.ref a) true
  | tup {a : Addr} {xs : List V} (h : H a = some (.tup xs)) : RowV H (.ref a) true
  | flat {v : V} (h : Flat v) : RowV H v false
theorem RowV.same {H H' : Hp} {v : V} {b : Bool} (h : RowV H v b) (s : Same H H') : RowV H' v b := by
  cases h with
  | lst h => exact .lst (s _ _ h)
  | tup h => exact .tup (s _ _ h)
  | flat h => exact .flat h
theorem same_upd {H : Hp} {p : Addr} {o : HO} (h : H p = none) : Same H (upd H p o) := fun b u e => by
  rw [upd_ne (ne_of_none e h)]
  exact e
theorem flat_ty {K : PySem.W.Frag} {H : Hp} {v : V} (h : Flat v) : ∃ t, TyX K H v (.type t) ∧ PySem.W.kitAny K (.type t) [.type "list", .type "tuple"] = some false := by
  have key : ∀ t, PySem.W.kitOne K (.type t) (.type "list") = some false → PySem.W.kitOne K (.type t) (.type "tuple") = some false → PySem.W.kitAny K (.type t) [.type "list", .type "tuple"] = some false := fun t h1 h2 =>
    kitAny_cons h1 (fun _ => kitAny_cons h2 (fun _ => kitAny_nil) (fun z => nomatch z)) (fun z => nomatch z)
  cases h with
  | non => exact ⟨_, .base .non, key _ (kit_ty (by decide +kernel)) (kit_ty (by decide +kernel))⟩
  | bl b => exact ⟨_, .base (.bl b), key _ (kit_ty (by decide +kernel)) (kit_ty (by decide +kernel))⟩
  | int i => exact ⟨_, .base (.int i), key _ (kit_ty (by decide +kernel)) (kit_ty (by decide +kernel))⟩
  | str z => exact ⟨_, .base (.str z), key _ (kit_ty (by decide +kernel)) (kit_ty (by decide +kernel))⟩
/-- is_row(v) -/
def spIsRow : Sp := fun vs H Q _ => ∃ v b, vs = [v] ∧ RowV H v b ∧ ∀ H', Same H H' → Q (.bl b) H'
theorem scIsRow : FnScope ["thing"] ["thing"] (defScope sIsRow) := ⟨rfl, rfl, rfl, by decide +kernel, rfl, by decide +kernel, by decide +kernel⟩
theorem ok_isRow {f : Addr} {fd : FuncData} (F : Fun K "is_row" "is_row" sIsRow f fd) (T : Blt mg) : FnOk P w K mg base CX0 1 f fd ["thing"] spIsRow := by
  refine F.ok scIsRow (fun vs H Q E h => ?_) (fun cdv A outer s H vs Q E hr h => ?_)
  · obtain ⟨v, b, rfl, _⟩ := h
    rfl
  · obtain ⟨v, b, rfl, hv, k⟩ := h
    refine ⟨_, pss_one (ps_ret (pe_callB call_isiT (by rfl) T.isi b_isinstance (pa_cons (pv 0) (pa_cons (pe_tup (pa_cons (pe_bltn (v := .ty "list") (by rfl) T.list b_list rfl) (pa_cons (pe_bltn (v := .ty "tuple") (by rfl) T.tuple b_tuple rfl) pa_nil))) pa_nil)))), ?_⟩
    refine ⟨_, rfl, (by show 2 ≤ sizeLine; decide), fun p hp => ?_⟩
    have hc : Paired ClsV [V.ty "list", V.ty "tuple"] [.type "list", .type "tuple"] := .cons (.ty _) (.cons (.ty _) .nil)
    have hl : PySem.W.kitOne K (.type "list") (.type "list") = some true := kit_ty (by decide +kernel)
    have ht : PySem.W.kitOne K (.type "tuple") (.type "list") = some false := kit_ty (by decide +kernel)
    have ht2 : PySem.W.kitOne K (.type "tuple") (.type "tuple") = some true := kit_ty (by decide +kernel)
    have hv' := hv.same (same_upd (o := .tup [.ty "list", .ty "tuple"]) hp)
    cases hv' with
    | lst h => exact ⟨_, p, _, _, _, true, rfl, upd_same, hc, .base (.lst h), kitAny_cons hl (fun z => nomatch z) (fun _ => rfl), k _ (same_upd hp)⟩
    | tup h => exact ⟨_, p, _, _, _, true, rfl, upd_same, hc, .base (.tup h), kitAny_cons ht (fun _ => kitAny_cons ht2 (fun z => nomatch z) (fun _ => rfl)) (fun z => nomatch z), k _ (same_upd hp)⟩
    | flat h =>
      obtain ⟨t, h1, h2⟩ := flat_ty (K := K) (H := upd H p (.tup [.ty "list", .ty "tuple"])) h
      exact ⟨_, p, _, _, _, false, rfl, upd_same, hc, h1, h2, k _ (same_upd hp)⟩
/-- the error of the class at C with one field -/
abbrev errD (H : Hp) (d : Addr) (fld : Str) (v : V) : Hp := upd H d (.xd [(fld, v)])
/-- a number that is at least so great -/
def goodN (v : V) (least : Int) : Bool := match v with
  | .int i => decide (least ≤ i)
  | _ => false
/-- check_number(v, least, word) -/
def spChkNum (CB : Addr) : Sp := fun vs H Q E => ∃ v least z, vs = [v, .int least, .str z] ∧ Flat v ∧ z.length ≤ 100 ∧ (goodN v least = true → Q .non H) ∧ (goodN v least = false → ∀ d, H d = none → E (.ref CB) (some d) (errD H d "word" (.str z)))
theorem scChkNum : FnScope ["number", "least", "word"] ["number", "least", "word"] (defScope sChkNum) := ⟨rfl, rfl, rfl, by decide +kernel, rfl, by decide +kernel, by decide +kernel⟩
theorem okB_ok : ∀ v u, okB v → RelV v u → ∃ z t, u = Value.str z t ∧ z.length ≤ 100 := fun v u h r => by
  obtain ⟨z, rfl, hz⟩ := h
  obtain ⟨t, e⟩ := (show ∃ t, u = Value.str z t from r)
  exact ⟨z, t, e, hz⟩
theorem ok_chkNum {f fI CB fB : Addr} {fd fdI : FuncData} (F : Fun K "check_number" "check_number" sChkNum f fd) (FI : Fun K "is_int" "is_int" sIsInt fI fdI) (gI : mg "is_int" = some (.ref fI)) (bI : Binds K fdI ["thing"] []) (TB : NumTxt K mg CB fB) (T : Blt mg) :
    FnOk PR w K mg base (L2.CX PR w) 2 f fd ["number", "least", "word"] (spChkNum CB) := by
  have GI : FnOk PR w K mg base CX0 1 fI fdI ["thing"] spIsInt := ok_isInt FI T
  refine F.okX scChkNum (fun vs H Q E h => ?_) (fun cdv A outer s H vs Q E hr h => ?_)
  · obtain ⟨v, least, z, rfl, _⟩ := h
    rfl
  · obtain ⟨v, least, z, rfl, hv, hz, k1, k2⟩ := h
    refine ⟨_, pss_one (ps_if (PW.pt (pw_or (pt_not (pt_val (pe_call GI hr rfl gI FI.kp bI .nil pass0 (pa_cons (pv 0) pa_nil)))) (pw_or1 (pt_cmpR op_lt (pv 0) (pv 1) (nomark _)))))
      (pss_one (ps_raiseErr (W := fun cls d _ H => E cls d H) (okV := okB) rfl TB (readB w) okB_ok hr (takes_of rfl rfl rfl rfl) (pa_cons (pv 2) pa_nil))) pss_nil), ?_⟩
    have bad : goodN v least = false → tRaiseErr CB "word" okB (fun cls d _ H => E cls d H) (tCons (tVar 2) tNil) { nx := fun _ H' => Q .non H', rt := Q } (start ["number", "least", "word"] [v, .int least, .str z]) H := fun hg =>
      ⟨_, rfl, _, rfl, ⟨z, rfl, hz⟩, fun d hd => k2 hg d hd⟩
    refine ⟨_, rfl, v, rfl, hv, _, rfl, ?_⟩
    cases hv with
    | int i =>
      refine iteF ⟨_, rfl, _, rfl, _, _, rfl, rfl, _, rfl, ?_⟩
      refine ite2 (fun c => bad ?_) (fun c => k1 ?_)
      · have := of_decide_eq_true c
        exact decide_eq_false (by omega)
      · have : ¬ i < least := fun z => c (decide_eq_true z)
        exact decide_eq_true (by omega)
    | non => exact iteT (iteT (bad rfl))
    | bl b => exact iteT (iteT (bad rfl))
    | str y => exact iteT (iteT (bad rfl))
end
end K07
/-! check_levels, _known, check_schedule. -/
namespace K07
open PySem PySem.Spec PyProof.Rows L2
def goodL (v : V) : Bool := match v with
  | .int i => decide (1 ≤ i ∧ i ≤ 6)
  | _ => false
/-- a name among n -/
def nameOk (n : Int) (v : V) : Bool := match v with
  | .int i => decide (0 ≤ i ∧ i < n)
  | _ => false
theorem okN_ok : ∀ v u, okN v → RelV v u → True := fun _ _ _ _ => trivial
/-- check_levels(v) -/
def spChkLev (CB : Addr) : Sp := fun vs H Q E => ∃ v, vs = [v] ∧ Flat v ∧ (goodL v = true → Q .non H) ∧ (goodL v = false → ∀ d, H d = none → E (.ref CB) (some d) (errD H d "word" (.str "size")))
/-- self._known(v) -/
def spKnown (C CN : Addr) : Sp := fun vs H Q E => ∃ p dx fs n v, vs = [.ref p, v] ∧ H p = some (.ins C dx fs) ∧ fs.lookup ("_size" : Str) = some (.int n) ∧ Flat v ∧ (nameOk n v = true → Q .non H) ∧ (nameOk n v = false → ∀ d, H d = none → E (.ref CN) (some d) (errD H d "name" v))
/-- what stands in a row: a list, a tuple -/
def RowAt (H : Hp) (v : V) (xs : List V) : Prop := ∃ a, v = .ref a ∧ (H a = some (.lst xs) ∨ H a = some (.tup xs))
/-- check_schedule(v, n) -/
def spChkSch (CN : Addr) : Sp := fun vs H Q E => ∃ v n, vs = [v, .int n] ∧
  ((Flat v ∧ ∀ H' d, Same H H' → H' d = none → E (.ref CN) (some d) (errD H' d "name" (.int (-1)))) ∨
   ∃ xs, RowAt H v xs ∧ (∀ x ∈ xs, Flat x) ∧ (xs.all (nameOk n) = true → ∀ H', Same H H' → Q .non H') ∧
     (∀ x, xs.find? (fun x => !nameOk n x) = some x → ∀ H' d, Same H H' → H' d = none → E (.ref CN) (some d) (errD H' d "name" x)))
section
variable {w : World} {K : PySem.W.Frag} {mg : Str → Option Value} {base : Heap}
theorem scChkLev : FnScope ["size"] ["size"] (defScope sChkLev) := ⟨rfl, rfl, rfl, by decide +kernel, rfl, by decide +kernel, by decide +kernel⟩
theorem ok_chkLev {f fC CB fB : Addr} {fd fdC : FuncData} (F : Fun K "check_levels" "check_levels" sChkLev f fd) (FC : Fun K "check_number" "check_number" sChkNum fC fdC) (gC : mg "check_number" = some (.ref fC)) (bC : Binds K fdC ["number", "least", "word"] [])
    (GC : FnOk PR w K mg base (L2.CX PR w) 2 fC fdC ["number", "least", "word"] (spChkNum CB)) (TB : NumTxt K mg CB fB) (gM : ∃ t, mg "MOST_SIZE" = some (.int 6 t)) :
    FnOk PR w K mg base (L2.CX PR w) 3 f fd ["size"] (spChkLev CB) := by
  obtain ⟨tM, gM⟩ := gM
  refine F.okX scChkLev (fun vs H Q E h => ?_) (fun cdv A outer s H vs Q E hr h => ?_)
  · obtain ⟨v, rfl, _⟩ := h
    rfl
  · obtain ⟨v, rfl, hv, k1, k2⟩ := h
    refine ⟨_, pss_cons (ps_expr (pe_call GC hr rfl gC FC.kp bC .nil (passes_call (W := fun cls d _ H => E cls d H) (takes_of rfl rfl rfl rfl) fun _ _ _ _ h => h) (pa_cons (pv 0) (pa_cons pe_int (pa_cons pe_str pa_nil)))))
      (pss_one (ps_if (pt_cmpR op_gt (pv 0) (pe_glob (v := .int 6) rfl gM ⟨_, rfl⟩) (nomark _)) (pss_one (ps_raiseErr (W := fun cls d _ H => E cls d H) (okV := okB) rfl TB (readB w) okB_ok hr (takes_of rfl rfl rfl rfl) (pa_cons pe_str pa_nil))) pss_nil)), ?_⟩
    refine ⟨_, rfl, v, 1, "size", rfl, hv, by decide +kernel, fun hg => ?_, fun hg => k2 ?_⟩
    · cases hv with
      | int i =>
        have h1 : 1 ≤ i := of_decide_eq_true hg
        refine ⟨_, rfl, _, _, rfl, rfl, _, rfl, ?_⟩
        refine ite2 (fun c => ?_) (fun c => k1 ?_)
        · have c' : 6 < i := of_decide_eq_true c
          exact ⟨_, rfl, ⟨_, rfl, by decide +kernel⟩, fun d hd => k2 (decide_eq_false (by omega)) d hd⟩
        · have c' : ¬ 6 < i := fun z => c (decide_eq_true z)
          exact decide_eq_true (by omega)
      | non => exact absurd hg (by decide)
      | bl b => exact absurd hg (by simp [goodN])
      | str y => exact absurd hg (by simp [goodN])
    · cases hv with
      | int i =>
        have h1 : ¬ 1 ≤ i := of_decide_eq_false hg
        exact decide_eq_false (by omega)
      | non => rfl
      | bl b => rfl
      | str y => rfl
theorem scKnown : FnScope ["self", "name"] ["self", "name"] (defScope sKnown) := ⟨rfl, rfl, rfl, by decide +kernel, rfl, by decide +kernel, by decide +kernel⟩
theorem ok_known {f fI C CN fN : Addr} {fd fdI : FuncData} (F : Fun K "_known" "Levels._known" sKnown f fd) (FI : Fun K "is_int" "is_int" sIsInt fI fdI) (gI : mg "is_int" = some (.ref fI)) (bI : Binds K fdI ["thing"] []) (TN : NameTxt K mg CN fN) (T : Blt mg)
    (cl : Cls K C) (nS : NoAttr K C "_size") :
    FnOk PR w K mg base (L2.CX PR w) 2 f fd ["self", "name"] (spKnown C CN) := by
  have GI : FnOk PR w K mg base CX0 1 fI fdI ["thing"] spIsInt := ok_isInt FI T
  refine F.okX scKnown (fun vs H Q E h => ?_) (fun cdv A outer s H vs Q E hr h => ?_)
  · obtain ⟨p, dx, fs, n, v, rfl, _⟩ := h
    rfl
  · obtain ⟨p, dx, fs, n, v, rfl, hp, hn, hv, k1, k2⟩ := h
    refine ⟨_, pss_one (ps_if (PW.pt (pw_or (pt_not (pt_val (pe_call GI hr rfl gI FI.kp bI .nil pass0 (pa_cons (pv 1) pa_nil)))) (pw_or1 (pt_not (pt_chain op_le op_lt pe_int (pv 1) (pe_fld (pv 0) rfl))))))
      (pss_one (ps_raiseErr (W := fun cls d _ H => E cls d H) (okV := okN) rfl TN (readN w) okN_ok hr (takes_of rfl rfl rfl rfl) (pa_cons (pv 1) pa_nil))) pss_nil), ?_⟩
    have bad : nameOk n v = false → tRaiseErr CN "name" okN (fun cls d _ H => E cls d H) (tCons (tVar 1) tNil) { nx := fun _ H' => Q .non H', rt := Q } (start ["self", "name"] [.ref p, v]) H := fun hg =>
      ⟨_, rfl, _, rfl, trivial, fun d hd => k2 hg d hd⟩
    refine ⟨_, rfl, v, rfl, hv, _, rfl, ?_⟩
    cases hv with
    | int i =>
      refine iteF ⟨_, rfl, _, _, rfl, rfl, _, rfl, ?_⟩
      refine ite2 (fun c => ?_) (fun c => ?_)
      · have c' : 0 ≤ i := of_decide_eq_true c
        refine ⟨_, rfl, p, C, dx, fs, _, rfl, hp, cl, nS, hn, _, _, rfl, rfl, _, rfl, ?_⟩
        by_cases e : i < n
        · rw [decide_eq_true e]
          exact iteF (k1 (decide_eq_true ⟨c', e⟩))
        · rw [decide_eq_false e]
          exact iteT (bad (decide_eq_false fun z => e z.2))
      · have c' : ¬ 0 ≤ i := fun z => c (decide_eq_true z)
        exact ⟨_, rfl, iteT (bad (decide_eq_false fun z => c' z.1))⟩
    | non => exact iteT (iteT (bad rfl))
    | bl b => exact iteT (iteT (bad rfl))
    | str y => exact iteT (iteT (bad rfl))
theorem find_first {α : Type} {p : α → Bool} {xs : List α} {i : Nat} {x : α} (h : xs[i]? = some x) (ha : (xs.take i).all p = true) (hx : p x = false) : xs.find? (fun y => !p y) = some x := by
  have hl : i < xs.length := (List.getElem?_eq_some_iff.mp h).1
  have e : xs = xs.take i ++ x :: xs.drop (i + 1) := by
    have h2 : xs[i] = x := (List.getElem?_eq_some_iff.mp h).2
    rw [← h2, List.getElem_cons_drop, List.take_append_drop]
  rw [e, List.find?_append]
  have e2 : (xs.take i).find? (fun y => !p y) = none := by
    rw [List.find?_eq_none]
    intro y hy
    have := List.all_eq_true.mp ha y hy
    simp [this]
  rw [e2]
  simp [hx]
theorem all_next {α : Type} {p : α → Bool} {xs : List α} {i : Nat} {x : α} (h : xs[i]? = some x) (ha : (xs.take i).all p = true) (hx : p x = true) : (xs.take (i + 1)).all p = true := by
  rw [List.take_add_one, h, List.all_append, ha]
  simp [hx]
theorem scChkSch : FnScope ["schedule", "size", "name"] ["schedule", "size"] (defScope sChkSch) := ⟨rfl, rfl, rfl, by decide +kernel, rfl, by decide +kernel, by decide +kernel⟩
theorem ok_chkSch {f fI fR CN fN : Addr} {fd fdI fdR : FuncData} (F : Fun K "check_schedule" "check_schedule" sChkSch f fd) (FI : Fun K "is_int" "is_int" sIsInt fI fdI) (gI : mg "is_int" = some (.ref fI)) (bI : Binds K fdI ["thing"] [])
    (FR : Fun K "is_row" "is_row" sIsRow fR fdR) (gR : mg "is_row" = some (.ref fR)) (bR : Binds K fdR ["thing"] []) (TN : NameTxt K mg CN fN) (T : Blt mg) :
    FnOk PR w K mg base (L2.CX PR w) 2 f fd ["schedule", "size"] (spChkSch CN) := by
  have GI : FnOk PR w K mg base CX0 1 fI fdI ["thing"] spIsInt := ok_isInt FI T
  have GR : FnOk PR w K mg base CX0 1 fR fdR ["thing"] spIsRow := ok_isRow FR T
  refine F.okX scChkSch (fun vs H Q E h => ?_) (fun cdv A outer s H vs Q E hr h => ?_)
  · obtain ⟨v, n, rfl, _⟩ := h
    rfl
  · obtain ⟨v, n, rfl, h⟩ := h
    -- one turn of the loop
    have turn : ∀ (xs : List V) (hf : ∀ x ∈ xs, Flat x) (kE : ∀ x, xs.find? (fun x => !nameOk n x) = some x → ∀ H' d, Same H H' → H' d = none → E (.ref CN) (some d) (errD H' d "name" x)) (i : Nat) (x : V) (z : Option V) (H1 : Hp) (D : Ends),
        xs[i]? = some x → Same H H1 → (xs.take i).all (nameOk n) = true → (∀ H2, H2 = H1 → nameOk n x = true → D.nx [some v, some (.int n), some x] H2) →
        tIfS (tOr (tNot (tB (tCall spIsInt [] E0 (tCons (tVar 2) tNil)))) (tNot (tTest (tChain (rI0 fun i j => .bl (decide (i ≤ j))) (rI0 fun i j => .bl (decide (i < j))) (tC (.int 0)) (tVar 2) (tVar 1)))))
          (tRaiseErr CN "name" okN (fun cls d _ H => E cls d H) (tCons (tVar 2) tNil)) tNext D [some v, some (.int n), some x] H1 := by
      intro xs hf kE i x z H1 D hx hs ha hn
      have bad : nameOk n x = false → tRaiseErr CN "name" okN (fun cls d _ H => E cls d H) (tCons (tVar 2) tNil) D [some v, some (.int n), some x] H1 := fun hg =>
        ⟨_, rfl, _, rfl, trivial, fun d hd => kE x (find_first hx ha hg) H1 d hs hd⟩
      refine ⟨_, rfl, x, rfl, hf x (List.mem_of_getElem? hx), _, rfl, ?_⟩
      have hv := hf x (List.mem_of_getElem? hx)
      cases hv with
      | int j =>
        refine iteF ⟨_, rfl, _, _, rfl, rfl, _, rfl, ?_⟩
        refine ite2 (fun c => ?_) (fun c => ?_)
        · have c' : 0 ≤ j := of_decide_eq_true c
          refine ⟨_, rfl, _, _, rfl, rfl, _, rfl, ?_⟩
          by_cases e : j < n
          · rw [decide_eq_true e]
            exact iteF (hn _ rfl (decide_eq_true ⟨c', e⟩))
          · rw [decide_eq_false e]
            exact iteT (bad (decide_eq_false fun z => e z.2))
        · have c' : ¬ 0 ≤ j := fun z => c (decide_eq_true z)
          exact ⟨_, rfl, iteT (bad (decide_eq_false fun z => c' z.1))⟩
      | non => exact iteT (iteT (bad rfl))
      | bl b => exact iteT (iteT (bad rfl))
      | str y => exact iteT (iteT (bad rfl))
    rcases h with ⟨hv, kE⟩ | ⟨xs, ⟨a, rfl, ht⟩, hf, k, kE⟩
    · refine ⟨_, pss_cons (ps_if (pt_not (pt_val (pe_call GR hr rfl gR FR.kp bR .nil pass0 (pa_cons (pv 0) pa_nil)))) (pss_one (ps_raiseErr (W := fun cls d _ H => E cls d H) (okV := okN) rfl TN (readN w) okN_ok hr (takes_of rfl rfl rfl rfl) (pa_cons (pe_un un_neg pe_int) pa_nil))) pss_nil)
        (pss_one (ps_never)), ?_⟩
      refine ⟨_, rfl, v, false, rfl, .flat hv, fun H' hs => ⟨_, rfl, iteT ?_⟩⟩
      exact ⟨_, rfl, _, rfl, trivial, fun d hd => kE H' d hs hd⟩
    · rcases ht with ht | ht
      · refine ⟨_, pss_cons (ps_if (pt_not (pt_val (pe_call GR hr rfl gR FR.kp bR .nil pass0 (pa_cons (pv 0) pa_nil)))) (pss_one (ps_raiseErr (W := fun cls d _ H => E cls d H) (okV := okN) rfl TN (readN w) okN_ok hr (takes_of rfl rfl rfl rfl) (pa_cons (pe_un un_neg pe_int) pa_nil))) pss_nil)
          (pss_one (ps_for (passes_of rfl) rfl (pi_list (pv 0)) (pg_name (i := 2) scChkSch.nd rfl (Or.inl rfl))
            (pss_one (ps_if (PW.pt (pw_or (pt_not (pt_val (pe_call GI hr rfl gI FI.kp bI .nil pass0 (pa_cons (pv 2) pa_nil)))) (pw_or1 (pt_not (pt_chain op_le op_lt pe_int (pv 2) (pv 1))))))
              (pss_one (ps_raiseErr (W := fun cls d _ H => E cls d H) (okV := okN) rfl TN (readN w) okN_ok hr (takes_of rfl rfl rfl rfl) (pa_cons (pv 2) pa_nil))) pss_nil)))), ?_⟩
        refine ⟨_, rfl, _, true, rfl, .lst ht, fun H' hs => ⟨_, rfl, iteF ?_⟩⟩
        refine ⟨_, rfl, a, rfl, ⟨_, hs.seq (SqL.of ht)⟩, for_list (K := K) (a := a) (xs := xs) (fun i σ H2 => ∃ z, σ = [some (.ref a), some (.int n), z] ∧ Same H H2 ∧ (xs.take i).all (nameOk n) = true) ⟨none, rfl, hs, by simp⟩ (fun i σ H2 _ ⟨_, _, s2, _⟩ => s2.seq (SqL.of ht)) ?_ ?_⟩
        · rintro i x σ H2 hx ⟨z, rfl, s2, ha⟩
          exact turn xs hf kE i x z H2 _ hx s2 ha fun H3 e hg => ⟨some x, rfl, e ▸ s2, all_next hx ha hg⟩
        · rintro σ H2 ⟨z, rfl, s2, ha⟩
          rw [List.take_length] at ha
          exact k ha H2 s2
      · refine ⟨_, pss_cons (ps_if (pt_not (pt_val (pe_call GR hr rfl gR FR.kp bR .nil pass0 (pa_cons (pv 0) pa_nil)))) (pss_one (ps_raiseErr (W := fun cls d _ H => E cls d H) (okV := okN) rfl TN (readN w) okN_ok hr (takes_of rfl rfl rfl rfl) (pa_cons (pe_un un_neg pe_int) pa_nil))) pss_nil)
          (pss_one (ps_for (passes_of rfl) rfl (pi_tup (pv 0)) (pg_name (i := 2) scChkSch.nd rfl (Or.inl rfl))
            (pss_one (ps_if (PW.pt (pw_or (pt_not (pt_val (pe_call GI hr rfl gI FI.kp bI .nil pass0 (pa_cons (pv 2) pa_nil)))) (pw_or1 (pt_not (pt_chain op_le op_lt pe_int (pv 2) (pv 1))))))
              (pss_one (ps_raiseErr (W := fun cls d _ H => E cls d H) (okV := okN) rfl TN (readN w) okN_ok hr (takes_of rfl rfl rfl rfl) (pa_cons (pv 2) pa_nil))) pss_nil)))), ?_⟩
        refine ⟨_, rfl, _, true, rfl, .tup ht, fun H' hs => ⟨_, rfl, iteF ?_⟩⟩
        refine ⟨_, rfl, a, rfl, ⟨_, SqT.of (hs _ _ ht)⟩, for_tup (K := K) (a := a) (xs := xs) (fun i σ H2 => ∃ z, σ = [some (.ref a), some (.int n), z] ∧ Same H H2 ∧ (xs.take i).all (nameOk n) = true) ⟨none, rfl, hs, by simp⟩ (fun i σ H2 _ ⟨_, _, s2, _⟩ => SqT.of (s2 _ _ ht)) ?_ ?_⟩
        · rintro i x σ H2 hx ⟨z, rfl, s2, ha⟩
          exact turn xs hf kE i x z H2 _ hx s2 ha fun H3 e hg => ⟨some x, rfl, e ▸ s2, all_next hx ha hg⟩
        · rintro σ H2 ⟨z, rfl, s2, ha⟩
          rw [List.take_length] at ha
          exact k ha H2 s2
end
end K07
/-! A set of pairs (an int, a tuple of ints): searched, filled, made of a list, sorted. -/
namespace K07
open PySem PySem.Spec PyProof.Rows L2
/-! ### pairs as keys -/
abbrev QI : Type := Int × List Int
def pk (q : QI) : NestedKey := .tup [.num q.1, .tup (q.2.map .num)]
theorem num_inj : ∀ {l m : List Int}, l.map NestedKey.num = m.map NestedKey.num → l = m
  | [], [], _ => rfl
  | [], _ :: _, h => by simp at h
  | _ :: _, [], h => by simp at h
  | x :: l, y :: m, h => by
    simp only [List.map_cons, List.cons.injEq, NestedKey.num.injEq] at h
    rw [h.1, num_inj h.2]
theorem pk_inj {q r : QI} (h : pk q = pk r) : q = r := by
  unfold pk at h
  simp only [NestedKey.tup.injEq, List.cons.injEq, NestedKey.num.injEq, and_true] at h
  exact Prod.ext h.1 (num_inj h.2)
theorem pk_dec (q r : QI) : decide (pk q = pk r) = decide (q = r) := by
  by_cases h : q = r
  · subst h; simp
  · rw [decide_eq_false h, decide_eq_false (fun z => h (pk_inj z))]
theorem depth_nums : ∀ l : List Int, NestedKey.depthAll (l.map .num) = 0
  | [] => by simp [NestedKey.depthAll]
  | x :: l => by
    have ih := depth_nums l
    simp [NestedKey.depthAll, NestedKey.depth, ih]
theorem pk_depth (q : QI) : (pk q).depth ≤ 8 := by
  simp [pk, NestedKey.depth, NestedKey.depthAll, depth_nums]
/-- the tuple at a is the pair q -/
def IsQ (h : Heap) (q : QI) (a : Addr) : Prop := NestedIs h (pk q) (.ref a)
@[irreducible] def qh (w : World) (q : QI) : Int := (pk q).hash w
theorem qh_eq (w : World) (q : QI) : qh w q = (pk q).hash w := by unfold qh; rfl
theorem IsQ.inj {h : Heap} {q r : QI} {a : Addr} (x : IsQ h q a) (y : IsQ h r a) : q = r := pk_inj (NestedIs.inj _ _ _ x y)
theorem IsQ.keep {h h' : Heap} {q : QI} {a : Addr} (x : IsQ h q a) (k : ∀ b o, h.get? b = some o → h'.get? b = some o) : IsQ h' q a := NestedIs.at (fun b o _ _ e _ => k b o e) _ _ x
theorem IsQ.same {h h' : Heap} {q : QI} {a b : Addr} {o : Obj} {es : Array (Int × Value)} {ep : Nat} {t : SetTable} (x : IsQ h q b) (ho : h.get? a = some o) (hd : o.data = .set es ep t) (hs : Heap.SameBut a h h') : IsQ h' q b := by
  refine NestedIs.at (fun c u vs n e hc => (hs.2 c ?_).trans e) _ _ x
  rintro rfl
  rw [ho] at e
  cases e
  rw [hd] at hc
  cases hc
/-! ### small questions -/
section
variable {P : Program} {w : World}
def ClsNo (P : Program) (w : World) (n : Nat) (s : Shared) (v : Value) : Prop := ∀ (A : Around) (E : Value → Shared → Prop) (Q : Bool → Shared → Prop), Q false s → wpAny (model P w) A (ofAClassStatement n v) Q E s
def ByVal (P : Program) (w : World) (n : Nat) (s : Shared) (v : Value) : Prop := ∀ (A : Around) (E : Value → Shared → Prop) (Q : Bool → Shared → Prop), Q true s → wpAny (model P w) A (hashByValue n v) Q E s
theorem ClsNo.tup {n : Nat} {s : Shared} {a : Addr} {o : Obj} {vs : Array Value} {m : Nat} (ho : s.heap.get? a = some o) (hc : o.cls = .type "tuple") (hd : o.data = .seq vs m) (hq : ∀ v ∈ vs.toList, ClsNo P w n s v) : ClsNo P w (n + 1) s (.ref a) := fun A E Q h => by
  have hT : s.TypeIs (.ref a) "tuple" := ⟨o, ho, hc⟩
  unfold ofAClassStatement
  refine wpAny_bind (wpAny_typeOf hT ?_)
  dsimp only
  simp only [show (("tuple" : String) == "tuple") = true by decide, if_true, Bool.not_true, Bool.false_eq_true, if_false]
  first
    | refine wpAny_bind (wpAny_pure ?_)
    | skip
  try simp only [Bool.not_true, Bool.false_eq_true, if_false]
  show wpAny _ _ (seqItems? (.ref a) >>= _) _ _ s
  refine wpAny_bind (wpAny_seqItems ho hd (wpAny_bind ?_))
  show wpAny _ _ (forIn vs _ _) _ _ s
  rw [← Array.forIn_toList]
  refine wpAny_forIn_list _ (fun rest r s' => r.1 = none ∧ s' = s ∧ ∀ v ∈ rest, ClsNo P w n s v) _ ?_ ?_ _ _ ⟨rfl, rfl, hq⟩
  · rintro v rest r s' ⟨hr, rfl, hall⟩
    refine wpAny_bind (hall v List.mem_cons_self _ _ _ ?_)
    simp only [Bool.false_eq_true, if_false]
    exact wpAny_pure ⟨rfl, rfl, fun u hu => hall u (List.mem_cons_of_mem _ hu)⟩
  · rintro ⟨r1, r2⟩ s' ⟨hr, rfl, _⟩
    simp only at hr
    subst hr
    exact wpAny_pure h
theorem ByVal.tup {n : Nat} {s : Shared} {a : Addr} {o : Obj} {vs : Array Value} {m : Nat} (ho : s.heap.get? a = some o) (hc : o.cls = .type "tuple") (hd : o.data = .seq vs m) (hq : ∀ v ∈ vs.toList, ByVal P w n s v) : ByVal P w (n + 1) s (.ref a) := fun A E Q h => by
  have hT : s.TypeIs (.ref a) "tuple" := ⟨o, ho, hc⟩
  unfold hashByValue
  refine wpAny_bind (wpAny_specialOf hT F.slot_tuple_hash.lookup ?_)
  show wpAny _ _ (seqItems? (.ref a) >>= _) _ _ s
  refine wpAny_bind (wpAny_seqItems ho hd (wpAny_bind ?_))
  show wpAny _ _ (forIn vs _ _) _ _ s
  rw [← Array.forIn_toList]
  refine wpAny_forIn_list _ (fun rest r s' => r.1 = none ∧ s' = s ∧ ∀ v ∈ rest, ByVal P w n s v) _ ?_ ?_ _ _ ⟨rfl, rfl, hq⟩
  · rintro v rest r s' ⟨hr, rfl, hall⟩
    refine wpAny_bind (hall v List.mem_cons_self _ _ _ ?_)
    simp only [Bool.not_true, Bool.false_eq_true, if_false]
    exact wpAny_pure ⟨rfl, rfl, fun u hu => hall u (List.mem_cons_of_mem _ hu)⟩
  · rintro ⟨r1, r2⟩ s' ⟨hr, rfl, _⟩
    simp only at hr
    subst hr
    exact wpAny_pure h
theorem nums_at {s : Shared} : ∀ {l : List Int} {vs : List Value}, NestedAll s.heap (l.map .num) vs → ∀ v ∈ vs, (∀ n, ClsNo P w n s v) ∧ ∀ n, ByVal P w n s v
  | [], _, h, v, hv => by cases h; cases hv
  | x :: l, _, h, v, hv => by
    cases h with
    | cons h1 h2 =>
      rcases List.mem_cons.mp hv with e | hv
      · subst e
        cases h1 with
        | bool e => exact ⟨fun n A E Q q => by cases n <;> exact wpAny_pure q, fun n A E Q q => by cases n <;> exact wpAny_pure q⟩
        | int i t => exact ⟨fun n A E Q q => by cases n <;> exact wpAny_pure q, fun n A E Q q => by cases n <;> exact wpAny_pure q⟩
      · exact nums_at h2 v hv
theorem IsQ.quiet {s : Shared} {q : QI} {a : Addr} (x : IsQ s.heap q a) : ClsNo P w 8 s (.ref a) ∧ ByVal P w 8 s (.ref a) := by
  cases x with
  | tup ho hc hd hi =>
    rename_i vs n
    cases hv : vs.toList with
    | nil => rw [hv] at hi; cases hi
    | cons v1 r =>
      rw [hv] at hi
      cases hi with
      | cons h1 h2 =>
        cases h2 with
        | cons h3 h4 =>
          cases h4
          rename_i v2
          have n1 := nums_at (P := P) (w := w) (l := [q.1]) (.cons h1 .nil) v1 List.mem_cons_self
          have n2 : ClsNo P w 7 s v2 ∧ ByVal P w 7 s v2 := by
            cases h3 with
            | tup ho2 hc2 hd2 hi2 => exact ⟨.tup ho2 hc2 hd2 fun v hv => (nums_at hi2 v hv).1 _, .tup ho2 hc2 hd2 fun v hv => (nums_at hi2 v hv).2 _⟩
          refine ⟨.tup ho hc hd fun v hv2 => ?_, .tup ho hc hd fun v hv2 => ?_⟩
          · rw [hv] at hv2
            rcases List.mem_cons.mp hv2 with e | hv2
            · rw [e]; exact n1.1 _
            · rw [List.mem_singleton.mp hv2]; exact n2.1
          · rw [hv] at hv2
            rcases List.mem_cons.mp hv2 with e | hv2
            · rw [e]; exact n1.2 _
            · rw [List.mem_singleton.mp hv2]; exact n2.2
variable {A : Around} {E : Value → Shared → Prop} {s : Shared}
theorem IsQ.eq {x y : QI} {a b : Addr} {Q : Bool → Shared → Prop} (hu : A.units + 8 < cLine) (hx : IsQ s.heap x a) (hy : IsQ s.heap y b) (h : Q (decide (x = y)) s) : wpAny (model P w) A (eqBool (.ref a) (.ref b)) Q E s :=
  (nestedKind P w).eqBool hu ⟨hx, pk_depth x⟩ ⟨hy, pk_depth y⟩ (by rw [pk_dec]; exact h)
theorem IsQ.hash {x : QI} {a : Addr} {Q : Int → Shared → Prop} (hu : A.units + 8 < cLine) (hx : IsQ s.heap x a) (h : ∀ tk, Q (qh w x) { s with toks := tk }) : wpAny (model P w) A (pyHash (.ref a)) Q E s :=
  (nestedKind P w).pyHash hu ⟨hx, pk_depth x⟩ (by
    have h2 := h
    rw [qh_eq] at h2
    exact h2 _)
theorem IsQ.unseen {x : QI} {a : Addr} {Q : Bool → Shared → Prop} (hx : IsQ s.heap x a) {ys : List Value} (hy : ∀ y ∈ ys, ∃ r c, y = Value.ref c ∧ IsQ s.heap r c) (h : Q false s) : wpAny (model P w) A (searchCouldBeSeen (.ref a) ys) Q E s := by
  unfold searchCouldBeSeen
  refine wpAny_bind (wpAny_forIn_list _ (fun rest r s' => r.1 = none ∧ s' = s ∧ ∀ y ∈ rest, ∃ r c, y = Value.ref c ∧ IsQ s.heap r c) _ ?_ ?_ _ _ ⟨rfl, rfl, hy⟩)
  · rintro v rest r s' ⟨hr, rfl, hall⟩
    obtain ⟨q, c, rfl, hc⟩ := hall v List.mem_cons_self
    have tail : ∀ y ∈ rest, ∃ r c, y = Value.ref c ∧ IsQ s'.heap r c := fun u hu => hall u (List.mem_cons_of_mem _ hu)
    dsimp only
    by_cases hv : (a == c || (carriedByValue (.ref a) && carriedByValue (.ref c))) = true
    · exact wp_if_pos hv (wpAny_pure ⟨rfl, rfl, tail⟩)
    · refine wp_if_neg hv (wpAny_bind ((nestedKind P w).quiet ⟨hx, pk_depth x⟩ ?_))
      simp only [Bool.not_true, Bool.false_eq_true, if_false]
      refine wpAny_bind ((nestedKind P w).quiet ⟨hc, pk_depth q⟩ ?_)
      simp only [Bool.not_true, Bool.false_eq_true, if_false]
      refine wpAny_bind (hx.quiet.1 _ _ _ ?_)
      simp only [Bool.false_eq_true, if_false]
      refine wpAny_bind (hc.quiet.1 _ _ _ ?_)
      simp only [Bool.false_eq_true, if_false]
      exact wpAny_pure ⟨rfl, rfl, tail⟩
  · rintro ⟨r1, r2⟩ s' ⟨hr, rfl, _⟩
    simp only at hr
    subst hr
    exact wpAny_pure h
end
end K07
/-! The set itself: a search, one put in, laid anew. -/
namespace K07
open PySem PySem.Spec PyProof.Rows L2
abbrev QL : Type := List (Addr × QI)
def entsQ (hf : QI → Int) (L : QL) : List (Int × Value) := L.map fun p => (hf p.2, Value.ref p.1)
abbrev hsQ (hf : QI → Int) (L : QL) : List Int := L.map fun p => hf p.2
/-- the set at a holds the pairs L, in the table's order -/
structure SetQ (w : World) (hf : QI → Int) (h : Heap) (a : Addr) (L : QL) (es : Array (Int × Value)) (ep : Nat) (t : SetTable) : Prop where
  ob : ∃ o, h.get? a = some o ∧ o.ExactSet ∧ o.data = .set es ep t
  ents : es.toList = entsQ hf L
  tab : TabOk t (hsQ hf L)
  nd : (L.map (·.2)).Nodup
  tup : ∀ p ∈ L, IsQ h p.2 p.1
  plain : t.plain = true
  led : w.params.followText "set-order" = true ∨ t.led = true
  room : L.length * 5 < t.mask * 3
  few : L.length < 64
section
variable {w : World} {hf : QI → Int} {h : Heap} {a : Addr} {L : QL} {es : Array (Int × Value)} {ep : Nat} {t : SetTable}
theorem ents_size (e : es.toList = entsQ hf L) : es.size = L.length := by
  have z := congrArg List.length e
  rwa [entsQ, Array.length_toList, List.length_map] at z
theorem ents_at (e : es.toList = entsQ hf L) {i : Nat} {p : Addr × QI} (hp : L[i]? = some p) : es[i]? = some (hf p.2, Value.ref p.1) := by
  rw [← Array.getElem?_toList, e, entsQ, List.getElem?_map, hp]
  rfl
theorem SetQ.fits (R : SetQ w hf h a L es ep t) : t.fits es.size = true := by
  have h1 := R.tab.sz
  rw [List.length_map] at h1
  have h2 := ents_size R.ents
  have h3 := R.room
  unfold SetTable.fits SetTable.fill
  rw [R.tab.dm, Bool.and_eq_true, beq_iff_eq, decide_eq_true_eq]
  show t.place.size = es.size ∧ t.place.size + 0 ≤ t.mask
  omega
theorem SetQ.keep {h' : Heap} (R : SetQ w hf h a L es ep t) (ha : ∀ o, h.get? a = some o → h'.get? a = some o) (ht : ∀ p ∈ L, IsQ h' p.2 p.1) : SetQ w hf h' a L es ep t :=
  let ⟨o, ho, r⟩ := R.ob
  ⟨⟨o, ha o ho, r⟩, R.ents, R.tab, R.nd, ht, R.plain, R.led, R.room, R.few⟩
end
/-- the c-th stop of a search for the hash h -/
abbrev stop (m : Nat) (h : Int) (c : Nat) : SetTable.Probe := nth m (runAt m (SetTable.bits h % (m + 1)) (SetTable.bits h)) c
theorem stop_dummy (m : Nat) : ∀ (n : Nat) (p : SetTable.Probe), p.dummy = none → (nth m p n).dummy = none
  | 0, _, h => h
  | n + 1, p, h => stop_dummy m n (adv m p) (by unfold adv; split <;> exact h)
/-- what the next probe meets: an entry of this hash, or the free slot K -/
theorem probe_met {t : SetTable} {hs : List Int} (T : TabOk t hs) (hashAt : Nat → Int) (h : Int) {K c : Nat} (hc : c ≤ K) (hK1 : K < 10 * SetTable.turns t.mask) (hK : way t.mask h K ∉ t.place.toList) (hKb : ∀ c, c < K → way t.mask h c ∈ t.place.toList) :
    (∃ d i, d < K - c ∧ t.place.toList[i]? = some (way t.mask h (c + d)) ∧ hashAt i = h ∧ (∀ d' i', d' < d → t.place.toList[i']? = some (way t.mask h (c + d')) → hashAt i' ≠ h) ∧
      t.probe hashAt h (stop t.mask h c) = some (.candidate (way t.mask h (c + d)) i (stop t.mask h (c + (d + 1))))) ∨
    ((∀ d' i', d' < K - c → t.place.toList[i']? = some (way t.mask h (c + d')) → hashAt i' ≠ h) ∧ t.probe hashAt h (stop t.mask h c) = some (.empty (way t.mask h K) none)) := by
  have nx : ∀ d, nth t.mask (stop t.mask h c) d = stop t.mask h (c + d) := fun d => (nth_add t.mask c _ d).symm
  have nj : ∀ d, (nth t.mask (stop t.mask h c) d).j = way t.mask h (c + d) := fun d => congrArg SetTable.Probe.j (nx d)
  have hcK : c + (K - c) = K := by omega
  have spec := go_spec t T.ris T.dm hashAt h (10 * SetTable.turns t.mask) (K - c) (stop t.mask h c) (stop_dummy _ _ _ rfl) (by omega)
    (fun d hd => by rw [nj]; exact hKb (c + d) (by omega)) (by rw [nj, hcK]; exact hK)
  simp only [nj, nx, hcK] at spec
  exact spec
section
variable {P : Program} {w : World} {hf : QI → Int} {A : Around} {E : Value → Shared → Prop} {s : Shared} {a : Addr} {L : QL} {es : Array (Int × Value)} {ep : Nat} {t : SetTable}
/-- from the c-th stop on: the pair is there, or the first free slot K is found -/
theorem seek_from (R : SetQ w hf s.heap a L es ep t) {x : Addr} {q : QI} (hx : IsQ s.heap q x) (hu : A.units + 8 < cLine) {K : Nat} (hK1 : K < 10 * SetTable.turns t.mask) (hK : way t.mask (hf q) K ∉ t.place.toList) (hKb : ∀ c, c < K → way t.mask (hf q) c ∈ t.place.toList)
    {Q : SetFound → Shared → Prop} (hin : q ∈ L.map (·.2) → Q (.there none) s) (hout : q ∉ L.map (·.2) → Q (.free (way t.mask (hf q) K) false) s) :
    ∀ (f c : Nat) (st : Option SetTable.Probe), st.getD (t.probeStart (hf q)) = stop t.mask (hf q) c → c ≤ K → K - c < f →
      (∀ (i : Nat) p, L[i]? = some p → p.2 = q → ∃ c', c ≤ c' ∧ c' < K ∧ t.place.toList[i]? = some (way t.mask (hf q) c')) →
      wpAny (model P w) A (setSearchFrom a (.ref x) (hf q) true f st) Q E s := by
  intro f
  induction f with
  | zero => intro c st _ _ hff _; exact absurd hff (Nat.not_lt_zero _)
  | succ f ih =>
    intro c st hst hc hff hre
    obtain ⟨o, ho, hex, hd⟩ := R.ob
    rw [setSearchFrom_succ]
    refine wpAny_bind (wpAny_setState_of ho hd R.fits ?_)
    dsimp only
    have gw : ¬ t.gaveWay = true := by
      unfold SetTable.gaveWay
      rw [mask_odd R.tab.mok]
      decide
    refine wp_if_neg gw ?_
    try refine wpAny_bind (wpAny_pure ?_)
    have hashAt : ∀ (i : Nat) p, L[i]? = some p → ((es[i]?.map (·.1)).getD 0) = hf p.2 := fun i p hp => by
      rw [ents_at R.ents hp]
      rfl
    rw [hst]
    rcases probe_met R.tab (fun i => (es[i]?.map (·.1)).getD 0) (hf q) hc hK1 hK hKb with ⟨d, i, hd1, hi, hh, hno, hpr⟩ | ⟨hno, hpr⟩
    · -- an entry of this hash
      rw [hpr]
      dsimp only
      have hil : i < L.length := by
        have h1 : i < t.place.toList.length := (List.getElem?_eq_some_iff.mp hi).1
        have h2 := R.tab.sz
        rw [List.length_map] at h2
        rw [Array.length_toList] at h1
        omega
      obtain ⟨p, hp⟩ : ∃ p, L[i]? = some p := ⟨L[i], List.getElem?_eq_getElem hil⟩
      have hmem : p ∈ L := List.mem_of_getElem? hp
      have hent := ents_at R.ents hp
      have rest : wpAny (model P w) A (searchRest a (.ref x) (hf q) true f es t (way t.mask (hf q) (c + d)) i (stop t.mask (hf q) (c + (d + 1)))) Q E s := by
        unfold searchRest
        rw [hent]
        dsimp only
        refine wpAny_bind (wpAny_holding ((R.tup p hmem).eq hu hx ?_))
        refine wpAny_bind (wpAny_setState_of ho hd R.fits ?_)
        dsimp only
        by_cases hk : p.2 = q
        · refine wp_if_pos (by simp [hk]) ?_
          exact wpAny_pure (hin (List.mem_map.mpr ⟨p, hmem, hk⟩))
        · refine wp_if_neg (by simp [hk]) ?_
          try refine wpAny_bind (wpAny_pure ?_)
          rw [sameMem]
          dsimp only
          have hsl : t.slot (way t.mask (hf q) (c + d)) = .live i := slot_live R.tab.ris hi
          simp only [if_true, hsl, hent]
          refine wpAny_bind (wpAny_isSame_ref_self (wpAny_bind (wpAny_pure ?_)))
          simp only [if_true]
          refine wp_if_neg (by simp [hk]) ?_
          refine ih (c + (d + 1)) _ rfl (by omega) (by omega) fun i0 p0 h0 hk0 => ?_
          obtain ⟨c', a1, a2, a3⟩ := hre i0 p0 h0 hk0
          refine ⟨c', ?_, a2, a3⟩
          have ne1 : ¬ c' < c + d := fun z => hno (c' - c) i0 (by omega) (by rw [show c + (c' - c) = c' by omega]; exact a3) ((hashAt i0 p0 h0).trans (congrArg hf hk0))
          have ne2 : c' ≠ c + d := fun z => by
            rw [z] at a3
            have s0 := slot_live R.tab.ris a3
            rw [hsl] at s0
            injection s0 with s0
            rw [← s0, hp] at h0
            exact hk ((congrArg Prod.snd (Option.some.inj h0)).trans hk0)
          omega
      by_cases hl : t.led = true
      · refine wp_if_neg (by simp [hl]) ?_
        try refine wpAny_bind (wpAny_pure ?_)
        exact rest
      · refine wp_if_pos (by simp [hl]) (wpAny_bind (hx.unseen (fun y hy => ?_) ?_))
        · obtain ⟨e, he, ee⟩ := List.mem_map.mp hy
          have he1 : e ∈ es ∧ e.1 = hf q := by simpa using he
          have he2 : e ∈ es.toList := by simpa using he1.1
          rw [R.ents] at he2
          obtain ⟨p2, hp3, e2⟩ := List.mem_map.mp he2
          exact ⟨p2.2, p2.1, by rw [← ee, ← e2], R.tup p2 hp3⟩
        · refine wp_if_neg (by decide) ?_
          try refine wpAny_bind (wpAny_pure ?_)
          exact rest
    · -- a free slot
      rw [hpr]
      dsimp only
      refine wpAny_pure (hout fun hm => ?_)
      obtain ⟨p0, h0, hk0⟩ := List.mem_map.mp hm
      obtain ⟨i0, hi0⟩ := List.mem_iff_getElem?.mp h0
      obtain ⟨c', a1, a2, a3⟩ := hre i0 p0 hi0 hk0
      exact hno (c' - c) i0 (by omega) (by rw [show c + (c' - c) = c' by omega]; exact a3) ((hashAt i0 p0 hi0).trans (congrArg hf hk0))
/-- the search that adding asks for -/
theorem seek (R : SetQ w hf s.heap a L es ep t) {x : Addr} {q : QI} (hx : IsQ s.heap q x) (hu : A.units + 8 < cLine) {Q : SetFound → Shared → Prop} (hin : q ∈ L.map (·.2) → Q (.there none) s)
    (hout : ∀ K, q ∉ L.map (·.2) → way t.mask (hf q) K ∉ t.place.toList → (∀ c, c < K → way t.mask (hf q) c ∈ t.place.toList) → Q (.free (way t.mask (hf q) K) false) s) :
    wpAny (model P w) A (setSearch a (.ref x) (hf q) true) Q E s := by
  have hroom := R.room
  obtain ⟨K, hK1, hK, hKb⟩ := R.tab.first (by rw [List.length_map]; omega) (hf q)
  have hbig : K < 100000 := by
    have : 10 * SetTable.turns t.mask ≤ 1420 := by
      unfold SetTable.turns
      rcases R.tab.mok with e | e | e <;> omega
    omega
  unfold setSearch
  refine seek_from R hx hu hK1 hK hKb hin (fun hn => hout K hn hK hKb) 100000 0 none rfl (Nat.zero_le _) (by omega) fun i p hp hk => ?_
  have hi : (hsQ hf L)[i]? = some (hf q) := by rw [List.getElem?_map, hp, ← hk]; rfl
  have hil : i < t.place.toList.length := by
    have h1 : i < L.length := (List.getElem?_eq_some_iff.mp hp).1
    have h2 := R.tab.sz
    rw [List.length_map] at h2
    rw [Array.length_toList]
    omega
  have hj := List.getElem?_eq_getElem hil
  obtain ⟨c, hc, e⟩ := R.tab.before hK hi hj
  exact ⟨c, Nat.zero_le _, hc, by rw [hj, e]⟩
/-- the entries in another order are those of the pairs in that order -/
theorem ents_order (hr : es.toList = entsQ hf L) {order : Array Nat} (hp : order.toList.Perm (List.range L.length)) :
    ∃ L2 : QL, (order.filterMap (es[·]?)).toList = entsQ hf L2 ∧ L2.Perm L ∧ hsQ hf L2 = order.toList.map fun i => (es.map (·.1)).getD i 0 := by
  have hsz := ents_size hr
  have step : ∀ l : List Nat, (∀ i ∈ l, i < L.length) → l.filterMap (fun i => es[i]?) = entsQ hf (l.filterMap fun i => L[i]?) ∧ hsQ hf (l.filterMap fun i => L[i]?) = l.map fun i => (es.map (·.1)).getD i 0 := by
    intro l
    induction l with
    | nil => intro _; exact ⟨rfl, rfl⟩
    | cons i l ih =>
      intro hl
      have hi := hl i List.mem_cons_self
      obtain ⟨e1, e2⟩ := ih fun j hj => hl j (List.mem_cons_of_mem _ hj)
      have hL := List.getElem?_eq_getElem hi
      have hE := ents_at hr hL
      rw [List.filterMap_cons_some hE, List.filterMap_cons_some hL, e1]
      refine ⟨rfl, ?_⟩
      show hf (L[i]).2 :: hsQ hf _ = _ :: _
      rw [e2]
      have e5 : (es.map (·.1))[i]? = some (hf (L[i]).2) := by rw [Array.getElem?_map, hE]; rfl
      have e6 : (es.map (·.1)).getD i 0 = hf (L[i]).2 := by simp [Array.getD_eq_getD_getElem?, e5]
      exact congrArg (· :: _) e6.symm
  obtain ⟨e1, e2⟩ := step order.toList fun i hi => List.mem_range.mp (hp.mem_iff.mp hi)
  have all : (List.range L.length).filterMap (fun i => L[i]?) = L := by
    have key : ∀ n, n ≤ L.length → (List.range n).filterMap (fun i => L[i]?) = L.take n := by
      intro n
      induction n with
      | zero => intro _; rfl
      | succ n ih =>
        intro hn
        have hlt : n < L.length := hn
        rw [List.range_succ, List.filterMap_append, ih (Nat.le_of_lt hlt), List.take_add_one, List.filterMap_cons_some (List.getElem?_eq_getElem hlt), List.getElem?_eq_getElem hlt]
        rfl
    rw [key L.length (Nat.le_refl _), List.take_length]
  refine ⟨_, by first | (rw [Array.toList_filterMap]; exact e1) | simpa using e1, ?_, e2⟩
  have pf := hp.filterMap fun i => L[i]?
  rwa [all] at pf
end
end K07
/-! The set of pairs: one put in, the table laid anew. -/
namespace K07
open PySem PySem.Spec PyProof.Rows L2
section
variable {P : Program} {w : World} {hf : QI → Int} {A : Around} {E : Value → Shared → Prop} {s : Shared} {a : Addr} {L : QL} {es : Array (Int × Value)} {ep : Nat} {t : SetTable}
/-- the table laid anew with more room -/
theorem regrow {o : Obj} (ho : s.heap.get? a = some o) (hex : o.ExactSet) (hd : o.data = .set es ep t) (hr : es.toList = entsQ hf L) (hz : t.place.size = es.size) (hm : t.dummies = #[]) (hfl : es.size ≤ t.mask)
    (nd : (L.map (·.2)).Nodup) (tup : ∀ p ∈ L, IsQ s.heap p.2 p.1) (pl : t.plain = true) (ld : w.params.followText "set-order" = true ∨ t.led = true) (few : L.length < 64) {wish M : Nat}
    (hw : SetTable.sizeAbove wish - 1 = M) (hM : MaskOk M) (h128 : SetTable.sizeAbove wish ≤ 128) (hn : L.length * 5 < M * 3) {Q : Unit → Shared → Prop}
    (hQ : ∀ h' L' es' ep' t', Heap.SameBut a s.heap h' → SetQ w hf h' a L' es' ep' t' → L'.Perm L → Q () { s with heap := h' }) : wpAny (model P w) A (setRelay a wish) Q E s := by
  have hsl := ents_size hr
  have hfits : t.fits es.size = true := by
    unfold SetTable.fits SetTable.fill
    rw [hm, Bool.and_eq_true, beq_iff_eq, decide_eq_true_eq]
    show t.place.size = es.size ∧ t.place.size + 0 ≤ t.mask
    omega
  obtain ⟨t', order, e, hp, T, em, el, ep', _⟩ := relaid_ok t (hs := es.map (·.1)) (wanted := wish) hw hM (by rw [Array.size_map, hsl]; omega)
  rw [Array.size_map, hsl] at hp
  obtain ⟨L2, r1, r2, r3⟩ := ents_order hr hp
  rw [← r3] at T
  have hs2 : (order.filterMap (es[·]?)).size = es.size := by rw [ents_size r1, r2.length_eq, hsl]
  rw [setRelay_eq]
  refine wpAny_bind (wpAny_setState_of ho hd hfits ?_)
  dsimp only
  refine wp_if_neg (by rw [sizeLine_eq]; omega) ?_
  try refine wpAny_bind (wpAny_pure ?_)
  rw [e]
  dsimp only
  refine wpAny_bind (wp_if_neg (by rw [hs2]; simp) ?_)
  try refine wpAny_bind (wpAny_pure ?_)
  refine wpAny_pure ?_
  dsimp only
  refine wpAny_storeSet_of ho hd ?_ (by rw [hs2, hsl, sizeLine_eq]; omega)
  have sb : Heap.SameBut a s.heap (s.heap.update a (Obj.putSet (order.filterMap (es[·]?)) t')) := Heap.SameBut.update ..
  refine hQ _ L2 (order.filterMap (es[·]?)) (ep + 1) t' sb { ob := ⟨_, store_at ho hd, ⟨hex.1, hex.2.1, hex.2.2⟩, rfl⟩, ents := r1, tab := T, nd := (r2.map (·.2)).nodup_iff.mpr nd, tup := fun p hpm => (tup p (r2.mem_iff.mp hpm)).same ho hd sb, plain := by rw [ep']; exact pl, led := by rw [el]; exact ld, room := by rw [r2.length_eq, em]; exact hn, few := by rw [r2.length_eq]; exact few } r2
/-- one put in -/
theorem put_in (R : SetQ w hf s.heap a L es ep t) {x : Addr} {q : QI} (hx : IsQ s.heap q x) (hu : A.units + 8 < cLine) (hfew : L.length + 1 < 64) {Q : Bool → Shared → Prop}
    (hQ : ∀ b h' L' es' ep' t', Heap.SameBut a s.heap h' → SetQ w hf h' a L' es' ep' t' → (q ∈ L.map (·.2) → L' = L) → (q ∉ L.map (·.2) → L'.Perm ((x, q) :: L)) → Q b { s with heap := h' }) :
    wpAny (model P w) A (setAddHashed a (.ref x) (hf q)) Q E s := by
  obtain ⟨o, ho, hex, hd⟩ := R.ob
  have hsl := ents_size R.ents
  have hroom := R.room
  unfold setAddHashed
  refine wpAny_holding ?_
  rw [show (100000 : Nat) = 99999 + 1 from rfl, setAddHashedIn_succ]
  refine wpAny_bind (wpAny_setState_of ho hd R.fits ?_)
  dsimp only
  refine wp_if_neg (by simp [byScan, Value.scannable]) ?_
  try refine wpAny_bind (wpAny_pure ?_)
  refine wpAny_bind (seek R hx hu (fun hm => ?_) fun K hm hK hb => ?_)
  · dsimp only
    exact wpAny_pure (hQ false s.heap L es ep t (Heap.SameBut.refl a s.heap) R (fun _ => rfl) fun z => absurd hm z)
  · dsimp only
    refine wpAny_bind (wpAny_setState_of ho hd R.fits ?_)
    dsimp only
    obtain ⟨q1, q2, q3, q4, q5, q6, q7, q8, q9⟩ := R.tab.put hK hb
    have pl1 : (t.put (way t.mask (hf q) K)).1.plain = true := by rw [q6]; exact R.plain
    generalize hpt : t.put (way t.mask (hf q) K) = pt at q1 q3 q4 q5 q6 q7 q8 q9 pl1 ⊢
    obtain ⟨t1, p⟩ := pt
    dsimp only at q1 q3 q4 q5 q6 q7 q8 q9 pl1 ⊢
    subst q1
    first
      | (refine wpAny_bind ?_; refine wp_if_pos pl1 ?_; refine hx.quiet.2 _ _ _ ?_)
      | refine wp_if_pos pl1 (wpAny_bind (hx.quiet.2 _ _ _ ?_))
    simp only [if_true]
    have ents1 : (SetTable.insertAt es (SetTable.below t.place (way t.mask (hf q) K)) (hf q, Value.ref x)).toList = entsQ hf (L.take (SetTable.below t.place (way t.mask (hf q) K)) ++ (x, q) :: L.drop (SetTable.below t.place (way t.mask (hf q) K))) := by
      rw [SetTable.toList_insertAt, R.ents]
      unfold entsQ
      rw [List.map_append, List.map_cons, List.map_take, List.map_drop]
    generalize SetTable.below t.place (way t.mask (hf q) K) = p at q2 q3 ents1 ⊢
    have pm := put_perm L p (x, q)
    have hlen : (L.take p ++ (x, q) :: L.drop p).length = L.length + 1 := pm.length_eq
    have hh : hsQ hf (L.take p ++ (x, q) :: L.drop p) = (hsQ hf L).take p ++ hf q :: (hsQ hf L).drop p := by
      show List.map _ _ = _
      rw [List.map_append, List.map_cons, List.map_take, List.map_drop]
    rw [← hh] at q3
    have nd1 : ((L.take p ++ (x, q) :: L.drop p).map (·.2)).Nodup := (pm.map (·.2)).nodup_iff.mpr (by rw [List.map_cons]; exact List.nodup_cons.mpr ⟨hm, R.nd⟩)
    have hes := ents_size ents1
    rw [hlen] at hes
    generalize SetTable.insertAt es p (hf q, Value.ref x) = es1 at ents1 hes ⊢
    generalize L.take p ++ (x, q) :: L.drop p = L1 at pm hlen q3 nd1 ents1
    refine wpAny_bind (wpAny_storeSet_of ho hd ?_ (by rw [hes, sizeLine_eq]; omega))
    have sb : Heap.SameBut a s.heap (s.heap.update a (Obj.putSet es1 t1)) := Heap.SameBut.update ..
    have ho1 := store_at (es' := es1) (t' := t1) ho hd
    generalize s.heap.update a (Obj.putSet es1 t1) = h1 at sb ho1 ⊢
    have tup1 : ∀ p ∈ L1, IsQ h1 p.2 p.1 := fun p hp => by
      rcases List.mem_cons.mp (pm.mem_iff.mp hp) with e | hp
      · rw [e]; exact hx.same ho hd sb
      · exact (R.tup p hp).same ho hd sb
    have ld1 : w.params.followText "set-order" = true ∨ t1.led = true := by rw [q5]; exact R.led
    have full : t1.tooFull = decide ((L.length + 1) * 5 ≥ t1.mask * 3) := by
      unfold SetTable.tooFull
      rw [q9, List.length_map]
    by_cases hfu : t1.tooFull = true
    · have hfull : (L.length + 1) * 5 ≥ t1.mask * 3 := by rw [full] at hfu; exact of_decide_eq_true hfu
      first
        | (refine wpAny_bind ?_; refine wp_if_pos (by simp [hfu]) ?_)
        | (refine wp_if_pos (by simp [hfu]) ?_; refine wpAny_bind ?_)
      rw [hsl]
      have hz1 : t1.place.size = es1.size := by
        have h := q3.sz
        rw [List.length_map, hlen] at h
        rw [h, hes]
      have two : (t.mask = 7 ∧ L.length = 4) ∨ (t.mask = 31 ∧ L.length = 18) := by
        rcases R.tab.mok with e | e | e <;> rw [q4, e] at hfull <;> rw [e] at hroom
        · exact .inl ⟨e, by omega⟩
        · exact .inr ⟨e, by omega⟩
        · omega
      have grow : ∀ M, SetTable.sizeAbove (SetTable.grown (L.length + 1)) - 1 = M → MaskOk M → SetTable.sizeAbove (SetTable.grown (L.length + 1)) ≤ 128 → (L.length + 1) * 5 < M * 3 →
          wpAny (model P w) A (setRelay a (SetTable.grown (L.length + 1))) (fun _ s' => wpAny (model P w) A (pure true) Q E s') E { s with heap := h1 } := fun M g1 g2 g3 g4 => by
        refine regrow (s := { s with heap := h1 }) ho1 ⟨hex.1, hex.2.1, hex.2.2⟩ rfl ents1 hz1 q3.dm (by rw [hes, q4]; rcases two with ⟨e, e2⟩ | ⟨e, e2⟩ <;> omega) nd1 tup1 pl1 ld1 (by rw [hlen]; exact hfew) g1 g2 g3 (by rw [hlen]; exact g4) ?_
        intro h2 L2 es2 ep2 t2 sb2 R2 pm2
        exact wpAny_pure (hQ true h2 L2 es2 ep2 t2 (sb.trans sb2) R2 (fun z => absurd z hm) fun _ => pm2.trans pm)
      rcases two with ⟨_, e2⟩ | ⟨_, e2⟩
      · exact grow 31 (by rw [e2, size_20]) (.inr (.inl rfl)) (by rw [e2, size_20]; decide) (by omega)
      · exact grow 127 (by rw [e2, size_76]) (.inr (.inr rfl)) (by rw [e2, size_76]; decide) (by omega)
    · first
        | refine wp_if_neg (by simp [hfu]) ?_
        | (refine wpAny_bind ?_; refine wp_if_neg (by simp [hfu]) ?_; refine wpAny_pure ?_)
      refine wpAny_pure (hQ true h1 L1 es1 (ep + 1) t1 sb { ob := ⟨_, ho1, ⟨hex.1, hex.2.1, hex.2.2⟩, rfl⟩, ents := ents1, tab := q3, nd := nd1, tup := tup1, plain := pl1, led := ld1, room := ?_, few := by rw [hlen]; exact hfew } (fun z => absurd z hm) fun _ => pm)
      rw [full] at hfu
      have := of_decide_eq_false (Bool.not_eq_true _ ▸ hfu : decide ((L.length + 1) * 5 ≥ t1.mask * 3) = false)
      rw [hlen]
      omega
end
/-- what the set has got from the first i items -/
structure GotQ (ks : QL) (i : Nat) (L : QL) : Prop where
  sub : ∀ p ∈ L, p ∈ ks.take i
  all : ∀ p ∈ ks.take i, p.2 ∈ L.map (·.2)
  len : L.length ≤ i
theorem GotQ.next {ks L L' : QL} {i : Nat} {x : Addr × QI} (g : GotQ ks i L) (h : ks[i]? = some x) (c1 : x.2 ∈ L.map (·.2) → L' = L) (c2 : x.2 ∉ L.map (·.2) → L'.Perm (x :: L)) : GotQ ks (i + 1) L' := by
  have tn : ks.take (i + 1) = ks.take i ++ [x] := by rw [List.take_add_one, h]; rfl
  by_cases c : x.2 ∈ L.map (·.2)
  · have e := c1 c
    subst e
    refine ⟨fun p hp => by rw [tn]; exact List.mem_append_left _ (g.sub p hp), fun p hp => ?_, Nat.le_succ_of_le g.len⟩
    rw [tn] at hp
    rcases List.mem_append.mp hp with z | z
    · exact g.all p z
    · rw [List.mem_singleton.mp z]; exact c
  · have pm := c2 c
    refine ⟨fun p hp => ?_, fun p hp => ?_, by rw [pm.length_eq, List.length_cons]; exact Nat.succ_le_succ g.len⟩
    · rw [tn]
      rcases List.mem_cons.mp (pm.mem_iff.mp hp) with e | z
      · rw [e]; exact List.mem_append_right _ (List.mem_singleton.mpr rfl)
      · exact List.mem_append_left _ (g.sub p z)
    · rw [(pm.map (·.2)).mem_iff, List.map_cons]
      rw [tn] at hp
      rcases List.mem_append.mp hp with z | z
      · exact List.mem_cons_of_mem _ (g.all p z)
      · rw [List.mem_singleton.mp z]; exact List.mem_cons_self
end K07
/-! set(xs) of a list of pairs. -/
namespace K07
open PySem PySem.Spec PyProof.Rows L2
/-- a set as it is made -/
abbrev set0 (w : World) : Obj := { cls := .type "set", dict := none, data := .set #[] 0 (.fresh 0 0 (!w.params.followText "set-order")) }
section
variable {P : Program} {w : World} {A : Around} {E : Value → Shared → Prop} {s : Shared}
theorem setQ_fresh {hf : QI → Int} {h : Heap} {a : Addr} (ho : h.get? a = some (set0 w)) : SetQ w hf h a [] #[] 0 (.fresh 0 0 (!w.params.followText "set-order")) where
  ob := ⟨_, ho, ⟨rfl, rfl, rfl⟩, rfl⟩
  ents := rfl
  tab := ⟨List.Pairwise.nil, rfl, rfl, .inl rfl, fun x hx => (by cases hx), fun i h j hi => (by simp at hi)⟩
  nd := List.nodup_nil
  tup := fun p hp => (by cases hp)
  plain := rfl
  led := by
    show _ ∨ (!w.params.followText "set-order") = true
    cases w.params.followText "set-order"
    · exact .inr rfl
    · exact .inl rfl
  room := (by decide : 0 * 5 < 7 * 3)
  few := (by decide : 0 < 64)
/-- the set at S has the first i of ks, all else of h0 is as it was -/
def Fill (w : World) (h0 : Heap) (S : Addr) (ks : QL) (i : Nat) (h : Heap) : Prop := (∀ c u, h0.get? c = some u → h.get? c = some u) ∧ ∃ L es ep t, SetQ w (qh w) h S L es ep t ∧ GotQ ks i L
/-- elsewhere things may change -/
theorem Fill.move {h0 h h' : Heap} {S : Addr} {ks : QL} {i : Nat} (T : Fill w h0 S ks i h) (hk : ∀ p ∈ ks, IsQ h0 p.2 p.1) (k0 : ∀ c u, h0.get? c = some u → h'.get? c = some u) (kS : ∀ u, h.get? S = some u → h'.get? S = some u) : Fill w h0 S ks i h' := by
  obtain ⟨_, L, es, ep, t, R, g⟩ := T
  exact ⟨k0, L, es, ep, t, R.keep kS fun p hp => (hk p (List.mem_of_mem_take (g.sub p hp))).keep k0, g⟩
/-- the next one put in -/
theorem Fill.add {h0 : Heap} {S : Addr} {ks : QL} {i : Nat} {p : Addr × QI} {R : Bool → Shared → Prop} (T : Fill w h0 S ks i s.heap) (hk : ∀ p ∈ ks, IsQ h0 p.2 p.1) (hS : h0.get? S = none) (hp : ks[i]? = some p) (hfew : ks.length < 64) (hu : A.units + 8 < cLine)
    (k : ∀ b h' m, Heap.SameBut S s.heap h' → Fill w h0 S ks (i + 1) h' → R b { s with heap := h', toks := s.toks + m }) : wpAny (model P w) A (holding [Value.ref p.1] (setAdd S (.ref p.1))) R E s := by
  obtain ⟨k0, L, es, ep, t, Z, g⟩ := T
  have x : IsQ s.heap p.2 p.1 := (hk p (List.mem_of_getElem? hp)).keep k0
  have small : L.length + 1 < 64 := by
    have h1 := (List.getElem?_eq_some_iff.mp hp).1
    have h2 := g.len
    omega
  refine wpAny_holding ?_
  unfold setAdd
  -- the hash, with the tokens that it draws
  refine wpAny_holding (wpAny_bind ((nestedKind P w).pyHash hu ⟨x, pk_depth p.2⟩ ?_))
  have eh : (nestedKind P w).hash (pk p.2) = qh w p.2 := (qh_eq w p.2).symm
  rw [eh]
  exact put_in (s := { s with toks := s.toks + (nestedKind P w).draws (pk p.2) }) Z x hu small fun b h' L' es' ep' t' only Z' c1 c2 =>
    k b h' _ only ⟨fun c u e => (only.2 c (fun q => by rw [q, hS] at e; cases e)).trans (k0 c u e), L', es', ep', t', Z', g.next hp c1 c2⟩
/-- the loop that fills it -/
theorem fill_loop {I : Addr} {fp wr : List Addr} {G : Array GenState → Array GenState → Prop} {n : Nat} {Pv : Nat → Value → Prop} {St : Nat → Shared → Prop} {R : Result → Shared → Prop}
    (W : WalksS P w A.in1 I fp wr G n Pv St) {S : Addr} (offS : S ∉ fp) {ks : QL} (hn : ks.length = n) (hfew : n < 64) (each : ∀ i v, Pv i v → ∃ p, ks[i]? = some p ∧ v = .ref p.1)
    {h0 : Heap} (hk : ∀ p ∈ ks, IsQ h0 p.2 p.1) (newS : h0.get? S = none) (newI : ∀ c ∈ wr, h0.get? c = none) (hu : A.in1.units + 8 < cLine) :
    ∀ (left i : Nat) (s : Shared), i + left = n → St i s → Fill w h0 S ks i s.heap → (∀ s', Moved (S :: wr) G s s' → Fill w h0 S ks n s'.heap → R (.ok (.ret .none)) s') → codeAny (model P w) A (.builtin "set.update.loop" ⟨[.ref S, .ref I], []⟩) R s := by
  have aside : ∀ {s s' : Shared} {i : Nat}, Moved wr G s s' → Fill w h0 S ks i s.heap → Fill w h0 S ks i s'.heap := fun m T =>
    T.move hk (fun c u e => m.heap c u (fun q => by rw [newI c q] at e; cases e) (T.1 c u e)) fun u e => m.heap S u (fun q => offS (W.sub _ q)) e
  have wider : ∀ c ∈ wr, c ∈ S :: wr := fun _ q => .tail _ q
  intro left
  induction left with
  | zero =>
    intro i s hi st T done
    obtain rfl : i = n := hi
    refine codeAny_builtin F.entry_set_update_loop (Around.under_plainId F.plain_set_update_loop _ ▸ ?_)
    exact wpAny_bind (W.done s _ _ st fun s' m => wpAny_pure (done s' (m.mono wider) (aside m T)))
  | succ left ih =>
    intro i s hi st T done
    refine codeAny_builtin F.entry_set_update_loop (Around.under_plainId F.plain_set_update_loop _ ▸ ?_)
    refine wpAny_bind (W.item i s _ _ (by omega) st fun v s' it st' m => ?_)
    obtain ⟨p, hp, e⟩ := each i v it
    subst e
    refine wpAny_bind ((aside m T).add hk newS hp (by omega) hu fun b h' more only T' => wpAny_pure ⟨plainId_quiet F.plain_set_update_loop _, ?_⟩)
    refine ih (i + 1) _ (by omega) (W.frame _ s' h' _ st' (Nat.le_add_right _ more) fun c q u e => (only.2 c fun z => offS (z ▸ q)).trans e) T' fun s'' m'' T'' => done s'' ?_ T''
    exact Moved.trans W.gtrans ((m.mono wider).then_heap (Nat.le_add_right _ more) fun c u q e => (only.2 c fun z => q (z ▸ .head _)).trans e) m''
set_option maxHeartbeats 8000000 in
/-- set(xs) -/
theorem set_of_list {l : Addr} {items : Array Value} (ks : QL) {Q : Value → Shared → Prop} (hh : A.handled = none) (hl : s.heap.IsList l items) (hit : items.toList = ks.map fun p => Value.ref p.1)
    (hk : ∀ p ∈ ks, IsQ s.heap p.2 p.1) (hfew : ks.length < 64) (hu : A.units + 12 < cLine)
    (h : ∀ (h' : Heap) (tk : Nat) L es ep t, SetQ w (qh w) h' s.heap.objs.size L es ep t → GotQ ks ks.length L → (∀ b o, s.heap.get? b = some o → h'.get? b = some o) → Q (.ref s.heap.objs.size) { s with heap := h', toks := tk }) :
    wpAny (model P w) A (call (.type "set") [.ref l]) Q E s := by
  have count : ks.length = items.size := by rw [← Array.length_toList, hit, List.length_map]
  have each : ∀ (i : Nat) (v : Value), items[i]? = some v → ∃ p, ks[i]? = some p ∧ v = .ref p.1 := fun i v hv => by
    rw [← Array.getElem?_toList, hit, List.getElem?_map] at hv
    obtain ⟨p, e1, e2⟩ := Option.map_eq_some_iff.mp hv
    exact ⟨p, e1, e2.symm⟩
  have beyond : ∀ {c}, s.heap.objs.size ≤ c → s.heap.get? c = none := fun {c} q => by
    cases e : s.heap.get? c with
    | none => rfl
    | some u => exact absurd (Heap.lt_size e) (Nat.not_lt.mpr q)
  -- what the class looks up
  have k0 := F.called_set.made
  have k1 := F.called_set.sub
  have k2 := F.called_set.notType
  have k3 := F.called_set.canCreate
  have k4 := F.typeCall_set_1 (.ref l)
  obtain ⟨top, above, k5⟩ := F.called_set.mro
  refine wpAny_call (codeAny_of_tree (wpAny_pure ⟨Code.quiet_builtin _ (by decide +kernel), codeAny_builtin F.entry_type_call (Around.under_plain (weight_type_call_type "set" [.ref l] []) rfl ▸ ?_)⟩))
  repeat (any_goals (first | assumption | wp_step))
  refine codeAny_mono (code_set_led1 (.ref l) (E := E) (Q₁ := fun x s1 => x = .ref s.heap.objs.size ∧ s1 = { s with heap := s.heap.push (set0 w) }) ⟨rfl, rfl⟩) fun r1 s1 made => ?_
  cases r1 with
  | error e => exact made
  | ok fl1 =>
    cases fl1 with
    | ret x =>
      obtain ⟨ex, es1⟩ := made
      subst ex; subst es1
      have at0 : (s.heap.push (set0 w)).get? s.heap.objs.size = some (set0 w) := Heap.get?_push_size _ rfl
      have is0 : Shared.TypeIs { s with heap := s.heap.push (set0 w) } (.ref s.heap.objs.size) "set" := ⟨_, at0, rfl⟩
      have m1 := F.called_set.init.lookup
      have m2 := F.called_set.init.bind (.ref s.heap.objs.size)
      repeat (any_goals (first | assumption | wp_step))
      refine codeAny_mono (codeAny_call_builtin (R := wants (fun r s2 => r = .none ∧ ∃ h' tk, s2 = { s with heap := h', toks := tk } ∧ Fill w s.heap s.heap.objs.size ks ks.length h') E) F.called_set.init.plain F.entry_set_init (check_set_init_1 is0 ?_)) fun r2 s2 filled => ?_
      · -- set.__init__
        obtain ⟨⟨_, odict, _, oslots⟩, at1, e1, nl, e2⟩ := hl
        obtain rfl := (show _ = Value.type "list" from e1)
        obtain rfl := (show _ = Data.seq items nl from e2)
        have q1 := F.sub_list_set
        have q2 := F.sub_list_frozenset
        have q3 : (Value.type "list" == Value.type "dict") = false := by decide
        have at2 : (s.heap.push (set0 w)).get? l = some { cls := .type "list", dict := odict, data := .seq items nl, slots := oslots } := Heap.get?_push_of_some _ at1
        have is1 : (s.heap.push (set0 w)).IsList l items := ⟨_, at2, rfl, nl, rfl⟩
        unfold Builtin.«set.__init__» noKeywords Builtin.Frozenset.updateFrom
        generalize hIt : pyIter = It
        wp_walk
        subst hIt
        refine wpAny_pyIter_list is1 (wpAny_bind (wpAny_runValue ?_))
        have below : l < s.heap.objs.size := Heap.lt_size at1
        have quiet : A.in1.in1.in1.handled = none := by simp [hh]
        have size1 : (s.heap.push (set0 w)).objs.size = s.heap.objs.size + 1 := Heap.size_push ..
        have room : A.in1.in1.in1.units + 8 < cLine := by
          have e : A.in1.in1.in1.units ≤ A.units + 3 := by
            first
              | exact Nat.le_of_eq rfl
              | (simp [Around.in1]; omega)
          omega
        refine fill_loop (S := s.heap.objs.size) (ks := ks) (h0 := s.heap) ((Walks.list quiet _ l (Nat.ne_of_lt (size1 ▸ Nat.lt_succ_of_lt below)) items).toS) ?_ count (by omega) each hk (beyond (Nat.le_refl _)) (fun c q => beyond ?_) room items.size 0 _ (Nat.zero_add _) ⟨⟨_, Heap.get?_push_size _ rfl, rfl, rfl⟩, is1.push _⟩ ?_ ?_
        · intro z
          rcases List.mem_cons.mp z with z | z
          · exact Nat.ne_of_lt (Nat.lt_succ_self _) (z.trans size1)
          · exact Nat.ne_of_gt below (List.mem_singleton.mp z)
        · exact Nat.le_of_lt (List.mem_singleton.mp q ▸ size1 ▸ Nat.lt_succ_self _)
        · exact ⟨fun c u e => Heap.get?_push_of_some _ (Heap.get?_push_of_some _ e), [], #[], 0, _, setQ_fresh (Heap.get?_push_of_some _ at0), ⟨fun p z => (nomatch z), fun p z => (by simp at z), Nat.le_refl _⟩⟩
        · intro s3 m T
          have e1 := m.gens
          have e2 := m.drawn
          have e3 := m.os
          cases s3
          cases e1
          cases e2
          cases e3
          exact wpAny_pure (wpAny_pure ⟨rfl, _, _, rfl, count ▸ T⟩)
      · cases r2 with
        | error e => exact filled
        | ok fl2 =>
          cases fl2 with
          | ret v =>
            obtain ⟨ev, h', tk, es2, same, L, es, ep, t, R, g⟩ := filled
            subst ev; subst es2
            repeat (any_goals (first | assumption | wp_step))
            exact h h' tk L es ep t R g same
          | _ => exact filled.elim
    | _ => exact made.elim
end
end K07
/-! set(pairs), sorted(set), sorted(pairs) as calls. -/
namespace K07
open PySem PySem.Spec PyProof.Rows L2
def encQ (q : QI) : PyData := .tuple [.int q.1, .tuple (q.2.map .int)]
theorem encQ_depth (q : QI) : (encQ q).depth = 2 := by
  simp [encQ, PyData.depth, PyData.depthAll, PySem.W.depth_ints]
theorem ints_alike (l m : List Int) : PySem.W.alikeAll (l.map .int) (m.map .int) = true := PySem.W.alike_ints l m
theorem encQ_alike (q r : QI) : PySem.W.alike (encQ q) (encQ r) = true := by
  have := ints_alike q.2 r.2
  simp [encQ, PySem.W.alike, PySem.W.alikeAll, this]
theorem reads_ints {h : Heap} : ∀ {l : List Int} {vs : List Value}, NestedAll h (l.map .num) vs → (∀ v ∈ vs, ∃ i t, v = Value.int i t) → ∃ as, ReadsAll h vs (l.map .int) as
  | [], _, h, _ => by
    cases h
    exact ⟨_, .nil⟩
  | x :: l, _, h, hi => by
    cases h with
    | cons h1 h2 =>
      rename_i v vs
      obtain ⟨as, r⟩ := reads_ints h2 fun v hv => hi v (List.mem_cons_of_mem _ hv)
      obtain ⟨i, t, rfl⟩ := hi v List.mem_cons_self
      cases h1
      exact ⟨_, .cons (.int _ _) r⟩
theorem vals_nested {h : Heap} : ∀ {l : List Int} {us : List Value}, Vals (l.map V.int) us → NestedAll h (l.map .num) us
  | [], _, .nil => .nil
  | n :: k, _, .cons r t => by
    obtain ⟨tk, rfl⟩ := r
    exact .cons (.int _ _) (vals_nested t)
theorem none_ints {h : Heap} : ∀ (l : List Int) (vs : List Value) (as : List Addr), ReadsAll h vs (l.map .int) as → as = []
  | [], _, _, h => by cases h; rfl
  | x :: l, _, _, h => by
    cases h with
    | cons g1 g2 =>
      cases g1
      rw [none_ints l _ _ g2]
      rfl
theorem none_pair {h : Heap} {q : QI} : ∀ (vs : List Value) (as : List Addr), ReadsAll h vs [.int q.1, .tuple (q.2.map .int)] as → as = [] := by
  intro vs as r
  cases r with
  | cons a1 a2 =>
    cases a1
    cases a2 with
    | cons b1 b2 =>
      cases b2
      cases b1 with
      | tuple _ _ _ r2 =>
        rw [none_ints _ _ _ r2]
        rfl
theorem reads_none {h : Heap} {q : QI} {v : Value} {as : List Addr} (r : Reads h v (encQ q) as) : as = [] := by
  cases r with
  | tuple _ _ _ r => exact none_pair _ _ r
/-- the reading: the tuple at a is the pair q -/
def PairV (K : PySem.W.Frag) (H : Hp) (a : Addr) (q : QI) : Prop := ∃ b, SqT K H a [V.int q.1, V.ref b] ∧ SqT K H b (q.2.map V.int)
theorem dp_ints {K : PySem.W.Frag} {H : Hp} : ∀ l : List Int, DpAll K H (l.map V.int) (l.map .int)
  | [] => .nil
  | x :: l => .cons (.int x) (dp_ints l)
theorem PairV.dp {K : PySem.W.Frag} {H : Hp} {a : Addr} {q : QI} (h : PairV K H a q) : Dp K H (.ref a) (encQ q) := by
  obtain ⟨b, h1, h2⟩ := h
  exact .tup h1 (.cons (.int _) (.cons (.tup h2 (dp_ints _)) .nil))
section
variable {X : Cx} {pins : List (Addr × Obj)} {σ : L2.St} {H : Hp} {s : Shared}
theorem pair_is (I : Inv X pins σ H s) {a : Addr} {q : QI} (h : PairV X.K H a q) : IsQ s.heap q a := by
  obtain ⟨b, h1, h2⟩ := h
  obtain ⟨its, r, ⟨o, ho, hc, n, hd⟩, _⟩ := I.tuple h1
  obtain ⟨its2, r2, ⟨o2, ho2, hc2, n2, hd2⟩, _⟩ := I.tuple h2
  cases r with
  | cons r1 r =>
    cases r with
    | cons r3 r =>
      cases r
      obtain ⟨t, rfl⟩ := r1
      cases r3
      refine .tup ho hc hd ?_
      refine .cons (.int _ _) (.cons (.tup ho2 hc2 hd2 ?_) .nil)
      exact vals_nested (by simpa using r2)
theorem pair_reads (I : Inv X pins σ H s) {a : Addr} {q : QI} (h : PairV X.K H a q) : ∃ as, Reads s.heap (.ref a) (encQ q) as := Dp.reads I _ _ _ h.dp rfl
end
/-- by the first numbers, where these are unlike -/
theorem sort_first {β : Type} (f : β → QI) (bs : List β) (hd : ∀ x ∈ bs, ∀ y ∈ bs, (f x).1 = (f y).1 → x = y) (hn : bs.Nodup) :
    (bs.mergeSort (PySem.W.dataLe false fun b => encQ (f b))).Pairwise (fun x y => (f x).1 < (f y).1) := by
  have p1 := PySem.W.sort_pairwise (PySem.W.sortLe_total (PyProof.Rows.listOrd PyProof.Rows.itemOrd) false (fun b : β => PySem.W.keyToks (encQ (f b)))) bs
  have pm : (bs.mergeSort (PySem.W.dataLe false fun b => encQ (f b))).Perm bs := List.mergeSort_perm _ _
  have p2 : (bs.mergeSort (PySem.W.dataLe false fun b => encQ (f b))).Nodup := pm.nodup_iff.mpr hn
  refine (List.Pairwise.and p1 p2).imp_of_mem fun {x y} hx hy h => ?_
  obtain ⟨h1, h2⟩ := h
  have ne : (f y).1 ≠ (f x).1 := fun e => h2 (hd x (pm.mem_iff.mp hx) y (pm.mem_iff.mp hy) e.symm)
  have h3 : (!PySem.W.dataLt (encQ (f y)) (encQ (f x))) = true := h1
  unfold encQ at h3
  rw [PySem.W.dataLt_pair (by simp [PySem.W.alike]) (by simpa [PySem.W.alike] using ints_alike _ _), PySem.W.dataLt_int] at h3
  have e0 : PyData.eqv (.int (f y).1) (.int (f x).1) = false := by simpa [PyData.eqv] using ne
  rw [e0] at h3
  simp at h3
  omega
theorem each_ref : ∀ (L : QL), PySem.W.EachIs (fun v (p : Addr × QI) => v = Value.ref p.1) (L.map fun p => Value.ref p.1) L
  | [] => .nil
  | p :: L => .cons rfl (each_ref L)
theorem ref_each : ∀ {vs : List Value} {L : QL}, PySem.W.EachIs (fun v (p : Addr × QI) => v = Value.ref p.1) vs L → vs = L.map fun p => Value.ref p.1
  | _, _, .nil => rfl
  | _, _, .cons e t => by rw [e, ref_each t]; rfl
theorem refsQ_of : ∀ {ks : QL} {us : List Value}, Vals (ks.map fun p => V.ref p.1) us → us = ks.map fun p => Value.ref p.1
  | [], _, .nil => rfl
  | p :: ks, _, .cons r t => by
    cases r
    rw [refsQ_of t] <;> rfl
theorem valsQ_of : ∀ (ks : QL), Vals (ks.map fun p => V.ref p.1) (ks.map fun p => Value.ref p.1)
  | [] => .nil
  | p :: ks => .cons rfl (valsQ_of ks)
theorem each_reads {h : Heap} : ∀ {L : QL}, (∀ p ∈ L, ∃ as, Reads h (.ref p.1) (encQ p.2) as) → PySem.W.EachIs (fun v (p : Addr × QI) => ∃ as, Reads h v (encQ p.2) as) (L.map fun p => Value.ref p.1) L
  | [], _ => .nil
  | p :: L, hr => .cons (hr p List.mem_cons_self) (each_reads fun q hq => hr q (List.mem_cons_of_mem _ hq))
theorem nodup_of_snd : ∀ {L : QL}, (L.map (·.2)).Nodup → L.Nodup
  | [], _ => List.nodup_nil
  | p :: L, h => by
    rw [List.map_cons] at h
    obtain ⟨h1, h2⟩ := List.nodup_cons.mp h
    exact List.nodup_cons.mpr ⟨fun hp => h1 (List.mem_map.mpr ⟨p, hp, rfl⟩), nodup_of_snd h2⟩
theorem inj_of_snd {L : QL} (h : (L.map (·.2)).Nodup) : ∀ p ∈ L, ∀ q ∈ L, p.2 = q.2 → p = q := by
  induction L with
  | nil => intro p hp; cases hp
  | cons a L ih =>
    rw [List.map_cons] at h
    obtain ⟨h1, h2⟩ := List.nodup_cons.mp h
    intro p hp q hq e
    rcases List.mem_cons.mp hp with e1 | hp
    · rcases List.mem_cons.mp hq with e2 | hq
      · rw [e1, e2]
      · exact absurd (List.mem_map.mpr ⟨q, hq, (e1 ▸ e).symm⟩) h1
    · rcases List.mem_cons.mp hq with e2 | hq
      · exact absurd (List.mem_map.mpr ⟨p, hp, e2 ▸ e⟩) h1
      · exact ih h2 p hp q hq e
/-- the set at a, without the tuples themselves -/
structure SetQ0 (w : World) (h : Heap) (a : Addr) (L : QL) : Prop where
  ex : ∃ (es : Array (Int × Value)) (ep : Nat) (t : SetTable), (∃ o, h.get? a = some o ∧ o.ExactSet ∧ o.data = .set es ep t) ∧ es.toList = entsQ (qh w) L ∧ TabOk t (hsQ (qh w) L) ∧ (L.map (·.2)).Nodup ∧ t.plain = true ∧
    (w.params.followText "set-order" = true ∨ t.led = true) ∧ L.length * 5 < t.mask * 3 ∧ L.length < 64
def SetQO (w : World) (a : Addr) (L : QL) : HO := .ext fun h => SetQ0 w h a L
theorem SetQ.t0 {w : World} {h : Heap} {a : Addr} {L : QL} {es : Array (Int × Value)} {ep : Nat} {t : SetTable} (R : SetQ w (qh w) h a L es ep t) : SetQ0 w h a L := ⟨es, ep, t, R.ob, R.ents, R.tab, R.nd, R.plain, R.led, R.room, R.few⟩
theorem SetQ0.full {w : World} {h : Heap} {a : Addr} {L : QL} (R : SetQ0 w h a L) (ht : ∀ p ∈ L, IsQ h p.2 p.1) : ∃ es ep t, SetQ w (qh w) h a L es ep t := by
  obtain ⟨es, ep, t, h1, h2, h3, h4, h5, h6, h7, h8⟩ := R.ex
  exact ⟨es, ep, t, h1, h2, h3, h4, ht, h5, h6, h7, h8⟩
theorem setQO_new {P : Program} {w : World} {H : Hp} {h : Heap} {a : Addr} {L : QL} (R : SetQ0 w h a L) : ObjOk P w H h a (SetQO w a L) := by
  have ⟨es, ep, t, ⟨o, ho, r⟩, q⟩ := R.ex
  refine ⟨R, ⟨o, ho⟩, fun h1 h2 p k => ?_⟩
  have ⟨es', ep', t', ⟨o', ho', r'⟩, q'⟩ := SetQ0.ex p
  exact ⟨es', ep', t', ⟨o', k o' ho', r'⟩, q'⟩
section
variable {X : Cx}
def rSetQ (K : PySem.W.Frag) (w : World) : List V → Hp → VK → Prop := fun xs H Q => ∃ (l : Addr) (ks : QL), xs = [V.ref l] ∧ SqL K H l (ks.map fun p => V.ref p.1) ∧ (∀ p ∈ ks, PairV K H p.1 p.2) ∧ ks.length < 64 ∧
  ∀ a L, H a = none → (∀ p ∈ L, p ∈ ks) → (∀ p ∈ ks, p.2 ∈ L.map (·.2)) → (L.map (·.2)).Nodup → L.length < 64 → Q (.ref a) (upd H a (SetQO w a L))
theorem cr_setQ (hc : X.calm = true) (hu : X.A.units + 64 < cLine) : CallR X (.type "set") (rSetQ X.K X.w) := by
  intro pins s σ H xs us Q I r h
  obtain ⟨l, ks, rfl, hl, hk, hf, q⟩ := h
  rw [Vals.ref1 r]
  obtain ⟨its, rv, pl, hz⟩ := I.list hl
  have hn : H s.heap.objs.size = none := I.hok.fresh (Nat.le_refl _)
  refine set_of_list (w := X.w) ks (I.ok.hd hc) pl.isList (by simpa using refsQ_of rv) (fun p hp => pair_is I (hk p hp)) hf (by omega) fun h' tk L es ep t R g k => ?_
  refine ⟨.ref s.heap.objs.size, upd H s.heap.objs.size (SetQO X.w s.heap.objs.size L), I.laid (t' := tk) k (Nat.le_refl _) (setQO_new R.t0), rfl, q _ L hn (fun p hp => ?_) (fun p hp => ?_) R.nd R.few⟩
  · exact List.mem_of_mem_take (g.sub p hp)
  · exact g.all p (by rw [List.take_length]; exact hp)
end
section
variable {P : Program} {w : World} {A : Around} {E : Value → Shared → Prop} {s : Shared}
/-- values that are the references of some of L, in some order -/
theorem refs_back {L : QL} : ∀ {vs : List Value}, (∀ v ∈ vs, v ∈ L.map fun q => Value.ref q.1) → ∃ M : QL, M.map (fun q => Value.ref q.1) = vs ∧ M ⊆ L
  | [], _ => ⟨[], rfl, List.nil_subset _⟩
  | v :: vs, k => by
    obtain ⟨M, e, sub⟩ := refs_back (vs := vs) fun u hu => k u (.tail _ hu)
    obtain ⟨p, hp, e2⟩ := List.mem_map.mp (k v (.head _))
    exact ⟨p :: M, by rw [List.map_cons, e, e2], List.cons_subset.mpr ⟨hp, sub⟩⟩
/-- one address, one pair: the same references make the same pairs -/
theorem refs_same {L M : QL} (one : ∀ p ∈ L, ∀ q ∈ L, p.1 = q.1 → p = q) (nd : L.Nodup) (sub : M ⊆ L) (pm : (M.map fun q => Value.ref q.1).Perm (L.map fun q => Value.ref q.1)) : M.Perm L := by
  have ndL : (L.map fun q => Value.ref q.1).Nodup := List.pairwise_map.mpr (nd.imp_of_mem fun {p q} hp hq ne e => ne (one p hp q hq (Value.ref.inj e)))
  have ndM : M.Nodup := L2.nodup_of_map (pm.nodup_iff.mpr ndL)
  refine (List.perm_ext_iff_of_nodup ndM nd).mpr fun p => ⟨fun h => sub h, fun h => ?_⟩
  obtain ⟨q, hq, e⟩ := List.mem_map.mp (pm.mem_iff.mpr (List.mem_map.mpr ⟨p, h, rfl⟩))
  exact one q (sub hq) p h (Value.ref.inj e) ▸ hq
/-- sorted(set of pairs): the pairs by their first numbers, these being unlike -/
theorem sorted_setQ {a : Addr} {L : QL} {es : Array (Int × Value)} {ep : Nat} {t : SetTable} {Q : Value → Shared → Prop} (R : SetQ w (qh w) s.heap a L es ep t) (hr : ∀ p ∈ L, ∃ as, Reads s.heap (.ref p.1) (encQ p.2) as) (hh : A.handled = none) (hu : A.units + 16 < cLine)
    (hdis : ∀ p ∈ L, ∀ q ∈ L, p.2.1 = q.2.1 → p.2 = q.2)
    (hQ : ∀ s' p (c : Nat) (L' : QL), (∀ b o, s.heap.get? b = some o → s'.heap.get? b = some o) → s'.gens = s.gens → s'.os = s.os → s.heap.objs.size ≤ p →
      s'.heap.get? p = some (seqObj "list" (L'.map fun q => Value.ref q.1).toArray c) → L'.Perm L → L'.Pairwise (fun q r => q.2.1 < r.2.1) → Q (.ref p) s') :
    wpAny (model P w) A (call (.builtin "sorted") [.ref a]) Q E s := by
  obtain ⟨so, at0, exact0, data0⟩ := R.ob
  have few := R.few
  have nd := nodup_of_snd R.nd
  have one : ∀ p ∈ L, ∀ q ∈ L, p.1 = q.1 → p = q := fun p hp q hq e => Prod.ext e ((e ▸ R.tup p hp : IsQ s.heap p.2 q.1).inj (R.tup q hq))
  have held : es.toList.map (·.2) = L.map fun q => Value.ref q.1 := by rw [R.ents, entsQ, List.map_map]; rfl
  refine Calls.call_function_entry kind_sorted plain_sorted entry_sorted (args_sorted1 _) ?_
  unfold Builtin.«sorted»
  refine wpAny_bind (m := checkCount "sorted" 1 1 _) (wpAny_pure (wpAny_bind ?_))
  refine collect_set (A := A.in1) hh ⟨so, at0, exact0.1, data0⟩ R.fits (by have := ents_size R.ents; unfold scanBound; omega) R.tab.ris R.led fun s1 vs kept bound gens os pm => ?_
  rw [held] at pm
  obtain ⟨M, e, sub⟩ := refs_back (L := L) fun v hv => pm.mem_iff.mp hv
  subst e
  have same := refs_same one nd sub pm
  have fewM : M.length < 64 := same.length_eq ▸ few
  refine wpAny_bind (wpAny_newList ?_ (by rw [List.length_map, sizeLine_eq]; omega))
  have laid : (s1.heap.push (seqObj "list" (M.map fun q => Value.ref q.1).toArray 0)).get? s1.heap.objs.size = some (seqObj "list" (M.map fun q => Value.ref q.1).toArray 0) := Heap.get?_push_size _ rfl
  have read : ∀ M' : QL, M' ⊆ M → PySem.W.EachIs (fun v (p : Addr × QI) => ∃ as, Reads (s1.heap.push (seqObj "list" (M.map fun q => Value.ref q.1).toArray 0)) v (encQ p.2) as ∧ s1.heap.objs.size ∉ as) (M'.map fun q => Value.ref q.1) M' := by
    intro M'
    induction M' with
    | nil => exact fun _ => .nil
    | cons p M' ih =>
      intro h
      obtain ⟨as, r⟩ := hr p (sub (h (.head _)))
      obtain rfl := reads_none r
      exact .cons ⟨[], PyProof.Rows.Reads.keeps (fun c u q => Heap.get?_push_of_some _ (kept c u q)) r, by simp⟩ (ih fun q hq => h (.tail _ hq))
  have room : A.in1.units ≤ A.units + 1 := by
    first
      | exact Nat.le_of_eq rfl
      | (simp [Around.in1]; omega)
  refine wpAny_bind (wpAny_holding (PySem.W.list_sort_data (s := { s1 with heap := s1.heap.push (seqObj "list" (M.map fun q => Value.ref q.1).toArray 0) }) (bs := M) (enc := fun p => encQ p.2) (R := fun v (p : Addr × QI) => v = Value.ref p.1) laid (each_ref M) (read M fun _ h => h)
    (PySem.W.AllAlike.of fun _ _ => encQ_alike _ _) (PySem.W.Sortable.tuples fun _ => ⟨_, _, rfl⟩) (by rw [sizeLine_eq]; omega) (fun _ _ => by rw [encQ_depth]; omega) fun out _ got => ?_))
  obtain rfl := ref_each got
  obtain ⟨n, there⟩ := sortedHeap_at (vs := M.map fun q => Value.ref q.1) (out := ((M.mergeSort (PySem.W.dataLe false fun p => encQ p.2)).map fun p => Value.ref p.1).toArray) laid
  refine wpAny_pure ⟨_, rfl, hQ _ s1.heap.objs.size n _ (fun c u q => ?_) gens os bound there ((List.mergeSort_perm _ _).trans same) (sort_first (fun p : Addr × QI => p.2) M (fun p hp q hq e => ?_) (same.nodup_iff.mpr nd))⟩
  · have lt := Heap.lt_size (kept c u q)
    exact (sortedHeap_old (Nat.ne_of_lt lt) (size_push' .. ▸ Nat.lt_succ_of_lt lt)).trans (Heap.get?_push_of_some _ (kept c u q))
  · exact inj_of_snd R.nd p (sub hp) q (sub hq) (hdis p (sub hp) q (sub hq) e)
end
section
variable {X : Cx}
/-- sorted(set of pairs), the first numbers unlike -/
def rSortSQ (K : PySem.W.Frag) (w : World) : List V → Hp → VK → Prop := fun vs H Q => ∃ (a : Addr) (L : QL), vs = [V.ref a] ∧ H a = some (SetQO w a L) ∧ (∀ p ∈ L, PairV K H p.1 p.2) ∧ (∀ p ∈ L, ∀ q ∈ L, p.2.1 = q.2.1 → p.2 = q.2) ∧
  ∀ (L' : QL) (p : Addr), L'.Perm L → L'.Pairwise (fun q r => q.2.1 < r.2.1) → H p = none → Q (.ref p) (upd H p (.lst (L'.map fun q => V.ref q.1)))
theorem cr_sortSQ (hc : X.calm = true) (hu : X.A.units + 64 < cLine) : CallR X (.builtin "sorted") (rSortSQ X.K X.w) := by
  intro pins s σ H vs us Q I r h
  obtain ⟨a, L, rfl, ha, hk, hd, q⟩ := h
  have R0 : SetQ0 X.w s.heap a L := (I.hok a _ ha).1
  obtain ⟨es, ep, t, R⟩ := R0.full fun p hp => pair_is I (hk p hp)
  rw [Vals.ref1 r]
  refine sorted_setQ R (fun p hp => pair_reads I (hk p hp)) (I.ok.hd hc) (by omega) hd fun s' p c L' k g o hp hg pm pw => ?_
  have hfew : L'.length < 64 := by rw [pm.length_eq]; exact R.few
  have hlen : (L'.map fun q => V.ref q.1).length ≤ sizeLine := by rw [List.length_map, sizeLine_eq]; omega
  have hn : H p = none := I.hok.fresh hp
  have J : Inv X pins σ (upd H p (.lst (L'.map fun q => V.ref q.1))) { s with heap := s'.heap, gens := s'.gens, drawn := s'.drawn, toks := s'.toks } :=
    I.call (ch := []) (Un.laid k hp hn) (I.hok.laid k hp ⟨hlen, _, c, valsQ_of L', hg⟩) (by rw [g]; exact I.bare) (fun _ z => nomatch z)
  have e : s' = { s with heap := s'.heap, gens := s'.gens, drawn := s'.drawn, toks := s'.toks } := by
    cases s'
    cases s
    cases o
    rfl
  rw [e]
  exact ⟨.ref p, _, J, rfl, q L' p pm pw hn⟩
/-- sorted(list of pairs), the first numbers unlike -/
def rSortLQ (K : PySem.W.Frag) : List V → Hp → VK → Prop := fun vs H Q => ∃ (a : Addr) (L : QL), vs = [V.ref a] ∧ SqL K H a (L.map fun p => V.ref p.1) ∧ (∀ p ∈ L, PairV K H p.1 p.2) ∧ (L.map (·.2.1)).Nodup ∧
  ∀ (L' : QL) (p : Addr), L'.Perm L → L'.Pairwise (fun q r => q.2.1 < r.2.1) → H p = none → Q (.ref p) (upd H p (.lst (L'.map fun q => V.ref q.1)))
theorem nodup_first : ∀ {L : QL}, (L.map (·.2.1)).Nodup → L.Nodup ∧ ∀ p ∈ L, ∀ q ∈ L, p.2.1 = q.2.1 → p = q
  | [], _ => ⟨List.nodup_nil, fun p hp => (by cases hp)⟩
  | a :: L, h => by
    rw [List.map_cons] at h
    obtain ⟨h1, h2⟩ := List.nodup_cons.mp h
    obtain ⟨g1, g2⟩ := nodup_first h2
    refine ⟨List.nodup_cons.mpr ⟨fun hp => h1 (List.mem_map.mpr ⟨a, hp, rfl⟩), g1⟩, fun p hp q hq e => ?_⟩
    rcases List.mem_cons.mp hp with e1 | hp
    · rcases List.mem_cons.mp hq with e2 | hq
      · rw [e1, e2]
      · exact absurd (List.mem_map.mpr ⟨q, hq, (e1 ▸ e).symm⟩) h1
    · rcases List.mem_cons.mp hq with e2 | hq
      · exact absurd (List.mem_map.mpr ⟨p, hp, e2 ▸ e⟩) h1
      · exact g2 p hp q hq e
theorem cr_sortLQ (hu : X.A.units + 64 < cLine) : CallR X (.builtin "sorted") (rSortLQ X.K) := by
  intro pins s σ H vs us Q I r h
  obtain ⟨a, L, rfl, hs, hk, hd, q⟩ := h
  obtain ⟨its, rv, hl, hz⟩ := I.list hs
  rw [Vals.ref1 r]
  obtain rfl := refsQ_of rv
  obtain ⟨d1, d2⟩ := nodup_first hd
  refine PySem.W.sorted_data (bs := L) (enc := fun p => encQ p.2) (R := fun v (p : Addr × QI) => v = Value.ref p.1) hl.isList (each_ref L) (each_reads fun p hp => pair_reads I (hk p hp))
    (PySem.W.AllAlike.of fun b b' => encQ_alike _ _) (PySem.W.Sortable.tuples fun b => ⟨_, _, rfl⟩) (by simpa using hz) (fun b hb => by rw [encQ_depth]; omega) fun out ho hE => ?_
  have eo := ref_each hE
  obtain ⟨ep, he'⟩ := PyProof.Rows.sortedAll_at s.heap (L.map fun p => Value.ref p.1) out.toArray
  rw [eo] at he'
  have pm : (L.mergeSort (PySem.W.dataLe false fun p => encQ p.2)).Perm L := List.mergeSort_perm _ _
  refine ⟨.ref _, upd H (s.heap.objs.size + 1) (.lst ((L.mergeSort (PySem.W.dataLe false fun p => encQ p.2)).map fun q => V.ref q.1)), I.laid (t' := s.toks) (fun _ _ => PyProof.Rows.sortedAll_old) (Nat.le_succ _) ⟨by simpa [pm.length_eq] using hz, _, ep, valsQ_of _, ?_⟩, rfl,
    q _ _ pm (sort_first (fun p : Addr × QI => p.2) L d2 d1) (I.hok.fresh (Nat.le_succ _))⟩
  rw [eo]
  exact he'
end
end K07
/-! The levels, as plain functions: states, steps, what always holds of them. -/
namespace K07
set_option autoImplicit false
/-- a name: its level, how many cells it has read since it wrote, what it saw -/
structure Pr where
  low : Int
  r : Nat
  seen : List Nat
deriving Inhabited
/-- all names, and the looks of those that left, in the order in which they left -/
structure Ls where
  ps : List Pr
  lk : List (Nat × List Nat)
def z0 : Pr := ⟨0, 0, []⟩
def pAt (ps : List Pr) (j : Nat) : Pr := ps.getD j z0
def lo (ps : List Pr) (j : Nat) : Int := (pAt ps j).low
def keys (s : Ls) : List Nat := s.lk.map (·.1)
def p0 (n : Nat) : Pr := ⟨(n : Int) + 1, n, []⟩
def init (n : Nat) : Ls := ⟨List.replicate n (p0 n), []⟩
/-- what is seen behind the next read -/
def rd (ps : List Pr) (p : Pr) : List Nat := if lo ps p.r ≤ p.low then p.seen ++ [p.r] else p.seen
def nxt (n : Nat) (ps : List Pr) (p : Pr) : Pr := if p.r = n then ⟨p.low - 1, 0, []⟩ else ⟨p.low, p.r + 1, rd ps p⟩
def due (n : Nat) (ps : List Pr) (p : Pr) : Option (List Nat) := if p.r = n then none else if p.r + 1 = n ∧ p.low ≤ ((rd ps p).length : Int) then some (rd ps p) else none
def addL (lk : List (Nat × List Nat)) (i : Nat) : Option (List Nat) → List (Nat × List Nat)
  | none => lk
  | some l => lk ++ [(i, l)]
def stp (n : Nat) (s : Ls) (i : Nat) : Ls := ⟨s.ps.set i (nxt n s.ps (pAt s.ps i)), addL s.lk i (due n s.ps (pAt s.ps i))⟩
def go (n : Nat) (s : Ls) (i : Nat) : Ls := if i ∈ keys s then s else stp n s i
def runS (n : Nat) (sc : List Nat) : Ls := sc.foldl (go n) (init n)
def below (n : Nat) (ps : List Pr) (k : Int) : List Nat := (List.range n).filter fun j => decide (lo ps j ≤ k)
/-- steps taken -/
def tk (n : Nat) (p : Pr) : Int := ((n : Int) - p.low) * ((n : Int) + 1) + 1 + (p.r : Int)

theorem mem_below {n : Nat} {ps : List Pr} {k : Int} {j : Nat} : j ∈ below n ps k ↔ j < n ∧ lo ps j ≤ k := by
  simp [below]
theorem nodup_below (n : Nat) (ps : List Pr) (k : Int) : (below n ps k).Nodup := List.Pairwise.filter _ List.nodup_range
theorem asc_below (n : Nat) (ps : List Pr) (k : Int) : (below n ps k).Pairwise (· < ·) := List.Pairwise.filter _ List.pairwise_lt_range
theorem pAt_set {ps : List Pr} {i j : Nat} {x : Pr} (hi : i < ps.length) : pAt (ps.set i x) j = if j = i then x else pAt ps j := by
  unfold pAt
  simp only [List.getD_eq_getElem?_getD, List.getElem?_set]
  by_cases h : i = j
  · subst h; simp [hi]
  · have h' : ¬ j = i := fun e => h e.symm
    simp [h, h']
/-- two ascending lists of the same numbers are one -/
theorem asc_ext {l m : List Nat} (hl : l.Pairwise (· < ·)) (hm : m.Pairwise (· < ·)) (h : ∀ x, x ∈ l ↔ x ∈ m) : l = m := by
  have nl : l.Nodup := hl.imp fun h => Nat.ne_of_lt h
  have nm : m.Nodup := hm.imp fun h => Nat.ne_of_lt h
  exact List.Perm.eq_of_pairwise (fun a b _ _ h1 h2 => absurd h1 (Nat.lt_asymm h2)) hl hm ((List.perm_ext_iff_of_nodup nl nm).mpr h)
/-- an ascending list within another one, and not shorter -/
theorem asc_full {l m : List Nat} (hl : l.Pairwise (· < ·)) (hm : m.Pairwise (· < ·)) (h : l ⊆ m) (hn : m.length ≤ l.length) : l = m := by
  have nl : l.Nodup := hl.imp fun h => Nat.ne_of_lt h
  have nm : m.Nodup := hm.imp fun h => Nat.ne_of_lt h
  refine asc_ext hl hm fun x => ⟨fun hx => h hx, fun hx => ?_⟩
  refine Classical.byContradiction fun hc => ?_
  have n2 : (x :: l).Nodup := List.nodup_cons.mpr ⟨hc, nl⟩
  have s2 : (x :: l) ⊆ m := fun y hy => by
    rcases List.mem_cons.mp hy with e | hy
    · exact e ▸ hx
    · exact h hy
  have := n2.length_le_of_subset s2
  simp at this
  omega

structure Inv (n : Nat) (s : Ls) : Prop where
  n1 : 1 ≤ n
  len : s.ps.length = n
  lo1 : ∀ i, i < n → 1 ≤ lo s.ps i ∧ lo s.ps i ≤ (n : Int) + 1
  rle : ∀ i, i < n → (pAt s.ps i).r ≤ n
  top : ∀ i, i < n → lo s.ps i = (n : Int) + 1 → (pAt s.ps i).r = n
  sub : ∀ i, i < n → ∀ j, j ∈ (pAt s.ps i).seen → j < (pAt s.ps i).r ∧ lo s.ps j ≤ lo s.ps i
  asc : ∀ i, i < n → (pAt s.ps i).seen.Pairwise (· < ·)
  own : ∀ i, i < n → lo s.ps i ≤ (n : Int) → i < (pAt s.ps i).r → i ∈ (pAt s.ps i).seen
  nd : (keys s).Nodup
  lks : ∀ i l, (i, l) ∈ s.lk → i < n ∧ (pAt s.ps i).r = n ∧ (pAt s.ps i).seen = l ∧ lo s.ps i ≤ (l.length : Int) ∧ lo s.ps i ≤ (n : Int)
  opn : ∀ i, i < n → i ∉ keys s → (pAt s.ps i).r = n → ((pAt s.ps i).seen.length : Int) < lo s.ps i
  few : ∀ k : Nat, 1 ≤ k → k ≤ n → (below n s.ps k).length ≤ k ∧ ((below n s.ps k).length = k → ∃ w, w < n ∧ lo s.ps w = (k : Int) ∧ ∀ j, j < (pAt s.ps w).r → lo s.ps j ≤ (k : Int) → j ∈ (pAt s.ps w).seen)

theorem pAt_init {n i : Nat} (h : i < n) : pAt (init n).ps i = p0 n := by
  simp [pAt, init, List.getD_eq_getElem?_getD, h]
theorem inv_init {n : Nat} (h : 1 ≤ n) : Inv n (init n) where
  n1 := h
  len := by simp [init]
  lo1 := fun i hi => by unfold lo; rw [pAt_init hi]; show (1 : Int) ≤ (n : Int) + 1 ∧ (n : Int) + 1 ≤ (n : Int) + 1; omega
  rle := fun i hi => by rw [pAt_init hi]; exact Nat.le_refl n
  top := fun i hi _ => by rw [pAt_init hi]; rfl
  sub := fun i hi j hj => by rw [pAt_init hi] at hj; cases hj
  asc := fun i hi => by rw [pAt_init hi]; exact List.Pairwise.nil
  own := fun i hi hl _ => by
    unfold lo at hl; rw [pAt_init hi] at hl
    have : (n : Int) + 1 ≤ (n : Int) := hl
    omega
  nd := List.nodup_nil
  lks := fun i l h => by cases h
  opn := fun i hi _ _ => by unfold lo; rw [pAt_init hi]; show (0 : Int) < (n : Int) + 1; omega
  few := fun k h1 h2 => by
    have e : below n (init n).ps k = [] := by
      refine List.eq_nil_iff_forall_not_mem.mpr fun j hj => ?_
      obtain ⟨a, b⟩ := mem_below.mp hj
      unfold lo at b; rw [pAt_init a] at b
      have : (n : Int) + 1 ≤ (k : Int) := b
      omega
    rw [e]
    exact ⟨Nat.zero_le _, fun z => by simp at z; omega⟩

section
variable {n : Nat} {s : Ls} {i : Nat}
theorem low_two (I : Inv n s) (hi : i < n) (hg : i ∉ keys s) (hr : (pAt s.ps i).r = n) : 2 ≤ lo s.ps i := by
  have h1 := I.lo1 i hi
  have h2 := I.opn i hi hg hr
  refine Classical.byContradiction fun hc => ?_
  have e : lo s.ps i = 1 := by omega
  have h3 := I.own i hi (by have := I.n1; omega) (by rw [hr]; exact hi)
  have h4 := List.length_pos_of_mem h3
  omega
/-- who stands at a full level and has read all would have left -/
theorem not_full (I : Inv n s) (hi : i < n) (hg : i ∉ keys s) (hr : (pAt s.ps i).r = n) {k : Nat} (hk : lo s.ps i = (k : Int)) (hf : (below n s.ps k).length = k)
    (hw : ∀ j, j < (pAt s.ps i).r → lo s.ps j ≤ (k : Int) → j ∈ (pAt s.ps i).seen) : False := by
  have h2 := I.opn i hi hg hr
  have hs : below n s.ps k ⊆ (pAt s.ps i).seen := fun j hj => by
    obtain ⟨a, b⟩ := mem_below.mp hj
    exact hw j (by rw [hr]; exact a) b
  have := (nodup_below n s.ps k).length_le_of_subset hs
  omega
theorem inv_write (I : Inv n s) (hi : i < n) (hg : i ∉ keys s) (hr : (pAt s.ps i).r = n) : Inv n ⟨s.ps.set i ⟨lo s.ps i - 1, 0, []⟩, s.lk⟩ := by
  have hl := I.len
  have h2 := low_two I hi hg hr
  have P : ∀ j, pAt (s.ps.set i ⟨lo s.ps i - 1, 0, []⟩) j = if j = i then ⟨lo s.ps i - 1, 0, []⟩ else pAt s.ps j := fun j => pAt_set (by omega)
  have Pi : pAt (s.ps.set i ⟨lo s.ps i - 1, 0, []⟩) i = ⟨lo s.ps i - 1, 0, []⟩ := by rw [P, if_pos rfl]
  have Pn : ∀ {j}, j ≠ i → pAt (s.ps.set i ⟨lo s.ps i - 1, 0, []⟩) j = pAt s.ps j := fun h => by rw [P, if_neg h]
  have Li : lo (s.ps.set i ⟨lo s.ps i - 1, 0, []⟩) i = lo s.ps i - 1 := by
    show (pAt (s.ps.set i ⟨lo s.ps i - 1, 0, []⟩) i).low = _
    rw [Pi]
  have Ln : ∀ {j}, j ≠ i → lo (s.ps.set i ⟨lo s.ps i - 1, 0, []⟩) j = lo s.ps j := fun {j} h => by
    show (pAt (s.ps.set i ⟨lo s.ps i - 1, 0, []⟩) j).low = _
    rw [Pn h]; rfl
  have Lle : ∀ j, lo (s.ps.set i ⟨lo s.ps i - 1, 0, []⟩) j ≤ lo s.ps j := fun j => by
    by_cases h : j = i
    · subst h; rw [Li]; omega
    · rw [Ln h]; exact Int.le_refl _
  have key : ∀ j l, (j, l) ∈ s.lk → j ≠ i := fun j l h e => hg (e ▸ List.mem_map.mpr ⟨(j, l), h, rfl⟩)
  have b1 := I.lo1 i hi
  constructor
  · exact I.n1
  · simp [hl]
  · intro j hj
    by_cases h : j = i
    · subst h; rw [Li]; omega
    · rw [Ln h]; exact I.lo1 j hj
  · intro j hj
    by_cases h : j = i
    · subst h; rw [Pi]; exact Nat.zero_le _
    · rw [Pn h]; exact I.rle j hj
  · intro j hj ht
    by_cases h : j = i
    · subst h; rw [Li] at ht; omega
    · rw [Ln h] at ht; rw [Pn h]; exact I.top j hj ht
  · intro j hj x hx
    by_cases h : j = i
    · subst h; rw [Pi] at hx; cases hx
    · rw [Pn h] at hx ⊢
      obtain ⟨a, b⟩ := I.sub j hj x hx
      exact ⟨a, by rw [Ln h]; exact Int.le_trans (Lle x) b⟩
  · intro j hj
    by_cases h : j = i
    · subst h; rw [Pi]; exact List.Pairwise.nil
    · rw [Pn h]; exact I.asc j hj
  · intro j hj h1 h3
    by_cases h : j = i
    · subst h; rw [Pi] at h3; exact absurd h3 (Nat.not_lt_zero _)
    · rw [Ln h] at h1; rw [Pn h] at h3 ⊢; exact I.own j hj h1 h3
  · exact I.nd
  · intro j l hm
    have h := key j l hm
    obtain ⟨a, b, c, d, e⟩ := I.lks j l hm
    show j < n ∧ (pAt (s.ps.set i ⟨lo s.ps i - 1, 0, []⟩) j).r = n ∧ (pAt (s.ps.set i ⟨lo s.ps i - 1, 0, []⟩) j).seen = l ∧ lo (s.ps.set i ⟨lo s.ps i - 1, 0, []⟩) j ≤ _ ∧ lo (s.ps.set i ⟨lo s.ps i - 1, 0, []⟩) j ≤ _
    rw [Pn h, Ln h]
    exact ⟨a, b, c, d, e⟩
  · intro j hj hk h3
    by_cases h : j = i
    · subst h; rw [Pi] at h3; have : (0 : Nat) = n := h3; omega
    · rw [Pn h] at h3 ⊢; rw [Ln h]; exact I.opn j hj hk h3
  · intro k hk1 hk2
    obtain ⟨f1, f2⟩ := I.few k hk1 hk2
    by_cases hc : (k : Int) = lo s.ps i - 1
    · -- the level that is come to
      have lt : (below n s.ps k).length < k := by
        refine Classical.byContradiction fun hcc => ?_
        have e : (below n s.ps k).length = k := by omega
        have ni : i ∉ below n s.ps k := fun h => by have := (mem_below.mp h).2; omega
        have nn : (i :: below n s.ps k).Nodup := List.nodup_cons.mpr ⟨ni, nodup_below _ _ _⟩
        by_cases hkn : k = n
        · have sb : (i :: below n s.ps k) ⊆ List.range n := fun x hx => by
            rcases List.mem_cons.mp hx with e | hx
            · subst e; exact List.mem_range.mpr hi
            · exact List.mem_range.mpr (mem_below.mp hx).1
          have := nn.length_le_of_subset sb
          simp at this
          omega
        · obtain ⟨g1, g2⟩ := I.few (k + 1) (by omega) (by omega)
          have sb : (i :: below n s.ps k) ⊆ below n s.ps ((k + 1 : Nat) : Int) := fun x hx => by
            rcases List.mem_cons.mp hx with e | hx
            · subst e; exact mem_below.mpr ⟨hi, by omega⟩
            · have := mem_below.mp hx
              exact mem_below.mpr ⟨this.1, by omega⟩
          have hle := nn.length_le_of_subset sb
          simp only [List.length_cons] at hle
          have e1 : (below n s.ps ((k + 1 : Nat) : Int)).length = k + 1 := by omega
          obtain ⟨w, w1, w2, w3⟩ := g2 e1
          have ew : w = i := by
            refine Classical.byContradiction fun hne => ?_
            have nw : w ∉ (i :: below n s.ps k) := fun h => by
              rcases List.mem_cons.mp h with e | h
              · exact hne e
              · have := (mem_below.mp h).2; omega
            have n3 : (w :: i :: below n s.ps k).Nodup := List.nodup_cons.mpr ⟨nw, nn⟩
            have s3 : (w :: i :: below n s.ps k) ⊆ below n s.ps ((k + 1 : Nat) : Int) := fun x hx => by
              rcases List.mem_cons.mp hx with e | hx
              · subst e; exact mem_below.mpr ⟨w1, by omega⟩
              · exact sb hx
            have := n3.length_le_of_subset s3
            simp only [List.length_cons] at this
            omega
          subst ew
          exact not_full I hi hg hr w2 e1 w3
      have sb : below n (s.ps.set i ⟨lo s.ps i - 1, 0, []⟩) k ⊆ i :: below n s.ps k := fun x hx => by
        obtain ⟨a, b⟩ := mem_below.mp hx
        by_cases h : x = i
        · subst h; exact List.mem_cons_self
        · rw [Ln h] at b; exact List.mem_cons_of_mem _ (mem_below.mpr ⟨a, b⟩)
      have hle := (nodup_below n (s.ps.set i ⟨lo s.ps i - 1, 0, []⟩) k).length_le_of_subset sb
      simp only [List.length_cons] at hle
      refine ⟨by show (below n (s.ps.set i ⟨lo s.ps i - 1, 0, []⟩) k).length ≤ k; omega, fun _ => ⟨i, hi, by show lo (s.ps.set i ⟨lo s.ps i - 1, 0, []⟩) i = _; rw [Li]; omega, fun j hj _ => ?_⟩⟩
      have hj' : j < (pAt (s.ps.set i ⟨lo s.ps i - 1, 0, []⟩) i).r := hj
      rw [Pi] at hj'
      exact absurd hj' (Nat.not_lt_zero _)
    · have eb : below n (s.ps.set i ⟨lo s.ps i - 1, 0, []⟩) k = below n s.ps k := by
        refine asc_ext (asc_below _ _ _) (asc_below _ _ _) fun x => ?_
        rw [mem_below, mem_below]
        by_cases h : x = i
        · subst h; rw [Li]; constructor <;> (intro ⟨a, b⟩; exact ⟨a, by omega⟩)
        · rw [Ln h]
      show (below n (s.ps.set i ⟨lo s.ps i - 1, 0, []⟩) k).length ≤ k ∧ ((below n (s.ps.set i ⟨lo s.ps i - 1, 0, []⟩) k).length = k → ∃ w, w < n ∧ lo (s.ps.set i ⟨lo s.ps i - 1, 0, []⟩) w = (k : Int) ∧ ∀ j, j < (pAt (s.ps.set i ⟨lo s.ps i - 1, 0, []⟩) w).r → lo (s.ps.set i ⟨lo s.ps i - 1, 0, []⟩) j ≤ (k : Int) → j ∈ (pAt (s.ps.set i ⟨lo s.ps i - 1, 0, []⟩) w).seen)
      rw [eb]
      refine ⟨f1, fun e => ?_⟩
      obtain ⟨w, w1, w2, w3⟩ := f2 e
      have nw : w ≠ i := fun h => by
        subst h
        exact not_full I hi hg hr w2 e w3
      refine ⟨w, w1, by rw [Ln nw]; exact w2, fun j hj hjl => ?_⟩
      rw [Pn nw] at hj ⊢
      refine w3 j hj ?_
      by_cases h : j = i
      · subst h; rw [Li] at hjl; omega
      · rw [Ln h] at hjl; exact hjl
theorem inv_read (I : Inv n s) (hi : i < n) (hg : i ∉ keys s) (hr : ¬ (pAt s.ps i).r = n) :
    Inv n ⟨s.ps.set i ⟨lo s.ps i, (pAt s.ps i).r + 1, rd s.ps (pAt s.ps i)⟩, addL s.lk i (if (pAt s.ps i).r + 1 = n ∧ lo s.ps i ≤ ((rd s.ps (pAt s.ps i)).length : Int) then some (rd s.ps (pAt s.ps i)) else none)⟩ := by
  have hl := I.len
  have hrn : (pAt s.ps i).r < n := Nat.lt_of_le_of_ne (I.rle i hi) hr
  have lon : lo s.ps i ≤ (n : Int) := by
    have h1 := (I.lo1 i hi).2
    refine Classical.byContradiction fun hc => hr (I.top i hi (by omega))
  generalize hx : (⟨lo s.ps i, (pAt s.ps i).r + 1, rd s.ps (pAt s.ps i)⟩ : Pr) = x
  have x1 : x.low = lo s.ps i := by rw [← hx]
  have x2 : x.r = (pAt s.ps i).r + 1 := by rw [← hx]
  have x3 : x.seen = rd s.ps (pAt s.ps i) := by rw [← hx]
  have P : ∀ j, pAt (s.ps.set i x) j = if j = i then x else pAt s.ps j := fun j => pAt_set (by omega)
  have Pi : pAt (s.ps.set i x) i = x := by rw [P, if_pos rfl]
  have Pn : ∀ {j}, j ≠ i → pAt (s.ps.set i x) j = pAt s.ps j := fun h => by rw [P, if_neg h]
  have L : ∀ j, lo (s.ps.set i x) j = lo s.ps j := fun j => by
    show (pAt (s.ps.set i x) j).low = _
    by_cases h : j = i
    · subst h; rw [Pi, x1]
    · rw [Pn h]; rfl
  have eb : ∀ k, below n (s.ps.set i x) k = below n s.ps k := fun k => by unfold below; simp only [L]
  have key : ∀ j l, (j, l) ∈ s.lk → j ≠ i := fun j l h e => hg (e ▸ List.mem_map.mpr ⟨(j, l), h, rfl⟩)
  have mrd : ∀ j, j ∈ rd s.ps (pAt s.ps i) ↔ j ∈ (pAt s.ps i).seen ∨ (j = (pAt s.ps i).r ∧ lo s.ps j ≤ lo s.ps i) := fun j => by
    unfold rd
    show j ∈ (if lo s.ps (pAt s.ps i).r ≤ lo s.ps i then _ else _) ↔ _
    by_cases h : lo s.ps (pAt s.ps i).r ≤ lo s.ps i
    · rw [if_pos h]
      constructor
      · intro hm
        rcases List.mem_append.mp hm with h1 | h1
        · exact .inl h1
        · have := List.mem_singleton.mp h1; subst this; exact .inr ⟨rfl, h⟩
      · rintro (h1 | ⟨h1, _⟩)
        · exact List.mem_append_left _ h1
        · exact List.mem_append_right _ (List.mem_singleton.mpr h1)
    · rw [if_neg h]
      constructor
      · exact .inl
      · rintro (h1 | ⟨h1, h2⟩)
        · exact h1
        · subst h1; exact absurd h2 h
  have hk : ∀ {o : Option (List Nat)} (_ : o = none ∨ o = some (rd s.ps (pAt s.ps i))) (ps : List Pr), (keys ⟨ps, addL s.lk i o⟩).Nodup ∧ ∀ j, j ≠ i → (j ∈ keys ⟨ps, addL s.lk i o⟩ ↔ j ∈ keys s) := fun {o} ho ps => by
    rcases ho with e | e
    · subst e; exact ⟨I.nd, fun j _ => Iff.rfl⟩
    · subst e
      have ek : keys ⟨ps, addL s.lk i (some (rd s.ps (pAt s.ps i)))⟩ = keys s ++ [i] := by simp [keys, addL]
      rw [ek]
      refine ⟨?_, fun j hj => ?_⟩
      · rw [List.nodup_append]
        refine ⟨I.nd, List.nodup_cons.mpr ⟨by simp, List.nodup_nil⟩, fun a ha b hb e => ?_⟩
        have := List.mem_singleton.mp hb
        subst this; subst e; exact hg ha
      · constructor
        · intro hm
          rcases List.mem_append.mp hm with h1 | h1
          · exact h1
          · exact absurd (List.mem_singleton.mp h1) hj
        · exact fun h => List.mem_append_left _ h
  generalize hd : (if (pAt s.ps i).r + 1 = n ∧ lo s.ps i ≤ ((rd s.ps (pAt s.ps i)).length : Int) then some (rd s.ps (pAt s.ps i)) else none) = o
  have ho : o = none ∨ o = some (rd s.ps (pAt s.ps i)) := by
    rw [← hd]; split
    · exact .inr rfl
    · exact .inl rfl
  obtain ⟨k1, k2⟩ := hk ho (s.ps.set i x)
  constructor
  · exact I.n1
  · simp [hl]
  · intro j hj; rw [L]; exact I.lo1 j hj
  · intro j hj
    by_cases h : j = i
    · subst h; rw [Pi, x2]; omega
    · rw [Pn h]; exact I.rle j hj
  · intro j hj ht
    rw [L] at ht
    by_cases h : j = i
    · subst h; omega
    · rw [Pn h]; exact I.top j hj ht
  · intro j hj y hy
    rw [L, L]
    by_cases h : j = i
    · subst h
      rw [Pi] at hy ⊢
      rw [x3] at hy
      rw [x2]
      rcases (mrd y).mp hy with h1 | ⟨h1, h2⟩
      · obtain ⟨a, b⟩ := I.sub j hj y h1; exact ⟨by omega, b⟩
      · exact ⟨by omega, h2⟩
    · rw [Pn h] at hy ⊢; exact I.sub j hj y hy
  · intro j hj
    by_cases h : j = i
    · subst h
      rw [Pi, x3]
      unfold rd
      split
      · rw [List.pairwise_append]
        refine ⟨I.asc j hj, List.pairwise_cons.mpr ⟨by simp, List.Pairwise.nil⟩, fun a ha b hb => ?_⟩
        have := List.mem_singleton.mp hb
        subst this
        exact (I.sub j hj a ha).1
      · exact I.asc j hj
    · rw [Pn h]; exact I.asc j hj
  · intro j hj h1 h3
    rw [L] at h1
    by_cases h : j = i
    · subst h
      rw [Pi, x2] at h3
      rw [Pi, x3]
      refine (mrd j).mpr ?_
      rcases Nat.lt_or_ge j (pAt s.ps j).r with h4 | h4
      · exact .inl (I.own j hj h1 h4)
      · exact .inr ⟨by omega, Int.le_refl _⟩
    · rw [Pn h] at h3 ⊢; exact I.own j hj h1 h3
  · exact k1
  · intro j l hm
    show j < n ∧ (pAt (s.ps.set i x) j).r = n ∧ (pAt (s.ps.set i x) j).seen = l ∧ lo (s.ps.set i x) j ≤ _ ∧ lo (s.ps.set i x) j ≤ _
    rw [L]
    have old : (j, l) ∈ s.lk → j < n ∧ (pAt (s.ps.set i x) j).r = n ∧ (pAt (s.ps.set i x) j).seen = l ∧ lo s.ps j ≤ (l.length : Int) ∧ lo s.ps j ≤ (n : Int) := fun h => by
      rw [Pn (key j l h)]
      exact I.lks j l h
    have hm' : (j, l) ∈ addL s.lk i o := hm
    rcases ho with e | e
    · rw [e] at hm'; exact old hm'
    · rw [e] at hm'
      rcases List.mem_append.mp hm' with h | h
      · exact old h
      · have e2 := List.mem_singleton.mp h
        injection e2 with e3 e4
        subst e3; subst e4
        rw [e] at hd
        have hc : (pAt s.ps j).r + 1 = n ∧ lo s.ps j ≤ ((rd s.ps (pAt s.ps j)).length : Int) := by
          refine Classical.byContradiction fun hc => ?_
          rw [if_neg hc] at hd
          cases hd
        rw [Pi, x2, x3]
        exact ⟨hi, hc.1, rfl, hc.2, lon⟩
  · intro j hj hkk h3
    rw [L]
    by_cases h : j = i
    · subst h
      rw [Pi, x2] at h3
      rw [Pi, x3]
      refine Classical.byContradiction fun hc => ?_
      rw [if_pos ⟨h3, by omega⟩] at hd
      subst hd
      exact hkk (by simp [keys, addL])
    · rw [Pn h] at h3 ⊢
      exact I.opn j hj (fun q => hkk ((k2 j h).mpr q)) h3
  · intro k hk1 hk2
    show (below n (s.ps.set i x) k).length ≤ k ∧ ((below n (s.ps.set i x) k).length = k → ∃ w, w < n ∧ lo (s.ps.set i x) w = (k : Int) ∧ ∀ j, j < (pAt (s.ps.set i x) w).r → lo (s.ps.set i x) j ≤ (k : Int) → j ∈ (pAt (s.ps.set i x) w).seen)
    rw [eb]
    obtain ⟨f1, f2⟩ := I.few k hk1 hk2
    refine ⟨f1, fun e => ?_⟩
    obtain ⟨w, w1, w2, w3⟩ := f2 e
    refine ⟨w, w1, by rw [L]; exact w2, fun j hj hjl => ?_⟩
    rw [L] at hjl
    by_cases h : w = i
    · subst h
      rw [Pi, x2] at hj
      rw [Pi, x3]
      refine (mrd j).mpr ?_
      rcases Nat.lt_or_ge j (pAt s.ps w).r with h4 | h4
      · exact .inl (w3 j h4 hjl)
      · exact .inr ⟨by omega, by omega⟩
    · rw [Pn h] at hj ⊢; exact w3 j hj hjl
theorem inv_stp (I : Inv n s) (hi : i < n) (hg : i ∉ keys s) : Inv n (stp n s i) := by
  by_cases hr : (pAt s.ps i).r = n
  · have h := inv_write I hi hg hr
    unfold stp nxt due
    rw [if_pos hr, if_pos hr]
    exact h
  · have h := inv_read I hi hg hr
    unfold stp nxt due
    rw [if_neg hr, if_neg hr]
    exact h
end
end K07
/-! Levels: what an object looks like between two calls; __init__. -/
namespace K07
open PySem PySem.Spec PyProof.Rows L2
/-- numbers as values -/
abbrev natV (l : List Nat) : List V := l.map fun (j : Nat) => V.int (j : Int)
abbrev lowsV (ps : List Pr) : List V := ps.map fun p => V.int p.low
abbrev tksV (n : Nat) (ps : List Pr) : List V := ps.map fun p => V.int (tk n p)
/-- a dict's pairs: names, tuples -/
def dictV (lk : List (Nat × List Nat)) (la : List Addr) : List (Key × V) := (lk.zip la).map fun q => (Sum.inl (q.1.1 : Int), V.ref q.2)
/-- where an object's parts stand -/
structure LA where
  p : Addr
  dx : Addr
  c : Addr
  l : Addr
  t : Addr
  sn : Addr
  d : Addr
  sa : List Addr
  la : List Addr
def flds (n : Nat) (A : LA) : List (Str × V) := [("_size", .int n), ("_cells", .ref A.c), ("_low", .ref A.l), ("_taken", .ref A.t), ("_seen", .ref A.sn), ("_looks", .ref A.d)]
theorem flds_size (n : Nat) (A : LA) : (flds n A).lookup ("_size" : Str) = some (.int n) := by rfl
theorem flds_cells (n : Nat) (A : LA) : (flds n A).lookup ("_cells" : Str) = some (.ref A.c) := by rfl
theorem flds_low (n : Nat) (A : LA) : (flds n A).lookup ("_low" : Str) = some (.ref A.l) := by rfl
theorem flds_taken (n : Nat) (A : LA) : (flds n A).lookup ("_taken" : Str) = some (.ref A.t) := by rfl
theorem flds_seen (n : Nat) (A : LA) : (flds n A).lookup ("_seen" : Str) = some (.ref A.sn) := by rfl
theorem flds_looks (n : Nat) (A : LA) : (flds n A).lookup ("_looks" : Str) = some (.ref A.d) := by rfl
theorem flds_known (n : Nat) (A : LA) : (flds n A).lookup ("_known" : Str) = none := by rfl
/-- the lists and the dict that its methods change -/
def LA.mut (A : LA) : List Addr := A.c :: A.l :: A.t :: A.sn :: A.d :: A.sa
structure LevAt (C : Addr) (n : Nat) (H : Hp) (A : LA) (s : Ls) : Prop where
  ob : H A.p = some (.ins C A.dx (flds n A))
  hc : H A.c = some (.lst (lowsV s.ps))
  hl : H A.l = some (.lst (lowsV s.ps))
  ht : H A.t = some (.lst (tksV n s.ps))
  hs : H A.sn = some (.lst (A.sa.map V.ref))
  sal : A.sa.length = n
  hsa : ∀ i a, A.sa[i]? = some a → H a = some (.lst (natV (pAt s.ps i).seen))
  hd : H A.d = some (.dK (dictV s.lk A.la))
  lal : A.la.length = s.lk.length
  hla : ∀ (j i : Nat) l a, s.lk[j]? = some (i, l) → A.la[j]? = some a → H a = some (.tup (natV l))
  nd : (A.c :: A.l :: A.t :: A.sn :: A.sa).Nodup
/-- a comprehension over range(n) that makes nothing but its list -/
theorem lc_rangeP {n : Nat} {g : TG} {tt : TT} {te : TE} {vs : List Nat} {σ : L2.St} {H1 : Hp} {D : Addr} {Qd : Hp → Prop} (ex : Nat → List V) (h0 : ex 0 = [])
    (hs : ∀ i, i < n → ∀ Nx : Hp → Prop, Nx (upd H1 D (.lst (ex (i + 1)))) → g (.int ((0 : Int) + i)) (wipe σ vs) (upd H1 D (.lst (ex i))) fun σ2 H2 => wipe σ2 vs = wipe σ vs ∧ tt σ2 H2 fun b H3 =>
      if b = true then te σ2 H3 fun y H4 => ∃ acc, H4 D = some (.lst acc) ∧ acc.length < sizeLine ∧ Nx (upd H4 D (.lst (acc ++ [y]))) else Nx H3) (hd : Qd (upd H1 D (.lst (ex n)))) :
    ∃ W : Nat → Nat → Hp → Prop, (∃ m, W 0 m (upd H1 D (.lst []))) ∧ ∀ i m H, W i m H →
      ((Itr 0 n).stop i H ∧ Qd H) ∨ ((Itr 0 n).go i H ∧ ∃ Nx : Hp → Prop, (∀ H', Nx H' → ∃ m', m' < m ∧ W (i + 1) m' H') ∧ ∀ x H', (Itr 0 n).yld i H x H' → g x (wipe σ vs) H' fun σ2 H2 => wipe σ2 vs = wipe σ vs ∧ tt σ2 H2 fun b H3 =>
        if b = true then te σ2 H3 fun y H4 => ∃ acc, H4 D = some (.lst acc) ∧ acc.length < sizeLine ∧ Nx (upd H4 D (.lst (acc ++ [y]))) else Nx H3) :=
  lc_range (lo := 0) (n := n) (fun i H => H = upd H1 D (.lst (ex i))) (by rw [h0]) (fun i H hi e => by subst e; exact hs i hi _ rfl) fun H e => by subst e; exact hd
theorem uk {H : Hp} {a b : Addr} {o u : HO} (h : b ≠ a) (e : H b = some o) : upd H a u b = some o := by rw [upd_ne h]; exact e
/-- all but p is as it was -/
def Grow (p : Addr) (H H' : Hp) : Prop := ∀ b o, H b = some o → b ≠ p → H' b = some o
theorem Grow.refl (p : Addr) (H : Hp) : Grow p H H := fun _ _ e _ => e
theorem Grow.atp {p : Addr} {H H' : Hp} {o : HO} (g : Grow p H H') : Grow p H (upd H' p o) := fun b u e h => uk h (g b u e h)
theorem Grow.new {p a : Addr} {H H' : Hp} {o : HO} (g : Grow p H H') (h : H' a = none) : Grow p H (upd H' a o) := fun b u e hb => uk (ne_of_none (g b u e hb) h) (g b u e hb)
theorem Grow.free {p a : Addr} {H H' : Hp} (g : Grow p H H') (hp : a ≠ p) (h : H' a = none) : H a = none := by
  cases z : H a with
  | none => rfl
  | some o => rw [g a o z hp] at h; cases h
theorem Grow.trans {p : Addr} {H H1 H2 : Hp} (g : Grow p H H1) (k : Grow p H1 H2) : Grow p H H2 := fun b o e h => k b o (g b o e h) h
theorem yesI {A B : Hp → Prop} {σ : L2.St} {H : Hp} (h : A H) : tYes σ H fun b H3 => if b = true then A H3 else B H3 := h
theorem lcK {Nx : Hp → Prop} {H1 : Hp} {D : Addr} {ex : Nat → List V} {i : Nat} {y : V} (e : ex (i + 1) = ex i ++ [y]) (h : Nx (upd H1 D (.lst (ex (i + 1))))) : Nx (upd (upd H1 D (.lst (ex i))) D (.lst (ex i ++ [y]))) := by
  rw [upd_upd, ← e]
  exact h
theorem rep_next {α : Type} (i : Nat) (v : α) : List.replicate (i + 1) v = List.replicate i v ++ [v] := List.replicate_succ'
theorem small {n m : Nat} (h : n ≤ m) (hm : m ≤ 1000 := by omega) : n < sizeLine := small1000 (Nat.le_trans h hm)
/-- Levels.__init__(self, v) -/
def spInit (C CB : Addr) : Sp := fun vs H Q E => ∃ (p dx : Addr) (v : V), vs = [.ref p, v] ∧ H p = some (.ins C dx []) ∧ Flat v ∧
  (goodL v = false → ∀ d, H d = none → E (.ref CB) (some d) (errD H d "word" (.str "size"))) ∧
  (∀ n : Nat, v = .int n → 1 ≤ n → n ≤ 6 → ∀ H' A, A.p = p → LevAt C n H' A (init n) → (∀ b o, H b = some o → b ≠ p → H' b = some o) → (∀ a ∈ A.mut, H a = none) → Q .non H')
/-- what the walk asks of the class -/
structure LevTxt (K : PySem.W.Frag) (C : Addr) : Prop where
  cl : Cls K C
  n1 : NoAttr K C "_size"
  n2 : NoAttr K C "_cells"
  n3 : NoAttr K C "_low"
  n4 : NoAttr K C "_taken"
  n5 : NoAttr K C "_seen"
  n6 : NoAttr K C "_looks"
section
variable {w : World} {K : PySem.W.Frag} {mg : Str → Option Value} {base : Heap}
theorem scInit : FnScope ["self", "size", "_"] ["self", "size"] (defScope sInit) := ⟨rfl, rfl, rfl, by decide +kernel, rfl, by decide +kernel, by decide +kernel⟩
theorem ok_init {f fC C CB : Addr} {fd fdC : FuncData} (F : Fun K "__init__" "Levels.__init__" sInit f fd) (FC : Fun K "check_levels" "check_levels" sChkLev fC fdC) (gC : mg "check_levels" = some (.ref fC)) (bC : Binds K fdC ["size"] [])
    (GC : FnOk PR w K mg base (L2.CX PR w) 3 fC fdC ["size"] (spChkLev CB)) (T : Blt mg) (TC : LevTxt K C) :
    FnOk PR w K mg base (L2.CX PR w) 4 f fd ["self", "size"] (spInit C CB) := by
  refine F.okX scInit (fun vs H Q E h => ?_) (fun cdv A outer s H vs Q E hr h => ?_)
  · obtain ⟨p, dx, v, rfl, _⟩ := h
    rfl
  · obtain ⟨p, dx, v, rfl, hp, hv, kE, k⟩ := h
    refine ⟨_, pss_cons (ps_expr (pe_call GC hr rfl gC FC.kp bC .nil (passes_call (W := fun cls d _ H => E cls d H) (takes_of rfl rfl rfl rfl) fun _ _ _ _ h => h) (pa_cons (pv 1) pa_nil)))
      (pss_cons (ps_fld (pv 0) (pv 1) rfl)
      (pss_cons (ps_fld (pv 0) (pe_lc (own := [("_", 2)]) (g := gName 2) (tt := tYes) rfl scInit.nd (pi_range1 (by rfl) T.range (pa_cons (pv 1) pa_nil)) (blkOk_by (own := [("_", 2)]) (N := ["self", "size", "_"]) (sc := defScope sInit) (by decide +kernel)) (fun _ _ _ _ _ => pg_name (i := 2) scInit.nd rfl (Or.inl rfl)) (fun _ _ _ _ _ => pts_nil) (fun _ _ _ _ _ => pe_op op_add (pv 1) pe_int)) rfl)
      (pss_cons (ps_fld (pv 0) (pe_lc (own := [("_", 2)]) (g := gName 2) (tt := tYes) rfl scInit.nd (pi_range1 (by rfl) T.range (pa_cons (pv 1) pa_nil)) (blkOk_by (own := [("_", 2)]) (N := ["self", "size", "_"]) (sc := defScope sInit) (by decide +kernel)) (fun _ _ _ _ _ => pg_name (i := 2) scInit.nd rfl (Or.inl rfl)) (fun _ _ _ _ _ => pts_nil) (fun _ _ _ _ _ => pe_op op_add (pv 1) pe_int)) rfl)
      (pss_cons (ps_fld (pv 0) (pe_lc (own := [("_", 2)]) (g := gName 2) (tt := tYes) rfl scInit.nd (pi_range1 (by rfl) T.range (pa_cons (pv 1) pa_nil)) (blkOk_by (own := [("_", 2)]) (N := ["self", "size", "_"]) (sc := defScope sInit) (by decide +kernel)) (fun _ _ _ _ _ => pg_name (i := 2) scInit.nd rfl (Or.inl rfl)) (fun _ _ _ _ _ => pts_nil) (fun _ _ _ _ _ => pe_int)) rfl)
      (pss_cons (ps_fld (pv 0) (pe_lc (own := [("_", 2)]) (g := gName 2) (tt := tYes) rfl scInit.nd (pi_range1 (by rfl) T.range (pa_cons (pv 1) pa_nil)) (blkOk_by (own := [("_", 2)]) (N := ["self", "size", "_"]) (sc := defScope sInit) (by decide +kernel)) (fun _ _ _ _ _ => pg_name (i := 2) scInit.nd rfl (Or.inl rfl)) (fun _ _ _ _ _ => pts_nil) (fun _ _ _ _ _ => pe_lst pa_nil)) rfl)
      (pss_one (ps_fld (pv 0) pe_dnewK rfl))))))), ?_⟩
    refine ⟨_, rfl, v, rfl, hv, fun hg => ?_, fun hg => kE hg⟩
    obtain ⟨n, rfl, h1, h6⟩ : ∃ n : Nat, v = .int n ∧ 1 ≤ n ∧ n ≤ 6 := by
      cases hv with
      | int i =>
        have h1 : 1 ≤ i ∧ i ≤ 6 := of_decide_eq_true hg
        refine ⟨i.toNat, congrArg V.int (by omega), by omega, by omega⟩
      | non => exact absurd hg (by simp [goodL])
      | bl b => exact absurd hg (by simp [goodL])
      | str y => exact absurd hg (by simp [goodL])
    have hk := k n rfl h1 h6
    clear k kE hg
    have hb : -(2 ^ 62) ≤ (n : Int) ∧ (n : Int) < 2 ^ 62 := by omega
    have hL : ∀ i : Nat, i < n → i < sizeLine := fun i hi => small (m := 6) (by omega)
    -- self._size
    refine ⟨_, rfl, _, rfl, p, C, dx, [], rfl, hp, TC.cl, TC.n1, (by show 0 < 1000; decide), ?_⟩
    generalize hH1 : upd H p _ = H1
    have p1 : H1 p = some (.ins C dx [(("_size" : Str), V.int n)]) := by rw [← hH1]; exact upd_same
    have G1 : Grow p H H1 := by rw [← hH1]; exact (Grow.refl p H).atp
    clear hH1
    -- self._cells
    refine ⟨_, rfl, n, rfl, hb.1, hb.2, fun c hc => lc_rangeP (n := n) (fun i => List.replicate i (.int ((n : Int) + 1))) rfl (fun i hi Nx hN => ⟨rfl, yesI ⟨_, rfl, _, _, rfl, rfl, _, upd_same, (by rw [List.length_replicate]; exact hL i hi), lcK (ex := fun i => List.replicate i (.int ((n : Int) + 1))) (rep_next i _) hN⟩⟩) ?_⟩
    have npc : c ≠ p := (ne_of_none p1 hc).symm
    refine ⟨_, rfl, p, C, dx, _, rfl, uk npc.symm p1, TC.cl, TC.n2, (by show 1 < 1000; decide), ?_⟩
    generalize hH2 : upd (upd H1 c _) p _ = H2
    have p2 : H2 p = some (.ins C dx [(("_size" : Str), V.int n), (("_cells" : Str), V.ref c)]) := by rw [← hH2]; exact upd_same
    have G2 : Grow p H1 H2 := by rw [← hH2]; exact ((Grow.refl p H1).new hc).atp
    have c2 : H2 c = some (.lst (List.replicate n (.int ((n : Int) + 1)))) := by rw [← hH2]; exact uk npc upd_same
    clear hH2
    -- self._low
    refine ⟨_, rfl, n, rfl, hb.1, hb.2, fun l hl => lc_rangeP (n := n) (fun i => List.replicate i (.int ((n : Int) + 1))) rfl (fun i hi Nx hN => ⟨rfl, yesI ⟨_, rfl, _, _, rfl, rfl, _, upd_same, (by rw [List.length_replicate]; exact hL i hi), lcK (ex := fun i => List.replicate i (.int ((n : Int) + 1))) (rep_next i _) hN⟩⟩) ?_⟩
    have npl : l ≠ p := (ne_of_none p2 hl).symm
    refine ⟨_, rfl, p, C, dx, _, rfl, uk npl.symm p2, TC.cl, TC.n3, (by show 2 < 1000; decide), ?_⟩
    generalize hH3 : upd (upd H2 l _) p _ = H3
    have p3 : H3 p = some (.ins C dx [(("_size" : Str), V.int n), (("_cells" : Str), V.ref c), (("_low" : Str), V.ref l)]) := by rw [← hH3]; exact upd_same
    have G3 : Grow p H2 H3 := by rw [← hH3]; exact ((Grow.refl p H2).new hl).atp
    have l3 : H3 l = some (.lst (List.replicate n (.int ((n : Int) + 1)))) := by rw [← hH3]; exact uk npl upd_same
    clear hH3
    -- self._taken
    refine ⟨_, rfl, n, rfl, hb.1, hb.2, fun t ht => lc_rangeP (n := n) (fun i => List.replicate i (.int 0)) rfl (fun i hi Nx hN => ⟨rfl, yesI ⟨_, upd_same, (by rw [List.length_replicate]; exact hL i hi), lcK (ex := fun i => List.replicate i (.int 0)) (rep_next i _) hN⟩⟩) ?_⟩
    have npt : t ≠ p := (ne_of_none p3 ht).symm
    refine ⟨_, rfl, p, C, dx, _, rfl, uk npt.symm p3, TC.cl, TC.n4, (by show 3 < 1000; decide), ?_⟩
    generalize hH4 : upd (upd H3 t _) p _ = H4
    have p4 : H4 p = some (.ins C dx [(("_size" : Str), V.int n), (("_cells" : Str), V.ref c), (("_low" : Str), V.ref l), (("_taken" : Str), V.ref t)]) := by rw [← hH4]; exact upd_same
    have G4 : Grow p H3 H4 := by rw [← hH4]; exact ((Grow.refl p H3).new ht).atp
    have t4 : H4 t = some (.lst (List.replicate n (.int 0))) := by rw [← hH4]; exact uk npt upd_same
    clear hH4
    -- self._seen
    refine ⟨_, rfl, n, rfl, hb.1, hb.2, fun sn hsn => lc_range (lo := 0) (n := n) (fun i H' => ∃ as : List Addr, as.length = i ∧ H' sn = some (.lst (as.map V.ref)) ∧ (∀ a ∈ as, H' a = some (.lst []) ∧ H4 a = none ∧ a ≠ sn) ∧ as.Nodup ∧ Same H4 H')
      ⟨[], rfl, upd_same, fun a h => (by cases h), List.nodup_nil, same_upd hsn⟩ ?_ ?_⟩
    · rintro i H' hi ⟨as, hl, h1, h2, h3, h4⟩
      refine ⟨rfl, yesI ⟨by show 0 ≤ sizeLine; decide, fun q hq => ?_⟩⟩
      have nq : sn ≠ q := ne_of_none h1 hq
      refine ⟨_, uk nq h1, by rw [List.length_map, hl]; exact hL i hi, as ++ [q], by simp [hl], by rw [upd_same, List.map_append]; rfl, fun a ha => ?_, ?_, fun b o e => ?_⟩
      · rcases List.mem_append.mp ha with ha | ha
        · obtain ⟨a1, a2, a3⟩ := h2 a ha
          have naq : a ≠ q := ne_of_none a1 hq
          exact ⟨uk a3 (uk naq a1), a2, a3⟩
        · have e := List.mem_singleton.mp ha
          subst e
          exact ⟨uk nq.symm upd_same, h4.free hq, nq.symm⟩
      · rw [List.nodup_append]
        refine ⟨h3, List.nodup_cons.mpr ⟨by simp, List.nodup_nil⟩, fun a ha b hb e => ?_⟩
        have e2 := List.mem_singleton.mp hb
        subst e2; subst e
        exact absurd (h2 a ha).1 (by rw [hq]; exact fun z => nomatch z)
      · have e1 := h4 b o e
        have nb : b ≠ q := ne_of_none e1 hq
        exact uk (ne_of_none e hsn) (uk nb e1)
    · rintro H5 ⟨as, hl8, h1, h2, h3, h4⟩
      have nps : sn ≠ p := (ne_of_none p4 hsn).symm
      refine ⟨_, rfl, p, C, dx, _, rfl, h4 _ _ p4, TC.cl, TC.n5, (by show 4 < 1000; decide), ?_⟩
      generalize hH6 : upd H5 p _ = H6
      have p6 : H6 p = some (.ins C dx [(("_size" : Str), V.int n), (("_cells" : Str), V.ref c), (("_low" : Str), V.ref l), (("_taken" : Str), V.ref t), (("_seen" : Str), V.ref sn)]) := by rw [← hH6]; exact upd_same
      have G6 : Grow p H5 H6 := by rw [← hH6]; exact (Grow.refl p H5).atp
      clear hH6
      -- self._looks
      intro d hd
      have npd : d ≠ p := (ne_of_none p6 hd).symm
      refine ⟨_, rfl, p, C, dx, _, rfl, uk npd.symm p6, TC.cl, TC.n6, (by show 5 < 1000; decide), ?_⟩
      generalize hH7 : upd (upd H6 d _) p _ = H7
      have p7 : H7 p = some (.ins C dx (flds n ⟨p, dx, c, l, t, sn, d, as, []⟩)) := by rw [← hH7]; exact upd_same
      have G7 : Grow p H6 H7 := by rw [← hH7]; exact ((Grow.refl p H6).new hd).atp
      have d7 : H7 d = some (.dK []) := by rw [← hH7]; exact uk npd upd_same
      clear hH7
      have G47 : Grow p H4 H7 := ((show Grow p H4 H5 from fun b o e hb => h4 b o e).trans G6).trans G7
      have as_ne : ∀ a ∈ as, a ≠ p := fun a ha e => by
        have := (h2 a ha).2.1
        rw [e, p4] at this; cases this
      have c4 := G4 c _ (G3 c _ c2 npc) npc
      have l4 := G4 l _ l3 npl
      have H04 : Grow p H H4 := ((G1.trans G2).trans G3).trans G4
      refine hk _ ⟨p, dx, c, l, t, sn, d, as, []⟩ rfl ⟨p7, ?_, ?_, ?_, ?_, hl8, fun i a ha => ?_, d7, rfl, fun j i l a h _ => by simp [init] at h, ?_⟩ ((H04.trans G47)) ?_
      · have e : lowsV (init n).ps = List.replicate n (.int ((n : Int) + 1)) := by simp [lowsV, init, p0]
        rw [e]; exact G47 c _ c4 npc
      · have e : lowsV (init n).ps = List.replicate n (.int ((n : Int) + 1)) := by simp [lowsV, init, p0]
        rw [e]; exact G47 l _ l4 npl
      · have e : tksV n (init n).ps = List.replicate n (.int 0) := by
          have z : tk n (p0 n) = 0 := by simp only [tk, p0]; rw [show (n : Int) - ((n : Int) + 1) = -1 by omega, Int.neg_mul, Int.one_mul]; omega
          simp [tksV, init, z]
        rw [e]; exact G47 t _ t4 npt
      · exact G7 sn _ (G6 sn _ h1 nps) nps
      · have hin := List.mem_of_getElem? ha
        have hi : i < n := by rw [← hl8]; exact (List.getElem?_eq_some_iff.mp ha).1
        rw [pAt_init hi]
        exact G7 a _ (G6 a _ (h2 a hin).1 (as_ne a hin)) (as_ne a hin)
      · have f : ∀ {x y : Addr} {o : HO}, H4 x = some o → H4 y = none → x ≠ y := fun h h' => ne_of_none h h'
        refine List.nodup_cons.mpr ⟨?_, List.nodup_cons.mpr ⟨?_, List.nodup_cons.mpr ⟨?_, List.nodup_cons.mpr ⟨?_, h3⟩⟩⟩⟩
        · simp only [List.mem_cons, not_or]
          exact ⟨ne_of_none c2 hl, ne_of_none (G3 c _ c2 npc) ht, f c4 hsn, fun ha => f c4 (h2 c ha).2.1 rfl⟩
        · simp only [List.mem_cons, not_or]
          exact ⟨ne_of_none l3 ht, f l4 hsn, fun ha => f l4 (h2 l ha).2.1 rfl⟩
        · simp only [List.mem_cons, not_or]
          exact ⟨f t4 hsn, fun ha => f t4 (h2 t ha).2.1 rfl⟩
        · exact fun ha => (h2 sn ha).2.2 rfl
      · intro a ha
        have s1 : a = c ∨ a = l ∨ a = t ∨ a = sn ∨ a = d ∨ a ∈ as := by simpa [LA.mut] using ha
        rcases s1 with e | e | e | e | e | e
        · subst e; exact G1.free npc hc
        · subst e; exact (G1.trans G2).free npl hl
        · subst e; exact ((G1.trans G2).trans G3).free npt ht
        · subst e; exact H04.free nps hsn
        · subst e; exact ((H04.trans (show Grow p H4 H5 from fun b o e hb => h4 b o e)).trans G6).free npd hd
        · exact H04.free (as_ne a e) (h2 a e).2.1
end
end K07
/-! Levels' methods: level, taken, wrote, gone, step. -/
namespace K07
open PySem PySem.Spec PyProof.Rows L2
/-! ### words that the layer lacks -/
/-- xs[j] as the old value of xs[j] op= e -/
def rGetL (K : PySem.W.Frag) : V → V → Hp → VK → Prop := fun x y H Q => ∃ p xs j v, x = .ref p ∧ y = .int (j : Nat) ∧ SqL K H p xs ∧ xs[j]? = some v ∧ Q v H
theorem get_list {X : Cx} : PGet X (rGetL X.K) := by
  intro pins s σ H o i ov iv Q I ro ri h
  obtain ⟨p, xs, j, v, rfl, rfl, hq, hv, q⟩ := h
  cases ro
  obtain ⟨t, rfl⟩ := ri
  obtain ⟨its, r, pl, hz⟩ := I.list hq
  obtain ⟨u, eu, ru⟩ := r.get hv
  have hj : j < xs.length := (List.getElem?_eq_some_iff.mp hv).1
  have hn := line63
  refine wpAny_getItem_list pl.isList (by omega) (by omega) (x := u) (by simpa using eu) ⟨v, H, I, ru, q⟩
theorem ixN_nat {n j : Nat} (h : j < n) : ixN n (j : Int) = some j := by
  unfold ixN
  rw [if_pos (by omega), if_pos (by omega)]; simp
/-! ### a dict of looks -/
theorem dictV_len {lk : List (Nat × List Nat)} {la : List Addr} (h : la.length = lk.length) : (dictV lk la).length = lk.length := by
  simp [dictV, h]
theorem dictV_none : ∀ {lk : List (Nat × List Nat)} {la : List Addr} {i : Nat}, i ∉ lk.map (·.1) → valV (dictV lk la) (Sum.inl (i : Int)) = none := by
  intro lk la i h
  unfold valV
  rw [List.find?_eq_none.mpr]
  · rfl
  · intro q hq
    obtain ⟨z, hz, rfl⟩ := List.mem_map.mp hq
    obtain ⟨h1, _⟩ := List.of_mem_zip hz
    simp only [decide_eq_true_eq]
    intro e
    have e2 : (z.1.1 : Int) = (i : Int) := Sum.inl.inj e
    exact h (List.mem_map.mpr ⟨z.1, h1, by omega⟩)
theorem dictV_get : ∀ {lk : List (Nat × List Nat)} {la : List Addr} {i j : Nat} {l : List Nat} {a : Addr}, (lk.map (·.1)).Nodup → lk[j]? = some (i, l) → la[j]? = some a → valV (dictV lk la) (Sum.inl (i : Int)) = some (.ref a)
  | [], la, i, j, l, a, _, h, _ => by simp at h
  | x :: lk, [], i, j, l, a, _, _, h => by simp at h
  | x :: lk, b :: la, i, 0, l, a, _, h, h' => by
    simp only [List.getElem?_cons_zero, Option.some.injEq] at h h'
    subst h; subst h'
    simp [valV, dictV]
  | x :: lk, b :: la, i, j + 1, l, a, hn, h, h' => by
    simp only [List.getElem?_cons_succ] at h h'
    rw [List.map_cons, List.nodup_cons] at hn
    have ih := dictV_get hn.2 h h'
    have hne : ¬ (x.1 = i) := fun e => hn.1 (by rw [e]; exact List.mem_map.mpr ⟨(i, l), List.mem_of_getElem? h, rfl⟩)
    unfold valV dictV at ih ⊢
    rw [List.zip_cons_cons, List.map_cons, List.find?_cons_of_neg]
    · exact ih
    · simp only [decide_eq_true_eq]
      intro e
      have e2 : (x.1 : Int) = (i : Int) := Sum.inl.inj e
      exact hne (by omega)
/-- is it there -/
theorem dictV_has {lk : List (Nat × List Nat)} {la : List Addr} (hn : (lk.map (·.1)).Nodup) (hl : la.length = lk.length) (i : Nat) : (valV (dictV lk la) (Sum.inl (i : Int))).isSome = decide (i ∈ lk.map (·.1)) := by
  by_cases h : i ∈ lk.map (·.1)
  · obtain ⟨p, hp, e⟩ := List.mem_map.mp h
    obtain ⟨j, hj⟩ := List.mem_iff_getElem?.mp hp
    have hjl : j < la.length := by rw [hl]; exact (List.getElem?_eq_some_iff.mp hj).1
    rw [dictV_get (l := p.2) (a := la[j]) hn (by rw [hj, ← e]) (List.getElem?_eq_getElem hjl), decide_eq_true h]
    rfl
  · rw [dictV_none h, decide_eq_false h]
    rfl
theorem dictV_put {lk : List (Nat × List Nat)} {la : List Addr} {i : Nat} {l : List Nat} {a : Addr} (hl : la.length = lk.length) (h : i ∉ lk.map (·.1)) : putK (dictV lk la) (Sum.inl (i : Int)) (.ref a) = dictV (lk ++ [(i, l)]) (la ++ [a]) := by
  rw [putK_new _ (dictV_none h)]
  unfold dictV
  rw [List.zip_append hl.symm]
  simp
/-! ### level, taken -/
def wroteL (n : Nat) (s : Ls) : List Nat := (List.range n).filter fun i => decide (0 < tk n (pAt s.ps i))
def goneL (n : Nat) (s : Ls) : List Nat := (List.range n).filter fun i => decide (i ∈ keys s)
/-- a reader of one name: what it tells -/
def spRead (C CN : Addr) (val : Nat → Ls → Nat → Int) : Sp := fun vs H Q E => ∃ (B : LA) (n : Nat) (s : Ls) (v : V), vs = [.ref B.p, v] ∧ LevAt C n H B s ∧ s.ps.length = n ∧ Flat v ∧
  (∀ i : Nat, v = .int i → i < n → Q (.int (val n s i)) H) ∧ (nameOk n v = false → ∀ d, H d = none → E (.ref CN) (some d) (errD H d "name" v))
def valLow : Nat → Ls → Nat → Int := fun _ s i => lo s.ps i
def valTk : Nat → Ls → Nat → Int := fun n s i => tk n (pAt s.ps i)
theorem nameOk_nat {n : Nat} {v : V} (h : nameOk n v = true) : ∃ i : Nat, v = .int i ∧ i < n := by
  cases v with
  | int i =>
    have h1 : 0 ≤ i ∧ i < (n : Int) := of_decide_eq_true h
    exact ⟨i.toNat, congrArg V.int (by omega), by omega⟩
  | _ => cases h
theorem nameOk_lt {n i : Nat} (h : i < n) : nameOk n (.int i) = true := decide_eq_true ⟨by omega, by omega⟩
theorem pAt_get {ps : List Pr} {i : Nat} (h : i < ps.length) : ps[i]? = some (pAt ps i) := by
  unfold pAt
  rw [List.getD_eq_getElem?_getD, List.getElem?_eq_getElem h]
  rfl
theorem lowsV_get {ps : List Pr} {i : Nat} (h : i < ps.length) : (lowsV ps)[i]? = some (.int (lo ps i)) := by
  unfold lowsV
  rw [List.getElem?_map, pAt_get h]
  rfl
theorem tksV_get {n : Nat} {ps : List Pr} {i : Nat} (h : i < ps.length) : (tksV n ps)[i]? = some (.int (tk n (pAt ps i))) := by
  unfold tksV
  rw [List.getElem?_map, pAt_get h]
  rfl
/-- what a method asks of the class beside LevTxt: _known -/
structure KnTxt (w : World) (K : PySem.W.Frag) (mg : Str → Option Value) (base : Heap) (C CN fK : Addr) (fdK : FuncData) : Prop where
  m : Meth K C "_known" fK
  b : Binds K fdK ["self", "name"] []
  G : FnOk PR w K mg base (L2.CX PR w) 2 fK fdK ["self", "name"] (spKnown C CN)
section
variable {w : World} {K : PySem.W.Frag} {mg : Str → Option Value} {base : Heap}
theorem scLevel : FnScope ["self", "name"] ["self", "name"] (defScope sLevel) := ⟨rfl, rfl, rfl, by decide +kernel, rfl, by decide +kernel, by decide +kernel⟩
theorem ok_level {f C CN fK : Addr} {fd fdK : FuncData} (F : Fun K "level" "Levels.level" sLevel f fd) (TK : KnTxt w K mg base C CN fK fdK) (TC : LevTxt K C) :
    FnOk PR w K mg base (L2.CX PR w) 3 f fd ["self", "name"] (spRead C CN valLow) := by
  refine F.okX scLevel (fun vs H Q E h => ?_) (fun cdv A outer s H vs Q E hr h => ?_)
  · obtain ⟨B, n, s, v, rfl, _⟩ := h
    rfl
  · obtain ⟨B, n, st, v, rfl, L, hn, hv, k, kE⟩ := h
    refine ⟨_, pss_cons (ps_expr (pe_meth (pv 0) TC.cl TK.m TK.G hr TK.b .nil (passes_call (W := fun cls d _ H => E cls d H) (takes_of rfl rfl rfl rfl) fun _ _ _ _ h => h) (pa_cons (pv 1) pa_nil)))
      (pss_one (ps_ret (pe_ix ix_list (pe_fld (pv 0) rfl) (pv 1) (fun _ _ => rfl)))), ?_⟩
    refine ⟨_, rfl, B.p, B.dx, _, rfl, L.ob, flds_known n B, _, rfl, B.p, B.dx, _, n, v, rfl, L.ob, flds_size n B, hv, fun hg => ?_, kE⟩
    obtain ⟨i, rfl, hi⟩ := nameOk_nat hg
    exact ⟨_, rfl, B.p, C, B.dx, _, _, rfl, L.ob, TC.cl, TC.n3, flds_low n B, _, rfl, B.l, _, _, _, rfl, rfl, SqL.of L.hl, atI_nat (lowsV_get (by omega)), k i rfl hi⟩
theorem scTaken : FnScope ["self", "name"] ["self", "name"] (defScope sTaken) := ⟨rfl, rfl, rfl, by decide +kernel, rfl, by decide +kernel, by decide +kernel⟩
theorem ok_taken {f C CN fK : Addr} {fd fdK : FuncData} (F : Fun K "taken" "Levels.taken" sTaken f fd) (TK : KnTxt w K mg base C CN fK fdK) (TC : LevTxt K C) :
    FnOk PR w K mg base (L2.CX PR w) 3 f fd ["self", "name"] (spRead C CN valTk) := by
  refine F.okX scTaken (fun vs H Q E h => ?_) (fun cdv A outer s H vs Q E hr h => ?_)
  · obtain ⟨B, n, s, v, rfl, _⟩ := h
    rfl
  · obtain ⟨B, n, st, v, rfl, L, hn, hv, k, kE⟩ := h
    refine ⟨_, pss_cons (ps_expr (pe_meth (pv 0) TC.cl TK.m TK.G hr TK.b .nil (passes_call (W := fun cls d _ H => E cls d H) (takes_of rfl rfl rfl rfl) fun _ _ _ _ h => h) (pa_cons (pv 1) pa_nil)))
      (pss_one (ps_ret (pe_ix ix_list (pe_fld (pv 0) rfl) (pv 1) (fun _ _ => rfl)))), ?_⟩
    refine ⟨_, rfl, B.p, B.dx, _, rfl, L.ob, flds_known n B, _, rfl, B.p, B.dx, _, n, v, rfl, L.ob, flds_size n B, hv, fun hg => ?_, kE⟩
    obtain ⟨i, rfl, hi⟩ := nameOk_nat hg
    exact ⟨_, rfl, B.p, C, B.dx, _, _, rfl, L.ob, TC.cl, TC.n4, flds_taken n B, _, rfl, B.t, _, _, _, rfl, rfl, SqL.of L.ht, atI_nat (tksV_get (by omega)), k i rfl hi⟩
/-! ### wrote, gone -/
theorem filt_next {P : Nat → Bool} {i : Nat} : natV ((List.range (i + 1)).filter P) = if P i = true then natV ((List.range i).filter P) ++ [V.int (i : Int)] else natV ((List.range i).filter P) := by
  rw [List.range_succ, List.filter_append]
  by_cases h : P i = true
  · rw [if_pos h]; simp [natV, h]
  · rw [if_neg h]; simp [natV, h]
theorem filt_len {P : Nat → Bool} {i : Nat} : (natV ((List.range i).filter P)).length ≤ i := by
  rw [List.length_map]
  exact Nat.le_trans (List.length_filter_le _ _) (by rw [List.length_range]; exact Nat.le_refl _)
/-- a row of the names of which something is true -/
def spWho (C : Addr) (who : Nat → Ls → List Nat) : Sp := fun vs H Q _ => ∃ (B : LA) (n : Nat) (s : Ls), vs = [.ref B.p] ∧ LevAt C n H B s ∧ s.ps.length = n ∧ (keys s).Nodup ∧ n ≤ 6 ∧ ∀ H' q, Same H H' → H q = none → H' q = some (.tup (natV (who n s))) → Q (.ref q) H'
theorem scWrote : FnScope ["self", "name"] ["self"] (defScope sWrote) := ⟨rfl, rfl, rfl, by decide +kernel, rfl, by decide +kernel, by decide +kernel⟩
theorem ok_wrote {f C : Addr} {fd : FuncData} (F : Fun K "wrote" "Levels.wrote" sWrote f fd) (TC : LevTxt K C) (T : Blt mg) : FnOk PR w K mg base CX0 1 f fd ["self"] (spWho C wroteL) := by
  refine F.ok scWrote (fun vs H Q E h => ?_) (fun cdv A outer s H vs Q E hr h => ?_)
  · obtain ⟨B, n, s, rfl, _⟩ := h
    rfl
  · obtain ⟨B, n, st, rfl, L, hn, hk, h6, k⟩ := h
    refine ⟨_, pss_one (ps_ret (pe_callTy call_tuple_of (by rfl) T.tuple b_tuple (pa_cons (pe_lc (own := [("name", 1)]) (g := gName 1) (tt := tTest (tOp (rI0 fun i j => .bl (decide (j < i))) (tOp (rIxL K) (tFld K (tVar 0) "_taken") (tVar 1)) (tC (.int 0)))) rfl scWrote.nd (pi_range1 (by rfl) T.range (pa_cons (pe_fld (pv 0) rfl) pa_nil)) (blkOk_by (own := [("name", 1)]) (N := ["self", "name"]) (sc := defScope sWrote) (by decide +kernel))
      (fun _ _ _ _ _ => pg_name (i := 1) scWrote.nd rfl (Or.inl rfl)) (fun _ _ _ _ _ => pts_one (pt_cmpR op_gt (pe_ix ix_list (pe_fld (pv 0) rfl) (pv 1) (fun _ _ => rfl)) pe_int (nomark _))) (fun _ _ _ _ _ => pv 1)) pa_nil))), ?_⟩
    refine ⟨_, rfl, B.p, C, B.dx, _, _, rfl, L.ob, TC.cl, TC.n1, flds_size n B, n, rfl, by omega, by omega, fun D hD => lc_rangeP (n := n) (fun i => natV ((List.range i).filter fun i => decide (0 < tk n (pAt st.ps i)))) rfl (fun i hi Nx hN => ?_) ?_⟩
    · have sm : Same H (upd H D (.lst (natV ((List.range i).filter fun i => decide (0 < tk n (pAt st.ps i)))))) := same_upd hD
      refine ⟨rfl, _, rfl, B.p, C, B.dx, _, _, rfl, sm _ _ L.ob, TC.cl, TC.n4, flds_taken n B, _, rfl, B.t, _, _, _, rfl, rfl, SqL.of (sm _ _ L.ht), (by rw [Int.zero_add]; exact atI_nat (tksV_get (by omega))), _, _, rfl, rfl, _, rfl, ?_⟩
      have nx := filt_next (P := fun i => decide (0 < tk n (pAt st.ps i))) (i := i)
      refine ite2 (fun c => ?_) (fun c => ?_)
      · refine ⟨_, rfl, _, upd_same, small filt_len (by omega), ?_⟩
        rw [if_pos c] at nx
        rw [upd_upd, Int.zero_add, ← nx]
        exact hN
      · rw [if_neg c] at nx
        rw [← nx]
        exact hN
    · have nq : ∀ {q}, upd H D (.lst (natV (wroteL n st))) q = none → H q = none := fun h => (same_upd hD).free h
      refine ⟨D, _, rfl, .inl ⟨SqL.of upd_same, fun q hq => k _ q (fun b o e => uk (ne_of_none (same_upd hD b o e) hq) (same_upd hD b o e)) (nq hq) upd_same⟩⟩
theorem scGone : FnScope ["self", "name"] ["self"] (defScope sGone) := ⟨rfl, rfl, rfl, by decide +kernel, rfl, by decide +kernel, by decide +kernel⟩
theorem ok_gone {f C : Addr} {fd : FuncData} (F : Fun K "gone" "Levels.gone" sGone f fd) (TC : LevTxt K C) (T : Blt mg) : FnOk PR w K mg base CX0 1 f fd ["self"] (spWho C goneL) := by
  refine F.ok scGone (fun vs H Q E h => ?_) (fun cdv A outer s H vs Q E hr h => ?_)
  · obtain ⟨B, n, s, rfl, _⟩ := h
    rfl
  · obtain ⟨B, n, st, rfl, L, hn, hk, h6, k⟩ := h
    have hu := hu_of hr
    refine ⟨_, pss_one (ps_ret (pe_callTy call_tuple_of (by rfl) T.tuple b_tuple (pa_cons (pe_lc (own := [("name", 1)]) (g := gName 1) (tt := tB (tDIn (tVar 1) (tFld K (tVar 0) "_looks"))) rfl scGone.nd (pi_range1 (by rfl) T.range (pa_cons (pe_fld (pv 0) rfl) pa_nil)) (blkOk_by (own := [("name", 1)]) (N := ["self", "name"]) (sc := defScope sGone) (by decide +kernel))
      (fun _ _ _ _ _ => pg_name (i := 1) scGone.nd rfl (Or.inl rfl)) (fun _ _ _ _ _ => pts_one (pt_cmp (pc_din hu (pv 1) (pe_fld (pv 0) rfl)))) (fun _ _ _ _ _ => pv 1)) pa_nil))), ?_⟩
    refine ⟨_, rfl, B.p, C, B.dx, _, _, rfl, L.ob, TC.cl, TC.n1, flds_size n B, n, rfl, by omega, by omega, fun D hD => lc_rangeP (n := n) (fun i => natV ((List.range i).filter fun i => decide (i ∈ keys st))) rfl (fun i hi Nx hN => ?_) ?_⟩
    · have sm : Same H (upd H D (.lst (natV ((List.range i).filter fun i => decide (i ∈ keys st))))) := same_upd hD
      refine ⟨rfl, _, rfl, _, rfl, B.p, C, B.dx, _, _, rfl, sm _ _ L.ob, TC.cl, TC.n6, flds_looks n B, B.d, _, rfl, DGet.k (k := Sum.inl ((0 : Int) + i)) (sm _ _ L.hd), _, rfl, ?_⟩
      rw [Int.zero_add, dictV_has hk L.lal i, show decide (i ∈ List.map (fun x => x.fst) st.lk) = decide (i ∈ keys st) from rfl]
      have nx := filt_next (P := fun i => decide (i ∈ keys st)) (i := i)
      refine ite2 (fun c => ?_) (fun c => ?_)
      · refine ⟨_, rfl, _, upd_same, small filt_len (by omega), ?_⟩
        rw [if_pos c] at nx
        rw [upd_upd, ← nx]
        exact hN
      · rw [if_neg c] at nx
        rw [← nx]
        exact hN
    · have nq : ∀ {q}, upd H D (.lst (natV (goneL n st))) q = none → H q = none := fun h => (same_upd hD).free h
      refine ⟨D, _, rfl, .inl ⟨SqL.of upd_same, fun q hq => k _ q (fun b o e => uk (ne_of_none (same_upd hD b o e) hq) (same_upd hD b o e)) (nq hq) upd_same⟩⟩
end
end K07
/-! Levels.step: what it does to the object. -/
namespace K07
open PySem PySem.Spec PyProof.Rows L2
/-- what stands apart -/
structure LevApart (H : Hp) (B : LA) : Prop where
  cl : B.c ≠ B.l
  ct : B.c ≠ B.t
  cs : B.c ≠ B.sn
  ca : B.c ∉ B.sa
  lt : B.l ≠ B.t
  ls : B.l ≠ B.sn
  la : B.l ∉ B.sa
  ts : B.t ≠ B.sn
  ta : B.t ∉ B.sa
  sa : B.sn ∉ B.sa
  nds : B.sa.Nodup
theorem LevAt.apart {C : Addr} {n : Nat} {H : Hp} {B : LA} {s : Ls} (L : LevAt C n H B s) : LevApart H B := by
  have h := L.nd
  simp only [List.nodup_cons, List.mem_cons, not_or] at h
  obtain ⟨⟨a1, a2, a3, a4⟩, ⟨a5, a6, a7⟩, ⟨a8, a9⟩, a10, a11⟩ := h
  exact ⟨a1, a2, a3, a4, a5, a6, a7, a8, a9, a10, a11⟩
/-- what is no list and no dict stands apart from what changes -/
theorem LevAt.off {C : Addr} {n : Nat} {H : Hp} {B : LA} {s : Ls} (L : LevAt C n H B s) {x : Addr} {o : HO} (h : H x = some o) (h1 : ∀ xs, o ≠ .lst xs) (h2 : ∀ xs, o ≠ .dK xs) : x ∉ B.mut := by
  intro hm
  have s1 : x = B.c ∨ x = B.l ∨ x = B.t ∨ x = B.sn ∨ x = B.d ∨ x ∈ B.sa := by simpa [LA.mut] using hm
  have key : ∀ {y u}, H y = some u → x = y → o = u := fun hy e => by subst e; rw [h] at hy; exact Option.some.inj hy
  rcases s1 with e | e | e | e | e | e
  · exact h1 _ (key L.hc e)
  · exact h1 _ (key L.hl e)
  · exact h1 _ (key L.ht e)
  · exact h1 _ (key L.hs e)
  · exact h2 _ (key L.hd e)
  · obtain ⟨i, hi⟩ := List.mem_iff_getElem?.mp e
    exact h1 _ (key (L.hsa i x hi) rfl)
theorem LevAt.dne {C : Addr} {n : Nat} {H : Hp} {B : LA} {s : Ls} (L : LevAt C n H B s) : B.d ≠ B.c ∧ B.d ≠ B.l ∧ B.d ≠ B.t ∧ B.d ≠ B.sn ∧ B.d ∉ B.sa := by
  refine ⟨ne_of L.hd L.hc (by intro z; cases z), ne_of L.hd L.hl (by intro z; cases z), ne_of L.hd L.ht (by intro z; cases z), ne_of L.hd L.hs (by intro z; cases z), fun e => ?_⟩
  obtain ⟨i, hi⟩ := List.mem_iff_getElem?.mp e
  exact ne_of L.hd (L.hsa i _ hi) (by intro z; cases z) rfl
theorem lowsV_set {ps : List Pr} {i : Nat} {x : Pr} : lowsV (ps.set i x) = (lowsV ps).set i (.int x.low) := by
  unfold lowsV; rw [List.map_set]
theorem tksV_set {n : Nat} {ps : List Pr} {i : Nat} {x : Pr} : tksV n (ps.set i x) = (tksV n ps).set i (.int (tk n x)) := by
  unfold tksV; rw [List.map_set]
theorem set_same {ps : List Pr} {i : Nat} {x : Pr} (hi : i < ps.length) (h : x.low = lo ps i) : lowsV (ps.set i x) = lowsV ps := by
  rw [lowsV_set, h]
  refine List.ext_getElem? fun j => ?_
  rw [List.getElem?_set]
  by_cases e : i = j
  · subst e
    rw [if_pos rfl, if_pos (by rw [List.length_map]; exact hi), lowsV_get hi]
  · rw [if_neg e]
theorem mem_mut {B : LA} {x : Addr} : x ∈ B.mut ↔ x = B.c ∨ x = B.l ∨ x = B.t ∨ x = B.sn ∨ x = B.d ∨ x ∈ B.sa := by simp [LA.mut]
/-- one step's time -/
theorem tk_read {n : Nat} {p : Pr} {l : List Nat} : tk n ⟨p.low, p.r + 1, l⟩ = tk n p + 1 := by
  simp only [tk]; omega
theorem tk_write {n : Nat} {p : Pr} (h : p.r = n) : tk n ⟨p.low - 1, 0, []⟩ = tk n p + 1 := by
  simp only [tk, h]
  have e : ((n : Int) - (p.low - 1)) * ((n : Int) + 1) = ((n : Int) - p.low) * ((n : Int) + 1) + ((n : Int) + 1) := by
    rw [show (n : Int) - (p.low - 1) = ((n : Int) - p.low) + 1 by omega, Int.add_mul, Int.one_mul]
  rw [e]
  have : ((0 : Nat) : Int) = 0 := rfl
  omega
theorem tk_mod {n : Nat} {p : Pr} (h : p.r ≤ n) : tk n p % ((n : Int) + 1) = if p.r = n then 0 else (p.r : Int) + 1 := by
  have e : tk n p = (1 + (p.r : Int)) + ((n : Int) - p.low) * ((n : Int) + 1) := by simp only [tk]; omega
  rw [e, Int.add_mul_emod_self_right]
  by_cases c : p.r = n
  · rw [if_pos c, c]
    rw [show 1 + (n : Int) = (n : Int) + 1 by omega]
    exact Int.emod_self
  · rw [if_neg c, Int.emod_eq_of_lt (by omega) (by omega)]
    omega
theorem nodup_set {α : Type} {q : α} : ∀ {l : List α}, l.Nodup → q ∉ l → ∀ i, (l.set i q).Nodup
  | [], h, _, _ => by simpa using h
  | x :: l, h, hq, 0 => by
    rw [List.set_cons_zero, List.nodup_cons]
    exact ⟨fun z => hq (List.mem_cons_of_mem _ z), (List.nodup_cons.mp h).2⟩
  | x :: l, h, hq, i + 1 => by
    rw [List.set_cons_succ, List.nodup_cons]
    have h2 := List.nodup_cons.mp h
    refine ⟨fun z => ?_, nodup_set h2.2 (fun z => hq (List.mem_cons_of_mem _ z)) i⟩
    rcases List.mem_or_eq_of_mem_set z with y | y
    · exact h2.1 y
    · exact hq (y ▸ List.mem_cons_self)
section
variable {C : Addr} {n : Nat} {H : Hp} {B : LA} {s : Ls} {i : Nat}
/-- the state behind a write -/
theorem lev_write (L : LevAt C n H B s) (hn : s.ps.length = n) (hi : i < n) (hr : (pAt s.ps i).r = n) {q : Addr} (hq : H q = none) {H' : Hp}
    (e1 : H' B.t = some (.lst ((tksV n s.ps).set i (.int (tk n (pAt s.ps i) + 1))))) (e2 : H' B.l = some (.lst ((lowsV s.ps).set i (.int (lo s.ps i - 1))))) (e3 : H' B.c = some (.lst ((lowsV s.ps).set i (.int (lo s.ps i - 1)))))
    (e4 : H' q = some (.lst [])) (e5 : H' B.sn = some (.lst ((B.sa.map V.ref).set i (.ref q)))) (k : ∀ b o, H b = some o → b ≠ B.t → b ≠ B.l → b ≠ B.c → b ≠ B.sn → H' b = some o) :
    LevAt C n H' { B with sa := B.sa.set i q } ⟨s.ps.set i ⟨lo s.ps i - 1, 0, []⟩, s.lk⟩ := by
  have ap := L.apart
  have off := fun {x o} (h : H x = some o) h1 h2 => L.off (x := x) (o := o) h h1 h2
  have kk : ∀ b o, H b = some o → b ∉ B.mut → H' b = some o := fun b o e hm => by
    have := fun z => hm (mem_mut.mpr z)
    exact k b o e (fun z => this (.inr (.inr (.inl z)))) (fun z => this (.inr (.inl z))) (fun z => this (.inl z)) (fun z => this (.inr (.inr (.inr (.inl z)))))
  obtain ⟨d1, d2, d3, d4, d5⟩ := L.dne
  have qn : ∀ {x o}, H x = some o → x ≠ q := fun h => ne_of_none h hq
  have hsl : i < B.sa.length := by rw [L.sal]; exact hi
  constructor
  · exact kk _ _ L.ob (off L.ob (fun _ z => nomatch z) (fun _ z => nomatch z))
  · show H' B.c = some (.lst (lowsV (s.ps.set i ⟨lo s.ps i - 1, 0, []⟩)))
    rw [lowsV_set]; exact e3
  · show H' B.l = some (.lst (lowsV (s.ps.set i ⟨lo s.ps i - 1, 0, []⟩)))
    rw [lowsV_set]; exact e2
  · show H' B.t = some (.lst (tksV n (s.ps.set i ⟨lo s.ps i - 1, 0, []⟩)))
    rw [tksV_set, show (⟨lo s.ps i - 1, 0, []⟩ : Pr) = ⟨(pAt s.ps i).low - 1, 0, []⟩ from rfl, tk_write hr]; exact e1
  · show H' B.sn = some (.lst ((B.sa.set i q).map V.ref))
    rw [List.map_set]; exact e5
  · show (B.sa.set i q).length = n
    rw [List.length_set]; exact L.sal
  · intro j a ha
    have ha' : (B.sa.set i q)[j]? = some a := ha
    rw [List.getElem?_set] at ha'
    show H' a = some (.lst (natV (pAt (s.ps.set i ⟨lo s.ps i - 1, 0, []⟩) j).seen))
    by_cases c : i = j
    · subst c
      rw [if_pos rfl, if_pos hsl] at ha'
      have := Option.some.inj ha'
      subst this
      rw [pAt_set (by omega), if_pos rfl]
      exact e4
    · rw [if_neg c] at ha'
      rw [pAt_set (by omega), if_neg (fun z => c z.symm)]
      have hin := List.mem_of_getElem? ha'
      exact k _ _ (L.hsa j a ha') (fun z => ap.ta (z ▸ hin)) (fun z => ap.la (z ▸ hin)) (fun z => ap.ca (z ▸ hin)) (fun z => ap.sa (z ▸ hin))
  · exact k _ _ L.hd d3 d2 d1 d4
  · exact L.lal
  · intro j x l a h1 h2
    have h3 := L.hla j x l a h1 h2
    exact kk _ _ h3 (off h3 (fun _ z => nomatch z) (fun _ z => nomatch z))
  · have ns : (B.sa.set i q).Nodup := nodup_set ap.nds (fun hm => by
      obtain ⟨z, hz⟩ := List.mem_iff_getElem?.mp hm
      exact qn (L.hsa z _ hz) rfl) i
    have nin : ∀ {x o}, H x = some o → x ∉ B.sa → x ∉ B.sa.set i q := fun h hx hm => by
      rcases List.mem_or_eq_of_mem_set hm with z | z
      · exact hx z
      · exact qn h z
    show (B.c :: B.l :: B.t :: B.sn :: B.sa.set i q).Nodup
    simp only [List.nodup_cons, List.mem_cons, not_or]
    exact ⟨⟨ap.cl, ap.ct, ap.cs, nin L.hc ap.ca⟩, ⟨ap.lt, ap.ls, nin L.hl ap.la⟩, ⟨ap.ts, nin L.ht ap.ta⟩, nin L.hs ap.sa, ns⟩
/-- the state behind a read -/
theorem lev_read (L : LevAt C n H B s) (hn : s.ps.length = n) (hi : i < n) {a : Addr} (ha : B.sa[i]? = some a) {H' : Hp} {l : List Nat}
    (e1 : H' B.t = some (.lst ((tksV n s.ps).set i (.int (tk n (pAt s.ps i) + 1))))) (e2 : H' a = some (.lst (natV l))) (k : ∀ b o, H b = some o → b ≠ B.t → b ≠ a → H' b = some o) :
    LevAt C n H' B ⟨s.ps.set i ⟨lo s.ps i, (pAt s.ps i).r + 1, l⟩, s.lk⟩ := by
  have ap := L.apart
  have hin := List.mem_of_getElem? ha
  have off := fun {x o} (h : H x = some o) h1 h2 => L.off (x := x) (o := o) h h1 h2
  have kk : ∀ b o, H b = some o → b ∉ B.mut → H' b = some o := fun b o e hm => by
    have := fun z => hm (mem_mut.mpr z)
    exact k b o e (fun z => this (.inr (.inr (.inl z)))) (fun z => this (.inr (.inr (.inr (.inr (.inr (z ▸ hin)))))))
  obtain ⟨d1, d2, d3, d4, d5⟩ := L.dne
  have es : lowsV (s.ps.set i ⟨lo s.ps i, (pAt s.ps i).r + 1, l⟩) = lowsV s.ps := set_same (by omega) rfl
  constructor
  · exact kk _ _ L.ob (off L.ob (fun _ z => nomatch z) (fun _ z => nomatch z))
  · show H' B.c = some (.lst (lowsV (s.ps.set i ⟨lo s.ps i, (pAt s.ps i).r + 1, l⟩)))
    rw [es]; exact k _ _ L.hc ap.ct (fun z => ap.ca (z ▸ hin))
  · show H' B.l = some (.lst (lowsV (s.ps.set i ⟨lo s.ps i, (pAt s.ps i).r + 1, l⟩)))
    rw [es]; exact k _ _ L.hl ap.lt (fun z => ap.la (z ▸ hin))
  · show H' B.t = some (.lst (tksV n (s.ps.set i ⟨lo s.ps i, (pAt s.ps i).r + 1, l⟩)))
    rw [tksV_set, show (⟨lo s.ps i, (pAt s.ps i).r + 1, l⟩ : Pr) = ⟨(pAt s.ps i).low, (pAt s.ps i).r + 1, l⟩ from rfl, tk_read]; exact e1
  · exact k _ _ L.hs (fun z => ap.ts z.symm) (fun z => ap.sa (z ▸ hin))
  · exact L.sal
  · intro j b hb
    show H' b = some (.lst (natV (pAt (s.ps.set i ⟨lo s.ps i, (pAt s.ps i).r + 1, l⟩) j).seen))
    rw [pAt_set (by omega)]
    by_cases c : j = i
    · subst c
      rw [hb] at ha
      have := Option.some.inj ha
      subst this
      rw [if_pos rfl]; exact e2
    · rw [if_neg c]
      have hjl : j < B.sa.length := (List.getElem?_eq_some_iff.mp hb).1
      refine k _ _ (L.hsa j b hb) (fun z => ap.ta (z ▸ List.mem_of_getElem? hb)) (fun z => ?_)
      subst z
      exact c ((List.getElem?_inj hjl ap.nds).mp (hb.trans ha.symm))
  · exact k _ _ L.hd d3 (fun z => d5 (z ▸ hin))
  · exact L.lal
  · intro j x l a h1 h2
    have h3 := L.hla j x l a h1 h2
    exact kk _ _ h3 (off h3 (fun _ z => nomatch z) (fun _ z => nomatch z))
  · exact L.nd
/-- the state behind a leave -/
theorem lev_leave (L : LevAt C n H B s) (hg : i ∉ keys s) {q : Addr} (hq : H q = none) {l : List Nat} :
    LevAt C n (upd (upd H q (.tup (natV l))) B.d (.dK (putK (dictV s.lk B.la) (Sum.inl (i : Int)) (.ref q)))) { B with la := B.la ++ [q] } ⟨s.ps, s.lk ++ [(i, l)]⟩ := by
  obtain ⟨d1, d2, d3, d4, d5⟩ := L.dne
  have k : ∀ b o, H b = some o → b ≠ B.d → upd (upd H q (.tup (natV l))) B.d (.dK (putK (dictV s.lk B.la) (Sum.inl (i : Int)) (.ref q))) b = some o := fun b o e hb => uk hb (uk (ne_of_none e hq) e)
  have qd : q ≠ B.d := (ne_of_none L.hd hq).symm
  constructor
  · exact k _ _ L.ob (ne_of L.ob L.hd (by intro z; cases z))
  · exact k _ _ L.hc d1.symm
  · exact k _ _ L.hl d2.symm
  · exact k _ _ L.ht d3.symm
  · exact k _ _ L.hs d4.symm
  · exact L.sal
  · intro j a ha
    exact k _ _ (L.hsa j a ha) (fun z => d5 (z ▸ List.mem_of_getElem? ha))
  · show upd _ B.d _ B.d = some (.dK (dictV (s.lk ++ [(i, l)]) (B.la ++ [q])))
    rw [upd_same, dictV_put L.lal hg]
  · show (B.la ++ [q]).length = (s.lk ++ [(i, l)]).length
    rw [List.length_append, List.length_append, L.lal]; rfl
  · intro j x l' a h1 h2
    have h1' : (s.lk ++ [(i, l)])[j]? = some (x, l') := h1
    have h2' : (B.la ++ [q])[j]? = some a := h2
    rw [List.getElem?_append] at h1' h2'
    by_cases c : j < s.lk.length
    · rw [if_pos c] at h1'
      rw [if_pos (by rw [L.lal]; exact c)] at h2'
      have h3 := L.hla j x l' a h1' h2'
      exact k _ _ h3 (ne_of h3 L.hd (by intro z; cases z))
    · rw [if_neg c] at h1'
      rw [if_neg (by rw [L.lal]; exact c), L.lal] at h2'
      cases z : j - s.lk.length with
      | zero =>
        rw [z] at h1' h2'
        have e1 := Option.some.inj h1'
        have e2 := Option.some.inj h2'
        injection e1 with e3 e4
        subst e2; subst e4
        exact uk qd upd_same
      | succ m => rw [z] at h1'; simp at h1'
  · exact L.nd
end
theorem tyl {K : PySem.W.Frag} {H : Hp} {p : Addr} {xs : List V} (h : H p = some (.lst xs)) : tyV K "list" (.ref p) H := Or.inl ⟨rfl, xs, SqL.of h⟩
/-- what a step hands back -/
def LookV (H : Hp) (u : V) : Option (List Nat) → Prop
  | none => u = .non
  | some l => ∃ a, u = .ref a ∧ H a = some (.tup (natV l))
/-- Levels.step(self, v) -/
def spStep (C CN : Addr) : Sp := fun vs H Q E => ∃ (B : LA) (n : Nat) (s : Ls) (v : V), vs = [.ref B.p, v] ∧ LevAt C n H B s ∧ Inv n s ∧ n ≤ 6 ∧ Flat v ∧
  (nameOk n v = false → ∀ d, H d = none → E (.ref CN) (some d) (errD H d "name" v)) ∧
  (∀ i : Nat, v = .int i → i < n → i ∈ keys s → ∀ d, H d = none → E (.ref CN) (some d) (errD H d "name" v)) ∧
  (∀ i : Nat, v = .int i → i < n → i ∉ keys s → ∀ H' B' u, B'.p = B.p → LevAt C n H' B' (stp n s i) → LookV H' u (due n s.ps (pAt s.ps i)) → (∀ b o, H b = some o → b ∉ B.mut → H' b = some o) → (∀ a ∈ B'.mut, a ∈ B.mut ∨ H a = none) → Q u H')
theorem keys_len {n : Nat} {s : Ls} (I : Inv n s) : s.lk.length ≤ n := by
  have h1 : (keys s).length = s.lk.length := List.length_map _
  have h2 := I.nd.length_le_of_subset (l₂ := List.range n) (fun x hx => by
    obtain ⟨p, hp, e⟩ := List.mem_map.mp hx
    have := (I.lks p.1 p.2 hp).1
    subst e
    exact List.mem_range.mpr this)
  rw [List.length_range] at h2
  omega
theorem seen_len {n : Nat} {s : Ls} (I : Inv n s) {i : Nat} (hi : i < n) : (pAt s.ps i).seen.length ≤ n := by
  have h1 : (pAt s.ps i).seen.Nodup := (I.asc i hi).imp fun h => Nat.ne_of_lt h
  have h2 := h1.length_le_of_subset (l₂ := List.range n) (fun x hx => by
    have := (I.sub i hi x hx).1
    have := I.rle i hi
    exact List.mem_range.mpr (by omega))
  rwa [List.length_range] at h2
section
variable {w : World} {K : PySem.W.Frag} {mg : Str → Option Value} {base : Heap}
theorem scStep : FnScope ["self", "name", "at"] ["self", "name"] (defScope sStep) := ⟨rfl, rfl, rfl, by decide +kernel, rfl, by decide +kernel, by decide +kernel⟩
theorem ok_step {f C CN fN fK : Addr} {fd fdK : FuncData} (F : Fun K "step" "Levels.step" sStep f fd) (TK : KnTxt w K mg base C CN fK fdK) (TC : LevTxt K C) (TN : NameTxt K mg CN fN) (T : Blt mg) :
    FnOk PR w K mg base (L2.CX PR w) 3 f fd ["self", "name"] (spStep C CN) := by
  refine F.okX scStep (fun vs H Q E h => ?_) (fun cdv A outer s H vs Q E hr h => ?_)
  · obtain ⟨B, n, s, v, rfl, _⟩ := h
    rfl
  · obtain ⟨B, n, st, v, rfl, L, I, h6, hv, kE, kG, k⟩ := h
    have hu := hu_of hr
    refine ⟨_, pss_cons (ps_expr (pe_meth (pv 0) TC.cl TK.m TK.G hr TK.b .nil (passes_call (W := fun cls d _ H => E cls d H) (takes_of rfl rfl rfl rfl) fun _ _ _ _ h => h) (pa_cons (pv 1) pa_nil)))
      (pss_cons (ps_if (pt_cmp (pc_din hu (pv 1) (pe_fld (pv 0) rfl))) (pss_one (ps_raiseErr (W := fun cls d _ H => E cls d H) (okV := okN) rfl TN (readN w) okN_ok hr (takes_of rfl rfl rfl rfl) (pa_cons (pv 1) pa_nil))) pss_nil)
      (pss_cons (ps_set (i := 2) scStep.nd rfl (Or.inl rfl) (pe_op op_mod (pe_ix ix_list (pe_fld (pv 0) rfl) (pv 1) (fun _ _ => rfl)) (pe_op op_add (pe_fld (pv 0) rfl) pe_int)))
      (pss_cons (ps_augS (pe_fld (pv 0) rfl) (pv 1) get_list pe_int ip_add set_list)
      (pss_cons (ps_if (pt_cmpR op_eq (pv 2) pe_int (nomark _))
        (pss_cons (ps_augS (pe_fld (pv 0) rfl) (pv 1) get_list pe_int ip_sub set_list)
        (pss_cons (ps_asg (pe_ix ix_list (pe_fld (pv 0) rfl) (pv 1) (fun _ _ => rfl)) (pg_sub (pe_fld (pv 0) rfl) (pv 1) set_list))
        (pss_cons (ps_asg (pe_lst pa_nil) (pg_sub (pe_fld (pv 0) rfl) (pv 1) set_list))
        (pss_one (ps_ret pe_non))))) pss_nil)
      (pss_cons (ps_if (pt_cmpR op_le (pe_ix ix_list (pe_fld (pv 0) rfl) (pe_op op_sub (pv 2) pe_int) (fun _ _ => rfl)) (pe_ix ix_list (pe_fld (pv 0) rfl) (pv 1) (fun _ _ => rfl)) (nomark _))
        (pss_one (ps_expr (pe_bm PySem.F.plainAttrs_list PySem.F.slot_list_append PySem.F.type_list_append mt_append (pe_ix ix_list (pe_fld (pv 0) rfl) (pv 1) (fun _ _ => rfl)) (pa_cons (pe_op op_sub (pv 2) pe_int) pa_nil)))) pss_nil)
      (pss_cons (ps_if (PW.pt (pw_or (pt_cmpR op_lt (pv 2) (pe_fld (pv 0) rfl) (nomark _)) (pw_or1 (pt_cmpR op_lt (pe_callB call_len_seq (by rfl) T.len b_len (pa_cons (pe_ix ix_list (pe_fld (pv 0) rfl) (pv 1) (fun _ _ => rfl)) pa_nil)) (pe_ix ix_list (pe_fld (pv 0) rfl) (pv 1) (fun _ _ => rfl)) (nomark _))))) (pss_one (ps_ret pe_non)) pss_nil)
      (pss_cons (ps_dput hu (pe_fld (pv 0) rfl) (pv 1) (pe_callTy call_tuple_of (by rfl) T.tuple b_tuple (pa_cons (pe_ix ix_list (pe_fld (pv 0) rfl) (pv 1) (fun _ _ => rfl)) pa_nil)) rfl)
      (pss_one (ps_ret (pe_dget hu (pe_fld (pv 0) rfl) (pv 1) (fun _ _ => rfl))))))))))), ?_⟩
    refine ⟨_, rfl, B.p, B.dx, _, rfl, L.ob, flds_known n B, _, rfl, B.p, B.dx, _, n, v, rfl, L.ob, flds_size n B, hv, fun hg => ?_, kE⟩
    obtain ⟨i, rfl, hi⟩ := nameOk_nat hg
    have hn := I.len
    have hil : i < st.ps.length := by omega
    -- if name in self._looks
    refine ⟨_, rfl, _, rfl, B.p, C, B.dx, _, _, rfl, L.ob, TC.cl, TC.n6, flds_looks n B, B.d, _, rfl, DGet.k (k := Sum.inl (i : Int)) L.hd, _, rfl, ?_⟩
    rw [dictV_has I.nd L.lal i]
    refine ite2 (fun c => ⟨_, rfl, _, rfl, trivial, fun d hd => kG i rfl hi (of_decide_eq_true c) d hd⟩) (fun c => ?_)
    have hk : i ∉ keys st := fun z => c (decide_eq_true z)
    -- at
    have hmod := tk_mod (n := n) (p := pAt st.ps i) (I.rle i hi)
    refine ⟨_, rfl, B.p, C, B.dx, _, _, rfl, L.ob, TC.cl, TC.n4, flds_taken n B, _, rfl, B.t, _, _, _, rfl, rfl, SqL.of L.ht, atI_nat (tksV_get hil), _, rfl, B.p, C, B.dx, _, _, rfl, L.ob, TC.cl, TC.n1, flds_size n B, _, _, rfl, rfl, _, _, rfl, rfl, (by show (0 : Int) < (n : Int) + 1; omega), ?_⟩
    show gName 2 (V.int (tk n (pAt st.ps i) % ((n : Int) + 1))) _ _ _
    rw [hmod]
    -- self._taken[name] += 1
    refine ⟨_, rfl, B.p, C, B.dx, _, _, rfl, L.ob, TC.cl, TC.n4, flds_taken n B, _, rfl, B.t, _, i, _, rfl, rfl, SqL.of L.ht, tksV_get hil, _, _, rfl, rfl, B.t, _, i, i, rfl, rfl, L.ht, ixN_nat (by rw [List.length_map]; exact hil), ?_⟩
    have ap := L.apart
    obtain ⟨d1, d2, d3, d4, d5⟩ := L.dne
    generalize hH1 : upd H B.t _ = H1
    have K1 : ∀ b o, H b = some o → b ≠ B.t → H1 b = some o := fun b o e hb => by rw [← hH1]; exact uk hb e
    have t1 : H1 B.t = some (.lst ((tksV n st.ps).set i (.int (tk n (pAt st.ps i) + 1)))) := by rw [← hH1]; exact upd_same
    have pt : B.p ≠ B.t := ne_of L.ob L.ht (by intro z; cases z)
    have pl : B.p ≠ B.l := ne_of L.ob L.hl (by intro z; cases z)
    have pc : B.p ≠ B.c := ne_of L.ob L.hc (by intro z; cases z)
    have ps : B.p ≠ B.sn := ne_of L.ob L.hs (by intro z; cases z)
    have o1 := K1 _ _ L.ob pt
    obtain ⟨a, ha⟩ : ∃ a, B.sa[i]? = some a := ⟨B.sa[i]'(by rw [L.sal]; exact hi), List.getElem?_eq_getElem _⟩
    by_cases hr0 : (pAt st.ps i).r = n
    · -- a write
      rw [if_pos hr0]
      refine ⟨_, rfl, rfl, _, rfl, ?_⟩
      refine iteT ?_
      refine ⟨_, rfl, B.p, C, B.dx, _, _, rfl, o1, TC.cl, TC.n3, flds_low n B, _, rfl, B.l, _, i, _, rfl, rfl, SqL.of (K1 _ _ L.hl ap.lt), lowsV_get hil, _, _, rfl, rfl, B.l, _, i, i, rfl, rfl, K1 _ _ L.hl ap.lt, ixN_nat (by rw [List.length_map]; exact hil), ?_⟩
      generalize hH2 : upd H1 B.l _ = H2
      have K2 : ∀ b o, H1 b = some o → b ≠ B.l → H2 b = some o := fun b o e hb => by rw [← hH2]; exact uk hb e
      have l2 : H2 B.l = some (.lst ((lowsV st.ps).set i (.int (lo st.ps i - 1)))) := by rw [← hH2]; exact upd_same
      have o2 := K2 _ _ o1 pl
      have c2 := K2 _ _ (K1 _ _ L.hc ap.ct) ap.cl
      refine ⟨_, rfl, B.p, C, B.dx, _, _, rfl, o2, TC.cl, TC.n3, flds_low n B, _, rfl, B.l, _, _, _, rfl, rfl, SqL.of l2, atI_nat (by rw [List.getElem?_set_self (by rw [List.length_map]; exact hil)]), _, rfl, B.p, C, B.dx, _, _, rfl, o2, TC.cl, TC.n2, flds_cells n B, _, rfl, B.c, _, i, i, rfl, rfl, c2, ixN_nat (by rw [List.length_map]; exact hil), ?_⟩
      generalize hH3 : upd H2 B.c _ = H3
      have K3 : ∀ b o, H2 b = some o → b ≠ B.c → H3 b = some o := fun b o e hb => by rw [← hH3]; exact uk hb e
      have c3 : H3 B.c = some (.lst ((lowsV st.ps).set i (.int (lo st.ps i - 1)))) := by rw [← hH3]; exact upd_same
      refine ⟨by show 0 ≤ sizeLine; decide, fun q hq => ?_⟩
      have o3 := K3 _ _ o2 pc
      have s3 := K3 _ _ (K2 _ _ (K1 _ _ L.hs (fun z => ap.ts z.symm)) (fun z => ap.ls z.symm)) (fun z => ap.cs z.symm)
      have K03 : ∀ b o, H b = some o → b ≠ B.t → b ≠ B.l → b ≠ B.c → H3 b = some o := fun b o e h1 h2 h3 => K3 _ _ (K2 _ _ (K1 _ _ e h1) h2) h3
      have nq : ∀ {x o}, H3 x = some o → x ≠ q := fun h => ne_of_none h hq
      have q0 : H q = none := by
        cases z : H q with
        | none => rfl
        | some o =>
          by_cases h1 : q = B.t
          · subst h1; rw [K3 _ _ (K2 _ _ t1 ap.lt.symm) ap.ct.symm] at hq; cases hq
          · by_cases h2 : q = B.l
            · subst h2; rw [K3 _ _ l2 ap.cl.symm] at hq; cases hq
            · by_cases h3 : q = B.c
              · subst h3; rw [c3] at hq; cases hq
              · rw [K03 q o z h1 h2 h3] at hq; cases hq
      refine ⟨_, rfl, B.p, C, B.dx, _, _, rfl, uk (nq o3) o3, TC.cl, TC.n5, flds_seen n B, _, rfl, B.sn, _, i, i, rfl, rfl, uk (nq s3) s3, ixN_nat (by rw [List.length_map, L.sal]; exact hi), ?_⟩
      have K5 : ∀ b o, H3 b = some o → b ≠ B.sn → upd (upd H3 q (.lst [])) B.sn (.lst ((B.sa.map V.ref).set i (.ref q))) b = some o := fun b o e hb => uk hb (uk (nq e) e)
      have hd : due n st.ps (pAt st.ps i) = none := by unfold due; rw [if_pos hr0]
      have hst : stp n st i = ⟨st.ps.set i ⟨lo st.ps i - 1, 0, []⟩, st.lk⟩ := by unfold stp nxt due; rw [if_pos hr0, if_pos hr0]; rfl
      refine k i rfl hi hk _ { B with sa := B.sa.set i q } .non rfl ?_ (by rw [hd]; rfl) (fun b o e hb => ?_) (fun x hx => ?_)
      · rw [hst]
        refine lev_write L hn hi hr0 q0 (K5 _ _ (K3 _ _ (K2 _ _ t1 ap.lt.symm) ap.ct.symm) ap.ts) (K5 _ _ (K3 _ _ l2 ap.cl.symm) ap.ls) (K5 _ _ c3 ap.cs) (uk (fun z => nq s3 z.symm) upd_same) upd_same (fun b o e h1 h2 h3 h4 => K5 _ _ (K03 b o e h1 h2 h3) h4)
      · have hm := fun z => hb (mem_mut.mpr z)
        exact K5 _ _ (K03 b o e (fun z => hm (.inr (.inr (.inl z)))) (fun z => hm (.inr (.inl z))) (fun z => hm (.inl z))) (fun z => hm (.inr (.inr (.inr (.inl z)))))
      · have hx' := mem_mut.mp hx
        rcases hx' with e | e | e | e | e | e
        · exact .inl (mem_mut.mpr (.inl e))
        · exact .inl (mem_mut.mpr (.inr (.inl e)))
        · exact .inl (mem_mut.mpr (.inr (.inr (.inl e))))
        · exact .inl (mem_mut.mpr (.inr (.inr (.inr (.inl e)))))
        · exact .inl (mem_mut.mpr (.inr (.inr (.inr (.inr (.inl e))))))
        · rcases List.mem_or_eq_of_mem_set e with z | z
          · exact .inl (mem_mut.mpr (.inr (.inr (.inr (.inr (.inr z))))))
          · exact .inr (z ▸ q0)
    · -- a read
      rw [if_neg hr0]
      have hrn : (pAt st.ps i).r < n := Nat.lt_of_le_of_ne (I.rle i hi) hr0
      refine ⟨_, rfl, rfl, _, rfl, ?_⟩
      rw [show decide (V.int (((pAt st.ps i).r : Int) + 1) = V.int 0) = false from decide_eq_false (fun z => by injection z with z; omega)]
      refine iteF ?_
      have a1 := K1 _ _ (L.hsa i a ha) (fun z => ap.ta (z ▸ List.mem_of_getElem? ha))
      have hidx : ((pAt st.ps i).r : Int) + 1 - 1 = ((pAt st.ps i).r : Nat) := by omega
      -- what follows the read
      have mid : ∀ H2, LevAt C n H2 B ⟨st.ps.set i ⟨lo st.ps i, (pAt st.ps i).r + 1, rd st.ps (pAt st.ps i)⟩, st.lk⟩ → (∀ b o, H b = some o → b ∉ B.mut → H2 b = some o) → (∀ b, H2 b = none → H b = none) →
          tSeq (tIfS (tOr (tTest (tOp (rI0 fun i j => .bl (decide (i < j))) (tVar 2) (tFld K (tVar 0) "_size"))) (tTest (tOp (rI0 fun i j => .bl (decide (i < j))) (tCB (fun xs H Q => ∃ p ys, xs = [.ref p] ∧ (SqL K H p ys ∨ SqT K H p ys) ∧ Q (.int ys.length) H) (tCons (tOp (rIxL K) (tFld K (tVar 0) "_seen") (tVar 1)) tNil)) (tOp (rIxL K) (tFld K (tVar 0) "_low") (tVar 1))))) (tRet (tC .non)) tNext)
            (tSeq (sDPut (tFld K (tVar 0) "_looks") (tVar 1) (tCB (fun xs H Q => ∃ p ys, xs = [.ref p] ∧ ((SqL K H p ys ∧ ∀ l, H l = none → Q (.ref l) (upd H l (.tup ys))) ∨ (SqT K H p ys ∧ Q (.ref p) H))) (tCons (tOp (rIxL K) (tFld K (tVar 0) "_seen") (tVar 1)) tNil))) (tRet (tDGet (tFld K (tVar 0) "_looks") (tVar 1))))
            { nx := fun _ H' => Q .non H', rt := Q } [some (.ref B.p), some (.int i), some (.int (((pAt st.ps i).r : Int) + 1))] H2 := by
        intro H2 L2 K2 F2
        have hn2 : (st.ps.set i ⟨lo st.ps i, (pAt st.ps i).r + 1, rd st.ps (pAt st.ps i)⟩).length = n := by rw [List.length_set]; exact hn
        have pi2 : pAt (st.ps.set i ⟨lo st.ps i, (pAt st.ps i).r + 1, rd st.ps (pAt st.ps i)⟩) i = ⟨lo st.ps i, (pAt st.ps i).r + 1, rd st.ps (pAt st.ps i)⟩ := by rw [pAt_set hil, if_pos rfl]
        have sa2 : H2 a = some (.lst (natV (rd st.ps (pAt st.ps i)))) := by have := L2.hsa i a ha; rw [pi2] at this; exact this
        have stay : due n st.ps (pAt st.ps i) = none → Q .non H2 := fun hd => by
          refine k i rfl hi hk H2 B .non rfl ?_ (by rw [hd]; rfl) K2 (fun x hx => .inl hx)
          have e : stp n st i = ⟨st.ps.set i ⟨lo st.ps i, (pAt st.ps i).r + 1, rd st.ps (pAt st.ps i)⟩, st.lk⟩ := by unfold stp; rw [hd]; unfold nxt; rw [if_neg hr0]; rfl
          rw [e]; exact L2
        refine ⟨_, rfl, _, rfl, B.p, C, B.dx, _, _, rfl, L2.ob, TC.cl, TC.n1, flds_size n B, _, _, rfl, rfl, _, rfl, ?_⟩
        refine ite2 (fun c1 => ?_) (fun c1 => ?_)
        · have c1' : ((pAt st.ps i).r : Int) + 1 < n := of_decide_eq_true c1
          refine iteT (stay ?_)
          unfold due
          rw [if_neg hr0, if_neg (fun z => by omega)]
        · have c1' : ¬ ((pAt st.ps i).r : Int) + 1 < n := fun z => c1 (decide_eq_true z)
          have hr1 : (pAt st.ps i).r + 1 = n := by omega
          have gl : (lowsV (st.ps.set i ⟨lo st.ps i, (pAt st.ps i).r + 1, rd st.ps (pAt st.ps i)⟩))[i]? = some (.int (lo st.ps i)) := by
            rw [lowsV_get (by rw [hn2]; exact hi)]
            show some (V.int (pAt (st.ps.set i ⟨lo st.ps i, (pAt st.ps i).r + 1, rd st.ps (pAt st.ps i)⟩) i).low) = _
            rw [pi2]
          refine ⟨_, rfl, B.p, C, B.dx, _, _, rfl, L2.ob, TC.cl, TC.n5, flds_seen n B, _, rfl, B.sn, _, _, _, rfl, rfl, SqL.of L2.hs, atI_nat (v := V.ref a) (by rw [List.getElem?_map, ha]; rfl), a, _, rfl, .inl (SqL.of sa2), _, rfl, B.p, C, B.dx, _, _, rfl, L2.ob, TC.cl, TC.n3, flds_low n B, _, rfl, B.l, _, _, _, rfl, rfl, SqL.of L2.hl, atI_nat gl, _, _, rfl, rfl, _, rfl, ?_⟩
          rw [List.length_map]
          refine ite2 (fun c2 => ?_) (fun c2 => ?_)
          · have c2' : ((rd st.ps (pAt st.ps i)).length : Int) < lo st.ps i := of_decide_eq_true c2
            refine stay ?_
            unfold due
            rw [if_neg hr0, if_neg (fun z => ?_)]
            have z2 : lo st.ps i ≤ ((rd st.ps (pAt st.ps i)).length : Int) := z.2
            omega
          · have c2' : ¬ ((rd st.ps (pAt st.ps i)).length : Int) < lo st.ps i := fun z => c2 (decide_eq_true z)
            have hd : due n st.ps (pAt st.ps i) = some (rd st.ps (pAt st.ps i)) := by
              have h3 : (pAt st.ps i).low ≤ ((rd st.ps (pAt st.ps i)).length : Int) := by
                show lo st.ps i ≤ _
                omega
              unfold due
              rw [if_neg hr0, if_pos ⟨hr1, h3⟩]
            refine ⟨_, rfl, B.p, C, B.dx, _, _, rfl, L2.ob, TC.cl, TC.n5, flds_seen n B, _, rfl, B.sn, _, _, _, rfl, rfl, SqL.of L2.hs, atI_nat (v := V.ref a) (by rw [List.getElem?_map, ha]; rfl), a, _, rfl, .inl ⟨SqL.of sa2, fun q hq => ?_⟩⟩
            have nq : ∀ {x o}, H2 x = some o → x ≠ q := fun h => ne_of_none h hq
            have kl := keys_len I
            refine ⟨_, rfl, B.p, C, B.dx, _, _, rfl, uk (nq L2.ob) L2.ob, TC.cl, TC.n6, flds_looks n B, _, rfl, B.d, _, rfl, DPut.k (k := Sum.inl (i : Int)) (uk (nq L2.hd) L2.hd) (by rw [dictV_len L.lal]; exact small kl), ?_⟩
            have L3 := lev_leave (i := i) L2 hk hq (l := rd st.ps (pAt st.ps i))
            refine ⟨_, rfl, B.p, C, B.dx, _, _, rfl, L3.ob, TC.cl, TC.n6, flds_looks n B, _, rfl, B.d, V.ref q, rfl, ?_, ?_⟩
            · have g := DGet.k (k := Sum.inl (i : Int)) L3.hd
              rw [dictV_get (l := rd st.ps (pAt st.ps i)) (a := q) (j := st.lk.length) ?_ (by rw [List.getElem?_append_right (Nat.le_refl _), Nat.sub_self]; rfl) ?_] at g
              · exact g
              · rw [List.map_append]
                exact List.nodup_append.mpr ⟨I.nd, List.nodup_cons.mpr ⟨by simp, List.nodup_nil⟩, fun x hx y hy e => by
                  have := List.mem_singleton.mp hy
                  subst e; subst this; exact hk hx⟩
              · show (B.la ++ [q])[st.lk.length]? = some q
                rw [List.getElem?_append_right (by rw [L.lal]; exact Nat.le_refl _), L.lal, Nat.sub_self]; rfl
            · refine k i rfl hi hk _ { B with la := B.la ++ [q] } (.ref q) rfl ?_ (by rw [hd]; exact ⟨q, rfl, uk (fun z => nq L2.hd z.symm) upd_same⟩) (fun b o e hb => ?_) (fun x hx => .inl (by exact hx))
              · have e : stp n st i = ⟨st.ps.set i ⟨lo st.ps i, (pAt st.ps i).r + 1, rd st.ps (pAt st.ps i)⟩, st.lk ++ [(i, rd st.ps (pAt st.ps i))]⟩ := by unfold stp; rw [hd]; unfold nxt; rw [if_neg hr0]; rfl
                rw [e]; exact L3
              · have e2 := K2 b o e hb
                exact uk (fun z => hb (mem_mut.mpr (.inr (.inr (.inr (.inr (.inl z))))))) (uk (nq e2) e2)
      -- if self._cells[at - 1] <= self._low[name]
      have cr : lowsV st.ps = lowsV st.ps := rfl
      refine ⟨_, rfl, B.p, C, B.dx, _, _, rfl, o1, TC.cl, TC.n2, flds_cells n B, _, rfl, _, _, rfl, rfl, B.c, _, _, _, rfl, rfl, SqL.of (K1 _ _ L.hc ap.ct), (by rw [hidx]; exact atI_nat (lowsV_get (by omega))), _, rfl, B.p, C, B.dx, _, _, rfl, o1, TC.cl, TC.n3, flds_low n B, _, rfl, B.l, _, _, _, rfl, rfl, SqL.of (K1 _ _ L.hl ap.lt), atI_nat (lowsV_get hil), _, _, rfl, rfl, _, rfl, ?_⟩
      refine ite2 (fun c => ?_) (fun c => ?_)
      · have c' : lo st.ps (pAt st.ps i).r ≤ lo st.ps i := of_decide_eq_true c
        have erd : rd st.ps (pAt st.ps i) = (pAt st.ps i).seen ++ [(pAt st.ps i).r] := if_pos c'
        have sl := seen_len I hi
        have s1 := K1 _ _ L.hs (fun z => ap.ts z.symm)
        refine ⟨_, rfl, B.p, C, B.dx, _, _, rfl, o1, TC.cl, TC.n5, flds_seen n B, _, rfl, B.sn, _, _, V.ref a, rfl, rfl, SqL.of s1, atI_nat (v := V.ref a) (by rw [List.getElem?_map, ha]; rfl), tyl a1, _, rfl, _, _, rfl, rfl, a, _, _, rfl, rfl, a1, small (by rw [List.length_map]; exact sl), ?_⟩
        refine mid _ (lev_read L hn hi ha (uk (fun z => ap.ta (z ▸ List.mem_of_getElem? ha)) t1) (by rw [upd_same, erd]; simp [natV]) (fun b o e h1 h2 => uk h2 (K1 b o e h1))) (fun b o e hb => ?_) (fun b e => ?_)
        · have hm := fun z => hb (mem_mut.mpr z)
          exact uk (fun z => hm (.inr (.inr (.inr (.inr (.inr (z ▸ List.mem_of_getElem? ha))))))) (K1 b o e (fun z => hm (.inr (.inr (.inl z)))))
        · cases z : H b with
          | none => rfl
          | some o =>
            by_cases h1 : b = a
            · subst h1; rw [upd_same] at e; cases e
            · rw [upd_ne h1] at e
              by_cases h2 : b = B.t
              · subst h2; rw [t1] at e; cases e
              · rw [K1 b o z h2] at e; cases e
      · have c' : ¬ lo st.ps (pAt st.ps i).r ≤ lo st.ps i := fun z => c (decide_eq_true z)
        have erd : rd st.ps (pAt st.ps i) = (pAt st.ps i).seen := if_neg c'
        refine mid _ (lev_read L hn hi ha t1 (by rw [erd]; exact a1) (fun b o e h1 h2 => K1 b o e h1)) (fun b o e hb => K1 b o e (fun z => hb (mem_mut.mpr (.inr (.inr (.inl z)))))) (fun b e => ?_)
        cases z : H b with
        | none => rfl
        | some o =>
          by_cases h2 : b = B.t
          · subst h2; rw [t1] at e; cases e
          · rw [K1 b o z h2] at e; cases e
end
end K07
/-! levels_run. -/
namespace K07
open PySem PySem.Spec PyProof.Rows L2
/-- Levels(v), by what comes of it -/
theorem make_ok {C CB : Addr} {v : V} {H : Hp} {Q : VK} {E : XK} (hv : Flat v) (kE : goodL v = false → ∀ H' d, Same H H' → H' d = none → E (.ref CB) (some d) (errD H' d "word" (.str "size")))
    (k : ∀ n : Nat, v = .int n → 1 ≤ n → n ≤ 6 → ∀ H' B, LevAt C n H' B (init n) → Same H H' → (∀ a ∈ B.mut, H a = none) → H B.p = none → Q (.ref B.p) H') :
    ∀ x dx, H x = none → H dx = none → dx ≠ x → spInit C CB [.ref x, v] (upd (upd H dx (.own x)) x (.ins C dx [])) (fun u H2 => u = .non ∧ Q (.ref x) H2) E := by
  intro x dx hx hd hne
  have s1 : Same H (upd (upd H dx (.own x)) x (.ins C dx [])) := fun b o e => uk (ne_of_none e hx) (uk (ne_of_none e hd) e)
  refine ⟨x, dx, v, rfl, upd_same, hv, fun hg d hd' => kE hg _ d s1 hd', fun n e h1 h6 H' B hB L G hf => ⟨rfl, ?_⟩⟩
  subst hB
  exact k n e h1 h6 H' B L (fun b o e => G b o (s1 b o e) (ne_of_none e hx)) (fun a ha => s1.free (hf a ha)) hx
/-- a left name's look -/
def lookOf (s : Ls) (i : Nat) : List Nat := ((s.lk.find? fun q => decide (q.1 = i)).map (·.2)).getD []
theorem lookOf_at {s : Ls} (hn : (keys s).Nodup) {i : Nat} {l : List Nat} (h : (i, l) ∈ s.lk) : lookOf s i = l := by
  unfold lookOf keys at *
  generalize s.lk = lk at *
  induction lk with
  | nil => cases h
  | cons x r ih =>
    rw [List.map_cons, List.nodup_cons] at hn
    rcases List.mem_cons.mp h with e | h
    · subst e; simp
    · have hne : ¬ x.1 = i := fun e => hn.1 (by rw [e]; exact List.mem_map.mpr ⟨(i, l), h, rfl⟩)
      rw [List.find?_cons_of_neg (by simpa using hne)]
      exact ih hn.2 h
/-- the rows that levels_run hands back -/
def rowsOf (n : Nat) (s : Ls) : List (Nat × List Nat) := (goneL n s).map fun i => (i, lookOf s i)
/-- a tuple of pairs (name, look) -/
def RowsAt (H : Hp) (r : Addr) (rows : List (Nat × List Nat)) : Prop := ∃ as bs : List Addr, H r = some (.tup (as.map V.ref)) ∧ as.length = rows.length ∧ bs.length = rows.length ∧
  ∀ (j i : Nat) (l : List Nat) (a b : Addr), rows[j]? = some (i, l) → as[j]? = some a → bs[j]? = some b → H a = some (.tup [.int i, .ref b]) ∧ H b = some (.tup (natV l))
/-- what levels_run hands back -/
def RunV (H : Hp) (n : Nat) (s : Ls) (v : V) : Prop := ∃ q w r, v = .ref q ∧ H q = some (.tup [.ref w, .ref r]) ∧ H w = some (.tup (natV (wroteL n s))) ∧ RowsAt H r (rowsOf n s)
theorem RowsAt.same {H H' : Hp} {r : Addr} {rows : List (Nat × List Nat)} (h : RowsAt H r rows) (s : Same H H') : RowsAt H' r rows := by
  obtain ⟨as, bs, h1, h2, h3, h4⟩ := h
  exact ⟨as, bs, s _ _ h1, h2, h3, fun j i l a b e1 e2 e3 => ⟨s _ _ (h4 j i l a b e1 e2 e3).1, s _ _ (h4 j i l a b e1 e2 e3).2⟩⟩
theorem RunV.same {H H' : Hp} {n : Nat} {s : Ls} {v : V} (h : RunV H n s v) (e : Same H H') : RunV H' n s v := by
  obtain ⟨q, w, r, h1, h2, h3, h4⟩ := h
  exact ⟨q, w, r, h1, e _ _ h2, e _ _ h3, h4.same e⟩
theorem RowAt.same {H H' : Hp} {v : V} {xs : List V} (h : RowAt H v xs) (s : Same H H') : RowAt H' v xs := by
  obtain ⟨a, e, h⟩ := h
  exact ⟨a, e, h.imp (s _ _) (s _ _)⟩
theorem flat_nat {l : List Nat} : ∀ x ∈ natV l, Flat x := fun x h => by
  obtain ⟨j, _, rfl⟩ := List.mem_map.mp h
  exact .int _
/-- levels_run(v, u) -/
def spRun (CB CN : Addr) : Sp := fun vs H Q E => ∃ v u, vs = [v, u] ∧ Flat v ∧
  (goodL v = false → ∀ H' d, Same H H' → H' d = none → E (.ref CB) (some d) (errD H' d "word" (.str "size"))) ∧
  (goodL v = true → ∃ n : Nat, v = .int n ∧
    ((Flat u ∧ ∀ H' d, Same H H' → H' d = none → E (.ref CN) (some d) (errD H' d "name" (.int (-1)))) ∨
     (∃ xs x, RowAt H u xs ∧ (∀ x ∈ xs, Flat x) ∧ xs.find? (fun x => !nameOk n x) = some x ∧ ∀ H' d, Same H H' → H' d = none → E (.ref CN) (some d) (errD H' d "name" x)) ∨
     (∃ sc : List Nat, RowAt H u (natV sc) ∧ (∀ i ∈ sc, i < n) ∧ ∀ H' r, Same H H' → RunV H' n (runS n sc) r → Q r H')))
theorem runS_next {n : Nat} {sc : List Nat} {i x : Nat} (h : sc[i]? = some x) : runS n (sc.take (i + 1)) = go n (runS n (sc.take i)) x := by
  unfold runS
  rw [List.take_add_one, h, List.foldl_append]
  rfl
theorem inv_go {n : Nat} {s : Ls} {i : Nat} (I : Inv n s) (hi : i < n) : Inv n (go n s i) := by
  unfold go
  by_cases h : i ∈ keys s
  · rw [if_pos h]; exact I
  · rw [if_neg h]; exact inv_stp I hi h
theorem inv_run {n : Nat} (h : 1 ≤ n) {sc : List Nat} (hs : ∀ i ∈ sc, i < n) : Inv n (runS n sc) := by
  unfold runS
  have key : ∀ (sc : List Nat) (s : Ls), (∀ i ∈ sc, i < n) → Inv n s → Inv n (sc.foldl (go n) s) := by
    intro sc
    induction sc with
    | nil => intro s _ I; exact I
    | cons x r ih => intro s hs I; exact ih _ (fun i hi => hs i (List.mem_cons_of_mem _ hi)) (inv_go I (hs x List.mem_cons_self))
  exact key sc _ hs (inv_init h)
/-- a dict of looks that stands beside the object's own -/
structure DictAt (H : Hp) (d : Addr) (lk : List (Nat × List Nat)) (la : List Addr) : Prop where
  at_ : H d = some (.dK (dictV lk la))
  len : la.length = lk.length
  row : ∀ (j i : Nat) l a, lk[j]? = some (i, l) → la[j]? = some a → H a = some (.tup (natV l))
theorem DictAt.keep {H H' : Hp} {d : Addr} {lk : List (Nat × List Nat)} {la : List Addr} (D : DictAt H d lk la) (k1 : ∀ o, H d = some o → H' d = some o) (k2 : ∀ a xs, H a = some (.tup xs) → H' a = some (.tup xs)) : DictAt H' d lk la :=
  ⟨k1 _ D.at_, D.len, fun j i l a h1 h2 => k2 _ _ (D.row j i l a h1 h2)⟩
theorem DictAt.put {H : Hp} {d q : Addr} {lk : List (Nat × List Nat)} {la : List Addr} {i : Nat} {l : List Nat} (D : DictAt H d lk la) (hq : H q = some (.tup (natV l))) (hg : i ∉ lk.map (·.1)) :
    DictAt (upd H d (.dK (putK (dictV lk la) (Sum.inl (i : Int)) (.ref q)))) d (lk ++ [(i, l)]) (la ++ [q]) := by
  have hqd : q ≠ d := ne_of hq D.at_ (by intro z; cases z)
  refine ⟨by rw [upd_same, dictV_put D.len hg], by rw [List.length_append, List.length_append, D.len]; rfl, fun j x l' a h1 h2 => ?_⟩
  rw [List.getElem?_append] at h1 h2
  by_cases c : j < lk.length
  · rw [if_pos c] at h1
    rw [if_pos (by rw [D.len]; exact c)] at h2
    have h3 := D.row j x l' a h1 h2
    exact uk (ne_of h3 D.at_ (by intro z; cases z)) h3
  · rw [if_neg c] at h1
    rw [if_neg (by rw [D.len]; exact c), D.len] at h2
    cases z : j - lk.length with
    | zero =>
      rw [z] at h1 h2
      have e1 := Option.some.inj h1
      have e2 := Option.some.inj h2
      injection e1 with e3 e4
      subst e2; subst e4
      exact uk hqd hq
    | succ m => rw [z] at h1; simp at h1
theorem DictAt.get {H : Hp} {d : Addr} {lk : List (Nat × List Nat)} {la : List Addr} (D : DictAt H d lk la) (hn : (lk.map (·.1)).Nodup) {i : Nat} {l : List Nat} (h : (i, l) ∈ lk) : ∃ a, valV (dictV lk la) (Sum.inl (i : Int)) = some (.ref a) ∧ H a = some (.tup (natV l)) := by
  obtain ⟨j, hj⟩ := List.mem_iff_getElem?.mp h
  have hjl : j < la.length := by rw [D.len]; exact (List.getElem?_eq_some_iff.mp hj).1
  exact ⟨la[j], dictV_get hn hj (List.getElem?_eq_getElem hjl), D.row j i l _ hj (List.getElem?_eq_getElem hjl)⟩
/-- what a user of the class has -/
structure LevCl (w : World) (K : PySem.W.Frag) (mg : Str → Option Value) (base : Heap) (C CB CN : Addr) : Prop where
  gC : mg "Levels" = some (.ref C)
  tc : LevTxt K C
  make : ∃ f fd, Mk K C f ∧ Binds K fd ["self", "size"] [] ∧ FnOk PR w K mg base (L2.CX PR w) 4 f fd ["self", "size"] (spInit C CB)
  step : ∃ f fd, Meth K C "step" f ∧ Binds K fd ["self", "name"] [] ∧ FnOk PR w K mg base (L2.CX PR w) 3 f fd ["self", "name"] (spStep C CN)
  level : ∃ f fd, Meth K C "level" f ∧ Binds K fd ["self", "name"] [] ∧ FnOk PR w K mg base (L2.CX PR w) 3 f fd ["self", "name"] (spRead C CN valLow)
  taken : ∃ f fd, Meth K C "taken" f ∧ Binds K fd ["self", "name"] [] ∧ FnOk PR w K mg base (L2.CX PR w) 3 f fd ["self", "name"] (spRead C CN valTk)
  wrote : ∃ p f fd, PropOf K C "wrote" p f ∧ Binds K fd ["self"] [] ∧ FnOk PR w K mg base CX0 1 f fd ["self"] (spWho C wroteL)
  gone : ∃ p f fd, PropOf K C "gone" p f ∧ Binds K fd ["self"] [] ∧ FnOk PR w K mg base CX0 1 f fd ["self"] (spWho C goneL)
theorem flds_step (n : Nat) (B : LA) : (flds n B).lookup ("step" : Str) = none := by rfl
theorem flds_level (n : Nat) (B : LA) : (flds n B).lookup ("level" : Str) = none := by rfl
theorem flds_taken' (n : Nat) (B : LA) : (flds n B).lookup ("taken" : Str) = none := by rfl
theorem mem_goneL {n : Nat} {s : Ls} {i : Nat} : i ∈ goneL n s ↔ i < n ∧ i ∈ keys s := by
  simp [goneL]
theorem goneL_len (n : Nat) (s : Ls) : (goneL n s).length ≤ n := by
  unfold goneL
  exact Nat.le_trans (List.length_filter_le _ _) (by rw [List.length_range]; exact Nat.le_refl _)
section
variable {w : World} {K : PySem.W.Frag} {mg : Str → Option Value} {base : Heap}
theorem scRun : FnScope ["size", "schedule", "levels", "looks", "name", "look"] ["size", "schedule"] (defScope sRun) := ⟨rfl, rfl, rfl, by decide +kernel, rfl, by decide +kernel, by decide +kernel⟩
/-- what holds between two turns of a loop that steps an object and keeps its looks -/
structure LoopAt (C : Addr) (n : Nat) (H H' : Hp) (p d : Addr) (s : Ls) : Prop where
  lev : ∃ B : LA, B.p = p ∧ LevAt C n H' B s ∧ (∀ a ∈ B.mut, H a = none) ∧ d ∉ B.mut
  dict : ∃ la, DictAt H' d s.lk la
  inv : Inv n s
  same : Same H H'
  new : H d = none
/-- one step within such a loop: the object's step, and the store of its look -/
theorem LoopAt.step {C : Addr} {n : Nat} {H H1 H2 : Hp} {p d i : Addr} {s : Ls} {B B' : LA} {u : V} (L : LoopAt C n H H1 p d s) (hi : i < n) (hk : i ∉ keys s) (hBp : B.p = p) (hB : LevAt C n H1 B s) (hBf : ∀ a ∈ B.mut, H a = none) (hBd : d ∉ B.mut)
    (hp : B'.p = B.p) (L2 : LevAt C n H2 B' (stp n s i)) (hu : LookV H2 u (due n s.ps (pAt s.ps i))) (k : ∀ b o, H1 b = some o → b ∉ B.mut → H2 b = some o) (km : ∀ a ∈ B'.mut, a ∈ B.mut ∨ H1 a = none) :
    (u = .non → LoopAt C n H H2 p d (stp n s i)) ∧ (∀ a, u = .ref a → ∃ la, H2 d = some (.dK (dictV s.lk la)) ∧ la.length = s.lk.length ∧ LoopAt C n H (upd H2 d (.dK (putK (dictV s.lk la) (Sum.inl (i : Int)) (.ref a)))) p d (stp n s i)) ∧ (u = .non ∨ ∃ a, u = .ref a) := by
  obtain ⟨la, D⟩ := L.dict
  have D2 : DictAt H2 d s.lk la := D.keep (fun o e => k d o e hBd) (fun a xs e => k a _ e (hB.off e (fun _ z => nomatch z) (fun _ z => nomatch z)))
  have I2 : Inv n (stp n s i) := inv_stp L.inv hi hk
  have fr : ∀ a ∈ B'.mut, H a = none := fun a ha => (km a ha).elim (hBf a) (fun z => L.same.free z)
  have dn : d ∉ B'.mut := fun ha => (km d ha).elim hBd (fun z => by rw [D.at_] at z; cases z)
  have same2 : Same H H2 := fun b o e => k b o (L.same b o e) (fun hm => by rw [hBf b hm] at e; cases e)
  cases hd : due n s.ps (pAt s.ps i) with
  | none =>
    rw [hd] at hu
    have e : u = .non := hu
    have elk : (stp n s i).lk = s.lk := by unfold stp; rw [hd]; rfl
    refine ⟨fun _ => ⟨⟨B', hp.trans hBp, L2, fr, dn⟩, ⟨la, by rw [elk]; exact D2⟩, I2, same2, L.new⟩, fun a z => (by rw [e] at z; cases z), .inl e⟩
  | some l =>
    rw [hd] at hu
    obtain ⟨a, e, ha⟩ := hu
    have elk : (stp n s i).lk = s.lk ++ [(i, l)] := by unfold stp; rw [hd]; rfl
    refine ⟨fun z => (by rw [e] at z; cases z), fun a' z => ?_, .inr ⟨a, e⟩⟩
    have ea : a = a' := by rw [e] at z; exact V.ref.inj z
    subst ea
    have nd : ∀ {b o}, H2 b = some o → (∀ xs, o ≠ .dK xs) → b ≠ d := fun h1 h2 => ne_of h1 D2.at_ (h2 _)
    refine ⟨la, D2.at_, D2.len, ⟨⟨B', hp.trans hBp, ?_, fr, dn⟩, ⟨la ++ [a], by rw [elk]; exact D2.put ha hk⟩, I2, fun b o e => uk (ne_of_none e L.new) (same2 b o e), L.new⟩⟩
    have kk : ∀ b o, H2 b = some o → b ≠ d → upd H2 d (.dK (putK (dictV s.lk la) (Sum.inl (i : Int)) (.ref a))) b = some o := fun b o e hb => uk hb e
    have mm : ∀ {b}, b ∈ B'.mut → b ≠ d := fun hb z => dn (z ▸ hb)
    exact ⟨kk _ _ L2.ob (nd L2.ob (fun _ z => nomatch z)), kk _ _ L2.hc (mm (mem_mut.mpr (.inl rfl))), kk _ _ L2.hl (mm (mem_mut.mpr (.inr (.inl rfl)))), kk _ _ L2.ht (mm (mem_mut.mpr (.inr (.inr (.inl rfl))))), kk _ _ L2.hs (mm (mem_mut.mpr (.inr (.inr (.inr (.inl rfl)))))), L2.sal,
      fun j b hb => kk _ _ (L2.hsa j b hb) (mm (mem_mut.mpr (.inr (.inr (.inr (.inr (.inr (List.mem_of_getElem? hb)))))))), kk _ _ L2.hd (mm (mem_mut.mpr (.inr (.inr (.inr (.inr (.inl rfl))))))), L2.lal,
      fun j x l' b h1 h2 => kk _ _ (L2.hla j x l' b h1 h2) (nd (L2.hla j x l' b h1 h2) (fun _ z => nomatch z)), L2.nd⟩
end
end K07
/-! levels_run, the def. -/
namespace K07
open PySem PySem.Spec PyProof.Rows L2
section
variable {w : World} {K : PySem.W.Frag} {mg : Str → Option Value} {base : Heap}
/-- one turn of the loop of levels_run -/
theorem run_turn {C CN p d : Addr} {n : Nat} {H H1 : Hp} {s : Ls} {i : Nat} {v u : V} {z : Option V} {E : XK} {D : Ends} (h6 : n ≤ 6) (hi : i < n) (L : LoopAt C n H H1 p d s)
    (hn : ∀ z' H2, LoopAt C n H H2 p d (go n s i) → D.nx [some v, some u, some (.ref p), some (.ref d), some (.int i), z'] H2) :
    tIfS (tB (tDNotIn (tVar 4) (tVar 3))) (tSeq (tAsg (tMeth C "step" (spStep C CN) [] E (tVar 2) (tCons (tVar 4) tNil)) (gName 5)) (tIfS (tB (tNotN (tVar 5))) (sDPut (tVar 3) (tVar 4) (tVar 5)) tNext)) tNext D [some v, some u, some (.ref p), some (.ref d), some (.int i), z] H1 := by
  obtain ⟨la, DA⟩ := L.dict
  obtain ⟨B, hBp, hB, hBf, hBd⟩ := L.lev
  refine ⟨_, rfl, _, rfl, d, _, rfl, DGet.k (k := Sum.inl (i : Int)) DA.at_, _, rfl, ?_⟩
  rw [dictV_has L.inv.nd DA.len i]
  by_cases hk : i ∈ keys s
  · rw [show decide (i ∈ List.map (fun x => x.fst) s.lk) = true from decide_eq_true hk]
    refine iteF (hn z H1 ?_)
    unfold go; rw [if_pos hk]; exact L
  · rw [show decide (i ∈ List.map (fun x => x.fst) s.lk) = false from decide_eq_false hk]
    refine iteT ?_
    have eg : go n s i = stp n s i := if_neg hk
    rw [eg] at hn
    subst hBp
    refine ⟨_, rfl, B.p, B.dx, _, rfl, hB.ob, flds_step n B, _, rfl, B, n, s, .int i, rfl, hB, L.inv, h6, .int _, fun hg => ?_, fun j e _ hj => ?_, fun j e _ hj H2 B' r hp L2 hu k km => ?_⟩
    · rw [nameOk_lt hi] at hg; cases hg
    · injection e with e
      have : j = i := by omega
      subst this
      exact absurd hj hk
    · injection e with e
      have : j = i := by omega
      subst this
      obtain ⟨c1, c2, c3⟩ := L.step hi hk rfl hB hBf hBd hp L2 hu k km
      rcases c3 with e | ⟨a, e⟩
      · subst e
        refine ⟨_, rfl, _, rfl, ?_⟩
        refine iteF (hn _ _ (c1 rfl))
      · subst e
        obtain ⟨la', e1, e2, e3⟩ := c2 a rfl
        refine ⟨_, rfl, _, rfl, ?_⟩
        refine iteT ?_
        exact ⟨_, rfl, _, rfl, _, rfl, d, _, rfl, DPut.k (k := Sum.inl (j : Int)) e1 (by rw [dictV_len e2]; exact small (keys_len L.inv)), hn _ _ e3⟩
/-- what follows the loop of levels_run -/
theorem run_end {C p d fW fG : Addr} {n : Nat} {H H1 : Hp} {s : Ls} {v u : V} {z1 z2 : Option V} {D : Ends} (h6 : n ≤ 6) (L : LoopAt C n H H1 p d s) (hq : ∀ H' r, Same H H' → RunV H' n s r → D.rt r H') :
    tRet (tTup (tCons (tProp C (spWho C wroteL) [] E0 (tVar 2)) (tCons (tCB (fun xs H Q => ∃ p ys, xs = [.ref p] ∧ ((SqL K H p ys ∧ ∀ l, H l = none → Q (.ref l) (upd H l (.tup ys))) ∨ (SqT K H p ys ∧ Q (.ref p) H)))
      (tCons (tLc (iTup K (tProp C (spWho C goneL) [] E0 (tVar 2))) (gName 4) tYes (tTup (tCons (tVar 4) (tCons (tDGet (tVar 3) (tVar 4)) tNil))) [4]) tNil)) tNil))) D [some v, some u, some (.ref p), some (.ref d), z1, z2] H1 := by
  obtain ⟨la, DA⟩ := L.dict
  obtain ⟨B, hBp, hB, hBf, hBd⟩ := L.lev
  subst hBp
  refine ⟨_, rfl, B.p, B.dx, _, rfl, hB.ob, B, n, s, rfl, hB, L.inv.len, L.inv.nd, h6, fun H2 w s2 nw hw => ?_⟩
  refine ⟨_, rfl, B.p, B.dx, _, rfl, s2 _ _ hB.ob, B, n, s, rfl, ?_, L.inv.len, L.inv.nd, h6, fun H3 g s3 ng hg => ?_⟩
  · exact ⟨s2 _ _ hB.ob, s2 _ _ hB.hc, s2 _ _ hB.hl, s2 _ _ hB.ht, s2 _ _ hB.hs, hB.sal, fun i a h => s2 _ _ (hB.hsa i a h), s2 _ _ hB.hd, hB.lal, fun j i l a h1 h2 => s2 _ _ (hB.hla j i l a h1 h2), hB.nd⟩
  have s13 : Same H1 H3 := s2.trans s3
  have d3 := s13 _ _ DA.at_
  have gl := goneL_len n s
  refine ⟨g, rfl, ⟨_, SqT.of hg⟩, fun R hR => lc_tup (K := K) (a := g) (xs := natV (goneL n s)) (fun i H' => ∃ as bs : List Addr, as.length = i ∧ bs.length = i ∧ H' R = some (.lst (as.map V.ref)) ∧ Same H3 H' ∧
      ∀ (j x : Nat) (l : List Nat) (a b : Addr), j < i → (rowsOf n s)[j]? = some (x, l) → as[j]? = some a → bs[j]? = some b → H' a = some (.tup [.int x, .ref b]) ∧ H' b = some (.tup (natV l)))
    ⟨[], [], rfl, rfl, upd_same, same_upd hR, fun j x l a b hj => absurd hj (Nat.not_lt_zero _)⟩ (fun i H' _ ⟨_, _, _, _, _, s5, _⟩ => SqT.of (s5 _ _ hg)) ?_ ?_⟩
  · rintro i x H' hx ⟨as, bs, l1, l2, h1, s5, h2⟩
    obtain ⟨gi, hgi, rfl⟩ : ∃ gi, (goneL n s)[i]? = some gi ∧ x = .int gi := by
      rw [List.getElem?_map] at hx
      cases e : (goneL n s)[i]? with
      | none => rw [e] at hx; cases hx
      | some gi => rw [e] at hx; exact ⟨gi, rfl, (Option.some.inj hx).symm⟩
    have hmem := mem_goneL.mp (List.mem_of_getElem? hgi)
    obtain ⟨q, hq2, eq2⟩ := List.mem_map.mp hmem.2
    have hlk : (gi, q.2) ∈ s.lk := by rw [← eq2]; exact hq2
    have elook := lookOf_at L.inv.nd hlk
    obtain ⟨b, hb1, hb2⟩ := DA.get L.inv.nd hlk
    have hil : i < (goneL n s).length := (List.getElem?_eq_some_iff.mp hgi).1
    have hrow : (rowsOf n s)[i]? = some (gi, q.2) := by unfold rowsOf; rw [List.getElem?_map, hgi, ← elook]; rfl
    have gd := DGet.k (k := Sum.inl (gi : Int)) (s5 _ _ d3)
    rw [hb1] at gd
    refine ⟨rfl, yesI ⟨_, rfl, _, rfl, _, rfl, d, _, rfl, gd, by show 2 ≤ sizeLine; decide, fun t ht => ?_⟩⟩
    have nt : ∀ {y o}, H' y = some o → y ≠ t := fun h => ne_of_none h ht
    refine ⟨_, uk (nt h1) h1, by rw [List.length_map, l1]; exact small (m := 6) (by omega), as ++ [t], bs ++ [b], by simp [l1], by simp [l2], by rw [upd_same, List.map_append]; rfl, fun b' o e => ?_, fun j x l a b' hj hr ha hb => ?_⟩
    · exact uk (ne_of_none e hR) (uk (nt (s5 _ _ e)) (s5 _ _ e))
    · have tR : t ≠ R := (nt h1).symm
      have keepT : ∀ y xs, H' y = some (.tup xs) → upd (upd H' t (.tup [.int gi, .ref b])) R (.lst (as.map V.ref ++ [V.ref t])) y = some (.tup xs) := fun y xs h => uk (ne_of h h1 (by intro z; cases z)) (uk (nt h) h)
      by_cases c : j < i
      · rw [List.getElem?_append_left (by omega)] at ha hb
        have := h2 j x l a b' c hr ha hb
        exact ⟨keepT _ _ this.1, keepT _ _ this.2⟩
      · have ej : j = i := by omega
        subst ej
        rw [List.getElem?_append_right (by omega), l1, Nat.sub_self] at ha
        rw [List.getElem?_append_right (by omega), l2, Nat.sub_self] at hb
        have ea := Option.some.inj ha
        have eb := Option.some.inj hb
        subst ea; subst eb
        rw [hrow] at hr
        have er := Option.some.inj hr
        injection er with er1 er2
        subst er1; subst er2
        exact ⟨uk tR upd_same, keepT _ _ (s5 _ _ (s13 _ _ hb2))⟩
  · rintro H4 ⟨as, bs, l1, l2, h1, s5, h2⟩
    have hlr : (rowsOf n s).length = (natV (goneL n s)).length := by simp [rowsOf, natV]
    refine ⟨R, _, rfl, .inl ⟨SqL.of h1, fun r hr => ⟨by show 2 ≤ sizeLine; decide, fun t ht => ?_⟩⟩⟩
    have nr : ∀ {y o}, H4 y = some o → y ≠ r := fun h => ne_of_none h hr
    have s6 : Same H4 (upd (upd H4 r (.tup (as.map V.ref))) t (.tup [.ref w, .ref r])) := (same_upd hr).trans (same_upd ht)
    refine hq _ _ (((L.same.trans s13).trans s5).trans s6) ⟨t, w, r, rfl, upd_same, s6 _ _ (s5 _ _ (s3 _ _ hw)), as, bs, uk (ne_of_none upd_same ht) upd_same, by rw [l1, hlr], by rw [l2, hlr], fun j x l a b hr2 ha hb => ?_⟩
    have hj : j < (natV (goneL n s)).length := by rw [← hlr]; exact (List.getElem?_eq_some_iff.mp hr2).1
    have := h2 j x l a b hj hr2 ha hb
    exact ⟨s6 _ _ this.1, s6 _ _ this.2⟩
theorem ok_run {f fS C CB CN : Addr} {fd fdS : FuncData} (F : Fun K "levels_run" "levels_run" sRun f fd) (FS : Fun K "check_schedule" "check_schedule" sChkSch fS fdS) (gS : mg "check_schedule" = some (.ref fS)) (bS : Binds K fdS ["schedule", "size"] [])
    (GS : FnOk PR w K mg base (L2.CX PR w) 2 fS fdS ["schedule", "size"] (spChkSch CN)) (TL : LevCl w K mg base C CB CN) (T : Blt mg) :
    FnOk PR w K mg base (L2.CX PR w) 6 f fd ["size", "schedule"] (spRun CB CN) := by
  obtain ⟨fI, fdI, mI, bI, GI⟩ := TL.make
  obtain ⟨fT, fdT, mT, bT, GT⟩ := TL.step
  obtain ⟨pW, fW, fdW, mW, bW, GW⟩ := TL.wrote
  obtain ⟨pG, fG, fdG, mG, bG, GG⟩ := TL.gone
  refine F.okX scRun (fun vs H Q E h => ?_) (fun cdv A outer s H vs Q E hr h => ?_)
  · obtain ⟨v, u, rfl, _⟩ := h
    rfl
  · obtain ⟨v, u, rfl, hv, kB, kG⟩ := h
    have hu := hu_of hr
    have hr2 : Room 2 _ := hr.mono (by decide)
    have hr3 : Room 3 _ := hr.mono (by decide)
    -- the head of the body, whatever the row is
    have head : ∀ (rest : TS), (∀ n : Nat, v = .int n → 1 ≤ n → n ≤ 6 → ∀ H1 B, LevAt C n H1 B (init n) → Same H H1 → (∀ a ∈ B.mut, H a = none) → H B.p = none →
        tSeq (tDrop (tCall (spChkSch CN) [] E (tCons (tVar 1) (tCons (tVar 0) tNil)))) rest { nx := fun _ H' => Q .non H', rt := Q } [some v, some u, some (.ref B.p), none, none, none] H1) →
        tSeq (tAsg (tMake C (spInit C CB) [] E (tCons (tVar 0) tNil)) (gName 2)) (tSeq (tDrop (tCall (spChkSch CN) [] E (tCons (tVar 1) (tCons (tVar 0) tNil)))) rest) { nx := fun _ H' => Q .non H', rt := Q } (start ["size", "schedule", "levels", "looks", "name", "look"] [v, u]) H := fun rest hrest =>
      ⟨_, rfl, fun x dx hx hd hne => make_ok (Q := fun r H1 => tSeq (tDrop (tCall (spChkSch CN) [] E (tCons (tVar 1) (tCons (tVar 0) tNil)))) rest { nx := fun _ H' => Q .non H', rt := Q } [some v, some u, some r, none, none, none] H1) hv (fun hg => kB hg) (fun n e h1 h6 H1 B L s1 hf hp => hrest n e h1 h6 H1 B L s1 hf hp) x dx hx hd hne⟩
    by_cases hg : goodL v = true
    · obtain ⟨n, rfl, h⟩ := kG hg
      rcases h with ⟨hfu, kE⟩ | ⟨xs, x, hra, hfx, hfi, kE⟩ | ⟨sc, hra, hsc, k⟩
      · refine ⟨_, pss_cons (ps_set (i := 2) scRun.nd rfl (Or.inl rfl) (pe_make mI GI hr rfl TL.gC bI .nil (passes_call (W := fun cls d _ H => E cls d H) (takes_of rfl rfl rfl rfl) fun _ _ _ _ h => h) (pa_cons (pv 0) pa_nil)))
          (pss_cons (ps_expr (pe_call GS hr2 rfl gS FS.kp bS .nil (passes_call (W := fun cls d _ H => E cls d H) (takes_of rfl rfl rfl rfl) fun _ _ _ _ h => h) (pa_cons (pv 1) (pa_cons (pv 0) pa_nil)))) pss_never), head _ ?_⟩
        intro m e h1 h6 H1 B L s1 hf hp
        exact ⟨_, rfl, _, rfl, u, _, rfl, .inl ⟨hfu, fun H' d s2 hd => kE H' d (s1.trans s2) hd⟩⟩
      · refine ⟨_, pss_cons (ps_set (i := 2) scRun.nd rfl (Or.inl rfl) (pe_make mI GI hr rfl TL.gC bI .nil (passes_call (W := fun cls d _ H => E cls d H) (takes_of rfl rfl rfl rfl) fun _ _ _ _ h => h) (pa_cons (pv 0) pa_nil)))
          (pss_cons (ps_expr (pe_call GS hr2 rfl gS FS.kp bS .nil (passes_call (W := fun cls d _ H => E cls d H) (takes_of rfl rfl rfl rfl) fun _ _ _ _ h => h) (pa_cons (pv 1) (pa_cons (pv 0) pa_nil)))) pss_never), head _ ?_⟩
        intro m e h1 h6 H1 B L s1 hf hp
        refine ⟨_, rfl, _, rfl, u, _, rfl, .inr ⟨xs, hra.same s1, hfx, fun ha => ?_, fun y hy H' d s2 hd => ?_⟩⟩
        · have := List.find?_some hfi
          have h2 := List.all_eq_true.mp ha x (List.mem_of_find?_eq_some hfi)
          rw [h2] at this; cases this
        · rw [hfi] at hy
          have := Option.some.inj hy
          subst this
          exact kE H' d (s1.trans s2) hd
      · have hall : (natV sc).all (nameOk n) = true := List.all_eq_true.mpr fun x hx => by
          obtain ⟨j, hj, rfl⟩ := List.mem_map.mp hx
          exact nameOk_lt (hsc j hj)
        -- what follows the check
        have body : ∀ (m : Nat), V.int n = V.int m → ∀ H1 B, LevAt C m H1 B (init m) → Same H H1 → ∀ rest : TS, (1 ≤ m → m ≤ 6 → ∀ H2, Same H1 H2 → rest { nx := fun _ H' => Q .non H', rt := Q } [some (.int n), some u, some (.ref B.p), none, none, none] H2) → 1 ≤ m → m ≤ 6 →
            tSeq (tDrop (tCall (spChkSch CN) [] E (tCons (tVar 1) (tCons (tVar 0) tNil)))) rest { nx := fun _ H' => Q .non H', rt := Q } [some (.int n), some u, some (.ref B.p), none, none, none] H1 := by
          intro m e H1 B L s1 rest hrest h1 h6
          refine ⟨_, rfl, _, rfl, u, _, rfl, .inr ⟨natV sc, hra.same s1, flat_nat, fun _ H2 s2 => hrest h1 h6 H2 s2, fun y hy => ?_⟩⟩
          have h3 := List.find?_some hy
          have h2 := List.all_eq_true.mp hall y (List.mem_of_find?_eq_some hy)
          rw [h2] at h3; cases h3
        have start0 : ∀ (m : Nat), 1 ≤ m → ∀ H1 B H2 d, LevAt C m H1 B (init m) → Same H H1 → Same H1 H2 → (∀ a ∈ B.mut, H a = none) → H2 d = none → LoopAt C m H (upd H2 d (.dK [])) B.p d (runS m (sc.take 0)) := by
          intro m h1 H1 B H2 d L s1 s2 hf hd
          have s3 : Same H1 (upd H2 d (.dK [])) := s2.trans (same_upd hd)
          refine ⟨⟨B, rfl, ⟨s3 _ _ L.ob, s3 _ _ L.hc, s3 _ _ L.hl, s3 _ _ L.ht, s3 _ _ L.hs, L.sal, fun i a h => s3 _ _ (L.hsa i a h), s3 _ _ L.hd, L.lal, fun j i l a h1 h2 => s3 _ _ (L.hla j i l a h1 h2), L.nd⟩, hf, fun hm => ?_⟩, ⟨[], upd_same, rfl, fun j i l a h => by simp [runS, init] at h⟩, inv_init h1, s1.trans s3, (s1.trans s2).free hd⟩
          have : ∀ {o}, H1 d = some o → False := fun h => by rw [s2 _ _ h] at hd; cases hd
          rcases mem_mut.mp hm with e | e | e | e | e | e
          · exact this (e ▸ L.hc)
          · exact this (e ▸ L.hl)
          · exact this (e ▸ L.ht)
          · exact this (e ▸ L.hs)
          · exact this (e ▸ L.hd)
          · obtain ⟨i, hi⟩ := List.mem_iff_getElem?.mp e
            exact this (L.hsa i d hi)
        have scget : ∀ {i : Nat} {x : V}, (natV sc)[i]? = some x → ∃ j, sc[i]? = some j ∧ x = .int j ∧ j < n := fun {i x} hx => by
          rw [List.getElem?_map] at hx
          cases e : sc[i]? with
          | none => rw [e] at hx; cases hx
          | some j => rw [e] at hx; exact ⟨j, rfl, (Option.some.inj hx).symm, hsc j (List.mem_of_getElem? e)⟩
        obtain ⟨a, rfl, ht⟩ := id hra
        rcases ht with ht | ht
        · refine ⟨_, pss_cons (ps_set (i := 2) scRun.nd rfl (Or.inl rfl) (pe_make mI GI hr rfl TL.gC bI .nil (passes_call (W := fun cls d _ H => E cls d H) (takes_of rfl rfl rfl rfl) fun _ _ _ _ h => h) (pa_cons (pv 0) pa_nil)))
            (pss_cons (ps_expr (pe_call GS hr2 rfl gS FS.kp bS .nil (passes_call (W := fun cls d _ H => E cls d H) (takes_of rfl rfl rfl rfl) fun _ _ _ _ h => h) (pa_cons (pv 1) (pa_cons (pv 0) pa_nil))))
            (pss_cons (ps_set (i := 3) scRun.nd rfl (Or.inr rfl) pe_dnewK)
            (pss_cons (ps_for (passes_of rfl) rfl (pi_list (pv 1)) (pg_name (i := 4) scRun.nd rfl (Or.inl rfl))
              (pss_one (ps_if (pt_cmp (pc_dnotin hu (pv 4) (pv 3))) (pss_cons (ps_set (i := 5) scRun.nd rfl (Or.inl rfl) (pe_meth (pv 2) TL.tc.cl mT GT hr3 bT .nil (passes_call (W := fun cls d _ H => E cls d H) (takes_of rfl rfl rfl rfl) fun _ _ _ _ h => h) (pa_cons (pv 4) pa_nil)))
                (pss_one (ps_if (pt_cmp (pc_notN (pv 5))) (pss_one (ps_dput hu (pv 3) (pv 4) (pv 5) rfl)) pss_nil))) pss_nil)))
            (pss_one (ps_ret (pe_tup (pa_cons (pe_prop (pv 2) TL.tc.cl mW GW hr2 bW .nil pass0 rfl) (pa_cons (pe_callTy call_tuple_of (by rfl) T.tuple b_tuple (pa_cons (pe_lc (own := [("name", 4)]) (g := gName 4) (tt := tYes) rfl scRun.nd (pi_tup (pe_prop (pv 2) TL.tc.cl mG GG hr2 bG .nil pass0 rfl)) (blkOk_by (own := [("name", 4)]) (N := ["size", "schedule", "levels", "looks", "name", "look"]) (sc := defScope sRun) (by decide +kernel))
              (fun _ _ _ _ _ => pg_name (i := 4) scRun.nd rfl (Or.inl rfl)) (fun _ _ _ _ _ => pts_nil) (fun _ _ _ _ _ => pe_tup (pa_cons (pv 4) (pa_cons (pe_dget hu (pv 3) (pv 4) (fun _ _ => rfl)) pa_nil)))) pa_nil)) pa_nil)))))))), head _ ?_⟩
          intro m e h1 h6 H1 B L s1 hf hp
          refine body m e H1 B L s1 _ (fun h1 h6 H2 s2 => ?_) h1 h6
          have em : n = m := by injection e with e; omega
          subst em
          intro d hd
          refine ⟨_, rfl, a, rfl, ⟨_, SqL.of (((s1.trans s2).trans (same_upd hd)) _ _ ht)⟩, for_list (K := K) (a := a) (xs := natV sc) (fun i σ H3 => ∃ z1 z2, σ = [some (.int n), some (.ref a), some (.ref B.p), some (.ref d), z1, z2] ∧ LoopAt C n H H3 B.p d (runS n (sc.take i))) ⟨none, none, rfl, start0 n h1 H1 B H2 d L s1 s2 hf hd⟩ (fun i σ H3 _ ⟨_, _, _, L3⟩ => SqL.of (L3.same _ _ ht)) ?_ ?_⟩
          · rintro i x σ H3 hx ⟨z1, z2, rfl, L3⟩
            obtain ⟨j, hj, rfl, hjn⟩ := scget hx
            refine run_turn h6 hjn L3 fun z' H4 L4 => ⟨_, z', rfl, ?_⟩
            rw [runS_next hj]; exact L4
          · rintro σ H3 ⟨z1, z2, rfl, L3⟩
            rw [List.length_map, List.take_length] at L3
            exact run_end (fW := fW) (fG := fG) h6 L3 k
        · refine ⟨_, pss_cons (ps_set (i := 2) scRun.nd rfl (Or.inl rfl) (pe_make mI GI hr rfl TL.gC bI .nil (passes_call (W := fun cls d _ H => E cls d H) (takes_of rfl rfl rfl rfl) fun _ _ _ _ h => h) (pa_cons (pv 0) pa_nil)))
            (pss_cons (ps_expr (pe_call GS hr2 rfl gS FS.kp bS .nil (passes_call (W := fun cls d _ H => E cls d H) (takes_of rfl rfl rfl rfl) fun _ _ _ _ h => h) (pa_cons (pv 1) (pa_cons (pv 0) pa_nil))))
            (pss_cons (ps_set (i := 3) scRun.nd rfl (Or.inr rfl) pe_dnewK)
            (pss_cons (ps_for (passes_of rfl) rfl (pi_tup (pv 1)) (pg_name (i := 4) scRun.nd rfl (Or.inl rfl))
              (pss_one (ps_if (pt_cmp (pc_dnotin hu (pv 4) (pv 3))) (pss_cons (ps_set (i := 5) scRun.nd rfl (Or.inl rfl) (pe_meth (pv 2) TL.tc.cl mT GT hr3 bT .nil (passes_call (W := fun cls d _ H => E cls d H) (takes_of rfl rfl rfl rfl) fun _ _ _ _ h => h) (pa_cons (pv 4) pa_nil)))
                (pss_one (ps_if (pt_cmp (pc_notN (pv 5))) (pss_one (ps_dput hu (pv 3) (pv 4) (pv 5) rfl)) pss_nil))) pss_nil)))
            (pss_one (ps_ret (pe_tup (pa_cons (pe_prop (pv 2) TL.tc.cl mW GW hr2 bW .nil pass0 rfl) (pa_cons (pe_callTy call_tuple_of (by rfl) T.tuple b_tuple (pa_cons (pe_lc (own := [("name", 4)]) (g := gName 4) (tt := tYes) rfl scRun.nd (pi_tup (pe_prop (pv 2) TL.tc.cl mG GG hr2 bG .nil pass0 rfl)) (blkOk_by (own := [("name", 4)]) (N := ["size", "schedule", "levels", "looks", "name", "look"]) (sc := defScope sRun) (by decide +kernel))
              (fun _ _ _ _ _ => pg_name (i := 4) scRun.nd rfl (Or.inl rfl)) (fun _ _ _ _ _ => pts_nil) (fun _ _ _ _ _ => pe_tup (pa_cons (pv 4) (pa_cons (pe_dget hu (pv 3) (pv 4) (fun _ _ => rfl)) pa_nil)))) pa_nil)) pa_nil)))))))), head _ ?_⟩
          intro m e h1 h6 H1 B L s1 hf hp
          refine body m e H1 B L s1 _ (fun h1 h6 H2 s2 => ?_) h1 h6
          have em : n = m := by injection e with e; omega
          subst em
          intro d hd
          refine ⟨_, rfl, a, rfl, ⟨_, SqT.of (((s1.trans s2).trans (same_upd hd)) _ _ ht)⟩, for_tup (K := K) (a := a) (xs := natV sc) (fun i σ H3 => ∃ z1 z2, σ = [some (.int n), some (.ref a), some (.ref B.p), some (.ref d), z1, z2] ∧ LoopAt C n H H3 B.p d (runS n (sc.take i))) ⟨none, none, rfl, start0 n h1 H1 B H2 d L s1 s2 hf hd⟩ (fun i σ H3 _ ⟨_, _, _, L3⟩ => SqT.of (L3.same _ _ ht)) ?_ ?_⟩
          · rintro i x σ H3 hx ⟨z1, z2, rfl, L3⟩
            obtain ⟨j, hj, rfl, hjn⟩ := scget hx
            refine run_turn h6 hjn L3 fun z' H4 L4 => ⟨_, z', rfl, ?_⟩
            rw [runS_next hj]; exact L4
          · rintro σ H3 ⟨z1, z2, rfl, L3⟩
            rw [List.length_map, List.take_length] at L3
            exact run_end (fW := fW) (fG := fG) h6 L3 k
    · have hg' : goodL v = false := by simpa using hg
      refine ⟨_, pss_cons (ps_set (i := 2) scRun.nd rfl (Or.inl rfl) (pe_make mI GI hr rfl TL.gC bI .nil (passes_call (W := fun cls d _ H => E cls d H) (takes_of rfl rfl rfl rfl) fun _ _ _ _ h => h) (pa_cons (pv 0) pa_nil)))
        (pss_cons (ps_expr (pe_call GS hr2 rfl gS FS.kp bS .nil (passes_call (W := fun cls d _ H => E cls d H) (takes_of rfl rfl rfl rfl) fun _ _ _ _ h => h) (pa_cons (pv 1) (pa_cons (pv 0) pa_nil)))) pss_never), head _ ?_⟩
      intro n e h1 h6
      subst e
      rw [show goodL (V.int n) = true from decide_eq_true (by omega)] at hg'
      cases hg'
end
end K07
/-! The plain laws: what the looks are, what the blocks are, that all leave. -/
namespace K07
/-! ### looks -/
theorem look_law {n : Nat} {s : Ls} (I : Inv n s) {i : Nat} {l : List Nat} (h : (i, l) ∈ s.lk) :
    i < n ∧ lo s.ps i = (l.length : Int) ∧ l = below n s.ps (l.length : Int) ∧ i ∈ l ∧ 1 ≤ l.length ∧ l.length ≤ n ∧ tk n (pAt s.ps i) = ((n : Int) + 1 - (l.length : Int)) * ((n : Int) + 1) := by
  obtain ⟨a, b, c, d, e⟩ := I.lks i l h
  obtain ⟨l1, l2⟩ := I.lo1 i a
  obtain ⟨k, hk⟩ : ∃ k : Nat, lo s.ps i = (k : Int) := ⟨(lo s.ps i).toNat, by omega⟩
  have sb : l ⊆ below n s.ps (k : Int) := fun j hj => by
    rw [← c] at hj
    obtain ⟨x, y⟩ := I.sub i a j hj
    exact mem_below.mpr ⟨by omega, by omega⟩
  have as : l.Pairwise (· < ·) := by rw [← c]; exact I.asc i a
  have nl : l.Nodup := as.imp fun h => Nat.ne_of_lt h
  have f1 := (I.few k (by omega) (by omega)).1
  have f2 := nl.length_le_of_subset sb
  have ek : k = l.length := by omega
  subst ek
  have el := asc_full as (asc_below n s.ps _) sb (by omega)
  have hi : i ∈ l := by
    rw [← c]
    exact I.own i a e (by omega)
  refine ⟨a, hk, el, hi, List.length_pos_of_mem hi, by omega, ?_⟩
  have e2 : (pAt s.ps i).low = (l.length : Int) := hk
  unfold tk
  rw [e2, b]
  have e3 : ((n : Int) + 1 - (l.length : Int)) * ((n : Int) + 1) = ((n : Int) - (l.length : Int)) * ((n : Int) + 1) + ((n : Int) + 1) := by
    have : (n : Int) + 1 - (l.length : Int) = ((n : Int) - (l.length : Int)) + 1 := by omega
    rw [this, Int.add_mul, Int.one_mul]
  omega
theorem below_mono {n : Nat} {ps : List Pr} {k m : Int} (h : k ≤ m) : below n ps k ⊆ below n ps m := fun j hj => by
  obtain ⟨a, b⟩ := mem_below.mp hj
  exact mem_below.mpr ⟨a, Int.le_trans b h⟩
theorem look_sub {n : Nat} {s : Ls} (I : Inv n s) {i j : Nat} {l m : List Nat} (h1 : (i, l) ∈ s.lk) (h2 : (j, m) ∈ s.lk) (h : l.length ≤ m.length) : l ⊆ m := by
  have e1 := (look_law I h1).2.2.1
  have e2 := (look_law I h2).2.2.1
  rw [e1, e2]
  exact below_mono (by omega)
theorem look_same {n : Nat} {s : Ls} (I : Inv n s) {i j : Nat} {l m : List Nat} (h1 : (i, l) ∈ s.lk) (h2 : (j, m) ∈ s.lk) (h : l.length = m.length) : l = m := by
  have e1 := (look_law I h1).2.2.1
  have e2 := (look_law I h2).2.2.1
  rw [e1, e2, h]
theorem look_own {n : Nat} {s : Ls} (I : Inv n s) {i j : Nat} {l m : List Nat} (h1 : (i, l) ∈ s.lk) (h2 : (j, m) ∈ s.lk) (h : j ∈ l) : m ⊆ l := by
  have e1 := (look_law I h1).2.2.1
  have e2 := (look_law I h2).2.1
  rw [e1] at h
  have := (mem_below.mp h).2
  exact look_sub I h2 h1 (by omega)
/-! ### blocks -/
def newOf (seen l : List Nat) : List Nat := l.filter fun j => decide (j ∉ seen)
def blks : List Nat → List (List Nat) → List (List Nat)
  | _, [] => []
  | seen, l :: ls => newOf seen l :: blks l ls
def lastOf (seen : List Nat) (ls : List (List Nat)) : List Nat := ls.getLastD seen
/-- the looks, each once, by their lengths -/
def chain (n : Nat) (s : Ls) : List (List Nat) := ((List.range (n + 1)).filter fun k => s.lk.any fun p => p.2.length == k).map fun (k : Nat) => below n s.ps (k : Int)
def restL (n : Nat) (s : Ls) : List Nat := newOf (lastOf [] (chain n s)) (wroteL n s)
def blocksL (n : Nat) (s : Ls) : List (List Nat) := blks [] (chain n s) ++ if restL n s = [] then [] else [restL n s]
theorem chain_unique {n : Nat} {s : Ls} (I : Inv n s) {ls : List (List Nat)} (h1 : ls.Pairwise fun l m => l.length < m.length) (h2 : ∀ l, l ∈ ls ↔ ∃ i, (i, l) ∈ s.lk) : ls = chain n s := by
  have e : ls.map List.length = (List.range (n + 1)).filter fun k => s.lk.any fun p => p.2.length == k := by
    refine asc_ext (List.pairwise_map.mpr h1) (List.Pairwise.filter _ List.pairwise_lt_range) fun k => ?_
    simp only [List.mem_map, List.mem_filter, List.mem_range, List.any_eq_true, beq_iff_eq]
    constructor
    · rintro ⟨l, hl, rfl⟩
      obtain ⟨i, hi⟩ := (h2 l).mp hl
      have := (look_law I hi).2.2.2.2.2.1
      exact ⟨by omega, (i, l), hi, rfl⟩
    · rintro ⟨hk, ⟨i, l⟩, hi, rfl⟩
      exact ⟨l, (h2 l).mpr ⟨i, hi⟩, rfl⟩
  unfold chain
  rw [← e, List.map_map]
  conv => lhs; rw [← List.map_id ls]
  refine List.map_congr_left fun l hl => ?_
  obtain ⟨i, hi⟩ := (h2 l).mp hl
  exact (look_law I hi).2.2.1
theorem mem_chain {n : Nat} {s : Ls} (I : Inv n s) {l : List Nat} : l ∈ chain n s ↔ ∃ i, (i, l) ∈ s.lk := by
  unfold chain
  simp only [List.mem_map, List.mem_filter, List.mem_range, List.any_eq_true, beq_iff_eq]
  constructor
  · rintro ⟨k, ⟨_, ⟨i, m⟩, hi, rfl⟩, rfl⟩
    have := (look_law I hi).2.2.1
    exact ⟨i, by rw [← this]; exact hi⟩
  · rintro ⟨i, hi⟩
    have q := look_law I hi
    exact ⟨l.length, ⟨by have := q.2.2.2.2.2.1; omega, (i, l), hi, rfl⟩, q.2.2.1.symm⟩
theorem asc_chain {n : Nat} {s : Ls} (I : Inv n s) : (chain n s).Pairwise fun l m => l.length < m.length := by
  unfold chain
  refine List.pairwise_map.mpr (List.Pairwise.imp_of_mem (fun {j k} hj hk h => ?_) (List.Pairwise.filter _ (List.pairwise_lt_range (n := n + 1))))
  simp only [List.mem_filter, List.any_eq_true, beq_iff_eq] at hj hk
  obtain ⟨_, ⟨i1, l1⟩, h1, rfl⟩ := hj
  obtain ⟨_, ⟨i2, l2⟩, h2, rfl⟩ := hk
  rw [← (look_law I h1).2.2.1, ← (look_law I h2).2.2.1]
  exact h
theorem chain_len {n : Nat} {s : Ls} (n' : Nat) (h : n ≤ n') : (chain n s).length ≤ n' + 1 := by
  unfold chain
  rw [List.length_map]
  refine Nat.le_trans (List.length_filter_le _ _) ?_
  rw [List.length_range]
  omega
/-- what has come by the k-th block is the k-th look -/
theorem flat_blks : ∀ (ls : List (List Nat)) (seen : List Nat), seen.Nodup → (∀ l ∈ ls, seen ⊆ l) → (∀ l ∈ ls, l.Nodup) → ls.Pairwise (fun l m => l ⊆ m) → ∀ k l, ls[k]? = some l → (seen ++ ((blks seen ls).take (k + 1)).flatten).Perm l
  | [], _, _, _, _, _, k, l, h => by simp at h
  | m :: ls, seen, hn, hs, hd, hp, k, l, h => by
    obtain ⟨p1, p2⟩ := List.pairwise_cons.mp hp
    have hm : m.Nodup := hd m List.mem_cons_self
    have first : (seen ++ newOf seen m).Perm m := by
      refine (List.perm_ext_iff_of_nodup ?_ hm).mpr fun x => ?_
      · refine List.nodup_append.mpr ⟨hn, hm.filter _, fun a ha b hb e => ?_⟩
        subst e
        have := (List.mem_filter.mp hb).2
        simp at this
        exact this ha
      · rw [List.mem_append]
        constructor
        · rintro (h | h)
          · exact hs m List.mem_cons_self h
          · exact (List.mem_filter.mp h).1
        · intro h
          by_cases c : x ∈ seen
          · exact .inl c
          · exact .inr (List.mem_filter.mpr ⟨h, by simpa using c⟩)
    cases k with
    | zero =>
      have e : m = l := by simpa using h
      subst e
      simpa [blks] using first
    | succ k =>
      have h' : ls[k]? = some l := by simpa using h
      have ih := flat_blks ls m hm (fun x hx => p1 x hx) (fun x hx => hd x (List.mem_cons_of_mem _ hx)) p2 k l h'
      show (seen ++ ((newOf seen m :: blks m ls).take (k + 1 + 1)).flatten).Perm l
      rw [List.take_succ_cons, List.flatten_cons, ← List.append_assoc]
      exact (List.Perm.append_right _ first).trans ih
theorem blks_len : ∀ (ls : List (List Nat)) (seen : List Nat), (blks seen ls).length = ls.length
  | [], _ => rfl
  | l :: ls, seen => by show (blks l ls).length + 1 = _; rw [blks_len ls l]; rfl
theorem blks_at : ∀ (ls : List (List Nat)) (seen : List Nat) (k : Nat) (b : List Nat), (blks seen ls)[k]? = some b → ∃ l, ls[k]? = some l ∧ b = newOf ((seen :: ls)[k]?.getD []) l
  | [], _, k, b, h => by simp [blks] at h
  | l :: ls, seen, 0, b, h => by
    have : newOf seen l = b := by simpa [blks] using h
    exact ⟨l, rfl, this.symm⟩
  | l :: ls, seen, k + 1, b, h => by
    have h' : (blks l ls)[k]? = some b := by simpa [blks] using h
    obtain ⟨m, h1, h2⟩ := blks_at ls l k b h'
    exact ⟨m, by simpa using h1, by simpa using h2⟩
theorem nodup_chain {n : Nat} {s : Ls} (I : Inv n s) : ∀ l ∈ chain n s, l.Nodup ∧ l.Pairwise (· < ·) := fun l hl => by
  obtain ⟨i, hi⟩ := (mem_chain I).mp hl
  have e := (look_law I hi).2.2.1
  rw [e]
  exact ⟨nodup_below _ _ _, asc_below _ _ _⟩
theorem sub_chain {n : Nat} {s : Ls} (I : Inv n s) : (chain n s).Pairwise fun l m => l ⊆ m := by
  refine List.Pairwise.imp_of_mem (fun {l m} hl hm h => ?_) (asc_chain I)
  obtain ⟨i, hi⟩ := (mem_chain I).mp hl
  obtain ⟨j, hj⟩ := (mem_chain I).mp hm
  exact look_sub I hi hj (Nat.le_of_lt h)
/-- a left name in a block: its look is what has come so far -/
theorem block_law {n : Nat} {s : Ls} (I : Inv n s) {k : Nat} {b : List Nat} (hb : (blocksL n s)[k]? = some b) {i : Nat} (hi : i ∈ b) {l : List Nat} (hl : (i, l) ∈ s.lk) :
    (((blocksL n s).take (k + 1)).flatten).Perm l ∧ l.Pairwise (· < ·) := by
  have q := look_law I hl
  have hlc : l ∈ chain n s := (mem_chain I).mpr ⟨i, hl⟩
  unfold blocksL at hb ⊢
  rw [List.getElem?_append] at hb
  by_cases c : k < (blks [] (chain n s)).length
  · rw [if_pos c] at hb
    obtain ⟨m, hm, e⟩ := blks_at _ _ _ _ hb
    have pm := flat_blks (chain n s) [] List.nodup_nil (fun _ _ => List.nil_subset _) (fun l hl => (nodup_chain I l hl).1) (sub_chain I) k m hm
    rw [List.nil_append] at pm
    rw [List.take_append_of_le_length (by omega)]
    have hml : m ∈ chain n s := List.mem_of_getElem? hm
    obtain ⟨j, hj⟩ := (mem_chain I).mp hml
    rw [e] at hi
    have him := (List.mem_filter.mp hi).1
    have hin := (List.mem_filter.mp hi).2
    have e2 : l = m := by
      refine look_same I hl hj (Nat.le_antisymm ?_ ?_)
      · have s1 := look_own I hj hl him
        exact ((nodup_chain I l hlc).1).length_le_of_subset s1
      · refine Classical.byContradiction fun hc => ?_
        have lt : l.length < m.length := by omega
        -- l stands before m in the chain
        obtain ⟨x, hx⟩ := List.mem_iff_getElem?.mp hlc
        have hxk : x < k := by
          refine Classical.byContradiction fun hc2 => ?_
          have hxl := (List.getElem?_eq_some_iff.mp hx).1
          have hkl := (List.getElem?_eq_some_iff.mp hm).1
          by_cases e3 : x = k
          · subst e3; rw [hx] at hm; injection hm with hm; subst hm; omega
          · have := (List.pairwise_iff_getElem.mp (asc_chain I)) k x hkl hxl (by omega)
            rw [(List.getElem?_eq_some_iff.mp hm).2, (List.getElem?_eq_some_iff.mp hx).2] at this
            omega
        -- the one ahead of m holds i
        obtain ⟨p, hp⟩ : ∃ p, (([] : List Nat) :: chain n s)[k]? = some p ∧ l ⊆ p := by
          cases k with
          | zero => omega
          | succ k =>
            have hkl := (List.getElem?_eq_some_iff.mp hm).1
            refine ⟨(chain n s)[k], by simp, ?_⟩
            have hxl := (List.getElem?_eq_some_iff.mp hx).1
            rw [← (List.getElem?_eq_some_iff.mp hx).2]
            by_cases e3 : x = k
            · subst e3; exact fun _ h => h
            · exact (List.pairwise_iff_getElem.mp (sub_chain I)) x k hxl (by omega) (by omega)
        rw [hp.1] at hin
        simp at hin
        exact hin (hp.2 q.2.2.2.1)
    subst e2
    exact ⟨pm, (nodup_chain I l hlc).2⟩
  · exfalso
    rw [if_neg c] at hb
    by_cases hr : restL n s = []
    · rw [if_pos hr] at hb; simp at hb
    · rw [if_neg hr] at hb
      have e : b = restL n s := by
        have := List.mem_of_getElem? hb
        simpa using this
      subst e
      have hn := (List.mem_filter.mp hi).2
      simp at hn
      apply hn
      -- the last look holds all
      unfold lastOf
      cases hc : (chain n s).getLast? with
      | none =>
        rw [List.getLast?_eq_none_iff] at hc
        rw [hc] at hlc
        cases hlc
      | some m =>
        have : (chain n s).getLastD [] = m := by rw [List.getLastD_eq_getLast?, hc]; rfl
        rw [this]
        obtain ⟨x, hx⟩ := List.mem_iff_getElem?.mp hlc
        have hxl := (List.getElem?_eq_some_iff.mp hx).1
        rw [List.getLast?_eq_getElem?] at hc
        have hml := (List.getElem?_eq_some_iff.mp hc).1
        by_cases e3 : x = (chain n s).length - 1
        · rw [e3] at hx; rw [hx] at hc; injection hc with hc; subst hc; exact q.2.2.2.1
        · have := (List.pairwise_iff_getElem.mp (sub_chain I)) x _ hxl hml (by omega)
          rw [(List.getElem?_eq_some_iff.mp hx).2, (List.getElem?_eq_some_iff.mp hc).2] at this
          exact this q.2.2.2.1
/-! ### all leave -/
/-- once for each name that has not left -/
def rnd (n : Nat) (s : Ls) : Ls := (List.range n).foldl (go n) s
def rnds (n : Nat) : Nat → Ls → Ls
  | 0, s => s
  | k + 1, s => rnd n (rnds n k s)
theorem tk_bound {n : Nat} {s : Ls} (I : Inv n s) {i : Nat} (hi : i < n) (hg : i ∉ keys s) : tk n (pAt s.ps i) < (n : Int) * ((n : Int) + 1) := by
  obtain ⟨l1, l2⟩ := I.lo1 i hi
  have r1 := I.rle i hi
  have n1 := I.n1
  unfold tk
  have hlo : (pAt s.ps i).low = lo s.ps i := rfl
  rw [hlo]
  have mul : ∀ a b : Int, a ≤ b → a * ((n : Int) + 1) ≤ b * ((n : Int) + 1) := fun a b h => Int.mul_le_mul_of_nonneg_right h (by omega)
  by_cases h : (pAt s.ps i).r = n
  · have h2 := low_two I hi hg h
    have m := mul ((n : Int) - lo s.ps i) ((n : Int) - 2) (by omega)
    have e : ((n : Int) - 2) * ((n : Int) + 1) + 2 * ((n : Int) + 1) = (n : Int) * ((n : Int) + 1) := by
      rw [← Int.add_mul]; congr 1; omega
    omega
  · have m := mul ((n : Int) - lo s.ps i) ((n : Int) - 1) (by omega)
    have e : ((n : Int) - 1) * ((n : Int) + 1) + 1 * ((n : Int) + 1) = (n : Int) * ((n : Int) + 1) := by
      rw [← Int.add_mul]; congr 1; omega
    omega
theorem tk_nxt {n : Nat} {s : Ls} (I : Inv n s) {i : Nat} : tk n (nxt n s.ps (pAt s.ps i)) = tk n (pAt s.ps i) + 1 := by
  unfold nxt
  by_cases h : (pAt s.ps i).r = n
  · rw [if_pos h]
    unfold tk
    rw [h]
    show ((n : Int) - ((pAt s.ps i).low - 1)) * ((n : Int) + 1) + 1 + ((0 : Nat) : Int) = _
    have : (n : Int) - ((pAt s.ps i).low - 1) = ((n : Int) - (pAt s.ps i).low) + 1 := by omega
    rw [this, Int.add_mul, Int.one_mul]
    omega
  · rw [if_neg h]
    unfold tk
    show ((n : Int) - (pAt s.ps i).low) * ((n : Int) + 1) + 1 + (((pAt s.ps i).r + 1 : Nat) : Int) = _
    omega
theorem keys_go {n : Nat} {s : Ls} {i j : Nat} (h : j ∈ keys s) : j ∈ keys (go n s i) := by
  unfold go
  split
  · exact h
  · show j ∈ (addL s.lk i _).map (·.1)
    unfold addL
    split
    · exact h
    · rw [List.map_append]; exact List.mem_append_left _ h
theorem tk_go {n : Nat} {s : Ls} (I : Inv n s) {i j : Nat} (hi : i < n) (hj : j < n) (hg : j ∉ keys (go n s i)) : tk n (pAt (go n s i).ps j) = if j = i then tk n (pAt s.ps j) + 1 else tk n (pAt s.ps j) := by
  have hg0 : j ∉ keys s := fun h => hg (keys_go h)
  by_cases hk : i ∈ keys s
  · have e : go n s i = s := if_pos hk
    rw [e]
    have ne : j ≠ i := fun h => hg0 (h ▸ hk)
    rw [if_neg ne]
  · have e : go n s i = stp n s i := if_neg hk
    rw [e]
    show tk n (pAt (s.ps.set i (nxt n s.ps (pAt s.ps i))) j) = _
    rw [pAt_set (by rw [I.len]; exact hi)]
    by_cases c : j = i
    · subst c; rw [if_pos rfl, if_pos rfl]; exact tk_nxt I
    · rw [if_neg c, if_neg c]
theorem rnd_take {n : Nat} {s : Ls} (I : Inv n s) : ∀ m, m ≤ n → Inv n ((List.range m).foldl (go n) s) ∧ (∀ j, j ∈ keys s → j ∈ keys ((List.range m).foldl (go n) s)) ∧
    ∀ j, j < n → j ∉ keys ((List.range m).foldl (go n) s) → tk n (pAt ((List.range m).foldl (go n) s).ps j) = tk n (pAt s.ps j) + if j < m then 1 else 0
  | 0, _ => ⟨I, fun _ h => h, fun j _ _ => by simp⟩
  | m + 1, hm => by
    obtain ⟨a, b, c⟩ := rnd_take I m (by omega)
    rw [List.range_succ, List.foldl_append]
    show Inv n (go n _ m) ∧ (∀ j, j ∈ keys s → j ∈ keys (go n _ m)) ∧ ∀ j, j < n → j ∉ keys (go n _ m) → tk n (pAt (go n _ m).ps j) = _
    refine ⟨inv_go a (by omega), fun j h => keys_go (b j h), fun j hj hg => ?_⟩
    rw [tk_go a (by omega) hj hg, c j hj (fun h => hg (keys_go h))]
    by_cases e : j = m
    · subst e; simp
    · by_cases e2 : j < m
      · rw [if_neg e, if_pos e2, if_pos (by omega)]
      · rw [if_neg e, if_neg e2, if_neg (by omega)]
theorem rnds_law {n : Nat} {s : Ls} (I : Inv n s) : ∀ k, Inv n (rnds n k s) ∧ ∀ j, j < n → j ∉ keys (rnds n k s) → (k : Int) ≤ tk n (pAt (rnds n k s).ps j)
  | 0 => ⟨I, fun j hj hg => by
    have l := I.lo1 j hj
    have t := I.top j hj
    show ((0 : Nat) : Int) ≤ tk n (pAt s.ps j)
    unfold tk
    have hlo : (pAt s.ps j).low = lo s.ps j := rfl
    rw [hlo]
    by_cases h : lo s.ps j = (n : Int) + 1
    · rw [t h, h]
      have : (n : Int) - ((n : Int) + 1) = -1 := by omega
      rw [this]
      omega
    · have : 0 ≤ ((n : Int) - lo s.ps j) * ((n : Int) + 1) := Int.mul_nonneg (by omega) (by omega)
      omega⟩
  | k + 1 => by
    obtain ⟨a, b⟩ := rnds_law I k
    obtain ⟨c, d, e⟩ := rnd_take a n (Nat.le_refl _)
    refine ⟨c, fun j hj hg => ?_⟩
    have h0 : j ∉ keys (rnds n k s) := fun h => hg (d j h)
    have h1 := b j hj h0
    have h2 := e j hj hg
    rw [if_pos hj] at h2
    show ((k + 1 : Nat) : Int) ≤ tk n (pAt ((List.range n).foldl (go n) (rnds n k s)).ps j)
    rw [h2]
    omega
theorem all_left {n : Nat} {s : Ls} (I : Inv n s) : (rnds n (n * (n + 1)) s).lk.length = n := by
  obtain ⟨a, b⟩ := rnds_law I (n * (n + 1))
  have h1 : ∀ j, j < n → j ∈ keys (rnds n (n * (n + 1)) s) := fun j hj => by
    refine Classical.byContradiction fun hg => ?_
    have h2 := b j hj hg
    have h3 := tk_bound a hj hg
    have e : ((n * (n + 1) : Nat) : Int) = (n : Int) * ((n : Int) + 1) := by
      rw [Int.natCast_mul]; rfl
    omega
  have h2 := (List.nodup_range (n := n)).length_le_of_subset (fun j hj => h1 j (List.mem_range.mp hj))
  have h3 := keys_len a
  rw [List.length_range] at h2
  have h4 : (keys (rnds n (n * (n + 1)) s)).length = (rnds n (n * (n + 1)) s).lk.length := List.length_map _
  omega
/-! ### the names that left, in order -/
theorem asc_goneL (n : Nat) (s : Ls) : (goneL n s).Pairwise (· < ·) := List.Pairwise.filter _ List.pairwise_lt_range
theorem le_asc {l : List Nat} (h1 : l.Pairwise fun (a b : Nat) => (a : Int) ≤ (b : Int)) (h2 : l.Nodup) : l.Pairwise (· < ·) := (List.Pairwise.and h1 h2).imp fun {a b} h => by
  obtain ⟨h3, h4⟩ := h
  have : a ≠ b := h4
  omega
theorem gone_perm {n : Nat} {s : Ls} (I : Inv n s) : (goneL n s).Perm (keys s) := by
  refine (List.perm_ext_iff_of_nodup ((asc_goneL n s).imp fun h => Nat.ne_of_lt h) I.nd).mpr fun j => ?_
  rw [mem_goneL]
  refine ⟨fun h => h.2, fun h => ⟨?_, h⟩⟩
  obtain ⟨p, hp, e⟩ := List.mem_map.mp h
  subst e
  exact (I.lks p.1 p.2 hp).1
theorem sorted_is {l m : List Nat} (p : l.Perm m) (hs : l.Pairwise fun (a b : Nat) => (a : Int) ≤ (b : Int)) (hm : m.Pairwise (· < ·)) : l = m :=
  asc_ext (le_asc hs (p.nodup_iff.mpr (hm.imp fun h => Nat.ne_of_lt h))) hm fun x => p.mem_iff
end K07
/-! levels_blocks: its loops. -/
namespace K07
open PySem PySem.Spec PyProof.Rows L2
theorem flat_natV (l : List Nat) : (natV l).all flatV = true := by
  induction l with
  | nil => rfl
  | cons x l ih =>
    show (flatV (V.int (x : Int)) && (natV l).all flatV) = true
    rw [ih]; rfl
theorem inV_nat (j : Nat) : ∀ l : List Nat, inV (.int (j : Int)) (natV l) = decide (j ∈ l)
  | [] => by simp [inV]
  | x :: l => by
    have ih := inV_nat j l
    unfold inV at ih ⊢
    show (eqV (V.int (x : Int)) (V.int (j : Int)) || (natV l).any fun y => eqV y (V.int (j : Int))) = _
    rw [ih]
    have e : eqV (V.int (x : Int)) (V.int (j : Int)) = decide (j = x) := by
      show ((x : Int) == (j : Int)) = _
      by_cases h : j = x
      · subst h; simp
      · have : ¬ (x : Int) = (j : Int) := by omega
        simp [h, this]
    rw [e]
    by_cases h : j = x <;> simp [h]
theorem newOf_next {seen l : List Nat} {i j : Nat} (h : l[i]? = some j) : natV (newOf seen (l.take (i + 1))) = if decide (j ∈ seen) = true then natV (newOf seen (l.take i)) else natV (newOf seen (l.take i)) ++ [V.int (j : Int)] := by
  rw [List.take_add_one, h]
  unfold newOf
  rw [List.filter_append]
  by_cases c : j ∈ seen
  · simp [c]
  · simp [c, natV]
theorem newOf_len (seen l : List Nat) (i : Nat) : (natV (newOf seen (l.take i))).length ≤ l.length := by
  rw [List.length_map]
  refine Nat.le_trans (List.length_filter_le _ _) ?_
  rw [List.length_take]
  omega
/-- the names of a row that are not in another one -/
theorem lc_new {K : PySem.W.Frag} {v0 v1 v2 v3 v5 v6 v7 v8 v9 : Option V} {a sa D : Addr} {l seen : List Nat} {H1 : Hp} {Qd : Hp → Prop} (hD : H1 D = none) (ha : H1 a = some (.tup (natV l))) (hs : H1 sa = some (.tup (natV seen))) (hl : l.length ≤ 100)
    (hd : Qd (upd H1 D (.lst (natV (newOf seen l))))) :
    ∃ W : Nat → Nat → Hp → Prop, (∃ m, W 0 m (upd H1 D (.lst []))) ∧ ∀ i m H, W i m H →
      ((Itt K a).stop i H ∧ Qd H) ∨ ((Itt K a).go i H ∧ ∃ Nx : Hp → Prop, (∀ H', Nx H' → ∃ m', m' < m ∧ W (i + 1) m' H') ∧ ∀ x H', (Itt K a).yld i H x H' → gName 8 x (wipe [v0, v1, v2, v3, some (.ref sa), v5, v6, v7, v8, v9] [8]) H' fun σ2 H2 => wipe σ2 [8] = wipe [v0, v1, v2, v3, some (.ref sa), v5, v6, v7, v8, v9] [8] ∧
        tTest (tOp (rIn K true) (tVar 8) (tVar 4)) σ2 H2 fun b H3 => if b = true then tVar 8 σ2 H3 fun y H4 => ∃ acc, H4 D = some (.lst acc) ∧ acc.length < sizeLine ∧ Nx (upd H4 D (.lst (acc ++ [y]))) else Nx H3) := by
  have sm : ∀ o, Same H1 (upd H1 D o) := fun o => same_upd hD
  refine lc_tup (K := K) (a := a) (xs := natV l) (fun i H => H = upd H1 D (.lst (natV (newOf seen (l.take i))))) rfl (fun i H _ e => by subst e; exact SqT.of (sm _ _ _ ha)) ?_ ?_
  · rintro i x H hx rfl
    obtain ⟨j, hj, rfl⟩ : ∃ j, l[i]? = some j ∧ x = .int j := by
      rw [List.getElem?_map] at hx
      cases e : l[i]? with
      | none => rw [e] at hx; cases hx
      | some j => rw [e] at hx; exact ⟨j, rfl, (Option.some.inj hx).symm⟩
    have nx := newOf_next (seen := seen) hj
    refine ⟨rfl, _, rfl, _, rfl, sa, natV seen, rfl, .inr (SqT.of (sm _ _ _ hs)), rfl, flat_natV _, _, rfl, ?_⟩
    show if (!inV (V.int (j : Int)) (natV seen)) = true then _ else _
    rw [inV_nat]
    by_cases c : j ∈ seen
    · rw [if_pos (decide_eq_true c)] at nx
      rw [decide_eq_true c]
      refine iteF ?_
      rw [nx]
    · rw [if_neg (by simpa using c)] at nx
      rw [decide_eq_false c]
      refine iteT ?_
      refine ⟨_, rfl, _, upd_same, small (Nat.le_trans (newOf_len _ _ _) hl), ?_⟩
      rw [upd_upd, nx]
  · rintro H rfl
    rw [List.length_map, List.take_length]
    exact hd
/-- a look as a pair -/
def qOf (l : List Nat) : QI := ((l.length : Int), l.map fun (j : Nat) => (j : Int))
theorem qOf_inj {l m : List Nat} (h : qOf l = qOf m) : l = m := by
  have h2 := congrArg Prod.snd h
  unfold qOf at h2
  exact (List.map_inj_right (fun x y e => by omega)).mp h2
/-- the tuple at q is the pair (len(l), l) -/
def PairN (H : Hp) (q : Addr) (l : List Nat) : Prop := ∃ b, H q = some (.tup [.int (l.length : Int), .ref b]) ∧ H b = some (.tup (natV l))
theorem PairN.same {H H' : Hp} {q : Addr} {l : List Nat} (h : PairN H q l) (s : Same H H') : PairN H' q l := by
  obtain ⟨b, h1, h2⟩ := h
  exact ⟨b, s _ _ h1, s _ _ h2⟩
theorem PairN.v {K : PySem.W.Frag} {H : Hp} {q : Addr} {l : List Nat} (h : PairN H q l) : PairV K H q (qOf l) := by
  obtain ⟨b, h1, h2⟩ := h
  refine ⟨b, SqT.of h1, SqT.of ?_⟩
  unfold qOf
  rw [List.map_map]
  exact h2
/-- pairs of looks -/
def PairsAt (H : Hp) (ks : QL) (ls : List (List Nat)) : Prop := ks.map (·.2) = ls.map qOf ∧ ∀ p ∈ ks, ∃ l ∈ ls, p.2 = qOf l ∧ PairN H p.1 l
theorem PairsAt.same {H H' : Hp} {ks : QL} {ls : List (List Nat)} (h : PairsAt H ks ls) (s : Same H H') : PairsAt H' ks ls :=
  ⟨h.1, fun p hp => let ⟨l, hl, e, n⟩ := h.2 p hp; ⟨l, hl, e, n.same s⟩⟩
theorem PairsAt.len {H : Hp} {ks : QL} {ls : List (List Nat)} (h : PairsAt H ks ls) : ks.length = ls.length := by
  have := congrArg List.length h.1
  simpa using this
/-- the sorted ones are the chain -/
theorem pairs_chain {n : Nat} {s : Ls} (I : Inv n s) {H : Hp} {ks L L' : QL} {ls : List (List Nat)} (h : PairsAt H ks ls) (hm : ∀ l, l ∈ ls ↔ ∃ i, (i, l) ∈ s.lk) (h1 : ∀ p ∈ L, p ∈ ks) (h2 : ∀ p ∈ ks, p.2 ∈ L.map (·.2)) (pm : L'.Perm L) (ps : L'.Pairwise fun q r => q.2.1 < r.2.1) :
    PairsAt H L' (chain n s) := by
  have sub : ∀ M : QL, (∀ p ∈ M, p ∈ ks) → ∃ ms : List (List Nat), M.map (·.2) = ms.map qOf ∧ ∀ l ∈ ms, l ∈ ls := by
    intro M
    induction M with
    | nil => intro _; exact ⟨[], rfl, fun l hl => (by cases hl)⟩
    | cons p M ih =>
      intro hM
      obtain ⟨ms, e, hms⟩ := ih fun q hq => hM q (List.mem_cons_of_mem _ hq)
      obtain ⟨l, hl, e2, _⟩ := h.2 p (hM p List.mem_cons_self)
      refine ⟨l :: ms, by rw [List.map_cons, List.map_cons, e, e2], fun m hm => ?_⟩
      rcases List.mem_cons.mp hm with e3 | hm
      · rw [e3]; exact hl
      · exact hms m hm
  obtain ⟨ms, em, hms⟩ := sub L' fun p hp => h1 p (pm.mem_iff.mp hp)
  have ec : ms = chain n s := by
    refine chain_unique I ?_ fun l => ⟨fun hl => (hm l).mp (hms l hl), fun hl => ?_⟩
    · have p1 : (L'.map (·.2)).Pairwise fun q r => q.1 < r.1 := List.pairwise_map.mpr ps
      rw [em] at p1
      refine (List.pairwise_map.mp p1).imp fun {l m} h => ?_
      have h' : (l.length : Int) < (m.length : Int) := h
      omega
    · have hl2 := (hm l).mpr hl
      have m1 : qOf l ∈ ks.map (·.2) := by rw [h.1]; exact List.mem_map.mpr ⟨l, hl2, rfl⟩
      obtain ⟨p, hp, e⟩ := List.mem_map.mp m1
      have m2 := h2 p hp
      rw [e] at m2
      have m3 : qOf l ∈ L'.map (·.2) := (pm.map (·.2)).mem_iff.mpr m2
      rw [em] at m3
      obtain ⟨m, hm2, e2⟩ := List.mem_map.mp m3
      rw [← qOf_inj e2]
      exact hm2
  subst ec
  refine ⟨em, fun p hp => ?_⟩
  obtain ⟨l, hl, e, hn⟩ := h.2 p (h1 p (pm.mem_iff.mp hp))
  refine ⟨l, ?_, e, hn⟩
  have m3 : qOf l ∈ L'.map (·.2) := List.mem_map.mpr ⟨p, hp, e⟩
  rw [em] at m3
  obtain ⟨m, hm2, e2⟩ := List.mem_map.mp m3
  rw [← qOf_inj e2]
  exact hm2
theorem pairs_at {H : Hp} {ks : QL} {ls : List (List Nat)} (h : PairsAt H ks ls) {i : Nat} {p : Addr × QI} (hp : ks[i]? = some p) : ∃ l, ls[i]? = some l ∧ PairN H p.1 l := by
  obtain ⟨l, _, e, n⟩ := h.2 p (List.mem_of_getElem? hp)
  have e1 : (ks.map (·.2))[i]? = some p.2 := by rw [List.getElem?_map, hp]; rfl
  rw [h.1, List.getElem?_map] at e1
  obtain ⟨m, hm, e2⟩ := Option.map_eq_some_iff.mp e1
  refine ⟨m, hm, ?_⟩
  have : m = l := qOf_inj (e2.trans e)
  rw [this]
  exact n
/-- a tuple of tuples of names -/
def TupsAt (H : Hp) (as : List Addr) (bs : List (List Nat)) : Prop := as.length = bs.length ∧ ∀ (j : Nat) b a, bs[j]? = some b → as[j]? = some a → H a = some (.tup (natV b))
theorem TupsAt.keep {H H' : Hp} {as : List Addr} {bs : List (List Nat)} (h : TupsAt H as bs) (k : ∀ a xs, H a = some (.tup xs) → H' a = some (.tup xs)) : TupsAt H' as bs := ⟨h.1, fun j b a e1 e2 => k _ _ (h.2 j b a e1 e2)⟩
theorem TupsAt.snoc {H : Hp} {as : List Addr} {bs : List (List Nat)} {a : Addr} {b : List Nat} (h : TupsAt H as bs) (e : H a = some (.tup (natV b))) : TupsAt H (as ++ [a]) (bs ++ [b]) := by
  refine ⟨by simp [h.1], fun j c x h1 h2 => ?_⟩
  rw [List.getElem?_append] at h1 h2
  by_cases q : j < bs.length
  · rw [if_pos q] at h1
    rw [if_pos (by rw [h.1]; exact q)] at h2
    exact h.2 j c x h1 h2
  · rw [if_neg q] at h1
    rw [if_neg (by rw [h.1]; exact q), h.1] at h2
    cases z : j - bs.length with
    | zero =>
      rw [z] at h1 h2
      have e1 : b = c := Option.some.inj h1
      have e2 : a = x := Option.some.inj h2
      rw [← e1, ← e2]; exact e
    | succ m => rw [z] at h1; simp at h1
def BlkV (H : Hp) (v : V) (bs : List (List Nat)) : Prop := ∃ q as, v = .ref q ∧ H q = some (.tup (as.map V.ref)) ∧ TupsAt H as bs
theorem rows_mem {n : Nat} {s : Ls} (I : Inv n s) (l : List Nat) : l ∈ (rowsOf n s).map (·.2) ↔ ∃ i, (i, l) ∈ s.lk := by
  unfold rowsOf
  rw [List.map_map]
  constructor
  · intro h
    obtain ⟨i, hi, e⟩ := List.mem_map.mp h
    obtain ⟨p, hp, e2⟩ := List.mem_map.mp (mem_goneL.mp hi).2
    refine ⟨i, ?_⟩
    have : lookOf s i = p.2 := lookOf_at I.nd (by rw [← e2]; exact hp)
    have e3 : lookOf s i = l := e
    rw [← e3, this, ← e2]
    exact hp
  · rintro ⟨i, hi⟩
    refine List.mem_map.mpr ⟨i, mem_goneL.mpr ⟨(look_law I hi).1, List.mem_map.mpr ⟨(i, l), hi, rfl⟩⟩, lookOf_at I.nd hi⟩
theorem rows_len {n : Nat} {s : Ls} : (rowsOf n s).length ≤ n := by
  unfold rowsOf
  rw [List.length_map]
  exact goneL_len n s
theorem blks_snoc : ∀ (ls : List (List Nat)) (seen l : List Nat), blks seen (ls ++ [l]) = blks seen ls ++ [newOf (lastOf seen ls) l] ∧ lastOf seen (ls ++ [l]) = l
  | [], seen, l => ⟨rfl, rfl⟩
  | m :: ls, seen, l => by
    obtain ⟨h1, h2⟩ := blks_snoc ls m l
    refine ⟨?_, by unfold lastOf at h2 ⊢; rw [List.cons_append, List.getLastD_cons]; exact h2⟩
    show newOf seen m :: blks m (ls ++ [l]) = newOf seen m :: blks m ls ++ [newOf (lastOf seen (m :: ls)) l]
    rw [h1]
    have e : lastOf seen (m :: ls) = lastOf m ls := by
      unfold lastOf
      rw [List.getLastD_cons]
    rw [e]
    rfl
end K07
/-! levels_blocks, the def. -/
namespace K07
open PySem PySem.Spec PyProof.Rows L2
/-- levels_blocks(v, u) -/
def spBlocks (CB CN : Addr) : Sp := fun vs H Q E => ∃ v u, vs = [v, u] ∧ Flat v ∧
  (goodL v = false → ∀ H' d, Same H H' → H' d = none → E (.ref CB) (some d) (errD H' d "word" (.str "size"))) ∧
  (goodL v = true → ∃ n : Nat, v = .int n ∧ 1 ≤ n ∧ n ≤ 6 ∧
    ((Flat u ∧ ∀ H' d, Same H H' → H' d = none → E (.ref CN) (some d) (errD H' d "name" (.int (-1)))) ∨
     (∃ xs x, RowAt H u xs ∧ (∀ x ∈ xs, Flat x) ∧ xs.find? (fun x => !nameOk n x) = some x ∧ ∀ H' d, Same H H' → H' d = none → E (.ref CN) (some d) (errD H' d "name" x)) ∨
     (∃ sc : List Nat, RowAt H u (natV sc) ∧ (∀ i ∈ sc, i < n) ∧ ∀ H' r, Same H H' → BlkV H' r (blocksL n (runS n sc)) → Q r H')))
/-- the pairs of the looks -/
theorem lc_pairs {K : PySem.W.Frag} {v0 v1 v2 v3 v4 v5 v6 v7 v8 v9 : Option V} {r D : Addr} {rows : List (Nat × List Nat)} {H1 : Hp} {Qd : Hp → Prop} (hD : H1 D = none) (hr : RowsAt H1 r rows) (hl : rows.length ≤ 100)
    (hd : ∀ H2 ks, Same H1 H2 → H2 D = some (.lst (ks.map fun (p : Addr × QI) => V.ref p.1)) → PairsAt H2 ks (rows.map (·.2)) → Qd H2) :
    ∃ W : Nat → Nat → Hp → Prop, (∃ m, W 0 m (upd H1 D (.lst []))) ∧ ∀ i m H, W i m H →
      ((Itt K r).stop i H ∧ Qd H) ∨ ((Itt K r).go i H ∧ ∃ Nx : Hp → Prop, (∀ H', Nx H' → ∃ m', m' < m ∧ W (i + 1) m' H') ∧ ∀ x H', (Itt K r).yld i H x H' → gTup K 2 (gCons (gName 6) (gCons (gName 7) gNil)) x (wipe [v0, v1, v2, v3, v4, v5, v6, v7, v8, v9] [6, 7]) H' fun σ2 H2 => wipe σ2 [6, 7] = wipe [v0, v1, v2, v3, v4, v5, v6, v7, v8, v9] [6, 7] ∧
        tYes σ2 H2 fun b H3 => if b = true then tTup (tCons (tCB (fun xs H Q => ∃ x n, xs = [x] ∧ LenV K x H n ∧ Q (.int n) H) (tCons (tVar 7) tNil)) (tCons (tVar 7) tNil)) σ2 H3 fun y H4 => ∃ acc, H4 D = some (.lst acc) ∧ acc.length < sizeLine ∧ Nx (upd H4 D (.lst (acc ++ [y]))) else Nx H3) := by
  obtain ⟨as, bs, hr1, l1, l2, hr2⟩ := hr
  have sm : ∀ o, Same H1 (upd H1 D o) := fun o => same_upd hD
  refine lc_tup (K := K) (a := r) (xs := as.map V.ref) (fun i H => ∃ ks : QL, H D = some (.lst (ks.map fun p => V.ref p.1)) ∧ Same H1 H ∧ PairsAt H ks ((rows.take i).map (·.2))) ⟨[], upd_same, sm _, ⟨rfl, fun p hp => (by cases hp)⟩⟩ (fun i H _ ⟨_, _, s1, _⟩ => SqT.of (s1 _ _ hr1)) ?_ ?_
  · rintro i x H hx ⟨ks, h1, s1, hp⟩
    obtain ⟨a, ha, rfl⟩ : ∃ a, as[i]? = some a ∧ x = .ref a := by
      rw [List.getElem?_map] at hx
      cases e : as[i]? with
      | none => rw [e] at hx; cases hx
      | some j => rw [e] at hx; exact ⟨j, rfl, (Option.some.inj hx).symm⟩
    have hi : i < as.length := (List.getElem?_eq_some_iff.mp ha).1
    have hb : bs[i]? = some bs[i] := List.getElem?_eq_getElem (by omega)
    have hw : rows[i]? = some rows[i] := List.getElem?_eq_getElem (by omega)
    obtain ⟨e1, e2⟩ := hr2 i rows[i].1 rows[i].2 a bs[i] hw ha hb
    refine ⟨a, _, rfl, SqT.of (s1 _ _ e1), rfl, _, _, rfl, _, _, rfl, rfl, rfl, ?_⟩
    refine yesI ?_
    refine ⟨_, rfl, V.ref bs[i], rows[i].2.length, rfl, .inr ⟨_, SqT.of (s1 _ _ e2), by rw [List.length_map]⟩, _, rfl, (by show 2 ≤ sizeLine; decide), fun q hq => ?_⟩
    have hqD : D ≠ q := ne_of_none h1 hq
    have s2 : Same H (upd H q (.tup [.int (rows[i].2.length : Int), .ref bs[i]])) := same_upd hq
    have s3 : Same H1 (upd (upd H q (.tup [.int (rows[i].2.length : Int), .ref bs[i]])) D (.lst ((ks ++ [(q, qOf rows[i].2)]).map fun p => V.ref p.1))) := fun b o e => uk (fun z => by rw [z, hD] at e; cases e) (s2 _ _ (s1 _ _ e))
    have kl : ks.length ≤ 100 := by
      have := hp.len
      rw [List.length_map, List.length_take] at this
      omega
    refine ⟨_, uk hqD h1, small (by rw [List.length_map]; exact kl), ks ++ [(q, qOf rows[i].2)], ?_, ?_, ?_⟩
    · rw [upd_same, List.map_append]; rfl
    · rw [List.map_append] at s3; exact s3
    · have tk : (rows.take (i + 1)).map (·.2) = (rows.take i).map (·.2) ++ [rows[i].2] := by
        rw [List.take_add_one, hw, List.map_append]; rfl
      rw [tk]
      have tup : ∀ (b : Addr) (xs : List V), H b = some (.tup xs) → upd (upd H q (.tup [.int (rows[i].2.length : Int), .ref bs[i]])) D (.lst ((ks.map fun p => V.ref p.1) ++ [V.ref q])) b = some (.tup xs) := fun b xs e =>
        uk (fun z => by rw [z, h1] at e; cases e) (s2 _ _ e)
      refine ⟨by rw [List.map_append, List.map_append, hp.1]; rfl, fun p hpm => ?_⟩
      rcases List.mem_append.mp hpm with hpm | hpm
      · obtain ⟨l, hl1, hl2, b, g1, g2⟩ := hp.2 p hpm
        exact ⟨l, List.mem_append_left _ hl1, hl2, b, tup _ _ g1, tup _ _ g2⟩
      · rw [List.mem_singleton.mp hpm]
        exact ⟨rows[i].2, List.mem_append_right _ List.mem_cons_self, rfl, bs[i], uk hqD.symm upd_same, tup _ _ (s1 _ _ e2)⟩
  · rintro H ⟨ks, h1, s1, hp⟩
    rw [List.length_map, List.take_of_length_le (by omega)] at hp
    exact hd H ks s1 h1 hp
section
variable {w : World} {K : PySem.W.Frag} {mg : Str → Option Value} {base : Heap}
theorem scBlocks : FnScope ["size", "schedule", "wrote", "looks", "seen", "blocks", "_", "look", "name", "rest"] ["size", "schedule"] (defScope sBlocks) := ⟨rfl, rfl, rfl, by decide +kernel, rfl, by decide +kernel, by decide +kernel⟩
theorem ok_blocks {f fR CB CN : Addr} {fd fdR : FuncData} (F : Fun K "levels_blocks" "levels_blocks" sBlocks f fd) (FR : Fun K "levels_run" "levels_run" sRun fR fdR) (gR : mg "levels_run" = some (.ref fR)) (bR : Binds K fdR ["size", "schedule"] [])
    (GR : FnOk PR w K mg base (L2.CX PR w) 6 fR fdR ["size", "schedule"] (spRun CB CN)) (T : Blt mg) :
    FnOk PR w K mg base (L2.CX PR w) 7 f fd ["size", "schedule"] (spBlocks CB CN) := by
  refine F.okX scBlocks (fun vs H Q E h => ?_) (fun cdv A outer s H vs Q E hr h => ?_)
  · obtain ⟨v, u, rfl, _⟩ := h
    rfl
  · obtain ⟨v, u, rfl, hv, kB, kG⟩ := h
    have hu := hu_of hr
    have hr6 : Room 6 _ := hr.mono (by decide)
    refine ⟨_, pss_cons (ps_asg (pe_call GR hr6 rfl gR FR.kp bR .nil (passes_call (W := fun cls d _ H => E cls d H) (takes_of rfl rfl rfl rfl) fun _ _ _ _ h => h) (pa_cons (pv 0) (pa_cons (pv 1) pa_nil))) (pg_tup rfl (pgs_cons (pg_name (i := 2) scBlocks.nd rfl (Or.inl rfl)) (pgs_cons (pg_name (i := 3) scBlocks.nd rfl (Or.inl rfl)) pgs_nil))))
      (pss_cons (ps_set (i := 4) scBlocks.nd rfl (Or.inr rfl) (pe_tup pa_nil))
      (pss_cons (ps_set (i := 5) scBlocks.nd rfl (Or.inl rfl) (pe_lst pa_nil))
      (pss_cons (ps_for (passes_of rfl) rfl (pi_list (pe_callB (cr_sortSQ rfl hr.units) (by rfl) T.sorted b_sorted (pa_cons (pe_callTy (cr_setQ rfl hr.units) (by rfl) T.set b_set (pa_cons (pe_lc (own := [("_", 6), ("look", 7)]) (g := gTup K 2 (gCons (gName 6) (gCons (gName 7) gNil))) (tt := tYes) (te := tTup (tCons (tCB (fun xs H Q => ∃ x n, xs = [x] ∧ LenV K x H n ∧ Q (.int n) H) (tCons (tVar 7) tNil)) (tCons (tVar 7) tNil))) rfl scBlocks.nd (pi_tup (pv 3)) (blkOk_by (own := [("_", 6), ("look", 7)]) (N := ["size", "schedule", "wrote", "looks", "seen", "blocks", "_", "look", "name", "rest"]) (sc := defScope sBlocks) (by decide +kernel))
          (fun _ _ _ _ _ => pg_tup rfl (pgs_cons (pg_name (i := 6) scBlocks.nd rfl (Or.inl rfl)) (pgs_cons (pg_name (i := 7) scBlocks.nd rfl (Or.inl rfl)) pgs_nil))) (fun _ _ _ _ _ => pts_nil) (fun _ _ _ _ _ => pe_tup (pa_cons (pe_callB call_len (by rfl) T.len b_len (pa_cons (pv 7) pa_nil)) (pa_cons (pv 7) pa_nil)))) pa_nil)) pa_nil)))
        (pg_tup rfl (pgs_cons (pg_name (i := 6) scBlocks.nd rfl (Or.inl rfl)) (pgs_cons (pg_name (i := 7) scBlocks.nd rfl (Or.inl rfl)) pgs_nil)))
        (pss_cons (ps_expr (pe_bm PySem.F.plainAttrs_list PySem.F.slot_list_append PySem.F.type_list_append mt_append (pv 5) (pa_cons (pe_callTy call_tuple_of (by rfl) T.tuple b_tuple (pa_cons (pe_lc (own := [("name", 8)]) (g := gName 8) (tt := tTest (tOp (rIn K true) (tVar 8) (tVar 4))) rfl scBlocks.nd (pi_tup (pv 7)) (blkOk_by (own := [("name", 8)]) (N := ["size", "schedule", "wrote", "looks", "seen", "blocks", "_", "look", "name", "rest"]) (sc := defScope sBlocks) (by decide +kernel))
            (fun _ _ _ _ _ => pg_name (i := 8) scBlocks.nd rfl (Or.inl rfl)) (fun _ _ _ _ _ => pts_one (pt_cmpR op_notIn_seq (pv 8) (pv 4) (by rfl))) (fun _ _ _ _ _ => pv 8)) pa_nil)) pa_nil)))
        (pss_one (ps_set (i := 4) scBlocks.nd rfl (Or.inr rfl) (pv 7)))))
      (pss_cons (ps_set (i := 9) scBlocks.nd rfl (Or.inl rfl) (pe_callTy call_tuple_of (by rfl) T.tuple b_tuple (pa_cons (pe_lc (own := [("name", 8)]) (g := gName 8) (tt := tTest (tOp (rIn K true) (tVar 8) (tVar 4))) rfl scBlocks.nd (pi_tup (pv 2)) (blkOk_by (own := [("name", 8)]) (N := ["size", "schedule", "wrote", "looks", "seen", "blocks", "_", "look", "name", "rest"]) (sc := defScope sBlocks) (by decide +kernel))
            (fun _ _ _ _ _ => pg_name (i := 8) scBlocks.nd rfl (Or.inl rfl)) (fun _ _ _ _ _ => pts_one (pt_cmpR op_notIn_seq (pv 8) (pv 4) (by rfl))) (fun _ _ _ _ _ => pv 8)) pa_nil)))
      (pss_one (ps_ret (pe_ifExp (pt_truth (pv 9) (by intro _; rfl)) (pe_callTy call_tuple_of (by rfl) T.tuple b_tuple (pa_cons (pe_op op_cat (pv 5) (pe_lst (pa_cons (pv 9) pa_nil))) pa_nil)) (pe_callTy call_tuple_of (by rfl) T.tuple b_tuple (pa_cons (pv 5) pa_nil))))))))), ?_⟩
    refine ⟨_, rfl, _, rfl, v, u, rfl, hv, kB, fun hg => ?_⟩
    obtain ⟨n, e, h1, h6, h⟩ := kG hg
    refine ⟨n, e, ?_⟩
    rcases h with h | h | ⟨sc, hra, hsc, k⟩
    · exact .inl h
    · exact .inr (.inl h)
    · refine .inr (.inr ⟨sc, hra, hsc, fun H2 r s2 hrun => ?_⟩)
      obtain ⟨q, wa, ra, rfl, hq, hw, hrows⟩ := hrun
      refine ⟨q, _, rfl, SqT.of hq, rfl, _, _, rfl, _, _, rfl, rfl, ?_⟩
      have h0 : ∀ n' : Nat, v = .int n' → n' = n := fun n' e2 => by rw [e] at e2; injection e2 with e2; omega
      have I : Inv n (runS n sc) := inv_run h1 hsc
      generalize hst : runS n sc = st at I hw hrows k ⊢
      have cl : (chain n st).length ≤ 7 := chain_len 6 h6
      refine ⟨by decide, fun p0 hp0 => ⟨by decide, fun B hB => ?_⟩⟩
      have s3 : Same H2 (upd H2 p0 (.tup [])) := same_upd hp0
      have s4 : Same (upd H2 p0 (.tup [])) (upd (upd H2 p0 (.tup [])) B (.lst [])) := same_upd hB
      have s24 := s3.trans s4
      have hB2 : H2 B = none := s3.free hB
      have hHB : H B = none := s2.free hB2
      refine ⟨_, rfl, ra, rfl, ⟨_, SqT.of (s24 _ _ hrows.choose_spec.choose_spec.1)⟩, fun D hD => lc_pairs hD (hrows.same s24) (by have := rows_len (n := n) (s := st); omega) fun H5 ks s5 h5 pk => ?_⟩
      have rl : ks.length ≤ 6 := by
        have := pk.len
        rw [List.length_map] at this
        have := rows_len (n := n) (s := st)
        omega
      refine ⟨D, ks, rfl, SqL.of h5, fun p hp => let ⟨l, _, e1, e2⟩ := pk.2 p hp; e1 ▸ e2.v, by omega, fun S L hS hL1 hL2 hLn hLf => ?_⟩
      have s6 : Same H5 (upd H5 S (SetQO w S L)) := same_upd hS
      refine ⟨S, L, rfl, upd_same, fun p hp => let ⟨l, _, e1, e2⟩ := pk.2 p (hL1 p hp); e1 ▸ (e2.same s6).v, fun p hp q hq e2 => ?_, fun L' O pm ps hO => ?_⟩
      · obtain ⟨l, hl, el, _⟩ := pk.2 p (hL1 p hp)
        obtain ⟨m, hm, em, _⟩ := pk.2 q (hL1 q hq)
        obtain ⟨i, hi⟩ := (rows_mem I l).mp hl
        obtain ⟨j, hj⟩ := (rows_mem I m).mp hm
        rw [el, em] at e2 ⊢
        have e3 : ((l.length : Nat) : Int) = (m.length : Int) := e2
        rw [look_same I hi hj (by omega)]
      have s7 : Same (upd H5 S (SetQO w S L)) (upd (upd H5 S (SetQO w S L)) O (.lst (L'.map fun q => V.ref q.1))) := same_upd hO
      have pc : PairsAt (upd (upd H5 S (SetQO w S L)) O (.lst (L'.map fun q => V.ref q.1))) L' (chain n st) := (pairs_chain I pk (rows_mem I) hL1 hL2 pm ps).same (s6.trans s7)
      have s47 := (s5.trans (s6.trans s7))
      have o7 : (upd (upd H5 S (SetQO w S L)) O (.lst (L'.map fun q => V.ref q.1))) O = some (.lst (L'.map fun q => V.ref q.1)) := upd_same
      have b7 : (upd (upd H5 S (SetQO w S L)) O (.lst (L'.map fun q => V.ref q.1))) B = some (.lst []) := s47 _ _ upd_same
      have p7 : (upd (upd H5 S (SetQO w S L)) O (.lst (L'.map fun q => V.ref q.1))) p0 = some (.tup []) := s47 _ _ (s4 _ _ upd_same)
      have w7 : (upd (upd H5 S (SetQO w S L)) O (.lst (L'.map fun q => V.ref q.1))) wa = some (.tup (natV (wroteL n st))) := s47 _ _ (s24 _ _ hw)
      have s07 : Same H (upd (upd H5 S (SetQO w S L)) O (.lst (L'.map fun q => V.ref q.1))) := (s2.trans s24).trans s47
      have hB5 : (upd H5 S (SetQO w S L)) B = some (.lst []) := s6 _ _ (s5 _ _ upd_same)
      have hOB : O ≠ B := (ne_of_none hB5 hO).symm
      refine ⟨O, rfl, ⟨_, SqL.of o7⟩, for_list (K := K) (a := O) (xs := L'.map fun q => V.ref q.1) (fun i σ H8 => ∃ (z6 z7 : Option V) (sa : Addr) (as : List Addr), σ = [some v, some u, some (.ref wa), some (.ref ra), some (.ref sa), some (.ref B), z6, z7, none, none] ∧ H8 sa = some (.tup (natV (lastOf [] ((chain n st).take i)))) ∧ H8 B = some (.lst (as.map V.ref)) ∧ TupsAt H8 as (blks [] ((chain n st).take i)) ∧ Grow B (upd (upd H5 S (SetQO w S L)) O (.lst (L'.map fun q => V.ref q.1))) H8)
        ⟨none, none, p0, [], rfl, p7, b7, ⟨rfl, fun j b a h => by simp [blks] at h⟩, Grow.refl _ _⟩ (fun i σ H8 _ ⟨_, _, _, _, _, _, _, _, g⟩ => SqL.of (g _ _ o7 hOB)) ?_ ?_⟩
      · rintro i x σ H8 hx ⟨z6, z7, sa, as, rfl, hsa, hB8, ht, g⟩
        obtain ⟨p, hp, rfl⟩ : ∃ p, L'[i]? = some p ∧ x = .ref p.1 := by
          rw [List.getElem?_map] at hx
          cases e : L'[i]? with
          | none => rw [e] at hx; cases hx
          | some p => rw [e] at hx; exact ⟨p, rfl, (Option.some.inj hx).symm⟩
        obtain ⟨l, hl, b, e1, e2⟩ := pairs_at pc hp
        have hlc : l ∈ chain n st := List.mem_of_getElem? hl
        have hll : l.length ≤ 6 := by
          obtain ⟨j, hj⟩ := (mem_chain I).mp hlc
          have := (look_law I hj).2.2.2.2.2.1
          omega
        have tupB : ∀ {a xs}, (upd (upd H5 S (SetQO w S L)) O (.lst (L'.map fun q => V.ref q.1))) a = some (.tup xs) → H8 a = some (.tup xs) := fun e => g _ _ e (ne_of e b7 (fun z => nomatch z))
        have il : i < (chain n st).length := (List.getElem?_eq_some_iff.mp hl).1
        have tk : (chain n st).take (i + 1) = (chain n st).take i ++ [l] := by rw [List.take_add_one, hl]; rfl
        obtain ⟨bs1, bs2⟩ := blks_snoc ((chain n st).take i) [] l
        refine ⟨p.1, _, rfl, SqT.of (tupB e1), rfl, _, _, rfl, _, _, rfl, rfl, _, rfl, tyl hB8, _, rfl, b, rfl, ⟨_, SqT.of (tupB e2)⟩, fun D2 hD2 => lc_new hD2 (tupB e2) hsa (by omega) ?_⟩
        refine ⟨D2, _, rfl, .inl ⟨SqL.of upd_same, fun q hq => ?_⟩⟩
        have s9 : Same H8 (upd (upd H8 D2 (.lst (natV (newOf (lastOf [] ((chain n st).take i)) l)))) q (.tup (natV (newOf (lastOf [] ((chain n st).take i)) l)))) := fun b o e => uk (ne_of_none (same_upd hD2 b o e) hq) (same_upd hD2 b o e)
        have hq8 : H8 q = none := (same_upd hD2).free hq
        refine ⟨B, _, _, rfl, rfl, s9 _ _ hB8, small (m := 7) (by rw [List.length_map, ht.1, blks_len, List.length_take]; omega), _, rfl, _, _, b, as ++ [q], rfl, ?_, ?_, ?_, ?_⟩
        · rw [tk, bs2]
          exact uk (ne_of (tupB e2) hB8 (fun z => nomatch z)) (s9 _ _ (tupB e2))
        · rw [upd_same, List.map_append]; rfl
        · rw [tk, bs1]
          have kt : ∀ a xs, H8 a = some (.tup xs) → upd (upd (upd H8 D2 (.lst (natV (newOf (lastOf [] ((chain n st).take i)) l)))) q (.tup (natV (newOf (lastOf [] ((chain n st).take i)) l)))) B (.lst (as.map V.ref ++ [V.ref q])) a = some (.tup xs) := fun a xs e => uk (ne_of e hB8 (fun z => nomatch z)) (s9 _ _ e)
          exact (ht.keep kt).snoc (uk (fun z => by rw [z, hB8] at hq8; cases hq8) upd_same)
        · intro a o e hne
          exact uk hne (s9 _ _ (g _ _ e hne))
      · rintro σ H8 ⟨z6, z7, sa, as, rfl, hsa, hB8, ht, g⟩
        have ll : L'.length = (chain n st).length := pc.len
        rw [List.length_map, ll, List.take_length] at hsa ht
        have w8 : H8 wa = some (.tup (natV (wroteL n st))) := g _ _ w7 (ne_of w7 b7 (fun z => nomatch z))
        have g0 : Same H H8 := fun b o e => g _ _ (s07 _ _ e) (ne_of_none e hHB)
        have wl : (wroteL n st).length ≤ 6 := by
          unfold wroteL
          refine Nat.le_trans (List.length_filter_le _ _) ?_
          rw [List.length_range]; exact h6
        refine ⟨_, rfl, wa, rfl, ⟨_, SqT.of w8⟩, fun D2 hD2 => lc_new hD2 w8 hsa (by omega) ?_⟩
        refine ⟨D2, _, rfl, .inl ⟨SqL.of upd_same, fun q hq => ?_⟩⟩
        have er : newOf (lastOf [] (chain n st)) (wroteL n st) = restL n st := rfl
        rw [er]
        rw [er] at hq
        have s9 : Same H8 (upd (upd H8 D2 (.lst (natV (restL n st)))) q (.tup (natV (restL n st)))) := fun b o e => uk (ne_of_none (same_upd hD2 b o e) hq) (same_upd hD2 b o e)
        generalize hH9 : upd (upd H8 D2 (.lst (natV (restL n st)))) q (.tup (natV (restL n st))) = H9 at s9
        have q9 : H9 q = some (.tup (natV (restL n st))) := by rw [← hH9]; exact upd_same
        have al : as.length ≤ 7 := by rw [ht.1, blks_len]; exact cl
        refine ⟨_, rfl, !(natV (restL n st)).isEmpty, .inr (.inl ⟨_, SqT.of q9, rfl⟩), ?_⟩
        by_cases hre : restL n st = []
        · have e1 : (!(natV (restL n st)).isEmpty) = false := by rw [hre]; rfl
          rw [e1]
          refine iteF ⟨_, rfl, B, _, rfl, .inl ⟨SqL.of (s9 _ _ hB8), fun r hr9 => ?_⟩⟩
          have s10 : Same H9 (upd H9 r (.tup (as.map V.ref))) := same_upd hr9
          refine k _ _ (g0.trans (s9.trans s10)) ⟨r, as, rfl, upd_same, ?_⟩
          unfold blocksL
          rw [if_pos hre, List.append_nil]
          exact ht.keep fun a xs e => s10 _ _ (s9 _ _ e)
        · have e1 : (!(natV (restL n st)).isEmpty) = true := by
            cases hr2 : restL n st with
            | nil => exact absurd hr2 hre
            | cons x r => rfl
          rw [e1]
          refine iteT ⟨_, rfl, _, rfl, (by show 1 ≤ sizeLine; decide), fun r1 hr1 => ?_⟩
          have s10 : Same H9 (upd H9 r1 (.lst [.ref q])) := same_upd hr1
          refine ⟨B, r1, _, _, rfl, rfl, s10 _ _ (s9 _ _ hB8), upd_same, (by rw [List.length_map, sizeLine_eq]; show as.length + 1 ≤ _; omega), fun r2 hr2 => ?_⟩
          have s11 : Same (upd H9 r1 (.lst [.ref q])) (upd (upd H9 r1 (.lst [.ref q])) r2 (.lst (as.map V.ref ++ [.ref q]))) := same_upd hr2
          refine ⟨r2, _, rfl, .inl ⟨SqL.of upd_same, fun r hr9 => ?_⟩⟩
          have s12 := same_upd (o := .tup (as.map V.ref ++ [.ref q])) hr9
          have s913 := (s10.trans (s11.trans s12))
          refine k _ _ (g0.trans (s9.trans s913)) ⟨r, as ++ [q], rfl, by rw [upd_same, List.map_append]; rfl, ?_⟩
          unfold blocksL
          rw [if_neg hre]
          exact (ht.keep fun a xs e => s913 _ _ (s9 _ _ e)).snoc (s913 _ _ q9)
end
end K07
/-! The law's small helpers: _law_drawn, _law_take, _law_int, _law_schedule, _law_new. -/
namespace K07
open PySem PySem.Spec PyProof.Rows L2
theorem sql_same {K : PySem.W.Frag} {H H' : Hp} {a : Addr} {xs : List V} (h : SqL K H a xs) (s : Same H H') : SqL K H' a xs := by
  rcases h with (h | ⟨o, h⟩) | h
  · exact .inl (.inl (s _ _ h))
  · exact .inl (.inr ⟨o, s _ _ h⟩)
  · exact .inr h
theorem sml {n : Nat} (h : n ≤ 100000) : n < sizeLine := by rw [sizeLine_eq]; omega
abbrev intV (l : List Int) : List V := l.map V.int
section
variable {w : World} {K : PySem.W.Frag} {mg : Str → Option Value} {base : Heap}
theorem scLInt : FnScope ["_law_thing"] ["_law_thing"] (defScope lInt) := ⟨rfl, rfl, rfl, by decide +kernel, rfl, by decide +kernel, by decide +kernel⟩
theorem ok_lInt {f : Addr} {fd : FuncData} (F : Fun K "_law_int" "_law_int" lInt f fd) (T : Blt mg) : FnOk PR w K mg base CX0 1 f fd ["_law_thing"] spIsInt := by
  refine F.ok scLInt (fun vs H Q E h => ?_) (fun cdv A outer s H vs Q E hr h => ?_)
  · obtain ⟨v, rfl, _⟩ := h
    rfl
  · obtain ⟨v, rfl, hv, k⟩ := h
    obtain ⟨k1, k2, k3, k4, k5, k6⟩ := kit_int (K := K)
    refine ⟨_, pss_one (ps_ret (pe_and (pe_callB call_isi (by rfl) T.isi b_isinstance (pa_cons (pv 0) (pa_cons (pe_bltn (v := .ty "int") (by rfl) T.int b_int rfl) pa_nil)))
      (pe_one (pe_not (pe_callB call_isi (by rfl) T.isi b_isinstance (pa_cons (pv 0) (pa_cons (pe_bltn (v := .ty "bool") (by rfl) T.bool b_bool rfl) pa_nil))))))), ?_⟩
    cases hv with
    | non => exact ⟨_, rfl, _, _, _, _, false, rfl, .ty _, .base .non, k5, _, rfl, iteF k⟩
    | bl b => exact ⟨_, rfl, _, _, _, _, true, rfl, .ty _, .base (.bl b), k3, _, rfl, iteT ⟨_, rfl, _, _, _, _, true, rfl, .ty _, .base (.bl b), k4, _, rfl, k⟩⟩
    | int i => exact ⟨_, rfl, _, _, _, _, true, rfl, .ty _, .base (.int i), k1, _, rfl, iteT ⟨_, rfl, _, _, _, _, false, rfl, .ty _, .base (.int i), k2, _, rfl, k⟩⟩
    | str z => exact ⟨_, rfl, _, _, _, _, false, rfl, .ty _, .base (.str z), k6, _, rfl, iteF k⟩
/-- _law_take(found, many) -/
def spLTake : Sp := fun vs H Q _ => ∃ (a : Addr) (xs : List Int) (many : Int), vs = [.ref a, .int many] ∧ H a = some (.lst (intV xs)) ∧ xs.length ≤ 4000 ∧ 1 ≤ many ∧
  ∀ H' r ys, Grow a H H' → H' a = some (.lst (intV ys)) → ys.length ≤ xs.length → 0 ≤ r → r < many → Q (.int r) H'
theorem scLTake : FnScope ["_law_found", "_law_many"] ["_law_found", "_law_many"] (defScope lTake) := ⟨rfl, rfl, rfl, by decide +kernel, rfl, by decide +kernel, by decide +kernel⟩
theorem ok_lTake {f : Addr} {fd : FuncData} (F : Fun K "_law_take" "_law_take" lTake f fd) (T : Blt mg) : FnOk PR w K mg base CX0 1 f fd ["_law_found", "_law_many"] spLTake := by
  refine F.ok scLTake (fun vs H Q E h => ?_) (fun cdv A outer s H vs Q E hr h => ?_)
  · obtain ⟨a, xs, many, rfl, _⟩ := h
    rfl
  · obtain ⟨a, xs, many, rfl, ha, hl, hm, k⟩ := h
    refine ⟨_, pss_cons (ps_if (pt_cmpR op_eq (pe_callB call_len (by rfl) T.len b_len (pa_cons (pv 0) pa_nil)) pe_int (nomark _)) (pss_one (ps_ret pe_int)) pss_nil)
      (pss_one (ps_ret (pe_op op_mod (pe_callTy call_int1 (by rfl) T.int b_int (pa_cons (pe_bm0 PySem.F.plainAttrs_list PySem.F.slot_list_pop PySem.F.type_list_pop mt_pop (pv 0)) pa_nil)) (pv 1)))), ?_⟩
    refine ⟨_, rfl, V.ref a, xs.length, rfl, .inl ⟨_, SqL.of ha, by rw [List.length_map]⟩, rfl, _, rfl, ?_⟩
    rw [dec_int]
    refine ite2 (fun c => ?_) (fun c => ?_)
    · have e : xs = [] := by
        have : (xs.length : Int) = 0 := beq_iff_eq.mp c
        exact List.length_eq_zero_iff.mp (by omega)
      subst e
      exact k H 0 [] (Grow.refl _ _) ha (Nat.le_refl _) (Int.le_refl _) (by omega)
    · have hne : xs ≠ [] := fun e => by subst e; exact c rfl
      obtain ⟨ys, y, rfl⟩ : ∃ ys y, xs = ys ++ [y] := ⟨xs.dropLast, xs.getLast hne, (List.dropLast_concat_getLast hne).symm⟩
      have e1 : intV (ys ++ [y]) = intV ys ++ [V.int y] := List.map_append
      refine ⟨_, rfl, .inl ⟨rfl, _, SqL.of ha⟩, a, _, V.int y, rfl, rfl, ha, ?_, .inl ⟨y, rfl, _, rfl, y, many, rfl, rfl, by omega, ?_⟩⟩
      · rw [e1]; simp
      · refine k _ _ ys (Grow.refl _ _).atp ?_ (by simp) (Int.emod_nonneg _ (by omega)) (Int.emod_lt_of_pos _ (by omega))
        rw [upd_same, e1, List.dropLast_concat]
/-- _law_drawn(script) -/
def spLDrawn (K : PySem.W.Frag) : Sp := fun vs H Q _ => ∃ (a : Addr) (ns : List Int), vs = [.ref a] ∧ SqL K H a (intV ns) ∧ ns.length ≤ 63 ∧ ∀ H' f xs, Same H H' → H f = none → H' f = some (.lst (intV xs)) → xs.length ≤ 4000 → Q (.ref f) H'
theorem scLDrawn : FnScope ["_law_script", "_law_found", "_law_place", "_law_cell", "_law_turn", "_law_grain"] ["_law_script"] (defScope lDrawn) := ⟨rfl, rfl, rfl, by decide +kernel, rfl, by decide +kernel, by decide +kernel⟩
theorem ok_lDrawn {f : Addr} {fd : FuncData} (F : Fun K "_law_drawn" "_law_drawn" lDrawn f fd) (T : Blt mg) : FnOk PR w K mg base CX0 1 f fd ["_law_script"] (spLDrawn K) := by
  refine F.ok scLDrawn (fun vs H Q E h => ?_) (fun cdv A outer s H vs Q E hr h => ?_)
  · obtain ⟨a, ns, rfl, _⟩ := h
    rfl
  · obtain ⟨a, ns, rfl, ha, hl, k⟩ := h
    refine ⟨_, (pss_cons (ps_set (i := 1) scLDrawn.nd rfl (Or.inl rfl) (pe_lst pa_nil))
 (pss_cons (ps_for PassesOwn.never rfl (pi_range1 (by rfl) T.range (pa_cons (pe_callB (call_min2 rfl) (by rfl) T.min b_min (pa_cons (pe_callB call_len (by rfl) T.len b_len (pa_cons (pv 0) pa_nil)) (pa_cons pe_int pa_nil))) pa_nil)) (pg_name (i := 2) scLDrawn.nd rfl (Or.inl rfl)) (pss_cons (ps_set (i := 3) scLDrawn.nd rfl (Or.inl rfl) (pe_callTy call_int1 (by rfl) T.int b_int (pa_cons (pe_ix ix_list (pv 0) (pv 2) (fun _ _ => rfl)) pa_nil)))
 (pss_cons (ps_if (pt_cmpR op_lt (pv 3) pe_int (nomark _)) (pss_cons (ps_expr (pe_bm PySem.F.plainAttrs_list PySem.F.slot_list_append PySem.F.type_list_append mt_append (pv 1) (pa_cons pe_int pa_nil)))
 (pss_one (ps_set (i := 3) scLDrawn.nd rfl (Or.inl rfl) (pe_op op_sub pe_int (pv 3))))) pss_nil)
 (pss_one (ps_if (pt_cmpR op_ge (pv 3) (pe_op op_pow pe_int pe_int) (nomark _)) (pss_one (ps_for PassesOwn.never rfl (pi_range1 (by rfl) T.range (pa_cons pe_int pa_nil)) (pg_name (i := 4) scLDrawn.nd rfl (Or.inl rfl)) (pss_one (ps_if (pt_cmpR op_gt (pv 3) pe_int (nomark _)) (pss_cons (ps_expr (pe_bm PySem.F.plainAttrs_list PySem.F.slot_list_append PySem.F.type_list_append mt_append (pv 1) (pa_cons (pe_op op_mod (pe_callTy call_int1 (by rfl) T.int b_int (pa_cons (pv 3) pa_nil)) pe_int) pa_nil)))
 (pss_one (ps_set (i := 3) scLDrawn.nd rfl (Or.inl rfl) (pe_op op_fdiv (pv 3) pe_int)))) pss_nil)))) (pss_cons (ps_set (i := 5) scLDrawn.nd rfl (Or.inl rfl) (pe_op op_mod (pe_callTy call_int1 (by rfl) T.int b_int (pa_cons (pe_op op_add (pe_op op_add (pe_op op_mul (pv 3) pe_int) (pe_op op_mul (pv 2) pe_int)) pe_int) pa_nil)) pe_int))
 (pss_one (ps_for PassesOwn.never rfl (pi_range1 (by rfl) T.range (pa_cons pe_int pa_nil)) (pg_name (i := 4) scLDrawn.nd rfl (Or.inl rfl)) (pss_cons (ps_set (i := 5) scLDrawn.nd rfl (Or.inl rfl) (pe_op op_mod (pe_callTy call_int1 (by rfl) T.int b_int (pa_cons (pe_op op_add (pe_op op_add (pe_op op_add (pe_op op_mul (pv 5) (pv 5)) (pe_op op_mul (pv 4) pe_int)) (pe_op op_mul (pv 2) pe_int)) pe_int) pa_nil)) pe_int))
 (pss_one (ps_expr (pe_bm PySem.F.plainAttrs_list PySem.F.slot_list_append PySem.F.type_list_append mt_append (pv 1) (pa_cons (pe_op op_fdiv (pv 5) pe_int) pa_nil)))))))))))))
 (pss_cons (ps_expr (pe_bm0 PySem.F.plainAttrs_list PySem.F.slot_list_reverse PySem.F.type_list_reverse mt_reverse (pv 1)))
 (pss_one (ps_ret (pv 1)))))), ?_⟩
    refine ⟨by decide, fun fa hfa => ?_⟩
    have sa : Same H (upd H fa (.lst [])) := same_upd hfa
    refine ⟨_, rfl, V.ref a, ns.length, rfl, .inl ⟨_, sql_same ha sa, by rw [List.length_map]⟩, _, _, rfl, ?_⟩
    have e63 : (if (63 : Int) < (ns.length : Int) then (63 : Int) else (ns.length : Int)) = (ns.length : Int) := if_neg (by omega)
    rw [e63]
    refine ⟨ns.length, rfl, by omega, by omega, for_range (n := ns.length) (fun i σ H' => ∃ (z2 z3 z4 z5 : Option V) (xs : List Int), σ = [some (.ref a), some (.ref fa), z2, z3, z4, z5] ∧ H' fa = some (.lst (intV xs)) ∧ xs.length ≤ 51 * i ∧ Same H H')
      ⟨none, none, none, none, [], rfl, upd_same, by simp, sa⟩ ?_ ?_⟩
    · rintro i σ H1 hi ⟨z2, z3, z4, z5, xs, rfl, hf, hxl, sm⟩
      have hfn : ∀ b o, H b = some o → b ≠ fa := fun b o e => ne_of_none e hfa
      refine ⟨_, rfl, _, rfl, a, _, _, _, rfl, rfl, sql_same ha sm, ?_, .inl ⟨ns[i], rfl, ?_⟩⟩
      · rw [Int.zero_add]; exact atI_nat (by rw [List.getElem?_map, List.getElem?_eq_getElem hi]; rfl)
      have app : ∀ {z : List Int} {H' : Hp} {x : Int}, H' fa = some (.lst (intV z)) → Same H H' → upd H' fa (.lst (intV z ++ [V.int x])) fa = some (.lst (intV (z ++ [x]))) ∧ Same H (upd H' fa (.lst (intV z ++ [V.int x]))) := fun {z H' x} h s => by
        refine ⟨by rw [upd_same, show intV (z ++ [x]) = intV z ++ [V.int x] from List.map_append], fun b o e => uk (hfn b o e) (s b o e)⟩
      have first : ∀ (c : Int) (z4 z5 : Option V) (D : Ends), (∀ c' xs' H', H' fa = some (.lst (intV xs')) → xs'.length ≤ 51 * i + 1 → Same H H' → D.nx [some (.ref a), some (.ref fa), some (.int ((0 : Int) + i)), some (.int c'), z4, z5] H') →
          tIfS (tTest (tOp (rI0 fun i j => .bl (decide (i < j))) (tVar 3) (tC (.int 0)))) (tSeq (tDrop (tBM K "list" rAppend (tVar 1) (tCons (tC (.int 1)) tNil))) (tSeq (tAsg (tOp (rI0 fun i j => .int (i - j)) (tC (.int 0)) (tVar 3)) (gName 3)) tNext)) tNext D [some (.ref a), some (.ref fa), some (.int ((0 : Int) + i)), some (.int c), z4, z5] H1 := fun c z4 z5 D hD => by
        refine ⟨_, rfl, _, _, rfl, rfl, _, rfl, ite2 (fun _ => ?_) (fun _ => ?_)⟩
        · obtain ⟨a1, a2⟩ := app (x := 1) hf sm
          exact ⟨_, rfl, tyl hf, fa, _, _, rfl, rfl, hf, sml (by rw [List.length_map]; omega), _, rfl, _, _, rfl, rfl, hD _ _ _ a1 (by simp; omega) a2⟩
        · exact hD c xs H1 hf (by omega) sm
      refine first _ z4 z5 _ fun c' xs' H' hf' hl' sm' => ?_
      have e0 : ∀ (x : Option V), x = x := fun _ => rfl
      refine ⟨_, rfl, _, _, rfl, rfl, (show CPow 10 18 by unfold CPow; decide), _, _, rfl, rfl, _, rfl, ite2 (fun _ => ?_) (fun _ => ?_)⟩
      · refine ⟨50, rfl, by decide, by decide, for_range (n := 50) (fun j σ H2 => ∃ (z4 : Option V) (c : Int) (ys : List Int), σ = [some (.ref a), some (.ref fa), some (.int ((0 : Int) + i)), some (.int c), z4, z5] ∧ H2 fa = some (.lst (intV ys)) ∧ ys.length ≤ 51 * i + 1 + j ∧ Same H H2)
          ⟨z4, c', xs', rfl, hf', by omega, sm'⟩ ?_ ?_⟩
        · rintro j σ H2 hj ⟨z4, c, ys, rfl, hf2, hl2, sm2⟩
          refine ⟨_, rfl, _, _, rfl, rfl, _, rfl, ite2 (fun _ => ?_) (fun _ => ?_)⟩
          · refine ⟨_, rfl, tyl hf2, _, rfl, .inl ⟨c, rfl, _, _, rfl, rfl, (show (0 : Int) < 30 by decide), fa, _, _, rfl, rfl, hf2, sml (by rw [List.length_map]; omega), _, rfl, _, _, rfl, rfl, ⟨by decide, by decide⟩, ?_⟩⟩
            obtain ⟨a1, a2⟩ := app (x := c % 30) hf2 sm2
            exact ⟨_, _, _, rfl, a1, by simp; omega, a2⟩
          · exact ⟨_, _, _, rfl, hf2, by omega, sm2⟩
        · rintro σ H2 ⟨z4, c, ys, rfl, hf2, hl2, sm2⟩
          exact ⟨_, _, _, _, ys, rfl, hf2, by omega, sm2⟩
      · have big : ∀ x : Int, -(2 ^ 64) < x → x < 2 ^ 64 → ∀ y : Int, CMul y x := fun x h1 h2 y => .inr ⟨h1, h2⟩
        refine ⟨_, rfl, _, _, rfl, rfl, big _ (by decide) (by decide) _, _, rfl, _, _, rfl, rfl, big _ (by decide) (by decide) _, _, _, rfl, rfl, _, _, rfl, rfl, .inl ⟨_, rfl, _, _, rfl, rfl, (show (0 : Int) < 2147483629 by decide), ?_⟩⟩
        refine ⟨5, rfl, by decide, by decide, for_range (n := 5) (fun j σ H2 => ∃ (z3 z4 : Option V) (c : Int) (ys : List Int), σ = [some (.ref a), some (.ref fa), some (.int ((0 : Int) + i)), z3, z4, some (.int c)] ∧ 0 ≤ c ∧ c < 2147483629 ∧ H2 fa = some (.lst (intV ys)) ∧ ys.length ≤ 51 * i + 1 + j ∧ Same H H2)
          ⟨_, z4, _, xs', rfl, Int.emod_nonneg _ (by decide), Int.emod_lt_of_pos _ (by decide), hf', by omega, sm'⟩ ?_ ?_⟩
        · rintro j σ H2 hj ⟨z3, z4, c, ys, rfl, c1, c2, hf2, hl2, sm2⟩
          refine ⟨_, rfl, _, rfl, _, _, rfl, rfl, .inl ⟨by omega, by omega⟩, _, rfl, _, _, rfl, rfl, big _ (by decide) (by decide) _, _, _, rfl, rfl, _, rfl, _, _, rfl, rfl, big _ (by decide) (by decide) _, _, _, rfl, rfl, _, _, rfl, rfl, .inl ⟨_, rfl, _, _, rfl, rfl, (show (0 : Int) < 2147483587 by decide), ?_⟩⟩
          refine ⟨_, rfl, tyl hf2, _, rfl, _, _, rfl, rfl, ⟨by decide, by decide⟩, fa, _, _, rfl, rfl, hf2, sml (by rw [List.length_map]; omega), ?_⟩
          refine ⟨_, _, _, _, rfl, Int.emod_nonneg _ (by decide), Int.lt_trans (Int.emod_lt_of_pos _ (by decide)) (by decide), (app hf2 sm2).1, ?_, (app hf2 sm2).2⟩
          simp; omega
        · rintro σ H2 ⟨z3, z4, c, ys, rfl, c1, c2, hf2, hl2, sm2⟩
          exact ⟨_, _, _, _, ys, rfl, hf2, by omega, sm2⟩
    · rintro σ H1 ⟨z2, z3, z4, z5, xs, rfl, hf, hxl, sm⟩
      refine ⟨_, rfl, .inl ⟨rfl, _, SqL.of hf⟩, fa, _, rfl, rfl, hf, _, rfl, k _ _ xs.reverse (fun b o e => uk (ne_of_none e hfa) (sm b o e)) hfa ?_ (by rw [List.length_reverse]; omega)⟩
      rw [upd_same, ← List.map_reverse]
end
end K07
/-! _law_schedule, _law_new, _law_step. -/
namespace K07
open PySem PySem.Spec PyProof.Rows L2
/-- _law_schedule(found, size) -/
def spLSchedule : Sp := fun vs H Q _ => ∃ (a : Addr) (xs : List Int) (n : Nat), vs = [.ref a, .int n] ∧ H a = some (.lst (intV xs)) ∧ xs.length ≤ 4000 ∧ 1 ≤ n ∧ n ≤ 6 ∧
  ∀ H' r sc ys, Grow a H H' → H r = none → H' r = some (.lst (natV sc)) → (∀ i ∈ sc, i < n) → sc.length ≤ 60 → H' a = some (.lst (intV ys)) → ys.length ≤ 4000 → Q (.ref r) H'
def SchSt (H H' : Hp) (a r : Addr) (sc : List Nat) : Prop := ∃ ys, H' a = some (.lst (intV ys)) ∧ ys.length ≤ 4000 ∧ H' r = some (.lst (natV sc)) ∧ Grow a H H'
/-- where the law's own state stands -/
structure LS where
  st : Addr
  hs : List Addr
  ss : List Addr
def LS.mut (A : LS) : List Addr := A.st :: (A.hs ++ A.ss)
structure LawSt (n : Nat) (H : Hp) (A : LS) (ps : List Pr) : Prop where
  ob : H A.st = some (.lst (A.hs.map V.ref))
  hl : A.hs.length = n
  sl : A.ss.length = n
  held : ∀ (i : Nat) (h b : Addr), A.hs[i]? = some h → A.ss[i]? = some b → H h = some (.lst [.int (lo ps i), .int (tk n (pAt ps i)), .ref b])
  seen : ∀ (i : Nat) (b : Addr), A.ss[i]? = some b → H b = some (.lst (natV (pAt ps i).seen))
  nd : (A.st :: (A.hs ++ A.ss)).Nodup
theorem LawSt.any {n : Nat} {H : Hp} {A : LS} {ps : List Pr} (L : LawSt n H A ps) {a : Addr} (h : a ∈ A.mut) : ∃ xs, H a = some (.lst xs) := by
  rcases List.mem_cons.mp h with e | h
  · rw [e]; exact ⟨_, L.ob⟩
  rcases List.mem_append.mp h with h | h
  · obtain ⟨i, hi⟩ := List.mem_iff_getElem?.mp h
    have hl := (List.getElem?_eq_some_iff.mp hi).1
    have h1 := L.hl
    have h2 := L.sl
    exact ⟨_, L.held i a _ hi (List.getElem?_eq_getElem (by omega))⟩
  · obtain ⟨i, hi⟩ := List.mem_iff_getElem?.mp h
    exact ⟨_, L.seen i a hi⟩
theorem LawSt.keep {n : Nat} {H H' : Hp} {A : LS} {ps : List Pr} (L : LawSt n H A ps) (k : ∀ a ∈ A.mut, ∀ o, H a = some o → H' a = some o) : LawSt n H' A ps where
  ob := k _ List.mem_cons_self _ L.ob
  hl := L.hl
  sl := L.sl
  held := fun i h b h1 h2 => k _ (List.mem_cons_of_mem _ (List.mem_append_left _ (List.mem_of_getElem? h1))) _ (L.held i h b h1 h2)
  seen := fun i b h1 => k _ (List.mem_cons_of_mem _ (List.mem_append_right _ (List.mem_of_getElem? h1))) _ (L.seen i b h1)
  nd := L.nd
/-- one name's row written -/
theorem LawSt.upd {n : Nat} {H H' : Hp} {A : LS} {ps : List Pr} (L : LawSt n H A ps) (hn : ps.length = n) {i : Nat} (hi : i < n) {h b b' : Addr} (hh : A.hs[i]? = some h) (hb : A.ss[i]? = some b) (hb' : b' = b ∨ H b' = none) (p' : Pr)
    (e1 : H' h = some (.lst [.int p'.low, .int (tk n p'), .ref b'])) (e2 : H' b' = some (.lst (natV p'.seen))) (k : ∀ x o, H x = some o → x ∈ A.mut → x ≠ h → x ≠ b → H' x = some o) : LawSt n H' ⟨A.st, A.hs, A.ss.set i b'⟩ (ps.set i p') := by
  obtain ⟨n1, n2⟩ := List.nodup_cons.mp L.nd
  obtain ⟨n3, n4, n5⟩ := List.nodup_append.mp n2
  have hil := L.hl
  have sil := L.sl
  have mh : h ∈ A.hs := List.mem_of_getElem? hh
  have mb : b ∈ A.ss := List.mem_of_getElem? hb
  have inj : ∀ (l : List Addr), l.Nodup → ∀ {j x y}, l[i]? = some x → l[j]? = some y → j ≠ i → y ≠ x := by
    intro l hl j x y hx hy hne e
    subst e
    have h1 := (List.getElem?_eq_some_iff.mp hx)
    have h2 := (List.getElem?_eq_some_iff.mp hy)
    obtain ⟨a1, a2⟩ := h1
    obtain ⟨b1, b2⟩ := h2
    exact hne ((List.getElem_inj hl).mp (b2.trans a2.symm))
  have P : ∀ j, pAt (ps.set i p') j = if j = i then p' else pAt ps j := fun j => pAt_set (by omega)
  have ss : ∀ j, (A.ss.set i b')[j]? = if j = i then some b' else A.ss[j]? := fun j => by
    rw [List.getElem?_set]
    by_cases e : i = j
    · subst e; simp [sil, hi]
    · rw [if_neg e, if_neg (fun z => e z.symm)]
  constructor
  · refine k _ _ L.ob List.mem_cons_self (fun e => n1 ?_) (fun e => n1 ?_)
    · rw [e]; exact List.mem_append_left _ mh
    · rw [e]; exact List.mem_append_right _ mb
  · exact L.hl
  · show (A.ss.set i b').length = n
    rw [List.length_set]; exact L.sl
  · intro j h2 b2 g1 g2
    rw [ss] at g2
    show H' h2 = some (.lst [.int (pAt (ps.set i p') j).low, .int (tk n (pAt (ps.set i p') j)), .ref b2])
    rw [P]
    by_cases e : j = i
    · subst e
      rw [if_pos rfl] at g2 ⊢
      have g1' : A.hs[j]? = some h2 := g1
      rw [hh] at g1'
      injection g1' with g1'
      injection g2 with g2
      rw [← g1', ← g2]; exact e1
    · rw [if_neg e] at g2 ⊢
      exact k _ _ (L.held j h2 b2 g1 g2) (List.mem_cons_of_mem _ (List.mem_append_left _ (List.mem_of_getElem? g1))) (inj _ n3 hh g1 e) (fun z => n5 h2 (List.mem_of_getElem? g1) b mb z)
  · intro j b2 g2
    rw [ss] at g2
    rw [P]
    by_cases e : j = i
    · subst e
      rw [if_pos rfl] at g2 ⊢
      injection g2 with g2
      rw [← g2]; exact e2
    · rw [if_neg e] at g2 ⊢
      exact k _ _ (L.seen j b2 g2) (List.mem_cons_of_mem _ (List.mem_append_right _ (List.mem_of_getElem? g2))) (fun z => n5 h mh b2 (List.mem_of_getElem? g2) z.symm) (inj _ n4 hb g2 e)
  · rcases hb' with e | e
    · have : A.ss.set i b' = A.ss := by
        rw [e]
        obtain ⟨q1, q2⟩ := List.getElem?_eq_some_iff.mp hb
        rw [← q2, List.set_getElem_self]
      rw [this]; exact L.nd
    · have fr : ∀ x ∈ A.mut, x ≠ b' := fun x hx z => by
        obtain ⟨xs, hxs⟩ := L.any hx
        rw [z, e] at hxs; cases hxs
      have sub : ∀ x ∈ A.ss.set i b', x = b' ∨ (x ∈ A.ss) := fun x hx => (List.mem_or_eq_of_mem_set hx).symm
      refine List.nodup_cons.mpr ⟨fun hm => ?_, List.nodup_append.mpr ⟨n3, ?_, fun x hx y hy z => ?_⟩⟩
      · rcases List.mem_append.mp hm with hm | hm
        · exact n1 (List.mem_append_left _ hm)
        · rcases sub _ hm with z | z
          · exact fr A.st List.mem_cons_self z
          · exact n1 (List.mem_append_right _ z)
      · -- the new one is nowhere else
        have key : ∀ (l : List Addr) (i : Nat), l.Nodup → b' ∉ l → (l.set i b').Nodup := by
          intro l
          induction l with
          | nil => intro i _ _; simp
          | cons x l ih =>
            intro i hl hn
            obtain ⟨a1, a2⟩ := List.nodup_cons.mp hl
            cases i with
            | zero => exact List.nodup_cons.mpr ⟨fun h => hn (List.mem_cons_of_mem _ h), a2⟩
            | succ i =>
              refine List.nodup_cons.mpr ⟨fun h => ?_, ih i a2 fun h => hn (List.mem_cons_of_mem _ h)⟩
              rcases List.mem_or_eq_of_mem_set h with h | h
              · exact a1 h
              · exact hn (h ▸ List.mem_cons_self)
        exact key _ _ n4 fun h => fr b' (List.mem_cons_of_mem _ (List.mem_append_right _ h)) rfl
      · rcases sub _ hy with q | q
        · exact fr x (List.mem_cons_of_mem _ (List.mem_append_left _ hx)) (z.trans q)
        · exact n5 x hx y q z
/-- _law_new(n) -/
def spLNew : Sp := fun vs H Q _ => ∃ n : Nat, vs = [.int n] ∧ 1 ≤ n ∧ n ≤ 6 ∧ ∀ H' A, Same H H' → LawSt n H' A (init n).ps → (∀ a ∈ A.mut, H a = none) → Q (.ref A.st) H'
/-- _law_step(state, cells, name) -/
def spLStep : Sp := fun vs H Q _ => ∃ (A : LS) (c : Addr) (n : Nat) (s : Ls) (i : Nat), vs = [.ref A.st, .ref c, .int i] ∧ LawSt n H A s.ps ∧ H c = some (.lst (lowsV s.ps)) ∧ c ∉ A.mut ∧ Inv n s ∧ n ≤ 6 ∧ i < n ∧
  ∀ H' A' u, A'.st = A.st → LawSt n H' A' (s.ps.set i (nxt n s.ps (pAt s.ps i))) → H' c = some (.lst (lowsV (s.ps.set i (nxt n s.ps (pAt s.ps i))))) → c ∉ A'.mut → LookV H' u (due n s.ps (pAt s.ps i)) →
    (∀ x o, H x = some o → x ≠ c → x ∉ A.mut → H' x = some o) → (∀ a ∈ A'.mut, a ∈ A.mut ∨ H a = none) → Q u H'
section
variable {w : World} {K : PySem.W.Frag} {mg : Str → Option Value} {base : Heap}
theorem scLSchedule : FnScope ["_law_found", "_law_size", "_law_many", "_law_word", "_law_lead", "_law_row", "_law_turn", "_law_name"] ["_law_found", "_law_size"] (defScope lSchedule) := ⟨rfl, rfl, rfl, by decide +kernel, rfl, by decide +kernel, by decide +kernel⟩
theorem ok_lSchedule {f fT : Addr} {fd fdT : FuncData} (F : Fun K "_law_schedule" "_law_schedule" lSchedule f fd) (FT : Fun K "_law_take" "_law_take" lTake fT fdT) (gT : mg "_law_take" = some (.ref fT)) (bT : Binds K fdT ["_law_found", "_law_many"] []) (T : Blt mg) :
    FnOk PR w K mg base CX0 2 f fd ["_law_found", "_law_size"] spLSchedule := by
  have GT : FnOk PR w K mg base CX0 1 fT fdT ["_law_found", "_law_many"] spLTake := ok_lTake FT T
  refine F.ok scLSchedule (fun vs H Q E h => ?_) (fun cdv A outer s H vs Q E hr h => ?_)
  · obtain ⟨a, xs, n, rfl, _⟩ := h
    rfl
  · obtain ⟨a, xs, n, rfl, ha, hl, h1, h6, k⟩ := h
    have hr1 : Room 1 _ := hr.mono (by decide)
    refine ⟨_, (pss_cons (ps_set (i := 2) scLSchedule.nd rfl (Or.inl rfl) (pe_op op_add (pe_call GT hr1 rfl gT FT.kp bT .nil pass0 (pa_cons (pv 0) (pa_cons pe_int pa_nil))) (pe_call GT hr1 rfl gT FT.kp bT .nil pass0 (pa_cons (pv 0) (pa_cons pe_int pa_nil)))))
 (pss_cons (ps_set (i := 3) scLSchedule.nd rfl (Or.inl rfl) (pe_call GT hr1 rfl gT FT.kp bT .nil pass0 (pa_cons (pv 0) (pa_cons pe_int pa_nil))))
 (pss_cons (ps_set (i := 4) scLSchedule.nd rfl (Or.inl rfl) (pe_call GT hr1 rfl gT FT.kp bT .nil pass0 (pa_cons (pv 0) (pa_cons (pv 1) pa_nil))))
 (pss_cons (ps_set (i := 5) scLSchedule.nd rfl (Or.inl rfl) (pe_lst pa_nil))
 (pss_cons (ps_for PassesOwn.never rfl (pi_range1 (by rfl) T.range (pa_cons (pv 2) pa_nil)) (pg_name (i := 6) scLSchedule.nd rfl (Or.inl rfl)) (pss_cons (ps_set (i := 7) scLSchedule.nd rfl (Or.inl rfl) (pe_call GT hr1 rfl gT FT.kp bT .nil pass0 (pa_cons (pv 0) (pa_cons (pv 1) pa_nil))))
 (pss_cons (ps_if (PW.pt (pw_and (pt_cmpR op_eq (pv 3) pe_int (nomark _)) (pw_and1 (pt_cmpR op_gt (pe_call GT hr1 rfl gT FT.kp bT .nil pass0 (pa_cons (pv 0) (pa_cons pe_int pa_nil))) pe_int (nomark _))))) (pss_one (ps_set (i := 7) scLSchedule.nd rfl (Or.inl rfl) (pv 4))) pss_nil)
 (pss_cons (ps_if (PW.pt (pw_and (pt_cmpR op_eq (pv 3) pe_int (nomark _)) (pw_and1 (pt_cmpR op_gt (pe_call GT hr1 rfl gT FT.kp bT .nil pass0 (pa_cons (pv 0) (pa_cons pe_int pa_nil))) pe_int (nomark _))))) (pss_one (ps_set (i := 7) scLSchedule.nd rfl (Or.inl rfl) (pe_op op_mod (pe_callTy call_int1 (by rfl) T.int b_int (pa_cons (pe_op op_add (pv 4) (pe_op op_mod (pv 6) pe_int)) pa_nil)) (pv 1)))) pss_nil)
 (pss_one (ps_expr (pe_bm PySem.F.plainAttrs_list PySem.F.slot_list_append PySem.F.type_list_append mt_append (pv 5) (pa_cons (pv 7) pa_nil))))))))
 (pss_one (ps_ret (pv 5)))))))), ?_⟩
    refine ⟨_, rfl, a, xs, 30, rfl, ha, hl, by decide, fun H1 r1 y1 g1 e1 l1 a1 b1 => ?_⟩
    refine ⟨_, rfl, a, y1, 22, rfl, e1, by omega, by decide, fun H2 r2 y2 g2 e2 l2 a2 b2 => ?_⟩
    refine ⟨_, _, rfl, rfl, _, rfl, a, y2, 3, rfl, e2, by omega, by decide, fun H3 wd y3 g3 e3 l3 a3 b3 => ?_⟩
    refine ⟨_, rfl, _, rfl, a, y3, n, rfl, e3, by omega, by omega, fun H4 ld y4 g4 e4 l4 a4 b4 => ?_⟩
    refine ⟨by decide, fun r hr4 => ?_⟩
    have g04 : Grow a H H4 := ((g1.trans g2).trans g3).trans g4
    have hra : r ≠ a := fun z => by rw [z, e4] at hr4; cases hr4
    have hr0 : H r = none := g04.free hra hr4
    refine ⟨_, rfl, r1 + r2, rfl, by omega, by omega, for_range (n := (r1 + r2).toNat) (fun i σ H' => ∃ (z6 z7 : Option V) (sc : List Nat), σ = [some (.ref a), some (.int n), some (.int (r1 + r2)), some (.int wd), some (.int ld), some (.ref r), z6, z7] ∧ SchSt H H' a r sc ∧ (∀ j ∈ sc, j < n) ∧ sc.length = i)
      ⟨none, none, [], rfl, ⟨y4, uk hra.symm e4, by omega, upd_same, fun b o e hb => uk (ne_of_none e hr0) (g04 b o e hb)⟩, fun j hj => (by cases hj), rfl⟩ ?_ ?_⟩
    · rintro i σ H5 hi ⟨z6, z7, sc, rfl, S5, hsc, hsl⟩
      obtain ⟨ys5, p1, p2, p3, p4⟩ := S5
      refine ⟨_, rfl, _, rfl, a, ys5, (n : Int), rfl, p1, p2, by omega, fun H6 x y6 g6 e6 l6 x1 x2 => ?_⟩
      have S6 : SchSt H H6 a r sc := ⟨y6, e6, by omega, g6 _ _ p3 hra, p4.trans g6⟩
      have first : ∀ (D : Ends) (x : Int) (H6 : Hp), SchSt H H6 a r sc → 0 ≤ x → x < n → (∀ (x' : Int) H', SchSt H H' a r sc → 0 ≤ x' → x' < (n : Int) → D.nx [some (.ref a), some (.int n), some (.int (r1 + r2)), some (.int wd), some (.int ld), some (.ref r), some (.int ((0 : Int) + i)), some (.int x')] H') →
          tIfS (tAnd (tTest (tOp rEq (tVar 3) (tC (.int 1)))) (tTest (tOp (rI0 fun i j => .bl (decide (j < i))) (tCall spLTake [] E0 (tCons (tVar 0) (tCons (tC (.int 3)) tNil))) (tC (.int 0))))) (tAsg (tVar 4) (gName 7)) tNext D [some (.ref a), some (.int n), some (.int (r1 + r2)), some (.int wd), some (.int ld), some (.ref r), some (.int ((0 : Int) + i)), some (.int x)] H6 := fun D x H6 S6 x1 x2 hD => by
        refine ⟨_, rfl, rfl, _, rfl, ite2 (fun _ => ?_) (fun _ => hD x H6 S6 x1 x2)⟩
        obtain ⟨y6, p1, p2, p3, p4⟩ := S6
        refine ⟨_, rfl, a, y6, 3, rfl, p1, p2, by decide, fun H7 y y7 g7 e7 l7 yy1 yy2 => ?_⟩
        have S7 : SchSt H H7 a r sc := ⟨y7, e7, by omega, g7 _ _ p3 hra, p4.trans g7⟩
        refine ⟨_, _, rfl, rfl, _, rfl, ite2 (fun _ => ⟨_, rfl, hD ld H7 S7 a4 b4⟩) (fun _ => hD x H7 S7 x1 x2)⟩
      have second : ∀ (D : Ends) (x : Int) (H6 : Hp), SchSt H H6 a r sc → 0 ≤ x → x < n → (∀ (x' : Int) H', SchSt H H' a r sc → 0 ≤ x' → x' < (n : Int) → D.nx [some (.ref a), some (.int n), some (.int (r1 + r2)), some (.int wd), some (.int ld), some (.ref r), some (.int ((0 : Int) + i)), some (.int x')] H') →
          tIfS (tAnd (tTest (tOp rEq (tVar 3) (tC (.int 2)))) (tTest (tOp (rI0 fun i j => .bl (decide (j < i))) (tCall spLTake [] E0 (tCons (tVar 0) (tCons (tC (.int 4)) tNil))) (tC (.int 0)))))
            (tAsg (tOp (rI (fun _ j => 0 < j) fun i j => .int (i % j)) (tCB (fun xs H Q => (∃ i, xs = [.int i] ∧ Q (.int i) H) ∨ ∃ k, xs = [.bl k] ∧ Q (.int (if k then 1 else 0)) H) (tCons (tOp (rI0 fun i j => .int (i + j)) (tVar 4) (tOp (rI (fun _ j => 0 < j) fun i j => .int (i % j)) (tVar 6) (tC (.int 2)))) tNil)) (tVar 1)) (gName 7)) tNext D [some (.ref a), some (.int n), some (.int (r1 + r2)), some (.int wd), some (.int ld), some (.ref r), some (.int ((0 : Int) + i)), some (.int x)] H6 := fun D x H6 S6 x1 x2 hD => by
        refine ⟨_, rfl, rfl, _, rfl, ite2 (fun _ => ?_) (fun _ => hD x H6 S6 x1 x2)⟩
        obtain ⟨y6, p1, p2, p3, p4⟩ := S6
        refine ⟨_, rfl, a, y6, 4, rfl, p1, p2, by decide, fun H7 y y7 g7 e7 l7 yy1 yy2 => ?_⟩
        have S7 : SchSt H H7 a r sc := ⟨y7, e7, by omega, g7 _ _ p3 hra, p4.trans g7⟩
        refine ⟨_, _, rfl, rfl, _, rfl, ite2 (fun _ => ?_) (fun _ => hD x H7 S7 x1 x2)⟩
        have hn : (0 : Int) < (n : Int) := by omega
        refine ⟨_, rfl, _, rfl, _, _, rfl, rfl, (show (0 : Int) < 2 by decide), _, _, rfl, rfl, .inl ⟨_, rfl, _, rfl, _, _, rfl, rfl, hn, hD _ H7 S7 (Int.emod_nonneg _ (by omega)) (Int.emod_lt_of_pos _ hn)⟩⟩
      refine first _ x H6 S6 x1 x2 fun x' H' S' x1 x2 => ?_
      refine second _ x' H' S' x1 x2 fun x H6 S6 x1 x2 => ?_
      obtain ⟨ys, q1, q2, q3, q4⟩ := S6
      refine ⟨_, rfl, tyl q3, _, rfl, r, _, _, rfl, rfl, q3, sml (by rw [List.length_map]; omega), ?_⟩
      refine ⟨_, _, sc ++ [x.toNat], rfl, ⟨ys, uk hra.symm q1, q2, ?_, fun b o e hb => uk (ne_of_none e hr0) (q4 b o e hb)⟩, fun j hj => ?_, by simp [hsl]⟩
      · have e : ((x.toNat : Nat) : Int) = x := Int.toNat_of_nonneg x1
        rw [upd_same, show natV (sc ++ [x.toNat]) = natV sc ++ [V.int (x.toNat : Int)] by simp [natV], e]
      · rcases List.mem_append.mp hj with hj | hj
        · exact hsc j hj
        · rw [List.mem_singleton.mp hj]; omega
    · rintro σ H5 ⟨z6, z7, sc, rfl, ⟨ys, q1, q2, q3, q4⟩, hsc, hsl⟩
      exact ⟨_, rfl, k H5 r sc ys q4 hr0 q3 hsc (by omega) q1 q2⟩
theorem scLNew : FnScope ["_law_size", "_law_name"] ["_law_size"] (defScope lNew) := ⟨rfl, rfl, rfl, by decide +kernel, rfl, by decide +kernel, by decide +kernel⟩
theorem ok_lNew {f : Addr} {fd : FuncData} (F : Fun K "_law_new" "_law_new" lNew f fd) (T : Blt mg) : FnOk PR w K mg base CX0 1 f fd ["_law_size"] spLNew := by
  refine F.ok scLNew (fun vs H Q E h => ?_) (fun cdv A outer s H vs Q E hr h => ?_)
  · obtain ⟨n, rfl, _⟩ := h
    rfl
  · obtain ⟨n, rfl, h1, h6, k⟩ := h
    refine ⟨_, (pss_one (ps_ret (pe_lc (own := [("_law_name", 1)]) (g := gName 1) (tt := tYes) (te := tLst (tCons (tOp (rI0 fun i j => .int (i + j)) (tVar 0) (tC (.int 1))) (tCons (tC (.int 0)) (tCons (tLst tNil) tNil)))) rfl scLNew.nd (pi_range1 (by rfl) T.range (pa_cons (pv 0) pa_nil)) (blkOk_by (own := [("_law_name", 1)]) (N := ["_law_size", "_law_name"]) (sc := defScope lNew) (by decide +kernel)) (fun _ _ _ _ _ => (pg_name (i := 1) scLNew.nd rfl (Or.inl rfl))) (fun _ _ _ _ _ => pts_nil) (fun _ _ _ _ _ => (pe_lst (pa_cons (pe_op op_add (pv 0) pe_int) (pa_cons pe_int (pa_cons (pe_lst pa_nil) pa_nil)))))))), ?_⟩
    have hlo : ∀ i, i < n → lo (init n).ps i = (n : Int) + 1 ∧ tk n (pAt (init n).ps i) = 0 ∧ (pAt (init n).ps i).seen = [] := fun i hi => by
      unfold lo
      rw [pAt_init hi]
      refine ⟨rfl, ?_, rfl⟩
      unfold tk p0
      show ((n : Int) - ((n : Int) + 1)) * ((n : Int) + 1) + 1 + (n : Int) = 0
      have : (n : Int) - ((n : Int) + 1) = -1 := by omega
      rw [this]
      omega
    refine ⟨_, rfl, n, rfl, by omega, by omega, fun D hD => lc_range (lo := 0) (n := n) (fun i H' => ∃ hs ss : List Addr, hs.length = i ∧ ss.length = i ∧ H' D = some (.lst (hs.map V.ref)) ∧ Same H H' ∧ (D :: (hs ++ ss)).Nodup ∧ (∀ a ∈ hs ++ ss, H a = none) ∧
        (∀ (j : Nat) (h b : Addr), hs[j]? = some h → ss[j]? = some b → H' h = some (.lst [.int ((n : Int) + 1), .int 0, .ref b])) ∧ ∀ (j : Nat) (b : Addr), ss[j]? = some b → H' b = some (.lst []))
      ⟨[], [], rfl, rfl, upd_same, same_upd hD, by simp, by simp, (by intro j h b h1; cases h1), (by intro j b h1; cases h1)⟩ ?_ ?_⟩
    · rintro i H1 hi ⟨hs, ss, l1, l2, d1, s1, nd, fr, e1, e2⟩
      refine ⟨rfl, ?_⟩
      refine yesI ?_
      refine ⟨_, rfl, _, _, rfl, rfl, by decide, fun b hb => ⟨(by show 3 ≤ sizeLine; decide), fun h hh => ?_⟩⟩
      have hDb : D ≠ b := ne_of_none d1 hb
      have s2 : Same H1 (upd H1 b (.lst [])) := same_upd hb
      have s3 : Same (upd H1 b (.lst [])) (upd (upd H1 b (.lst [])) h (.lst [.int ((n : Int) + 1), .int 0, .ref b])) := same_upd hh
      have hDh : D ≠ h := ne_of_none (s2 _ _ d1) hh
      have hbh : b ≠ h := ne_of_none (upd_same (H := H1) (a := b)) hh
      have h1n : H1 h = none := s2.free hh
      have dd := (s2.trans s3) _ _ d1
      have any1 : ∀ a ∈ hs ++ ss, ∃ o, H1 a = some o := fun a ha => by
        rcases List.mem_append.mp ha with ha | ha
        · obtain ⟨j, hj⟩ := List.mem_iff_getElem?.mp ha
          have := (List.getElem?_eq_some_iff.mp hj).1
          exact ⟨_, e1 j a _ hj (List.getElem?_eq_getElem (by omega))⟩
        · obtain ⟨j, hj⟩ := List.mem_iff_getElem?.mp ha
          exact ⟨_, e2 j a hj⟩
      have nb : b ∉ hs ++ ss := fun hm => by obtain ⟨o, ho⟩ := any1 b hm; rw [hb] at ho; cases ho
      have nh : h ∉ hs ++ ss := fun hm => by obtain ⟨o, ho⟩ := any1 h hm; rw [h1n] at ho; cases ho
      obtain ⟨nd1, nd2⟩ := List.nodup_cons.mp nd
      obtain ⟨nd3, nd4, nd5⟩ := List.nodup_append.mp nd2
      refine ⟨_, dd, sml (by rw [List.length_map]; omega), hs ++ [h], ss ++ [b], (by rw [List.length_append, l1]; rfl), (by rw [List.length_append, l2]; rfl), by rw [upd_same, List.map_append]; rfl, fun x o e => uk (ne_of_none e hD) ((s2.trans s3) _ _ (s1 _ _ e)), ?_, ?_, ?_, ?_⟩
      · have mem : ∀ x, x ∈ (hs ++ [h]) ++ (ss ++ [b]) ↔ x ∈ hs ++ ss ∨ x = h ∨ x = b := fun x => by
          simp only [List.mem_append, List.mem_singleton]
          constructor
          · rintro ((q | q) | (q | q))
            · exact .inl (.inl q)
            · exact .inr (.inl q)
            · exact .inl (.inr q)
            · exact .inr (.inr q)
          · rintro ((q | q) | (q | q))
            · exact .inl (.inl q)
            · exact .inr (.inl q)
            · exact .inl (.inr q)
            · exact .inr (.inr q)
        refine List.nodup_cons.mpr ⟨fun hm => ?_, ?_⟩
        · rcases (mem D).mp hm with q | q | q
          · exact nd1 q
          · exact hDh q
          · exact hDb q
        · refine List.nodup_append.mpr ⟨List.nodup_append.mpr ⟨nd3, by simp, fun x hx y hy z => ?_⟩, List.nodup_append.mpr ⟨nd4, by simp, fun x hx y hy z => ?_⟩, fun x hx y hy z => ?_⟩
          · rw [List.mem_singleton.mp hy] at z
            exact nh (z ▸ List.mem_append_left _ hx)
          · rw [List.mem_singleton.mp hy] at z
            exact nb (z ▸ List.mem_append_right _ hx)
          · subst z
            rcases List.mem_append.mp hx with hx | hx
            · rcases List.mem_append.mp hy with hy | hy
              · exact nd5 x hx x hy rfl
              · rw [List.mem_singleton.mp hy] at hx
                exact nb (List.mem_append_left _ hx)
            · rw [List.mem_singleton.mp hx] at hy
              rcases List.mem_append.mp hy with hy | hy
              · exact nh (List.mem_append_right _ hy)
              · exact hbh (List.mem_singleton.mp hy).symm
      · intro a ha
        rw [List.mem_append, List.mem_append, List.mem_append, List.mem_singleton, List.mem_singleton] at ha
        rcases ha with (q | q) | (q | q)
        · exact fr a (List.mem_append_left _ q)
        · rw [q]; exact s1.free h1n
        · exact fr a (List.mem_append_right _ q)
        · rw [q]; exact s1.free hb
      · intro j x y g1 g2
        rw [List.getElem?_append] at g1 g2
        by_cases q : j < i
        · rw [if_pos (by omega)] at g1 g2
          have := e1 j x y g1 g2
          exact uk (fun z => nd1 (z ▸ List.mem_append_left _ (List.mem_of_getElem? g1))) ((s2.trans s3) _ _ this)
        · rw [if_neg (by omega)] at g1 g2
          cases z : j - hs.length with
          | zero =>
            rw [z] at g1
            rw [show j - ss.length = 0 by omega] at g2
            have x1 : h = x := Option.some.inj g1
            have x2 : b = y := Option.some.inj g2
            rw [← x1, ← x2]
            exact uk hDh.symm upd_same
          | succ m => rw [z] at g1; simp at g1
      · intro j y g2
        rw [List.getElem?_append] at g2
        by_cases q : j < i
        · rw [if_pos (by omega)] at g2
          have := e2 j y g2
          exact uk (fun z => nd1 (z ▸ List.mem_append_right _ (List.mem_of_getElem? g2))) ((s2.trans s3) _ _ this)
        · rw [if_neg (by omega)] at g2
          cases z : j - ss.length with
          | zero =>
            rw [z] at g2
            have x2 : b = y := Option.some.inj g2
            rw [← x2]
            exact uk hDb.symm (s3 _ _ upd_same)
          | succ m => rw [z] at g2; simp at g2
    · rintro H1 ⟨hs, ss, l1, l2, d1, s1, nd, fr, e1, e2⟩
      refine k H1 ⟨D, hs, ss⟩ s1 ⟨d1, l1, l2, fun i h b g1 g2 => ?_, fun i b g2 => ?_, nd⟩ fun a ha => ?_
      · have hi : i < n := by have := (List.getElem?_eq_some_iff.mp g1).1; show i < n; have q : i < hs.length := this; omega
        obtain ⟨x1, x2, x3⟩ := hlo i hi
        rw [x1, x2]
        exact e1 i h b g1 g2
      · have hi : i < n := by have := (List.getElem?_eq_some_iff.mp g2).1; have q : i < ss.length := this; omega
        rw [(hlo i hi).2.2]
        exact e2 i b g2
      · rcases List.mem_cons.mp ha with e | ha
        · rw [e]; exact hD
        · exact fr a ha
theorem scLStep : FnScope ["_law_state", "_law_cells", "_law_name", "_law_size", "_law_held", "_law_at"] ["_law_state", "_law_cells", "_law_name"] (defScope lStep) := ⟨rfl, rfl, rfl, by decide +kernel, rfl, by decide +kernel, by decide +kernel⟩
theorem ok_lStep {f : Addr} {fd : FuncData} (F : Fun K "_law_step" "_law_step" lStep f fd) (T : Blt mg) : FnOk PR w K mg base CX0 1 f fd ["_law_state", "_law_cells", "_law_name"] spLStep := by
  refine F.ok scLStep (fun vs H Q E h => ?_) (fun cdv A outer s H vs Q E hr h => ?_)
  · obtain ⟨A, c, n, st, i, rfl, _⟩ := h
    rfl
  · obtain ⟨A, c, n, st, i, rfl, L, hc, hcm, I, h6, hi, k⟩ := h
    refine ⟨_, (pss_cons (ps_set (i := 3) scLStep.nd rfl (Or.inl rfl) (pe_callB call_len (by rfl) T.len b_len (pa_cons (pv 1) pa_nil)))
 (pss_cons (ps_set (i := 4) scLStep.nd rfl (Or.inl rfl) (pe_ix ix_list (pv 0) (pv 2) (fun _ _ => rfl)))
 (pss_cons (ps_set (i := 5) scLStep.nd rfl (Or.inl rfl) (pe_op op_mod (pe_ix ix_list (pv 4) pe_int (fun _ _ => rfl)) (pe_op op_add (pv 3) pe_int)))
 (pss_cons (ps_asg (pe_op op_add (pe_ix ix_list (pv 4) pe_int (fun _ _ => rfl)) pe_int) (pg_sub (pv 4) pe_int set_list))
 (pss_cons (ps_if (pt_cmpR op_eq (pv 5) pe_int (nomark _)) (pss_cons (ps_asg (pe_op op_sub (pe_ix ix_list (pv 4) pe_int (fun _ _ => rfl)) pe_int) (pg_sub (pv 4) pe_int set_list))
 (pss_cons (ps_asg (pe_ix ix_list (pv 4) pe_int (fun _ _ => rfl)) (pg_sub (pv 1) (pv 2) set_list))
 (pss_cons (ps_asg (pe_lst pa_nil) (pg_sub (pv 4) pe_int set_list))
 (pss_one (ps_ret pe_non))))) pss_nil)
 (pss_cons (ps_if (pt_cmpR op_le (pe_ix ix_list (pv 1) (pe_op op_sub (pv 5) pe_int) (fun _ _ => rfl)) (pe_ix ix_list (pv 4) pe_int (fun _ _ => rfl)) (nomark _)) (pss_one (ps_expr (pe_bm PySem.F.plainAttrs_list PySem.F.slot_list_append PySem.F.type_list_append mt_append (pe_ix ix_list (pv 4) pe_int (fun _ _ => rfl)) (pa_cons (pe_op op_sub (pv 5) pe_int) pa_nil)))) pss_nil)
 (pss_cons (ps_if (PW.pt (pw_and (pt_cmpR op_eq (pv 5) (pv 3) (nomark _)) (pw_and1 (pt_cmpR op_ge (pe_callB call_len_seq (by rfl) T.len b_len (pa_cons (pe_ix ix_list (pv 4) pe_int (fun _ _ => rfl)) pa_nil)) (pe_ix ix_list (pv 4) pe_int (fun _ _ => rfl)) (nomark _))))) (pss_one (ps_ret (pe_callTy call_tuple_of (by rfl) T.tuple b_tuple (pa_cons (pe_ix ix_list (pv 4) pe_int (fun _ _ => rfl)) pa_nil)))) pss_nil)
 (pss_one (ps_ret pe_non))))))))), ?_⟩
    have hn := I.len
    have hil : i < st.ps.length := by omega
    have hrl := I.rle i hi
    obtain ⟨h, hh⟩ : ∃ h, A.hs[i]? = some h := ⟨A.hs[i]'(by rw [L.hl]; exact hi), List.getElem?_eq_getElem _⟩
    obtain ⟨b, hb⟩ : ∃ b, A.ss[i]? = some b := ⟨A.ss[i]'(by rw [L.sl]; exact hi), List.getElem?_eq_getElem _⟩
    have eh := L.held i h b hh hb
    have es := L.seen i b hb
    have mh : h ∈ A.mut := List.mem_cons_of_mem _ (List.mem_append_left _ (List.mem_of_getElem? hh))
    have mb : b ∈ A.mut := List.mem_cons_of_mem _ (List.mem_append_right _ (List.mem_of_getElem? hb))
    have hch : c ≠ h := fun z => hcm (z ▸ mh)
    have hcb : c ≠ b := fun z => hcm (z ▸ mb)
    have hhb : h ≠ b := by
      obtain ⟨_, n2⟩ := List.nodup_cons.mp L.nd
      exact (List.nodup_append.mp n2).2.2 h (List.mem_of_getElem? hh) b (List.mem_of_getElem? hb)
    have hmod := tk_mod (n := n) (p := pAt st.ps i) hrl
    refine ⟨_, rfl, V.ref c, n, rfl, .inl ⟨_, SqL.of hc, by rw [List.length_map, hn]⟩, _, rfl, _, rfl, A.st, _, _, V.ref h, rfl, rfl, SqL.of L.ob, atI_nat (by rw [List.getElem?_map, hh]; rfl), ?_⟩
    refine ⟨_, rfl, h, _, _, V.int (tk n (pAt st.ps i)), rfl, rfl, SqL.of eh, rfl, _, rfl, _, _, rfl, rfl, _, _, rfl, rfl, (by show (0 : Int) < (n : Int) + 1; omega), ?_⟩
    show gName 5 (V.int (tk n (pAt st.ps i) % ((n : Int) + 1))) _ _ _
    rw [hmod]
    refine ⟨_, rfl, h, _, _, V.int (tk n (pAt st.ps i)), rfl, rfl, SqL.of eh, rfl, _, _, rfl, rfl, _, rfl, h, _, 1, 1, rfl, rfl, eh, rfl, ?_⟩
    have hps : ∀ p', (lowsV st.ps).set i (.int p'.low) = lowsV (st.ps.set i p') := fun p' => by unfold lowsV; rw [List.map_set]
    have nlow : ∀ x ∈ A.mut, ∀ {o}, H x = some o → (o ≠ .lst [] ∨ True) := fun _ _ _ _ => .inr trivial
    have tkn := tk_nxt I (i := i)
    have afr : ∀ {q : Addr}, H q = none → q ∉ A.mut := fun hq hm => by
      obtain ⟨xs, hxs⟩ := L.any hm
      rw [hq] at hxs; cases hxs
    by_cases hr0 : (pAt st.ps i).r = n
    · rw [if_pos hr0]
      refine ⟨_, rfl, rfl, _, rfl, ?_⟩
      refine iteT ?_
      have enx : nxt n st.ps (pAt st.ps i) = ⟨lo st.ps i - 1, 0, []⟩ := if_pos hr0
      rw [enx] at k tkn
      refine ⟨_, rfl, h, _, _, V.int (lo st.ps i), rfl, rfl, SqL.of upd_same, rfl, _, _, rfl, rfl, _, rfl, h, _, 0, 0, rfl, rfl, upd_same, rfl, ?_⟩
      refine ⟨_, rfl, h, _, _, V.int (lo st.ps i - 1), rfl, rfl, SqL.of upd_same, rfl, _, rfl, _, rfl, c, _, i, i, rfl, rfl, uk hch (uk hch hc), ixN_nat (by rw [List.length_map]; exact hil), ?_⟩
      refine ⟨by decide, fun q hq => ?_⟩
      have q0 : q ≠ h ∧ q ≠ c ∧ H q = none := by
        have h1 : q ≠ c := fun z => by rw [z, upd_same] at hq; cases hq
        rw [upd_ne h1] at hq
        have h2 : q ≠ h := fun z => by rw [z, upd_same] at hq; cases hq
        rw [upd_ne h2, upd_ne h2] at hq
        exact ⟨h2, h1, hq⟩
      obtain ⟨qh, qc, q0⟩ := q0
      refine ⟨_, rfl, h, _, 2, 2, rfl, rfl, uk qh.symm (uk hch.symm upd_same), rfl, ?_⟩
      have LN := L.upd (H' := upd (upd (upd (upd (upd H h (.lst [.int (lo st.ps i), .int (tk n (pAt st.ps i) + 1), .ref b])) h (.lst [.int (lo st.ps i - 1), .int (tk n (pAt st.ps i) + 1), .ref b])) c (.lst ((lowsV st.ps).set i (.int (lo st.ps i - 1))))) q (.lst [])) h (.lst [.int (lo st.ps i - 1), .int (tk n (pAt st.ps i) + 1), .ref q])) hn hi hh hb (b' := q) (.inr q0) ⟨lo st.ps i - 1, 0, []⟩
        (by rw [upd_same, tkn]) (by exact uk qh upd_same) (fun x o e hm h1 h2 => by
          have xc : x ≠ c := fun z => hcm (z ▸ hm)
          exact uk h1 (uk (ne_of_none e q0) (uk xc (uk h1 (uk h1 e)))))
      refine k _ ⟨A.st, A.hs, A.ss.set i q⟩ .non rfl LN ?_ ?_ (by unfold due; rw [if_pos hr0]; rfl) (fun x o e h1 h2 => ?_) (fun a ha => ?_)
      · rw [← hps ⟨lo st.ps i - 1, 0, []⟩]
        exact uk hch (uk qc.symm upd_same)
      · intro hm
        obtain ⟨xs, hxs⟩ := LN.any hm
        rcases List.mem_cons.mp hm with e | hm
        · exact hcm (e ▸ List.mem_cons_self)
        rcases List.mem_append.mp hm with hm | hm
        · exact hcm (List.mem_cons_of_mem _ (List.mem_append_left _ hm))
        · rcases List.mem_or_eq_of_mem_set hm with hm | hm
          · exact hcm (List.mem_cons_of_mem _ (List.mem_append_right _ hm))
          · exact qc hm.symm
      · exact uk (fun z => h2 (z ▸ mh)) (uk (ne_of_none e q0) (uk h1 (uk (fun z => h2 (z ▸ mh)) (uk (fun z => h2 (z ▸ mh)) e))))
      · rcases List.mem_cons.mp ha with e | ha
        · exact .inl (e ▸ List.mem_cons_self)
        rcases List.mem_append.mp ha with ha | ha
        · exact .inl (List.mem_cons_of_mem _ (List.mem_append_left _ ha))
        · rcases List.mem_or_eq_of_mem_set ha with ha | ha
          · exact .inl (List.mem_cons_of_mem _ (List.mem_append_right _ ha))
          · exact .inr (ha ▸ q0)
    · rw [if_neg hr0]
      have hrn : (pAt st.ps i).r < n := by omega
      refine ⟨_, rfl, rfl, _, rfl, ?_⟩
      rw [dec_int]
      have e0 : (((pAt st.ps i).r : Int) + 1 == 0) = false := by
        rw [beq_eq_false_iff_ne]; omega
      rw [e0]
      refine iteF ?_
      have enx : nxt n st.ps (pAt st.ps i) = ⟨lo st.ps i, (pAt st.ps i).r + 1, rd st.ps (pAt st.ps i)⟩ := if_neg hr0
      rw [enx] at k tkn
      have idx : ((pAt st.ps i).r : Int) + 1 - 1 = ((pAt st.ps i).r : Int) := by omega
      -- what is left once the read is noted
      have mid : ∀ (D : Ends) (H2 : Hp), H2 h = some (.lst [.int (lo st.ps i), .int (tk n (pAt st.ps i) + 1), .ref b]) → H2 b = some (.lst (natV (rd st.ps (pAt st.ps i)))) → (∀ x o, H x = some o → x ≠ h → x ≠ b → H2 x = some o) → (∀ x, H2 x = none → H x = none) → (∀ u H', Q u H' → D.rt u H') →
          tSeq (tIfS (tAnd (tTest (tOp rEq (tVar 5) (tVar 3))) (tTest (tOp (rI0 fun i j => .bl (decide (j ≤ i))) (tCB (fun xs H Q => ∃ p ys, xs = [.ref p] ∧ (SqL K H p ys ∨ SqT K H p ys) ∧ Q (.int ys.length) H) (tCons (tOp (rIxL K) (tVar 4) (tC (.int 2))) tNil)) (tOp (rIxL K) (tVar 4) (tC (.int 0))))))
            (tRet (tCB (fun xs H Q => ∃ p ys, xs = [.ref p] ∧ ((SqL K H p ys ∧ ∀ l, H l = none → Q (.ref l) (upd H l (.tup ys))) ∨ (SqT K H p ys ∧ Q (.ref p) H))) (tCons (tOp (rIxL K) (tVar 4) (tC (.int 2))) tNil))) tNext) (tRet (tC .non)) D
            [some (.ref A.st), some (.ref c), some (.int i), some (.int n), some (.ref h), some (.int (((pAt st.ps i).r : Int) + 1))] H2 := fun D H2 f1 f2 f3 f4 fD => by
        have LN : ∀ H', (∀ x o, H2 x = some o → H' x = some o) → LawSt n H' ⟨A.st, A.hs, A.ss.set i b⟩ (st.ps.set i ⟨lo st.ps i, (pAt st.ps i).r + 1, rd st.ps (pAt st.ps i)⟩) := fun H' s' =>
          L.upd hn hi hh hb (b' := b) (.inl rfl) ⟨lo st.ps i, (pAt st.ps i).r + 1, rd st.ps (pAt st.ps i)⟩ (by rw [tkn]; exact s' _ _ f1) (s' _ _ f2) (fun x o e _ h1 h2 => s' _ _ (f3 x o e h1 h2))
        have same : A.ss.set i b = A.ss := by
          obtain ⟨q1, q2⟩ := List.getElem?_eq_some_iff.mp hb
          rw [← q2, List.set_getElem_self]
        have fin : ∀ u H', (∀ x o, H2 x = some o → H' x = some o) → LookV H' u (due n st.ps (pAt st.ps i)) → Q u H' := fun u H' s' hu => by
          refine k H' ⟨A.st, A.hs, A.ss.set i b⟩ u rfl (LN H' s') ?_ ?_ hu (fun x o e h1 h2 => s' _ _ (f3 x o e (fun z => h2 (z ▸ mh)) (fun z => h2 (z ▸ mb)))) (fun a ha => .inl ?_)
          · rw [← hps ⟨lo st.ps i, (pAt st.ps i).r + 1, rd st.ps (pAt st.ps i)⟩]
            have : (lowsV st.ps).set i (.int (lo st.ps i)) = lowsV st.ps := by
              have q := lowsV_get hil
              obtain ⟨q1, q2⟩ := List.getElem?_eq_some_iff.mp q
              rw [← q2, List.set_getElem_self]
            show H' c = some (.lst ((lowsV st.ps).set i (.int (lo st.ps i))))
            rw [this]
            exact s' _ _ (f3 _ _ hc hch hcb)
          · rw [same]; exact hcm
          · rw [same] at ha; exact ha
        refine ⟨_, rfl, _, rfl, rfl, _, rfl, ?_⟩
        rw [dec_int]
        refine ite2 (fun c1 => ?_) (fun c1 => ?_)
        · have c1' : ((pAt st.ps i).r : Int) + 1 = (n : Int) := beq_iff_eq.mp c1
          refine ⟨_, rfl, h, _, _, V.ref b, rfl, rfl, SqL.of f1, rfl, b, _, rfl, .inl (SqL.of f2), _, rfl, h, _, _, V.int (lo st.ps i), rfl, rfl, SqL.of f1, rfl, _, _, rfl, rfl, _, rfl, ?_⟩
          rw [List.length_map]
          refine ite2 (fun c2 => ?_) (fun c2 => ?_)
          · have c2' : lo st.ps i ≤ ((rd st.ps (pAt st.ps i)).length : Int) := of_decide_eq_true c2
            have hd : due n st.ps (pAt st.ps i) = some (rd st.ps (pAt st.ps i)) := by
              unfold due
              rw [if_neg hr0, if_pos ⟨by omega, c2'⟩]
            refine ⟨_, rfl, h, _, _, V.ref b, rfl, rfl, SqL.of f1, rfl, b, _, rfl, .inl ⟨SqL.of f2, fun q hq => fD _ _ (fin _ _ (same_upd hq) ?_)⟩⟩
            rw [hd]
            exact ⟨q, rfl, upd_same⟩
          · have c2' : ¬ lo st.ps i ≤ ((rd st.ps (pAt st.ps i)).length : Int) := fun z => c2 (decide_eq_true z)
            refine fD _ _ (fin _ _ (fun _ _ e => e) ?_)
            unfold due
            rw [if_neg hr0, if_neg (fun z => c2' z.2)]; rfl
        · have c1' : ¬ ((pAt st.ps i).r : Int) + 1 = (n : Int) := fun z => c1 (beq_iff_eq.mpr z)
          refine fD _ _ (fin _ _ (fun _ _ e => e) ?_)
          unfold due
          rw [if_neg hr0, if_neg (fun z => c1' (by have := z.1; omega))]; rfl
      refine ⟨_, rfl, _, rfl, _, _, rfl, rfl, c, _, _, V.int (lo st.ps (pAt st.ps i).r), rfl, rfl, SqL.of (uk hch hc), (by rw [idx]; exact atI_nat (lowsV_get (by omega))), _, rfl, h, _, _, V.int (lo st.ps i), rfl, rfl, SqL.of upd_same, rfl, _, _, rfl, rfl, _, rfl, ?_⟩
      refine ite2 (fun c1 => ?_) (fun c1 => ?_)
      · have c1' : lo st.ps (pAt st.ps i).r ≤ lo st.ps i := of_decide_eq_true c1
        have erd : rd st.ps (pAt st.ps i) = (pAt st.ps i).seen ++ [(pAt st.ps i).r] := if_pos c1'
        refine ⟨_, rfl, h, _, _, V.ref b, rfl, rfl, SqL.of upd_same, rfl, tyl (uk hhb.symm es), _, rfl, _, _, rfl, rfl, b, _, _, rfl, rfl, uk hhb.symm es, sml (by rw [List.length_map]; have := seen_len I hi; omega), ?_⟩
        refine mid _ _ (uk hhb upd_same) ?_ (fun x o e h1 h2 => uk h2 (uk h1 e)) (fun x e => ?_) (fun u H' q => q)
        · rw [upd_same]
          show some (HO.lst (natV (pAt st.ps i).seen ++ [V.int (((pAt st.ps i).r : Int) + 1 - 1)])) = _
          rw [idx, erd]; simp [natV]
        · have h2 : x ≠ b := fun z => by rw [z, upd_same] at e; cases e
          rw [upd_ne h2] at e
          have h1 : x ≠ h := fun z => by rw [z, upd_same] at e; cases e
          rw [upd_ne h1] at e
          exact e
      · have c1' : ¬ lo st.ps (pAt st.ps i).r ≤ lo st.ps i := fun z => c1 (decide_eq_true z)
        have erd : rd st.ps (pAt st.ps i) = (pAt st.ps i).seen := if_neg c1'
        refine mid _ _ upd_same (by rw [erd]; exact uk hhb.symm es) (fun x o e h1 h2 => uk h1 e) (fun x e => ?_) (fun u H' q => q)
        have h1 : x ≠ h := fun z => by rw [z, upd_same] at e; cases e
        rw [upd_ne h1] at e
        exact e
end
end K07
/-! _law_few_below, _law_within, _law_same. -/
namespace K07
open PySem PySem.Spec PyProof.Rows L2
theorem LevAt.same {C : Addr} {n : Nat} {H H' : Hp} {B : LA} {s : Ls} (L : LevAt C n H B s) (s2 : Same H H') : LevAt C n H' B s :=
  ⟨s2 _ _ L.ob, s2 _ _ L.hc, s2 _ _ L.hl, s2 _ _ L.ht, s2 _ _ L.hs, L.sal, fun i a h => s2 _ _ (L.hsa i a h), s2 _ _ L.hd, L.lal, fun j i l a h1 h2 => s2 _ _ (L.hla j i l a h1 h2), L.nd⟩
theorem LawSt.same {n : Nat} {H H' : Hp} {A : LS} {ps : List Pr} (L : LawSt n H A ps) (s : Same H H') : LawSt n H' A ps := L.keep fun a _ o e => s _ _ e
/-! ### data -/
theorem lay_all {k : Nat} : ∀ {ds : List PyData}, (∀ d ∈ ds, d.canLay0 = true ∧ d.depth ≤ k) → PyData.canLayAll0 ds = true ∧ PyData.depthAll ds ≤ k
  | [], _ => by simp [PyData.canLayAll0, PyData.depthAll]
  | d :: ds, h => by
    obtain ⟨h1, h2⟩ := h d List.mem_cons_self
    obtain ⟨h3, h4⟩ := lay_all fun e he => h e (List.mem_cons_of_mem _ he)
    refine ⟨by simp [PyData.canLayAll0, h1, h3], ?_⟩
    simp only [PyData.depthAll]
    omega
theorem lay_tup {k : Nat} {ds : List PyData} (h : ∀ d ∈ ds, d.canLay0 = true ∧ d.depth ≤ k) : (PyData.tuple ds).canLay0 = true ∧ (PyData.tuple ds).depth ≤ k + 1 := by
  obtain ⟨h1, h2⟩ := lay_all h
  refine ⟨by simp [PyData.canLay0, h1], ?_⟩
  simp only [PyData.depth]
  omega
theorem lay_lst {k : Nat} {ds : List PyData} (h : ∀ d ∈ ds, d.canLay0 = true ∧ d.depth ≤ k) : (PyData.list ds).canLay0 = true ∧ (PyData.list ds).depth ≤ k + 1 := by
  obtain ⟨h1, h2⟩ := lay_all h
  refine ⟨by simp [PyData.canLay0, h1], ?_⟩
  simp only [PyData.depth]
  omega
theorem lay_int (i : Int) : (PyData.int i).canLay0 = true ∧ (PyData.int i).depth ≤ 0 := ⟨by simp [PyData.canLay0], by simp [PyData.depth]⟩
theorem shaped_lay {d : PyData} {k : Nat} (h : d.canLay0 = true ∧ d.depth ≤ k) (hk : k ≤ 64) : SeqAt.shaped d = true := by
  unfold SeqAt.shaped
  rw [h.1, decide_eq_true (Nat.le_trans h.2 hk)]
  rfl
def natD (l : List Nat) : PyData := .tuple (l.map fun (j : Nat) => .int (j : Int))
theorem lay_nat (l : List Nat) : (natD l).canLay0 = true ∧ (natD l).depth ≤ 1 := lay_tup fun d hd => by
  obtain ⟨j, _, rfl⟩ := List.mem_map.mp hd
  exact lay_int _
theorem dp_natV {K : PySem.W.Frag} {H : Hp} : ∀ l : List Nat, DpAll K H (natV l) (l.map fun (j : Nat) => .int (j : Int))
  | [] => .nil
  | x :: l => .cons (.int x) (dp_natV l)
theorem dp_nat {K : PySem.W.Frag} {H : Hp} {a : Addr} {l : List Nat} (h : H a = some (.tup (natV l))) : Dp K H (.ref a) (natD l) := .tup (SqT.of h) (dp_natV l)
/-- equal data are not unlike -/
theorem ne_same {K : PySem.W.Frag} {H : Hp} {x y : V} {d : PyData} {Q : VK} {k : Nat} (h1 : Dp K H x d) (h2 : Dp K H y d) (hl : d.canLay0 = true ∧ d.depth ≤ k) (hk : k ≤ 64) (q : Q (.bl false) H) : rNeD K x y H Q :=
  ⟨d, d, h1, h2, shaped_lay hl hk, shaped_lay hl hk, by rw [SeqAt.eqv_refl _ hl.1]; exact q⟩
theorem filtI_next {P : Int → Bool} {l : List Int} {i : Nat} {x : Int} (h : l[i]? = some x) : intV ((l.take (i + 1)).filter P) = if P x = true then intV ((l.take i).filter P) ++ [V.int x] else intV ((l.take i).filter P) := by
  rw [List.take_add_one, h, List.filter_append]
  by_cases c : P x = true
  · rw [if_pos c]; simp [c]
  · rw [if_neg c]; simp [c]
theorem int_at {l : List Int} {i : Nat} {x : V} (h : (intV l)[i]? = some x) : ∃ j, l[i]? = some j ∧ x = .int j := by
  rw [List.getElem?_map] at h
  cases e : l[i]? with
  | none => rw [e] at h; cases h
  | some j => rw [e] at h; exact ⟨j, rfl, (Option.some.inj h).symm⟩
theorem nat_at {l : List Nat} {i : Nat} {x : V} (h : (natV l)[i]? = some x) : ∃ j, l[i]? = some j ∧ x = .int j := by
  rw [List.getElem?_map] at h
  cases e : l[i]? with
  | none => rw [e] at h; cases h
  | some j => rw [e] at h; exact ⟨j, rfl, (Option.some.inj h).symm⟩
theorem ref_at {l : List Addr} {i : Nat} {x : V} (h : (l.map V.ref)[i]? = some x) : ∃ j, l[i]? = some j ∧ x = .ref j := by
  rw [List.getElem?_map] at h
  cases e : l[i]? with
  | none => rw [e] at h; cases h
  | some j => rw [e] at h; exact ⟨j, rfl, (Option.some.inj h).symm⟩
theorem dictV_keys : ∀ {lk : List (Nat × List Nat)} {la : List Addr}, la.length = lk.length → (dictV lk la).map (fun kv => kV kv.1) = natV (lk.map (·.1))
  | [], _, _ => rfl
  | x :: lk, [], h => by cases h
  | x :: lk, a :: la, h => by
    have ih := dictV_keys (lk := lk) (la := la) (by simpa using h)
    show V.int (x.1 : Int) :: (dictV lk la).map (fun kv => kV kv.1) = V.int (x.1 : Int) :: natV (lk.map (·.1))
    rw [ih]
theorem natV_int (l : List Nat) : natV l = intV (l.map fun (j : Nat) => (j : Int)) := by
  unfold natV intV
  rw [List.map_map]; rfl
theorem sorted_nat {ns : List Int} {m g : List Nat} (pm : ns.Perm (m.map fun (j : Nat) => (j : Int))) (pw : ns.Pairwise (· ≤ ·)) (hg : g.Perm m) (ha : g.Pairwise (· < ·)) : ns = g.map fun (j : Nat) => (j : Int) := by
  refine List.Perm.eq_of_pairwise (le := fun (a b : Int) => a ≤ b) (fun a b _ _ h1 h2 => by omega) pw (List.pairwise_map.mpr (ha.imp fun {a b} h => by omega)) (pm.trans (hg.symm.map _))
theorem LawSt.get {n : Nat} {H : Hp} {A : LS} {ps : List Pr} (L : LawSt n H A ps) {i : Nat} (hi : i < n) : ∃ h b, A.hs[i]? = some h ∧ (A.hs.map V.ref)[i]? = some (V.ref h) ∧ H h = some (.lst [.int (lo ps i), .int (tk n (pAt ps i)), .ref b]) ∧ H b = some (.lst (natV (pAt ps i).seen)) := by
  have h1 := L.hl
  have h2 := L.sl
  have e1 : A.hs[i]? = some A.hs[i] := List.getElem?_eq_getElem (by omega)
  have e2 : A.ss[i]? = some A.ss[i] := List.getElem?_eq_getElem (by omega)
  exact ⟨A.hs[i], A.ss[i], e1, by rw [List.getElem?_map, e1]; rfl, L.held i _ _ e1 e2, L.seen i _ e2⟩
/-- _law_few_below(levels, size) -/
def spLFew (C : Addr) : Sp := fun vs H Q _ => ∃ (B : LA) (n : Nat) (s : Ls), vs = [.ref B.p, .int n] ∧ LevAt C n H B s ∧ Inv n s ∧ n ≤ 6 ∧ ∀ H', Same H H' → Q (.bl true) H'
/-- _law_within(one, other) -/
def spLWithin : Sp := fun vs H Q _ => ∃ (a b : Addr) (l m : List Nat), vs = [.ref a, .ref b] ∧ H a = some (.tup (natV l)) ∧ H b = some (.tup (natV m)) ∧ l.length ≤ 100 ∧ ∀ H', Same H H' → Q (.bl (l.all fun j => decide (j ∈ m))) H'
/-- _law_same(levels, state, looks, size) -/
def spLSame (C : Addr) : Sp := fun vs H Q _ => ∃ (B : LA) (A : LS) (d : Addr) (la : List Addr) (n : Nat) (s : Ls), vs = [.ref B.p, .ref A.st, .ref d, .int n] ∧ LevAt C n H B s ∧ LawSt n H A s.ps ∧ DictAt H d s.lk la ∧ Inv n s ∧ n ≤ 6 ∧ ∀ H', Same H H' → Q (.bl true) H'
section
variable {w : World} {K : PySem.W.Frag} {mg : Str → Option Value} {base : Heap}
theorem scLWithin : FnScope ["_law_one", "_law_other", "_law_name"] ["_law_one", "_law_other"] (defScope lWithin) := ⟨rfl, rfl, rfl, by decide +kernel, rfl, by decide +kernel, by decide +kernel⟩
theorem ok_lWithin {f : Addr} {fd : FuncData} (F : Fun K "_law_within" "_law_within" lWithin f fd) (T : Blt mg) : FnOk PR w K mg base CX0 1 f fd ["_law_one", "_law_other"] spLWithin := by
  refine F.ok scLWithin (fun vs H Q E h => ?_) (fun cdv A outer s H vs Q E hr h => ?_)
  · obtain ⟨a, b, l, m, rfl, _⟩ := h
    rfl
  · obtain ⟨a, b, l, m, rfl, ha, hb, hl, k⟩ := h
    refine ⟨_, (pss_one (ps_ret (pe_callB (cr_all rfl) (by rfl) T.all b_all (pa_cons (pe_lc (own := [("_law_name", 2)]) (g := gName 2) (tt := tYes) (te := tOp (rIn K false) (tVar 2) (tVar 1)) rfl scLWithin.nd (pi_tup (pv 0)) (blkOk_by (own := [("_law_name", 2)]) (N := ["_law_one", "_law_other", "_law_name"]) (sc := defScope lWithin) (by decide +kernel)) (fun _ _ _ _ _ => (pg_name (i := 2) scLWithin.nd rfl (Or.inl rfl))) (fun _ _ _ _ _ => pts_nil) (fun _ _ _ _ _ => pe_cmpR op_in_seq (pv 2) (pv 1) (by rfl))) pa_nil)))), ?_⟩
    refine ⟨_, rfl, a, rfl, ⟨_, SqT.of ha⟩, fun D hD => lc_tup (K := K) (a := a) (xs := natV l) (fun i H' => H' = upd H D (.lst (((l.take i).map fun j => decide (j ∈ m)).map V.bl))) rfl (fun i H' _ e => by subst e; exact SqT.of (same_upd hD _ _ ha)) ?_ ?_⟩
    · rintro i x H' hx rfl
      obtain ⟨j, hj, rfl⟩ := nat_at hx
      refine ⟨rfl, ?_⟩
      refine yesI ?_
      refine ⟨_, rfl, _, rfl, b, natV m, rfl, .inr (SqT.of (same_upd hD _ _ hb)), rfl, flat_natV _, ?_⟩
      have hjl := (List.getElem?_eq_some_iff.mp hj).1
      refine ⟨_, upd_same, sml (by rw [List.length_map, List.length_map, List.length_take]; omega), ?_⟩
      rw [upd_upd]
      show upd H D (.lst (((l.take i).map fun j => decide (j ∈ m)).map V.bl ++ [V.bl (inV (V.int (j : Int)) (natV m))])) = _
      rw [inV_nat, List.take_add_one, hj, List.map_append, List.map_append]
      rfl
    · rintro H' rfl
      refine ⟨D, _, rfl, SqL.of upd_same, ?_⟩
      rw [List.length_map, List.take_length, List.all_map]
      exact k _ (same_upd hD)
theorem scLFew : FnScope ["_law_levels", "_law_size", "_law_told", "_law_name", "_law_k", "_law_low"] ["_law_levels", "_law_size"] (defScope lFew) := ⟨rfl, rfl, rfl, by decide +kernel, rfl, by decide +kernel, by decide +kernel⟩
theorem ok_lFew {f C CB CN : Addr} {fd : FuncData} (F : Fun K "_law_few_below" "_law_few_below" lFew f fd) (TL : LevCl w K mg base C CB CN) (T : Blt mg) : FnOk PR w K mg base CX0 4 f fd ["_law_levels", "_law_size"] (spLFew C) := by
  obtain ⟨fL, fdL, mL, bL, GL⟩ := TL.level
  refine F.ok scLFew (fun vs H Q E h => ?_) (fun cdv A outer s H vs Q E hr h => ?_)
  · obtain ⟨B, n, s, rfl, _⟩ := h
    rfl
  · obtain ⟨B, n, st, rfl, L, I, h6, k⟩ := h
    have hr3 : Room 3 _ := hr.mono (by decide)
    refine ⟨_, (pss_cons (ps_setLc (i := 2) (own := [("_law_name", 3)]) (g := gName 3) (tt := tYes) (te := tMeth C "level" (spRead C CN valLow) [] E0 (tVar 0) (tCons (tVar 3) tNil)) rfl scLFew.nd rfl rfl (by rfl) (pi_range1 (by rfl) T.range (pa_cons (pv 1) pa_nil)) (blkOk_by (own := [("_law_name", 3)]) (N := ["_law_levels", "_law_size", "_law_told", "_law_name", "_law_k", "_law_low"]) (sc := defScope lFew) (by decide +kernel)) (fun _ _ _ _ _ => (pg_name (i := 3) scLFew.nd rfl (Or.inl rfl))) (fun _ _ _ _ _ => pts_nil) (fun _ _ _ _ _ => pe_meth (pv 0) TL.tc.cl mL GL hr3 bL .nil passL (pa_cons (pv 3) pa_nil)))
 (pss_cons (ps_for PassesOwn.never rfl (pi_range2 (by rfl) T.range (pa_cons pe_int (pa_cons (pe_op op_add (pv 1) pe_int) pa_nil))) (pg_name (i := 4) scLFew.nd rfl (Or.inr rfl)) (pss_one (ps_if (pt_cmpR op_gt (pe_callB call_len (by rfl) T.len b_len (pa_cons (pe_lc (own := [("_law_low", 5)]) (g := gName 5) (tt := tTest (tOp (rI0 fun i j => .bl (decide (i ≤ j))) (tVar 5) (tVar 4))) (te := tVar 5) rfl scLFew.nd (pi_list (pv 2)) (blkOk_by (own := [("_law_low", 5)]) (N := ["_law_levels", "_law_size", "_law_told", "_law_name", "_law_k", "_law_low"]) (sc := defScope lFew) (by decide +kernel)) (fun _ _ _ _ _ => (pg_name (i := 5) scLFew.nd rfl (Or.inl rfl))) (fun _ _ _ _ _ => pts_one (pt_cmpR op_le (pv 5) (pv 4) (nomark _))) (fun _ _ _ _ _ => (pv 5))) pa_nil)) (pv 4) (nomark _)) (pss_one (ps_ret pe_bl)) pss_nil)))
 (pss_one (ps_ret pe_bl)))), ?_⟩
    have hn := I.len
    refine ⟨_, rfl, n, rfl, by omega, by omega, fun D hD => lc_rangeP (n := n) (fun i => intV ((List.range i).map (lo st.ps))) rfl (fun i hi Nx hN => ?_) ?_⟩
    · have s1 : Same H (upd H D (.lst (intV ((List.range i).map (lo st.ps))))) := same_upd hD
      have L1 := L.same s1
      refine ⟨rfl, ?_⟩
      refine yesI ?_
      refine ⟨_, rfl, B.p, B.dx, _, rfl, L1.ob, flds_level n B, _, rfl, B, n, st, .int ((0 : Int) + i), rfl, L1, hn, .int _, fun j e hj => ?_, fun hg => ?_⟩
      · injection e with e
        have : j = i := by omega
        subst this
        refine ⟨_, upd_same, sml (by rw [List.length_map, List.length_map, List.length_range]; omega), ?_⟩
        rw [upd_upd]
        rw [List.range_succ, List.map_append, show intV (List.map (lo st.ps) (List.range j) ++ List.map (lo st.ps) [j]) = intV (List.map (lo st.ps) (List.range j)) ++ [V.int (lo st.ps j)] from List.map_append] at hN
        exact hN
      · rw [Int.zero_add, nameOk_lt hi] at hg; cases hg
    · have s1 : Same H (upd H D (.lst (intV ((List.range n).map (lo st.ps))))) := same_upd hD
      have e1 : ((n : Int) + 1 - 1).toNat = n := by omega
      refine ⟨_, rfl, _, _, rfl, rfl, 1, (n : Int) + 1, rfl, ⟨by decide, by decide, by omega, by omega⟩, ?_⟩
      rw [e1]
      refine for_range (lo := 1) (n := n) (fun i σ H' => ∃ z4, σ = [some (.ref B.p), some (.int n), some (.ref D), none, z4, none] ∧ Same (upd H D (.lst (intV ((List.range n).map (lo st.ps))))) H') ⟨none, rfl, fun _ _ e => e⟩ ?_ ?_
      · rintro i σ H2 hi ⟨z4, rfl, s2⟩
        have t2 := s2 _ _ upd_same
        refine ⟨_, rfl, D, rfl, ⟨_, SqL.of t2⟩, fun E2 hE2 => lc_list (K := K) (a := D) (xs := intV ((List.range n).map (lo st.ps))) (fun j H' => H' = upd H2 E2 (.lst (intV ((((List.range n).map (lo st.ps)).take j).filter fun x => decide (x ≤ 1 + (i : Int)))))) rfl (fun j H' _ e => by subst e; exact SqL.of (same_upd hE2 _ _ t2)) ?_ ?_⟩
        · rintro j x H' hx rfl
          obtain ⟨y, hy, rfl⟩ := int_at hx
          have hjl := (List.getElem?_eq_some_iff.mp hy).1
          rw [List.length_map, List.length_range] at hjl
          have nx := filtI_next (P := fun x => decide (x ≤ 1 + (i : Int))) hy
          refine ⟨rfl, _, rfl, _, rfl, _, _, rfl, rfl, _, rfl, ite2 (fun c => ?_) (fun c => ?_)⟩
          · refine ⟨_, rfl, _, upd_same, sml ?_, ?_⟩
            · rw [List.length_map]
              refine Nat.le_trans (List.length_filter_le _ _) ?_
              rw [List.length_take]; omega
            · rw [if_pos c] at nx
              rw [upd_upd, nx]
          · rw [if_neg c] at nx
            rw [nx]
        · rintro H' rfl
          refine ⟨V.ref E2, _, rfl, .inl ⟨_, SqL.of upd_same, rfl⟩, _, rfl, _, _, rfl, rfl, _, rfl, ?_⟩
          have el : (intV ((((List.range n).map (lo st.ps)).take (intV ((List.range n).map (lo st.ps))).length).filter fun x => decide (x ≤ 1 + (i : Int)))).length = (below n st.ps ((i + 1 : Nat) : Int)).length := by
            rw [List.length_map, List.length_map, List.take_length, List.filter_map, List.length_map]
            unfold below
            congr 1
            refine List.filter_congr fun j _ => ?_
            show decide (lo st.ps j ≤ 1 + (i : Int)) = decide (lo st.ps j ≤ ((i + 1 : Nat) : Int))
            have : (1 : Int) + (i : Int) = ((i + 1 : Nat) : Int) := by omega
            rw [this]
          have f1 := (I.few (i + 1) (by omega) (by omega)).1
          rw [el]
          have : decide (1 + (i : Int) < ((below n st.ps ((i + 1 : Nat) : Int)).length : Int)) = false := decide_eq_false (by omega)
          show if decide (1 + (i : Int) < ((below n st.ps ((i + 1 : Nat) : Int)).length : Int)) = true then _ else _
          rw [this]
          exact iteF ⟨_, rfl, fun b o e => same_upd hE2 _ _ (s2 _ _ e)⟩
      · rintro σ H2 ⟨z4, rfl, s2⟩
        exact k H2 (s1.trans s2)
theorem scLSame : FnScope ["_law_levels", "_law_state", "_law_looks", "_law_size", "_law_wrote", "_law_name", "_law_low"] ["_law_levels", "_law_state", "_law_looks", "_law_size"] (defScope lSame) := ⟨rfl, rfl, rfl, by decide +kernel, rfl, by decide +kernel, by decide +kernel⟩
theorem ok_lSame {f fF fI C CB CN : Addr} {fd fdF fdI : FuncData} (F : Fun K "_law_same" "_law_same" lSame f fd) (FF : Fun K "_law_few_below" "_law_few_below" lFew fF fdF) (gF : mg "_law_few_below" = some (.ref fF)) (bF : Binds K fdF ["_law_levels", "_law_size"] [])
    (FI : Fun K "_law_int" "_law_int" lInt fI fdI) (gI : mg "_law_int" = some (.ref fI)) (bI : Binds K fdI ["_law_thing"] []) (TL : LevCl w K mg base C CB CN) (T : Blt mg) :
    FnOk PR w K mg base CX0 5 f fd ["_law_levels", "_law_state", "_law_looks", "_law_size"] (spLSame C) := by
  have GF : FnOk PR w K mg base CX0 4 fF fdF ["_law_levels", "_law_size"] (spLFew C) := ok_lFew FF TL T
  have GI : FnOk PR w K mg base CX0 1 fI fdI ["_law_thing"] spIsInt := ok_lInt FI T
  obtain ⟨fL, fdL, mL, bL, GL⟩ := TL.level
  obtain ⟨fT, fdT, mT, bT, GT⟩ := TL.taken
  obtain ⟨pW, fW, fdW, mW, bW, GW⟩ := TL.wrote
  obtain ⟨pG, fG, fdG, mG, bG, GG⟩ := TL.gone
  refine F.ok scLSame (fun vs H Q E h => ?_) (fun cdv A outer s H vs Q E hr h => ?_)
  · obtain ⟨B, A, d, la, n, s, rfl, _⟩ := h
    rfl
  · obtain ⟨B, A2, d, la, n, st, rfl, L, LS, DA, I, h6, k⟩ := h
    have hr1 : Room 1 _ := hr.mono (by decide)
    have hr2 : Room 2 _ := hr.mono (by decide)
    have hr3 : Room 3 _ := hr.mono (by decide)
    have hr4 : Room 4 _ := hr.mono (by decide)
    refine ⟨_, (pss_cons (ps_set (i := 4) scLSame.nd rfl (Or.inl rfl) (pe_callTy call_tuple_of (by rfl) T.tuple b_tuple (pa_cons (pe_lc (own := [("_law_name", 5)]) (g := gName 5) (tt := tTest (tOp (rI0 fun i j => .bl (decide (j < i))) (tOp (rIxL K) (tOp (rIxL K) (tVar 1) (tVar 5)) (tC (.int 1))) (tC (.int 0)))) (te := tVar 5) rfl scLSame.nd (pi_range1 (by rfl) T.range (pa_cons (pv 3) pa_nil)) (blkOk_by (own := [("_law_name", 5)]) (N := ["_law_levels", "_law_state", "_law_looks", "_law_size", "_law_wrote", "_law_name", "_law_low"]) (sc := defScope lSame) (by decide +kernel)) (fun _ _ _ _ _ => (pg_name (i := 5) scLSame.nd rfl (Or.inl rfl))) (fun _ _ _ _ _ => pts_one (pt_cmpR op_gt (pe_ix ix_list (pe_ix ix_list (pv 1) (pv 5) (fun _ _ => rfl)) pe_int (fun _ _ => rfl)) pe_int (nomark _))) (fun _ _ _ _ _ => (pv 5))) pa_nil)))
 (pss_cons (ps_if (PW.pt (pw_or (pt_cmpR (op_neD hr.units) (pe_prop (pv 0) TL.tc.cl mW GW hr2 bW .nil pass0 rfl) (pv 4) (nomark _)) (pw_or1 (pt_cmpR (op_neD hr.units) (pe_prop (pv 0) TL.tc.cl mG GG hr2 bG .nil pass0 rfl) (pe_callTy call_tuple_of (by rfl) T.tuple b_tuple (pa_cons (pe_callB cr_sorted (by rfl) T.sorted b_sorted (pa_cons (pe_callTy (call_list_dK rfl) (by rfl) T.list b_list (pa_cons (pv 2) pa_nil)) pa_nil)) pa_nil)) (nomark _))))) (pss_one (ps_ret pe_bl)) pss_nil)
 (pss_cons (ps_for PassesOwn.never rfl (pi_range1 (by rfl) T.range (pa_cons (pv 3) pa_nil)) (pg_name (i := 5) scLSame.nd rfl (Or.inl rfl)) (pss_cons (ps_set (i := 6) scLSame.nd rfl (Or.inl rfl) (pe_meth (pv 0) TL.tc.cl mL GL hr3 bL .nil passL (pa_cons (pv 5) pa_nil)))
 (pss_one (ps_if (PW.pt (pw_or (pt_cmpR op_ne (pv 6) (pe_ix ix_list (pe_ix ix_list (pv 1) (pv 5) (fun _ _ => rfl)) pe_int (fun _ _ => rfl)) (nomark _)) (pw_or (pt_not (pt_val (pe_call GI hr1 rfl gI FI.kp bI .nil pass0 (pa_cons (pv 6) pa_nil)))) (pw_or1 (pt_cmpR op_ne (pe_meth (pv 0) TL.tc.cl mT GT hr3 bT .nil passL (pa_cons (pv 5) pa_nil)) (pe_ix ix_list (pe_ix ix_list (pv 1) (pv 5) (fun _ _ => rfl)) pe_int (fun _ _ => rfl)) (nomark _)))))) (pss_one (ps_ret pe_bl)) pss_nil))))
 (pss_one (ps_ret (pe_call GF hr4 rfl gF FF.kp bF .nil pass0 (pa_cons (pv 0) (pa_cons (pv 3) pa_nil)))))))), ?_⟩
    have hn := I.len
    refine ⟨_, rfl, n, rfl, by omega, by omega, fun D hD => lc_rangeP (n := n) (fun i => natV ((List.range i).filter fun i => decide (0 < tk n (pAt st.ps i)))) rfl (fun i hi Nx hN => ?_) ?_⟩
    · have s1 : Same H (upd H D (.lst (natV ((List.range i).filter fun i => decide (0 < tk n (pAt st.ps i)))))) := same_upd hD
      obtain ⟨h, b, g1, g2, g3, g4⟩ := (LS.same s1).get hi
      have nx := filt_next (P := fun i => decide (0 < tk n (pAt st.ps i))) (i := i)
      refine ⟨rfl, _, rfl, _, rfl, A2.st, _, _, V.ref h, rfl, rfl, SqL.of (LS.same s1).ob, (by rw [Int.zero_add]; exact atI_nat g2), h, _, _, V.int (tk n (pAt st.ps i)), rfl, rfl, SqL.of g3, rfl, _, _, rfl, rfl, _, rfl, ite2 (fun c => ?_) (fun c => ?_)⟩
      · refine ⟨_, rfl, _, upd_same, small filt_len (by omega), ?_⟩
        rw [if_pos c] at nx
        rw [upd_upd, Int.zero_add, ← nx]
        exact hN
      · rw [if_neg c] at nx
        rw [← nx]
        exact hN
    refine ⟨D, _, rfl, .inl ⟨SqL.of upd_same, fun q hq => ?_⟩⟩
    have s1 : Same H (upd (upd H D (.lst (natV (wroteL n st)))) q (.tup (natV (wroteL n st)))) := (same_upd hD).trans (same_upd hq)
    show tSeq _ _ _ _ (upd (upd H D (.lst (natV (wroteL n st)))) q (.tup (natV (wroteL n st))))
    have q1 : upd (upd H D (.lst (natV (wroteL n st)))) q (.tup (natV (wroteL n st))) q = some (.tup (natV (wroteL n st))) := upd_same
    generalize upd (upd H D (.lst (natV (wroteL n st)))) q (.tup (natV (wroteL n st))) = H1 at s1 q1 ⊢
    have L1 := L.same s1
    refine ⟨_, rfl, B.p, B.dx, _, rfl, L1.ob, B, n, st, rfl, L1, hn, I.nd, h6, fun H2 wr s2 nw hw => ?_⟩
    refine ⟨_, rfl, ne_same (dp_nat hw) (dp_nat (s2 _ _ q1)) (lay_nat _) (by decide) ⟨_, rfl, iteF ?_⟩⟩
    have L2' := L1.same s2
    refine ⟨_, rfl, B.p, B.dx, _, rfl, L2'.ob, B, n, st, rfl, L2', hn, I.nd, h6, fun H3 gr s3 ng hg => ?_⟩
    have s03 : Same H H3 := (s1.trans s2).trans s3
    refine ⟨_, rfl, d, _, rfl, s03 _ _ DA.at_, fun p1 hp1 => ⟨p1, (keys st).map fun (j : Nat) => (j : Int), rfl, SqL.of ?_, ?_, fun ns p2 pm pw hp2 => ⟨p2, _, rfl, .inl ⟨SqL.of upd_same, fun p3 hp3 => ?_⟩⟩⟩⟩
    · rw [upd_same, dictV_keys DA.len, natV_int]; rfl
    · rw [List.length_map]
      have := keys_len I
      unfold keys
      rw [List.length_map]; omega
    have s4 : Same H3 _ := (same_upd hp1).trans ((same_upd hp2).trans (same_upd (o := .tup (List.map V.int ns)) hp3))
    have es : ns = (goneL n st).map fun (j : Nat) => (j : Int) := sorted_nat pm pw (gone_perm I) (asc_goneL n st)
    have e3 : ∀ H' : Hp, upd H' p3 (HO.tup (List.map V.int ns)) p3 = some (.tup (natV (goneL n st))) := fun H' => by rw [upd_same, es, natV_int]
    refine ne_same (dp_nat (s4 _ _ hg)) (dp_nat (e3 _)) (lay_nat _) (by decide) ⟨_, rfl, iteF ?_⟩
    have s04 := s03.trans s4
    refine ⟨_, rfl, n, rfl, by omega, by omega, for_range (n := n) (fun i σ H' => ∃ z5 z6, σ = [some (.ref B.p), some (.ref A2.st), some (.ref d), some (.int n), some (.ref q), z5, z6] ∧ Same H H') ⟨none, none, rfl, s04⟩ ?_ ?_⟩
    · rintro i σ H5 hi ⟨z5, z6, rfl, s5⟩
      have L5 := L.same s5
      have LS5 := LS.same s5
      obtain ⟨h, b, g1, g2, g3, g4⟩ := LS5.get hi
      refine ⟨_, rfl, B.p, B.dx, _, rfl, L5.ob, flds_level n B, _, rfl, B, n, st, .int ((0 : Int) + i), rfl, L5, hn, .int _, fun j e hj => ?_, fun hg => ?_⟩
      · injection e with e
        have : j = i := by omega
        subst this
        refine ⟨_, rfl, _, rfl, _, rfl, A2.st, _, _, V.ref h, rfl, rfl, SqL.of LS5.ob, (by rw [Int.zero_add]; exact atI_nat g2), h, _, _, V.int (lo st.ps j), rfl, rfl, SqL.of g3, rfl, rfl, _, rfl, ?_⟩
        rw [show (!decide (V.int (valLow n st j) = V.int (lo st.ps j))) = false by simp [valLow]]
        refine iteF ⟨_, rfl, _, rfl, .int _, _, rfl, iteF ?_⟩
        refine ⟨_, rfl, B.p, B.dx, _, rfl, L5.ob, flds_taken' n B, _, rfl, B, n, st, .int ((0 : Int) + j), rfl, L5, hn, .int _, fun j' e hj => ?_, fun hg => ?_⟩
        · injection e with e
          have : j' = j := by omega
          subst this
          refine ⟨_, rfl, _, rfl, A2.st, _, _, V.ref h, rfl, rfl, SqL.of LS5.ob, (by rw [Int.zero_add]; exact atI_nat g2), h, _, _, V.int (tk n (pAt st.ps j')), rfl, rfl, SqL.of g3, rfl, rfl, _, rfl, ?_⟩
          rw [show (!decide (V.int (valTk n st j') = V.int (tk n (pAt st.ps j')))) = false by simp [valTk]]
          exact iteF ⟨_, _, rfl, s5⟩
        · rw [Int.zero_add, nameOk_lt hi] at hg; cases hg
      · rw [Int.zero_add, nameOk_lt hi] at hg; cases hg
    · rintro σ H5 ⟨z5, z6, rfl, s5⟩
      exact ⟨_, rfl, _, rfl, B, n, st, rfl, L.same s5, I, h6, fun H6 s6 => k H6 (s5.trans s6)⟩
end
end K07
/-! _law_looks_right, _law_blocks_due. -/
namespace K07
open PySem PySem.Spec PyProof.Rows L2
theorem Room.u65 {k : Nat} {A : Around} (r : Room k A) : A.units + 65 < cLine := by have := r.un; omega
theorem dictV_at {lk : List (Nat × List Nat)} {la : List Addr} {i : Nat} {k : Key} {v : V} (h : (dictV lk la)[i]? = some (k, v)) : ∃ x l a, lk[i]? = some (x, l) ∧ la[i]? = some a ∧ kV k = .int (x : Int) ∧ k = Sum.inl (x : Int) ∧ v = .ref a := by
  unfold dictV at h
  rw [List.getElem?_map] at h
  cases e : (lk.zip la)[i]? with
  | none => rw [e] at h; cases h
  | some q =>
    rw [e] at h
    have h' := Option.some.inj h
    obtain ⟨h1, h2⟩ := List.getElem?_zip_eq_some.mp (show (lk.zip la)[i]? = some (q.1, q.2) from e)
    injection h' with h3 h4
    exact ⟨q.1.1, q.1.2, q.2, h1, h2, by rw [← h3]; rfl, h3.symm, h4.symm⟩
/-- a dict of looks that may be locked -/
structure DictRd (H : Hp) (d : Addr) (lk : List (Nat × List Nat)) (la : List Addr) : Prop where
  at_ : Rd H d (.dK (dictV lk la))
  len : la.length = lk.length
  row : ∀ (j i : Nat) l a, lk[j]? = some (i, l) → la[j]? = some a → H a = some (.tup (natV l))
theorem DictAt.rd {H : Hp} {d : Addr} {lk : List (Nat × List Nat)} {la : List Addr} (D : DictAt H d lk la) : DictRd H d lk la := ⟨.inl D.at_, D.len, D.row⟩
theorem DictAt.lock {H : Hp} {d : Addr} {lk : List (Nat × List Nat)} {la : List Addr} (D : DictAt H d lk la) (od : Obj) : DictRd (upd H d (.frz od (.dK (dictV lk la)))) d lk la :=
  ⟨.inr ⟨od, upd_same⟩, D.len, fun j i l a h1 h2 => uk (ne_of (D.row j i l a h1 h2) D.at_ (fun z => nomatch z)) (D.row j i l a h1 h2)⟩
theorem DictRd.same {H H' : Hp} {d : Addr} {lk : List (Nat × List Nat)} {la : List Addr} (D : DictRd H d lk la) (s : Same H H') : DictRd H' d lk la :=
  ⟨D.at_.elim (fun e => .inl (s _ _ e)) (fun ⟨o, e⟩ => .inr ⟨o, s _ _ e⟩), D.len, fun j i l a h1 h2 => s _ _ (D.row j i l a h1 h2)⟩
theorem DictRd.get {H : Hp} {d : Addr} {lk : List (Nat × List Nat)} {la : List Addr} (D : DictRd H d lk la) (hn : (lk.map (·.1)).Nodup) {j i : Nat} {l : List Nat} {a : Addr} (h1 : lk[j]? = some (i, l)) (h2 : la[j]? = some a) : DGet H d (.int (i : Int)) (some (.ref a)) :=
  .inl ⟨_, Sum.inl (i : Int), D.at_, rfl, (dictV_get hn h1 h2).symm⟩
theorem Same.unlock {H H' : Hp} {d : Addr} {u : HO} {od : Obj} (hd : H d = some u) (s : Same (upd H d (.frz od u)) H') : Same H (upd H' d u) := fun b o e => by
  by_cases h : b = d
  · subst h; rw [hd] at e; rw [upd_same]; exact e
  · exact uk h (s b o (uk h e))
/-- the names of a row that are not in a list -/
theorem lc_new2 {K : PySem.W.Frag} {v0 v1 v2 v3 v5 v6 v7 : Option V} {a sa D : Addr} {l seen : List Nat} {H1 : Hp} {Qd : Hp → Prop} (hD : H1 D = none) (ha : H1 a = some (.tup (natV l))) (hs : H1 sa = some (.lst (natV seen))) (hl : l.length ≤ 100)
    (hd : Qd (upd H1 D (.lst (natV (newOf seen l))))) :
    ∃ W : Nat → Nat → Hp → Prop, (∃ m, W 0 m (upd H1 D (.lst []))) ∧ ∀ i m H, W i m H →
      ((Itt K a).stop i H ∧ Qd H) ∨ ((Itt K a).go i H ∧ ∃ Nx : Hp → Prop, (∀ H', Nx H' → ∃ m', m' < m ∧ W (i + 1) m' H') ∧ ∀ x H', (Itt K a).yld i H x H' → gName 3 x (wipe [v0, v1, v2, v3, some (.ref sa), v5, v6, v7] [3]) H' fun σ2 H2 => wipe σ2 [3] = wipe [v0, v1, v2, v3, some (.ref sa), v5, v6, v7] [3] ∧
        tTest (tOp (rIn K true) (tVar 3) (tVar 4)) σ2 H2 fun b H3 => if b = true then tVar 3 σ2 H3 fun y H4 => ∃ acc, H4 D = some (.lst acc) ∧ acc.length < sizeLine ∧ Nx (upd H4 D (.lst (acc ++ [y]))) else Nx H3) := by
  have sm : ∀ o, Same H1 (upd H1 D o) := fun o => same_upd hD
  refine lc_tup (K := K) (a := a) (xs := natV l) (fun i H => H = upd H1 D (.lst (natV (newOf seen (l.take i))))) rfl (fun i H _ e => by subst e; exact SqT.of (sm _ _ _ ha)) ?_ ?_
  · rintro i x H hx rfl
    obtain ⟨j, hj, rfl⟩ := nat_at hx
    have nx := newOf_next (seen := seen) hj
    refine ⟨rfl, _, rfl, _, rfl, sa, natV seen, rfl, .inl (SqL.of (sm _ _ _ hs)), rfl, flat_natV _, _, rfl, ?_⟩
    show if (!inV (V.int (j : Int)) (natV seen)) = true then _ else _
    rw [inV_nat]
    by_cases c : j ∈ seen
    · rw [if_pos (decide_eq_true c)] at nx
      rw [decide_eq_true c]
      refine iteF ?_
      rw [nx]
    · rw [if_neg (by simpa using c)] at nx
      rw [decide_eq_false c]
      refine iteT ?_
      refine ⟨_, rfl, _, upd_same, small (Nat.le_trans (newOf_len _ _ _) hl), ?_⟩
      rw [upd_upd, nx]
  · rintro H rfl
    rw [List.length_map, List.take_length]
    exact hd
theorem eqvAll_ints : ∀ l m : List Int, PyData.eqvAll (l.map .int) (m.map .int) = decide (l = m)
  | [], [] => by simp [PyData.eqvAll]
  | [], _ :: _ => by simp [PyData.eqvAll]
  | _ :: _, [] => by simp [PyData.eqvAll]
  | x :: l, y :: m => by
    have ih := eqvAll_ints l m
    simp only [List.map_cons, PyData.eqvAll, PyData.eqv, ih]
    by_cases h1 : x = y <;> by_cases h2 : l = m <;> simp [h1, h2]
theorem eqv_encQ (q r : QI) : PyData.eqv (encQ q) (encQ r) = decide (q = r) := by
  obtain ⟨a, l⟩ := q
  obtain ⟨b, m⟩ := r
  have e := eqvAll_ints l m
  simp only [encQ, PyData.eqv, PyData.eqvAll, e]
  by_cases h1 : a = b <;> by_cases h2 : l = m <;> simp [h1, h2]
theorem any_encQ (l : List Nat) : ∀ ls : List (List Nat), ((ls.map fun m => encQ (qOf m)).any fun z => PyData.eqv z (encQ (qOf l))) = decide (l ∈ ls)
  | [] => by simp
  | m :: ls => by
    rw [List.map_cons, List.any_cons, any_encQ l ls, eqv_encQ]
    by_cases h : m = l
    · subst h; simp
    · have h1 : ¬ qOf m = qOf l := fun z => h (qOf_inj z)
      have h2 : ¬ l = m := fun z => h z.symm
      simp [h1, h2]
theorem lay_encQ (q : QI) : (encQ q).canLay0 = true ∧ (encQ q).depth ≤ 2 := by
  unfold encQ
  refine lay_tup (k := 1) fun d hd => ?_
  rcases List.mem_cons.mp hd with e | hd
  · rw [e]; exact ⟨(lay_int _).1, by have := (lay_int q.1).2; omega⟩
  · rw [List.mem_singleton.mp hd]
    exact lay_tup fun d hd => by
      obtain ⟨j, _, rfl⟩ := List.mem_map.mp hd
      exact lay_int _
theorem dp_pairs {K : PySem.W.Frag} {H : Hp} : ∀ {ks : QL} {ls : List (List Nat)}, ks.map (·.2) = ls.map qOf → (∀ p ∈ ks, PairV K H p.1 p.2) → DpAll K H (ks.map fun p => V.ref p.1) (ls.map fun m => encQ (qOf m))
  | [], [], _, _ => .nil
  | [], _ :: _, h, _ => by cases h
  | _ :: _, [], h, _ => by cases h
  | p :: ks, l :: ls, h, hp => by
    rw [List.map_cons, List.map_cons] at h
    injection h with h1 h2
    refine .cons ?_ (dp_pairs h2 fun q hq => hp q (List.mem_cons_of_mem _ hq))
    have e := (hp p List.mem_cons_self).dp
    rw [h1] at e
    exact e
theorem PairsAt.v {K : PySem.W.Frag} {H : Hp} {ks : QL} {ls : List (List Nat)} (h : PairsAt H ks ls) : ∀ p ∈ ks, PairV K H p.1 p.2 := fun p hp => by
  obtain ⟨l, _, e, n⟩ := h.2 p hp
  rw [e]; exact n.v
theorem PairsAt.keep {H H' : Hp} {ks : QL} {ls : List (List Nat)} (h : PairsAt H ks ls) (k : ∀ a xs, H a = some (.tup xs) → H' a = some (.tup xs)) : PairsAt H' ks ls :=
  ⟨h.1, fun p hp => let ⟨l, hl, e, b, h1, h2⟩ := h.2 p hp; ⟨l, hl, e, b, k _ _ h1, k _ _ h2⟩⟩
theorem PairsAt.snoc {H : Hp} {ks : QL} {ls : List (List Nat)} {q : Addr} {l : List Nat} (h : PairsAt H ks ls) (n : PairN H q l) : PairsAt H (ks ++ [(q, qOf l)]) (ls ++ [l]) := by
  refine ⟨by rw [List.map_append, List.map_append, h.1]; rfl, fun p hp => ?_⟩
  rcases List.mem_append.mp hp with hp | hp
  · obtain ⟨m, hm, r⟩ := h.2 p hp
    exact ⟨m, List.mem_append_left _ hm, r⟩
  · rw [List.mem_singleton.mp hp]
    exact ⟨l, List.mem_append_right _ List.mem_cons_self, rfl, n⟩
/-- _law_looks_right(looks, state, size) -/
def spLRight : Sp := fun vs H Q _ => ∃ (A : LS) (d : Addr) (la : List Addr) (n : Nat) (s : Ls), vs = [.ref d, .ref A.st, .int n] ∧ DictAt H d s.lk la ∧ LawSt n H A s.ps ∧ Inv n s ∧ n ≤ 6 ∧ ∀ H', Same H H' → Q (.bl true) H'
/-- _law_blocks_due(looks, wrote) -/
def spLDue : Sp := fun vs H Q _ => ∃ (d wr : Addr) (la : List Addr) (n : Nat) (s : Ls), vs = [.ref d, .ref wr] ∧ DictAt H d s.lk la ∧ H wr = some (.tup (natV (wroteL n s))) ∧ Inv n s ∧ n ≤ 6 ∧ ∀ H' r, Same H H' → BlkV H' r (blocksL n s) → Q r H'
theorem all_sub {l m : List Nat} (h : l ⊆ m) : (l.all fun j => decide (j ∈ m)) = true := List.all_eq_true.mpr fun j hj => decide_eq_true (h hj)
theorem not_all {l m : List Nat} (h : (l.all fun j => decide (j ∈ m)) = false) : ¬ l ⊆ m := fun z => by rw [all_sub z] at h; cases h
section
variable {w : World} {K : PySem.W.Frag} {mg : Str → Option Value} {base : Heap}
theorem scLRight : FnScope ["_law_looks", "_law_state", "_law_size", "_law_name", "_law_look", "_law_other"] ["_law_looks", "_law_state", "_law_size"] (defScope lRight) := ⟨rfl, rfl, rfl, by decide +kernel, rfl, by decide +kernel, by decide +kernel⟩
theorem ok_lRight {f fW : Addr} {fd fdW : FuncData} (F : Fun K "_law_looks_right" "_law_looks_right" lRight f fd) (FW : Fun K "_law_within" "_law_within" lWithin fW fdW) (gW : mg "_law_within" = some (.ref fW)) (bW : Binds K fdW ["_law_one", "_law_other"] []) (T : Blt mg) :
    FnOk PR w K mg base CX0 2 f fd ["_law_looks", "_law_state", "_law_size"] spLRight := by
  have GW : FnOk PR w K mg base CX0 1 fW fdW ["_law_one", "_law_other"] spLWithin := ok_lWithin FW T
  refine F.ok scLRight (fun vs H Q E h => ?_) (fun cdv A outer s H vs Q E hr h => ?_)
  · obtain ⟨A, d, la, n, s, rfl, _⟩ := h
    rfl
  · obtain ⟨A2, d, la, n, st, rfl, DA, LS, I, h6, k⟩ := h
    have hu := hu_of hr
    have hr1 : Room 1 _ := hr.mono (by decide)
    refine ⟨_, (pss_cons (ps_lock (ps_for PassesOwn.never rfl (pi_keys (pv 0)) (pg_name (i := 3) scLRight.nd rfl (Or.inl rfl)) (pss_cons (ps_set (i := 4) scLRight.nd rfl (Or.inr rfl) (pe_dget hu (pv 0) (pv 3) (fun _ _ => rfl)))
 (pss_cons (ps_if (PW.pt (pw_or (pt_cmpR op_notIn_seq (pv 3) (pv 4) (by rfl)) (pw_or1 (pt_cmpR op_ne (pe_ix ix_list (pe_ix ix_list (pv 1) (pv 3) (fun _ _ => rfl)) pe_int (fun _ _ => rfl)) (pe_callB call_len (by rfl) T.len b_len (pa_cons (pv 4) pa_nil)) (nomark _))))) (pss_one (ps_ret pe_bl)) pss_nil)
 (pss_cons (ps_if (pt_cmpR op_ne (pe_ix ix_list (pe_ix ix_list (pv 1) (pv 3) (fun _ _ => rfl)) pe_int (fun _ _ => rfl)) (pe_op op_mul (pe_op op_sub (pe_op op_add (pv 2) pe_int) (pe_callB call_len (by rfl) T.len b_len (pa_cons (pv 4) pa_nil))) (pe_op op_add (pv 2) pe_int)) (nomark _)) (pss_one (ps_ret pe_bl)) pss_nil)
 (pss_cons (ps_if (pt_cmpR (op_neD hr.units) (pv 4) (pe_callTy call_tuple_of (by rfl) T.tuple b_tuple (pa_cons (pe_lc (own := [("_law_other", 5)]) (g := gName 5) (tt := tTest (tOp (rI0 fun i j => .bl (decide (i ≤ j))) (tOp (rIxL K) (tOp (rIxL K) (tVar 1) (tVar 5)) (tC (.int 0))) (tCB (fun xs H Q => ∃ x n, xs = [x] ∧ LenV K x H n ∧ Q (.int n) H) (tCons (tVar 4) tNil)))) (te := tVar 5) rfl scLRight.nd (pi_range1 (by rfl) T.range (pa_cons (pv 2) pa_nil)) (blkOk_by (own := [("_law_other", 5)]) (N := ["_law_looks", "_law_state", "_law_size", "_law_name", "_law_look", "_law_other"]) (sc := defScope lRight) (by decide +kernel)) (fun _ _ _ _ _ => (pg_name (i := 5) scLRight.nd rfl (Or.inl rfl))) (fun _ _ _ _ _ => pts_one (pt_cmpR op_le (pe_ix ix_list (pe_ix ix_list (pv 1) (pv 5) (fun _ _ => rfl)) pe_int (fun _ _ => rfl)) (pe_callB call_len (by rfl) T.len b_len (pa_cons (pv 4) pa_nil)) (nomark _))) (fun _ _ _ _ _ => (pv 5))) pa_nil)) (nomark _)) (pss_one (ps_ret pe_bl)) pss_nil)
 (pss_one (ps_for PassesOwn.never rfl (pi_keys (pv 0)) (pg_name (i := 5) scLRight.nd rfl (Or.inl rfl)) (pss_cons (ps_if (PW.pt (pw_and (pt_not (pt_val (pe_call GW hr1 rfl gW FW.kp bW .nil pass0 (pa_cons (pv 4) (pa_cons (pe_dget hu (pv 0) (pv 5) (fun _ _ => rfl)) pa_nil))))) (pw_and1 (pt_not (pt_val (pe_call GW hr1 rfl gW FW.kp bW .nil pass0 (pa_cons (pe_dget hu (pv 0) (pv 5) (fun _ _ => rfl)) (pa_cons (pv 4) pa_nil)))))))) (pss_one (ps_ret pe_bl)) pss_nil)
 (pss_one (ps_if (PW.pt (pw_and (pt_cmpR op_in_seq (pv 5) (pv 4) (by rfl)) (pw_and1 (pt_not (pt_val (pe_call GW hr1 rfl gW FW.kp bW .nil pass0 (pa_cons (pe_dget hu (pv 0) (pv 5) (fun _ _ => rfl)) (pa_cons (pv 4) pa_nil)))))))) (pss_one (ps_ret pe_bl)) pss_nil)))))))))))
 (pss_one (ps_ret pe_bl))), ?_⟩
    refine ⟨d, _, DA.at_, trivial, fun od => ?_⟩
    have DR := DA.lock od
    have LSl : LawSt n (upd H d (.frz od (.dK (dictV st.lk la)))) A2 st.ps := LS.keep fun a ha o e => by
      obtain ⟨xs, hxs⟩ := LS.any ha
      exact uk (ne_of hxs DA.at_ (fun z => nomatch z)) e
    have hfrz : upd H d (.frz od (.dK (dictV st.lk la))) d = some (.frz od (.dK (dictV st.lk la))) := upd_same
    have hend : ∀ H', Same (upd H d (.frz od (.dK (dictV st.lk la)))) H' → Same H (upd H' d (.dK (dictV st.lk la))) := fun H' s => Same.unlock DA.at_ s
    generalize upd H d (.frz od (.dK (dictV st.lk la))) = Hl at DR LSl hfrz hend ⊢
    have hn := I.len
    refine ⟨_, rfl, d, od, rfl, .inl ⟨_, hfrz, for_it walk_keys (fun i σ H' => ∃ z3 z4 z5, σ = [some (.ref d), some (.ref A2.st), some (.int n), z3, z4, z5] ∧ Same Hl H') ⟨none, none, none, rfl, fun _ _ e => e⟩ (fun i σ H' _ ⟨_, _, _, _, s1⟩ => s1 _ _ hfrz) ?_ ?_⟩⟩
    · rintro i x0 σ H1 H2 hi ⟨z3, z4, z5, rfl, s1⟩ ⟨rfl, kk, vv, hkv, rfl⟩
      obtain ⟨x, l, a, e1, e2, e3, rfl, rfl⟩ := dictV_at hkv
      have D1 := DR.same s1
      have L1 := LSl.same s1
      have row := D1.row i x l a e1 e2
      have hxl : (x, l) ∈ st.lk := List.mem_of_getElem? e1
      obtain ⟨q1, q2, q3, q4, q5, q6, q7⟩ := look_law I hxl
      obtain ⟨h, b, g1, g2, g3, g4⟩ := L1.get q1
      show gName 3 (V.int (x : Int)) _ _ _
      refine ⟨_, rfl, _, rfl, d, V.ref a, rfl, D1.get I.nd e1 e2, ?_⟩
      refine ⟨_, rfl, _, rfl, a, natV l, rfl, .inr (SqT.of row), rfl, flat_natV _, _, rfl, ?_⟩
      show if (!inV (V.int (x : Int)) (natV l)) = true then _ else _
      rw [inV_nat, decide_eq_true q4]
      refine iteF ?_
      refine ⟨_, rfl, _, rfl, A2.st, _, _, V.ref h, rfl, rfl, SqL.of L1.ob, atI_nat g2, h, _, _, V.int (lo st.ps x), rfl, rfl, SqL.of g3, rfl, _, rfl, V.ref a, l.length, rfl, .inr ⟨_, SqT.of row, by rw [List.length_map]⟩, rfl, _, rfl, ?_⟩
      rw [show (!decide (V.int (lo st.ps x) = V.int (l.length : Int))) = false by rw [q2]; simp]
      refine iteF ?_
      refine ⟨_, rfl, _, rfl, A2.st, _, _, V.ref h, rfl, rfl, SqL.of L1.ob, atI_nat g2, h, _, _, V.int (tk n (pAt st.ps x)), rfl, rfl, SqL.of g3, rfl, _, rfl, _, _, rfl, rfl, _, rfl, V.ref a, l.length, rfl, .inr ⟨_, SqT.of row, by rw [List.length_map]⟩, _, _, rfl, rfl, _, rfl, _, _, rfl, rfl, _, _, rfl, rfl, .inr ⟨by omega, by omega⟩, rfl, _, rfl, ?_⟩
      rw [show (!decide (V.int (tk n (pAt st.ps x)) = V.int (((n : Int) + 1 - (l.length : Int)) * ((n : Int) + 1)))) = false by rw [q7]; simp]
      refine iteF ?_
      refine ⟨_, rfl, _, rfl, n, rfl, by omega, by omega, fun D hD => lc_rangeP (n := n) (fun i => natV ((List.range i).filter fun j => decide (lo st.ps j ≤ (l.length : Int)))) rfl (fun j hj Nx hN => ?_) ?_⟩
      · have s2 : Same H2 (upd H2 D (.lst (natV ((List.range j).filter fun j => decide (lo st.ps j ≤ (l.length : Int)))))) := same_upd hD
        have L2' := L1.same s2
        obtain ⟨h', b', g1', g2', g3', g4'⟩ := L2'.get hj
        have nx := filt_next (P := fun j => decide (lo st.ps j ≤ (l.length : Int))) (i := j)
        refine ⟨rfl, _, rfl, _, rfl, A2.st, _, _, V.ref h', rfl, rfl, SqL.of L2'.ob, (by rw [Int.zero_add]; exact atI_nat g2'), h', _, _, V.int (lo st.ps j), rfl, rfl, SqL.of g3', rfl, _, rfl, V.ref a, l.length, rfl, .inr ⟨_, SqT.of (s2 _ _ row), by rw [List.length_map]⟩, _, _, rfl, rfl, _, rfl, ite2 (fun c => ?_) (fun c => ?_)⟩
        · refine ⟨_, rfl, _, upd_same, small filt_len (by omega), ?_⟩
          rw [if_pos c] at nx
          rw [upd_upd, Int.zero_add, ← nx]
          exact hN
        · rw [if_neg c] at nx
          rw [← nx]
          exact hN
      refine ⟨D, _, rfl, .inl ⟨SqL.of upd_same, fun q hq => ?_⟩⟩
      have s2 : Same H2 (upd (upd H2 D (.lst (natV ((List.range n).filter fun j => decide (lo st.ps j ≤ (l.length : Int)))))) q (.tup (natV ((List.range n).filter fun j => decide (lo st.ps j ≤ (l.length : Int)))))) := (same_upd hD).trans (same_upd hq)
      have eb : ((List.range n).filter fun j => decide (lo st.ps j ≤ (l.length : Int))) = l := q3.symm
      refine ne_same (d := natD l) (dp_nat (s2 _ _ row)) (dp_nat (by rw [upd_same, eb])) (lay_nat _) (by decide) ⟨_, rfl, iteF ?_⟩
      have s3 := s1.trans s2
      generalize upd (upd H2 D (.lst (natV ((List.range n).filter fun j => decide (lo st.ps j ≤ (l.length : Int)))))) q (.tup (natV ((List.range n).filter fun j => decide (lo st.ps j ≤ (l.length : Int))))) = H3 at s3 ⊢
      refine ⟨_, rfl, d, od, rfl, .inl ⟨_, s3 _ _ hfrz, for_it walk_keys (fun i σ H' => ∃ z5, σ = [some (.ref d), some (.ref A2.st), some (.int n), some (.int (x : Int)), some (.ref a), z5] ∧ Same Hl H') ⟨z5, rfl, s3⟩ (fun i σ H' _ ⟨_, _, s1⟩ => s1 _ _ hfrz) ?_ ?_⟩⟩
      · rintro j y0 σ H4 H5 hj ⟨z5, rfl, s5⟩ ⟨rfl, kk, vv, hkv2, rfl⟩
        obtain ⟨y, m, c, f1, f2, f3, rfl, rfl⟩ := dictV_at hkv2
        have hym : (y, m) ∈ st.lk := List.mem_of_getElem? f1
        obtain ⟨p1, p2, p3, p4, p5, p6, p7⟩ := look_law I hym
        show gName 5 (V.int (y : Int)) _ _ _
        have second : ∀ (D : Ends) (H6 : Hp), Same Hl H6 → (∀ H7, Same Hl H7 → D.nx [some (.ref d), some (.ref A2.st), some (.int n), some (.int (x : Int)), some (.ref a), some (.int (y : Int))] H7) →
            tIfS (tAnd (tTest (tOp (rIn K false) (tVar 5) (tVar 4))) (tNot (tB (tCall spLWithin [] E0 (tCons (tDGet (tVar 0) (tVar 5)) (tCons (tVar 4) tNil)))))) (tRet (tC (.bl false))) tNext D [some (.ref d), some (.ref A2.st), some (.int n), some (.int (x : Int)), some (.ref a), some (.int (y : Int))] H6 := fun D H6 s6 hD => by
          have D6 := DR.same s6
          have row6 := D6.row i x l a e1 e2
          have rowm := D6.row j y m c f1 f2
          refine ⟨_, rfl, _, rfl, a, natV l, rfl, .inr (SqT.of row6), rfl, flat_natV _, _, rfl, ?_⟩
          show if inV (V.int (y : Int)) (natV l) = true then _ else _
          rw [inV_nat]
          refine ite2 (fun hc => ?_) (fun hc => hD H6 s6)
          have hyl : y ∈ l := of_decide_eq_true hc
          refine ⟨_, rfl, _, rfl, d, V.ref c, rfl, D6.get I.nd f1 f2, _, rfl, c, a, m, l, rfl, rowm, row6, by omega, fun H7 s7 => ⟨_, rfl, ?_⟩⟩
          rw [all_sub (look_own I hxl hym hyl)]
          exact iteF (hD H7 (s6.trans s7))
        have D5 := DR.same s5
        have row5 := D5.row i x l a e1 e2
        have rowm := D5.row j y m c f1 f2
        refine ⟨_, rfl, _, rfl, _, rfl, d, V.ref c, rfl, D5.get I.nd f1 f2, a, c, l, m, rfl, row5, rowm, by omega, fun H6 s6 => ⟨_, rfl, ?_⟩⟩
        have s56 := s5.trans s6
        cases hall : (l.all fun j => decide (j ∈ m)) with
        | true => exact iteF (second _ H6 s56 fun H7 s7 => ⟨_, rfl, s7⟩)
        | false =>
          refine iteT ?_
          have D6 := DR.same s56
          have sub : m ⊆ l := look_sub I hym hxl (by
            refine Classical.byContradiction fun hc => not_all hall (look_sub I hxl hym (by omega)))
          refine ⟨_, rfl, _, rfl, d, V.ref c, rfl, D6.get I.nd f1 f2, _, rfl, c, a, m, l, rfl, D6.row j y m c f1 f2, D6.row i x l a e1 e2, by omega, fun H7 s7 => ⟨_, rfl, ?_⟩⟩
          rw [all_sub sub]
          exact iteF (second _ H7 (s56.trans s7) fun H8 s8 => ⟨_, rfl, s8⟩)
      · rintro σ H4 ⟨z5, rfl, s5⟩
        exact ⟨_, _, _, rfl, s5⟩
    · rintro σ H1 ⟨z3, z4, z5, rfl, s1⟩
      exact ⟨s1 _ _ hfrz, k _ (hend _ s1)⟩
theorem scLDue : FnScope ["_law_looks", "_law_wrote", "_law_unlike", "_law_name", "_law_seen", "_law_blocks", "_law_pair", "_law_rest"] ["_law_looks", "_law_wrote"] (defScope lDue) := ⟨rfl, rfl, rfl, by decide +kernel, rfl, by decide +kernel, by decide +kernel⟩
theorem ok_lDue {f : Addr} {fd : FuncData} (F : Fun K "_law_blocks_due" "_law_blocks_due" lDue f fd) (T : Blt mg) : FnOk PR w K mg base CX0 1 f fd ["_law_looks", "_law_wrote"] spLDue := by
  refine F.ok scLDue (fun vs H Q E h => ?_) (fun cdv A outer s H vs Q E hr h => ?_)
  · obtain ⟨d, wr, la, n, s, rfl, _⟩ := h
    rfl
  · obtain ⟨d, wr, la, n, st, rfl, DA, hw, I, h6, k⟩ := h
    have hu := hu_of hr
    refine ⟨_, (pss_cons (ps_set (i := 2) scLDue.nd rfl (Or.inl rfl) (pe_lst pa_nil))
 (pss_cons (ps_lock (ps_for PassesOwn.never rfl (pi_keys (pv 0)) (pg_name (i := 3) scLDue.nd rfl (Or.inl rfl)) (pss_one (ps_if (pt_cmpR (op_notInD (Room.u65 hr)) (pe_tup (pa_cons (pe_callB call_len (by rfl) T.len b_len (pa_cons (pe_dget hu (pv 0) (pv 3) (fun _ _ => rfl)) pa_nil)) (pa_cons (pe_dget hu (pv 0) (pv 3) (fun _ _ => rfl)) pa_nil))) (pv 2) (by rfl)) (pss_one (ps_expr (pe_bm PySem.F.plainAttrs_list PySem.F.slot_list_append PySem.F.type_list_append mt_append (pv 2) (pa_cons (pe_tup (pa_cons (pe_callB call_len (by rfl) T.len b_len (pa_cons (pe_dget hu (pv 0) (pv 3) (fun _ _ => rfl)) pa_nil)) (pa_cons (pe_dget hu (pv 0) (pv 3) (fun _ _ => rfl)) pa_nil))) pa_nil)))) pss_nil))))
 (pss_cons (ps_set (i := 4) scLDue.nd rfl (Or.inr rfl) (pe_lst pa_nil))
 (pss_cons (ps_set (i := 5) scLDue.nd rfl (Or.inl rfl) (pe_lst pa_nil))
 (pss_cons (ps_for PassesOwn.never rfl (pi_list (pe_callB (cr_sortLQ hr.units) (by rfl) T.sorted b_sorted (pa_cons (pv 2) pa_nil))) (pg_name (i := 6) scLDue.nd rfl (Or.inl rfl)) (pss_cons (ps_expr (pe_bm PySem.F.plainAttrs_list PySem.F.slot_list_append PySem.F.type_list_append mt_append (pv 5) (pa_cons (pe_callTy call_tuple_of (by rfl) T.tuple b_tuple (pa_cons (pe_lc (own := [("_law_name", 3)]) (g := gName 3) (tt := tTest (tOp (rIn K true) (tVar 3) (tVar 4))) (te := tVar 3) rfl scLDue.nd (pi_tup (pe_ix ix_tup (pv 6) pe_int (fun _ _ => rfl))) (blkOk_by (own := [("_law_name", 3)]) (N := ["_law_looks", "_law_wrote", "_law_unlike", "_law_name", "_law_seen", "_law_blocks", "_law_pair", "_law_rest"]) (sc := defScope lDue) (by decide +kernel)) (fun _ _ _ _ _ => (pg_name (i := 3) scLDue.nd rfl (Or.inl rfl))) (fun _ _ _ _ _ => pts_one (pt_cmpR op_notIn_seq (pv 3) (pv 4) (by rfl))) (fun _ _ _ _ _ => (pv 3))) pa_nil)) pa_nil)))
 (pss_one (ps_set (i := 4) scLDue.nd rfl (Or.inr rfl) (pe_callTy call_list_of (by rfl) T.list b_list (pa_cons (pe_ix ix_tup (pv 6) pe_int (fun _ _ => rfl)) pa_nil))))))
 (pss_cons (ps_set (i := 7) scLDue.nd rfl (Or.inl rfl) (pe_callTy call_tuple_of (by rfl) T.tuple b_tuple (pa_cons (pe_lc (own := [("_law_name", 3)]) (g := gName 3) (tt := tTest (tOp (rIn K true) (tVar 3) (tVar 4))) (te := tVar 3) rfl scLDue.nd (pi_tup (pv 1)) (blkOk_by (own := [("_law_name", 3)]) (N := ["_law_looks", "_law_wrote", "_law_unlike", "_law_name", "_law_seen", "_law_blocks", "_law_pair", "_law_rest"]) (sc := defScope lDue) (by decide +kernel)) (fun _ _ _ _ _ => (pg_name (i := 3) scLDue.nd rfl (Or.inl rfl))) (fun _ _ _ _ _ => pts_one (pt_cmpR op_notIn_seq (pv 3) (pv 4) (by rfl))) (fun _ _ _ _ _ => (pv 3))) pa_nil)))
 (pss_cons (ps_if (pt_cmpR op_gt (pe_callB call_len (by rfl) T.len b_len (pa_cons (pv 7) pa_nil)) pe_int (nomark _)) (pss_one (ps_expr (pe_bm PySem.F.plainAttrs_list PySem.F.slot_list_append PySem.F.type_list_append mt_append (pv 5) (pa_cons (pv 7) pa_nil)))) pss_nil)
 (pss_one (ps_ret (pe_callTy call_tuple_of (by rfl) T.tuple b_tuple (pa_cons (pv 5) pa_nil))))))))))), ?_⟩
    have h0 : ∀ {a : Addr} {xs}, H a = some (.tup xs) → a ≠ d := fun h => ne_of h DA.at_ (fun z => nomatch z)
    refine ⟨by decide, fun U hU => ?_⟩
    have hdU : d ≠ U := ne_of_none DA.at_ hU
    refine ⟨d, _, uk hdU DA.at_, trivial, fun od => ?_⟩
    have D1 : DictAt (upd H U (.lst [])) d st.lk la := DA.keep (fun o e => uk hdU e) (fun a xs e => uk (ne_of_none e hU) e)
    have DR := D1.lock od
    have g0 : Grow U H (upd (upd H U (.lst [])) d (.dK (dictV st.lk la))) := fun b o e hb => by
      by_cases hd : b = d
      · subst hd; rw [DA.at_] at e; rw [upd_same]; exact e
      · exact uk hd (uk hb e)
    have hUl : upd (upd H U (.lst [])) d (.frz od (.dK (dictV st.lk la))) U = some (.lst []) := uk hdU.symm upd_same
    have hfrz : upd (upd H U (.lst [])) d (.frz od (.dK (dictV st.lk la))) d = some (.frz od (.dK (dictV st.lk la))) := upd_same
    have hal : ∀ b o, H b = some o → b ≠ d → upd (upd H U (.lst [])) d (.frz od (.dK (dictV st.lk la))) b = some o := fun b o e hb => uk hb (uk (ne_of_none e hU) e)
    generalize upd (upd H U (.lst [])) d (.frz od (.dK (dictV st.lk la))) = Hl at DR hUl hfrz hal ⊢
    have kl : st.lk.length ≤ 6 := Nat.le_trans (keys_len I) h6
    have dl : (dictV st.lk la).length = st.lk.length := dictV_len D1.len
    refine ⟨_, rfl, d, od, rfl, .inl ⟨_, hfrz, for_it walk_keys (fun i σ H' => ∃ (z3 : Option V) (ks : QL) (ls : List (List Nat)), σ = [some (.ref d), some (.ref wr), some (.ref U), z3, none, none, none, none] ∧ H' U = some (.lst (ks.map fun p => V.ref p.1)) ∧ PairsAt H' ks ls ∧ ls.Nodup ∧ (∀ l, l ∈ ls ↔ l ∈ (st.lk.take i).map (·.2)) ∧ ls.length ≤ i ∧ Grow U Hl H')
      ⟨none, [], [], rfl, hUl, ⟨rfl, fun p hp => (by cases hp)⟩, List.nodup_nil, fun l => by simp, Nat.le_refl _, Grow.refl _ _⟩ (fun i σ H' _ ⟨_, _, _, _, _, _, _, _, _, s1⟩ => s1 _ _ hfrz hdU) ?_ ?_⟩⟩
    · rintro i x0 σ H1 H2 hi ⟨z3, ks, ls, rfl, u1, pk, nd, mem, ll, g⟩ ⟨rfl, kk, vv, hkv, rfl⟩
      obtain ⟨x, l, a, e1, e2, e3, rfl, rfl⟩ := dictV_at hkv
      rw [dl] at hi
      show gName 3 (V.int (x : Int)) _ _ _
      have aU : ∀ {b xs}, Hl b = some (.tup xs) → b ≠ U := fun h => ne_of h hUl (fun z => nomatch z)
      have DR2 : ∀ H', (∀ b o, H2 b = some o → b ≠ U → H' b = some o) → DGet H' d (.int (x : Int)) (some (.ref a)) ∧ H' a = some (.tup (natV l)) := fun H' s => by
        have r0 := DR.row i x l a e1 e2
        refine ⟨.inl ⟨_, Sum.inl (x : Int), .inr ⟨od, s _ _ (g _ _ hfrz hdU) hdU⟩, rfl, (dictV_get I.nd e1 e2).symm⟩, s _ _ (g _ _ r0 (aU r0)) (aU r0)⟩
      obtain ⟨r1, r2⟩ := DR2 H2 fun _ _ e _ => e
      refine ⟨_, rfl, _, rfl, d, V.ref a, rfl, r1, V.ref a, l.length, rfl, .inr ⟨_, SqT.of r2, by rw [List.length_map]⟩, _, rfl, _, rfl, d, V.ref a, rfl, r1, (by show 2 ≤ sizeLine; decide), fun q hq => ?_⟩
      have s2 : Same H2 (upd H2 q (.tup [.int (l.length : Int), .ref a])) := same_upd hq
      have pn : PairN (upd H2 q (.tup [.int (l.length : Int), .ref a])) q l := ⟨a, upd_same, s2 _ _ r2⟩
      have pk2 := pk.same s2
      refine ⟨_, rfl, encQ (qOf l), _, (pn.v (K := K)).dp, .lst (SqL.of (s2 _ _ u1)) (dp_pairs pk2.1 pk2.v), shaped_lay (lay_encQ _) (by decide), shaped_lay (lay_lst (k := 2) fun z hz => ?_) (by decide), _, rfl, ?_⟩
      · obtain ⟨m, _, rfl⟩ := List.mem_map.mp hz
        exact lay_encQ _
      rw [any_encQ]
      have tk : (st.lk.take (i + 1)).map (·.2) = (st.lk.take i).map (·.2) ++ [l] := by rw [List.take_add_one, e1, List.map_append]; rfl
      by_cases hl : l ∈ ls
      · rw [decide_eq_true hl]
        refine iteF ⟨_, ks, ls, rfl, s2 _ _ u1, pk2, nd, fun m => ?_, by omega, fun b o e hb => s2 _ _ (g b o e hb)⟩
        rw [tk, List.mem_append, List.mem_singleton, ← mem]
        constructor
        · exact .inl
        · rintro (h | h)
          · exact h
          · rw [h]; exact hl
      · rw [decide_eq_false hl]
        refine iteT ?_
        obtain ⟨r3, r4⟩ := DR2 _ fun b o e _ => s2 b o e
        refine ⟨_, rfl, tyl (s2 _ _ u1), _, rfl, _, rfl, d, V.ref a, rfl, r3, V.ref a, l.length, rfl, .inr ⟨_, SqT.of r4, by rw [List.length_map]⟩, _, rfl, _, rfl, d, V.ref a, rfl, r3, (by show 2 ≤ sizeLine; decide), fun q2 hq2 => ?_⟩
        have s3 := same_upd (o := .tup [.int (l.length : Int), .ref a]) hq2
        have hUq : U ≠ q2 := ne_of_none (s2 _ _ u1) hq2
        have kll := pk.len
        refine ⟨U, _, _, rfl, rfl, s3 _ _ (s2 _ _ u1), sml (by rw [List.length_map]; omega), ?_⟩
        have tup : ∀ b xs, upd (upd H2 q (.tup [.int (l.length : Int), .ref a])) q2 (.tup [.int (l.length : Int), .ref a]) b = some (.tup xs) → upd (upd (upd H2 q (.tup [.int (l.length : Int), .ref a])) q2 (.tup [.int (l.length : Int), .ref a])) U (.lst ((ks.map fun p => V.ref p.1) ++ [V.ref q2])) b = some (.tup xs) := fun b xs e =>
          uk (ne_of e (s3 _ _ (s2 _ _ u1)) (fun z => nomatch z)) e
        refine ⟨_, ks ++ [(q2, qOf l)], ls ++ [l], rfl, ?_, ?_, ?_, fun m => ?_, by simp; omega, fun b o e hb => uk hb (s3 _ _ (s2 _ _ (g b o e hb)))⟩
        · rw [upd_same, List.map_append]; rfl
        · exact (((pk2.same s3).keep tup)).snoc ⟨a, tup _ _ upd_same, tup _ _ (s3 _ _ r4)⟩
        · refine List.nodup_append.mpr ⟨nd, List.nodup_cons.mpr ⟨by simp, List.nodup_nil⟩, fun x hx y hy z => ?_⟩
          rw [List.mem_singleton.mp hy] at z
          exact hl (z ▸ hx)
        · rw [tk, List.mem_append, List.mem_append, mem]
    rintro σ H2 ⟨z3, ks, ls, rfl, u1, pk, nd, mem, ll, g⟩
    refine ⟨g _ _ hfrz hdU, ?_⟩
    rw [dl] at mem ll
    rw [List.take_length] at mem
    have hmem : ∀ l, l ∈ ls ↔ ∃ i, (i, l) ∈ st.lk := fun l => by
      rw [mem, List.mem_map]
      constructor
      · rintro ⟨p, hp, rfl⟩; exact ⟨p.1, hp⟩
      · rintro ⟨i, hi⟩; exact ⟨(i, l), hi, rfl⟩
    -- the lock is off again
    have gH : Grow U H (upd H2 d (.dK (dictV st.lk la))) := fun b o e hb => by
      by_cases hd : b = d
      · subst hd; rw [DA.at_] at e; rw [upd_same]; exact e
      · exact uk hd (g _ _ (hal b o e hd) hb)
    have u3 : upd H2 d (.dK (dictV st.lk la)) U = some (.lst (ks.map fun p => V.ref p.1)) := uk hdU.symm u1
    have pk3 : PairsAt (upd H2 d (.dK (dictV st.lk la))) ks ls := pk.keep fun a xs e => uk (ne_of e (g _ _ hfrz hdU) (fun z => nomatch z)) e
    have w3 : upd H2 d (.dK (dictV st.lk la)) wr = some (.tup (natV (wroteL n st))) := gH _ _ hw (ne_of_none hw hU)
    generalize upd H2 d (.dK (dictV st.lk la)) = H3 at gH u3 pk3 w3 ⊢
    refine ⟨by decide, fun S hS => ⟨by decide, fun B hB => ?_⟩⟩
    have s4 := same_upd (o := .lst []) hS
    have s5 := same_upd (o := .lst []) hB
    have hSB : S ≠ B := ne_of_none (upd_same (H := H3) (a := S)) hB
    have s45 := s4.trans s5
    have hB3 : H3 B = none := s4.free hB
    have hUB : U ≠ B := ne_of_none u3 hB3
    have hHB : H B = none := by
      cases z : H B with
      | none => rfl
      | some o => rw [gH _ _ z hUB.symm] at hB3; cases hB3
    have kll := pk3.len
    refine ⟨_, rfl, U, ks, rfl, SqL.of (s45 _ _ u3), (pk3.same s45).v, ?_, fun L' O pm ps hO => ?_⟩
    · have e : ks.map (·.2.1) = ls.map fun l => (l.length : Int) := by
        have := congrArg (List.map Prod.fst) pk3.1
        rw [List.map_map, List.map_map] at this
        exact this
      rw [e]
      refine List.pairwise_map.mpr (List.Pairwise.imp_of_mem (fun {x y} hx hy hne he => ?_) nd)
      obtain ⟨i, hi⟩ := (hmem x).mp hx
      obtain ⟨j, hj⟩ := (hmem y).mp hy
      exact hne (look_same I hi hj (by omega))
    have s7 := same_upd (o := .lst (L'.map fun q => V.ref q.1)) hO
    have pc : PairsAt (upd (upd (upd H3 S (.lst [])) B (.lst [])) O (.lst (L'.map fun q => V.ref q.1))) L' (chain n st) := ((pairs_chain I pk3 hmem (fun p h => h) (fun p h => List.mem_map.mpr ⟨p, h, rfl⟩) pm ps).same s45).same s7
    have o7 : upd (upd (upd H3 S (.lst [])) B (.lst [])) O (.lst (L'.map fun q => V.ref q.1)) O = some (.lst (L'.map fun q => V.ref q.1)) := upd_same
    have b7 : upd (upd (upd H3 S (.lst [])) B (.lst [])) O (.lst (L'.map fun q => V.ref q.1)) B = some (.lst []) := s7 _ _ upd_same
    have p7 : upd (upd (upd H3 S (.lst [])) B (.lst [])) O (.lst (L'.map fun q => V.ref q.1)) S = some (.lst []) := s7 _ _ (s5 _ _ upd_same)
    have w7 : upd (upd (upd H3 S (.lst [])) B (.lst [])) O (.lst (L'.map fun q => V.ref q.1)) wr = some (.tup (natV (wroteL n st))) := s7 _ _ (s45 _ _ w3)
    have hOB : O ≠ B := (ne_of_none (upd_same (H := upd H3 S (.lst [])) (a := B) (o := .lst [])) hO).symm
    have g7 : Grow U H (upd (upd (upd H3 S (.lst [])) B (.lst [])) O (.lst (L'.map fun q => V.ref q.1))) := fun b o e hb => s7 _ _ (s45 _ _ (gH _ _ e hb))
    generalize upd (upd (upd H3 S (.lst [])) B (.lst [])) O (.lst (L'.map fun q => V.ref q.1)) = H7 at pc o7 b7 p7 w7 g7 ⊢
    have cl : (chain n st).length ≤ 7 := chain_len 6 h6
    refine ⟨O, rfl, ⟨_, SqL.of o7⟩, for_list (K := K) (a := O) (xs := L'.map fun q => V.ref q.1) (fun i σ H8 => ∃ (z3 z6 : Option V) (sa : Addr) (as : List Addr), σ = [some (.ref d), some (.ref wr), some (.ref U), z3, some (.ref sa), some (.ref B), z6, none] ∧ H8 sa = some (.lst (natV (lastOf [] ((chain n st).take i)))) ∧ H8 B = some (.lst (as.map V.ref)) ∧ TupsAt H8 as (blks [] ((chain n st).take i)) ∧ Grow B H7 H8 ∧ sa ≠ B)
      ⟨z3, none, S, [], rfl, p7, b7, ⟨rfl, fun j b a h => by simp [blks] at h⟩, Grow.refl _ _, hSB⟩ (fun i σ H8 _ ⟨_, _, _, _, _, _, _, _, g, _⟩ => SqL.of (g _ _ o7 hOB)) ?_ ?_⟩
    · rintro i x σ H8 hx ⟨z3, z6, sa, as, rfl, hsa, hB8, ht, g, hne⟩
      obtain ⟨p, hp, rfl⟩ : ∃ p, L'[i]? = some p ∧ x = .ref p.1 := by
        rw [List.getElem?_map] at hx
        cases e : L'[i]? with
        | none => rw [e] at hx; cases hx
        | some p => rw [e] at hx; exact ⟨p, rfl, (Option.some.inj hx).symm⟩
      obtain ⟨l, hl, b, e1, e2⟩ := pairs_at pc hp
      have hlc : l ∈ chain n st := List.mem_of_getElem? hl
      have hll : l.length ≤ 6 := by
        obtain ⟨j, hj⟩ := (mem_chain I).mp hlc
        have := (look_law I hj).2.2.2.2.2.1
        omega
      have tupB : ∀ {a xs}, H7 a = some (.tup xs) → H8 a = some (.tup xs) := fun e => g _ _ e (ne_of e b7 (fun z => nomatch z))
      have il : i < (chain n st).length := (List.getElem?_eq_some_iff.mp hl).1
      have tk : (chain n st).take (i + 1) = (chain n st).take i ++ [l] := by rw [List.take_add_one, hl]; rfl
      obtain ⟨bs1, bs2⟩ := blks_snoc ((chain n st).take i) [] l
      refine ⟨_, rfl, tyl hB8, _, rfl, p.1, _, _, V.ref b, rfl, rfl, SqT.of (tupB e1), rfl, b, rfl, ⟨_, SqT.of (tupB e2)⟩, fun D2 hD2 => lc_new2 hD2 (tupB e2) hsa (by omega) ?_⟩
      refine ⟨D2, _, rfl, .inl ⟨SqL.of upd_same, fun q hq => ?_⟩⟩
      have s9 : Same H8 (upd (upd H8 D2 (.lst (natV (newOf (lastOf [] ((chain n st).take i)) l)))) q (.tup (natV (newOf (lastOf [] ((chain n st).take i)) l)))) := (same_upd hD2).trans (same_upd hq)
      have hq8 : H8 q = none := (same_upd hD2).free hq
      have q9 : (upd (upd H8 D2 (.lst (natV (newOf (lastOf [] ((chain n st).take i)) l)))) q (.tup (natV (newOf (lastOf [] ((chain n st).take i)) l)))) q = some (.tup (natV (newOf (lastOf [] ((chain n st).take i)) l))) := upd_same
      refine ⟨B, _, _, rfl, rfl, s9 _ _ hB8, sml (by rw [List.length_map, ht.1, blks_len, List.length_take]; omega), ?_⟩
      generalize (upd (upd H8 D2 (.lst (natV (newOf (lastOf [] ((chain n st).take i)) l)))) q (.tup (natV (newOf (lastOf [] ((chain n st).take i)) l)))) = H9 at s9 q9 ⊢
      have hb9 := s9 _ _ hB8
      have kt : ∀ a xs, H9 a = some (.tup xs) → upd H9 B (.lst (as.map V.ref ++ [V.ref q])) a = some (.tup xs) := fun a xs e => uk (ne_of e hb9 (fun z => nomatch z)) e
      refine ⟨_, rfl, p.1, _, _, V.ref b, rfl, rfl, SqT.of (kt _ _ (s9 _ _ (tupB e1))), rfl, b, _, rfl, .inr (SqT.of (kt _ _ (s9 _ _ (tupB e2)))), fun l2 hl2 => ?_⟩
      have hl2B : l2 ≠ B := fun z => by rw [z, upd_same] at hl2; cases hl2
      have s10 := same_upd (o := .lst (natV l)) hl2
      refine ⟨_, _, l2, as ++ [q], rfl, ?_, ?_, ?_, ?_, hl2B⟩
      · rw [tk, bs2, upd_same]
      · refine (s10 _ _ upd_same).trans ?_
        rw [List.map_append]; rfl
      · rw [tk, bs1]
        exact (ht.keep fun a xs e => s10 _ _ (kt _ _ (s9 _ _ e))).snoc (s10 _ _ (kt _ _ q9))
      · intro a o e hne
        exact s10 _ _ (uk hne (s9 _ _ (g _ _ e hne)))
    · rintro σ H8 ⟨z3, z6, sa, as, rfl, hsa, hB8, ht, g, hne⟩
      have ll : L'.length = (chain n st).length := pc.len
      rw [List.length_map, ll, List.take_length] at hsa ht
      have w8 : H8 wr = some (.tup (natV (wroteL n st))) := g _ _ w7 (ne_of w7 b7 (fun z => nomatch z))
      have g08 : Same H H8 := fun b o e => g _ _ (g7 _ _ e (ne_of_none e hU)) (ne_of_none e hHB)
      have wl : (wroteL n st).length ≤ 6 := by
        unfold wroteL
        refine Nat.le_trans (List.length_filter_le _ _) ?_
        rw [List.length_range]; exact h6
      refine ⟨_, rfl, wr, rfl, ⟨_, SqT.of w8⟩, fun D2 hD2 => lc_new2 hD2 w8 hsa (by omega) ?_⟩
      refine ⟨D2, _, rfl, .inl ⟨SqL.of upd_same, fun q hq => ?_⟩⟩
      have er : newOf (lastOf [] (chain n st)) (wroteL n st) = restL n st := rfl
      rw [er]
      rw [er] at hq
      have s9 : Same H8 (upd (upd H8 D2 (.lst (natV (restL n st)))) q (.tup (natV (restL n st)))) := (same_upd hD2).trans (same_upd hq)
      have q9 : upd (upd H8 D2 (.lst (natV (restL n st)))) q (.tup (natV (restL n st))) q = some (.tup (natV (restL n st))) := upd_same
      generalize upd (upd H8 D2 (.lst (natV (restL n st)))) q (.tup (natV (restL n st))) = H9 at s9 q9 ⊢
      have al : as.length ≤ 7 := by rw [ht.1, blks_len]; exact cl
      have hb9 := s9 _ _ hB8
      refine ⟨_, rfl, V.ref q, (restL n st).length, rfl, .inr ⟨_, SqT.of q9, by rw [List.length_map]⟩, _, _, rfl, rfl, _, rfl, ite2 (fun c => ?_) (fun c => ?_)⟩
      · have hre : restL n st ≠ [] := fun z => by
          rw [z] at c
          exact absurd (of_decide_eq_true c) (by simp)
        refine ⟨_, rfl, tyl hb9, _, rfl, B, _, _, rfl, rfl, hb9, sml (by rw [List.length_map]; omega), ?_⟩
        have kt : ∀ a xs, H9 a = some (.tup xs) → upd H9 B (.lst (as.map V.ref ++ [V.ref q])) a = some (.tup xs) := fun a xs e => uk (ne_of e hb9 (fun z => nomatch z)) e
        refine ⟨_, rfl, B, _, rfl, .inl ⟨SqL.of upd_same, fun r hr9 => ?_⟩⟩
        have s10 := same_upd (o := .tup (as.map V.ref ++ [V.ref q])) hr9
        refine k _ _ (fun b o e => s10 _ _ (uk (ne_of_none e hHB) (s9 _ _ (g08 _ _ e)))) ⟨r, as ++ [q], rfl, by rw [upd_same, List.map_append]; rfl, ?_⟩
        unfold blocksL
        rw [if_neg hre]
        exact (ht.keep fun a xs e => s10 _ _ (kt _ _ (s9 _ _ e))).snoc (s10 _ _ (kt _ _ q9))
      · have hre : restL n st = [] := by
          refine List.length_eq_zero_iff.mp ?_
          refine Classical.byContradiction fun z => c (decide_eq_true ?_)
          show (0 : Int) < ((restL n st).length : Int)
          omega
        refine ⟨_, rfl, B, _, rfl, .inl ⟨SqL.of hb9, fun r hr9 => ?_⟩⟩
        have s10 := same_upd (o := .tup (as.map V.ref)) hr9
        refine k _ _ (g08.trans (s9.trans s10)) ⟨r, as, rfl, upd_same, ?_⟩
        unfold blocksL
        rw [if_pos hre, List.append_nil]
        exact ht.keep fun a xs e => s10 _ _ (s9 _ _ e)
end
end K07
/-! A try with several clauses, some of which name the error; calls within it; _law_refused. -/
namespace K07
open PySem PySem.Spec PyProof.Rows L2
abbrev Cls1 : Type := Value × Option Nat × (Addr → Value → Option Addr → TS)
/-- what the clauses wish of an exception of the body, one after the other; a clause with a slot lays the error there and empties it again -/
def wMas (K : PySem.W.Frag) (Wout : WX) (D : Ends) : List Cls1 → WX
  | [] => Wout
  | (c, none, ts) :: r => fun cls d σ H => ∃ b, PySem.W.exmOne K cls c = some b ∧ (b = true → ∀ a, H a = none → ts a cls d D σ H) ∧ (b = false → wMas K Wout D r cls d σ H)
  | (c, some i, ts) :: r => fun cls d σ H => ∃ b, PySem.W.exmOne K cls c = some b ∧
      (b = true → ∀ a, H a = none → ts a cls d { nx := fun σ' H' => D.nx (σ'.set i none) H', rt := D.rt, bk := fun σ' H' => D.bk (σ'.set i none) H', ct := fun σ' H' => D.ct (σ'.set i none) H' } (σ.set i (some (.ref a))) H) ∧ (b = false → wMas K Wout D r cls d σ H)
inductive HdsA (X : Cx) : List ExceptHandler → List Cls1 → Prop
  | nil : HdsA X [] []
  | consN {x : Str} {c : Value} {ts : Addr → Value → Option Addr → TS} {b₀ : Stmt} {suite : List Stmt} {np pos' : Pos} {hds : List ExceptHandler} {l : List Cls1} (hc : Names X x c)
      (hsu : ∀ (a : Addr) (oe : Obj) (cls : Value) (d : Option Addr) (pn : List (Addr × Obj)), Zc cls d oe → (∃ vs, oe.data = .fields vs) → PSs (X.suite a ((a, oe) :: pn)) (b₀ :: suite) (ts a cls d)) (r : HdsA X hds l) :
      HdsA X (.ExceptHandler (some (.Name x np)) none (b₀ :: suite) pos' :: hds) ((c, none, ts) :: l)
  | consA {x n : Str} {i : Nat} {c : Value} {ts : Addr → Value → Option Addr → TS} {b₀ : Stmt} {suite : List Stmt} {np pos' : Pos} {hds : List ExceptHandler} {l : List Cls1} (hi : X.N[i]? = some n) (hln : X.env.kindOf n = some .local) (hc : Names X x c)
      (hsu : ∀ (a : Addr) (oe : Obj) (cls : Value) (d : Option Addr) (pn : List (Addr × Obj)), Zc cls d oe → (∃ vs, oe.data = .fields vs) → PSs (X.suite a ((a, oe) :: pn)) (b₀ :: suite) (ts a cls d)) (r : HdsA X hds l) :
      HdsA X (.ExceptHandler (some (.Name x np)) (some n) (b₀ :: suite) pos' :: hds) ((c, some i, ts) :: l)
section
variable {X : Cx} {pins : List (Addr × Obj)} {a : Addr} {cls : Value} {d : Option Addr} {σ : L2.St} {H : Hp} {s : Shared}
/-- an error at a of the class cls, its dict at d, has come to a frame whose clauses are asked: all else is as it was -/
structure Caught (X : Cx) (pins : List (Addr × Obj)) (a : Addr) (cls : Value) (d : Option Addr) (σ : L2.St) (H : Hp) (s : Shared) : Prop where
  free : H a = none
  held : ∃ (B : Heap) (s0 : Shared), (L2.Inv X pins σ H s0 ∧ s.os = s0.os ∧ AllBare s.gens) ∧ (∀ c u, s0.heap.get? c = some u → c ∉ frs X.stack → B.get? c = some u) ∧ s0.heap.UpToSlots s.heap ∧ HandSPX.FlyingZ B (X.env :: X.outer) a (Zc cls d) s.heap
/-- the walk goes on in the suite's context, and is known without it -/
theorem Caught.ctx (C : Caught X pins a cls d σ H s) (hf : X.env.frame = some X.env.locals) :
    L2.Inv X pins σ H s ∧ ∃ oe, Zc cls d oe ∧ (∃ vs, oe.data = .fields vs) ∧ s.heap.get? a = some oe ∧ L2.Inv (X.suite a ((a, oe) :: (X.pn ++ pins))) [] σ H s := by
  obtain ⟨B, s0, ⟨J, os, bare⟩, keep, up, fly⟩ := C.held
  have I := J.landed keep fly.1 up os bare
  obtain ⟨oe, vs, e1, z, e2⟩ := fly.there
  have off : a ∉ frs (X.env :: X.outer) := fun m => by
    obtain ⟨_, u, e3, no⟩ := fly.2.2.1.mem m
    cases e1.symm.trans e3
    exact no _ e2
  have offL : a ≠ X.env.locals := fun q => off (List.mem_filterMap.mpr ⟨X.env, .head _, by rw [q]; exact hf⟩)
  have offF : a ∉ X.fs := fun m => let ⟨v, hv, q⟩ := List.mem_filterMap.mp m; off (List.mem_filterMap.mpr ⟨v, .tail _ hv, q⟩)
  exact ⟨I, oe, z, ⟨vs, e2⟩, e1, I.suite e1 e2 C.free offL offF⟩
/-- as the clause's suite begins the error's flight is cleared once more -/
theorem Caught.clear {M : Model} {A : Around} {E : Value → Shared → Prop} {R : Unit → Shared → Prop} (C : Caught X pins a cls d σ H s) (k : ∀ h', Caught X pins a cls d σ H { s with heap := h' } → R () { s with heap := h' }) : wpAny M A (setFlight (.ref a) none) R E s := by
  obtain ⟨B, s0, g, keep, up, fly⟩ := C.held
  exact HandSPX.lands_againZ fly fun h' fly' up' => k h' ⟨C.free, B, s0, g, keep, up.trans up', fly'⟩
/-- no clause is left: on it goes -/
theorem Caught.onward {W : WX} {D : Ends} (C : Caught X pins a cls d σ H s) (hs : X.stack = X.env :: X.outer) (hf : X.env.frame = some X.env.locals) (tk : Takes X W) (w : W cls d σ H) :
    wpAny (model X.prog X.w) X.A (handleBy (.ref a) X.env []) (SP X pins D) X.xe s := by
  obtain ⟨B, s0, ⟨J, os, bare⟩, keep, up, fly⟩ := C.held
  have rise : wpAny (model X.prog X.w) X.A (setFlight (.ref a) X.env.frame) (fun _ z => wpAny (model X.prog X.w) X.A (throw (.ref a) : Sem Flow) (SP X pins D) X.xe z) X.xe s := by
    rw [hf]
    exact HandSPX.setFlight_upZ fly fun h' held' up' => wpAny_throw (tk _ _ ⟨a, B, s0, pins, σ, H, cls, d, rfl, J, keep, up.trans up', .inr (.inr (hs ▸ held')), C.free, os, bare, w⟩)
  obtain ⟨_, _, _, oe, vs, T, oT, ts, e1, _, e2, e3, _⟩ := fly
  refine wpAny_handleBy_nil ?_
  unfold PySem.passOn
  refine wpAny_bind (wpAny_field e1 e2 e3 ?_)
  rw [if_neg (fun q => by simp at q)]
  first
    | exact wpAny_bind rise
    | exact wpAny_bind (wpAny_pure (wpAny_bind rise))
/-- the clause's name is read, the error's class asked -/
theorem Caught.asked {x : Str} {c : Value} {np : Pos} {b : Bool} {R : Bool → Shared → Prop} {E : Value → Shared → Prop} (C : Caught X pins a cls d σ H s) (hf : X.env.frame = some X.env.locals) (hc : Names X x c) (he : PySem.W.exmOne X.K cls c = some b) (k : R b s) :
    wpAny (model X.prog X.w) (X.A.mark (some (.ref a))) (eval (.Name x np) X.env) (fun v z => wpAny (model X.prog X.w) (X.A.mark (some (.ref a))) (excMatches (.ref a) v) R E z) E s := by
  obtain ⟨I, oe, z, _, e1, S⟩ := C.ctx hf
  have ask := (PySem.W.exm_one (M := model X.prog X.w) I.kIn (fun A Q E t kk q => wpAny_typeOf_ref (kk _ _ e1) (by rw [z.1]; exact q)) he).here (A := X.A.mark (some (.ref a))) (E := E) (Q := R) (s := s) k
  rcases hc.2.2 with m | ⟨m, m2, m3⟩
  · exact ld_glob (X := X.suite a ((a, oe) :: (X.pn ++ pins))) S hc.1 m ask hc.2.1
  · exact ld_blt (X := X.suite a ((a, oe) :: (X.pn ++ pins))) S hc.1 m m2 ask m3 hc.2.1
/-- all clauses, one after the other -/
theorem Caught.handled {Wout : WX} {D : Ends} (hs : X.stack = X.env :: X.outer) (hf : X.env.frame = some X.env.locals) (hN : X.N.Nodup) (tk : Takes X Wout) : ∀ {hds : List ExceptHandler} {l : List Cls1}, HdsA X hds l → Caught X pins a cls d σ H s → wMas X.K Wout D l cls d σ H →
    wpAny (model X.prog X.w) X.A (handleBy (.ref a) X.env hds) (SP X pins D) X.xe s := by
  intro hds l hk C w
  have ok := (C.ctx hf).1.ok
  induction hk with
  | nil => exact C.onward hs hf tk w
  | consN hc hsu _ ih =>
    obtain ⟨b, he, yes, no⟩ := w
    refine wpAny_handleBy_cons (codeAny_handlers_test (C.asked hf hc he ?_)) (fun q => nomatch q)
    cases b with
    | false => exact ih (no rfl)
    | true =>
      refine codeAny_handlers_suite (C.clear fun h' C' => ?_)
      obtain ⟨_, oe, z, fields, _, S⟩ := C'.ctx hf
      refine wpAny_mono ((hsu a oe cls d (X.pn ++ pins) z fields).run [] _ _ H _ S (yes rfl a C.free)) (fun f s6 got => ?_) (fun _ _ q => q.elim)
      cases f with
      | ret u => exact let ⟨v, σ6, H6, S6, r, q⟩ := got; ⟨v, σ6, H6, S6.unsuite ok, r, q⟩
      | _ => exact let ⟨σ6, H6, S6, q⟩ := got; ⟨σ6, H6, S6.unsuite ok, q⟩
  | @consA x n i c ts b₀ suite np pos' hds l hi hln hc hsu _ ih =>
    obtain ⟨b, he, yes, no⟩ := w
    refine wpAny_handleBy_cons (codeAny_handlers_test (C.asked hf hc he ?_)) (fun q => nomatch q)
    cases b with
    | false => exact ih (no rfl)
    | true =>
      refine codeAny_handlers_suite_as (C.clear fun h' C' => ?_)
      obtain ⟨_, oe, z, fields, _, S⟩ := C'.ctx hf
      refine store_ok (X := X.suite a ((a, oe) :: (X.pn ++ pins))) (v := .ref a) S hN hi (.inl hln) rfl (fun s5 S5 => ?_) (.inr hln)
      have leave : ∀ {s6 : Shared} {σ6 : L2.St} {H6 : Hp} {R : Shared → Prop}, L2.Inv (X.suite a ((a, oe) :: (X.pn ++ pins))) [] σ6 H6 s6 → (∀ s7, L2.Inv X pins (σ6.set i none) H6 s7 → R s7) →
          wpAny (model X.prog X.w) X.A (do bindName X.env n .none; unbindBehindTheSuite X.env n pos') (fun _ s7 => R s7) X.xe s6 := fun S6 r => gone_ok (S6.unsuite ok) hN hi hln r
      refine wpAny_mono ((hsu a oe cls d (X.pn ++ pins) z fields).run [] s5 _ H _ S5 (yes rfl a C.free)) (fun f s6 got => ?_) (fun _ _ q => q.elim)
      cases f with
      | ret u => exact let ⟨v, σ6, H6, S6, r, q⟩ := got; leave S6 fun _ J => ⟨v, _, H6, J, r, q⟩
      | _ => exact let ⟨σ6, H6, S6, q⟩ := got; leave S6 fun _ J => ⟨_, H6, J, q⟩
end
section
variable {X : Cx} {body : List Stmt} {h₀ : ExceptHandler} {hds : List ExceptHandler} {l : List Cls1} {pos : Pos} {tb : WX → TS} {Wout : WX}
/-- a try with several clauses, with names or without -/
theorem ps_try_mas (hs : X.stack = X.env :: X.outer) (hf : X.env.frame = some X.env.locals) (hN : X.N.Nodup) (tk : Takes X Wout)
    (hb : ∀ (W : WX) (pn : List (Addr × Obj)) (xe : Value → Shared → Prop), Takes (X.tr pn xe) W → PassesOwn (model X.prog X.w) X.A X.env xe → PSs (X.tr pn xe) body (tb W))
    (hh : HdsA X (h₀ :: hds) l) : PS X (.Try body (h₀ :: hds) [] [] pos) (fun D σ H => tb (wMas X.K Wout D l) D σ H) := by
  refine ⟨fun pins s σ H D I h => ?_⟩
  have ok := I.ok
  refine wpAny_Try_except (wpAny_mono ((hb _ _ _ (fun u z xx => ?_) PassesOwn.looking).run [] s σ H D (I.toTry _) h) (fun f z got => ?_) (fun _ _ q => q))
  · obtain ⟨a, B, s0, _, σ', H', cls, d, rfl, J, keep, up, sky, free, os, bare, w⟩ := xx
    exact Sky.land Zc.steady (ok.frames.trans (congrArg some hs)) hf (hs ▸ sky) fun h3 fly up3 => Caught.handled hs hf hN tk hh ⟨free, B, s0, ⟨J.ofTry ok, os, bare⟩, keep, up.trans up3, fly⟩ w
  · cases f with
    | next => exact let ⟨σ', H', J, q⟩ := got; wpAny_execs_nil ⟨σ', H', J.ofTry ok, q⟩
    | ret u => exact let ⟨v, σ', H', J, r, q⟩ := got; ⟨v, σ', H', J.ofTry ok, r, q⟩
    | _ => exact let ⟨σ', H', J, q⟩ := got; ⟨σ', H', J.ofTry ok, q⟩
end
/-! ### a method's call, a class's call within a try -/
section
variable {X : Cx} {CX : CXT} {k : Nat} {f C : Addr} {fd : FuncData} {ps : List Str} {sp : Sp} {E : L2.St → XK} {x m : Str} {p pos apos : Pos} {e o : Expr} {es : List Expr} {ta : TE} {t : TA}
def tMethS (C : Addr) (m : Str) (sp : Sp) (E : L2.St → XK) (ta : TE) (t : TA) : TE := fun σ H Q => ta σ H fun x H1 => ∃ a dx fs, x = .ref a ∧ H1 a = some (.ins C dx fs) ∧ fs.lookup m = none ∧ t σ H1 fun vs H2 => sp (x :: vs) H2 Q (E σ)
theorem pe_methS {pl : Sem Bool} (he : PE X o ta) (c : Cls X.K C) (hm : Meth X.K C m f) (F : FnOk X.prog X.w X.K X.mg X.base CX k f fd ps sp) (hr : Room k X.A) (hb : Binds X.K fd ps []) (hx : ∀ σ, PassesAt CX X σ (E σ)) (ha : PA X (e :: es) t)
    (hst : starEach (e :: es) X.env = (false, eval e X.env) :: starEach es X.env := by rfl) (hpl : (backTo pos (starEach es X.env)).any (·.1) = false := by rfl)
    (ht : eval (.Call (.Attribute o m apos) (e :: es) [] pos) X.env = (do
      let ov ← eval o X.env
      standAt apos.atName
      let (f, first) ← holding [ov] (getMethod ov m pl)
      callWith pos f first (backTo pos (starEach (e :: es) X.env)) (backToKw pos (keywordEach [] X.env))) := by rfl) :
    PE X (.Call (.Attribute o m apos) (e :: es) [] pos) (tMethS C m sp E ta t) := by
  refine ⟨fun pins s σ H Q I h => ?_⟩
  refine PySem.W.methodCall_KW (pl := pl) (thn (he.run pins s σ H _ I h) fun u s1 ⟨x, H1, I1, rx, a, dx, fs, ex, ea, l, q⟩ => ?_) ht
  subst ex
  obtain rfl : u = Value.ref a := rx
  refine getmeth_ok I1 ea c hm l ?_
  refine PySem.W.callWith_K (first := [.ref a]) (h₀ := X.base) I.ok.mod.kin hm.kp (thn (ha.run pos pins s1 σ H1 _ I1 q) fun us s2 ⟨vs, H2, I2, r, q2⟩ => ⟨I2.kIn, ?_⟩) hst hpl
  exact run_fnS (us := .ref a :: us) (vs := .ref a :: vs) F hr hb (hx σ) I2 (.cons rfl r) q2
def tMakeS (C : Addr) (sp : Sp) (E : L2.St → XK) (t : TA) : TE := fun σ H Q => t σ H fun vs H1 => ∀ x dx, H1 x = none → H1 dx = none → dx ≠ x →
  sp (.ref x :: vs) (upd (upd H1 dx (.own x)) x (.ins C dx [])) (fun v H2 => v = .non ∧ Q (.ref x) H2) (E σ)
theorem run_makeS {pins : List (Addr × Obj)} {σ : L2.St} {H : Hp} {s : Shared} {Q : VK} {us : List Value} {vs : List V} (M : Mk X.K C f) (F : FnOk X.prog X.w X.K X.mg X.base CX k f fd ps sp) (hr : Room (k + 1) X.A) (hb : Binds X.K fd ps [])
    (hx : PassesAt CX X σ (E σ)) (I : L2.Inv X pins σ H s) (r : Vals vs us)
    (h : ∀ x dx, H x = none → H dx = none → dx ≠ x → sp (.ref x :: vs) (upd (upd H dx (.own x)) x (.ins C dx [])) (fun v H2 => v = .non ∧ Q (.ref x) H2) (E σ)) :
    wpAny (model X.prog X.w) X.A (call (.ref C) us) (EP X pins σ Q) X.xe s := by
  have hq := h (s.heap.objs.size + 1) s.heap.objs.size (I.hok.fresh (Nat.le_succ _)) (I.hok.fresh (Nat.le_refl _)) (Nat.ne_of_lt (Nat.lt_succ_self _))
  have I2 := L2.Inv.made (C := C) I
  have r2 : Vals (V.ref (s.heap.objs.size + 1) :: vs) (Value.ref (s.heap.objs.size + 1) :: us) := .cons rfl r
  have hl : (Value.ref (s.heap.objs.size + 1) :: us).length = ps.length := by
    have e := r2.length
    rw [F.len _ _ _ _ hq] at e
    exact e.symm
  have b := hb _ (Value.ref (s.heap.objs.size + 1) :: us) I2.kIn (by rw [List.append_nil]; exact hl)
  rw [List.append_nil] at b
  refine wpAny_call (make_map (f := f) I.kIn M.makes M.init (beq_iff_eq.mp M.fn) (codeAny_mono (F.run _ X.stack _ _ ⟨Value.ref (s.heap.objs.size + 1) :: us, []⟩ (Value.ref (s.heap.objs.size + 1) :: us) _ _ (E σ) (hr.make C us [])
    (I2.env0.make C us []) b r2 hq) fun r s' hq' => ?_))
  cases r with
  | error e => exact hx pins _ _ e s' I2 hq'
  | ok fl =>
    cases fl with
    | ret u =>
      obtain ⟨v, H', I3, rv, ev, q3⟩ := I2.after hq'
      subst ev
      exact ⟨rv, ⟨V.ref (s.heap.objs.size + 1), H', I3, rfl, q3⟩⟩
    | next => exact False.elim hq'
    | brk => exact False.elim hq'
    | cont => exact False.elim hq'
theorem pe_makeS (M : Mk X.K C f) (F : FnOk X.prog X.w X.K X.mg X.base CX k f fd ps sp) (hr : Room (k + 1) X.A) (hg : Gl X x) (hm : X.mg x = some (.ref C)) (hb : Binds X.K fd ps []) (hx : ∀ σ, PassesAt CX X σ (E σ))
    (ha : PA X (e :: es) t) (hdb : (x == ("__debug__" : Str)) = false := by decide) (he : starEach (e :: es) X.env = (false, eval e X.env) :: starEach es X.env := by rfl) (hpl : (backTo pos (starEach es X.env)).any (·.1) = false := by rfl) :
    PE X (.Call (.Name x p) (e :: es) [] pos) (tMakeS C sp E t) := by
  refine ⟨fun pins s σ H Q I h => ?_⟩
  refine wpAny_Call_Name_kw (ld_glob I hg hm ?_ hdb)
  refine PySem.W.callWith_K (h₀ := X.base) I.ok.mod.kin M.kp (thn (ha.run pos pins s σ H _ I h) fun us s1 ⟨vs, H1, I1, r, q⟩ => ⟨I1.kIn, ?_⟩) he hpl
  exact run_makeS M F hr hb (hx σ) I1 r q
end
theorem xfOf {P : Program} {K : PySem.W.Frag} {mg : Str → Option Value} {x fld qual : Str} {params : Arguments} {body : List Stmt} {scope : Scope} {C fI : Addr} (T : PySem.K07X.ErrTxt P K mg x fld qual params body scope C fI) : XfC K C := ⟨T.ga, T.gg, T.exC, T.hdC⟩
abbrev clsL (CN CB CE : Addr) : List Cls1 := [(.ref CN, some 4, fun a cls d => tAsg (tTup (tCons (tC (.str "name")) (tCons (tXf a cls d CN "name" (tVar 4)) tNil))) (gName 3)), (.ref CB, some 4, fun a cls d => tAsg (tTup (tCons (tC (.str "number")) (tCons (tXf a cls d CB "word" (tVar 4)) tNil))) (gName 3)),
  (.ref CE, none, fun a cls d => tAsg (tTup (tCons (tC (.str "other")) tNil)) (gName 3))]
theorem fin_name {K : PySem.W.Frag} {CN CB CE d : Addr} {D : Ends} {Wout : WX} {a0 b0 c0 x3 : Option V} {H2 : Hp} {v : V} (x : PySem.W.exmOne K (.ref CN) (.ref CN) = some true) (hd : H2 d = none) (k : ∀ q H', Same H2 H' → H' q = some (.tup [.str "name", v]) → D.nx [a0, b0, c0, some (.ref q), none] H') :
    wMas K Wout D (clsL CN CB CE) (.ref CN) (some d) [a0, b0, c0, x3, none] (errD H2 d "name" v) := by
  refine ⟨true, x, fun _ a _ => ?_, fun q => nomatch q⟩
  refine ⟨_, rfl, rfl, rfl, d, _, v, rfl, upd_same, rfl, (by show 2 ≤ sizeLine; decide), fun q hq => ?_⟩
  exact k q _ ((same_upd hd).trans (same_upd hq)) upd_same
theorem fin_num {K : PySem.W.Frag} {CN CB CE d : Addr} {D : Ends} {Wout : WX} {a0 b0 c0 x3 : Option V} {H2 : Hp} {v : V} (x : PySem.W.exmOne K (.ref CB) (.ref CN) = some false) (y : PySem.W.exmOne K (.ref CB) (.ref CB) = some true) (hd : H2 d = none)
    (k : ∀ q H', Same H2 H' → H' q = some (.tup [.str "number", v]) → D.nx [a0, b0, c0, some (.ref q), none] H') :
    wMas K Wout D (clsL CN CB CE) (.ref CB) (some d) [a0, b0, c0, x3, none] (errD H2 d "word" v) := by
  refine ⟨false, x, fun q => (by cases q), fun _ => ⟨true, y, fun _ a _ => ?_, fun q => nomatch q⟩⟩
  refine ⟨_, rfl, rfl, rfl, d, _, v, rfl, upd_same, rfl, (by show 2 ≤ sizeLine; decide), fun q hq => ?_⟩
  exact k q _ ((same_upd hd).trans (same_upd hq)) upd_same
theorem str_ne {a b : Str} (h : a ≠ b) : decide (V.str a = V.str b) = false := decide_eq_false fun e => h (V.str.inj e)
theorem str_eq {a : Str} : decide (V.str a = V.str a) = true := decide_eq_true rfl
/-- what _law_refused is asked, and what is told of it -/
inductive Refs (C : Addr) (H : Hp) : Str → V → V → Str → V → Prop where
  | new {v u : V} (hv : Flat v) (h : goodL v = false) : Refs C H "new" v u "number" (.str "size")
  | step {B : LA} {n : Nat} {s : Ls} {u : V} (L : LevAt C n H B s) (I : Inv n s) (h6 : n ≤ 6) (hu : Flat u) (h : nameOk n u = false ∨ ∃ i : Nat, u = .int i ∧ i ∈ keys s) : Refs C H "step" (.ref B.p) u "name" u
  | level {B : LA} {n : Nat} {s : Ls} {u : V} (L : LevAt C n H B s) (I : Inv n s) (hu : Flat u) (h : nameOk n u = false) : Refs C H "level" (.ref B.p) u "name" u
  | taken {B : LA} {n : Nat} {s : Ls} {u : V} (L : LevAt C n H B s) (I : Inv n s) (hu : Flat u) (h : nameOk n u = false) : Refs C H "taken" (.ref B.p) u "name" u
  | size {z : Str} {v u : V} (hz : z = "run" ∨ z = "blocks") (hv : Flat v) (h : goodL v = false) : Refs C H z v u "number" (.str "size")
  | flat {z : Str} {n : Nat} {u : V} (hz : z = "run" ∨ z = "blocks") (h1 : 1 ≤ n) (h6 : n ≤ 6) (hu : Flat u) : Refs C H z (.int n) u "name" (.int (-1))
  | row {z : Str} {n : Nat} {u x : V} {xs : List V} (hz : z = "run" ∨ z = "blocks") (h1 : 1 ≤ n) (h6 : n ≤ 6) (hu : RowAt H u xs) (hf : ∀ x ∈ xs, Flat x) (hx : xs.find? (fun x => !nameOk n x) = some x) : Refs C H z (.int n) u "name" x
/-- _law_refused(word, one, other) -/
def spLRefused (C : Addr) : Sp := fun vs H Q _ => ∃ (z : Str) (one other : V) (kd : Str) (v : V), vs = [.str z, one, other] ∧ Refs C H z one other kd v ∧ ∀ H' q, Same H H' → H' q = some (.tup [.str kd, v]) → Q (.ref q) H'
section
variable {w : World} {K : PySem.W.Frag} {mg : Str → Option Value} {base : Heap}
theorem scLRefused : FnScope ["_law_word", "_law_one", "_law_other", "_law_got", "caught"] ["_law_word", "_law_one", "_law_other"] (defScope lRefused) := ⟨rfl, rfl, rfl, by decide +kernel, rfl, by decide +kernel, by decide +kernel⟩
theorem ok_lRefused {f fR fB C CB CN CE fN fM : Addr} {fd fdR fdB : FuncData} (F : Fun K "_law_refused" "_law_refused" lRefused f fd) (FR : Fun K "levels_run" "levels_run" sRun fR fdR) (gR : mg "levels_run" = some (.ref fR)) (bR : Binds K fdR ["size", "schedule"] [])
    (GR : FnOk PR w K mg base (L2.CX PR w) 6 fR fdR ["size", "schedule"] (spRun CB CN)) (FB : Fun K "levels_blocks" "levels_blocks" sBlocks fB fdB) (gB : mg "levels_blocks" = some (.ref fB)) (bB : Binds K fdB ["size", "schedule"] [])
    (GB : FnOk PR w K mg base (L2.CX PR w) 7 fB fdB ["size", "schedule"] (spBlocks CB CN)) (TL : LevCl w K mg base C CB CN) (TN : NameTxt K mg CN fN) (TB : NumTxt K mg CB fM) (gE : mg "TaskError" = some (.ref CE))
    (xNN : PySem.W.exmOne K (.ref CN) (.ref CN) = some true) (xBN : PySem.W.exmOne K (.ref CB) (.ref CN) = some false) (xBB : PySem.W.exmOne K (.ref CB) (.ref CB) = some true) (T : Blt mg) :
    FnOk PR w K mg base CX0 8 f fd ["_law_word", "_law_one", "_law_other"] (spLRefused C) := by
  obtain ⟨fI, fdI, mI, bI, GI⟩ := TL.make
  obtain ⟨fT, fdT, mT, bT, GT⟩ := TL.step
  obtain ⟨fL, fdL, mL, bL, GL⟩ := TL.level
  obtain ⟨fK, fdK, mK, bK, GK⟩ := TL.taken
  refine F.ok scLRefused (fun vs H Q E h => ?_) (fun cdv A outer s H vs Q E hr h => ?_)
  · obtain ⟨z, one, other, kd, v, rfl, _⟩ := h
    rfl
  · obtain ⟨z, one, other, kd, v, rfl, R, k⟩ := h
    have hr3 : Room 3 _ := hr.mono (by decide)
    have hr5 : Room 5 _ := hr.mono (by decide)
    have hr6 : Room 6 _ := hr.mono (by decide)
    have hr7 : Room 7 _ := hr.mono (by decide)
    refine ⟨_, (pss_cons (ps_set (i := 3) scLRefused.nd rfl (Or.inl rfl) (pe_tup (pa_cons pe_str pa_nil)))
 (pss_cons (ps_try_mas (tb := fun W => (tSeq (tIfS (tTest (tOp rEq (tVar 0) (tC (.str "new")))) (tDrop (tMakeS C (spInit C CB) (WE W) (tCons (tVar 1) tNil))) tNext) (tSeq (tIfS (tTest (tOp rEq (tVar 0) (tC (.str "step")))) (tDrop (tMethS C "step" (spStep C CN) (WE W) (tVar 1) (tCons (tVar 2) tNil))) tNext) (tSeq (tIfS (tTest (tOp rEq (tVar 0) (tC (.str "level")))) (tDrop (tMethS C "level" (spRead C CN valLow) (WE W) (tVar 1) (tCons (tVar 2) tNil))) tNext) (tSeq (tIfS (tTest (tOp rEq (tVar 0) (tC (.str "taken")))) (tDrop (tMethS C "taken" (spRead C CN valTk) (WE W) (tVar 1) (tCons (tVar 2) tNil))) tNext) (tSeq (tIfS (tTest (tOp rEq (tVar 0) (tC (.str "run")))) (tDrop (tCallS (spRun CB CN) (WE W) (tCons (tVar 1) (tCons (tVar 2) tNil)))) tNext) (tIfS (tTest (tOp rEq (tVar 0) (tC (.str "blocks")))) (tDrop (tCallS (spBlocks CB CN) (WE W) (tCons (tVar 1) (tCons (tVar 2) tNil)))) tNext))))))) (Wout := fun _ _ _ _ => False) rfl rfl scLRefused.nd takes0 (fun W pn xe tk _ => (pss_cons (ps_if (pt_cmpR op_eq (pv 0) pe_str (nomark _)) (pss_one (ps_expr (pe_makeS mI GI hr5 rfl TL.gC bI (fun σ => passAt tk σ) (pa_cons (pv 1) pa_nil)))) pss_nil)
 (pss_cons (ps_if (pt_cmpR op_eq (pv 0) pe_str (nomark _)) (pss_one (ps_expr (pe_methS (pv 1) TL.tc.cl mT GT hr3 bT (fun σ => passAt tk σ) (pa_cons (pv 2) pa_nil)))) pss_nil)
 (pss_cons (ps_if (pt_cmpR op_eq (pv 0) pe_str (nomark _)) (pss_one (ps_expr (pe_methS (pv 1) TL.tc.cl mL GL hr3 bL (fun σ => passAt tk σ) (pa_cons (pv 2) pa_nil)))) pss_nil)
 (pss_cons (ps_if (pt_cmpR op_eq (pv 0) pe_str (nomark _)) (pss_one (ps_expr (pe_methS (pv 1) TL.tc.cl mK GK hr3 bK (fun σ => passAt tk σ) (pa_cons (pv 2) pa_nil)))) pss_nil)
 (pss_cons (ps_if (pt_cmpR op_eq (pv 0) pe_str (nomark _)) (pss_one (ps_expr (pe_callS GR hr6 rfl gR FR.kp bR (fun σ => passAt tk σ) (pa_cons (pv 1) (pa_cons (pv 2) pa_nil))))) pss_nil)
 (pss_one (ps_if (pt_cmpR op_eq (pv 0) pe_str (nomark _)) (pss_one (ps_expr (pe_callS GB hr7 rfl gB FB.kp bB (fun σ => passAt tk σ) (pa_cons (pv 1) (pa_cons (pv 2) pa_nil))))) pss_nil)))))))) (.consA (i := 4) (ts := fun a cls d => tAsg (tTup (tCons (tC (.str "name")) (tCons (tXf a cls d CN "name" (tVar 4)) tNil))) (gName 3)) rfl rfl ⟨rfl, by decide, Or.inl TN.gC⟩ (fun a oe cls d pn hz hf => (pss_one (ps_set (i := 3) scLRefused.nd rfl (Or.inl rfl) (pe_tup (pa_cons pe_str (pa_cons (pe_xf (xfOf TN) TN.noN hz hf (pv 4)) pa_nil))))))
 (.consA (i := 4) (ts := fun a cls d => tAsg (tTup (tCons (tC (.str "number")) (tCons (tXf a cls d CB "word" (tVar 4)) tNil))) (gName 3)) rfl rfl ⟨rfl, by decide, Or.inl TB.gC⟩ (fun a oe cls d pn hz hf => (pss_one (ps_set (i := 3) scLRefused.nd rfl (Or.inl rfl) (pe_tup (pa_cons pe_str (pa_cons (pe_xf (xfOf TB) TB.noN hz hf (pv 4)) pa_nil))))))
 (.consN (ts := fun a cls d => tAsg (tTup (tCons (tC (.str "other")) tNil)) (gName 3)) ⟨rfl, by decide, Or.inl gE⟩ (fun a oe cls d pn hz hf => (pss_one (ps_set (i := 3) scLRefused.nd rfl (Or.inl rfl) (pe_tup (pa_cons pe_str pa_nil))))) .nil))))
 (pss_one (ps_ret (pv 3))))), ?_⟩
    refine ⟨(by show 1 ≤ sizeLine; decide), fun p0 hp0 => ?_⟩
    have s1 : Same H (upd H p0 (.tup [.str "none"])) := same_upd hp0
    generalize upd H p0 (.tup [.str "none"]) = H1 at s1 ⊢
    have kN : ∀ (H2 : Hp), Same H1 H2 → kd = "name" → ∀ q H', Same H2 H' → H' q = some (.tup [.str "name", v]) → Q (.ref q) H' := fun H2 s2 e q H' s3 e3 => k H' q ((s1.trans s2).trans s3) (by rw [e]; exact e3)
    have kB : ∀ (H2 : Hp), Same H1 H2 → kd = "number" → ∀ q H', Same H2 H' → H' q = some (.tup [.str "number", v]) → Q (.ref q) H' := fun H2 s2 e q H' s3 e3 => k H' q ((s1.trans s2).trans s3) (by rw [e]; exact e3)
    have step1 : ∀ {a b : Str} {A B : Prop}, a ≠ b → B → (if decide (V.str a = V.str b) = true then A else B) := fun {a b A B} h q => by rw [str_ne h]; exact iteF q
    cases R with
    | new hv hg =>
      refine ⟨_, rfl, rfl, _, rfl, ?_⟩
      rw [str_eq]
      refine iteT ⟨_, rfl, fun x dx hx hd hne => ⟨x, dx, one, rfl, upd_same, hv, fun _ d hd' => ?_, fun n e h1 h6 => ?_⟩⟩
      · exact fin_num xBN xBB hd' (fun q H' s e => ⟨_, rfl, kB _ ((same_upd (o := .own x) hd).trans (same_upd (o := .ins C dx []) (by rw [upd_ne hne.symm]; exact hx))) rfl q H' s e⟩)
      · subst e
        rw [show goodL (V.int n) = true from decide_eq_true (by omega)] at hg
        cases hg
    | @step B n s _ L I h6 hu hb =>
      refine ⟨_, rfl, rfl, _, rfl, step1 (by decide) ?_⟩
      refine ⟨_, rfl, rfl, _, rfl, ?_⟩
      rw [str_eq]
      have L1 := L.same s1
      refine iteT ⟨_, rfl, B.p, B.dx, _, rfl, L1.ob, flds_step n B, _, rfl, B, n, s, other, rfl, L1, I, h6, hu, fun hg d hd => ?_, fun i e hi hk d hd => ?_, fun i e hi hk => ?_⟩
      · exact fin_name xNN hd (fun q H' s e => ⟨_, rfl, kN _ (fun _ _ e => e) rfl q H' s e⟩)
      · exact fin_name xNN hd (fun q H' s e => ⟨_, rfl, kN _ (fun _ _ e => e) rfl q H' s e⟩)
      · rcases hb with h | ⟨j, e2, hj⟩
        · rw [e, nameOk_lt hi] at h; cases h
        · rw [e] at e2
          injection e2 with e2
          have : j = i := by omega
          subst this
          exact absurd hj hk
    | @level B n s _ L I hu hb =>
      refine ⟨_, rfl, rfl, _, rfl, step1 (by decide) ?_⟩
      refine ⟨_, rfl, rfl, _, rfl, step1 (by decide) ?_⟩
      refine ⟨_, rfl, rfl, _, rfl, ?_⟩
      rw [str_eq]
      have L1 := L.same s1
      refine iteT ⟨_, rfl, B.p, B.dx, _, rfl, L1.ob, flds_level n B, _, rfl, B, n, s, other, rfl, L1, I.len, hu, fun i e hi => ?_, fun hg d hd => ?_⟩
      · rw [e, nameOk_lt hi] at hb; cases hb
      · exact fin_name xNN hd (fun q H' s e => ⟨_, rfl, kN _ (fun _ _ e => e) rfl q H' s e⟩)
    | @taken B n s _ L I hu hb =>
      refine ⟨_, rfl, rfl, _, rfl, step1 (by decide) ?_⟩
      refine ⟨_, rfl, rfl, _, rfl, step1 (by decide) ?_⟩
      refine ⟨_, rfl, rfl, _, rfl, step1 (by decide) ?_⟩
      refine ⟨_, rfl, rfl, _, rfl, ?_⟩
      rw [str_eq]
      have L1 := L.same s1
      refine iteT ⟨_, rfl, B.p, B.dx, _, rfl, L1.ob, flds_taken' n B, _, rfl, B, n, s, other, rfl, L1, I.len, hu, fun i e hi => ?_, fun hg d hd => ?_⟩
      · rw [e, nameOk_lt hi] at hb; cases hb
      · exact fin_name xNN hd (fun q H' s e => ⟨_, rfl, kN _ (fun _ _ e => e) rfl q H' s e⟩)
    | size hz hv hg =>
      rcases hz with rfl | rfl
      · refine ⟨_, rfl, rfl, _, rfl, step1 (by decide) ⟨_, rfl, rfl, _, rfl, step1 (by decide) ⟨_, rfl, rfl, _, rfl, step1 (by decide) ⟨_, rfl, rfl, _, rfl, step1 (by decide) ⟨_, rfl, rfl, _, rfl, ?_⟩⟩⟩⟩⟩
        rw [str_eq]
        refine iteT ⟨_, rfl, _, rfl, one, other, rfl, hv, fun _ H2 d s2 hd => ?_, fun hg2 => ?_⟩
        · exact fin_num xBN xBB hd (fun q H' s e => ⟨_, rfl, kB _ s2 rfl q H' s e⟩)
        · rw [hg] at hg2; cases hg2
      · refine ⟨_, rfl, rfl, _, rfl, step1 (by decide) ⟨_, rfl, rfl, _, rfl, step1 (by decide) ⟨_, rfl, rfl, _, rfl, step1 (by decide) ⟨_, rfl, rfl, _, rfl, step1 (by decide) ⟨_, rfl, rfl, _, rfl, step1 (by decide) ⟨_, rfl, rfl, _, rfl, ?_⟩⟩⟩⟩⟩⟩
        rw [str_eq]
        refine iteT ⟨_, rfl, _, rfl, one, other, rfl, hv, fun _ H2 d s2 hd => ?_, fun hg2 => ?_⟩
        · exact fin_num xBN xBB hd (fun q H' s e => ⟨_, rfl, kB _ s2 rfl q H' s e⟩)
        · rw [hg] at hg2; cases hg2
    | @flat _ n _ hz h1 h6 hu =>
      have hgn : goodL (V.int (n : Int)) = true := decide_eq_true (by omega)
      rcases hz with rfl | rfl
      · refine ⟨_, rfl, rfl, _, rfl, step1 (by decide) ⟨_, rfl, rfl, _, rfl, step1 (by decide) ⟨_, rfl, rfl, _, rfl, step1 (by decide) ⟨_, rfl, rfl, _, rfl, step1 (by decide) ⟨_, rfl, rfl, _, rfl, ?_⟩⟩⟩⟩⟩
        rw [str_eq]
        refine iteT ⟨_, rfl, _, rfl, _, other, rfl, .int _, fun hg H2 d s2 hd => ?_, fun hg2 => ⟨n, rfl, .inl ⟨hu, fun H2 d s2 hd => ?_⟩⟩⟩
        · rw [hgn] at hg; cases hg
        · exact fin_name xNN hd (fun q H' s e => ⟨_, rfl, kN _ s2 rfl q H' s e⟩)
      · refine ⟨_, rfl, rfl, _, rfl, step1 (by decide) ⟨_, rfl, rfl, _, rfl, step1 (by decide) ⟨_, rfl, rfl, _, rfl, step1 (by decide) ⟨_, rfl, rfl, _, rfl, step1 (by decide) ⟨_, rfl, rfl, _, rfl, step1 (by decide) ⟨_, rfl, rfl, _, rfl, ?_⟩⟩⟩⟩⟩⟩
        rw [str_eq]
        refine iteT ⟨_, rfl, _, rfl, _, other, rfl, .int _, fun hg H2 d s2 hd => ?_, fun hg2 => ⟨n, rfl, h1, h6, .inl ⟨hu, fun H2 d s2 hd => ?_⟩⟩⟩
        · rw [hgn] at hg; cases hg
        · exact fin_name xNN hd (fun q H' s e => ⟨_, rfl, kN _ s2 rfl q H' s e⟩)
    | @row _ n _ x xs hz h1 h6 hu hf hx =>
      have hgn : goodL (V.int (n : Int)) = true := decide_eq_true (by omega)
      have hu1 := hu.same s1
      rcases hz with rfl | rfl
      · refine ⟨_, rfl, rfl, _, rfl, step1 (by decide) ⟨_, rfl, rfl, _, rfl, step1 (by decide) ⟨_, rfl, rfl, _, rfl, step1 (by decide) ⟨_, rfl, rfl, _, rfl, step1 (by decide) ⟨_, rfl, rfl, _, rfl, ?_⟩⟩⟩⟩⟩
        rw [str_eq]
        refine iteT ⟨_, rfl, _, rfl, _, other, rfl, .int _, fun hg H2 d s2 hd => ?_, fun hg2 => ⟨n, rfl, .inr (.inl ⟨xs, _, hu1, hf, hx, fun H2 d s2 hd => ?_⟩)⟩⟩
        · rw [hgn] at hg; cases hg
        · exact fin_name xNN hd (fun q H' s e => ⟨_, rfl, kN _ s2 rfl q H' s e⟩)
      · refine ⟨_, rfl, rfl, _, rfl, step1 (by decide) ⟨_, rfl, rfl, _, rfl, step1 (by decide) ⟨_, rfl, rfl, _, rfl, step1 (by decide) ⟨_, rfl, rfl, _, rfl, step1 (by decide) ⟨_, rfl, rfl, _, rfl, step1 (by decide) ⟨_, rfl, rfl, _, rfl, ?_⟩⟩⟩⟩⟩⟩
        rw [str_eq]
        refine iteT ⟨_, rfl, _, rfl, _, other, rfl, .int _, fun hg H2 d s2 hd => ?_, fun hg2 => ⟨n, rfl, h1, h6, .inr (.inl ⟨xs, _, hu1, hf, hx, fun H2 d s2 hd => ?_⟩)⟩⟩
        · rw [hgn] at hg; cases hg
        · exact fin_name xNN hd (fun q H' s e => ⟨_, rfl, kN _ s2 rfl q H' s e⟩)
end
end K07
/-! The object and the law's own state side by side; _law_finish. -/
namespace K07
open PySem PySem.Spec PyProof.Rows L2
theorem LevAt.keepOn {C : Addr} {n : Nat} {H H' : Hp} {B : LA} {s : Ls} (L : LevAt C n H B s) (k1 : ∀ a ∈ B.mut, ∀ o, H a = some o → H' a = some o) (k2 : ∀ a o, H a = some o → (∀ xs, o ≠ .lst xs) → (∀ kvs, o ≠ .dK kvs) → H' a = some o) : LevAt C n H' B s :=
  ⟨k2 _ _ L.ob (fun _ z => nomatch z) (fun _ z => nomatch z), k1 _ (mem_mut.mpr (.inl rfl)) _ L.hc, k1 _ (mem_mut.mpr (.inr (.inl rfl))) _ L.hl, k1 _ (mem_mut.mpr (.inr (.inr (.inl rfl)))) _ L.ht, k1 _ (mem_mut.mpr (.inr (.inr (.inr (.inl rfl))))) _ L.hs, L.sal,
    fun i a h => k1 _ (mem_mut.mpr (.inr (.inr (.inr (.inr (.inr (List.mem_of_getElem? h))))))) _ (L.hsa i a h), k1 _ (mem_mut.mpr (.inr (.inr (.inr (.inr (.inl rfl)))))) _ L.hd, L.lal,
    fun j i l a h1 h2 => k2 _ _ (L.hla j i l a h1 h2) (fun _ z => nomatch z) (fun _ z => nomatch z), L.nd⟩
theorem LevAt.any {C : Addr} {n : Nat} {H : Hp} {B : LA} {s : Ls} (L : LevAt C n H B s) {a : Addr} (h : a ∈ B.mut) : ∃ o, H a = some o := by
  rcases mem_mut.mp h with e | e | e | e | e | e
  · exact ⟨_, e ▸ L.hc⟩
  · exact ⟨_, e ▸ L.hl⟩
  · exact ⟨_, e ▸ L.ht⟩
  · exact ⟨_, e ▸ L.hs⟩
  · exact ⟨_, e ▸ L.hd⟩
  · obtain ⟨i, hi⟩ := List.mem_iff_getElem?.mp e
    exact ⟨_, L.hsa i a hi⟩
/-- the object at p, the law's state at st, c and its looks at d, all made since H0 -/
structure Both (C : Addr) (n : Nat) (H0 H : Hp) (p st c d : Addr) (s : Ls) (B : LA) (A : LS) (la : List Addr) : Prop where
  hp : B.p = p
  hst : A.st = st
  L : LevAt C n H B s
  W : LawSt n H A s.ps
  hc : H c = some (.lst (lowsV s.ps))
  D : DictAt H d s.lk la
  I : Inv n s
  cA : c ∉ A.mut
  cB : c ∉ B.mut
  dB : d ∉ B.mut
  AB : ∀ a ∈ A.mut, a ∉ B.mut
  fr : ∀ a, a ∈ B.mut ∨ a ∈ A.mut ∨ a = c ∨ a = d → H0 a = none
  same : Same H0 H
theorem Both.dA {C : Addr} {n : Nat} {H0 H : Hp} {p st c d : Addr} {s : Ls} {B : LA} {A : LS} {la : List Addr} (T : Both C n H0 H p st c d s B A la) : d ∉ A.mut ∧ d ≠ c := by
  refine ⟨fun h => ?_, ne_of T.D.at_ T.hc (fun z => nomatch z)⟩
  obtain ⟨xs, e⟩ := T.W.any h
  rw [T.D.at_] at e; cases e
/-- new things beside them -/
theorem Both.later {C : Addr} {n : Nat} {H0 H H' : Hp} {p st c d : Addr} {s : Ls} {B : LA} {A : LS} {la : List Addr} (T : Both C n H0 H p st c d s B A la) (s2 : Same H H') : Both C n H0 H' p st c d s B A la :=
  ⟨T.hp, T.hst, T.L.same s2, T.W.same s2, s2 _ _ T.hc, T.D.keep (fun o e => s2 _ _ e) (fun a xs e => s2 _ _ e), T.I, T.cA, T.cB, T.dB, T.AB, T.fr, T.same.trans s2⟩
theorem Both.after {K : PySem.W.Frag} {C : Addr} {n : Nat} {H0 H : Hp} {p st c d : Addr} {s : Ls} {B : LA} {A : LS} {la : List Addr} (T : Both C n H0 H p st c d s B A la) {i : Nat} (hi : i < n) (hk : i ∉ keys s) {H1 : Hp} {A' : LS} {u1 : V}
    (hst : A'.st = A.st) (W1 : LawSt n H1 A' (s.ps.set i (nxt n s.ps (pAt s.ps i)))) (hc1 : H1 c = some (.lst (lowsV (s.ps.set i (nxt n s.ps (pAt s.ps i)))))) (cA1 : c ∉ A'.mut) (hu1 : LookV H1 u1 (due n s.ps (pAt s.ps i)))
    (k1 : ∀ x o, H x = some o → x ≠ c → x ∉ A.mut → H1 x = some o) (n1 : ∀ a ∈ A'.mut, a ∈ A.mut ∨ H a = none) :
    LevAt C n H1 B s ∧ Same H0 H1 ∧ ∀ H2 B' u2, B'.p = B.p → LevAt C n H2 B' (stp n s i) → LookV H2 u2 (due n s.ps (pAt s.ps i)) → (∀ b o, H1 b = some o → b ∉ B.mut → H2 b = some o) → (∀ a ∈ B'.mut, a ∈ B.mut ∨ H1 a = none) →
      (∃ dd, Dp K H2 u2 dd ∧ Dp K H2 u1 dd ∧ dd.canLay0 = true ∧ dd.depth ≤ 1) ∧
      ((u1 = .non ∧ Both C n H0 H2 p st c d (stp n s i) B' A' la) ∨ ∃ q, u1 = .ref q ∧ H2 d = some (.dK (dictV s.lk la)) ∧ la.length = s.lk.length ∧
        Both C n H0 (upd H2 d (.dK (putK (dictV s.lk la) (Sum.inl (i : Int)) (.ref q)))) p st c d (stp n s i) B' A' (la ++ [q])) := by
  obtain ⟨dA, dc⟩ := T.dA
  have L1 : LevAt C n H1 B s := T.L.keepOn (fun a ha o e => k1 a o e (fun z => T.cB (z ▸ ha)) (fun z => T.AB a z ha)) (fun a o e h1 h2 => k1 a o e (fun z => by rw [z, T.hc] at e; exact h1 _ (Option.some.inj e).symm) (fun z => by
    obtain ⟨xs, hx⟩ := T.W.any z
    rw [hx] at e; exact h1 _ (Option.some.inj e).symm))
  have s01 : Same H0 H1 := fun a o e => k1 a o (T.same a o e) (fun z => by rw [T.fr a (.inr (.inr (.inl z)))] at e; cases e) (fun z => by rw [T.fr a (.inr (.inl z))] at e; cases e)
  refine ⟨L1, s01, fun H2 B' u2 hp2 L2' hu2 k2 n2 => ?_⟩
  have D1 : DictAt H1 d s.lk la := T.D.keep (fun o e => k1 _ _ e dc dA) (fun a xs e => k1 _ _ e (ne_of e T.hc (fun z => nomatch z)) (fun z => by
    obtain ⟨ys, hy⟩ := T.W.any z
    rw [hy] at e; cases e))
  have tupB : ∀ {a xs}, H1 a = some (.tup xs) → H2 a = some (.tup xs) := fun e => k2 _ _ e (L1.off e (fun _ z => nomatch z) (fun _ z => nomatch z))
  have D2 : DictAt H2 d s.lk la := D1.keep (fun o e => k2 _ _ e T.dB) (fun a xs e => tupB e)
  have A'B : ∀ a ∈ A'.mut, a ∉ B.mut := fun a ha hb => by
    rcases n1 a ha with h | h
    · exact T.AB a h hb
    · obtain ⟨o, e⟩ := T.L.any hb
      rw [h] at e; cases e
  have W2 : LawSt n H2 A' (stp n s i).ps := W1.keep fun a ha o e => k2 a o e (A'B a ha)
  have hc2 : H2 c = some (.lst (lowsV (stp n s i).ps)) := k2 _ _ hc1 T.cB
  have I2 : Inv n (stp n s i) := inv_stp T.I hi hk
  have cB2 : c ∉ B'.mut := fun h => (n2 c h).elim T.cB (fun z => by rw [hc1] at z; cases z)
  have dB2 : d ∉ B'.mut := fun h => (n2 d h).elim T.dB (fun z => by rw [D1.at_] at z; cases z)
  have AB2 : ∀ a ∈ A'.mut, a ∉ B'.mut := fun a ha hb => (n2 a hb).elim (A'B a ha) (fun z => by
    obtain ⟨xs, e⟩ := W1.any ha
    rw [e] at z; cases z)
  have none0 : ∀ {a}, H1 a = none → H0 a = none := fun h => s01.free h
  have fr2 : ∀ a, a ∈ B'.mut ∨ a ∈ A'.mut ∨ a = c ∨ a = d → H0 a = none := fun a h => by
    rcases h with h | h | h | h
    · exact (n2 a h).elim (fun z => T.fr a (.inl z)) none0
    · exact (n1 a h).elim (fun z => T.fr a (.inr (.inl z))) (fun z => T.same.free z)
    · exact T.fr a (.inr (.inr (.inl h)))
    · exact T.fr a (.inr (.inr (.inr h)))
  have s02 : Same H0 H2 := fun a o e => k2 a o (s01 a o e) (fun z => by rw [T.fr a (.inl z)] at e; cases e)
  cases hd : due n s.ps (pAt s.ps i) with
  | none =>
    rw [hd] at hu1 hu2
    have e1 : u1 = .non := hu1
    have e2 : u2 = .non := hu2
    subst e1; subst e2
    have elk : (stp n s i).lk = s.lk := by unfold stp; rw [hd]; rfl
    refine ⟨⟨.none, .non, .non, by simp [PyData.canLay0], by simp [PyData.depth]⟩, .inl ⟨rfl, ?_⟩⟩
    exact ⟨hp2.trans T.hp, hst.trans T.hst, L2', W2, hc2, by rw [elk]; exact D2, I2, cA1, cB2, dB2, AB2, fr2, s02⟩
  | some l =>
    rw [hd] at hu1 hu2
    obtain ⟨q, e1, h1⟩ := hu1
    obtain ⟨q2, e2, h2⟩ := hu2
    subst e1; subst e2
    have elk : (stp n s i).lk = s.lk ++ [(i, l)] := by unfold stp; rw [hd]; rfl
    have hq2 : H2 q = some (.tup (natV l)) := tupB h1
    refine ⟨⟨natD l, dp_nat h2, dp_nat hq2, lay_nat l⟩, .inr ⟨q, rfl, D2.at_, D2.len, ?_⟩⟩
    have dA2 : d ∉ A'.mut := fun h => by
      obtain ⟨xs, e⟩ := W2.any h
      rw [D2.at_] at e; cases e
    refine ⟨hp2.trans T.hp, hst.trans T.hst, L2'.keepOn (fun a ha o e => uk (fun z => dB2 (z ▸ ha)) e) (fun a o e g1 g2 => uk (fun z => by rw [z, D2.at_] at e; exact g2 _ (Option.some.inj e).symm) e), W2.keep (fun a ha o e => uk (fun z => dA2 (z ▸ ha)) e), uk dc.symm hc2, by rw [elk]; exact D2.put hq2 hk, I2, cA1, cB2, dB2, AB2, fr2, fun a o e => uk (fun z => by rw [T.fr a (.inr (.inr (.inr z)))] at e; cases e) (s02 a o e)⟩
/-- _law_finish(levels, state, cells, looks, size) -/
def spLFinish (C : Addr) : Sp := fun vs H Q _ => ∃ (H0 : Hp) (p st c d : Addr) (n : Nat) (s : Ls) (B : LA) (A : LS) (la : List Addr), vs = [.ref p, .ref st, .ref c, .ref d, .int n] ∧ Both C n H0 H p st c d s B A la ∧ n ≤ 6 ∧ ∀ H', Same H0 H' → Q (.bl true) H'
section
variable {w : World} {K : PySem.W.Frag} {mg : Str → Option Value} {base : Heap}
theorem scLFinish : FnScope ["_law_levels", "_law_state", "_law_cells", "_law_looks", "_law_size", "_law_turn", "_law_name", "_law_due"] ["_law_levels", "_law_state", "_law_cells", "_law_looks", "_law_size"] (defScope lFinish) := ⟨rfl, rfl, rfl, by decide +kernel, rfl, by decide +kernel, by decide +kernel⟩
theorem ok_lFinish {f fT fR fM C CB CN : Addr} {fd fdT fdR fdM : FuncData} (F : Fun K "_law_finish" "_law_finish" lFinish f fd) (FT : Fun K "_law_step" "_law_step" lStep fT fdT) (gT : mg "_law_step" = some (.ref fT)) (bT : Binds K fdT ["_law_state", "_law_cells", "_law_name"] [])
    (FR : Fun K "_law_looks_right" "_law_looks_right" lRight fR fdR) (gR : mg "_law_looks_right" = some (.ref fR)) (bR : Binds K fdR ["_law_looks", "_law_state", "_law_size"] []) (GR : FnOk PR w K mg base CX0 2 fR fdR ["_law_looks", "_law_state", "_law_size"] spLRight)
    (FM : Fun K "_law_same" "_law_same" lSame fM fdM) (gM : mg "_law_same" = some (.ref fM)) (bM : Binds K fdM ["_law_levels", "_law_state", "_law_looks", "_law_size"] []) (GM : FnOk PR w K mg base CX0 5 fM fdM ["_law_levels", "_law_state", "_law_looks", "_law_size"] (spLSame C))
    (TL : LevCl w K mg base C CB CN) (T : Blt mg) : FnOk PR w K mg base CX0 6 f fd ["_law_levels", "_law_state", "_law_cells", "_law_looks", "_law_size"] (spLFinish C) := by
  have GT : FnOk PR w K mg base CX0 1 fT fdT ["_law_state", "_law_cells", "_law_name"] spLStep := ok_lStep FT T
  obtain ⟨fS, fdS, mS, bS, GS⟩ := TL.step
  refine F.ok scLFinish (fun vs H Q E h => ?_) (fun cdv A outer s H vs Q E hr h => ?_)
  · obtain ⟨H0, p, st, c, d, n, s, B, A, la, rfl, _⟩ := h
    rfl
  · obtain ⟨H0, p, st, c, d, n, s0, B, A2, la, rfl, T0, h6, k⟩ := h
    have hu := hu_of hr
    have hr1 : Room 1 _ := hr.mono (by decide)
    have hr2 : Room 2 _ := hr.mono (by decide)
    have hr3 : Room 3 _ := hr.mono (by decide)
    have hr5 : Room 5 _ := hr.mono (by decide)
    refine ⟨_, (pss_cons (ps_for PassesOwn.never rfl (pi_range1 (by rfl) T.range (pa_cons (pe_op op_mul (pv 4) (pe_op op_add (pv 4) pe_int)) pa_nil)) (pg_name (i := 5) scLFinish.nd rfl (Or.inl rfl)) (pss_one (ps_for PassesOwn.never rfl (pi_range1 (by rfl) T.range (pa_cons (pv 4) pa_nil)) (pg_name (i := 6) scLFinish.nd rfl (Or.inl rfl)) (pss_one (ps_if (pt_cmp (pc_dnotin hu (pv 6) (pv 3))) (pss_cons (ps_set (i := 7) scLFinish.nd rfl (Or.inl rfl) (pe_call GT hr1 rfl gT FT.kp bT .nil pass0 (pa_cons (pv 1) (pa_cons (pv 2) (pa_cons (pv 6) pa_nil)))))
 (pss_cons (ps_if (pt_cmpR (op_neD hr.units) (pe_meth (pv 0) TL.tc.cl mS GS hr3 bS .nil passL (pa_cons (pv 6) pa_nil)) (pv 7) (nomark _)) (pss_one (ps_ret pe_bl)) pss_nil)
 (pss_one (ps_if (pt_cmp (pc_notN (pv 7))) (pss_one (ps_dput hu (pv 3) (pv 6) (pv 7) rfl)) pss_nil)))) pss_nil)))))
 (pss_one (ps_ret (pe_and (pe_cmpR op_eq (pe_callB call_lenD (by rfl) T.len b_len (pa_cons (pv 3) pa_nil)) (pv 4) (nomark _)) (pe_and (pe_call GR hr2 rfl gR FR.kp bR .nil pass0 (pa_cons (pv 3) (pa_cons (pv 1) (pa_cons (pv 4) pa_nil)))) (pe_one (pe_call GM hr5 rfl gM FM.kp bM .nil pass0 (pa_cons (pv 0) (pa_cons (pv 1) (pa_cons (pv 3) (pa_cons (pv 4) pa_nil))))))))))), ?_⟩
    have hn1 := T0.I.n1
    have e42 : ((n : Int) * ((n : Int) + 1)).toNat = n * (n + 1) := by
      have : (n : Int) * ((n : Int) + 1) = ((n * (n + 1) : Nat) : Int) := by rw [Int.natCast_mul]; rfl
      rw [this, Int.toNat_natCast]
    have b42 : n * (n + 1) ≤ 42 := by
      have := Nat.mul_le_mul h6 (show n + 1 ≤ 7 by omega)
      omega
    have i42 : (n : Int) * ((n : Int) + 1) = ((n * (n + 1) : Nat) : Int) := by rw [Int.natCast_mul]; rfl
    refine ⟨_, rfl, _, rfl, _, _, rfl, rfl, _, _, rfl, rfl, .inl ⟨by omega, by omega⟩, (n : Int) * ((n : Int) + 1), rfl, by omega, by omega, ?_⟩
    rw [e42]
    refine for_range (n := n * (n + 1)) (fun i σ H' => ∃ z5 z6 z7 B A la, σ = [some (.ref p), some (.ref st), some (.ref c), some (.ref d), some (.int n), z5, z6, z7] ∧ Both C n H0 H' p st c d (rnds n i s0) B A la) ⟨none, none, none, B, A2, la, rfl, T0⟩ ?_ ?_
    · rintro i σ H1 hi ⟨z5, z6, z7, B, A2, la, rfl, T1⟩
      refine ⟨_, rfl, n, rfl, by omega, by omega, for_range (n := n) (fun j σ H' => ∃ z6 z7 B A la, σ = [some (.ref p), some (.ref st), some (.ref c), some (.ref d), some (.int n), some (.int ((0 : Int) + i)), z6, z7] ∧ Both C n H0 H' p st c d ((List.range j).foldl (go n) (rnds n i s0)) B A la) ⟨z6, z7, B, A2, la, rfl, T1⟩ ?_ ?_⟩
      · rintro j σ H2 hj ⟨z6, z7, B, A2, la, rfl, T2⟩
        have eg : (List.range (j + 1)).foldl (go n) (rnds n i s0) = go n ((List.range j).foldl (go n) (rnds n i s0)) j := by rw [List.range_succ, List.foldl_append]; rfl
        rw [eg]
        generalize (List.range j).foldl (go n) (rnds n i s0) = sj at T2 ⊢
        refine ⟨_, rfl, _, rfl, d, _, rfl, DGet.k (k := Sum.inl ((0 : Int) + j)) T2.D.at_, _, rfl, ?_⟩
        rw [show ((0 : Int) + (j : Int)) = (j : Int) from Int.zero_add _, dictV_has T2.I.nd T2.D.len j]
        by_cases hk : j ∈ keys sj
        · rw [show decide (j ∈ List.map (fun x => x.fst) sj.lk) = true from decide_eq_true hk]
          refine iteF ?_
          have : go n sj j = sj := if_pos hk
          rw [this]
          exact ⟨_, _, _, _, _, rfl, T2⟩
        · rw [show decide (j ∈ List.map (fun x => x.fst) sj.lk) = false from decide_eq_false hk]
          refine iteT ?_
          have es : go n sj j = stp n sj j := if_neg hk
          rw [es]
          obtain ⟨rfl, rfl⟩ : B.p = p ∧ A2.st = st := ⟨T2.hp, T2.hst⟩
          refine ⟨_, rfl, _, rfl, _, rfl, A2, c, n, sj, j, rfl, T2.W, T2.hc, T2.cA, T2.I, h6, hj, fun H3 A3 u1 x1 x2 x3 x4 x5 x6 x7 => ?_⟩
          obtain ⟨L3, s03, fin⟩ := T2.after (K := K) hj hk x1 x2 x3 x4 x5 x6 x7
          refine ⟨_, rfl, B.p, B.dx, _, rfl, L3.ob, flds_step n B, _, rfl, B, n, sj, .int (j : Int), rfl, L3, T2.I, h6, .int _, fun hg => ?_, fun j' e _ hk' => ?_, fun j' e _ _ H4 B4 u2 y1 y2 y3 y4 y5 => ?_⟩
          · rw [nameOk_lt hj] at hg; cases hg
          · injection e with e
            have : j' = j := by omega
            subst this
            exact absurd hk' hk
          · injection e with e
            have : j' = j := by omega
            subst this
            obtain ⟨⟨dd, g1, g2, g3⟩, g4⟩ := fin H4 B4 u2 y1 y2 y3 y4 y5
            refine ⟨_, rfl, ne_same g1 g2 g3 (by decide) ⟨_, rfl, iteF ?_⟩⟩
            rcases g4 with ⟨rfl, T4⟩ | ⟨q, rfl, e1, e2, T4⟩
            · refine ⟨_, rfl, _, rfl, ?_⟩
              exact iteF ⟨_, _, _, _, _, rfl, T4⟩
            · refine ⟨_, rfl, _, rfl, ?_⟩
              exact iteT ⟨_, rfl, _, rfl, _, rfl, d, _, rfl, DPut.k (k := Sum.inl (j' : Int)) e1 (by rw [dictV_len e2]; exact small (keys_len T2.I)), ⟨_, _, _, _, _, rfl, T4⟩⟩
      · rintro σ H2 ⟨z6, z7, B, A2, la, rfl, T2⟩
        exact ⟨_, _, _, _, _, _, rfl, T2⟩
    · rintro σ H1 ⟨z5, z6, z7, B, A2, la, rfl, T1⟩
      have al := all_left T0.I
      generalize rnds n (n * (n + 1)) s0 = sf at T1 al
      obtain ⟨rfl, rfl⟩ : B.p = p ∧ A2.st = st := ⟨T1.hp, T1.hst⟩
      refine ⟨_, rfl, d, _, rfl, T1.D.at_, _, rfl, rfl, _, rfl, ?_⟩
      rw [dictV_len T1.D.len, al, dec_int]
      rw [beq_self_eq_true]
      refine iteT ?_
      refine ⟨_, rfl, _, rfl, _, rfl, A2, d, la, n, sf, rfl, T1.D, T1.W, T1.I, h6, fun H2 s2 => ⟨_, rfl, ?_⟩⟩
      refine iteT ?_
      have T2 := T1.later s2
      exact ⟨_, rfl, _, rfl, _, rfl, _, rfl, B, A2, d, la, n, sf, rfl, T2.L, T2.W, T2.D, T2.I, h6, fun H3 s3 => k H3 (T2.same.trans s3)⟩
end
end K07
/-! _law_walked. -/
namespace K07
open PySem PySem.Spec PyProof.Rows L2
theorem dp_run {K : PySem.W.Frag} {H : Hp} {w r : Addr} {l : List Nat} {d : PyData} {q : Addr} (hq : H q = some (.tup [.ref w, .ref r])) (hw : H w = some (.tup (natV l))) (hr : Dp K H (.ref r) d) : Dp K H (.ref q) (.tuple [natD l, d]) :=
  .tup (SqT.of hq) (.cons (dp_nat hw) (.cons hr .nil))
def rowD (r : Nat × List Nat) : PyData := .tuple [.int (r.1 : Int), natD r.2]
theorem lay_row (r : Nat × List Nat) : (rowD r).canLay0 = true ∧ (rowD r).depth ≤ 2 := lay_tup (k := 1) fun d hd => by
  rcases List.mem_cons.mp hd with e | hd
  · rw [e]; exact ⟨(lay_int _).1, by have := (lay_int (r.1 : Int)).2; omega⟩
  · rw [List.mem_singleton.mp hd]; exact lay_nat _
theorem dp_refs {K : PySem.W.Frag} {H : Hp} : ∀ {as : List Addr} {ds : List PyData}, as.length = ds.length → (∀ (j : Nat) a d, as[j]? = some a → ds[j]? = some d → Dp K H (.ref a) d) → DpAll K H (as.map V.ref) ds
  | [], [], _, _ => .nil
  | [], _ :: _, h, _ => by cases h
  | _ :: _, [], h, _ => by cases h
  | a :: as, d :: ds, h, k => .cons (k 0 a d rfl rfl) (dp_refs (by simpa using h) fun j x y h1 h2 => k (j + 1) x y h1 h2)
theorem dp_rows {K : PySem.W.Frag} {H : Hp} {r : Addr} {rows : List (Nat × List Nat)} {as bs : List Addr} (hr : H r = some (.tup (as.map V.ref))) (l1 : as.length = rows.length) (l2 : bs.length = rows.length)
    (h : ∀ (j i : Nat) (l : List Nat) (a b : Addr), rows[j]? = some (i, l) → as[j]? = some a → bs[j]? = some b → H a = some (.tup [.int i, .ref b]) ∧ H b = some (.tup (natV l))) : Dp K H (.ref r) (.tuple (rows.map rowD)) := by
  refine .tup (SqT.of hr) (dp_refs (by rw [List.length_map]; exact l1) fun j a d h1 h2 => ?_)
  rw [List.getElem?_map] at h2
  obtain ⟨row, hrow, e⟩ := Option.map_eq_some_iff.mp h2
  have hj := (List.getElem?_eq_some_iff.mp h1).1
  have hb : bs[j]? = some bs[j] := List.getElem?_eq_getElem (by omega)
  obtain ⟨e1, e2⟩ := h j row.1 row.2 a bs[j] hrow h1 hb
  rw [← e]
  exact .tup (SqT.of e1) (.cons (.int _) (.cons (dp_nat e2) .nil))
theorem lay_rows (rows : List (Nat × List Nat)) : (PyData.tuple (rows.map rowD)).canLay0 = true ∧ (PyData.tuple (rows.map rowD)).depth ≤ 3 := lay_tup fun d hd => by
  obtain ⟨r, _, rfl⟩ := List.mem_map.mp hd
  exact lay_row r
theorem lay_run (l : List Nat) (rows : List (Nat × List Nat)) : (PyData.tuple [natD l, .tuple (rows.map rowD)]).canLay0 = true ∧ (PyData.tuple [natD l, .tuple (rows.map rowD)]).depth ≤ 4 := lay_tup (k := 3) fun d hd => by
  rcases List.mem_cons.mp hd with e | hd
  · rw [e]; exact ⟨(lay_nat l).1, by have := (lay_nat l).2; omega⟩
  · rw [List.mem_singleton.mp hd]; exact lay_rows _
theorem dp_blk {K : PySem.W.Frag} {H : Hp} {v : V} {bs : List (List Nat)} (h : BlkV H v bs) : Dp K H v (.tuple (bs.map natD)) := by
  obtain ⟨q, as, rfl, hq, h1, h2⟩ := h
  refine .tup (SqT.of hq) (dp_refs (by rw [List.length_map]; exact h1) fun j a d e1 e2 => ?_)
  rw [List.getElem?_map] at e2
  obtain ⟨b, hb, e⟩ := Option.map_eq_some_iff.mp e2
  rw [← e]
  exact dp_nat (h2 j b a hb e1)
theorem lay_blk (bs : List (List Nat)) : (PyData.tuple (bs.map natD)).canLay0 = true ∧ (PyData.tuple (bs.map natD)).depth ≤ 2 := lay_tup fun d hd => by
  obtain ⟨r, _, rfl⟩ := List.mem_map.mp hd
  exact lay_nat r
theorem dp_lst {K : PySem.W.Frag} {H : Hp} {a : Addr} {l : List Nat} (h : H a = some (.lst (natV l))) : Dp K H (.ref a) (.list (l.map fun (j : Nat) => .int (j : Int))) := .lst (SqL.of h) (dp_natV l)
theorem lay_natL (l : List Nat) : (PyData.list (l.map fun (j : Nat) => .int (j : Int))).canLay0 = true ∧ (PyData.list (l.map fun (j : Nat) => .int (j : Int))).depth ≤ 1 := lay_lst fun d hd => by
  obtain ⟨j, _, rfl⟩ := List.mem_map.mp hd
  exact lay_int _
theorem lay_pair (z : Str) (hz : PyData.strOk z = true) (i : Int) : (PyData.tuple [.str z, .int i]).canLay0 = true ∧ (PyData.tuple [.str z, .int i]).depth ≤ 1 := lay_tup (k := 0) fun d hd => by
  rcases List.mem_cons.mp hd with e | hd
  · rw [e]; exact ⟨by simp [PyData.canLay0, hz], by simp [PyData.depth]⟩
  · rw [List.mem_singleton.mp hd]; exact lay_int _
theorem name_ok : PyData.strOk ("name" : Str) = true := by decide +kernel
theorem lows_init (n : Nat) : lowsV (init n).ps = List.replicate n (V.int ((n : Int) + 1)) := by
  unfold lowsV init
  rw [List.map_replicate]
  rfl
theorem head_mk {C CB : Addr} {rest : TS} {D : Ends} {σ : L2.St} {H : Hp} {n j : Nat} (h0 : σ[0]? = some (some (.int (n : Int)))) (h1 : 1 ≤ n) (h6 : n ≤ 6)
    (k : ∀ H1 B, LevAt C n H1 B (init n) → Same H H1 → (∀ a ∈ B.mut, H a = none) → H B.p = none → rest D (σ.set j (some (.ref B.p))) H1) : tSeq (tAsg (tMake C (spInit C CB) [] E0 (tCons (tVar 0) tNil)) (gName j)) rest D σ H := by
  refine ⟨_, h0, fun x dx hx hd hne => make_ok (Q := fun r H1 => rest D (σ.set j (some r)) H1) (.int _) (fun hg => ?_) (fun m e _ _ H1 B L s1 hf hp => ?_) x dx hx hd hne⟩
  · rw [show goodL (V.int (n : Int)) = true from decide_eq_true (by omega)] at hg
    cases hg
  · have : m = n := by injection e with e; omega
    subst this
    exact k H1 B L s1 hf hp
/-- a heap with some addresses left out -/
def hide (l : List Addr) (H : Hp) : Hp := fun a => if a ∈ l then none else H a
theorem hide_in {l : List Addr} {H : Hp} {a : Addr} (h : a ∈ l) : hide l H a = none := if_pos h
theorem hide_out {l : List Addr} {H : Hp} {a : Addr} (h : a ∉ l) : hide l H a = H a := if_neg h
theorem hide_same (l : List Addr) (H : Hp) : Same (hide l H) H := fun b o e => by
  by_cases h : b ∈ l
  · rw [hide_in h] at e; cases e
  · rw [hide_out h] at e; exact e
theorem block_len {n : Nat} {s : Ls} (I : Inv n s) : ∀ b ∈ blocksL n s, b.length ≤ n := fun b hb => by
  have wl : (wroteL n s).length ≤ n := by
    unfold wroteL
    refine Nat.le_trans (List.length_filter_le _ _) ?_
    rw [List.length_range]; exact Nat.le_refl _
  unfold blocksL at hb
  rcases List.mem_append.mp hb with h | h
  · obtain ⟨k, hk⟩ := List.mem_iff_getElem?.mp h
    obtain ⟨l, hl, e⟩ := blks_at _ _ _ _ hk
    obtain ⟨i, hi⟩ := (mem_chain I).mp (List.mem_of_getElem? hl)
    have := (look_law I hi).2.2.2.2.2.1
    rw [e]
    exact Nat.le_trans (List.length_filter_le _ _) this
  · by_cases hr : restL n s = []
    · rw [if_pos hr] at h; cases h
    · rw [if_neg hr] at h
      rw [List.mem_singleton.mp h]
      exact Nat.le_trans (List.length_filter_le _ _) wl
theorem blocks_len {n : Nat} (h6 : n ≤ 6) {s : Ls} : (blocksL n s).length ≤ 8 := by
  unfold blocksL
  rw [List.length_append, blks_len]
  have := chain_len (s := s) 6 h6
  by_cases hr : restL n s = []
  · rw [if_pos hr]; simp; omega
  · rw [if_neg hr]; simp; omega
theorem flat_len : ∀ (bs : List (List Nat)), (∀ b ∈ bs, b.length ≤ 6) → bs.flatten.length ≤ 6 * bs.length
  | [], _ => Nat.le_refl _
  | b :: bs, h => by
    rw [List.flatten_cons, List.length_append, List.length_cons]
    have h1 := h b List.mem_cons_self
    have h2 := flat_len bs fun c hc => h c (List.mem_cons_of_mem _ hc)
    omega
/-- _law_walked(size, schedule) -/
def spLWalked : Sp := fun vs H Q _ => ∃ (n : Nat) (r : Addr) (sc : List Nat), vs = [.int n, .ref r] ∧ 1 ≤ n ∧ n ≤ 6 ∧ H r = some (.lst (natV sc)) ∧ (∀ i ∈ sc, i < n) ∧ sc.length ≤ 60 ∧ ∀ H', Same H H' → Q (.bl true) H'
/-- what the law's own defs keep -/
structure LawFs (w : World) (K : PySem.W.Frag) (mg : Str → Option Value) (base : Heap) (C CB CN : Addr) : Prop where
  N : ∃ f fd, Fun K "_law_new" "_law_new" lNew f fd ∧ mg "_law_new" = some (.ref f) ∧ Binds K fd ["_law_size"] [] ∧ FnOk PR w K mg base CX0 1 f fd ["_law_size"] spLNew
  F : ∃ f fd, Fun K "_law_refused" "_law_refused" lRefused f fd ∧ mg "_law_refused" = some (.ref f) ∧ Binds K fd ["_law_word", "_law_one", "_law_other"] [] ∧ FnOk PR w K mg base CX0 8 f fd ["_law_word", "_law_one", "_law_other"] (spLRefused C)
  T : ∃ f fd, Fun K "_law_step" "_law_step" lStep f fd ∧ mg "_law_step" = some (.ref f) ∧ Binds K fd ["_law_state", "_law_cells", "_law_name"] [] ∧ FnOk PR w K mg base CX0 1 f fd ["_law_state", "_law_cells", "_law_name"] spLStep
  M : ∃ f fd, Fun K "_law_same" "_law_same" lSame f fd ∧ mg "_law_same" = some (.ref f) ∧ Binds K fd ["_law_levels", "_law_state", "_law_looks", "_law_size"] [] ∧ FnOk PR w K mg base CX0 5 f fd ["_law_levels", "_law_state", "_law_looks", "_law_size"] (spLSame C)
  R : ∃ f fd, Fun K "_law_looks_right" "_law_looks_right" lRight f fd ∧ mg "_law_looks_right" = some (.ref f) ∧ Binds K fd ["_law_looks", "_law_state", "_law_size"] [] ∧ FnOk PR w K mg base CX0 2 f fd ["_law_looks", "_law_state", "_law_size"] spLRight
  U : ∃ f fd, Fun K "levels_run" "levels_run" sRun f fd ∧ mg "levels_run" = some (.ref f) ∧ Binds K fd ["size", "schedule"] [] ∧ FnOk PR w K mg base (L2.CX PR w) 6 f fd ["size", "schedule"] (spRun CB CN)
  V : ∃ f fd, Fun K "levels_blocks" "levels_blocks" sBlocks f fd ∧ mg "levels_blocks" = some (.ref f) ∧ Binds K fd ["size", "schedule"] [] ∧ FnOk PR w K mg base (L2.CX PR w) 7 f fd ["size", "schedule"] (spBlocks CB CN)
  D : ∃ f fd, Fun K "_law_blocks_due" "_law_blocks_due" lDue f fd ∧ mg "_law_blocks_due" = some (.ref f) ∧ Binds K fd ["_law_looks", "_law_wrote"] [] ∧ FnOk PR w K mg base CX0 1 f fd ["_law_looks", "_law_wrote"] spLDue
  W : ∃ f fd, Fun K "_law_finish" "_law_finish" lFinish f fd ∧ mg "_law_finish" = some (.ref f) ∧ Binds K fd ["_law_levels", "_law_state", "_law_cells", "_law_looks", "_law_size"] [] ∧ FnOk PR w K mg base CX0 6 f fd ["_law_levels", "_law_state", "_law_cells", "_law_looks", "_law_size"] (spLFinish C)
section
variable {w : World} {K : PySem.W.Frag} {mg : Str → Option Value} {base : Heap}
theorem scLWalked : FnScope ["_law_size", "_law_schedule_here", "_law_levels", "_law_other", "_law_state", "_law_cells", "_law_looks", "_law_name", "_law_due", "_law_wrote", "_law_kept", "_law_told", "_law_blocks", "_law_k", "_law_ahead", "_law_block"] ["_law_size", "_law_schedule_here"] (defScope lWalked) := ⟨rfl, rfl, rfl, by decide +kernel, rfl, by decide +kernel, by decide +kernel⟩
theorem ok_lWalked {f C CB CN : Addr} {fd : FuncData} (F : Fun K "_law_walked" "_law_walked" lWalked f fd) (LF : LawFs w K mg base C CB CN) (TL : LevCl w K mg base C CB CN) (T : Blt mg) : FnOk PR w K mg base CX0 9 f fd ["_law_size", "_law_schedule_here"] spLWalked := by
  obtain ⟨fI, fdI, mI, bI, GI⟩ := TL.make
  obtain ⟨fS, fdS, mS, bS, GS⟩ := TL.step
  obtain ⟨fN, fdN, FN, gN, bN, GN⟩ := LF.N
  obtain ⟨fF, fdF, FF, gF, bF, GF⟩ := LF.F
  obtain ⟨fT, fdT, FT, gT, bT, GT⟩ := LF.T
  obtain ⟨fM, fdM, FM, gM, bM, GM⟩ := LF.M
  obtain ⟨fR, fdR, FR, gR, bR, GR⟩ := LF.R
  obtain ⟨fU, fdU, FU, gU, bU, GU⟩ := LF.U
  obtain ⟨fV, fdV, FV, gV, bV, GV⟩ := LF.V
  obtain ⟨fD, fdD, FD, gD, bD, GD⟩ := LF.D
  obtain ⟨fW, fdW, FW, gW, bW, GW⟩ := LF.W
  refine F.ok scLWalked (fun vs H Q E h => ?_) (fun cdv A outer s H vs Q E hr h => ?_)
  · obtain ⟨n, r, sc, rfl, _⟩ := h
    rfl
  · obtain ⟨n, r, sc, rfl, h1, h6, hsr, hsc, hsl, k⟩ := h
    have hu := hu_of hr
    have hr1 : Room 1 _ := hr.mono (by decide)
    have hr2 : Room 2 _ := hr.mono (by decide)
    have hr3 : Room 3 _ := hr.mono (by decide)
    have hr5 : Room 5 _ := hr.mono (by decide)
    have hr6 : Room 6 _ := hr.mono (by decide)
    have hr7 : Room 7 _ := hr.mono (by decide)
    have hr8 : Room 8 _ := hr.mono (by decide)
    refine ⟨_, (pss_cons (ps_set (i := 2) scLWalked.nd rfl (Or.inl rfl) (pe_make mI GI hr5 rfl TL.gC bI .nil passL (pa_cons (pv 0) pa_nil)))
 (pss_cons (ps_set (i := 3) scLWalked.nd rfl (Or.inl rfl) (pe_make mI GI hr5 rfl TL.gC bI .nil passL (pa_cons (pv 0) pa_nil)))
 (pss_cons (ps_set (i := 4) scLWalked.nd rfl (Or.inr rfl) (pe_call GN hr1 rfl gN FN.kp bN .nil pass0 (pa_cons (pv 0) pa_nil)))
 (pss_cons (ps_setLc (i := 5) (own := [("_law_name", 7)]) (g := gName 7) (tt := tYes) (te := tOp (rI0 fun i j => .int (i + j)) (tVar 0) (tC (.int 1))) rfl scLWalked.nd rfl rfl (by rfl) (pi_range1 (by rfl) T.range (pa_cons (pv 0) pa_nil)) (blkOk_by (own := [("_law_name", 7)]) (N := ["_law_size", "_law_schedule_here", "_law_levels", "_law_other", "_law_state", "_law_cells", "_law_looks", "_law_name", "_law_due", "_law_wrote", "_law_kept", "_law_told", "_law_blocks", "_law_k", "_law_ahead", "_law_block"]) (sc := defScope lWalked) (by decide +kernel)) (fun _ _ _ _ _ => (pg_name (i := 7) scLWalked.nd rfl (Or.inl rfl))) (fun _ _ _ _ _ => pts_nil) (fun _ _ _ _ _ => (pe_op op_add (pv 0) pe_int)))
 (pss_cons (ps_set (i := 6) scLWalked.nd rfl (Or.inr rfl) pe_dnewK)
 (pss_cons (ps_for PassesOwn.never rfl (pi_list (pv 1)) (pg_name (i := 7) scLWalked.nd rfl (Or.inl rfl)) (pss_cons (ps_if (pt_cmp (pc_din hu (pv 7) (pv 6))) (pss_one (ps_if (pt_cmpR (op_neD hr.units) (pe_call GF hr8 rfl gF FF.kp bF .nil pass0 (pa_cons pe_str (pa_cons (pv 2) (pa_cons (pv 7) pa_nil)))) (pe_tup (pa_cons pe_str (pa_cons (pv 7) pa_nil))) (nomark _)) (pss_one (ps_ret pe_bl)) pss_nil)) (pss_cons (ps_set (i := 8) scLWalked.nd rfl (Or.inl rfl) (pe_call GT hr1 rfl gT FT.kp bT .nil pass0 (pa_cons (pv 4) (pa_cons (pv 5) (pa_cons (pv 7) pa_nil)))))
 (pss_cons (ps_if (pt_cmpR (op_neD hr.units) (pe_meth (pv 2) TL.tc.cl mS GS hr3 bS .nil passL (pa_cons (pv 7) pa_nil)) (pv 8) (nomark _)) (pss_one (ps_ret pe_bl)) pss_nil)
 (pss_one (ps_if (pt_cmp (pc_notN (pv 8))) (pss_one (ps_dput hu (pv 6) (pv 7) (pv 8) rfl)) pss_nil)))))
 (pss_one (ps_if (pt_not (pt_val (pe_call GM hr5 rfl gM FM.kp bM .nil pass0 (pa_cons (pv 2) (pa_cons (pv 4) (pa_cons (pv 6) (pa_cons (pv 0) pa_nil))))))) (pss_one (ps_ret pe_bl)) pss_nil))))
 (pss_cons (ps_if (PW.pt (pw_or (pt_not (pt_val (pe_call GM hr5 rfl gM FM.kp bM .nil pass0 (pa_cons (pv 3) (pa_cons (pe_call GN hr1 rfl gN FN.kp bN .nil pass0 (pa_cons (pv 0) pa_nil)) (pa_cons pe_dnewK (pa_cons (pv 0) pa_nil))))))) (pw_or1 (pt_not (pt_val (pe_call GR hr2 rfl gR FR.kp bR .nil pass0 (pa_cons (pv 6) (pa_cons (pv 4) (pa_cons (pv 0) pa_nil))))))))) (pss_one (ps_ret pe_bl)) pss_nil)
 (pss_cons (ps_set (i := 9) scLWalked.nd rfl (Or.inl rfl) (pe_callTy call_tuple_of (by rfl) T.tuple b_tuple (pa_cons (pe_lc (own := [("_law_name", 7)]) (g := gName 7) (tt := tTest (tOp (rI0 fun i j => .bl (decide (j < i))) (tOp (rIxL K) (tOp (rIxL K) (tVar 4) (tVar 7)) (tC (.int 1))) (tC (.int 0)))) (te := tVar 7) rfl scLWalked.nd (pi_range1 (by rfl) T.range (pa_cons (pv 0) pa_nil)) (blkOk_by (own := [("_law_name", 7)]) (N := ["_law_size", "_law_schedule_here", "_law_levels", "_law_other", "_law_state", "_law_cells", "_law_looks", "_law_name", "_law_due", "_law_wrote", "_law_kept", "_law_told", "_law_blocks", "_law_k", "_law_ahead", "_law_block"]) (sc := defScope lWalked) (by decide +kernel)) (fun _ _ _ _ _ => (pg_name (i := 7) scLWalked.nd rfl (Or.inl rfl))) (fun _ _ _ _ _ => pts_one (pt_cmpR op_gt (pe_ix ix_list (pe_ix ix_list (pv 4) (pv 7) (fun _ _ => rfl)) pe_int (fun _ _ => rfl)) pe_int (nomark _))) (fun _ _ _ _ _ => (pv 7))) pa_nil)))
 (pss_cons (ps_set (i := 10) scLWalked.nd rfl (Or.inl rfl) (pe_callTy call_list_of (by rfl) T.list b_list (pa_cons (pv 1) pa_nil)))
 (pss_cons (ps_set (i := 11) scLWalked.nd rfl (Or.inl rfl) (pe_call GU hr6 rfl gU FU.kp bU .nil passL (pa_cons (pv 0) (pa_cons (pv 1) pa_nil))))
 (pss_cons (ps_if (PW.pt (pw_or (pt_cmpR (op_neD hr.units) (pv 11) (pe_tup (pa_cons (pv 9) (pa_cons (pe_callTy call_tuple_of (by rfl) T.tuple b_tuple (pa_cons (pe_lc (own := [("_law_name", 7)]) (g := gName 7) (tt := tYes) (te := tTup (tCons (tVar 7) (tCons (tDGet (tVar 6) (tVar 7)) tNil))) rfl scLWalked.nd (pi_list (pe_callB cr_sorted (by rfl) T.sorted b_sorted (pa_cons (pe_callTy (call_list_dK rfl) (by rfl) T.list b_list (pa_cons (pv 6) pa_nil)) pa_nil))) (blkOk_by (own := [("_law_name", 7)]) (N := ["_law_size", "_law_schedule_here", "_law_levels", "_law_other", "_law_state", "_law_cells", "_law_looks", "_law_name", "_law_due", "_law_wrote", "_law_kept", "_law_told", "_law_blocks", "_law_k", "_law_ahead", "_law_block"]) (sc := defScope lWalked) (by decide +kernel)) (fun _ _ _ _ _ => (pg_name (i := 7) scLWalked.nd rfl (Or.inl rfl))) (fun _ _ _ _ _ => pts_nil) (fun _ _ _ _ _ => (pe_tup (pa_cons (pv 7) (pa_cons (pe_dget hu (pv 6) (pv 7) (fun _ _ => rfl)) pa_nil))))) pa_nil)) pa_nil))) (nomark _)) (pw_or1 (pt_cmpR (op_neD hr.units) (pv 1) (pv 10) (nomark _))))) (pss_one (ps_ret pe_bl)) pss_nil)
 (pss_cons (ps_set (i := 12) scLWalked.nd rfl (Or.inl rfl) (pe_call GV hr7 rfl gV FV.kp bV .nil passL (pa_cons (pv 0) (pa_cons (pe_callTy call_tuple_of (by rfl) T.tuple b_tuple (pa_cons (pv 1) pa_nil)) pa_nil))))
 (pss_cons (ps_if (pt_cmpR (op_neD hr.units) (pv 12) (pe_call GD hr1 rfl gD FD.kp bD .nil pass0 (pa_cons (pv 6) (pa_cons (pv 9) pa_nil))) (nomark _)) (pss_one (ps_ret pe_bl)) pss_nil)
 (pss_cons (ps_for PassesOwn.never rfl (pi_range1 (by rfl) T.range (pa_cons (pe_callB call_len (by rfl) T.len b_len (pa_cons (pv 12) pa_nil)) pa_nil)) (pg_name (i := 13) scLWalked.nd rfl (Or.inl rfl)) (pss_cons (ps_set (i := 14) scLWalked.nd rfl (Or.inl rfl) (pe_lst pa_nil))
 (pss_cons (ps_for PassesOwn.never rfl (pi_tup (pe_slice sl_tupA (pv 12) po_none (po_some (pe_op op_add (pv 13) pe_int)))) (pg_name (i := 15) scLWalked.nd rfl (Or.inl rfl)) (pss_one (ps_set (i := 14) scLWalked.nd rfl (Or.inl rfl) (pe_op op_cat (pv 14) (pe_callTy call_list_of (by rfl) T.list b_list (pa_cons (pv 15) pa_nil))))))
 (pss_one (ps_for PassesOwn.never rfl (pi_tup (pe_ix ix_tup (pv 12) (pv 13) (fun _ _ => rfl))) (pg_name (i := 7) scLWalked.nd rfl (Or.inl rfl)) (pss_one (ps_if (PW.pt (pw_and (pt_cmp (pc_din hu (pv 7) (pv 6))) (pw_and1 (pt_cmpR (op_neD hr.units) (pe_dget hu (pv 6) (pv 7) (fun _ _ => rfl)) (pe_callTy call_tuple_of (by rfl) T.tuple b_tuple (pa_cons (pe_callB cr_sorted (by rfl) T.sorted b_sorted (pa_cons (pv 14) pa_nil)) pa_nil)) (nomark _))))) (pss_one (ps_ret pe_bl)) pss_nil)))))))
 (pss_one (ps_ret (pe_call GW hr6 rfl gW FW.kp bW .nil pass0 (pa_cons (pv 2) (pa_cons (pv 4) (pa_cons (pv 5) (pa_cons (pv 6) (pa_cons (pv 0) pa_nil)))))))))))))))))))))), ?_⟩
    refine head_mk rfl h1 h6 fun H1 B LB s1 fB hBp => ?_
    refine head_mk rfl h1 h6 fun H2 Bo LO s2 fO hOp => ?_
    refine ⟨_, rfl, n, rfl, h1, h6, fun H3 A s3 WA fA => ?_⟩
    -- the cells
    refine ⟨_, rfl, n, rfl, by omega, by omega, fun c hc => lc_rangeP (n := n) (fun i => List.replicate i (V.int ((n : Int) + 1))) rfl (fun i hi Nx hN => ?_) ?_⟩
    · refine ⟨rfl, ?_⟩
      refine yesI ?_
      refine ⟨_, rfl, _, _, rfl, rfl, _, upd_same, sml (by rw [List.length_replicate]; omega), ?_⟩
      rw [upd_upd]
      rw [List.replicate_succ'] at hN
      exact hN
    refine fun d hd => ?_
    have s4 : Same H3 (upd H3 c (.lst (List.replicate n (V.int ((n : Int) + 1))))) := same_upd hc
    have s5 := same_upd (o := .dK []) hd
    have hB2 : ∀ a ∈ B.mut, ∃ o, H2 a = some o := fun a ha => by
      obtain ⟨o, e⟩ := LB.any ha
      exact ⟨o, s2 _ _ e⟩
    have s02 : Same (hide B.mut H2) H2 := hide_same _ _
    have s25 : Same H2 (upd (upd H3 c (.lst (List.replicate n (V.int ((n : Int) + 1))))) d (.dK [])) := s3.trans (s4.trans s5)
    have cn : ∀ {a}, H3 a = none → H2 a = none := fun h => s3.free h
    have nB : ∀ {a}, H2 a = none → a ∉ B.mut := fun h hm => by obtain ⟨o, e⟩ := hB2 _ hm; rw [h] at e; cases e
    have hcA : c ∉ A.mut := fun h => by obtain ⟨xs, e⟩ := WA.any h; rw [hc] at e; cases e
    have hc5 := s5 c _ (upd_same (H := H3))
    have T0 : Both C n (hide B.mut H2) (upd (upd H3 c (.lst (List.replicate n (V.int ((n : Int) + 1))))) d (.dK [])) B.p A.st c d (init n) B A [] := by
      refine ⟨rfl, rfl, LB.same (s2.trans s25), WA.same (s4.trans s5), by rw [lows_init]; exact hc5, ⟨upd_same, rfl, fun j i l a h => by simp [init] at h⟩, inv_init h1, hcA, nB (cn hc), nB (cn (s4.free hd)), fun a ha => nB (fA a ha), fun a ha => ?_, s02.trans s25⟩
      rcases ha with h | h | h | h
      · exact hide_in h
      · rw [hide_out (nB (fA a h))]; exact fA a h
      · rw [h, hide_out (nB (cn hc))]; exact cn hc
      · rw [h, hide_out (nB (cn (s4.free hd)))]; exact cn (s4.free hd)
    have sH0 : Same H (hide B.mut H2) := fun b o e => by
      have hb : b ∉ B.mut := fun hm => by rw [fB b hm] at e; cases e
      rw [hide_out hb]
      exact s2 _ _ (s1 _ _ e)
    have LO0 : LevAt C n (hide B.mut H2) Bo (init n) := LO.keepOn (fun a ha o e => by
      have hb : a ∉ B.mut := fun hm => by obtain ⟨o', e'⟩ := LB.any hm; rw [fO a ha] at e'; cases e'
      rw [hide_out hb]; exact e) (fun a o e g1 g2 => by
      have hb : a ∉ B.mut := fun hm => by
        have hm2 := hm
        rcases mem_mut.mp hm with z | z | z | z | z | z
        · exact g1 _ (Option.some.inj (e.symm.trans (z ▸ s2 _ _ LB.hc)))
        · exact g1 _ (Option.some.inj (e.symm.trans (z ▸ s2 _ _ LB.hl)))
        · exact g1 _ (Option.some.inj (e.symm.trans (z ▸ s2 _ _ LB.ht)))
        · exact g1 _ (Option.some.inj (e.symm.trans (z ▸ s2 _ _ LB.hs)))
        · exact g2 _ (Option.some.inj (e.symm.trans (z ▸ s2 _ _ LB.hd)))
        · obtain ⟨i, hi⟩ := List.mem_iff_getElem?.mp z
          exact g1 _ (Option.some.inj (e.symm.trans (s2 _ _ (LB.hsa i a hi))))
      rw [hide_out hb]; exact e)
    generalize upd (upd H3 c (.lst (List.replicate n (V.int ((n : Int) + 1))))) d (.dK []) = H5 at T0 ⊢
    generalize hide B.mut H2 = H0 at T0 sH0 LO0
    have sr0 := sH0 _ _ hsr
    have scget : ∀ {i : Nat} {x : V}, (natV sc)[i]? = some x → ∃ j, sc[i]? = some j ∧ x = .int j ∧ j < n := fun h => by
      obtain ⟨j, e, e2⟩ := nat_at h
      exact ⟨j, e, e2, hsc j (List.mem_of_getElem? e)⟩
    refine ⟨_, rfl, r, rfl, ⟨_, SqL.of (T0.same _ _ sr0)⟩, for_list (K := K) (a := r) (xs := natV sc) (fun i σ H' => ∃ z7 z8 B' A' la, σ = [some (.int n), some (.ref r), some (.ref B.p), some (.ref Bo.p), some (.ref A.st), some (.ref c), some (.ref d), z7, z8, none, none, none, none, none, none, none] ∧ Both C n H0 H' B.p A.st c d (runS n (sc.take i)) B' A' la)
      ⟨none, none, B, A, [], rfl, T0⟩ (fun i σ H' _ ⟨_, _, _, _, _, _, T1⟩ => SqL.of (T1.same _ _ sr0)) ?_ ?_⟩
    · rintro i x σ H6 hx ⟨z7, z8, B1, A1, la, rfl, T1⟩
      obtain ⟨j, hj, rfl, hjn⟩ := scget hx
      rw [runS_next hj]
      generalize runS n (sc.take i) = sj at T1 ⊢
      have tail : ∀ (D : Ends) (H7 : Hp) (z8 : Option V) (s' : Ls) (B' : LA) (A' : LS) (la' : List Addr), Both C n H0 H7 B.p A.st c d s' B' A' la' →
          (∀ H8, Both C n H0 H8 B.p A.st c d s' B' A' la' → D.nx [some (.int n), some (.ref r), some (.ref B.p), some (.ref Bo.p), some (.ref A.st), some (.ref c), some (.ref d), some (.int (j : Int)), z8, none, none, none, none, none, none, none] H8) →
          tIfS (tNot (tB (tCall (spLSame C) [] E0 (tCons (tVar 2) (tCons (tVar 4) (tCons (tVar 6) (tCons (tVar 0) tNil))))))) (tRet (tC (.bl false))) tNext D [some (.int n), some (.ref r), some (.ref B.p), some (.ref Bo.p), some (.ref A.st), some (.ref c), some (.ref d), some (.int (j : Int)), z8, none, none, none, none, none, none, none] H7 := fun D H7 z8 s' B' A' la' T' hD => by
        refine ⟨_, rfl, _, rfl, _, rfl, _, rfl, B', A', d, la', n, s', by rw [T'.hp, T'.hst]; rfl, T'.L, T'.W, T'.D, T'.I, h6, fun H8 s8 => ⟨_, rfl, ?_⟩⟩
        exact iteF (hD H8 (T'.later s8))
      show gName 7 (V.int (j : Int)) _ _ _
      refine ⟨_, rfl, _, rfl, d, _, rfl, DGet.k (k := Sum.inl (j : Int)) T1.D.at_, _, rfl, ?_⟩
      rw [dictV_has T1.I.nd T1.D.len j]
      by_cases hk : j ∈ keys sj
      · rw [show decide (j ∈ List.map (fun x => x.fst) sj.lk) = true from decide_eq_true hk]
        have eg : go n sj j = sj := if_pos hk
        rw [eg]
        refine iteT ?_
        obtain ⟨ep, est⟩ : B1.p = B.p ∧ A1.st = A.st := ⟨T1.hp, T1.hst⟩
        refine ⟨_, rfl, _, rfl, ("step" : Str), .ref B1.p, .int (j : Int), "name", .int (j : Int), by rw [ep]; rfl, Refs.step T1.L T1.I h6 (.int _) (.inr ⟨j, rfl, hk⟩), fun H7 q s7 e7 => ?_⟩
        refine ⟨_, rfl, (by show 2 ≤ sizeLine; decide), fun q2 hq2 => ?_⟩
        have s8 := same_upd (o := .tup [.str "name", .int (j : Int)]) hq2
        refine ne_same (d := .tuple [.str "name", .int (j : Int)]) (.tup (SqT.of (s8 _ _ e7)) (.cons (.str _) (.cons (.int _) .nil))) (.tup (SqT.of upd_same) (.cons (.str _) (.cons (.int _) .nil))) (lay_pair _ name_ok _) (by decide) ⟨_, rfl, iteF ?_⟩
        exact tail _ _ _ sj B1 A1 la (T1.later (s7.trans s8)) fun H8 T8 => ⟨_, _, _, _, _, rfl, T8⟩
      · rw [show decide (j ∈ List.map (fun x => x.fst) sj.lk) = false from decide_eq_false hk]
        refine iteF ?_
        have es : go n sj j = stp n sj j := if_neg hk
        rw [es]
        refine ⟨_, rfl, _, rfl, _, rfl, A1, c, n, sj, j, by rw [T1.hst]; rfl, T1.W, T1.hc, T1.cA, T1.I, h6, hjn, fun H7 A3 u1 x1 x2 x3 x4 x5 x6 x7 => ?_⟩
        obtain ⟨L3, s03, fin⟩ := T1.after (K := K) hjn hk x1 x2 x3 x4 x5 x6 x7
        refine ⟨_, rfl, B1.p, B1.dx, _, by rw [T1.hp], L3.ob, flds_step n B1, _, rfl, B1, n, sj, .int (j : Int), by rw [T1.hp]; rfl, L3, T1.I, h6, .int _, fun hg => ?_, fun j' e _ hk' => ?_, fun j' e _ _ H8 B4 u2 y1 y2 y3 y4 y5 => ?_⟩
        · rw [nameOk_lt hjn] at hg; cases hg
        · injection e with e
          have : j' = j := by omega
          subst this
          exact absurd hk' hk
        · injection e with e
          have : j' = j := by omega
          subst this
          obtain ⟨⟨dd, g1, g2, g3⟩, g4⟩ := fin H8 B4 u2 y1 y2 y3 y4 y5
          refine ⟨_, rfl, ne_same g1 g2 g3 (by decide) ⟨_, rfl, iteF ?_⟩⟩
          rcases g4 with ⟨rfl, T4⟩ | ⟨q, rfl, e1, e2, T4⟩
          · refine ⟨_, rfl, _, rfl, ?_⟩
            exact iteF (tail _ _ _ _ _ _ _ T4 fun H8 T8 => ⟨_, _, _, _, _, rfl, T8⟩)
          · refine ⟨_, rfl, _, rfl, ?_⟩
            exact iteT ⟨_, rfl, _, rfl, _, rfl, d, _, rfl, DPut.k (k := Sum.inl (j' : Int)) e1 (by rw [dictV_len e2]; exact small (keys_len T1.I)), tail _ _ _ _ _ _ _ T4 fun H8 T8 => ⟨_, _, _, _, _, rfl, T8⟩⟩
    rintro σ H6 ⟨z7, z8, B1, A1, la, rfl, T1⟩
    rw [List.length_map, List.take_length] at T1
    have esf : runS n sc = runS n sc := rfl
    generalize hsf : runS n sc = sf at T1
    have hn := T1.I.len
    refine ⟨_, rfl, _, rfl, n, rfl, h1, h6, fun H7 A7 s7 W7 f7 d7 hd7 => ⟨_, rfl, Bo, A7, d7, [], n, init n, rfl, ?_, W7.same (same_upd hd7), ⟨upd_same, rfl, fun j i l a h => by simp [init] at h⟩, inv_init h1, h6, fun H8 s8 => ⟨_, rfl, iteF ?_⟩⟩⟩
    · exact LO0.same (T1.same.trans (s7.trans (same_upd hd7)))
    have T2 := T1.later ((s7.trans (same_upd (o := .dK []) hd7)).trans s8)
    refine ⟨_, rfl, _, rfl, _, rfl, A1, d, la, n, sf, by rw [T2.hst]; rfl, T2.D, T2.W, T2.I, h6, fun H9 s9 => ⟨_, rfl, iteF ?_⟩⟩
    have T3 := T2.later s9
    clear T2 T1
    -- the names that wrote
    refine ⟨_, rfl, n, rfl, by omega, by omega, fun D hD => lc_rangeP (n := n) (fun i => natV ((List.range i).filter fun i => decide (0 < tk n (pAt sf.ps i)))) rfl (fun i hi Nx hN => ?_) ?_⟩
    · have s10 : Same H9 (upd H9 D (.lst (natV ((List.range i).filter fun i => decide (0 < tk n (pAt sf.ps i)))))) := same_upd hD
      have W9 := T3.W.same s10
      obtain ⟨h, b, g1, g2, g3, g4⟩ := W9.get hi
      have nx := filt_next (P := fun i => decide (0 < tk n (pAt sf.ps i))) (i := i)
      refine ⟨rfl, _, rfl, _, rfl, A1.st, _, _, V.ref h, by rw [T3.hst], rfl, SqL.of W9.ob, (by rw [Int.zero_add]; exact atI_nat g2), h, _, _, V.int (tk n (pAt sf.ps i)), rfl, rfl, SqL.of g3, rfl, _, _, rfl, rfl, _, rfl, ite2 (fun c => ?_) (fun c => ?_)⟩
      · refine ⟨_, rfl, _, upd_same, small filt_len (by omega), ?_⟩
        rw [if_pos c] at nx
        rw [upd_upd, Int.zero_add, ← nx]
        exact hN
      · rw [if_neg c] at nx
        rw [← nx]
        exact hN
    refine ⟨D, _, rfl, .inl ⟨SqL.of upd_same, fun wr hwr => ?_⟩⟩
    have s10 : Same H9 (upd (upd H9 D (.lst (natV (wroteL n sf)))) wr (.tup (natV (wroteL n sf)))) := (same_upd hD).trans (same_upd hwr)
    have w10 : upd (upd H9 D (.lst (natV (wroteL n sf)))) wr (.tup (natV (wroteL n sf))) wr = some (.tup (natV (wroteL n sf))) := upd_same
    show tSeq _ _ _ _ (upd (upd H9 D (.lst (natV (wroteL n sf)))) wr (.tup (natV (wroteL n sf))))
    generalize upd (upd H9 D (.lst (natV (wroteL n sf)))) wr (.tup (natV (wroteL n sf))) = H10 at s10 w10 ⊢
    have T4 := T3.later s10
    have r4 := T4.same _ _ sr0
    -- kept
    refine ⟨_, rfl, r, _, rfl, .inl (SqL.of r4), fun kp hkp => ?_⟩
    have s11 := same_upd (o := .lst (natV sc)) hkp
    have kp11 : upd H10 kp (.lst (natV sc)) kp = some (.lst (natV sc)) := upd_same
    generalize upd H10 kp (.lst (natV sc)) = H11 at s11 kp11 ⊢
    -- levels_run
    refine ⟨_, rfl, _, rfl, .int (n : Int), .ref r, rfl, .int _, fun hg => ?_, fun _ => ⟨n, rfl, .inr (.inr ⟨sc, ⟨r, rfl, .inl (s11 _ _ r4)⟩, hsc, fun H12 told s12 RV => ?_⟩)⟩⟩
    · rw [show goodL (V.int (n : Int)) = true from decide_eq_true (by omega)] at hg
      cases hg
    rw [hsf] at RV
    obtain ⟨tq, tw, tr, rfl, q1, q2, as0, bs0, r1, l1, l2, rr⟩ := RV
    have T5 := (T4.later s11).later s12
    have w12 := s12 _ _ (s11 _ _ w10)
    have kp12 := s12 _ _ kp11
    have r5 := T5.same _ _ sr0
    clear T4 T3
    refine ⟨_, rfl, _, rfl, _, rfl, d, _, rfl, T5.D.at_, fun p1 hp1 => ⟨p1, (keys sf).map fun (j : Nat) => (j : Int), rfl, SqL.of ?_, ?_, fun ns p2 pm pw hp2 => ?_⟩⟩
    · rw [upd_same, dictV_keys T5.D.len, natV_int]; rfl
    · rw [List.length_map]
      have := keys_len T5.I
      unfold keys
      rw [List.length_map]; omega
    have es : ns = (goneL n sf).map fun (j : Nat) => (j : Int) := sorted_nat pm pw (gone_perm T5.I) (asc_goneL n sf)
    have s13 : Same H12 (upd (upd H12 p1 (.lst ((dictV sf.lk la).map fun kv => kV kv.1))) p2 (.lst (ns.map V.int))) := (same_upd hp1).trans (same_upd hp2)
    have p13 : upd (upd H12 p1 (.lst ((dictV sf.lk la).map fun kv => kV kv.1))) p2 (.lst (ns.map V.int)) p2 = some (.lst (natV (goneL n sf))) := by rw [upd_same, es, natV_int]
    generalize upd (upd H12 p1 (.lst ((dictV sf.lk la).map fun kv => kV kv.1))) p2 (.lst (ns.map V.int)) = H13 at s13 p13 ⊢
    have T6 := T5.later s13
    have gl := goneL_len n sf
    refine ⟨p2, rfl, ⟨_, SqL.of p13⟩, fun R hR => lc_list (K := K) (a := p2) (xs := natV (goneL n sf)) (fun i H' => ∃ as bs : List Addr, as.length = i ∧ bs.length = i ∧ H' R = some (.lst (as.map V.ref)) ∧ Same H13 H' ∧
        ∀ (j x : Nat) (l : List Nat) (a b : Addr), j < i → (rowsOf n sf)[j]? = some (x, l) → as[j]? = some a → bs[j]? = some b → H' a = some (.tup [.int x, .ref b]) ∧ H' b = some (.tup (natV l)))
      ⟨[], [], rfl, rfl, upd_same, same_upd hR, fun j x l a b hj => absurd hj (Nat.not_lt_zero _)⟩ (fun i H' _ ⟨_, _, _, _, _, s5, _⟩ => SqL.of (s5 _ _ p13)) ?_ ?_⟩
    · rintro i x H' hx ⟨as, bs, l1, l2, g1, s5, g2⟩
      obtain ⟨gi, hgi, rfl⟩ := nat_at hx
      have hmem := mem_goneL.mp (List.mem_of_getElem? hgi)
      obtain ⟨q, hq2, eq2⟩ := List.mem_map.mp hmem.2
      have hlk : (gi, q.2) ∈ sf.lk := by rw [← eq2]; exact hq2
      have elook := lookOf_at T6.I.nd hlk
      obtain ⟨b, hb1, hb2⟩ := T6.D.get T6.I.nd hlk
      have hil : i < (goneL n sf).length := (List.getElem?_eq_some_iff.mp hgi).1
      have hrow : (rowsOf n sf)[i]? = some (gi, q.2) := by unfold rowsOf; rw [List.getElem?_map, hgi, ← elook]; rfl
      have gd := DGet.k (k := Sum.inl (gi : Int)) (s5 _ _ T6.D.at_)
      rw [hb1] at gd
      refine ⟨rfl, yesI ⟨_, rfl, _, rfl, _, rfl, d, _, rfl, gd, by show 2 ≤ sizeLine; decide, fun t ht => ?_⟩⟩
      have nt : ∀ {y o}, H' y = some o → y ≠ t := fun h => ne_of_none h ht
      refine ⟨_, uk (nt g1) g1, by rw [List.length_map, l1]; exact small (m := 6) (by omega), as ++ [t], bs ++ [b], by simp [l1], by simp [l2], by rw [upd_same, List.map_append]; rfl, fun b' o e => ?_, fun j x l a b' hj hr ha hb => ?_⟩
      · exact uk (ne_of_none e hR) (uk (nt (s5 _ _ e)) (s5 _ _ e))
      · have tR : t ≠ R := (nt g1).symm
        have keepT : ∀ y xs, H' y = some (.tup xs) → upd (upd H' t (.tup [.int gi, .ref b])) R (.lst (as.map V.ref ++ [V.ref t])) y = some (.tup xs) := fun y xs h => uk (ne_of h g1 (by intro z; cases z)) (uk (nt h) h)
        by_cases c : j < i
        · rw [List.getElem?_append_left (by omega)] at ha hb
          have := g2 j x l a b' c hr ha hb
          exact ⟨keepT _ _ this.1, keepT _ _ this.2⟩
        · have ej : j = i := by omega
          subst ej
          rw [List.getElem?_append_right (by omega), l1, Nat.sub_self] at ha
          rw [List.getElem?_append_right (by omega), l2, Nat.sub_self] at hb
          have ea := Option.some.inj ha
          have eb := Option.some.inj hb
          subst ea; subst eb
          rw [hrow] at hr
          have er := Option.some.inj hr
          injection er with er1 er2
          subst er1; subst er2
          exact ⟨uk tR upd_same, keepT _ _ (s5 _ _ hb2)⟩
    rintro H14 ⟨as, bs, m1, m2, g1, s14, g2⟩
    have hlr : (rowsOf n sf).length = (natV (goneL n sf)).length := by simp [rowsOf, natV]
    refine ⟨R, _, rfl, .inl ⟨SqL.of g1, fun R2 hR2 => ⟨by show 2 ≤ sizeLine; decide, fun t ht => ?_⟩⟩⟩
    have s15 := same_upd (o := .tup (as.map V.ref)) hR2
    have s16 := same_upd (o := .tup [.ref wr, .ref R2]) ht
    have s1216 := s13.trans (s14.trans (s15.trans s16))
    have dr : Dp K (upd (upd H14 R2 (.tup (as.map V.ref))) t (.tup [.ref wr, .ref R2])) (.ref R2) (.tuple ((rowsOf n sf).map rowD)) := by
      refine dp_rows (bs := bs) (s16 _ _ upd_same) (by rw [m1, hlr]) (by rw [m2, hlr]) fun j i l a b e1 e2 e3 => ?_
      have hj : j < (natV (goneL n sf)).length := by rw [← hlr]; exact (List.getElem?_eq_some_iff.mp e1).1
      obtain ⟨z1, z2⟩ := g2 j i l a b hj e1 e2 e3
      exact ⟨s16 _ _ (s15 _ _ z1), s16 _ _ (s15 _ _ z2)⟩
    refine ne_same (d := .tuple [natD (wroteL n sf), .tuple ((rowsOf n sf).map rowD)]) (dp_run (s1216 _ _ q1) (s1216 _ _ q2) (dp_rows (bs := bs0) (s1216 _ _ r1) l1 l2 fun j i l a b e1 e2 e3 => ?_)) (dp_run upd_same (s1216 _ _ w12) dr) (lay_run _ _) (by decide) ⟨_, rfl, iteF ?_⟩
    · obtain ⟨z1, z2⟩ := rr j i l a b e1 e2 e3
      exact ⟨s1216 _ _ z1, s1216 _ _ z2⟩
    have T7 := T5.later s1216
    have r7 := T7.same _ _ sr0
    have kp16 := s1216 _ _ kp12
    have w16 := s1216 _ _ w12
    clear T6
    generalize upd (upd H14 R2 (.tup (as.map V.ref))) t (.tup [.ref wr, .ref R2]) = H16 at T7 r7 kp16 w16 ⊢
    refine ⟨_, rfl, _, rfl, ne_same (dp_lst r7) (dp_lst kp16) (lay_natL _) (by decide) ⟨_, rfl, iteF ?_⟩⟩
    -- levels_blocks
    refine ⟨_, rfl, _, rfl, r, _, rfl, .inl ⟨SqL.of r7, fun ts hts => ?_⟩⟩
    have s17 := same_upd (o := .tup (natV sc)) hts
    refine ⟨.int (n : Int), .ref ts, rfl, .int _, fun hg => ?_, fun _ => ⟨n, rfl, h1, h6, .inr (.inr ⟨sc, ⟨ts, rfl, .inr upd_same⟩, hsc, fun H18 bv s18 BV => ?_⟩)⟩⟩
    · rw [show goodL (V.int (n : Int)) = true from decide_eq_true (by omega)] at hg
      cases hg
    rw [hsf] at BV
    have T8 := T7.later (s17.trans s18)
    have w18 := (s17.trans s18) _ _ w16
    refine ⟨_, rfl, _, rfl, _, rfl, d, wr, la, n, sf, rfl, T8.D, w18, T8.I, h6, fun H19 dv s19 DV => ?_⟩
    obtain ⟨bq, bas, rfl, hb0, hbt0⟩ := BV
    have hb1 := s19 _ _ hb0
    have hbt := hbt0.keep fun a xs e => s19 _ _ e
    refine ne_same (dp_blk ⟨bq, bas, rfl, hb1, hbt⟩) (dp_blk DV) (lay_blk _) (by decide) ⟨_, rfl, iteF ?_⟩
    have T9 := T8.later s19
    clear T8 T7 T5
    -- what each block's names saw
    have bl8 : bas.length ≤ 8 := by rw [hbt.1]; exact blocks_len h6
    refine ⟨_, rfl, V.ref bq, bas.length, rfl, .inr ⟨_, SqT.of hb1, by rw [List.length_map]⟩, bas.length, rfl, by omega, by omega, for_range (n := bas.length) (fun i σ H' => ∃ z7 z8 z13 z14 z15, σ = [some (.int n), some (.ref r), some (.ref B.p), some (.ref Bo.p), some (.ref A.st), some (.ref c), some (.ref d), z7, z8, some (.ref wr), some (.ref kp), some (.ref tq), some (.ref bq), z13, z14, z15] ∧ Same H19 H')
      ⟨_, _, _, _, _, rfl, fun _ _ e => e⟩ ?_ ?_⟩
    · rintro i σ H20 hi ⟨z7, z8, z13, z14, z15, rfl, s20⟩
      have hil : i < (blocksL n sf).length := by rw [← hbt.1]; exact hi
      refine ⟨by decide, fun ah hah => ?_⟩
      have s21 := same_upd (o := .lst []) hah
      have inner : ∀ (D : Ends) (q : Addr) (H1 : Hp), Same H19 H1 → H1 q = some (.tup ((bas.take (i + 1)).map V.ref)) → H1 ah = some (.lst []) →
          (∀ H2 ah2 z15, Same H19 H2 → H2 ah2 = some (.lst (natV (((blocksL n sf).take (i + 1)).flatten))) → D.nx [some (.int n), some (.ref r), some (.ref B.p), some (.ref Bo.p), some (.ref A.st), some (.ref c), some (.ref d), z7, z8, some (.ref wr), some (.ref kp), some (.ref tq), some (.ref bq), some (.int ((0 : Int) + i)), some (.ref ah2), z15] H2) →
          tFor (fun _ H R => R (Itt K q) H) (gName 15) (tAsg (tOp rCat (tVar 14) (tCB (fun xs H Q => ∃ p ys, xs = [.ref p] ∧ (SqL K H p ys ∨ SqT K H p ys) ∧ ∀ l, H l = none → Q (.ref l) (upd H l (.lst ys))) (tCons (tVar 15) tNil))) (gName 14)) D
            [some (.int n), some (.ref r), some (.ref B.p), some (.ref Bo.p), some (.ref A.st), some (.ref c), some (.ref d), z7, z8, some (.ref wr), some (.ref kp), some (.ref tq), some (.ref bq), some (.int ((0 : Int) + i)), some (.ref ah), z15] H1 := fun D q H1 s1 hq h0 hD => by
        refine for_tup (K := K) (a := q) (xs := (bas.take (i + 1)).map V.ref) (fun j σ H' => ∃ (ah2 : Addr) (z15 : Option V), σ = [some (.int n), some (.ref r), some (.ref B.p), some (.ref Bo.p), some (.ref A.st), some (.ref c), some (.ref d), z7, z8, some (.ref wr), some (.ref kp), some (.ref tq), some (.ref bq), some (.int ((0 : Int) + i)), some (.ref ah2), z15] ∧ Same H1 H' ∧ H' ah2 = some (.lst (natV (((blocksL n sf).take j).flatten))))
          ⟨ah, z15, rfl, fun _ _ e => e, h0⟩ (fun j σ H' _ ⟨_, _, _, s2, _⟩ => SqT.of (s2 _ _ hq)) ?_ ?_
        · rintro j x σ H2 hx ⟨ah2, z15, rfl, s2, e2⟩
          obtain ⟨ba, hba, rfl⟩ := ref_at hx
          have hj1 := (List.getElem?_eq_some_iff.mp hba).1
          rw [List.length_take] at hj1
          rw [List.getElem?_take_of_lt (by omega)] at hba
          have hbb : (blocksL n sf)[j]? = some (blocksL n sf)[j] := List.getElem?_eq_getElem (by omega)
          have e3 := s2 _ _ (s1 _ _ (hbt.2 j _ ba hbb hba))
          have bl := block_len T9.I _ (List.mem_of_getElem? hbb)
          have fl := flat_len ((blocksL n sf).take j) fun b hb => Nat.le_trans (block_len T9.I b (List.mem_of_mem_take hb)) h6
          rw [List.length_take] at fl
          refine ⟨_, rfl, _, rfl, ba, _, rfl, .inr (SqT.of e3), fun l hl => ?_⟩
          have s3 := same_upd (o := .lst (natV (blocksL n sf)[j])) hl
          refine ⟨ah2, l, _, _, rfl, rfl, s3 _ _ e2, upd_same, ?_, fun p hp => ?_⟩
          · rw [List.length_map, List.length_map, sizeLine_eq]; omega
          · have s4 := same_upd (o := .lst (natV (((blocksL n sf).take j).flatten) ++ natV (blocksL n sf)[j])) hp
            refine ⟨p, _, rfl, s2.trans (s3.trans s4), ?_⟩
            rw [upd_same, List.take_add_one, hbb, List.flatten_append]
            simp [natV]
        · rintro σ H2 ⟨ah2, z15, rfl, s2, e2⟩
          rw [List.length_map, List.length_take, Nat.min_eq_left (by omega)] at e2
          exact hD H2 ah2 z15 (s1.trans s2) e2
      -- the names of the block
      have last : ∀ (D : Ends) (H1 : Hp) (ah2 : Addr) (z15 : Option V), Same H19 H1 → H1 ah2 = some (.lst (natV (((blocksL n sf).take (i + 1)).flatten))) → (∀ H2 z7, Same H19 H2 → D.nx [some (.int n), some (.ref r), some (.ref B.p), some (.ref Bo.p), some (.ref A.st), some (.ref c), some (.ref d), z7, z8, some (.ref wr), some (.ref kp), some (.ref tq), some (.ref bq), some (.int ((0 : Int) + i)), some (.ref ah2), z15] H2) →
          tFor (iTup K (tOp (rIxT K) (tVar 12) (tVar 13))) (gName 7) (tIfS (tAnd (tB (tDIn (tVar 7) (tVar 6))) (tTest (tOp (rNeD K) (tDGet (tVar 6) (tVar 7)) (tCB (fun xs H Q => ∃ p ys, xs = [.ref p] ∧ ((SqL K H p ys ∧ ∀ l, H l = none → Q (.ref l) (upd H l (.tup ys))) ∨ (SqT K H p ys ∧ Q (.ref p) H))) (tCons (tCB (rSorted K) (tCons (tVar 14) tNil)) tNil))))) (tRet (tC (.bl false))) tNext) D
            [some (.int n), some (.ref r), some (.ref B.p), some (.ref Bo.p), some (.ref A.st), some (.ref c), some (.ref d), z7, z8, some (.ref wr), some (.ref kp), some (.ref tq), some (.ref bq), some (.int ((0 : Int) + i)), some (.ref ah2), z15] H1 := fun D H1 ah2 z15 s1 e1 hD => by
        have hbb : (blocksL n sf)[i]? = some (blocksL n sf)[i] := List.getElem?_eq_getElem hil
        have hba : bas[i]? = some bas[i] := List.getElem?_eq_getElem hi
        have e3 := s1 _ _ (hbt.2 i _ _ hbb hba)
        refine ⟨_, rfl, _, rfl, bq, _, _, V.ref bas[i], rfl, rfl, SqT.of (s1 _ _ hb1), (by rw [Int.zero_add]; exact atI_nat (by rw [List.getElem?_map, hba]; rfl)), bas[i], rfl, ⟨_, SqT.of e3⟩, for_tup (K := K) (a := bas[i]) (xs := natV (blocksL n sf)[i]) (fun j σ H' => ∃ z7, σ = [some (.int n), some (.ref r), some (.ref B.p), some (.ref Bo.p), some (.ref A.st), some (.ref c), some (.ref d), z7, z8, some (.ref wr), some (.ref kp), some (.ref tq), some (.ref bq), some (.int ((0 : Int) + i)), some (.ref ah2), z15] ∧ Same H1 H')
          ⟨z7, rfl, fun _ _ e => e⟩ (fun j σ H' _ ⟨_, _, s2⟩ => SqT.of (s2 _ _ e3)) ?_ ?_⟩
        · rintro j x σ H2 hx ⟨z7, rfl, s2⟩
          obtain ⟨y, hy, rfl⟩ := nat_at hx
          have T10 := T9.later (s1.trans s2)
          refine ⟨_, rfl, _, rfl, d, _, rfl, DGet.k (k := Sum.inl (y : Int)) T10.D.at_, _, rfl, ?_⟩
          rw [dictV_has T10.I.nd T10.D.len y]
          by_cases hk : y ∈ keys sf
          · rw [show decide (y ∈ List.map (fun x => x.fst) sf.lk) = true from decide_eq_true hk]
            refine iteT ?_
            obtain ⟨q, hq2, eq2⟩ := List.mem_map.mp hk
            have hlk : (y, q.2) ∈ sf.lk := by rw [← eq2]; exact hq2
            obtain ⟨b, hg1, hg2⟩ := T10.D.get T10.I.nd hlk
            have gd := DGet.k (k := Sum.inl (y : Int)) T10.D.at_
            rw [hg1] at gd
            obtain ⟨pmL, ascL⟩ := block_law T9.I hbb (List.mem_of_getElem? hy) hlk
            have fl := flat_len ((blocksL n sf).take (i + 1)) fun b hb => Nat.le_trans (block_len T9.I b (List.mem_of_mem_take hb)) h6
            rw [List.length_take] at fl
            refine ⟨_, rfl, _, rfl, d, _, rfl, gd, _, rfl, ah2, (((blocksL n sf).take (i + 1)).flatten).map fun (j : Nat) => (j : Int), rfl, SqL.of ?_, ?_, fun ns p pm pw hp => ⟨p, _, rfl, .inl ⟨SqL.of upd_same, fun q3 hq3 => ?_⟩⟩⟩
            · rw [s2 _ _ e1, natV_int]
            · rw [List.length_map]; omega
            have e5 : ns = q.2.map fun (j : Nat) => (j : Int) := sorted_nat pm pw pmL.symm ascL
            have s6 : Same H2 (upd (upd H2 p (.lst (ns.map V.int))) q3 (.tup (ns.map V.int))) := (same_upd hp).trans (same_upd hq3)
            refine ne_same (d := natD q.2) (dp_nat (s6 _ _ hg2)) (dp_nat (by rw [upd_same, e5, natV_int])) (lay_nat _) (by decide) ⟨_, rfl, iteF ⟨_, rfl, s2.trans s6⟩⟩
          · rw [show decide (y ∈ List.map (fun x => x.fst) sf.lk) = false from decide_eq_false hk]
            exact iteF (iteF ⟨_, rfl, s2⟩)
        · rintro σ H2 ⟨z7, rfl, s2⟩
          exact hD H2 z7 (s1.trans s2)
      have s1921 := s20.trans s21
      have hcut : ∀ {o : Option Int}, o = some ((0 : Int) + i + 1) → HT.sIx (bas.map V.ref).length (bas.map V.ref).length o = i + 1 := fun e => by
        rw [e, show ((0 : Int) + i + 1) = ((i + 1 : Nat) : Int) by omega, HT.sIx_nat, List.length_map]
        omega
      refine ⟨_, rfl, _, rfl, _, _, rfl, rfl, _, rfl, bq, _, rfl, SqT.of (s1921 _ _ hb1), fun hw => ?_, fun hw p hp => ?_⟩
      · have e1 := hw.2
        rw [hcut rfl, List.length_map] at e1
        refine ⟨bq, rfl, ⟨_, SqT.of (s1921 _ _ hb1)⟩, ?_⟩
        refine inner _ bq _ s1921 ?_ upd_same fun H2 ah2 z15 s2 e2 => last _ H2 ah2 z15 s2 e2 fun H3 z7 s3 => ⟨_, _, _, _, _, rfl, s3⟩
        rw [List.take_of_length_le (by omega)]
        exact s1921 _ _ hb1
      · have s22 := same_upd (o := .tup (cutV (bas.map V.ref) none (some ((0 : Int) + i + 1)))) hp
        refine ⟨p, rfl, ⟨_, SqT.of upd_same⟩, ?_⟩
        refine inner _ p _ (s1921.trans s22) ?_ (s22 _ _ upd_same) fun H2 ah2 z15 s2 e2 => last _ H2 ah2 z15 s2 e2 fun H3 z7 s3 => ⟨_, _, _, _, _, rfl, s3⟩
        rw [upd_same]
        unfold cutV
        rw [hcut rfl, HT.sIx_none, Nat.sub_zero, List.drop_zero, List.map_take]
    · rintro σ H20 ⟨z7, z8, z13, z14, z15, rfl, s20⟩
      have T10 := T9.later s20
      exact ⟨_, rfl, _, rfl, _, rfl, _, rfl, _, rfl, H0, B.p, A.st, c, d, n, sf, B1, A1, la, rfl, T10, h6, fun H' s' => k H' (sH0.trans s')⟩
end
end K07
/-! _law_all_refused, law. -/
namespace K07
open PySem PySem.Spec PyProof.Rows L2
theorem head_mk1 {C CB : Addr} {rest : TS} {D : Ends} {σ : L2.St} {H : Hp} {n j : Nat} (h0 : σ[1]? = some (some (.int (n : Int)))) (h1 : 1 ≤ n) (h6 : n ≤ 6)
    (k : ∀ H1 B, LevAt C n H1 B (init n) → Same H H1 → (∀ a ∈ B.mut, H a = none) → H B.p = none → rest D (σ.set j (some (.ref B.p))) H1) : tSeq (tAsg (tMake C (spInit C CB) [] E0 (tCons (tVar 1) tNil)) (gName j)) rest D σ H := by
  refine ⟨_, h0, fun x dx hx hd hne => make_ok (Q := fun r H1 => rest D (σ.set j (some r)) H1) (.int _) (fun hg => ?_) (fun m e _ _ H1 B L s1 hf hp => ?_) x dx hx hd hne⟩
  · rw [show goodL (V.int (n : Int)) = true from decide_eq_true (by omega)] at hg
    cases hg
  · have : m = n := by injection e with e; omega
    subst this
    exact k H1 B L s1 hf hp
/-- one of a written list -/
theorem pick {xs : List V} {r : Int} (h0 : 0 ≤ r) (h1 : r < (xs.length : Int)) : ∃ v, atI xs r = some v ∧ v ∈ xs := by
  obtain ⟨j, rfl⟩ : ∃ j : Nat, r = (j : Int) := ⟨r.toNat, by omega⟩
  have hj : j < xs.length := by omega
  exact ⟨xs[j], atI_nat (List.getElem?_eq_getElem hj), List.getElem_mem hj⟩
/-- a plain value and its data -/
def LitD (v : V) (d : PyData) : Prop := (∀ (K : PySem.W.Frag) (H : Hp), Dp K H v d) ∧ d.canLay0 = true ∧ d.depth ≤ 0
theorem lit_int (i : Int) : LitD (.int i) (.int i) := ⟨fun _ _ => .int i, lay_int i⟩
theorem lit_non : LitD .non .none := ⟨fun _ _ => .non, by simp [PyData.canLay0], by simp [PyData.depth]⟩
theorem lit_bl (b : Bool) : LitD (.bl b) (.bool b) := ⟨fun _ _ => .bl b, by simp [PyData.canLay0], by simp [PyData.depth]⟩
theorem lit_str {z : Str} (h : PyData.strOk z = true) : LitD (.str z) (.str z) := ⟨fun _ _ => .str z, by simp [PyData.canLay0, h], by simp [PyData.depth]⟩
theorem ok_name : PyData.strOk ("name" : Str) = true := by decide +kernel
theorem ok_number : PyData.strOk ("number" : Str) = true := by decide +kernel
theorem ok_size : PyData.strOk ("size" : Str) = true := by decide +kernel
theorem ok_a : PyData.strOk ("a" : Str) = true := by decide +kernel
theorem lay_two {z : Str} {d : PyData} {v : V} (hz : PyData.strOk z = true) (h : LitD v d) : (PyData.tuple [.str z, d]).canLay0 = true ∧ (PyData.tuple [.str z, d]).depth ≤ 1 := lay_tup (k := 0) fun e he => by
  rcases List.mem_cons.mp he with e1 | he
  · rw [e1]; exact ⟨by simp [PyData.canLay0, hz], by simp [PyData.depth]⟩
  · rw [List.mem_singleton.mp he]; exact h.2
theorem dp_two {K : PySem.W.Frag} {H : Hp} {q : Addr} {z : Str} {v : V} {d : PyData} (h : H q = some (.tup [.str z, v])) (l : LitD v d) : Dp K H (.ref q) (.tuple [.str z, d]) := .tup (SqT.of h) (.cons (.str _) (.cons (l.1 _ _) .nil))
/-- _law_all_refused(found, size, schedule) -/
def spLAll : Sp := fun vs H Q _ => ∃ (a : Addr) (xs : List Int) (n : Nat) (r : Addr) (sc : List Nat), vs = [.ref a, .int n, .ref r] ∧ H a = some (.lst (intV xs)) ∧ xs.length ≤ 4000 ∧ 1 ≤ n ∧ n ≤ 6 ∧ r ≠ a ∧ H r = some (.lst (natV sc)) ∧ (∀ i ∈ sc, i < n) ∧ sc.length ≤ 60 ∧ ∀ H', Q (.bl true) H'
theorem nameOk_int {n : Nat} {i : Int} (h : ¬ (0 ≤ i ∧ i < (n : Int))) : nameOk n (.int i) = false := decide_eq_false h
theorem wrote_init {n : Nat} : wroteL n (init n) = [] := by
  unfold wroteL
  refine List.filter_eq_nil_iff.mpr fun i hi => ?_
  have hi' := List.mem_range.mp hi
  rw [pAt_init hi']
  have e : tk n (p0 n) = 0 := by
    unfold tk p0
    show ((n : Int) - ((n : Int) + 1)) * ((n : Int) + 1) + 1 + (n : Int) = 0
    have : (n : Int) - ((n : Int) + 1) = -1 := by omega
    rw [this]; omega
  rw [e]; decide
theorem gone_init {n : Nat} : goneL n (init n) = [] := by
  unfold goneL
  refine List.filter_eq_nil_iff.mpr fun i hi => ?_
  simp [keys, init]
theorem chain_init {n : Nat} : chain n (init n) = [] := by
  unfold chain
  have : ((List.range (n + 1)).filter fun k => (init n).lk.any fun p => p.2.length == k) = [] := List.filter_eq_nil_iff.mpr fun i hi => by simp [init]
  rw [this]; rfl
theorem blocks_init {n : Nat} : blocksL n (init n) = [] := by
  have hr : restL n (init n) = [] := by unfold restL; rw [wrote_init]; rfl
  unfold blocksL
  rw [chain_init, if_pos hr]; rfl
section
variable {w : World} {K : PySem.W.Frag} {mg : Str → Option Value} {base : Heap}
theorem scLAll : FnScope ["_law_found", "_law_size", "_law_schedule_here", "_law_bad", "_law_away", "_law_levels", "_law_word", "_law_row"] ["_law_found", "_law_size", "_law_schedule_here"] (defScope lAll) := ⟨rfl, rfl, rfl, by decide +kernel, rfl, by decide +kernel, by decide +kernel⟩
theorem ok_lAll {f fT C CB CN : Addr} {fd fdT : FuncData} (F : Fun K "_law_all_refused" "_law_all_refused" lAll f fd) (LF : LawFs w K mg base C CB CN) (FT : Fun K "_law_take" "_law_take" lTake fT fdT) (gT : mg "_law_take" = some (.ref fT)) (bT : Binds K fdT ["_law_found", "_law_many"] [])
    (TL : LevCl w K mg base C CB CN) (T : Blt mg) : FnOk PR w K mg base CX0 9 f fd ["_law_found", "_law_size", "_law_schedule_here"] spLAll := by
  have GT : FnOk PR w K mg base CX0 1 fT fdT ["_law_found", "_law_many"] spLTake := ok_lTake FT T
  obtain ⟨fI, fdI, mI, bI, GI⟩ := TL.make
  obtain ⟨pW, fW, fdW, mW, bW, GW⟩ := TL.wrote
  obtain ⟨pG, fG, fdG, mG, bG, GG⟩ := TL.gone
  obtain ⟨fF, fdF, FF, gF, bF, GF⟩ := LF.F
  obtain ⟨fU, fdU, FU, gU, bU, GU⟩ := LF.U
  obtain ⟨fV, fdV, FV, gV, bV, GV⟩ := LF.V
  refine F.ok scLAll (fun vs H Q E h => ?_) (fun cdv A outer s H vs Q E hr h => ?_)
  · obtain ⟨a, xs, n, r, sc, rfl, _⟩ := h
    rfl
  · obtain ⟨a, xs, n, r, sc, rfl, ha, hxl, h1, h6, hra, hsr, hsc, hsl, k⟩ := h
    have hr1 : Room 1 _ := hr.mono (by decide)
    have hr2 : Room 2 _ := hr.mono (by decide)
    have hr5 : Room 5 _ := hr.mono (by decide)
    have hr6 : Room 6 _ := hr.mono (by decide)
    have hr7 : Room 7 _ := hr.mono (by decide)
    have hr8 : Room 8 _ := hr.mono (by decide)
    refine ⟨_, (pss_cons (ps_set (i := 3) scLAll.nd rfl (Or.inl rfl) (pe_ix ix_list (pe_lst (pa_cons pe_int (pa_cons (pe_un un_neg pe_int) (pa_cons pe_int (pa_cons pe_non (pa_cons pe_bl (pa_cons pe_str pa_nil))))))) (pe_call GT hr1 rfl gT FT.kp bT .nil pass0 (pa_cons (pv 0) (pa_cons pe_int pa_nil))) (fun _ _ => rfl)))
 (pss_cons (ps_set (i := 4) scLAll.nd rfl (Or.inl rfl) (pe_ix ix_list (pe_lst (pa_cons (pe_un un_neg pe_int) (pa_cons pe_non (pa_cons pe_bl (pa_cons (pv 1) (pa_cons pe_str (pa_cons (pe_op op_add (pv 1) pe_int) pa_nil))))))) (pe_call GT hr1 rfl gT FT.kp bT .nil pass0 (pa_cons (pv 0) (pa_cons pe_int pa_nil))) (fun _ _ => rfl)))
 (pss_cons (ps_set (i := 5) scLAll.nd rfl (Or.inl rfl) (pe_make mI GI hr5 rfl TL.gC bI .nil passL (pa_cons (pv 1) pa_nil)))
 (pss_cons (ps_if (pt_cmpR (op_neD hr.units) (pe_call GF hr8 rfl gF FF.kp bF .nil pass0 (pa_cons pe_str (pa_cons (pv 3) (pa_cons pe_int pa_nil)))) (pe_tup (pa_cons pe_str (pa_cons pe_str pa_nil))) (nomark _)) (pss_one (ps_ret pe_bl)) pss_nil)
 (pss_cons (ps_for PassesOwn.never rfl (pi_list (pe_lst (pa_cons pe_str (pa_cons pe_str (pa_cons pe_str pa_nil))))) (pg_name (i := 6) scLAll.nd rfl (Or.inl rfl)) (pss_one (ps_if (pt_cmpR (op_neD hr.units) (pe_call GF hr8 rfl gF FF.kp bF .nil pass0 (pa_cons (pv 6) (pa_cons (pv 5) (pa_cons (pv 4) pa_nil)))) (pe_tup (pa_cons pe_str (pa_cons (pv 4) pa_nil))) (nomark _)) (pss_one (ps_ret pe_bl)) pss_nil)))
 (pss_cons (ps_if (PW.pt (pw_or (pt_cmpR (op_neD hr.units) (pe_prop (pv 5) TL.tc.cl mW GW hr2 bW .nil pass0 rfl) (pe_tup pa_nil) (nomark _)) (pw_or1 (pt_cmpR (op_neD hr.units) (pe_prop (pv 5) TL.tc.cl mG GG hr2 bG .nil pass0 rfl) (pe_tup pa_nil) (nomark _))))) (pss_one (ps_ret pe_bl)) pss_nil)
 (pss_cons (ps_set (i := 7) scLAll.nd rfl (Or.inl rfl) (pe_op op_cat (pe_op op_cat (pe_callTy call_list_of (by rfl) T.list b_list (pa_cons (pv 2) pa_nil)) (pe_lst (pa_cons (pv 4) (pa_cons (pe_un un_neg pe_int) pa_nil)))) (pe_callTy call_list_of (by rfl) T.list b_list (pa_cons (pv 2) pa_nil))))
 (pss_cons (ps_for PassesOwn.never rfl (pi_list (pe_lst (pa_cons pe_str (pa_cons pe_str pa_nil)))) (pg_name (i := 6) scLAll.nd rfl (Or.inl rfl)) (pss_cons (ps_if (PW.pt (pw_or (pt_cmpR (op_neD hr.units) (pe_call GF hr8 rfl gF FF.kp bF .nil pass0 (pa_cons (pv 6) (pa_cons (pv 1) (pa_cons (pv 7) pa_nil)))) (pe_tup (pa_cons pe_str (pa_cons (pv 4) pa_nil))) (nomark _)) (pw_or1 (pt_cmpR (op_neD hr.units) (pe_call GF hr8 rfl gF FF.kp bF .nil pass0 (pa_cons (pv 6) (pa_cons (pv 3) (pa_cons (pv 7) pa_nil)))) (pe_tup (pa_cons pe_str (pa_cons pe_str pa_nil))) (nomark _))))) (pss_one (ps_ret pe_bl)) pss_nil)
 (pss_cons (ps_if (pt_cmpR (op_neD hr.units) (pe_call GF hr8 rfl gF FF.kp bF .nil pass0 (pa_cons (pv 6) (pa_cons (pv 1) (pa_cons (pe_ix ix_list (pe_lst (pa_cons pe_non (pa_cons pe_int (pa_cons pe_str pa_nil)))) (pe_call GT hr1 rfl gT FT.kp bT .nil pass0 (pa_cons (pv 0) (pa_cons pe_int pa_nil))) (fun _ _ => rfl)) pa_nil)))) (pe_tup (pa_cons pe_str (pa_cons (pe_un un_neg pe_int) pa_nil))) (nomark _)) (pss_one (ps_ret pe_bl)) pss_nil)
 (pss_one (ps_if (pt_cmpR (op_neD hr.units) (pe_call GF hr8 rfl gF FF.kp bF .nil pass0 (pa_cons (pv 6) (pa_cons (pv 3) (pa_cons pe_non pa_nil)))) (pe_tup (pa_cons pe_str (pa_cons pe_str pa_nil))) (nomark _)) (pss_one (ps_ret pe_bl)) pss_nil)))))
 (pss_one (ps_ret (pe_and (pe_cmpR (op_eqD hr.units) (pe_call GU hr6 rfl gU FU.kp bU .nil passL (pa_cons (pv 1) (pa_cons (pe_lst pa_nil) pa_nil))) (pe_tup (pa_cons (pe_tup pa_nil) (pa_cons (pe_tup pa_nil) pa_nil))) (nomark _)) (pe_one (pe_cmpR (op_eqD hr.units) (pe_call GV hr7 rfl gV FV.kp bV .nil passL (pa_cons (pv 1) (pa_cons (pe_tup pa_nil) pa_nil))) (pe_tup pa_nil) (nomark _)))))))))))))), ?_⟩
    -- the bad size
    refine ⟨_, rfl, (by show 6 ≤ sizeLine; decide), fun p1 hp1 => ?_⟩
    have pa1 : p1 ≠ a := fun z => by rw [z, ha] at hp1; cases hp1
    refine ⟨_, rfl, a, xs, 6, rfl, uk pa1.symm ha, hxl, by decide, fun H1 i1 y1 g1 e1 l1 a1 b1 => ?_⟩
    obtain ⟨bad, hb1, hb2⟩ := pick (xs := [V.int 0, .int (-1), .int 7, .non, .bl true, .str "a"]) a1 (by show i1 < 6; exact b1)
    refine ⟨p1, _, i1, bad, rfl, rfl, SqL.of (g1 _ _ upd_same pa1), hb1, ?_⟩
    obtain ⟨fb, gb⟩ : Flat bad ∧ goodL bad = false := by
      simp only [List.mem_cons, List.not_mem_nil, or_false] at hb2
      rcases hb2 with rfl | rfl | rfl | rfl | rfl | rfl
      · exact ⟨.int _, by decide⟩
      · exact ⟨.int _, by decide⟩
      · exact ⟨.int _, by decide⟩
      · exact ⟨.non, rfl⟩
      · exact ⟨.bl _, rfl⟩
      · exact ⟨.str _, rfl⟩
    have g01 : Grow a H H1 := fun b o e hb => g1 _ _ (uk (ne_of_none e hp1) e) hb
    -- the name that is none
    refine ⟨_, rfl, _, rfl, _, rfl, _, _, rfl, rfl, (by show 6 ≤ sizeLine; decide), fun p2 hp2 => ?_⟩
    have pa2 : p2 ≠ a := fun z => by rw [z, e1] at hp2; cases hp2
    refine ⟨_, rfl, a, y1, 6, rfl, uk pa2.symm e1, by omega, by decide, fun H2 i2 y2 g2 e2 l2 a2 b2 => ?_⟩
    obtain ⟨aw, ha1, ha2⟩ := pick (xs := [V.int (-1), .non, .bl true, .int (n : Int), .str "a", .int ((n : Int) + 9)]) a2 (by show i2 < 6; exact b2)
    refine ⟨p2, _, i2, aw, rfl, rfl, SqL.of (g2 _ _ upd_same pa2), ha1, ?_⟩
    obtain ⟨fa, ga, da, la⟩ : Flat aw ∧ nameOk n aw = false ∧ ∃ d, LitD aw d := by
      simp only [List.mem_cons, List.not_mem_nil, or_false] at ha2
      rcases ha2 with rfl | rfl | rfl | rfl | rfl | rfl
      · exact ⟨.int _, nameOk_int (by omega), _, lit_int _⟩
      · exact ⟨.non, rfl, _, lit_non⟩
      · exact ⟨.bl _, rfl, _, lit_bl _⟩
      · exact ⟨.int _, nameOk_int (by omega), _, lit_int _⟩
      · exact ⟨.str _, rfl, _, lit_str ok_a⟩
      · exact ⟨.int _, nameOk_int (by omega), _, lit_int _⟩
    have g02 : Grow a H H2 := fun b o e hb => g2 _ _ (uk (ne_of_none (g01 _ _ e hb) hp2) (g01 _ _ e hb)) hb
    have r2 := g02 _ _ hsr hra
    refine head_mk1 rfl h1 h6 fun H3 B LB s3 fB hBp => ?_
    have e3 := s3 _ _ e2
    have r3 := s3 _ _ r2
    -- a list with found as it is, and what was there
    refine ⟨_, rfl, ("new" : Str), bad, .int 0, "number", .str "size", rfl, Refs.new fb gb, fun H4 q4 s4 e4 => ⟨(by show 2 ≤ sizeLine; decide), fun q5 hq5 => ?_⟩⟩
    have s5 := same_upd (o := .tup [.str "number", .str "size"]) hq5
    refine ne_same (dp_two (s5 _ _ e4) (lit_str ok_size)) (dp_two upd_same (lit_str ok_size)) (lay_two ok_number (lit_str ok_size)) (by decide) ⟨_, rfl, iteF ?_⟩
    have s35 := s4.trans s5
    generalize upd H4 q5 (.tup [.str "number", .str "size"]) = H5 at s35 ⊢
    clear s5 s4
    refine ⟨(by show 3 ≤ sizeLine; decide), fun p6 hp6 => ⟨p6, rfl, ⟨_, SqL.of upd_same⟩, for_list (K := K) (a := p6) (xs := [V.str "step", .str "level", .str "taken"]) (fun i σ H' => ∃ z6, σ = [some (.ref a), some (.int n), some (.ref r), some bad, some aw, some (.ref B.p), z6, none] ∧ Same (upd H5 p6 (.lst [V.str "step", .str "level", .str "taken"])) H')
      ⟨none, rfl, fun _ _ e => e⟩ (fun i σ H' _ ⟨_, _, s1⟩ => SqL.of (s1 _ _ upd_same)) ?_ ?_⟩⟩
    · rintro i x σ H7 hx ⟨z6, rfl, s7⟩
      have hm := List.mem_of_getElem? hx
      have L7 := LB.same ((s35.trans (same_upd hp6)).trans s7)
      have R : ∃ z : Str, x = .str z ∧ Refs C H7 z (.ref B.p) aw "name" aw := by
        simp only [List.mem_cons, List.not_mem_nil, or_false] at hm
        rcases hm with rfl | rfl | rfl
        · exact ⟨_, rfl, Refs.step L7 (inv_init h1) h6 fa (.inl ga)⟩
        · exact ⟨_, rfl, Refs.level L7 (inv_init h1) fa ga⟩
        · exact ⟨_, rfl, Refs.taken L7 (inv_init h1) fa ga⟩
      obtain ⟨z, rfl, R⟩ := R
      refine ⟨_, rfl, _, rfl, _, rfl, z, .ref B.p, aw, "name", aw, rfl, R, fun H8 q8 s8 e8 => ⟨_, rfl, (by show 2 ≤ sizeLine; decide), fun q9 hq9 => ?_⟩⟩
      have s9 := same_upd (o := .tup [.str "name", aw]) hq9
      exact ne_same (dp_two (s9 _ _ e8) la) (dp_two upd_same la) (lay_two ok_name la) (by decide) ⟨_, rfl, iteF ⟨_, rfl, s7.trans (s8.trans s9)⟩⟩
    rintro σ H7 ⟨z6, rfl, s7⟩
    have s37 := (s35.trans (same_upd hp6)).trans s7
    have L7 := LB.same s37
    have e7 := s37 _ _ e3
    have r7 := s37 _ _ r3
    clear s7 s35
    have hn0 := (inv_init h1).len
    refine ⟨_, rfl, B.p, B.dx, _, rfl, L7.ob, B, n, init n, rfl, L7, hn0, (inv_init h1).nd, h6, fun H8 w8 s8 nw8 hw8 => ⟨(by show 0 ≤ sizeLine; decide), fun t8 ht8 => ?_⟩⟩
    rw [wrote_init] at hw8
    have s9 := same_upd (o := .tup []) ht8
    refine ne_same (d := natD []) (dp_nat (s9 _ _ hw8)) (dp_nat upd_same) (lay_nat _) (by decide) ⟨_, rfl, iteF ?_⟩
    have L9 := L7.same (s8.trans s9)
    refine ⟨_, rfl, B.p, B.dx, _, rfl, L9.ob, B, n, init n, rfl, L9, hn0, (inv_init h1).nd, h6, fun H10 w10 s10 nw10 hw10 => ⟨(by show 0 ≤ sizeLine; decide), fun t10 ht10 => ?_⟩⟩
    rw [gone_init] at hw10
    have s11 := same_upd (o := .tup []) ht10
    refine ne_same (d := natD []) (dp_nat (s11 _ _ hw10)) (dp_nat upd_same) (lay_nat _) (by decide) ⟨_, rfl, iteF ?_⟩
    have s711 := (s8.trans s9).trans (s10.trans s11)
    have e11 := s711 _ _ e7
    have r11 := s711 _ _ r7
    generalize upd H10 t10 (.tup []) = H11 at e11 r11 ⊢
    clear s11 s10 s9 s8 s711
    -- the row with the bad name in the middle
    refine ⟨_, rfl, r, _, rfl, .inl (SqL.of r11), fun c1 hc1 => ⟨_, rfl, _, rfl, (by show 2 ≤ sizeLine; decide), fun c2 hc2 => ?_⟩⟩
    have t1 := same_upd (o := .lst (natV sc)) hc1
    have t2 := same_upd (o := .lst [aw, .int (-7)]) hc2
    refine ⟨c1, c2, _, _, rfl, rfl, t2 _ _ upd_same, upd_same, (by rw [List.length_map, sizeLine_eq]; show sc.length + 2 ≤ _; omega), fun c3 hc3 => ?_⟩
    have t3 := same_upd (o := .lst (natV sc ++ [aw, .int (-7)])) hc3
    refine ⟨_, rfl, r, _, rfl, .inl (SqL.of ((t1.trans (t2.trans t3)) _ _ r11)), fun c4 hc4 => ?_⟩
    have t4 := same_upd (o := .lst (natV sc)) hc4
    refine ⟨c3, c4, _, _, rfl, rfl, t4 _ _ upd_same, upd_same, (by rw [List.length_append, List.length_map, sizeLine_eq]; show sc.length + 2 + sc.length ≤ _; omega), fun c5 hc5 => ?_⟩
    have t5 := same_upd (o := .lst (natV sc ++ [aw, .int (-7)] ++ natV sc)) hc5
    have t15 := t1.trans (t2.trans (t3.trans (t4.trans t5)))
    have e12 := t15 _ _ e11
    have row12 : upd (upd (upd (upd (upd H11 c1 (.lst (natV sc))) c2 (.lst [aw, .int (-7)])) c3 (.lst (natV sc ++ [aw, .int (-7)]))) c4 (.lst (natV sc))) c5 (.lst (natV sc ++ [aw, .int (-7)] ++ natV sc)) c5 = some (.lst (natV sc ++ [aw, .int (-7)] ++ natV sc)) := upd_same
    generalize upd (upd (upd (upd (upd H11 c1 (.lst (natV sc))) c2 (.lst [aw, .int (-7)])) c3 (.lst (natV sc ++ [aw, .int (-7)]))) c4 (.lst (natV sc))) c5 (.lst (natV sc ++ [aw, .int (-7)] ++ natV sc)) = H12 at e12 row12 ⊢
    clear t15 t5 t4 t3 t2 t1
    have c5a : c5 ≠ a := fun z => by
      rw [z] at hc5
      have : ∀ b o, H11 b = some o → upd (upd (upd (upd H11 c1 (.lst (natV sc))) c2 (.lst [aw, .int (-7)])) c3 (.lst (natV sc ++ [aw, .int (-7)]))) c4 (.lst (natV sc)) b = some o := fun b o e => (((same_upd hc1).trans (same_upd hc2)).trans ((same_upd hc3).trans (same_upd hc4))) b o e
      rw [this _ _ e11] at hc5
      cases hc5
    have rowF : ∀ x ∈ natV sc ++ [aw, .int (-7)] ++ natV sc, Flat x := fun x hx => by
      rcases List.mem_append.mp hx with hx | hx
      · rcases List.mem_append.mp hx with hx | hx
        · exact flat_nat x hx
        · simp only [List.mem_cons, List.not_mem_nil, or_false] at hx
          rcases hx with rfl | rfl
          · exact fa
          · exact .int _
      · exact flat_nat x hx
    have rowX : (natV sc ++ [aw, .int (-7)] ++ natV sc).find? (fun x => !nameOk n x) = some aw := by
      rw [List.append_assoc, List.find?_append]
      have e : (natV sc).find? (fun x => !nameOk n x) = none := by
        rw [List.find?_eq_none]
        intro x hx
        obtain ⟨j, hj, rfl⟩ := List.mem_map.mp hx
        rw [nameOk_lt (hsc j hj)]
        simp
      rw [e]
      simp [ga]
    refine ⟨(by show 2 ≤ sizeLine; decide), fun p6 hp6 => ?_⟩
    have p6a : p6 ≠ a := fun z => by rw [z, e12] at hp6; cases hp6
    have p6c : c5 ≠ p6 := ne_of_none row12 hp6
    refine ⟨p6, rfl, ⟨_, SqL.of upd_same⟩, for_list (K := K) (a := p6) (xs := [V.str "run", .str "blocks"]) (fun i σ H' => ∃ z6, σ = [some (.ref a), some (.int n), some (.ref r), some bad, some aw, some (.ref B.p), z6, some (.ref c5)] ∧ Grow a (upd H12 p6 (.lst [V.str "run", .str "blocks"])) H' ∧ ∃ ys, H' a = some (.lst (intV ys)) ∧ ys.length ≤ 4000)
      ⟨_, rfl, Grow.refl _ _, y2, uk p6a.symm e12, by omega⟩ (fun i σ H' _ ⟨_, _, g, _⟩ => SqL.of (g _ _ upd_same p6a)) ?_ ?_⟩
    · rintro i x σ H13 hx ⟨z6, rfl, g13, ys, e13, l13⟩
      have hm := List.mem_of_getElem? hx
      have row13 := g13 _ _ (uk p6c row12) c5a
      obtain ⟨z, rfl, hz⟩ : ∃ z : Str, x = .str z ∧ (z = "run" ∨ z = "blocks") := by
        simp only [List.mem_cons, List.not_mem_nil, or_false] at hm
        rcases hm with rfl | rfl
        · exact ⟨_, rfl, .inl rfl⟩
        · exact ⟨_, rfl, .inr rfl⟩
      refine ⟨_, rfl, _, rfl, _, rfl, z, .int n, .ref c5, "name", aw, rfl, Refs.row hz h1 h6 ⟨c5, rfl, .inl row13⟩ rowF rowX, fun H14 q14 s14 f14 => ⟨_, rfl, (by show 2 ≤ sizeLine; decide), fun q15 hq15 => ?_⟩⟩
      have s15 := same_upd (o := .tup [.str "name", aw]) hq15
      refine ne_same (dp_two (s15 _ _ f14) la) (dp_two upd_same la) (lay_two ok_name la) (by decide) ⟨_, rfl, iteF ?_⟩
      refine ⟨_, rfl, _, rfl, _, rfl, z, bad, .ref c5, "number", .str "size", rfl, Refs.size hz fb gb, fun H16 q16 s16 f16 => ⟨(by show 2 ≤ sizeLine; decide), fun q17 hq17 => ?_⟩⟩
      have s17 := same_upd (o := .tup [.str "number", .str "size"]) hq17
      refine ne_same (dp_two (s17 _ _ f16) (lit_str ok_size)) (dp_two upd_same (lit_str ok_size)) (lay_two ok_number (lit_str ok_size)) (by decide) ⟨_, rfl, iteF ?_⟩
      have s1317 := (s14.trans s15).trans (s16.trans s17)
      have e17 := s1317 _ _ e13
      -- a schedule that is no row
      refine ⟨_, rfl, _, rfl, (by show 3 ≤ sizeLine; decide), fun p18 hp18 => ?_⟩
      have pa18 : p18 ≠ a := fun z => by rw [z, e17] at hp18; cases hp18
      refine ⟨_, rfl, a, ys, 3, rfl, uk pa18.symm e17, l13, by decide, fun H18 i18 y18 g18 e18 l18 a18 b18 => ?_⟩
      obtain ⟨no, hno1, hno2⟩ := pick (xs := [V.non, .int 5, .str "a"]) a18 (by show i18 < 3; exact b18)
      refine ⟨p18, _, i18, no, rfl, rfl, SqL.of (g18 _ _ upd_same pa18), hno1, ?_⟩
      have fno : Flat no := by
        simp only [List.mem_cons, List.not_mem_nil, or_false] at hno2
        rcases hno2 with rfl | rfl | rfl
        · exact .non
        · exact .int _
        · exact .str _
      refine ⟨z, .int n, no, "name", .int (-1), rfl, Refs.flat hz h1 h6 fno, fun H19 q19 s19 f19 => ⟨_, rfl, (by show 2 ≤ sizeLine; decide), fun q20 hq20 => ?_⟩⟩
      have s20 := same_upd (o := .tup [.str "name", .int (-1)]) hq20
      refine ne_same (dp_two (s20 _ _ f19) (lit_int _)) (dp_two upd_same (lit_int _)) (lay_two ok_name (lit_int _)) (by decide) ⟨_, rfl, iteF ?_⟩
      refine ⟨_, rfl, _, rfl, z, bad, .non, "number", .str "size", rfl, Refs.size hz fb gb, fun H21 q21 s21 f21 => ⟨(by show 2 ≤ sizeLine; decide), fun q22 hq22 => ?_⟩⟩
      have s22 := same_upd (o := .tup [.str "number", .str "size"]) hq22
      refine ne_same (dp_two (s22 _ _ f21) (lit_str ok_size)) (dp_two upd_same (lit_str ok_size)) (lay_two ok_number (lit_str ok_size)) (by decide) ⟨_, rfl, iteF ?_⟩
      have s1822 := (s19.trans s20).trans (s21.trans s22)
      refine ⟨_, rfl, fun b o e hb => s1822 _ _ (g18 _ _ (same_upd hp18 _ _ (s1317 _ _ (g13 _ _ e hb))) hb), y18, s1822 _ _ e18, by omega⟩
    rintro σ H13 ⟨z6, rfl, g13, ys, e13, l13⟩
    -- no step at all
    refine ⟨_, rfl, (by show 0 ≤ sizeLine; decide), fun r1 hr1' => ⟨.int (n : Int), .ref r1, rfl, .int _, fun hg => ?_, fun _ => ⟨n, rfl, .inr (.inr ⟨[], ⟨r1, rfl, .inl upd_same⟩, fun i hi => (by cases hi), fun H14 told s14 RV => ?_⟩)⟩⟩⟩
    · rw [show goodL (V.int (n : Int)) = true from decide_eq_true (by omega)] at hg
      cases hg
    obtain ⟨tq, tw, tr, rfl, q1, q2, as0, bs0, rr1, m1, m2, rr⟩ := RV
    have er : rowsOf n (runS n []) = [] := by
      show rowsOf n (init n) = []
      unfold rowsOf
      rw [gone_init]; rfl
    have ew : wroteL n (runS n []) = [] := wrote_init
    rw [er] at m1
    rw [ew] at q2
    have eas : as0 = [] := List.length_eq_zero_iff.mp m1
    subst eas
    refine ⟨(by show 0 ≤ sizeLine; decide), fun t1 ht1 => ⟨(by show 0 ≤ sizeLine; decide), fun t2 ht2 => ⟨(by show 2 ≤ sizeLine; decide), fun t3 ht3 => ?_⟩⟩⟩
    have u1 := same_upd (o := .tup []) ht1
    have u2 := same_upd (o := .tup []) ht2
    have u3 := same_upd (o := .tup [.ref t1, .ref t2]) ht3
    have u13 := u1.trans (u2.trans u3)
    have ly : (PyData.tuple [natD [], .tuple ([].map rowD)]).canLay0 = true ∧ (PyData.tuple [natD [], .tuple ([].map rowD)]).depth ≤ 4 := lay_run [] []
    refine ⟨.tuple [natD [], .tuple ([].map rowD)], .tuple [natD [], .tuple ([].map rowD)], dp_run (u13 _ _ q1) (u13 _ _ q2) (.tup (SqT.of (u13 _ _ rr1)) .nil), dp_run upd_same (u3 _ _ (u2 _ _ upd_same)) (.tup (SqT.of (u3 _ _ upd_same)) .nil), shaped_lay ly (by decide), shaped_lay ly (by decide), ?_⟩
    rw [SeqAt.eqv_refl _ ly.1]
    refine ⟨_, rfl, iteT ?_⟩
    refine ⟨_, rfl, (by show 0 ≤ sizeLine; decide), fun r2' hr2' => ⟨.int (n : Int), .ref r2', rfl, .int _, fun hg => ?_, fun _ => ⟨n, rfl, h1, h6, .inr (.inr ⟨[], ⟨r2', rfl, .inr upd_same⟩, fun i hi => (by cases hi), fun H15 bv s15 BV => ?_⟩)⟩⟩⟩
    · rw [show goodL (V.int (n : Int)) = true from decide_eq_true (by omega)] at hg
      cases hg
    rw [show blocksL n (runS n []) = [] from blocks_init] at BV
    refine ⟨(by show 0 ≤ sizeLine; decide), fun t4 ht4 => ?_⟩
    have u4 := same_upd (o := .tup []) ht4
    have ly2 : (PyData.tuple ([].map natD)).canLay0 = true ∧ (PyData.tuple ([].map natD)).depth ≤ 2 := lay_blk []
    obtain ⟨bq, bas, rfl, hb0, hbt0⟩ := BV
    refine ⟨.tuple ([].map natD), .tuple ([].map natD), dp_blk ⟨bq, bas, rfl, u4 _ _ hb0, hbt0.keep fun a xs e => u4 _ _ e⟩, .tup (SqT.of upd_same) .nil, shaped_lay ly2 (by decide), shaped_lay ly2 (by decide), ?_⟩
    rw [SeqAt.eqv_refl _ ly2.1]
    exact k _
theorem scLaw : FnScope ["_law_script", "_law_found", "_law_size", "_law_schedule_here"] ["_law_script"] (defScope lLaw) := ⟨rfl, rfl, rfl, by decide +kernel, rfl, by decide +kernel, by decide +kernel⟩
/-- law(script) -/
def spLaw (K : PySem.W.Frag) : Sp := fun vs H Q _ => ∃ (a : Addr) (ns : List Int), vs = [.ref a] ∧ SqL K H a (intV ns) ∧ ns.length ≤ 63 ∧ ∀ H', Q (.bl true) H'
theorem ok_law {f fT fD fS fW fA : Addr} {fd fdT fdD fdS fdW fdA : FuncData} (F : Fun K "law" "law" lLaw f fd) (FT : Fun K "_law_take" "_law_take" lTake fT fdT) (gT : mg "_law_take" = some (.ref fT)) (bT : Binds K fdT ["_law_found", "_law_many"] [])
    (FD : Fun K "_law_drawn" "_law_drawn" lDrawn fD fdD) (gD : mg "_law_drawn" = some (.ref fD)) (bD : Binds K fdD ["_law_script"] []) (FS : Fun K "_law_schedule" "_law_schedule" lSchedule fS fdS) (gS : mg "_law_schedule" = some (.ref fS)) (bS : Binds K fdS ["_law_found", "_law_size"] [])
    (FW : Fun K "_law_walked" "_law_walked" lWalked fW fdW) (gW : mg "_law_walked" = some (.ref fW)) (bW : Binds K fdW ["_law_size", "_law_schedule_here"] []) (GW : FnOk PR w K mg base CX0 9 fW fdW ["_law_size", "_law_schedule_here"] spLWalked)
    (FA : Fun K "_law_all_refused" "_law_all_refused" lAll fA fdA) (gA : mg "_law_all_refused" = some (.ref fA)) (bA : Binds K fdA ["_law_found", "_law_size", "_law_schedule_here"] []) (GA : FnOk PR w K mg base CX0 9 fA fdA ["_law_found", "_law_size", "_law_schedule_here"] spLAll) (T : Blt mg) :
    FnOk PR w K mg base CX0 10 f fd ["_law_script"] (spLaw K) := by
  have GT : FnOk PR w K mg base CX0 1 fT fdT ["_law_found", "_law_many"] spLTake := ok_lTake FT T
  have GD : FnOk PR w K mg base CX0 1 fD fdD ["_law_script"] (spLDrawn K) := ok_lDrawn FD T
  have GS : FnOk PR w K mg base CX0 2 fS fdS ["_law_found", "_law_size"] spLSchedule := ok_lSchedule FS FT gT bT T
  refine F.ok scLaw (fun vs H Q E h => ?_) (fun cdv A outer s H vs Q E hr h => ?_)
  · obtain ⟨a, ns, rfl, _⟩ := h
    rfl
  · obtain ⟨a, ns, rfl, ha, hl, k⟩ := h
    have hr1 : Room 1 _ := hr.mono (by decide)
    have hr2 : Room 2 _ := hr.mono (by decide)
    have hr9 : Room 9 _ := hr.mono (by decide)
    refine ⟨_, (pss_cons (ps_set (i := 1) scLaw.nd rfl (Or.inl rfl) (pe_call GD hr1 rfl gD FD.kp bD .nil pass0 (pa_cons (pv 0) pa_nil)))
 (pss_cons (ps_set (i := 2) scLaw.nd rfl (Or.inl rfl) (pe_op op_add pe_int (pe_call GT hr1 rfl gT FT.kp bT .nil pass0 (pa_cons (pv 1) (pa_cons pe_int pa_nil)))))
 (pss_cons (ps_if (PW.pt (pw_and (pt_cmpR op_eq (pv 2) pe_int (nomark _)) (pw_and1 (pt_cmpR op_eq (pe_call GT hr1 rfl gT FT.kp bT .nil pass0 (pa_cons (pv 1) (pa_cons pe_int pa_nil))) pe_int (nomark _))))) (pss_one (ps_set (i := 2) scLaw.nd rfl (Or.inl rfl) (pe_op op_add pe_int (pe_call GT hr1 rfl gT FT.kp bT .nil pass0 (pa_cons (pv 1) (pa_cons pe_int pa_nil)))))) pss_nil)
 (pss_cons (ps_set (i := 3) scLaw.nd rfl (Or.inl rfl) (pe_call GS hr2 rfl gS FS.kp bS .nil pass0 (pa_cons (pv 1) (pa_cons (pv 2) pa_nil))))
 (pss_one (ps_ret (pe_and (pe_call GW hr9 rfl gW FW.kp bW .nil pass0 (pa_cons (pv 2) (pa_cons (pv 3) pa_nil))) (pe_one (pe_call GA hr9 rfl gA FA.kp bA .nil pass0 (pa_cons (pv 1) (pa_cons (pv 2) (pa_cons (pv 3) pa_nil)))))))))))), ?_⟩
    refine ⟨_, rfl, a, ns, rfl, ha, hl, fun H1 fo xs s1 hfo hx hxl => ?_⟩
    refine ⟨_, rfl, fo, xs, 4, rfl, hx, hxl, by decide, fun H2 r2 y2 g2 e2 l2 a2 b2 => ?_⟩
    have fin : ∀ (D : Ends) (H3 : Hp) (x : Int) (ys : List Int), 1 ≤ x → x ≤ 6 → H3 fo = some (.lst (intV ys)) → ys.length ≤ 4000 → (∀ v H', v = .bl true → D.rt v H') →
        tSeq (tAsg (tCall spLSchedule [] E0 (tCons (tVar 1) (tCons (tVar 2) tNil))) (gName 3)) (tRet (tAndV (tCall spLWalked [] E0 (tCons (tVar 2) (tCons (tVar 3) tNil))) (tCall spLAll [] E0 (tCons (tVar 1) (tCons (tVar 2) (tCons (tVar 3) tNil)))))) D [some (.ref a), some (.ref fo), some (.int x), none] H3 := fun D H3 x ys h1 h6 e3 l3 hD => by
      obtain ⟨n, rfl⟩ : ∃ n : Nat, x = (n : Int) := ⟨x.toNat, by omega⟩
      refine ⟨_, rfl, _, rfl, fo, ys, n, rfl, e3, l3, by omega, by omega, fun H4 r sc zs g4 hr4 er hsc hsl ez hzl => ?_⟩
      have hrf : r ≠ fo := fun z => by rw [z, e3] at hr4; cases hr4
      refine ⟨_, rfl, _, rfl, n, r, sc, rfl, by omega, by omega, er, hsc, hsl, fun H5 s5 => ⟨_, rfl, ?_⟩⟩
      exact iteT ⟨_, rfl, _, rfl, _, rfl, fo, zs, n, r, sc, rfl, s5 _ _ ez, hzl, by omega, by omega, hrf, s5 _ _ er, hsc, hsl, fun H6 => hD _ _ rfl⟩
    refine ⟨_, _, rfl, rfl, _, rfl, rfl, _, rfl, ite2 (fun c => ?_) (fun c => ?_)⟩
    · refine ⟨_, rfl, fo, y2, 6, rfl, e2, by omega, by decide, fun H3 r3 y3 g3 e3 l3 a3 b3 => ?_⟩
      refine ⟨rfl, _, rfl, ite2 (fun c2 => ?_) (fun c2 => ?_)⟩
      · refine ⟨_, rfl, fo, y3, 2, rfl, e3, by omega, by decide, fun H4 r4 y4 g4 e4 l4 a4 b4 => ?_⟩
        refine ⟨_, _, rfl, rfl, ?_⟩
        exact fin _ H4 (5 + r4) y4 (by omega) (by omega) e4 (by omega) fun v H' e => by subst e; exact k H'
      · exact fin _ H3 (1 + r2) y3 (by omega) (by omega) e3 (by omega) fun v H' e => by subst e; exact k H'
    · exact fin _ H2 (1 + r2) y2 (by omega) (by omega) e2 (by omega) fun v H' e => by subst e; exact k H'
end
end K07
/-! The end. -/
namespace K07
open PySem PySem.Spec PyProof.Rows L2 PySem.W
/-- an error of the class at S against the class that a clause names -/
theorem exm_sub {K : PySem.W.Frag} {S c : Addr} {b : Bool} (h0 : PySem.W.subIn K (.ref c) (.type "BaseException") = some true) (h2 : PySem.W.isClsIn K c = true) (h3 : PySem.W.typeIn K (.ref c) = some (.type "type")) (h4 : PySem.W.subIn K (.ref S) (.ref c) = some b) :
    PySem.W.exmOne K (.ref S) (.ref c) = some b := by
  have e1 : (PySem.W.subIn K (.ref c) (.type "BaseException") == some true) = true := by rw [h0] <;> rfl
  have e2 : ((PySem.W.clsIn K c).isSome && PySem.W.typeIn K (.ref c) == some (.type "type")) = true := by
    have h2' : (PySem.W.clsIn K c).isSome = true := h2
    rw [h2', h3] <;> rfl
  show (if (PySem.W.subIn K (.ref c) (.type "BaseException") == some true) = true then (if ((PySem.W.clsIn K c).isSome && PySem.W.typeIn K (.ref c) == some (.type "type")) = true then PySem.W.subIn K (.ref S) (.ref c) else none) else none) = some b
  rw [if_pos e1, if_pos e2]
  exact h4
theorem along_of {K : PySem.W.Frag} {CE N : Addr} {nm q bs bm sn sub ab col dd k0 k1 k2 k3 k5} {r : Option Value} (l : K.lookup CE = some (excClassObj nm q CE N bs bm true sn sub ab col dd k0 k1 k2 k3 k5 "Exception.__new__")) (h : PySem.W.findIn K (.ref CE) "__init__" = some r) : alongIn K "__init__" (.ref CE :: bm) = some r := by
  unfold PySem.W.findIn at h
  simp only [] at h
  rw [l] at h
  exact h
theorem over_of {K : PySem.W.Frag} {C N N2 : Addr} {nm q bs bm sn sub ab col dd k0 k1 k2 k3 k5} (l : K.lookup C = some (excClassObj nm q C N bs (.ref N2 :: bm) true sn sub ab col dd k0 k1 k2 k3 k5 "Exception.__new__")) (h : excTail PySem.ESX.exTail bm = true) : excOver K C PySem.ESX.exTail = true := by
  unfold excOver PySem.W.clsIn
  rw [l]
  show ((C == C) && excTail PySem.ESX.exTail (.ref N2 :: bm)) = true
  rw [beq_self_eq_true]
  exact h
theorem all_mk {w : World} {K : PySem.W.Frag} {h : Heap} {mg : Str → Option Value} {fa C CN CB CE f_ii f_ir f_cn f_cl f_cs f_ru f_bl f_dr f_ta f_li f_re f_sc f_nw f_st f_fe f_sa f_wi f_ri f_du f_wa f_fi f_ar f_la f_in f_wr f_go f_le f_tk f_sp f_kn p_wr p_go fi_n fi_b ucd_n ucd_b ucc_n ucc_b N_n N_b N_e : Addr} (X : K.In h) (G : h.Ns mainGlobals mg) (hfa : mg "law" = some (.ref fa))
    {od_ii an_ii od_ir an_ir od_cn an_cn od_cl an_cl od_cs an_cs od_ru an_ru od_bl an_bl od_dr an_dr od_ta an_ta od_li an_li od_re an_re od_sc an_sc od_nw an_nw od_st an_st od_fe an_fe od_sa an_sa od_wi an_wi od_ri an_ri od_du an_du od_wa an_wa od_fi an_fi od_ar an_ar od_la an_la od_in an_in od_wr an_wr od_go an_go od_le an_le od_tk an_tk od_sp an_sp od_kn an_kn dd_n ud_n ua_n vd_n wd_n dd_b ud_b ua_b vd_b wd_b dd_e : Option Addr} {sl_ii sl_ir sl_cn sl_cl sl_cs sl_ru sl_bl sl_dr sl_ta sl_li sl_re sl_sc sl_nw sl_st sl_fe sl_sa sl_wi sl_ri sl_du sl_wa sl_fi sl_ar sl_la sl_in sl_wr sl_go sl_le sl_tk sl_sp sl_kn us_n vt_n wt_n us_b vt_b wt_b : Array (Option Value)}
    {oc_ii kV_ii dc_ii pm_ii cd_ii ct_ii oc_ir kV_ir dc_ir pm_ir cd_ir ct_ir oc_cn kV_cn dc_cn pm_cn cd_cn ct_cn oc_cl kV_cl dc_cl pm_cl cd_cl ct_cl oc_cs kV_cs dc_cs pm_cs cd_cs ct_cs oc_ru kV_ru dc_ru pm_ru cd_ru ct_ru oc_bl kV_bl dc_bl pm_bl cd_bl ct_bl oc_dr kV_dr dc_dr pm_dr cd_dr ct_dr oc_ta kV_ta dc_ta pm_ta cd_ta ct_ta oc_li kV_li dc_li pm_li cd_li ct_li oc_re kV_re dc_re pm_re cd_re ct_re oc_sc kV_sc dc_sc pm_sc cd_sc ct_sc oc_nw kV_nw dc_nw pm_nw cd_nw ct_nw oc_st kV_st dc_st pm_st cd_st ct_st oc_fe kV_fe dc_fe pm_fe cd_fe ct_fe oc_sa kV_sa dc_sa pm_sa cd_sa ct_sa oc_wi kV_wi dc_wi pm_wi cd_wi ct_wi oc_ri kV_ri dc_ri pm_ri cd_ri ct_ri oc_du kV_du dc_du pm_du cd_du ct_du oc_wa kV_wa dc_wa pm_wa cd_wa ct_wa oc_fi kV_fi dc_fi pm_fi cd_fi ct_fi oc_ar kV_ar dc_ar pm_ar cd_ar ct_ar oc_la kV_la dc_la pm_la cd_la ct_la oc_in kV_in dc_in pm_in cd_in ct_in oc_wr kV_wr dc_wr pm_wr cd_wr ct_wr oc_go kV_go dc_go pm_go cd_go ct_go oc_le kV_le dc_le pm_le cd_le ct_le oc_tk kV_tk dc_tk pm_tk cd_tk ct_tk oc_sp kV_sp dc_sp pm_sp cd_sp ct_sp oc_kn kV_kn dc_kn pm_kn cd_kn ct_kn uo_n uk_n uc_n up_n ut_n vo_n wo_n uo_b uk_b uc_b up_b ut_b vo_b wo_b : Value} {rest_wr rest_go : List Value} {tM : Tok}
    {nm_n} {q_n} {bs_n} {sn_n} {sub_n} {ab_n} {col_n} {k0_n} {k1_n} {k2_n} {k3_n} {k5_n} {vs_n} {file_n} {tf_n} {nm_b} {q_b} {bs_b} {sn_b} {sub_b} {ab_b} {col_b} {k0_b} {k1_b} {k2_b} {k3_b} {k5_b} {vs_b} {file_b} {tf_b} {nm_e} {q_e} {bs_e} {bm_e} {sn_e} {sub_e} {ab_e} {col_e} {k0_e} {k1_e} {k2_e} {k3_e} {k5_e}
    (aC : PySem.W.nsIn K mainGlobals "Levels" = some (some (.ref C)))
    (aN : PySem.W.nsIn K mainGlobals "BadName" = some (some (.ref CN)))
    (aB : PySem.W.nsIn K mainGlobals "BadNumber" = some (some (.ref CB)))
    (aE : PySem.W.nsIn K mainGlobals "TaskError" = some (some (.ref CE)))
    (aM : PySem.W.nsIn K mainGlobals "MOST_SIZE" = some (some (.int 6 tM)))
    (a_ii : PySem.W.nsIn K mainGlobals "is_int" = some (some (.ref f_ii)))
    (l_ii : K.lookup f_ii = some ⟨oc_ii, od_ii, .func (PySem.W.fnOf "is_int" "is_int" (defArgs sIsInt) (defBody sIsInt) (defScope sIsInt) .none kV_ii dc_ii pm_ii an_ii cd_ii ct_ii), sl_ii⟩)
    (c_ii : PySem.W.codeIn K cd_ii "is_int" = true)
    (k_ii : PySem.W.keepIn K (.ref f_ii) = true)
    (a_ir : PySem.W.nsIn K mainGlobals "is_row" = some (some (.ref f_ir)))
    (l_ir : K.lookup f_ir = some ⟨oc_ir, od_ir, .func (PySem.W.fnOf "is_row" "is_row" (defArgs sIsRow) (defBody sIsRow) (defScope sIsRow) .none kV_ir dc_ir pm_ir an_ir cd_ir ct_ir), sl_ir⟩)
    (c_ir : PySem.W.codeIn K cd_ir "is_row" = true)
    (k_ir : PySem.W.keepIn K (.ref f_ir) = true)
    (a_cn : PySem.W.nsIn K mainGlobals "check_number" = some (some (.ref f_cn)))
    (l_cn : K.lookup f_cn = some ⟨oc_cn, od_cn, .func (PySem.W.fnOf "check_number" "check_number" (defArgs sChkNum) (defBody sChkNum) (defScope sChkNum) .none kV_cn dc_cn pm_cn an_cn cd_cn ct_cn), sl_cn⟩)
    (c_cn : PySem.W.codeIn K cd_cn "check_number" = true)
    (k_cn : PySem.W.keepIn K (.ref f_cn) = true)
    (a_cl : PySem.W.nsIn K mainGlobals "check_levels" = some (some (.ref f_cl)))
    (l_cl : K.lookup f_cl = some ⟨oc_cl, od_cl, .func (PySem.W.fnOf "check_levels" "check_levels" (defArgs sChkLev) (defBody sChkLev) (defScope sChkLev) .none kV_cl dc_cl pm_cl an_cl cd_cl ct_cl), sl_cl⟩)
    (c_cl : PySem.W.codeIn K cd_cl "check_levels" = true)
    (k_cl : PySem.W.keepIn K (.ref f_cl) = true)
    (a_cs : PySem.W.nsIn K mainGlobals "check_schedule" = some (some (.ref f_cs)))
    (l_cs : K.lookup f_cs = some ⟨oc_cs, od_cs, .func (PySem.W.fnOf "check_schedule" "check_schedule" (defArgs sChkSch) (defBody sChkSch) (defScope sChkSch) .none kV_cs dc_cs pm_cs an_cs cd_cs ct_cs), sl_cs⟩)
    (c_cs : PySem.W.codeIn K cd_cs "check_schedule" = true)
    (k_cs : PySem.W.keepIn K (.ref f_cs) = true)
    (a_ru : PySem.W.nsIn K mainGlobals "levels_run" = some (some (.ref f_ru)))
    (l_ru : K.lookup f_ru = some ⟨oc_ru, od_ru, .func (PySem.W.fnOf "levels_run" "levels_run" (defArgs sRun) (defBody sRun) (defScope sRun) .none kV_ru dc_ru pm_ru an_ru cd_ru ct_ru), sl_ru⟩)
    (c_ru : PySem.W.codeIn K cd_ru "levels_run" = true)
    (k_ru : PySem.W.keepIn K (.ref f_ru) = true)
    (a_bl : PySem.W.nsIn K mainGlobals "levels_blocks" = some (some (.ref f_bl)))
    (l_bl : K.lookup f_bl = some ⟨oc_bl, od_bl, .func (PySem.W.fnOf "levels_blocks" "levels_blocks" (defArgs sBlocks) (defBody sBlocks) (defScope sBlocks) .none kV_bl dc_bl pm_bl an_bl cd_bl ct_bl), sl_bl⟩)
    (c_bl : PySem.W.codeIn K cd_bl "levels_blocks" = true)
    (k_bl : PySem.W.keepIn K (.ref f_bl) = true)
    (a_dr : PySem.W.nsIn K mainGlobals "_law_drawn" = some (some (.ref f_dr)))
    (l_dr : K.lookup f_dr = some ⟨oc_dr, od_dr, .func (PySem.W.fnOf "_law_drawn" "_law_drawn" (defArgs lDrawn) (defBody lDrawn) (defScope lDrawn) .none kV_dr dc_dr pm_dr an_dr cd_dr ct_dr), sl_dr⟩)
    (c_dr : PySem.W.codeIn K cd_dr "_law_drawn" = true)
    (k_dr : PySem.W.keepIn K (.ref f_dr) = true)
    (a_ta : PySem.W.nsIn K mainGlobals "_law_take" = some (some (.ref f_ta)))
    (l_ta : K.lookup f_ta = some ⟨oc_ta, od_ta, .func (PySem.W.fnOf "_law_take" "_law_take" (defArgs lTake) (defBody lTake) (defScope lTake) .none kV_ta dc_ta pm_ta an_ta cd_ta ct_ta), sl_ta⟩)
    (c_ta : PySem.W.codeIn K cd_ta "_law_take" = true)
    (k_ta : PySem.W.keepIn K (.ref f_ta) = true)
    (a_li : PySem.W.nsIn K mainGlobals "_law_int" = some (some (.ref f_li)))
    (l_li : K.lookup f_li = some ⟨oc_li, od_li, .func (PySem.W.fnOf "_law_int" "_law_int" (defArgs lInt) (defBody lInt) (defScope lInt) .none kV_li dc_li pm_li an_li cd_li ct_li), sl_li⟩)
    (c_li : PySem.W.codeIn K cd_li "_law_int" = true)
    (k_li : PySem.W.keepIn K (.ref f_li) = true)
    (a_re : PySem.W.nsIn K mainGlobals "_law_refused" = some (some (.ref f_re)))
    (l_re : K.lookup f_re = some ⟨oc_re, od_re, .func (PySem.W.fnOf "_law_refused" "_law_refused" (defArgs lRefused) (defBody lRefused) (defScope lRefused) .none kV_re dc_re pm_re an_re cd_re ct_re), sl_re⟩)
    (c_re : PySem.W.codeIn K cd_re "_law_refused" = true)
    (k_re : PySem.W.keepIn K (.ref f_re) = true)
    (a_sc : PySem.W.nsIn K mainGlobals "_law_schedule" = some (some (.ref f_sc)))
    (l_sc : K.lookup f_sc = some ⟨oc_sc, od_sc, .func (PySem.W.fnOf "_law_schedule" "_law_schedule" (defArgs lSchedule) (defBody lSchedule) (defScope lSchedule) .none kV_sc dc_sc pm_sc an_sc cd_sc ct_sc), sl_sc⟩)
    (c_sc : PySem.W.codeIn K cd_sc "_law_schedule" = true)
    (k_sc : PySem.W.keepIn K (.ref f_sc) = true)
    (a_nw : PySem.W.nsIn K mainGlobals "_law_new" = some (some (.ref f_nw)))
    (l_nw : K.lookup f_nw = some ⟨oc_nw, od_nw, .func (PySem.W.fnOf "_law_new" "_law_new" (defArgs lNew) (defBody lNew) (defScope lNew) .none kV_nw dc_nw pm_nw an_nw cd_nw ct_nw), sl_nw⟩)
    (c_nw : PySem.W.codeIn K cd_nw "_law_new" = true)
    (k_nw : PySem.W.keepIn K (.ref f_nw) = true)
    (a_st : PySem.W.nsIn K mainGlobals "_law_step" = some (some (.ref f_st)))
    (l_st : K.lookup f_st = some ⟨oc_st, od_st, .func (PySem.W.fnOf "_law_step" "_law_step" (defArgs lStep) (defBody lStep) (defScope lStep) .none kV_st dc_st pm_st an_st cd_st ct_st), sl_st⟩)
    (c_st : PySem.W.codeIn K cd_st "_law_step" = true)
    (k_st : PySem.W.keepIn K (.ref f_st) = true)
    (a_fe : PySem.W.nsIn K mainGlobals "_law_few_below" = some (some (.ref f_fe)))
    (l_fe : K.lookup f_fe = some ⟨oc_fe, od_fe, .func (PySem.W.fnOf "_law_few_below" "_law_few_below" (defArgs lFew) (defBody lFew) (defScope lFew) .none kV_fe dc_fe pm_fe an_fe cd_fe ct_fe), sl_fe⟩)
    (c_fe : PySem.W.codeIn K cd_fe "_law_few_below" = true)
    (k_fe : PySem.W.keepIn K (.ref f_fe) = true)
    (a_sa : PySem.W.nsIn K mainGlobals "_law_same" = some (some (.ref f_sa)))
    (l_sa : K.lookup f_sa = some ⟨oc_sa, od_sa, .func (PySem.W.fnOf "_law_same" "_law_same" (defArgs lSame) (defBody lSame) (defScope lSame) .none kV_sa dc_sa pm_sa an_sa cd_sa ct_sa), sl_sa⟩)
    (c_sa : PySem.W.codeIn K cd_sa "_law_same" = true)
    (k_sa : PySem.W.keepIn K (.ref f_sa) = true)
    (a_wi : PySem.W.nsIn K mainGlobals "_law_within" = some (some (.ref f_wi)))
    (l_wi : K.lookup f_wi = some ⟨oc_wi, od_wi, .func (PySem.W.fnOf "_law_within" "_law_within" (defArgs lWithin) (defBody lWithin) (defScope lWithin) .none kV_wi dc_wi pm_wi an_wi cd_wi ct_wi), sl_wi⟩)
    (c_wi : PySem.W.codeIn K cd_wi "_law_within" = true)
    (k_wi : PySem.W.keepIn K (.ref f_wi) = true)
    (a_ri : PySem.W.nsIn K mainGlobals "_law_looks_right" = some (some (.ref f_ri)))
    (l_ri : K.lookup f_ri = some ⟨oc_ri, od_ri, .func (PySem.W.fnOf "_law_looks_right" "_law_looks_right" (defArgs lRight) (defBody lRight) (defScope lRight) .none kV_ri dc_ri pm_ri an_ri cd_ri ct_ri), sl_ri⟩)
    (c_ri : PySem.W.codeIn K cd_ri "_law_looks_right" = true)
    (k_ri : PySem.W.keepIn K (.ref f_ri) = true)
    (a_du : PySem.W.nsIn K mainGlobals "_law_blocks_due" = some (some (.ref f_du)))
    (l_du : K.lookup f_du = some ⟨oc_du, od_du, .func (PySem.W.fnOf "_law_blocks_due" "_law_blocks_due" (defArgs lDue) (defBody lDue) (defScope lDue) .none kV_du dc_du pm_du an_du cd_du ct_du), sl_du⟩)
    (c_du : PySem.W.codeIn K cd_du "_law_blocks_due" = true)
    (k_du : PySem.W.keepIn K (.ref f_du) = true)
    (a_wa : PySem.W.nsIn K mainGlobals "_law_walked" = some (some (.ref f_wa)))
    (l_wa : K.lookup f_wa = some ⟨oc_wa, od_wa, .func (PySem.W.fnOf "_law_walked" "_law_walked" (defArgs lWalked) (defBody lWalked) (defScope lWalked) .none kV_wa dc_wa pm_wa an_wa cd_wa ct_wa), sl_wa⟩)
    (c_wa : PySem.W.codeIn K cd_wa "_law_walked" = true)
    (k_wa : PySem.W.keepIn K (.ref f_wa) = true)
    (a_fi : PySem.W.nsIn K mainGlobals "_law_finish" = some (some (.ref f_fi)))
    (l_fi : K.lookup f_fi = some ⟨oc_fi, od_fi, .func (PySem.W.fnOf "_law_finish" "_law_finish" (defArgs lFinish) (defBody lFinish) (defScope lFinish) .none kV_fi dc_fi pm_fi an_fi cd_fi ct_fi), sl_fi⟩)
    (c_fi : PySem.W.codeIn K cd_fi "_law_finish" = true)
    (k_fi : PySem.W.keepIn K (.ref f_fi) = true)
    (a_ar : PySem.W.nsIn K mainGlobals "_law_all_refused" = some (some (.ref f_ar)))
    (l_ar : K.lookup f_ar = some ⟨oc_ar, od_ar, .func (PySem.W.fnOf "_law_all_refused" "_law_all_refused" (defArgs lAll) (defBody lAll) (defScope lAll) .none kV_ar dc_ar pm_ar an_ar cd_ar ct_ar), sl_ar⟩)
    (c_ar : PySem.W.codeIn K cd_ar "_law_all_refused" = true)
    (k_ar : PySem.W.keepIn K (.ref f_ar) = true)
    (a_la : PySem.W.nsIn K mainGlobals "law" = some (some (.ref f_la)))
    (l_la : K.lookup f_la = some ⟨oc_la, od_la, .func (PySem.W.fnOf "law" "law" (defArgs lLaw) (defBody lLaw) (defScope lLaw) .none kV_la dc_la pm_la an_la cd_la ct_la), sl_la⟩)
    (c_la : PySem.W.codeIn K cd_la "law" = true)
    (k_la : PySem.W.keepIn K (.ref f_la) = true)
    (a_in : PySem.W.findIn K (.ref C) "__init__" = some (some (.ref f_in)))
    (i_in : PySem.W.isFn K (.ref f_in) = true)
    (l_in : K.lookup f_in = some ⟨oc_in, od_in, .func (PySem.W.fnOf "__init__" "Levels.__init__" (defArgs sInit) (defBody sInit) (defScope sInit) .none kV_in dc_in pm_in an_in cd_in ct_in), sl_in⟩)
    (c_in : PySem.W.codeIn K cd_in "Levels.__init__" = true)
    (k_in : PySem.W.keepIn K (.ref f_in) = true)
    (a_wr : PySem.W.findIn K (.ref C) "wrote" = some (some (.ref p_wr)))
    (g_wr : PySem.W.specialIn K (.ref p_wr) "__get__" = some (some (.builtin "property.__get__")))
    (t_wr : PySem.W.takesIn K (.ref p_wr) = some true)
    (r_wr : PySem.W.recIn K p_wr "property" = some (.ref f_wr :: rest_wr))
    (l_wr : K.lookup f_wr = some ⟨oc_wr, od_wr, .func (PySem.W.fnOf "wrote" "Levels.wrote" (defArgs sWrote) (defBody sWrote) (defScope sWrote) .none kV_wr dc_wr pm_wr an_wr cd_wr ct_wr), sl_wr⟩)
    (c_wr : PySem.W.codeIn K cd_wr "Levels.wrote" = true)
    (k_wr : PySem.W.keepIn K (.ref f_wr) = true)
    (a_go : PySem.W.findIn K (.ref C) "gone" = some (some (.ref p_go)))
    (g_go : PySem.W.specialIn K (.ref p_go) "__get__" = some (some (.builtin "property.__get__")))
    (t_go : PySem.W.takesIn K (.ref p_go) = some true)
    (r_go : PySem.W.recIn K p_go "property" = some (.ref f_go :: rest_go))
    (l_go : K.lookup f_go = some ⟨oc_go, od_go, .func (PySem.W.fnOf "gone" "Levels.gone" (defArgs sGone) (defBody sGone) (defScope sGone) .none kV_go dc_go pm_go an_go cd_go ct_go), sl_go⟩)
    (c_go : PySem.W.codeIn K cd_go "Levels.gone" = true)
    (k_go : PySem.W.keepIn K (.ref f_go) = true)
    (a_le : PySem.W.findIn K (.ref C) "level" = some (some (.ref f_le)))
    (i_le : PySem.W.isFn K (.ref f_le) = true)
    (l_le : K.lookup f_le = some ⟨oc_le, od_le, .func (PySem.W.fnOf "level" "Levels.level" (defArgs sLevel) (defBody sLevel) (defScope sLevel) .none kV_le dc_le pm_le an_le cd_le ct_le), sl_le⟩)
    (c_le : PySem.W.codeIn K cd_le "Levels.level" = true)
    (k_le : PySem.W.keepIn K (.ref f_le) = true)
    (a_tk : PySem.W.findIn K (.ref C) "taken" = some (some (.ref f_tk)))
    (i_tk : PySem.W.isFn K (.ref f_tk) = true)
    (l_tk : K.lookup f_tk = some ⟨oc_tk, od_tk, .func (PySem.W.fnOf "taken" "Levels.taken" (defArgs sTaken) (defBody sTaken) (defScope sTaken) .none kV_tk dc_tk pm_tk an_tk cd_tk ct_tk), sl_tk⟩)
    (c_tk : PySem.W.codeIn K cd_tk "Levels.taken" = true)
    (k_tk : PySem.W.keepIn K (.ref f_tk) = true)
    (a_sp : PySem.W.findIn K (.ref C) "step" = some (some (.ref f_sp)))
    (i_sp : PySem.W.isFn K (.ref f_sp) = true)
    (l_sp : K.lookup f_sp = some ⟨oc_sp, od_sp, .func (PySem.W.fnOf "step" "Levels.step" (defArgs sStep) (defBody sStep) (defScope sStep) .none kV_sp dc_sp pm_sp an_sp cd_sp ct_sp), sl_sp⟩)
    (c_sp : PySem.W.codeIn K cd_sp "Levels.step" = true)
    (k_sp : PySem.W.keepIn K (.ref f_sp) = true)
    (a_kn : PySem.W.findIn K (.ref C) "_known" = some (some (.ref f_kn)))
    (i_kn : PySem.W.isFn K (.ref f_kn) = true)
    (l_kn : K.lookup f_kn = some ⟨oc_kn, od_kn, .func (PySem.W.fnOf "_known" "Levels._known" (defArgs sKnown) (defBody sKnown) (defScope sKnown) .none kV_kn dc_kn pm_kn an_kn cd_kn ct_kn), sl_kn⟩)
    (c_kn : PySem.W.codeIn K cd_kn "Levels._known" = true)
    (k_kn : PySem.W.keepIn K (.ref f_kn) = true)
    (pg : PySem.W.plainGet K C Str.empty = true)
    (hd : PySem.W.hasDictIn K C = true)
    (po : PySem.W.plainOver K C = true)
    (sA : PySem.W.findIn K (.ref C) "__setattr__" = some (some (.builtin "object.__setattr__")))
    (mk : PySem.W.makesIn K C = true)
    (kc : PySem.W.keepIn K (.ref C) = true)
    (n1 : PySem.W.findIn K (.ref C) "_size" = some none)
    (n2 : PySem.W.findIn K (.ref C) "_cells" = some none)
    (n3 : PySem.W.findIn K (.ref C) "_low" = some none)
    (n4 : PySem.W.findIn K (.ref C) "_taken" = some none)
    (n5 : PySem.W.findIn K (.ref C) "_seen" = some none)
    (n6 : PySem.W.findIn K (.ref C) "_looks" = some none)
    (z_isinstance : PySem.W.nsIn K mainGlobals "isinstance" = some none)
    (z_int : PySem.W.nsIn K mainGlobals "int" = some none)
    (z_bool : PySem.W.nsIn K mainGlobals "bool" = some none)
    (z_list : PySem.W.nsIn K mainGlobals "list" = some none)
    (z_tuple : PySem.W.nsIn K mainGlobals "tuple" = some none)
    (z_len : PySem.W.nsIn K mainGlobals "len" = some none)
    (z_range : PySem.W.nsIn K mainGlobals "range" = some none)
    (z_min : PySem.W.nsIn K mainGlobals "min" = some none)
    (z_sorted : PySem.W.nsIn K mainGlobals "sorted" = some none)
    (z_set : PySem.W.nsIn K mainGlobals "set" = some none)
    (z_all : PySem.W.nsIn K mainGlobals "all" = some none)
    (z_super : PySem.W.nsIn K mainGlobals "super" = some none)
    (op : PySem.W.nsIn K PySem.cStatics "thirdparty.any" = some none)
    (xel : K.lookup CE = some (excClassObj nm_e q_e CE N_e bs_e bm_e true sn_e sub_e ab_e col_e dd_e k0_e k1_e k2_e k3_e k5_e "Exception.__new__"))
    (xet : excTail PySem.ESX.exTail bm_e = true)
    (xei : PySem.W.findIn K (.ref CE) "__init__" = some (some (.builtin "Exception.__init__")))
    (xnl : K.lookup CN = some (excClassObj nm_n q_n CN N_n bs_n (.ref CE :: bm_e) true sn_n sub_n ab_n col_n dd_n k0_n k1_n k2_n k3_n k5_n "Exception.__new__"))
    (xns : PySem.W.findIn K (.ref CN) "__setattr__" = some (some (.builtin "object.__setattr__")))
    (xng : PySem.W.findIn K (.ref CN) "__getattribute__" = some (some (.builtin "BaseException.__getattribute__")))
    (xnh : PySem.W.findIn K (.ref CN) "__getattr__" = some none)
    (xnf : PySem.W.findIn K (.ref CN) "name" = some none)
    (xni : PySem.W.findIn K (.ref CN) "__init__" = some (some (.ref fi_n)))
    (xny : PySem.W.typeIn K (.ref fi_n) = some (.type "function"))
    (xnk : PySem.W.keepIn K (.ref CN) = true)
    (xne : PySem.W.subIn K (.ref CN) (.type "BaseException") = some true)
    (xnE : PySem.W.subIn K (.ref CN) (.type "Exception") = some true)
    (xnS : PySem.W.subIn K (.ref CN) (.ref CN) = some true)
    (xnT : PySem.W.typeIn K (.ref CN) = some (.type "type"))
    (xnd : PySem.W.hasDictIn K CN = true)
    (xnc : PySem.W.isClsIn K CN = true)
    (xnu : K.lookup fi_n = some ⟨uo_n, ud_n, .func (ksFn "__init__" "BadName.__init__" (defArgs sBName) bodyN (defScope sBName) .none uk_n uc_n up_n ua_n (.ref ucd_n) ut_n ucc_n), us_n⟩)
    (xnv : codeIn K (.ref ucd_n) "BadName.__init__" = true)
    (xnw : K.lookup ucd_n = some ⟨vo_n, vd_n, .fields vs_n, vt_n⟩)
    (xn2 : vs_n[2]? = some (.str file_n tf_n))
    (xn3 : ((PR.main.file : Str) == file_n) = true)
    (xn4 : K.lookup ucc_n = some ⟨wo_n, wd_n, .cell (some (.ref CN)), wt_n⟩)
    (xbl : K.lookup CB = some (excClassObj nm_b q_b CB N_b bs_b (.ref CE :: bm_e) true sn_b sub_b ab_b col_b dd_b k0_b k1_b k2_b k3_b k5_b "Exception.__new__"))
    (xbs : PySem.W.findIn K (.ref CB) "__setattr__" = some (some (.builtin "object.__setattr__")))
    (xbg : PySem.W.findIn K (.ref CB) "__getattribute__" = some (some (.builtin "BaseException.__getattribute__")))
    (xbh : PySem.W.findIn K (.ref CB) "__getattr__" = some none)
    (xbf : PySem.W.findIn K (.ref CB) "word" = some none)
    (xbi : PySem.W.findIn K (.ref CB) "__init__" = some (some (.ref fi_b)))
    (xby : PySem.W.typeIn K (.ref fi_b) = some (.type "function"))
    (xbk : PySem.W.keepIn K (.ref CB) = true)
    (xbe : PySem.W.subIn K (.ref CB) (.type "BaseException") = some true)
    (xbE : PySem.W.subIn K (.ref CB) (.type "Exception") = some true)
    (xbS : PySem.W.subIn K (.ref CB) (.ref CB) = some true)
    (xbT : PySem.W.typeIn K (.ref CB) = some (.type "type"))
    (xbd : PySem.W.hasDictIn K CB = true)
    (xbc : PySem.W.isClsIn K CB = true)
    (xbu : K.lookup fi_b = some ⟨uo_b, ud_b, .func (ksFn "__init__" "BadNumber.__init__" (defArgs sBNum) bodyB (defScope sBNum) .none uk_b uc_b up_b ua_b (.ref ucd_b) ut_b ucc_b), us_b⟩)
    (xbv : codeIn K (.ref ucd_b) "BadNumber.__init__" = true)
    (xbw : K.lookup ucd_b = some ⟨vo_b, vd_b, .fields vs_b, vt_b⟩)
    (xb2 : vs_b[2]? = some (.str file_b tf_b))
    (xb3 : ((PR.main.file : Str) == file_b) = true)
    (xb4 : K.lookup ucc_b = some ⟨wo_b, wd_b, .cell (some (.ref CB)), wt_b⟩)
    (xbN : PySem.W.subIn K (.ref CB) (.ref CN) = some false)
    : ∃ fd : FuncData, (∀ (s : Shared) (v : Value), BindsTo s fd ⟨[v], []⟩ [("_law_script", v)]) ∧ ∀ base : Heap, K.In base → base.Ns mainGlobals mg → FnOk PR w K mg base CX0 10 fa fd ["_law_script"] (spLaw K) := by
  have e := hfa.symm.trans (PySem.W.mg_of X G a_la)
  cases e
  have T : Blt mg := ⟨PySem.W.mg_none_of X G z_isinstance, PySem.W.mg_none_of X G z_int, PySem.W.mg_none_of X G z_bool, PySem.W.mg_none_of X G z_list, PySem.W.mg_none_of X G z_tuple, PySem.W.mg_none_of X G z_len, PySem.W.mg_none_of X G z_range, PySem.W.mg_none_of X G z_min, PySem.W.mg_none_of X G z_sorted, PySem.W.mg_none_of X G z_set, PySem.W.mg_none_of X G z_all⟩
  have Tn : NameTxt K mg CN fi_n := { gC := PySem.W.mg_of X G aN, cls := ⟨_, _, _, _, _, _, _, _, _, _, _, _, _, _, _, xnl, xet, along_of xel xei⟩, ov := over_of xnl xet, sa := xns, ga := xng, gg := xnh, noN := xnf, iC := xni, tI := xny, kC := xnk, exC := xne, exE := xnE, slf := xnS, tyC := xnT, hdC := xnd, gS := PySem.W.mg_none_of X G z_super, op := op, fn := ⟨_, _, _, _, _, _, _, _, _, _, _, _, _, _, _, _, _, _, _, xnu, xnv, xnw, xn2, xn3, xn4⟩ }
  have Tb : NumTxt K mg CB fi_b := { gC := PySem.W.mg_of X G aB, cls := ⟨_, _, _, _, _, _, _, _, _, _, _, _, _, _, _, xbl, xet, along_of xel xei⟩, ov := over_of xbl xet, sa := xbs, ga := xbg, gg := xbh, noN := xbf, iC := xbi, tI := xby, kC := xbk, exC := xbe, exE := xbE, slf := xbS, tyC := xbT, hdC := xbd, gS := PySem.W.mg_none_of X G z_super, op := op, fn := ⟨_, _, _, _, _, _, _, _, _, _, _, _, _, _, _, _, _, _, _, xbu, xbv, xbw, xb2, xb3, xb4⟩ }
  have xNN := exm_sub xne xnc xnT xnS
  have xBB := exm_sub xbe xbc xbT xbS
  have xBN := exm_sub xne xnc xnT xbN
  have F_ii := fun_mk (st := sIsInt) l_ii c_ii k_ii
  have b_ii := F_ii.binds (ps := ["thing"]) fun _ _ _ _ _ _ us hl => match us, hl with | [_], _ => rfl
  have m_ii := PySem.W.mg_of X G a_ii
  have F_ir := fun_mk (st := sIsRow) l_ir c_ir k_ir
  have b_ir := F_ir.binds (ps := ["thing"]) fun _ _ _ _ _ _ us hl => match us, hl with | [_], _ => rfl
  have m_ir := PySem.W.mg_of X G a_ir
  have F_cn := fun_mk (st := sChkNum) l_cn c_cn k_cn
  have b_cn := F_cn.binds (ps := ["number", "least", "word"]) fun _ _ _ _ _ _ us hl => match us, hl with | [_, _, _], _ => rfl
  have m_cn := PySem.W.mg_of X G a_cn
  have F_cl := fun_mk (st := sChkLev) l_cl c_cl k_cl
  have b_cl := F_cl.binds (ps := ["size"]) fun _ _ _ _ _ _ us hl => match us, hl with | [_], _ => rfl
  have m_cl := PySem.W.mg_of X G a_cl
  have F_cs := fun_mk (st := sChkSch) l_cs c_cs k_cs
  have b_cs := F_cs.binds (ps := ["schedule", "size"]) fun _ _ _ _ _ _ us hl => match us, hl with | [_, _], _ => rfl
  have m_cs := PySem.W.mg_of X G a_cs
  have F_ru := fun_mk (st := sRun) l_ru c_ru k_ru
  have b_ru := F_ru.binds (ps := ["size", "schedule"]) fun _ _ _ _ _ _ us hl => match us, hl with | [_, _], _ => rfl
  have m_ru := PySem.W.mg_of X G a_ru
  have F_bl := fun_mk (st := sBlocks) l_bl c_bl k_bl
  have b_bl := F_bl.binds (ps := ["size", "schedule"]) fun _ _ _ _ _ _ us hl => match us, hl with | [_, _], _ => rfl
  have m_bl := PySem.W.mg_of X G a_bl
  have F_dr := fun_mk (st := lDrawn) l_dr c_dr k_dr
  have b_dr := F_dr.binds (ps := ["_law_script"]) fun _ _ _ _ _ _ us hl => match us, hl with | [_], _ => rfl
  have m_dr := PySem.W.mg_of X G a_dr
  have F_ta := fun_mk (st := lTake) l_ta c_ta k_ta
  have b_ta := F_ta.binds (ps := ["_law_found", "_law_many"]) fun _ _ _ _ _ _ us hl => match us, hl with | [_, _], _ => rfl
  have m_ta := PySem.W.mg_of X G a_ta
  have F_li := fun_mk (st := lInt) l_li c_li k_li
  have b_li := F_li.binds (ps := ["_law_thing"]) fun _ _ _ _ _ _ us hl => match us, hl with | [_], _ => rfl
  have m_li := PySem.W.mg_of X G a_li
  have F_re := fun_mk (st := lRefused) l_re c_re k_re
  have b_re := F_re.binds (ps := ["_law_word", "_law_one", "_law_other"]) fun _ _ _ _ _ _ us hl => match us, hl with | [_, _, _], _ => rfl
  have m_re := PySem.W.mg_of X G a_re
  have F_sc := fun_mk (st := lSchedule) l_sc c_sc k_sc
  have b_sc := F_sc.binds (ps := ["_law_found", "_law_size"]) fun _ _ _ _ _ _ us hl => match us, hl with | [_, _], _ => rfl
  have m_sc := PySem.W.mg_of X G a_sc
  have F_nw := fun_mk (st := lNew) l_nw c_nw k_nw
  have b_nw := F_nw.binds (ps := ["_law_size"]) fun _ _ _ _ _ _ us hl => match us, hl with | [_], _ => rfl
  have m_nw := PySem.W.mg_of X G a_nw
  have F_st := fun_mk (st := lStep) l_st c_st k_st
  have b_st := F_st.binds (ps := ["_law_state", "_law_cells", "_law_name"]) fun _ _ _ _ _ _ us hl => match us, hl with | [_, _, _], _ => rfl
  have m_st := PySem.W.mg_of X G a_st
  have F_fe := fun_mk (st := lFew) l_fe c_fe k_fe
  have b_fe := F_fe.binds (ps := ["_law_levels", "_law_size"]) fun _ _ _ _ _ _ us hl => match us, hl with | [_, _], _ => rfl
  have m_fe := PySem.W.mg_of X G a_fe
  have F_sa := fun_mk (st := lSame) l_sa c_sa k_sa
  have b_sa := F_sa.binds (ps := ["_law_levels", "_law_state", "_law_looks", "_law_size"]) fun _ _ _ _ _ _ us hl => match us, hl with | [_, _, _, _], _ => rfl
  have m_sa := PySem.W.mg_of X G a_sa
  have F_wi := fun_mk (st := lWithin) l_wi c_wi k_wi
  have b_wi := F_wi.binds (ps := ["_law_one", "_law_other"]) fun _ _ _ _ _ _ us hl => match us, hl with | [_, _], _ => rfl
  have m_wi := PySem.W.mg_of X G a_wi
  have F_ri := fun_mk (st := lRight) l_ri c_ri k_ri
  have b_ri := F_ri.binds (ps := ["_law_looks", "_law_state", "_law_size"]) fun _ _ _ _ _ _ us hl => match us, hl with | [_, _, _], _ => rfl
  have m_ri := PySem.W.mg_of X G a_ri
  have F_du := fun_mk (st := lDue) l_du c_du k_du
  have b_du := F_du.binds (ps := ["_law_looks", "_law_wrote"]) fun _ _ _ _ _ _ us hl => match us, hl with | [_, _], _ => rfl
  have m_du := PySem.W.mg_of X G a_du
  have F_wa := fun_mk (st := lWalked) l_wa c_wa k_wa
  have b_wa := F_wa.binds (ps := ["_law_size", "_law_schedule_here"]) fun _ _ _ _ _ _ us hl => match us, hl with | [_, _], _ => rfl
  have m_wa := PySem.W.mg_of X G a_wa
  have F_fi := fun_mk (st := lFinish) l_fi c_fi k_fi
  have b_fi := F_fi.binds (ps := ["_law_levels", "_law_state", "_law_cells", "_law_looks", "_law_size"]) fun _ _ _ _ _ _ us hl => match us, hl with | [_, _, _, _, _], _ => rfl
  have m_fi := PySem.W.mg_of X G a_fi
  have F_ar := fun_mk (st := lAll) l_ar c_ar k_ar
  have b_ar := F_ar.binds (ps := ["_law_found", "_law_size", "_law_schedule_here"]) fun _ _ _ _ _ _ us hl => match us, hl with | [_, _, _], _ => rfl
  have m_ar := PySem.W.mg_of X G a_ar
  have F_la := fun_mk (st := lLaw) l_la c_la k_la
  have b_la := F_la.binds (ps := ["_law_script"]) fun _ _ _ _ _ _ us hl => match us, hl with | [_], _ => rfl
  have m_la := PySem.W.mg_of X G a_la
  have F_in := fun_mk (st := sInit) l_in c_in k_in
  have b_in := F_in.binds (ps := ["self", "size"]) fun _ _ _ _ _ _ us hl => match us, hl with | [_, _], _ => rfl
  have F_wr := fun_mk (st := sWrote) l_wr c_wr k_wr
  have b_wr := F_wr.binds (ps := ["self"]) fun _ _ _ _ _ _ us hl => match us, hl with | [_], _ => rfl
  have F_go := fun_mk (st := sGone) l_go c_go k_go
  have b_go := F_go.binds (ps := ["self"]) fun _ _ _ _ _ _ us hl => match us, hl with | [_], _ => rfl
  have F_le := fun_mk (st := sLevel) l_le c_le k_le
  have b_le := F_le.binds (ps := ["self", "name"]) fun _ _ _ _ _ _ us hl => match us, hl with | [_, _], _ => rfl
  have F_tk := fun_mk (st := sTaken) l_tk c_tk k_tk
  have b_tk := F_tk.binds (ps := ["self", "name"]) fun _ _ _ _ _ _ us hl => match us, hl with | [_, _], _ => rfl
  have F_sp := fun_mk (st := sStep) l_sp c_sp k_sp
  have b_sp := F_sp.binds (ps := ["self", "name"]) fun _ _ _ _ _ _ us hl => match us, hl with | [_, _], _ => rfl
  have F_kn := fun_mk (st := sKnown) l_kn c_kn k_kn
  have b_kn := F_kn.binds (ps := ["self", "name"]) fun _ _ _ _ _ _ us hl => match us, hl with | [_, _], _ => rfl
  have TC : LevTxt K C := ⟨⟨pg, hd, po, sA⟩, n1, n2, n3, n4, n5, n6⟩
  have gM : ∃ t, mg "MOST_SIZE" = some (.int 6 t) := ⟨_, PySem.W.mg_of X G aM⟩
  refine ⟨PySem.W.fnOf "law" "law" (defArgs lLaw) (defBody lLaw) (defScope lLaw) .none kV_la dc_la pm_la an_la cd_la ct_la, fun s v => .of_eq rfl, fun base _ _ => ?_⟩
  have G_cn := ok_chkNum (w := w) (base := base) F_cn F_ii m_ii b_ii Tb T
  have G_cl := ok_chkLev (w := w) (base := base) F_cl F_cn m_cn b_cn G_cn Tb gM
  have KT : KnTxt w K mg base C CN f_kn _ := ⟨⟨a_kn, i_kn, k_kn⟩, b_kn, ok_known F_kn F_ii m_ii b_ii Tn T ⟨pg, hd, po, sA⟩ n1⟩
  have G_cs := ok_chkSch (w := w) (base := base) F_cs F_ii m_ii b_ii F_ir m_ir b_ir Tn T
  have TL : LevCl w K mg base C CB CN := ⟨PySem.W.mg_of X G aC, TC, ⟨f_in, _, ⟨mk, a_in, i_in, kc⟩, b_in, ok_init F_in F_cl m_cl b_cl G_cl T TC⟩, ⟨f_sp, _, ⟨a_sp, i_sp, k_sp⟩, b_sp, ok_step F_sp KT TC Tn T⟩, ⟨f_le, _, ⟨a_le, i_le, k_le⟩, b_le, ok_level F_le KT TC⟩, ⟨f_tk, _, ⟨a_tk, i_tk, k_tk⟩, b_tk, ok_taken F_tk KT TC⟩,
    ⟨p_wr, f_wr, _, ⟨a_wr, g_wr, t_wr, ⟨_, r_wr⟩⟩, b_wr, ok_wrote F_wr TC T⟩, ⟨p_go, f_go, _, ⟨a_go, g_go, t_go, ⟨_, r_go⟩⟩, b_go, ok_gone F_go TC T⟩⟩
  have G_ru := ok_run (w := w) (base := base) F_ru F_cs m_cs b_cs G_cs TL T
  have G_bl := ok_blocks (w := w) (base := base) F_bl F_ru m_ru b_ru G_ru T
  have G_re := ok_lRefused (w := w) (base := base) F_re F_ru m_ru b_ru G_ru F_bl m_bl b_bl G_bl TL Tn Tb (PySem.W.mg_of X G aE) xNN xBN xBB T
  have G_sa := ok_lSame (w := w) (base := base) F_sa F_fe m_fe b_fe F_li m_li b_li TL T
  have G_ri := ok_lRight (w := w) (base := base) F_ri F_wi m_wi b_wi T
  have G_fi := ok_lFinish (w := w) (base := base) F_fi F_st m_st b_st F_ri m_ri b_ri G_ri F_sa m_sa b_sa G_sa TL T
  have LF : LawFs w K mg base C CB CN := ⟨⟨_, _, F_nw, m_nw, b_nw, ok_lNew F_nw T⟩, ⟨_, _, F_re, m_re, b_re, G_re⟩, ⟨_, _, F_st, m_st, b_st, ok_lStep F_st T⟩, ⟨_, _, F_sa, m_sa, b_sa, G_sa⟩, ⟨_, _, F_ri, m_ri, b_ri, G_ri⟩, ⟨_, _, F_ru, m_ru, b_ru, G_ru⟩, ⟨_, _, F_bl, m_bl, b_bl, G_bl⟩, ⟨_, _, F_du, m_du, b_du, ok_lDue F_du T⟩, ⟨_, _, F_fi, m_fi, b_fi, G_fi⟩⟩
  have G_wa := ok_lWalked (w := w) (base := base) F_wa LF TL T
  have G_ar := ok_lAll (w := w) (base := base) F_ar LF F_ta m_ta b_ta TL T
  exact ok_law F_la F_ta m_ta b_ta F_dr m_dr b_dr F_sc m_sc b_sc F_wa m_wa b_wa G_wa F_ar m_ar b_ar G_ar T
theorem walk {q : Program} {loose : List Str} {XP : (Str → Option Value) → Heap → Prop} {YP : World → Heap → Prop} {d : DefRec} {K : Params → PySem.W.Frag} (hdf : d.params.defaults = [])
    (hY : ∀ (w : World) (h : Heap), YP w h → (K w.params).In h)
    (F : ∀ (w : World) (mg : Str → Option Value) (fa : Addr) (h : Heap), (K w.params).In h → h.Ns mainGlobals mg → mg d.name = some (.ref fa) →
      ∃ fd : FuncData, (∀ (s : Shared) (u : Value), BindsTo s fd ⟨[u], []⟩ [("_law_script", u)]) ∧ ∀ base : Heap, (K w.params).In base → base.Ns mainGlobals mg → FnOk PR w (K w.params) mg base CX0 10 fa fd ["_law_script"] (spLaw (K w.params))) :
    PySem.W.WalkO q loose XP YP PySem.Challenge.rw_nowaittasks_k07_whole_levels_any_schedul.row.toRowW d [] (fun f vs => PySem.call f vs) :=
  L2.walk_of (l := PySem.Challenge.rw_nowaittasks_k07_whole_levels_any_schedul) (n := 63) (k := 10) (x := "_law_script") (CX := fun _ => CX0) (sp := fun w => spLaw (K w.params)) rfl (by decide) hdf ⟨rfl, by decide, by decide⟩ hY F (fun _ _ a ns hl _ hS => ⟨a, ns, rfl, hS, hl, fun _ => rfl⟩) fun _ _ _ _ _ z => z
end K07
open PySem PySem.W PyProof.Rows
set_option maxRecDepth 100000 in
set_option maxHeartbeats 0 in
theorem PySem.Challenge.cw_nowaittasks_k07_whole_levels_any_schedul_holds : PySem.Challenge.rw_nowaittasks_k07_whole_levels_any_schedul.Holds := by
  w_on; o_law; k_head; (case hw => w_witness2)
  k_fill
  refine K07.walk rfl (fun w h Y => PySem.W.kIn_of Y) ?F
  case F =>
    intro w mg fa h KX G hmg
    refine' K07.all_mk KX G hmg ?aC ?aN ?aB ?aE ?aM ?a_ii ?l_ii ?c_ii ?k_ii ?a_ir ?l_ir ?c_ir ?k_ir ?a_cn ?l_cn ?c_cn ?k_cn ?a_cl ?l_cl ?c_cl ?k_cl ?a_cs ?l_cs ?c_cs ?k_cs ?a_ru ?l_ru ?c_ru ?k_ru ?a_bl ?l_bl ?c_bl ?k_bl ?a_dr ?l_dr ?c_dr ?k_dr ?a_ta ?l_ta ?c_ta ?k_ta ?a_li ?l_li ?c_li ?k_li ?a_re ?l_re ?c_re ?k_re ?a_sc ?l_sc ?c_sc ?k_sc ?a_nw ?l_nw ?c_nw ?k_nw ?a_st ?l_st ?c_st ?k_st ?a_fe ?l_fe ?c_fe ?k_fe ?a_sa ?l_sa ?c_sa ?k_sa ?a_wi ?l_wi ?c_wi ?k_wi ?a_ri ?l_ri ?c_ri ?k_ri ?a_du ?l_du ?c_du ?k_du ?a_wa ?l_wa ?c_wa ?k_wa ?a_fi ?l_fi ?c_fi ?k_fi ?a_ar ?l_ar ?c_ar ?k_ar ?a_la ?l_la ?c_la ?k_la ?a_in ?i_in ?l_in ?c_in ?k_in ?a_wr ?g_wr ?t_wr ?r_wr ?l_wr ?c_wr ?k_wr ?a_go ?g_go ?t_go ?r_go ?l_go ?c_go ?k_go ?a_le ?i_le ?l_le ?c_le ?k_le ?a_tk ?i_tk ?l_tk ?c_tk ?k_tk ?a_sp ?i_sp ?l_sp ?c_sp ?k_sp ?a_kn ?i_kn ?l_kn ?c_kn ?k_kn ?pg ?hd ?po ?sA ?mk ?kc ?n1 ?n2 ?n3 ?n4 ?n5 ?n6 ?z_isinstance ?z_int ?z_bool ?z_list ?z_tuple ?z_len ?z_range ?z_min ?z_sorted ?z_set ?z_all ?z_super ?op ?xel ?xet ?xei ?xnl ?xns ?xng ?xnh ?xnf ?xni ?xny ?xnk ?xne ?xnE ?xnS ?xnT ?xnd ?xnc ?xnu ?xnv ?xnw ?xn2 ?xn3 ?xn4 ?xbl ?xbs ?xbg ?xbh ?xbf ?xbi ?xby ?xbk ?xbe ?xbE ?xbS ?xbT ?xbd ?xbc ?xbu ?xbv ?xbw ?xb2 ?xb3 ?xb4 ?xbN
    (case aC => k_is)
    (case aN => k_is)
    (case aB => k_is)
    (case aE => k_is)
    (case aM => k_is)
    (case a_ii => k_is)
    (case l_ii => k_is)
    (case c_ii => k_is)
    (case k_ii => k_is)
    (case a_ir => k_is)
    (case l_ir => k_is)
    (case c_ir => k_is)
    (case k_ir => k_is)
    (case a_cn => k_is)
    (case l_cn => k_is)
    (case c_cn => k_is)
    (case k_cn => k_is)
    (case a_cl => k_is)
    (case l_cl => k_is)
    (case c_cl => k_is)
    (case k_cl => k_is)
    (case a_cs => k_is)
    (case l_cs => k_is)
    (case c_cs => k_is)
    (case k_cs => k_is)
    (case a_ru => k_is)
    (case l_ru => k_is)
    (case c_ru => k_is)
    (case k_ru => k_is)
    (case a_bl => k_is)
    (case l_bl => k_is)
    (case c_bl => k_is)
    (case k_bl => k_is)
    (case a_dr => k_is)
    (case l_dr => k_is)
    (case c_dr => k_is)
    (case k_dr => k_is)
    (case a_ta => k_is)
    (case l_ta => k_is)
    (case c_ta => k_is)
    (case k_ta => k_is)
    (case a_li => k_is)
    (case l_li => k_is)
    (case c_li => k_is)
    (case k_li => k_is)
    (case a_re => k_is)
    (case l_re => k_is)
    (case c_re => k_is)
    (case k_re => k_is)
    (case a_sc => k_is)
    (case l_sc => k_is)
    (case c_sc => k_is)
    (case k_sc => k_is)
    (case a_nw => k_is)
    (case l_nw => k_is)
    (case c_nw => k_is)
    (case k_nw => k_is)
    (case a_st => k_is)
    (case l_st => k_is)
    (case c_st => k_is)
    (case k_st => k_is)
    (case a_fe => k_is)
    (case l_fe => k_is)
    (case c_fe => k_is)
    (case k_fe => k_is)
    (case a_sa => k_is)
    (case l_sa => k_is)
    (case c_sa => k_is)
    (case k_sa => k_is)
    (case a_wi => k_is)
    (case l_wi => k_is)
    (case c_wi => k_is)
    (case k_wi => k_is)
    (case a_ri => k_is)
    (case l_ri => k_is)
    (case c_ri => k_is)
    (case k_ri => k_is)
    (case a_du => k_is)
    (case l_du => k_is)
    (case c_du => k_is)
    (case k_du => k_is)
    (case a_wa => k_is)
    (case l_wa => k_is)
    (case c_wa => k_is)
    (case k_wa => k_is)
    (case a_fi => k_is)
    (case l_fi => k_is)
    (case c_fi => k_is)
    (case k_fi => k_is)
    (case a_ar => k_is)
    (case l_ar => k_is)
    (case c_ar => k_is)
    (case k_ar => k_is)
    (case a_la => k_is)
    (case l_la => k_is)
    (case c_la => k_is)
    (case k_la => k_is)
    (case a_in => k_is)
    (case i_in => k_is)
    (case l_in => k_is)
    (case c_in => k_is)
    (case k_in => k_is)
    (case a_wr => k_is)
    (case g_wr => k_is)
    (case t_wr => k_is)
    (case r_wr => k_is)
    (case l_wr => k_is)
    (case c_wr => k_is)
    (case k_wr => k_is)
    (case a_go => k_is)
    (case g_go => k_is)
    (case t_go => k_is)
    (case r_go => k_is)
    (case l_go => k_is)
    (case c_go => k_is)
    (case k_go => k_is)
    (case a_le => k_is)
    (case i_le => k_is)
    (case l_le => k_is)
    (case c_le => k_is)
    (case k_le => k_is)
    (case a_tk => k_is)
    (case i_tk => k_is)
    (case l_tk => k_is)
    (case c_tk => k_is)
    (case k_tk => k_is)
    (case a_sp => k_is)
    (case i_sp => k_is)
    (case l_sp => k_is)
    (case c_sp => k_is)
    (case k_sp => k_is)
    (case a_kn => k_is)
    (case i_kn => k_is)
    (case l_kn => k_is)
    (case c_kn => k_is)
    (case k_kn => k_is)
    (case pg => k_is)
    (case hd => k_is)
    (case po => k_is)
    (case sA => k_is)
    (case mk => k_is)
    (case kc => k_is)
    (case n1 => k_is)
    (case n2 => k_is)
    (case n3 => k_is)
    (case n4 => k_is)
    (case n5 => k_is)
    (case n6 => k_is)
    (case z_isinstance => k_is)
    (case z_int => k_is)
    (case z_bool => k_is)
    (case z_list => k_is)
    (case z_tuple => k_is)
    (case z_len => k_is)
    (case z_range => k_is)
    (case z_min => k_is)
    (case z_sorted => k_is)
    (case z_set => k_is)
    (case z_all => k_is)
    (case z_super => k_is)
    (case op => k_is)
    (case xel => k_is)
    (case xet => first | rfl | decide +kernel | k_is)
    (case xei => k_is)
    (case xnl => k_is)
    (case xns => k_is)
    (case xng => k_is)
    (case xnh => k_is)
    (case xnf => k_is)
    (case xni => k_is)
    (case xny => k_is)
    (case xnk => k_is)
    (case xne => k_is)
    (case xnE => k_is)
    (case xnS => first | rfl | k_is)
    (case xnT => k_is)
    (case xnd => k_is)
    (case xnc => k_is)
    (case xnu => k_is)
    (case xnv => k_is)
    (case xnw => k_is)
    (case xn2 => first | rfl | k_is)
    (case xn3 => first | rfl | decide +kernel | k_is)
    (case xn4 => k_is)
    (case xbl => k_is)
    (case xbs => k_is)
    (case xbg => k_is)
    (case xbh => k_is)
    (case xbf => k_is)
    (case xbi => k_is)
    (case xby => k_is)
    (case xbk => k_is)
    (case xbe => k_is)
    (case xbE => k_is)
    (case xbS => first | rfl | k_is)
    (case xbT => k_is)
    (case xbd => k_is)
    (case xbc => k_is)
    (case xbu => k_is)
    (case xbv => k_is)
    (case xbw => k_is)
    (case xb2 => first | rfl | k_is)
    (case xb3 => first | rfl | decide +kernel | k_is)
    (case xb4 => k_is)
    (case xbN => k_is)
