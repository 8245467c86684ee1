import PyProof.Rows.All
import Wide.All
import OpenK.AllK
import Wide.FinOn
import PyProof.EqAt
import PyProof.EqKinds
import PyProof.TupleCall
import KE.KExcSuper
import HandS.ForMost
import HandS.ForExc
import HandS.ExcInit
import HandS.TryMany
import KE.KExcIs
import KE.KIsAll
import KE.KTryMore
import HandS.NoneIn
import HandS.Style
import HandS.Flow
import HandS.StrMore
import HandS.IsInst
import HandS.Lambda
import HandS.More
import HandS.Wide
import HandS.Head0
import HandS.Head1
import HandS.Head2
import HandS.HeadEnd
import HandS.HeadHook1
import HandS.HeadHook2
import HandS.HeadHook3
import HandS.HeadHook4
import HandS.HeadWalk
import PyProof.InstNe
import HandS.HotCalls
import HandS.Nested
import KE.KSuper
import HandS.Star
import HandS.DictComp
import HandS.Deep
import PyProof.P3In
import Wide.Once
import HandS.Small
import HandS.TupAny
import KE.KStateDown
import Lean
import PySem.Challenge.RW_heldplaces_k59_deeds_made_and_refused
set_option Elab.async false
set_option linter.all false
set_option maxRecDepth 100000
set_option maxHeartbeats 4000000
/-! Errors of the program: class X(HeldError): def __init__(self, f, ..): super().__init__('..'); self.f = f; .. -/
namespace PySem
namespace ErrX
open PySem.W PySem.Calls PyProof.Rows PySem.HandSPX
/-! ### the text of __init__ -/
structure FldP where
  f : Str
  a : Pos
  b : Pos
  c : Pos
  d : Pos
def setSt (q : FldP) : Stmt := .Assign [.Attribute (.Name "self" q.a) q.f q.b] (.Name q.f q.c) q.d
def supSt (msg : Str) (j : Nat) (p0 p1 p2 p3 p4 p5 : Pos) : Stmt := .Expr (.Call (.Attribute (.Call (.Name "super" p0) [] [] p1) "__init__" p2) [.Constant (.str msg) j p3] [] p4) p5
def supEv (env : Env) (pl : Sem Bool) (msg : Str) (j : Nat) (p0 p1 p2 p3 p4 : Pos) : Prop := eval (.Call (.Attribute (.Call (.Name "super" p0) [] [] p1) "__init__" p2) [.Constant (.str msg) j p3] [] p4) env = (do
      let ov ← attributeBase (.Call (.Name "super" p0) [] [] p1) "__init__" env (eval (.Call (.Name "super" p0) [] [] p1) env)
      standAt p2.atName
      let (f, first) ← holding [ov] (getMethod ov "__init__" pl)
      callWith p4 f first (backTo p4 (starEach [.Constant (.str msg) j p3] env)) [])
def iScope (fs : List Str) : Scope := { kind := .function, names := (PySem.Str.ofString "self", .local) :: (fs.map fun f => (f, .local)) ++ [(PySem.Str.ofString "__class__", .free), (PySem.Str.ofString "super", .globalImplicit)], isGenerator := false, isCoroutine := false, more := [] }
/-- what the written part says of an error's class at C, its fields fs -/
structure ErrTxt (prog : Program) (K : Frag) (fs : List Str) (C : Addr) : Prop where
  cls : ∃ nm q N bs bm sn sub ab col dd k0 k1 k2 k3 k5, K.lookup C = some (excClassObj nm q C N bs bm true sn sub ab col dd k0 k1 k2 k3 k5 "ValueError.__new__") ∧ refsVE bm = true
  sa : findIn K (.ref C) "__setattr__" = some (some (.builtin "object.__setattr__"))
  ga : findIn K (.ref C) "__getattribute__" = some (some (.builtin "BaseException.__getattribute__"))
  gg : findIn K (.ref C) "__getattr__" = some none
  noN : ∀ f ∈ fs, findIn K (.ref C) f = some none
  kC : keepIn K (.ref C) = true
  exC : subIn K (.ref C) (.type "BaseException") = some true
  veC : subIn K (.ref C) (.type "ValueError") = some true
  tyC : typeIn K (.ref C) = some (.type "type")
  hdC : hasDictIn K C = true
  own : mroIn K C (.ref C) = some true
  sup : ks_superIn K C C "__init__" = some (some (.builtin "ValueError.__init__"))
  opq : nsIn K cStatics "thirdparty.any" = some none
  gsup : nsIn K mainGlobals "super" = some none
  topN : (prog.main.scope.names.lookup ("super" : Str)).isSome = false
  kinds : (fs.all fun f => (iScope fs).names.lookup f == some .local && !(f == ("self" : Str))) = true
  dbg : ∀ f ∈ fs, (f == ("__debug__" : Str)) = false
  outs : ("__class__" : Str) ∉ fs ∧ ("super" : Str) ∉ fs
  nd : fs.Nodup
  len : fs.length ≤ 900
  init : ∃ (fI cc cda : Addr) (oc : Value) (od : Option Addr) (qual : Str) (params : Arguments) (body : List Stmt) (kV doc pm : Value) (an : Option Addr) (ct : Value) (osl : Array (Option Value)) (ccl : Value) (cdd : Option Addr) (vs : Array Value) (ccs : Array (Option Value)) (file : Str) (tf : Tok) (cl : Value) (cld : Option Addr) (csl : Array (Option Value)),
    findIn K (.ref C) "__init__" = some (some (.ref fI)) ∧ typeIn K (.ref fI) = some (.type "function") ∧
    K.lookup fI = some ⟨oc, od, .func (ksFn "__init__" qual params body (iScope fs) .none kV doc pm an (.ref cda) ct cc), osl⟩ ∧ codeIn K (.ref cda) qual = true ∧
    K.lookup cda = some ⟨ccl, cdd, .fields vs, ccs⟩ ∧ vs[2]? = some (.str file tf) ∧ ((prog.main.file : Str) == file) = true ∧ K.lookup cc = some ⟨cl, cld, .cell (some (.ref C)), csl⟩ ∧
    (∃ ar, (params.posonlyargs ++ params.args).head? = some ar ∧ ar.arg = "self") ∧
    (∃ msg j p0 p1 p2 p3 p4 p5 ps, body = supSt msg j p0 p1 p2 p3 p4 p5 :: (ps : List FldP).map setSt ∧ ps.map (·.f) = fs ∧ ∀ env, ∃ pl, supEv env pl msg j p0 p1 p2 p3 p4) ∧
    (∀ (self : Value) (us : List Value), us.length = fs.length → bindArgs (ksFn "__init__" qual params body (iScope fs) .none kV doc pm an (.ref cda) ct cc) ⟨self :: us, []⟩ = pure ((("self" : Str), self) :: fs.zip us))
/-- the attributes, the last one set first -/
def mOf : List (Str × Value) → Str → Option Value
  | [], _ => none
  | (f, v) :: r, y => if y = f then some v else mOf r y
/-- an exception of the class at C: its dict, its message's tuple -/
abbrev eO (C t1 : Addr) (d : Option Addr) : Obj := { cls := .ref C, dict := d, data := .fields #[.ref t1, .none, .none, .none, .bool false, .none] }
/-- how the dict lies: none if no field is set -/
def DictOk (h h' : Heap) (e : Addr) : List (Str × Value) → Option Addr → Prop
  | [], d => d = none
  | q :: r, d => ∃ dx, d = some dx ∧ h.objs.size ≤ dx ∧ dx ≠ e ∧ h'.Ns1 dx (mOf (q :: r))
structure ErrEnd (h h' : Heap) (e C : Addr) (fvs : List (Str × Value)) : Prop where
  keep : ∀ b o, b ≠ e → h.get? b = some o → h'.get? b = some o
  obj : ∃ t1 d, h'.get? e = some (eO C t1 d) ∧ DictOk h h' e fvs d
theorem within_mOf : ∀ l : List (Str × Value), Within (mOf l) (l.map (·.1))
  | [] => fun y hy => absurd rfl hy
  | (f, v) :: r => fun y hy => by
    by_cases e : y = f
    · subst e; exact List.mem_cons_self
    · have z : mOf ((f, v) :: r) y = mOf r y := if_neg e
      rw [z] at hy
      exact List.mem_cons_of_mem _ (within_mOf r y hy)
section
variable {prog : Program} {w : World} {A : Around} {E : Value → Shared → Prop} {R : Result → Shared → Prop} {s : Shared} {K : Frag} {mg : Str → Option Value} {C : Addr} {fs : List Str}
theorem one_size (v : Value) : [v].length ≤ sizeLine := by
  rw [sizeLine_eq]
  exact (by decide : 1 ≤ 16777216)
/-- self.f = f for the fields of ps, one after the other -/
theorem sets (T : ErrTxt prog K fs C) {env : Env} {e : Addr} {m : Str → Option Value} (hk : env.scope.kind = .function) (hself : env.kindOf "self" = some .local) (h₀ : Heap) (Q : Flow → Shared → Prop) :
    ∀ (ps : List FldP) (us : List Value) (done : List (Str × Value)) (s : Shared), ps.length = us.length → (∀ p ∈ ps, p.f ∈ fs ∧ env.kindOf p.f = some .local) → (∀ q ∈ (ps.map (·.f)).zip us, m q.1 = some q.2) → done.length + ps.length ≤ 900 → m "self" = some (.ref e) → s.heap.Ns env.locals m → env.locals ≠ e →
      (∀ b o, b ≠ e → h₀.get? b = some o → s.heap.get? b = some o) → K.In h₀ → K.lookup e = none → h₀.objs.size ≤ s.heap.objs.size →
      (∃ t1 d, s.heap.get? e = some (eO C t1 d) ∧ DictOk h₀ s.heap e done d ∧ ∀ dx, d = some dx → dx ≠ env.locals) →
      (∀ s', s'.os = s.os → s'.gens = s.gens → s'.drawn = s.drawn → ErrEnd h₀ s'.heap e C (((ps.map (·.f)).zip us).reverse ++ done) → Q .next s') →
      wpAny (model prog w) A (execs (ps.map setSt) env) Q E s
  | [], us, done, s, hl, _, _, _, _, _, _, k, _, _, _, ⟨t1, d, he, hd, _⟩, hq => by
    cases us with
    | nil => exact wpAny_execs_nil (hq s rfl rfl rfl ⟨k, t1, d, he, hd⟩)
    | cons => cases hl
  | p :: ps, us, done, s, hl, hp, hm, hz, hs, hn, hL, k, KX, hKe, hsz, ⟨t1, d, he, hd, hdL⟩, hq => by
    cases us with
    | nil => cases hl
    | cons u us =>
      obtain ⟨nm, q, N, bs, bm, sn, sub, ab, col, dd, k0, k1, k2, k3, k5, hC, hbm⟩ := T.cls
      have hcl : clsIn K C = some { name := nm, bases := bs, mro := .ref C :: bm, ns := N, qualname := q, hasDict := true, slotNames := sn, subclasses := sub, abstract := ab, collection := col, hasDel := false } := by unfold clsIn; rw [hC] <;> rfl
      have X1 : K.In s.heap := fun a o z => k a o (fun y => by rw [y, hKe] at z; cases z) (KX a o z)
      obtain ⟨pf, pl⟩ := hp p List.mem_cons_self
      have hu : m p.f = some u := hm (p.f, u) (by simp)
      have next : ∀ s', s'.os = s.os → s'.gens = s.gens → s'.drawn = s.drawn → s'.heap.Ns env.locals m → (∀ b o, b ≠ e → h₀.get? b = some o → s'.heap.get? b = some o) → h₀.objs.size ≤ s'.heap.objs.size → (∃ t1 d, s'.heap.get? e = some (eO C t1 d) ∧ DictOk h₀ s'.heap e ((p.f, u) :: done) d ∧ ∀ dx, d = some dx → dx ≠ env.locals) → wpAny (model prog w) A (execs (ps.map setSt) env) Q E s' := fun s' e1 e2 e3 hn' k' hsz' hd' => by
        refine sets T hk hself h₀ Q ps us ((p.f, u) :: done) s' (by simpa using hl) (fun z hz => hp z (List.mem_cons_of_mem _ hz)) (fun z hz => hm z (by simp at hz ⊢; exact .inr hz)) (by simp at hz ⊢; omega) hs hn' hL k' KX hKe hsz' hd' fun s2 f1 f2 f3 hE => hq s2 (f1.trans e1) (f2.trans e2) (f3.trans e3) ?_
        have z : ((p :: ps).map (·.f)).zip (u :: us) = (p.f, u) :: (ps.map (·.f)).zip us := rfl
        rw [z, List.reverse_cons, List.append_assoc]
        exact hE
      show wpAny _ _ (execs (setSt p :: ps.map setSt) env) _ _ _
      have hnd : (p.f == ("__debug__" : Str)) = false := T.dbg _ pf
      refine wpAny_execs_cons (plainObj_wpAny_Assign_Attribute (wpAny_Name (wpAny_loadName_local hk pl hn hu (wpAny_Name (wpAny_loadName_local hk hself hn hs ?_) (by decide))) hnd))
      obtain ⟨hp0, g0, d0, tk0, os0⟩ := s
      cases done with
      | nil =>
        obtain rfl : d = none := hd
        refine set_plain X1 (ox := eO C t1 none) (od := none) ⟨he, rfl, rfl, trivial⟩ T.sa ?_
        refine exc_osa X1 he hcl (show refsVE (.ref C :: bm) = true from hbm) rfl (T.noN _ pf) (fun h' tk' dx kk hdn hde hobj hns => ?_)
        have nL : dx ≠ env.locals := fun z => absurd (hn.lt) (by rw [← z]; exact Nat.not_lt.mpr hdn)
        refine next ⟨h', g0, d0, tk', os0⟩ rfl rfl rfl ?_ (fun b o hb ho => kk b o hb (k b o hb ho)) ?_ ⟨t1, some dx, hobj, ⟨dx, rfl, Nat.le_trans hsz hdn, hde, ?_⟩, fun z hz => by cases hz; exact nL⟩
        · obtain ⟨oL, es, ep, hoL, r⟩ := hn
          exact ⟨oL, es, ep, kk _ _ hL hoL, r⟩
        · obtain ⟨_, _, _, zz, _⟩ := hns
          exact Nat.le_of_lt (Nat.lt_of_le_of_lt (Nat.le_trans hsz hdn) (Heap.lt_size zz))
        · exact hns
      | cons q0 r0 =>
        obtain ⟨dx, rfl, hdn, hde, hns⟩ := hd
        have nL := hdL dx rfl
        obtain ⟨oD, esD, epD, hoD, hdD⟩ := id hns
        refine set_plain X1 (ox := eO C t1 (some dx)) (od := some oD) ⟨he, rfl, rfl, hoD⟩ T.sa ?_
        refine OEX.osa_old X1 he hns (within_mOf (q0 :: r0)) (by simp at hz ⊢; omega) hcl (show refsVE (.ref C :: bm) = true from hbm) rfl (T.noN _ pf) (fun h' tk' kk hns' => ?_)
        refine next ⟨h', g0, d0, tk', os0⟩ rfl rfl rfl ?_ (fun b o hb ho => ?_) ?_ ⟨t1, some dx, kk _ _ (Ne.symm hde) he, ⟨dx, rfl, hdn, hde, hns'⟩, fun z hz => by cases hz; exact nL⟩
        · obtain ⟨oL, es, ep, hoL, r⟩ := hn
          exact ⟨oL, es, ep, kk _ _ (Ne.symm nL) hoL, r⟩
        · exact kk b o (fun z => absurd (Heap.lt_size ho) (by rw [z]; exact Nat.not_lt.mpr hdn)) (k b o hb ho)
        · have z1 := Heap.lt_size (kk _ _ (Ne.symm hde) he)
          obtain ⟨_, _, _, zz, _⟩ := hns'
          exact Nat.le_of_lt (Nat.lt_of_le_of_lt hdn (Heap.lt_size zz))

theorem lookup_zip {x : Str} {u : Value} : ∀ {fs : List Str} {us : List Value}, fs.Nodup → (x, u) ∈ fs.zip us → (fs.zip us).reverse.lookup x = some u := fun {fs us} nd h => by
  have key : ∀ (l : List (Str × Value)), (l.map (·.1)).Nodup → (x, u) ∈ l → l.lookup x = some u := by
    intro l
    induction l with
    | nil => intro _ z; cases z
    | cons p r ih =>
      intro n z
      obtain ⟨f, v⟩ := p
      have n1 := List.nodup_cons.mp n
      rcases List.mem_cons.mp z with e | e
      · cases e
        simp [List.lookup]
      · have ne : x ≠ f := fun q => n1.1 (List.mem_map.mpr ⟨_, e, q⟩)
        have ne2 : (x == f) = false := by simpa using ne
        simp only [List.lookup, ne2]
        exact ih n1.2 e
  refine key _ ?_ (List.mem_reverse.mpr h)
  rw [List.map_reverse]
  have sub : ((fs.zip us).map (·.1)).Sublist fs := by
    clear h key
    induction fs generalizing us with
    | nil => simp
    | cons f r ih =>
      cases us with
      | nil => simp
      | cons v vs => simp only [List.zip_cons_cons, List.map_cons]; exact (ih (List.nodup_cons.mp nd).2).cons_cons f
  have q := nd.sublist sub
  exact List.pairwise_reverse.mpr (q.imp fun h => Ne.symm h)
theorem call_mw {h : Heap} {g : Array GenState} {d : Drawn} {t : Nat} {os : OsState} {u e t0 N : Addr} {nm q : Str} {bs bm : List Value} {hdct : Bool} {sn : List Str} {sub : List Value} {ab : Bool} {col : Option Bool} {dd : Option Addr} {k0 k1 k2 k3 k5 : Option Value} {rest : List Value} {Q : Value → Shared → Prop}
    (he : h.get? e = some (excO C t0)) (hu : h.get? u = some (kxs_mw "ValueError.__init__" e)) (hC : h.get? C = some (excClassObj nm q C N bs bm hdct sn sub ab col dd k0 k1 k2 k3 k5 "ValueError.__new__")) (hrest : rest.length ≤ sizeLine)
    (hq : ∀ h' t1, (∀ b o, b ≠ e → h.get? b = some o → h'.get? b = some o) → h'.get? e = some (excO C t1) → Q .none ⟨h', g, d, t, os⟩) :
    wpAny (model prog w) A (call (.ref u) rest) Q E ⟨h, g, d, t, os⟩ := by
  refine wpAny_call (codeAny_of_tree ?_)
  show wpAny _ A.in1 (callAny (.ref u) ⟨rest, []⟩) _ _ _
  simp only [callAny]
  refine wpAny_bind (wpAny_load hu ?_)
  simp only [kxs_mw, show (Value.type "method-wrapper" == Value.type "method" || Value.type "method-wrapper" == Value.type "builtin_function_or_method" || Value.type "method-wrapper" == Value.type "method-wrapper") = true by decide, if_true]
  refine KFB.if_so (by decide) ?_
  refine wpAny_bind (check_bound_init F.excBase_ValueError.toExcCallFacts hC he rfl ?_)
  refine wpAny_bind (wpAny_pure (wpAny_pure ?_))
  refine ⟨plainId_quiet F.excBase_ValueError.init.plain _, codeAny_builtin F.excBase_ValueError.initEntry ?_⟩
  exact exc_init_tree (cls := .ref C) (t0 := t0) (dv := none) (c2 := .none) (c3 := .none) (b4 := .bool false) he hrest fun h' k a b => hq h' _ k a
theorem err_init (T : ErrTxt prog K fs C) {e t0 fI : Addr} {us : List Value} (hI : findIn K (.ref C) "__init__" = some (some (.ref fI))) (hl : us.length = fs.length) (X : K.In s.heap) (hg : s.heap.Ns mainGlobals mg) (hb : ∃ mb, s.heap.Ns builtinsNs mb ∧ ∀ x : Str, x ≠ "__name__" → mb x = bootBuiltins x)
    (hlim : s.heap.NoLimit) (hx : s.heap.get? e = some (excO C t0)) (hnx : K.lookup e = none) (hroom : A.depth < recursionLimit)
    (hq : ∀ s', s'.os = s.os → s'.gens = s.gens → s'.drawn = s.drawn → ErrEnd s.heap s'.heap e C (fs.zip us).reverse → R (.ok (.ret .none)) s') :
    codeAny (model prog w) A (.call (.ref fI) ⟨.ref e :: us, []⟩) R s := by
  obtain ⟨fI', cc, cda, oc, od, qual, params, body, kV, doc, pm, an, ct, osl, ccl, cdd, vs, ccs, file, tf, cl, cld, csl, i1, i2, ho, hcd, hcode, hvs, hfile, hcell, ⟨ar, har, hara⟩, ⟨msg, j, p0, p1, p2, p3, p4, p5, ps, rfl, hps, hev⟩, hbind⟩ := T.init
  rw [hI] at i1
  cases i1
  obtain ⟨nm, q, N, bs, bm, sn, sub, ab, col, dd, k0, k1, k2, k3, k5, hC, hbm⟩ := T.cls
  have hcl : clsIn K C = some { name := nm, bases := bs, mro := .ref C :: bm, ns := N, qualname := q, hasDict := true, slotNames := sn, subclasses := sub, abstract := ab, collection := col, hasDel := false } := by unfold clsIn; rw [hC] <;> rfl
  obtain ⟨mb, hmb, hmbv⟩ := hb
  have kin : ∀ f ∈ fs, (iScope fs).names.lookup f = some .local := fun f hf => by
    have z := List.all_eq_true.mp T.kinds f hf
    simp only [Bool.and_eq_true, beq_iff_eq] at z
    exact z.1
  have nself : ∀ f ∈ fs, f ≠ "self" := fun f hf => by
    have z := List.all_eq_true.mp T.kinds f hf
    simp only [Bool.and_eq_true, Bool.not_eq_true', beq_eq_false_iff_ne] at z
    exact z.2
  have hcellN : ∀ y ∈ (iScope fs).names, y.2 ≠ .cell := fun y hy => by
    rcases List.mem_append.mp (show y ∈ ((PySem.Str.ofString "self", NameKind.local) :: fs.map fun f => (f, NameKind.local)) ++ [(PySem.Str.ofString "__class__", NameKind.free), (PySem.Str.ofString "super", NameKind.globalImplicit)] from hy) with z | z
    · rcases List.mem_cons.mp z with z | z
      · rw [z]; decide
      · obtain ⟨f, _, rfl⟩ := List.mem_map.mp z
        exact fun q => nomatch (show NameKind.local = NameKind.cell from q)
    · rcases List.mem_cons.mp z with z | z
      · rw [z]; decide
      · rcases List.mem_cons.mp z with z | z
        · rw [z]; decide
        · cases z
  have look : ∀ x : Str, x ≠ "self" → x ∉ fs → (iScope fs).names.lookup x = ([(PySem.Str.ofString "__class__", NameKind.free), (PySem.Str.ofString "super", NameKind.globalImplicit)] : List (Str × NameKind)).lookup x := fun x h1 h2 => by
    show ((PySem.Str.ofString "self", NameKind.local) :: ((fs.map fun f => (f, NameKind.local)) ++ [(PySem.Str.ofString "__class__", NameKind.free), (PySem.Str.ofString "super", NameKind.globalImplicit)])).lookup x = _
    have e1 : (x == (PySem.Str.ofString "self")) = false := by simpa using h1
    rw [List.lookup_cons, e1]
    show ((fs.map fun f => (f, NameKind.local)) ++ _).lookup x = _
    have key : ∀ (l : List Str) (r : List (Str × NameKind)), x ∉ l → ((l.map fun f => (f, NameKind.local)) ++ r).lookup x = r.lookup x := by
      intro l r
      induction l with
      | nil => intro _; rfl
      | cons a l ih =>
        intro hn
        have e2 : (x == a) = false := by simpa using (fun z => hn (by rw [z]; exact List.mem_cons_self))
        show ((a, NameKind.local) :: ((l.map fun f => (f, NameKind.local)) ++ r)).lookup x = _
        rw [List.lookup_cons, e2]
        exact ih fun z => hn (List.mem_cons_of_mem _ z)
    exact key fs _ h2
  have cls_in := T.outs.1
  have sup_in := T.outs.2
  have hks : (iScope fs).names.lookup ("super" : Str) = some .globalImplicit := by rw [look _ (by decide) sup_in]; rfl
  have hkc : (iScope fs).names.lookup ("__class__" : Str) = some .free := by rw [look _ (by decide) cls_in]; rfl
  refine ks_codeAny_call_defAt (fd := ksFn "__init__" qual params (supSt msg j p0 p1 p2 p3 p4 p5 :: ps.map setSt) (iScope fs) .none kV doc pm an (.ref cda) ct cc) (body := supSt msg j p0 p1 p2 p3 p4 p5 :: ps.map setSt) (binds := (("self" : Str), .ref e) :: fs.zip us) hroom (X _ _ ho) rfl hlim (codeRec_of X hcd) rfl (BindsTo.of_eq (hbind _ _ hl)) hcellN (fun y hy => ?_) (fun h1 hns hk => ?_) rfl rfl rfl
  · rcases List.mem_cons.mp hy with z | z
    · rw [z]; rfl
    · exact kin _ (List.of_mem_zip z).1
  have X1 : K.In h1 := X.keeps hk
  have hx1 := hk _ _ hx
  have hself : (((("self" : Str), Value.ref e) :: fs.zip us).reverse).lookup ("self" : Str) = some (.ref e) := by
    rw [List.reverse_cons]
    have key : ∀ (l : List (Str × Value)), (∀ p ∈ l, p.1 ≠ "self") → (l ++ [(("self" : Str), Value.ref e)]).lookup ("self" : Str) = some (.ref e) := by
      intro l
      induction l with
      | nil => intro _; rfl
      | cons p r ih =>
        intro hp
        have e1 : ((PySem.Str.ofString "self") == p.1) = false := by simpa using Ne.symm (hp p List.mem_cons_self)
        show (p :: (r ++ _)).lookup _ = _
        obtain ⟨p1, p2⟩ := p
        rw [List.lookup_cons, e1]
        exact ih fun z hz => hp z (List.mem_cons_of_mem _ hz)
    exact key _ fun p hp => nself _ (List.of_mem_zip (List.mem_reverse.mp hp)).1
  obtain ⟨pl, hev⟩ := hev (callEnv (ksFn "__init__" qual params (supSt msg j p0 p1 p2 p3 p4 p5 :: ps.map setSt) (iScope fs) .none kV doc pm an (.ref cda) ct cc) s.heap.objs.size fI)
  refine ks_wpAt_execs_cons (ks_wpAt_Expr_any (ks_wpAt_MethodCall (pl := pl) ?_ hev))
  refine ks_wpAt_super_base (env := callEnv (ksFn "__init__" qual params (supSt msg j p0 p1 p2 p3 p4 p5 :: ps.map setSt) (iScope fs) .none kV doc pm an (.ref cda) ct cc) s.heap.objs.size fI) hks hkc (by decide) rfl (X1 _ _ ho) rfl har rfl (X1 _ _ hcode) rfl hvs hfile T.topN ?_
  refine ks_loadName_global rfl hks (loadGlobal_builtin (hg.keeps hk) (mg_none_of X hg T.gsup) (hmb.keeps hk) ((hmbv _ (by decide +kernel)).trans (by first | boot_by_name | rfl | kernel_rfl)) ⟨rfl, ?_⟩)
  refine wpAny_loadName_free rfl hkc rfl ⟨_, X1 _ _ hcell, rfl⟩ ?_
  rw [hara]
  refine wpAny_loadName_local (v := .ref e) rfl rfl hns hself ?_
  refine ks_wpAny_isType_cls (X1 _ _ hC) rfl ⟨rfl, ?_⟩
  refine ks_wpAny_call_super (X1 _ _ hC) rfl hx1 rfl (fun c z => by cases z) (looks_mroIn X1 T.own) (fun h2 hso k2 => ?_)
  have X2 : K.In h2 := X1.keeps k2
  have hx2 := k2 _ _ hx1
  have J2 : InstAt h2 e (excO C t0) C none := ⟨hx2, rfl, rfl, trivial⟩
  have hsup := T.sup
  unfold ks_superIn at hsup
  rw [hcl] at hsup
  refine kxs_getMethod kxs_ValueError hso (looks_opaque X2 T.opq) (l₀ := .ref C :: bm) ((looks_clsIn X2 hcl).andThen .now) rfl X2 hsup (J2.type.andThen (looks_subIn X2 T.veC)) (ks_ne X2 J2 hcl) (by decide) ?_
  refine kxs_callWith (i := "ValueError.__init__") (x := e) rfl ?_
  refine evalArgs_plain (spliced_cons (Constant_str (k := j) (pos := p3) (spliced_nil ⟨?_, ?_⟩)))
  · show (h2.push (kxs_mw "ValueError.__init__" e)).get? h2.objs.size = some _
    exact Heap.get?_push_size h2 rfl
  · have hx3 : (h2.push (kxs_mw "ValueError.__init__" e)).get? e = some (excO C t0) := Heap.get?_push_of_some _ hx2
    refine call_mw hx3 (Heap.get?_push_size h2 rfl) (Heap.get?_push_of_some _ (X2 _ _ hC)) (one_size _) (fun h4 t1 k4 hx4 => ?_)
    show wpAt _ _ _ (execs (ps.map setSt) _) _ _ _
    refine wpAt_of_wpAny ?_
    have keep4 : ∀ b o, b ≠ e → s.heap.get? b = some o → h4.get? b = some o := fun b o hb ho => k4 b o hb (Heap.get?_push_of_some _ (k2 b o (hk b o ho)))
    have ltL := hns.lt
    have hLe : s.heap.objs.size ≠ e := Nat.ne_of_gt (Heap.lt_size hx)
    have hn4 : h4.Ns s.heap.objs.size fun x => List.lookup x ((("self" : Str), Value.ref e) :: fs.zip us).reverse := by
      obtain ⟨oL, es, ep, hoL, r⟩ := hns
      exact ⟨oL, es, ep, k4 _ _ hLe (Heap.get?_push_of_some _ (k2 _ _ hoL)), r⟩
    refine sets (us := us) (done := []) T rfl rfl s.heap _ ps _ (by rw [← hps, List.length_map] at hl; exact hl.symm) (fun p hp => ?_) (fun z hz => ?_) ?_ hself hn4 hLe keep4 X hnx (Nat.le_of_lt hn4.lt) ⟨t1, none, hx4, rfl, fun dx z => nomatch z⟩ (fun s' e1 e2 e3 hE => ?_)
    · have pin : p.f ∈ fs := by rw [← hps]; exact List.mem_map_of_mem hp
      exact ⟨pin, kin _ pin⟩
    · rw [hps] at hz
      show List.lookup z.1 ((("self" : Str), Value.ref e) :: fs.zip us).reverse = some z.2
      rw [List.reverse_cons]
      have q1 := lookup_zip T.nd hz
      have app : ∀ (l r : List (Str × Value)) (v : Value), l.lookup z.1 = some v → (l ++ r).lookup z.1 = some v := by
        intro l r v
        induction l with
        | nil => intro q; cases q
        | cons a l ih =>
          obtain ⟨a1, a2⟩ := a
          intro q
          show ((a1, a2) :: (l ++ r)).lookup z.1 = some v
          rw [List.lookup_cons] at q ⊢
          cases qq : (z.1 == a1) with
          | true => rw [qq] at q; exact q
          | false => rw [qq] at q; exact ih q
      exact app _ _ _ q1
    · have z := T.len
      rw [← hps, List.length_map] at z
      simpa using z
    · rw [hps, List.append_nil] at hE
      exact hq s' e1 e2 e3 hE

/-- a made error -/
structure Made (h h' : Heap) (e C : Addr) (fvs : List (Str × Value)) : Prop where
  keep : ∀ b o, h.get? b = some o → h'.get? b = some o
  new : h.objs.size ≤ e
  obj : ∃ t1 d, h'.get? e = some (eO C t1 d) ∧ DictOk h h' e fvs d
theorem err_made (T : ErrTxt prog K fs C) {us : List Value} (hl : us.length = fs.length) (X : K.In s.heap) (hg : s.heap.Ns mainGlobals mg) (hb : ∃ mb, s.heap.Ns builtinsNs mb ∧ ∀ x : Str, x ≠ "__name__" → mb x = bootBuiltins x)
    (hlim : s.heap.NoLimit) (hroom : A.depth + 1 < recursionLimit) (hq : ∀ s' e, s'.os = s.os → s'.gens = s.gens → s'.drawn = s.drawn → Made s.heap s'.heap e C (fs.zip us).reverse → R (.ok (.ret (.ref e))) s') :
    codeAny (model prog w) A (.call (.ref C) ⟨us, []⟩) R s := by
  obtain ⟨nm, q, N, bs, bm, sn, sub, ab, col, dd, k0, k1, k2, k3, k5, hC, hbm⟩ := T.cls
  obtain ⟨fI, cc, cda, oc, od, qual, params, body, kV, doc, pm, an, ct, osl, ccl, cdd, vs, ccs, file, tf, cl, cld, csl, i1, i2, _⟩ := T.init
  obtain ⟨hp, g, dr, tk, os⟩ := s
  have k : ∀ b o, hp.get? b = some o → ((hp.push (kdv_tup us)).push (excO C hp.objs.size)).get? b = some o := fun b o e => Heap.get?_push_of_some _ (Heap.get?_push_of_some _ e)
  have hget : ((hp.push (kdv_tup us)).push (excO C hp.objs.size)).get? (hp.objs.size + 1) = some (excO C hp.objs.size) := by heap_get
  have hnx : K.lookup (hp.objs.size + 1) = none := by
    cases e : K.lookup (hp.objs.size + 1) with
    | none => rfl
    | some o =>
      have z : hp.get? (hp.objs.size + 1) = some o := X _ _ e
      exact absurd (Nat.lt_of_succ_lt (Heap.lt_size z)) (Nat.lt_irrefl _)
  have usz : us.length ≤ sizeLine := by have := T.len; rw [hl, sizeLine_eq]; omega
  refine call_own F.excBase_ValueError (fun X => refsVE_contains X bm hbm) (X _ _ hC) (looks_findIn X i1) (fun self => bind_fn X self i2) usz ?_
  refine err_init (s := ⟨(hp.push (kdv_tup us)).push (excO C hp.objs.size), g, dr, tk, os⟩) T i1 hl (X.keeps k) (hg.keeps k) (by obtain ⟨mb, h1, h2⟩ := hb; exact ⟨mb, h1.keeps k, h2⟩) (hlim.keeps k) hget hnx ?_ fun s' e1 e2 e3 hE => ?_
  · show A.depth + 1 < recursionLimit
    exact hroom
  · obtain ⟨k', t1, d, hobj, hd⟩ := hE
    have old : ∀ b o, hp.get? b = some o → s'.heap.get? b = some o := fun b o e => k' b o (Nat.ne_of_lt (Nat.lt_succ_of_lt (Heap.lt_size e))) (k b o e)
    refine ⟨rfl, hq s' (hp.objs.size + 1) e1 e2 e3 ⟨old, Nat.le_succ _, t1, d, hobj, ?_⟩⟩
    cases z : (fs.zip us).reverse with
    | nil => rw [z] at hd; exact hd
    | cons a r =>
      rw [z] at hd
      obtain ⟨dx, rfl, h1, h2, h3⟩ := hd
      refine ⟨dx, rfl, Nat.le_trans ?_ h1, h2, h3⟩
      show hp.objs.size ≤ ((hp.push (kdv_tup us)).push (excO C hp.objs.size)).objs.size
      rw [Heap.size_push, Heap.size_push]
      omega
end
end ErrX
end PySem

namespace L2
open PySem PySem.Spec PyProof.Rows
theorem relO_mOf {vs : List V} {us : List Value} (r : Vals vs us) : ∀ (fs : List Str) (g : Str), RelO (((fs.zip vs).reverse).lookup g) (ErrX.mOf (fs.zip us).reverse g) := by
  have key : ∀ (l : List (Str × V)) (m : List (Str × Value)), Paired (fun (p : Str × V) (q : Str × Value) => p.1 = q.1 ∧ RelV p.2 q.2) l m → ∀ g, RelO (l.lookup g) (ErrX.mOf m g) := by
    intro l m h
    induction h with
    | nil => intro g; trivial
    | cons a _ ih =>
      rename_i p q l m _
      obtain ⟨p1, p2⟩ := p
      obtain ⟨q1, q2⟩ := q
      obtain ⟨e, rv⟩ := a
      dsimp only at e rv
      subst e
      intro g
      rw [lookup_put]
      show RelO _ (if g = p1 then some q2 else ErrX.mOf m g)
      by_cases h : g = p1
      · rw [if_pos h, if_pos h]; exact rv
      · rw [if_neg h, if_neg h]; exact ih g
  intro fs g
  refine key _ _ ?_ g
  have zp : ∀ (fs : List Str) {vs : List V} {us : List Value}, Vals vs us → Paired (fun (p : Str × V) (q : Str × Value) => p.1 = q.1 ∧ RelV p.2 q.2) (fs.zip vs) (fs.zip us) := by
    intro fs
    induction fs with
    | nil => intro vs us _; exact .nil
    | cons f r ih =>
      intro vs us rr
      cases rr with
      | nil => exact .nil
      | cons a b => exact .cons ⟨rfl, a⟩ (ih b)
  have app : ∀ {l1 l2 : List (Str × V)} {m1 m2 : List (Str × Value)}, Paired (fun (p : Str × V) (q : Str × Value) => p.1 = q.1 ∧ RelV p.2 q.2) l1 m1 → Paired (fun (p : Str × V) (q : Str × Value) => p.1 = q.1 ∧ RelV p.2 q.2) l2 m2 → Paired (fun (p : Str × V) (q : Str × Value) => p.1 = q.1 ∧ RelV p.2 q.2) (l1 ++ l2) (m1 ++ m2) := by
    intro l1 l2 m1 m2 h1 h2
    induction h1 with
    | nil => exact h2
    | cons a _ ih => exact .cons a ih
  have rev : ∀ {l : List (Str × V)} {m : List (Str × Value)}, Paired (fun (p : Str × V) (q : Str × Value) => p.1 = q.1 ∧ RelV p.2 q.2) l m → Paired (fun (p : Str × V) (q : Str × Value) => p.1 = q.1 ∧ RelV p.2 q.2) l.reverse m.reverse := by
    intro l m h
    induction h with
    | nil => exact .nil
    | cons a _ ih => rw [List.reverse_cons, List.reverse_cons]; exact app ih (.cons a .nil)
  exact rev (zp fs r)
section
variable {X : Cx} {C : Addr} {fs : List Str} {x : Str}
/-- X(e, ..): an error with its fields (its dict d; none where it has none) -/
def tMkErr (C : Addr) (fs : List Str) (ta : TA) : St → Hp → XK → Prop := fun σ H Q => ta σ H fun vs H1 => vs.length = fs.length ∧
  (fs = [] → Q (.ref C) none H1) ∧ (fs ≠ [] → ∀ d, H1 d = none → Q (.ref C) (some d) (upd H1 d (.xd (fs.zip vs).reverse)))
theorem mk_err {pins : List (Addr × Obj)} {s1 : Shared} {σ : St} {H1 : Hp} {Q : XK} {us : List Value} {vs : List V} {k : Nat} (T : ErrX.ErrTxt X.prog X.K fs C) (hr : Room k X.A) (I1 : Inv X pins σ H1 s1) (r1 : Vals vs us) (hl : vs.length = fs.length)
    (q0 : fs = [] → Q (.ref C) none H1) (q1 : fs ≠ [] → ∀ d, H1 d = none → Q (.ref C) (some d) (upd H1 d (.xd (fs.zip vs).reverse))) : wpAny (model X.prog X.w) X.A (call (.ref C) us) (MkP X pins σ Q) X.xe s1 := by
  have hlim := I1.nolimit
  have hul : us.length = fs.length := by rw [← r1.length]; exact hl
  obtain ⟨hp, g, dr, tk, os⟩ := s1
  refine wpAny_call (ErrX.err_made T hul I1.kIn (I1.ok.mod.glob.keeps I1.bk) (by obtain ⟨mb, h1, h2⟩ := I1.ok.mod.blt; exact ⟨mb, h1.keeps I1.bk, h2⟩) hlim (by have := hr.dp; omega) fun s' e e1 e2 e3 M => ?_)
  obtain ⟨h', g', dr', tk', os'⟩ := s'
  obtain rfl : os' = os := e1
  obtain rfl : g' = g := e2
  obtain rfl : dr' = dr := e3
  show MkP X pins σ Q (.ref e) ⟨h', g', dr', tk', os'⟩
  obtain ⟨t1, d, hoe, hd⟩ := M.obj
  obtain ⟨G', g1, g2⟩ := restrict h' fun b => decide (b ≠ e)
  have gk : ∀ b, b ≠ e → G'.get? b = h'.get? b := fun b hb => g1 b (decide_eq_true hb)
  have ge : G'.get? e = none := g2 e (by simp)
  have old : ∀ b o, hp.get? b = some o → G'.get? b = some o := fun b o q => (gk b (Nat.ne_of_lt (Nat.lt_of_lt_of_le (Heap.lt_size q) M.new))).trans (M.keep b o q)
  have back : ∀ b o, G'.get? b = some o → h'.get? b = some o := fun b o q => by
    by_cases hb : b = e
    · rw [hb, ge] at q; cases q
    · exact (gk b hb).symm.trans q
  cases z : (fs.zip us).reverse with
  | nil =>
    rw [z] at hd
    obtain rfl : d = none := hd
    have fe : fs = [] := by
      cases fs with
      | nil => rfl
      | cons a r =>
        cases us with
        | nil => simp at hul
        | cons u us => simp at z
    have J : Inv X pins σ H1 ⟨G', g', dr', tk', os'⟩ := I1.kept (t' := tk') old
    exact ⟨e, _, _, ⟨G', g', dr', tk', os'⟩, _, .ref C, none, rfl, J, back, ge, hoe, ⟨rfl, rfl⟩, rfl, rfl, I1.hok.fresh M.new, rfl, I1.bare, raises_own T.exC T.tyC, q0 fe⟩
  | cons a r =>
    rw [z] at hd
    obtain ⟨dx, rfl, dbig, dne, hns⟩ := hd
    have fe : fs ≠ [] := fun q => by subst q; simp at z
    have ob : ObjOk X.prog X.w (upd H1 dx (.xd (fs.zip vs).reverse)) G' dx (.xd (fs.zip vs).reverse) :=
      ⟨_, hns.at (fun o q => (gk dx dne).trans q), fun f => by rw [← z]; exact relO_mOf r1 fs f⟩
    have J : Inv X pins σ (upd H1 dx (.xd (fs.zip vs).reverse)) ⟨G', g', dr', tk', os'⟩ := I1.laid (t' := tk') old dbig ob
    refine ⟨e, _, _, ⟨G', g', dr', tk', os'⟩, _, .ref C, some dx, rfl, J, back, ge, hoe, ⟨rfl, rfl⟩, rfl, rfl, ?_, rfl, I1.bare, raises_own T.exC T.tyC, q1 fe dx (I1.hok.fresh dbig)⟩
    rw [upd_ne (Ne.symm dne)]
    exact I1.hok.fresh M.new
theorem pmk_err {a : Expr} {as : List Expr} {ta : TA} {p pos : Pos} {k : Nat} (T : ErrX.ErrTxt X.prog X.K fs C) (hm : X.mg x = some (.ref C)) (hr : Room k X.A) (ha : PA X (a :: as) ta) (hg : Gl X x := by rfl) (hdb : (x == ("__debug__" : Str)) = false := by decide)
    (he : starEach (a :: as) X.env = (false, eval a X.env) :: starEach as X.env := by rfl) (hpl : (backTo pos (starEach as X.env)).any (·.1) = false := by rfl) :
    PMk X (.Call (.Name x p) (a :: as) [] pos) (tMkErr C fs ta) := by
  intro pins s σ H Q I h
  refine wpAny_Call_Name_kw (ld_glob I hg hm ?_ hdb)
  refine PySem.W.callWith_K (h₀ := X.base) I.ok.mod.kin T.kC (thn (ha.run pos pins s σ H _ I h) fun us s1 hh => ?_) he hpl
  obtain ⟨vs, H1, I1, r1, hl, q0, q1⟩ := hh
  exact ⟨I1.kIn, mk_err T hr I1 r1 hl q0 q1⟩
end
end L2


set_option Elab.async false
set_option linter.all false
set_option maxRecDepth 100000
set_option maxHeartbeats 4000000
/-! try with several except clauses, with and without a name; an error's fields and isinstance in a suite -/
namespace L2
open PySem PySem.Spec PyProof.Rows
/-- an except clause: its class, the slot of its name (if any), its suite -/
structure Cl where
  c : Value
  slot : Option Nat
  ts : Addr → Value → Option Addr → TS
/-- where a suite ends: its name goes -/
def dropAt (o : Option Nat) (D : Ends) : Ends := match o with
  | none => D
  | some i => { nx := fun z => D.nx (z.set i none), rt := D.rt, bk := fun z => D.bk (z.set i none), ct := fun z => D.ct (z.set i none) }
def putAt (o : Option Nat) (a : Addr) (z : St) : St := match o with
  | none => z
  | some i => z.set i (some (.ref a))
def wCl (K : PySem.W.Frag) (Wout : WX) (D : Ends) : List Cl → WX
  | [] => Wout
  | k :: r => fun cls d z H => ∃ b, PySem.W.exmOne K cls k.c = some b ∧ (b = true → ∀ a, H a = none → k.ts a cls d (dropAt k.slot D) (putAt k.slot a z) H) ∧ (b = false → wCl K Wout D r cls d z H)
inductive ClsOk (X : Cx) : List ExceptHandler → List Cl → Prop
  | nil : ClsOk X [] []
  | bare {x : Str} {k : Cl} {b0 : Stmt} {su : List Stmt} {np p : Pos} {hds : List ExceptHandler} {l : List Cl} (hc : Names X x k.c) (hk : k.slot = none)
      (hsu : ∀ (a : Addr) (oe : Obj) (cls : Value) (d : Option Addr) (pn : List (Addr × Obj)), Zc cls d oe → (∃ vs, oe.data = .fields vs) → PSs (X.suite a ((a, oe) :: pn)) (b0 :: su) (k.ts a cls d)) (r : ClsOk X hds l) :
      ClsOk X (.ExceptHandler (some (.Name x np)) none (b0 :: su) p :: hds) (k :: l)
  | named {x n : Str} {i : Nat} {k : Cl} {b0 : Stmt} {su : List Stmt} {np p : Pos} {hds : List ExceptHandler} {l : List Cl} (hc : Names X x k.c) (hk : k.slot = some i) (hi : X.N[i]? = some n) (hln : X.env.kindOf n = some .local)
      (hsu : ∀ (a : Addr) (oe : Obj) (cls : Value) (d : Option Addr) (pn : List (Addr × Obj)), Zc cls d oe → (∃ vs, oe.data = .fields vs) → PSs (X.suite a ((a, oe) :: pn)) (b0 :: su) (k.ts a cls d)) (r : ClsOk X hds l) :
      ClsOk X (.ExceptHandler (some (.Name x np)) (some n) (b0 :: su) p :: hds) (k :: l)
section
variable {X : Cx}
/-- the clauses, looked at one after the other, with the exception at a in the air -/
theorem clauses_go {B : Heap} {a : Addr} {pins : List (Addr × Obj)} {D : Ends} {sI s' : Shared} {h3 : Heap} {z : St} {H : Hp} {cls : Value} {d : Option Addr} {Wout : WX} (hs : X.stack = X.env :: X.outer) (hf : X.env.frame = some X.env.locals) (hN : X.N.Nodup) (tk : Takes X Wout) (ok : X.Ok)
    (J : Inv X pins z H sI) (nb : ∀ b o, sI.heap.get? b = some o → b ∉ frs X.stack → B.get? b = some o) (up : sI.heap.UpToSlots h3) (fl : HandSPX.FlyingZ B (X.env :: X.outer) a (Zc cls d) h3) (na : H a = none) (os : s'.os = sI.os) (ag : AllBare s'.gens) :
    ∀ {hds : List ExceptHandler} {l : List Cl}, ClsOk X hds l → wCl X.K Wout D l cls d z H → wpAny (model X.prog X.w) X.A (handleBy (.ref a) X.env hds) (SP X pins D) X.xe { s' with heap := h3 } := by
  have J3 : Inv X pins z H { s' with heap := h3 } := J.landed (s' := { s' with heap := h3 }) nb fl.1 up os ag
  obtain ⟨oe, vs, he, hz, hd⟩ := fl.there
  have nfr : a ∉ frs (X.env :: X.outer) := fun hm => by
    obtain ⟨_, o', e', hnf⟩ := fl.2.2.1.mem hm
    rw [he] at e'
    cases e'
    exact hnf _ hd
  have nL : a ≠ X.env.locals := fun q => nfr (List.mem_filterMap.mpr ⟨X.env, List.mem_cons_self, by rw [hf, q]⟩)
  have nF : a ∉ X.fs := fun hm => by
    obtain ⟨e, h1, q⟩ := List.mem_filterMap.mp hm
    exact nfr (List.mem_filterMap.mpr ⟨e, List.mem_cons_of_mem _ h1, q⟩)
  have S3 := J3.suite he hd na nL nF
  have LT : PySem.W.Looks (model X.prog X.w) h3 (typeOf (.ref a)) cls := fun A Q E s k q => wpAny_typeOf_ref (k _ _ he) (by rw [hz.1]; exact q)
  have test : ∀ {x : Str} {c : Value} {np : Pos}, Names X x c → ∀ {Q : Value → Shared → Prop} {E : Value → Shared → Prop}, Q c { s' with heap := h3 } → wpAny (model X.prog X.w) (X.A.mark (some (.ref a))) (eval (.Name x np) X.env) Q E { s' with heap := h3 } := by
    intro x c np hc Q E q
    obtain ⟨hg, hdb, hm | ⟨hm, hv, hn⟩⟩ := hc
    · exact ld_glob (X := X.suite a ((a, oe) :: (X.pn ++ pins))) S3 hg hm q hdb
    · exact ld_blt (X := X.suite a ((a, oe) :: (X.pn ++ pins))) S3 hg hm hv q hn hdb
  intro hds l hk
  induction hk with
  | nil =>
    intro w
    refine wpAny_handleBy_nil ?_
    obtain ⟨k1, k2, k3, oe', vs', T, oT, ts', he', hz', hd', h1, hr⟩ := id fl
    unfold PySem.passOn
    refine wpAny_bind (wpAny_field he' hd' h1 ?_)
    rw [if_neg (show ¬ ((Value.ref T == Value.none) = true) from by simp)]
    have out : wpAny (model X.prog X.w) X.A (setFlight (.ref a) X.env.frame) (fun _ s4 => wpAny (model X.prog X.w) X.A (throw (.ref a) : Sem Flow) (SP X pins D) X.xe s4) X.xe { s' with heap := h3 } := by
      rw [hf]
      exact HandSPX.setFlight_upZ fl fun h4 hh4 up4 => wpAny_throw (tk _ _ ⟨a, B, sI, pins, z, H, cls, d, rfl, J, nb, up.trans up4, .inr (.inr (by rw [hs]; exact hh4)), na, os, ag, w⟩)
    first
      | exact wpAny_bind (wpAny_pure (wpAny_bind out))
      | exact wpAny_bind out
  | @bare x k b0 su np p hds2 l2 hc hk hsu r ih =>
    intro w
    obtain ⟨b, hb1, hyes, hno⟩ := w
    refine wpAny_handleBy_cons (codeAny_handlers_test ?_) (by intro q; cases q)
    refine test hc ((PySem.W.exm_one (M := model X.prog X.w) J3.kIn LT hb1).here ?_)
    cases b with
    | false => exact ih (hno rfl)
    | true =>
      refine codeAny_handlers_suite (HandSPX.lands_againZ fl fun h4 fl4 up4 => ?_)
      have J4 : Inv X pins z H { s' with heap := h4 } := J.landed (s' := { s' with heap := h4 }) nb fl4.1 (up.trans up4) os ag
      obtain ⟨oe4, vs4, he4, hz4, hd4⟩ := fl4.there
      have go := hyes rfl a na
      rw [hk] at go
      refine wpAny_mono ((hsu a oe4 cls d (X.pn ++ pins) hz4 ⟨_, hd4⟩).run [] _ _ H _ (J4.suite he4 hd4 na nL nF) go) (fun f s6 hsp => ?_) (fun _ _ q => False.elim q)
      cases f with
      | ret u =>
        obtain ⟨v6, z6, H6, S6, r6, q6⟩ := hsp
        exact ⟨_, _, _, S6.unsuite ok, r6, q6⟩
      | next | brk | cont =>
        obtain ⟨z6, H6, S6, q6⟩ := hsp
        exact ⟨_, _, S6.unsuite ok, q6⟩
  | @named x n i k b0 su np p hds2 l2 hc hk hi hln hsu r ih =>
    intro w
    obtain ⟨b, hb1, hyes, hno⟩ := w
    refine wpAny_handleBy_cons (codeAny_handlers_test ?_) (by intro q; cases q)
    refine test hc ((PySem.W.exm_one (M := model X.prog X.w) J3.kIn LT hb1).here ?_)
    cases b with
    | false => exact ih (hno rfl)
    | true =>
      refine codeAny_handlers_suite_as (HandSPX.lands_againZ fl fun h4 fl4 up4 => ?_)
      have J4 : Inv X pins z H { s' with heap := h4 } := J.landed (s' := { s' with heap := h4 }) nb fl4.1 (up.trans up4) os ag
      obtain ⟨oe4, vs4, he4, hz4, hd4⟩ := fl4.there
      have go := hyes rfl a na
      rw [hk] at go
      refine store_ok (X := X.suite a ((a, oe4) :: (X.pn ++ pins))) (v := .ref a) (J4.suite he4 hd4 na nL nF) hN hi (.inl hln) rfl (fun s5 S5 => ?_) (.inr hln)
      refine wpAny_mono ((hsu a oe4 cls d (X.pn ++ pins) hz4 ⟨_, hd4⟩).run [] s5 _ H _ S5 go) (fun f s6 hsp => ?_) (fun _ _ q => False.elim q)
      have gone : ∀ {z6 : St} {H6 : Hp} {Q : Shared → Prop}, Inv (X.suite a ((a, oe4) :: (X.pn ++ pins))) [] z6 H6 s6 → (∀ s7, Inv X pins (z6.set i none) H6 s7 → Q s7) →
          wpAny (model X.prog X.w) X.A (do bindName X.env n .none; unbindBehindTheSuite X.env n p) (fun _ s7 => Q s7) X.xe s6 := fun S6 hq => gone_ok (S6.unsuite ok) hN hi hln hq
      cases f with
      | ret u =>
        obtain ⟨v6, z6, H6, S6, r6, q6⟩ := hsp
        exact gone S6 fun s7 J7 => ⟨_, _, _, J7, r6, q6⟩
      | next | brk | cont =>
        obtain ⟨z6, H6, S6, q6⟩ := hsp
        exact gone S6 fun s7 J7 => ⟨_, _, J7, q6⟩
/-- try: body / except .. (as ..): .. -/
theorem ps_try_cls {body : List Stmt} {h0 : ExceptHandler} {hds : List ExceptHandler} {l : List Cl} {pos : Pos} {tb : WX → TS} {Wout : WX} (hs : X.stack = X.env :: X.outer) (hf : X.env.frame = some X.env.locals) (hN : X.N.Nodup) (tk : Takes X Wout)
    (hb : ∀ (W : WX) (pn : List (Addr × Obj)) (xe : Value → Shared → Prop), Takes (X.tr pn xe) W → PassesOwn (model X.prog X.w) X.A X.env xe → PSs (X.tr pn xe) body (tb W))
    (hh : ClsOk X (h0 :: hds) l) : PS X (.Try body (h0 :: hds) [] [] pos) (fun D z H => tb (wCl X.K Wout D l) D z H) := by
  refine ⟨fun pins s z H D I h => ?_⟩
  have ok := I.ok
  have hfr : X.A.frames = some (X.env :: X.outer) := by rw [ok.frames, hs]
  refine wpAny_Try_except (wpAny_mono ((hb (wCl X.K Wout D l) (X.pn ++ pins) (fun e s1 => wpAny (model X.prog X.w) X.A (noteFrame e X.env) (fun _ s2 => wpAny (model X.prog X.w) X.A (setFlight e none) (fun _ s3 =>
    wpAny (model X.prog X.w) X.A (handleBy e X.env (h0 :: hds)) (SP X pins D) X.xe s3) X.xe s2) X.xe s1) (fun u s' xx => ?_) PassesOwn.looking).run [] s z H D (I.toTry _) h) (fun f s1 hsp => ?_) (fun e s1 he => he))
  · obtain ⟨a, B, sI, pins', z', H', cls, d, rfl, J', nb, up, sky, na, os, ag, w⟩ := xx
    show wpAny (model X.prog X.w) X.A (noteFrame (.ref a) X.env) _ _ _
    exact Sky.land Zc.steady hfr hf (by rw [← hs]; exact sky) fun h3 fl3 up3 => clauses_go hs hf hN tk ok (J'.ofTry ok) nb (up.trans up3) fl3 na os ag hh w
  · cases f with
    | next =>
      obtain ⟨z', H', J', q⟩ := hsp
      exact wpAny_execs_nil ⟨z', H', J'.ofTry ok, q⟩
    | brk | cont =>
      obtain ⟨z', H', J', q⟩ := hsp
      exact ⟨z', H', J'.ofTry ok, q⟩
    | ret u =>
      obtain ⟨v, z', H', J', r, q⟩ := hsp
      exact ⟨v, z', H', J'.ofTry ok, r, q⟩

/-- e.f, e the error that the suite holds at a (class cls, dict d) -/
def tErrFld (C a : Addr) (cls : Value) (d : Option Addr) (f : Str) (te : TE) : TE := fun z H Q => te z H fun x H1 => x = .ref a ∧ cls = .ref C ∧ ∃ (dd : Addr) (fvs : List (Str × V)) (v : V), d = some dd ∧ H1 dd = some (.xd fvs) ∧ fvs.lookup f = some v ∧ Q v H1
theorem pe_errFld {fs : List Str} {C a : Addr} {oe : Obj} {cls : Value} {d : Option Addr} {pn : List (Addr × Obj)} {e : Expr} {te : TE} {f : Str} {pos : Pos} (T : ErrX.ErrTxt X.prog X.K fs C) (hm : f ∈ fs) (hz : Zc cls d oe) (hf : ∃ vs, oe.data = .fields vs) (he : PE (X.suite a ((a, oe) :: pn)) e te)
    (hb : attributeBase e f X.env (eval e X.env) = eval e X.env := by rfl) : PE (X.suite a ((a, oe) :: pn)) (.Attribute e f pos) (tErrFld C a cls d f te) := by
  refine ⟨fun pins s z H Q I h => attr_of hb (thn (he.run pins s z H _ I h) fun u s1 hh => ?_)⟩
  obtain ⟨x, H1, I1, rx, ex, ec, dd, fvs, v, ed, ea, el, q⟩ := hh
  subst ex ec ed
  obtain rfl : u = Value.ref a := rx
  obtain ⟨ha, _⟩ := I1.pin (a, oe) (List.mem_append_left _ List.mem_cons_self)
  obtain ⟨vs, hd⟩ := hf
  have hx : ObjOk X.prog X.w H1 s1.heap dd (.xd fvs) := I1.hok dd _ ea
  obtain ⟨mA, hns, hr⟩ := hx
  obtain ⟨od, ho, hl⟩ := lookIn_ns hns
  obtain ⟨u, hu, ru⟩ := RelO.some_of (v := v) (o := mA f) (by rw [← el]; exact hr f)
  have J : PySem.W.InstAt s1.heap a oe C (some od) := ⟨ha, hz.1, by unfold PySem.W.notCls; rw [hd] <;> rfl, by rw [hz.2]; exact ho⟩
  exact HandSPX.exc_get I1.kIn J T.ga T.gg T.exC (PySem.W.findObj_own T.hdC (T.noN _ hm) rfl (by rw [hl, hu])) (handed_of ru) ⟨v, H1, I1.tok _, ru, q⟩
/-- what the class at D must say, so that isinstance asks its instances rightly -/
structure ErrK (K : PySem.W.Frag) (D : Addr) : Prop where
  hcl : (PySem.W.clsIn K D).isSome = true
  hga : PySem.W.findIn K (.ref D) "__getattribute__" = some (some (.builtin "BaseException.__getattribute__"))
  hgt : PySem.W.findIn K (.ref D) "__getattr__" = some none
  hsub : PySem.W.subIn K (.ref D) (.type "BaseException") = some true
  ha : PySem.W.findIn K (.ref D) "__class__" = some (some (.builtin "object.__class__"))
  hn : PySem.W.specialIn K (.builtin "object.__class__") "__get__" = some (some (.builtin "getset_descriptor.__get__"))
  htk : PySem.W.takesIn K (.builtin "object.__class__") = some true
  hm : PySem.W.mroIn K D (.type "object") = some true
/-- isinstance(e, c), e the error that the suite holds -/
def rIsErr (K : PySem.W.Frag) (a : Addr) (cls : Value) (d : Option Addr) : List V → Hp → VK → Prop := fun xs H Q => ∃ (D : Addr) (c : V) (cv : Value) (b : Bool), cls = .ref D ∧ ErrK K D ∧ xs = [.ref a, c] ∧ (∀ u, RelV c u → u = cv) ∧ PySem.W.kitOne K (.ref D) cv = some b ∧
  (d = none ∨ ∃ dd fvs, d = some dd ∧ H dd = some (.xd fvs)) ∧ Q (.bl b) H
theorem call_isErr {a : Addr} {oe : Obj} {cls : Value} {d : Option Addr} {pn : List (Addr × Obj)} (hz : Zc cls d oe) (hf : ∃ vs, oe.data = .fields vs) : CallR (X.suite a ((a, oe) :: pn)) (.builtin "isinstance") (rIsErr X.K a cls d) := by
  intro pins s z H xs us Q I r h
  obtain ⟨D, c, cv, b, rfl, T, rfl, hcv, e, hd, q⟩ := h
  cases r with
  | cons rx rr =>
    cases rr with
    | cons rt rr =>
      cases rr
      cases rx
      have ec := hcv _ rt
      subst ec
      obtain ⟨hget, _⟩ := I.pin (a, oe) (List.mem_append.mpr (.inl List.mem_cons_self))
      obtain ⟨vs, hv⟩ := hf
      have nc : PySem.W.notCls oe = true := by unfold PySem.W.notCls; rw [hv] <;> rfl
      have J : ∃ od, PySem.W.InstAt s.heap a oe D od := by
        rcases hd with rfl | ⟨dd, fvs, rfl, hx⟩
        · exact ⟨none, hget, hz.1, nc, by rw [hz.2]; trivial⟩
        · have hx' : ObjOk X.prog X.w H s.heap dd (.xd fvs) := I.hok dd _ hx
          obtain ⟨mA, ⟨od, es, ep, ho, _⟩, hr⟩ := hx'
          exact ⟨some od, hget, hz.1, nc, by rw [hz.2]; exact ho⟩
      obtain ⟨od, J⟩ := J
      exact PySem.W.kia_one (PySem.W.kitx_exc T.hcl T.hga T.hgt T.hsub T.ha T.hn T.htk T.hm) I.kIn J e (fun z => nomatch z) fun tk => ⟨.bl b, H, I.kept (t' := tk) fun _ _ z => z, rfl, q⟩
end
end L2


set_option Elab.async false
set_option linter.all false
set_option maxRecDepth 100000
set_option maxHeartbeats 4000000
/-! dicts whose keys are None, ints and texts -/
namespace L2
open PySem PySem.Spec PyProof.Rows
def nV : Option Key → V
  | none => .non
  | some k => kV k
def dNok (P : Program) (w : World) (a : Addr) (kvs : List (Option Key × V)) (h : Heap) : Prop := kvs.length ≤ sizeLine ∧ (a == sysModules) = false ∧ ∃ vs, KV kvs vs ∧ h.DictOf (noneKind P w) a vs
def dN (P : Program) (w : World) (a : Addr) (kvs : List (Option Key × V)) : HO := .ext (dNok P w a kvs)
theorem nV_is {P : Program} {w : World} {k : Option Key} {u : Value} (r : RelV (nV k) u) : (noneKind P w).is k u = true := by
  cases k with
  | none => cases r; rfl
  | some k => exact kV_is (P := P) (w := w) r
section
variable {P : Program} {w : World} {H : Hp} {h h' : Heap} {a : Addr} {kvs : List (Option Key × V)}
theorem dN_ok (z : dNok P w a kvs h) : ObjOk P w H h a (dN P w a kvs) := by
  refine ⟨z, ?_, fun h1 h2 z k => ?_⟩
  · obtain ⟨_, _, vs, _, o, es, ep, e, _⟩ := z
    exact ⟨o, e⟩
  · obtain ⟨z1, z2, vs, r, o, es, ep, e, c⟩ := z
    exact ⟨z1, z2, vs, r, o, es, ep, k _ e, c⟩
theorem dN_at (ok : HOk P w H h) (e : H a = some (dN P w a kvs)) : dNok P w a kvs h := by
  have x : ObjOk P w H h a (.ext (dNok P w a kvs)) := ok a _ e
  exact x.1
theorem dictOf_nil (x : h.DictOf (mixKind P w) a []) : h.DictOf (noneKind P w) a [] := by
  obtain ⟨o, es, ep, h1, h2, h3, h4, h5, h6⟩ := x
  have e0 : es = #[] := by
    cases hs : es with
    | mk l =>
      cases l with
      | nil => rfl
      | cons q r => subst hs; exact nomatch h5
  subst e0
  exact ⟨o, #[], ep, h1, h2, h3, fun e he => absurd he (by simp), .nil, List.nodup_nil⟩
end
theorem carriesN_of {P : Program} {w : World} : ∀ {kvs : List (Option Key × V)} {ws : List (Value × Value)}, VV (kvs.map fun kv => (nV kv.1, kv.2)) ws → ∃ rs, Carries (noneKind P w) ws rs ∧ KV kvs rs
  | [], _, r => by rw [List.map_nil] at r; cases r; exact ⟨[], True.intro, .nil⟩
  | p :: kvs, _, r => by
    rw [List.map_cons] at r
    cases r with
    | @cons a b as bs h t =>
      obtain ⟨rs, c, q⟩ := carriesN_of (P := P) (w := w) t
      obtain ⟨b1, b2⟩ := b
      exact ⟨(p.1, b2) :: rs, ⟨nV_is h.1, rfl, c⟩, .cons ⟨rfl, h.2⟩ q⟩
def mergeN (kvs more : List (Option Key × V)) : List (Option Key × V) := more.foldl (fun acc kv => putK acc kv.1 kv.2) kvs
theorem KV.mergeN : ∀ {more : List (Option Key × V)} {rs : List (Option Key × Value)} {kvs : List (Option Key × V)} {vs : List (Option Key × Value)}, KV more rs → KV kvs vs → KV (mergeN kvs more) (merged vs rs) := by
  intro more rs kvs vs h
  induction h generalizing kvs vs with
  | nil => intro r; exact r
  | @cons a b as bs hab _ ih =>
    intro r
    obtain ⟨a1, a2⟩ := a
    obtain ⟨b1, b2⟩ := b
    obtain ⟨e, rv⟩ := hab
    dsimp only at e rv
    subst e
    exact ih (r.put a1 rv)
theorem length_mergeN : ∀ (more kvs : List (Option Key × V)), (mergeN kvs more).length ≤ kvs.length + more.length
  | [], kvs => Nat.le_refl _
  | p :: more, kvs => by
    have h1 := length_mergeN more (putK kvs p.1 p.2)
    have h2 := length_putK kvs p.1 p.2
    show (mergeN (putK kvs p.1 p.2) more).length ≤ _
    rw [List.length_cons]
    omega
/-- {k: v, ..}, None among the keys -/
def tDispN (P : Program) (w : World) (trs : List (TE × TE)) : TE := fun z H Q => ∀ p, H p = none → tPairs trs z (upd H p (.dK [])) fun ps H2 => H2 p = some (.dK []) ∧ ∃ kvs : List (Option Key × V), ps = kvs.map (fun kv => (nV kv.1, kv.2)) ∧ kvs.length ≤ 15 ∧ Q (.ref p) (upd H2 p (dN P w p (mergeN [] kvs)))
theorem pe_dispN {X : Cx} {pos : Pos} {keys : List (Option Expr)} {values : List Expr} {trs : List (TE × TE)} (h : PPs X pos keys values trs) (hall : keys.all (·.isSome) = true) (hl : keys.length = values.length) (h0 : keys ≠ [])
    (h15 : keys.length ≤ 15) : PE X (.Dict keys values pos) (tDispN X.prog X.w trs) := by
  refine ⟨fun pins s z H Q I q => ?_⟩
  have hn := I.hok.fresh (Nat.le_refl s.heap.objs.size)
  have I1 := I.laid (a := s.heap.objs.size) (o := .dK []) (h' := s.heap.push { cls := .type "dict", data := .dict #[] }) (t' := s.toks) (fun _ _ q => Heap.get?_push_of_some _ q) (Nat.le_refl _) (dk_empty s.heap I.big)
  refine wpAny_Dict_walk (knd := noneKind X.prog X.w) hall hl h0 h15 (thn (h.run pins _ z _ _ I1 (q _ hn)) fun ws s2 ⟨ps, H2, I2, rel, e, kvs, ep, lk, q2⟩ => ?_)
  subst ep
  obtain ⟨rs, c, rk⟩ := carriesN_of (P := X.prog) (w := X.w) rel
  obtain ⟨zz, hd, vs0, r0, dd⟩ := dk_of I2.hok e
  cases r0
  refine ⟨rs, c, dictOf_nil dd, fun h' dd' hs => ⟨.ref s.heap.objs.size, _, ?_, rfl, q2⟩⟩
  have hz : (mergeN [] kvs).length ≤ sizeLine := by
    have h1 := length_mergeN kvs []
    rw [List.length_nil] at h1
    rw [sizeLine_eq]; omega
  have he : ∃ q, h'.get? s.heap.objs.size = some q := let ⟨q, _, _, hq, _⟩ := dd'; ⟨q, hq⟩
  exact d_write I2 (by rw [e]; exact True.intro) hs he (dN_ok ⟨hz, hd, _, rk.mergeN .nil, dd'⟩)
section
variable {X : Cx} {o e f : Expr} {apos cpos : Pos} {td ty tx : TE}
/-- d.get(k, x) -/
def tDGet2N (P : Program) (w : World) (td ty tx : TE) : TE := fun z H Q => td z H fun x H1 => ∃ a kvs, x = .ref a ∧ H1 a = some (dN P w a kvs) ∧ ty z H1 fun y H2 => tx z H2 fun v H3 => ∃ kvs' k, H3 a = some (dN P w a kvs') ∧ y = nV k ∧ Q ((valV kvs' k).getD v) H3
theorem pe_dget2N (ho : PE X o td) (he : PE X e ty) (hx : PE X f tx) (m : M2 X o "get" apos e f cpos) : PE X (.Call (.Attribute o "get" apos) [e, f] [] cpos) (tDGet2N X.prog X.w td ty tx) := by
  refine ⟨fun pins s z H Q I h => ?_⟩
  refine wpAny_Call_method m.base m.few m.line PySem.F.plainAttrs_dict PySem.F.slot_dict_get PySem.F.type_dict_get (thn (ho.run pins s z H _ I h) fun u s1 ⟨x, H1, I1, rx, a, kvs, ex, d, q1⟩ => ?_)
  subst ex
  obtain rfl : u = Value.ref a := rx
  obtain ⟨_, hd, vs, rel, dd⟩ := dN_at I1.hok d
  refine ⟨dd.typeIs, fun b q => ?_, ?_⟩
  · cases q
    obtain ⟨ob, _, _, h1, h2, _⟩ := dd
    exact ⟨ob, h1, h2.2.1⟩
  rw [m.trees]
  refine Calls.callWith_builtin rfl (Calls.evalArgs_plain (Calls.spliced_cons (thn (he.run pins s1 z H1 _ I1 q1) fun iv s2 ⟨y, H2, I2, ry, q2⟩ =>
    Calls.spliced_cons (thn (hx.run pins s2 z H2 _ I2 q2) fun fv s3 ⟨zv, H3, I3, rz, kvs', k, e3, ey, q3⟩ => Calls.spliced_nil ?_))))
  subst ey
  obtain ⟨_, hd', vs', rel', dd'⟩ := dN_at I3.hok e3
  exact call_meetsIn PySem.F.slot_dict_get dd'.typeIs PySem.F.entry_dict_get (PySem.F.args_dict_get_3 _ _ _) (meets_dict_get_default (noneKind X.prog X.w) a (nV_is ry) hd' fv) ⟨_, dd'.mapOf, ⟨_, H3, I3.tok _, (rel'.val k).getD rz, q3⟩⟩
/-- d[k] = v -/
def sDPutN (P : Program) (w : World) (td ty tv : TE) : TS := fun D z H => tv z H fun v H1 => td z H1 fun x H2 => ty z H2 fun y H3 => ∃ a kvs k, x = .ref a ∧ H3 a = some (dN P w a kvs) ∧ y = nV k ∧ kvs.length < sizeLine ∧ D.nx z (upd H3 a (dN P w a (putK kvs k v)))
theorem ps_dputN {i value : Expr} {pos pos' : Pos} {tv : TE} (ho : PE X o td) (hi : PE X i ty) (hv : PE X value tv) (hs : swapsWith value (some (.Subscript o i pos')) pos.line X.env = pure false) :
    PS X (.Assign [.Subscript o i pos'] value pos) (sDPutN X.prog X.w td ty tv) := by
  refine ⟨fun pins s z H D I h => ?_⟩
  refine wpAny_Assign_Subscript (thn (hv.run pins s z H _ I h) fun r s1 ⟨v, H1, I1, rv, q1⟩ => thn (ho.run pins s1 z H1 _ I1 q1) fun u s2 ⟨x, H2, I2, rx, q2⟩ => thn (hi.run pins s2 z H2 _ I2 q2) fun iv s3 ⟨y, H3, I3, ry, a, kvs, k, ex, e, ey, l, q3⟩ => ?_) hs
  subst ex ey
  obtain rfl : u = Value.ref a := rx
  obtain ⟨zz, hd, vs, rel, dd⟩ := dN_at I3.hok e
  have hz : vs.length ≤ sizeLine := by rw [← rel.length]; exact zz
  have hl : (putK kvs k v).length ≤ sizeLine := by have := length_putK kvs k v; omega
  refine wpAny_setItem_pairs (hsz := hz) (nV_is ry) dd fun h' dd' hs => ⟨z, _, ?_, q3⟩
  have he : ∃ q, h'.get? a = some q := let ⟨q, _, _, hq, _⟩ := dd'; ⟨q, hq⟩
  exact d_write I3 (by rw [e]; exact True.intro) hs he (dN_ok ⟨hl, hd, _, rel.put k rv, dd'⟩)
end
end L2


set_option Elab.async false
set_option linter.all false
set_option maxRecDepth 100000
set_option maxHeartbeats 4000000
/-! calls by names; small words -/
namespace L2
open PySem PySem.Spec PyProof.Rows
/-- the module's name x is a def that keeps sp (its last parameters filled by the defaults ds) -/
structure FnX (P : Program) (w : World) (K : PySem.W.Frag) (mg : Str → Option Value) (base : Heap) (CX : CXT) (k : Nat) (x : Str) (ps : List Str) (ds : List V) (sp : Sp) : Prop where
  ex : ∃ f fd dvs, mg x = some (.ref f) ∧ PySem.W.keepIn K (.ref f) = true ∧ Binds K fd ps dvs ∧ Vals ds dvs ∧ FnOk P w K mg base CX k f fd ps sp
/-- the class at C has the method m, which keeps sp -/
structure MeX (P : Program) (w : World) (K : PySem.W.Frag) (mg : Str → Option Value) (base : Heap) (CX : CXT) (k : Nat) (C : Addr) (m : Str) (ps : List Str) (ds : List V) (sp : Sp) : Prop where
  ex : ∃ f fd dvs, Cls K C ∧ Meth K C m f ∧ Binds K fd ps dvs ∧ Vals ds dvs ∧ FnOk P w K mg base CX k f fd ps sp
/-- the module's name x is the class at C, whose __init__ keeps sp -/
structure MkX (P : Program) (w : World) (K : PySem.W.Frag) (mg : Str → Option Value) (base : Heap) (CX : CXT) (k : Nat) (x : Str) (C : Addr) (ps : List Str) (ds : List V) (sp : Sp) : Prop where
  ex : ∃ f fd dvs, mg x = some (.ref C) ∧ Mk K C f ∧ Binds K fd ps dvs ∧ Vals ds dvs ∧ FnOk P w K mg base CX k f fd ps sp
section
variable {X : Cx} {CX : CXT} {k : Nat} {C : Addr} {ps : List Str} {sp : Sp} {ds : List V} {E : XK} {x m : Str} {p pos apos : Pos} {e o : Expr} {es : List Expr} {ta : TE} {t : TA}
theorem pe_callX (F : FnX X.prog X.w X.K X.mg X.base CX k x ps ds sp) (hr : Room k X.A) (hx : Passes CX X E) (ha : PA X (e :: es) t) (hg : Gl X x := by rfl) (hdb : (x == ("__debug__" : Str)) = false := by decide)
    (he : starEach (e :: es) X.env = (false, eval e X.env) :: starEach es X.env := by rfl) (hpl : (backTo pos (starEach es X.env)).any (·.1) = false := by rfl) : PE X (.Call (.Name x p) (e :: es) [] pos) (tCall sp ds E t) := by
  obtain ⟨f, fd, dvs, hm, kp, b, vd, G⟩ := F.ex
  exact pe_call G hr hg hm kp b vd hx ha hdb he hpl
theorem pe_callX0 (F : FnX X.prog X.w X.K X.mg X.base CX k x ps ds sp) (hr : Room k X.A) (hx : Passes CX X E) (hg : Gl X x := by rfl) (hdb : (x == ("__debug__" : Str)) = false := by decide) : PE X (.Call (.Name x p) [] [] pos) (tCall sp ds E tNil) := by
  obtain ⟨f, fd, dvs, hm, kp, b, vd, G⟩ := F.ex
  exact pe_call0 G hr hg hm kp b vd hx hdb
theorem pe_methX {pl : Sem Bool} (F : MeX X.prog X.w X.K X.mg X.base CX k C m ps ds sp) (hr : Room k X.A) (hx : Passes CX X E) (ho : PE X o ta) (ha : PA X (e :: es) t)
    (hst : starEach (e :: es) X.env = (false, eval e X.env) :: starEach es X.env := by rfl) (hpl : (backTo pos (starEach es X.env)).any (·.1) = false := by rfl)
    (ht : eval (.Call (.Attribute o m apos) (e :: es) [] pos) X.env = (do
      let ov ← eval o X.env
      standAt apos.atName
      let (f, first) ← holding [ov] (getMethod ov m pl)
      callWith pos f first (backTo pos (starEach (e :: es) X.env)) (backToKw pos (keywordEach [] X.env))) := by rfl) :
    PE X (.Call (.Attribute o m apos) (e :: es) [] pos) (tMeth C m sp ds E ta t) := by
  obtain ⟨f, fd, dvs, c, mm, b, vd, G⟩ := F.ex
  exact pe_meth ho c mm G hr b vd hx ha hst hpl ht
theorem pe_methX0 {pl : Sem Bool} (F : MeX X.prog X.w X.K X.mg X.base CX k C m ps ds sp) (hr : Room k X.A) (hx : Passes CX X E) (ho : PE X o ta)
    (ht : eval (.Call (.Attribute o m apos) [] [] pos) X.env = (do
      let ov ← eval o X.env
      standAt apos.atName
      let (f, first) ← holding [ov] (getMethod ov m pl)
      callWith pos f first (backTo pos (starEach [] X.env)) (backToKw pos (keywordEach [] X.env))) := by rfl) :
    PE X (.Call (.Attribute o m apos) [] [] pos) (tMeth C m sp ds E ta tNil) := by
  obtain ⟨f, fd, dvs, c, mm, b, vd, G⟩ := F.ex
  exact pe_meth0 ho c mm G hr b vd hx ht
theorem pe_makeX (F : MkX X.prog X.w X.K X.mg X.base CX k x C ps ds sp) (hr : Room (k + 1) X.A) (hx : Passes CX X E) (ha : PA X (e :: es) t) (hg : Gl X x := by rfl) (hdb : (x == ("__debug__" : Str)) = false := by decide)
    (he : starEach (e :: es) X.env = (false, eval e X.env) :: starEach es X.env := by rfl) (hpl : (backTo pos (starEach es X.env)).any (·.1) = false := by rfl) : PE X (.Call (.Name x p) (e :: es) [] pos) (tMake C sp ds E t) := by
  obtain ⟨f, fd, dvs, hm, M, b, vd, G⟩ := F.ex
  exact pe_make M G hr hg hm b vd hx ha hdb he hpl
/-- a constant of the module that is an int, a text, an object -/
theorem pe_gint {i : Int} (h : ∃ t, X.mg x = some (.int i t)) (hg : Gl X x := by rfl) (hdb : (x == ("__debug__" : Str)) = false := by decide) : PE X (.Name x pos) (tC (.int i)) := by
  obtain ⟨t, h⟩ := h
  exact pe_glob hg h ⟨t, rfl⟩ hdb
theorem pe_gstr {z : Str} (h : ∃ t, X.mg x = some (.str z t)) (hg : Gl X x := by rfl) (hdb : (x == ("__debug__" : Str)) = false := by decide) : PE X (.Name x pos) (tC (.str z)) := by
  obtain ⟨t, h⟩ := h
  exact pe_glob hg h ⟨t, rfl⟩ hdb
theorem pe_gref {a : Addr} (h : X.mg x = some (.ref a)) (hg : Gl X x := by rfl) (hdb : (x == ("__debug__" : Str)) = false := by decide) : PE X (.Name x pos) (tC (.ref a)) := pe_glob hg h rfl hdb
/-- what is raised in a callee goes on out of this def -/
theorem passOut {E : XK} {P : Program} {w : World} {K : PySem.W.Frag} {mg : Str → Option Value} {base : Heap} {N : List Str} {qual : Str} {scope : Scope} {f : Addr} {cd : Value} {A : Around} {outer : List Env} {s : Shared} {H : Hp} :
    Passes (L2.CX P w) (cxOf (L2.CX P w) P w K mg base N qual scope f cd A outer s H E) E := passes_call (takes_of rfl rfl rfl rfl) (fun _ _ _ _ h => h)
/-- a def that raises nothing, where some may be raised -/
theorem FnX.out {P : Program} {w : World} {K : PySem.W.Frag} {mg : Str → Option Value} {base : Heap} (F : FnX P w K mg base CX0 k x ps ds sp) : FnX P w K mg base (L2.CX P w) k x ps ds sp := by
  obtain ⟨f, fd, dvs, hm, kp, b, vd, G⟩ := F.ex
  refine ⟨f, fd, dvs, hm, kp, b, vd, G.len, fun A outer s H args us vs Q E hr he hb hv hs => codeAny_mono (G.run A outer s H args us vs Q E hr he hb hv hs) fun r s' h => ?_⟩
  cases r with
  | error e => exact (show False from h).elim
  | ok fl => cases fl <;> exact h
theorem FnX.mono {P : Program} {w : World} {K : PySem.W.Frag} {mg : Str → Option Value} {base : Heap} {j : Nat} (F : FnX P w K mg base CX j x ps ds sp) (h : j ≤ k) : FnX P w K mg base CX k x ps ds sp := by
  obtain ⟨f, fd, dvs, hm, kp, b, vd, G⟩ := F.ex
  exact ⟨f, fd, dvs, hm, kp, b, vd, G.mono h⟩
end
/-- a def of the text, at the module's name x, without defaults -/
abbrev DefX (K : PySem.W.Frag) (mg : Str → Option Value) (x : Str) (st : Stmt) : Prop := ∃ f fd, mg x = some (.ref f) ∧ FunD K x x (defArgs st) (defBody st) (defScope st) [] [] f fd
section
variable {P : Program} {w : World} {K : PySem.W.Frag} {mg : Str → Option Value} {base : Heap} {x : Str} {st : Stmt} {N ps : List Str} {k : Nat} {sp : Sp}
theorem DefX.ok0 (F : DefX K mg x st) (S : FnScope N ps (defScope st)) (hb : ∀ (kV doc pm : Value) (an : Option Addr) (cdv ct : Value) (us : List Value), us.length = ps.length → bindArgs (PySem.W.fnOf x x (defArgs st) (defBody st) (defScope st) .none kV doc pm an cdv ct) ⟨us, []⟩ = pure (ps.zip us))
    (len : ∀ vs H Q E, sp vs H Q E → vs.length = ps.length)
    (hbody : ∀ (f : Addr) (cdv : Value) (A : Around) (outer : List Env) (s : Shared) (H : Hp) (vs : List V) (Q : VK) (E : XK), Room k (A.deeper (envOfC x (defScope st) s.heap.objs.size f cdv)) → sp vs H Q E →
      ∃ t, PSs (cxOf CX0 P w K mg base N x (defScope st) f cdv A outer s H E).nox (defBody st) t ∧ t { nx := fun _ H' => Q .non H', rt := Q } (start N vs) H) : FnX P w K mg base CX0 (k + 1) x ps [] sp := by
  obtain ⟨f, fd, hm, F⟩ := F
  refine ⟨f, fd, [], hm, F.kp, F.bindsN hb, .nil, F.ok S len fun cdv A outer s H vs Q E hr h => ?_⟩
  obtain ⟨t, h1, h2⟩ := hbody f cdv A outer s H vs Q E hr h
  exact ⟨t, h1.nox, h2⟩
theorem DefX.okX (F : DefX K mg x st) (S : FnScope N ps (defScope st)) (hb : ∀ (kV doc pm : Value) (an : Option Addr) (cdv ct : Value) (us : List Value), us.length = ps.length → bindArgs (PySem.W.fnOf x x (defArgs st) (defBody st) (defScope st) .none kV doc pm an cdv ct) ⟨us, []⟩ = pure (ps.zip us))
    (len : ∀ vs H Q E, sp vs H Q E → vs.length = ps.length)
    (hbody : ∀ (f : Addr) (cdv : Value) (A : Around) (outer : List Env) (s : Shared) (H : Hp) (vs : List V) (Q : VK) (E : XK), Room k (A.deeper (envOfC x (defScope st) s.heap.objs.size f cdv)) → sp vs H Q E →
      ∃ t, PSs (cxOf (L2.CX P w) P w K mg base N x (defScope st) f cdv A outer s H E) (defBody st) t ∧ t { nx := fun _ H' => Q .non H', rt := Q } (start N vs) H) : FnX P w K mg base (L2.CX P w) (k + 1) x ps [] sp := by
  obtain ⟨f, fd, hm, F⟩ := F
  exact ⟨f, fd, [], hm, F.kp, F.bindsN hb, .nil, F.ok S len fun cdv A outer s H vs Q E hr h => hbody f cdv A outer s H vs Q E hr h⟩
end
/-- a method of the text: class at C, its method m (statement st, qualified name q) -/
structure MetX (K : PySem.W.Frag) (C : Addr) (m q : Str) (st : Stmt) (f : Addr) (fd : FuncData) : Prop where
  c : Cls K C
  me : Meth K C m f
  fn : FunD K m q (defArgs st) (defBody st) (defScope st) [] [] f fd
section
variable {P : Program} {w : World} {K : PySem.W.Frag} {mg : Str → Option Value} {base : Heap} {C : Addr} {m q : Str} {st : Stmt} {N ps : List Str} {k : Nat} {sp : Sp}
theorem MetX.okX (F : ∃ f fd, MetX K C m q st f fd) (S : FnScope N ps (defScope st)) (hb : ∀ (kV doc pm : Value) (an : Option Addr) (cdv ct : Value) (us : List Value), us.length = ps.length → bindArgs (PySem.W.fnOf m q (defArgs st) (defBody st) (defScope st) .none kV doc pm an cdv ct) ⟨us, []⟩ = pure (ps.zip us))
    (len : ∀ vs H Q E, sp vs H Q E → vs.length = ps.length)
    (hbody : ∀ (f : Addr) (cdv : Value) (A : Around) (outer : List Env) (s : Shared) (H : Hp) (vs : List V) (Q : VK) (E : XK), Room k (A.deeper (envOfC q (defScope st) s.heap.objs.size f cdv)) → sp vs H Q E →
      ∃ t, PSs (cxOf (L2.CX P w) P w K mg base N q (defScope st) f cdv A outer s H E) (defBody st) t ∧ t { nx := fun _ H' => Q .non H', rt := Q } (start N vs) H) : MeX P w K mg base (L2.CX P w) (k + 1) C m ps [] sp := by
  obtain ⟨f, fd, F⟩ := F
  exact ⟨f, fd, [], F.c, F.me, F.fn.bindsN hb, .nil, F.fn.ok S len fun cdv A outer s H vs Q E hr h => hbody f cdv A outer s H vs Q E hr h⟩
end
/-- for i, x in enumerate(list) -/
theorem for_enum {K : PySem.W.Frag} {a : Addr} {xs : List V} {g : TG} {tb : TS} {D : Ends} {z : St} {H : Hp} (Pv : Nat → St → Hp → Prop) (h0 : Pv 0 z H) (hl : ∀ i z H, i ≤ xs.length → Pv i z H → SqL K H a xs)
    (hs : ∀ i x z H, xs[i]? = some x → Pv i z H → ∀ T, H T = none → g (.ref T) z (upd H T (.tup [.int (i : Nat), x])) fun z2 H2 => tb { D with nx := Pv (i + 1), ct := Pv (i + 1), bk := D.nx } z2 H2) (hd : ∀ z H, Pv xs.length z H → D.nx z H) :
    ∃ W : Nat → Nat → St → Hp → Prop, (∃ m, W 0 m z H) ∧ ∀ i m z H, W i m z H →
      ((Ite K a).stop i H ∧ D.nx z H) ∨ ((Ite K a).go i H ∧ ∃ N : St → Hp → Prop, (∀ z' H', N z' H' → ∃ m', m' < m ∧ W (i + 1) m' z' H') ∧ ∀ x H', (Ite K a).yld i H x H' → g x z H' fun z2 H2 => tb { D with nx := N, ct := N, bk := D.nx } z2 H2) := by
  refine ⟨fun i m z H => m = xs.length - i ∧ i ≤ xs.length ∧ Pv i z H, ⟨xs.length, by simp, Nat.zero_le _, h0⟩, ?_⟩
  rintro i m z H ⟨rfl, hi, p⟩
  have q := hl i z H hi p
  by_cases hlt : i < xs.length
  · refine .inr ⟨⟨xs, xs[i], q, by simp [hlt]⟩, Pv (i + 1), fun z' H' p' => ⟨xs.length - (i + 1), by omega, rfl, hlt, p'⟩, fun v H' y => ?_⟩
    obtain ⟨T, x, rfl, hT, rfl, hx⟩ := y
    exact hs i x z _ (hx xs q) p T hT
  · have e : i = xs.length := by omega
    subst e
    exact .inl ⟨⟨xs, q, Nat.le_refl _⟩, hd z H p⟩
/-- tuples stay -/
def TupLe (H H' : Hp) : Prop := ∀ b xs, H b = some (.tup xs) → H' b = some (.tup xs)
theorem TupLe.refl (H : Hp) : TupLe H H := fun _ _ h => h
theorem TupLe.trans {H H1 H2 : Hp} (a : TupLe H H1) (b : TupLe H1 H2) : TupLe H H2 := fun c xs h => b c xs (a c xs h)
theorem TupLe.new {H : Hp} {p : Addr} {o : HO} (h : H p = none) : TupLe H (upd H p o) := fun b xs e => by rw [upd_ne (ne_of_none e h)]; exact e
theorem TupLe.mut {H : Hp} {p : Addr} {o u : HO} (h : H p = some u) (hu : ∀ xs, u ≠ .tup xs) : TupLe H (upd H p o) := fun b xs e => by
  rw [upd_ne (fun z => by subst z; rw [h] at e; exact hu xs (Option.some.inj e))]; exact e
theorem Same.new {H : Hp} {p : Addr} {o : HO} (h : H p = none) : Same H (upd H p o) := fun b u e => by rw [upd_ne (ne_of_none e h)]; exact e
/-- an object that H did not know has changed -/
theorem Same.mut {H H' : Hp} {p : Addr} {o : HO} (e : Same H H') (h : H p = none) : Same H (upd H' p o) := fun b u q => by rw [upd_ne (ne_of_none q h)]; exact e b u q
theorem Same.seqT {K : PySem.W.Frag} {H H' : Hp} {a : Addr} {xs : List V} (e : Same H H') (h : SqT K H a xs) : SqT K H' a xs := by
  rcases h with (h | ⟨o, h⟩) | h
  · exact .inl (.inl (e _ _ h))
  · exact .inl (.inr ⟨o, e _ _ h⟩)
  · exact .inr h
theorem Same.tups {H H' : Hp} (e : Same H H') : TupLe H H' := fun b xs h => e b _ h
theorem inV_str (z : Str) (ns : List Str) : inV (.str z) (ns.map V.str) = decide (z ∈ ns) := by
  unfold inV
  induction ns with
  | nil => rfl
  | cons n r ih =>
    rw [List.map_cons, List.any_cons, ih]
    show ((n == z) || decide (z ∈ r)) = decide (z ∈ n :: r)
    by_cases e : z = n
    · subst e
      simp
    · have e2 : (n == z) = false := by simpa using fun q => e q.symm
      rw [e2, Bool.false_or]
      simp [List.mem_cons, e]
theorem flat_strs (ns : List Str) : (ns.map V.str).all flatV = true := by
  rw [List.all_eq_true]
  intro v hv
  obtain ⟨n, _, rfl⟩ := List.mem_map.mp hv
  rfl
theorem iteB {b : Bool} {A B : Prop} (ht : b = true → A) (hf : b = false → B) : if b = true then A else B := by
  cases b with
  | true => rw [if_pos rfl]; exact ht rfl
  | false => rw [if_neg Bool.false_ne_true]; exact hf rfl
end L2


set_option Elab.async false
set_option linter.all false
set_option maxRecDepth 100000
set_option maxHeartbeats 4000000
/-! == and != of an instance whose class has its own __eq__ (and no __ne__) -/
namespace PySem.W
open PySem PySem.Spec PySem.Calls PyProof.Rows
section
variable {prog : Program} {w : World} {A : Around} {E : Value → Shared → Prop} {s : Shared} {h₀ : Heap} {L : Addr} {m : Str → Option Value} {K : Frag} {x C f : Addr} {ox : Obj} {od : Option Obj} {b tb : Value}
theorem ne_entry {Q : Fin → Shared → Prop} (X : K.In s.heap) (I : InstAt s.heap x ox C od) (hs : findIn K (.ref C) "__eq__" = some (some (.ref f))) (hf : isFn K (.ref f) = true) (hu : A.units < cLine)
    (hcall : wpAny (model prog w) A (call (.ref f) [.ref x, b]) (fun v s' => ∃ c, v = .bool c ∧ Q (.done (.ret (.bool (!c)))) s') E s) :
    wpAny (model prog w) A (Builtin.«object.__ne__» ⟨[.ref x, b], []⟩) Q E s := by
  obtain ⟨hp, g, d, t, os⟩ := s
  unfold Builtin.«object.__ne__»
  repeat (first
    | with_reducible refine wpAny_cRoomFor hu ?_
    | (refine wpAny_bind (m := callSpecialIfBound? (.ref x) (Str.ofString "__eq__") [b])
        (ifBound_K X I hs hf (wpAny_mono hcall (fun r s' hr => by
          obtain ⟨c, rfl, hq⟩ := hr
          repeat (first | exact hq | exact wpAny_pure hq | exact wpAny_truthy_bool hq | (refine wpAny_bind (m := truthy (.bool _)) (wpAny_truthy_bool ?_)) | wp_step)) fun _ _ e => e)))
    | wp_step)
theorem ne_try {Q : Option Value → Shared → Prop} (X : K.In s.heap) (I : InstAt s.heap x ox C od) (hne : findIn K (.ref C) "__ne__" = some (some (.builtin "object.__ne__"))) (hobj : mroIn K C (.type "object") = some true)
    (hs : findIn K (.ref C) "__eq__" = some (some (.ref f))) (hf : isFn K (.ref f) = true) (hu : A.units + 1 < cLine)
    (hcall : wpAny (model prog w) A.in1 (call (.ref f) [.ref x, b]) (fun v s' => ∃ c, v = .bool c ∧ Q (some (.bool (!c))) s') E s) :
    wpAny (model prog w) A (tryCompare (.ref x) "__ne__" b) Q E s := by
  have go : ∀ {R : Value → Shared → Prop}, (∀ c s', Q (some (.bool (!c))) s' → R (.bool (!c)) s') → wpAny (model prog w) A (call (.builtin "object.__ne__") [.ref x, b]) R E s := fun {R} hR => by
    have sub : Looks (model prog w) s.heap (isInstance (.ref x) (.type "object")) true := I.type.andThen (looks_mroIn X hobj)
    refine wpAny_call (codeAny_call_builtin F.cmp_object.ne.plain F.cmpEntry_ne ?_)
    refine @check_slot (model prog w) _ _ s "object.__ne__" "object" "__ne__" (.ref x) [b] [] _ F.cmpKind_ne F.cmpSplit_ne sub (F.cmpArgs_ne _ _) ?_
    exact ne_entry (A := A.in1) X I hs hf hu (wpAny_mono hcall (fun v s' hv => by obtain ⟨c, rfl, hq⟩ := hv; exact ⟨c, rfl, hR c s' hq⟩) fun _ _ e => e)
  unfold tryCompare
  refine wpAny_bind ?_
  simp only [callSpecialIfBound?, bindSpecialIfBound?]
  refine wpAny_holding (wpAny_bind (wpAny_bind (wpAny_bind (I.type.here ((looks_findIn X hne).here ?_)))))
  refine wpAny_bind (wpAny_askSetting (wpAny_ite ?_))
  have bd := F.cmp_object.ne.bind (.ref x)
  have fin : ∀ {Q2 : Option Value → Shared → Prop}, (∀ c s', Q (some (.bool (!c))) s' → Q2 (some (.bool (!c))) s') → wpAny (model prog w) A (call (.builtin "object.__ne__") ([.ref x] ++ [b]) >>= fun v => pure (some v)) Q2 E s :=
    fun h2 => wpAny_bind (go fun c s' hq => wpAny_pure (h2 c s' hq))
  split
  · rw [bd]
    exact wpAny_bind (wpAny_pure (wpAny_pure (fin fun c s' hq => wpAny_pure hq)))
  · refine wpAny_tryCatch ?_
    rw [bd]
    exact wpAny_bind (wpAny_pure (wpAny_pure (fin fun c s' hq => wpAny_pure hq)))
theorem ne_K {Q : Value → Shared → Prop} (hu : A.units + 1 < cLine) (F : Fr h₀ L s.heap m) (X₀ : K.In h₀) (I : InstAt s.heap x ox C od) (hb : Looks (model prog w) s.heap (typeOf b) tb) (hn : notFirst K C tb = true)
    (hne : findIn K (.ref C) "__ne__" = some (some (.builtin "object.__ne__"))) (hobj : mroIn K C (.type "object") = some true) (hs : findIn K (.ref C) "__eq__" = some (some (.ref f))) (hf : isFn K (.ref f) = true)
    (h : wpAny (model prog w) A.in1 (call (.ref f) [.ref x, b]) (fun v s' => ∃ c, v = .bool c ∧ Q (.bool (!c)) s') E s) : wpAny (model prog w) A (richCompare .NotEq (.ref x) b) Q E s := by
  have X := X₀.keeps F.keep
  have one : wpAny (model prog w) A (tryCompare (.ref x) "__ne__" b) (fun r s' => ∃ v, r = some v ∧ Q v s') E s := ne_try X I hne hobj hs hf hu (wpAny_mono h (fun v s' hv => by obtain ⟨c, e, q⟩ := hv; exact ⟨c, e, _, rfl, q⟩) fun _ _ e => e)
  unfold richCompare
  simp only [oneThing_ref]
  refine wpAny_holding (wpAny_bind (wpAny_cRoomFor (Nat.lt_of_succ_lt hu) ?_))
  refine wpAny_bind (I.type.here (wpAny_bind (hb.here ?_)))
  have last : wpAny (model prog w) A (tryCompare (.ref x) (cmpInfo .NotEq).2.1 b) (fun r s' => ∃ v, r = some v ∧ Q v s') E s := one
  split
  · rename_i q
    have e : subIn K tb (.ref C) = some false := by
      rcases Bool.or_eq_true_iff.mp hn with e | e
      · rw [beq_iff_eq.mp e] at q; simp at q
      · exact beq_iff_eq.mp e
    refine wpAny_bind ((looks_subIn X e).here ?_)
    simp only [Bool.false_eq_true, if_false]
    refine wpAny_bind (wpAny_mono last (fun r s' z => ?_) fun _ _ e => e)
    obtain ⟨v, rfl, hq⟩ := z
    exact wpAny_pure hq
  · refine wpAny_bind (wpAny_pure ?_)
    simp only [Bool.false_eq_true, if_false]
    refine wpAny_bind (wpAny_mono last (fun r s' z => ?_) fun _ _ e => e)
    obtain ⟨v, rfl, hq⟩ := z
    exact wpAny_pure hq
end
end PySem.W
namespace L2
open PySem PySem.Spec PyProof.Rows
section
variable {X : Cx} {CX : CXT} {k : Nat} {C : Addr} {ps : List Str} {sp : Sp} {E : XK}
/-- what stands on the right of such a comparison: its type comes not first -/
structure RightOk (X : Cx) (C : Addr) (H : Hp) (y : V) : Prop where
  ty : ∀ (pins : List (Addr × Obj)) (z : L2.St) (s : Shared) (u : Value), Inv X pins z H s → RelV y u → ∃ tb, PySem.W.Looks (model X.prog X.w) s.heap (typeOf u) tb ∧ PySem.W.notFirst X.K C tb = true
theorem right_ins {H : Hp} {b dy : Addr} {gs : List (Str × V)} (h : H b = some (.ins C dy gs)) : RightOk X C H (.ref b) := ⟨fun pins z s u I r => by
  cases r
  obtain ⟨mB, J', _⟩ := ins_get I.hok h
  obtain ⟨od', J', _⟩ := J'.look
  exact ⟨.ref C, J'.type, by simp [PySem.W.notFirst]⟩⟩
theorem right_str {H : Hp} {t : Str} (h : PySem.W.notFirst X.K C (.type "str") = true) : RightOk X C H (.str t) := ⟨fun pins z s u I r => by
  obtain ⟨tk, rfl⟩ := r
  exact ⟨.type "str", PySem.W.Looks.of_pure rfl, h⟩⟩
/-- a == b, a != b (neg), a an instance of the class at C -/
def rCmpO (X : Cx) (C : Addr) (sp : Sp) (E : XK) (neg : Bool) : R2 := fun x y H Q => ∃ a dx fs, x = .ref a ∧ H a = some (.ins C dx fs) ∧ RightOk X C H y ∧ sp [x, y] H (fun v H' => ∃ c, v = .bl c ∧ Q (.bl (if neg then !c else c)) H') E
theorem op_eqO (F : MeX X.prog X.w X.K X.mg X.base CX k C "__eq__" ps [] sp) (hr : Room k X.A) (hx : Passes CX X E) : OpR X (compareOp .Eq) (rCmpO X C sp E false) := by
  intro pins s z H x y v u Q I rx ry h
  obtain ⟨a, dx, fs, rfl, ha, R, q⟩ := h
  obtain ⟨f, fd, dvs, c, mm, b, vd, G⟩ := F.ex
  cases vd
  cases rx
  obtain ⟨tb, lk, nf⟩ := R.ty pins z s u I ry
  obtain ⟨mA, J, _⟩ := ins_get I.hok ha
  obtain ⟨od, J, _⟩ := J.look
  obtain ⟨m, hF⟩ := I.fr
  show wpAny (model X.prog X.w) X.A (richCompare .Eq (.ref a) u) (EP X pins z Q) X.xe s
  refine PySem.W.cmp_K (op := .Eq) (tb := tb) hr.units0 hF I.ok.mod.kin J lk nf mm.at_ mm.fn ?_
  refine wpAny_mono (run_fn (us := [.ref a, u]) (vs := [.ref a, y]) G hr b .nil hx I (.cons rfl (.cons ry .nil)) q) (fun v s' hv => ?_) fun _ _ x => x
  obtain ⟨v', H', I', rv, c, rfl, q⟩ := hv
  cases rv
  exact ⟨.bl c, H', I', rfl, q⟩
theorem op_neO (F : MeX X.prog X.w X.K X.mg X.base CX k C "__eq__" ps [] sp) (hr : Room (k + 1) X.A) (hx : Passes CX X E) (hne : PySem.W.findIn X.K (.ref C) "__ne__" = some (some (.builtin "object.__ne__"))) (hobj : PySem.W.mroIn X.K C (.type "object") = some true) :
    OpR X (compareOp .NotEq) (rCmpO X C sp E true) := by
  intro pins s z H x y v u Q I rx ry h
  obtain ⟨a, dx, fs, rfl, ha, R, q⟩ := h
  obtain ⟨f, fd, dvs, c, mm, b, vd, G⟩ := F.ex
  cases vd
  cases rx
  obtain ⟨tb, lk, nf⟩ := R.ty pins z s u I ry
  obtain ⟨mA, J, _⟩ := ins_get I.hok ha
  obtain ⟨od, J, _⟩ := J.look
  obtain ⟨m, hF⟩ := I.fr
  show wpAny (model X.prog X.w) X.A (richCompare .NotEq (.ref a) u) (EP X pins z Q) X.xe s
  refine PySem.W.ne_K (tb := tb) (hu_of hr) hF I.ok.mod.kin J lk nf hne hobj mm.at_ mm.fn ?_
  have e := I.env0
  have r2 : Vals [V.ref a, y] [Value.ref a, u] := .cons rfl (.cons ry .nil)
  have hl := G.len _ _ _ _ q
  refine wpAny_call (codeAny_mono (G.run X.A.in1 X.stack s H ⟨[.ref a, u], []⟩ [.ref a, u] [.ref a, y] _ E hr.in1 e.in1 (by
    have := b s [.ref a, u] I.kIn (by simpa using hl)
    simpa using this) r2 q) fun r s' hq => ?_)
  cases r with
  | error e => exact hx pins z H s e s' I hq
  | ok fl =>
    cases fl with
    | ret w =>
      obtain ⟨zz, H', I', rz, c, rfl, q⟩ := I.after hq
      cases rz
      exact ⟨c, rfl, .bl (!c), H', I', rfl, q⟩
    | next => exact False.elim hq
    | brk => exact False.elim hq
    | cont => exact False.elim hq
end
end L2


set_option Elab.async false
set_option linter.all false
set_option maxRecDepth 100000
set_option maxHeartbeats 4000000
namespace L2
open PySem PySem.Spec PyProof.Rows
section
variable {X : Cx}
/-- repr(True), repr(False) -/
theorem call_repr_bl : CallR X (.builtin "repr") (fun xs H Q => ∃ b : Bool, xs = [.bl b] ∧ Q (.str (if b then Str.ofString "True" else Str.ofString "False")) H) := by
  intro pins s z H xs us Q I r h
  obtain ⟨b, rfl, q⟩ := h
  obtain ⟨u, rfl, e⟩ := vals1 r
  obtain rfl : u = Value.bool b := e
  exact PySem.P.repr_of_bool ⟨.str _, H, I.tok _, ⟨_, rfl⟩, q⟩
/-- s * n -/
theorem op_rep_str : OpR X (binaryOp .Mult) (fun x y H Q => ∃ (a : Str) (n : Int), x = .str a ∧ y = .int n ∧ 2 ≤ n ∧ n ≤ 10000 ∧ 0 < a.length ∧ a.length ≤ 1000 ∧ (⟨(List.replicate n.toNat a.cps).foldl (· ++ ·) #[]⟩ : Str).length ≤ sizeLine ∧ Q (.str ⟨(List.replicate n.toNat a.cps).foldl (· ++ ·) #[]⟩) H) := by
  intro pins s z H x y v u Q I rx ry h
  obtain ⟨a, n, rfl, rfl, h1, h2, h3, h4, h5, q⟩ := h
  obtain ⟨t, rfl⟩ := rx
  obtain ⟨t', rfl⟩ := ry
  have e1 : (n == 1 || a.length == 0) = false := by
    have : ¬ n = 1 := by omega
    have : ¬ a.length = 0 := by omega
    simp_all
  have hm : a.length * n.toNat ≤ 1000 * 10000 := Nat.mul_le_mul h4 (by omega)
  refine PySem.P.mul_str ?_ (fun _ _ => ?_) (fun _ _ => ?_) ?_
  · rw [decide_eq_false (by omega), decide_eq_false (by omega)]; rfl
  · have : (2 ^ 63 - 1) / n ≥ 1000 := by
      have : (1000 : Int) * n ≤ 2 ^ 63 - 1 := by omega
      exact (Int.le_ediv_iff_mul_le (by omega)).mpr this
    omega
  · show decide (_ > sizeLine) = false
    have q9 : sizeLine = 16777216 := sizeLine_eq
    exact decide_eq_false (by omega)
  · rw [if_neg (by omega), if_neg (by rw [e1]; exact Bool.false_ne_true)]
    exact ⟨h5, .str _, H, I.tok _, ⟨_, rfl⟩, q⟩
/-- nothing leaves -/
theorem passF {P : Program} {w : World} {X : Cx} (h1 : X.prog = P := by rfl) (h2 : X.w = w := by rfl) : Passes (L2.CX P w) X (fun _ _ _ => False) := by
  subst h1 h2
  exact passes_call LamX.takes0 (fun _ _ _ _ h => h)
theorem takes_len {W : WX} (tk : Takes X W) : Takes X (fun cls d z H => z.length = X.N.length → W cls d z H) := fun u s' xx => by
  obtain ⟨a, B, sI, pins', z', H', cls, d, e, J', nb, up, sky, na, os, ag, w⟩ := xx
  exact tk u s' ⟨a, B, sI, pins', z', H', cls, d, e, J', nb, up, sky, na, os, ag, w J'.len⟩
end
theorem FunD.ok0 {P : Program} {w : World} {K : PySem.W.Frag} {mg : Str → Option Value} {base : Heap} {x q : Str} {st : Stmt} {N ps : List Str} {k : Nat} {sp : Sp} {f : Addr} {fd : FuncData} (F : FunD K x q (defArgs st) (defBody st) (defScope st) [] [] f fd) (S : FnScope N ps (defScope st))
    (len : ∀ vs H Q E, sp vs H Q E → vs.length = ps.length)
    (hbody : ∀ (cdv : Value) (A : Around) (outer : List Env) (s : Shared) (H : Hp) (vs : List V) (Q : VK) (E : XK), Room k (A.deeper (envOfC q (defScope st) s.heap.objs.size f cdv)) → sp vs H Q E →
      ∃ t, PSs (cxOf CX0 P w K mg base N q (defScope st) f cdv A outer s H E).nox (defBody st) t ∧ t { nx := fun _ H' => Q .non H', rt := Q } (start N vs) H) : FnOk P w K mg base CX0 (k + 1) f fd ps sp :=
  F.ok S len fun cdv A outer s H vs Q E hr h => by
    obtain ⟨t, h1, h2⟩ := hbody cdv A outer s H vs Q E hr h
    exact ⟨t, h1.nox, h2⟩
end L2


set_option Elab.async false
set_option linter.all false
set_option maxRecDepth 100000
set_option maxHeartbeats 4000000
namespace L2
open PySem PySem.Spec PyProof.Rows
section
variable {X : Cx} {C : Addr} {x : Str}
/-- X(): an error without fields -/
theorem pmk_err0 {p pos : Pos} {k : Nat} (T : ErrX.ErrTxt X.prog X.K [] C) (hm : X.mg x = some (.ref C)) (hr : Room k X.A) (hg : Gl X x := by rfl) (hdb : (x == ("__debug__" : Str)) = false := by decide) : PMk X (.Call (.Name x p) [] [] pos) (tMkErr C [] tNil) := by
  intro pins s z H Q I h
  obtain ⟨hl, q0, q1⟩ := h
  refine wpAny_Call_Name_kw (ld_glob I hg hm ?_ hdb)
  exact PySem.W.callWith_K0 I.kIn T.kC (mk_err (us := []) T hr I .nil hl q0 q1)
/-- isinstance(e, c), e an error that is pinned -/
theorem call_isErrP {a : Addr} {oe : Obj} {cls : Value} {d : Option Addr} (hp : (a, oe) ∈ X.pn) (hz : Zc cls d oe) (hf : ∃ vs, oe.data = .fields vs) : CallR X (.builtin "isinstance") (rIsErr X.K a cls d) := by
  intro pins s z H xs us Q I r h
  obtain ⟨D, c, cv, b, rfl, T, rfl, hcv, e, hd, q⟩ := h
  cases r with
  | cons rx rr =>
    cases rr with
    | cons rt rr =>
      cases rr
      cases rx
      have ec := hcv _ rt
      subst ec
      obtain ⟨hget, _⟩ := I.pin (a, oe) (List.mem_append.mpr (.inl hp))
      obtain ⟨vs, hv⟩ := hf
      have nc : PySem.W.notCls oe = true := by unfold PySem.W.notCls; rw [hv] <;> rfl
      have J : ∃ od, PySem.W.InstAt s.heap a oe D od := by
        rcases hd with rfl | ⟨dd, fvs, rfl, hx⟩
        · exact ⟨none, hget, hz.1, nc, by rw [hz.2]; trivial⟩
        · have hx' : ObjOk X.prog X.w H s.heap dd (.xd fvs) := I.hok dd _ hx
          obtain ⟨mA, ⟨od, es, ep, ho, _⟩, hr⟩ := hx'
          exact ⟨some od, hget, hz.1, nc, by rw [hz.2]; exact ho⟩
      obtain ⟨od, J⟩ := J
      exact PySem.W.kia_one (PySem.W.kitx_exc T.hcl T.hga T.hgt T.hsub T.ha T.hn T.htk T.hm) I.kIn J e (fun z => nomatch z) fun tk => ⟨.bl b, H, I.kept (t' := tk) fun _ _ z => z, rfl, q⟩
/-- a def that may raise, called in a try's body -/
theorem pe_callXS {CX : CXT} {k : Nat} {ps : List Str} {sp : Sp} {E : L2.St → XK} {p pos : Pos} {e : Expr} {es : List Expr} {t : TA} (F : FnX X.prog X.w X.K X.mg X.base CX k x ps [] sp) (hr : Room k X.A) (hx : ∀ z, PassesAt CX X z (E z)) (ha : PA X (e :: es) t) (hg : Gl X x := by rfl) (hdb : (x == ("__debug__" : Str)) = false := by decide)
    (he : starEach (e :: es) X.env = (false, eval e X.env) :: starEach es X.env := by rfl) (hpl : (backTo pos (starEach es X.env)).any (·.1) = false := by rfl) : PE X (.Call (.Name x p) (e :: es) [] pos) (tCallS sp E t) := by
  obtain ⟨f, fd, dvs, hm, kp, b, vd, G⟩ := F.ex
  cases vd
  exact pe_callS G hr hg hm kp b hx ha hdb he hpl
/-- a def that got the pinned error: its body's walk, entered with the pin -/
theorem run_pin {N ps : List Str} {st : Stmt} {f : Addr} {fd : FuncData} {k : Nat} {p : Addr × Obj} {pins : List (Addr × Obj)} {z : L2.St} {H : Hp} {s : Shared} {us : List Value} {vs : List V} {Q : VK} {y : Str}
    (F : FunD X.K y y (defArgs st) (defBody st) (defScope st) [] [] f fd) (S : FnScope N ps (defScope st)) (hl : vs.length = ps.length) (hb : Binds X.K fd ps []) (hr : L2H.RoomH (k + 1) X.A) (hp : p ∈ X.pn) (I : Inv X pins z H s) (r : Vals vs us)
    (hbody : ∀ (cdv : Value), L2H.RoomH k (X.A.deeper (envOfC y (defScope st) s.heap.objs.size f cdv)) →
      ∃ t, PSs (L2H.cxH CX0 X.prog X.w X.K X.mg X.base N y (defScope st) f cdv X.A X.stack s H E0 p) (defBody st) t ∧ t { nx := fun _ H' => Q .non H', rt := Q } (start N vs) H) :
    wpAny (model X.prog X.w) X.A (call (.ref f) us) (EP X pins z Q) X.xe s := by
  obtain ⟨oc, od, dV, kV, doc, pm, an, cdv, ct, osl, rfl, lk, hcd, _, _⟩ := F.ex
  have b := hb s us I.kIn (by rw [List.append_nil, ← r.length]; exact hl)
  rw [List.append_nil] at b
  have P1 := I.pin p (List.mem_append_left _ hp)
  have hpin : L2H.PinOk X.stack H s p := ⟨P1.1, P1.2.1, fun hm => by
    rcases List.mem_cons.mp (I.stkSub p.1 hm) with e | e
    · exact P1.2.2.1 e
    · exact P1.2.2.2.1 e, P1.2.2.2.2⟩
  have e0 := I.env0
  have KX : X.K.In s.heap := e0.mod.kin.keeps fun _ _ e => (e0.bs _ _ e).1
  have lim : s.heap.NoLimit := e0.mod.nolimit.keeps fun _ _ e => (e0.bs _ _ e).1
  have hk2 : ∀ q ∈ ps.zip us, (defScope st).names.lookup q.1 = some .local ∨ ((defScope st).names.lookup q.1 = some .cell ∧ ((cellsFrom (s.heap.objs.size + 1) (defScope st).names []).lookup q.1).isSome = true) := by
    rintro ⟨n, v⟩ hq
    rcases S.par n (List.of_mem_zip hq).1 with e | e
    · exact .inl e
    · exact .inr ⟨e, PySem.W.cellsFrom_some _ _ _ (.inl e)⟩
  have rc : codeAny (model X.prog X.w) X.A (.call (.ref f) ⟨us, []⟩) (CR CX0 X.stack X.prog X.w H s Q E0) s := by
    refine codeAny_call_function hr.depth (KX _ _ lk) rfl S.co S.gen rfl (PySem.W.codeRec_of KX hcd) (b _ _ _ _ (wpAny_newFunctionEnv_cells S.kind hk2 fun env he s1 x => ?_))
    subst he
    refine ⟨lim.keeps x.toInCall.keep, codeAny_func ?_⟩
    obtain ⟨t, ht, hq⟩ := hbody cdv (hr.deeper _)
    have J := L2H.inv_startH (CX := CX0) (E := E0) (f := f) (cd := cdv) S hpin e0 hl r x
    refine wpAny_mono (ht.run [] s1 (start N vs) H _ J hq) (fun fl s' hs => ?_) fun e s' hs => hs
    cases fl with
    | ret u =>
      obtain ⟨v, z', H', J', rv, q⟩ := hs
      exact ⟨v, H', J'.os, J'.bare, J'.base, J'.hok, rv, q⟩
    | next =>
      obtain ⟨z', H', J', q⟩ := hs
      exact ⟨V.non, H', J'.os, J'.bare, J'.base, J'.hok, rfl, q⟩
    | brk =>
      obtain ⟨_, _, _, q⟩ := hs
      exact q.elim
    | cont =>
      obtain ⟨_, _, _, q⟩ := hs
      exact q.elim
  refine wpAny_call (codeAny_mono rc fun r s' hq => ?_)
  cases r with
  | error e => exact (show False from hq).elim
  | ok fl =>
    cases fl with
    | ret u => exact I.after hq
    | next => exact False.elim hq
    | brk => exact False.elim hq
    | cont => exact False.elim hq
end
end L2


set_option Elab.async false
set_option linter.all false
set_option maxRecDepth 100000
set_option maxHeartbeats 4000000
/-! class X(Y): def __init__(self, ..): super().__init__(..) first, then the rest -/
namespace SupX
open PySem PySem.Spec PyProof.Rows L2 NdefX PySem.Calls PySem.HandSPX
def supCall (args : List Expr) (p0 p1 p2 p4 p5 : Pos) : Stmt := .Expr (.Call (.Attribute (.Call (.Name "super" p0) [] [] p1) "__init__" p2) args [] p4) p5
/-- what is known of the class at C, its __init__ at fI (function F), the __init__ above it at f0 -/
structure SupT (prog : Program) (K : PySem.W.Frag) (C fI f0 : Addr) (F : NF) (N ps : List Str) (e : Expr) (es : List Expr) (rest : List Stmt) : Prop where
  fn : ∃ (oc : Value) (od : Option Addr) (osl : Array (Option Value)) (doc pm ctv : Value), K.lookup fI = some ⟨oc, od, .func (F.fd doc pm ctv), osl⟩
  cd : PySem.W.codeIn K (.ref F.c) F.qual = true
  file : ∃ (ccl : Value) (cdd : Option Addr) (vs : Array Value) (ccs : Array (Option Value)) (f : Str) (tf : Tok), K.lookup F.c = some ⟨ccl, cdd, .fields vs, ccs⟩ ∧ vs[2]? = some (.str f tf) ∧ ((prog.main.file : Str) == f) = true
  cell : ∃ (cc : Addr) (cl : Value) (cld : Option Addr) (csl : Array (Option Value)), F.cl = [(("__class__" : Str), cc)] ∧ K.lookup cc = some ⟨cl, cld, .cell (some (.ref C)), csl⟩
  cls : ∃ cdD, PySem.W.clsIn K C = some cdD
  own : PySem.W.mroIn K C (.ref C) = some true
  sup : PySem.W.ks_superIn K C C "__init__" = some (some (.ref f0))
  fun0 : PySem.W.typeIn K (.ref f0) = some (.type "function")
  fn0 : PySem.W.fnIn K f0 = true
  opq : PySem.W.nsIn K cStatics "thirdparty.any" = some none
  gsup : PySem.W.nsIn K mainGlobals "super" = some none
  topN : (prog.main.scope.names.lookup ("super" : Str)).isSome = false
  sc : NScope N ps ["__class__"] F.scope
  ksup : F.scope.names.lookup ("super" : Str) = some .globalImplicit
  self : ps[0]? = some ("self" : Str) ∧ ∃ ar, (F.params.posonlyargs ++ F.params.args).head? = some ar ∧ ar.arg = "self"
  body : ∃ p0 p1 p2 p4 p5, F.body = supCall (e :: es) p0 p1 p2 p4 p5 :: rest ∧ ∀ env, (∃ pl, eval (.Call (.Attribute (.Call (.Name "super" p0) [] [] p1) "__init__" p2) (e :: es) [] p4) env = (do
      let ov ← attributeBase (.Call (.Name "super" p0) [] [] p1) "__init__" env (eval (.Call (.Name "super" p0) [] [] p1) env)
      standAt p2.atName
      let (f, first) ← holding [ov] (getMethod ov "__init__" pl)
      callWith p4 f first (backTo p4 (starEach (e :: es) env)) [])) ∧ starEach (e :: es) env = (false, eval e env) :: starEach es env ∧ (backTo p4 (starEach es env)).any (·.1) = false
  bind : ∀ (doc pm ctv : Value) (us : List Value), us.length = ps.length → bindArgs (F.fd doc pm ctv) ⟨us, []⟩ = pure (ps.zip us)
section
variable {P : Program} {w : World} {K : PySem.W.Frag} {mg : Str → Option Value} {base : Heap} {C fI f0 : Addr} {F : NF} {N ps ps0 : List Str} {e : Expr} {es : List Expr} {rest : List Stmt} {k : Nat} {fd0 : FuncData} {sp sp0 : Sp}
theorem sup_run {oc doc pm ctv : Value} {od : Option Addr} {osl : Array (Option Value)} (T : SupT P K C fI f0 F N ps e es rest) (lk : K.lookup fI = some ⟨oc, od, .func (F.fd doc pm ctv), osl⟩) (G : FnOk P w K mg base (L2.CX P w) k f0 fd0 ps0 sp0) (b0 : L2.Binds K fd0 ps0 [])
    {A : Around} {outer : List Env} {s : Shared} {H : Hp} {args : Args} {us : List Value} {vs : List V} {Q : VK} {E : XK} (hr : Room (k + 1) A) (e0 : Env0 P w K mg base A outer s H) (hb : BindsTo s (F.fd doc pm ctv) args (ps.zip us)) (r : Vals vs us) (hl : vs.length = ps.length)
    (hbody : ∃ x dx fs ta t, vs[0]? = some (.ref x) ∧ H x = some (.ins C dx fs) ∧ PA (ncx (L2.CX P w) P w K mg base N F fI A outer s H E) (e :: es) ta ∧ PSs (ncx (L2.CX P w) P w K mg base N F fI A outer s H E) rest t ∧
      ta (startF N vs [some (.ref C)]) H fun ys H1 => sp0 (.ref x :: ys) H1 (fun _ H2 => t { nx := fun _ H' => Q .non H', rt := Q } (startF N vs [some (.ref C)]) H2) E) :
    codeAny (model P w) A (.call (.ref fI) args) (CR (L2.CX P w) outer P w H s Q E) s := by
  obtain ⟨x, dx, fs, ta, t, hv0, hx, ha, ht, hq⟩ := hbody
  obtain ⟨ccl, cdd, vs2, ccs, fl, tfl, hcode, hvs, hfile⟩ := T.file
  obtain ⟨cc, cl, cld, csl, hcl, hcell⟩ := T.cell
  obtain ⟨cdD, hC⟩ := T.cls
  obtain ⟨hs0, ar, har, hara⟩ := T.self
  obtain ⟨p0, p1, p2, p4, p5, hbd, hev⟩ := T.body
  have S := T.sc
  have KX : K.In s.heap := e0.mod.kin.keeps fun _ _ q => (e0.bs _ _ q).1
  have lim : s.heap.NoLimit := e0.mod.nolimit.keeps fun _ _ q => (e0.bs _ _ q).1
  refine ks_codeAny_call_defAt (fd := F.fd doc pm ctv) (body := F.body) (binds := ps.zip us) hr.depth (KX _ _ lk) rfl lim (PySem.W.codeRec_of KX T.cd) rfl hb S.nocell (fun y hy => S.par _ (List.of_mem_zip hy).1) (fun h1 hns kp => ?_) S.co S.gen S.kind
  have CA : CellsAt F.cl ["__class__"] [some (.ref C)] s.heap H := by
    have hcH : H cc = none := (e0.bs cc _ (e0.mod.kin _ _ hcell)).2
    have hic : s.heap.IsCell cc (some (.ref C)) := ⟨_, KX _ _ hcell, rfl⟩
    rw [hcl]
    have look : ∀ y c, ([(("__class__" : Str), cc)] : List (Str × Addr)).lookup y = some c → y = ("__class__" : Str) ∧ c = cc := fun y c q => by
      have q2 := PySem.mem_of_lookup q
      have q3 := List.mem_singleton.mp q2
      injection q3 with q4 q5
      exact ⟨q4, q5⟩
    refine ⟨rfl, fun y c q => ?_, fun y z c q1 q2 => ?_, fun i y q => ?_⟩
    · obtain ⟨_, rfl⟩ := look y c q
      exact ⟨hcH, _, hic⟩
    · rw [(look y c q1).1, (look z c q2).1]
    · cases i with
      | zero =>
        cases q
        exact ⟨cc, rfl, fun v hv => by cases hv; exact ⟨_, rfl, hic⟩⟩
      | succ j => simp at q
  have I : Inv (ncx (L2.CX P w) P w K mg base N F fI A outer s H E) [] (startF N vs [some (.ref C)]) H { s with heap := h1, toks := s.toks + (ps.zip us).length } := inv_startN S hr.hd e0 hl r CA hns kp
  obtain ⟨⟨pl, hevl⟩, hst, hpl⟩ := hev (envF F fI s.heap.objs.size)
  rw [hbd]
  have hint : interactive (callEnv (F.fd doc pm ctv) s.heap.objs.size fI) = false := by
    show (F.scope.kind == .module && _) = false
    rw [S.kind]
    rfl
  refine ks_wpAt_execs_cons (ks_wpAt_Expr_any (ks_wpAt_MethodCall (pl := pl) ?_ hevl) hint)
  have X1 : K.In h1 := KX.keeps kp
  obtain ⟨oD, hD1, hD2⟩ : ∃ oD, K.lookup C = some oD ∧ oD.data = .cls cdD := by
    unfold PySem.W.clsIn at hC
    split at hC
    · rename_i c d cd' sl ho
      cases hC
      exact ⟨_, ho, rfl⟩
    · cases hC
  obtain ⟨mA, J, _⟩ := ins_get I.hok hx
  obtain ⟨odx, J, _⟩ := J.look
  have hkc : F.scope.names.lookup ("__class__" : Str) = some .free := S.frk _ List.mem_cons_self
  obtain ⟨u0, hu0, ru0⟩ := r.get hv0
  obtain rfl : u0 = Value.ref x := ru0
  have ndP : ps.Nodup := by
    have q := S.nd.sublist (List.take_sublist (ps.length + 1) N)
    have q2 : N.take (ps.length + 1) = ps ++ [("__class__" : Str)] := S.pre
    rw [q2] at q
    exact (List.nodup_append.mp q).1
  have hself : (ps.zip us).reverse.lookup ("self" : Str) = some (.ref x) := zip_look ndP hs0 hu0
  obtain ⟨mb, hmb, hmbv⟩ := e0.mod.blt
  have kb : ∀ b o, base.get? b = some o → h1.get? b = some o := fun b o q => kp _ _ (e0.bs b o q).1
  refine ks_wpAt_super_base (env := callEnv (F.fd doc pm ctv) s.heap.objs.size fI) T.ksup hkc (by decide) rfl (X1 _ _ lk) rfl har rfl (X1 _ _ hcode) rfl hvs hfile T.topN ?_
  refine PySem.W.ks_loadName_global S.kind T.ksup (loadGlobal_builtin (e0.mod.glob.keeps kb) (PySem.W.mg_none_of (e0.mod.kin) e0.mod.glob T.gsup) (hmb.keeps kb) ((hmbv _ (by decide +kernel)).trans (by first | boot_by_name | rfl | kernel_rfl)) ⟨rfl, ?_⟩)
  refine wpAny_loadName_free S.kind hkc (by show F.cl.lookup _ = _; rw [hcl]; rfl) ⟨_, X1 _ _ hcell, rfl⟩ ?_
  rw [hara]
  refine wpAny_loadName_local S.kind (S.par _ (List.mem_of_getElem? hs0)) hns hself ?_
  refine ks_wpAny_isType_cls (X1 _ _ hD1) hD2 ⟨rfl, ?_⟩
  refine ks_wpAny_call_super (X1 _ _ hD1) hD2 J.at_ J.cls (fun c z => by cases z) (PySem.W.looks_mroIn X1 T.own) (fun h2 hso k2 => ?_)
  have X2 : K.In h2 := X1.keeps k2
  have I2 := I.kept (t' := s.toks + (ps.zip us).length) k2
  obtain ⟨mA2, J2, _⟩ := ins_get I2.hok hx
  obtain ⟨odx2, J2, _⟩ := J2.look
  have hsup := T.sup
  unfold PySem.W.ks_superIn at hsup
  rw [hC] at hsup
  obtain ⟨of, hof, hofc⟩ : ∃ of, h2.get? f0 = some of ∧ of.cls = .type "function" := by
    have ht' : (K.lookup f0).map (·.cls) = some (.type "function") := T.fun0
    cases z : K.lookup f0 with
    | none => rw [z] at ht'; cases ht'
    | some of => rw [z] at ht'; exact ⟨of, X2 _ _ z, Option.some.inj ht'⟩
  refine ks_wpAny_getMethod_super hso (PySem.W.looks_opaque X2 T.opq) (l₀ := cdD.mro) ((PySem.W.looks_clsIn X2 hC).andThen .now) rfl X2 hsup hof hofc (PySem.W.ks_ne X2 J2 hC) (by decide) ?_
  have k3 : ∀ b o, h2.get? b = some o → (h2.push (PySem.W.methodObj (.ref f0) (.ref x))).get? b = some o := fun b o q => Heap.get?_push_of_some _ q
  have I3 := I2.kept (t' := s.toks + (ps.zip us).length + 1) k3
  have hmo : (h2.push (PySem.W.methodObj (.ref f0) (.ref x))).get? h2.objs.size = some (PySem.W.methodObj (.ref f0) (.ref x)) := Heap.get?_push_size _ rfl
  have hqn : H h2.objs.size = none := I2.hok.fresh (Nat.le_refl _)
  have I4 : Inv (ncx (L2.CX P w) P w K mg base N F fI A outer s H E) [(h2.objs.size, PySem.W.methodObj (.ref f0) (.ref x))] (startF N vs [some (.ref C)]) H { s with heap := h2.push (PySem.W.methodObj (.ref f0) (.ref x)), toks := s.toks + (ps.zip us).length + 1 } :=
    ⟨I3.ok, I3.os, I3.bare, I3.base, I3.loc, I3.cell, I3.free, I3.freeC, fun p hp => by
      have ep : p = (h2.objs.size, PySem.W.methodObj (.ref f0) (.ref x)) := by simpa using (show p ∈ ([] : List (Addr × Obj)) ++ [(h2.objs.size, PySem.W.methodObj (.ref f0) (.ref x))] from hp)
      subst ep
      exact ⟨hmo, hqn, fun z => by have q := I2.lt; rw [← z] at q; exact Nat.lt_irrefl _ q, fun z => I2.nofs (Nat.le_refl _) z, fun v z => by cases z⟩, I3.hok, I3.len⟩
  have go := ha.run p4 _ _ _ _ _ I4 hq
  rw [show starEach (e :: es) (ncx (L2.CX P w) P w K mg base N F fI A outer s H E).env = (false, eval e (envF F fI s.heap.objs.size)) :: starEach es (envF F fI s.heap.objs.size) from hst] at go
  show wpAny _ _ (callWith p4 (.ref h2.objs.size) [] (backTo p4 (starEach (e :: es) (envF F fI s.heap.objs.size))) []) _ _ _
  rw [hst]
  refine PySem.W.callWith_of (P := PySem.W.MethP K h2.objs.size f0 (.ref x)) (by show ((false || (backTo p4 (starEach es (envF F fI s.heap.objs.size))).any (·.1)) || false) = false; rw [hpl]; rfl) (PySem.W.keeps_M T.fn0) (evalArgs_plain (wpAny_mono go (fun us1 s1 hh => ?_) fun _ _ q => q))
  obtain ⟨vs1, H1, I5, r1, q1⟩ := hh
  have hm5 := (I5.pin (h2.objs.size, PySem.W.methodObj (.ref f0) (.ref x)) (by simp [ncx])).1
  refine ⟨⟨hm5, I5.kIn⟩, ?_⟩
  have hl0 : (Value.ref x :: us1).length = ps0.length := by
    have q := G.len _ _ _ _ q1
    have q2 := r1.length
    simp at q ⊢
    omega
  have b := b0 s1 (.ref x :: us1) I5.kIn (by rw [List.append_nil]; exact hl0)
  rw [List.append_nil] at b
  refine wpAny_call (ks_codeAny_call_bound hm5 (codeAny_mono (G.run (A.deeper (envF F fI s.heap.objs.size)) (envF F fI s.heap.objs.size :: outer) s1 H1 ⟨.ref x :: us1, []⟩ (.ref x :: us1) (.ref x :: vs1) _ E (hr.deeper _) I5.env0 b (.cons rfl r1) q1) fun r9 s9 h9 => ?_))
  have pass : Passes (L2.CX P w) (ncx (L2.CX P w) P w K mg base N F fI A outer s H E) E := passes_call (takes_of rfl rfl rfl rfl) (fun _ _ _ _ h => h)
  cases r9 with
  | error e9 => exact pass _ _ _ _ _ _ I5 h9
  | ok fl9 =>
    cases fl9 with
    | ret u9 =>
      obtain ⟨v9, H9, I9, rv9, q9⟩ := I5.after h9
      have I10 : Inv (ncx (L2.CX P w) P w K mg base N F fI A outer s H E) [] (startF N vs [some (.ref C)]) H9 s9 := ⟨I9.ok, I9.os, I9.bare, I9.base, I9.loc, I9.cell, I9.free, I9.freeC, (fun p hp => by cases (show p ∈ ([] : List (Addr × Obj)) ++ [] from hp)), I9.hok, I9.len⟩
      refine wpAt_of_wpAny (wpAny_mono (ht.run [] s9 _ H9 _ I10 q9) (fun f2 s2 hs2 => ?_) fun _ _ q => q)
      cases f2 with
      | ret u =>
        obtain ⟨v, z', H', J', rv, q⟩ := hs2
        exact ⟨v, H', J'.os, J'.bare, J'.base, J'.hok, rv, q⟩
      | next =>
        obtain ⟨z', H', J', q⟩ := hs2
        exact ⟨V.non, H', J'.os, J'.bare, J'.base, J'.hok, rfl, q⟩
      | brk =>
        obtain ⟨_, _, _, q⟩ := hs2
        exact q.elim
      | cont =>
        obtain ⟨_, _, _, q⟩ := hs2
        exact q.elim
    | next => exact h9.elim
    | brk => exact h9.elim
    | cont => exact h9.elim
/-- THE RULE for such an __init__ -/
theorem sup_ok (T : SupT P K C fI f0 F N ps e es rest) (G : FnOk P w K mg base (L2.CX P w) k f0 fd0 ps0 sp0) (b0 : L2.Binds K fd0 ps0 []) (len : ∀ vs H Q E, sp vs H Q E → vs.length = ps.length)
    (hbody : ∀ (A : Around) (outer : List Env) (s : Shared) (H : Hp) (vs : List V) (Q : VK) (E : XK), Room k (A.deeper (envF F fI s.heap.objs.size)) → sp vs H Q E →
      ∃ x dx fs ta t, vs[0]? = some (.ref x) ∧ H x = some (.ins C dx fs) ∧ PA (ncx (L2.CX P w) P w K mg base N F fI A outer s H E) (e :: es) ta ∧ PSs (ncx (L2.CX P w) P w K mg base N F fI A outer s H E) rest t ∧
      ta (startF N vs [some (.ref C)]) H fun ys H1 => sp0 (.ref x :: ys) H1 (fun _ H2 => t { nx := fun _ H' => Q .non H', rt := Q } (startF N vs [some (.ref C)]) H2) E) :
    ∃ doc pm ctv, FnOk P w K mg base (L2.CX P w) (k + 1) fI (F.fd doc pm ctv) ps sp ∧ L2.Binds K (F.fd doc pm ctv) ps [] := by
  obtain ⟨oc, od, osl, doc, pm, ctv, lk⟩ := T.fn
  refine ⟨doc, pm, ctv, ⟨len, fun A outer s H args us vs Q E hr e0 hb r hs => ?_⟩, ?_⟩
  · exact sup_run T lk G b0 hr e0 hb r (len _ _ _ _ hs) (hbody A outer s H vs Q E (hr.deeper _) hs)
  · exact .all (T.bind doc pm ctv)
end
end SupX


set_option Elab.async false
set_option linter.all false
set_option maxRecDepth 100000
set_option maxHeartbeats 4000000
/-! readings that make new objects alone: their value is known, the heap grows -/
namespace L2
open PySem PySem.Spec PyProof.Rows
def EvE (t : TE) (σ : St) (H : Hp) (v : V) : Prop := ∀ Q : VK, (∀ H', Same H H' → Q v H') → t σ H Q
def EvT (t : TT) (σ : St) (H : Hp) (b : Bool) : Prop := ∀ R : Bool → Hp → Prop, (∀ H', Same H H' → R b H') → t σ H R
def EvA (t : TA) (σ : St) (H : Hp) (vs : List V) : Prop := ∀ Q : List V → Hp → Prop, (∀ H', Same H H' → Q vs H') → t σ H Q
theorem Same.rf (H : Hp) : Same H H := fun _ _ h => h
theorem Same.tr {H H1 H2 : Hp} (a : Same H H1) (b : Same H1 H2) : Same H H2 := fun c o h => b c o (a c o h)
theorem Same.sql {K : PySem.W.Frag} {H H' : Hp} {a : Addr} {xs : List V} (e : Same H H') (h : SqL K H a xs) : SqL K H' a xs := by
  rcases h with (h | ⟨o, h⟩) | h
  · exact .inl (.inl (e _ _ h))
  · exact .inl (.inr ⟨o, e _ _ h⟩)
  · exact .inr h
section
variable {K : PySem.W.Frag} {σ : St} {H : Hp} {v x y : V} {a b c : TE} {t u : TT} {i : Nat} {p q : Addr} {xs vs : List V} {b1 b2 : Bool}
theorem ev_C : EvE (tC v) σ H v := fun Q h => h H (Same.rf H)
theorem ev_var (h : σ[i]? = some (some v)) : EvE (tVar i) σ H v := fun Q k => ⟨v, h, k H (Same.rf H)⟩
theorem ev_op {r : R2} (ha : EvE a σ H x) (hb : ∀ H1, Same H H1 → EvE b σ H1 y) (hr : ∀ H2, Same H H2 → ∀ Q : VK, Q v H2 → r x y H2 Q) : EvE (tOp r a b) σ H v :=
  fun Q k => ha _ fun H1 s1 => hb H1 s1 _ fun H2 s2 => hr H2 (s1.tr s2) Q (k H2 (s1.tr s2))
theorem ev_ixL {n : Int} (ha : EvE a σ H (.ref p)) (hb : ∀ H1, Same H H1 → EvE b σ H1 (.int n)) (hp : SqL K H p xs) (hi : atI xs n = some v) : EvE (tOp (rIxL K) a b) σ H v :=
  ev_op ha hb fun H2 s2 Q q => ⟨p, xs, n, v, rfl, rfl, s2.sql hp, hi, q⟩
theorem ev_ixT {n : Int} (ha : EvE a σ H (.ref p)) (hb : ∀ H1, Same H H1 → EvE b σ H1 (.int n)) (hp : SqT K H p xs) (hi : atI xs n = some v) : EvE (tOp (rIxT K) a b) σ H v :=
  ev_op ha hb fun H2 s2 Q q => ⟨p, xs, n, v, rfl, rfl, s2.seqT hp, hi, q⟩
theorem ev_eq (ha : EvE a σ H x) (hb : ∀ H1, Same H H1 → EvE b σ H1 y) (hs : scal x y = true) : EvE (tOp rEq a b) σ H (.bl (decide (x = y))) :=
  ev_op ha hb fun H2 s2 Q q => ⟨hs, q⟩
theorem ev_ne (ha : EvE a σ H x) (hb : ∀ H1, Same H H1 → EvE b σ H1 y) (hs : scal x y = true) : EvE (tOp rNe a b) σ H (.bl !(decide (x = y))) :=
  ev_op ha hb fun H2 s2 Q q => ⟨hs, q⟩
theorem ev_in {z : Str} {ns : List Str} (ha : EvE a σ H (.str z)) (hb : ∀ H1, Same H H1 → ∀ Q : VK, (∀ H2 q, Same H1 H2 → SqL K H2 q (ns.map V.str) ∨ SqT K H2 q (ns.map V.str) → Q (.ref q) H2) → b σ H1 Q) : EvE (tOp (rIn K false) a b) σ H (.bl (decide (z ∈ ns))) :=
  fun Q k => ha _ fun H1 s1 => hb H1 s1 _ fun H2 q s2 hq => ⟨q, _, rfl, hq, rfl, flat_strs ns, by rw [inV_str]; exact k H2 (s1.tr s2)⟩
theorem ev_notin {z : Str} {ns : List Str} (ha : EvE a σ H (.str z)) (hb : ∀ H1, Same H H1 → ∀ Q : VK, (∀ H2 q, Same H1 H2 → SqL K H2 q (ns.map V.str) ∨ SqT K H2 q (ns.map V.str) → Q (.ref q) H2) → b σ H1 Q) : EvE (tOp (rIn K true) a b) σ H (.bl (!decide (z ∈ ns))) :=
  fun Q k => ha _ fun H1 s1 => hb H1 s1 _ fun H2 q s2 hq => ⟨q, _, rfl, hq, rfl, flat_strs ns, by rw [inV_str]; exact k H2 (s1.tr s2)⟩
theorem ev_isN {r : R2} (ha : EvE a σ H x) (hr : ∀ H2 Q, Q (.bl b1) H2 → r x .non H2 Q) : EvE (tOp r a (tC .non)) σ H (.bl b1) := ev_op ha (fun _ _ => ev_C) fun H2 _ Q q => hr H2 Q q
theorem ev_test (ha : EvE a σ H (.bl b1)) : EvT (tTest a) σ H b1 := fun R k => ha _ fun H1 s1 => ⟨b1, rfl, k H1 s1⟩
theorem ev_tB (ha : EvE a σ H (.bl b1)) : EvT (tB a) σ H b1 := fun R k => ha _ fun H1 s1 => ⟨b1, rfl, k H1 s1⟩
theorem ev_and (ht : EvT t σ H b1) (hu : b1 = true → ∀ H1, Same H H1 → EvT u σ H1 b2) : EvT (tAnd t u) σ H (b1 && b2) := by
  intro R k
  refine ht _ fun H1 s1 => ?_
  cases b1 with
  | true => exact iteT (hu rfl H1 s1 _ fun H2 s2 => k H2 (s1.tr s2))
  | false => exact iteF (k H1 s1)
theorem ev_or (ht : EvT t σ H b1) (hu : b1 = false → ∀ H1, Same H H1 → EvT u σ H1 b2) : EvT (tOr t u) σ H (b1 || b2) := by
  intro R k
  refine ht _ fun H1 s1 => ?_
  cases b1 with
  | true => exact iteT (k H1 s1)
  | false => exact iteF (hu rfl H1 s1 _ fun H2 s2 => k H2 (s1.tr s2))
theorem ev_not (ht : EvT t σ H b1) : EvT (tNot t) σ H (!b1) := fun R k => ht _ fun H1 s1 => k H1 s1
theorem ev_nil : EvA tNil σ H [] := fun Q k => k H (Same.rf H)
theorem ev_cons {ts : TA} (ha : EvE a σ H x) (hs : ∀ H1, Same H H1 → EvA ts σ H1 vs) : EvA (tCons a ts) σ H (x :: vs) :=
  fun Q k => ha _ fun H1 s1 => hs H1 s1 _ fun H2 s2 => k H2 (s1.tr s2)
theorem ev_len {ta : TA} (ha : EvA ta σ H [.ref p]) (hp : SqL K H p xs ∨ SqT K H p xs) : EvE (tCB (fun xs H Q => ∃ p ys, xs = [V.ref p] ∧ (SqL K H p ys ∨ SqT K H p ys) ∧ Q (.int (ys.length : Nat)) H) ta) σ H (.int (xs.length : Nat)) :=
  fun Q k => ha _ fun H1 s1 => ⟨p, xs, rfl, hp.imp s1.sql s1.seqT, k H1 s1⟩
theorem ev_fld {C dx : Addr} {fs : List (Str × V)} {f : Str} (ha : EvE a σ H (.ref p)) (hx : H p = some (.ins C dx fs)) (hc : Cls K C) (hn : NoAttr K C f) (hl : fs.lookup f = some v) : EvE (tFld K a f) σ H v :=
  fun Q k => ha _ fun H1 s1 => ⟨p, C, dx, fs, v, rfl, s1 _ _ hx, hc, hn, hl, k H1 s1⟩
theorem ev_if (ht : EvT t σ H b1) (h1 : b1 = true → ∀ H1, Same H H1 → EvE a σ H1 v) (h2 : b1 = false → ∀ H1, Same H H1 → EvE b σ H1 v) : EvE (tIf t a b) σ H v := by
  intro Q k
  refine ht _ fun H1 s1 => ?_
  cases b1 with
  | true => exact iteT (h1 rfl H1 s1 _ fun H2 s2 => k H2 (s1.tr s2))
  | false => exact iteF (h2 rfl H1 s1 _ fun H2 s2 => k H2 (s1.tr s2))
theorem ev_andV (ha : EvE a σ H (.bl b1)) (hb : b1 = true → ∀ H1, Same H H1 → EvE b σ H1 (.bl b2)) : EvE (tAndV a b) σ H (.bl (b1 && b2)) := by
  intro Q k
  refine ha _ fun H1 s1 => ⟨b1, rfl, ?_⟩
  cases b1 with
  | true => exact iteT (hb rfl H1 s1 _ fun H2 s2 => k H2 (s1.tr s2))
  | false => exact iteF (k H1 s1)
theorem szL {n : Nat} (h : Nat.ble n 1000 = true) : n ≤ sizeLine := by
  have q : sizeLine = 16777216 := sizeLine_eq
  have := Nat.le_of_ble_eq_true h
  omega
/-- a tuple or list that is made anew -/
theorem mk_tup {ta : TA} (ha : EvA ta σ H vs) {Q : VK} (k : ∀ H' T, Same H H' → H T = none → H' T = some (.tup vs) → Q (.ref T) H') (hl : Nat.ble vs.length 1000 = true := by rfl) : tTup ta σ H Q :=
  ha _ fun H1 s1 => ⟨szL hl, fun T hT => k _ T (s1.tr (Same.new hT)) (by cases e : H T with | none => rfl | some o => rw [s1 _ _ e] at hT; cases hT) upd_same⟩
theorem mk_lst {ta : TA} (ha : EvA ta σ H vs) {Q : VK} (k : ∀ H' T, Same H H' → H T = none → H' T = some (.lst vs) → Q (.ref T) H') (hl : Nat.ble vs.length 1000 = true := by rfl) : tLst ta σ H Q :=
  ha _ fun H1 s1 => ⟨szL hl, fun T hT => k _ T (s1.tr (Same.new hT)) (by cases e : H T with | none => rfl | some o => rw [s1 _ _ e] at hT; cases hT) upd_same⟩
/-- the names of a tuple display, of a tuple at the top -/
theorem in_tup {ta : TA} {ns : List Str} (ha : ∀ H, EvA ta σ H (ns.map V.str)) (hl : Nat.ble (ns.map V.str).length 1000 = true := by rfl) : ∀ H1, Same H H1 → ∀ Q : VK, (∀ H2 q, Same H1 H2 → SqL K H2 q (ns.map V.str) ∨ SqT K H2 q (ns.map V.str) → Q (.ref q) H2) → tTup ta σ H1 Q :=
  fun H1 _ Q k => mk_tup (ha H1) (fun H2 T s2 _ hT => k H2 T s2 (.inr (.inl (.inl hT)))) hl
theorem in_top {ns : List Str} (h : ∀ H, SqT K H q (ns.map V.str)) : ∀ H1, Same H H1 → ∀ Q : VK, (∀ H2 q, Same H1 H2 → SqL K H2 q (ns.map V.str) ∨ SqT K H2 q (ns.map V.str) → Q (.ref q) H2) → (tC (.ref q)) σ H1 Q :=
  fun H1 _ Q k => k H1 q (Same.rf _) (.inr (h H1))
theorem seq_if {s r : TS} {D : Ends} (hc : EvT t σ H b1) (h1 : b1 = true → ∀ H1, Same H H1 → s { nx := r D, rt := D.rt, bk := D.bk, ct := D.ct } σ H1) (h2 : b1 = false → ∀ H1, Same H H1 → r D σ H1) : tSeq (tIfS t s tNext) r D σ H := by
  refine hc _ fun H1 s1 => ?_
  cases b1 with
  | true => exact iteT (h1 rfl H1 s1)
  | false => exact iteF (h2 rfl H1 s1)
theorem do_if {s r : TS} {D : Ends} (hc : EvT t σ H b1) (h1 : b1 = true → ∀ H1, Same H H1 → s D σ H1) (h2 : b1 = false → ∀ H1, Same H H1 → r D σ H1) : tIfS t s r D σ H := by
  refine hc _ fun H1 s1 => ?_
  cases b1 with
  | true => exact iteT (h1 rfl H1 s1)
  | false => exact iteF (h2 rfl H1 s1)
theorem do_set {s : TS} {D : Ends} (ha : EvE a σ H x) (k : ∀ H1, Same H H1 → s D (σ.set i (some x)) H1) : tSeq (tAsg a (gName i)) s D σ H := ha _ fun H1 s1 => k H1 s1
end
theorem dcS {x y : Str} : decide (V.str x = V.str y) = decide (x = y) := by
  by_cases e : x = y
  · rw [e]; simp
  · rw [decide_eq_false e, decide_eq_false (fun k => e (V.str.inj k))]
theorem dcI {x y : Int} : decide (V.int x = V.int y) = decide (x = y) := by
  by_cases e : x = y
  · rw [e]; simp
  · rw [decide_eq_false e, decide_eq_false (fun k => e (V.int.inj k))]
theorem dcN {x y : Nat} : decide (V.int (x : Int) = V.int (y : Int)) = decide (x = y) := by
  rw [dcI]
  by_cases e : x = y
  · rw [e]; simp
  · rw [decide_eq_false e, decide_eq_false (by omega)]
theorem eq_str {a b : TE} {σ : St} {H : Hp} {x y : Str} (ha : EvE a σ H (.str x)) (hb : ∀ H1, Same H H1 → EvE b σ H1 (.str y)) : EvT (tTest (tOp rEq a b)) σ H (decide (x = y)) := by
  rw [← dcS]
  exact ev_test (ev_eq ha hb rfl)
theorem ne_str {a b : TE} {σ : St} {H : Hp} {x y : Str} (ha : EvE a σ H (.str x)) (hb : ∀ H1, Same H H1 → EvE b σ H1 (.str y)) : EvT (tTest (tOp rNe a b)) σ H (!decide (x = y)) := by
  rw [← dcS]
  exact ev_test (ev_ne ha hb rfl)
theorem eq_nat {a b : TE} {σ : St} {H : Hp} {x y : Nat} (ha : EvE a σ H (.int (x : Int))) (hb : ∀ H1, Same H H1 → EvE b σ H1 (.int (y : Int))) : EvT (tTest (tOp rEq a b)) σ H (decide (x = y)) := by
  rw [← dcN]
  exact ev_test (ev_eq ha hb rfl)
theorem at_word {ws : List Str} {i : Nat} (h : i < ws.length) : atI (ws.map V.str) (i : Int) = some (.str (ws.getD i "")) := by
  refine atI_nat ?_
  rw [List.getElem?_map, List.getD_eq_getElem?_getD, List.getElem?_eq_getElem h]
  rfl
/-- words[i] -/
theorem ev_word {K : PySem.W.Frag} {a : TE} {σ : St} {H : Hp} {p : Addr} {ws : List Str} {i : Nat} (ha : EvE a σ H (.ref p)) (hp : SqL K H p (ws.map V.str)) (h : i < ws.length) : EvE (tOp (rIxL K) a (tC (.int (i : Int)))) σ H (.str (ws.getD i "")) :=
  ev_ixL ha (fun _ _ => ev_C) hp (at_word h)
end L2


set_option Elab.async false
set_option linter.all false
set_option maxRecDepth 100000
set_option maxHeartbeats 4000000
namespace L2
open PySem PySem.Spec PyProof.Rows
theorem dpStrs {K : PySem.W.Frag} {H : Hp} : ∀ cs : List Str, DpAll K H (cs.map V.str) (cs.map PyData.str)
  | [] => .nil
  | c :: r => .cons (.str c) (dpStrs r)
theorem cl_strs : ∀ cs : List Str, PyData.canLayAll0 (cs.map PyData.str) = cs.all PyData.strOk
  | [] => rfl
  | c :: r => by
    show (PyData.canLay0 (.str c) && PyData.canLayAll0 (r.map PyData.str)) = (PyData.strOk c && r.all PyData.strOk)
    rw [cl_strs r]
    rfl
theorem dp_strs : ∀ cs : List Str, PyData.depthAll (cs.map PyData.str) = 0
  | [] => rfl
  | c :: r => by
    show max (PyData.depth (.str c)) (PyData.depthAll (r.map PyData.str)) = 0
    rw [dp_strs r]
    rfl
theorem shaped_strs {cs : List Str} (h : cs.all PyData.strOk = true) : SeqAt.shaped (.list (cs.map PyData.str)) = true := by
  show (PyData.canLayAll0 (cs.map PyData.str) && decide (PyData.depthAll (cs.map PyData.str) + 1 ≤ 64)) = true
  rw [cl_strs, dp_strs, h]
  rfl
theorem eqv_all : ∀ a b : List Str, PyData.eqvAll (a.map PyData.str) (b.map PyData.str) = decide (a = b)
  | [], [] => by simp [PyData.eqvAll]
  | x :: xs, [] => by simp [PyData.eqvAll]
  | [], y :: ys => by simp [PyData.eqvAll]
  | x :: xs, y :: ys => by
    simp only [List.map_cons, PyData.eqvAll, PyData.eqv]
    rw [eqv_all xs ys]
    by_cases e : x = y
    · subst e; simp
    · have : (x == y) = false := by simpa using e
      rw [this, Bool.false_and]
      simp [e]
theorem eqv_strs (a b : List Str) : PyData.eqv (.list (a.map PyData.str)) (.list (b.map PyData.str)) = decide (a = b) := by
  show PyData.eqvAll _ _ = _
  exact eqv_all a b
/-- x in a tuple, both deep -/
def rInT (K : PySem.W.Frag) : R2 := fun x y H Q => ∃ d ds, Dp K H x d ∧ Dp K H y (.tuple ds) ∧ SeqAt.shaped d = true ∧ SeqAt.shaped (.tuple ds) = true ∧ Q (.bl (ds.any fun z => PyData.eqv z d)) H
theorem op_inT {X : Cx} (hu : X.A.units + 65 < cLine) : OpR X (compareOp .In) (rInT X.K) := by
  intro pins s σ H x y v u Q I rx ry h
  obtain ⟨d, ds, hd, he, sd, se, q⟩ := h
  obtain ⟨as, r1⟩ := Dp.reads I d x v hd rx
  obtain ⟨bs, r2⟩ := Dp.reads I (.tuple ds) y u he ry
  exact SeqAt.in_tuple_reads r2 r1 (SeqAt.canLay_of_shaped se) (SeqAt.canLay_of_shaped sd) (room_in_shaped sd hu) ⟨.bl _, H, I, rfl, q⟩
section
variable {K : PySem.W.Frag} {σ : St} {H : Hp} {a b c : TE} {p q : Addr} {ws zs z2 : List Str}
/-- a list of texts == a list display of texts -/
theorem ev_eqL (ha : EvE a σ H (.ref p)) (hp : SqL K H p (ws.map V.str)) (ho : ws.all PyData.strOk = true) {tb : TA} (hb : ∀ H, EvA tb σ H (zs.map V.str)) (hz : zs.all PyData.strOk = true) (hl : Nat.ble (zs.map V.str).length 1000 = true := by rfl) : EvT (tTest (tOp (rEqD K) a (tLst tb))) σ H (decide (ws = zs)) := by
  refine ev_test fun Q k => ha _ fun H1 s1 => mk_lst (hb H1) (fun H2 T s2 _ hT => ?_) hl
  refine ⟨_, _, .lst ((s1.tr s2).sql hp) (dpStrs ws), .lst (.inl (.inl hT)) (dpStrs zs), shaped_strs ho, shaped_strs hz, ?_⟩
  rw [eqv_strs]
  exact k _ (s1.tr s2)
/-- a list of texts in a tuple display of two lists of texts -/
theorem ev_inL2 (ha : EvE a σ H (.ref p)) (hp : SqL K H p (ws.map V.str)) (ho : ws.all PyData.strOk = true) {t1 t2 : TA} (h1 : ∀ H, EvA t1 σ H (zs.map V.str)) (h2 : ∀ H, EvA t2 σ H (z2.map V.str)) (o1 : zs.all PyData.strOk = true) (o2 : z2.all PyData.strOk = true)
    (l1 : Nat.ble (zs.map V.str).length 1000 = true := by rfl) (l2 : Nat.ble (z2.map V.str).length 1000 = true := by rfl) : EvT (tTest (tOp (rInT K) a (tTup (tCons (tLst t1) (tCons (tLst t2) tNil))))) σ H (decide (ws = zs) || decide (ws = z2)) := by
  refine ev_test fun Q k => ha _ fun H1 s1 => ?_
  dsimp only [tTup, tCons, tNil]
  refine mk_lst (h1 H1) (fun H2 A s2 _ hA => ?_) l1
  refine mk_lst (h2 H2) (fun H3 B s3 _ hB => ?_) l2
  refine ⟨szL rfl, fun T hT => ?_⟩
  have s4 : Same H3 (upd H3 T (.tup [.ref A, .ref B])) := Same.new hT
  refine ⟨_, _, .lst ((((s1.tr s2).tr s3).tr s4).sql hp) (dpStrs ws), .tup (.inl (.inl upd_same)) (.cons (.lst (.inl (.inl (s4 _ _ (s3 _ _ hA)))) (dpStrs zs)) (.cons (.lst (.inl (.inl (s4 _ _ hB))) (dpStrs z2)) .nil)), shaped_strs ho, ?_, ?_⟩
  · show (PyData.canLayAll0 [.list (zs.map PyData.str), .list (z2.map PyData.str)] && decide (PyData.depthAll [.list (zs.map PyData.str), .list (z2.map PyData.str)] + 1 ≤ 64)) = true
    have e1 : PyData.canLayAll0 [.list (zs.map PyData.str), .list (z2.map PyData.str)] = (PyData.canLayAll0 (zs.map PyData.str) && (PyData.canLayAll0 (z2.map PyData.str) && true)) := rfl
    have e2 : PyData.depthAll [.list (zs.map PyData.str), .list (z2.map PyData.str)] = max (PyData.depthAll (zs.map PyData.str) + 1) (max (PyData.depthAll (z2.map PyData.str) + 1) 0) := rfl
    rw [e1, e2, cl_strs, cl_strs, dp_strs, dp_strs, o1, o2]
    rfl
  · simp only [List.any_cons, List.any_nil, Bool.or_false]
    rw [eqv_strs, eqv_strs]
    have f1 : decide (zs = ws) = decide (ws = zs) := by simp [eq_comm]
    have f2 : decide (z2 = ws) = decide (ws = z2) := by simp [eq_comm]
    rw [f1, f2]
    exact k _ (((s1.tr s2).tr s3).tr s4)
end
end L2
namespace L2
open PySem PySem.Spec PyProof.Rows
theorem Room.u65 {k : Nat} {A : Around} (h : Room k A) : A.units + 65 < cLine := by have := h.un; omega
theorem Room.u1 {k : Nat} {A : Around} (h : Room k A) : A.units + 1 < cLine := by have := h.un; omega
end L2
namespace L2
open PySem PySem.Spec PyProof.Rows
section
variable {K : PySem.W.Frag} {te : TE} {g : TG} {tb : TS} {D : Ends} {σ : St} {H : Hp}
/-- for .. in a tuple, a list: the sequence is known, then by an invariant -/
theorem for_in_tup (h : te σ H fun x H1 => ∃ (a : Addr) (xs : List V) (Pv : Nat → St → Hp → Prop), x = V.ref a ∧ SqT K H1 a xs ∧ Pv 0 σ H1 ∧ (∀ i σ H, i ≤ xs.length → Pv i σ H → SqT K H a xs) ∧
    (∀ i x σ H, xs[i]? = some x → Pv i σ H → g x σ H fun σ2 H2 => tb { nx := Pv (i + 1), rt := D.rt, bk := D.nx, ct := Pv (i + 1) } σ2 H2) ∧ (∀ σ H, Pv xs.length σ H → D.nx σ H))
    (mono : ∀ Q Q' : VK, (∀ v H1, Q v H1 → Q' v H1) → te σ H Q → te σ H Q') : tFor (iTup K te) g tb D σ H :=
  mono _ _ (fun v H1 ⟨a, xs, Pv, e, hs, h0, h1, h2, h3⟩ => ⟨a, e, ⟨xs, hs⟩, for_tup Pv h0 h1 h2 h3⟩) h
theorem for_in_list (h : te σ H fun x H1 => ∃ (a : Addr) (xs : List V) (Pv : Nat → St → Hp → Prop), x = V.ref a ∧ SqL K H1 a xs ∧ Pv 0 σ H1 ∧ (∀ i σ H, i ≤ xs.length → Pv i σ H → SqL K H a xs) ∧
    (∀ i x σ H, xs[i]? = some x → Pv i σ H → g x σ H fun σ2 H2 => tb { nx := Pv (i + 1), rt := D.rt, bk := D.nx, ct := Pv (i + 1) } σ2 H2) ∧ (∀ σ H, Pv xs.length σ H → D.nx σ H))
    (mono : ∀ Q Q' : VK, (∀ v H1, Q v H1 → Q' v H1) → te σ H Q → te σ H Q') : tFor (iList K te) g tb D σ H :=
  mono _ _ (fun v H1 ⟨a, xs, Pv, e, hs, h0, h1, h2, h3⟩ => ⟨a, e, ⟨xs, hs⟩, for_list Pv h0 h1 h2 h3⟩) h
end
/-- for .. in a list whose expression is known -/
theorem for_lst {K : PySem.W.Frag} {te : TE} {g : TG} {tb : TS} {D : Ends} {σ : St} {H : Hp} {a : Addr} {xs : List V} (Pv : Nat → St → Hp → Prop) (he : EvE te σ H (.ref a)) (hs : SqL K H a xs) (h0 : ∀ H1, Same H H1 → Pv 0 σ H1) (h1 : ∀ i σ H, i ≤ xs.length → Pv i σ H → SqL K H a xs)
    (h2 : ∀ i x σ H, xs[i]? = some x → Pv i σ H → g x σ H fun σ2 H2 => tb { nx := Pv (i + 1), rt := D.rt, bk := D.nx, ct := Pv (i + 1) } σ2 H2) (h3 : ∀ σ H, Pv xs.length σ H → D.nx σ H) : tFor (iList K te) g tb D σ H :=
  he _ fun H1 s1 => ⟨a, rfl, ⟨xs, s1.sql hs⟩, for_list Pv (h0 H1 s1) h1 h2 h3⟩
theorem for_tp {K : PySem.W.Frag} {te : TE} {g : TG} {tb : TS} {D : Ends} {σ : St} {H : Hp} {a : Addr} {xs : List V} (Pv : Nat → St → Hp → Prop) (he : EvE te σ H (.ref a)) (hs : SqT K H a xs) (h0 : ∀ H1, Same H H1 → Pv 0 σ H1) (h1 : ∀ i σ H, i ≤ xs.length → Pv i σ H → SqT K H a xs)
    (h2 : ∀ i x σ H, xs[i]? = some x → Pv i σ H → g x σ H fun σ2 H2 => tb { nx := Pv (i + 1), rt := D.rt, bk := D.nx, ct := Pv (i + 1) } σ2 H2) (h3 : ∀ σ H, Pv xs.length σ H → D.nx σ H) : tFor (iTup K te) g tb D σ H :=
  he _ fun H1 s1 => ⟨a, rfl, ⟨xs, s1.seqT hs⟩, for_tup Pv (h0 H1 s1) h1 h2 h3⟩
/-- for .. in a tuple display -/
theorem for_disp {K : PySem.W.Frag} {ta : TA} {g : TG} {tb : TS} {D : Ends} {σ : St} {H : Hp} {xs : List V} (Pv : Nat → St → Hp → Prop) (ha : EvA ta σ H xs) (h0 : ∀ H1, Same H H1 → Pv 0 σ H1) (hm : ∀ i σ H1, Pv i σ H1 → Same H H1)
    (h2 : ∀ i x σ H, xs[i]? = some x → Pv i σ H → ∀ a, SqT K H a xs → g x σ H fun σ2 H2 => tb { nx := fun σ H => Pv (i + 1) σ H ∧ SqT K H a xs, rt := D.rt, bk := D.nx, ct := fun σ H => Pv (i + 1) σ H ∧ SqT K H a xs } σ2 H2) (h3 : ∀ σ H, Pv xs.length σ H → D.nx σ H) (hl : Nat.ble xs.length 1000 = true := by rfl) : tFor (iTup K (tTup ta)) g tb D σ H := by
  refine ha _ fun H1 s1 => ⟨szL hl, fun a hT => ⟨a, rfl, ⟨xs, .inl (.inl upd_same)⟩, ?_⟩⟩
  exact for_tup (fun i σ H => Pv i σ H ∧ SqT K H a xs) ⟨h0 _ (s1.tr (Same.new hT)), .inl (.inl upd_same)⟩ (fun i σ H _ k => k.2) (fun i x σ H hx k => h2 i x σ H hx k.1 a k.2) (fun σ H k => h3 σ H k.1)
end L2
namespace L2
open PySem PySem.Spec PyProof.Rows
section
variable {K : PySem.W.Frag} {σ : St} {H : Hp} {v : V} {a b : TE} {p C dx : Addr} {fs : List (Str × V)} {m : Str} {sp : Sp} {E : XK}
theorem ev_meth0 (ha : EvE a σ H (.ref p)) (hx : H p = some (.ins C dx fs)) (hl : fs.lookup m = none) (hs : ∀ H1 Q, Same H H1 → (∀ H', Same H1 H' → Q v H') → sp [.ref p] H1 Q E) : EvE (tMeth C m sp [] E a tNil) σ H v :=
  fun Q k => ha _ fun H1 s1 => ⟨p, dx, fs, rfl, s1 _ _ hx, hl, hs H1 Q s1 fun H' s2 => k H' (s1.tr s2)⟩
theorem ev_lt {i j : Int} (ha : EvE a σ H (.int i)) (hb : ∀ H1, Same H H1 → EvE b σ H1 (.int j)) : EvE (tOp (fun x y H Q => ∃ i j, x = V.int i ∧ y = V.int j ∧ Q (.bl (decide (i < j))) H) a b) σ H (.bl (decide (i < j))) :=
  ev_op ha hb fun H2 s2 Q q => ⟨i, j, rfl, rfl, q⟩
/-- text.split(" ") -/
theorem do_split {z y : Str} (ha : EvE a σ H (.str z)) (hy : (y.length == 0) = false) (hz : z.length + 2 ≤ sizeLine) {Q : VK} (k : ∀ H' q, Same H H' → H q = none → H' q = some (.lst ((Txt.split z y).map V.str)) → Q (.ref q) H') :
    tM1 (fun x xs H Q => ∃ a b, x = V.str a ∧ xs = [V.str b] ∧ (b.length == 0) = false ∧ a.length + 2 ≤ sizeLine ∧ rNewStrs (Txt.split a b) H Q) a (tC (.str y)) σ H Q :=
  ha _ fun H1 s1 => ⟨⟨z, rfl⟩, z, y, rfl, rfl, hy, hz, fun q hq => k _ q (s1.tr (Same.new hq)) (by cases e : H q with | none => rfl | some o => rw [s1 _ _ e] at hq; cases hq) upd_same⟩
theorem do_drop {s : TS} {D : Ends} {te : TE} (h : te σ H fun _ H1 => s D σ H1) : tSeq (tDrop te) s D σ H := h
theorem do_whl {c : TT} {tb : TS} {D : Ends} (W : Nat → St → Hp → Prop) {m0 : Nat} (h0 : W m0 σ H) (hs : ∀ m σ H, W m σ H → ∃ b, EvT c σ H b ∧ (b = true → ∀ H1, Same H H1 → tb { nx := fun σ' H' => ∃ m', m' < m ∧ W m' σ' H', rt := D.rt, bk := D.nx, ct := fun σ' H' => ∃ m', m' < m ∧ W m' σ' H' } σ H1) ∧ (b = false → ∀ H1, Same H H1 → D.nx σ H1)) : tWhile c tb D σ H := by
  refine ⟨W, ⟨m0, h0⟩, fun m σ H hw => ?_⟩
  obtain ⟨b, hc, h1, h2⟩ := hs m σ H hw
  refine hc _ fun H1 s1 => ?_
  cases b with
  | true => exact iteT ⟨_, fun _ _ h => h, h1 rfl H1 s1⟩
  | false => exact iteF (h2 rfl H1 s1)
theorem none_of {H H1 : Hp} {q : Addr} (s : Same H H1) (h : H1 q = none) : H q = none := by
  cases e : H q with
  | none => rfl
  | some o => rw [s _ _ e] at h; cases h
/-- all but the object at x stays -/
def SameX (x : Addr) (H H' : Hp) : Prop := ∀ b o, b ≠ x → H b = some o → H' b = some o
theorem Same.x {x : Addr} {H H' : Hp} (s : Same H H') : SameX x H H' := fun b o _ h => s b o h
theorem SameX.tr {x : Addr} {H H1 H2 : Hp} (a : SameX x H H1) (b : SameX x H1 H2) : SameX x H H2 := fun c o n h => b c o n (a c o n h)
theorem SameX.upd {x : Addr} {H H' : Hp} {o : HO} (a : SameX x H H') : SameX x H (upd H' x o) := fun c u n h => by rw [upd_ne n]; exact a c u n h
theorem SameX.mut {x p : Addr} {H H' : Hp} {o : HO} (a : SameX x H H') (h : H p = none) : SameX x H (L2.upd H' p o) := fun c u n q => by rw [upd_ne (ne_of_none q h)]; exact a c u n q
end
end L2
namespace L2
open PySem PySem.Spec PyProof.Rows
theorem set_lst {ta : TA} {s : TS} {D : Ends} {σ : St} {H : Hp} {vs : List V} {i : Nat} (ha : EvA ta σ H vs) (k : ∀ H' T, Same H H' → H T = none → H' T = some (.lst vs) → s D (σ.set i (some (.ref T))) H') (hl : Nat.ble vs.length 1000 = true := by rfl) : tSeq (tAsg (tLst ta) (gName i)) s D σ H :=
  ha _ fun H1 s1 => ⟨szL hl, fun T hT => k _ T (s1.tr (Same.new hT)) (none_of s1 hT) upd_same⟩
theorem set_tup {ta : TA} {s : TS} {D : Ends} {σ : St} {H : Hp} {vs : List V} {i : Nat} (ha : EvA ta σ H vs) (k : ∀ H' T, Same H H' → H T = none → H' T = some (.tup vs) → s D (σ.set i (some (.ref T))) H') (hl : Nat.ble vs.length 1000 = true := by rfl) : tSeq (tAsg (tTup ta) (gName i)) s D σ H :=
  ha _ fun H1 s1 => ⟨szL hl, fun T hT => k _ T (s1.tr (Same.new hT)) (none_of s1 hT) upd_same⟩
end L2
namespace L2
open PySem PySem.Spec PyProof.Rows
section
variable {σ : St} {H : Hp} {a : TE} {x : V}
theorem isN_t (ha : EvE a σ H .non) : EvT (tTest (tOp (fun x y H Q => y = V.non ∧ Q (V.bl (decide (x = V.non))) H) a (tC V.non))) σ H true := ev_test (ev_op ha (fun _ _ => ev_C) fun H2 _ Q q => ⟨rfl, q⟩)
theorem isN_f (ha : EvE a σ H x) (hx : x ≠ .non) : EvT (tTest (tOp (fun x y H Q => y = V.non ∧ Q (V.bl (decide (x = V.non))) H) a (tC V.non))) σ H false := ev_test (ev_op ha (fun _ _ => ev_C) fun H2 _ Q q => ⟨rfl, by rw [decide_eq_false hx]; exact q⟩)
end
end L2
namespace L2
theorem nm {i : Nat} {v : V} {σ : St} {H : Hp} {Q : St → Hp → Prop} (h : Q (σ.set i (some v)) H) : gName i v σ H Q := h
theorem nx_seq {t u : TS} {D : Ends} {σ : St} {H : Hp} {r : VK} {b c : St → Hp → Prop} (h : tSeq t u D σ H) : Ends.nx { nx := tSeq t u D, rt := r, bk := b, ct := c } σ H := h
end L2


set_option Elab.async false
set_option linter.all false
set_option maxRecDepth 100000
set_option maxHeartbeats 4000000
namespace L2
open PySem PySem.Spec PyProof.Rows
section
variable {X : Cx}
/-- name = {k: v for ..} on one line, the name a local -/
theorem ps_setDc {i : Nat} {y : Str} {py : Pos} {kx vx tg iter : Expr} {ifs : List Expr} {scope : Scope} {own : List (Str × Nat)} {pos spos : Pos} {wi : TI} {g : TG} {tt : TT} {tk tv : TE} (hc : X.calm = true) (hN : X.N.Nodup) (hy : X.N[i]? = some y) (hyl : X.env.scope.names.lookup y = some .local)
    (hsw : swapsWith (.DictComp kx vx [⟨tg, iter, ifs, 0⟩] scope pos) (some (.Name y py)) spos.line X.env = pure true) (hi : PI X tg iter wi) (ok : BlkOk X.N X.env.scope scope own)
    (hg : ∀ (s : Shared) (H : Hp) (C : Addr) (cl : List (Str × Addr)) (fp : List Addr), PG (X.blk s H scope (compEnvC scope cl C X.env) fp) tg g) (ht : ∀ (s : Shared) (H : Hp) (C : Addr) (cl : List (Str × Addr)) (fp : List Addr), PTs (X.blk s H scope (compEnvC scope cl C X.env) fp) ifs tt) (hk : ∀ (s : Shared) (H : Hp) (C : Addr) (cl : List (Str × Addr)) (fp : List Addr), PE (X.blk s H scope (compEnvC scope cl C X.env) fp) kx tk)
    (he : ∀ (s : Shared) (H : Hp) (C : Addr) (cl : List (Str × Addr)) (fp : List Addr), PE (X.blk s H scope (compEnvC scope cl C X.env) fp) vx tv) (hs : ∀ x, foldedSetIterable iter X.env x = pure x := by (intro _; rfl)) : PS X (.Assign [.Name y py] (.DictComp kx vx [⟨tg, iter, ifs, 0⟩] scope pos) spos) (tAsg (tDc wi g tt tk tv (own.map (·.2))) (gName i)) := by
  refine ⟨fun ps s0 z H0 D0 I0 h0 => ?_⟩
  rw [exec_Assign_Name_used _ _ _ _ hsw]; refine wpAny_bind (wpAny_standAt (wpAny_bind ?_))
  show wpAny _ X.A (do let _ ← comprehension (.DictComp kx vx [⟨tg, iter, ifs, 0⟩] scope pos) scope X.env (firstIterPos [⟨tg, iter, ifs, 0⟩] pos) newDict false (eval iter X.env) (some (assign (.Name y py) X.env))) _ _ s0
  have h1 : tDc wi g tt tk tv (own.map (·.2)) z H0 (fun x H1 => gName i x z H1 D0.nx) := h0
  refine wpAny_bind (thn (dc_core (Qf := fun _ s' => SP X ps D0 .next s') hc hN I0 hi ok hg ht hk he hs h1 fun L C s' m H' I' q hn f => ?_) fun _ s' hq => wpAny_pure (wpAny_pure hq))
  show wpAny _ _ (assign (.Name y py) X.env (.ref L)) _ _ _; refine wpAny_assign_Name (store_ok2 (v := V.ref L) I' hN hy (.inl hyl) rfl (fun s2 I2 ⟨a, sb, ha⟩ => ?_) (.inr hyl))
  obtain ⟨c0, c1, c2, c3, c4, c5⟩ := f
  have hCa : C ≠ a := by
    rcases ha with e | e
    · exact fun k => c1 (k.trans e)
    · exact fun k => c4 y a e k.symm
  exact ⟨m, hn.sameBut sb hCa, fun h3 sb3 => ⟨_, H', I2.turned (t' := s2.toks) (fun b o hb e => (sb3.2 b hb).trans e) c0 c1 c3 c4 c5, q⟩⟩
theorem swD_true {kx vx : Expr} {gs : List Comprehension} {scope : Scope} {pos py : Pos} {y : Str} {l : Nat} {env : Env} (hk : env.scope.kind = .function) (hy : env.scope.names.lookup y = some .local) (hl : (py.line == pos.line) = true)
    (ha : (scope.names.any fun (n, k) => n == y && (k == .local || k == .cell)) = false) : swapsWith (.DictComp kx vx gs scope pos) (some (.Name y py)) l env = pure true := by
  have e1 : env.blockKind = .function := by unfold Env.blockKind; rw [hk]; rfl
  have e2 : env.kindOf y = some .local := hy
  unfold swapsWith
  simp only [e1, e2, ha, Expr.pos, hl]; rfl
theorem ixT_at {X : Cx} {K : PySem.W.Frag} (h : X.K = K := by rfl) : IxR X (rIxT K) := by subst h; exact ix_tup
theorem ixL_at {X : Cx} {K : PySem.W.Frag} (h : X.K = K := by rfl) : IxR X (rIxL K) := by subst h; exact ix_list
theorem inS_at {X : Cx} {K : PySem.W.Frag} (h : X.K = K := by rfl) : OpR X (compareOp .In) (rIn K false) := by subst h; exact op_in_seq
theorem niS_at {X : Cx} {K : PySem.W.Frag} (h : X.K = K := by rfl) : OpR X (compareOp .NotIn) (rIn K true) := by subst h; exact op_notIn_seq
theorem fld_at {X : Cx} {K : PySem.W.Frag} {ta : TE} {e : Expr} {f : Str} {pos : Pos} (he : PE X (.Attribute e f pos) (tFld X.K ta f)) (h : X.K = K := by rfl) : PE X (.Attribute e f pos) (tFld K ta f) := by subst h; exact he
theorem piL_at {X : Cx} {K : PySem.W.Frag} {tg l : Expr} {tl : TE} (he : PE X l tl) (h : X.K = K := by rfl) : PI X tg l (iList K tl) := by subst h; exact pi_list he
theorem piT_at {X : Cx} {K : PySem.W.Frag} {tg l : Expr} {tl : TE} (he : PE X l tl) (h : X.K = K := by rfl) : PI X tg l (iTup K tl) := by subst h; exact pi_tup he
theorem set_ifV {t : TT} {A B : TE} {s : TS} {D : Ends} {z : St} {H : Hp} {i : Nat} {b : Bool} (ht : EvT t z H b) (R : V → Hp → Prop) (hA : b = true → ∀ H1, Same H H1 → ∀ Q : VK, (∀ v H2, R v H2 → Q v H2) → A z H1 Q) (hB : b = false → ∀ H1, Same H H1 → ∀ Q : VK, (∀ v H2, R v H2 → Q v H2) → B z H1 Q) (k : ∀ v H2, R v H2 → s D (z.set i (some v)) H2) : tSeq (tAsg (tIf t A B) (gName i)) s D z H := by
  refine ht _ fun H1 s1 => ?_
  cases b with
  | true => exact iteT (hA rfl H1 s1 _ k)
  | false => exact iteF (hB rfl H1 s1 _ k)
theorem cut1 (xs : List V) : cutV xs (some 1) none = xs.drop 1 := by
  have h : HT.sIx xs.length 0 (some 1) = min 1 xs.length := HT.sIx_nat _ _ 1
  have h2 : HT.sIx xs.length xs.length none = xs.length := rfl
  unfold cutV
  rw [h, h2]
  cases xs with
  | nil => rfl
  | cons x r =>
    have e : min 1 (x :: r).length = 1 := by simp
    rw [e]
    show r.take (r.length + 1 - 1) = r
    rw [Nat.add_sub_cancel]
    exact List.take_length
end
end L2


set_option Elab.async false
set_option linter.all false
set_option maxRecDepth 100000
set_option maxHeartbeats 4000000
namespace SupX
open PySem PySem.Spec PyProof.Rows L2 NdefX
/-- the arguments of super().__init__(..), the first statement of st's body -/
def supArgs (st : Stmt) : List Expr := match defBody st with
  | .Expr (.Call _ as _ _) _ :: _ => as
  | _ => []
def supE (st : Stmt) : Expr := match supArgs st with
  | e :: _ => e
  | [] => .Name "" ⟨0, 0, 0, 0⟩
def supEs (st : Stmt) : List Expr := (supArgs st).drop 1
def supR (st : Stmt) : List Stmt := (defBody st).drop 1
abbrev nfOf (q : Str) (st : Stmt) (cc c : Addr) : NF := ⟨"__init__", q, defArgs st, defBody st, defScope st, [("__class__", cc)], c⟩
/-- class x(y): the __init__ of x (statement st) calls that of y (statement s0) first -/
abbrev SupD (P : Program) (K : PySem.W.Frag) (x q q0 : Str) (st s0 : Stmt) (N ps : List Str) : Prop := ∃ f0 fd0 fI cc c, SupT P K (He.ga K x) fI f0 (nfOf q st cc c) N ps (supE st) (supEs st) (supR st) ∧ Mk K (He.ga K x) fI ∧ FunD K "__init__" q0 (defArgs s0) (defBody s0) (defScope s0) [] [] f0 fd0
end SupX


set_option Elab.async false
set_option linter.all false
set_option maxRecDepth 100000
set_option maxHeartbeats 4000000
/-! len(o), o[i] of an instance whose class has its own __len__, __getitem__ -/
namespace L2
open PySem PySem.Spec PyProof.Rows
section
variable {X : Cx} {CX : CXT} {k : Nat} {C : Addr} {ps : List Str} {sp : Sp} {E : XK} {m : Str}
/-- a method of C called by the machine, one step deeper -/
theorem run_in1 (F : MeX X.prog X.w X.K X.mg X.base CX k C m ps [] sp) (hr : Room (k + 1) X.A) (hx : Passes CX X E) {pins : List (Addr × Obj)} {z : St} {H : Hp} {s : Shared} {us : List Value} {vs : List V} {Q : VK} (I : Inv X pins z H s) (r : Vals vs us) (q : sp vs H Q E) :
    ∃ f, Meth X.K C m f ∧ wpAny (model X.prog X.w) X.A.in1 (call (.ref f) us) (EP X pins z Q) X.xe s := by
  obtain ⟨f, fd, dvs, c, mm, b, vd, G⟩ := F.ex
  cases vd
  refine ⟨f, mm, ?_⟩
  have hl := G.len _ _ _ _ q
  refine wpAny_call (codeAny_mono (G.run X.A.in1 X.stack s H ⟨us, []⟩ us vs Q E hr.in1 I.env0.in1 (by
    have := b s us I.kIn (by rw [List.append_nil, ← r.length]; exact hl)
    simpa using this) r q) fun r s' hq => ?_)
  cases r with
  | error e => exact hx pins z H s e s' I hq
  | ok fl =>
    cases fl with
    | ret w => exact I.after hq
    | next => exact False.elim hq
    | brk => exact False.elim hq
    | cont => exact False.elim hq
def rIxO (C : Addr) (sp : Sp) (E : XK) : R2 := fun x y H Q => ∃ a dx fs, x = .ref a ∧ H a = some (.ins C dx fs) ∧ sp [x, y] H Q E
theorem pe_ixO {a b : Expr} {ta tb : TE} {pos : Pos} (F : MeX X.prog X.w X.K X.mg X.base CX k C "__getitem__" ps [] sp) (hr : Room (k + 1) X.A) (hx : Passes CX X E) (hfn : ∀ f, PySem.W.findIn X.K (.ref C) "__getitem__" = some (some (.ref f)) → PySem.W.fnIn X.K f = true) (ha : PE X a ta) (hb : PE X b tb)
    (hs : ∀ x i, subscripted b true x i = runValue (.builtin "lifetime.subscript" ⟨[x, i], []⟩) := by (intro _ _; rfl)) : PE X (.Subscript a b pos) (tOp (rIxO C sp E) ta tb) := by
  refine ⟨fun pins s z H Q I h => ?_⟩
  refine Subscript_ (binT ha hb I h fun v u s2 x y H2 I2 rx ry q => ?_)
  obtain ⟨p, dx, fs, rfl, hp, q⟩ := q
  obtain rfl : v = Value.ref p := rx
  obtain ⟨mA, J, _⟩ := ins_get I2.hok hp
  obtain ⟨od, J, _⟩ := J.look
  obtain ⟨f, mm, go⟩ := run_in1 F hr hx I2 (us := [.ref p, u]) (vs := [.ref p, y]) (.cons rfl (.cons ry .nil)) q
  obtain ⟨mF, hF⟩ := I2.fr
  exact PySem.W.sub_K hF I2.ok.mod.kin J mm.at_ (hfn f mm.at_) mm.fn go (hs _ _)
def rLenO (C : Addr) (sp : Sp) (E : XK) : List V → Hp → VK → Prop := fun xs H Q => ∃ a dx fs, xs = [.ref a] ∧ H a = some (.ins C dx fs) ∧ sp [.ref a] H (fun v H' => ∃ n : Nat, v = .int (n : Nat) ∧ n ≤ 100000 ∧ Q (.int (n : Nat)) H') E
theorem call_lenO (F : MeX X.prog X.w X.K X.mg X.base CX k C "__len__" ps [] sp) (hr : Room (k + 1) X.A) (hx : Passes CX X E) : CallR X (.builtin "len") (rLenO C sp E) := by
  intro pins s z H xs us Q I r h
  obtain ⟨a, dx, fs, rfl, ha, q⟩ := h
  obtain ⟨u, rfl, ru⟩ := vals1 r
  obtain rfl : u = Value.ref a := ru
  obtain ⟨mA, J, _⟩ := ins_get I.hok ha
  obtain ⟨od, J, _⟩ := J.look
  obtain ⟨f, mm, go⟩ := run_in1 F hr hx I (us := [.ref a]) (vs := [.ref a]) (.cons rfl .nil) q
  obtain ⟨mF, hF⟩ := I.fr
  refine PySem.W.len_K hF I.ok.mod.kin J mm.at_ mm.fn (wpAny_mono go (fun v s' hv => ?_) fun _ _ x => x)
  obtain ⟨v2, H', I', rv, n, rfl, hn, q⟩ := hv
  obtain ⟨t, rfl⟩ := rv
  refine ⟨⟨by omega, by omega⟩, ?_⟩
  exact ⟨.int (n : Nat), H', I'.tok _, ⟨_, rfl⟩, q⟩
end
end L2


set_option Elab.async false
set_option linter.all false
set_option maxRecDepth 100000
set_option maxHeartbeats 4000000
/-! a class called in a try's body: what leaves it may hang on the slots -/
namespace L2
open PySem PySem.Spec PyProof.Rows
section
variable {X : Cx} {CX : CXT} {k : Nat} {C : Addr} {ps : List Str} {sp : Sp} {E : St → XK} {x : Str}
def tMakeS (C : Addr) (sp : Sp) (E : St → XK) (t : TA) : TE := fun σ H Q => t σ H fun vs H1 => ∀ x dx, H1 x = none → H1 dx = none → dx ≠ x → sp (V.ref x :: vs) (upd (upd H1 dx (.own x)) x (.ins C dx [])) (fun v H2 => v = .non ∧ Q (.ref x) H2) (E σ)
theorem pe_makeXS {p pos : Pos} {e : Expr} {es : List Expr} {t : TA} (F : MkX X.prog X.w X.K X.mg X.base CX k x C ps [] sp) (hr : Room (k + 1) X.A) (hx : ∀ z, PassesAt CX X z (E z)) (ha : PA X (e :: es) t) (hg : Gl X x := by rfl) (hdb : (x == ("__debug__" : Str)) = false := by decide)
    (he : starEach (e :: es) X.env = (false, eval e X.env) :: starEach es X.env := by rfl) (hpl : (backTo pos (starEach es X.env)).any (·.1) = false := by rfl) : PE X (.Call (.Name x p) (e :: es) [] pos) (tMakeS C sp E t) := by
  obtain ⟨f, fd, dvs, hm, M, b, vd, G⟩ := F.ex
  cases vd
  refine ⟨fun pins s z H Q I h => wpAny_Call_Name_kw (ld_glob I hg hm ?_ hdb)⟩
  refine PySem.W.callWith_K (h₀ := X.base) I.ok.mod.kin M.kp (thn (ha.run pos pins s z H _ I h) fun us s1 hh => ?_) he hpl
  obtain ⟨vs, H1, I1, r, q⟩ := hh
  refine ⟨I1.kIn, ?_⟩
  have q2 := q (s1.heap.objs.size + 1) s1.heap.objs.size (I1.hok.fresh (Nat.le_succ _)) (I1.hok.fresh (Nat.le_refl _)) (Nat.ne_of_lt (Nat.lt_succ_self _))
  have J := Inv.made (C := C) I1
  have r2 : Vals (V.ref (s1.heap.objs.size + 1) :: vs) (Value.ref (s1.heap.objs.size + 1) :: us) := .cons rfl r
  have hl : (Value.ref (s1.heap.objs.size + 1) :: us).length = ps.length := by
    have e1 := r2.length
    rw [G.len _ _ _ _ q2] at e1
    exact e1.symm
  have b2 := b _ (Value.ref (s1.heap.objs.size + 1) :: us) J.kIn (by rw [List.append_nil]; exact hl)
  rw [List.append_nil] at b2
  refine wpAny_call (make_map (f := f) I1.kIn M.makes M.init (beq_iff_eq.mp M.fn) (codeAny_mono (G.run _ X.stack _ _ ⟨Value.ref (s1.heap.objs.size + 1) :: us, []⟩ (Value.ref (s1.heap.objs.size + 1) :: us) _ _ (E z) (hr.make C us []) (J.env0.make C us []) b2 r2 q2) fun r9 s9 h9 => ?_))
  cases r9 with
  | error e9 => exact hx z pins _ _ e9 s9 J h9
  | ok fl =>
    cases fl with
    | ret u =>
      obtain ⟨v, H', I3, rv, ev, q3⟩ := J.after h9
      subst ev
      exact ⟨rv, V.ref (s1.heap.objs.size + 1), H', I3, rfl, q3⟩
    | next => exact False.elim h9
    | brk => exact False.elim h9
    | cont => exact False.elim h9
end
end L2


set_option Elab.async false
set_option linter.all false
set_option maxRecDepth 100000
set_option maxHeartbeats 4000000
/-! a Hook that tells defs, classes, errors with an __init__ by super(), code tables -/
namespace HeE
open PySem PySem.Spec PyProof.Rows L2 He PySem.ErrX
structure ErrD where
  x : Str
  fs : List Str
  qual : Str
  params : Arguments
  body : List Stmt
  scope : Scope
abbrev FnE : Type := Option (Str × Str × Arguments × FuncBody × Scope × Addr × Addr)
def iAd (K : PySem.W.Frag) (x : Str) : Addr := ma K (ga K x) "__init__"
def fnE (K : PySem.W.Frag) (x : Str) : FnE := match K.lookup (iAd K x) with
  | some ⟨_, _, .func fd, _⟩ => some (fd.name, fd.qualname, fd.params, fd.body, fd.scope, fd.globals, fd.builtins)
  | _ => none
def ErrD.val (d : ErrD) : FnE := some ("__init__", d.qual, d.params, .stmts d.body, d.scope, mainGlobals, builtinsNs)
def fileB (K : PySem.W.Frag) (cda : Addr) (file : Str) : Bool := match K.lookup cda with
  | some ⟨_, _, .fields vs, _⟩ => (match (vs[2]? : Option Value) with
    | some (.str f _) => (file == f)
    | _ => false)
  | _ => false
def cellB (K : PySem.W.Frag) (cc C : Addr) : Bool := match K.lookup cc with
  | some ⟨_, _, .cell (some (.ref C')), _⟩ => decide (C' = C)
  | _ => false
def initB (K : PySem.W.Frag) (C fI : Addr) (file q : Str) : Bool := match K.lookup fI with
  | some ⟨_, _, .func fd, _⟩ => (match fd.code, fd.closure, fd.defaults with
    | .ref cda, [(cn, cc)], .none => decide (cn = "__class__") && (PySem.W.codeIn K (.ref cda) q && (fileB K cda file && cellB K cc C))
    | _, _, _ => false)
  | _ => false
def clsB (K : PySem.W.Frag) (C : Addr) : Bool := match K.lookup C with
  | some ⟨.type t, _, .cls cd, sl⟩ => decide (t = "type") && (match cd.mro, sl.toList with
    | .ref C' :: bm, [_, _, _, _, some (.builtin n), _] => decide (C' = C) && (decide (n = "ValueError.__new__") && (!cd.hasDel && (cd.hasDict && PySem.HandSPX.refsVE bm)))
    | _, _ => false)
  | _ => false
def okO (a b : Option Bool) : Bool := decide (a = b)
def okV (a b : Option Value) : Bool := decide (a = b)
def errL (K : PySem.W.Frag) (file : Str) (d : ErrD) : List Bool := [
  clsB K (ga K d.x),
  eqO (PySem.W.findIn K (.ref (ga K d.x)) "__setattr__") (some (some (.builtin "object.__setattr__"))),
  eqO (PySem.W.findIn K (.ref (ga K d.x)) "__getattribute__") (some (some (.builtin "BaseException.__getattribute__"))),
  eqO (PySem.W.findIn K (.ref (ga K d.x)) "__getattr__") (some none),
  d.fs.all (fun f => eqO (PySem.W.findIn K (.ref (ga K d.x)) f) (some none)),
  PySem.W.keepIn K (.ref (ga K d.x)),
  okO (PySem.W.subIn K (.ref (ga K d.x)) (.type "BaseException")) (some true),
  okO (PySem.W.subIn K (.ref (ga K d.x)) (.type "ValueError")) (some true),
  okV (PySem.W.typeIn K (.ref (ga K d.x))) (some (.type "type")),
  PySem.W.hasDictIn K (ga K d.x),
  okO (PySem.W.mroIn K (ga K d.x) (.ref (ga K d.x))) (some true),
  eqO (PySem.W.ks_superIn K (ga K d.x) (ga K d.x) "__init__") (some (some (.builtin "ValueError.__init__"))),
  eqO (PySem.W.nsIn K cStatics "thirdparty.any") (some none),
  eqO (PySem.W.nsIn K mainGlobals "super") (some none),
  eqO (PySem.W.findIn K (.ref (ga K d.x)) "__init__") (some (some (.ref (iAd K d.x)))),
  okV (PySem.W.typeIn K (.ref (iAd K d.x))) (some (.type "function")),
  initB K (ga K d.x) (iAd K d.x) file d.qual,
  (PySem.W.clsIn K (ga K d.x)).isSome,
  eqO (PySem.W.findIn K (.ref (ga K d.x)) "__class__") (some (some (.builtin "object.__class__"))),
  eqO (PySem.W.specialIn K (.builtin "object.__class__") "__get__") (some (some (.builtin "getset_descriptor.__get__"))),
  okO (PySem.W.takesIn K (.builtin "object.__class__")) (some true),
  okO (PySem.W.mroIn K (ga K d.x) (.type "object")) (some true),
  eqO (PySem.W.nsIn K mainGlobals d.x) (some (some (.ref (ga K d.x))))]
def errB (K : PySem.W.Frag) (file : Str) (d : ErrD) : Bool := (errL K file d).all id
theorem all_at {l : List Bool} (h : l.all id = true) (i : Nat) {b : Bool} (e : l[i]? = some b := by rfl) : b = true := List.all_eq_true.mp h b (List.mem_of_getElem? e)
/-- what the text says of an error -/
structure ErrS (prog : Program) (d : ErrD) : Prop where
  topN : (prog.main.scope.names.lookup ("super" : Str)).isSome = false
  kinds : (d.fs.all fun f => (iScope d.fs).names.lookup f == some .local && !(f == ("self" : Str))) = true
  dbg : ∀ f ∈ d.fs, (f == ("__debug__" : Str)) = false
  outs : ("__class__" : Str) ∉ d.fs ∧ ("super" : Str) ∉ d.fs
  nd : d.fs.Nodup
  len : d.fs.length ≤ 900
  scope : d.scope = iScope d.fs
  head : ∃ ar, (d.params.posonlyargs ++ d.params.args).head? = some ar ∧ ar.arg = "self"
  body : ∃ msg j p0 p1 p2 p3 p4 p5 ps, d.body = supSt msg j p0 p1 p2 p3 p4 p5 :: (ps : List FldP).map setSt ∧ ps.map (·.f) = d.fs ∧ ∀ env, ∃ pl, supEv env pl msg j p0 p1 p2 p3 p4
  bind : ∀ (kV doc pm : Value) (an : Option Addr) (cda : Addr) (ct : Value) (cc : Addr) (self : Value) (us : List Value), us.length = d.fs.length → bindArgs (PySem.W.ksFn "__init__" d.qual d.params d.body (iScope d.fs) .none kV doc pm an (.ref cda) ct cc) ⟨self :: us, []⟩ = pure ((("self" : Str), self) :: d.fs.zip us)
theorem clsB_ok {K : PySem.W.Frag} {C : Addr} (h : clsB K C = true) : ∃ nm q N bs bm sn sub ab col dd k0 k1 k2 k3 k5, K.lookup C = some (excClassObj nm q C N bs bm true sn sub ab col dd k0 k1 k2 k3 k5 "ValueError.__new__") ∧ PySem.HandSPX.refsVE bm = true := by
  unfold clsB at h
  split at h
  · rename_i t dd cd sl q
    obtain ⟨h1, h2⟩ := ba h
    split at h2
    · rename_i C' bm k0 k1 k2 k3 n k5 e1 e2
      obtain ⟨a1, a⟩ := ba h2
      obtain ⟨a2, a⟩ := ba a
      obtain ⟨a3, a⟩ := ba a
      obtain ⟨a4, a5⟩ := ba a
      obtain ⟨sl⟩ := sl
      obtain ⟨n1, n2, n3, n4, n5, n6, n7, n8, n9, n10, n11⟩ := cd
      simp only at e1 e2 a3 a4
      have a1 := of_decide_eq_true a1
      have a2 := of_decide_eq_true a2
      have h1 := of_decide_eq_true h1
      have a3 : n11 = false := by simpa using a3
      subst a1 a2 h1 a3 a4 e1 e2
      exact ⟨n1, n5, n4, n2, bm, n7, n8, n9, n10, dd, k0, k1, k2, k3, k5, q, a5⟩
    · cases h2
  · cases h
theorem errTxt {prog : Program} {K : PySem.W.Frag} {d : ErrD} (h : errB K prog.main.file d = true) (e : fnE K d.x = d.val) (S : ErrS prog d) : ErrTxt prog K d.fs (ga K d.x) where
  cls := clsB_ok (all_at h 0)
  sa := eqO_ok (all_at h 1)
  ga := eqO_ok (all_at h 2)
  gg := eqO_ok (all_at h 3)
  noN := fun f hf => eqO_ok (List.all_eq_true.mp (all_at h 4) f hf)
  kC := all_at h 5
  exC := of_decide_eq_true (all_at h 6)
  veC := of_decide_eq_true (all_at h 7)
  tyC := of_decide_eq_true (all_at h 8)
  hdC := all_at h 9
  own := of_decide_eq_true (all_at h 10)
  sup := eqO_ok (all_at h 11)
  opq := eqO_ok (all_at h 12)
  gsup := eqO_ok (all_at h 13)
  topN := S.topN
  kinds := S.kinds
  dbg := S.dbg
  outs := S.outs
  nd := S.nd
  len := S.len
  init := by
    have h14 := eqO_ok (all_at h 14)
    have h15 : PySem.W.typeIn K (.ref (iAd K d.x)) = some (.type "function") := of_decide_eq_true (all_at h 15)
    have h16 : initB K (He.ga K d.x) (iAd K d.x) prog.main.file d.qual = true := all_at h 16
    unfold initB at h16
    unfold fnE ErrD.val at e
    cases q : K.lookup (iAd K d.x) with
    | none => rw [q] at h16; cases h16
    | some o =>
      obtain ⟨oc, od, dt, osl⟩ := o
      rw [q] at h16 e
      cases dt with
      | func fd =>
        obtain ⟨n1, n2, n3, n4, n5, n6, n7, n8, n9, n10, n11, n12, n13, n14, n15⟩ := fd
        have e2 : (some (n1, n2, n3, n4, n5, n6, n15) : FnE) = (some (Str.ofString "__init__", d.qual, d.params, .stmts d.body, d.scope, mainGlobals, builtinsNs) : FnE) := e
        simp only [Option.some.injEq, Prod.mk.injEq] at e2
        obtain ⟨h1, h2, h3, h4, h5, h6, h8⟩ := e2
        subst h1 h2 h3 h4 h5 h6 h8
        cases n13 with
        | ref cda =>
          cases n7 with
          | nil => cases h16
          | cons c7 r7 =>
            obtain ⟨cn, cc⟩ := c7
            cases r7 with
            | cons _ _ => cases h16
            | nil =>
              cases n8 with
              | none =>
                have h17 : (decide (cn = "__class__") && (PySem.W.codeIn K (.ref cda) d.qual && (fileB K cda prog.main.file && cellB K cc (He.ga K d.x)))) = true := h16
                obtain ⟨a1, a⟩ := ba h17
                obtain ⟨a2, a⟩ := ba a
                obtain ⟨a3, a4⟩ := ba a
                have a1 := of_decide_eq_true a1
                subst a1
                unfold fileB at a3
                unfold cellB at a4
                split at a3
                · rename_i ccl cdd vs ccs q1
                  split at a3
                  · rename_i f tf q2
                    split at a4
                    · rename_i cl cld C' csl q3
                      have a4 := of_decide_eq_true a4
                      subst a4
                      rw [S.scope] at q
                      exact ⟨iAd K d.x, cc, cda, oc, od, d.qual, d.params, d.body, n9, n10, n11, n12, n14, osl, ccl, cdd, vs, ccs, f, tf, cl, cld, csl, h14, h15, q, a2, q1, q2, a3, q3, S.head, S.body, S.bind n9 n10 n11 n12 cda n14 cc⟩
                    · cases a4
                  · cases a3
                · cases a3
              | _ => cases h16
        | _ => cases h16
      | _ => cases h16
theorem errK {prog : Program} {K : PySem.W.Frag} {d : ErrD} {file : Str} (h : errB K file d = true) : ErrK K (ga K d.x) where
  hcl := all_at h 17
  hga := eqO_ok (all_at h 2)
  hgt := eqO_ok (all_at h 3)
  hsub := of_decide_eq_true (all_at h 6)
  ha := eqO_ok (all_at h 18)
  hn := eqO_ok (all_at h 19)
  htk := of_decide_eq_true (all_at h 20)
  hm := of_decide_eq_true (all_at h 21)
theorem errG {K : PySem.W.Frag} {d : ErrD} {file : Str} {hp : Heap} {mg : Str → Option Value} (X : K.In hp) (G : hp.Ns mainGlobals mg) (h : errB K file d = true) : mg d.x = some (.ref (ga K d.x)) := PySem.W.mg_of X G (eqO_ok (all_at h 22))
/-! ### the Hook -/
abbrev AlE : Type := Bool × List FnW × List FnE
def obsE (file : Str) (fa : List Fa) (fn : List DefD) (er : List ErrD) (tf : List Defn) (ex : PySem.W.Frag → Bool) (g : Addr → Option Obj) (K : PySem.W.Frag) : AlE :=
  ((fa.all fun f => f.ok K) && ((fn.all fun d => d.ok K) && ((er.all fun d => errB K file d) && (ex K && tabsB g tf K))), fn.map (fun d => fnW K d.at_), er.map (fun d => fnE K d.x))
def valE (fn : List DefD) (er : List ErrD) : AlE := (true, fn.map DefD.val, er.map ErrD.val)
structure SaysE (file : Str) (fa : List Fa) (fn : List DefD) (er : List ErrD) (tf : List Defn) (ex : PySem.W.Frag → Bool) (h : Heap) (K : PySem.W.Frag) : Prop where
  fa : ∀ f ∈ fa, f.ok K = true
  fn : ∀ d ∈ fn, ∃ fd, FunD K d.name d.qual d.params d.body d.scope (d.dvs K) (d.kws K) (fAd K d.at_) fd
  er : ∀ d ∈ er, errB K file d = true ∧ fnE K d.x = d.val
  more : ex K = true
  hd : ∀ p ∈ tf, PySem.W.codeHdIn K (cT K p).1 (cT K p).2 = true
  out : ∀ p ∈ tf, K.lookup (cT K p).2 = none
  empty : ∀ p ∈ tf, h.get? (cT K p).2 = some { cls := .none, data := .fields #[] }
def frE (g : Addr → Option Obj) (n : Nat) : PySem.W.Frag := frT g (cStatics :: asD g n)
theorem map_at {α β : Type} {f g : α → β} : ∀ {l : List α}, l.map f = l.map g → ∀ d ∈ l, f d = g d
  | [], _, d, hd => by cases hd
  | a :: r, h, d, hd => by
    have h2 : f a :: r.map f = g a :: r.map g := h
    injection h2 with h3 h4
    rcases List.mem_cons.mp hd with e | e
    · subst e; exact h3
    · exact map_at h4 d e
theorem saysE_of {file : Str} {n : Nat} {fa : List Fa} {fn : List DefD} {er : List ErrD} {tf : List Defn} {ex : PySem.W.Frag → Bool} {h : Heap} (e : obsE file fa fn er tf ex h.get? (frE h.get? n) = valE fn er) : SaysE file fa fn er tf ex h (frE h.get? n) := by
  have e1 : ((fa.all fun f => f.ok (frE h.get? n)) && ((fn.all fun d => d.ok (frE h.get? n)) && ((er.all fun d => errB (frE h.get? n) file d) && (ex (frE h.get? n) && tabsB h.get? tf (frE h.get? n))))) = true := congrArg (fun z : AlE => z.1) e
  have e2 : fn.map (fun d => fnW (frE h.get? n) d.at_) = fn.map DefD.val := congrArg (fun z : AlE => z.2.1) e
  have e3 : er.map (fun d => fnE (frE h.get? n) d.x) = er.map ErrD.val := congrArg (fun z : AlE => z.2.2) e
  obtain ⟨a1, a⟩ := ba e1
  obtain ⟨a2, a⟩ := ba a
  obtain ⟨a3, a⟩ := ba a
  obtain ⟨a4, a5⟩ := ba a
  have key : ∀ p ∈ tf, PySem.W.codeHdIn (frE h.get? n) (cT (frE h.get? n) p).1 (cT (frE h.get? n) p).2 = true ∧ ∃ o, h.get? (cT (frE h.get? n) p).2 = some o ∧ emptyTab o = true := fun p hp => by
    obtain ⟨h3, h4⟩ := ba (List.all_eq_true.mp a5 p hp)
    refine ⟨h3, ?_⟩
    cases q : h.get? (cT (frE h.get? n) p).2 with
    | none => rw [q] at h4; cases h4
    | some o => rw [q] at h4; exact ⟨o, rfl, h4⟩
  exact ⟨fun f hf => List.all_eq_true.mp a1 f hf, fun d hd => DefD.funD (map_at e2 d hd) (List.all_eq_true.mp a2 d hd), fun d hd => ⟨List.all_eq_true.mp a3 d hd, map_at e3 d hd⟩, a4, fun p hp => (key p hp).1, fun p hp => by
    obtain ⟨_, o, q, z⟩ := key p hp
    exact frT_none q z, fun p hp => by
    obtain ⟨_, o, q, z⟩ := key p hp
    rw [q, emptyTab_eq z]⟩
def hookE (file : Str) (n : Nat) (fa : List Fa) (fn : List DefD) (er : List ErrD) (tf : List Defn) (ex : PySem.W.Frag → Bool) : PySem.W.Hook where
  α := AlE
  obs := fun s => obsE file fa fn er tf ex s.heap.get? (frE s.heap.get? n)
  val := fun _ => valE fn er
  says := fun _ h => ∃ K : PySem.W.Frag, K.In h ∧ SaysE file fa fn er tf ex h K
  of := fun _ _ e => ⟨_, frT_in, saysE_of e⟩
  keeps := fun _ _ _ ⟨K, hK, c⟩ k => ⟨K, PySem.W.Frag.In.keeps hK k, ⟨c.fa, c.fn, c.er, c.more, c.hd, c.out, fun p hp => k _ _ (c.empty p hp)⟩⟩
theorem obsE_eq {file : Str} {n : Nat} {fa : List Fa} {fn : List DefD} {er : List ErrD} {tf : List Defn} {ex : PySem.W.Frag → Bool} {g : Addr → Option Obj} {s : Shared} (h : ∀ a, g a = s.heap.get? a) : obsE file fa fn er tf ex g (frE g n) = (hookE file n fa fn er tf ex).obs s := by
  have e : g = s.heap.get? := funext h
  rw [e] <;> rfl
end HeE


set_option Elab.async false
set_option linter.all false
set_option maxRecDepth 100000
set_option maxHeartbeats 4000000
/-! the Hook of HookE, with classes whose __init__ calls that above by super(), and with tables of texts -/
namespace HeE
open PySem PySem.Spec PyProof.Rows L2 He PySem.ErrX
abbrev AlF : Type := AlE × List FnE × List (Option (List (Option (Str × Int))))
def obsF (file : Str) (fa : List Fa) (fn : List DefD) (er su : List ErrD) (ts : List (Str × List Str)) (ex : PySem.W.Frag → Bool) (g : Addr → Option Obj) (K : PySem.W.Frag) : AlF := (obsE file fa fn er [] ex g K, su.map (fun d => fnE K d.x), ts.map fun t => dicW K (ga K t.1))
def valF (fn : List DefD) (er su : List ErrD) (ts : List (Str × List Str)) (w : World) : AlF := (valE fn er, su.map ErrD.val, ts.map fun t => some (keysIn w.params t.2))
structure SaysF (file : Str) (fa : List Fa) (fn : List DefD) (er su : List ErrD) (ts : List (Str × List Str)) (ex : PySem.W.Frag → Bool) (w : World) (h : Heap) (K : PySem.W.Frag) : Prop extends SaysE file fa fn er [] ex h K where
  su : ∀ d ∈ su, fnE K d.x = d.val
  ts : ∀ t ∈ ts, ∃ es n, KDict K w (ga K t.1) es n
theorem saysF_of {file : Str} {n : Nat} {fa : List Fa} {fn : List DefD} {er su : List ErrD} {ts : List (Str × List Str)} {ex : PySem.W.Frag → Bool} {w : World} {h : Heap} (e : obsF file fa fn er su ts ex h.get? (frE h.get? n) = valF fn er su ts w) : SaysF file fa fn er su ts ex w h (frE h.get? n) := by
  have e1 : obsE file fa fn er [] ex h.get? (frE h.get? n) = valE fn er := congrArg (fun z : AlF => z.1) e
  have e2 : su.map (fun d => fnE (frE h.get? n) d.x) = su.map ErrD.val := congrArg (fun z : AlF => z.2.1) e
  have e3 : ts.map (fun t => dicW (frE h.get? n) (ga (frE h.get? n) t.1)) = ts.map fun t => some (keysIn w.params t.2) := congrArg (fun z : AlF => z.2.2) e
  exact ⟨saysE_of e1, fun d hd => map_at e2 d hd, fun t ht => dicW_ok (map_at e3 t ht)⟩
def hookF (file : Str) (n : Nat) (fa : List Fa) (fn : List DefD) (er su : List ErrD) (ts : List (Str × List Str)) (ex : PySem.W.Frag → Bool) : PySem.W.Hook where
  α := AlF
  obs := fun s => obsF file fa fn er su ts ex s.heap.get? (frE s.heap.get? n)
  val := fun w => valF fn er su ts w
  says := fun w h => ∃ K : PySem.W.Frag, K.In h ∧ SaysF file fa fn er su ts ex w h K
  of := fun _ _ e => ⟨_, frT_in, saysF_of e⟩
  keeps := fun _ _ _ ⟨K, hK, c⟩ k => ⟨K, PySem.W.Frag.In.keeps hK k, ⟨⟨c.fa, c.fn, c.er, c.more, c.hd, c.out, fun p hp => nomatch hp⟩, c.su, c.ts⟩⟩
theorem obsF_eq {file : Str} {n : Nat} {fa : List Fa} {fn : List DefD} {er su : List ErrD} {ts : List (Str × List Str)} {ex : PySem.W.Frag → Bool} {g : Addr → Option Obj} {s : Shared} (h : ∀ a, g a = s.heap.get? a) : obsF file fa fn er su ts ex g (frE g n) = (hookF file n fa fn er su ts ex).obs s := by
  have e : g = s.heap.get? := funext h
  rw [e] <;> rfl
/-! ### tables -/
def strTB (K : PySem.W.Frag) (a : Addr) (zs : List Str) : Bool := match K.lookup a with
  | some ⟨.type c, _, .seq its _, _⟩ => decide (c = "tuple") && (decide (its.size ≤ sizeLine) && relAll (zs.map V.str) its.toList)
  | _ => false
theorem strTB_ok {K : PySem.W.Frag} {a : Addr} {zs : List Str} (h : strTB K a zs = true) (H : Hp) : SqT K H a (zs.map V.str) := by
  unfold strTB at h
  cases q : K.lookup a with
  | none => rw [q] at h; cases h
  | some o =>
    obtain ⟨oc, od, dt, osl⟩ := o
    rw [q] at h
    cases oc with
    | type c =>
      cases dt with
      | seq its n =>
        obtain ⟨h1, h2⟩ := ba (show (decide (c = "tuple") && (decide (its.size ≤ sizeLine) && relAll (zs.map V.str) its.toList)) = true from h)
        obtain ⟨h3, h4⟩ := ba h2
        exact .inr ⟨_, its, n, q, congrArg Value.type (of_decide_eq_true h1), rfl, of_decide_eq_true h3, relAll_ok h4⟩
      | _ => cases h
    | _ => cases dt <;> cases h
def tvAd (K : PySem.W.Frag) (x k : Str) : Addr := match PySem.W.nsIn K (ga K x) k with
  | some (some (.ref a)) => a
  | _ => 0
/-- x[k] is the tuple of texts zs -/
def tvB (K : PySem.W.Frag) (x k : Str) (zs : List Str) : Bool := eqO (PySem.W.nsIn K (ga K x) k) (some (some (.ref (tvAd K x k)))) && strTB K (tvAd K x k) zs
theorem tvB_ok {K : PySem.W.Frag} {w : World} {x k : Str} {zs : List Str} (D : ∃ es n, KDict K w (ga K x) es n) (h : tvB K x k zs = true) : ∃ a, KDct K w (ga K x) k (.ref a) ∧ ∀ H, SqT K H a (zs.map V.str) := by
  obtain ⟨h1, h2⟩ := ba h
  obtain ⟨es, n, d⟩ := D
  exact ⟨_, ⟨es, n, _, d.at_, d.lit, eqO_ok h1, rfl⟩, strTB_ok h2⟩
/-! ### super().__init__ of an own class -/
def sinB (K : PySem.W.Frag) (C fI : Addr) (file q : Str) : Bool := match K.lookup fI with
  | some ⟨_, _, .func fd, _⟩ => (match fd.code, fd.closure, fd.defaults, fd.kwdefaults with
    | .ref cda, [(cn, cc)], .none, .none => decide (cn = "__class__") && (fd.annotations.isNone && (PySem.W.codeIn K (.ref cda) q && (fileB K cda file && cellB K cc C)))
    | _, _, _, _ => false)
  | _ => false
def supL (K : PySem.W.Frag) (file x y q : Str) : List Bool := [
  sinB K (ga K x) (iAd K x) file q,
  (PySem.W.clsIn K (ga K x)).isSome,
  okO (PySem.W.mroIn K (ga K x) (.ref (ga K x))) (some true),
  eqO (PySem.W.ks_superIn K (ga K x) (ga K x) "__init__") (some (some (.ref (iAd K y)))),
  okV (PySem.W.typeIn K (.ref (iAd K y))) (some (.type "function")),
  PySem.W.fnIn K (iAd K y),
  eqO (PySem.W.nsIn K cStatics "thirdparty.any") (some none),
  eqO (PySem.W.nsIn K mainGlobals "super") (some none)]
def supB (K : PySem.W.Frag) (file x y q : Str) : Bool := (supL K file x y q).all id
/-- what the text says of such an __init__ -/
structure SupS (prog : Program) (q : Str) (st : Stmt) (N ps : List Str) : Prop where
  topN : (prog.main.scope.names.lookup ("super" : Str)).isSome = false
  sc : NdefX.NScope N ps ["__class__"] (defScope st)
  ksup : (defScope st).names.lookup ("super" : Str) = some .globalImplicit
  self : ps[0]? = some ("self" : Str) ∧ ∃ ar, ((defArgs st).posonlyargs ++ (defArgs st).args).head? = some ar ∧ ar.arg = "self"
  body : ∃ p0 p1 p2 p4 p5, defBody st = SupX.supCall (SupX.supE st :: SupX.supEs st) p0 p1 p2 p4 p5 :: SupX.supR st ∧ ∀ env, (∃ pl, eval (.Call (.Attribute (.Call (.Name "super" p0) [] [] p1) "__init__" p2) (SupX.supE st :: SupX.supEs st) [] p4) env = (do
      let ov ← attributeBase (.Call (.Name "super" p0) [] [] p1) "__init__" env (eval (.Call (.Name "super" p0) [] [] p1) env)
      standAt p2.atName
      let (f, first) ← holding [ov] (getMethod ov "__init__" pl)
      callWith p4 f first (backTo p4 (starEach (SupX.supE st :: SupX.supEs st) env)) [])) ∧ starEach (SupX.supE st :: SupX.supEs st) env = (false, eval (SupX.supE st) env) :: starEach (SupX.supEs st) env ∧ (backTo p4 (starEach (SupX.supEs st) env)).any (·.1) = false
  bind : ∀ (cc c : Addr) (doc pm ctv : Value) (us : List Value), us.length = ps.length → bindArgs ((SupX.nfOf q st cc c).fd doc pm ctv) ⟨us, []⟩ = pure (ps.zip us)
theorem supD_of {prog : Program} {K : PySem.W.Frag} {x y q q0 : Str} {st s0 : Stmt} {N ps : List Str} {fd0 : FuncData} (h : supB K prog.main.file x y q = true) (e : fnE K x = (some ((("__init__" : String) : Str), q, defArgs st, FuncBody.stmts (defBody st), defScope st, mainGlobals, builtinsNs) : FnE)) (S : SupS prog q st N ps) (M : Mk K (ga K x) (iAd K x))
    (F0 : FunD K "__init__" q0 (defArgs s0) (defBody s0) (defScope s0) [] [] (iAd K y) fd0) : SupX.SupD prog K x q q0 st s0 N ps := by
  have h0 : sinB K (ga K x) (iAd K x) prog.main.file q = true := all_at h 0
  unfold sinB at h0
  unfold fnE at e
  cases z : K.lookup (iAd K x) with
  | none => rw [z] at h0; cases h0
  | some o =>
    obtain ⟨oc, od, dt, osl⟩ := o
    rw [z] at h0 e
    cases dt with
    | func fd =>
      obtain ⟨n1, n2, n3, n4, n5, n6, n7, n8, n9, n10, n11, n12, n13, n14, n15⟩ := fd
      have e2 : (some (n1, n2, n3, n4, n5, n6, n15) : FnE) = (some (Str.ofString "__init__", q, defArgs st, .stmts (defBody st), defScope st, mainGlobals, builtinsNs) : FnE) := e
      simp only [Option.some.injEq, Prod.mk.injEq] at e2
      obtain ⟨h1, h2, h3, h4, h5, h6, h8⟩ := e2
      subst h1 h2 h3 h4 h5 h6 h8
      cases n13 with
      | ref cda =>
        cases n7 with
        | nil => cases h0
        | cons c7 r7 =>
          obtain ⟨cn, cc⟩ := c7
          cases r7 with
          | cons _ _ => cases h0
          | nil =>
            cases n8 with
            | none =>
              cases n9 with
              | none =>
                have h17 : (decide (cn = "__class__") && (n12.isNone && (PySem.W.codeIn K (.ref cda) n2 && (fileB K cda prog.main.file && cellB K cc (ga K x))))) = true := h0
                obtain ⟨a1, a⟩ := ba h17
                obtain ⟨a5, a⟩ := ba a
                obtain ⟨a2, a⟩ := ba a
                obtain ⟨a3, a4⟩ := ba a
                have a1 := of_decide_eq_true a1
                subst a1
                cases n12 with
                | some _ => cases a5
                | none =>
                  unfold fileB at a3
                  unfold cellB at a4
                  split at a3
                  · rename_i ccl cdd vs ccs q1
                    split at a3
                    · rename_i f tf q2
                      split at a4
                      · rename_i cl cld C' csl q3
                        have a4 := of_decide_eq_true a4
                        subst a4
                        refine ⟨iAd K y, fd0, iAd K x, cc, cda, ?_, M, F0⟩
                        exact {
                          fn := ⟨oc, od, osl, n10, n11, n14, z⟩
                          cd := a2
                          file := ⟨ccl, cdd, vs, ccs, f, tf, q1, q2, a3⟩
                          cell := ⟨cc, cl, cld, csl, rfl, q3⟩
                          cls := Option.isSome_iff_exists.mp (all_at h 1)
                          own := of_decide_eq_true (all_at h 2)
                          sup := eqO_ok (all_at h 3)
                          fun0 := of_decide_eq_true (all_at h 4)
                          fn0 := all_at h 5
                          opq := eqO_ok (all_at h 6)
                          gsup := eqO_ok (all_at h 7)
                          topN := S.topN
                          sc := S.sc
                          ksup := S.ksup
                          self := S.self
                          body := S.body
                          bind := S.bind cc cda }
                      · cases a4
                    · cases a3
                  · cases a3
              | _ => cases h0
            | _ => cases h0
      | _ => cases h0
    | _ => cases h0
end HeE


set_option Elab.async false
set_option linter.all false
set_option maxRecDepth 100000
set_option maxHeartbeats 4000000
namespace K59
open PySem PySem.Spec PyProof.Rows L2
def top (i : Nat) : Stmt := PySem.Challenge.pw_heldplaces_k59_deeds_made_and_refused.main.body.getD i (.Pass ⟨0, 0, 0, 0⟩)
abbrev s_BadKind_init : Stmt := inClass (top 2) 0
abbrev s_BadLine_init : Stmt := inClass (top 3) 0
abbrev s_Refused_init : Stmt := inClass (top 4) 0
abbrev s_TooMany_init : Stmt := inClass (top 5) 0
abbrev s_CodeText_init : Stmt := inClass (top 7) 0
theorem sc_CodeText_init : FnScope ["self", "part", "kind", "kinds", "text", "most_lines"] ["self", "part", "kind", "kinds", "text", "most_lines"] (defScope s_CodeText_init) := ⟨rfl, rfl, rfl, by decide +kernel, rfl, by decide +kernel, by decide +kernel⟩
abbrev s_CodeText_same : Stmt := inClass (top 7) 1
theorem sc_CodeText_same : FnScope ["self"] ["self"] (defScope s_CodeText_same) := ⟨rfl, rfl, rfl, by decide +kernel, rfl, by decide +kernel, by decide +kernel⟩
abbrev s_CodeText_len : Stmt := inClass (top 7) 2
theorem sc_CodeText_len : FnScope ["self"] ["self"] (defScope s_CodeText_len) := ⟨rfl, rfl, rfl, by decide +kernel, rfl, by decide +kernel, by decide +kernel⟩
abbrev s_CodeText_iter : Stmt := inClass (top 7) 3
theorem sc_CodeText_iter : FnScope ["self"] ["self"] (defScope s_CodeText_iter) := ⟨rfl, rfl, rfl, by decide +kernel, rfl, by decide +kernel, by decide +kernel⟩
abbrev s_CodeText_getitem : Stmt := inClass (top 7) 4
theorem sc_CodeText_getitem : FnScope ["self", "k"] ["self", "k"] (defScope s_CodeText_getitem) := ⟨rfl, rfl, rfl, by decide +kernel, rfl, by decide +kernel, by decide +kernel⟩
abbrev s_CodeText_eq : Stmt := inClass (top 7) 5
theorem sc_CodeText_eq : FnScope ["self", "other"] ["self", "other"] (defScope s_CodeText_eq) := ⟨rfl, rfl, rfl, by decide +kernel, rfl, by decide +kernel, by decide +kernel⟩
abbrev s_step_of : Stmt := top 16
theorem sc_step_of : FnScope ["words"] ["words"] (defScope s_step_of) := ⟨rfl, rfl, rfl, by decide +kernel, rfl, by decide +kernel, by decide +kernel⟩
abbrev s_plain_row : Stmt := top 17
theorem sc_plain_row : FnScope ["words", "line", "names"] ["words", "line"] (defScope s_plain_row) := ⟨rfl, rfl, rfl, by decide +kernel, rfl, by decide +kernel, by decide +kernel⟩
abbrev s_DeedReader_init : Stmt := inClass (top 18) 0
theorem sc_DeedReader_init : FnScope ["self", "text"] ["self", "text"] (defScope s_DeedReader_init) := ⟨rfl, rfl, rfl, by decide +kernel, rfl, by decide +kernel, by decide +kernel⟩
abbrev s_DeedReader_words : Stmt := inClass (top 18) 1
theorem sc_DeedReader_words : FnScope ["self"] ["self"] (defScope s_DeedReader_words) := ⟨rfl, rfl, rfl, by decide +kernel, rfl, by decide +kernel, by decide +kernel⟩
abbrev s_DeedReader_read_rows : Stmt := inClass (top 18) 2
theorem sc_DeedReader_read_rows : FnScope ["self", "inner", "found", "words"] ["self", "inner"] (defScope s_DeedReader_read_rows) := ⟨rfl, rfl, rfl, by decide +kernel, rfl, by decide +kernel, by decide +kernel⟩
abbrev s_DeedReader_read_row : Stmt := inClass (top 18) 3
theorem sc_DeedReader_read_row : FnScope ["self", "words", "line", "step", "row"] ["self", "words", "line"] (defScope s_DeedReader_read_row) := ⟨rfl, rfl, rfl, by decide +kernel, rfl, by decide +kernel, by decide +kernel⟩
abbrev s_DeedReader_blocks : Stmt := inClass (top 18) 4
theorem sc_DeedReader_blocks : FnScope ["self", "word", "found", "outcome", "line", "told", "at", "rows"] ["self", "word"] (defScope s_DeedReader_blocks) := ⟨rfl, rfl, rfl, by decide +kernel, rfl, by decide +kernel, by decide +kernel⟩
abbrev s_DeedReader_begins_block : Stmt := inClass (top 18) 5
theorem sc_DeedReader_begins_block : FnScope ["self", "words"] ["self"] (defScope s_DeedReader_begins_block) := ⟨rfl, rfl, rfl, by decide +kernel, rfl, by decide +kernel, by decide +kernel⟩
abbrev s_count_steps : Stmt := top 19
theorem sc_count_steps : FnScope ["rows", "found", "row", "block"] ["rows"] (defScope s_count_steps) := ⟨rfl, rfl, rfl, by decide +kernel, rfl, by decide +kernel, by decide +kernel⟩
abbrev s_deed_ways : Stmt := top 20
theorem sc_deed_ways : FnScope ["rows", "found", "row", "met", "goes_on", "way"] ["rows"] (defScope s_deed_ways) := ⟨rfl, rfl, rfl, by decide +kernel, rfl, by decide +kernel, by decide +kernel⟩
abbrev s_ways_behind : Stmt := top 21
theorem sc_ways_behind : FnScope ["met", "goes_on", "row", "told", "block", "found", "outcome", "more", "still"] ["met", "goes_on", "row"] (defScope s_ways_behind) := ⟨rfl, rfl, rfl, by decide +kernel, rfl, by decide +kernel, by decide +kernel⟩
abbrev s_need_deed_limits : Stmt := top 22
theorem sc_need_deed_limits : FnScope ["rows", "kind", "many", "wrong", "met", "goes_on", "word", "name", "line"] ["rows", "kind"] (defScope s_need_deed_limits) := ⟨rfl, rfl, rfl, by decide +kernel, rfl, by decide +kernel, by decide +kernel⟩
abbrev s_unfit_lines : Stmt := top 23
theorem sc_unfit_lines : FnScope ["rows", "found", "row", "block"] ["rows"] (defScope s_unfit_lines) := ⟨rfl, rfl, rfl, by decide +kernel, rfl, by decide +kernel, by decide +kernel⟩
abbrev s_DeedCode_init : Stmt := inClass (top 24) 0
abbrev s_l_bag : Stmt := top 26
theorem sc_l_bag : FnScope ["_law_script", "_law_fold", "_law_cell"] ["_law_script"] (defScope s_l_bag) := ⟨rfl, rfl, rfl, by decide +kernel, rfl, by decide +kernel, by decide +kernel⟩
abbrev s_l_draw : Stmt := top 27
theorem sc_l_draw : FnScope ["_law_bag_here", "_law_limit", "_law_cell", "_law_digit", "_law_base_here", "_law_found_here"] ["_law_bag_here", "_law_limit"] (defScope s_l_draw) := ⟨rfl, rfl, rfl, by decide +kernel, rfl, by decide +kernel, by decide +kernel⟩
abbrev s_l_outcomes : Stmt := top 28
theorem sc_l_outcomes : FnScope ["_law_word", "_law_told"] ["_law_word"] (defScope s_l_outcomes) := ⟨rfl, rfl, rfl, by decide +kernel, rfl, by decide +kernel, by decide +kernel⟩
abbrev s_l_step : Stmt := top 29
theorem sc_l_step : FnScope ["_law_word", "_law_one", "_law_place", "_law_blocks"] ["_law_word", "_law_one", "_law_place", "_law_blocks"] (defScope s_l_step) := ⟨rfl, rfl, rfl, by decide +kernel, rfl, by decide +kernel, by decide +kernel⟩
abbrev s_l_found : Stmt := top 30
theorem sc_l_found : FnScope ["_law_none"] [] (defScope s_l_found) := ⟨rfl, rfl, rfl, by decide +kernel, rfl, by decide +kernel, by decide +kernel⟩
abbrev s_l_laid : Stmt := top 31
theorem sc_l_laid : FnScope ["_law_one", "_law_place", "_law_full", "_law_out"] ["_law_one", "_law_place"] (defScope s_l_laid) := ⟨rfl, rfl, rfl, by decide +kernel, rfl, by decide +kernel, by decide +kernel⟩
abbrev s_l_gone : Stmt := top 32
theorem sc_l_gone : FnScope ["_law_place"] ["_law_place"] (defScope s_l_gone) := ⟨rfl, rfl, rfl, by decide +kernel, rfl, by decide +kernel, by decide +kernel⟩
abbrev s_l_base : Stmt := top 33
theorem sc_l_base : FnScope ["_law_bag_here", "_law_kind", "_law_check", "_law_bent"] ["_law_bag_here", "_law_kind"] (defScope s_l_base) := ⟨rfl, rfl, rfl, by decide +kernel, rfl, by decide +kernel, by decide +kernel⟩
abbrev s_l_lists : Stmt := top 34
theorem sc_l_lists : FnScope ["_law_rows", "_law_found_here", "_law_row", "_law_outcome", "_law_inner"] ["_law_rows"] (defScope s_l_lists) := ⟨rfl, rfl, rfl, by decide +kernel, rfl, by decide +kernel, by decide +kernel⟩
abbrev s_l_other : Stmt := top 35
theorem sc_l_other : FnScope ["_law_bag_here", "_law_kind", "_law_one", "_law_place", "_law_words", "_law_word", "_law_first", "_law_second", "_law_step_here", "_law_outcomes_here", "_law_pool"] ["_law_bag_here", "_law_kind"] (defScope s_l_other) := ⟨rfl, rfl, rfl, by decide +kernel, rfl, by decide +kernel, by decide +kernel⟩
abbrev s_l_slip : Stmt := top 36
theorem sc_l_slip : FnScope ["_law_bag_here", "_law_kind", "_law_rows", "_law_lists_here", "_law_chosen", "_law_at", "_law_sort"] ["_law_bag_here", "_law_kind", "_law_rows"] (defScope s_l_slip) := ⟨rfl, rfl, rfl, by decide +kernel, rfl, by decide +kernel, by decide +kernel⟩
abbrev s_l_written : Stmt := top 37
theorem sc_l_written : FnScope ["_law_rows", "_law_lines", "_law_row", "_law_part", "_law_outcome", "_law_inner"] ["_law_rows", "_law_lines"] (defScope s_l_written) := ⟨rfl, rfl, rfl, by decide +kernel, rfl, by decide +kernel, by decide +kernel⟩
abbrev s_l_drawn : Stmt := top 38
theorem sc_l_drawn : FnScope ["_law_bag_here", "_law_kind", "_law_rows", "_law_turn"] ["_law_bag_here"] (defScope s_l_drawn) := ⟨rfl, rfl, rfl, by decide +kernel, rfl, by decide +kernel, by decide +kernel⟩
abbrev s_l_tried : Stmt := top 39
theorem sc_l_tried : FnScope ["_law_kind", "_law_text", "_law_code", "e"] ["_law_kind", "_law_text"] (defScope s_l_tried) := ⟨rfl, rfl, rfl, by decide +kernel, rfl, by decide +kernel, by decide +kernel⟩
abbrev s_l_odd_line : Stmt := top 40
theorem sc_l_odd_line : FnScope ["_law_bag_here", "_law_kind", "_law_lines", "_law_bad", "_law_at", "_law_before", "_law_odd"] ["_law_bag_here", "_law_kind", "_law_lines"] (defScope s_l_odd_line) := ⟨rfl, rfl, rfl, by decide +kernel, rfl, by decide +kernel, by decide +kernel⟩
abbrev s_l_lines_right : Stmt := top 41
theorem sc_l_lines_right : FnScope ["_law_bag_here", "_law_kind", "_law_rows", "_law_lines", "_law_found_here", "_law_what", "_law_number", "_law_text"] ["_law_bag_here", "_law_kind", "_law_rows", "_law_lines"] (defScope s_l_lines_right) := ⟨rfl, rfl, rfl, by decide +kernel, rfl, by decide +kernel, by decide +kernel⟩
abbrev s_l_once_right : Stmt := top 42
theorem sc_l_once_right : FnScope ["_law_bag_here", "_law_word", "_law_kind", "_law_ahead", "_law_many", "_law_lines", "_law_behind", "_law_on_ways", "_law_both", "_law_blocks", "_law_alone"] ["_law_bag_here"] (defScope s_l_once_right) := ⟨rfl, rfl, rfl, by decide +kernel, rfl, by decide +kernel, by decide +kernel⟩
abbrev s_law : Stmt := top 43
theorem sc_law : FnScope ["_law_script", "_law_bag_here", "_law_kind", "_law_rows", "_law_lines", "_law_words", "_law_steps", "_law_line", "_law_text", "_law_due", "_law_code", "_law_at", "_law_bent", "_law_strange", "_law_many", "_law_long"] ["_law_script"] (defScope s_law) := ⟨rfl, rfl, rfl, by decide +kernel, rfl, by decide +kernel, by decide +kernel⟩
abbrev P0 : Program := PySem.Challenge.pw_heldplaces_k59_deeds_made_and_refused
/-- what the top has left -/
structure Tx (P : Program) (w : World) (K : PySem.W.Frag) (mg : Str → Option Value) : Prop where
  mk_CodeText : ∃ f fd, mg "CodeText" = some (.ref (He.ga K "CodeText")) ∧ Mk K (He.ga K "CodeText") f ∧ FunD K "__init__" "CodeText.__init__" (defArgs s_CodeText_init) (defBody s_CodeText_init) (defScope s_CodeText_init) [] [] f fd
  m_CodeText_same : ∃ f fd, MetX K (He.ga K "CodeText") "same" "CodeText.same" s_CodeText_same f fd
  m_CodeText_len : ∃ f fd, MetX K (He.ga K "CodeText") "__len__" "CodeText.__len__" s_CodeText_len f fd
  m_CodeText_iter : ∃ f fd, MetX K (He.ga K "CodeText") "__iter__" "CodeText.__iter__" s_CodeText_iter f fd
  m_CodeText_getitem : ∃ f fd, MetX K (He.ga K "CodeText") "__getitem__" "CodeText.__getitem__" s_CodeText_getitem f fd
  m_CodeText_eq : ∃ f fd, MetX K (He.ga K "CodeText") "__eq__" "CodeText.__eq__" s_CodeText_eq f fd
  d_step_of : DefX K mg "step_of" s_step_of
  d_plain_row : DefX K mg "plain_row" s_plain_row
  mk_DeedReader : ∃ f fd, mg "DeedReader" = some (.ref (He.ga K "DeedReader")) ∧ Mk K (He.ga K "DeedReader") f ∧ FunD K "__init__" "DeedReader.__init__" (defArgs s_DeedReader_init) (defBody s_DeedReader_init) (defScope s_DeedReader_init) [] [] f fd
  m_DeedReader_words : ∃ f fd, MetX K (He.ga K "DeedReader") "words" "DeedReader.words" s_DeedReader_words f fd
  m_DeedReader_read_rows : ∃ f fd, MetX K (He.ga K "DeedReader") "read_rows" "DeedReader.read_rows" s_DeedReader_read_rows f fd
  m_DeedReader_read_row : ∃ f fd, MetX K (He.ga K "DeedReader") "read_row" "DeedReader.read_row" s_DeedReader_read_row f fd
  m_DeedReader_blocks : ∃ f fd, MetX K (He.ga K "DeedReader") "blocks" "DeedReader.blocks" s_DeedReader_blocks f fd
  m_DeedReader_begins_block : ∃ f fd, MetX K (He.ga K "DeedReader") "begins_block" "DeedReader.begins_block" s_DeedReader_begins_block f fd
  d_count_steps : DefX K mg "count_steps" s_count_steps
  d_deed_ways : DefX K mg "deed_ways" s_deed_ways
  d_ways_behind : DefX K mg "ways_behind" s_ways_behind
  d_need_deed_limits : DefX K mg "need_deed_limits" s_need_deed_limits
  d_unfit_lines : DefX K mg "unfit_lines" s_unfit_lines
  d_l_bag : DefX K mg "_law_bag" s_l_bag
  d_l_draw : DefX K mg "_law_draw" s_l_draw
  d_l_outcomes : DefX K mg "_law_outcomes" s_l_outcomes
  d_l_step : DefX K mg "_law_step" s_l_step
  d_l_found : DefX K mg "_law_found" s_l_found
  d_l_laid : DefX K mg "_law_laid" s_l_laid
  d_l_gone : DefX K mg "_law_gone" s_l_gone
  d_l_base : DefX K mg "_law_base" s_l_base
  d_l_lists : DefX K mg "_law_lists" s_l_lists
  d_l_other : DefX K mg "_law_other" s_l_other
  d_l_slip : DefX K mg "_law_slip" s_l_slip
  d_l_written : DefX K mg "_law_written" s_l_written
  d_l_drawn : DefX K mg "_law_drawn" s_l_drawn
  d_l_tried : DefX K mg "_law_tried" s_l_tried
  d_l_odd_line : DefX K mg "_law_odd_line" s_l_odd_line
  d_l_lines_right : DefX K mg "_law_lines_right" s_l_lines_right
  d_l_once_right : DefX K mg "_law_once_right" s_l_once_right
  d_law : DefX K mg "law" s_law
  sup_DeedCode : SupX.SupD P K "DeedCode" "DeedCode.__init__" "CodeText.__init__" s_DeedCode_init s_CodeText_init ["self", "kind", "text", "__class__", "rows"] ["self", "kind", "text"]
  m_DeedCode_same : ∃ f fd, MetX K (He.ga K "DeedCode") "same" "CodeText.same" s_CodeText_same f fd
  m_DeedCode_len : ∃ f fd, MetX K (He.ga K "DeedCode") "__len__" "CodeText.__len__" s_CodeText_len f fd
  m_DeedCode_iter : ∃ f fd, MetX K (He.ga K "DeedCode") "__iter__" "CodeText.__iter__" s_CodeText_iter f fd
  m_DeedCode_getitem : ∃ f fd, MetX K (He.ga K "DeedCode") "__getitem__" "CodeText.__getitem__" s_CodeText_getitem f fd
  m_DeedCode_eq : ∃ f fd, MetX K (He.ga K "DeedCode") "__eq__" "CodeText.__eq__" s_CodeText_eq f fd
  ne_CodeText : PySem.W.findIn K (.ref (He.ga K "CodeText")) "__ne__" = some (some (.builtin "object.__ne__"))
  cm_CodeText : PySem.W.mroIn K (He.ga K "CodeText") (.type "object") = some true
  ca_CodeText : PySem.W.findIn K (.ref (He.ga K "CodeText")) "__class__" = some (some (.builtin "object.__class__"))
  ne_DeedCode : PySem.W.findIn K (.ref (He.ga K "DeedCode")) "__ne__" = some (some (.builtin "object.__ne__"))
  cm_DeedCode : PySem.W.mroIn K (He.ga K "DeedCode") (.type "object") = some true
  ca_DeedCode : PySem.W.findIn K (.ref (He.ga K "DeedCode")) "__class__" = some (some (.builtin "object.__class__"))
  kc_DeedCode : PySem.W.kitOne K (.ref (He.ga K "DeedCode")) (.ref (He.ga K "CodeText")) = some true
  cn_obj : PySem.W.specialIn K (.builtin "object.__class__") "__get__" = some (some (.builtin "getset_descriptor.__get__"))
  ct_obj : PySem.W.takesIn K (.builtin "object.__class__") = some true
  x_BadKind_BadKind : PySem.W.exmOne K (.ref (He.ga K "BadKind")) (.ref (He.ga K "BadKind")) = some true
  x_BadKind_BadLine : PySem.W.exmOne K (.ref (He.ga K "BadKind")) (.ref (He.ga K "BadLine")) = some false
  x_BadKind_Refused : PySem.W.exmOne K (.ref (He.ga K "BadKind")) (.ref (He.ga K "Refused")) = some false
  x_BadKind_TooMany : PySem.W.exmOne K (.ref (He.ga K "BadKind")) (.ref (He.ga K "TooMany")) = some false
  x_BadLine_BadKind : PySem.W.exmOne K (.ref (He.ga K "BadLine")) (.ref (He.ga K "BadKind")) = some false
  x_BadLine_BadLine : PySem.W.exmOne K (.ref (He.ga K "BadLine")) (.ref (He.ga K "BadLine")) = some true
  x_BadLine_Refused : PySem.W.exmOne K (.ref (He.ga K "BadLine")) (.ref (He.ga K "Refused")) = some false
  x_BadLine_TooMany : PySem.W.exmOne K (.ref (He.ga K "BadLine")) (.ref (He.ga K "TooMany")) = some false
  x_Refused_BadKind : PySem.W.exmOne K (.ref (He.ga K "Refused")) (.ref (He.ga K "BadKind")) = some false
  x_Refused_BadLine : PySem.W.exmOne K (.ref (He.ga K "Refused")) (.ref (He.ga K "BadLine")) = some false
  x_Refused_Refused : PySem.W.exmOne K (.ref (He.ga K "Refused")) (.ref (He.ga K "Refused")) = some true
  x_Refused_TooMany : PySem.W.exmOne K (.ref (He.ga K "Refused")) (.ref (He.ga K "TooMany")) = some false
  x_TooMany_BadKind : PySem.W.exmOne K (.ref (He.ga K "TooMany")) (.ref (He.ga K "BadKind")) = some false
  x_TooMany_BadLine : PySem.W.exmOne K (.ref (He.ga K "TooMany")) (.ref (He.ga K "BadLine")) = some false
  x_TooMany_Refused : PySem.W.exmOne K (.ref (He.ga K "TooMany")) (.ref (He.ga K "Refused")) = some false
  x_TooMany_TooMany : PySem.W.exmOne K (.ref (He.ga K "TooMany")) (.ref (He.ga K "TooMany")) = some true
  cl_CodeText : Cls K (He.ga K "CodeText")
  g_CodeText : mg "CodeText" = some (.ref (He.ga K "CodeText"))
  na_CodeText_kind : NoAttr K (He.ga K "CodeText") "kind"
  na_CodeText_own_lines : NoAttr K (He.ga K "CodeText") "own_lines"
  na_CodeText_own_tables : NoAttr K (He.ga K "CodeText") "own_tables"
  na_CodeText_part : NoAttr K (He.ga K "CodeText") "part"
  na_CodeText_text : NoAttr K (He.ga K "CodeText") "text"
  cl_DeedReader : Cls K (He.ga K "DeedReader")
  g_DeedReader : mg "DeedReader" = some (.ref (He.ga K "DeedReader"))
  na_DeedReader_line : NoAttr K (He.ga K "DeedReader") "line"
  na_DeedReader_texts : NoAttr K (He.ga K "DeedReader") "texts"
  cl_DeedCode : Cls K (He.ga K "DeedCode")
  g_DeedCode : mg "DeedCode" = some (.ref (He.ga K "DeedCode"))
  na_DeedCode_kind : NoAttr K (He.ga K "DeedCode") "kind"
  na_DeedCode_own_lines : NoAttr K (He.ga K "DeedCode") "own_lines"
  na_DeedCode_own_tables : NoAttr K (He.ga K "DeedCode") "own_tables"
  na_DeedCode_part : NoAttr K (He.ga K "DeedCode") "part"
  na_DeedCode_rows : NoAttr K (He.ga K "DeedCode") "rows"
  na_DeedCode_text : NoAttr K (He.ga K "DeedCode") "text"
  g_HeldError : mg "HeldError" = some (.ref (He.ga K "HeldError"))
  e_BadKind : ErrX.ErrTxt P K ["kind"] (He.ga K "BadKind")
  g_BadKind : mg "BadKind" = some (.ref (He.ga K "BadKind"))
  k_BadKind : ErrK K (He.ga K "BadKind")
  e_BadLine : ErrX.ErrTxt P K ["line"] (He.ga K "BadLine")
  g_BadLine : mg "BadLine" = some (.ref (He.ga K "BadLine"))
  k_BadLine : ErrK K (He.ga K "BadLine")
  e_Refused : ErrX.ErrTxt P K ["line"] (He.ga K "Refused")
  g_Refused : mg "Refused" = some (.ref (He.ga K "Refused"))
  k_Refused : ErrK K (He.ga K "Refused")
  e_TooMany : ErrX.ErrTxt P K ["what", "many", "most"] (He.ga K "TooMany")
  g_TooMany : mg "TooMany" = some (.ref (He.ga K "TooMany"))
  k_TooMany : ErrK K (He.ga K "TooMany")
  b_TypeError : mg "TypeError" = none
  b_ValueError : mg "ValueError" = none
  b_int : mg "int" = none
  b_isinstance : mg "isinstance" = none
  b_len : mg "len" = none
  b_list : mg "list" = none
  b_min : mg "min" = none
  b_range : mg "range" = none
  b_str : mg "str" = none
  b_sum : mg "sum" = none
  b_tuple : mg "tuple" = none
  g_DEED_KINDS : mg "DEED_KINDS" = some (.ref (He.ga K "DEED_KINDS"))
  t_DEED_KINDS : ∀ H, SqT K H (He.ga K "DEED_KINDS") [.str "enter", .str "leave", .str "change"]
  g_ID_NAMES : mg "ID_NAMES" = some (.ref (He.ga K "ID_NAMES"))
  t_ID_NAMES : ∀ H, SqT K H (He.ga K "ID_NAMES") [.str "h", .str "i"]
  g_PLACE_NAMES : mg "PLACE_NAMES" = some (.ref (He.ga K "PLACE_NAMES"))
  t_PLACE_NAMES : ∀ H, SqT K H (He.ga K "PLACE_NAMES") [.str "p", .str "q"]
  g_OUTCOMES : mg "OUTCOMES" = some (.ref (He.ga K "OUTCOMES"))
  k_OUTCOMES_find : ∃ a, KDct K w (He.ga K "OUTCOMES") "find" (.ref a) ∧ ∀ H, SqT K H a [.str "there", .str "none"]
  k_OUTCOMES_look : ∃ a, KDct K w (He.ga K "OUTCOMES") "look" (.ref a) ∧ ∀ H, SqT K H a [.str "held", .str "stale"]
  k_OUTCOMES_lay : ∃ a, KDct K w (He.ga K "OUTCOMES") "lay" (.ref a) ∧ ∀ H, SqT K H a [.str "laid", .str "full"]
  k_OUTCOMES_give : ∃ a, KDct K w (He.ga K "OUTCOMES") "give" (.ref a) ∧ ∀ H, SqT K H a [.str "given", .str "out"]
  k_OUTCOMES_free : ∃ a, KDct K w (He.ga K "OUTCOMES") "free" (.ref a) ∧ ∀ H, SqT K H a [.str "freed", .str "unlent"]
  k_OUTCOMES_strike : ∃ a, KDct K w (He.ga K "OUTCOMES") "strike" (.ref a) ∧ ∀ H, SqT K H a [.str "struck", .str "bare"]
  k_OUTCOMES_stretch : ∃ a, KDct K w (He.ga K "OUTCOMES") "stretch" (.ref a) ∧ ∀ H, SqT K H a [.str "stretched", .str "full", .str "bare"]
  g_ONCE : mg "ONCE" = some (.ref (He.ga K "ONCE"))
  t_ONCE : ∀ H, SqT K H (He.ga K "ONCE") [.str "lay", .str "stretch", .str "give"]
  c_MOST_DEED_LINES : ∃ t, mg "MOST_DEED_LINES" = some (.int 40 t)
  c_MOST_STEPS : ∃ t, mg "MOST_STEPS" = some (.int 8 t)
end K59


set_option Elab.async false
set_option linter.all false
set_option maxRecDepth 100000
set_option maxHeartbeats 4000000
namespace K59
open PySem PySem.Spec PyProof.Rows L2
section
variable {P : Program} {w : World} {K : PySem.W.Frag} {mg : Str → Option Value} {base : Heap}
abbrev cD (K : PySem.W.Frag) : Addr := He.ga K "DeedCode"
def nlS : Str := Str.ofString "\n"
/-- a code's lines -/
def linesOf (z : Str) : List Str := if z = Str.ofString "" then [] else Txt.split z nlS
/-- a value in the place of a kind: flat, or a list -/
def KindV (H : Hp) (v : V) : Prop := flatV v = true ∨ ∃ p xs, v = .ref p ∧ H p = some (.lst xs)
def kindOk (ks : List Str) : V → Bool
  | .str z => decide (z ∈ ks)
  | _ => false
def ctF (part kind text : Str) (l t : Addr) : List (Str × V) := [("part", .str part), ("kind", .str kind), ("text", .str text), ("own_lines", .ref l), ("own_tables", .ref t)]
/-- CodeText.__init__, its instance of the class DeedCode -/
def spCT (K : PySem.W.Frag) : Sp := fun vs H Q E => ∃ (x dx kp : Addr) (part text : Str) (kv : V) (ks : List Str) (most : Int), vs = [.ref x, .str part, kv, .ref kp, .str text, .int most] ∧ H x = some (.ins (cD K) dx []) ∧ SqT K H kp (ks.map V.str) ∧ KindV H kv ∧ text.length ≤ 100000 ∧
  (kindOk ks kv = false → ∀ d, H d = none → E (.ref (He.ga K "BadKind")) (some d) (upd H d (.xd [("kind", kv)]))) ∧
  (∀ k, kv = .str k → k ∈ ks → ((linesOf text).length : Int) > most → ∀ d H', H d = none → H' d = some (.xd [("most", .int most), ("many", .int ((linesOf text).length : Nat)), ("what", .str (Str.ofString "lines"))]) → (∀ b o, b ≠ x → H b = some o → H' b = some o) → E (.ref (He.ga K "TooMany")) (some d) H') ∧
  (∀ k, kv = .str k → k ∈ ks → ((linesOf text).length : Int) ≤ most → ∀ l t H', H l = none → H t = none → H' x = some (.ins (cD K) dx (ctF part k text l t)) → H' l = some (.lst ((linesOf text).map V.str)) → (∀ b o, b ≠ x → H b = some o → H' b = some o) → Q .non H')
theorem ok_ct (T : Tx P w K mg) {f : Addr} {fd : FuncData} (F : FunD K "__init__" "CodeText.__init__" (defArgs s_CodeText_init) (defBody s_CodeText_init) (defScope s_CodeText_init) [] [] f fd) : L2.Binds K fd ["self", "part", "kind", "kinds", "text", "most_lines"] [] ∧ FnOk P w K mg base (L2.CX P w) 3 f fd ["self", "part", "kind", "kinds", "text", "most_lines"] (spCT K) := by
  refine ⟨F.bindsN (fun _ _ _ _ _ _ us hl => match us, hl with | [_, _, _, _, _, _], _ => rfl), F.ok sc_CodeText_init (fun vs H Q E h => ?_) (fun cdv A outer s H vs Q E hr h => ⟨_, (by exact (pss_cons (ps_if (PW.pt (pw_or (pt_not (pt_val (pe_callB call_isi (by rfl) T.b_isinstance (by decide +kernel) (pa_cons (pv 2) (pa_cons (pe_bltn (v := .ty "str") (by rfl) T.b_str (by decide +kernel) rfl) pa_nil))))) (pw_or1 (pt_cmpR op_notIn_seq (pv 2) (pv 3) (by rfl))))) (pss_one (ps_raise rfl (takes_of rfl rfl rfl rfl) (pmk_err T.e_BadKind T.g_BadKind hr (pa_cons (pv 2) pa_nil)))) pss_nil)
      (pss_cons (ps_fld (pv 0) (pv 1) rfl)
      (pss_cons (ps_fld (pv 0) (pv 2) rfl)
      (pss_cons (ps_fld (pv 0) (pv 4) rfl)
      (pss_cons (ps_fld (pv 0) (pe_ifExp (pt_cmpR op_ne (pv 4) pe_str (nomark _)) (pe_split (pv 4) pe_str) (pe_lst pa_nil)) rfl)
      (pss_cons (ps_if (pt_cmpR op_gt (pe_callB call_len_seq (by rfl) T.b_len (by decide +kernel) (pa_cons (pe_fld (pv 0) rfl) pa_nil)) (pv 5) (nomark _)) (pss_one (ps_raise rfl (takes_of rfl rfl rfl rfl) (pmk_err T.e_TooMany T.g_TooMany hr (pa_cons pe_str (pa_cons (pe_callB call_len_seq (by rfl) T.b_len (by decide +kernel) (pa_cons (pe_fld (pv 0) rfl) pa_nil)) (pa_cons (pv 5) pa_nil)))))) pss_nil)
      (pss_one (ps_fld (pv 0) pe_dnewK rfl))))))))), ?_⟩)⟩
  · obtain ⟨x, dx, kp, part, text, kv, ks, most, rfl, _⟩ := h
    rfl
  obtain ⟨x, dx, kp, part, text, kv, ks, most, rfl, hx, hks, hkv, htl, h0, h1, h2⟩ := h
  have bad : kindOk ks kv = false → tMkErr (He.ga K "BadKind") ["kind"] (tCons (tVar 2) tNil) (start ["self", "part", "kind", "kinds", "text", "most_lines"] [.ref x, .str part, kv, .ref kp, .str text, .int most]) H (fun cls d H' => E cls d H') :=
    fun e => ⟨_, rfl, rfl, (fun z => absurd z (by simp)), fun _ d hd => h0 e d hd⟩
  obtain ⟨t, b1, ty, k1, hb⟩ : ∃ (t : Value) (b1 : Bool), TyX K H kv t ∧ PySem.W.kitOne K t (.type "str") = some b1 ∧ (if b1 = true then ∃ k, kv = .str k else kindOk ks kv = false) := by
    rcases hkv with hf | ⟨p, xs, rfl, hp⟩
    · cases kv with
      | int i => exact ⟨_, false, .base (.int i), kit_ty (by decide +kernel), rfl⟩
      | bl i => exact ⟨_, false, .base (.bl i), kit_ty (by decide +kernel), rfl⟩
      | str i => exact ⟨_, true, .base (.str i), kit_ty (by decide +kernel), ⟨i, rfl⟩⟩
      | non => exact ⟨_, false, .base .non, kit_ty (by decide +kernel), rfl⟩
      | byt _ => cases hf
      | flt _ => cases hf
      | ref _ => cases hf
      | ty _ => cases hf
    · exact ⟨_, false, .base (.lst hp), kit_ty (by decide +kernel), rfl⟩
  refine ⟨_, rfl, _, _, t, .type "str", b1, rfl, .ty _, ty, k1, _, rfl, ?_⟩
  cases b1 with
  | false => exact iteT (iteT (bad hb))
  | true =>
    obtain ⟨k, rfl⟩ := hb
    refine iteF ?_
    refine ⟨_, rfl, _, rfl, kp, _, rfl, .inr hks, rfl, flat_strs ks, _, rfl, ?_⟩
    rw [inV_str]
    refine iteB (fun g => bad (by simpa [kindOk] using g)) (fun g => ?_)
    have hk : k ∈ ks := by simpa using g
    refine ⟨_, rfl, _, rfl, x, cD K, dx, _, rfl, hx, T.cl_DeedCode, T.na_DeedCode_part, (by show 0 < 1000; decide), ?_⟩
    refine ⟨_, rfl, _, rfl, x, cD K, dx, _, rfl, upd_same, T.cl_DeedCode, T.na_DeedCode_kind, (by show 1 < 1000; decide), ?_⟩
    refine ⟨_, rfl, _, rfl, x, cD K, dx, _, rfl, upd_same, T.cl_DeedCode, T.na_DeedCode_text, (by show 2 < 1000; decide), ?_⟩
    rw [upd_upd, upd_upd]
    refine ⟨_, rfl, rfl, _, rfl, ?_⟩
    refine iteB (fun g1 => ?_) (fun g1 => ?_)
    · have e1 : linesOf text = Txt.split text nlS := by
        unfold linesOf
        rw [if_neg (fun z => by subst z; exact absurd g1 (by decide +kernel))]
      refine ⟨_, rfl, ⟨_, rfl⟩, text, nlS, rfl, rfl, by decide +kernel, (by have q9 : sizeLine = 16777216 := sizeLine_eq; omega), fun l hl => ?_⟩
      have hlx : l ≠ x := fun z => by subst z; rw [upd_same] at hl; cases hl
      have hl0 : H l = none := by rw [upd_ne hlx] at hl; exact hl
      refine ⟨_, rfl, x, cD K, dx, _, rfl, Same.new hl _ _ upd_same, T.cl_DeedCode, T.na_DeedCode_own_lines, (by show 3 < 1000; decide), ?_⟩
      refine ⟨_, rfl, x, cD K, dx, _, _, rfl, upd_same, T.cl_DeedCode, T.na_DeedCode_own_lines, rfl, l, (linesOf text).map V.str, rfl, .inl (SqL.of ?_), _, rfl, _, _, rfl, rfl, _, rfl, ?_⟩
      · (rw [upd_ne hlx, upd_same, e1]; try rfl)
      have hLl : ∀ o, upd (upd (upd H x o) l (.lst ((Txt.split text nlS).map V.str))) x (.ins (cD K) dx [("part", .str part), ("kind", .str k), ("text", .str text), ("own_lines", .ref l)]) l = some (.lst ((linesOf text).map V.str)) := fun o => by (rw [upd_ne hlx, upd_same, e1]; try rfl)
      have hSB : ∀ o, ∀ b u, b ≠ x → H b = some u → upd (upd (upd H x o) l (.lst ((Txt.split text nlS).map V.str))) x (.ins (cD K) dx [("part", .str part), ("kind", .str k), ("text", .str text), ("own_lines", .ref l)]) b = some u := fun o b u hbx hb => by rw [upd_ne hbx, upd_ne (ne_of_none hb hl0), upd_ne hbx]; exact hb
      rw [List.length_map]
      refine iteB (fun g2 => ?_) (fun g2 => ?_)
      · refine ⟨_, rfl, x, cD K, dx, _, _, rfl, upd_same, T.cl_DeedCode, T.na_DeedCode_own_lines, rfl, l, (linesOf text).map V.str, rfl, .inl (SqL.of ?_), _, rfl, rfl, (fun z => absurd z (by simp)), fun _ d hd => ?_⟩
        · (rw [upd_ne hlx, upd_same, e1]; try rfl)
        have hdx : d ≠ x := fun z => by subst z; rw [upd_same] at hd; cases hd
        have hd0 : H d = none := by
          cases q : H d with
          | none => rfl
          | some o => have q2 := hSB (.ins (cD K) dx [("part", .str part), ("kind", .str k), ("text", .str text)]) d o hdx q; exact absurd (hd.symm.trans q2) (by simp)
        exact h1 k rfl hk (of_decide_eq_true g2) d _ hd0 (by rw [upd_same]; show some (HO.xd [("most", .int most), ("many", .int (((linesOf text).map V.str).length : Nat)), ("what", .str (Str.ofString "lines"))]) = _; rw [List.length_map]) (fun b o hbx hb => by rw [upd_ne (ne_of_none hb hd0)]; exact hSB (.ins (cD K) dx [("part", .str part), ("kind", .str k), ("text", .str text)]) b o hbx hb)
      · refine fun t ht => ?_
        have htx : t ≠ x := fun z => by subst z; rw [upd_same] at ht; cases ht
        have ht0 : H t = none := by
          cases q : H t with
          | none => rfl
          | some o => have q2 := hSB (.ins (cD K) dx [("part", .str part), ("kind", .str k), ("text", .str text)]) t o htx q; exact absurd (ht.symm.trans q2) (by simp)
        have hlt : l ≠ t := fun z => by subst z; exact absurd (ht.symm.trans (hLl (.ins (cD K) dx [("part", .str part), ("kind", .str k), ("text", .str text)]))) (by simp)
        refine ⟨_, rfl, x, cD K, dx, _, rfl, Same.new ht _ _ upd_same, T.cl_DeedCode, T.na_DeedCode_own_tables, (by show 4 < 1000; decide), ?_⟩
        refine h2 k rfl hk (by have := of_decide_eq_false g2; omega) l t _ hl0 ht0 upd_same ?_ (fun b o hbx hb => ?_)
        · rw [upd_ne hlx, upd_ne hlt]; exact hLl (.ins (cD K) dx [("part", .str part), ("kind", .str k), ("text", .str text)])
        · rw [upd_ne hbx, upd_ne (ne_of_none hb ht0)]; exact hSB (.ins (cD K) dx [("part", .str part), ("kind", .str k), ("text", .str text)]) b o hbx hb
    · have e1 : linesOf text = [] := by
        unfold linesOf
        rw [if_pos (Classical.byContradiction fun z => by
          have q : (!decide (V.str text = V.str (Str.ofString ""))) = true := by rw [decide_eq_false (fun y => z (V.str.inj y))]; rfl
          rw [q] at g1
          cases g1)]
      refine ⟨(by show 0 ≤ sizeLine; decide), fun l hl => ?_⟩
      have hlx : l ≠ x := fun z => by subst z; rw [upd_same] at hl; cases hl
      have hl0 : H l = none := by rw [upd_ne hlx] at hl; exact hl
      refine ⟨_, rfl, x, cD K, dx, _, rfl, Same.new hl _ _ upd_same, T.cl_DeedCode, T.na_DeedCode_own_lines, (by show 3 < 1000; decide), ?_⟩
      refine ⟨_, rfl, x, cD K, dx, _, _, rfl, upd_same, T.cl_DeedCode, T.na_DeedCode_own_lines, rfl, l, (linesOf text).map V.str, rfl, .inl (SqL.of ?_), _, rfl, _, _, rfl, rfl, _, rfl, ?_⟩
      · (rw [upd_ne hlx, upd_same, e1]; try rfl)
      have hLl : ∀ o, upd (upd (upd H x o) l (.lst [])) x (.ins (cD K) dx [("part", .str part), ("kind", .str k), ("text", .str text), ("own_lines", .ref l)]) l = some (.lst ((linesOf text).map V.str)) := fun o => by (rw [upd_ne hlx, upd_same, e1]; try rfl)
      have hSB : ∀ o, ∀ b u, b ≠ x → H b = some u → upd (upd (upd H x o) l (.lst [])) x (.ins (cD K) dx [("part", .str part), ("kind", .str k), ("text", .str text), ("own_lines", .ref l)]) b = some u := fun o b u hbx hb => by rw [upd_ne hbx, upd_ne (ne_of_none hb hl0), upd_ne hbx]; exact hb
      rw [List.length_map]
      refine iteB (fun g2 => ?_) (fun g2 => ?_)
      · refine ⟨_, rfl, x, cD K, dx, _, _, rfl, upd_same, T.cl_DeedCode, T.na_DeedCode_own_lines, rfl, l, (linesOf text).map V.str, rfl, .inl (SqL.of ?_), _, rfl, rfl, (fun z => absurd z (by simp)), fun _ d hd => ?_⟩
        · (rw [upd_ne hlx, upd_same, e1]; try rfl)
        have hdx : d ≠ x := fun z => by subst z; rw [upd_same] at hd; cases hd
        have hd0 : H d = none := by
          cases q : H d with
          | none => rfl
          | some o => have q2 := hSB (.ins (cD K) dx [("part", .str part), ("kind", .str k), ("text", .str text)]) d o hdx q; exact absurd (hd.symm.trans q2) (by simp)
        exact h1 k rfl hk (of_decide_eq_true g2) d _ hd0 (by rw [upd_same]; show some (HO.xd [("most", .int most), ("many", .int (((linesOf text).map V.str).length : Nat)), ("what", .str (Str.ofString "lines"))]) = _; rw [List.length_map]) (fun b o hbx hb => by rw [upd_ne (ne_of_none hb hd0)]; exact hSB (.ins (cD K) dx [("part", .str part), ("kind", .str k), ("text", .str text)]) b o hbx hb)
      · refine fun t ht => ?_
        have htx : t ≠ x := fun z => by subst z; rw [upd_same] at ht; cases ht
        have ht0 : H t = none := by
          cases q : H t with
          | none => rfl
          | some o => have q2 := hSB (.ins (cD K) dx [("part", .str part), ("kind", .str k), ("text", .str text)]) t o htx q; exact absurd (ht.symm.trans q2) (by simp)
        have hlt : l ≠ t := fun z => by subst z; exact absurd (ht.symm.trans (hLl (.ins (cD K) dx [("part", .str part), ("kind", .str k), ("text", .str text)]))) (by simp)
        refine ⟨_, rfl, x, cD K, dx, _, rfl, Same.new ht _ _ upd_same, T.cl_DeedCode, T.na_DeedCode_own_tables, (by show 4 < 1000; decide), ?_⟩
        refine h2 k rfl hk (by have := of_decide_eq_false g2; omega) l t _ hl0 ht0 upd_same ?_ (fun b o hbx hb => ?_)
        · rw [upd_ne hlx, upd_ne hlt]; exact hLl (.ins (cD K) dx [("part", .str part), ("kind", .str k), ("text", .str text)])
        · rw [upd_ne hbx, upd_ne (ne_of_none hb ht0)]; exact hSB (.ins (cD K) dx [("part", .str part), ("kind", .str k), ("text", .str text)]) b o hbx hb
end
end K59


set_option Elab.async false
set_option linter.all false
set_option maxRecDepth 100000
set_option maxHeartbeats 4000000
namespace K59
open PySem PySem.Spec PyProof.Rows L2
section
variable {P : Program} {w : World} {K : PySem.W.Frag} {mg : Str → Option Value} {base : Heap}
def oS : Option Str → V
  | none => .non
  | some z => .str z
def idN : List Str := ["h", "i"]
def plN : List Str := ["p", "q"]
def stepOf (ws : List Str) : Option (Str × Option Str × Option Str) :=
  if decide (ws.getD 0 "" = "find") && (decide (ws.length = 2) && decide (ws.getD 1 "" ∈ idN)) then some ("find", some (ws.getD 1 ""), none)
  else if decide (ws.getD 0 "" ∈ (["look", "give"] : List Str)) && (decide (ws.length = 3) && (decide (ws.getD 1 "" ∈ idN) && decide (ws.getD 2 "" ∈ plN))) then some (ws.getD 0 "", some (ws.getD 1 ""), some (ws.getD 2 ""))
  else if decide (ws.getD 0 "" ∈ (["lay", "free", "strike", "stretch"] : List Str)) && (decide (ws.length = 2) && decide (ws.getD 1 "" ∈ plN)) then some (ws.getD 0 "", none, some (ws.getD 1 ""))
  else none
def spStep (K : PySem.W.Frag) : Sp := fun vs H Q E => ∃ (p : Addr) (ws : List Str), vs = [.ref p] ∧ SqL K H p (ws.map V.str) ∧ ws ≠ [] ∧ (stepOf ws = none → ∀ H', Same H H' → Q .non H') ∧ (∀ a b c, stepOf ws = some (a, b, c) → ∀ t H', Same H H' → H' t = some (.tup [.str a, oS b, oS c]) → Q (.ref t) H')
theorem len_nat {K : PySem.W.Frag} {σ : L2.St} {H : Hp} {p : Addr} {ws : List Str} {n : Nat} (hv : σ[0]? = some (some (.ref p))) (hp : SqL K H p (ws.map V.str)) : EvT (tTest (tOp rEq (tCB (fun xs H Q => ∃ p ys, xs = [V.ref p] ∧ (SqL K H p ys ∨ SqT K H p ys) ∧ Q (.int (ys.length : Nat)) H) (tCons (tVar 0) tNil)) (tC (.int (n : Nat))))) σ H (decide (ws.length = n)) := by
  have h := eq_nat (x := (ws.map V.str).length) (y := n) (ev_len (K := K) (ev_cons (ev_var (i := 0) (H := H) hv) fun _ _ => ev_nil) (.inl hp)) (b := tC (.int (n : Nat))) (fun _ _ => ev_C)
  rw [List.length_map] at h
  exact h
theorem w0 {ws : List Str} (h : ws ≠ []) : 0 < ws.length := List.length_pos_iff.mpr h
theorem ok_step_of (T : Tx P w K mg) : FnX P w K mg base CX0 1 "step_of" ["words"] [] (spStep K) := by
  refine T.d_step_of.ok0 sc_step_of (fun _ _ _ _ _ _ us hl => match us, hl with | [_], _ => rfl) (fun vs H Q E h => ?_) (fun f cdv A outer s H vs Q E hr h => ⟨_, (by exact (pss_cons (ps_if (PW.pt (pw_and (pt_cmpR op_eq (pe_ix ix_list (pv 0) pe_int (fun _ _ => rfl)) pe_str (nomark _)) (pw_and (pt_cmpR op_eq (pe_callB call_len_seq (by rfl) T.b_len (by decide +kernel) (pa_cons (pv 0) pa_nil)) pe_int (nomark _)) (pw_and1 (pt_cmpR op_in_seq (pe_ix ix_list (pv 0) pe_int (fun _ _ => rfl)) (pe_gref T.g_ID_NAMES) (by rfl)))))) (pss_one (ps_ret (pe_tup (pa_cons pe_str (pa_cons (pe_ix ix_list (pv 0) pe_int (fun _ _ => rfl)) (pa_cons pe_non pa_nil)))))) pss_nil)
      (pss_cons (ps_if (PW.pt (pw_and (pt_cmpR op_in_seq (pe_ix ix_list (pv 0) pe_int (fun _ _ => rfl)) (pe_tup (pa_cons pe_str (pa_cons pe_str pa_nil))) (by rfl)) (pw_and (pt_cmpR op_eq (pe_callB call_len_seq (by rfl) T.b_len (by decide +kernel) (pa_cons (pv 0) pa_nil)) pe_int (nomark _)) (pw_and (pt_cmpR op_in_seq (pe_ix ix_list (pv 0) pe_int (fun _ _ => rfl)) (pe_gref T.g_ID_NAMES) (by rfl)) (pw_and1 (pt_cmpR op_in_seq (pe_ix ix_list (pv 0) pe_int (fun _ _ => rfl)) (pe_gref T.g_PLACE_NAMES) (by rfl))))))) (pss_one (ps_ret (pe_tup (pa_cons (pe_ix ix_list (pv 0) pe_int (fun _ _ => rfl)) (pa_cons (pe_ix ix_list (pv 0) pe_int (fun _ _ => rfl)) (pa_cons (pe_ix ix_list (pv 0) pe_int (fun _ _ => rfl)) pa_nil)))))) pss_nil)
      (pss_cons (ps_if (PW.pt (pw_and (pt_cmpR op_in_seq (pe_ix ix_list (pv 0) pe_int (fun _ _ => rfl)) (pe_tup (pa_cons pe_str (pa_cons pe_str (pa_cons pe_str (pa_cons pe_str pa_nil))))) (by rfl)) (pw_and (pt_cmpR op_eq (pe_callB call_len_seq (by rfl) T.b_len (by decide +kernel) (pa_cons (pv 0) pa_nil)) pe_int (nomark _)) (pw_and1 (pt_cmpR op_in_seq (pe_ix ix_list (pv 0) pe_int (fun _ _ => rfl)) (pe_gref T.g_PLACE_NAMES) (by rfl)))))) (pss_one (ps_ret (pe_tup (pa_cons (pe_ix ix_list (pv 0) pe_int (fun _ _ => rfl)) (pa_cons pe_non (pa_cons (pe_ix ix_list (pv 0) pe_int (fun _ _ => rfl)) pa_nil)))))) pss_nil)
      (pss_one (ps_ret pe_non)))))), ?_⟩)
  · obtain ⟨p, ws, rfl, _⟩ := h
    rfl
  obtain ⟨p, ws, rfl, hp, hne, h0, h1⟩ := h
  unfold stepOf at h0 h1
  have V0 : ∀ H, EvE (tVar 0) (start ["words"] [.ref p]) H (.ref p) := fun H => ev_var rfl
  have ln : ∀ {H1 : Hp} {n : Nat}, Same H H1 → EvT (tTest (tOp rEq (tCB (fun xs H Q => ∃ p ys, xs = [V.ref p] ∧ (SqL K H p ys ∨ SqT K H p ys) ∧ Q (.int (ys.length : Nat)) H) (tCons (tVar 0) tNil)) (tC (.int (n : Nat))))) (start ["words"] [.ref p]) H1 (decide (ws.length = n)) := fun s1 => len_nat rfl (s1.sql hp)
  refine seq_if (ev_and (eq_str (ev_word (i := 0) (V0 H) hp (w0 hne)) fun _ _ => ev_C) fun _ H1 s1 => ev_and (ln (n := 2) s1) fun g2 H2 s2 => ev_test (ev_in (ns := idN) (ev_word (i := 1) (V0 _) ((s1.tr s2).sql hp) (by simp at g2; omega)) (in_top T.t_ID_NAMES))) (fun g H1 s1 => ?_) (fun g H1 s1 => ?_)
  · have g2 := g
    simp only [Bool.and_eq_true, decide_eq_true_eq] at g2
    refine mk_tup (ev_cons ev_C fun H2 s2 => ev_cons (ev_word (i := 1) (V0 _) ((s1.tr s2).sql hp) (by omega)) fun _ _ => ev_cons ev_C fun _ _ => ev_nil) (fun H2 t s2 _ ht => ?_)
    exact h1 _ _ _ (by rw [if_pos g]) t H2 (s1.tr s2) ht
  rw [if_neg (by rw [g]; exact Bool.false_ne_true)] at h0 h1
  refine seq_if (ev_and (ev_test (ev_in (ns := ["look", "give"]) (ev_word (i := 0) (V0 H1) (s1.sql hp) (w0 hne)) (in_tup (fun H => ev_cons ev_C fun _ _ => ev_cons ev_C fun _ _ => ev_nil)))) fun _ H2 s2 => ev_and (ln (n := 3) (s1.tr s2)) fun g2 H3 s3 => ev_and (ev_test (ev_in (ns := idN) (ev_word (i := 1) (V0 _) (((s1.tr s2).tr s3).sql hp) (by simp at g2; omega)) (in_top T.t_ID_NAMES))) fun _ H4 s4 => ev_test (ev_in (ns := plN) (ev_word (i := 2) (V0 _) ((((s1.tr s2).tr s3).tr s4).sql hp) (by simp at g2; omega)) (in_top T.t_PLACE_NAMES))) (fun g H2 s2 => ?_) (fun g H2 s2 => ?_)
  · have g2 := g
    simp only [Bool.and_eq_true, decide_eq_true_eq] at g2
    refine mk_tup (ev_cons (ev_word (i := 0) (V0 _) ((s1.tr s2).sql hp) (w0 hne)) fun H3 s3 => ev_cons (ev_word (i := 1) (V0 _) (((s1.tr s2).tr s3).sql hp) (by omega)) fun H4 s4 => ev_cons (ev_word (i := 2) (V0 _) ((((s1.tr s2).tr s3).tr s4).sql hp) (by omega)) fun _ _ => ev_nil) (fun H3 t s3 _ ht => ?_)
    exact h1 _ _ _ (by rw [if_pos g]) t H3 ((s1.tr s2).tr s3) ht
  rw [if_neg (by rw [g]; exact Bool.false_ne_true)] at h0 h1
  refine seq_if (ev_and (ev_test (ev_in (ns := ["lay", "free", "strike", "stretch"]) (ev_word (i := 0) (V0 H2) ((s1.tr s2).sql hp) (w0 hne)) (in_tup (fun H => ev_cons ev_C fun _ _ => ev_cons ev_C fun _ _ => ev_cons ev_C fun _ _ => ev_cons ev_C fun _ _ => ev_nil)))) fun _ H3 s3 => ev_and (ln (n := 2) ((s1.tr s2).tr s3)) fun g2 H4 s4 => ev_test (ev_in (ns := plN) (ev_word (i := 1) (V0 _) ((((s1.tr s2).tr s3).tr s4).sql hp) (by simp at g2; omega)) (in_top T.t_PLACE_NAMES))) (fun g H3 s3 => ?_) (fun g H3 s3 => ?_)
  · have g2 := g
    simp only [Bool.and_eq_true, decide_eq_true_eq] at g2
    refine mk_tup (ev_cons (ev_word (i := 0) (V0 _) (((s1.tr s2).tr s3).sql hp) (w0 hne)) fun H4 s4 => ev_cons ev_C fun H5 s5 => ev_cons (ev_word (i := 1) (V0 _) (((((s1.tr s2).tr s3).tr s4).tr s5).sql hp) (by omega)) fun _ _ => ev_nil) (fun H4 t s4 _ ht => ?_)
    exact h1 _ _ _ (by rw [if_pos g]) t H4 (((s1.tr s2).tr s3).tr s4) ht
  rw [if_neg (by rw [g]; exact Bool.false_ne_true)] at h0 h1
  exact h0 rfl H3 ((s1.tr s2).tr s3)
end
end K59


set_option Elab.async false
set_option linter.all false
set_option maxRecDepth 100000
set_option maxHeartbeats 4000000
namespace K59
open PySem PySem.Spec PyProof.Rows L2
section
variable {P : Program} {w : World} {K : PySem.W.Frag} {mg : Str → Option Value} {base : Heap}
def plainRow (ws : List Str) (n : Nat) : Option (List V) :=
  if decide (ws.getD 0 "" = "enter") && (decide (ws.length = 2) && decide (ws.getD 1 "" ∈ idN)) then some [.str "enter", .int n, .str (ws.getD 1 "")]
  else if decide (ws = (["leave"] : List Str)) then some [.str "leave", .int n]
  else if decide (ws = (["quit", "ok"] : List Str)) || decide (ws = (["quit", "no"] : List Str)) then some [.str "quit", .int n, .str (ws.getD 1 "")]
  else if decide (ws.length = 3) && (decide (ws.getD 1 "" = "=") && !decide (ws.getD 0 "" = ws.getD 2 "")) then
    (if decide (ws.getD 0 "" ∈ idN) && decide (ws.getD 2 "" ∈ idN) then some [.str "copy", .int n, .str (ws.getD 0 ""), .str (ws.getD 2 "")]
     else if decide (ws.getD 0 "" ∈ plN) && decide (ws.getD 2 "" ∈ plN) then some [.str "copy", .int n, .str (ws.getD 0 ""), .str (ws.getD 2 "")] else none)
  else none
def spPlain (K : PySem.W.Frag) : Sp := fun vs H Q E => ∃ (p : Addr) (ws : List Str) (n : Nat), vs = [.ref p, .int (n : Int)] ∧ SqL K H p (ws.map V.str) ∧ ws ≠ [] ∧ ws.all PyData.strOk = true ∧ (plainRow ws n = none → ∀ H', Same H H' → Q .non H') ∧ (∀ us, plainRow ws n = some us → ∀ t H', Same H H' → H t = none → H' t = some (.tup us) → Q (.ref t) H')
theorem ok_plain_row (T : Tx P w K mg) : FnX P w K mg base CX0 1 "plain_row" ["words", "line"] [] (spPlain K) := by
  refine T.d_plain_row.ok0 sc_plain_row (fun _ _ _ _ _ _ us hl => match us, hl with | [_, _], _ => rfl) (fun vs H Q E h => ?_) (fun f cdv A outer s H vs Q E hr h => ⟨_, (by exact (pss_cons (ps_if (PW.pt (pw_and (pt_cmpR op_eq (pe_ix ix_list (pv 0) pe_int (fun _ _ => rfl)) pe_str (nomark _)) (pw_and (pt_cmpR op_eq (pe_callB call_len_seq (by rfl) T.b_len (by decide +kernel) (pa_cons (pv 0) pa_nil)) pe_int (nomark _)) (pw_and1 (pt_cmpR op_in_seq (pe_ix ix_list (pv 0) pe_int (fun _ _ => rfl)) (pe_gref T.g_ID_NAMES) (by rfl)))))) (pss_one (ps_ret (pe_tup (pa_cons pe_str (pa_cons (pv 1) (pa_cons (pe_ix ix_list (pv 0) pe_int (fun _ _ => rfl)) pa_nil)))))) pss_nil)
      (pss_cons (ps_if (pt_cmpR (op_eqD hr.units) (pv 0) (pe_lst (pa_cons pe_str pa_nil)) (nomark _)) (pss_one (ps_ret (pe_tup (pa_cons pe_str (pa_cons (pv 1) pa_nil))))) pss_nil)
      (pss_cons (ps_if (pt_cmpR (op_inT hr.u65) (pv 0) (pe_tup (pa_cons (pe_lst (pa_cons pe_str (pa_cons pe_str pa_nil))) (pa_cons (pe_lst (pa_cons pe_str (pa_cons pe_str pa_nil))) pa_nil))) (by rfl)) (pss_one (ps_ret (pe_tup (pa_cons pe_str (pa_cons (pv 1) (pa_cons (pe_ix ix_list (pv 0) pe_int (fun _ _ => rfl)) pa_nil)))))) pss_nil)
      (pss_cons (ps_if (PW.pt (pw_and (pt_cmpR op_eq (pe_callB call_len_seq (by rfl) T.b_len (by decide +kernel) (pa_cons (pv 0) pa_nil)) pe_int (nomark _)) (pw_and (pt_cmpR op_eq (pe_ix ix_list (pv 0) pe_int (fun _ _ => rfl)) pe_str (nomark _)) (pw_and1 (pt_cmpR op_ne (pe_ix ix_list (pv 0) pe_int (fun _ _ => rfl)) (pe_ix ix_list (pv 0) pe_int (fun _ _ => rfl)) (nomark _)))))) (pss_one (ps_for PassesOwn.never rfl (pi_tup (pe_tup (pa_cons (pe_gref T.g_ID_NAMES) (pa_cons (pe_gref T.g_PLACE_NAMES) pa_nil)))) (pg_name (i := 2) sc_plain_row.nd rfl (Or.inl rfl))
        (pss_one (ps_if (PW.pt (pw_and (pt_cmpR op_in_seq (pe_ix ix_list (pv 0) pe_int (fun _ _ => rfl)) (pv 2) (by rfl)) (pw_and1 (pt_cmpR op_in_seq (pe_ix ix_list (pv 0) pe_int (fun _ _ => rfl)) (pv 2) (by rfl))))) (pss_one (ps_ret (pe_tup (pa_cons pe_str (pa_cons (pv 1) (pa_cons (pe_ix ix_list (pv 0) pe_int (fun _ _ => rfl)) (pa_cons (pe_ix ix_list (pv 0) pe_int (fun _ _ => rfl)) pa_nil))))))) pss_nil)))) pss_nil)
      (pss_one (ps_ret pe_non))))))), ?_⟩)
  · obtain ⟨p, ws, n, rfl, _⟩ := h
    rfl
  obtain ⟨p, ws, n, rfl, hp, hne, hok, h0, h1⟩ := h
  unfold plainRow at h0 h1
  have V0 : ∀ H x, EvE (tVar 0) [some (.ref p), some (.int (n : Int)), x] H (.ref p) := fun H x => ev_var rfl
  have V1 : ∀ H x, EvE (tVar 1) [some (.ref p), some (.int (n : Int)), x] H (.int n) := fun H x => ev_var rfl
  have ln : ∀ {H1 : Hp} {m : Nat}, Same H H1 → EvT (tTest (tOp rEq (tCB (fun xs H Q => ∃ p ys, xs = [V.ref p] ∧ (SqL K H p ys ∨ SqT K H p ys) ∧ Q (.int (ys.length : Nat)) H) (tCons (tVar 0) tNil)) (tC (.int (m : Nat))))) [some (.ref p), some (.int (n : Int)), none] H1 (decide (ws.length = m)) := fun s1 => len_nat rfl (s1.sql hp)
  have wd : ∀ {H1 : Hp} {x : Option V} {i : Nat}, Same H H1 → i < ws.length → EvE (tOp (rIxL K) (tVar 0) (tC (.int (i : Nat)))) [some (.ref p), some (.int (n : Int)), x] H1 (.str (ws.getD i "")) := fun s1 hi => ev_word (V0 _ _) (s1.sql hp) hi
  show tSeq _ _ _ [some (.ref p), some (.int (n : Int)), none] H
  refine seq_if (ev_and (eq_str (wd (i := 0) (Same.rf H) (w0 hne)) fun _ _ => ev_C) fun _ H1 s1 => ev_and (ln (m := 2) s1) fun g2 H2 s2 => ev_test (ev_in (ns := idN) (wd (i := 1) (s1.tr s2) (by simp at g2; omega)) (in_top T.t_ID_NAMES))) (fun g H1 s1 => ?_) (fun g H1 s1 => ?_)
  · have g2 := g
    simp only [Bool.and_eq_true, decide_eq_true_eq] at g2
    refine mk_tup (ev_cons ev_C fun H2 s2 => ev_cons (V1 _ _) fun H3 s3 => ev_cons (wd (i := 1) ((s1.tr s2).tr s3) (by omega)) fun _ _ => ev_nil) (fun H2 t s2 hn ht => ?_)
    exact h1 _ (by rw [if_pos g]) t H2 (s1.tr s2) (none_of s1 hn) ht
  rw [if_neg (by rw [g]; exact Bool.false_ne_true)] at h0 h1
  refine seq_if (ev_eqL (zs := ["leave"]) (V0 _ _) (s1.sql hp) hok (fun H => ev_cons ev_C fun _ _ => ev_nil) (by decide +kernel)) (fun g H2 s2 => ?_) (fun g H2 s2 => ?_)
  · refine mk_tup (ev_cons ev_C fun H2 s2 => ev_cons (V1 _ _) fun H3 s3 => ev_nil) (fun H3 t s3 hn ht => ?_)
    exact h1 _ (by rw [if_pos g]) t H3 ((s1.tr s2).tr s3) (none_of (s1.tr s2) hn) ht
  rw [if_neg (by rw [g]; exact Bool.false_ne_true)] at h0 h1
  refine seq_if (ev_inL2 (zs := ["quit", "ok"]) (z2 := ["quit", "no"]) (V0 _ _) ((s1.tr s2).sql hp) hok (fun H => ev_cons ev_C fun _ _ => ev_cons ev_C fun _ _ => ev_nil) (fun H => ev_cons ev_C fun _ _ => ev_cons ev_C fun _ _ => ev_nil) (by decide +kernel) (by decide +kernel)) (fun g H3 s3 => ?_) (fun g H3 s3 => ?_)
  · have gl : 1 < ws.length := by
      simp only [Bool.or_eq_true, decide_eq_true_eq] at g
      rcases g with g | g <;> (rw [g]; decide)
    refine mk_tup (ev_cons ev_C fun H4 s4 => ev_cons (V1 _ _) fun H5 s5 => ev_cons (wd (i := 1) ((((s1.tr s2).tr s3).tr s4).tr s5) gl) fun _ _ => ev_nil) (fun H4 t s4 hn ht => ?_)
    exact h1 _ (by rw [if_pos g]) t H4 (((s1.tr s2).tr s3).tr s4) (none_of ((s1.tr s2).tr s3) hn) ht
  rw [if_neg (by rw [g]; exact Bool.false_ne_true)] at h0 h1
  have s03 := (s1.tr s2).tr s3
  refine seq_if (ev_and (ln (m := 3) s03) fun g2 H4 s4 => ev_and (eq_str (wd (i := 1) (s03.tr s4) (by simp at g2; omega)) fun _ _ => ev_C) fun _ H5 s5 => ne_str (wd (i := 0) ((s03.tr s4).tr s5) (w0 hne)) fun H6 s6 => wd (i := 2) (((s03.tr s4).tr s5).tr s6) (by simp at g2; omega)) (fun g H4 s4 => ?_) (fun g H4 s4 => ?_)
  · rw [if_pos g] at h0 h1
    have g2 := g
    simp only [Bool.and_eq_true, decide_eq_true_eq] at g2
    have s05 := s03.tr s4
    refine for_disp (xs := [.ref (He.ga K "ID_NAMES"), .ref (He.ga K "PLACE_NAMES")]) (fun i σ H6 => Same H4 H6 ∧ (∃ x, σ = [some (.ref p), some (.int (n : Int)), x]) ∧ (1 ≤ i → (decide (ws.getD 0 "" ∈ idN) && decide (ws.getD 2 "" ∈ idN)) = false) ∧ (2 ≤ i → (decide (ws.getD 0 "" ∈ plN) && decide (ws.getD 2 "" ∈ plN)) = false)) (ev_cons ev_C fun _ _ => ev_cons ev_C fun _ _ => ev_nil) (fun H1 s => ⟨s, ⟨_, rfl⟩, fun z => by omega, fun z => by omega⟩) (fun i σ H6 k => k.1) ?_ ?_
    · rintro i x σ H6 hx ⟨s6, ⟨y, rfl⟩, k1, k2⟩ t9 ht9
      match i, hx with
      | 0, hx =>
        obtain rfl : V.ref (He.ga K "ID_NAMES") = x := Option.some.inj hx
        have vN : ∀ H, EvE (tVar 2) [some (.ref p), some (.int (n : Int)), some (.ref (He.ga K "ID_NAMES"))] H (.ref (He.ga K "ID_NAMES")) := fun H => ev_var rfl
        have inN : ∀ H1, ∀ Q : VK, (∀ H2 q, Same H1 H2 → SqL K H2 q (idN.map V.str) ∨ SqT K H2 q (idN.map V.str) → Q (.ref q) H2) → (tVar 2) [some (.ref p), some (.int (n : Int)), some (.ref (He.ga K "ID_NAMES"))] H1 Q := fun H1 Q k => ⟨_, rfl, k H1 _ (Same.rf _) (.inr (T.t_ID_NAMES _))⟩
        show tIfS _ _ _ _ [some (.ref p), some (.int (n : Int)), some (.ref (He.ga K "ID_NAMES"))] H6
        refine do_if (ev_and (ev_test (ev_in (ns := idN) (wd (i := 0) (s05.tr s6) (w0 hne)) fun H1 _ => inN H1)) fun _ H7 s7 => ev_test (ev_in (ns := idN) (wd (i := 2) ((s05.tr s6).tr s7) (by omega)) fun H1 _ => inN H1)) (fun q H7 s7 => ?_) (fun q H7 s7 => ?_)
        · refine mk_tup (ev_cons ev_C fun H8 s8 => ev_cons (V1 _ _) fun H9 s9 => ev_cons (wd (i := 0) ((((s05.tr s6).tr s7).tr s8).tr s9) (w0 hne)) fun Ha sa => ev_cons (wd (i := 2) (((((s05.tr s6).tr s7).tr s8).tr s9).tr sa) (by omega)) fun _ _ => ev_nil) (fun H8 t s8 hn ht => ?_)
          exact h1 _ (by rw [if_pos q]) t H8 (((s05.tr s6).tr s7).tr s8) (none_of ((s05.tr s6).tr s7) hn) ht
        · exact ⟨⟨s6.tr s7, ⟨_, rfl⟩, fun _ => q, fun z => by omega⟩, s7.seqT ht9⟩
      | 1, hx =>
        obtain rfl : V.ref (He.ga K "PLACE_NAMES") = x := Option.some.inj hx
        have inN : ∀ H1, ∀ Q : VK, (∀ H2 q, Same H1 H2 → SqL K H2 q (plN.map V.str) ∨ SqT K H2 q (plN.map V.str) → Q (.ref q) H2) → (tVar 2) [some (.ref p), some (.int (n : Int)), some (.ref (He.ga K "PLACE_NAMES"))] H1 Q := fun H1 Q k => ⟨_, rfl, k H1 _ (Same.rf _) (.inr (T.t_PLACE_NAMES _))⟩
        show tIfS _ _ _ _ [some (.ref p), some (.int (n : Int)), some (.ref (He.ga K "PLACE_NAMES"))] H6
        refine do_if (ev_and (ev_test (ev_in (ns := plN) (wd (i := 0) (s05.tr s6) (w0 hne)) fun H1 _ => inN H1)) fun _ H7 s7 => ev_test (ev_in (ns := plN) (wd (i := 2) ((s05.tr s6).tr s7) (by omega)) fun H1 _ => inN H1)) (fun q H7 s7 => ?_) (fun q H7 s7 => ?_)
        · refine mk_tup (ev_cons ev_C fun H8 s8 => ev_cons (V1 _ _) fun H9 s9 => ev_cons (wd (i := 0) ((((s05.tr s6).tr s7).tr s8).tr s9) (w0 hne)) fun Ha sa => ev_cons (wd (i := 2) (((((s05.tr s6).tr s7).tr s8).tr s9).tr sa) (by omega)) fun _ _ => ev_nil) (fun H8 t s8 hn ht => ?_)
          exact h1 _ (by rw [if_neg (by rw [k1 (by omega)]; exact Bool.false_ne_true), if_pos q]) t H8 (((s05.tr s6).tr s7).tr s8) (none_of ((s05.tr s6).tr s7) hn) ht
        · exact ⟨⟨s6.tr s7, ⟨_, rfl⟩, fun _ => k1 (by omega), fun _ => q⟩, s7.seqT ht9⟩
    · rintro σ H6 ⟨s6, ⟨y, rfl⟩, k1, k2⟩
      exact h0 (by rw [if_neg (by rw [k1 (Nat.le_of_ble_eq_true rfl)]; exact Bool.false_ne_true), if_neg (by rw [k2 (Nat.le_of_ble_eq_true rfl)]; exact Bool.false_ne_true)]) H6 (s05.tr s6)
  · rw [if_neg (by rw [g]; exact Bool.false_ne_true)] at h0
    exact h0 rfl H4 (s03.tr s4)
end
end K59


set_option Elab.async false
set_option linter.all false
set_option maxRecDepth 100000
set_option maxHeartbeats 4000000
namespace K59
open PySem PySem.Spec PyProof.Rows L2
/-- rows of a deed, as read -/
inductive PT
  | nil
  | plain (vs : List V) (rest : PT)
  | step (line : Nat) (word : Str) (one place : Option Str) (blocks rest : PT)
  | blk (outcome : Str) (line : Nat) (rows rest : PT)
def PT.app : PT → PT → PT
  | .nil, t => t
  | .plain vs r, t => .plain vs (r.app t)
  | .step l w o p b r, t => .step l w o p b (r.app t)
  | .blk o l rs r, t => .blk o l rs (r.app t)
/-- the rows lie in the heap as tuples and lists, all at addresses of F -/
def RepR (F : Addr → Prop) (H : Hp) : PT → List V → Prop
  | .nil, xs => xs = []
  | .plain vs rest, xs => ∃ a ys, xs = .ref a :: ys ∧ F a ∧ H a = some (.tup vs) ∧ RepR F H rest ys
  | .step l w o p b rest, xs => ∃ a ba bs ys, xs = .ref a :: ys ∧ F a ∧ H a = some (.tup [.str "step", .int (l : Nat), .str w, oS o, oS p, .ref ba]) ∧ F ba ∧ H ba = some (.tup bs) ∧ RepR F H b bs ∧ RepR F H rest ys
  | .blk o l rows rest, xs => ∃ a ra rs ys, xs = .ref a :: ys ∧ F a ∧ H a = some (.tup [.str o, .int (l : Nat), .ref ra]) ∧ F ra ∧ H ra = some (.lst rs) ∧ RepR F H rows rs ∧ RepR F H rest ys
theorem RepR.up {F F' : Addr → Prop} {H H' : Hp} (hf : ∀ a, F a → F' a) (hs : ∀ a o, F a → H a = some o → H' a = some o) : ∀ (t : PT) (xs : List V), RepR F H t xs → RepR F' H' t xs
  | .nil, _, h => h
  | .plain vs rest, _, ⟨a, ys, e, fa, ha, h⟩ => ⟨a, ys, e, hf a fa, hs _ _ fa ha, up hf hs rest ys h⟩
  | .step l w o p b rest, _, ⟨a, ba, bs, ys, e, fa, ha, fb, hb, h1, h2⟩ => ⟨a, ba, bs, ys, e, hf a fa, hs _ _ fa ha, hf _ fb, hs _ _ fb hb, up hf hs b bs h1, up hf hs rest ys h2⟩
  | .blk o l rows rest, _, ⟨a, ba, bs, ys, e, fa, ha, fb, hb, h1, h2⟩ => ⟨a, ba, bs, ys, e, hf a fa, hs _ _ fa ha, hf _ fb, hs _ _ fb hb, up hf hs rows bs h1, up hf hs rest ys h2⟩
theorem RepR.app {F : Addr → Prop} {H : Hp} : ∀ (s t : PT) (xs ys : List V), RepR F H s xs → RepR F H t ys → RepR F H (s.app t) (xs ++ ys)
  | .nil, t, xs, ys, h, k => by cases (show xs = [] from h); exact k
  | .plain vs rest, t, _, ys, ⟨a, zs, e, fa, ha, h⟩, k => by subst e; exact ⟨a, zs ++ ys, rfl, fa, ha, app rest t zs ys h k⟩
  | .step l w o p b rest, t, _, ys, ⟨a, ba, bs, zs, e, fa, ha, fb, hb, h1, h2⟩, k => by subst e; exact ⟨a, ba, bs, zs ++ ys, rfl, fa, ha, fb, hb, h1, app rest t zs ys h2 k⟩
  | .blk o l rows rest, t, _, ys, ⟨a, ba, bs, zs, e, fa, ha, fb, hb, h1, h2⟩, k => by subst e; exact ⟨a, ba, bs, zs ++ ys, rfl, fa, ha, fb, hb, h1, app rest t zs ys h2 k⟩
def spS : Str := Str.ofString " "
def words (z : Str) : List Str := Txt.split z spS
theorem words_ne (z : Str) : words z ≠ [] := fun e => by
  have h := fact_split z spS
  unfold words at e
  rw [e] at h
  exact absurd h.1 (by decide)
def outs (w : Str) : List Str :=
  if w = "find" then ["there", "none"] else if w = "look" then ["held", "stale"] else if w = "lay" then ["laid", "full"] else if w = "give" then ["given", "out"]
  else if w = "free" then ["freed", "unlent"] else if w = "strike" then ["struck", "bare"] else if w = "stretch" then ["stretched", "full", "bare"] else []
def begins : List Str → Bool
  | [] => false
  | t :: _ => decide ((words t).getD 0 "" = "on") && decide ((words t).length = 2)
inductive Res
  | err (k : Nat)
  | ok (t : PT) (ls : List Str) (n : Nat)
def Res.pre (f : PT → PT) : Res → Res
  | .err k => .err k
  | .ok t ls n => .ok (f t) ls n
inductive Md
  | rows (inner : Bool)
  | blocks (w : Str) (seen : List Str)
def endW : List Str := ["end"]
inductive Rd : Md → List Str → Nat → Res → Prop
  | eof {n} : Rd (.rows false) [] n (.ok .nil [] n)
  | eofI {n} : Rd (.rows true) [] n (.err (n + 1))
  | fin {t r n} : words t = endW → Rd (.rows true) (t :: r) n (.ok .nil (t :: r) n)
  | bad {i t r n} : ¬ (i = true ∧ words t = endW) → stepOf (words t) = none → plainRow (words t) (n + 1) = none → Rd (.rows i) (t :: r) n (.err (n + 1))
  | plain {i t r n vs R} : ¬ (i = true ∧ words t = endW) → stepOf (words t) = none → plainRow (words t) (n + 1) = some vs → Rd (.rows i) r (n + 1) R → Rd (.rows i) (t :: r) n (R.pre (.plain vs))
  | stepE {i t r n a b c k} : ¬ (i = true ∧ words t = endW) → stepOf (words t) = some (a, b, c) → Rd (.blocks a []) r (n + 1) (.err k) → Rd (.rows i) (t :: r) n (.err k)
  | step {i t r n a b c bl r2 n2 R} : ¬ (i = true ∧ words t = endW) → stepOf (words t) = some (a, b, c) → Rd (.blocks a []) r (n + 1) (.ok bl r2 n2) → Rd (.rows i) r2 n2 R → Rd (.rows i) (t :: r) n (R.pre (.step (n + 1) a b c bl))
  | noB {w seen ls n} : begins ls = false → Rd (.blocks w seen) ls n (.ok .nil ls n)
  | badB {w seen t r n} : begins (t :: r) = true → ((words t).getD 1 "" ∉ outs w ∨ (words t).getD 1 "" ∈ seen) → Rd (.blocks w seen) (t :: r) n (.err (n + 1))
  | blkE {w seen t r n k} : begins (t :: r) = true → ¬ ((words t).getD 1 "" ∉ outs w ∨ (words t).getD 1 "" ∈ seen) → Rd (.rows true) r (n + 1) (.err k) → Rd (.blocks w seen) (t :: r) n (.err k)
  | blk {w seen t r n rs e r2 n2 R} : begins (t :: r) = true → ¬ ((words t).getD 1 "" ∉ outs w ∨ (words t).getD 1 "" ∈ seen) → Rd (.rows true) r (n + 1) (.ok rs (e :: r2) n2) → Rd (.blocks w (seen ++ [(words t).getD 1 ""])) r2 (n2 + 1) R → Rd (.blocks w seen) (t :: r) n (R.pre (.blk ((words t).getD 1 "") (n + 1) rs))
/-- what is left are the lines from the number on -/
theorem Rd.adv {md : Md} {ls : List Str} {n : Nat} {R : Res} (h : Rd md ls n R) : ∀ t ls' n', R = .ok t ls' n' → ∃ j, j ≤ ls.length ∧ ls' = ls.drop j ∧ n' = n + j := by
  induction h with
  | eof => rintro t ls' n' ⟨⟩; exact ⟨0, by simp, rfl, rfl⟩
  | fin => rintro t ls' n' ⟨⟩; exact ⟨0, by simp, rfl, rfl⟩
  | noB => rintro t ls' n' ⟨⟩; exact ⟨0, by simp, rfl, rfl⟩
  | eofI => intro t ls' n' e; cases e
  | bad => intro t ls' n' e; cases e
  | stepE => intro t ls' n' e; cases e
  | badB => intro t ls' n' e; cases e
  | blkE => intro t ls' n' e; cases e
  | @plain i t r n vs R _ _ _ _ ih =>
    intro t' ls' n' e
    cases R with
    | err k => cases e
    | ok u l m =>
      cases e
      obtain ⟨j, h1, h2, h3⟩ := ih u ls' n' rfl
      exact ⟨j + 1, by simpa using h1, by simpa using h2, by omega⟩
  | @step i t r n a b c bl r2 n2 R _ _ _ _ ih1 ih2 =>
    intro t' ls' n' e
    cases R with
    | err k => cases e
    | ok u l m =>
      cases e
      obtain ⟨j, h1, h2, h3⟩ := ih2 u ls' n' rfl
      obtain ⟨j1, h4, h5, h6⟩ := ih1 bl r2 n2 rfl
      subst h5 h6
      rw [List.length_drop] at h1
      exact ⟨1 + j1 + j, by simp; omega, by rw [h2, List.drop_drop]; show _ = List.drop _ _; rw [show 1 + j1 + j = (j1 + j) + 1 by omega, List.drop_succ_cons], by omega⟩
  | @blk w seen t r n rs e r2 n2 R _ _ _ _ ih1 ih2 =>
    intro t' ls' n' q
    cases R with
    | err k => cases q
    | ok u l m =>
      cases q
      obtain ⟨j, h1, h2, h3⟩ := ih2 u ls' n' rfl
      obtain ⟨j1, h4, h5, h6⟩ := ih1 rs (e :: r2) n2 rfl
      have h7 : r2 = r.drop (j1 + 1) := by rw [← List.drop_drop, ← h5]; rfl
      have h8 : (r.drop j1).length = (e :: r2).length := by rw [← h5]
      rw [List.length_drop, List.length_cons] at h8
      subst h6 h7
      rw [List.length_drop] at h1 h8
      exact ⟨1 + (j1 + 1) + j, by simp; omega, by rw [h2, List.drop_drop]; show _ = List.drop _ _; rw [show 1 + (j1 + 1) + j = (j1 + 1 + j) + 1 by omega, List.drop_succ_cons], by omega⟩
/-- an inner reading ends at an end -/
theorem Rd.inner {md : Md} {ls : List Str} {n : Nat} {R : Res} (h : Rd md ls n R) : md = .rows true → ∀ t ls' n', R = .ok t ls' n' → ∃ e r, ls' = e :: r := by
  induction h with
  | eof => rintro ⟨⟩
  | fin => rintro _ t ls' n' ⟨⟩; exact ⟨_, _, rfl⟩
  | noB => rintro ⟨⟩
  | eofI => intro _ t ls' n' e; cases e
  | bad => intro _ t ls' n' e; cases e
  | stepE => intro _ t ls' n' e; cases e
  | badB => intro _ t ls' n' e; cases e
  | blkE => intro _ t ls' n' e; cases e
  | @plain i t r n vs R _ _ _ _ ih =>
    intro e t' ls' n' q
    cases R with
    | err k => cases q
    | ok u l m => cases q; exact ih e u ls' n' rfl
  | @step i t r n a b c bl r2 n2 R _ _ _ _ ih1 ih2 =>
    intro e t' ls' n' q
    cases R with
    | err k => cases q
    | ok u l m => cases q; exact ih2 e u ls' n' rfl
  | @blk w seen t r n rs e r2 n2 R _ _ _ _ ih1 ih2 => rintro ⟨⟩
section
variable {P : Program} {w : World} {K : PySem.W.Frag} {mg : Str → Option Value} {base : Heap}
abbrev cR (K : PySem.W.Frag) : Addr := He.ga K "DeedReader"
def rF (l : Addr) (n : Nat) : List (Str × V) := [("texts", .ref l), ("line", .int (n : Nat))]
/-- a reader of the texts ts at line n -/
structure RdAt (K : PySem.W.Frag) (H : Hp) (x dx l : Addr) (ts : List Str) (n : Nat) : Prop where
  i : H x = some (.ins (cR K) dx (rF l n))
  l : H l = some (.lst (ts.map V.str))
  le : n ≤ ts.length
theorem RdAt.up {H H' : Hp} {x dx l : Addr} {ts : List Str} {n : Nat} (r : RdAt K H x dx l ts n) (s : Same H H') : RdAt K H' x dx l ts n := ⟨s _ _ r.i, s _ _ r.l, r.le⟩
theorem RdAt.lx {H : Hp} {x dx l : Addr} {ts : List Str} {n : Nat} (r : RdAt K H x dx l ts n) : l ≠ x := fun e => by
  have h := r.l
  rw [e, r.i] at h
  cases h
def TsOk (ts : List Str) : Prop := ts.length ≤ 1000 ∧ ∀ t ∈ ts, t.length ≤ 100000 ∧ (words t).all PyData.strOk = true
def spWords (K : PySem.W.Frag) : Sp := fun vs H Q E => ∃ (x dx l : Addr) (ts : List Str) (n : Nat), vs = [.ref x] ∧ RdAt K H x dx l ts n ∧ TsOk ts ∧
  (ts.drop n = [] → ∀ H', Same H H' → Q .non H') ∧ (∀ t r, ts.drop n = t :: r → ∀ q H', Same H H' → H q = none → H' q = some (.lst ((words t).map V.str)) → Q (.ref q) H')
theorem ok_words (T : Tx P w K mg) : MeX P w K mg base (L2.CX P w) 1 (cR K) "words" ["self"] [] (spWords K) := by
  refine MetX.okX T.m_DeedReader_words sc_DeedReader_words (fun _ _ _ _ _ _ us hl => match us, hl with | [_], _ => rfl) (fun vs H Q E h => ?_) (fun f cdv A outer s H vs Q E hr h => ⟨_, (by exact (pss_one (ps_ret (pe_ifExp (pt_cmpR op_lt (pe_fld (pv 0) rfl) (pe_callB call_len_seq (by rfl) T.b_len (by decide +kernel) (pa_cons (pe_fld (pv 0) rfl) pa_nil)) (nomark _)) (pe_split (pe_ix ix_list (pe_fld (pv 0) rfl) (pe_fld (pv 0) rfl) (fun _ _ => rfl)) pe_str) pe_non)))), ?_⟩)
  · obtain ⟨x, dx, l, ts, n, rfl, _⟩ := h
    rfl
  obtain ⟨x, dx, l, ts, n, rfl, r, hts, h0, h1⟩ := h
  have V0 : ∀ H, EvE (tVar 0) (start ["self"] [.ref x]) H (.ref x) := fun H => ev_var rfl
  have L1 : ∀ {H1}, Same H H1 → EvE (tFld K (tVar 0) "texts") (start ["self"] [.ref x]) H1 (.ref l) := fun s1 => ev_fld (V0 _) (s1 _ _ r.i) T.cl_DeedReader T.na_DeedReader_texts rfl
  have L2 : ∀ {H1}, Same H H1 → EvE (tFld K (tVar 0) "line") (start ["self"] [.ref x]) H1 (.int n) := fun s1 => ev_fld (V0 _) (s1 _ _ r.i) T.cl_DeedReader T.na_DeedReader_line rfl
  refine ev_test (ev_lt (L2 (Same.rf H)) fun H1 s1 => ev_len (K := K) (ev_cons (L1 s1) fun _ _ => ev_nil) (.inl (s1.sql (.inl (.inl r.l))))) _ fun H1 s1 => ?_
  refine iteB (fun g => ?_) (fun g => ?_)
  · have g1 : n < ts.length := by simpa using g
    have hd : ts.drop n = ts[n] :: ts.drop (n + 1) := List.drop_eq_getElem_cons g1
    have hm : ts[n] ∈ ts := List.getElem_mem g1
    refine do_split (z := ts[n]) (ev_ixL (L1 s1) (fun H2 s2 => L2 (s1.tr s2)) (s1.sql (.inl (.inl r.l))) ?_) (by decide +kernel) (by have := (hts.2 _ hm).1; have q9 : sizeLine = 16777216 := sizeLine_eq; omega) (fun H2 q s2 hq hl => ?_)
    · refine atI_nat ?_
      rw [List.getElem?_map, List.getElem?_eq_getElem g1]
      rfl
    · exact h1 _ _ hd q H2 (s1.tr s2) (none_of s1 hq) hl
  · have g1 : ¬ n < ts.length := by simpa using g
    exact h0 (List.drop_eq_nil_of_le (by omega)) H1 s1
def spBegins (K : PySem.W.Frag) : Sp := fun vs H Q E => ∃ (x dx l : Addr) (ts : List Str) (n : Nat), vs = [.ref x] ∧ RdAt K H x dx l ts n ∧ TsOk ts ∧ (∀ H', Same H H' → Q (.bl (begins (ts.drop n))) H')
theorem ok_begins (T : Tx P w K mg) : MeX P w K mg base (L2.CX P w) 2 (cR K) "begins_block" ["self"] [] (spBegins K) := by
  have F_DeedReader_words := ok_words (base := base) T
  refine MetX.okX T.m_DeedReader_begins_block sc_DeedReader_begins_block (fun _ _ _ _ _ _ us hl => match us, hl with | [_], _ => rfl) (fun vs H Q E h => ?_) (fun f cdv A outer s H vs Q E hr h => ⟨_, (by exact (pss_cons (ps_set (i := 1) sc_DeedReader_begins_block.nd rfl (Or.inl rfl) (pe_methX0 F_DeedReader_words (hr.mono (by first | decide | omega)) passOut (pv 0)))
      (pss_one (ps_ret (pe_and (pe_cmpR op_notN (pv 1) pe_non (nomark _)) (pe_and (pe_cmpR op_eq (pe_ix ix_list (pv 1) pe_int (fun _ _ => rfl)) pe_str (nomark _)) (pe_one (pe_cmpR op_eq (pe_callB call_len_seq (by rfl) T.b_len (by decide +kernel) (pa_cons (pv 1) pa_nil)) pe_int (nomark _))))))))), ?_⟩)
  · obtain ⟨x, dx, l, ts, n, rfl, _⟩ := h
    rfl
  obtain ⟨x, dx, l, ts, n, rfl, r, hts, h0⟩ := h
  refine ⟨_, rfl, x, dx, _, rfl, r.i, rfl, x, dx, l, ts, n, rfl, r, hts, (fun e H' s1 => ?_), (fun t rr e q H' s1 hq hl => ?_)⟩
  · rw [e] at h0
    exact ⟨_, rfl, rfl, _, rfl, iteF (h0 _ s1)⟩
  · rw [e] at h0
    have V1 : ∀ H, EvE (tVar 1) [some (.ref x), some (.ref q)] H (.ref q) := fun H => ev_var rfl
    refine ⟨_, rfl, rfl, _, rfl, iteT ?_⟩
    have k1 := ev_eq (ev_word (K := K) (i := 0) (V1 H') (.inl (.inl hl)) (w0 (words_ne t))) (fun H1 _ => ev_C (v := .str "on")) rfl
    have k2 : ∀ H1, Same H' H1 → EvE (tOp rEq (tCB (fun xs H Q => ∃ p ys, xs = [V.ref p] ∧ (SqL K H p ys ∨ SqT K H p ys) ∧ Q (.int (ys.length : Nat)) H) (tCons (tVar 1) tNil)) (tC (.int (2 : Nat)))) [some (.ref x), some (.ref q)] H1 (.bl (decide (V.int (((words t).map V.str).length : Nat) = .int (2 : Nat)))) := fun H1 s2 => ev_eq (ev_len (K := K) (ev_cons (V1 _) fun _ _ => ev_nil) (.inl (s2.sql (.inl (.inl hl))))) (fun _ _ => ev_C) rfl
    refine ev_andV k1 (fun _ H1 s2 => k2 H1 s2) Q fun H2 s2 => ?_
    have e1 : (decide (V.str ((words t).getD 0 "") = V.str "on") && decide (V.int (((words t).map V.str).length : Nat) = V.int (2 : Nat))) = begins (t :: rr) := by
      rw [dcS, dcN, List.length_map]
      rfl
    rw [e1]
    exact h0 H2 (s1.tr s2)
end
end K59


set_option Elab.async false
set_option linter.all false
set_option maxRecDepth 100000
set_option maxHeartbeats 4000000
namespace K59
open PySem PySem.Spec PyProof.Rows L2
def stW : List Str := ["find", "look", "lay", "give", "free", "strike", "stretch"]
def PT.os : PT → List Str
  | .blk o _ _ r => o :: r.os
  | _ => []
def PT.isB : PT → Prop
  | .nil => True
  | .blk _ _ _ r => r.isB
  | _ => False
theorem app_os : ∀ (s t : PT), s.isB → (s.app t).os = s.os ++ t.os
  | .nil, t, _ => rfl
  | .blk o l rs r, t, h => by show o :: (r.app t).os = _; rw [app_os r t h]; rfl
  | .plain _ _, _, h => h.elim
  | .step _ _ _ _ _ _, _, h => h.elim
theorem app_isB : ∀ (s t : PT), s.isB → t.isB → (s.app t).isB
  | .nil, t, _, h => h
  | .blk o l rs r, t, h, k => app_isB r t h k
  | .plain _ _, _, h, _ => h.elim
  | .step _ _ _ _ _ _, _, h, _ => h.elim
theorem app_assoc : ∀ (s t u : PT), (s.app t).app u = s.app (t.app u)
  | .nil, _, _ => rfl
  | .plain _ r, t, u => by show PT.plain _ _ = PT.plain _ _; rw [app_assoc r t u]
  | .step _ _ _ _ _ r, t, u => by show PT.step _ _ _ _ _ _ = PT.step _ _ _ _ _ _; rw [app_assoc r t u]
  | .blk _ _ _ r, t, u => by show PT.blk _ _ _ _ = PT.blk _ _ _ _; rw [app_assoc r t u]
theorem pre_pre (R : Res) (f g : PT → PT) : (R.pre f).pre g = R.pre (fun t => g (f t)) := by cases R <;> rfl
theorem rep_blks {F : Addr → Prop} {H : Hp} : ∀ (t : PT) (xs : List V), t.isB → RepR F H t xs → xs.length = t.os.length ∧ ∀ (i : Nat) (v : V), xs[i]? = some v → ∃ (a : Addr) (o : Str) (l : Nat) (ra : Addr), v = V.ref a ∧ F a ∧ t.os[i]? = some o ∧ H a = some (.tup [.str o, .int (l : Nat), .ref ra])
  | .nil, xs, _, h => by
    cases (show xs = [] from h)
    exact ⟨rfl, fun i v e => by simp at e⟩
  | .blk o l rs r, _, hb, ⟨a, ra, zs, ys, e, fa, ha, _, _, _, hr⟩ => by
    subst e
    obtain ⟨h1, h2⟩ := rep_blks r ys hb hr
    refine ⟨by simp [PT.os, h1], fun i v e => ?_⟩
    cases i with
    | zero => exact ⟨a, o, l, ra, (by simpa using e.symm), fa, rfl, ha⟩
    | succ i => exact h2 i v (by simpa using e)
  | .plain _ _, _, h, _ => h.elim
  | .step _ _ _ _ _ _, _, h, _ => h.elim
section
variable {P : Program} {w : World} {K : PySem.W.Frag} {mg : Str → Option Value} {base : Heap}
theorem outsK (T : Tx P w K mg) : ∀ z ∈ stW, ∃ a, KDct K w (He.ga K "OUTCOMES") z (.ref a) ∧ ∀ H, SqT K H a ((outs z).map V.str) := by
  intro z hz
  simp only [stW, List.mem_cons, List.not_mem_nil, or_false] at hz
  rcases hz with rfl | rfl | rfl | rfl | rfl | rfl | rfl
  · exact T.k_OUTCOMES_find
  · exact T.k_OUTCOMES_look
  · exact T.k_OUTCOMES_lay
  · exact T.k_OUTCOMES_give
  · exact T.k_OUTCOMES_free
  · exact T.k_OUTCOMES_strike
  · exact T.k_OUTCOMES_stretch
theorem stepOf_stW {ws : List Str} {a : Str} {b c : Option Str} (h : stepOf ws = some (a, b, c)) : a ∈ stW := by
  unfold stepOf at h
  split at h
  · cases h; decide +kernel
  · split at h
    · rename_i g
      cases h
      simp only [Bool.and_eq_true, decide_eq_true_eq, List.mem_cons, List.not_mem_nil, or_false] at g
      rcases g.1 with e | e <;> (rw [e]; decide +kernel)
    · split at h
      · rename_i g
        cases h
        simp only [Bool.and_eq_true, decide_eq_true_eq, List.mem_cons, List.not_mem_nil, or_false] at g
        rcases g.1 with e | e | e | e <;> (rw [e]; decide +kernel)
      · cases h
abbrev Nn (H : Hp) : Addr → Prop := fun a => H a = none
abbrev ErrAt (K : PySem.W.Frag) (x : Addr) (H : Hp) (E : XK) (k : Nat) : Prop := ∀ d H', SameX x H H' → H' d = some (.xd [("line", .int (k : Nat))]) → E (.ref (He.ga K "BadLine")) (some d) H'
def spRows (K : PySem.W.Frag) (m : Nat) : Sp := fun vs H Q E => ∃ (x dx l : Addr) (ts : List Str) (n : Nat) (inner : Bool), vs = [.ref x, .bl inner] ∧ RdAt K H x dx l ts n ∧ TsOk ts ∧ ts.length - n < m ∧
  (∀ k, Rd (.rows inner) (ts.drop n) n (.err k) → ErrAt K x H E k) ∧
  (∀ t ls n', Rd (.rows inner) (ts.drop n) n (.ok t ls n') → ∀ q xs H', SameX x H H' → RdAt K H' x dx l ts n' → H q = none → H' q = some (.lst xs) → RepR (Nn H) H' t xs → Q (.ref q) H')
def spBlocks (K : PySem.W.Frag) (m : Nat) : Sp := fun vs H Q E => ∃ (x dx l : Addr) (ts : List Str) (n : Nat) (z : Str), vs = [.ref x, .str z] ∧ z ∈ stW ∧ RdAt K H x dx l ts n ∧ TsOk ts ∧ ts.length - n < m ∧
  (∀ k, Rd (.blocks z []) (ts.drop n) n (.err k) → ErrAt K x H E k) ∧
  (∀ t ls n', Rd (.blocks z []) (ts.drop n) n (.ok t ls n') → ∀ q xs H', SameX x H H' → RdAt K H' x dx l ts n' → H q = none → H' q = some (.tup xs) → RepR (Nn H) H' t xs → Q (.ref q) H')
def spRow (K : PySem.W.Frag) (m : Nat) : Sp := fun vs H Q E => ∃ (x dx l p : Addr) (ts : List Str) (n : Nat) (t : Str), vs = [.ref x, .ref p, .int (n : Nat)] ∧ RdAt K H x dx l ts n ∧ TsOk ts ∧ ts.length - n < m ∧ H p = some (.lst ((words t).map V.str)) ∧ (words t).all PyData.strOk = true ∧
  (stepOf (words t) = none → plainRow (words t) n = none → ErrAt K x H E n) ∧
  (stepOf (words t) = none → ∀ us, plainRow (words t) n = some us → ∀ q H', Same H H' → H q = none → H' q = some (.tup us) → Q (.ref q) H') ∧
  (∀ a b c, stepOf (words t) = some (a, b, c) → (∀ k, Rd (.blocks a []) (ts.drop n) n (.err k) → ErrAt K x H E k) ∧
    (∀ bl ls n', Rd (.blocks a []) (ts.drop n) n (.ok bl ls n') → ∀ q ba bs H', SameX x H H' → RdAt K H' x dx l ts n' → H q = none → H' q = some (.tup [.str "step", .int (n : Nat), .str a, oS b, oS c, .ref ba]) → H ba = none → H' ba = some (.tup bs) → RepR (Nn H) H' bl bs → Q (.ref q) H'))
theorem ok_row (T : Tx P w K mg) {m j : Nat} (hj : 1 ≤ j) (F_DeedReader_blocks : MeX P w K mg base (L2.CX P w) j (cR K) "blocks" ["self", "word"] [] (spBlocks K m)) :
    MeX P w K mg base (L2.CX P w) (j + 1) (cR K) "read_row" ["self", "words", "line"] [] (spRow K m) := by
  have F_step_of := ok_step_of (base := base) T
  have F_plain_row := ok_plain_row (base := base) T
  refine MetX.okX T.m_DeedReader_read_row sc_DeedReader_read_row (fun _ _ _ _ _ _ us hl => match us, hl with | [_, _, _], _ => rfl) (fun vs H Q E h => ?_) (fun f cdv A outer s H vs Q E hr h => ⟨_, (by exact (pss_cons (ps_set (i := 3) sc_DeedReader_read_row.nd rfl (Or.inl rfl) (pe_callX F_step_of (hr.mono (by first | decide | omega)) pass0 (pa_cons (pv 1) pa_nil)))
      (pss_cons (ps_if (pt_cmpR op_notN (pv 3) pe_non (nomark _)) (pss_one (ps_ret (pe_tup (pa_cons pe_str (pa_cons (pv 2) (StX.pa_star (pv 3) (pa_cons (pe_methX F_DeedReader_blocks (hr.mono (by first | decide | omega)) passOut (pv 0) (pa_cons (pe_ix ix_tup (pv 3) pe_int (fun _ _ => rfl)) pa_nil)) pa_nil))))))) pss_nil)
      (pss_cons (ps_set (i := 4) sc_DeedReader_read_row.nd rfl (Or.inl rfl) (pe_callX F_plain_row (hr.mono (by first | decide | omega)) pass0 (pa_cons (pv 1) (pa_cons (pv 2) pa_nil))))
      (pss_cons (ps_if (pt_cmpR op_isN (pv 4) pe_non (nomark _)) (pss_one (ps_raise rfl (takes_of rfl rfl rfl rfl) (pmk_err T.e_BadLine T.g_BadLine hr (pa_cons (pv 2) pa_nil)))) pss_nil)
      (pss_one (ps_ret (pv 4)))))))), ?_⟩)
  · obtain ⟨x, dx, l, p, ts, n, t, rfl, _⟩ := h
    rfl
  obtain ⟨x, dx, l, p, ts, n, t, rfl, r, hts, hm, hp, hok, h0, h1, h2⟩ := h
  refine ⟨_, rfl, p, words t, rfl, .inl (.inl hp), words_ne t, (fun e H' s1 => ?_), (fun a b c e q H' s1 hq => ?_)⟩
  · refine ⟨_, rfl, rfl, _, rfl, iteF ?_⟩
    refine ⟨_, rfl, _, rfl, p, words t, n, rfl, s1.sql (.inl (.inl hp)), words_ne t, hok, (fun e2 H2 s2 => ?_), (fun us e2 q H2 s2 hn hq => ?_)⟩
    · refine ⟨_, rfl, rfl, _, rfl, iteT ?_⟩
      exact ⟨_, rfl, rfl, (fun z => absurd z (by simp)), fun _ d hd => h0 e e2 d _ (((s1.tr s2).tr (Same.new hd)).x) upd_same⟩
    · refine ⟨_, rfl, rfl, _, rfl, iteF ?_⟩
      exact ⟨_, rfl, h1 e us e2 q H2 (s1.tr s2) (none_of s1 hn) hq⟩
  · obtain ⟨k1, k2⟩ := h2 a b c e
    refine ⟨_, rfl, rfl, _, rfl, iteT ?_⟩
    refine ⟨_, rfl, _, rfl, q, _, rfl, .inl (.inl (.inl hq)), _, rfl, x, dx, _, rfl, s1 _ _ r.i, rfl, _, rfl, q, _, _, _, rfl, rfl, .inl (.inl hq), rfl, ?_⟩
    refine ⟨x, dx, l, ts, n, a, rfl, stepOf_stW e, r.up s1, hts, hm, (fun k hk d H2 s2 hd => ?_), (fun bl ls n' hb ba bs H2 s2 r2 hn hba hrep => ?_)⟩
    · exact k1 k hk d H2 (s1.x.tr s2) hd
    · refine ⟨szL rfl, fun T hT => ?_⟩
      have hba0 : H ba = none := none_of s1 hn
      have hT0 : H T = none := by
        cases e9 : H T with
        | none => rfl
        | some o =>
          by_cases hx : T = x
          · rw [hx, r2.i] at hT; cases hT
          · rw [s2 T o hx (s1 _ _ e9)] at hT; cases hT
      have s3 : Same H2 (upd H2 T (.tup [.str "step", .int (n : Nat), .str a, oS b, oS c, .ref ba])) := Same.new hT
      exact k2 bl ls n' hb T ba bs _ ((s1.x.tr s2).tr s3.x) (r2.up s3) hT0 upd_same hba0 (s3 _ _ hba) (RepR.up (fun a h => none_of s1 h) (fun a o _ h => s3 _ _ h) bl bs hrep)
end
end K59


set_option Elab.async false
set_option linter.all false
set_option maxRecDepth 100000
set_option maxHeartbeats 4000000
namespace K59
open PySem PySem.Spec PyProof.Rows L2
section
variable {P : Program} {w : World} {K : PySem.W.Frag} {mg : Str → Option Value} {base : Heap}
theorem putL (l : Addr) (n : Nat) : putF "line" (.int ((n : Int) + 1)) (rF l n) = rF l (n + 1) := rfl
theorem RdAt.inc {H : Hp} {x dx l : Addr} {ts : List Str} {n : Nat} (r : RdAt K H x dx l ts n) (h : n < ts.length) : RdAt K (upd H x (.ins (cR K) dx (rF l (n + 1)))) x dx l ts (n + 1) := ⟨upd_same, by rw [upd_ne r.lx]; exact r.l, h⟩
/-- self.line += 1 -/
theorem do_inc (T : Tx P w K mg) {s : TS} {D : Ends} {σ : L2.St} {H : Hp} {x dx l : Addr} {ts : List Str} {n : Nat} (hv : σ[0]? = some (some (.ref x))) (r : RdAt K H x dx l ts n) (k : s D σ (upd H x (.ins (cR K) dx (rF l (n + 1))))) : tSeq (sFldAug K (tVar 0) (tC (.int 1)) rAdd "line") s D σ H :=
  ⟨_, hv, x, cR K, dx, _, _, rfl, r.i, T.cl_DeedReader, T.na_DeedReader_line, rfl, _, _, rfl, rfl, dx, _, r.i, (by show 2 < 1000; decide), k⟩
theorem ok_rows (T : Tx P w K mg) {m j : Nat} (hj : 2 ≤ j) (F_DeedReader_read_row : MeX P w K mg base (L2.CX P w) j (cR K) "read_row" ["self", "words", "line"] [] (spRow K m)) :
    MeX P w K mg base (L2.CX P w) (j + 1) (cR K) "read_rows" ["self", "inner"] [] (spRows K (m + 1)) := by
  have F_DeedReader_words := ok_words (base := base) T
  refine MetX.okX T.m_DeedReader_read_rows sc_DeedReader_read_rows (fun _ _ _ _ _ _ us hl => match us, hl with | [_, _], _ => rfl) (fun vs H Q E h => ?_) (fun f cdv A outer s H vs Q E hr h => ⟨_, (by exact (pss_cons (ps_set (i := 2) sc_DeedReader_read_rows.nd rfl (Or.inl rfl) (pe_lst pa_nil))
      (pss_one (ps_while (passes_of rfl) (pt_val pe_bl) (pss_cons (ps_set (i := 3) sc_DeedReader_read_rows.nd rfl (Or.inl rfl) (pe_methX0 F_DeedReader_words (hr.mono (by first | decide | omega)) passOut (pv 0)))
      (pss_cons (ps_if (PW.pt (pw_and (pt_cmpR op_isN (pv 3) pe_non (nomark _)) (pw_and1 (pt_val (pv 1))))) (pss_one (ps_raise rfl (takes_of rfl rfl rfl rfl) (pmk_err T.e_BadLine T.g_BadLine hr (pa_cons (pe_op op_add (pe_fld (pv 0) rfl) pe_int) pa_nil)))) pss_nil)
      (pss_cons (ps_if (PW.pt (pw_or (pt_cmpR op_isN (pv 3) pe_non (nomark _)) (pw_or1 (PW.pt (pw_and (pt_val (pv 1)) (pw_and1 (pt_cmpR (op_eqD hr.units) (pv 3) (pe_lst (pa_cons pe_str pa_nil)) (nomark _)))))))) (pss_one (ps_ret (pv 2))) pss_nil)
      (pss_cons (ps_fldaug (pv 0) pe_int in_add)
      (pss_one (ps_expr (pe_bm PySem.F.plainAttrs_list PySem.F.slot_list_append PySem.F.type_list_append mt_append (pv 2) (pa_cons (pe_methX F_DeedReader_read_row (hr.mono (by first | decide | omega)) passOut (pv 0) (pa_cons (pv 3) (pa_cons (pe_fld (pv 0) rfl) pa_nil))) pa_nil)))))))))))), ?_⟩)
  · obtain ⟨x, dx, l, ts, n, inner, rfl, _⟩ := h
    rfl
  obtain ⟨x, dx, l, ts, n, inner, rfl, r, hts, hm, h0, h1⟩ := h
  refine set_lst (vs := []) ev_nil (fun H1 fa s1 hfa hl => ?_)
  have hfx : fa ≠ x := fun z => by rw [z, r.i] at hfa; cases hfa
  have q9 : sizeLine = 16777216 := sizeLine_eq
  refine do_whl (fun k σ H' => ∃ n' xs ww done, σ = [some (.ref x), some (.bl inner), some (.ref fa), ww] ∧ k = ts.length - n' ∧ SameX x H H' ∧ RdAt K H' x dx l ts n' ∧ n ≤ n' ∧ H' fa = some (.lst xs) ∧ xs.length ≤ n' ∧ RepR (fun a => H a = none ∧ a ≠ fa) H' done xs ∧
    ∀ R, Rd (.rows inner) (ts.drop n') n' R → Rd (.rows inner) (ts.drop n) n (R.pre done.app)) (m0 := ts.length - n) ⟨n, [], none, .nil, rfl, rfl, s1.x, r.up s1, Nat.le_refl _, hl, Nat.zero_le _, rfl, fun R h => by cases R <;> exact h⟩ ?_
  rintro k σ H2 ⟨n', xs, ww, done, rfl, rfl, sx, r2, hn, hf2, hxl, hrep, hR⟩
  refine ⟨true, ev_tB ev_C, fun _ H3 s3 => ?_, fun z => by cases z⟩
  have r3 := r2.up s3
  refine ⟨_, rfl, x, dx, _, rfl, r3.i, rfl, x, dx, l, ts, n', rfl, r3, hts, (fun e H4 s4 => ?_), (fun t rr e q H4 s4 hq hql => ?_)⟩
  · rw [e] at hR
    have V3 : ∀ H, EvE (tVar 3) [some (.ref x), some (.bl inner), some (.ref fa), some .non] H .non := fun H => ev_var rfl
    have V1 : ∀ H, EvE (tVar 1) [some (.ref x), some (.bl inner), some (.ref fa), some .non] H (.bl inner) := fun H => ev_var rfl
    refine nm (nx_seq ?_)
    refine seq_if (ev_and (isN_t (V3 _)) fun _ H5 s5 => ev_tB (V1 _)) (fun g H5 s5 => ?_) (fun g H5 s5 => ?_)
    all_goals rw [Bool.true_and] at g
    · have r5 := (r3.up s4).up s5
      refine ⟨_, rfl, x, _, dx, _, _, rfl, r5.i, T.cl_DeedReader, T.na_DeedReader_line, rfl, _, _, rfl, rfl, rfl, (fun z => absurd z (by simp)), fun _ d hd => ?_⟩
      subst g
      exact h0 _ (hR (.err (n' + 1)) .eofI) d _ (((((sx.tr s3.x).tr s4.x).tr s5.x)).tr (Same.new hd).x) upd_same
    · subst g
      refine seq_if (b1 := true) (ev_or (b2 := true) (isN_t (V3 _)) fun z => by cases z) (fun g H6 s6 => ?_) (fun g H6 s6 => by cases g)
      have s36 := ((s3.tr s4).tr s5).tr s6
      have r6 := r2.up s36
      refine ⟨_, rfl, h1 (done.app .nil) [] n' (hR (.ok .nil [] n') .eof) fa xs H6 (sx.tr s36.x) r6 hfa (s36 _ _ hf2) ?_⟩
      have := RepR.app done .nil xs [] (RepR.up (fun a h => h.1) (fun a o _ h => s36 _ _ h) done xs hrep) rfl
      rw [List.append_nil] at this
      exact this
  · have hlt : n' < ts.length := by
      by_cases z : n' < ts.length
      · exact z
      · rw [List.drop_eq_nil_of_le (by omega)] at e; cases e
    have e2 : ts.drop (n' + 1) = rr := by rw [← List.drop_drop, e]; rfl
    have htm : t ∈ ts := List.mem_of_mem_drop (i := n') (by rw [e]; exact List.mem_cons_self ..)
    have hok := (hts.2 t htm).2
    have s34 := s3.tr s4
    rw [e] at hR
    have V3 : ∀ H, EvE (tVar 3) [some (.ref x), some (.bl inner), some (.ref fa), some (.ref q)] H (.ref q) := fun H => ev_var rfl
    have V1 : ∀ H, EvE (tVar 1) [some (.ref x), some (.bl inner), some (.ref fa), some (.ref q)] H (.bl inner) := fun H => ev_var rfl
    refine nm (nx_seq ?_)
    refine seq_if (b1 := false) (ev_and (b2 := false) (isN_f (V3 _) (fun z => by cases z)) fun z => by cases z) (fun g H5 s5 => by cases g) (fun g H5 s5 => ?_)
    have s35 := s34.tr s5
    have hq5 : SqL K H5 q ((words t).map V.str) := .inl (.inl (s5 _ _ hql))
    refine seq_if (ev_or (isN_f (V3 _) (fun z => by cases z)) fun _ H6 s6 => ev_and (ev_tB (V1 _)) fun _ H7 s7 => ev_eqL (zs := endW) (V3 _) ((s6.tr s7).sql hq5) hok (fun H => ev_cons ev_C fun _ _ => ev_nil) (by decide +kernel)) (fun g H6 s6 => ?_) (fun g H6 s6 => ?_)
    · simp only [Bool.false_or, Bool.and_eq_true, decide_eq_true_eq] at g
      obtain ⟨g1, g2⟩ := g
      subst g1
      have s36 := s35.tr s6
      have r6 := r2.up s36
      refine ⟨_, rfl, h1 (done.app .nil) (t :: rr) n' (hR (.ok .nil (t :: rr) n') (.fin g2)) fa xs H6 (sx.tr s36.x) r6 hfa (s36 _ _ hf2) ?_⟩
      have := RepR.app done .nil xs [] (RepR.up (fun a h => h.1) (fun a o _ h => s36 _ _ h) done xs hrep) rfl
      rw [List.append_nil] at this
      exact this
    · have hnot : ¬ (inner = true ∧ words t = endW) := by
        rintro ⟨z1, z2⟩
        rw [z1, decide_eq_true z2] at g
        cases g
      have s36 := s35.tr s6
      have r6 := r2.up s36
      refine do_inc T rfl r6 ?_
      have r7 := r6.inc hlt
      generalize hH7 : upd H6 x (.ins (cR K) dx (rF l (n' + 1))) = H7 at r7 ⊢
      have sx7 : SameX x H H7 := by rw [← hH7]; exact (sx.tr s36.x).upd
      have sx67 : SameX x H6 H7 := by rw [← hH7]; exact (Same.rf H6).x.upd
      have hf7 : H7 fa = some (.lst xs) := sx67 _ _ hfx (s36 _ _ hf2)
      have hqx : q ≠ x := fun z => by rw [z, r3.i] at hq; cases hq
      have hq7 : H7 q = some (.lst ((words t).map V.str)) := sx67 _ _ hqx ((s5.tr s6) _ _ hql)
      have hF : ∀ a, H a = none ∧ a ≠ fa → a ≠ x := fun a h z => by rw [z, r.i] at h; cases h.1
      have hrep7 : RepR (fun a => H a = none ∧ a ≠ fa) H7 done xs := RepR.up (fun a h => h) (fun a o fa h => sx67 _ _ (hF a fa) (s36 _ _ h)) done xs hrep
      have n7 : ∀ a, H7 a = none → H a = none ∧ a ≠ fa := fun a ha => by
        constructor
        · cases e9 : H a with
          | none => rfl
          | some o =>
            by_cases hax : a = x
            · rw [hax, r7.i] at ha; cases ha
            · rw [sx7 _ _ hax e9] at ha; cases ha
        · intro z; rw [z, hf7] at ha; cases ha
      have fin : ∀ (y : V) (H8 : Hp) (n2 : Nat) (f : PT → PT) (t1 : PT), SameX x H7 H8 → RdAt K H8 x dx l ts n2 → n' + 1 ≤ n2 → RepR (fun a => H a = none ∧ a ≠ fa) H8 t1 [y] → (∀ u, t1.app u = f u) → (∀ R, Rd (.rows inner) (ts.drop n2) n2 R → Rd (.rows inner) (t :: rr) n' (R.pre f)) →
          rAppend (.ref fa) [y] H8 (fun x1 H1 => ∃ m', m' < ts.length - n' ∧ ∃ n' xs ww done, [some (V.ref x), some (.bl inner), some (.ref fa), some (.ref q)] = [some (.ref x), some (.bl inner), some (.ref fa), ww] ∧ m' = ts.length - n' ∧ SameX x H H1 ∧ RdAt K H1 x dx l ts n' ∧ n ≤ n' ∧ H1 fa = some (.lst xs) ∧ xs.length ≤ n' ∧ RepR (fun a => H a = none ∧ a ≠ fa) H1 done xs ∧
    ∀ R, Rd (.rows inner) (ts.drop n') n' R → Rd (.rows inner) (ts.drop n) n (R.pre done.app)) := by
        intro y H8 n2 f t1 s8 r8 hn2 hr1 hf hRd
        have hf8 := s8 _ _ hfx hf7
        refine ⟨fa, xs, y, rfl, rfl, hf8, by have := hts.1; omega, ts.length - n2, by have := r8.le; omega, n2, xs ++ [y], _, done.app t1, rfl, rfl, ?_, ?_, by omega, upd_same, by simp; omega, ?_, ?_⟩
        · intro b o hb ho
          rw [upd_ne (ne_of_none ho hfa)]
          exact s8 _ _ hb (sx7 _ _ hb ho)
        · exact ⟨by rw [upd_ne (Ne.symm hfx)]; exact r8.i, by rw [upd_ne (fun z => by rw [z] at r8; have := r.l; rw [← z] at hfa; rw [hfa] at this; cases this)]; exact r8.l, r8.le⟩
        · have up8 : ∀ a o, (H a = none ∧ a ≠ fa) → H8 a = some o → upd H8 fa (.lst (xs ++ [y])) a = some o := fun a o h q => by rw [upd_ne h.2]; exact q
          refine RepR.app done t1 xs [y] (RepR.up (fun a h => h) (fun a o h q => up8 a o h (s8 _ _ (hF a h) q)) done xs hrep7) (RepR.up (fun a h => h) up8 t1 [y] hr1)
        · intro R hRR
          have h9 := hR _ (hRd R hRR)
          rw [pre_pre] at h9
          have e9 : (fun t2 => done.app (f t2)) = (done.app t1).app := by
            funext u
            rw [app_assoc, hf]
          rw [e9] at h9
          exact h9
      refine ⟨_, rfl, .inl ⟨rfl, ⟨_, .inl (.inl hf7)⟩⟩, ?_⟩
      refine ⟨_, rfl, x, dx, _, rfl, r7.i, rfl, _, rfl, _, rfl, x, _, dx, _, _, rfl, r7.i, T.cl_DeedReader, T.na_DeedReader_line, rfl, ?_⟩
      refine ⟨x, dx, l, q, ts, n' + 1, t, rfl, r7, hts, by omega, hq7, hok, (fun g1 g2 d H8 s8 hd => ?_), (fun g1 us g2 y H8 s8 hy hy2 => ?_), (fun a b c g1 => ⟨fun k hk d H8 s8 hd => ?_, fun bl ls n2 hb y ba bs H8 s8 r8 hy hy2 hba hba2 hrb => ?_⟩)⟩
      · exact h0 _ (hR (.err (n' + 1)) (.bad hnot g1 g2)) d H8 (sx7.tr s8) hd
      · exact fin (.ref y) H8 (n' + 1) (.plain us) (.plain us .nil) s8.x (r7.up s8) (Nat.le_refl _) ⟨y, [], rfl, n7 y hy, hy2, rfl⟩ (fun u => rfl) (fun R hRR => .plain hnot g1 g2 (by rw [e2] at hRR; exact hRR))
      · rw [e2] at hk
        exact h0 _ (hR (.err k) (.stepE hnot g1 hk)) d H8 (sx7.tr s8) hd
      · rw [e2] at hb
        obtain ⟨j9, hj1, hj2, hj3⟩ := Rd.adv hb bl ls n2 rfl
        refine fin (.ref y) H8 n2 (.step (n' + 1) a b c bl) (.step (n' + 1) a b c bl .nil) s8 r8 (by omega) ⟨y, ba, bs, [], rfl, n7 y hy, hy2, n7 ba hba, hba2, RepR.up n7 (fun _ _ _ h => h) bl bs hrb, rfl⟩ (fun u => rfl) (fun R hRR => .step hnot g1 hb ?_)
        rw [← e2, List.drop_drop] at hj2
        rw [hj2, show n' + 1 + j9 = n2 by omega]
        exact hRR
end
end K59


set_option Elab.async false
set_option linter.all false
set_option maxRecDepth 100000
set_option maxHeartbeats 4000000
namespace K59
open PySem PySem.Spec PyProof.Rows L2
section
variable {P : Program} {w : World} {K : PySem.W.Frag} {mg : Str → Option Value} {base : Heap}
/-- [told for told, at, rows in found] -/
theorem ev_told {σ : L2.St} {H : Hp} {fa : Addr} {xs : List V} {t : PT} {F : Addr → Prop} (hv : σ[2]? = some (some (.ref fa))) (hσ : σ.length = 8) (hf : H fa = some (.lst xs)) (hb : t.isB) (hr : RepR F H t xs) (hl : xs.length ≤ 1000) :
    ∀ Q : VK, (∀ H2 q, Same H H2 → SqL K H2 q (t.os.map V.str) → Q (.ref q) H2) → (tLc (iList K (tVar 2)) (gTup K 3 (gCons (gName 5) (gCons (gName 6) (gCons (gName 7) gNil)))) tYes (tVar 5) [5, 6, 7]) σ H Q := by
  intro Q k
  obtain ⟨e1, e2⟩ := rep_blks t xs hb hr
  refine ⟨_, hv, fa, rfl, ⟨xs, .inl (.inl hf)⟩, fun D hD => ?_⟩
  have q9 : sizeLine = 16777216 := sizeLine_eq
  have hDf : D ≠ fa := fun z => by rw [z, hf] at hD; cases hD
  refine lc_list (xs := xs) (fun i H' => Same H H' ∧ H' D = some (.lst ((t.os.take i).map V.str))) ⟨Same.new hD, upd_same⟩ (fun i H' _ h => .inl (.inl (h.1 _ _ hf))) ?_ (fun H' h => ?_)
  · rintro i x H' hx ⟨s1, hd⟩
    obtain ⟨a, o, l, ra, rfl, fa', ho, ha⟩ := e2 i x hx
    refine ⟨a, _, rfl, .inl (.inl (s1 _ _ ha)), rfl, _, _, rfl, _, _, rfl, _, _, rfl, rfl, ?_, ?_⟩
    · show wipe (List.set (List.set (List.set (wipe σ [5, 6, 7]) 5 _) 6 _) 7 _) [5, 6, 7] = _
      match σ, hσ with
      | [_, _, _, _, _, _, _, _], _ => rfl
    dsimp only [tYes]
    rw [if_pos rfl]
    refine ⟨.str o, ?_, ?_⟩
    · show (List.set (List.set (List.set (wipe σ [5, 6, 7]) 5 _) 6 _) 7 _)[5]? = _
      match σ, hσ with
      | [_, _, _, _, _, _, _, _], _ => rfl
    have hi : i < t.os.length := by
      by_cases z : i < t.os.length
      · exact z
      · rw [List.getElem?_eq_none (by omega)] at ho; cases ho
    refine ⟨_, hd, by simp; omega, ?_, ?_⟩
    · exact fun b u hb' => by rw [upd_ne (ne_of_none hb' hD)]; exact s1 _ _ hb'
    · rw [upd_same]
      have : t.os.take (i + 1) = t.os.take i ++ [o] := by rw [List.take_succ, ho]; rfl
      rw [this, List.map_append]
      rfl
  · refine k H' D h.1 (.inl (.inl ?_))
    have h2 := h.2
    rw [e1, List.take_length] at h2
    exact h2
theorem ok_blocks (T : Tx P w K mg) {m j : Nat} (hj : 2 ≤ j) (F_DeedReader_read_rows : MeX P w K mg base (L2.CX P w) j (cR K) "read_rows" ["self", "inner"] [] (spRows K m)) :
    MeX P w K mg base (L2.CX P w) (j + 1) (cR K) "blocks" ["self", "word"] [] (spBlocks K m) := by
  have F_DeedReader_begins_block := ok_begins (base := base) T
  refine MetX.okX T.m_DeedReader_blocks sc_DeedReader_blocks (fun _ _ _ _ _ _ us hl => match us, hl with | [_, _], _ => rfl) (fun vs H Q E h => ?_) (fun f cdv A outer s H vs Q E hr h => ⟨_, (by exact (pss_cons (ps_set (i := 2) sc_DeedReader_blocks.nd rfl (Or.inl rfl) (pe_lst pa_nil))
      (pss_cons (ps_while (passes_of rfl) (pt_val (pe_methX0 F_DeedReader_begins_block (hr.mono (by first | decide | omega)) passOut (pv 0))) (pss_cons (ps_fldaug (pv 0) pe_int in_add)
      (pss_cons (ps_par (i := 3) (j := 4) (by rfl) sc_DeedReader_blocks.nd rfl rfl (by decide) rfl rfl (pa_cons (pe_ix ix_list (pe_split (pe_ix ix_list (pe_fld (pv 0) rfl) (pe_op op_sub (pe_fld (pv 0) rfl) pe_int) (fun _ _ => rfl)) pe_str) pe_int (fun _ _ => rfl)) (pa_cons (pe_fld (pv 0) rfl) pa_nil)) (by rfl))
      (pss_cons (ps_if (PW.pt (pw_or (pt_cmpR op_notIn_seq (pv 3) (pe_ix ix_kdict (pe_gref T.g_OUTCOMES) (pv 1) (fun _ _ => rfl)) (by rfl)) (pw_or1 (pt_cmpR op_in_seq (pv 3) (pe_lc (own := [("told", 5), ("at", 6), ("rows", 7)]) (g := (gTup K 3 (gCons (gName 5) (gCons (gName 6) (gCons (gName 7) gNil))))) (tt := tYes) (by rfl) sc_DeedReader_blocks.nd (pi_list (pv 2)) (blkOk_by (own := [("told", 5), ("at", 6), ("rows", 7)]) (N := ["self", "word", "found", "outcome", "line", "told", "at", "rows"]) (sc := defScope s_DeedReader_blocks) (by decide +kernel)) (fun _ _ _ _ _ => (pg_tup rfl (pgs_cons (pg_name (i := 5) sc_DeedReader_blocks.nd rfl (Or.inl rfl)) (pgs_cons (pg_name (i := 6) sc_DeedReader_blocks.nd rfl (Or.inl rfl)) (pgs_cons (pg_name (i := 7) sc_DeedReader_blocks.nd rfl (Or.inl rfl)) pgs_nil))))) (fun _ _ _ _ _ => pts_nil) (fun _ _ _ _ _ => (pv 5))) (by rfl))))) (pss_one (ps_raise rfl (takes_of rfl rfl rfl rfl) (pmk_err T.e_BadLine T.g_BadLine hr (pa_cons (pv 4) pa_nil)))) pss_nil)
      (pss_cons (ps_set (i := 7) sc_DeedReader_blocks.nd rfl (Or.inl rfl) (pe_methX F_DeedReader_read_rows (hr.mono (by first | decide | omega)) passOut (pv 0) (pa_cons pe_bl pa_nil)))
      (pss_cons (ps_fldaug (pv 0) pe_int in_add)
      (pss_one (ps_expr (pe_bm PySem.F.plainAttrs_list PySem.F.slot_list_append PySem.F.type_list_append mt_append (pv 2) (pa_cons (pe_tup (pa_cons (pv 3) (pa_cons (pv 4) (pa_cons (pv 7) pa_nil)))) pa_nil))))))))))
      (pss_one (ps_ret (pe_callTy call_tuple_of (by rfl) T.b_tuple (by decide +kernel) (pa_cons (pv 2) pa_nil))))))), ?_⟩)
  · obtain ⟨x, dx, l, ts, n, z, rfl, _⟩ := h
    rfl
  obtain ⟨x, dx, l, ts, n, z, rfl, hz, r, hts, hm, h0, h1⟩ := h
  refine set_lst (vs := []) ev_nil (fun H1 fa s1 hfa hl => ?_)
  have hfx : fa ≠ x := fun z => by rw [z, r.i] at hfa; cases hfa
  have hfl : fa ≠ l := fun z => by rw [z, r.l] at hfa; cases hfa
  have q9 : sizeLine = 16777216 := sizeLine_eq
  obtain ⟨oa, ho1, ho2⟩ := outsK T z hz
  have hF : ∀ a, H a = none ∧ a ≠ fa → a ≠ x := fun a h z => by rw [z, r.i] at h; cases h.1
  refine do_whl (fun k σ H' => ∃ n' xs y3 y4 y5 y6 y7 done, σ = [some (.ref x), some (.str z), some (.ref fa), y3, y4, y5, y6, y7] ∧ k = ts.length - n' ∧ SameX x H H' ∧ RdAt K H' x dx l ts n' ∧ n ≤ n' ∧ H' fa = some (.lst xs) ∧ xs.length ≤ n' ∧ done.isB ∧ RepR (fun a => H a = none ∧ a ≠ fa) H' done xs ∧
    ∀ R, Rd (.blocks z done.os) (ts.drop n') n' R → Rd (.blocks z []) (ts.drop n) n (R.pre done.app)) (m0 := ts.length - n) ⟨n, [], none, none, none, none, none, .nil, rfl, rfl, s1.x, r.up s1, Nat.le_refl _, hl, Nat.zero_le _, trivial, rfl, fun R h => by cases R <;> exact h⟩ ?_
  rintro k σ H2 ⟨n', xs, y3, y4, y5, y6, y7, done, rfl, rfl, sx, r2, hn, hf2, hxl, hdb, hrep, hR⟩
  refine ⟨begins (ts.drop n'), ev_tB (ev_meth0 (ev_var rfl) r2.i rfl fun H3 Q s3 k => ⟨x, dx, l, ts, n', rfl, r2.up s3, hts, k⟩), fun g H3 s3 => ?_, fun g H3 s3 => ?_⟩
  · cases e : ts.drop n' with
    | nil => rw [e] at g; cases g
    | cons t rr =>
      rw [e] at hR g
      have hlt : n' < ts.length := by
        by_cases z : n' < ts.length
        · exact z
        · rw [List.drop_eq_nil_of_le (by omega)] at e; cases e
      have e2 : ts.drop (n' + 1) = rr := by rw [← List.drop_drop, e]; rfl
      have htm : t ∈ ts := List.mem_of_mem_drop (i := n') (by rw [e]; exact List.mem_cons_self ..)
      have htn : ts[n']? = some t := by
        have := List.getElem?_drop (xs := ts) (i := n') (j := 0)
        rw [e] at this
        simpa using this.symm
      have r3 := r2.up s3
      refine do_inc T rfl r3 ?_
      have r7 := r3.inc hlt
      generalize hH7 : upd H3 x (.ins (cR K) dx (rF l (n' + 1))) = H7 at r7 ⊢
      have sx37 : SameX x H3 H7 := by rw [← hH7]; exact (Same.rf H3).x.upd
      have sx7 : SameX x H H7 := (sx.tr s3.x).tr sx37
      have hf7 : H7 fa = some (.lst xs) := sx37 _ _ hfx (s3 _ _ hf2)
      have hrep7 : RepR (fun a => H a = none ∧ a ≠ fa) H7 done xs := RepR.up (fun a h => h) (fun a o fa h => sx37 _ _ (hF a fa) (s3 _ _ h)) done xs hrep
      have n7 : ∀ a, H7 a = none → H a = none ∧ a ≠ fa := fun a ha => by
        constructor
        · cases e9 : H a with
          | none => rfl
          | some o =>
            by_cases hax : a = x
            · rw [hax, r7.i] at ha; cases ha
            · rw [sx7 _ _ hax e9] at ha; cases ha
        · intro z; rw [z, hf7] at ha; cases ha
      have gw : (words t).getD 0 "" = "on" ∧ (words t).length = 2 := by
        have g9 : (decide ((words t).getD 0 "" = "on") && decide ((words t).length = 2)) = true := g
        simpa using g9
      let S0 : L2.St := [some (.ref x), some (.str z), some (.ref fa), y3, y4, y5, y6, y7]
      have LL : ∀ {H1}, Same H7 H1 → EvE (tFld K (tVar 0) "texts") S0 H1 (.ref l) := fun s1 => ev_fld (ev_var rfl) (s1 _ _ r7.i) T.cl_DeedReader T.na_DeedReader_texts rfl
      have LN : ∀ {H1}, Same H7 H1 → EvE (tFld K (tVar 0) "line") S0 H1 (.int (n' + 1 : Nat)) := fun s1 => ev_fld (ev_var rfl) (s1 _ _ r7.i) T.cl_DeedReader T.na_DeedReader_line rfl
      have Lt : EvE (tOp (rIxL K) (tFld K (tVar 0) "texts") (tOp (rI0 fun i j => V.int (i - j)) (tFld K (tVar 0) "line") (tC (.int 1)))) S0 H7 (.str t) := by
        refine ev_ixL (n := ((n' + 1 : Nat) : Int) - 1) (LL (Same.rf _)) (fun H8 s8 => ev_op (LN s8) (fun _ _ => ev_C) fun H9 _ Q q => ⟨_, _, rfl, rfl, q⟩) (.inl (.inl r7.l)) ?_
        rw [show ((n' + 1 : Nat) : Int) - 1 = (n' : Int) by omega]
        refine atI_nat ?_
        rw [List.getElem?_map, htn]
        rfl
      refine do_split (z := t) Lt (by decide +kernel) (by have := (hts.2 _ htm).1; omega) (fun H8 q s8 hq hql => ?_)
      refine ⟨q, (words t).map V.str, 1, .str ((words t).getD 1 ""), rfl, rfl, .inl (.inl hql), at_word (i := 1) (by omega), ?_⟩
      refine LN s8 _ fun H9 s9 => ?_
      refine ⟨_, _, rfl, nx_seq ?_⟩
      generalize ho : (words t).getD 1 "" = o
      have s79 := s8.tr s9
      let S1 : L2.St := [some (.ref x), some (.str z), some (.ref fa), some (.str o), some (.int (n' + 1 : Nat)), y5, y6, y7]
      have hf9 := s79 _ _ hf7
      have hrep9 : RepR (fun a => H a = none ∧ a ≠ fa) H9 done xs := RepR.up (fun a h => h) (fun a o _ h => s79 _ _ h) done xs hrep7
      have kd : ∀ H1, Same H9 H1 → ∀ Q : VK, (∀ H2 q, Same H1 H2 → SqL K H2 q ((outs z).map V.str) ∨ SqT K H2 q ((outs z).map V.str) → Q (.ref q) H2) → (tOp (rIxD K w) (tC (.ref (He.ga K "OUTCOMES"))) (tVar 1)) S1 H1 Q := fun H1 _ Q k => ⟨.str z, rfl, _, z, .ref oa, rfl, rfl, ho1, k H1 oa (Same.rf _) (.inr (ho2 _))⟩
      have td : ∀ Hb, Same H9 Hb → ∀ Q : VK, (∀ H2 q, Same Hb H2 → SqL K H2 q (done.os.map V.str) ∨ SqT K H2 q (done.os.map V.str) → Q (.ref q) H2) → (tLc (iList K (tVar 2)) (gTup K 3 (gCons (gName 5) (gCons (gName 6) (gCons (gName 7) gNil)))) tYes (tVar 5) [5, 6, 7]) S1 Hb Q := fun Hb sb Q k => ev_told (t := done) rfl rfl (sb _ _ hf9) hdb (RepR.up (fun a h => h) (fun a o _ h => sb _ _ h) done xs hrep9) (by have := r7.le; have := hts.1; omega) Q fun H2 q s2 hs => k H2 q s2 (.inl hs)
      have v3 : ∀ H, EvE (tVar 3) S1 H (.str o) := fun H => ev_var rfl
      refine seq_if (ev_or (ev_test (ev_notin (ns := outs z) (v3 _) kd)) fun _ Ha sa => ev_test (ev_in (ns := done.os) (v3 _) fun Hb sb => td Hb (sa.tr sb))) (fun gb Ha sa => ?_) (fun gb Ha sa => ?_)
      · have gb2 : (words t).getD 1 "" ∉ outs z ∨ (words t).getD 1 "" ∈ done.os := by
          rw [ho]
          simpa using gb
        exact ⟨_, rfl, rfl, (fun z => absurd z (by simp)), fun _ d hd => h0 _ (hR (.err (n' + 1)) (.badB g gb2)) d _ ((sx7.tr (s79.tr sa).x).tr (Same.new hd).x) upd_same⟩
      have gb2 : ¬ ((words t).getD 1 "" ∉ outs z ∨ (words t).getD 1 "" ∈ done.os) := by
        rw [ho]
        simpa using gb
      have s7a := s79.tr sa
      have ra := r7.up s7a
      have sxa := sx7.tr s7a.x
      have hfa' := s7a _ _ hf7
      refine ⟨_, rfl, x, dx, _, rfl, ra.i, rfl, x, dx, l, ts, n' + 1, true, rfl, ra, hts, by omega, (fun k hk d Hb sb hd => ?_), (fun t2 ls n2 hrd q2 ys Hb sb rb hq2 hy2 hrb => ?_)⟩
      · rw [e2] at hk
        exact h0 _ (hR (.err k) (.blkE g gb2 hk)) d Hb (sxa.tr sb) hd
      rw [e2] at hrd
      obtain ⟨j9, hj1, hj2, hj3⟩ := Rd.adv hrd t2 ls n2 rfl
      obtain ⟨en, r9, hen⟩ := Rd.inner hrd rfl t2 ls n2 rfl
      subst hen
      rw [← e2, List.drop_drop, show n' + 1 + j9 = n2 by omega] at hj2
      have hn2 : n2 < ts.length := by
        by_cases z : n2 < ts.length
        · exact z
        · rw [List.drop_eq_nil_of_le (by omega)] at hj2; cases hj2
      have er9 : ts.drop (n2 + 1) = r9 := by rw [← List.drop_drop, ← hj2]; rfl
      refine nm (nx_seq (do_inc T rfl rb ?_))
      have rc := rb.inc hn2
      generalize hHc : upd Hb x (.ins (cR K) dx (rF l (n2 + 1))) = Hc at rc ⊢
      have sbc : SameX x Hb Hc := by rw [← hHc]; exact (Same.rf Hb).x.upd
      have sac : SameX x Ha Hc := sb.tr sbc
      have sxc := sxa.tr sac
      have hfc : Hc fa = some (.lst xs) := sac _ _ hfx hfa'
      refine ⟨_, rfl, .inl ⟨rfl, ⟨_, .inl (.inl hfc)⟩⟩, ?_⟩
      refine ⟨_, rfl, _, rfl, _, rfl, szL rfl, fun p hp => ?_⟩
      have na : ∀ a, Ha a = none → H a = none ∧ a ≠ fa := fun a ha => n7 a (none_of s7a ha)
      have nc : ∀ a, Hc a = none → H a = none ∧ a ≠ fa := fun a ha => by
        constructor
        · cases e9 : H a with
          | none => rfl
          | some o =>
            by_cases hax : a = x
            · rw [hax, rc.i] at ha; cases ha
            · rw [sxc _ _ hax e9] at ha; cases ha
        · intro z; rw [z, hfc] at ha; cases ha
      have hp0 := nc p hp
      have spc : Same Hc (upd Hc p (.tup [.str o, .int (n' + 1 : Nat), .ref q2])) := Same.new hp
      have fr : ∀ a u, (H a = none ∧ a ≠ fa) → Hc a = some u → upd (upd Hc p (.tup [.str o, .int (n' + 1 : Nat), .ref q2])) fa (.lst (xs ++ [.ref p])) a = some u := fun a u h q => by rw [upd_ne h.2]; exact spc _ _ q
      refine ⟨fa, xs, .ref p, rfl, rfl, spc _ _ hfc, by have := r7.le; have := hts.1; omega, ts.length - (n2 + 1), by omega, n2 + 1, xs ++ [.ref p], _, _, _, _, _, done.app (.blk o (n' + 1) t2 .nil), rfl, rfl, ?_, ?_, by omega, upd_same, by simp; omega, app_isB _ _ hdb trivial, ?_, ?_⟩
      · intro b u hb hu
        rw [upd_ne (ne_of_none hu hfa)]
        exact spc _ _ (sxc _ _ hb hu)
      · exact ⟨by rw [upd_ne (Ne.symm hfx)]; exact spc _ _ rc.i, by rw [upd_ne (Ne.symm hfl)]; exact spc _ _ rc.l, rc.le⟩
      · refine RepR.app done _ xs [.ref p] (RepR.up (fun a h => h) (fun a u h q => fr a u h (sac _ _ (hF a h) (s7a _ _ q))) done xs hrep7) ?_
        refine ⟨p, q2, ys, [], rfl, hp0, ?_, na q2 hq2, fr _ _ (na q2 hq2) (sbc _ _ (hF _ (na q2 hq2)) hy2), RepR.up na (fun a u h q => fr a u (na a h) (sbc _ _ (hF _ (na a h)) q)) t2 ys hrb, rfl⟩
        rw [upd_ne hp0.2, upd_same]
      · intro R hRR
        rw [app_os _ _ hdb, er9] at hRR
        have h9 := hR _ (.blk g gb2 hrd (R := R) (by rw [ho]; exact hRR))
        rw [pre_pre, ho] at h9
        have e9 : (fun t2_1 => done.app (PT.blk o (n' + 1) t2 t2_1)) = (done.app (.blk o (n' + 1) t2 .nil)).app := by
          funext u
          rw [app_assoc]
          rfl
        rw [e9] at h9
        exact h9
  · refine ⟨_, rfl, fa, xs, rfl, .inl ⟨.inl (.inl (s3 _ _ hf2)), fun q hq => ?_⟩⟩
    have r3 := r2.up s3
    have hq0 : H q = none := by
      cases e9 : H q with
      | none => rfl
      | some o =>
        by_cases hax : q = x
        · rw [hax, r3.i] at hq; cases hq
        · rw [s3 _ _ (sx _ _ hax e9)] at hq; cases hq
    have s4 : Same H3 (upd H3 q (.tup xs)) := Same.new hq
    refine h1 (done.app .nil) _ n' (hR (.ok .nil _ n') (.noB g)) q xs _ ((sx.tr s3.x).tr s4.x) (r3.up s4) hq0 upd_same ?_
    have := RepR.app done .nil xs [] (RepR.up (fun a h => h.1) (fun a o _ h => s4 _ _ (s3 _ _ h)) done xs hrep) rfl
    rw [List.append_nil] at this
    exact this
/-- the reader, all three -/
theorem ok_reader (T : Tx P w K mg) : ∀ m, MeX P w K mg base (L2.CX P w) (3 * m + 3) (cR K) "read_rows" ["self", "inner"] [] (spRows K m)
  | 0 => MetX.okX (k := 2) T.m_DeedReader_read_rows sc_DeedReader_read_rows (fun _ _ _ _ _ _ us hl => match us, hl with | [_, _], _ => rfl) (fun vs H Q E h => by obtain ⟨x, dx, l, ts, n, inner, rfl, _, _, h, _⟩ := h; omega) (fun f cdv A outer s H vs Q E hr h => by obtain ⟨x, dx, l, ts, n, inner, rfl, _, _, h, _⟩ := h; omega)
  | m + 1 => ok_rows T (by omega) (ok_row T (by omega) (ok_blocks T (by omega) (ok_reader T m)))
end
end K59


set_option Elab.async false
set_option linter.all false
set_option maxRecDepth 100000
set_option maxHeartbeats 4000000
namespace K59
open PySem PySem.Spec PyProof.Rows L2
def PT.steps : PT → Nat
  | .nil => 0
  | .plain _ r => r.steps
  | .step _ _ _ _ b r => 1 + b.steps + r.steps
  | .blk _ _ rs r => rs.steps + r.steps
def PT.dep : PT → Nat
  | .nil => 0
  | .plain _ r => r.dep
  | .step _ _ _ _ b r => max (b.dep + 1) r.dep
  | .blk _ _ rs r => max rs.dep r.dep
def PT.sz : PT → Nat
  | .nil => 0
  | .plain _ r => 1 + r.sz
  | .step _ _ _ _ b r => 1 + b.sz + r.sz
  | .blk _ _ rs r => 1 + rs.sz + r.sz
def PT.unfit : PT → List Nat
  | .nil => []
  | .plain _ r => r.unfit
  | .step l w _ _ b r => (if w ∈ (["lay", "stretch"] : List Str) then [l] else []) ++ (b.unfit ++ r.unfit)
  | .blk _ _ rs r => rs.unfit ++ r.unfit
/-- rows (false), blocks (true) -/
def PT.wf : Bool → PT → Prop
  | _, .nil => True
  | false, .plain vs r => (∃ z us, vs = .str z :: us ∧ z ≠ "step") ∧ r.wf false
  | false, .step _ w _ _ b r => w ∈ stW ∧ b.wf true ∧ r.wf false
  | true, .blk o _ rs r => o ∉ r.os ∧ rs.wf false ∧ r.wf true
  | _, _ => False
theorem PT.wf_isB : ∀ t : PT, t.wf true → t.isB
  | .nil, _ => trivial
  | .blk _ _ _ r, h => wf_isB r h.2.2
  | .plain _ _, h => h.elim
  | .step _ _ _ _ _ _, h => h.elim
theorem unfit_len : ∀ t : PT, t.unfit.length ≤ t.steps
  | .nil => Nat.le_refl _
  | .plain _ r => unfit_len r
  | .step l w _ _ b r => by
    have h1 := unfit_len b
    have h2 := unfit_len r
    show ((if w ∈ (["lay", "stretch"] : List Str) then [l] else []) ++ (b.unfit ++ r.unfit)).length ≤ 1 + b.steps + r.steps
    split <;> simp <;> omega
  | .blk _ _ rs r => by
    have h1 := unfit_len rs
    have h2 := unfit_len r
    show (rs.unfit ++ r.unfit).length ≤ rs.steps + r.steps
    simp; omega
abbrev Al : Addr → Prop := fun _ => True
theorem RepR.sm {H H' : Hp} (s : Same H H') {t : PT} {xs : List V} (h : RepR Al H t xs) : RepR Al H' t xs := RepR.up (fun _ h => h) (fun a o _ q => s a o q) t xs h
/-- the row at the front -/
theorem rep_row {H : Hp} {t : PT} {x : V} {ys : List V} (hw : t.wf false) (h : RepR Al H t (x :: ys)) :
    (∃ vs r a z us, t = .plain vs r ∧ x = .ref a ∧ H a = some (.tup vs) ∧ vs = .str z :: us ∧ z ≠ "step" ∧ r.wf false ∧ RepR Al H r ys) ∨
    (∃ l z o p b r a ba bs, t = .step l z o p b r ∧ x = .ref a ∧ H a = some (.tup [.str "step", .int (l : Nat), .str z, oS o, oS p, .ref ba]) ∧ z ∈ stW ∧ H ba = some (.tup bs) ∧ b.wf true ∧ RepR Al H b bs ∧ r.wf false ∧ RepR Al H r ys) := by
  cases t with
  | nil => cases (show x :: ys = [] from h)
  | plain vs r =>
    obtain ⟨a, zs, e, _, ha, hr⟩ := h
    injection e with e1 e2
    subst e1 e2
    obtain ⟨⟨z, us, e3, hz⟩, hw2⟩ := hw
    exact .inl ⟨vs, r, a, z, us, rfl, rfl, ha, e3, hz, hw2, hr⟩
  | step l z o p b r =>
    obtain ⟨a, ba, bs, zs, e, _, ha, _, hb, h1, h2⟩ := h
    injection e with e1 e2
    subst e1 e2
    exact .inr ⟨l, z, o, p, b, r, a, ba, bs, rfl, rfl, ha, hw.1, hb, hw.2.1, h1, hw.2.2, h2⟩
  | blk o l rs r => exact hw.elim
theorem rep_blk {H : Hp} {t : PT} {x : V} {ys : List V} (hw : t.wf true) (h : RepR Al H t (x :: ys)) :
    ∃ o l rs r a ra zs, t = .blk o l rs r ∧ x = .ref a ∧ H a = some (.tup [.str o, .int (l : Nat), .ref ra]) ∧ H ra = some (.lst zs) ∧ o ∉ r.os ∧ rs.wf false ∧ RepR Al H rs zs ∧ r.wf true ∧ RepR Al H r ys := by
  cases t with
  | nil => cases (show x :: ys = [] from h)
  | plain vs r => exact hw.elim
  | step l z o p b r => exact hw.elim
  | blk o l rs r =>
    obtain ⟨a, ra, zs, ws, e, _, ha, _, hb, h1, h2⟩ := h
    injection e with e1 e2
    subst e1 e2
    exact ⟨o, l, rs, r, a, ra, zs, rfl, rfl, ha, hb, hw.1, hw.2.1, h1, hw.2.2, h2⟩
theorem rep_nil {H : Hp} {t : PT} {b : Bool} (hw : t.wf b) (h : RepR Al H t []) : t = .nil := by
  cases t with
  | nil => rfl
  | plain vs r => obtain ⟨_, _, e, _⟩ := h; cases e
  | step l z o p b r => obtain ⟨_, _, _, _, e, _⟩ := h; cases e
  | blk o l rs r => obtain ⟨_, _, _, _, e, _⟩ := h; cases e
theorem drop_at {xs : List V} {i : Nat} {x : V} (h : xs[i]? = some x) : xs.drop i = x :: xs.drop (i + 1) := by
  have hi : i < xs.length := by
    by_cases z : i < xs.length
    · exact z
    · rw [List.getElem?_eq_none (by omega)] at h; cases h
  rw [List.drop_eq_getElem_cons hi]
  rw [List.getElem?_eq_getElem hi] at h
  cases h
  rfl
theorem at0 (v : V) (us : List V) : atI (v :: us) 0 = some v := by
  have h := atI_nat (xs := v :: us) (show (v :: us)[0]? = some v from rfl)
  exact h
theorem rep_len {F : Addr → Prop} {H : Hp} : ∀ (t : PT) (xs : List V), RepR F H t xs → xs.length ≤ t.sz
  | .nil, _, h => by cases (show _ = [] from h); exact Nat.le_refl _
  | .plain vs r, _, ⟨a, ys, e, _, _, h⟩ => by have := rep_len r ys h; subst e; show ys.length + 1 ≤ 1 + r.sz; omega
  | .step l z o p b r, _, ⟨a, ba, bs, ys, e, _, _, _, _, _, h⟩ => by have := rep_len r ys h; subst e; show ys.length + 1 ≤ 1 + b.sz + r.sz; omega
  | .blk o l rs r, _, ⟨a, ba, bs, ys, e, _, _, _, _, _, h⟩ => by have := rep_len r ys h; subst e; show ys.length + 1 ≤ 1 + rs.sz + r.sz; omega
section
variable {P : Program} {w : World} {K : PySem.W.Frag} {mg : Str → Option Value} {base : Heap}
def spCount (K : PySem.W.Frag) (d : Nat) : Sp := fun vs H Q E => ∃ (p : Addr) (xs : List V) (t : PT), vs = [.ref p] ∧ H p = some (.lst xs) ∧ t.wf false ∧ RepR Al H t xs ∧ t.dep < d ∧ t.sz ≤ 1000 ∧ (∀ H', Same H H' → Q (.int (t.steps : Nat)) H')
theorem ok_count (T : Tx P w K mg) : ∀ d, FnX P w K mg base CX0 (d + 1) "count_steps" ["rows"] [] (spCount K d)
  | 0 => T.d_count_steps.ok0 sc_count_steps (fun _ _ _ _ _ _ us hl => match us, hl with | [_], _ => rfl) (fun vs H Q E h => by obtain ⟨p, xs, t, rfl, _, _, _, h, _⟩ := h; omega) (fun f cdv A outer s H vs Q E hr h => by obtain ⟨p, xs, t, rfl, _, _, _, h, _⟩ := h; omega)
  | d + 1 => by
    have F_count_steps := ok_count T d
    refine T.d_count_steps.ok0 sc_count_steps (fun _ _ _ _ _ _ us hl => match us, hl with | [_], _ => rfl) (fun vs H Q E h => ?_) (fun f cdv A outer s H vs Q E hr h => ⟨_, (by exact (pss_cons (ps_set (i := 1) sc_count_steps.nd rfl (Or.inl rfl) pe_int)
      (pss_cons (ps_for PassesOwn.never rfl (pi_list (pv 0)) (pg_name (i := 2) sc_count_steps.nd rfl (Or.inl rfl))
        (pss_one (ps_if (pt_cmpR op_eq (pe_ix ix_tup (pv 2) pe_int (fun _ _ => rfl)) pe_str (nomark _)) (pss_one (ps_aug (i := 1) sc_count_steps.nd rfl (Or.inl rfl) (pe_op op_add pe_int (pe_callB (cr_sum rfl) (by rfl) T.b_sum (by decide +kernel) (pa_cons (pe_lc (own := [("block", 3)]) (g := (gName 3)) (tt := tYes) (by rfl) sc_count_steps.nd (pi_tup (pe_ix ix_tup (pv 2) pe_int (fun _ _ => rfl))) (blkOk_by (own := [("block", 3)]) (N := ["rows", "found", "row", "block"]) (sc := defScope s_count_steps) (by decide +kernel)) (fun _ _ _ _ _ => (pg_name (i := 3) sc_count_steps.nd rfl (Or.inl rfl))) (fun _ _ _ _ _ => pts_nil) (fun _ _ _ _ _ => (pe_callX F_count_steps (hr.mono (by first | decide | omega)) pass0 (pa_cons (pe_ix (ixT_at (K := K)) (pv 3) pe_int (fun _ _ => rfl)) pa_nil)))) pa_nil))) ip_add)) pss_nil)))
      (pss_one (ps_ret (pv 1)))))), ?_⟩)
    · obtain ⟨p, xs, t, rfl, _⟩ := h
      rfl
    obtain ⟨p, xs, t, rfl, hp, hw, hrep, hd, hlen, h0⟩ := h
    have q9 : sizeLine = 16777216 := sizeLine_eq
    refine do_set ev_C fun H1 s1 => ?_
    refine for_lst (a := p) (xs := xs) (fun i σ H' => Same H H' ∧ ∃ (acc : Nat) (y2 y3 : Option V) (rest : PT), σ = [some (.ref p), some (.int (acc : Nat)), y2, y3] ∧ rest.wf false ∧ RepR Al H rest (xs.drop i) ∧ t.steps = acc + rest.steps ∧ rest.dep ≤ t.dep ∧ rest.sz ≤ t.sz) (ev_var rfl) (.inl (.inl (s1 _ _ hp))) (fun H2 s2 => ⟨s1.tr s2, 0, none, none, t, rfl, hw, hrep, by omega, Nat.le_refl _, Nat.le_refl _⟩) (fun i σ H' _ k => .inl (.inl (k.1 _ _ hp))) ?_ ?_
    · rintro i x σ H2 hx ⟨s2, acc, y2, y3, rest, rfl, hrw, hrr, he, hd2, hz2⟩
      rw [drop_at hx] at hrr
      rcases rep_row hrw hrr with ⟨vs, r, a, z, us, rfl, rfl, ha, rfl, hz, hrw2, hrr2⟩ | ⟨l, z, o, pl, b, r, a, ba, bs, rfl, rfl, ha, hzw, hba, hbw, hbr, hrw2, hrr2⟩
      · refine do_if (b1 := false) ?_ (fun z => by cases z) (fun _ H3 s3 => ⟨s2.tr s3, acc, _, _, r, rfl, hrw2, hrr2, he, hd2, by have : (PT.plain (V.str z :: us) r).sz = 1 + r.sz := rfl; omega⟩)
        have h9 : EvT (tTest (tOp rEq (tOp (rIxT K) (tVar 2) (tC (V.int 0))) (tC (V.str "step")))) [some (.ref p), some (.int (acc : Nat)), some (.ref a), y3] H2 (decide (z = "step")) := eq_str (ev_ixT (ev_var rfl) (fun _ _ => ev_C) (.inl (.inl (s2 _ _ ha))) (at0 _ _)) fun _ _ => ev_C
        rw [decide_eq_false hz] at h9
        exact h9
      · have h9 : EvT (tTest (tOp rEq (tOp (rIxT K) (tVar 2) (tC (V.int 0))) (tC (V.str "step")))) [some (.ref p), some (.int (acc : Nat)), some (.ref a), y3] H2 (decide (("step" : Str) = "step")) := eq_str (ev_ixT (ev_var rfl) (fun _ _ => ev_C) (.inl (.inl (s2 _ _ ha))) rfl) fun _ _ => ev_C
        rw [decide_eq_true rfl] at h9
        have e1 : (PT.step l z o pl b r).steps = 1 + b.steps + r.steps := rfl
        have e2 : (PT.step l z o pl b r).dep = max (b.dep + 1) r.dep := rfl
        have e3 : (PT.step l z o pl b r).sz = 1 + b.sz + r.sz := rfl
        refine do_if h9 (fun _ H3 s3 => ?_) (fun z => by cases z)
        have s23 := s2.tr s3
        refine ⟨_, rfl, _, rfl, a, _, _, _, rfl, rfl, .inl (.inl (s23 _ _ ha)), rfl, ba, rfl, ⟨bs, .inl (.inl (s23 _ _ hba))⟩, fun D hD => ?_⟩
        refine lc_tup (xs := bs) (fun i H' => Same H3 H' ∧ ∃ (ns : List Nat) (rest : PT), H' D = some (.lst ((ns.map fun (n : Nat) => (n : Int)).map V.int)) ∧ ns.length ≤ i ∧ rest.wf true ∧ RepR Al H rest (bs.drop i) ∧ b.steps = ns.sum + rest.steps ∧ rest.dep ≤ b.dep ∧ rest.sz ≤ b.sz) ⟨Same.new hD, [], b, upd_same, Nat.le_refl _, hbw, hbr, by simp, Nat.le_refl _, Nat.le_refl _⟩ (fun i H' _ k => .inl (.inl (k.1 _ _ (s23 _ _ hba)))) ?_ ?_
        · rintro i x H4 hx ⟨s4, ns, rest, hD4, hnl, hbw2, hbr2, he2, hd3, hz3⟩
          have hil : i < bs.length := by
            by_cases z : i < bs.length
            · exact z
            · rw [List.getElem?_eq_none (by omega)] at hx; cases hx
          rw [drop_at hx] at hbr2
          obtain ⟨o2, l2, rs, r2, a2, ra, zs, rfl, rfl, ha2, hra, hno, hrsw, hrsr, hr2w, hr2r⟩ := rep_blk hbw2 hbr2
          have f1 : (PT.blk o2 l2 rs r2).steps = rs.steps + r2.steps := rfl
          have f2 : (PT.blk o2 l2 rs r2).dep = max rs.dep r2.dep := rfl
          have f3 : (PT.blk o2 l2 rs r2).sz = 1 + rs.sz + r2.sz := rfl
          have s24 := s23.tr s4
          refine ⟨rfl, ?_⟩
          dsimp only [tYes]
          rw [if_pos rfl]
          refine ⟨_, rfl, a2, _, _, _, rfl, rfl, .inl (.inl (s24 _ _ ha2)), rfl, ?_⟩
          refine ⟨ra, zs, rs, rfl, s24 _ _ hra, hrsw, hrsr.sm s24, by omega, by omega, fun H5 s5 => ?_⟩
          refine ⟨_, s5 _ _ hD4, by have := rep_len b bs hbr; simp; omega, ?_, ns ++ [rs.steps], r2, ?_, by simp; omega, hr2w, hr2r, by simp; omega, by omega, by omega⟩
          · exact fun b u hb' => by rw [upd_ne (ne_of_none hb' hD)]; exact s5 _ _ (s4 _ _ hb')
          · rw [upd_same]; simp
        · rintro H4 ⟨s4, ns, rest, hD4, hnl, hbw2, hbr2, he2, hd3, hz3⟩
          rw [List.drop_length] at hbr2
          have := rep_nil hbw2 hbr2
          subst this
          refine ⟨D, _, rfl, .inl (.inl hD4), ?_⟩
          have e9 : ∀ l : List Nat, (l.map fun (n : Nat) => (n : Int)).sum = (l.sum : Nat) := fun l => by
            induction l with
            | nil => rfl
            | cons n r ih => simp only [List.map_cons, List.sum_cons, ih]; omega
          rw [e9]
          have e8 : ns.sum = b.steps := by have : PT.nil.steps = 0 := rfl; omega
          rw [e8]
          refine ⟨_, _, rfl, rfl, ?_⟩
          refine ⟨_, _, rfl, rfl, s23.tr s4, acc + (1 + b.steps), some (.ref a), y3, r, ?_, hrw2, hrr2, by omega, by omega, by omega⟩
          show [some (V.ref p), some (.int ((acc : Int) + (1 + (b.steps : Int)))), _, _] = _
          rw [show ((acc : Int) + (1 + (b.steps : Int))) = ((acc + (1 + b.steps) : Nat) : Int) by omega]
    · rintro σ H2 ⟨s2, acc, y2, y3, rest, rfl, hrw, hrr, he, hd2, hz2⟩
      rw [List.drop_length] at hrr
      have := rep_nil hrw hrr
      subst this
      have e8 : acc = t.steps := by have : PT.nil.steps = 0 := rfl; omega
      subst e8
      exact ⟨_, rfl, h0 H2 s2⟩
def spUnfit (K : PySem.W.Frag) (d : Nat) : Sp := fun vs H Q E => ∃ (p : Addr) (xs : List V) (t : PT), vs = [.ref p] ∧ H p = some (.lst xs) ∧ t.wf false ∧ RepR Al H t xs ∧ t.dep < d ∧ t.sz ≤ 1000 ∧ t.steps ≤ 1000 ∧ (∀ q H', Same H H' → H q = none → H' q = some (.lst (t.unfit.map fun (n : Nat) => V.int (n : Nat))) → Q (.ref q) H')
theorem ok_unfit (T : Tx P w K mg) : ∀ d, FnX P w K mg base CX0 (d + 1) "unfit_lines" ["rows"] [] (spUnfit K d)
  | 0 => T.d_unfit_lines.ok0 sc_unfit_lines (fun _ _ _ _ _ _ us hl => match us, hl with | [_], _ => rfl) (fun vs H Q E h => by obtain ⟨p, xs, t, rfl, _, _, _, h, _⟩ := h; omega) (fun f cdv A outer s H vs Q E hr h => by obtain ⟨p, xs, t, rfl, _, _, _, h, _⟩ := h; omega)
  | d + 1 => by
    have F_unfit_lines := ok_unfit T d
    refine T.d_unfit_lines.ok0 sc_unfit_lines (fun _ _ _ _ _ _ us hl => match us, hl with | [_], _ => rfl) (fun vs H Q E h => ?_) (fun f cdv A outer s H vs Q E hr h => ⟨_, (by exact (pss_cons (ps_set (i := 1) sc_unfit_lines.nd rfl (Or.inl rfl) (pe_lst pa_nil))
      (pss_cons (ps_for PassesOwn.never rfl (pi_list (pv 0)) (pg_name (i := 2) sc_unfit_lines.nd rfl (Or.inl rfl))
        (pss_one (ps_if (pt_cmpR op_eq (pe_ix ix_tup (pv 2) pe_int (fun _ _ => rfl)) pe_str (nomark _)) (pss_cons (ps_expr (pe_bm PySem.F.plainAttrs_list PySem.F.slot_list_extend PySem.F.type_list_extend mt_extend (pv 1) (pa_cons (pe_ifExp (pt_cmpR op_in_seq (pe_ix ix_tup (pv 2) pe_int (fun _ _ => rfl)) (pe_tup (pa_cons pe_str (pa_cons pe_str pa_nil))) (by rfl)) (pe_lst (pa_cons (pe_ix ix_tup (pv 2) pe_int (fun _ _ => rfl)) pa_nil)) (pe_lst pa_nil)) pa_nil)))
      (pss_one (ps_for PassesOwn.never rfl (pi_tup (pe_ix ix_tup (pv 2) pe_int (fun _ _ => rfl))) (pg_name (i := 3) sc_unfit_lines.nd rfl (Or.inl rfl))
        (pss_one (ps_expr (pe_bm PySem.F.plainAttrs_list PySem.F.slot_list_extend PySem.F.type_list_extend mt_extend (pv 1) (pa_cons (pe_callX F_unfit_lines (hr.mono (by first | decide | omega)) pass0 (pa_cons (pe_ix ix_tup (pv 3) pe_int (fun _ _ => rfl)) pa_nil)) pa_nil))))))) pss_nil)))
      (pss_one (ps_ret (pv 1)))))), ?_⟩)
    · obtain ⟨p, xs, t, rfl, _⟩ := h
      rfl
    obtain ⟨p, xs, t, rfl, hp, hw, hrep, hd, hlen, hst, h0⟩ := h
    have q9 : sizeLine = 16777216 := sizeLine_eq
    refine set_lst (vs := []) ev_nil (fun H1 fa s1 hfa hl => ?_)
    let iv : List Nat → List V := fun l => l.map fun (n : Nat) => V.int (n : Nat)
    refine for_lst (a := p) (xs := xs) (fun i σ H' => Same H H' ∧ ∃ (acc : List Nat) (y2 y3 : Option V) (rest : PT), σ = [some (.ref p), some (.ref fa), y2, y3] ∧ H' fa = some (.lst (iv acc)) ∧ rest.wf false ∧ RepR Al H rest (xs.drop i) ∧ t.unfit = acc ++ rest.unfit ∧ rest.dep ≤ t.dep ∧ rest.sz ≤ t.sz ∧ rest.steps ≤ t.steps) (ev_var rfl) (.inl (.inl (s1 _ _ hp))) (fun H2 s2 => ⟨s1.tr s2, [], none, none, t, rfl, s2 _ _ hl, hw, hrep, rfl, Nat.le_refl _, Nat.le_refl _, Nat.le_refl _⟩) (fun i σ H' _ k => .inl (.inl (k.1 _ _ hp))) ?_ ?_
    · rintro i x σ H2 hx ⟨s2, acc, y2, y3, rest, rfl, hf2, hrw, hrr, he, hd2, hz2, hst2⟩
      rw [drop_at hx] at hrr
      have hul := unfit_len t
      rcases rep_row hrw hrr with ⟨vs, r, a, z, us, rfl, rfl, ha, rfl, hz, hrw2, hrr2⟩ | ⟨l, z, o, pl, b, r, a, ba, bs, rfl, rfl, ha, hzw, hba, hbw, hbr, hrw2, hrr2⟩
      · refine do_if (b1 := false) ?_ (fun z => by cases z) (fun _ H3 s3 => ⟨s2.tr s3, acc, _, _, r, rfl, s3 _ _ hf2, hrw2, hrr2, he, hd2, by have : (PT.plain (V.str z :: us) r).sz = 1 + r.sz := rfl; omega, hst2⟩)
        have h9 : EvT (tTest (tOp rEq (tOp (rIxT K) (tVar 2) (tC (V.int 0))) (tC (V.str "step")))) [some (.ref p), some (.ref fa), some (.ref a), y3] H2 (decide (z = "step")) := eq_str (ev_ixT (ev_var rfl) (fun _ _ => ev_C) (.inl (.inl (s2 _ _ ha))) (at0 _ _)) fun _ _ => ev_C
        rw [decide_eq_false hz] at h9
        exact h9
      · have h9 : EvT (tTest (tOp rEq (tOp (rIxT K) (tVar 2) (tC (V.int 0))) (tC (V.str "step")))) [some (.ref p), some (.ref fa), some (.ref a), y3] H2 (decide (("step" : Str) = "step")) := eq_str (ev_ixT (ev_var rfl) (fun _ _ => ev_C) (.inl (.inl (s2 _ _ ha))) rfl) fun _ _ => ev_C
        rw [decide_eq_true rfl] at h9
        have e1 : (PT.step l z o pl b r).steps = 1 + b.steps + r.steps := rfl
        have e2 : (PT.step l z o pl b r).dep = max (b.dep + 1) r.dep := rfl
        have e3 : (PT.step l z o pl b r).sz = 1 + b.sz + r.sz := rfl
        have e4 : (PT.step l z o pl b r).unfit = (if z ∈ (["lay", "stretch"] : List Str) then [l] else []) ++ (b.unfit ++ r.unfit) := rfl
        have hub := unfit_len b
        refine do_if h9 (fun _ H3 s3 => ?_) (fun z => by cases z)
        have s23 := s2.tr s3
        have hf3 := s3 _ _ hf2
        refine do_drop ?_
        refine ⟨_, rfl, .inl ⟨rfl, ⟨_, .inl (.inl hf3)⟩⟩, ?_⟩
        have h8 : EvT (tTest (tOp (rIn K false) (tOp (rIxT K) (tVar 2) (tC (V.int 2))) (tTup (tCons (tC (V.str "lay")) (tCons (tC (V.str "stretch")) tNil))))) [some (.ref p), some (.ref fa), some (.ref a), y3] H3 (decide (z ∈ (["lay", "stretch"] : List Str))) := ev_test (ev_in (ev_ixT (ev_var rfl) (fun _ _ => ev_C) (.inl (.inl (s23 _ _ ha))) rfl) (in_tup (fun H => ev_cons ev_C fun _ _ => ev_cons ev_C fun _ _ => ev_nil)))
        have ext : ∀ (add : List Nat) (q : Addr) (H4 : Hp), Same H3 H4 → H4 q = some (.lst (iv add)) → add = (if z ∈ (["lay", "stretch"] : List Str) then [l] else []) → rExtend (.ref fa) [.ref q] H4 (fun _ H1 => tFor (iTup K (tOp (rIxT K) (tVar 2) (tC (V.int 5)))) (gName 3) (tDrop (tBM K "list" rExtend (tVar 1) (tCons (tCall (spUnfit K d) [] E0 (tCons (tOp (rIxT K) (tVar 3) (tC (V.int 2))) tNil)) tNil))) { nx := fun σ' H' => Same H H' ∧ ∃ (acc : List Nat) (y2 y3 : Option V) (rest : PT), σ' = [some (.ref p), some (.ref fa), y2, y3] ∧ H' fa = some (.lst (iv acc)) ∧ rest.wf false ∧ RepR Al H rest (xs.drop (i + 1)) ∧ t.unfit = acc ++ rest.unfit ∧ rest.dep ≤ t.dep ∧ rest.sz ≤ t.sz ∧ rest.steps ≤ t.steps, rt := Q, bk := fun σ H => (tRet (tVar 1)) { nx := fun _ H' => Q .non H', rt := Q } σ H, ct := fun σ' H' => Same H H' ∧ ∃ (acc : List Nat) (y2 y3 : Option V) (rest : PT), σ' = [some (.ref p), some (.ref fa), y2, y3] ∧ H' fa = some (.lst (iv acc)) ∧ rest.wf false ∧ RepR Al H rest (xs.drop (i + 1)) ∧ t.unfit = acc ++ rest.unfit ∧ rest.dep ≤ t.dep ∧ rest.sz ≤ t.sz ∧ rest.steps ≤ t.steps } [some (.ref p), some (.ref fa), some (.ref a), y3] H1) := by
          intro add q H4 s4 hq hadd
          have hal : add.length ≤ 1 := by rw [hadd]; split <;> simp
          have hf4 := s4 _ _ hf3
          have hal2 : acc.length ≤ 1000 := by
            have : t.unfit.length = acc.length + ((PT.step l z o pl b r).unfit).length := by rw [he]; simp
            omega
          refine ⟨fa, q, iv acc, iv add, rfl, rfl, hf4, hq, by simp [iv]; omega, ?_⟩
          have s24 := s23.tr s4
          have sm : ∀ o, Same H (upd H4 fa o) := fun o => s24.mut hfa
          refine for_tp (a := ba) (xs := bs) (fun i2 σ H' => Same H H' ∧ ∃ (ac2 : List Nat) (y3 : Option V) (rest : PT), σ = [some (.ref p), some (.ref fa), some (.ref a), y3] ∧ H' fa = some (.lst (iv (acc ++ add ++ ac2))) ∧ rest.wf true ∧ RepR Al H rest (bs.drop i2) ∧ b.unfit = ac2 ++ rest.unfit ∧ rest.dep ≤ b.dep ∧ rest.sz ≤ b.sz ∧ rest.steps ≤ b.steps) (ev_ixT (ev_var rfl) (fun _ _ => ev_C) (.inl (.inl (sm _ _ _ ha))) rfl) (.inl (.inl (sm _ _ _ hba))) (fun H5 s5 => ⟨(sm _).tr s5, [], y3, b, rfl, ?_, hbw, hbr, rfl, Nat.le_refl _, Nat.le_refl _, Nat.le_refl _⟩) (fun i2 σ H' _ k => .inl (.inl (k.1 _ _ hba))) ?_ ?_
          · rw [s5 _ _ upd_same]; simp [iv]
          · rintro i2 x2 σ H5 hx2 ⟨s5, ac2, y3, rest, rfl, hf5, hbw2, hbr2, he2, hd3, hz3, hs3⟩
            rw [drop_at hx2] at hbr2
            obtain ⟨o2, l2, rs, r2, a2, ra, zs, rfl, rfl, ha2, hra, hno, hrsw, hrsr, hr2w, hr2r⟩ := rep_blk hbw2 hbr2
            have f1 : (PT.blk o2 l2 rs r2).unfit = rs.unfit ++ r2.unfit := rfl
            have f2 : (PT.blk o2 l2 rs r2).dep = max rs.dep r2.dep := rfl
            have f3 : (PT.blk o2 l2 rs r2).sz = 1 + rs.sz + r2.sz := rfl
            have f4 : (PT.blk o2 l2 rs r2).steps = rs.steps + r2.steps := rfl
            have hurs := unfit_len rs
            refine ⟨_, rfl, .inl ⟨rfl, ⟨_, .inl (.inl hf5)⟩⟩, _, rfl, a2, _, _, _, rfl, rfl, .inl (.inl (s5 _ _ ha2)), rfl, ?_⟩
            refine ⟨ra, zs, rs, rfl, s5 _ _ hra, hrsw, hrsr.sm s5, by omega, by omega, by omega, fun q2 H6 s6 hq2 hq3 => ?_⟩
            have hac2 : ac2.length ≤ b.unfit.length := by rw [he2]; simp
            refine ⟨fa, q2, _, _, rfl, rfl, s6 _ _ hf5, hq3, by simp [iv]; omega, ?_, ac2 ++ rs.unfit, _, r2, rfl, ?_, hr2w, hr2r, by rw [he2, f1]; simp, by omega, by omega, by omega⟩
            · exact (s5.tr s6).mut hfa
            · rw [upd_same]; simp [iv]
          · rintro σ H5 ⟨s5, ac2, y3, rest, rfl, hf5, hbw2, hbr2, he2, hd3, hz3, hs3⟩
            rw [List.drop_length] at hbr2
            have := rep_nil hbw2 hbr2
            subst this
            have e8 : ac2 = b.unfit := by rw [he2]; exact (List.append_nil _).symm
            subst e8
            refine ⟨s5, acc ++ add ++ b.unfit, _, _, r, rfl, hf5, hrw2, hrr2, ?_, by omega, by omega, by omega⟩
            rw [he, e4, hadd]
            simp
        refine h8 _ fun H4 s4 => ?_
        refine iteB (fun g => ?_) (fun g => ?_)
        · refine mk_lst (vs := [.int (l : Nat)]) (ev_cons (ev_ixT (ev_var rfl) (fun _ _ => ev_C) (.inl (.inl ((s23.tr s4) _ _ ha))) rfl) fun _ _ => ev_nil) (fun H5 q s5 _ hq => ?_)
          exact ext [l] q H5 (s4.tr s5) hq (by rw [if_pos (of_decide_eq_true g)])
        · refine mk_lst (vs := []) ev_nil (fun H5 q s5 _ hq => ?_)
          exact ext [] q H5 (s4.tr s5) hq (by rw [if_neg (of_decide_eq_false g)])
    · rintro σ H2 ⟨s2, acc, y2, y3, rest, rfl, hf2, hrw, hrr, he, hd2, hz2, hst2⟩
      rw [List.drop_length] at hrr
      have := rep_nil hrw hrr
      subst this
      have e8 : acc = t.unfit := by rw [he]; exact (List.append_nil _).symm
      subst e8
      exact ⟨_, rfl, h0 fa H2 s2 hfa hf2⟩
end
end K59


set_option Elab.async false
set_option linter.all false
set_option maxRecDepth 100000
set_option maxHeartbeats 4000000
namespace K59
open PySem PySem.Spec PyProof.Rows L2
theorem itl_by {K : PySem.W.Frag} {a : Addr} {xs : List V} {Body : V → Hp → (Hp → Prop) → Prop} {Z : Hp → Prop} {H0 : Hp} (Pv : Nat → Hp → Prop) (h0 : Pv 0 H0) (hl : ∀ i H, i ≤ xs.length → Pv i H → SqL K H a xs) (hs : ∀ i x H, xs[i]? = some x → Pv i H → Body x H (Pv (i + 1))) (hd : ∀ H, Pv xs.length H → Z H) :
    ∃ W : Nat → Nat → Hp → Prop, (∃ m, W 0 m H0) ∧ ∀ i m H, W i m H → ((Itl K a).stop i H ∧ Z H) ∨ ((Itl K a).go i H ∧ ∃ Nx : Hp → Prop, (∀ H', Nx H' → ∃ m', m' < m ∧ W (i + 1) m' H') ∧ ∀ x H', (Itl K a).yld i H x H' → Body x H' Nx) := by
  refine ⟨fun i m H => m = xs.length - i ∧ i ≤ xs.length ∧ Pv i H, ⟨xs.length, by simp, Nat.zero_le _, h0⟩, ?_⟩
  rintro i m H ⟨rfl, hi, p⟩
  have q := hl i H hi p
  by_cases hlt : i < xs.length
  · refine .inr ⟨⟨xs, xs[i], q, by simp [hlt]⟩, Pv (i + 1), fun H' p' => ⟨xs.length - (i + 1), by omega, rfl, hlt, p'⟩, fun v H' y => ?_⟩
    obtain ⟨rfl, hx⟩ := y
    exact hs i v _ (hx xs q) p
  · have e : i = xs.length := by omega
    subst e
    exact .inl ⟨⟨xs, q, Nat.le_refl _⟩, hd H p⟩
abbrev Wy := List (Str × Nat) × Bool
def qv : List V → Bool
  | .str z :: _ => decide (z = "quit")
  | _ => false
def PT.wz : PT → Option Str → List Wy → List Wy
  | .nil, none, ws => ws
  | .nil, some _, _ => [([], true)]
  | .plain vs r, none, ws => r.wz none (ws.flatMap fun x => [(x.1, x.2 && !qv vs)])
  | .plain _ _, some _, _ => []
  | .step l w _ _ b r, none, ws => r.wz none (ws.flatMap fun x => if x.2 then (outs w).flatMap fun oc => (b.wz (some oc) []).map fun y => (x.1 ++ (w, l) :: y.1, y.2) else [(x.1, false)])
  | .step _ _ _ _ _ _, some _, _ => []
  | .blk o _ rs r, some oc, _ => if o = oc then rs.wz none [([], true)] else r.wz (some oc) []
  | .blk _ _ _ _, none, ws => ws
def PT.ways (t : PT) : List Wy := t.wz none [([], true)]
def PT.blkOf : PT → Str → PT
  | .blk o _ rs r, oc => if o = oc then rs else r.blkOf oc
  | _, _ => .nil
theorem wz_blk (oc : Str) : ∀ b : PT, b.wf true → b.wz (some oc) [] = (b.blkOf oc).ways
  | .nil, _ => rfl
  | .blk o l rs r, h => by
    show (if o = oc then rs.wz none [([], true)] else r.wz (some oc) []) = ((if o = oc then rs else r.blkOf oc) : PT).ways
    by_cases e : o = oc
    · rw [if_pos e, if_pos e]; rfl
    · rw [if_neg e, if_neg e]; exact wz_blk oc r h.2.2
  | .plain _ _, h => h.elim
  | .step _ _ _ _ _ _, h => h.elim
theorem blkOf_le (oc : Str) : ∀ b : PT, b.wf true → (b.blkOf oc).wf false ∧ (b.blkOf oc).dep ≤ b.dep ∧ (b.blkOf oc).sz ≤ b.sz ∧ (b.blkOf oc).steps ≤ b.steps
  | .nil, _ => ⟨trivial, Nat.le_refl _, Nat.le_refl _, Nat.le_refl _⟩
  | .blk o l rs r, h => by
    obtain ⟨h1, h2, h3, h4⟩ := blkOf_le oc r h.2.2
    show PT.wf false (if o = oc then rs else r.blkOf oc) ∧ (if o = oc then rs else r.blkOf oc : PT).dep ≤ max rs.dep r.dep ∧ (if o = oc then rs else r.blkOf oc : PT).sz ≤ 1 + rs.sz + r.sz ∧ (if o = oc then rs else r.blkOf oc : PT).steps ≤ rs.steps + r.steps
    by_cases e : o = oc
    · rw [if_pos e]; exact ⟨h.2.1, by omega, by omega, by omega⟩
    · rw [if_neg e]; exact ⟨h1, by omega, by omega, by omega⟩
  | .plain _ _, h => h.elim
  | .step _ _ _ _ _ _, h => h.elim
theorem blkOf_no (oc : Str) : ∀ b : PT, oc ∉ b.os → b.blkOf oc = .nil
  | .nil, _ => rfl
  | .blk o l rs r, h => by
    have h1 : oc ∉ o :: r.os := h
    show (if o = oc then rs else r.blkOf oc) = .nil
    rw [if_neg (fun e => h1 (by rw [e]; exact List.mem_cons_self ..))]
    exact blkOf_no oc r (fun z => h1 (List.mem_cons_of_mem _ z))
  | .plain _ _, _ => rfl
  | .step _ _ _ _ _ _, _ => rfl
theorem outs_len (z : Str) : (outs z).length ≤ 3 := by
  unfold outs
  repeat' split
  all_goals decide
theorem fm_len {α β : Type} (f : α → List β) (c : Nat) : ∀ l : List α, (∀ x ∈ l, (f x).length ≤ c) → (l.flatMap f).length ≤ l.length * c
  | [], _ => by simp
  | x :: r, h => by
    have h1 := h x (List.mem_cons_self ..)
    have h2 := fm_len f c r (fun y hy => h y (List.mem_cons_of_mem _ hy))
    rw [List.flatMap_cons, List.length_append, List.length_cons, Nat.add_mul]
    omega
theorem wz_len : ∀ (t : PT), (∀ ws, (t.wz none ws).length ≤ ws.length * 3 ^ t.steps) ∧ (∀ oc, (t.wz (some oc) []).length ≤ 3 ^ t.steps)
  | .nil => ⟨fun ws => by show ws.length ≤ ws.length * 1; omega, fun oc => by show 1 ≤ 1; omega⟩
  | .plain vs r => ⟨fun ws => by
      have h := (wz_len r).1 (ws.flatMap fun x => [(x.1, x.2 && !qv vs)])
      have h2 : (ws.flatMap fun x : Wy => [(x.1, x.2 && !qv vs)]).length ≤ ws.length * 1 := fm_len _ 1 ws (fun _ _ => Nat.le_refl _)
      have h3 := Nat.mul_le_mul_right (3 ^ r.steps) h2
      show (r.wz none _).length ≤ ws.length * 3 ^ r.steps
      rw [Nat.mul_one] at h3
      omega, fun oc => Nat.zero_le _⟩
  | .step l w o p b r => ⟨fun ws => by
      have hb := (wz_len b).2
      have h := (wz_len r).1 (ws.flatMap fun x => if x.2 then (outs w).flatMap fun oc => (b.wz (some oc) []).map fun y => (x.1 ++ (w, l) :: y.1, y.2) else [(x.1, false)])
      have h2 : (ws.flatMap fun x : Wy => if x.2 then (outs w).flatMap fun oc => (b.wz (some oc) []).map fun y => (x.1 ++ (w, l) :: y.1, y.2) else [(x.1, false)]).length ≤ ws.length * (3 * 3 ^ b.steps) := fm_len _ _ ws (fun x _ => by
        have h3 : 1 ≤ 3 ^ b.steps := Nat.one_le_pow _ _ (by decide)
        split
        · have h4 := fm_len (fun oc => (b.wz (some oc) []).map fun y : Wy => (x.1 ++ (w, l) :: y.1, y.2)) (3 ^ b.steps) (outs w) (fun oc _ => by rw [List.length_map]; exact hb oc)
          have h5 := Nat.mul_le_mul_right (3 ^ b.steps) (outs_len w)
          omega
        · show 1 ≤ _; omega)
      have h3 := Nat.mul_le_mul_right (3 ^ r.steps) h2
      show (r.wz none _).length ≤ ws.length * 3 ^ (1 + b.steps + r.steps)
      have e : ws.length * 3 ^ (1 + b.steps + r.steps) = ws.length * (3 * 3 ^ b.steps) * 3 ^ r.steps := by simp [Nat.pow_add, Nat.mul_assoc]
      omega, fun oc => Nat.zero_le _⟩
  | .blk o l rs r => ⟨fun ws => by
      show ws.length ≤ ws.length * 3 ^ (rs.steps + r.steps)
      exact Nat.le_mul_of_pos_right _ (Nat.pow_pos (by decide)), fun oc => by
      have h1 := (wz_len rs).1 [([], true)]
      have h2 := (wz_len r).2 oc
      have e1 : 3 ^ rs.steps ≤ 3 ^ (rs.steps + r.steps) := Nat.pow_le_pow_right (by decide) (by omega)
      have e2 : 3 ^ r.steps ≤ 3 ^ (rs.steps + r.steps) := Nat.pow_le_pow_right (by decide) (by omega)
      show (if o = oc then rs.wz none [([], true)] else r.wz (some oc) []).length ≤ 3 ^ (rs.steps + r.steps)
      simp only [List.length_singleton, Nat.one_mul] at h1
      split <;> omega⟩
theorem wz_met : ∀ (t : PT), (∀ ws n, (∀ x ∈ ws, x.1.length ≤ n) → ∀ x ∈ t.wz none ws, x.1.length ≤ n + t.steps) ∧ (∀ oc, ∀ x ∈ t.wz (some oc) [], x.1.length ≤ t.steps)
  | .nil => ⟨fun ws n h x hx => h x hx, fun oc x hx => by
      have h1 : x ∈ ([([], true)] : List Wy) := hx
      rw [List.mem_singleton] at h1
      rw [h1]; exact Nat.zero_le _⟩
  | .plain vs r => ⟨fun ws n h => (wz_met r).1 _ n (fun x hx => by
      rw [List.mem_flatMap] at hx
      obtain ⟨y, hy, hx⟩ := hx
      rw [List.mem_singleton] at hx
      rw [hx]; exact h y hy), fun oc x hx => nomatch hx⟩
  | .step l w o p b r => ⟨fun ws n h => by
      have h9 := (wz_met r).1 (ws.flatMap fun x => if x.2 then (outs w).flatMap fun oc => (b.wz (some oc) []).map fun y => (x.1 ++ (w, l) :: y.1, y.2) else [(x.1, false)]) (n + 1 + b.steps) (fun x hx => by
        rw [List.mem_flatMap] at hx
        obtain ⟨y, hy, hx⟩ := hx
        have hyn := h y hy
        split at hx
        · rw [List.mem_flatMap] at hx
          obtain ⟨oc, _, hx⟩ := hx
          rw [List.mem_map] at hx
          obtain ⟨u, hu, rfl⟩ := hx
          have := (wz_met b).2 oc u hu
          simp
          omega
        · rw [List.mem_singleton] at hx
          rw [hx]
          show y.1.length ≤ _
          omega)
      intro x hx
      have := h9 x hx
      show _ ≤ n + (1 + b.steps + r.steps)
      omega, fun oc x hx => nomatch hx⟩
  | .blk o l rs r => ⟨fun ws n h x hx => by
      have := h x hx
      omega, fun oc x hx => by
      have h1 : x ∈ (if o = oc then rs.wz none [([], true)] else r.wz (some oc) []) := hx
      show _ ≤ rs.steps + r.steps
      split at h1
      · have := (wz_met rs).1 [([], true)] 0 (fun y hy => by rw [List.mem_singleton] at hy; rw [hy]; exact Nat.le_refl _) x h1
        omega
      · have := (wz_met r).2 oc x h1
        omega⟩
def RepM (H : Hp) : List (Str × Nat) → List V → Prop
  | [], ys => ys = []
  | m :: ms, ys => ∃ a zs, ys = .ref a :: zs ∧ H a = some (.tup [.str m.1, .int (m.2 : Nat)]) ∧ RepM H ms zs
/-- ways in the heap, their lists at addresses of F -/
def RepW (F : Addr → Prop) (H : Hp) : List Wy → List V → Prop
  | [], ys => ys = []
  | x :: xs, ys => ∃ a b ms zs, ys = .ref a :: zs ∧ H a = some (.tup [.ref b, .bl x.2]) ∧ F b ∧ H b = some (.lst ms) ∧ RepM H x.1 ms ∧ RepW F H xs zs
theorem RepM.up {H H' : Hp} (s : TupLe H H') : ∀ (m : List (Str × Nat)) (ys : List V), RepM H m ys → RepM H' m ys
  | [], _, h => h
  | m :: ms, _, ⟨a, zs, e, ha, h⟩ => ⟨a, zs, e, s _ _ ha, up s ms zs h⟩
theorem RepM.app {H : Hp} : ∀ (m n : List (Str × Nat)) (xs ys : List V), RepM H m xs → RepM H n ys → RepM H (m ++ n) (xs ++ ys)
  | [], n, xs, ys, h, k => by cases (show xs = [] from h); exact k
  | m :: ms, n, _, ys, ⟨a, zs, e, ha, h⟩, k => by subst e; exact ⟨a, zs ++ ys, rfl, ha, app ms n zs ys h k⟩
theorem RepM.len {H : Hp} : ∀ (m : List (Str × Nat)) (ys : List V), RepM H m ys → ys.length = m.length
  | [], ys, h => by cases (show ys = [] from h); rfl
  | m :: ms, _, ⟨a, zs, e, _, h⟩ => by subst e; show zs.length + 1 = ms.length + 1; rw [RepM.len ms zs h]
theorem RepW.up {F F' : Addr → Prop} {H H' : Hp} (hf : ∀ b, F b → F' b) (s : TupLe H H') (hl : ∀ b vs, F b → H b = some (.lst vs) → H' b = some (.lst vs)) : ∀ (ws : List Wy) (ys : List V), RepW F H ws ys → RepW F' H' ws ys
  | [], _, h => h
  | x :: xs, _, ⟨a, b, ms, zs, e, ha, fb, hb, hm, h⟩ => ⟨a, b, ms, zs, e, s _ _ ha, hf _ fb, hl _ _ fb hb, RepM.up s _ _ hm, up hf s hl xs zs h⟩
theorem RepW.app {F : Addr → Prop} {H : Hp} : ∀ (v w : List Wy) (xs ys : List V), RepW F H v xs → RepW F H w ys → RepW F H (v ++ w) (xs ++ ys)
  | [], w, xs, ys, h, k => by cases (show xs = [] from h); exact k
  | x :: v, w, _, ys, ⟨a, b, ms, zs, e, ha, fb, hb, hm, h⟩, k => by subst e; exact ⟨a, b, ms, zs ++ ys, rfl, ha, fb, hb, hm, app v w zs ys h k⟩
theorem RepW.at {F : Addr → Prop} {H : Hp} : ∀ (ws : List Wy) (ys : List V), RepW F H ws ys → ys.length = ws.length ∧ ∀ (i : Nat) (y : V), ys[i]? = some y → ∃ (x : Wy) (a b : Addr) (ms : List V), ws[i]? = some x ∧ y = V.ref a ∧ H a = some (.tup [.ref b, .bl x.2]) ∧ F b ∧ H b = some (.lst ms) ∧ RepM H x.1 ms
  | [], ys, h => by cases (show ys = [] from h); exact ⟨rfl, fun i y e => by simp at e⟩
  | x :: xs, _, ⟨a, b, ms, zs, e, ha, fb, hb, hm, h⟩ => by
    subst e
    obtain ⟨h1, h2⟩ := RepW.at xs zs h
    refine ⟨by simp [h1], fun i y e => ?_⟩
    cases i with
    | zero => exact ⟨x, a, b, ms, rfl, (by simpa using e.symm), ha, fb, hb, hm⟩
    | succ i => exact h2 i y (by simpa using e)
theorem put_len (c : List (Key × V)) (k : Key) (x : V) : (putK c k x).length ≤ c.length + 1 := by
  unfold putK
  split <;> simp
theorem take_fm {α β : Type} (f : α → List β) {l : List α} {i : Nat} {x : α} (h : l[i]? = some x) : (l.take (i + 1)).flatMap f = (l.take i).flatMap f ++ f x := by
  rw [List.take_succ, h, List.flatMap_append]
  simp
theorem take_mp {α β : Type} (f : α → β) {l : List α} {i : Nat} {x : α} (h : l[i]? = some x) : (l.take (i + 1)).map f = (l.take i).map f ++ [f x] := by
  rw [List.take_succ, h, List.map_append]
  simp
section
variable {P : Program} {w : World} {K : PySem.W.Frag} {mg : Str → Option Value} {base : Heap}
abbrev bhS (m : List (Str × Nat)) (g : Bool) (z : Str) (l : Nat) (b : PT) : List Wy := if g then (outs z).flatMap fun oc => ((b.blkOf oc).ways).map fun y => (m ++ (z, l) :: y.1, y.2) else [(m, false)]
def spWays (K : PySem.W.Frag) (d : Nat) : Sp := fun vs H Q E => ∃ (p : Addr) (xs : List V) (t : PT), vs = [.ref p] ∧ H p = some (.lst xs) ∧ t.wf false ∧ RepR Al H t xs ∧ t.dep < d ∧ t.sz ≤ 1000 ∧ t.steps ≤ 8 ∧ (∀ q ys H', Same H H' → H q = none → H' q = some (.lst ys) → RepW (Nn H) H' t.ways ys → Q (.ref q) H')
def spBehind (K : PySem.W.Frag) (d : Nat) : Sp := fun vs H Q E => ∃ (mb a : Addr) (g : Bool) (ms : List V) (m : List (Str × Nat)) (res : List Wy), vs = [.ref mb, .bl g, .ref a] ∧ H mb = some (.lst ms) ∧ RepM H m ms ∧ m.length ≤ 8 ∧
  ((∃ z us, H a = some (.tup (.str z :: us)) ∧ z ≠ "step" ∧ res = [(m, g && !decide (z = "quit"))]) ∨ (∃ (l : Nat) (z : Str) (o p : Option Str) (b : PT) (ba : Addr) (bs : List V), H a = some (.tup [.str "step", .int (l : Nat), .str z, oS o, oS p, .ref ba]) ∧ z ∈ stW ∧ H ba = some (.tup bs) ∧ b.wf true ∧ RepR Al H b bs ∧ b.dep < d ∧ b.sz ≤ 1000 ∧ b.steps ≤ 7 ∧ res = bhS m g z l b)) ∧
  (∀ q ys H', Same H H' → H q = none → H' q = some (.lst ys) → RepW (fun b => H b = none ∨ b = mb) H' res ys → Q (.ref q) H')
theorem ret_one {σ : L2.St} {H : Hp} {mb : Addr} {g : Bool} {ms : List V} {m : List (Str × Nat)} {D : Ends} (h0 : σ[0]? = some (some (.ref mb))) (hm : H mb = some (.lst ms)) (hr : RepM H m ms) (k : ∀ q ys H', Same H H' → H q = none → H' q = some (.lst ys) → RepW (fun b => H b = none ∨ b = mb) H' [(m, g)] ys → D.rt (.ref q) H') :
    tRet (tLst (tCons (tTup (tCons (tVar 0) (tCons (tC (.bl g)) tNil))) tNil)) D σ H := by
  refine ⟨_, h0, szL rfl, fun T hT => ⟨szL rfl, fun q hq => ?_⟩⟩
  have s1 : Same H (upd H T (.tup [.ref mb, .bl g])) := Same.new hT
  have s2 : Same (upd H T (.tup [.ref mb, .bl g])) (upd (upd H T (.tup [.ref mb, .bl g])) q (.lst [.ref T])) := Same.new hq
  exact k q [.ref T] _ (s1.tr s2) (none_of s1 hq) upd_same ⟨T, mb, ms, [], rfl, s2 _ _ upd_same, .inr rfl, (s1.tr s2) _ _ hm, RepM.up (s1.tr s2).tups _ _ hr, rfl⟩
theorem ok_behind (T : Tx P w K mg) {d j : Nat} (F_deed_ways : FnX P w K mg base CX0 j "deed_ways" ["rows"] [] (spWays K d)) : FnX P w K mg base CX0 (j + 1) "ways_behind" ["met", "goes_on", "row"] [] (spBehind K d) := by
  refine T.d_ways_behind.ok0 sc_ways_behind (fun _ _ _ _ _ _ us hl => match us, hl with | [_, _, _], _ => rfl) (fun vs H Q E h => ?_) (fun f cdv A outer s H vs Q E hr h => have hu := hu_of hr; ⟨_, (by exact (pss_cons (ps_if (pt_not (pt_val (pv 1))) (pss_one (ps_ret (pe_lst (pa_cons (pe_tup (pa_cons (pv 0) (pa_cons pe_bl pa_nil))) pa_nil)))) pss_nil)
      (pss_cons (ps_if (pt_cmpR op_eq (pe_ix ix_tup (pv 2) pe_int (fun _ _ => rfl)) pe_str (nomark _)) (pss_one (ps_ret (pe_lst (pa_cons (pe_tup (pa_cons (pv 0) (pa_cons pe_bl pa_nil))) pa_nil)))) pss_nil)
      (pss_cons (ps_if (pt_cmpR op_ne (pe_ix ix_tup (pv 2) pe_int (fun _ _ => rfl)) pe_str (nomark _)) (pss_one (ps_ret (pe_lst (pa_cons (pe_tup (pa_cons (pv 0) (pa_cons pe_bl pa_nil))) pa_nil)))) pss_nil)
      (pss_cons (ps_setDc (i := 3) (own := [("block", 4)]) (g := (gName 4)) (tt := tYes) (by rfl) sc_ways_behind.nd rfl rfl (swD_true rfl rfl rfl (by decide +kernel)) (pi_tup (pe_ix ix_tup (pv 2) pe_int (fun _ _ => rfl))) (blkOk_by (own := [("block", 4)]) (N := ["met", "goes_on", "row", "told", "block", "found", "outcome", "more", "still"]) (sc := defScope s_ways_behind) (by decide +kernel)) (fun _ _ _ _ _ => (pg_name (i := 4) sc_ways_behind.nd rfl (Or.inl rfl))) (fun _ _ _ _ _ => pts_nil) (fun _ _ _ _ _ => (pe_ix (ixT_at (K := K)) (pv 4) pe_int (fun _ _ => rfl))) (fun _ _ _ _ _ => (pe_ix (ixT_at (K := K)) (pv 4) pe_int (fun _ _ => rfl))))
      (pss_cons (ps_set (i := 5) sc_ways_behind.nd rfl (Or.inl rfl) (pe_lst pa_nil))
      (pss_cons (ps_for PassesOwn.never rfl (pi_tup (pe_ix ix_kdict (pe_gref T.g_OUTCOMES) (pe_ix ix_tup (pv 2) pe_int (fun _ _ => rfl)) (fun _ _ => rfl))) (pg_name (i := 6) sc_ways_behind.nd rfl (Or.inl rfl))
        (pss_one (ps_for PassesOwn.never rfl (pi_list (pe_callX F_deed_ways (hr.mono (by first | decide | omega)) pass0 (pa_cons (pe_dget2 hu (pv 3) (pv 6) (pe_lst pa_nil) ⟨rfl, rfl, rfl, rfl⟩) pa_nil))) (pg_tup rfl (pgs_cons (pg_name (i := 7) sc_ways_behind.nd rfl (Or.inl rfl)) (pgs_cons (pg_name (i := 8) sc_ways_behind.nd rfl (Or.inl rfl)) pgs_nil)))
        (pss_one (ps_expr (pe_bm PySem.F.plainAttrs_list PySem.F.slot_list_append PySem.F.type_list_append mt_append (pv 5) (pa_cons (pe_tup (pa_cons (pe_lst (StX.pa_star (pv 0) (pa_cons (pe_tup (pa_cons (pe_ix ix_tup (pv 2) pe_int (fun _ _ => rfl)) (pa_cons (pe_ix ix_tup (pv 2) pe_int (fun _ _ => rfl)) pa_nil))) (StX.pa_star (pv 7) pa_nil)))) (pa_cons (pv 8) pa_nil))) pa_nil)))))))
      (pss_one (ps_ret (pv 5)))))))))), ?_⟩)
  · obtain ⟨mb, a, g, ms, m, res, rfl, _⟩ := h
    rfl
  obtain ⟨mb, a, g, ms, m, res, rfl, hmb, hrm, hml, hrow, h0⟩ := h
  have q9 : sizeLine = 16777216 := sizeLine_eq
  have N0 : Nn H mb → False := fun z => by rw [show H mb = none from z] at hmb; cases hmb
  have up1 : ∀ {H1 H2 : Hp} {ws ys}, Same H H1 → RepW (fun b => H1 b = none ∨ b = mb) H2 ws ys → RepW (fun b => H b = none ∨ b = mb) H2 ws ys := fun s1 h => RepW.up (fun b h => h.imp (none_of s1) id) (TupLe.refl _) (fun _ _ _ h => h) _ _ h
  let S0 : L2.St := [some (.ref mb), some (.bl g), some (.ref a), none, none, none, none, none, none]
  refine seq_if (σ := S0) (ev_not (ev_tB (ev_var rfl))) (fun gg H1 s1 => ?_) (fun gg H1 s1 => ?_)
  · have g0 : g = false := by simpa using gg
    subst g0
    refine ret_one rfl (s1 _ _ hmb) (RepM.up s1.tups _ _ hrm) (fun q ys H2 s2 hq hq2 hrw => h0 q ys H2 (s1.tr s2) (none_of s1 hq) hq2 (up1 s1 ?_))
    rcases hrow with ⟨z, us, _, _, rfl⟩ | ⟨l, z, o, p, b, ba, bs, _, _, _, _, _, _, _, _, rfl⟩ <;> exact hrw
  have g1 : g = true := by simpa using gg
  subst g1
  rcases hrow with ⟨z, us, ha, hz, rfl⟩ | ⟨l, z, o, p, b, ba, bs, ha, hz, hba, hbw, hbr, hd, hsz, hst, rfl⟩
  · refine seq_if (σ := S0) (eq_str (ev_ixT (ev_var rfl) (fun _ _ => ev_C) (.inl (.inl (s1 _ _ ha))) (at0 _ _)) fun _ _ => ev_C) (fun gg H2 s2 => ?_) (fun gg H2 s2 => ?_)
    · have s12 := s1.tr s2
      refine ret_one rfl (s12 _ _ hmb) (RepM.up s12.tups _ _ hrm) (fun q ys H3 s3 hq hq2 hrw => h0 q ys H3 (s12.tr s3) (none_of s12 hq) hq2 (up1 s12 ?_))
      rw [show decide (z = "quit") = true from gg]
      exact hrw
    · refine seq_if (σ := S0) (ne_str (ev_ixT (ev_var rfl) (fun _ _ => ev_C) (.inl (.inl ((s1.tr s2) _ _ ha))) (at0 _ _)) fun _ _ => ev_C) (fun g3 H3 s3 => ?_) (fun g3 H3 s3 => ?_)
      · have s13 := (s1.tr s2).tr s3
        refine ret_one rfl (s13 _ _ hmb) (RepM.up s13.tups _ _ hrm) (fun q ys H4 s4 hq hq2 hrw => h0 q ys H4 (s13.tr s4) (none_of s13 hq) hq2 (up1 s13 ?_))
        rw [show decide (z = "quit") = false from gg]
        exact hrw
      · rw [decide_eq_false hz] at g3
        cases g3
  have hne : decide (("step" : Str) = "quit") = false := by decide +kernel
  refine seq_if (σ := S0) (eq_str (x := "step") (ev_ixT (ev_var rfl) (fun _ _ => ev_C) (.inl (.inl (s1 _ _ ha))) rfl) fun _ _ => ev_C) (fun gg H2 s2 => by rw [hne] at gg; cases gg) (fun gg H2 s2 => ?_)
  refine seq_if (σ := S0) (ne_str (x := "step") (ev_ixT (ev_var rfl) (fun _ _ => ev_C) (.inl (.inl ((s1.tr s2) _ _ ha))) rfl) fun _ _ => ev_C) (fun g3 H3 s3 => by simp at g3) (fun g3 H3 s3 => ?_)
  have s13 := (s1.tr s2).tr s3
  obtain ⟨oa, ho1, ho2⟩ := outsK T z hz
  have hbl := rep_len b bs hbr
  refine ⟨_, rfl, a, _, _, _, rfl, rfl, .inl (.inl (s13 _ _ ha)), rfl, ba, rfl, ⟨bs, .inl (.inl (s13 _ _ hba))⟩, fun D hD => ?_⟩
  have hD0 : H D = none := none_of s13 hD
  refine dc_tup (xs := bs) (fun i H' => Same H3 H' ∧ ∃ (kvs : List (Key × V)) (rest : PT), H' D = some (.dK kvs) ∧ kvs.length ≤ i ∧ rest.wf true ∧ RepR Al H rest (bs.drop i) ∧ ∀ oc, (oc ∈ rest.os ∧ b.blkOf oc = rest.blkOf oc) ∨ (oc ∉ rest.os ∧ ((valV kvs (.inr oc) = none ∧ b.blkOf oc = .nil) ∨ ∃ ra zs, valV kvs (.inr oc) = some (.ref ra) ∧ H ra = some (.lst zs) ∧ RepR Al H (b.blkOf oc) zs)))
    ⟨Same.new hD, [], b, upd_same, Nat.le_refl _, hbw, hbr, fun oc => (Classical.em (oc ∈ b.os)).elim (fun h => .inl ⟨h, rfl⟩) (fun h => .inr ⟨h, .inl ⟨rfl, blkOf_no oc b h⟩⟩)⟩ (fun i H' _ k => .inl (.inl (k.1 _ _ (s13 _ _ hba)))) ?_ ?_
  · rintro i x H4 hx ⟨s4, kvs, rest, hD4, hkl, hbw2, hbr2, hoc⟩
    have hil : i < bs.length := by
      by_cases z : i < bs.length
      · exact z
      · rw [List.getElem?_eq_none (by omega)] at hx; cases hx
    rw [drop_at hx] at hbr2
    obtain ⟨o2, l2, rs, r2, a2, ra, zs, rfl, rfl, ha2, hra, hno, hrsw, hrsr, hr2w, hr2r⟩ := rep_blk hbw2 hbr2
    have s14 := s13.tr s4
    refine ⟨rfl, ?_⟩
    dsimp only [tYes]
    rw [if_pos rfl]
    refine ⟨_, rfl, a2, _, _, _, rfl, rfl, .inl (.inl (s14 _ _ ha2)), rfl, ?_⟩
    refine ⟨_, rfl, a2, _, _, _, rfl, rfl, .inl (.inl (s14 _ _ ha2)), rfl, ?_⟩
    refine ⟨kvs, .inr o2, rfl, hD4, by omega, (s4.mut hD), putK kvs (.inr o2) (.ref ra), r2, upd_same, by have := put_len kvs (.inr o2) (V.ref ra); omega, hr2w, hr2r, fun oc => ?_⟩
    rw [valV_put]
    by_cases e : oc = o2
    · subst e
      rcases hoc oc with ⟨k1, k2⟩ | ⟨k1, _⟩
      · refine .inr ⟨hno, .inr ⟨ra, zs, if_pos rfl, hra, ?_⟩⟩
        rw [k2]
        show RepR Al H (if oc = oc then rs else r2.blkOf oc) zs
        rw [if_pos rfl]
        exact hrsr
      · exact absurd (List.mem_cons_self ..) k1
    · rw [if_neg (fun z => e (by injection z))]
      rcases hoc oc with ⟨k1, k2⟩ | ⟨k1, k2⟩
      · refine .inl ⟨?_, ?_⟩
        · have k3 : oc ∈ o2 :: r2.os := k1
          rcases List.mem_cons.mp k3 with k4 | k4
          · exact absurd k4 e
          · exact k4
        · rw [k2]
          show (if o2 = oc then rs else r2.blkOf oc) = _
          rw [if_neg (fun z => e z.symm)]
      · exact .inr ⟨fun z => k1 (List.mem_cons_of_mem _ z), k2⟩
  · rintro H4 ⟨s4, kvs, rest, hD4, hkl, hbw2, hbr2, hoc⟩
    rw [List.drop_length] at hbr2
    have := rep_nil hbw2 hbr2
    subst this
    have hoc2 : ∀ oc, (valV kvs (.inr oc) = none ∧ b.blkOf oc = .nil) ∨ ∃ ra zs, valV kvs (.inr oc) = some (.ref ra) ∧ H ra = some (.lst zs) ∧ RepR Al H (b.blkOf oc) zs := fun oc => (hoc oc).elim (fun h => nomatch h.1) (fun h => h.2)
    have s14 := s13.tr s4
    refine nm (nx_seq (set_lst (vs := []) ev_nil (fun H5 fa s5 hfa hl => ?_)))
    have s15 := s14.tr s5
    have hfa0 : H fa = none := none_of s14 hfa
    have hfD : fa ≠ D := fun z => by rw [z, hD4] at hfa; cases hfa
    have hfm : fa ≠ mb := fun z => by rw [z, s14 _ _ hmb] at hfa; cases hfa
    let G : Str → List Wy := fun oc => ((b.blkOf oc).ways).map fun y => (m ++ (z, l) :: y.1, y.2)
    have hGl : ∀ oc, (G oc).length ≤ 3 ^ 7 := fun oc => by
      have h1 := (wz_len (b.blkOf oc)).1 [([], true)]
      have h2 := (blkOf_le oc b hbw).2.2.2
      have h3 : 3 ^ (b.blkOf oc).steps ≤ 3 ^ 7 := Nat.pow_le_pow_right (by decide) (by omega)
      show (List.map _ _).length ≤ _
      rw [List.length_map]
      simp only [List.length_singleton, Nat.one_mul] at h1
      exact Nat.le_trans h1 h3
    have hGt : ∀ i, (((outs z).take i).flatMap G).length ≤ 3 * 3 ^ 7 := fun i => by
      have h1 := fm_len G (3 ^ 7) ((outs z).take i) (fun oc _ => hGl oc)
      have h2 := outs_len z
      have h3 : ((outs z).take i).length ≤ 3 := by rw [List.length_take]; omega
      have h4 := Nat.mul_le_mul_right (3 ^ 7) h3
      omega
    refine for_tp (K := K) (a := oa) (xs := (outs z).map V.str) (fun i σ H' => Same H H' ∧ SameX fa H5 H' ∧ ∃ (ys : List V) (y4 y6 y7 y8 : Option V), σ = [some (.ref mb), some (.bl true), some (.ref a), some (.ref D), y4, some (.ref fa), y6, y7, y8] ∧ H' fa = some (.lst ys) ∧ RepW (fun b => H b = none ∧ b ≠ fa) H' (((outs z).take i).flatMap G) ys)
      (fun Q k => ⟨_, rfl, a, _, _, _, rfl, rfl, .inl (.inl (s15 _ _ ha)), rfl, _, z, _, rfl, rfl, ho1, k _ (Same.rf _)⟩) (ho2 _) (fun H6 s6 => ⟨s15.tr s6, s6.x, [], none, none, none, none, rfl, s6 _ _ hl, rfl⟩) (fun i σ H' _ k => ho2 _) ?_ ?_
    · rintro i x σ H6 hx ⟨s6, sx6, ys, y4, y6, y7, y8, rfl, hf6, hW6⟩
      rw [List.getElem?_map] at hx
      obtain ⟨oc, hoc3, rfl⟩ := Option.map_eq_some_iff.mp hx
      have hD6 : H6 D = some (.dK kvs) := sx6 _ _ (Ne.symm hfD) (s5 _ _ hD4)
      obtain ⟨bw, bd, bz, bst⟩ := blkOf_le oc b hbw
      have go : ∀ (ra : Addr) (zs : List V) (H7 : Hp), Same H6 H7 → H7 ra = some (.lst zs) → RepR Al H7 (b.blkOf oc) zs → spWays K d [.ref ra] H7 (fun x H1 => ∃ a_1, x = V.ref a_1 ∧ (∃ xs, SqL K H1 a_1 xs) ∧ ∃ W : Nat → Nat → L2.St → Hp → Prop, (∃ m, W 0 m [some (.ref mb), some (.bl true), some (.ref a), some (.ref D), y4, some (.ref fa), some (.str oc), y7, y8] H1) ∧ ∀ i_1 m_1 σ H_1, W i_1 m_1 σ H_1 → (Itl K a_1).stop i_1 H_1 ∧ (Same H H_1 ∧ SameX fa H5 H_1 ∧ ∃ (ys : List V) (y4 y6 y7 y8 : Option V), σ = [some (.ref mb), some (.bl true), some (.ref a), some (.ref D), y4, some (.ref fa), y6, y7, y8] ∧ H_1 fa = some (.lst ys) ∧ RepW (fun b => H b = none ∧ b ≠ fa) H_1 (((outs z).take (i + 1)).flatMap G) ys) ∨ (Itl K a_1).go i_1 H_1 ∧ ∃ N : L2.St → Hp → Prop, (∀ σ' H', N σ' H' → ∃ m', m' < m_1 ∧ W (i_1 + 1) m' σ' H') ∧ ∀ x H', (Itl K a_1).yld i_1 H_1 x H' → gTup K 2 (gCons (gName 7) (gCons (gName 8) gNil)) x σ H' fun σ2 H2 => tDrop (tBM K "list" rAppend (tVar 5) (tCons (tTup (tCons (tLst (StX.tStar K (tVar 0) (tCons (tTup (tCons (tOp (rIxT K) (tVar 2) (tC (.int 2))) (tCons (tOp (rIxT K) (tVar 2) (tC (.int 1))) tNil))) (StX.tStar K (tVar 7) tNil)))) (tCons (tVar 8) tNil))) tNil)) { nx := N, rt := Q, bk := fun σ H_1 => (Same H H_1 ∧ SameX fa H5 H_1 ∧ ∃ (ys : List V) (y4 y6 y7 y8 : Option V), σ = [some (.ref mb), some (.bl true), some (.ref a), some (.ref D), y4, some (.ref fa), y6, y7, y8] ∧ H_1 fa = some (.lst ys) ∧ RepW (fun b => H b = none ∧ b ≠ fa) H_1 (((outs z).take (i + 1)).flatMap G) ys), ct := N } σ2 H2) E0 := by
        intro ra zs H7 s7 hra hrr
        refine ⟨ra, zs, b.blkOf oc, rfl, hra, bw, hrr, by omega, by omega, by omega, fun q ws H8 s8 hq hq2 hW => ?_⟩
        have s68 := s7.tr s8
        have hqf : q ≠ fa := fun e => by rw [e, s7 _ _ hf6] at hq; cases hq
        obtain ⟨wl, wat⟩ := RepW.at _ _ hW
        have hwb : ((b.blkOf oc).ways).length ≤ 3 ^ 7 := by have := hGl oc; rw [List.length_map] at this; exact this
        refine ⟨q, rfl, ⟨ws, .inl (.inl hq2)⟩, ?_⟩
        refine for_list (D := { nx := fun σ H_1 => (Same H H_1 ∧ SameX fa H5 H_1 ∧ ∃ (ys : List V) (y4 y6 y7 y8 : Option V), σ = [some (.ref mb), some (.bl true), some (.ref a), some (.ref D), y4, some (.ref fa), y6, y7, y8] ∧ H_1 fa = some (.lst ys) ∧ RepW (fun b => H b = none ∧ b ≠ fa) H_1 (((outs z).take (i + 1)).flatMap G) ys), rt := Q }) (xs := ws) (fun j σ H' => Same H H' ∧ SameX fa H8 H' ∧ ∃ (y2 : List V) (y7 y8 : Option V), σ = [some (.ref mb), some (.bl true), some (.ref a), some (.ref D), y4, some (.ref fa), some (.str oc), y7, y8] ∧ H' fa = some (.lst (ys ++ y2)) ∧ RepW (fun b => H b = none ∧ b ≠ fa) H' (((outs z).take i).flatMap G ++ (((b.blkOf oc).ways).take j).map fun y => (m ++ (z, l) :: y.1, y.2)) (ys ++ y2)) ?_ ?_ ?_ ?_
        · refine ⟨s6.tr s68, (Same.rf _).x, [], y7, y8, rfl, by rw [List.append_nil]; exact s68 _ _ hf6, ?_⟩
          simp only [List.take_zero, List.map_nil, List.append_nil]
          exact RepW.up (fun _ h => h) s68.tups (fun _ _ _ h => s68 _ _ h) _ _ hW6
        · exact fun j σ H' _ k => .inl (.inl (k.2.1 _ _ hqf hq2))
        · rintro j x σ H9 hxj ⟨s9, sx9, y2, y7, y8, rfl, hf9, hW9⟩
          obtain ⟨y, wa, wb, wm, hyj, rfl, hwa, hwbn, hwb2, hwm⟩ := wat j x hxj
          have hwaf : wa ≠ fa := fun e => by rw [e, s68 _ _ hf6] at hwa; cases hwa
          have hwbf : wb ≠ fa := fun e => by have h9 : H7 wb = none := hwbn; rw [e, s7 _ _ hf6] at h9; cases h9
          have hwm9 : RepM H9 y.1 wm := RepM.up (fun c vs hc => sx9 _ _ (fun e => by rw [e, s68 _ _ hf6] at hc; cases hc) hc) _ _ hwm
          have hyl : y.1.length ≤ 7 := by
            have h1 := (wz_met (b.blkOf oc)).1 [([], true)] 0 (fun y hy => by rw [List.mem_singleton] at hy; rw [hy]; exact Nat.le_refl _) y (List.mem_of_getElem? hyj)
            omega
          refine ⟨wa, _, rfl, .inl (.inl (sx9 _ _ hwaf hwa)), rfl, _, _, rfl, _, _, rfl, rfl, ?_⟩
          refine ⟨_, rfl, .inl ⟨rfl, ⟨_, .inl (.inl hf9)⟩⟩, ?_⟩
          refine ⟨_, rfl, mb, ms, rfl, .inr (.inl (.inl (s9 _ _ hmb))), ?_⟩
          refine ⟨_, rfl, a, _, _, _, rfl, rfl, .inl (.inl (s9 _ _ ha)), rfl, _, rfl, a, _, _, _, rfl, rfl, .inl (.inl (s9 _ _ ha)), rfl, szL rfl, fun tp htp => ?_⟩
          have sA : Same H9 (upd H9 tp (.tup [.str z, .int (l : Nat)])) := Same.new htp
          generalize hHA : upd H9 tp (.tup [.str z, .int (l : Nat)]) = HA at sA ⊢
          have htA : HA tp = some (.tup [.str z, .int (l : Nat)]) := by rw [← hHA]; exact upd_same
          refine ⟨_, rfl, wb, wm, rfl, .inr (.inl (.inl (sA _ _ (sx9 _ _ hwbf hwb2)))), ?_⟩
          have lms := RepM.len _ _ hrm
          have lwm := RepM.len _ _ hwm
          refine ⟨by simp; omega, fun lp hlp => ?_⟩
          have sB : Same HA (upd HA lp (.lst (ms ++ (.ref tp :: (wm ++ []))))) := Same.new hlp
          generalize hHB : upd HA lp (.lst (ms ++ (.ref tp :: (wm ++ [])))) = HB at sB ⊢
          have hlB : HB lp = some (.lst (ms ++ (.ref tp :: (wm ++ [])))) := by rw [← hHB]; exact upd_same
          refine ⟨_, rfl, szL rfl, fun op hop => ?_⟩
          have sC : Same HB (upd HB op (.tup [.ref lp, .bl y.2])) := Same.new hop
          generalize hHC : upd HB op (.tup [.ref lp, .bl y.2]) = HC at sC ⊢
          have hoC : HC op = some (.tup [.ref lp, .bl y.2]) := by rw [← hHC]; exact upd_same
          have s9C := (sA.tr sB).tr sC
          have hfC := s9C _ _ hf9
          have hW9l := (RepW.at _ _ hW9).1
          have hcnt : (ys ++ y2).length ≤ 3 * 3 ^ 7 + 3 ^ 7 := by
            have h1 := hGt i
            rw [hW9l, List.length_append, List.length_map, List.length_take]
            omega
          have hlf : lp ≠ fa := fun e => by rw [e, sA _ _ hf9] at hlp; cases hlp
          have hopf : op ≠ fa := fun e => by rw [e, (sA.tr sB) _ _ hf9] at hop; cases hop
          have tupC : TupLe HC (upd HC fa (.lst ((ys ++ y2) ++ [.ref op]))) := fun c vs hc => by rw [upd_ne (fun e => by rw [e, hfC] at hc; cases hc)]; exact hc
          refine ⟨fa, ys ++ y2, .ref op, rfl, rfl, hfC, by omega, (s9.tr s9C).mut hfa0, ?_, y2 ++ [.ref op], _, _, rfl, by rw [upd_same, List.append_assoc], ?_⟩
          · intro c u hc hu
            rw [upd_ne hc]
            exact s9C _ _ (sx9 _ _ hc hu)
          · rw [take_mp _ hyj, ← List.append_assoc, ← List.append_assoc]
            refine RepW.app _ _ _ _ (RepW.up (fun _ h => h) (s9C.tups.trans tupC) (fun c vs h hc => by rw [upd_ne h.2]; exact s9C _ _ hc) _ _ hW9) ?_
            refine ⟨op, lp, ms ++ (.ref tp :: (wm ++ [])), [], rfl, by rw [upd_ne hopf]; exact hoC, ⟨none_of (s9.tr sA) hlp, hlf⟩, by rw [upd_ne hlf]; exact sC _ _ hlB, ?_, rfl⟩
            refine RepM.app _ _ _ _ (RepM.up ((s9.tr s9C).tups.trans tupC) _ _ hrm) ⟨tp, wm ++ [], rfl, tupC _ _ ((sB.tr sC) _ _ htA), ?_⟩
            rw [List.append_nil]
            exact RepM.up (s9C.tups.trans tupC) _ _ hwm9
        · rintro σ H9 ⟨s9, sx9, y2, y7, y8, rfl, hf9, hW9⟩
          refine ⟨s9, ?_, ys ++ y2, _, _, _, _, rfl, hf9, ?_⟩
          · exact fun c u hc hu => sx9 _ _ hc (s68 _ _ (sx6 _ _ hc hu))
          · rw [take_fm G hoc3]
            rw [wl, List.take_length] at hW9
            exact hW9
      refine ⟨_, rfl, D, rfl, .inl ⟨kvs, .inl hD6⟩, _, rfl, szL rfl, fun e he => ?_⟩
      have sE : Same H6 (upd H6 e (.lst [])) := Same.new he
      rcases hoc2 oc with ⟨k1, k2⟩ | ⟨ra, zs, k1, k2, k3⟩
      · refine ⟨none, .inl ⟨kvs, .inr oc, .inl (sE _ _ hD6), rfl, k1.symm⟩, ?_⟩
        exact go e [] _ sE upd_same (by rw [k2]; rfl)
      · refine ⟨some (.ref ra), .inl ⟨kvs, .inr oc, .inl (sE _ _ hD6), rfl, k1.symm⟩, ?_⟩
        exact go ra zs _ sE ((s6.tr sE) _ _ k2) (k3.sm (s6.tr sE))
    · rintro σ H6 ⟨s6, sx6, ys, y4, y6, y7, y8, rfl, hf6, hW6⟩
      rw [List.length_map, List.take_length] at hW6
      exact ⟨_, rfl, h0 fa ys H6 s6 hfa0 hf6 (RepW.up (fun _ h => .inl h.1) (TupLe.refl _) (fun _ _ _ h => h) _ _ hW6)⟩
end
end K59


set_option Elab.async false
set_option linter.all false
set_option maxRecDepth 100000
set_option maxHeartbeats 4000000
namespace K59
open PySem PySem.Spec PyProof.Rows L2
section
variable {P : Program} {w : World} {K : PySem.W.Frag} {mg : Str → Option Value} {base : Heap}
/-- what one row makes of the ways -/
def PT.rb : PT → Wy → List Wy
  | .plain vs _, x => [(x.1, x.2 && !qv vs)]
  | .step l z _ _ b _, x => bhS x.1 x.2 z l b
  | _, _ => []
theorem wz_row {t r : PT} (hw : t.wf false) (h : (∃ vs, t = .plain vs r) ∨ ∃ l z o p b, t = .step l z o p b r) (ws : List Wy) : t.wz none ws = r.wz none (ws.flatMap t.rb) := by
  rcases h with ⟨vs, rfl⟩ | ⟨l, z, o, p, b, rfl⟩
  · rfl
  · show r.wz none _ = r.wz none _
    refine congrArg _ (congrArg (fun f => List.flatMap f ws) (funext fun x => ?_))
    show (if x.2 = true then _ else _) = (if x.2 = true then _ else _)
    by_cases hx : x.2 = true
    · rw [if_pos hx, if_pos hx]
      exact congrArg (fun f => List.flatMap f (outs z)) (funext fun oc => by rw [wz_blk oc b hw.2.1])
    · rw [if_neg hx, if_neg hx]
theorem rb_len {t : PT} (x : Wy) : (∀ vs r, t = .plain vs r → (t.rb x).length ≤ 1) ∧ (∀ l z o p b r, t = .step l z o p b r → b.wf true → (t.rb x).length ≤ 3 * 3 ^ b.steps) := by
  constructor
  · rintro vs r rfl; exact Nat.le_refl _
  · rintro l z o p b r rfl hb
    show (bhS x.1 x.2 z l b).length ≤ _
    have h3 : 1 ≤ 3 ^ b.steps := Nat.one_le_pow _ _ (by decide)
    unfold bhS
    split
    · have h4 := fm_len (fun oc => ((b.blkOf oc).ways).map fun y : Wy => (x.1 ++ (z, l) :: y.1, y.2)) (3 ^ b.steps) (outs z) (fun oc _ => by
        rw [List.length_map]
        have h1 := (wz_len (b.blkOf oc)).1 [([], true)]
        have h2 := (blkOf_le oc b hb).2.2.2
        have h5 : 3 ^ (b.blkOf oc).steps ≤ 3 ^ b.steps := Nat.pow_le_pow_right (by decide) h2
        simp only [List.length_singleton, Nat.one_mul] at h1
        exact Nat.le_trans h1 h5)
      have h5 := Nat.mul_le_mul_right (3 ^ b.steps) (outs_len z)
      omega
    · show 1 ≤ _; omega
theorem rb_met {t : PT} (x : Wy) : (∀ vs r, t = .plain vs r → ∀ y ∈ t.rb x, y.1.length ≤ x.1.length) ∧ (∀ l z o p b r, t = .step l z o p b r → b.wf true → ∀ y ∈ t.rb x, y.1.length ≤ x.1.length + (1 + b.steps)) := by
  constructor
  · rintro vs r rfl y hy
    rw [show (PT.plain vs r).rb x = [(x.1, x.2 && !qv vs)] from rfl, List.mem_singleton] at hy
    rw [hy]
    exact Nat.le_refl _
  · rintro l z o p b r rfl hb y hy
    have hy2 : y ∈ bhS x.1 x.2 z l b := hy
    unfold bhS at hy2
    split at hy2
    · rw [List.mem_flatMap] at hy2
      obtain ⟨oc, _, hy2⟩ := hy2
      rw [List.mem_map] at hy2
      obtain ⟨u, hu, rfl⟩ := hy2
      have h1 := (wz_met (b.blkOf oc)).1 [([], true)] 0 (fun y hy => by rw [List.mem_singleton] at hy; rw [hy]; exact Nat.le_refl _) u hu
      have h2 := (blkOf_le oc b hb).2.2.2
      simp
      omega
    · rw [List.mem_singleton] at hy2
      rw [hy2]
      show x.1.length ≤ _
      omega
theorem fm_ne {α β : Type} (f : α → List β) : ∀ l : List α, l ≠ [] → (∀ x ∈ l, f x ≠ []) → l.flatMap f ≠ []
  | [], h, _ => absurd rfl h
  | x :: r, _, h => fun e => by
    rw [List.flatMap_cons, List.append_eq_nil_iff] at e
    exact h x (List.mem_cons_self ..) e.1
theorem outs_ne {z : Str} (h : z ∈ stW) : outs z ≠ [] := by
  simp only [stW, List.mem_cons, List.not_mem_nil, or_false] at h
  rcases h with rfl | rfl | rfl | rfl | rfl | rfl | rfl <;> (intro e; revert e; decide +kernel)
theorem wz_ne2 : ∀ (t : PT), (t.wf false → ∀ v : List Wy, v ≠ [] → t.wz none v ≠ []) ∧ (t.wf true → ∀ oc, t.wz (some oc) [] ≠ [])
  | .nil => ⟨fun _ v h => h, fun _ oc => by show [([], true)] ≠ []; simp⟩
  | .plain vs r => ⟨fun h v hv => (wz_ne2 r).1 h.2 _ (fm_ne _ v hv (fun _ _ => by simp)), fun h => h.elim⟩
  | .step l w o p b r => ⟨fun h v hv => (wz_ne2 r).1 h.2.2 _ (fm_ne _ v hv (fun x _ => by
      split
      · refine fm_ne _ _ (outs_ne h.1) (fun oc _ => ?_)
        have := (wz_ne2 b).2 h.2.1 oc
        simpa using this
      · simp)), fun h => h.elim⟩
  | .blk o l rs r => ⟨fun h => h.elim, fun h oc => by
      show (if o = oc then rs.wz none [([], true)] else r.wz (some oc) []) ≠ []
      split
      · exact (wz_ne2 rs).1 h.2.1 _ (by simp)
      · exact (wz_ne2 r).2 h.2.2 oc⟩
theorem wz_ne (t : PT) (v : List Wy) (hv : v ≠ []) (h : t.wf false) : t.wz none v ≠ [] := (wz_ne2 t).1 h v hv
theorem ok_ways1 (T : Tx P w K mg) {d j : Nat} (F_ways_behind : FnX P w K mg base CX0 j "ways_behind" ["met", "goes_on", "row"] [] (spBehind K d)) : FnX P w K mg base CX0 (j + 1) "deed_ways" ["rows"] [] (spWays K (d + 1)) := by
  refine T.d_deed_ways.ok0 sc_deed_ways (fun _ _ _ _ _ _ us hl => match us, hl with | [_], _ => rfl) (fun vs H Q E h => ?_) (fun f cdv A outer s H vs Q E hr h => have hu := hu_of hr; ⟨_, (by exact (pss_cons (ps_set (i := 1) sc_deed_ways.nd rfl (Or.inl rfl) (pe_lst (pa_cons (pe_tup (pa_cons (pe_lst pa_nil) (pa_cons pe_bl pa_nil))) pa_nil)))
      (pss_cons (ps_for PassesOwn.never rfl (pi_list (pv 0)) (pg_name (i := 2) sc_deed_ways.nd rfl (Or.inr rfl))
        (pss_one (ps_setLc2 (i := 1) (own := [("met", 3), ("goes_on", 4), ("way", 5)]) (vs1 := [5]) (g := (gTup K 2 (gCons (gName 3) (gCons (gName 4) gNil)))) (tt := tYes) (g1 := (gName 5)) (tt1 := tYes) (by rfl) sc_deed_ways.nd rfl rfl (sw_true rfl rfl rfl (by decide +kernel)) (pi_list (pv 1)) (blkOk_by (own := [("met", 3), ("goes_on", 4), ("way", 5)]) (N := ["rows", "found", "row", "met", "goes_on", "way"]) (sc := defScope s_deed_ways) (by decide +kernel)) (by decide) (fun _ _ _ _ _ => (pg_tup rfl (pgs_cons (pg_name (i := 3) sc_deed_ways.nd rfl (Or.inl rfl)) (pgs_cons (pg_name (i := 4) sc_deed_ways.nd rfl (Or.inl rfl)) pgs_nil)))) (fun _ _ _ _ _ => pts_nil) (fun _ _ _ _ _ => (piL_at (K := K) (pe_callX F_ways_behind (hr.mono (by first | decide | omega)) pass0 (pa_cons (pv 3) (pa_cons (pv 4) (pa_cons (pv 2) pa_nil)))))) (fun _ _ _ _ _ => (pg_name (i := 5) sc_deed_ways.nd rfl (Or.inl rfl))) (fun _ _ _ _ _ => pts_nil) (fun _ _ _ _ _ => (pv 5)))))
      (pss_one (ps_ret (pv 1)))))), ?_⟩)
  · obtain ⟨p, xs, t, rfl, _⟩ := h
    rfl
  obtain ⟨p, xs, t, rfl, hp, hw, hrep, hd, hlen, hst, h0⟩ := h
  have q9 : sizeLine = 16777216 := sizeLine_eq
  refine ⟨szL rfl, fun e0 he0 => ⟨szL rfl, fun t0 ht0 => ⟨szL rfl, fun f0 hf0 => ?_⟩⟩⟩
  have sA : Same H (upd H e0 (.lst [])) := Same.new he0
  generalize hHA : upd H e0 (.lst []) = HA at sA ht0 hf0 ⊢
  have heA : HA e0 = some (.lst []) := by rw [← hHA]; exact upd_same
  have sB : Same HA (upd HA t0 (.tup [.ref e0, .bl true])) := Same.new ht0
  generalize hHB : upd HA t0 (.tup [.ref e0, .bl true]) = HB at sB hf0 ⊢
  have htB : HB t0 = some (.tup [.ref e0, .bl true]) := by rw [← hHB]; exact upd_same
  have sC : Same HB (upd HB f0 (.lst [.ref t0])) := Same.new hf0
  generalize hHC : upd HB f0 (.lst [.ref t0]) = HC at sC ⊢
  have hfC : HC f0 = some (.lst [.ref t0]) := by rw [← hHC]; exact upd_same
  have s0C := (sA.tr sB).tr sC
  have P8 : 3 ^ t.steps ≤ 3 ^ 8 := Nat.pow_le_pow_right (by decide) hst
  refine nm (nx_seq (for_lst (K := K) (a := p) (xs := xs) (fun i σ H' => Same H H' ∧ ∃ (fa : Addr) (ys : List V) (ws : List Wy) (y2 : Option V) (rest : PT), σ = [some (.ref p), some (.ref fa), y2, none, none, none] ∧ H' fa = some (.lst ys) ∧ H fa = none ∧ RepW (Nn H) H' ws ys ∧ rest.wf false ∧ RepR Al H rest (xs.drop i) ∧ t.ways = rest.wz none ws ∧ ws.length * 3 ^ rest.steps ≤ 3 ^ 8 ∧ (∀ x ∈ ws, x.1.length + rest.steps ≤ 8) ∧ rest.dep ≤ t.dep ∧ rest.sz ≤ t.sz)
    (ev_var rfl) (.inl (.inl (s0C _ _ hp))) (fun H1 s1 => ⟨s0C.tr s1, f0, [.ref t0], [([], true)], none, t, rfl, s1 _ _ hfC, none_of (sA.tr sB) hf0, ⟨t0, e0, [], [], rfl, (sC.tr s1) _ _ htB, he0, ((sB.tr sC).tr s1) _ _ heA, rfl, rfl⟩, hw, hrep, rfl, by simpa using P8, fun x hx => by rw [List.mem_singleton] at hx; rw [hx]; show 0 + t.steps ≤ 8; omega, Nat.le_refl _, Nat.le_refl _⟩) (fun i σ H' _ k => .inl (.inl (k.1 _ _ hp))) ?_ ?_))
  · rintro i x σ H2 hx ⟨s2, fa, ys, ws, y2, rest, rfl, hf2, hfn, hW2, hrw, hrr, hways, hcnt, hmet, hd2, hz2⟩
    rw [drop_at hx] at hrr
    have key : ∀ (a : Addr) (r : PT) (c : Nat), x = .ref a → (∀ y, (rest.rb y).length ≤ c) → c * 3 ^ r.steps ≤ 3 ^ rest.steps → (∀ (y : Wy), ∀ u ∈ rest.rb y, u.1.length + r.steps ≤ y.1.length + rest.steps) → r.wf false → RepR Al H r (xs.drop (i + 1)) → (∀ v, rest.wz none v = r.wz none (v.flatMap rest.rb)) → r.dep ≤ t.dep → r.sz ≤ t.sz →
        (∀ (H4 : Hp) (y : Wy), Same H H4 → (∃ z us, H4 a = some (.tup (.str z :: us)) ∧ z ≠ "step" ∧ rest.rb y = [(y.1, y.2 && !decide (z = "quit"))]) ∨ (∃ (l : Nat) (z : Str) (o p : Option Str) (b : PT) (ba : Addr) (bs : List V), H4 a = some (.tup [.str "step", .int (l : Nat), .str z, oS o, oS p, .ref ba]) ∧ z ∈ stW ∧ H4 ba = some (.tup bs) ∧ b.wf true ∧ RepR Al H4 b bs ∧ b.dep < d ∧ b.sz ≤ 1000 ∧ b.steps ≤ 7 ∧ rest.rb y = bhS y.1 y.2 z l b)) →
        tAsg (tLc2 (iList K (tVar 1)) (gTup K 2 (gCons (gName 3) (gCons (gName 4) gNil))) tYes (iList K (tCall (spBehind K d) [] E0 (tCons (tVar 3) (tCons (tVar 4) (tCons (tVar 2) tNil))))) (gName 5) tYes (tVar 5) [3, 4, 5] [5]) (gName 1) { nx := fun σ H' => Same H H' ∧ ∃ (fa : Addr) (ys : List V) (ws : List Wy) (y2 : Option V) (rest : PT), σ = [some (.ref p), some (.ref fa), y2, none, none, none] ∧ H' fa = some (.lst ys) ∧ H fa = none ∧ RepW (Nn H) H' ws ys ∧ rest.wf false ∧ RepR Al H rest (xs.drop (i + 1)) ∧ t.ways = rest.wz none ws ∧ ws.length * 3 ^ rest.steps ≤ 3 ^ 8 ∧ (∀ x ∈ ws, x.1.length + rest.steps ≤ 8) ∧ rest.dep ≤ t.dep ∧ rest.sz ≤ t.sz, rt := Q } [some (.ref p), some (.ref fa), some x, none, none, none] H2 := by
      intro a r c hxa hc hc2 hmet2 hrw2 hrr2 hwz hdr hzr hbeh
      subst hxa
      obtain ⟨wl, wat⟩ := RepW.at _ _ hW2
      have hwc : ws.length * c ≤ 3 ^ 8 := by
        have h1 : 1 ≤ 3 ^ r.steps := Nat.one_le_pow _ _ (by decide)
        have h2 : c ≤ c * 3 ^ r.steps := Nat.le_mul_of_pos_right _ h1
        have h3 := Nat.mul_le_mul_left ws.length (Nat.le_trans h2 hc2)
        omega
      have hwl : ws.length ≤ 3 ^ 8 := by
        have h1 : 1 ≤ 3 ^ rest.steps := Nat.one_le_pow _ _ (by decide)
        have h2 : ws.length ≤ ws.length * 3 ^ rest.steps := Nat.le_mul_of_pos_right _ h1
        omega
      have htake : ∀ k, ((ws.take k).flatMap rest.rb).length ≤ 3 ^ 8 := fun k => by
        have h1 := fm_len rest.rb c (ws.take k) (fun y _ => hc y)
        have h2 : (ws.take k).length ≤ ws.length := by rw [List.length_take]; omega
        have h3 := Nat.mul_le_mul_right c h2
        omega
      refine ⟨_, rfl, fa, rfl, ⟨ys, .inl (.inl hf2)⟩, fun D hD => ?_⟩
      have hD0 : H D = none := none_of s2 hD
      refine itl_by (xs := ys) (fun k H' => Same H2 H' ∧ ∃ zs, H' D = some (.lst zs) ∧ RepW (fun b => H b = none ∧ b ≠ D) H' ((ws.take k).flatMap rest.rb) zs) ⟨Same.new hD, [], upd_same, rfl⟩ (fun k H' _ h => .inl (.inl (h.1 _ _ hf2))) ?_ ?_
      · rintro k y H4 hy ⟨s4, zs, hD4, hW4⟩
        obtain ⟨wx, wa, wb, wm, hwk, rfl, hwa, hwbn, hwb, hwm⟩ := wat k y hy
        have hwbD : wb ≠ D := fun e => by rw [e, hD] at hwb; cases hwb
        have s24 := s2.tr s4
        have hwxm : wx.1.length ≤ 8 := by have := hmet wx (List.mem_of_getElem? hwk); omega
        refine ⟨wa, _, rfl, .inl (.inl (s4 _ _ hwa)), rfl, _, _, rfl, _, _, rfl, rfl, rfl, ?_⟩
        dsimp only [tYes]
        rw [if_pos rfl]
        refine ⟨_, rfl, _, rfl, _, rfl, wb, a, wx.2, wm, wx.1, rest.rb wx, rfl, s4 _ _ hwb, RepM.up s4.tups _ _ hwm, hwxm, hbeh H4 wx s24, fun q z2 H5 s5 hq hq2 hW5 => ?_⟩
        refine ⟨q, rfl, ⟨z2, .inl (.inl hq2)⟩, ?_⟩
        have hqD : q ≠ D := fun e => by rw [e, hD4] at hq; cases hq
        obtain ⟨ul, uat⟩ := RepW.at _ _ hW5
        have hD5 := s5 _ _ hD4
        refine itl_by (xs := z2) (fun j H' => SameX D H5 H' ∧ ∃ add, H' D = some (.lst (zs ++ add)) ∧ RepW (fun b => H b = none ∧ b ≠ D) H' ((ws.take k).flatMap rest.rb ++ (rest.rb wx).take j) (zs ++ add)) ⟨(Same.rf _).x, [], by rw [List.append_nil]; exact hD5, ?_⟩ (fun j H' _ h => .inl (.inl (h.1 _ _ hqD hq2))) ?_ ?_
        · simp only [List.take_zero, List.append_nil]
          exact RepW.up (fun _ h => h) s5.tups (fun _ _ _ h => s5 _ _ h) _ _ hW4
        · rintro j v H6 hv ⟨s6, add, hD6, hW6⟩
          obtain ⟨u, ua, ub, um, huj, rfl, hua, hFb, hub, hum⟩ := uat j v hv
          have huaD : ua ≠ D := fun e => by rw [e, hD5] at hua; cases hua
          have hubD : ub ≠ D := by
            rcases hFb with h | h
            · exact fun e => by rw [e, hD4] at h; cases h
            · rw [h]; exact hwbD
          have hub0 : H ub = none := by
            rcases hFb with h | h
            · exact none_of s24 h
            · rw [h]; exact hwbn
          refine nm ⟨rfl, ?_⟩
          rw [if_pos rfl]
          have hl6 := (RepW.at _ _ hW6).1
          refine ⟨_, rfl, zs ++ add, hD6, ?_, fun b o hb ho => by rw [upd_ne hb]; exact s6 _ _ hb ho, add ++ [.ref ua], by rw [upd_same, List.append_assoc], ?_⟩
          · rw [hl6, List.length_append, List.length_take]
            have h1 := htake k
            have h2 := hc wx
            have h3 : c ≤ 3 ^ 8 ∨ ws.length = 0 := by
              by_cases z : ws.length = 0
              · exact .inr z
              · exact .inl (Nat.le_trans (Nat.le_mul_of_pos_left c (by omega)) hwc)
            have h4 : k < ws.length := by
              by_cases z : k < ws.length
              · exact z
              · rw [List.getElem?_eq_none (by omega)] at hwk; cases hwk
            omega
          · have tD : TupLe H6 (upd H6 D (.lst ((zs ++ add) ++ [.ref ua]))) := fun c vs hc => by rw [upd_ne (fun e => by rw [e, hD6] at hc; cases hc)]; exact hc
            have t5 : TupLe H5 H6 := fun c vs hc => s6 _ _ (fun e => by rw [e, hD5] at hc; cases hc) hc
            rw [List.take_succ, huj, ← List.append_assoc, ← List.append_assoc]
            refine RepW.app _ _ _ _ (RepW.up (fun _ h => h) tD (fun c vs h hc => by rw [upd_ne h.2]; exact hc) _ _ hW6) ?_
            exact ⟨ua, ub, um, [], rfl, tD _ _ (t5 _ _ hua), ⟨hub0, hubD⟩, by rw [upd_ne hubD]; exact s6 _ _ hubD hub, RepM.up (t5.trans tD) _ _ hum, rfl⟩
        · rintro H6 ⟨s6, add, hD6, hW6⟩
          refine ⟨fun b o hb => s6 _ _ (fun e => by rw [e, hD] at hb; cases hb) (s5 _ _ (s4 _ _ hb)), zs ++ add, hD6, ?_⟩
          rw [ul, List.take_length] at hW6
          rw [take_fm rest.rb hwk]
          exact hW6
      · rintro H4 ⟨s4, zs, hD4, hW4⟩
        rw [wl, List.take_length] at hW4
        refine nm ⟨s2.tr s4, D, zs, ws.flatMap rest.rb, _, r, rfl, hD4, hD0, RepW.up (fun _ h => h.1) (TupLe.refl _) (fun _ _ _ h => h) _ _ hW4, hrw2, hrr2, hways.trans (hwz ws), ?_, ?_, hdr, hzr⟩
        · have h1 := fm_len rest.rb c ws (fun y _ => hc y)
          have h2 := Nat.mul_le_mul_right (3 ^ r.steps) h1
          have h3 := Nat.mul_le_mul_left ws.length hc2
          rw [Nat.mul_assoc] at h2
          omega
        · intro u hu
          rw [List.mem_flatMap] at hu
          obtain ⟨y, hy, hu⟩ := hu
          have h1 := hmet y hy
          have h2 := hmet2 y u hu
          omega
    rcases rep_row hrw hrr with ⟨vs, r, a, z, us, rfl, rfl, ha, rfl, hz, hrw2, hrr2⟩ | ⟨l, z, o, pl, b, r, a, ba, bs, rfl, rfl, ha, hzw, hba, hbw, hbr, hrw2, hrr2⟩
    · have e3 : (PT.plain (V.str z :: us) r).sz = 1 + r.sz := rfl
      exact key a r 1 rfl (fun y => Nat.le_refl _) (by rw [Nat.one_mul]; exact Nat.le_refl _) (fun y u hu => by have := (rb_met (t := PT.plain (V.str z :: us) r) y).1 _ _ rfl u hu; have e : (PT.plain (V.str z :: us) r).steps = r.steps := rfl; omega) hrw2 hrr2 (wz_row hrw (.inl ⟨_, rfl⟩)) hd2 (by omega) (fun H4 y s4 => .inl ⟨z, us, s4 _ _ ha, hz, rfl⟩)
    · have e1 : (PT.step l z o pl b r).steps = 1 + b.steps + r.steps := rfl
      have e2 : (PT.step l z o pl b r).dep = max (b.dep + 1) r.dep := rfl
      have e3 : (PT.step l z o pl b r).sz = 1 + b.sz + r.sz := rfl
      have hs8 : (PT.step l z o pl b r).steps ≤ 8 := by
        cases hws : ws with
        | nil =>
          exfalso
          rw [hws] at hways
          have h1 : (t.ways).length = 0 := by
            rw [hways]
            have := (wz_len (PT.step l z o pl b r)).1 []
            simpa using this
          have h2 : ∀ (t : PT) (v : List Wy), v ≠ [] → t.wf false → t.wz none v ≠ [] := wz_ne
          exact h2 t [([], true)] (by simp) hw (List.length_eq_zero_iff.mp h1)
        | cons y v =>
          have := hmet y (by rw [hws]; exact List.mem_cons_self ..)
          omega
      exact key a r (3 * 3 ^ b.steps) rfl (fun y => (rb_len (t := PT.step l z o pl b r) y).2 _ _ _ _ _ _ rfl hbw) (by rw [e1]; simp [Nat.pow_add]) (fun y u hu => by have := (rb_met (t := PT.step l z o pl b r) y).2 _ _ _ _ _ _ rfl hbw u hu; omega) hrw2 hrr2 (wz_row hrw (.inr ⟨_, _, _, _, _, rfl⟩)) (by omega) (by omega) (fun H4 y s4 => .inr ⟨l, z, o, pl, b, ba, bs, s4 _ _ ha, hzw, s4 _ _ hba, hbw, hbr.sm s4, by omega, by omega, by omega, rfl⟩)
  · rintro σ H2 ⟨s2, fa, ys, ws, y2, rest, rfl, hf2, hfn, hW2, hrw, hrr, hways, hcnt, hmet, hd2, hz2⟩
    rw [List.drop_length] at hrr
    have := rep_nil hrw hrr
    subst this
    exact ⟨_, rfl, h0 fa ys H2 s2 hfn hf2 (by rw [hways]; exact hW2)⟩
theorem ok_ways (T : Tx P w K mg) : ∀ d, FnX P w K mg base CX0 (2 * d + 1) "deed_ways" ["rows"] [] (spWays K d)
  | 0 => T.d_deed_ways.ok0 (k := 0) sc_deed_ways (fun _ _ _ _ _ _ us hl => match us, hl with | [_], _ => rfl) (fun vs H Q E h => by obtain ⟨p, xs, t, rfl, _, _, _, h, _⟩ := h; omega) (fun f cdv A outer s H vs Q E hr h => by obtain ⟨p, xs, t, rfl, _, _, _, h, _⟩ := h; omega)
  | d + 1 => ok_ways1 T (ok_behind T (ok_ways T d))
end
end K59


set_option Elab.async false
set_option linter.all false
set_option maxRecDepth 100000
set_option maxHeartbeats 4000000
namespace K59
open PySem PySem.Spec PyProof.Rows L2
section
variable {P : Program} {w : World} {K : PySem.W.Frag} {mg : Str → Option Value} {base : Heap}
def onces : List Str := ["lay", "stretch", "give"]
def onceL (m : List (Str × Nat)) (wd : Str) : List Nat := ((m.filter fun x => decide (x.1 = wd)).map (·.2)).drop 1
def PT.wrongs (t : PT) (kd : Str) : List Nat := (if kd = "leave" then t.unfit else []) ++ t.ways.flatMap fun x => onces.flatMap fun wd => onceL x.1 wd
abbrev iv (l : List Nat) : List V := l.map fun (n : Nat) => V.int (n : Nat)
def spLim (K : PySem.W.Frag) : Sp := fun vs H Q E => ∃ (p : Addr) (xs : List V) (t : PT) (kd : Str), vs = [.ref p, .str kd] ∧ H p = some (.lst xs) ∧ t.wf false ∧ RepR Al H t xs ∧ t.dep < 41 ∧ t.sz ≤ 1000 ∧
  (8 < t.steps → ∀ d H', Same H H' → H' d = some (.xd [("most", .int 8), ("many", .int (t.steps : Nat)), ("what", .str (Str.ofString "steps"))]) → E (.ref (He.ga K "TooMany")) (some d) H') ∧
  (t.steps ≤ 8 → t.wrongs kd = [] → ∀ H', Same H H' → Q .non H') ∧
  (t.steps ≤ 8 → ∀ k, k ∈ t.wrongs kd → (∀ j ∈ t.wrongs kd, k ≤ j) → ∀ d H', Same H H' → H' d = some (.xd [("line", .int (k : Nat))]) → E (.ref (He.ga K "Refused")) (some d) H')
theorem nx_if {c : TT} {a b : TS} {D : Ends} {z : L2.St} {H : Hp} {r : VK} {k l : L2.St → Hp → Prop} (h : tIfS c a b D z H) : Ends.nx { nx := tIfS c a b D, rt := r, bk := k, ct := l } z H := h
theorem RepM.at {H : Hp} : ∀ (ms : List (Str × Nat)) (ys : List V), RepM H ms ys → ∀ (i : Nat) (y : V), ys[i]? = some y → ∃ (m : Str × Nat) (a : Addr), ms[i]? = some m ∧ y = V.ref a ∧ H a = some (.tup [.str m.1, .int (m.2 : Nat)])
  | [], ys, h => by cases (show ys = [] from h); exact fun i y e => by simp at e
  | m :: ms, _, ⟨a, zs, e, ha, h⟩ => by
    subst e
    intro i y e
    cases i with
    | zero => exact ⟨m, a, rfl, (by simpa using e.symm), ha⟩
    | succ i => exact RepM.at ms zs h i y (by simpa using e)
theorem take_succ_iv {l : List Nat} {i n : Nat} (h : l[i]? = some n) : iv (l.take i) ++ [V.int (n : Nat)] = iv (l.take (i + 1)) := by
  rw [List.take_succ, h]
  simp
theorem ok_lim (T : Tx P w K mg) : FnX P w K mg base (L2.CX P w) 90 "need_deed_limits" ["rows", "kind"] [] (spLim K) := by
  have F_count_steps := ok_count (base := base) T 41
  have F_unfit_lines := ok_unfit (base := base) T 41
  have F_deed_ways := ok_ways (base := base) T 41
  refine T.d_need_deed_limits.okX sc_need_deed_limits (fun _ _ _ _ _ _ us hl => match us, hl with | [_, _], _ => rfl) (fun vs H Q E h => ?_) (fun f cdv A outer s H vs Q E hr h => have hu := hu_of hr; ⟨_, (by exact (pss_cons (ps_set (i := 2) sc_need_deed_limits.nd rfl (Or.inl rfl) (pe_callX F_count_steps (hr.mono (by first | decide | omega)) pass0 (pa_cons (pv 0) pa_nil)))
      (pss_cons (ps_if (pt_cmpR op_gt (pv 2) (pe_gint T.c_MOST_STEPS) (nomark _)) (pss_one (ps_raise rfl (takes_of rfl rfl rfl rfl) (pmk_err T.e_TooMany T.g_TooMany hr (pa_cons pe_str (pa_cons (pv 2) (pa_cons (pe_gint T.c_MOST_STEPS) pa_nil)))))) pss_nil)
      (pss_cons (ps_set (i := 3) sc_need_deed_limits.nd rfl (Or.inl rfl) (pe_ifExp (pt_cmpR op_eq (pv 1) pe_str (nomark _)) (pe_callX F_unfit_lines (hr.mono (by first | decide | omega)) pass0 (pa_cons (pv 0) pa_nil)) (pe_lst pa_nil)))
      (pss_cons (ps_for (passes_of rfl) rfl (pi_list (pe_callX F_deed_ways (hr.mono (by first | decide | omega)) pass0 (pa_cons (pv 0) pa_nil))) (pg_tup rfl (pgs_cons (pg_name (i := 4) sc_need_deed_limits.nd rfl (Or.inl rfl)) (pgs_cons (pg_name (i := 5) sc_need_deed_limits.nd rfl (Or.inl rfl)) pgs_nil)))
        (pss_one (ps_for (passes_of rfl) rfl (pi_tup (pe_gref T.g_ONCE)) (pg_name (i := 6) sc_need_deed_limits.nd rfl (Or.inr rfl))
        (pss_one (ps_expr (pe_bm PySem.F.plainAttrs_list PySem.F.slot_list_extend PySem.F.type_list_extend mt_extend (pv 3) (pa_cons (pe_slice sl_list (pe_lc (own := [("name", 7), ("line", 8)]) (g := (gTup K 2 (gCons (gName 7) (gCons (gName 8) gNil))))  (by rfl) sc_need_deed_limits.nd (pi_list (pv 4)) (blkOk_by (own := [("name", 7), ("line", 8)]) (N := ["rows", "kind", "many", "wrong", "met", "goes_on", "word", "name", "line"]) (sc := defScope s_need_deed_limits) (by decide +kernel)) (fun _ _ _ _ _ => (pg_tup rfl (pgs_cons (pg_name (i := 7) sc_need_deed_limits.nd rfl (Or.inl rfl)) (pgs_cons (pg_name (i := 8) sc_need_deed_limits.nd rfl (Or.inl rfl)) pgs_nil)))) (fun _ _ _ _ _ => (pts_one (pt_cmpR op_eq (pv 7) (pv 6) (nomark _)))) (fun _ _ _ _ _ => (pv 8))) (po_some pe_int) po_none) pa_nil)))))))
      (pss_one (ps_if (pt_cmpR op_gt (pe_callB call_len_seq (by rfl) T.b_len (by decide +kernel) (pa_cons (pv 3) pa_nil)) pe_int (nomark _)) (pss_one (ps_raise rfl (takes_of rfl rfl rfl rfl) (pmk_err T.e_Refused T.g_Refused hr (pa_cons (pe_callB (cr_min rfl) (by rfl) T.b_min (by decide +kernel) (pa_cons (pe_lc (own := [("line", 8)]) (g := (gName 8)) (tt := tYes) (by rfl) sc_need_deed_limits.nd (pi_list (pv 3)) (blkOk_by (own := [("line", 8)]) (N := ["rows", "kind", "many", "wrong", "met", "goes_on", "word", "name", "line"]) (sc := defScope s_need_deed_limits) (by decide +kernel)) (fun _ _ _ _ _ => (pg_name (i := 8) sc_need_deed_limits.nd rfl (Or.inl rfl))) (fun _ _ _ _ _ => pts_nil) (fun _ _ _ _ _ => (pe_callTy call_int1 (by rfl) T.b_int (by decide +kernel) (pa_cons (pv 8) pa_nil)))) pa_nil)) pa_nil)))) pss_nil))))))), ?_⟩)
  · obtain ⟨p, xs, t, kd, rfl, _⟩ := h
    rfl
  obtain ⟨p, xs, t, kd, rfl, hp, hw, hrep, hd, hlen, h0, h1, h2⟩ := h
  have q9 : sizeLine = 16777216 := sizeLine_eq
  refine ⟨_, rfl, p, xs, t, rfl, hp, hw, hrep, hd, hlen, fun H1 s1 => nm (nx_seq ?_)⟩
  let S1 : L2.St := [some (.ref p), some (.str kd), some (.int (t.steps : Nat)), none, none, none, none, none, none]
  have c1 : EvT (tTest (tOp (rI0 fun i j => V.bl (decide (j < i))) (tVar 2) (tC (V.int 8)))) S1 H1 (decide ((8 : Int) < (t.steps : Nat))) := ev_test (ev_op (ev_var rfl) (fun _ _ => ev_C) fun H2 _ Q q => ⟨_, _, rfl, rfl, q⟩)
  refine seq_if (σ := S1) c1 (fun g H2 s2 => ?_) (fun g H2 s2 => ?_)
  · have g1 : 8 < t.steps := by have := of_decide_eq_true g; omega
    exact ⟨_, rfl, rfl, (fun z => absurd z (by simp)), fun _ d hd => h0 g1 d _ ((s1.tr s2).tr (Same.new hd)) upd_same⟩
  have g1 : t.steps ≤ 8 := by have := of_decide_eq_false g; omega
  have s12 := s1.tr s2
  have hul := unfit_len t
  generalize hw0 : (if kd = "leave" then t.unfit else []) = w0
  have hw0l : w0.length ≤ 8 := by
    rw [← hw0]
    split
    · omega
    · exact Nat.zero_le _
  have cnt : ∀ i, ((t.ways.take i).flatMap fun x => onces.flatMap fun wd => onceL x.1 wd).length ≤ 3 ^ 8 * 24 := fun i => by
    have h3 := fm_len (fun x : Wy => onces.flatMap fun wd => onceL x.1 wd) 24 (t.ways.take i) (fun x hx => by
      have h4 := fm_len (fun wd => onceL x.1 wd) 8 onces (fun wd _ => by
        have h5 := (wz_met t).1 [([], true)] 0 (fun y hy => by rw [List.mem_singleton] at hy; rw [hy]; exact Nat.le_refl _) x (List.mem_of_mem_take hx)
        unfold onceL
        rw [List.length_drop, List.length_map]
        have h6 := List.length_filter_le (fun y : Str × Nat => decide (y.1 = wd)) x.1
        omega)
      have h7 : onces.length = 3 := rfl
      omega)
    have h8 : t.ways.length ≤ 3 ^ 8 := by
      have h1 := (wz_len t).1 [([], true)]
      have P8 : 3 ^ t.steps ≤ 3 ^ 8 := Nat.pow_le_pow_right (by decide) g1
      simp only [List.length_singleton, Nat.one_mul] at h1
      exact Nat.le_trans h1 P8
    have h9 : (t.ways.take i).length ≤ 3 ^ 8 := by rw [List.length_take]; omega
    have := Nat.mul_le_mul_right 24 h9
    omega
  refine set_ifV (z := S1) (eq_str (x := kd) (ev_var rfl) fun _ _ => ev_C) (fun v H3 => ∃ wa, v = .ref wa ∧ Same H H3 ∧ H wa = none ∧ H3 wa = some (.lst (iv w0))) (fun gl H3 s3 Q' k => ?_) (fun gl H3 s3 Q' k => ?_) ?_
  · have s13 := s12.tr s3
    refine ⟨_, rfl, p, xs, t, rfl, s13 _ _ hp, hw, hrep.sm s13, hd, hlen, by omega, fun q H4 s4 hq hq2 => k _ _ ⟨q, rfl, s13.tr s4, none_of s13 hq, ?_⟩⟩
    rw [← hw0, if_pos (of_decide_eq_true gl)]
    exact hq2
  · have s13 := s12.tr s3
    refine ⟨szL rfl, fun q hq => k _ _ ⟨q, rfl, s13.tr (Same.new hq), none_of s13 hq, ?_⟩⟩
    rw [← hw0, if_neg (of_decide_eq_false gl)]
    exact upd_same
  rintro _ H3 ⟨wa, rfl, s3, hwn, hwa⟩
  refine ⟨_, rfl, p, xs, t, rfl, s3 _ _ hp, hw, hrep.sm s3, hd, hlen, g1, fun q ys H5 s5 hq hq2 hW => ?_⟩
  obtain ⟨wl, wat⟩ := RepW.at _ _ hW
  have s35 := s3.tr s5
  have hqw : q ≠ wa := fun e => by rw [e, hwa] at hq; cases hq
  refine ⟨q, rfl, ⟨ys, .inl (.inl hq2)⟩, ?_⟩
  refine for_list (xs := ys) (fun i σ H' => Same H H' ∧ SameX wa H5 H' ∧ ∃ (y4 y5 y6 : Option V), σ = [some (.ref p), some (.str kd), some (.int (t.steps : Nat)), some (.ref wa), y4, y5, y6, none, none] ∧ H' wa = some (.lst (iv (w0 ++ (t.ways.take i).flatMap fun x => onces.flatMap fun wd => onceL x.1 wd)))) ⟨s35, (Same.rf _).x, none, none, none, rfl, by simpa using s5 _ _ hwa⟩ (fun i σ H' _ k => .inl (.inl (k.2.1 _ _ hqw hq2))) ?_ ?_
  · rintro i v σ H6 hv ⟨s6, sx6, y4, y5, y6, rfl, hw6⟩
    obtain ⟨wx, ta, mb, ms, hwi, rfl, hta, hmbn, hmb, hmm⟩ := wat i v hv
    have htaw : ta ≠ wa := fun e => by rw [e, s5 _ _ hwa] at hta; cases hta
    have hmbw : mb ≠ wa := fun e => by have h9 : H3 mb = none := hmbn; rw [e, hwa] at h9; cases h9
    have hml := RepM.len _ _ hmm
    have hxl : wx.1.length ≤ 8 := by
      have h5 := (wz_met t).1 [([], true)] 0 (fun y hy => by rw [List.mem_singleton] at hy; rw [hy]; exact Nat.le_refl _) wx (List.mem_of_getElem? hwi)
      omega
    refine ⟨ta, _, rfl, .inl (.inl (sx6 _ _ htaw hta)), rfl, _, _, rfl, _, _, rfl, rfl, ?_⟩
    refine for_tp (K := K) (a := He.ga K "ONCE") (xs := onces.map V.str) (fun j σ H' => Same H H' ∧ SameX wa H5 H' ∧ ∃ (y6 : Option V), σ = [some (.ref p), some (.str kd), some (.int (t.steps : Nat)), some (.ref wa), some (.ref mb), some (.bl wx.2), y6, none, none] ∧ H' wa = some (.lst (iv (w0 ++ ((t.ways.take i).flatMap (fun x => onces.flatMap fun wd => onceL x.1 wd)) ++ (onces.take j).flatMap fun wd => onceL wx.1 wd)))) ev_C (T.t_ONCE _) (fun H7 s7 => ⟨s6.tr s7, fun c o hc ho => s7 _ _ (sx6 _ _ hc ho), y6, rfl, by simpa using s7 _ _ hw6⟩) (fun j σ H' _ _ => T.t_ONCE _) ?_ ?_
    · rintro j x σ H7 hx ⟨s7, sx7, y6, rfl, hw7⟩
      rw [List.getElem?_map] at hx
      obtain ⟨wd, hwd, rfl⟩ := Option.map_eq_some_iff.mp hx
      have hmb7 := sx7 _ _ hmbw hmb
      refine ⟨_, rfl, .inl ⟨rfl, ⟨_, .inl (.inl hw7)⟩⟩, ?_⟩
      refine ⟨_, rfl, mb, rfl, ⟨ms, .inl (.inl hmb7)⟩, fun D hD => ?_⟩
      refine lc_list (xs := ms) (fun k H' => Same H7 H' ∧ H' D = some (.lst (iv (((wx.1.take k).filter fun x => decide (x.1 = wd)).map (·.2))))) ⟨Same.new hD, upd_same⟩ (fun k H' _ h => .inl (.inl (h.1 _ _ hmb7))) ?_ ?_
      · rintro k v H8 hv ⟨s8, hD8⟩
        obtain ⟨m, ma, hmk, rfl, hma⟩ := RepM.at _ _ hmm k v hv
        have hmaw : ma ≠ wa := fun e => by rw [e, s5 _ _ hwa] at hma; cases hma
        refine ⟨ma, _, rfl, .inl (.inl (s8 _ _ (sx7 _ _ hmaw hma))), rfl, _, _, rfl, _, _, rfl, rfl, rfl, ?_⟩
        refine eq_str (x := m.1) (y := wd) (ev_var rfl) (fun _ _ => ev_var rfl) _ fun H9 s9 => ?_
        have etk : (wx.1.take (k + 1)).filter (fun x => decide (x.1 = wd)) = (wx.1.take k).filter (fun x => decide (x.1 = wd)) ++ (if decide (m.1 = wd) = true then [m] else []) := by
          rw [List.take_succ, hmk, List.filter_append]
          show _ ++ List.filter _ [m] = _
          rw [List.filter_cons]
          rfl
        refine iteB (fun gq => ?_) (fun gq => ?_)
        · refine ⟨_, rfl, _, s9 _ _ hD8, ?_, (s8.tr s9).mut hD, ?_⟩
          · have h6 := List.length_filter_le (fun y : Str × Nat => decide (y.1 = wd)) (wx.1.take k)
            have h7 : (wx.1.take k).length ≤ 8 := by rw [List.length_take]; omega
            simp only [List.length_map]
            omega
          · rw [upd_same, etk, if_pos gq]
            simp
        · refine ⟨s8.tr s9, ?_⟩
          rw [etk, if_neg (by rw [gq]; exact Bool.false_ne_true), List.append_nil]
          exact s9 _ _ hD8
      · rintro H8 ⟨s8, hD8⟩
        rw [hml, List.take_length] at hD8
        refine ⟨1, rfl, D, _, rfl, .inl (.inl hD8), fun q2 hq2 => ?_⟩
        rw [cut1]
        have ed : (iv ((wx.1.filter fun x => decide (x.1 = wd)).map (·.2))).drop 1 = iv (onceL wx.1 wd) := by
          unfold onceL
          show List.drop 1 (List.map _ _) = List.map _ (List.drop 1 _)
          rw [List.map_drop]
        rw [ed]
        have hol : (onceL wx.1 wd).length ≤ 8 := by
          unfold onceL
          rw [List.length_drop, List.length_map]
          have h6 := List.length_filter_le (fun y : Str × Nat => decide (y.1 = wd)) wx.1
          omega
        have hoj : ((onces.take j).flatMap fun wd => onceL wx.1 wd).length ≤ 24 := by
          have h4 := fm_len (fun wd => onceL wx.1 wd) 8 (onces.take j) (fun wd _ => by
            unfold onceL
            rw [List.length_drop, List.length_map]
            have h6 := List.length_filter_le (fun y : Str × Nat => decide (y.1 = wd)) wx.1
            omega)
          have h7 : (onces.take j).length ≤ 3 := by rw [List.length_take]; exact Nat.min_le_right ..
          omega
        have hci := cnt i
        have s9 : Same H8 (upd H8 q2 (.lst (iv (onceL wx.1 wd)))) := Same.new hq2
        refine ⟨wa, q2, _, _, rfl, rfl, s9 _ _ (s8 _ _ hw7), upd_same, ?_, ?_, ?_, _, rfl, ?_⟩
        · simp only [List.length_map, List.length_append]
          have : (3:Nat) ^ 8 = 6561 := by decide
          omega
        · exact (s7.tr (s8.tr s9)).mut hwn
        · intro c o hc ho
          rw [upd_ne hc]
          exact s9 _ _ (s8 _ _ (sx7 _ _ hc ho))
        · rw [upd_same, take_fm _ hwd]
          simp
    · rintro σ H7 ⟨s7, sx7, y6, rfl, hw7⟩
      refine ⟨s7, sx7, _, _, _, rfl, ?_⟩
      rw [hw7, List.length_map, List.take_length, take_fm (fun x : Wy => onces.flatMap fun wd => onceL x.1 wd) hwi]
      simp
  · rintro σ H6 ⟨s6, sx6, y4, y5, y6, rfl, hw6⟩
    rw [wl, List.take_length] at hw6
    have ew : w0 ++ (t.ways.flatMap fun x => onces.flatMap fun wd => onceL x.1 wd) = t.wrongs kd := by rw [← hw0]; rfl
    have hcl : (t.wrongs kd).length ≤ 200000 := by
      have h1 := cnt t.ways.length
      rw [List.take_length] at h1
      rw [← ew, List.length_append]
      have : (3:Nat) ^ 8 = 6561 := by decide
      omega
    rw [ew] at hw6
    generalize hWr : t.wrongs kd = Wr at hw6 h1 h2 hcl
    let S6 : L2.St := [some (.ref p), some (.str kd), some (.int (t.steps : Nat)), some (.ref wa), y4, y5, y6, none, none]
    have c6 : EvT (tTest (tOp (rI0 fun i j => V.bl (decide (j < i))) (tCB (fun xs H Q => ∃ p ys, xs = [V.ref p] ∧ (SqL K H p ys ∨ SqT K H p ys) ∧ Q (.int (ys.length : Nat)) H) (tCons (tVar 3) tNil)) (tC (V.int 0)))) S6 H6 (decide ((0 : Int) < ((iv Wr).length : Nat))) := ev_test (ev_op (ev_len (K := K) (ev_cons (ev_var rfl) fun _ _ => ev_nil) (.inl (.inl (.inl hw6)))) (fun _ _ => ev_C) fun H2 _ Q q => ⟨_, _, rfl, rfl, q⟩)
    refine nx_if (do_if (σ := S6) c6 (fun g H7 s7 => ?_) (fun g H7 s7 => ?_))
    · have g2 : 0 < Wr.length := by
        have := of_decide_eq_true g
        rw [List.length_map] at this
        omega
      refine ⟨_, rfl, wa, rfl, ⟨_, .inl (.inl (s7 _ _ hw6))⟩, fun D hD => ?_⟩
      refine lc_list (xs := iv Wr) (fun k H' => Same H7 H' ∧ H' D = some (.lst (iv (Wr.take k)))) ⟨Same.new hD, upd_same⟩ (fun k H' _ h => .inl (.inl (h.1 _ _ (s7 _ _ hw6)))) ?_ ?_
      · rintro k v H8 hv ⟨s8, hD8⟩
        rw [List.getElem?_map] at hv
        obtain ⟨n, hn, rfl⟩ := Option.map_eq_some_iff.mp hv
        refine nm ⟨rfl, ?_⟩
        dsimp only [tYes]
        rw [if_pos rfl]
        refine ⟨_, rfl, .inl ⟨_, rfl, _, hD8, ?_, s8.mut hD, ?_⟩⟩
        · rw [List.length_map, List.length_take]; omega
        · rw [upd_same, take_succ_iv hn]
      · rintro H8 ⟨s8, hD8⟩
        rw [List.length_map, List.take_length] at hD8
        have ei : iv Wr = (Wr.map fun (n : Nat) => (n : Int)).map V.int := by rw [List.map_map]; rfl
        rw [ei] at hD8
        refine ⟨D, _, rfl, .inl (.inl hD8), by rw [List.length_map]; exact g2, fun mn hmn hmin => ?_⟩
        obtain ⟨k, hk, rfl⟩ := List.mem_map.mp hmn
        refine ⟨rfl, (fun z => absurd z (by simp)), fun _ d hd => ?_⟩
        exact h2 g1 k hk (fun j hj => by have := hmin _ (List.mem_map.mpr ⟨j, hj, rfl⟩); omega) d _ (((s6.tr s7).tr s8).tr (Same.new hd)) upd_same
    · have g2 : Wr = [] := by
        have := of_decide_eq_false g
        rw [List.length_map] at this
        exact List.length_eq_zero_iff.mp (by omega)
      exact h1 g1 g2 H7 (s6.tr s7)
end
end K59


set_option Elab.async false
set_option linter.all false
set_option maxRecDepth 100000
set_option maxHeartbeats 4000000
namespace K59
open PySem PySem.Spec PyProof.Rows L2
theorem plain_wf {ws : List Str} {n : Nat} {vs : List V} (h : plainRow ws n = some vs) : ∃ z us, vs = .str z :: us ∧ z ≠ "step" := by
  unfold plainRow at h
  repeat' split at h
  all_goals first
    | cases h; exact ⟨_, _, rfl, by decide +kernel⟩
    | cases h
theorem dep_sz : ∀ t : PT, t.dep ≤ t.sz
  | .nil => Nat.le_refl _
  | .plain _ r => by have := dep_sz r; show r.dep ≤ 1 + r.sz; omega
  | .step _ _ _ _ b r => by have := dep_sz r; have := dep_sz b; show max (b.dep + 1) r.dep ≤ 1 + b.sz + r.sz; omega
  | .blk _ _ rs r => by have := dep_sz r; have := dep_sz rs; show max rs.dep r.dep ≤ 1 + rs.sz + r.sz; omega
def mdOk : Md → PT → Prop
  | .rows _, t => t.wf false
  | .blocks _ seen, t => t.wf true ∧ ∀ o ∈ t.os, o ∉ seen
theorem Rd.good {md : Md} {ls : List Str} {n : Nat} {R : Res} (h : Rd md ls n R) : ∀ t ls' n', R = .ok t ls' n' → mdOk md t ∧ t.sz + ls'.length ≤ ls.length := by
  induction h with
  | eof => rintro t ls' n' ⟨⟩; exact ⟨trivial, Nat.le_refl _⟩
  | fin => rintro t ls' n' ⟨⟩; exact ⟨trivial, by show 0 + _ ≤ _; omega⟩
  | noB => rintro t ls' n' ⟨⟩; exact ⟨⟨trivial, fun o ho => nomatch ho⟩, by show 0 + _ ≤ _; omega⟩
  | eofI => intro t ls' n' e; cases e
  | bad => intro t ls' n' e; cases e
  | stepE => intro t ls' n' e; cases e
  | badB => intro t ls' n' e; cases e
  | blkE => intro t ls' n' e; cases e
  | @plain i t r n vs R _ _ hp _ ih =>
    intro t' ls' n' e
    cases R with
    | err k => cases e
    | ok u l m =>
      cases e
      obtain ⟨h1, h2⟩ := ih u ls' n' rfl
      exact ⟨⟨plain_wf hp, h1⟩, by show 1 + u.sz + _ ≤ _; simp; omega⟩
  | @step i t r n a b c bl r2 n2 R _ hs _ _ ih1 ih2 =>
    intro t' ls' n' e
    cases R with
    | err k => cases e
    | ok u l m =>
      cases e
      obtain ⟨h1, h2⟩ := ih2 u ls' n' rfl
      obtain ⟨h3, h4⟩ := ih1 bl r2 n2 rfl
      exact ⟨⟨stepOf_stW hs, h3.1, h1⟩, by show 1 + bl.sz + u.sz + _ ≤ _; simp; omega⟩
  | @blk w seen t r n rs e r2 n2 R _ hno _ _ ih1 ih2 =>
    intro t' ls' n' q
    cases R with
    | err k => cases q
    | ok u l m =>
      cases q
      obtain ⟨h1, h2⟩ := ih2 u ls' n' rfl
      obtain ⟨h3, h4⟩ := ih1 rs (e :: r2) n2 rfl
      refine ⟨⟨⟨fun z => h1.2 _ z (by simp), h3, h1.1⟩, fun o ho => ?_⟩, by show 1 + rs.sz + u.sz + _ ≤ _; simp at h4 ⊢; omega⟩
      rcases List.mem_cons.mp (show o ∈ (words t).getD 1 "" :: u.os from ho) with e9 | e9
      · rw [e9]
        exact fun z => hno (.inr z)
      · exact fun z => h1.2 o e9 (List.mem_append_left _ z)
section
variable {P : Program} {w : World} {K : PySem.W.Frag} {mg : Str → Option Value} {base : Heap}
def spRI (K : PySem.W.Frag) : Sp := fun vs H Q E => ∃ (x dx : Addr) (text : Str), vs = [.ref x, .str text] ∧ H x = some (.ins (cR K) dx []) ∧ text.length ≤ 100000 ∧
  (∀ l H', H l = none → H' x = some (.ins (cR K) dx (rF l 0)) → H' l = some (.lst ((linesOf text).map V.str)) → SameX x H H' → Q .non H')
theorem ok_rinit (T : Tx P w K mg) : MkX P w K mg base (L2.CX P w) 1 "DeedReader" (cR K) ["self", "text"] [] (spRI K) := by
  obtain ⟨f, fd, hm, M, F⟩ := T.mk_DeedReader
  refine ⟨f, fd, [], hm, M, F.bindsN (fun _ _ _ _ _ _ us hl => match us, hl with | [_, _], _ => rfl), .nil, F.ok sc_DeedReader_init (fun vs H Q E h => ?_) (fun cdv A outer s H vs Q E hr h => ⟨_, (by exact (pss_cons (ps_fld (pv 0) (pe_ifExp (pt_cmpR op_ne (pv 1) pe_str (nomark _)) (pe_split (pv 1) pe_str) (pe_lst pa_nil)) rfl)
      (pss_one (ps_fld (pv 0) pe_int rfl)))), ?_⟩)⟩
  · obtain ⟨x, dx, text, rfl, _⟩ := h
    rfl
  obtain ⟨x, dx, text, rfl, hx, htl, h0⟩ := h
  refine ne_str (x := text) (y := "") (ev_var rfl) (fun _ _ => ev_C) _ fun H1 s1 => ?_
  have q9 : sizeLine = 16777216 := sizeLine_eq
  refine iteB (fun g => ?_) (fun g => ?_)
  · have e1 : linesOf text = Txt.split text nlS := by
      unfold linesOf
      rw [if_neg (fun z => by simp [z] at g)]
    refine do_split (z := text) (y := nlS) (ev_var rfl) (by decide +kernel) (by omega) (fun H2 l s2 hl hl2 => ?_)
    have hl0 : H l = none := none_of s1 hl
    have hlx : l ≠ x := fun z => by rw [z, hx] at hl0; cases hl0
    refine ⟨_, rfl, x, cR K, dx, [], rfl, (s1.tr s2) _ _ hx, T.cl_DeedReader, T.na_DeedReader_texts, (by show 0 < 1000; decide), ?_⟩
    refine ⟨_, rfl, x, cR K, dx, _, rfl, upd_same, T.cl_DeedReader, T.na_DeedReader_line, (by show 1 < 1000; decide), ?_⟩
    rw [upd_upd]
    exact h0 l _ hl0 upd_same (by rw [upd_ne hlx, e1]; exact hl2) (fun b o hb ho => by rw [upd_ne hb]; exact (s1.tr s2) _ _ ho)
  · have e1 : linesOf text = [] := by
      unfold linesOf
      rw [if_pos (by simpa using g)]
    refine mk_lst (vs := []) ev_nil (fun H2 l s2 hl hl2 => ?_)
    have hl0 : H l = none := none_of s1 hl
    have hlx : l ≠ x := fun z => by rw [z, hx] at hl0; cases hl0
    refine ⟨_, rfl, x, cR K, dx, [], rfl, (s1.tr s2) _ _ hx, T.cl_DeedReader, T.na_DeedReader_texts, (by show 0 < 1000; decide), ?_⟩
    refine ⟨_, rfl, x, cR K, dx, _, rfl, upd_same, T.cl_DeedReader, T.na_DeedReader_line, (by show 1 < 1000; decide), ?_⟩
    rw [upd_upd]
    exact h0 l _ hl0 upd_same (by rw [upd_ne hlx, e1]; exact hl2) (fun b o hb ho => by rw [upd_ne hb]; exact (s1.tr s2) _ _ ho)
def dkN : List Str := ["enter", "leave", "change"]
def dF (kind text : Str) (l t r : Addr) : List (Str × V) := [("part", .str (Str.ofString "deeds")), ("kind", .str kind), ("text", .str text), ("own_lines", .ref l), ("own_tables", .ref t), ("rows", .ref r)]
abbrev xLines (n : Nat) (most : Int) (z : Str) : HO := .xd [("most", .int most), ("many", .int (n : Nat)), ("what", .str z)]
def spDeed (K : PySem.W.Frag) : Sp := fun vs H Q E => ∃ (x dx : Addr) (kv : V) (text : Str), vs = [.ref x, kv, .str text] ∧ H x = some (.ins (cD K) dx []) ∧ KindV H kv ∧ text.length ≤ 100000 ∧ (∀ t ∈ linesOf text, t.length ≤ 100000 ∧ (words t).all PyData.strOk = true) ∧
  (kindOk dkN kv = false → ∀ d H', SameX x H H' → H' d = some (.xd [("kind", kv)]) → E (.ref (He.ga K "BadKind")) (some d) H') ∧
  (∀ k, kv = .str k → k ∈ dkN → (40 < (linesOf text).length → ∀ d H', SameX x H H' → H' d = some (xLines (linesOf text).length 40 (Str.ofString "lines")) → E (.ref (He.ga K "TooMany")) (some d) H') ∧
    ((linesOf text).length ≤ 40 → (∀ n, Rd (.rows false) (linesOf text) 0 (.err n) → ErrAt K x H E n) ∧
      (∀ t ls n', Rd (.rows false) (linesOf text) 0 (.ok t ls n') →
        (8 < t.steps → ∀ d H', SameX x H H' → H' d = some (xLines t.steps 8 (Str.ofString "steps")) → E (.ref (He.ga K "TooMany")) (some d) H') ∧
        (t.steps ≤ 8 → t.wrongs k = [] → ∀ l tb r H', H l = none → H' x = some (.ins (cD K) dx (dF k text l tb r)) → H' l = some (.lst ((linesOf text).map V.str)) → SameX x H H' → Q .non H') ∧
        (t.steps ≤ 8 → ∀ n, n ∈ t.wrongs k → (∀ j ∈ t.wrongs k, n ≤ j) → ∀ d H', SameX x H H' → H' d = some (.xd [("line", .int (n : Nat))]) → E (.ref (He.ga K "Refused")) (some d) H'))))
theorem ok_deed (T : Tx P w K mg) : MkX P w K mg base (L2.CX P w) 131 "DeedCode" (cD K) ["self", "kind", "text"] [] (spDeed K) := by
  obtain ⟨f0, fd0, fI, cc, c, S, M, F0⟩ := T.sup_DeedCode
  obtain ⟨b0, G⟩ := ok_ct (base := base) T F0
  have F_DeedReader := ok_rinit (base := base) T
  have F_DeedReader_read_rows := ok_reader (base := base) T 41
  have F_need_deed_limits := ok_lim (base := base) T
  have Sn := S.sc
  have fin := SupX.sup_ok (sp := spDeed K) S (G.mono (show 3 ≤ 130 by decide)) b0 (fun vs H Q E h => by obtain ⟨x, dx, kv, text, rfl, _⟩ := h; rfl)
  suffices hb : _ by
    obtain ⟨doc, pm, ctv, R1, R2⟩ := fin hb
    exact ⟨fI, _, [], T.g_DeedCode, M, R2, .nil, R1⟩
  clear fin
  intro A outer s H vs Q E hr h
  obtain ⟨x, dx, kv, text, rfl, hx, hkv, htl, hts, h0, h1⟩ := h
  refine ⟨x, dx, [], _, _, rfl, hx, (by exact (pa_cons pe_str (pa_cons (pv 1) (pa_cons (pe_gref T.g_DEED_KINDS) (pa_cons (pv 2) (pa_cons (pe_gint T.c_MOST_DEED_LINES) pa_nil)))))), (by exact (pss_cons (ps_set (i := 4) Sn.nd rfl (Or.inl rfl) (pe_methX F_DeedReader_read_rows (hr.mono (by first | decide | omega)) (passes_call (takes_of rfl rfl rfl rfl) (fun _ _ _ _ h => h)) (pe_makeX F_DeedReader (hr.mono (by first | decide | omega)) (passes_call (takes_of rfl rfl rfl rfl) (fun _ _ _ _ h => h)) (pa_cons (pv 2) pa_nil)) (pa_cons pe_bl pa_nil)))
      (pss_cons (ps_expr (pe_callX F_need_deed_limits (hr.mono (by first | decide | omega)) (passes_call (takes_of rfl rfl rfl rfl) (fun _ _ _ _ h => h)) (pa_cons (pv 4) (pa_cons (pv 1) pa_nil))))
      (pss_one (ps_fld (pv 0) (pv 4) rfl))))), ?_⟩
  refine ⟨_, rfl, _, rfl, x, dx, He.ga K "DEED_KINDS", "deeds", text, kv, dkN, 40, rfl, hx, T.t_DEED_KINDS _, hkv, htl, (fun e d hd => h0 e d _ (Same.new hd).x upd_same), (fun k ek hk hgt d H' hd hd2 sx => (h1 k ek hk).1 (by omega) d H' sx hd2), (fun k ek hk hle l tb H2 hl htb hx2 hl2 sx2 => ?_)⟩
  subst ek
  have hle2 : (linesOf text).length ≤ 40 := by omega
  obtain ⟨k1, k2⟩ := (h1 k rfl hk).2 hle2
  refine ⟨_, rfl, fun rx rdx hrx hrdx hne => ?_⟩
  have sR : Same H2 (upd (upd H2 rdx (.own rx)) rx (.ins (cR K) rdx [])) := fun b o hb => by rw [upd_ne (ne_of_none hb hrx), upd_ne (ne_of_none hb hrdx)]; exact hb
  generalize hHR : upd (upd H2 rdx (.own rx)) rx (.ins (cR K) rdx []) = HR at sR ⊢
  have hRx : HR rx = some (.ins (cR K) rdx []) := by rw [← hHR]; exact upd_same
  refine ⟨rx, rdx, text, rfl, hRx, htl, fun l2 H3 hl3 hx3 hll3 sx3 => ⟨rfl, rx, rdx, _, rfl, hx3, rfl, ?_⟩⟩
  have s23 : Same H2 H3 := fun b o hb => sx3 _ _ (fun z => by rw [z, hrx] at hb; cases hb) (sR _ _ hb)
  have fwd : ∀ {H4 : Hp}, SameX rx H3 H4 → SameX x H H4 := fun s4 b o hbx hb => s4 _ _ (fun z => by
    have := sx2 _ _ hbx hb
    rw [z, hrx] at this
    cases this) (s23 _ _ (sx2 _ _ hbx hb))
  refine ⟨rx, rdx, l2, linesOf text, 0, false, rfl, ⟨hx3, hll3, Nat.zero_le _⟩, ⟨by omega, hts⟩, by omega, (fun n hn d H4 s4 hd => k1 n hn d H4 (fwd s4) hd), (fun t ls n' hrd q xs H4 s4 r4 hq hq4 hrep => ?_)⟩
  obtain ⟨g1, g2⟩ := Rd.good hrd t ls n' rfl
  have g3 := dep_sz t
  obtain ⟨j1, j2, j3⟩ := k2 t ls n' hrd
  refine nm (nx_seq (do_drop ?_))
  refine ⟨_, rfl, _, rfl, q, xs, t, k, rfl, hq4, g1, RepR.up (fun _ _ => trivial) (fun _ _ _ h => h) t xs hrep, by have : (List.drop 0 (linesOf text)).length = (linesOf text).length := rfl; omega, by have : (List.drop 0 (linesOf text)).length = (linesOf text).length := rfl; omega, (fun h9 d H5 s5 hd => j1 h9 d H5 ((fwd s4).tr s5.x) hd), (fun h9 hw H5 s5 => ?_), (fun h9 n hn hmin d H5 s5 hd => j3 h9 n hn hmin d H5 ((fwd s4).tr s5.x) hd)⟩
  have hxr : x ≠ rx := fun z => by rw [← z, hx2] at hrx; cases hrx
  have hlr : l ≠ rx := fun z => by rw [← z, hl2] at hrx; cases hrx
  have hlx : l ≠ x := fun z => by rw [z, hx] at hl; cases hl
  have hx5 : H5 x = some (.ins (cD K) dx (ctF "deeds" k text l tb)) := s5 _ _ (s4 _ _ hxr (s23 _ _ hx2))
  refine ⟨_, rfl, _, rfl, x, cD K, dx, _, rfl, hx5, T.cl_DeedCode, T.na_DeedCode_rows, (by show 5 < 1000; decide), ?_⟩
  exact j2 h9 hw l tb q _ hl upd_same (by rw [upd_ne hlx]; exact s5 _ _ (s4 _ _ hlr (s23 _ _ hl2))) (fun b o hbx hb => by rw [upd_ne hbx]; exact s5 _ _ (fwd s4 _ _ hbx hb))
end
end K59


set_option Elab.async false
set_option linter.all false
set_option maxRecDepth 100000
set_option maxHeartbeats 4000000
namespace K59
open PySem PySem.Spec PyProof.Rows L2
section
variable {P : Program} {w : World} {K : PySem.W.Frag} {mg : Str → Option Value} {base : Heap}
/-- a code that was made -/
def CodeAt (K : PySem.W.Frag) (H : Hp) (x : Addr) (kind text : Str) : Prop := ∃ dx l t r, H x = some (.ins (cD K) dx (dF kind text l t r)) ∧ H l = some (.lst ((linesOf text).map V.str))
theorem CodeAt.up {H H' : Hp} {x : Addr} {kind text : Str} (s : Same H H') (h : CodeAt K H x kind text) : CodeAt K H' x kind text := by
  obtain ⟨dx, l, t, r, h1, h2⟩ := h
  exact ⟨dx, l, t, r, s _ _ h1, s _ _ h2⟩
def spSame (K : PySem.W.Frag) : Sp := fun vs H Q E => ∃ (x : Addr) (kind text : Str), vs = [.ref x] ∧ CodeAt K H x kind text ∧ (∀ q H', Same H H' → H' q = some (.tup [.str "deeds", .str kind, .str text]) → Q (.ref q) H')
theorem ok_same (T : Tx P w K mg) : MeX P w K mg base (L2.CX P w) 1 (cD K) "same" ["self"] [] (spSame K) := by
  refine MetX.okX T.m_DeedCode_same sc_CodeText_same (fun _ _ _ _ _ _ us hl => match us, hl with | [_], _ => rfl) (fun vs H Q E h => ?_) (fun f cdv A outer s H vs Q E hr h => ⟨_, (by exact (pss_one (ps_ret (pe_tup (pa_cons (pe_fld (pv 0) rfl) (pa_cons (pe_fld (pv 0) rfl) (pa_cons (pe_fld (pv 0) rfl) pa_nil))))))), ?_⟩)
  · obtain ⟨x, kind, text, rfl, _⟩ := h
    rfl
  obtain ⟨x, kind, text, rfl, ⟨dx, l, t, r, hx, hl⟩, h0⟩ := h
  have V0 : ∀ H, EvE (tVar 0) (start ["self"] [.ref x]) H (.ref x) := fun H => ev_var rfl
  exact mk_tup (ev_cons (ev_fld (V0 _) hx T.cl_DeedCode T.na_DeedCode_part rfl) fun H1 s1 => ev_cons (ev_fld (V0 _) (s1 _ _ hx) T.cl_DeedCode T.na_DeedCode_kind rfl) fun H2 s2 => ev_cons (ev_fld (V0 _) ((s1.tr s2) _ _ hx) T.cl_DeedCode T.na_DeedCode_text rfl) fun _ _ => ev_nil) (fun H1 q s1 _ hq => h0 q H1 s1 hq)
def spLen (K : PySem.W.Frag) : Sp := fun vs H Q E => ∃ (x : Addr) (kind text : Str), vs = [.ref x] ∧ CodeAt K H x kind text ∧ (∀ H', Same H H' → Q (.int ((linesOf text).length : Nat)) H')
theorem ok_len (T : Tx P w K mg) : MeX P w K mg base (L2.CX P w) 1 (cD K) "__len__" ["self"] [] (spLen K) := by
  refine MetX.okX T.m_DeedCode_len sc_CodeText_len (fun _ _ _ _ _ _ us hl => match us, hl with | [_], _ => rfl) (fun vs H Q E h => ?_) (fun f cdv A outer s H vs Q E hr h => ⟨_, (by exact (pss_one (ps_ret (pe_callB call_len_seq (by rfl) T.b_len (by decide +kernel) (pa_cons (pe_fld (pv 0) rfl) pa_nil))))), ?_⟩)
  · obtain ⟨x, kind, text, rfl, _⟩ := h
    rfl
  obtain ⟨x, kind, text, rfl, ⟨dx, l, t, r, hx, hl⟩, h0⟩ := h
  have h9 := ev_len (K := K) (ev_cons (ev_fld (K := K) (a := tVar 0) (σ := start ["self"] [.ref x]) (ev_var rfl) hx T.cl_DeedCode T.na_DeedCode_own_lines rfl) fun _ _ => ev_nil) (.inl (.inl (.inl hl)))
  rw [List.length_map] at h9
  exact h9 Q h0
def spGet (K : PySem.W.Frag) : Sp := fun vs H Q E => ∃ (x : Addr) (kind text : Str) (i : Nat) (z : Str), vs = [.ref x, .int (i : Nat)] ∧ CodeAt K H x kind text ∧ 1 ≤ i ∧ (linesOf text)[i - 1]? = some z ∧ (∀ H', Same H H' → Q (.str z) H')
theorem ok_get (T : Tx P w K mg) : MeX P w K mg base (L2.CX P w) 1 (cD K) "__getitem__" ["self", "k"] [] (spGet K) := by
  refine MetX.okX T.m_DeedCode_getitem sc_CodeText_getitem (fun _ _ _ _ _ _ us hl => match us, hl with | [_, _], _ => rfl) (fun vs H Q E h => ?_) (fun f cdv A outer s H vs Q E hr h => ⟨_, (by exact (pss_one (ps_ret (pe_ix ix_list (pe_fld (pv 0) rfl) (pe_op op_sub (pv 1) pe_int) (fun _ _ => rfl))))), ?_⟩)
  · obtain ⟨x, kind, text, i, z, rfl, _⟩ := h
    rfl
  obtain ⟨x, kind, text, i, z, rfl, ⟨dx, l, t, r, hx, hl⟩, hi, hz, h0⟩ := h
  refine ev_ixL (n := (i : Int) - 1) (ev_fld (K := K) (a := tVar 0) (σ := start ["self", "k"] [.ref x, .int (i : Nat)]) (ev_var rfl) hx T.cl_DeedCode T.na_DeedCode_own_lines rfl) (fun H1 s1 => ev_op (ev_var rfl) (fun _ _ => ev_C) fun H2 _ Q q => ⟨_, _, rfl, rfl, q⟩) (.inl (.inl hl)) ?_ Q h0
  rw [show (i : Int) - 1 = ((i - 1 : Nat) : Int) by omega]
  refine atI_nat ?_
  rw [List.getElem?_map, hz]
  rfl
def spEqD (K : PySem.W.Frag) : Sp := fun vs H Q E => ∃ (x y : Addr) (k1 t1 k2 t2 : Str), vs = [.ref x, .ref y] ∧ CodeAt K H x k1 t1 ∧ CodeAt K H y k2 t2 ∧ [k1, t1].all PyData.strOk = true ∧ [k2, t2].all PyData.strOk = true ∧ (∀ H', Same H H' → Q (.bl (decide (k1 = k2) && decide (t1 = t2))) H')
theorem sh_tup {cs : List Str} (h : cs.all PyData.strOk = true) : SeqAt.shaped (.tuple (cs.map PyData.str)) = true := by
  show (PyData.canLayAll0 (cs.map PyData.str) && decide (PyData.depthAll (cs.map PyData.str) + 1 ≤ 64)) = true
  rw [cl_strs, dp_strs, h]
  rfl
theorem eqv_tup (a b : List Str) : PyData.eqv (.tuple (a.map PyData.str)) (.tuple (b.map PyData.str)) = decide (a = b) := by
  show PyData.eqvAll _ _ = _
  exact eqv_all a b
theorem ok_eq (T : Tx P w K mg) : MeX P w K mg base (L2.CX P w) 2 (cD K) "__eq__" ["self", "other"] [] (spEqD K) := by
  have F_DeedCode_same := ok_same (base := base) T
  refine MetX.okX T.m_DeedCode_eq sc_CodeText_eq (fun _ _ _ _ _ _ us hl => match us, hl with | [_, _], _ => rfl) (fun vs H Q E h => ?_) (fun f cdv A outer s H vs Q E hr h => ⟨_, (by exact (pss_one (ps_ret (pe_and (pe_callB call_isi (by rfl) T.b_isinstance (by decide +kernel) (pa_cons (pv 1) (pa_cons (pe_gref T.g_CodeText) pa_nil))) (pe_one (pe_cmpR (op_eqD hr.units) (pe_methX0 F_DeedCode_same (hr.mono (by first | decide | omega)) passOut (pv 0)) (pe_methX0 F_DeedCode_same (hr.mono (by first | decide | omega)) passOut (pv 1)) (nomark _))))))), ?_⟩)
  · obtain ⟨x, y, k1, t1, k2, t2, rfl, _⟩ := h
    rfl
  obtain ⟨x, y, k1, t1, k2, t2, rfl, hx, hy, ho1, ho2, h0⟩ := h
  have hx' := hx
  have hy' := hy
  obtain ⟨dx, l, t, r, hx1, hl1⟩ := hx'
  obtain ⟨dy, l', t', r', hy1, hl2⟩ := hy'
  refine ⟨_, rfl, _, _, .ref (cD K), .ref (He.ga K "CodeText"), true, rfl, .own _, .base (.ins hy1 T.cl_DeedCode T.ca_DeedCode T.cn_obj T.ct_obj T.cm_DeedCode), T.kc_DeedCode, _, rfl, iteT ?_⟩
  refine ⟨_, rfl, x, dx, _, rfl, hx1, rfl, x, k1, t1, rfl, hx, fun q1 H1 s1 hq1 => ?_⟩
  refine ⟨_, rfl, y, dy, _, rfl, s1 _ _ hy1, rfl, y, k2, t2, rfl, hy.up s1, fun q2 H2 s2 hq2 => ?_⟩
  have hd : ("deeds" : Str).cps.all (· < 0x110000) = true := by decide +kernel
  have o1 : (["deeds", k1, t1] : List Str).all PyData.strOk = true := by
    have : PyData.strOk "deeds" = true := hd
    simp only [List.all_cons, this, Bool.true_and]
    simpa using ho1
  have o2 : (["deeds", k2, t2] : List Str).all PyData.strOk = true := by
    have : PyData.strOk "deeds" = true := hd
    simp only [List.all_cons, this, Bool.true_and]
    simpa using ho2
  refine ⟨_, _, .tup (xs := (["deeds", k1, t1] : List Str).map V.str) (.inl (.inl (s2 _ _ hq1))) (dpStrs _), .tup (xs := (["deeds", k2, t2] : List Str).map V.str) (.inl (.inl hq2)) (dpStrs _), sh_tup o1, sh_tup o2, ?_⟩
  rw [eqv_tup]
  have e9 : decide ((["deeds", k1, t1] : List Str) = (["deeds", k2, t2] : List Str)) = (decide (k1 = k2) && decide (t1 = t2)) := by
    by_cases e1 : k1 = k2 <;> by_cases e2 : t1 = t2 <;> simp [e1, e2]
  rw [e9]
  exact h0 _ (s1.tr s2)
theorem fn_get (T : Tx P w K mg) : ∀ f, PySem.W.findIn K (.ref (cD K)) "__getitem__" = some (some (.ref f)) → PySem.W.fnIn K f = true := by
  intro f hf
  obtain ⟨f', fd, M⟩ := T.m_DeedCode_getitem
  have h1 := M.me.at_
  rw [hf] at h1
  cases h1
  obtain ⟨oc, od, dV, kV, doc, pm, an, cdv, ct, osl, rfl, lk, hcd, _, _⟩ := M.fn.ex
  unfold PySem.W.fnIn
  rw [lk]
end
end K59


set_option Elab.async false
set_option linter.all false
set_option maxRecDepth 100000
set_option maxHeartbeats 4000000
namespace L2
open PySem
theorem SameX.refl {x : Addr} {H : Hp} : SameX x H H := fun _ _ _ h => h
theorem SameX.trans {x : Addr} {H H1 H2 : Hp} (a : SameX x H H1) (b : SameX x H1 H2) : SameX x H H2 := a.tr b
theorem SameX.put {x : Addr} {H : Hp} {o : HO} : SameX x H (L2.upd H x o) := fun c u n h => by rw [upd_ne n]; exact h
end L2
namespace K59
open PySem PySem.Spec PyProof.Rows L2
section
variable {P : Program} {w : World} {K : PySem.W.Frag} {mg : Str → Option Value} {base : Heap}
def bagD (c : Addr) (at_ dg cnt fo : Int) : HO := .dK [(Sum.inr "cells", .ref c), (Sum.inr "at", .int at_), (Sum.inr "digits", .int dg), (Sum.inr "count", .int cnt), (Sum.inr "fold", .int fo)]
/-- the bag at d: at most n draws so far -/
def Bag (H : Hp) (d c : Addr) (n : Nat) : Prop := ∃ (cs : List Int) (at_ dg cnt fo : Int), H d = some (bagD c at_ dg cnt fo) ∧ H c = some (.lst (cs.map V.int)) ∧ 0 ≤ at_ ∧ 0 ≤ dg ∧ 0 ≤ cnt ∧ cnt ≤ n ∧ 0 ≤ fo ∧ fo < 2147483648
theorem Bag.mono {H : Hp} {d c : Addr} {n m : Nat} (h : Bag H d c n) (hm : n ≤ m) : Bag H d c m := by
  obtain ⟨cs, a, dg, cnt, fo, h1, h2, h3, h4, h5, h6, h7⟩ := h
  exact ⟨cs, a, dg, cnt, fo, h1, h2, h3, h4, h5, by omega, h7⟩
theorem Bag.up {H H' : Hp} {d c : Addr} {n : Nat} (h : Bag H d c n) (e : Same H H') : Bag H' d c n := by
  obtain ⟨cs, a, dg, cnt, fo, h1, h2, h3⟩ := h
  exact ⟨cs, a, dg, cnt, fo, e _ _ h1, e _ _ h2, h3⟩
section
variable {H : Hp} {d c : Addr} {a b m l : Int}
theorem g_cells (h : H d = some (bagD c a b m l)) : DGet H d (.str (Str.ofString "cells")) (some (.ref c)) := DGet.k (k := Sum.inr "cells") h
theorem g_at (h : H d = some (bagD c a b m l)) : DGet H d (.str (Str.ofString "at")) (some (.int a)) := DGet.k (k := Sum.inr "at") h
theorem g_dig (h : H d = some (bagD c a b m l)) : DGet H d (.str (Str.ofString "digits")) (some (.int b)) := DGet.k (k := Sum.inr "digits") h
theorem g_count (h : H d = some (bagD c a b m l)) : DGet H d (.str (Str.ofString "count")) (some (.int m)) := DGet.k (k := Sum.inr "count") h
theorem g_fold (h : H d = some (bagD c a b m l)) : DGet H d (.str (Str.ofString "fold")) (some (.int l)) := DGet.k (k := Sum.inr "fold") h
theorem p_at (x : Int) (h : H d = some (bagD c a b m l)) : DPut H d (.str (Str.ofString "at")) (.int x) (upd H d (bagD c x b m l)) := DPut.k (k := Sum.inr "at") h (by show 5 < sizeLine; decide)
theorem p_dig (x : Int) (h : H d = some (bagD c a b m l)) : DPut H d (.str (Str.ofString "digits")) (.int x) (upd H d (bagD c a x m l)) := DPut.k (k := Sum.inr "digits") h (by show 5 < sizeLine; decide)
theorem p_count (x : Int) (h : H d = some (bagD c a b m l)) : DPut H d (.str (Str.ofString "count")) (.int x) (upd H d (bagD c a b x l)) := DPut.k (k := Sum.inr "count") h (by show 5 < sizeLine; decide)
theorem p_fold (x : Int) (h : H d = some (bagD c a b m l)) : DPut H d (.str (Str.ofString "fold")) (.int x) (upd H d (bagD c a b m x)) := DPut.k (k := Sum.inr "fold") h (by show 5 < sizeLine; decide)
end
def spBag (K : PySem.W.Frag) : Sp := fun vs H Q E => ∃ (a : Addr) (xs : List Int), vs = [.ref a] ∧ SqL K H a (xs.map V.int) ∧ ∀ d c H', H d = none → Same H H' → Bag H' d c 0 → Q (.ref d) H'
theorem ok_bag (T : Tx P w K mg) : FnX P w K mg base CX0 1 "_law_bag" ["_law_script"] [] (spBag K) := by
  refine T.d_l_bag.ok0 sc_l_bag (fun _ _ _ _ _ _ us hl => match us, hl with | [_], _ => rfl) (fun vs H Q E h => ?_) (fun f cdv A outer s H vs Q E hr h => have hu := hu_of hr; ⟨_, (by exact (pss_cons (ps_set (i := 1) sc_l_bag.nd rfl (Or.inl rfl) pe_int)
      (pss_cons (ps_for PassesOwn.never rfl (pi_list (pv 0)) (pg_name (i := 2) sc_l_bag.nd rfl (Or.inl rfl))
        (pss_one (ps_set (i := 1) sc_l_bag.nd rfl (Or.inl rfl) (pe_op op_mod (pe_callTy call_int1 (by rfl) T.b_int (by decide +kernel) (pa_cons (pe_op op_add (pe_op op_mul (pv 1) pe_int) (pv 2)) pa_nil)) pe_int))))
      (pss_one (ps_ret (pe_disp (pps_cons pe_str (pe_callTy call_list_of (by rfl) T.b_list (by decide +kernel) (pa_cons (pv 0) pa_nil)) (pps_cons pe_str pe_int (pps_cons pe_str pe_int (pps_cons pe_str pe_int (pps_cons pe_str (pv 1) pps_nil))))) (by rfl) (by rfl) (fun z => by cases z) (by decide))))))), ?_⟩)
  · obtain ⟨a, xs, rfl, _⟩ := h
    rfl
  obtain ⟨a, xs, rfl, ha, hq⟩ := h
  refine ⟨_, rfl, a, rfl, ⟨_, ha⟩, for_list (xs := xs.map V.int) (fun i z H' => H' = H ∧ ∃ fo o, z = [some (.ref a), some (.int fo), o] ∧ 0 ≤ fo ∧ fo < 1000000009) ⟨rfl, 0, _, rfl, by decide, by decide⟩ (fun i z H' _ h => by rw [h.1]; exact ha) ?_ ?_⟩
  · rintro i v z H' hv ⟨rfl, fo, o, rfl, f0, f1⟩
    obtain ⟨k, h1, h2⟩ := List.mem_map.mp (List.mem_of_getElem? hv)
    subst h2
    refine ⟨_, rfl, _, _, rfl, rfl, .inl ⟨by omega, by omega⟩, _, rfl, _, _, rfl, rfl, .inl ⟨_, rfl, _, _, rfl, rfl, (by decide : (0 : Int) < 1000000009), ?_⟩⟩
    exact ⟨rfl, _, _, rfl, Int.emod_nonneg _ (by decide), Int.emod_lt_of_pos _ (by decide)⟩
  · rintro z H' ⟨rfl, fo, o, rfl, f0, f1⟩
    refine fun d hd => ⟨_, rfl, a, _, rfl, .inl ((Same.new hd).seq ha), fun l hl => ⟨_, rfl, ?_⟩⟩
    have hd2 : upd (upd H' d (.dK [])) l (.lst (xs.map V.int)) d = some (.dK []) := Same.new hl _ _ upd_same
    have hl2 : upd (upd H' d (.dK [])) l (.lst (xs.map V.int)) l = some (.lst (xs.map V.int)) := upd_same
    have S2 : Same H' (upd (upd H' d (.dK [])) l (.lst (xs.map V.int))) := (Same.new hd).trans (Same.new hl)
    refine ⟨hd2, [(Sum.inr "cells", .ref l), (Sum.inr "at", .int 0), (Sum.inr "digits", .int 0), (Sum.inr "count", .int 0), (Sum.inr "fold", .int fo)], rfl, (by show 5 ≤ 15; decide), ?_⟩
    refine hq d l _ hd (S2.mut hd) ⟨xs, 0, 0, 0, fo, upd_same, ?_, by omega, by omega, by omega, by omega, f0, by omega⟩
    rw [upd_ne (fun z => by subst z; rw [hl2] at hd2; cases hd2)]
    exact hl2
/-- a draw below lim -/
def spDraw : Sp := fun vs H Q E => ∃ (d c : Addr) (n : Nat) (lim : Int), vs = [.ref d, .int lim] ∧ Bag H d c n ∧ n < 2 ^ 40 ∧ 0 < lim ∧ lim ≤ 10 ^ 15 ∧ ∀ r H', 0 ≤ r → r < lim → SameX d H H' → Bag H' d c (n + 1) → Q (.int r) H'
theorem ok_draw (T : Tx P w K mg) : FnX P w K mg base CX0 1 "_law_draw" ["_law_bag_here", "_law_limit"] [] spDraw := by
  refine T.d_l_draw.ok0 sc_l_draw (fun _ _ _ _ _ _ us hl => match us, hl with | [_, _], _ => rfl) (fun vs H Q E h => ?_) (fun f cdv A outer s H vs Q E hr h => have hu := hu_of hr; ⟨_, (by exact (pss_cons (ps_dput hu (pv 0) pe_str (pe_op op_add (pe_dget hu (pv 0) pe_str (fun _ _ => rfl)) pe_int) rfl)
      (pss_cons (ps_if (PW.pt (pw_and (pt_cmpR op_eq (pe_dget hu (pv 0) pe_str (fun _ _ => rfl)) pe_int (nomark _)) (pw_and1 (pt_cmpR op_lt (pe_dget hu (pv 0) pe_str (fun _ _ => rfl)) (pe_callB call_len_seq (by rfl) T.b_len (by decide +kernel) (pa_cons (pe_dget hu (pv 0) pe_str (fun _ _ => rfl)) pa_nil)) (nomark _))))) (pss_cons (ps_set (i := 2) sc_l_draw.nd rfl (Or.inl rfl) (pe_ix ix_list (pe_dget hu (pv 0) pe_str (fun _ _ => rfl)) (pe_dget hu (pv 0) pe_str (fun _ _ => rfl)) (fun _ _ => rfl)))
      (pss_cons (ps_dput hu (pv 0) pe_str (pe_op op_add (pe_dget hu (pv 0) pe_str (fun _ _ => rfl)) pe_int) rfl)
      (pss_one (ps_if (pt_cmpR op_ge (pv 2) (pe_op op_pow pe_int pe_int) (nomark _)) (pss_one (ps_dput hu (pv 0) pe_str (pe_op op_sub (pv 2) (pe_op op_pow pe_int pe_int)) rfl)) (pss_one (ps_dput hu (pv 0) pe_str (pe_op op_mod (pe_callTy call_int1 (by rfl) T.b_int (by decide +kernel) (pa_cons (pe_op op_add (pe_op op_mul (pe_dget hu (pv 0) pe_str (fun _ _ => rfl)) pe_int) (pv 2)) pa_nil)) pe_int) rfl)))))) pss_nil)
      (pss_cons (ps_if (pt_cmpR op_gt (pe_dget hu (pv 0) pe_str (fun _ _ => rfl)) pe_int (nomark _)) (pss_cons (ps_set (i := 3) sc_l_draw.nd rfl (Or.inl rfl) (pe_op op_mod (pe_callTy call_int1 (by rfl) T.b_int (by decide +kernel) (pa_cons (pe_dget hu (pv 0) pe_str (fun _ _ => rfl)) pa_nil)) (pv 1)))
      (pss_cons (ps_dput hu (pv 0) pe_str (pe_op op_fdivW (pe_dget hu (pv 0) pe_str (fun _ _ => rfl)) (pv 1)) rfl)
      (pss_one (ps_ret (pv 3))))) pss_nil)
      (pss_cons (ps_set (i := 4) sc_l_draw.nd rfl (Or.inl rfl) (pe_op op_add (pe_op op_add (pe_dget hu (pv 0) pe_str (fun _ _ => rfl)) (pe_op op_mul (pe_dget hu (pv 0) pe_str (fun _ _ => rfl)) pe_int)) pe_int))
      (pss_cons (ps_set (i := 5) sc_l_draw.nd rfl (Or.inl rfl) (pe_op op_fdiv (pe_callTy call_int1 (by rfl) T.b_int (by decide +kernel) (pa_cons (pe_op op_mod (pe_op op_pow (pv 4) pe_int) pe_int) pa_nil)) pe_int))
      (pss_one (ps_ret (pe_ifExp (pt_cmpR op_lt (pv 1) (pe_op op_pow pe_int pe_int) (nomark _)) (pe_op op_mod (pv 5) (pv 1)) (pe_op op_mod (pe_callTy call_int1 (by rfl) T.b_int (by decide +kernel) (pa_cons (pe_op op_pow (pv 5) pe_int) pa_nil)) (pv 1))))))))))), ?_⟩)
  · obtain ⟨d, c, n, sp, rfl, _⟩ := h
    rfl
  obtain ⟨d, c, n, lim, rfl, ⟨cs, at0, dg0, cnt0, fo0, hd, hc, a1, a2, a3, a4, a5, a6⟩, hn, l0, l1, hq⟩ := h
  have hcd : c ≠ d := fun z => by subst z; rw [hd] at hc; cases hc
  refine ⟨_, rfl, d, _, rfl, g_count hd, _, _, rfl, rfl, _, rfl, d, _, rfl, p_count _ hd, ?_⟩
  have S1 : SameX d H (upd H d (bagD c at0 dg0 (cnt0 + 1) fo0)) := SameX.put
  have hd1 : upd H d (bagD c at0 dg0 (cnt0 + 1) fo0) d = some (bagD c at0 dg0 (cnt0 + 1) fo0) := upd_same
  have hc1 : upd H d (bagD c at0 dg0 (cnt0 + 1) fo0) c = some (.lst (cs.map V.int)) := by rw [upd_ne hcd]; exact hc
  generalize upd H d (bagD c at0 dg0 (cnt0 + 1) fo0) = H1 at *
  refine ⟨_, rfl, d, _, rfl, g_dig hd1, rfl, _, rfl, ?_⟩
  refine iteB (fun g0 => ?_) (fun _ => iteF ?_)
  · refine ⟨_, rfl, d, _, rfl, g_at hd1, _, rfl, d, _, rfl, g_cells hd1, c, _, rfl, .inl (SqL.of hc1), _, _, rfl, rfl, _, rfl, ?_⟩
    refine iteB (fun g1 => ?_) (fun _ => ?_)
    · have g1' : at0 < (cs.map V.int).length := of_decide_eq_true g1
      rw [List.length_map] at g1'
      have hj : at0.toNat < cs.length := by omega
      have ej : at0 = ((at0.toNat : Nat) : Int) := by omega
      have q := atI_nat (xs := cs.map V.int) (j := at0.toNat) (v := .int cs[at0.toNat]) (by simp [hj])
      rw [← ej] at q
      refine ⟨_, rfl, d, _, rfl, g_cells hd1, _, rfl, d, _, rfl, g_at hd1, c, _, _, _, rfl, rfl, SqL.of hc1, q, ?_⟩
      clear q
      generalize cs[at0.toNat] = cell
      refine ⟨_, rfl, d, _, rfl, g_at hd1, _, _, rfl, rfl, _, rfl, d, _, rfl, p_at _ hd1, ?_⟩
      have S2 : SameX d H (upd H1 d (bagD c (at0 + 1) dg0 (cnt0 + 1) fo0)) := S1.trans SameX.put
      have hd2 : upd H1 d (bagD c (at0 + 1) dg0 (cnt0 + 1) fo0) d = some (bagD c (at0 + 1) dg0 (cnt0 + 1) fo0) := upd_same
      have hc2 : upd H1 d (bagD c (at0 + 1) dg0 (cnt0 + 1) fo0) c = some (.lst (cs.map V.int)) := by rw [upd_ne hcd]; exact hc1
      generalize upd H1 d (bagD c (at0 + 1) dg0 (cnt0 + 1) fo0) = H2 at *
      refine ⟨_, rfl, _, _, rfl, rfl, ⟨by decide, by decide, by decide⟩, _, _, rfl, rfl, _, rfl, ?_⟩
      refine iteB (fun g2 => ?_) (fun _ => ?_)
      · refine ⟨_, rfl, _, _, rfl, rfl, ⟨by decide, by decide, by decide⟩, _, _, rfl, rfl, _, rfl, d, _, rfl, p_dig _ hd2, ?_⟩
        have b2 : 0 ≤ cell - 10 ^ (18 : Int).toNat := Int.sub_nonneg_of_le (of_decide_eq_true g2)
        have b1 : 0 ≤ at0 + 1 := by omega
        have b3 : 0 ≤ cnt0 + 1 := by omega
        have b4 : cnt0 + 1 ≤ ((n + 1 : Nat) : Int) := by omega
        have b5 := a5
        have b6 := a6
        have S9 : SameX d H (upd H2 d (bagD c (at0 + 1) (cell - 10 ^ (18 : Int).toNat) (cnt0 + 1) fo0)) := S2.trans SameX.put
        have hd9 : upd H2 d (bagD c (at0 + 1) (cell - 10 ^ (18 : Int).toNat) (cnt0 + 1) fo0) d = some (bagD c (at0 + 1) (cell - 10 ^ (18 : Int).toNat) (cnt0 + 1) fo0) := upd_same
        have hc9 : upd H2 d (bagD c (at0 + 1) (cell - 10 ^ (18 : Int).toNat) (cnt0 + 1) fo0) c = some (.lst (cs.map V.int)) := by rw [upd_ne hcd]; exact hc2
        dsimp only
        generalize upd H2 d (bagD c (at0 + 1) (cell - 10 ^ (18 : Int).toNat) (cnt0 + 1) fo0) = H9 at *
        generalize cell - 10 ^ (18 : Int).toNat = dg9 at *
        generalize at0 + 1 = at9 at *
        generalize cnt0 + 1 = cnt9 at *
        generalize fo0 = fo9 at *
        refine ⟨_, rfl, d, _, rfl, g_dig hd9, _, _, rfl, rfl, _, rfl, ?_⟩
        refine iteB (fun g => ?_) (fun g => ?_)
        · refine ⟨_, rfl, d, _, rfl, g_dig hd9, .inl ⟨_, rfl, _, rfl, _, _, rfl, rfl, l0, ?_⟩⟩
          refine ⟨_, rfl, d, _, rfl, g_dig hd9, _, rfl, _, _, rfl, rfl, wide_div (b := 60) l0 (by omega) (by decide) (by decide), _, rfl, d, _, rfl, p_dig _ hd9, _, rfl, ?_⟩
          exact hq _ _ (Int.emod_nonneg _ (by omega)) (Int.emod_lt_of_pos _ l0) (S9.trans SameX.put) ⟨cs, at9, dg9 / lim, cnt9, fo9, upd_same, (by rw [upd_ne hcd]; exact hc9), b1, Int.ediv_nonneg b2 (by omega), b3, b4, b5, b6⟩
        · refine ⟨_, rfl, d, _, rfl, g_fold hd9, _, rfl, d, _, rfl, g_count hd9, _, _, rfl, rfl, .inl ⟨by omega, by omega⟩, _, _, rfl, rfl, _, _, rfl, rfl, ?_⟩
          refine ⟨_, rfl, _, _, rfl, rfl, ⟨by decide, by decide, by show (fo9 + cnt9 * 7907 + 31).natAbs < 2 ^ 64; omega⟩, _, _, rfl, rfl, (by decide : (0 : Int) < 2305843009213693951), .inl ⟨_, rfl, _, _, rfl, rfl, ⟨by decide, by decide⟩, ?_⟩⟩
          have f0 := Int.emod_nonneg ((fo9 + cnt9 * 7907 + 31) ^ (17 : Int).toNat) (b := 2305843009213693951) (by decide)
          have f1 := Int.emod_lt_of_pos ((fo9 + cnt9 * 7907 + 31) ^ (17 : Int).toNat) (b := 2305843009213693951) (by decide)
          dsimp only
          generalize (fo9 + cnt9 * 7907 + 31) ^ (17 : Int).toNat % 2305843009213693951 = m9 at *
          refine ⟨_, rfl, _, _, rfl, rfl, ⟨by decide, by decide, by decide⟩, _, _, rfl, rfl, _, rfl, ?_⟩
          refine iteB (fun g => ?_) (fun g => ?_)
          · exact ⟨_, rfl, _, rfl, _, _, rfl, rfl, l0, hq _ _ (Int.emod_nonneg _ (by omega)) (Int.emod_lt_of_pos _ l0) S9 ⟨cs, at9, dg9, cnt9, fo9, hd9, hc9, b1, b2, b3, b4, b5, b6⟩⟩
          · exact ⟨_, rfl, _, _, rfl, rfl, ⟨by decide, by decide, by show (m9 / 128).natAbs < 2 ^ 64; omega⟩, .inl ⟨_, rfl, _, rfl, _, _, rfl, rfl, l0, hq _ _ (Int.emod_nonneg _ (by omega)) (Int.emod_lt_of_pos _ l0) S9 ⟨cs, at9, dg9, cnt9, fo9, hd9, hc9, b1, b2, b3, b4, b5, b6⟩⟩⟩
      · refine ⟨_, rfl, d, _, rfl, g_fold hd2, _, _, rfl, rfl, .inl ⟨by omega, by omega⟩, _, rfl, _, _, rfl, rfl, .inl ⟨_, rfl, _, _, rfl, rfl, (by decide : (0 : Int) < 2147483587), _, rfl, d, _, rfl, p_fold _ hd2, ?_⟩⟩
        have b5 := Int.emod_nonneg (fo0 * 69069 + cell) (b := 2147483587) (by decide)
        have b6' := Int.emod_lt_of_pos (fo0 * 69069 + cell) (b := 2147483587) (by decide)
        have b2 := a2
        have b1 : 0 ≤ at0 + 1 := by omega
        have b3 : 0 ≤ cnt0 + 1 := by omega
        have b4 : cnt0 + 1 ≤ ((n + 1 : Nat) : Int) := by omega
        have S9 : SameX d H (upd H2 d (bagD c (at0 + 1) dg0 (cnt0 + 1) ((fo0 * 69069 + cell) % 2147483587))) := S2.trans SameX.put
        have hd9 : upd H2 d (bagD c (at0 + 1) dg0 (cnt0 + 1) ((fo0 * 69069 + cell) % 2147483587)) d = some (bagD c (at0 + 1) dg0 (cnt0 + 1) ((fo0 * 69069 + cell) % 2147483587)) := upd_same
        have hc9 : upd H2 d (bagD c (at0 + 1) dg0 (cnt0 + 1) ((fo0 * 69069 + cell) % 2147483587)) c = some (.lst (cs.map V.int)) := by rw [upd_ne hcd]; exact hc2
        dsimp only
        generalize upd H2 d (bagD c (at0 + 1) dg0 (cnt0 + 1) ((fo0 * 69069 + cell) % 2147483587)) = H9 at *
        generalize (fo0 * 69069 + cell) % 2147483587 = fo9 at *
        have b6 : fo9 < 2147483648 := by omega
        generalize dg0 = dg9 at *
        generalize at0 + 1 = at9 at *
        generalize cnt0 + 1 = cnt9 at *
        refine ⟨_, rfl, d, _, rfl, g_dig hd9, _, _, rfl, rfl, _, rfl, ?_⟩
        refine iteB (fun g => ?_) (fun g => ?_)
        · refine ⟨_, rfl, d, _, rfl, g_dig hd9, .inl ⟨_, rfl, _, rfl, _, _, rfl, rfl, l0, ?_⟩⟩
          refine ⟨_, rfl, d, _, rfl, g_dig hd9, _, rfl, _, _, rfl, rfl, wide_div (b := 60) l0 (by omega) (by decide) (by decide), _, rfl, d, _, rfl, p_dig _ hd9, _, rfl, ?_⟩
          exact hq _ _ (Int.emod_nonneg _ (by omega)) (Int.emod_lt_of_pos _ l0) (S9.trans SameX.put) ⟨cs, at9, dg9 / lim, cnt9, fo9, upd_same, (by rw [upd_ne hcd]; exact hc9), b1, Int.ediv_nonneg b2 (by omega), b3, b4, b5, b6⟩
        · refine ⟨_, rfl, d, _, rfl, g_fold hd9, _, rfl, d, _, rfl, g_count hd9, _, _, rfl, rfl, .inl ⟨by omega, by omega⟩, _, _, rfl, rfl, _, _, rfl, rfl, ?_⟩
          refine ⟨_, rfl, _, _, rfl, rfl, ⟨by decide, by decide, by show (fo9 + cnt9 * 7907 + 31).natAbs < 2 ^ 64; omega⟩, _, _, rfl, rfl, (by decide : (0 : Int) < 2305843009213693951), .inl ⟨_, rfl, _, _, rfl, rfl, ⟨by decide, by decide⟩, ?_⟩⟩
          have f0 := Int.emod_nonneg ((fo9 + cnt9 * 7907 + 31) ^ (17 : Int).toNat) (b := 2305843009213693951) (by decide)
          have f1 := Int.emod_lt_of_pos ((fo9 + cnt9 * 7907 + 31) ^ (17 : Int).toNat) (b := 2305843009213693951) (by decide)
          dsimp only
          generalize (fo9 + cnt9 * 7907 + 31) ^ (17 : Int).toNat % 2305843009213693951 = m9 at *
          refine ⟨_, rfl, _, _, rfl, rfl, ⟨by decide, by decide, by decide⟩, _, _, rfl, rfl, _, rfl, ?_⟩
          refine iteB (fun g => ?_) (fun g => ?_)
          · exact ⟨_, rfl, _, rfl, _, _, rfl, rfl, l0, hq _ _ (Int.emod_nonneg _ (by omega)) (Int.emod_lt_of_pos _ l0) S9 ⟨cs, at9, dg9, cnt9, fo9, hd9, hc9, b1, b2, b3, b4, b5, b6⟩⟩
          · exact ⟨_, rfl, _, _, rfl, rfl, ⟨by decide, by decide, by show (m9 / 128).natAbs < 2 ^ 64; omega⟩, .inl ⟨_, rfl, _, rfl, _, _, rfl, rfl, l0, hq _ _ (Int.emod_nonneg _ (by omega)) (Int.emod_lt_of_pos _ l0) S9 ⟨cs, at9, dg9, cnt9, fo9, hd9, hc9, b1, b2, b3, b4, b5, b6⟩⟩⟩
    · have b1 := a1
      have b2 := a2
      have b3 : 0 ≤ cnt0 + 1 := by omega
      have b4 : cnt0 + 1 ≤ ((n + 1 : Nat) : Int) := by omega
      have b5 := a5
      have b6 := a6
      have S9 := S1
      have hd9 := hd1
      have hc9 := hc1
      generalize H1 = H9 at *
      generalize fo0 = fo9 at *
      generalize dg0 = dg9 at *
      generalize at0 = at9 at *
      generalize cnt0 + 1 = cnt9 at *
      refine ⟨_, rfl, d, _, rfl, g_dig hd9, _, _, rfl, rfl, _, rfl, ?_⟩
      refine iteB (fun g => ?_) (fun g => ?_)
      · refine ⟨_, rfl, d, _, rfl, g_dig hd9, .inl ⟨_, rfl, _, rfl, _, _, rfl, rfl, l0, ?_⟩⟩
        refine ⟨_, rfl, d, _, rfl, g_dig hd9, _, rfl, _, _, rfl, rfl, wide_div (b := 60) l0 (by omega) (by decide) (by decide), _, rfl, d, _, rfl, p_dig _ hd9, _, rfl, ?_⟩
        exact hq _ _ (Int.emod_nonneg _ (by omega)) (Int.emod_lt_of_pos _ l0) (S9.trans SameX.put) ⟨cs, at9, dg9 / lim, cnt9, fo9, upd_same, (by rw [upd_ne hcd]; exact hc9), b1, Int.ediv_nonneg b2 (by omega), b3, b4, b5, b6⟩
      · refine ⟨_, rfl, d, _, rfl, g_fold hd9, _, rfl, d, _, rfl, g_count hd9, _, _, rfl, rfl, .inl ⟨by omega, by omega⟩, _, _, rfl, rfl, _, _, rfl, rfl, ?_⟩
        refine ⟨_, rfl, _, _, rfl, rfl, ⟨by decide, by decide, by show (fo9 + cnt9 * 7907 + 31).natAbs < 2 ^ 64; omega⟩, _, _, rfl, rfl, (by decide : (0 : Int) < 2305843009213693951), .inl ⟨_, rfl, _, _, rfl, rfl, ⟨by decide, by decide⟩, ?_⟩⟩
        have f0 := Int.emod_nonneg ((fo9 + cnt9 * 7907 + 31) ^ (17 : Int).toNat) (b := 2305843009213693951) (by decide)
        have f1 := Int.emod_lt_of_pos ((fo9 + cnt9 * 7907 + 31) ^ (17 : Int).toNat) (b := 2305843009213693951) (by decide)
        dsimp only
        generalize (fo9 + cnt9 * 7907 + 31) ^ (17 : Int).toNat % 2305843009213693951 = m9 at *
        refine ⟨_, rfl, _, _, rfl, rfl, ⟨by decide, by decide, by decide⟩, _, _, rfl, rfl, _, rfl, ?_⟩
        refine iteB (fun g => ?_) (fun g => ?_)
        · exact ⟨_, rfl, _, rfl, _, _, rfl, rfl, l0, hq _ _ (Int.emod_nonneg _ (by omega)) (Int.emod_lt_of_pos _ l0) S9 ⟨cs, at9, dg9, cnt9, fo9, hd9, hc9, b1, b2, b3, b4, b5, b6⟩⟩
        · exact ⟨_, rfl, _, _, rfl, rfl, ⟨by decide, by decide, by show (m9 / 128).natAbs < 2 ^ 64; omega⟩, .inl ⟨_, rfl, _, rfl, _, _, rfl, rfl, l0, hq _ _ (Int.emod_nonneg _ (by omega)) (Int.emod_lt_of_pos _ l0) S9 ⟨cs, at9, dg9, cnt9, fo9, hd9, hc9, b1, b2, b3, b4, b5, b6⟩⟩⟩
  · have b1 := a1
    have b2 := a2
    have b3 : 0 ≤ cnt0 + 1 := by omega
    have b4 : cnt0 + 1 ≤ ((n + 1 : Nat) : Int) := by omega
    have b5 := a5
    have b6 := a6
    have S9 := S1
    have hd9 := hd1
    have hc9 := hc1
    generalize H1 = H9 at *
    generalize fo0 = fo9 at *
    generalize dg0 = dg9 at *
    generalize at0 = at9 at *
    generalize cnt0 + 1 = cnt9 at *
    refine ⟨_, rfl, d, _, rfl, g_dig hd9, _, _, rfl, rfl, _, rfl, ?_⟩
    refine iteB (fun g => ?_) (fun g => ?_)
    · refine ⟨_, rfl, d, _, rfl, g_dig hd9, .inl ⟨_, rfl, _, rfl, _, _, rfl, rfl, l0, ?_⟩⟩
      refine ⟨_, rfl, d, _, rfl, g_dig hd9, _, rfl, _, _, rfl, rfl, wide_div (b := 60) l0 (by omega) (by decide) (by decide), _, rfl, d, _, rfl, p_dig _ hd9, _, rfl, ?_⟩
      exact hq _ _ (Int.emod_nonneg _ (by omega)) (Int.emod_lt_of_pos _ l0) (S9.trans SameX.put) ⟨cs, at9, dg9 / lim, cnt9, fo9, upd_same, (by rw [upd_ne hcd]; exact hc9), b1, Int.ediv_nonneg b2 (by omega), b3, b4, b5, b6⟩
    · refine ⟨_, rfl, d, _, rfl, g_fold hd9, _, rfl, d, _, rfl, g_count hd9, _, _, rfl, rfl, .inl ⟨by omega, by omega⟩, _, _, rfl, rfl, _, _, rfl, rfl, ?_⟩
      refine ⟨_, rfl, _, _, rfl, rfl, ⟨by decide, by decide, by show (fo9 + cnt9 * 7907 + 31).natAbs < 2 ^ 64; omega⟩, _, _, rfl, rfl, (by decide : (0 : Int) < 2305843009213693951), .inl ⟨_, rfl, _, _, rfl, rfl, ⟨by decide, by decide⟩, ?_⟩⟩
      have f0 := Int.emod_nonneg ((fo9 + cnt9 * 7907 + 31) ^ (17 : Int).toNat) (b := 2305843009213693951) (by decide)
      have f1 := Int.emod_lt_of_pos ((fo9 + cnt9 * 7907 + 31) ^ (17 : Int).toNat) (b := 2305843009213693951) (by decide)
      dsimp only
      generalize (fo9 + cnt9 * 7907 + 31) ^ (17 : Int).toNat % 2305843009213693951 = m9 at *
      refine ⟨_, rfl, _, _, rfl, rfl, ⟨by decide, by decide, by decide⟩, _, _, rfl, rfl, _, rfl, ?_⟩
      refine iteB (fun g => ?_) (fun g => ?_)
      · exact ⟨_, rfl, _, rfl, _, _, rfl, rfl, l0, hq _ _ (Int.emod_nonneg _ (by omega)) (Int.emod_lt_of_pos _ l0) S9 ⟨cs, at9, dg9, cnt9, fo9, hd9, hc9, b1, b2, b3, b4, b5, b6⟩⟩
      · exact ⟨_, rfl, _, _, rfl, rfl, ⟨by decide, by decide, by show (m9 / 128).natAbs < 2 ^ 64; omega⟩, .inl ⟨_, rfl, _, rfl, _, _, rfl, rfl, l0, hq _ _ (Int.emod_nonneg _ (by omega)) (Int.emod_lt_of_pos _ l0) S9 ⟨cs, at9, dg9, cnt9, fo9, hd9, hc9, b1, b2, b3, b4, b5, b6⟩⟩⟩
end
end K59


set_option Elab.async false
set_option linter.all false
set_option maxRecDepth 100000
set_option maxHeartbeats 4000000
namespace K59
open PySem PySem.Spec PyProof.Rows L2
/-- the reading, reckoned -/
def pGo : Nat → Md → List Str → Nat → Res
  | 0, _, _, _ => .err 0
  | f + 1, .rows i, ls, n => match ls with
    | [] => if i then .err (n + 1) else .ok .nil [] n
    | t :: r => if i && decide (words t = endW) then .ok .nil (t :: r) n else match stepOf (words t) with
      | some (a, b, c) => (match pGo f (.blocks a []) r (n + 1) with
        | .err k => .err k
        | .ok bl r2 n2 => (pGo f (.rows i) r2 n2).pre (.step (n + 1) a b c bl))
      | none => (match plainRow (words t) (n + 1) with
        | none => .err (n + 1)
        | some vs => (pGo f (.rows i) r (n + 1)).pre (.plain vs))
  | f + 1, .blocks w seen, ls, n => match ls with
    | [] => .ok .nil [] n
    | t :: r => if begins (t :: r) then (if decide ((words t).getD 1 "" ∉ outs w) || decide ((words t).getD 1 "" ∈ seen) then .err (n + 1) else match pGo f (.rows true) r (n + 1) with
        | .err k => .err k
        | .ok _ [] _ => .err 0
        | .ok rs (_ :: r2) n2 => (pGo f (.blocks w (seen ++ [(words t).getD 1 ""])) r2 (n2 + 1)).pre (.blk ((words t).getD 1 "") (n + 1) rs))
      else .ok .nil (t :: r) n
theorem pGo_of {md : Md} {ls : List Str} {n : Nat} {R : Res} (h : Rd md ls n R) : ∀ f, ls.length < f → pGo f md ls n = R := by
  induction h with
  | eof => intro f hf; cases f with | zero => simp at hf | succ f => rfl
  | eofI => intro f hf; cases f with | zero => simp at hf | succ f => rfl
  | @fin t r n he => intro f hf; cases f with
    | zero => simp at hf
    | succ f => simp [pGo, he]
  | @bad i t r n hn hs hp => intro f hf; cases f with
    | zero => simp at hf
    | succ f =>
      have e : (i && decide (words t = endW)) = false := by
        cases i with
        | false => rfl
        | true => simpa using fun z => hn ⟨rfl, z⟩
      simp only [pGo, e, hs, hp]
      rfl
  | @plain i t r n vs R hn hs hp _ ih => intro f hf; cases f with
    | zero => simp at hf
    | succ f =>
      have e : (i && decide (words t = endW)) = false := by
        cases i with
        | false => rfl
        | true => simpa using fun z => hn ⟨rfl, z⟩
      simp only [pGo, e, hs, hp]
      rw [ih f (by simp at hf; omega)]
      rfl
  | @stepE i t r n a b c k hn hs _ ih => intro f hf; cases f with
    | zero => simp at hf
    | succ f =>
      have e : (i && decide (words t = endW)) = false := by
        cases i with
        | false => rfl
        | true => simpa using fun z => hn ⟨rfl, z⟩
      simp only [pGo, e, hs]
      rw [ih f (by simp at hf; omega)]
      rfl
  | @step i t r n a b c bl r2 n2 R hn hs hb _ ih1 ih2 => intro f hf; cases f with
    | zero => simp at hf
    | succ f =>
      have e : (i && decide (words t = endW)) = false := by
        cases i with
        | false => rfl
        | true => simpa using fun z => hn ⟨rfl, z⟩
      obtain ⟨j, h1, h2, h3⟩ := Rd.adv hb bl r2 n2 rfl
      have hl : r2.length ≤ r.length := by rw [h2, List.length_drop]; omega
      simp only [pGo, e, hs]
      rw [ih1 f (by simp at hf; omega)]
      simp only []
      rw [ih2 f (by simp at hf; omega)]
      rfl
  | @noB w seen ls n hb => intro f hf; cases f with
    | zero => omega
    | succ f =>
      cases ls with
      | nil => rfl
      | cons t r => simp only [pGo, hb]; rfl
  | @badB w seen t r n hb ho => intro f hf; cases f with
    | zero => simp at hf
    | succ f =>
      have e : (decide ((words t).getD 1 "" ∉ outs w) || decide ((words t).getD 1 "" ∈ seen)) = true := by simpa using ho
      simp only [pGo, hb, e]
      rfl
  | @blkE w seen t r n k hb ho _ ih => intro f hf; cases f with
    | zero => simp at hf
    | succ f =>
      have e : (decide ((words t).getD 1 "" ∉ outs w) || decide ((words t).getD 1 "" ∈ seen)) = false := by simpa using ho
      simp only [pGo, hb, e]
      rw [ih f (by simp at hf; omega)]
      rfl
  | @blk w seen t r n rs e r2 n2 R hb ho hr _ ih1 ih2 => intro f hf; cases f with
    | zero => simp at hf
    | succ f =>
      have e9 : (decide ((words t).getD 1 "" ∉ outs w) || decide ((words t).getD 1 "" ∈ seen)) = false := by simpa using ho
      obtain ⟨j, h1, h2, h3⟩ := Rd.adv hr rs (e :: r2) n2 rfl
      have hl : r2.length + 1 ≤ r.length := by
        have := congrArg List.length h2
        rw [List.length_drop, List.length_cons] at this
        omega
      simp only [pGo, hb, e9]
      rw [ih1 f (by simp at hf; omega)]
      simp only []
      rw [ih2 f (by simp at hf; omega)]
      rfl
inductive Vd
  | lines
  | line (n : Nat)
  | steps (n : Nat)
  | refused (n : Nat)
  | made
def least : Nat → List Nat → Nat
  | n, [] => n
  | n, m :: r => least (if m < n then m else n) r
theorem least_ok : ∀ (l : List Nat) (n : Nat), least n l ∈ n :: l ∧ ∀ j ∈ n :: l, least n l ≤ j
  | [], n => ⟨List.mem_cons_self .., fun j hj => by rw [List.mem_singleton] at hj; rw [hj]; exact Nat.le_refl _⟩
  | m :: r, n => by
    obtain ⟨h1, h2⟩ := least_ok r (if m < n then m else n)
    show least (if m < n then m else n) r ∈ _ ∧ ∀ j ∈ _, least (if m < n then m else n) r ≤ j
    by_cases hmn : m < n
    · rw [if_pos hmn] at *
      refine ⟨List.mem_cons_of_mem _ h1, fun j hj => ?_⟩
      rcases List.mem_cons.mp hj with rfl | hj
      · have := h2 m (List.mem_cons_self ..); omega
      · exact h2 j hj
    · rw [if_neg hmn] at *
      refine ⟨?_, fun j hj => ?_⟩
      · rcases List.mem_cons.mp h1 with e | e
        · rw [e]; exact List.mem_cons_self ..
        · exact List.mem_cons_of_mem _ (List.mem_cons_of_mem _ e)
      · rcases List.mem_cons.mp hj with rfl | hj
        · exact h2 _ (List.mem_cons_self ..)
        · rcases List.mem_cons.mp hj with rfl | hj
          · have := h2 n (List.mem_cons_self ..); omega
          · exact h2 j (List.mem_cons_of_mem _ hj)
def ofRes (k : Str) : Res → Vd
  | .err n => .line n
  | .ok t _ _ => if 8 < t.steps then .steps t.steps else match t.wrongs k with
    | [] => .made
    | x :: r => .refused (least x r)
theorem ofRes_ok (k : Str) (t : PT) (ls : List Str) (n : Nat) : ofRes k (.ok t ls n) = if 8 < t.steps then .steps t.steps else match t.wrongs k with
    | [] => .made
    | x :: r => .refused (least x r) := rfl
/-- what comes of a text of the lines ls as a deed of kind k -/
def verd (k : Str) (ls : List Str) : Vd := if 40 < ls.length then .lines else ofRes k (pGo (ls.length + 1) (.rows false) ls 0)
def vdV (k text : Str) (len : Nat) : Vd → List V
  | .lines => [.str "lines", .int (len : Nat), .int 40]
  | .line n => [.str "line", .int (n : Nat)]
  | .steps n => [.str "steps", .int (n : Nat), .int 8]
  | .refused n => [.str "refused", .int (n : Nat)]
  | .made => [.str "made", .str k, .str text, .int (len : Nat)]
section
variable {P : Program} {w : World} {K : PySem.W.Frag} {mg : Str → Option Value} {base : Heap}
def LnOk (t : Str) : Prop := t.length ≤ 100000 ∧ (words t).all PyData.strOk = true
/-- DeedCode(kv, text) as told by the verdict -/
def spDC (K : PySem.W.Frag) : Sp := fun vs H Q E => ∃ (x dx : Addr) (kv : V) (text : Str), vs = [.ref x, kv, .str text] ∧ H x = some (.ins (cD K) dx []) ∧ KindV H kv ∧ text.length ≤ 100000 ∧ (∀ t ∈ linesOf text, LnOk t) ∧
  (kindOk dkN kv = false → ∀ d H', SameX x H H' → H' d = some (.xd [("kind", kv)]) → E (.ref (He.ga K "BadKind")) (some d) H') ∧
  (∀ k, kv = .str k → k ∈ dkN →
    (verd k (linesOf text) = .lines → ∀ d H', SameX x H H' → H' d = some (xLines (linesOf text).length 40 (Str.ofString "lines")) → E (.ref (He.ga K "TooMany")) (some d) H') ∧
    (∀ n, verd k (linesOf text) = .line n → ErrAt K x H E n) ∧
    (∀ n, verd k (linesOf text) = .steps n → ∀ d H', SameX x H H' → H' d = some (xLines n 8 (Str.ofString "steps")) → E (.ref (He.ga K "TooMany")) (some d) H') ∧
    (∀ n, verd k (linesOf text) = .refused n → ∀ d H', SameX x H H' → H' d = some (.xd [("line", .int (n : Nat))]) → E (.ref (He.ga K "Refused")) (some d) H') ∧
    (verd k (linesOf text) = .made → ∀ H', CodeAt K H' x k text → SameX x H H' → Q .non H'))
theorem ok_dc (T : Tx P w K mg) : MkX P w K mg base (L2.CX P w) 131 "DeedCode" (cD K) ["self", "kind", "text"] [] (spDC K) := by
  obtain ⟨f, fd, dvs, hm, M, b, vd, G⟩ := (ok_deed (base := base) T).ex
  refine ⟨f, fd, dvs, hm, M, b, vd, fun vs H Q E h => ?_, fun A outer s H args us vs Q E hr he hb hv h => G.run A outer s H args us vs Q E hr he hb hv ?_⟩
  · obtain ⟨x, dx, kv, text, rfl, _⟩ := h
    rfl
  obtain ⟨x, dx, kv, text, rfl, hx, hkv, htl, hts, h0, h1⟩ := h
  refine ⟨x, dx, kv, text, rfl, hx, hkv, htl, hts, h0, fun k ek hk => ?_⟩
  obtain ⟨k1, k2, k3, k4, k5⟩ := h1 k ek hk
  refine ⟨fun hgt => k1 (by unfold verd; rw [if_pos hgt]), fun hle => ?_⟩
  have ev : verd k (linesOf text) = ofRes k (pGo ((linesOf text).length + 1) (.rows false) (linesOf text) 0) := by
    unfold verd
    rw [if_neg (by omega)]
  refine ⟨fun n hn => k2 n (by rw [ev, pGo_of hn _ (by omega)]; rfl), fun t ls n' hrd => ?_⟩
  have ev2 : verd k (linesOf text) = ofRes k (.ok t ls n') := by rw [ev, pGo_of hrd _ (by omega)]
  refine ⟨fun h9 => k3 _ (by rw [ev2, ofRes_ok, if_pos h9]), fun h9 hw l tb r H' hl hx' hl' sx => k5 (by rw [ev2, ofRes_ok, if_neg (by omega), hw]) H' ⟨dx, l, tb, r, hx', hl'⟩ sx, fun h9 n hn hmin => k4 n ?_⟩
  rw [ev2, ofRes_ok, if_neg (by omega)]
  cases hw : t.wrongs k with
  | nil => rw [hw] at hn; cases hn
  | cons y v =>
    rw [hw] at hn hmin
    obtain ⟨l1, l2⟩ := least_ok v y
    have a1 := hmin _ l1
    have a2 := l2 _ hn
    have : least y v = n := by omega
    show Vd.refused (least y v) = _
    rw [this]
end
end K59


set_option Elab.async false
set_option linter.all false
set_option maxRecDepth 100000
set_option maxHeartbeats 4000000
namespace K59
open PySem PySem.Spec PyProof.Rows L2
section
variable {P : Program} {w : World} {K : PySem.W.Frag} {mg : Str → Option Value} {base : Heap}
def spTried (K : PySem.W.Frag) : Sp := fun vs H Q E => ∃ (kv : V) (text : Str), vs = [kv, .str text] ∧ KindV H kv ∧ text.length ≤ 100000 ∧ (∀ t ∈ linesOf text, LnOk t) ∧
  (kindOk dkN kv = false → ∀ q H', Same H H' → H' q = some (.tup [.str "kind", kv]) → Q (.ref q) H') ∧
  (∀ k, kv = .str k → k ∈ dkN → ∀ q H', Same H H' → H' q = some (.tup (vdV k text (linesOf text).length (verd k (linesOf text)))) → Q (.ref q) H')
theorem ok_tried (T : Tx P w K mg) : FnX P w K mg base CX0 134 "_law_tried" ["_law_kind", "_law_text"] [] (spTried K) := by
  have F_DeedCode := ok_dc (base := base) T
  have F_DeedCode_len := ok_len (base := base) T
  refine T.d_l_tried.ok0 sc_l_tried (fun _ _ _ _ _ _ us hl => match us, hl with | [_, _], _ => rfl) (fun vs H Q E h => ?_) (fun f cdv A outer s H vs Q E hr h => ⟨_, (by exact (pss_cons (ps_try_cls (l := [⟨.ref (He.ga K "BadKind"), some 3, _⟩, ⟨.ref (He.ga K "BadLine"), some 3, _⟩, ⟨.ref (He.ga K "Refused"), some 3, _⟩, ⟨.ref (He.ga K "TooMany"), some 3, _⟩]) (Wout := fun _ _ _ _ => False) rfl rfl sc_l_tried.nd LamX.takes0 (fun W pn xe tk _ => (pss_one (ps_set (i := 2) sc_l_tried.nd rfl (Or.inl rfl) (pe_makeXS F_DeedCode (hr.mono (by first | decide | omega)) (fun z => passAt tk z) (pa_cons (pv 0) (pa_cons (pv 1) pa_nil))))))
        (.named (i := 3) ⟨rfl, by decide, .inl T.g_BadKind⟩ rfl rfl rfl (fun a9 oe cls d pn hz hf => (pss_one (ps_ret (pe_tup (pa_cons pe_str (pa_cons (pe_errFld T.e_BadKind (by decide) hz hf (pv 3)) pa_nil))))))
        (.named (i := 3) ⟨rfl, by decide, .inl T.g_BadLine⟩ rfl rfl rfl (fun a9 oe cls d pn hz hf => (pss_one (ps_ret (pe_tup (pa_cons pe_str (pa_cons (pe_errFld T.e_BadLine (by decide) hz hf (pv 3)) pa_nil))))))
        (.named (i := 3) ⟨rfl, by decide, .inl T.g_Refused⟩ rfl rfl rfl (fun a9 oe cls d pn hz hf => (pss_one (ps_ret (pe_tup (pa_cons pe_str (pa_cons (pe_errFld T.e_Refused (by decide) hz hf (pv 3)) pa_nil))))))
        (.named (i := 3) ⟨rfl, by decide, .inl T.g_TooMany⟩ rfl rfl rfl (fun a9 oe cls d pn hz hf => (pss_one (ps_ret (pe_tup (pa_cons (pe_errFld T.e_TooMany (by decide) hz hf (pv 3)) (pa_cons (pe_errFld T.e_TooMany (by decide) hz hf (pv 3)) (pa_cons (pe_errFld T.e_TooMany (by decide) hz hf (pv 3)) pa_nil)))))))
        .nil)))))
      (pss_one (ps_ret (pe_tup (pa_cons pe_str (pa_cons (pe_fld (pv 2) rfl) (pa_cons (pe_fld (pv 2) rfl) (pa_cons (pe_callB (call_lenO F_DeedCode_len (hr.mono (by first | decide | omega)) passF) (by rfl) T.b_len (by decide +kernel) (pa_cons (pv 2) pa_nil)) pa_nil))))))))), ?_⟩)
  · obtain ⟨kv, text, rfl, _⟩ := h
    rfl
  obtain ⟨kv, text, rfl, hkv, htl, hts, h0, h1⟩ := h
  refine ⟨_, rfl, _, rfl, fun x dx hx hdx hne => ?_⟩
  have sX : Same H (upd (upd H dx (.own x)) x (.ins (cD K) dx [])) := fun b o hb => by rw [upd_ne (ne_of_none hb hx), upd_ne (ne_of_none hb hdx)]; exact hb
  generalize hHX : upd (upd H dx (.own x)) x (.ins (cD K) dx []) = HX at sX ⊢
  have hXx : HX x = some (.ins (cD K) dx []) := by rw [← hHX]; exact upd_same
  have fw : ∀ {H'}, SameX x HX H' → Same H H' := fun s b o hb => s _ _ (ne_of_none hb hx) (sX _ _ hb)
  have hkX : KindV HX kv := hkv.imp id (fun ⟨p, xs, e, hp⟩ => ⟨p, xs, e, sX _ _ hp⟩)
  refine ⟨x, dx, kv, text, rfl, hXx, hkX, htl, hts, (fun e d H' sx hd => ?_), (fun k ek hk => ⟨fun ev d H' sx hd => ?_, fun n ev d H' sx hd => ?_, fun n ev d H' sx hd => ?_, fun n ev d H' sx hd => ?_, fun ev H' hc sx => ?_⟩)⟩
  · refine ⟨true, T.x_BadKind_BadKind, fun _ a ha => ?_, (fun z => by cases z)⟩
    exact ⟨_, rfl, rfl, rfl, d, _, _, rfl, hd, rfl, szL rfl, fun q hq => h0 e q _ ((fw sx).tr (Same.new hq)) upd_same⟩
  · refine ⟨false, T.x_TooMany_BadKind, (fun z => by cases z), fun _ => ⟨false, T.x_TooMany_BadLine, (fun z => by cases z), fun _ => ⟨false, T.x_TooMany_Refused, (fun z => by cases z), fun _ => ⟨true, T.x_TooMany_TooMany, fun _ a ha => ?_, (fun z => by cases z)⟩⟩⟩⟩
    refine ⟨_, rfl, rfl, rfl, d, _, _, rfl, hd, rfl, _, rfl, rfl, rfl, d, _, _, rfl, hd, rfl, _, rfl, rfl, rfl, d, _, _, rfl, hd, rfl, szL rfl, fun q hq => ?_⟩
    exact h1 k ek hk q _ ((fw sx).tr (Same.new hq)) (by rw [upd_same, ev]; rfl)
  · refine ⟨false, T.x_BadLine_BadKind, (fun z => by cases z), fun _ => ⟨true, T.x_BadLine_BadLine, fun _ a ha => ?_, (fun z => by cases z)⟩⟩
    exact ⟨_, rfl, rfl, rfl, d, _, _, rfl, hd, rfl, szL rfl, fun q hq => h1 k ek hk q _ ((fw sx).tr (Same.new hq)) (by rw [upd_same, ev]; rfl)⟩
  · refine ⟨false, T.x_TooMany_BadKind, (fun z => by cases z), fun _ => ⟨false, T.x_TooMany_BadLine, (fun z => by cases z), fun _ => ⟨false, T.x_TooMany_Refused, (fun z => by cases z), fun _ => ⟨true, T.x_TooMany_TooMany, fun _ a ha => ?_, (fun z => by cases z)⟩⟩⟩⟩
    refine ⟨_, rfl, rfl, rfl, d, _, _, rfl, hd, rfl, _, rfl, rfl, rfl, d, _, _, rfl, hd, rfl, _, rfl, rfl, rfl, d, _, _, rfl, hd, rfl, szL rfl, fun q hq => ?_⟩
    exact h1 k ek hk q _ ((fw sx).tr (Same.new hq)) (by rw [upd_same, ev]; rfl)
  · refine ⟨false, T.x_Refused_BadKind, (fun z => by cases z), fun _ => ⟨false, T.x_Refused_BadLine, (fun z => by cases z), fun _ => ⟨true, T.x_Refused_Refused, fun _ a ha => ?_, (fun z => by cases z)⟩⟩⟩
    exact ⟨_, rfl, rfl, rfl, d, _, _, rfl, hd, rfl, szL rfl, fun q hq => h1 k ek hk q _ ((fw sx).tr (Same.new hq)) (by rw [upd_same, ev]; rfl)⟩
  · refine ⟨rfl, ?_⟩
    have hc' := hc
    obtain ⟨dx2, l, tb, r, hcx, hcl⟩ := hc'
    have hll : (linesOf text).length ≤ 100000 := by
      have h9 : ¬ 40 < (linesOf text).length := fun z => by unfold verd at ev; rw [if_pos z] at ev; cases ev
      omega
    refine ⟨_, rfl, x, _, dx2, _, _, rfl, hcx, T.cl_DeedCode, T.na_DeedCode_kind, rfl, _, rfl, x, _, dx2, _, _, rfl, hcx, T.cl_DeedCode, T.na_DeedCode_text, rfl, _, rfl, x, dx2, _, rfl, hcx, x, k, text, rfl, hc, fun H2 s2 => ⟨_, rfl, hll, szL rfl, fun q hq => ?_⟩⟩
    exact h1 k ek hk q _ (((fw sx).tr s2).tr (Same.new hq)) (by rw [upd_same, ev]; rfl)
end
end K59


set_option Elab.async false
set_option linter.all false
set_option maxRecDepth 100000
set_option maxHeartbeats 4000000
/-! the law's own rows: nested lists, each at an address of its own -/
namespace K59
open PySem PySem.Spec PyProof.Rows L2
inductive AT
  | nil
  | row (r : Addr) (ws : List Str) (rest : AT)
  | step (r b : Addr) (w : Str) (one place : Option Str) (blocks rest : AT)
  | blk (pr inner : Addr) (o : Str) (rows rest : AT)
namespace AT
def refs : AT → List V
  | .nil => []
  | .row r _ t => .ref r :: t.refs
  | .step r _ _ _ _ _ t => .ref r :: t.refs
  | .blk p _ _ _ t => .ref p :: t.refs
def adr : AT → List Addr
  | .nil => []
  | .row r _ t => r :: t.adr
  | .step r b _ _ _ bl t => r :: b :: (bl.adr ++ t.adr)
  | .blk p i _ rs t => p :: i :: (rs.adr ++ t.adr)
def own (H : Hp) : AT → Prop
  | .nil => True
  | .row r ws t => H r = some (.lst (ws.map V.str)) ∧ t.own H
  | .step r b w o p bl t => H r = some (.lst [.str "step", .str w, oS o, oS p, .ref b]) ∧ H b = some (.lst bl.refs) ∧ bl.own H ∧ t.own H
  | .blk p i o rs t => H p = some (.lst [.str o, .ref i]) ∧ H i = some (.lst rs.refs) ∧ rs.own H ∧ t.own H
def app : AT → AT → AT
  | .nil, u => u
  | .row r ws t, u => .row r ws (t.app u)
  | .step r b w o p bl t, u => .step r b w o p bl (t.app u)
  | .blk p i o rs t, u => .blk p i o rs (t.app u)
/-- all lists of rows below -/
def il : AT → List Addr
  | .nil => []
  | .row _ _ t => t.il
  | .step _ _ _ _ _ bl t => bl.il ++ t.il
  | .blk _ i _ rs t => i :: (rs.il ++ t.il)
def os : AT → List Str
  | .blk _ _ o _ t => o :: t.os
  | _ => []
def cnt (z : Str) : AT → Nat
  | .nil => 0
  | .row _ _ t => t.cnt z
  | .step _ _ w _ _ bl t => (if w = z then 1 else 0) + bl.cnt z + t.cnt z
  | .blk _ _ _ rs t => rs.cnt z + t.cnt z
def nl : AT → Nat
  | .nil => 0
  | .row _ _ t => 1 + t.nl
  | .step _ _ _ _ _ bl t => 1 + bl.nl + t.nl
  | .blk _ _ _ rs t => 2 + rs.nl + t.nl
def len : AT → Nat
  | .nil => 0
  | .row _ _ t => 1 + t.len
  | .step _ _ _ _ _ _ t => 1 + t.len
  | .blk _ _ _ _ t => 1 + t.len
end AT
def plS : List (List Str) := [["leave"], ["enter", "h"], ["enter", "i"], ["copy", "h", "i"], ["copy", "i", "h"], ["copy", "q", "p"], ["copy", "p", "q"], ["quit", "ok"], ["quit", "no"]]
/-- the words of a step -/
def stOk (w : Str) (o p : Option Str) : Prop :=
  (w = "find" ∧ (∃ x ∈ idN, o = some x) ∧ p = none) ∨ (w ∈ (["look", "give"] : List Str) ∧ (∃ x ∈ idN, o = some x) ∧ ∃ y ∈ plN, p = some y) ∨ (w ∈ (["lay", "free", "strike", "stretch"] : List Str) ∧ o = none ∧ ∃ y ∈ plN, p = some y)
/-- rows (none), blocks of a step with the word (some) -/
def AT.good : Option Str → AT → Prop
  | _, .nil => True
  | none, .row _ ws t => ws ∈ plS ∧ t.good none
  | none, .step _ _ w o p bl t => stOk w o p ∧ bl.good (some w) ∧ t.good none
  | some w, .blk _ _ o rs t => o ∈ outs w ∧ o ∉ t.os ∧ rs.good none ∧ t.good (some w)
  | _, _ => False
namespace AT
theorem refs_app : ∀ s t : AT, (s.app t).refs = s.refs ++ t.refs
  | .nil, _ => rfl
  | .row r _ u, t => congrArg (V.ref r :: ·) (refs_app u t)
  | .step r _ _ _ _ _ u, t => congrArg (V.ref r :: ·) (refs_app u t)
  | .blk r _ _ _ u, t => congrArg (V.ref r :: ·) (refs_app u t)
theorem adr_app : ∀ s t : AT, (s.app t).adr = s.adr ++ t.adr
  | .nil, _ => rfl
  | .row r _ u, t => congrArg (r :: ·) (adr_app u t)
  | .step r b _ _ _ bl u, t => by show r :: b :: (bl.adr ++ (u.app t).adr) = _; rw [adr_app u t, ← List.append_assoc]; rfl
  | .blk r b _ bl u, t => by show r :: b :: (bl.adr ++ (u.app t).adr) = _; rw [adr_app u t, ← List.append_assoc]; rfl
theorem own_app {H : Hp} : ∀ s t : AT, (s.app t).own H ↔ s.own H ∧ t.own H
  | .nil, t => by show t.own H ↔ True ∧ t.own H; simp
  | .row r ws u, t => by show _ ∧ (u.app t).own H ↔ (_ ∧ u.own H) ∧ t.own H; rw [own_app u t, and_assoc]
  | .step r b w o p bl u, t => by show _ ∧ _ ∧ bl.own H ∧ (u.app t).own H ↔ (_ ∧ _ ∧ bl.own H ∧ u.own H) ∧ t.own H; rw [own_app u t]; simp only [and_assoc]
  | .blk r b o bl u, t => by show _ ∧ _ ∧ bl.own H ∧ (u.app t).own H ↔ (_ ∧ _ ∧ bl.own H ∧ u.own H) ∧ t.own H; rw [own_app u t]; simp only [and_assoc]
theorem good_app : ∀ s t : AT, (s.app t).good none ↔ s.good none ∧ t.good none
  | .nil, t => by show t.good none ↔ True ∧ t.good none; simp
  | .row r ws u, t => by show _ ∧ (u.app t).good none ↔ (_ ∧ u.good none) ∧ t.good none; rw [good_app u t, and_assoc]
  | .step r b w o p bl u, t => by show _ ∧ _ ∧ (u.app t).good none ↔ (_ ∧ _ ∧ u.good none) ∧ t.good none; rw [good_app u t]; simp only [and_assoc]
  | .blk r b o bl u, t => by show False ↔ False ∧ _; simp
theorem cnt_app (z : Str) : ∀ s t : AT, (s.app t).cnt z = s.cnt z + t.cnt z
  | .nil, t => by show t.cnt z = 0 + t.cnt z; omega
  | .row r ws u, t => cnt_app z u t
  | .step r b w o p bl u, t => by have := cnt_app z u t; show (if w = z then 1 else 0) + bl.cnt z + (u.app t).cnt z = (if w = z then 1 else 0) + bl.cnt z + u.cnt z + t.cnt z; omega
  | .blk r b o bl u, t => by have := cnt_app z u t; show bl.cnt z + (u.app t).cnt z = bl.cnt z + u.cnt z + t.cnt z; omega
theorem nl_app : ∀ s t : AT, (s.app t).nl = s.nl + t.nl
  | .nil, t => by show t.nl = 0 + t.nl; omega
  | .row r ws u, t => by have := nl_app u t; show 1 + (u.app t).nl = 1 + u.nl + t.nl; omega
  | .step r b w o p bl u, t => by have := nl_app u t; show 1 + bl.nl + (u.app t).nl = 1 + bl.nl + u.nl + t.nl; omega
  | .blk r b o bl u, t => by have := nl_app u t; show 2 + bl.nl + (u.app t).nl = 2 + bl.nl + u.nl + t.nl; omega
theorem len_refs : ∀ s : AT, s.refs.length = s.len
  | .nil => rfl
  | .row r _ u => by show u.refs.length + 1 = 1 + u.len; rw [len_refs u]; omega
  | .step r _ _ _ _ _ u => by show u.refs.length + 1 = 1 + u.len; rw [len_refs u]; omega
  | .blk r _ _ _ u => by show u.refs.length + 1 = 1 + u.len; rw [len_refs u]; omega
theorem len_nl : ∀ s : AT, s.len ≤ s.nl
  | .nil => Nat.le_refl _
  | .row r _ u => by have := len_nl u; show 1 + u.len ≤ 1 + u.nl; omega
  | .step r _ _ _ _ bl u => by have := len_nl u; show 1 + u.len ≤ 1 + bl.nl + u.nl; omega
  | .blk r _ _ bl u => by have := len_nl u; show 1 + u.len ≤ 2 + bl.nl + u.nl; omega
theorem app_assoc : ∀ s t u : AT, (s.app t).app u = s.app (t.app u)
  | .nil, _, _ => rfl
  | .row r w s, t, u => congrArg (AT.row r w) (app_assoc s t u)
  | .step r b w o p bl s, t, u => congrArg (AT.step r b w o p bl) (app_assoc s t u)
  | .blk r b o bl s, t, u => congrArg (AT.blk r b o bl) (app_assoc s t u)
/-- one row -/
def one : AT → Prop
  | .row _ _ t => t = .nil
  | .step _ _ _ _ _ _ t => t = .nil
  | .blk _ _ _ _ t => t = .nil
  | .nil => False
theorem app_nil : ∀ s : AT, s.app .nil = s
  | .nil => rfl
  | .row r w s => congrArg (AT.row r w) (app_nil s)
  | .step r b w o p bl s => congrArg (AT.step r b w o p bl) (app_nil s)
  | .blk r b o bl s => congrArg (AT.blk r b o bl) (app_nil s)
theorem cut : ∀ (s : AT) (i : Nat), i ≤ s.len → ∃ p q : AT, s = p.app q ∧ p.len = i
  | s, 0, _ => ⟨.nil, s, rfl, rfl⟩
  | .nil, i + 1, h => by simp [len] at h
  | .row r w s, i + 1, h => by
    obtain ⟨p, q, e, hl⟩ := cut s i (by have : (AT.row r w s).len = 1 + s.len := rfl; omega)
    exact ⟨.row r w p, q, congrArg (AT.row r w) e, by show 1 + p.len = i + 1; omega⟩
  | .step r b w o p' bl s, i + 1, h => by
    obtain ⟨p, q, e, hl⟩ := cut s i (by have : (AT.step r b w o p' bl s).len = 1 + s.len := rfl; omega)
    exact ⟨.step r b w o p' bl p, q, congrArg (AT.step r b w o p' bl) e, by show 1 + p.len = i + 1; omega⟩
  | .blk r b o bl s, i + 1, h => by
    obtain ⟨p, q, e, hl⟩ := cut s i (by have : (AT.blk r b o bl s).len = 1 + s.len := rfl; omega)
    exact ⟨.blk r b o bl p, q, congrArg (AT.blk r b o bl) e, by show 1 + p.len = i + 1; omega⟩
theorem split1 : ∀ q : AT, q ≠ .nil → ∃ e r : AT, q = e.app r ∧ e.one
  | .nil, h => absurd rfl h
  | .row r w s, _ => ⟨.row r w .nil, s, rfl, rfl⟩
  | .step r b w o p bl s, _ => ⟨.step r b w o p bl .nil, s, rfl, rfl⟩
  | .blk r b o bl s, _ => ⟨.blk r b o bl .nil, s, rfl, rfl⟩
theorem len_app : ∀ s t : AT, (s.app t).len = s.len + t.len
  | .nil, t => by show t.len = 0 + t.len; omega
  | .row r ws u, t => by have := len_app u t; show 1 + (u.app t).len = 1 + u.len + t.len; omega
  | .step r b w o p bl u, t => by have := len_app u t; show 1 + (u.app t).len = 1 + u.len + t.len; omega
  | .blk r b o bl u, t => by have := len_app u t; show 1 + (u.app t).len = 1 + u.len + t.len; omega
theorem cut1 {s : AT} {i : Nat} (h : i < s.len) : ∃ p e q : AT, s = p.app (e.app q) ∧ p.len = i ∧ e.one := by
  obtain ⟨p, q, rfl, hl⟩ := cut s i (by omega)
  obtain ⟨e, r, rfl, he⟩ := split1 q (fun z => by rw [z, app_nil] at h; omega)
  exact ⟨p, e, r, rfl, hl, he⟩
theorem own_up {H H' : Hp} : ∀ t : AT, (∀ x ∈ t.adr, ∀ o, H x = some o → H' x = some o) → t.own H → t.own H'
  | .nil, _, _ => trivial
  | .row r ws t, h, ⟨h1, h2⟩ => ⟨h r (List.mem_cons_self ..) _ h1, own_up t (fun x hx => h x (List.mem_cons_of_mem _ hx)) h2⟩
  | .step r b w o p bl t, h, ⟨h1, h2, h3, h4⟩ => ⟨h r (by simp [adr]) _ h1, h b (by simp [adr]) _ h2, own_up bl (fun x hx => h x (by simp [adr, hx])) h3, own_up t (fun x hx => h x (by simp [adr, hx])) h4⟩
  | .blk r b o bl t, h, ⟨h1, h2, h3, h4⟩ => ⟨h r (by simp [adr]) _ h1, h b (by simp [adr]) _ h2, own_up bl (fun x hx => h x (by simp [adr, hx])) h3, own_up t (fun x hx => h x (by simp [adr, hx])) h4⟩
/-- what lies at the addresses are lists -/
theorem own_lst {H : Hp} : ∀ t : AT, t.own H → ∀ x ∈ t.adr, ∃ l, H x = some (.lst l)
  | .nil, _, x, hx => nomatch hx
  | .row r ws t, ⟨h1, h2⟩, x, hx => by
    rcases List.mem_cons.mp (show x ∈ r :: t.adr from hx) with e | e
    · rw [e]; exact ⟨_, h1⟩
    · exact own_lst t h2 x e
  | .step r b w o p bl t, ⟨h1, h2, h3, h4⟩, x, hx => by
    simp only [adr, List.mem_cons, List.mem_append] at hx
    rcases hx with e | e | e | e
    · rw [e]; exact ⟨_, h1⟩
    · rw [e]; exact ⟨_, h2⟩
    · exact own_lst bl h3 x e
    · exact own_lst t h4 x e
  | .blk r b o bl t, ⟨h1, h2, h3, h4⟩, x, hx => by
    simp only [adr, List.mem_cons, List.mem_append] at hx
    rcases hx with e | e | e | e
    · rw [e]; exact ⟨_, h1⟩
    · rw [e]; exact ⟨_, h2⟩
    · exact own_lst bl h3 x e
    · exact own_lst t h4 x e
end AT
/-- t' is t with the rows s at the list c changed into s' -/
inductive Rp (c : Addr) (s s' : AT) : AT → AT → Prop
  | here {p o t} : Rp c s s' (.blk p c o s t) (.blk p c o s' t)
  | blkI {p i o a b t} : Rp c s s' a b → Rp c s s' (.blk p i o a t) (.blk p i o b t)
  | blkR {p i o rs a b} : Rp c s s' a b → Rp c s s' (.blk p i o rs a) (.blk p i o rs b)
  | stepB {r b0 w o p a b t} : Rp c s s' a b → Rp c s s' (.step r b0 w o p a t) (.step r b0 w o p b t)
  | stepR {r b0 w o p bl a b} : Rp c s s' a b → Rp c s s' (.step r b0 w o p bl a) (.step r b0 w o p bl b)
  | rowR {r ws a b} : Rp c s s' a b → Rp c s s' (.row r ws a) (.row r ws b)
theorem Rp.find {c : Addr} : ∀ t : AT, c ∈ t.il → ∃ s : AT, ∀ s', ∃ t', Rp c s s' t t'
  | .nil, h => nomatch h
  | .row r ws t, h => by
    obtain ⟨s, k⟩ := Rp.find t h
    exact ⟨s, fun s' => by obtain ⟨t', h⟩ := k s'; exact ⟨_, .rowR h⟩⟩
  | .step r b w o p bl t, h => by
    rcases List.mem_append.mp (show c ∈ bl.il ++ t.il from h) with h | h
    · obtain ⟨s, k⟩ := Rp.find bl h
      exact ⟨s, fun s' => by obtain ⟨t', h⟩ := k s'; exact ⟨_, .stepB h⟩⟩
    · obtain ⟨s, k⟩ := Rp.find t h
      exact ⟨s, fun s' => by obtain ⟨t', h⟩ := k s'; exact ⟨_, .stepR h⟩⟩
  | .blk p i o rs t, h => by
    rcases List.mem_cons.mp (show c ∈ i :: (rs.il ++ t.il) from h) with h | h
    · subst h
      exact ⟨rs, fun s' => ⟨_, .here⟩⟩
    · rcases List.mem_append.mp h with h | h
      · obtain ⟨s, k⟩ := Rp.find rs h
        exact ⟨s, fun s' => by obtain ⟨t', h⟩ := k s'; exact ⟨_, .blkI h⟩⟩
      · obtain ⟨s, k⟩ := Rp.find t h
        exact ⟨s, fun s' => by obtain ⟨t', h⟩ := k s'; exact ⟨_, .blkR h⟩⟩
theorem Rp.sub {c : Addr} {s s' t t' : AT} (h : Rp c s s' t t') : c ∈ t.adr ∧ (∀ x ∈ s.adr, x ∈ t.adr) ∧ (t.adr.Nodup → c ∉ s.adr) := by
  induction h with
  | @here p o t => exact ⟨by simp [AT.adr], fun x hx => by simp [AT.adr, hx], fun n => by simp only [AT.adr, List.nodup_cons, List.mem_append] at n; exact fun z => n.2.1 (.inl z)⟩
  | @blkI p i o a b t h ih => exact ⟨by simp [AT.adr, ih.1], fun x hx => by simp [AT.adr, ih.2.1 x hx], fun n => ih.2.2 (by simp only [AT.adr, List.nodup_cons, List.nodup_append] at n; exact n.2.2.1)⟩
  | @blkR p i o rs a b h ih => exact ⟨by simp [AT.adr, ih.1], fun x hx => by simp [AT.adr, ih.2.1 x hx], fun n => ih.2.2 (by simp only [AT.adr, List.nodup_cons, List.nodup_append] at n; exact n.2.2.2.1)⟩
  | @stepB r b0 w o p a b t h ih => exact ⟨by simp [AT.adr, ih.1], fun x hx => by simp [AT.adr, ih.2.1 x hx], fun n => ih.2.2 (by simp only [AT.adr, List.nodup_cons, List.nodup_append] at n; exact n.2.2.1)⟩
  | @stepR r b0 w o p bl a b h ih => exact ⟨by simp [AT.adr, ih.1], fun x hx => by simp [AT.adr, ih.2.1 x hx], fun n => ih.2.2 (by simp only [AT.adr, List.nodup_cons, List.nodup_append] at n; exact n.2.2.2.1)⟩
  | @rowR r ws a b h ih => exact ⟨by simp [AT.adr, ih.1], fun x hx => by simp [AT.adr, ih.2.1 x hx], fun n => ih.2.2 (by simp only [AT.adr, List.nodup_cons] at n; exact n.2)⟩
theorem Rp.read {c : Addr} {s s' t t' : AT} {H : Hp} (h : Rp c s s' t t') : t.own H → H c = some (.lst s.refs) ∧ s.own H := by
  induction h with
  | here => exact fun k => ⟨k.2.1, k.2.2.1⟩
  | blkI h ih => exact fun k => ih k.2.2.1
  | blkR h ih => exact fun k => ih k.2.2.2
  | stepB h ih => exact fun k => ih k.2.2.1
  | stepR h ih => exact fun k => ih k.2.2.2
  | rowR h ih => exact fun k => ih k.2
theorem Rp.refs {c : Addr} {s s' t t' : AT} (h : Rp c s s' t t') : t'.refs = t.refs := by
  induction h with
  | here => rfl
  | blkI h ih => rfl
  | blkR h ih => exact congrArg (_ :: ·) ih
  | stepB h ih => rfl
  | stepR h ih => exact congrArg (_ :: ·) ih
  | rowR h ih => exact congrArg (_ :: ·) ih
theorem Rp.write {c : Addr} {s s' t t' : AT} {H H' : Hp} (h : Rp c s s' t t') : t.own H → t.adr.Nodup → (∀ x ∈ t.adr, x ≠ c → x ∉ s.adr → ∀ o, H x = some o → H' x = some o) → H' c = some (.lst s'.refs) → s'.own H' → t'.own H' := by
  induction h with
  | @here p o t =>
    intro k n f hc hs
    simp only [AT.adr, List.nodup_cons, List.nodup_append, List.mem_append, List.mem_cons, not_or] at n
    refine ⟨f p (by simp [AT.adr]) (fun z => n.1.1 z) (fun z => n.1.2.1 z) _ k.1, hc, hs, AT.own_up t (fun x hx o' ho => f x (by simp [AT.adr, hx]) (fun z => n.2.1.2 (by rw [← z]; exact hx)) (fun z => n.2.2.2.2 x z x hx rfl) o' ho) k.2.2.2⟩
  | @blkI p i o a b t h ih =>
    intro k n f hc hs
    have hsub := Rp.sub h
    simp only [AT.adr, List.nodup_cons, List.nodup_append, List.mem_append, List.mem_cons, not_or] at n
    refine ⟨f p (by simp [AT.adr]) (fun z => n.1.2.1 (by rw [z]; exact hsub.1)) (fun z => n.1.2.1 (hsub.2.1 p z)) _ k.1, ?_, ih k.2.2.1 n.2.2.1 (fun x hx h1 h2 o' ho => f x (by simp [AT.adr, hx]) h1 h2 o' ho) hc hs, AT.own_up t (fun x hx o' ho => f x (by simp [AT.adr, hx]) (fun z => n.2.2.2.2 c hsub.1 x hx z.symm) (fun z => n.2.2.2.2 x (hsub.2.1 x z) x hx rfl) o' ho) k.2.2.2⟩
    rw [Rp.refs h]
    exact f i (by simp [AT.adr]) (fun z => n.2.1.1 (by rw [z]; exact hsub.1)) (fun z => n.2.1.1 (hsub.2.1 i z)) _ k.2.1
  | @blkR p i o rs a b h ih =>
    intro k n f hc hs
    have hsub := Rp.sub h
    simp only [AT.adr, List.nodup_cons, List.nodup_append, List.mem_append, List.mem_cons, not_or] at n
    exact ⟨f p (by simp [AT.adr]) (fun z => n.1.2.2 (by rw [z]; exact hsub.1)) (fun z => n.1.2.2 (hsub.2.1 p z)) _ k.1, f i (by simp [AT.adr]) (fun z => n.2.1.2 (by rw [z]; exact hsub.1)) (fun z => n.2.1.2 (hsub.2.1 i z)) _ k.2.1, AT.own_up rs (fun x hx o' ho => f x (by simp [AT.adr, hx]) (fun z => n.2.2.2.2 x hx c hsub.1 z) (fun z => n.2.2.2.2 x hx x (hsub.2.1 x z) rfl) o' ho) k.2.2.1, ih k.2.2.2 n.2.2.2.1 (fun x hx h1 h2 o' ho => f x (by simp [AT.adr, hx]) h1 h2 o' ho) hc hs⟩
  | @stepB p i w o pl a b t h ih =>
    intro k n f hc hs
    have hsub := Rp.sub h
    simp only [AT.adr, List.nodup_cons, List.nodup_append, List.mem_append, List.mem_cons, not_or] at n
    refine ⟨f p (by simp [AT.adr]) (fun z => n.1.2.1 (by rw [z]; exact hsub.1)) (fun z => n.1.2.1 (hsub.2.1 p z)) _ k.1, ?_, ih k.2.2.1 n.2.2.1 (fun x hx h1 h2 o' ho => f x (by simp [AT.adr, hx]) h1 h2 o' ho) hc hs, AT.own_up t (fun x hx o' ho => f x (by simp [AT.adr, hx]) (fun z => n.2.2.2.2 c hsub.1 x hx z.symm) (fun z => n.2.2.2.2 x (hsub.2.1 x z) x hx rfl) o' ho) k.2.2.2⟩
    rw [Rp.refs h]
    exact f i (by simp [AT.adr]) (fun z => n.2.1.1 (by rw [z]; exact hsub.1)) (fun z => n.2.1.1 (hsub.2.1 i z)) _ k.2.1
  | @stepR p i w o pl rs a b h ih =>
    intro k n f hc hs
    have hsub := Rp.sub h
    simp only [AT.adr, List.nodup_cons, List.nodup_append, List.mem_append, List.mem_cons, not_or] at n
    exact ⟨f p (by simp [AT.adr]) (fun z => n.1.2.2 (by rw [z]; exact hsub.1)) (fun z => n.1.2.2 (hsub.2.1 p z)) _ k.1, f i (by simp [AT.adr]) (fun z => n.2.1.2 (by rw [z]; exact hsub.1)) (fun z => n.2.1.2 (hsub.2.1 i z)) _ k.2.1, AT.own_up rs (fun x hx o' ho => f x (by simp [AT.adr, hx]) (fun z => n.2.2.2.2 x hx c hsub.1 z) (fun z => n.2.2.2.2 x hx x (hsub.2.1 x z) rfl) o' ho) k.2.2.1, ih k.2.2.2 n.2.2.2.1 (fun x hx h1 h2 o' ho => f x (by simp [AT.adr, hx]) h1 h2 o' ho) hc hs⟩
  | @rowR p ws a b h ih =>
    intro k n f hc hs
    have hsub := Rp.sub h
    simp only [AT.adr, List.nodup_cons] at n
    exact ⟨f p (by simp [AT.adr]) (fun z => n.1 (by rw [z]; exact hsub.1)) (fun z => n.1 (hsub.2.1 p z)) _ k.1, ih k.2 n.2 (fun x hx h1 h2 o' ho => f x (by simp [AT.adr, hx]) h1 h2 o' ho) hc hs⟩
theorem Rp.mem {c : Addr} {s s' t t' : AT} (h : Rp c s s' t t') : ∀ x ∈ t'.adr, x ∈ t.adr ∨ x ∈ s'.adr := by
  induction h with
  | here => intro x hx; simp only [AT.adr, List.mem_cons, List.mem_append] at hx ⊢; rcases hx with h | h | h | h <;> simp [h]
  | blkI h ih =>
    intro x hx
    simp only [AT.adr, List.mem_cons, List.mem_append] at hx ⊢
    rcases hx with h | h | h | h
    · simp [h]
    · simp [h]
    · rcases ih x h with k | k <;> simp [k]
    · simp [h]
  | blkR h ih =>
    intro x hx
    simp only [AT.adr, List.mem_cons, List.mem_append] at hx ⊢
    rcases hx with h | h | h | h
    · simp [h]
    · simp [h]
    · simp [h]
    · rcases ih x h with k | k <;> simp [k]
  | stepB h ih =>
    intro x hx
    simp only [AT.adr, List.mem_cons, List.mem_append] at hx ⊢
    rcases hx with h | h | h | h
    · simp [h]
    · simp [h]
    · rcases ih x h with k | k <;> simp [k]
    · simp [h]
  | stepR h ih =>
    intro x hx
    simp only [AT.adr, List.mem_cons, List.mem_append] at hx ⊢
    rcases hx with h | h | h | h
    · simp [h]
    · simp [h]
    · simp [h]
    · rcases ih x h with k | k <;> simp [k]
  | rowR h ih =>
    intro x hx
    simp only [AT.adr, List.mem_cons] at hx ⊢
    rcases hx with h | h
    · simp [h]
    · rcases ih x h with k | k <;> simp [k]
theorem Rp.nodup {c : Addr} {s s' t t' : AT} (h : Rp c s s' t t') : t.adr.Nodup → s'.adr.Nodup → (∀ x ∈ s'.adr, x ∈ s.adr ∨ x ∉ t.adr) → t'.adr.Nodup := by
  induction h with
  | @here p o t =>
    intro n m f
    simp only [AT.adr, List.nodup_cons, List.nodup_append, List.mem_append, List.mem_cons, not_or] at n f ⊢
    refine ⟨⟨n.1.1, fun z => ?_, n.1.2.2⟩, ⟨fun z => ?_, n.2.1.2⟩, m, n.2.2.2.1, fun x hx y hy e => ?_⟩
    · rcases f p z with k | k
      · exact n.1.2.1 k
      · exact k.1 rfl
    · rcases f c z with k | k
      · exact n.2.1.1 k
      · exact k.2.1 rfl
    · subst e
      rcases f x hx with k | k
      · exact n.2.2.2.2 x k x hy rfl
      · exact k.2.2.2 hy
  | @blkI p i o a b t h ih =>
    intro n m f
    have hm := Rp.mem h
    have hsub := Rp.sub h
    simp only [AT.adr, List.nodup_cons, List.nodup_append, List.mem_append, List.mem_cons, not_or] at n f ⊢
    refine ⟨⟨n.1.1, fun z => ?_, n.1.2.2⟩, ⟨fun z => ?_, n.2.1.2⟩, ih n.2.2.1 m (fun x hx => (f x hx).imp id (fun k => k.2.2.1)), n.2.2.2.1, fun x hx y hy e => ?_⟩
    · rcases hm p z with k | k
      · exact n.1.2.1 k
      · rcases f p k with k | k
        · exact n.1.2.1 (hsub.2.1 p k)
        · exact k.1 rfl
    · rcases hm i z with k | k
      · exact n.2.1.1 k
      · rcases f i k with k | k
        · exact n.2.1.1 (hsub.2.1 i k)
        · exact k.2.1 rfl
    · subst e
      rcases hm x hx with k | k
      · exact n.2.2.2.2 x k x hy rfl
      · rcases f x k with k | k
        · exact n.2.2.2.2 x (hsub.2.1 x k) x hy rfl
        · exact k.2.2.2 hy
  | @stepB p i w o pl a b t h ih =>
    intro n m f
    have hm := Rp.mem h
    have hsub := Rp.sub h
    simp only [AT.adr, List.nodup_cons, List.nodup_append, List.mem_append, List.mem_cons, not_or] at n f ⊢
    refine ⟨⟨n.1.1, fun z => ?_, n.1.2.2⟩, ⟨fun z => ?_, n.2.1.2⟩, ih n.2.2.1 m (fun x hx => (f x hx).imp id (fun k => k.2.2.1)), n.2.2.2.1, fun x hx y hy e => ?_⟩
    · rcases hm p z with k | k
      · exact n.1.2.1 k
      · rcases f p k with k | k
        · exact n.1.2.1 (hsub.2.1 p k)
        · exact k.1 rfl
    · rcases hm i z with k | k
      · exact n.2.1.1 k
      · rcases f i k with k | k
        · exact n.2.1.1 (hsub.2.1 i k)
        · exact k.2.1 rfl
    · subst e
      rcases hm x hx with k | k
      · exact n.2.2.2.2 x k x hy rfl
      · rcases f x k with k | k
        · exact n.2.2.2.2 x (hsub.2.1 x k) x hy rfl
        · exact k.2.2.2 hy
  | @blkR p i o rs a b h ih =>
    intro n m f
    have hm := Rp.mem h
    have hsub := Rp.sub h
    simp only [AT.adr, List.nodup_cons, List.nodup_append, List.mem_append, List.mem_cons, not_or] at n f ⊢
    refine ⟨⟨n.1.1, n.1.2.1, fun z => ?_⟩, ⟨n.2.1.1, fun z => ?_⟩, n.2.2.1, ih n.2.2.2.1 m (fun x hx => (f x hx).imp id (fun k => k.2.2.2)), fun x hx y hy e => ?_⟩
    · rcases hm p z with k | k
      · exact n.1.2.2 k
      · rcases f p k with k | k
        · exact n.1.2.2 (hsub.2.1 p k)
        · exact k.1 rfl
    · rcases hm i z with k | k
      · exact n.2.1.2 k
      · rcases f i k with k | k
        · exact n.2.1.2 (hsub.2.1 i k)
        · exact k.2.1 rfl
    · subst e
      rcases hm x hy with k | k
      · exact n.2.2.2.2 x hx x k rfl
      · rcases f x k with k | k
        · exact n.2.2.2.2 x hx x (hsub.2.1 x k) rfl
        · exact k.2.2.1 hx
  | @stepR p i w o pl rs a b h ih =>
    intro n m f
    have hm := Rp.mem h
    have hsub := Rp.sub h
    simp only [AT.adr, List.nodup_cons, List.nodup_append, List.mem_append, List.mem_cons, not_or] at n f ⊢
    refine ⟨⟨n.1.1, n.1.2.1, fun z => ?_⟩, ⟨n.2.1.1, fun z => ?_⟩, n.2.2.1, ih n.2.2.2.1 m (fun x hx => (f x hx).imp id (fun k => k.2.2.2)), fun x hx y hy e => ?_⟩
    · rcases hm p z with k | k
      · exact n.1.2.2 k
      · rcases f p k with k | k
        · exact n.1.2.2 (hsub.2.1 p k)
        · exact k.1 rfl
    · rcases hm i z with k | k
      · exact n.2.1.2 k
      · rcases f i k with k | k
        · exact n.2.1.2 (hsub.2.1 i k)
        · exact k.2.1 rfl
    · subst e
      rcases hm x hy with k | k
      · exact n.2.2.2.2 x hx x k rfl
      · rcases f x k with k | k
        · exact n.2.2.2.2 x hx x (hsub.2.1 x k) rfl
        · exact k.2.2.1 hx
  | @rowR p ws a b h ih =>
    intro n m f
    have hm := Rp.mem h
    have hsub := Rp.sub h
    simp only [AT.adr, List.nodup_cons, List.mem_cons, not_or] at n f ⊢
    refine ⟨fun z => ?_, ih n.2 m (fun x hx => (f x hx).imp id (fun k => k.2))⟩
    rcases hm p z with k | k
    · exact n.1 k
    · rcases f p k with k | k
      · exact n.1 (hsub.2.1 p k)
      · exact k.1 rfl
theorem Rp.os {c : Addr} {s s' t t' : AT} (h : Rp c s s' t t') : t'.os = t.os := by
  induction h with
  | blkR h ih => exact congrArg (_ :: ·) ih
  | _ => rfl
theorem Rp.good {c : Addr} {s s' t t' : AT} (h : Rp c s s' t t') : (∀ m, t.good m → s.good none) ∧ (s'.good none → ∀ m, t.good m → t'.good m) := by
  induction h with
  | here => exact ⟨fun m k => by cases m with | none => exact k.elim | some w => exact k.2.2.1, fun hs m k => by cases m with | none => exact k.elim | some w => exact ⟨k.1, k.2.1, hs, k.2.2.2⟩⟩
  | blkI h ih => exact ⟨fun m k => by cases m with | none => exact k.elim | some w => exact ih.1 _ k.2.2.1, fun hs m k => by cases m with | none => exact k.elim | some w => exact ⟨k.1, k.2.1, ih.2 hs _ k.2.2.1, k.2.2.2⟩⟩
  | blkR h ih => exact ⟨fun m k => by cases m with | none => exact k.elim | some w => exact ih.1 _ k.2.2.2, fun hs m k => by cases m with | none => exact k.elim | some w => exact ⟨k.1, by rw [Rp.os h]; exact k.2.1, k.2.2.1, ih.2 hs _ k.2.2.2⟩⟩
  | stepB h ih => exact ⟨fun m k => by cases m with | none => exact ih.1 _ k.2.1 | some w => exact k.elim, fun hs m k => by cases m with | none => exact ⟨k.1, ih.2 hs _ k.2.1, k.2.2⟩ | some w => exact k.elim⟩
  | stepR h ih => exact ⟨fun m k => by cases m with | none => exact ih.1 _ k.2.2 | some w => exact k.elim, fun hs m k => by cases m with | none => exact ⟨k.1, k.2.1, ih.2 hs _ k.2.2⟩ | some w => exact k.elim⟩
  | rowR h ih => exact ⟨fun m k => by cases m with | none => exact ih.1 _ k.2 | some w => exact k.elim, fun hs m k => by cases m with | none => exact ⟨k.1, ih.2 hs _ k.2⟩ | some w => exact k.elim⟩
theorem Rp.meas {c : Addr} {s s' t t' : AT} (h : Rp c s s' t t') : (∀ z, t'.cnt z + s.cnt z = t.cnt z + s'.cnt z) ∧ t'.nl + s.nl = t.nl + s'.nl := by
  induction h with
  | here => exact ⟨fun z => by simp only [AT.cnt]; omega, by simp only [AT.nl]; omega⟩
  | blkI h ih => exact ⟨fun z => by have := ih.1 z; simp only [AT.cnt]; omega, by have := ih.2; simp only [AT.nl]; omega⟩
  | blkR h ih => exact ⟨fun z => by have := ih.1 z; simp only [AT.cnt]; omega, by have := ih.2; simp only [AT.nl]; omega⟩
  | stepB h ih => exact ⟨fun z => by have := ih.1 z; simp only [AT.cnt]; omega, by have := ih.2; simp only [AT.nl]; omega⟩
  | stepR h ih => exact ⟨fun z => by have := ih.1 z; simp only [AT.cnt]; omega, by have := ih.2; simp only [AT.nl]; omega⟩
  | rowR h ih => exact ⟨fun z => by have := ih.1 z; simp only [AT.cnt]; omega, by have := ih.2; simp only [AT.nl]; omega⟩
end K59


set_option Elab.async false
set_option linter.all false
set_option maxRecDepth 100000
set_option maxHeartbeats 4000000
/-! what is read of the lines of a tree -/
namespace K59
open PySem PySem.Spec PyProof.Rows L2
def rowT (ws : List Str) : Str := if ws.getD 0 "" = "copy" then (ws.getD 1 "" ++ (" = " : Str)) ++ ws.getD 2 "" else Str.join spS ws
def stepT (w : Str) (o p : Option Str) : Str := Str.join spS ([w] ++ (o.toList ++ p.toList))
def onT (o : Str) : Str := ("on " : Str) ++ o
def endL : Str := "end"
def AT.wl : AT → List Str
  | .nil => []
  | .row _ ws t => rowT ws :: t.wl
  | .step _ _ w o p bl t => stepT w o p :: (bl.wl ++ t.wl)
  | .blk _ _ o rs t => onT o :: (rs.wl ++ endL :: t.wl)
theorem wl_app : ∀ s t : AT, (s.app t).wl = s.wl ++ t.wl
  | .nil, _ => rfl
  | .row r _ u, t => congrArg (_ :: ·) (wl_app u t)
  | .step r b w o p bl u, t => by show stepT w o p :: (bl.wl ++ (u.app t).wl) = _; rw [wl_app u t, ← List.append_assoc]; rfl
  | .blk r b o rs u, t => by show onT o :: (rs.wl ++ endL :: (u.app t).wl) = onT o :: (rs.wl ++ endL :: u.wl) ++ t.wl; rw [wl_app u t]; simp
theorem wl_nl : ∀ t : AT, t.wl.length = t.nl
  | .nil => rfl
  | .row r _ u => by show u.wl.length + 1 = 1 + u.nl; rw [wl_nl u]; omega
  | .step r b w o p bl u => by show (bl.wl ++ u.wl).length + 1 = 1 + bl.nl + u.nl; rw [List.length_append, wl_nl u, wl_nl bl]; omega
  | .blk r b o rs u => by show (rs.wl ++ endL :: u.wl).length + 1 = 2 + rs.nl + u.nl; rw [List.length_append, List.length_cons, wl_nl u, wl_nl rs]; omega
def pvR (ws : List Str) (n : Nat) : List V := (plainRow (words (rowT ws)) n).getD []
def AT.tr : AT → Nat → PT
  | .nil, _ => .nil
  | .row _ ws t, n => .plain (pvR ws (n + 1)) (t.tr (n + 1))
  | .step _ _ w o p bl t, n => .step (n + 1) w o p (bl.tr (n + 1)) (t.tr (n + 1 + bl.nl))
  | .blk _ _ o rs t, n => .blk o (n + 1) (rs.tr (n + 1)) (t.tr (n + 2 + rs.nl))
def nlF (z : Str) : Bool := z.cps.all (fun c => decide (c ≠ 10))
theorem lnB {z : Str} (h : (decide (z.length ≤ 100000) && (words z).all PyData.strOk) = true) : LnOk z := by
  simp only [Bool.and_eq_true, decide_eq_true_eq] at h
  exact h
/-- the lines of rows -/
structure RowL (z : Str) : Prop where
  ne : words z ≠ endW
  st : stepOf (words z) = none
  pl : ∀ n, ∃ vs, plainRow (words z) n = some vs
  bg : ∀ r, begins (z :: r) = false
  ok : LnOk z
  nn : nlF z = true
theorem pl_any (ws : List Str) (n : Nat) : (plainRow ws n).isSome = (plainRow ws 0).isSome := by
  unfold plainRow
  repeat' split
  all_goals rfl
theorem pl_none {ws : List Str} (h : (plainRow ws 0).isSome = false) (n : Nat) : plainRow ws n = none := by
  have := pl_any ws n
  rw [h] at this
  cases e : plainRow ws n with
  | none => rfl
  | some v => rw [e] at this; cases this
theorem rowL {ws : List Str} (h : ws ∈ plS) : RowL (rowT ws) := by
  simp only [plS, List.mem_cons, List.not_mem_nil, or_false] at h
  rcases h with rfl | rfl | rfl | rfl | rfl | rfl | rfl | rfl | rfl <;>
    exact ⟨by decide +kernel, by decide +kernel, fun n => Option.isSome_iff_exists.mp (by rw [pl_any]; decide +kernel), fun r => by show (decide _ && decide _) = false; decide +kernel, lnB (by decide +kernel), by decide +kernel⟩
structure StepL (z : Str) (w : Str) (o p : Option Str) : Prop where
  ne : words z ≠ endW
  st : stepOf (words z) = some (w, o, p)
  fw : (words z).getD 0 "" = w
  bg : ∀ r, begins (z :: r) = false
  ok : LnOk z
  nn : nlF z = true
theorem stepL {w : Str} {o p : Option Str} (h : stOk w o p) : StepL (stepT w o p) w o p := by
  simp only [stOk, idN, plN, List.mem_cons, List.not_mem_nil, or_false] at h
  rcases h with ⟨rfl, ⟨x, (rfl | rfl), rfl⟩, rfl⟩ | ⟨(rfl | rfl), ⟨x, (rfl | rfl), rfl⟩, y, (rfl | rfl), rfl⟩ | ⟨(rfl | rfl | rfl | rfl), rfl, y, (rfl | rfl), rfl⟩ <;>
    exact ⟨by decide +kernel, by decide +kernel, by decide +kernel, fun r => by show (decide _ && decide _) = false; decide +kernel, lnB (by decide +kernel), by decide +kernel⟩
def allO : List Str := ["there", "none", "held", "stale", "laid", "full", "given", "out", "freed", "unlent", "struck", "bare", "stretched"]
theorem outs_all {w o : Str} (h : o ∈ outs w) : o ∈ allO := by
  unfold outs at h
  repeat' split at h
  all_goals (simp only [List.mem_cons, List.not_mem_nil, or_false] at h)
  all_goals (rcases h with rfl | rfl | rfl <;> decide +kernel)
structure OnL (z o : Str) : Prop where
  bg : ∀ r, begins (z :: r) = true
  o : (words z).getD 1 "" = o
  ok : LnOk z
  nn : nlF z = true
theorem onL {o : Str} (h : o ∈ allO) : OnL (onT o) o := by
  simp only [allO, List.mem_cons, List.not_mem_nil, or_false] at h
  rcases h with rfl | rfl | rfl | rfl | rfl | rfl | rfl | rfl | rfl | rfl | rfl | rfl | rfl <;>
    exact ⟨fun r => by show (decide _ && decide _) = true; decide +kernel, by decide +kernel, lnB (by decide +kernel), by decide +kernel⟩
theorem endW_end : words endL = endW := by decide +kernel
theorem end_bg (r : List Str) : begins (endL :: r) = false := by show (decide _ && decide _) = false; decide +kernel
theorem pvR_some {ws : List Str} (h : ws ∈ plS) (n : Nat) : plainRow (words (rowT ws)) n = some (pvR ws n) := by
  obtain ⟨vs, e⟩ := (rowL h).pl n
  unfold pvR
  rw [e]
  rfl
theorem bg_wl {tail : List Str} (ht : begins tail = false) : ∀ t : AT, t.good none → begins (t.wl ++ tail) = false
  | .nil, _ => ht
  | .row _ ws t, h => (rowL h.1).bg _
  | .step _ _ w o p bl t, h => (stepL h.1).bg _
  | .blk _ _ _ _ _, h => h.elim
theorem pre_id (R : Res) : R.pre (fun u => u) = R := by cases R <;> rfl
theorem tr_rd : ∀ t : AT, (t.good none → ∀ i tail n R, begins tail = false → Rd (.rows i) tail (n + t.nl) R → Rd (.rows i) (t.wl ++ tail) n (R.pre (t.tr n).app)) ∧
    (∀ w, t.good (some w) → ∀ seen tail n R, (∀ o ∈ t.os, o ∉ seen) → Rd (.blocks w (seen ++ t.os)) tail (n + t.nl) R → Rd (.blocks w seen) (t.wl ++ tail) n (R.pre (t.tr n).app))
  | .nil => ⟨fun _ i tail n R _ h => by rw [show R.pre (AT.tr .nil n).app = R from pre_id R]; exact h, fun w _ seen tail n R _ h => by rw [show R.pre (AT.tr .nil n).app = R from pre_id R]; rw [show seen ++ AT.os .nil = seen from List.append_nil _] at h; exact h⟩
  | .row r ws t => ⟨fun g i tail n R hb h => by
      have h1 := (tr_rd t).1 g.2 i tail (n + 1) R hb (by rw [show n + 1 + t.nl = n + (AT.row r ws t).nl by show _ = n + (1 + t.nl); omega]; exact h)
      have h2 := Rd.plain (i := i) (t := rowT ws) (fun z => (rowL g.1).ne z.2) (rowL g.1).st (pvR_some g.1 (n + 1)) h1
      rw [pre_pre] at h2
      exact h2, fun w g => g.elim⟩
  | .step r b w o p bl t => ⟨fun g i tail n R hb h => by
      have h1 := (tr_rd t).1 g.2.2 i tail (n + 1 + bl.nl) R hb (by rw [show n + 1 + bl.nl + t.nl = n + (AT.step r b w o p bl t).nl by show _ = n + (1 + bl.nl + t.nl); omega]; exact h)
      have h3 := (tr_rd bl).2 w g.2.1 [] (t.wl ++ tail) (n + 1) (.ok .nil (t.wl ++ tail) (n + 1 + bl.nl)) (fun _ _ z => nomatch z) (.noB (bg_wl hb t g.2.2))
      have h2 := Rd.step (i := i) (t := stepT w o p) (fun z => (stepL g.1).ne z.2) (stepL g.1).st h3 h1
      rw [pre_pre] at h2
      show Rd _ (stepT w o p :: (bl.wl ++ t.wl) ++ tail) n _
      rw [List.cons_append, List.append_assoc]
      have e : (bl.tr (n + 1)).app .nil = bl.tr (n + 1) := papp_nil _
      rw [e] at h2
      exact h2, fun w g => g.elim⟩
  | .blk r b o rs t => ⟨fun g => g.elim, fun w g seen tail n R hs h => by
      have ho := onL (outs_all g.1)
      have h1 := (tr_rd t).2 w g.2.2.2 (seen ++ [o]) tail (n + 2 + rs.nl) R (fun x hx z => by
        rcases List.mem_append.mp z with z | z
        · exact hs x (List.mem_cons_of_mem _ hx) z
        · rw [List.mem_singleton] at z
          rw [z] at hx
          exact g.2.1 hx) (by rw [show n + 2 + rs.nl + t.nl = n + (AT.blk r b o rs t).nl by show _ = n + (2 + rs.nl + t.nl); omega, List.append_assoc]; exact h)
      have h3 := (tr_rd rs).1 g.2.2.1 true (endL :: (t.wl ++ tail)) (n + 1) (.ok .nil (endL :: (t.wl ++ tail)) (n + 1 + rs.nl)) (end_bg _) (.fin endW_end)
      have e : (rs.tr (n + 1)).app .nil = rs.tr (n + 1) := papp_nil _
      have h4 : Rd (.rows true) (rs.wl ++ endL :: (t.wl ++ tail)) (n + 1) (.ok (rs.tr (n + 1)) (endL :: (t.wl ++ tail)) (n + 1 + rs.nl)) := by rw [← e]; exact h3
      have h2 := Rd.blk (w := w) (seen := seen) (t := onT o) (ho.bg _) (by
        rw [ho.o]
        rintro (z | z)
        · exact z g.1
        · exact hs o (List.mem_cons_self ..) z) h4 (by rw [ho.o, show n + 1 + rs.nl + 1 = n + 2 + rs.nl by omega]; exact h1)
      rw [pre_pre, ho.o] at h2
      show Rd _ (onT o :: (rs.wl ++ endL :: t.wl) ++ tail) n _
      rw [List.cons_append, List.append_assoc, List.cons_append]
      exact h2⟩
where
  papp_nil : ∀ t : PT, t.app .nil = t
    | .nil => rfl
    | .plain v r => congrArg (PT.plain v) (papp_nil r)
    | .step l w o p b r => congrArg (PT.step l w o p b) (papp_nil r)
    | .blk o l rs r => congrArg (PT.blk o l rs) (papp_nil r)
end K59


set_option Elab.async false
set_option linter.all false
set_option maxRecDepth 100000
set_option maxHeartbeats 4000000
namespace K59
open PySem PySem.Spec PyProof.Rows L2
def AT.st : AT → Nat
  | .nil => 0
  | .row _ _ t => t.st
  | .step _ _ _ _ _ bl t => 1 + bl.st + t.st
  | .blk _ _ _ rs t => rs.st + t.st
def PT.cnt (z : Str) : PT → Nat
  | .nil => 0
  | .plain _ t => t.cnt z
  | .step _ w _ _ b t => (if w = z then 1 else 0) + b.cnt z + t.cnt z
  | .blk _ _ rs t => rs.cnt z + t.cnt z
theorem steps_tr : ∀ (t : AT) (n : Nat), (t.tr n).steps = t.st
  | .nil, _ => rfl
  | .row _ _ t, n => steps_tr t (n + 1)
  | .step _ _ _ _ _ bl t, n => by show 1 + (bl.tr _).steps + (t.tr _).steps = 1 + bl.st + t.st; rw [steps_tr bl, steps_tr t]
  | .blk _ _ _ rs t, n => by show (rs.tr _).steps + (t.tr _).steps = rs.st + t.st; rw [steps_tr rs, steps_tr t]
theorem cnt_tr (z : Str) : ∀ (t : AT) (n : Nat), (t.tr n).cnt z = t.cnt z
  | .nil, _ => rfl
  | .row _ _ t, n => cnt_tr z t (n + 1)
  | .step _ _ w _ _ bl t, n => by show (if w = z then 1 else 0) + (bl.tr _).cnt z + (t.tr _).cnt z = (if w = z then 1 else 0) + bl.cnt z + t.cnt z; rw [cnt_tr z bl, cnt_tr z t]
  | .blk _ _ _ rs t, n => by show (rs.tr _).cnt z + (t.tr _).cnt z = rs.cnt z + t.cnt z; rw [cnt_tr z rs, cnt_tr z t]
def fc (z : Str) (m : List (Str × Nat)) : Nat := (m.filter fun x => decide (x.1 = z)).length
theorem fc_app (z : Str) (a b : List (Str × Nat)) : fc z (a ++ b) = fc z a + fc z b := by unfold fc; rw [List.filter_append, List.length_append]
theorem fc_cons (z w : Str) (l : Nat) (b : List (Str × Nat)) : fc z ((w, l) :: b) = (if w = z then 1 else 0) + fc z b := by
  unfold fc
  rw [List.filter_cons]
  by_cases e : w = z
  · rw [if_pos (by simp [e]), if_pos e, List.length_cons]; omega
  · rw [if_neg (by simp [e]), if_neg e]; omega
theorem wz_fc (z : Str) : ∀ (t : PT), (∀ ws N, (∀ x ∈ ws, fc z x.1 ≤ N) → ∀ x ∈ t.wz none ws, fc z x.1 ≤ N + t.cnt z) ∧ (∀ oc, ∀ x ∈ t.wz (some oc) [], fc z x.1 ≤ t.cnt z)
  | .nil => ⟨fun ws n h x hx => h x hx, fun oc x hx => by
      have h1 : x ∈ ([([], true)] : List Wy) := hx
      rw [List.mem_singleton] at h1
      rw [h1]; exact Nat.zero_le _⟩
  | .plain vs r => ⟨fun ws n h => (wz_fc z r).1 _ n (fun x hx => by
      rw [List.mem_flatMap] at hx
      obtain ⟨y, hy, hx⟩ := hx
      rw [List.mem_singleton] at hx
      rw [hx]; exact h y hy), fun oc x hx => nomatch hx⟩
  | .step l w o p b r => ⟨fun ws n h => by
      have h9 := (wz_fc z r).1 (ws.flatMap fun x => if x.2 then (outs w).flatMap fun oc => (b.wz (some oc) []).map fun y => (x.1 ++ (w, l) :: y.1, y.2) else [(x.1, false)]) (n + (if w = z then 1 else 0) + b.cnt z) (fun x hx => by
        rw [List.mem_flatMap] at hx
        obtain ⟨y, hy, hx⟩ := hx
        have hyn := h y hy
        split at hx
        · rw [List.mem_flatMap] at hx
          obtain ⟨oc, _, hx⟩ := hx
          rw [List.mem_map] at hx
          obtain ⟨u, hu, rfl⟩ := hx
          have := (wz_fc z b).2 oc u hu
          show fc z (y.1 ++ (w, l) :: u.1) ≤ _
          rw [fc_app, fc_cons]
          omega
        · rw [List.mem_singleton] at hx
          rw [hx]
          show fc z y.1 ≤ _
          omega)
      intro x hx
      have := h9 x hx
      show _ ≤ n + ((if w = z then 1 else 0) + b.cnt z + r.cnt z)
      omega, fun oc x hx => nomatch hx⟩
  | .blk o l rs r => ⟨fun ws n h x hx => by
      have := h x hx
      omega, fun oc x hx => by
      have h1 : x ∈ (if o = oc then rs.wz none [([], true)] else r.wz (some oc) []) := hx
      show _ ≤ rs.cnt z + r.cnt z
      split at h1
      · have := (wz_fc z rs).1 [([], true)] 0 (fun y hy => by rw [List.mem_singleton] at hy; rw [hy]; exact Nat.le_refl _) x h1
        omega
      · have := (wz_fc z r).2 oc x h1
        omega⟩
theorem unfit_nil : ∀ t : PT, t.cnt "lay" = 0 → t.cnt "stretch" = 0 → t.unfit = []
  | .nil, _, _ => rfl
  | .plain _ r, h, k => unfit_nil r h k
  | .step l w _ _ b r, h, k => by
    have h' : (if w = ("lay" : Str) then 1 else 0) + b.cnt "lay" + r.cnt "lay" = 0 := h
    have k' : (if w = ("stretch" : Str) then 1 else 0) + b.cnt "stretch" + r.cnt "stretch" = 0 := k
    show (if w ∈ (["lay", "stretch"] : List Str) then [l] else []) ++ (b.unfit ++ r.unfit) = []
    rw [unfit_nil b (by omega) (by omega), unfit_nil r (by omega) (by omega), if_neg]
    · rfl
    · simp only [List.mem_cons, List.not_mem_nil, or_false]
      rintro (e | e)
      · rw [if_pos e] at h'; omega
      · rw [if_pos e] at k'; omega
  | .blk _ _ rs r, h, k => by
    have h' : rs.cnt "lay" + r.cnt "lay" = 0 := h
    have k' : rs.cnt "stretch" + r.cnt "stretch" = 0 := k
    show rs.unfit ++ r.unfit = []
    rw [unfit_nil rs (by omega) (by omega), unfit_nil r (by omega) (by omega)]
    rfl
theorem wrongs_nil {t : PT} {k : Str} (h1 : ∀ z ∈ onces, t.cnt z ≤ 1) (h2 : k = "leave" → t.cnt "lay" = 0 ∧ t.cnt "stretch" = 0) : t.wrongs k = [] := by
  unfold PT.wrongs
  have e1 : (if k = "leave" then t.unfit else []) = [] := by
    split
    · rename_i e
      exact unfit_nil t (h2 e).1 (h2 e).2
    · rfl
  rw [e1, List.nil_append]
  apply List.flatMap_eq_nil_iff.mpr
  intro x hx
  apply List.flatMap_eq_nil_iff.mpr
  intro z hz
  have h3 := (wz_fc z t).1 [([], true)] 0 (fun y hy => by rw [List.mem_singleton] at hy; rw [hy]; exact Nat.le_refl _) x hx
  have h4 := h1 z hz
  have h5 : fc z x.1 ≤ 1 := by omega
  unfold onceL
  apply List.drop_eq_nil_of_le
  rw [List.length_map]
  exact h5
/-- few enough lays, stretches, gives -/
def Once (k : Str) (t : AT) : Prop := (∀ z ∈ onces, t.cnt z ≤ 1) ∧ (k = "leave" → t.cnt "lay" = 0 ∧ t.cnt "stretch" = 0)
theorem verd_good {t : AT} {k : Str} (g : t.good none) (hl : t.nl ≤ 40) (ho : Once k t) : verd k t.wl = if 8 < t.st then .steps t.st else .made := by
  have h1 := (tr_rd t).1 g false [] 0 (.ok .nil [] (0 + t.nl)) rfl .eof
  rw [List.append_nil] at h1
  have h2 : Rd (.rows false) t.wl 0 (.ok (t.tr 0) [] (0 + t.nl)) := by
    have e := tr_rd.papp_nil (t.tr 0)
    rw [← e]
    exact h1
  unfold verd
  rw [if_neg (by rw [wl_nl]; omega), pGo_of h2 _ (by omega), ofRes_ok, steps_tr, wrongs_nil (fun z hz => by rw [cnt_tr]; exact ho.1 z hz) (fun e => by rw [cnt_tr, cnt_tr]; exact ho.2 e)]
/-! ### a wrong line -/
structure Odd (z : Str) : Prop where
  ne : words z ≠ endW
  st : stepOf (words z) = none
  pl : ∀ n, plainRow (words z) n = none
  bg : begins [z] = true → (words z).getD 1 "" = "there"
theorem begins_one (z : Str) (r : List Str) : begins (z :: r) = begins [z] := rfl
def AOk (z : Str) (A : List Str) : Prop := ∀ l, A.getLast? = some l → l ≠ endL ∧ (begins [z] = true → (words l).getD 0 "" ≠ "find")
theorem AOk.tail {z l : Str} {A : List Str} (h : AOk z (l :: A)) (hA : A ≠ []) : AOk z A := fun x hx => h x (by
  cases A with
  | nil => exact absurd rfl hA
  | cons a b => rw [List.getLast?_cons_cons]; exact hx)
theorem AOk.nil (z : Str) : AOk z [] := fun l h => nomatch h
theorem AOk.app {z : Str} {A B : List Str} (h : AOk z (A ++ B)) (hB : B ≠ []) : AOk z B := fun x hx => h x (by rw [List.getLast?_append, hx]; rfl)
theorem there_no {w : Str} (hw : w ∈ stW) (h : w ≠ "find") : ("there" : Str) ∉ outs w := by
  simp only [stW, List.mem_cons, List.not_mem_nil, or_false] at hw
  rcases hw with rfl | rfl | rfl | rfl | rfl | rfl | rfl
  · exact absurd rfl h
  all_goals decide +kernel
theorem stOk_stW {w : Str} {o p : Option Str} (h : stOk w o p) : w ∈ stW := by
  simp only [stOk, List.mem_cons, List.not_mem_nil, or_false] at h
  rcases h with ⟨rfl, _⟩ | ⟨(rfl | rfl), _⟩ | ⟨(rfl | rfl | rfl | rfl), _⟩ <;> decide +kernel
theorem odd_bad {z : Str} (hz : Odd z) (i : Bool) (r : List Str) (n : Nat) : Rd (.rows i) (z :: r) n (.err (n + 1)) := .bad (fun k => hz.ne k.2) hz.st (hz.pl _)
/-- blocks end with an end -/
theorem wl_last : ∀ (t : AT) (w : Str), t.good (some w) → t.wl ≠ [] → t.wl.getLast? = some endL
  | .nil, _, _, h => absurd rfl h
  | .blk p i o rs t, w, g, _ => by
    show (onT o :: (rs.wl ++ endL :: t.wl)).getLast? = _
    by_cases e : t.wl = []
    · rw [e, List.getLast?_cons, List.getLast?_append]; rfl
    · have := wl_last t w g.2.2.2 e
      rw [List.getLast?_cons, List.getLast?_append, List.getLast?_cons, this]; rfl
  | .row _ _ _, _, g, _ => g.elim
  | .step _ _ _ _ _ _ _, _, g, _ => g.elim
theorem odd_rd {z : Str} (hz : Odd z) : ∀ t : AT, (t.good none → ∀ i A B n tail, t.wl = A ++ B → AOk z A → Rd (.rows i) (A ++ z :: (B ++ tail)) n (.err (n + A.length + 1))) ∧
    (∀ w, t.good (some w) → ∀ seen A B n tail, t.wl = A ++ B → A ≠ [] → AOk z A → (∀ o ∈ t.os, o ∉ seen) → Rd (.blocks w seen) (A ++ z :: (B ++ tail)) n (.err (n + A.length + 1)))
  | .nil => ⟨fun _ i A B n tail e h => by
      have : A = [] := (List.append_eq_nil_iff.mp e.symm).1
      subst this
      exact odd_bad hz i _ n, fun w _ seen A B n tail e hA => absurd (List.append_eq_nil_iff.mp e.symm).1 hA⟩
  | .row r ws t => ⟨fun g i A B n tail e h => by
      cases A with
      | nil => exact odd_bad hz i _ n
      | cons a A =>
        have e' : rowT ws :: t.wl = a :: (A ++ B) := e
        injection e' with e1 e2
        subst e1
        have h1 := (odd_rd hz t).1 g.2 i A B (n + 1) tail e2 (by
          by_cases hA : A = []
          · subst hA; exact AOk.nil z
          · exact h.tail hA)
        have h2 := Rd.plain (i := i) (t := rowT ws) (fun k => (rowL g.1).ne k.2) (rowL g.1).st (pvR_some g.1 (n + 1)) h1
        rw [show n + (rowT ws :: A).length + 1 = n + 1 + A.length + 1 by simp; omega]
        exact h2, fun w g => g.elim⟩
  | .step r b w o p bl t => ⟨fun g i A B n tail e h => by
      cases A with
      | nil => exact odd_bad hz i _ n
      | cons a A =>
        have e' : stepT w o p :: (bl.wl ++ t.wl) = a :: (A ++ B) := e
        injection e' with e1 e2
        subst e1
        have sl := stepL g.1
        have hno : ¬ (i = true ∧ words (stepT w o p) = endW) := fun k => sl.ne k.2
        rw [show n + (stepT w o p :: A).length + 1 = n + 1 + A.length + 1 by simp; omega]
        show Rd _ (stepT w o p :: (A ++ z :: (B ++ tail))) n _
        by_cases hA : A = []
        · subst hA
          cases hb : begins [z] with
          | false => exact Rd.step (R := .err _) hno sl.st (.noB (by show begins (z :: _) = false; rw [begins_one]; exact hb)) (odd_bad hz i _ _)
          | true =>
            have hw : w ≠ "find" := by
              have := (h (stepT w o p) rfl).2 hb
              rw [sl.fw] at this
              exact this
            exact Rd.stepE hno sl.st (.badB (by rw [begins_one]; exact hb) (.inl (by rw [hz.bg hb]; exact there_no (stOk_stW g.1) hw)))
        · have h' := h.tail hA
          rcases List.append_eq_append_iff.mp e2 with ⟨as, ea, eb⟩ | ⟨bs, ea, eb⟩
          · by_cases has : as = []
            · subst has
              rw [List.append_nil] at ea
              exfalso
              have hl := wl_last bl w g.2.1 (fun k => hA (by rw [ea, k]))
              rw [← ea] at hl
              exact (h' _ hl).1 rfl
            · have h1 := (odd_rd hz t).1 g.2.2 i as B (n + 1 + bl.nl) tail eb (by rw [ea] at h'; exact h'.app has)
              have h3 := (tr_rd bl).2 w g.2.1 [] (as ++ z :: (B ++ tail)) (n + 1) (.ok .nil (as ++ z :: (B ++ tail)) (n + 1 + bl.nl)) (fun _ _ k => nomatch k) (.noB (by
                cases as with
                | nil => exact absurd rfl has
                | cons x y =>
                  have := bg_wl (tail := []) rfl t g.2.2
                  rw [List.append_nil, eb] at this
                  exact this))
              have h2 := Rd.step (i := i) (t := stepT w o p) hno sl.st h3 h1
              rw [ea, List.append_assoc]
              have e9 : n + 1 + (bl.wl ++ as).length + 1 = n + 1 + bl.nl + as.length + 1 := by rw [List.length_append, wl_nl]; omega
              rw [e9]
              exact h2
          · have h3 := (odd_rd hz bl).2 w g.2.1 [] A bs (n + 1) (t.wl ++ tail) ea hA h' (fun _ _ k => nomatch k)
            have h2 := Rd.stepE (i := i) (t := stepT w o p) hno sl.st h3
            rw [eb, List.append_assoc]
            exact h2, fun w g => g.elim⟩
  | .blk p i o rs t => ⟨fun g => g.elim, fun w g seen A B n tail e hA h hs => by
      cases A with
      | nil => exact absurd rfl hA
      | cons a A =>
        have e' : onT o :: (rs.wl ++ endL :: t.wl) = a :: (A ++ B) := e
        injection e' with e1 e2
        subst e1
        have ho := onL (outs_all g.1)
        have hno : ¬ ((words (onT o)).getD 1 "" ∉ outs w ∨ (words (onT o)).getD 1 "" ∈ seen) := by
          rw [ho.o]
          rintro (k | k)
          · exact k g.1
          · exact hs o (List.mem_cons_self ..) k
        rw [show n + (onT o :: A).length + 1 = n + 1 + A.length + 1 by simp; omega]
        show Rd _ (onT o :: (A ++ z :: (B ++ tail))) n _
        rcases List.append_eq_append_iff.mp e2 with ⟨as, ea, eb⟩ | ⟨bs, ea, eb⟩
        · cases as with
          | nil =>
            rw [List.append_nil] at ea
            subst ea
            rw [List.nil_append] at eb
            have h1 := (odd_rd hz rs).1 g.2.2.1 true rs.wl [] (n + 1) (B ++ tail) (List.append_nil _).symm (by
              by_cases k : rs.wl = []
              · rw [k]; exact AOk.nil z
              · exact h.tail k)
            exact Rd.blkE (ho.bg _) hno h1
          | cons x as =>
            rw [List.cons_append] at eb
            injection eb with eb1 eb2
            subst eb1
            have has : as ≠ [] := fun k => by
              subst k
              have hl : (onT o :: A).getLast? = some endL := by rw [ea, List.getLast?_cons, List.getLast?_append]; rfl
              exact (h _ hl).1 rfl
            have h4 := (tr_rd rs).1 g.2.2.1 true (endL :: (as ++ z :: (B ++ tail))) (n + 1) (.ok .nil (endL :: (as ++ z :: (B ++ tail))) (n + 1 + rs.nl)) (end_bg _) (.fin endW_end)
            have e8 : (rs.tr (n + 1)).app .nil = rs.tr (n + 1) := tr_rd.papp_nil _
            have h5 : Rd (.rows true) (rs.wl ++ endL :: (as ++ z :: (B ++ tail))) (n + 1) (.ok (rs.tr (n + 1)) (endL :: (as ++ z :: (B ++ tail))) (n + 1 + rs.nl)) := by rw [← e8]; exact h4
            have h1 := (odd_rd hz t).2 w g.2.2.2 (seen ++ [o]) as B (n + 2 + rs.nl) tail eb2 has (by
              have h' : AOk z ((onT o :: (rs.wl ++ [endL])) ++ as) := by
                have : onT o :: A = (onT o :: (rs.wl ++ [endL])) ++ as := by rw [ea]; simp
                rw [← this]
                exact h
              exact h'.app has) (fun x hx k => by
              rcases List.mem_append.mp k with k | k
              · exact hs x (List.mem_cons_of_mem _ hx) k
              · rw [List.mem_singleton] at k
                rw [k] at hx
                exact g.2.1 hx)
            have h2 := Rd.blk (w := w) (seen := seen) (t := onT o) (R := .err _) (ho.bg _) hno h5 (by rw [ho.o, show n + 1 + rs.nl + 1 = n + 2 + rs.nl by omega]; exact h1)
            rw [ea, List.append_assoc, List.cons_append]
            have e9 : n + 1 + (rs.wl ++ endL :: as).length + 1 = n + 2 + rs.nl + as.length + 1 := by rw [List.length_append, wl_nl, List.length_cons]; omega
            rw [e9]
            exact h2
        · have h1 := (odd_rd hz rs).1 g.2.2.1 true A bs (n + 1) (endL :: (t.wl ++ tail)) ea (by
            by_cases k : A = []
            · rw [k]; exact AOk.nil z
            · exact h.tail k)
          have h2 := Rd.blkE (w := w) (seen := seen) (t := onT o) (ho.bg _) hno h1
          rw [eb, List.append_assoc, List.cons_append]
          exact h2⟩
theorem verd_odd {t : AT} {k z : Str} {A B : List Str} (g : t.good none) (hl : t.nl ≤ 39) (hz : Odd z) (e : t.wl = A ++ B) (h : AOk z A) : verd k (A ++ z :: B) = .line (A.length + 1) := by
  have h1 := (odd_rd hz t).1 g false A B 0 [] e h
  rw [List.append_nil] at h1
  have hlen : (A ++ z :: B).length ≤ 40 := by
    have := congrArg List.length e
    rw [wl_nl, List.length_append] at this
    rw [List.length_append, List.length_cons]
    omega
  unfold verd
  rw [if_neg (by omega), pGo_of h1 _ (by omega)]
  show Vd.line _ = _
  congr 1
  omega
end K59


set_option Elab.async false
set_option linter.all false
set_option maxRecDepth 100000
set_option maxHeartbeats 4000000
namespace K59
open PySem PySem.Spec PyProof.Rows L2
/-- q is a new list of the rows t, which is all new -/
structure NewT (H H' : Hp) (q : Addr) (t : AT) : Prop where
  sm : Same H H'
  qn : H q = none
  at_ : H' q = some (.lst t.refs)
  own : t.own H'
  nd : t.adr.Nodup
  new : ∀ x ∈ t.adr, H x = none
  out : q ∉ t.adr
theorem NewT.up {H H' H2 : Hp} {q : Addr} {t : AT} (h : NewT H H' q t) (s : Same H' H2) : NewT H H2 q t := ⟨h.sm.tr s, h.qn, s _ _ h.at_, AT.own_up t (fun x _ o ho => s _ _ ho) h.own, h.nd, h.new, h.out⟩
theorem NewT.from_ {H0 H H' : Hp} {q : Addr} {t : AT} (s : Same H0 H) (h : NewT H H' q t) : NewT H0 H' q t := ⟨s.tr h.sm, none_of s h.qn, h.at_, h.own, h.nd, fun x hx => none_of s (h.new x hx), h.out⟩
theorem lst_ne {H : Hp} {q x : Addr} {o : HO} (h : H q = none) (k : H x = some o) : q ≠ x := fun e => by rw [e, k] at h; cases h
theorem adr_in {H H' : Hp} {q : Addr} {t : AT} (h : NewT H H' q t) : ∀ x ∈ t.adr, H' x ≠ none := fun x hx e => by
  obtain ⟨l, hl⟩ := AT.own_lst t h.own x hx
  rw [hl] at e
  cases e
/-- two behind one another, in a new list -/
theorem NewT.cat {H H1 H2 H3 : Hp} {q1 q2 q3 : Addr} {t1 t2 : AT} (a : NewT H H1 q1 t1) (b : NewT H1 H2 q2 t2) (s : Same H2 H3) (hq : H2 q3 = none) (h3 : H3 q3 = some (.lst (t1.refs ++ t2.refs))) : NewT H H3 q3 (t1.app t2) := by
  have a3 := (a.up b.sm).up s
  have b3 := b.up s
  refine ⟨a3.sm, none_of (a.sm.tr b.sm) hq, by rw [AT.refs_app]; exact h3, (AT.own_app t1 t2).mpr ⟨a3.own, b3.own⟩, ?_, ?_, ?_⟩
  · rw [AT.adr_app, List.nodup_append]
    refine ⟨a.nd, b.nd, fun x hx y hy e => ?_⟩
    subst e
    exact adr_in a x hx (b.new x hy)
  · intro x hx
    rw [AT.adr_app] at hx
    rcases List.mem_append.mp hx with k | k
    · exact a.new x k
    · exact none_of a.sm (b.new x k)
  · intro hx
    rw [AT.adr_app] at hx
    rcases List.mem_append.mp hx with k | k
    · exact adr_in (a.up b.sm) q3 k hq
    · exact adr_in b q3 k hq
section
variable {P : Program} {w : World} {K : PySem.W.Frag} {mg : Str → Option Value} {base : Heap}
/-- [[o, [["quit", z]]]] -/
theorem mk_q {σ : L2.St} {H : Hp} {o z : Str} {Q : VK} (k : ∀ q r i p H', NewT H H' q (.blk p i o (.row r ["quit", z] .nil) .nil) → Q (.ref q) H') :
    tLst (tCons (tLst (tCons (tC (.str o)) (tCons (tLst (tCons (tLst (tCons (tC (.str "quit")) (tCons (tC (.str z)) tNil))) tNil)) tNil))) tNil) σ H Q := by
  refine ⟨szL rfl, fun r hr => ⟨szL rfl, fun i hi => ⟨szL rfl, fun p hp => ⟨szL rfl, fun q hq => ?_⟩⟩⟩⟩
  have s1 : Same H (upd H r (.lst [.str "quit", .str z])) := Same.new hr
  generalize e1 : upd H r (.lst [.str "quit", .str z]) = H1 at *
  have h1 : H1 r = some (.lst [.str "quit", .str z]) := by rw [← e1]; exact upd_same
  have s2 : Same H1 (upd H1 i (.lst [.ref r])) := Same.new hi
  generalize e2 : upd H1 i (.lst [.ref r]) = H2 at *
  have h2 : H2 i = some (.lst [.ref r]) := by rw [← e2]; exact upd_same
  have s3 : Same H2 (upd H2 p (.lst [.str o, .ref i])) := Same.new hp
  generalize e3 : upd H2 p (.lst [.str o, .ref i]) = H3 at *
  have h3 : H3 p = some (.lst [.str o, .ref i]) := by rw [← e3]; exact upd_same
  have s4 : Same H3 (upd H3 q (.lst [.ref p])) := Same.new hq
  generalize e4 : upd H3 q (.lst [.ref p]) = H4 at *
  have h4 : H4 q = some (.lst [.ref p]) := by rw [← e4]; exact upd_same
  have ir : i ≠ r := lst_ne hi h1
  have pr : p ≠ r := lst_ne hp (s2 _ _ h1)
  have pi : p ≠ i := lst_ne hp h2
  have qr : q ≠ r := lst_ne hq ((s2.tr s3) _ _ h1)
  have qi : q ≠ i := lst_ne hq (s3 _ _ h2)
  have qp : q ≠ p := lst_ne hq h3
  refine k q r i p H4 ⟨((s1.tr s2).tr s3).tr s4, none_of ((s1.tr s2).tr s3) hq, h4, ⟨s4 _ _ h3, (s3.tr s4) _ _ h2, ⟨((s2.tr s3).tr s4) _ _ h1, trivial⟩, trivial⟩, ?_, ?_, ?_⟩
  · simp [AT.adr, pi, pr, ir]
  · intro x hx
    simp only [AT.adr, List.mem_cons, List.append_nil, List.not_mem_nil, or_false] at hx
    rcases hx with rfl | rfl | rfl
    · exact none_of (s1.tr s2) hp
    · exact none_of s1 hi
    · exact hr
  · simp [AT.adr, qp, qi, qr]
def spStL : Sp := fun vs H Q E => ∃ (a b c d : V), vs = [a, b, c, d] ∧ (∀ q H', Same H H' → H q = none → H' q = some (.lst [.str "step", a, b, c, d]) → Q (.ref q) H')
theorem ok_lstep (T : Tx P w K mg) : FnX P w K mg base CX0 1 "_law_step" ["_law_word", "_law_one", "_law_place", "_law_blocks"] [] spStL := by
  refine T.d_l_step.ok0 sc_l_step (fun _ _ _ _ _ _ us hl => match us, hl with | [_, _, _, _], _ => rfl) (fun vs H Q E h => ?_) (fun f cdv A outer s H vs Q E hr h => ⟨_, (by exact (pss_one (ps_ret (pe_lst (pa_cons pe_str (pa_cons (pv 0) (pa_cons (pv 1) (pa_cons (pv 2) (pa_cons (pv 3) pa_nil))))))))), ?_⟩)
  · obtain ⟨a, b, c, d, rfl, _⟩ := h
    rfl
  obtain ⟨a, b, c, d, rfl, h0⟩ := h
  exact mk_lst (ev_cons ev_C fun _ _ => ev_cons (ev_var rfl) fun _ _ => ev_cons (ev_var rfl) fun _ _ => ev_cons (ev_var rfl) fun _ _ => ev_cons (ev_var rfl) fun _ _ => ev_nil) (fun H' q s _ hq => h0 q H' s (by assumption) hq)
/-- what is known of new rows: numbers of lays, stretches, gives, lines -/
structure Sg (t : AT) (a b c n : Nat) : Prop where
  good : t.good none
  lay : t.cnt "lay" = a
  str : t.cnt "stretch" = b
  giv : t.cnt "give" = c
  nl : t.nl = n
theorem Sg.cat {t u : AT} {a b c n a' b' c' n' : Nat} (h : Sg t a b c n) (k : Sg u a' b' c' n') : Sg (t.app u) (a + a') (b + b') (c + c') (n + n') :=
  ⟨(AT.good_app t u).mpr ⟨h.good, k.good⟩, by rw [AT.cnt_app, h.lay, k.lay], by rw [AT.cnt_app, h.str, k.str], by rw [AT.cnt_app, h.giv, k.giv], by rw [AT.nl_app, h.nl, k.nl]⟩
/-- a step whose blocks are new -/
theorem step_new {H H1 H2 : Hp} {b r : Addr} {t : AT} {z : Str} {o p : Option Str} (h : NewT H H1 b t) (s : Same H1 H2) (hr : H1 r = none) (h2 : H2 r = some (.lst [.str "step", .str z, oS o, oS p, .ref b])) :
    (AT.step r b z o p t .nil).own H2 ∧ (AT.step r b z o p t .nil).adr.Nodup ∧ (∀ x ∈ (AT.step r b z o p t .nil).adr, H x = none) := by
  have h' := h.up s
  have rb : r ≠ b := lst_ne hr h.at_
  have rt : r ∉ t.adr := fun k => adr_in h r k hr
  refine ⟨⟨h2, h'.at_, h'.own, trivial⟩, ?_, ?_⟩
  · simp only [AT.adr, List.append_nil, List.nodup_cons, List.mem_cons, not_or]
    exact ⟨⟨rb, rt⟩, h.out, h.nd⟩
  · intro x hx
    simp only [AT.adr, List.append_nil, List.mem_cons] at hx
    rcases hx with rfl | rfl | hx
    · exact none_of h.sm hr
    · exact h.qn
    · exact h.new x hx
/-- a new list of one row that is new -/
theorem one_new {H H2 H3 : Hp} {q : Addr} {t : AT} (s : Same H H2) (ho : t.own H2) (hn : t.adr.Nodup) (hx : ∀ x ∈ t.adr, H x = none) (s3 : Same H2 H3) (hq : H2 q = none) (h3 : H3 q = some (.lst t.refs)) : NewT H H3 q t :=
  ⟨s.tr s3, none_of s hq, h3, AT.own_up t (fun x _ o k => s3 _ _ k) ho, hn, hx, fun k => by
    obtain ⟨l, hl⟩ := AT.own_lst t ho q k
    rw [hq] at hl
    cases hl⟩
def spNew (ps : List V) (a b c n : Nat) : Sp := fun vs H Q E => vs = ps ∧ ∀ q t H', NewT H H' q t → Sg t a b c n → Q (.ref q) H'
theorem two_rows {H H1 H2 H3 : Hp} {q : Addr} {t u : AT} (s1 : Same H H1) (ho : t.own H1) (hn : t.adr.Nodup) (hx : ∀ x ∈ t.adr, H x = none) (s2 : Same H1 H2) (ko : u.own H2) (kn : u.adr.Nodup) (kx : ∀ x ∈ u.adr, H1 x = none) (s3 : Same H2 H3) (hq : H2 q = none) (h3 : H3 q = some (.lst (t.refs ++ u.refs))) : NewT H H3 q (t.app u) := by
  refine one_new (s1.tr s2) ((AT.own_app t u).mpr ⟨AT.own_up t (fun x _ o k => s2 _ _ k) ho, ko⟩) ?_ ?_ s3 hq (by rw [AT.refs_app]; exact h3)
  · rw [AT.adr_app, List.nodup_append]
    refine ⟨hn, kn, fun x hx y hy e => ?_⟩
    subst e
    obtain ⟨l, hl⟩ := AT.own_lst t ho x hx
    rw [kx x hy] at hl
    cases hl
  · intro x hx'
    rw [AT.adr_app] at hx'
    rcases List.mem_append.mp hx' with k | k
    · exact hx x k
    · exact none_of s1 (kx x k)
theorem cons_go {a : TE} {r : TA} {z : L2.St} {H : Hp} {Q : List V → Hp → Prop} (h : a z H fun x H1 => r z H1 fun xs H2 => Q (x :: xs) H2) : tCons a r z H Q := h
theorem call_go {sp : Sp} {ds : List V} {E : XK} {t : TA} {z : L2.St} {H : Hp} {Q : VK} (h : t z H fun vs H1 => sp (vs ++ ds) H1 Q E) : tCall sp ds E t z H Q := h
theorem c_go {v : V} {z : L2.St} {H : Hp} {Q : VK} (h : Q v H) : tC v z H Q := h
theorem lst_go {t : TA} {z : L2.St} {H : Hp} {Q : VK} (h : t z H fun xs H1 => xs.length ≤ sizeLine ∧ ∀ p, H1 p = none → Q (.ref p) (upd H1 p (.lst xs))) : tLst t z H Q := h
theorem nil_go {z : L2.St} {H : Hp} {Q : List V → Hp → Prop} (h : Q [] H) : tNil z H Q := h
theorem var_go {i : Nat} {v : V} {z : L2.St} {H : Hp} {Q : VK} (hv : z[i]? = some (some v)) (h : Q v H) : tVar i z H Q := ⟨v, hv, h⟩
theorem set_te {te : TE} {s : TS} {D : Ends} {z : L2.St} {H : Hp} {i : Nat} (h : te z H fun v H1 => s D (z.set i (some v)) H1) : tSeq (tAsg te (gName i)) s D z H := h
theorem st1 : stOk "find" (some "h") none := .inl ⟨rfl, ⟨_, by decide +kernel, rfl⟩, rfl⟩
theorem st2 : stOk "look" (some "h") (some "p") := .inr (.inl ⟨by decide +kernel, ⟨_, by decide +kernel, rfl⟩, _, by decide +kernel, rfl⟩)
theorem stP {z p : Str} (h : z ∈ (["lay", "free", "strike", "stretch"] : List Str)) (hp : p ∈ plN) : stOk z none (some p) := .inr (.inr ⟨h, rfl, p, hp, rfl⟩)
theorem stIP {z o p : Str} (h : z ∈ (["look", "give"] : List Str)) (ho : o ∈ idN) (hp : p ∈ plN) : stOk z (some o) (some p) := .inr (.inl ⟨h, ⟨o, ho, rfl⟩, p, hp, rfl⟩)
theorem ok_lfound (T : Tx P w K mg) : FnX P w K mg base CX0 2 "_law_found" [] [] (spNew [] 0 0 0 8) := by
  have F_l_step := ok_lstep (base := base) T
  refine T.d_l_found.ok0 sc_l_found (fun _ _ _ _ _ _ us hl => match us, hl with | [], _ => rfl) (fun vs H Q E h => ?_) (fun f cdv A outer s H vs Q E hr h => ⟨_, (by exact (pss_cons (ps_set (i := 0) sc_l_found.nd rfl (Or.inl rfl) (pe_lst (pa_cons (pe_lst (pa_cons pe_str (pa_cons (pe_lst (pa_cons (pe_lst (pa_cons pe_str (pa_cons pe_str pa_nil))) pa_nil)) pa_nil))) pa_nil)))
      (pss_one (ps_ret (pe_lst (pa_cons (pe_callX F_l_step (hr.mono (by first | decide | omega)) pass0 (pa_cons pe_str (pa_cons pe_str (pa_cons pe_non (pa_cons (pv 0) pa_nil))))) (pa_cons (pe_callX F_l_step (hr.mono (by first | decide | omega)) pass0 (pa_cons pe_str (pa_cons pe_str (pa_cons pe_str (pa_cons (pe_lst (pa_cons (pe_lst (pa_cons pe_str (pa_cons (pe_lst (pa_cons (pe_lst (pa_cons pe_str (pa_cons pe_str pa_nil))) pa_nil)) pa_nil))) pa_nil)) pa_nil))))) pa_nil))))))), ?_⟩)
  · obtain ⟨rfl, _⟩ := h
    rfl
  obtain ⟨rfl, h0⟩ := h
  refine set_te (mk_q (fun b1 q1 i1 p1 H1 n1 => ?_))
  refine ⟨_, rfl, _, _, _, _, rfl, fun r1 H2 s2 hr1 h2 => ?_⟩
  refine cons_go (call_go (cons_go (c_go (cons_go (c_go (cons_go (c_go (cons_go (mk_q (fun b2 q2 i2 p2 H3 n3 => ?_))))))))))
  refine ⟨_, _, _, _, rfl, fun r3 H4 s4 hr3 h4 => ⟨szL rfl, fun q hq => ?_⟩⟩
  obtain ⟨o1, d1, x1⟩ := step_new (z := "find") (o := some "h") (p := none) n1 s2 hr1 h2
  obtain ⟨o2, d2, x2⟩ := step_new (z := "look") (o := some "h") (p := some "p") n3 s4 hr3 h4
  refine h0 q _ _ (two_rows (n1.sm.tr s2) o1 d1 x1 (n3.sm.tr s4) o2 d2 x2 (Same.new hq) hq upd_same) ?_
  exact ⟨⟨st1, ⟨by decide +kernel, (fun z => nomatch z), ⟨by decide +kernel, trivial⟩, trivial⟩, st2, ⟨by decide +kernel, (fun z => nomatch z), ⟨by decide +kernel, trivial⟩, trivial⟩, trivial⟩, rfl, rfl, rfl, rfl⟩
def spLaid : Sp := fun vs H Q E => ∃ o p : Str, vs = [.str o, .str p] ∧ o ∈ idN ∧ p ∈ plN ∧ ∀ q t H', NewT H H' q t → Sg t 1 0 1 10 → Q (.ref q) H'
def spGone : Sp := fun vs H Q E => ∃ p : Str, vs = [.str p] ∧ p ∈ plN ∧ ∀ q t H', NewT H H' q t → Sg t 0 0 0 2 → Q (.ref q) H'
/-- an empty list as blocks -/
theorem mk_e {σ : L2.St} {H : Hp} {Q : VK} (k : ∀ q H', NewT H H' q .nil → Q (.ref q) H') : tLst tNil σ H Q := ⟨szL rfl, fun q hq => k q _ ⟨Same.new hq, hq, upd_same, trivial, List.nodup_nil, (fun x hx => nomatch hx), (fun hx => nomatch hx)⟩⟩
theorem ok_lgone (T : Tx P w K mg) : FnX P w K mg base CX0 2 "_law_gone" ["_law_place"] [] spGone := by
  have F_l_step := ok_lstep (base := base) T
  refine T.d_l_gone.ok0 sc_l_gone (fun _ _ _ _ _ _ us hl => match us, hl with | [_], _ => rfl) (fun vs H Q E h => ?_) (fun f cdv A outer s H vs Q E hr h => ⟨_, (by exact (pss_one (ps_ret (pe_lst (pa_cons (pe_callX F_l_step (hr.mono (by first | decide | omega)) pass0 (pa_cons pe_str (pa_cons pe_non (pa_cons (pv 0) (pa_cons (pe_lst pa_nil) pa_nil))))) (pa_cons (pe_callX F_l_step (hr.mono (by first | decide | omega)) pass0 (pa_cons pe_str (pa_cons pe_non (pa_cons (pv 0) (pa_cons (pe_lst pa_nil) pa_nil))))) pa_nil)))))), ?_⟩)
  · obtain ⟨p, rfl, _⟩ := h
    rfl
  obtain ⟨p, rfl, hp, h0⟩ := h
  refine ⟨_, rfl, mk_e (fun b1 H1 n1 => ?_)⟩
  refine ⟨_, _, _, _, rfl, fun r1 H2 s2 hr1 h2 => ?_⟩
  refine ⟨_, rfl, mk_e (fun b2 H3 n3 => ?_)⟩
  refine ⟨_, _, _, _, rfl, fun r3 H4 s4 hr3 h4 => ⟨szL rfl, fun q hq => ?_⟩⟩
  obtain ⟨o1, d1, x1⟩ := step_new (z := "strike") (o := none) (p := some p) n1 s2 hr1 h2
  obtain ⟨o2, d2, x2⟩ := step_new (z := "free") (o := none) (p := some p) n3 s4 hr3 h4
  refine h0 q _ _ (two_rows (n1.sm.tr s2) o1 d1 x1 (n3.sm.tr s4) o2 d2 x2 (Same.new hq) hq upd_same) ?_
  exact ⟨⟨stP (by decide +kernel) hp, trivial, stP (by decide +kernel) hp, trivial, trivial⟩, rfl, rfl, rfl, rfl⟩
theorem ok_llaid (T : Tx P w K mg) : FnX P w K mg base CX0 2 "_law_laid" ["_law_one", "_law_place"] [] spLaid := by
  have F_l_step := ok_lstep (base := base) T
  refine T.d_l_laid.ok0 sc_l_laid (fun _ _ _ _ _ _ us hl => match us, hl with | [_, _], _ => rfl) (fun vs H Q E h => ?_) (fun f cdv A outer s H vs Q E hr h => ⟨_, (by exact (pss_cons (ps_set (i := 2) sc_l_laid.nd rfl (Or.inl rfl) (pe_lst (pa_cons (pe_lst (pa_cons pe_str (pa_cons (pe_lst (pa_cons (pe_lst (pa_cons pe_str (pa_cons pe_str pa_nil))) pa_nil)) pa_nil))) pa_nil)))
      (pss_cons (ps_set (i := 3) sc_l_laid.nd rfl (Or.inl rfl) (pe_lst (pa_cons (pe_lst (pa_cons pe_str (pa_cons (pe_lst (pa_cons (pe_callX F_l_step (hr.mono (by first | decide | omega)) pass0 (pa_cons pe_str (pa_cons pe_non (pa_cons (pv 1) (pa_cons (pe_lst pa_nil) pa_nil))))) (pa_cons (pe_lst (pa_cons pe_str (pa_cons pe_str pa_nil))) pa_nil))) pa_nil))) pa_nil)))
      (pss_one (ps_ret (pe_lst (pa_cons (pe_callX F_l_step (hr.mono (by first | decide | omega)) pass0 (pa_cons pe_str (pa_cons pe_non (pa_cons (pv 1) (pa_cons (pv 2) pa_nil))))) (pa_cons (pe_callX F_l_step (hr.mono (by first | decide | omega)) pass0 (pa_cons pe_str (pa_cons (pv 0) (pa_cons (pv 1) (pa_cons (pv 3) pa_nil))))) (pa_cons (pe_lst (pa_cons pe_str (pa_cons (pv 0) pa_nil))) pa_nil))))))))), ?_⟩)
  · obtain ⟨o, p, rfl, _⟩ := h
    rfl
  obtain ⟨o, p, rfl, ho, hp, h0⟩ := h
  refine set_te (mk_q (fun b1 q1 i1 p1 H1 n1 => ?_))
  refine set_te (lst_go (cons_go (lst_go (cons_go (c_go (cons_go (lst_go (cons_go (call_go (cons_go (c_go (cons_go (c_go (cons_go (var_go rfl (cons_go (mk_e (fun b2 H2 n2 => ?_)))))))))))))))))) 
  refine ⟨_, _, _, _, rfl, fun r2 H3 s3 hr2 h3 => ?_⟩
  refine ⟨szL rfl, fun q3 hq3 => ⟨szL rfl, fun i3 hi3 => ⟨szL rfl, fun p3 hp3 => ⟨szL rfl, fun b3 hb3 => ?_⟩⟩⟩⟩
  obtain ⟨o2, d2, x2⟩ := step_new (z := "strike") (o := none) (p := some p) n2 s3 hr2 h3
  have s4 : Same H3 (upd H3 q3 (.lst [.str "quit", .str "no"])) := Same.new hq3
  generalize e4 : upd H3 q3 (.lst [.str "quit", .str "no"]) = H4 at *
  have h4 : H4 q3 = some (.lst [.str "quit", .str "no"]) := by rw [← e4]; exact upd_same
  have s5 : Same H4 (upd H4 i3 (.lst [.ref r2, .ref q3])) := Same.new hi3
  generalize e5 : upd H4 i3 (.lst [.ref r2, .ref q3]) = H5 at *
  have h5 : H5 i3 = some (.lst [.ref r2, .ref q3]) := by rw [← e5]; exact upd_same
  have s6 : Same H5 (upd H5 p3 (.lst [.str "out", .ref i3])) := Same.new hp3
  generalize e6 : upd H5 p3 (.lst [.str "out", .ref i3]) = H6 at *
  have h6 : H6 p3 = some (.lst [.str "out", .ref i3]) := by rw [← e6]; exact upd_same
  have s7 : Same H6 (upd H6 b3 (.lst [.ref p3])) := Same.new hb3
  generalize e7 : upd H6 b3 (.lst [.ref p3]) = H7 at *
  have h7 : H7 b3 = some (.lst [.ref p3]) := by rw [← e7]; exact upd_same
  have s13 : Same H1 H3 := n2.sm.tr s3
  -- the rows within the block
  have nI : NewT H1 H5 i3 ((AT.step r2 b2 "strike" none (some p) .nil .nil).app (.row q3 ["quit", "no"] .nil)) :=
    two_rows s13 o2 d2 x2 s4 ⟨h4, trivial⟩ (by simp [AT.adr]) (fun x hx => by simp only [AT.adr, List.mem_cons, List.not_mem_nil, or_false] at hx; rw [hx]; exact hq3) s5 hi3 h5
  have nB : NewT H1 H7 b3 (.blk p3 i3 "out" ((AT.step r2 b2 "strike" none (some p) .nil .nil).app (.row q3 ["quit", "no"] .nil)) .nil) := by
    have nI7 := nI.up (s6.tr s7)
    have pi : p3 ≠ i3 := lst_ne hp3 h5
    have pI : p3 ∉ ((AT.step r2 b2 "strike" none (some p) .nil .nil).app (.row q3 ["quit", "no"] .nil)).adr := fun k => adr_in nI p3 k hp3
    refine one_new ((s13.tr s4).tr (s5.tr s6)) ⟨h6, s6 _ _ h5, (nI.up s6).own, trivial⟩ ?_ ?_ s7 hb3 h7
    · simp only [AT.adr, List.append_nil, List.nodup_cons, List.mem_cons, not_or]
      exact ⟨⟨pi, pI⟩, nI.out, nI.nd⟩
    · intro x hx
      simp only [AT.adr, List.append_nil, List.mem_cons] at hx
      rcases hx with rfl | rfl | hx
      · exact none_of (s13.tr (s4.tr s5)) hp3
      · exact nI.qn
      · exact nI.new x hx
  refine ⟨_, rfl, _, rfl, _, _, _, _, rfl, fun r8 H8 s8 hr8 h8 => ?_⟩
  refine ⟨_, rfl, _, rfl, _, rfl, _, _, _, _, rfl, fun r9 H9 s9 hr9 h9 => ?_⟩
  refine ⟨_, rfl, szL rfl, fun ra hra => ⟨szL rfl, fun q hq => ?_⟩⟩
  have sA : Same H9 (upd H9 ra (.lst [.str "enter", .str o])) := Same.new hra
  generalize eA : upd H9 ra (.lst [.str "enter", .str o]) = HA at *
  have hA : HA ra = some (.lst [.str "enter", .str o]) := by rw [← eA]; exact upd_same
  have n1' := n1.up (nB.sm)
  obtain ⟨oL, dL, xL⟩ := step_new (z := "lay") (o := none) (p := some p) n1' s8 hr8 h8
  obtain ⟨oG, dG, xG⟩ := step_new (z := "give") (o := some o) (p := some p) (nB.up s8) s9 hr9 h9
  -- lay, give, enter
  have nd1 : ((AT.step r9 b3 "give" (some o) (some p) (.blk p3 i3 "out" ((AT.step r2 b2 "strike" none (some p) .nil .nil).app (.row q3 ["quit", "no"] .nil)) .nil) .nil).app (.row ra ["enter", o] .nil)).adr.Nodup := by
    rw [AT.adr_app, List.nodup_append]
    refine ⟨dG, by simp [AT.adr], fun x hx y hy e => ?_⟩
    subst e
    simp only [AT.adr, List.mem_cons, List.not_mem_nil, or_false] at hy
    subst hy
    obtain ⟨l, hl⟩ := AT.own_lst _ oG x hx
    rw [hra] at hl
    cases hl
  have sm1 : Same H H8 := (n1.sm.tr nB.sm).tr s8
  refine h0 q _ _ (one_new (t := (AT.step r8 b1 "lay" none (some p) (.blk p1 i1 "full" (.row q1 ["quit", "no"] .nil) .nil) .nil).app ((AT.step r9 b3 "give" (some o) (some p) (.blk p3 i3 "out" ((AT.step r2 b2 "strike" none (some p) .nil .nil).app (.row q3 ["quit", "no"] .nil)) .nil) .nil).app (.row ra ["enter", o] .nil))) (sm1.tr (s9.tr sA)) ?_ ?_ ?_ (Same.new hq) hq upd_same) ?_
  · exact (AT.own_app _ _).mpr ⟨AT.own_up _ (fun x _ o k => (s9.tr sA) _ _ k) oL, (AT.own_app _ _).mpr ⟨AT.own_up _ (fun x _ o k => sA _ _ k) oG, hA, trivial⟩⟩
  · rw [AT.adr_app, List.nodup_append]
    refine ⟨dL, nd1, fun x hx y hy e => ?_⟩
    subst e
    obtain ⟨l, hl⟩ := AT.own_lst _ oL x hx
    rw [AT.adr_app] at hy
    rcases List.mem_append.mp hy with k | k
    · simp only [AT.adr, List.mem_cons, List.append_nil] at k
      rcases k with k | k
      · subst k; rw [hr9] at hl; cases hl
      · -- the blocks of give are older than lay's row, newer than lay's blocks
        simp only [AT.adr, List.mem_cons, List.append_nil] at hx
        have kB : x ∈ (AT.blk p3 i3 "out" ((AT.step r2 b2 "strike" none (some p) .nil .nil).app (.row q3 ["quit", "no"] .nil)) .nil).adr ∨ x = b3 := by
          simp only [AT.adr, List.mem_cons, List.append_nil]
          rcases k with k | k
          · exact .inr k
          · exact .inl k
        have hn1 : H1 x = none := by
          rcases kB with k | k
          · exact nB.new x k
          · rw [k]; exact nB.qn
        have hs7 : H7 x ≠ none := by
          rcases kB with k | k
          · exact adr_in nB x k
          · rw [k, nB.at_]; simp
        rcases hx with rfl | rfl | hx
        · exact hs7 hr8
        · rw [n1.at_] at hn1; cases hn1
        · exact adr_in n1 x (by simp only [AT.adr, List.mem_cons, List.append_nil]; exact hx) hn1
    · simp only [AT.adr, List.mem_cons, List.not_mem_nil, or_false] at k
      subst k
      rw [s9 _ _ hl] at hra
      cases hra
  · intro x hx
    rw [AT.adr_app, AT.adr_app] at hx
    rcases List.mem_append.mp hx with k | k
    · exact xL x k
    · rcases List.mem_append.mp k with k | k
      · exact none_of n1.sm (xG x k)
      · simp only [AT.adr, List.mem_cons, List.not_mem_nil, or_false] at k
        subst k
        exact none_of (sm1.tr s9) hra
  · refine ⟨⟨stP (by decide +kernel) hp, ⟨by decide +kernel, (fun z => nomatch z), ⟨by decide +kernel, trivial⟩, trivial⟩, stIP (by decide +kernel) ho hp, ⟨by decide +kernel, (fun z => nomatch z), ⟨stP (by decide +kernel) hp, trivial, by decide +kernel, trivial⟩, trivial⟩, ?_, trivial⟩, rfl, rfl, rfl, rfl⟩
    simp only [idN, List.mem_cons, List.not_mem_nil, or_false] at ho
    rcases ho with rfl | rfl <;> decide +kernel
end
end K59


set_option Elab.async false
set_option linter.all false
set_option maxRecDepth 100000
set_option maxHeartbeats 4000000
namespace K59
open PySem PySem.Spec PyProof.Rows L2
section
variable {P : Program} {w : World} {K : PySem.W.Frag} {mg : Str → Option Value} {base : Heap}
/-- all but the bag stays; new rows -/
structure NewB (d : Addr) (H H' : Hp) (q : Addr) (t : AT) : Prop where
  sm : SameX d H H'
  at_ : H' q = some (.lst t.refs)
  own : t.own H'
  nd : (q :: t.adr).Nodup
  new : ∀ x ∈ q :: t.adr, H x = none
theorem NewB.of {d : Addr} {H H1 H2 : Hp} {q : Addr} {t : AT} {o : HO} (hd : H d = some o) (s : SameX d H H1) (h1 : ∃ o, H1 d = some o) (n : NewT H1 H2 q t) : NewB d H H2 q t :=
  ⟨s.tr n.sm.x, n.at_, n.own, List.nodup_cons.mpr ⟨n.out, n.nd⟩, fun x hx => by
    have hx1 : H1 x = none := by
      rcases List.mem_cons.mp hx with e | e
      · rw [e]; exact n.qn
      · exact n.new x e
    cases e : H x with
    | none => rfl
    | some u =>
      by_cases hxd : x = d
      · obtain ⟨o1, h1⟩ := h1
        rw [hxd, h1] at hx1; cases hx1
      · rw [s _ _ hxd e] at hx1; cases hx1⟩
/-- the kinds' numbers of lines, of lays, stretches, gives -/
def baseOk (k : Str) (t : AT) : Prop := t.good none ∧ t.nl ≤ 20 ∧ Once k t
def spBase : Sp := fun vs H Q E => ∃ (d c : Addr) (n : Nat) (k : Str), vs = [.ref d, .str k] ∧ k ∈ dkN ∧ Bag H d c n ∧ n < 2 ^ 30 ∧ ∀ q t H' m, m ≤ n + 5 → NewB d H H' q t → Bag H' d c m → baseOk k t → Q (.ref q) H'
theorem cat_fin {H H1 H2 : Hp} {q1 q2 : Addr} {t1 t2 : AT} {Q : VK} (a : NewT H H1 q1 t1) (b : NewT H1 H2 q2 t2) (hl : t1.nl + t2.nl ≤ 1000) (k : ∀ q3 H3, NewT H H3 q3 (t1.app t2) → Q (.ref q3) H3) : rCat (.ref q1) (.ref q2) H2 Q := by
  have e1 := AT.len_refs t1
  have e2 := AT.len_refs t2
  have e3 := AT.len_nl t1
  have e4 := AT.len_nl t2
  have q9 : sizeLine = 16777216 := sizeLine_eq
  exact ⟨q1, q2, t1.refs, t2.refs, rfl, rfl, (a.up b.sm).at_, b.at_, by omega, fun q hq => k q _ (NewT.cat a b (Same.new hq) hq upd_same)⟩
theorem NewB.draw {d q : Addr} {H H1 H2 : Hp} {t : AT} {kv : List (Key × V)} (h : NewB d H H1 q t) (hd : H1 d = some (.dK kv)) (s : SameX d H1 H2) : NewB d H H2 q t := by
  have ne : ∀ x ∈ q :: t.adr, x ≠ d := fun x hx e => by
    have : ∃ l, H1 x = some (.lst l) := by
      rcases List.mem_cons.mp hx with k | k
      · rw [k]; exact ⟨_, h.at_⟩
      · exact AT.own_lst t h.own x k
    obtain ⟨l, hl⟩ := this
    rw [e, hd] at hl
    cases hl
  exact ⟨h.sm.tr s, s _ _ (ne q (List.mem_cons_self ..)) h.at_, AT.own_up t (fun x hx o ho => s _ _ (ne x (List.mem_cons_of_mem _ hx)) ho) h.own, h.nd, h.new⟩
theorem NewB.cat {d : Addr} {H H1 H2 H3 : Hp} {q1 q2 q3 : Addr} {t1 t2 : AT} {o : HO} (hd : H d = some o) (h1d : ∃ o, H1 d = some o) (a : NewB d H H1 q1 t1) (b : NewT H1 H2 q2 t2) (s : Same H2 H3) (hq : H2 q3 = none) (h3 : H3 q3 = some (.lst (t1.refs ++ t2.refs))) : NewB d H H3 q3 (t1.app t2) := by
  have s13 := b.sm.tr s
  have nn : ∀ x, H1 x = none → H x = none := fun x hx => by
    cases e : H x with
    | none => rfl
    | some u =>
      by_cases hxd : x = d
      · obtain ⟨o1, h1⟩ := h1d
        rw [hxd, h1] at hx; cases hx
      · rw [a.sm _ _ hxd e] at hx; cases hx
  have in1 : ∀ x ∈ t1.adr, H1 x ≠ none := fun x hx e => by
    obtain ⟨l, hl⟩ := AT.own_lst t1 a.own x hx
    rw [hl] at e; cases e
  have hnd := List.nodup_cons.mp a.nd
  refine ⟨a.sm.tr s13.x, by rw [AT.refs_app]; exact h3, (AT.own_app _ _).mpr ⟨AT.own_up t1 (fun x _ o k => s13 _ _ k) a.own, AT.own_up t2 (fun x _ o k => s _ _ k) b.own⟩, ?_, ?_⟩
  · rw [AT.adr_app, List.nodup_cons, List.nodup_append]
    refine ⟨fun k => ?_, hnd.2, b.nd, fun x hx y hy e => ?_⟩
    · rcases List.mem_append.mp k with k | k
      · obtain ⟨l, hl⟩ := AT.own_lst t1 a.own q3 k
        rw [b.sm _ _ hl] at hq; cases hq
      · exact adr_in b q3 k hq
    · subst e
      exact in1 x hx (b.new x hy)
  · intro x hx
    rw [AT.adr_app] at hx
    rcases List.mem_cons.mp hx with k | k
    · rw [k]; exact nn q3 (none_of b.sm hq)
    · rcases List.mem_append.mp k with k | k
      · exact a.new x (List.mem_cons_of_mem _ k)
      · exact nn x (b.new x k)
theorem bag_d {H : Hp} {d c : Addr} {n : Nat} (h : Bag H d c n) : ∃ kv, H d = some (.dK kv) := by
  obtain ⟨cs, a, dg, cnt, fo, h1, _⟩ := h
  exact ⟨_, h1⟩
theorem once_of {k : Str} {t : AT} {a b c n : Nat} (h : Sg t a b c n) (ha : a ≤ 1) (hb : b ≤ 1) (hc : c ≤ 1) (hk : k = "leave" → a = 0 ∧ b = 0) : Once k t := by
  refine ⟨fun z hz => ?_, fun e => by rw [h.lay, h.str]; exact hk e⟩
  simp only [onces, List.mem_cons, List.not_mem_nil, or_false] at hz
  rcases hz with rfl | rfl | rfl
  · rw [h.lay]; exact ha
  · rw [h.str]; exact hb
  · rw [h.giv]; exact hc
/-- [o, [["quit", z]]] -/
theorem mk_b {σ : L2.St} {H : Hp} {o z : Str} {Q : VK} (k : ∀ p r i H', Same H H' → (AT.blk p i o (.row r ["quit", z] .nil) .nil).own H' → (AT.blk p i o (.row r ["quit", z] .nil) .nil).adr.Nodup → (∀ x ∈ (AT.blk p i o (.row r ["quit", z] .nil) .nil).adr, H x = none) → Q (.ref p) H') :
    tLst (tCons (tC (.str o)) (tCons (tLst (tCons (tLst (tCons (tC (.str "quit")) (tCons (tC (.str z)) tNil))) tNil)) tNil)) σ H Q := by
  refine ⟨szL rfl, fun r hr => ⟨szL rfl, fun i hi => ⟨szL rfl, fun p hp => ?_⟩⟩⟩
  have s1 : Same H (upd H r (.lst [.str "quit", .str z])) := Same.new hr
  generalize e1 : upd H r (.lst [.str "quit", .str z]) = H1 at *
  have h1 : H1 r = some (.lst [.str "quit", .str z]) := by rw [← e1]; exact upd_same
  have s2 : Same H1 (upd H1 i (.lst [.ref r])) := Same.new hi
  generalize e2 : upd H1 i (.lst [.ref r]) = H2 at *
  have h2 : H2 i = some (.lst [.ref r]) := by rw [← e2]; exact upd_same
  have s3 : Same H2 (upd H2 p (.lst [.str o, .ref i])) := Same.new hp
  generalize e3 : upd H2 p (.lst [.str o, .ref i]) = H3 at *
  have h3 : H3 p = some (.lst [.str o, .ref i]) := by rw [← e3]; exact upd_same
  have ir : i ≠ r := lst_ne hi h1
  have pr : p ≠ r := lst_ne hp (s2 _ _ h1)
  have pi : p ≠ i := lst_ne hp h2
  refine k p r i H3 ((s1.tr s2).tr s3) ⟨h3, s3 _ _ h2, ⟨(s2.tr s3) _ _ h1, trivial⟩, trivial⟩ ?_ ?_
  · simp [AT.adr, pi, pr, ir]
  · intro x hx
    simp only [AT.adr, List.mem_cons, List.append_nil, List.not_mem_nil, or_false] at hx
    rcases hx with rfl | rfl | rfl
    · exact none_of (s1.tr s2) hp
    · exact none_of s1 hi
    · exact hr
theorem ok_lbase (T : Tx P w K mg) : FnX P w K mg base CX0 3 "_law_base" ["_law_bag_here", "_law_kind"] [] spBase := by
  have F_l_step := ok_lstep (base := base) T
  have F_l_found := ok_lfound (base := base) T
  have F_l_laid := ok_llaid (base := base) T
  have F_l_gone := ok_lgone (base := base) T
  have F_l_draw := ok_draw (w := w) (base := base) T
  refine T.d_l_base.ok0 sc_l_base (fun _ _ _ _ _ _ us hl => match us, hl with | [_, _], _ => rfl) (fun vs H Q E h => ?_) (fun f cdv A outer s H vs Q E hr h => ⟨_, (by exact (pss_cons (ps_if (pt_cmpR op_eq (pv 1) pe_str (nomark _)) (pss_cons (ps_set (i := 2) sc_l_base.nd rfl (Or.inl rfl) (pe_lst (pa_cons (pe_callX F_l_step (hr.mono (by first | decide | omega)) pass0 (pa_cons pe_str (pa_cons pe_str (pa_cons pe_non (pa_cons (pe_lst (pa_cons (pe_lst (pa_cons pe_str (pa_cons (pe_lst (pa_cons (pe_lst (pa_cons pe_str (pa_cons pe_str pa_nil))) pa_nil)) pa_nil))) pa_nil)) pa_nil))))) pa_nil)))
      (pss_one (ps_ret (pe_op op_cat (pe_op op_rep (pv 2) (pe_callX F_l_draw (hr.mono (by first | decide | omega)) pass0 (pa_cons (pv 0) (pa_cons pe_int pa_nil)))) (pe_callX F_l_laid (hr.mono (by first | decide | omega)) pass0 (pa_cons pe_str (pa_cons pe_str pa_nil))))))) pss_nil)
      (pss_cons (ps_if (pt_cmpR op_eq (pv 1) pe_str (nomark _)) (pss_one (ps_ret (pe_op op_cat (pe_op op_cat (pe_callX0 F_l_found (hr.mono (by first | decide | omega)) pass0) (pe_callX F_l_gone (hr.mono (by first | decide | omega)) pass0 (pa_cons pe_str pa_nil))) (pe_lst (pa_cons (pe_lst (pa_cons pe_str pa_nil)) pa_nil))))) pss_nil)
      (pss_cons (ps_if (pt_cmpR op_eq (pe_callX F_l_draw (hr.mono (by first | decide | omega)) pass0 (pa_cons (pv 0) (pa_cons pe_int pa_nil))) pe_int (nomark _)) (pss_cons (ps_set (i := 3) sc_l_base.nd rfl (Or.inl rfl) (pe_lst (pa_cons (pe_lst (pa_cons pe_str (pa_cons (pe_lst (pa_cons (pe_lst (pa_cons pe_str (pa_cons pe_str pa_nil))) pa_nil)) pa_nil))) (pa_cons (pe_lst (pa_cons pe_str (pa_cons (pe_lst (pa_cons (pe_lst (pa_cons pe_str (pa_cons pe_str pa_nil))) pa_nil)) pa_nil))) pa_nil))))
      (pss_one (ps_ret (pe_op op_cat (pe_callX0 F_l_found (hr.mono (by first | decide | omega)) pass0) (pe_lst (pa_cons (pe_callX F_l_step (hr.mono (by first | decide | omega)) pass0 (pa_cons pe_str (pa_cons pe_non (pa_cons pe_str (pa_cons (pv 3) pa_nil))))) pa_nil)))))) pss_nil)
      (pss_one (ps_ret (pe_op op_cat (pe_op op_cat (pe_callX0 F_l_found (hr.mono (by first | decide | omega)) pass0) (pe_callX F_l_laid (hr.mono (by first | decide | omega)) pass0 (pa_cons pe_str (pa_cons pe_str pa_nil)))) (pe_callX F_l_gone (hr.mono (by first | decide | omega)) pass0 (pa_cons pe_str pa_nil))))))))), ?_⟩)
  · obtain ⟨d, c, n, k, rfl, _⟩ := h
    rfl
  obtain ⟨d, c, n, k, rfl, hk, hb, hn, h0⟩ := h
  obtain ⟨kv, hd⟩ := bag_d hb
  let S0 : L2.St := [some (.ref d), some (.str k), none, none]
  refine seq_if (σ := S0) (eq_str (ev_var rfl) fun _ _ => ev_C) (fun g H1 s1 => ?_) (fun g H1 s1 => ?_)
  · have ek : k = "enter" := of_decide_eq_true g
    refine set_te (lst_go (cons_go (call_go (cons_go (c_go (cons_go (c_go (cons_go (c_go (cons_go (mk_q (fun b2 q2 i2 p2 H2 n2 => ?_))))))))))))
    refine ⟨_, _, _, _, rfl, fun r3 H3 s3 hr3 h3 => ⟨szL rfl, fun q4 hq4 => ?_⟩⟩
    obtain ⟨o1, d1, x1⟩ := step_new (z := "find") (o := some "i") (p := none) n2 s3 hr3 h3
    have n4 : NewT H1 (upd H3 q4 (.lst [.ref r3])) q4 _ := one_new (t := AT.step r3 b2 "find" (some "i") none (.blk p2 i2 "there" (.row q2 ["quit", "no"] .nil) .nil) .nil) (n2.sm.tr s3) o1 d1 x1 (Same.new hq4) hq4 upd_same
    generalize upd H3 q4 (.lst [.ref r3]) = H4 at n4 ⊢
    have n4' := n4.from_ s1
    refine ⟨_, rfl, _, rfl, d, c, n, 2, rfl, hb.up n4'.sm, by omega, by decide, by decide, fun r H5 r0 r2 s5 hb5 => ?_⟩
    have B4 : NewB d H H4 q4 _ := NewB.of hd (Same.rf H).x ⟨_, hd⟩ n4'
    have B5 := B4.draw (n4'.sm _ _ hd) s5
    have sg1 : Sg (AT.step r3 b2 "find" (some "i") none (.blk p2 i2 "there" (.row q2 ["quit", "no"] .nil) .nil) .nil) 0 0 0 4 := ⟨⟨.inl ⟨rfl, ⟨_, by decide +kernel, rfl⟩, rfl⟩, ⟨by decide +kernel, (fun z => nomatch z), ⟨by decide +kernel, trivial⟩, trivial⟩, trivial⟩, rfl, rfl, rfl, rfl⟩
    have hr' : r = 0 ∨ r = 1 := by omega
    obtain ⟨kv5, hd5⟩ := bag_d hb5
    rcases hr' with rfl | rfl
    · refine ⟨_, _, _, rfl, rfl, B5.at_, by decide, by decide, (by show 0 ≤ _; exact Nat.zero_le _), fun q6 hq6 => ?_⟩
      have n6 : NewT H5 (upd H5 q6 (.lst [])) q6 .nil := ⟨Same.new hq6, hq6, upd_same, trivial, List.nodup_nil, (fun x hx => nomatch hx), (fun hx => nomatch hx)⟩
      refine ⟨"h", "p", rfl, by decide +kernel, by decide +kernel, fun q7 t7 H7 n7 sg7 => ?_⟩
      refine cat_fin n6 n7 (by rw [sg7.nl]; show 0 + 10 ≤ 1000; decide) (fun q8 H8 n8 => ?_)
      refine h0 q8 _ H8 (n + 1) (by omega) (NewB.of hd (n4'.sm.x.tr s5) ⟨_, hd5⟩ n8) (hb5.up n8.sm) ⟨sg7.good, by show t7.nl ≤ 20; rw [sg7.nl]; decide, once_of (t := t7) sg7 (by decide) (by decide) (by decide) (fun e => by rw [ek] at e; exact absurd e (by decide +kernel))⟩
    · refine ⟨_, _, _, rfl, rfl, B5.at_, by decide, by decide, szL rfl, fun q6 hq6 => ?_⟩
      have B6 : NewB d H (upd H5 q6 (.lst [.ref r3])) q6 (AT.step r3 b2 "find" (some "i") none (.blk p2 i2 "there" (.row q2 ["quit", "no"] .nil) .nil) .nil) := by
        have s6 : Same H5 (upd H5 q6 (.lst [.ref r3])) := Same.new hq6
        refine ⟨B5.sm.tr s6.x, upd_same, AT.own_up _ (fun x _ o k => s6 _ _ k) B5.own, List.nodup_cons.mpr ⟨fun k => ?_, (List.nodup_cons.mp B5.nd).2⟩, fun x hx => ?_⟩
        · obtain ⟨l, hl⟩ := AT.own_lst _ B5.own q6 k
          rw [hq6] at hl; cases hl
        · rcases List.mem_cons.mp hx with k | k
          · rw [k]
            cases e : H q6 with
            | none => rfl
            | some u =>
              by_cases hxd : q6 = d
              · rw [hxd, hd5] at hq6; cases hq6
              · rw [B5.sm _ _ hxd e] at hq6; cases hq6
          · exact B5.new x (List.mem_cons_of_mem _ k)
      have hb6 := hb5.up (Same.new (o := .lst [.ref r3]) hq6)
      refine call_go (cons_go (c_go (cons_go (c_go (nil_go ?_)))))
      show spLaid _ (upd H5 q6 (.lst [.ref r3])) _ _
      generalize upd H5 q6 (.lst [.ref r3]) = H6 at B6 hb6 ⊢
      obtain ⟨kv6, hd6⟩ := bag_d hb6
      refine ⟨"h", "p", rfl, by decide +kernel, by decide +kernel, fun q7 t7 H7 n7 sg7 => ?_⟩
      have q9 : sizeLine = 16777216 := sizeLine_eq
      have hl7 := AT.len_nl t7
      have hl8 := AT.len_refs t7
      have hl9 := sg7.nl
      refine ⟨q6, q7, _, _, rfl, rfl, n7.sm _ _ B6.at_, n7.at_, (by show 1 + t7.refs.length ≤ _; omega), fun q8 hq8 => ?_⟩
      have sg8 := sg1.cat sg7
      exact h0 q8 _ _ (n + 1) (by omega) (NewB.cat hd ⟨_, hd6⟩ B6 n7 (Same.new hq8) hq8 upd_same) ((hb6.up n7.sm).up (Same.new hq8)) ⟨sg8.good, by rw [sg8.nl]; decide, once_of sg8 (by decide) (by decide) (by decide) (fun e => by rw [ek] at e; exact absurd e (by decide +kernel))⟩
  refine seq_if (σ := S0) (eq_str (ev_var rfl) fun _ _ => ev_C) (fun g2 H2 s2 => ?_) (fun g2 H2 s2 => ?_)
  · have s02 := s1.tr s2
    refine ⟨rfl, fun q3 t3 H3 n3 sg3 => ?_⟩
    refine call_go (cons_go (c_go (nil_go ?_)))
    refine ⟨"p", rfl, by decide +kernel, fun q4 t4 H4 n4 sg4 => ?_⟩
    refine cat_fin n3 n4 (by rw [sg3.nl, sg4.nl]; decide) (fun q5 H5 n5 => ?_)
    refine ⟨szL rfl, fun r6 hr6 => ⟨szL rfl, fun q6 hq6 => ?_⟩⟩
    have s6 : Same H5 (upd H5 r6 (.lst [.str "leave"])) := Same.new hr6
    have h6 : upd H5 r6 (.lst [.str "leave"]) r6 = some (.lst [.str "leave"]) := upd_same
    generalize upd H5 r6 (.lst [.str "leave"]) = H6 at s6 h6 hq6 ⊢
    have n6 : NewT H5 (upd H6 q6 (.lst [.ref r6])) q6 (.row r6 ["leave"] .nil) := one_new s6 ⟨h6, trivial⟩ (by simp [AT.adr]) (fun x hx => by simp only [AT.adr, List.mem_cons, List.not_mem_nil, or_false] at hx; rw [hx]; exact hr6) (Same.new hq6) hq6 upd_same
    have sg6 : Sg (AT.row r6 ["leave"] .nil) 0 0 0 1 := ⟨⟨by decide +kernel, trivial⟩, rfl, rfl, rfl, rfl⟩
    have sg5 := sg3.cat sg4
    refine cat_fin n5 n6 (by rw [sg5.nl, sg6.nl]; decide) (fun q7 H7 n7 => ?_)
    have sg7 := sg5.cat sg6
    have n7' := n7.from_ s02
    exact h0 q7 _ H7 n (by omega) (NewB.of hd (Same.rf H).x ⟨_, hd⟩ n7') (hb.up n7'.sm) ⟨sg7.good, by rw [sg7.nl]; decide, once_of sg7 (by decide) (by decide) (by decide) (fun _ => ⟨rfl, rfl⟩)⟩
  have s02 := s1.tr s2
  have hb2 := hb.up s02
  have nl : k = "leave" → False := fun e => absurd e (of_decide_eq_false g2)
  refine ⟨_, rfl, d, c, n, 2, rfl, hb2, by omega, by decide, by decide, fun r H3 r0 r2 s3 hb3 => ?_⟩
  refine ⟨rfl, _, rfl, ?_⟩
  obtain ⟨kv3, hd3⟩ := bag_d hb3
  have s03 : SameX d H H3 := s02.x.tr s3
  refine iteB (fun g3 => ?_) (fun g3 => ?_)
  · refine set_te (lst_go (cons_go (mk_b (fun p4 r4 i4 H4 s4 o4 d4 x4 => ?_))))
    refine cons_go (mk_b (fun p5 r5 i5 H5 s5 o5 d5 x5 => ?_))
    refine nil_go ⟨szL rfl, fun b6 hb6 => ?_⟩
    have n6 : NewT H3 (upd H5 b6 (.lst [.ref p4, .ref p5])) b6 ((AT.blk p4 i4 "full" (.row r4 ["quit", "no"] .nil) .nil).app (.blk p5 i5 "bare" (.row r5 ["quit", "no"] .nil) .nil)) := two_rows s4 o4 d4 x4 s5 o5 d5 x5 (Same.new hb6) hb6 upd_same
    generalize upd H5 b6 (.lst [.ref p4, .ref p5]) = H6 at n6 ⊢
    refine ⟨rfl, fun q7 t7 H7 n7 sg7 => ?_⟩
    refine lst_go (cons_go (call_go (cons_go (c_go (cons_go (c_go (cons_go (c_go (cons_go (var_go rfl (nil_go ?_)))))))))))
    refine ⟨_, _, _, _, rfl, fun r8 H8 s8 hr8 h8 => ?_⟩
    refine nil_go ⟨szL rfl, fun q9 hq9 => ?_⟩
    -- the step with the older blocks, behind the rows that were found
    have n6' := n6.up n7.sm
    obtain ⟨oS8, dS8, xS8⟩ := step_new (z := "stretch") (o := none) (p := some "p") n6' s8 hr8 h8
    have q9s : sizeLine = 16777216 := sizeLine_eq
    have hl7 := AT.len_nl t7
    have hl8 := AT.len_refs t7
    have hl9 := sg7.nl
    have s9 : Same H8 (upd H8 q9 (.lst [.ref r8])) := Same.new hq9
    have h9 : upd H8 q9 (.lst [.ref r8]) q9 = some (.lst [.ref r8]) := upd_same
    generalize upd H8 q9 (.lst [.ref r8]) = H9 at s9 h9 ⊢
    refine ⟨q7, q9, _, _, rfl, rfl, (s8.tr s9) _ _ n7.at_, h9, (by show t7.refs.length + 1 ≤ _; omega), fun qa hqa => ?_⟩
    have sg8 : Sg (AT.step r8 b6 "stretch" none (some "p") ((AT.blk p4 i4 "full" (.row r4 ["quit", "no"] .nil) .nil).app (.blk p5 i5 "bare" (.row r5 ["quit", "no"] .nil) .nil)) .nil) 0 1 0 7 := ⟨⟨stP (by decide +kernel) (by decide +kernel), ⟨by decide +kernel, (by decide +kernel : ("full" : Str) ∉ (["bare"] : List Str)), ⟨by decide +kernel, trivial⟩, by decide +kernel, (fun z => nomatch z), ⟨by decide +kernel, trivial⟩, trivial⟩, trivial⟩, rfl, rfl, rfl, rfl⟩
    have sga := sg7.cat sg8
    have smA : Same H3 H9 := ((n6.sm.tr n7.sm).tr s8).tr s9
    have o7 := AT.own_up t7 (fun x _ o k => (s8.tr s9) _ _ k) n7.own
    have o8 := AT.own_up _ (fun x _ o k => s9 _ _ k) oS8
    have nA : NewT H3 (upd H9 qa (.lst (t7.refs ++ [.ref r8]))) qa (t7.app (AT.step r8 b6 "stretch" none (some "p") ((AT.blk p4 i4 "full" (.row r4 ["quit", "no"] .nil) .nil).app (.blk p5 i5 "bare" (.row r5 ["quit", "no"] .nil) .nil)) .nil)) := by
      refine one_new smA ((AT.own_app _ _).mpr ⟨o7, o8⟩) ?_ ?_ (Same.new hqa) hqa (by rw [upd_same, AT.refs_app]; rfl)
      · rw [AT.adr_app, List.nodup_append]
        refine ⟨n7.nd, dS8, fun x hx y hy e => ?_⟩
        subst e
        have hx6 := n7.new x hx
        have hx7 := adr_in n7 x hx
        simp only [AT.adr, List.mem_cons, List.append_nil] at hy
        rcases hy with k | k | k
        · rw [k] at hx7; exact hx7 hr8
        · rw [k, n6.at_] at hx6; cases hx6
        · exact adr_in n6 x k hx6
      · intro x hx
        rw [AT.adr_app] at hx
        rcases List.mem_append.mp hx with k | k
        · exact none_of n6.sm (n7.new x k)
        · exact xS8 x k
    exact h0 qa _ _ (n + 1) (by omega) (NewB.of hd s03 ⟨_, hd3⟩ nA) (hb3.up nA.sm) ⟨sga.good, by rw [sga.nl]; decide, once_of sga (by decide) (by decide) (by decide) (fun e => (nl e).elim)⟩
  · refine ⟨rfl, fun q4 t4 H4 n4 sg4 => ?_⟩
    refine call_go (cons_go (c_go (cons_go (c_go (nil_go ?_)))))
    refine ⟨"i", "q", rfl, by decide +kernel, by decide +kernel, fun q5 t5 H5 n5 sg5 => ?_⟩
    refine cat_fin n4 n5 (by rw [sg4.nl, sg5.nl]; decide) (fun q6 H6 n6 => ?_)
    have sg6 := sg4.cat sg5
    refine call_go (cons_go (c_go (nil_go ?_)))
    refine ⟨"p", rfl, by decide +kernel, fun q7 t7 H7 n7 sg7 => ?_⟩
    refine cat_fin n6 n7 (by rw [sg6.nl, sg7.nl]; decide) (fun q8 H8 n8 => ?_)
    have sg8 := sg6.cat sg7
    exact h0 q8 _ H8 (n + 1) (by omega) (NewB.of hd s03 ⟨_, hd3⟩ n8) (hb3.up n8.sm) ⟨sg8.good, by rw [sg8.nl]; decide, once_of sg8 (by decide) (by decide) (by decide) (fun e => (nl e).elim)⟩
end
end K59


set_option Elab.async false
set_option linter.all false
set_option maxRecDepth 100000
set_option maxHeartbeats 4000000
namespace K59
open PySem PySem.Spec PyProof.Rows L2
section
variable {P : Program} {w : World} {K : PySem.W.Frag} {mg : Str → Option Value} {base : Heap}
def spOutc : Sp := fun vs H Q E => ∃ z : Str, vs = [.str z] ∧ z ∈ stW ∧ ∀ q H', Same H H' → H' q = some (.lst ((outs z).map V.str)) → Q (.ref q) H'
def told7 : List (Key × V) := [(.inr "find", .str "there none"), (.inr "look", .str "held stale"), (.inr "lay", .str "laid full"), (.inr "give", .str "given out"), (.inr "free", .str "freed unlent"), (.inr "strike", .str "struck bare"), (.inr "stretch", .str "stretched full bare")]
def told4 : List (Key × V) := [(.inr "find", .str "there none"), (.inr "look", .str "held stale"), (.inr "lay", .str "laid full"), (.inr "give", .str "given out")]
theorem told_at {z : Str} (h : z ∈ stW) : ∃ y : Str, valV told7 (.inr z) = some (.str y) ∧ Txt.split y spS = outs z ∧ y.length ≤ 1000 := by
  simp only [stW, List.mem_cons, List.not_mem_nil, or_false] at h
  rcases h with rfl | rfl | rfl | rfl | rfl | rfl | rfl <;> exact ⟨_, rfl, by decide +kernel, by decide +kernel⟩
theorem asg_go {te : TE} {g : TG} {s : TS} {D : Ends} {z : L2.St} {H : Hp} (h : te z H fun x H1 => g x z H1 (s D)) : tSeq (tAsg te g) s D z H := h
theorem ok_outc (T : Tx P w K mg) : FnX P w K mg base CX0 1 "_law_outcomes" ["_law_word"] [] spOutc := by
  refine T.d_l_outcomes.ok0 sc_l_outcomes (fun _ _ _ _ _ _ us hl => match us, hl with | [_], _ => rfl) (fun vs H Q E h => ?_) (fun f cdv A outer s H vs Q E hr h => have hu := hu_of hr; ⟨_, (by exact (pss_cons (ps_set (i := 1) sc_l_outcomes.nd rfl (Or.inl rfl) (pe_disp (pps_cons pe_str pe_str (pps_cons pe_str pe_str (pps_cons pe_str pe_str (pps_cons pe_str pe_str pps_nil)))) (by rfl) (by rfl) (fun z => by cases z) (by decide)))
      (pss_cons (ps_asg (pe_tup (pa_cons pe_str (pa_cons pe_str (pa_cons pe_str pa_nil)))) (pg_tup rfl (pgs_cons (pg_sub (pv 1) pe_str (set_dict hu)) (pgs_cons (pg_sub (pv 1) pe_str (set_dict hu)) (pgs_cons (pg_sub (pv 1) pe_str (set_dict hu)) pgs_nil)))))
      (pss_one (ps_ret (pe_split (pe_dget hu (pv 1) (pv 0) (fun _ _ => rfl)) pe_str)))))), ?_⟩)
  · obtain ⟨z, rfl, _⟩ := h
    rfl
  obtain ⟨z, rfl, hz, h0⟩ := h
  refine set_te (fun D hD => ⟨upd_same, told4, rfl, (by show 4 ≤ 15; decide), ?_⟩)
  have em : mergeK [] told4 = told4 := rfl
  rw [upd_upd, em]
  have s1 : Same H (upd H D (.dK told4)) := Same.new hD
  have h1 : upd H D (.dK told4) D = some (.dK told4) := upd_same
  generalize upd H D (.dK told4) = H1 at s1 h1 ⊢
  refine asg_go (mk_tup (ev_cons ev_C fun _ _ => ev_cons ev_C fun _ _ => ev_cons ev_C fun _ _ => ev_nil) (fun H2 tp s2 _ ht => ?_))
  have h2 := s2 _ _ h1
  refine ⟨tp, _, rfl, .inl (.inl ht), rfl, _, _, rfl, _, rfl, D, _, rfl, DPut.k (k := Sum.inr "free") h2 (by show told4.length < sizeLine; exact (by decide : 4 < sizeLine)), ?_⟩
  refine ⟨_, _, rfl, _, rfl, D, _, rfl, DPut.k (k := Sum.inr "strike") upd_same (by show 5 < sizeLine; decide), ?_⟩
  refine ⟨_, _, rfl, _, rfl, D, _, rfl, DPut.k (k := Sum.inr "stretch") upd_same (by show 6 < sizeLine; decide), rfl, ?_⟩
  rw [upd_upd, upd_upd]
  obtain ⟨y, hy1, hy2, hy3⟩ := told_at hz
  have q9 : sizeLine = 16777216 := sizeLine_eq
  have hT : upd H2 D (.dK told7) D = some (.dK told7) := upd_same
  refine ⟨_, rfl, _, rfl, D, .str y, rfl, .inl ⟨told7, .inr z, .inl hT, rfl, hy1.symm⟩, ⟨y, rfl⟩, y, spS, rfl, rfl, by decide +kernel, by omega, fun q hq => ?_⟩
  refine h0 q _ ?_ (by rw [upd_same, hy2])
  intro b o hb
  have hbD : b ≠ D := ne_of_none hb hD
  have hq0 : (upd H2 D (.dK told7)) b = some o := by rw [upd_ne hbD]; exact (s1.tr s2) _ _ hb
  have hbq : b ≠ q := fun e => by rw [e] at hq0; exact absurd (hq.symm.trans hq0) (by simp)
  rw [upd_ne hbq]
  exact hq0
def AT.dpt : AT → Nat
  | .nil => 0
  | .row _ _ t => t.dpt
  | .step _ _ _ _ _ bl t => max (bl.dpt + 1) t.dpt
  | .blk _ _ _ rs t => max rs.dpt t.dpt
theorem dpt_nl : ∀ t : AT, t.dpt ≤ t.nl
  | .nil => Nat.le_refl _
  | .row _ _ t => by have := dpt_nl t; show t.dpt ≤ 1 + t.nl; omega
  | .step _ _ _ _ _ bl t => by have := dpt_nl t; have := dpt_nl bl; show max (bl.dpt + 1) t.dpt ≤ 1 + bl.nl + t.nl; omega
  | .blk _ _ _ rs t => by have := dpt_nl t; have := dpt_nl rs; show max rs.dpt t.dpt ≤ 2 + rs.nl + t.nl; omega
theorem il_nl : ∀ t : AT, t.il.length ≤ t.nl
  | .nil => Nat.le_refl _
  | .row _ _ t => by have := il_nl t; show t.il.length ≤ 1 + t.nl; omega
  | .step _ _ _ _ _ bl t => by have := il_nl t; have := il_nl bl; show (bl.il ++ t.il).length ≤ 1 + bl.nl + t.nl; rw [List.length_append]; omega
  | .blk _ _ _ rs t => by have := il_nl t; have := il_nl rs; show (rs.il ++ t.il).length + 1 ≤ 2 + rs.nl + t.nl; rw [List.length_append]; omega
/-- the row at the front of good rows -/
theorem at_row {t : AT} {x : V} {ys : List V} (hg : t.good none) (h : t.refs = x :: ys) : (∃ r ws u, t = .row r ws u ∧ x = .ref r ∧ ws ∈ plS ∧ u.good none ∧ u.refs = ys) ∨ (∃ r b z o p bl u, t = .step r b z o p bl u ∧ x = .ref r ∧ stOk z o p ∧ bl.good (some z) ∧ u.good none ∧ u.refs = ys) := by
  cases t with
  | nil => cases h
  | row r ws u => injection h with e1 e2; exact .inl ⟨r, ws, u, rfl, e1.symm, hg.1, hg.2, e2⟩
  | step r b z o p bl u => injection h with e1 e2; exact .inr ⟨r, b, z, o, p, bl, u, rfl, e1.symm, hg.1, hg.2.1, hg.2.2, e2⟩
  | blk r b o bl u => exact hg.elim
theorem at_blk {t : AT} {z : Str} {x : V} {ys : List V} (hg : t.good (some z)) (h : t.refs = x :: ys) : ∃ p i o rs u, t = .blk p i o rs u ∧ x = .ref p ∧ o ∈ outs z ∧ rs.good none ∧ u.good (some z) ∧ u.refs = ys := by
  cases t with
  | nil => cases h
  | row r ws u => exact hg.elim
  | step r b z o p bl u => exact hg.elim
  | blk r b o bl u => injection h with e1 e2; exact ⟨r, b, o, bl, u, rfl, e1.symm, hg.1, hg.2.2.1, hg.2.2.2, e2⟩
theorem refs_nil {t : AT} (h : t.refs = []) : t = .nil := by cases t <;> first | rfl | cases h
theorem pl_first {ws : List Str} (h : ws ∈ plS) : ∃ z r, ws = z :: r ∧ z ≠ "step" ∧ (z = "quit" ↔ ws = (["quit", "ok"] : List Str) ∨ ws = (["quit", "no"] : List Str)) := by
  simp only [plS, List.mem_cons, List.not_mem_nil, or_false] at h
  rcases h with rfl | rfl | rfl | rfl | rfl | rfl | rfl | rfl | rfl <;> exact ⟨_, _, rfl, by decide +kernel, by decide +kernel⟩
def spLists (d : Nat) : Sp := fun vs H Q E => ∃ (a : Addr) (t : AT), vs = [.ref a] ∧ H a = some (.lst t.refs) ∧ t.own H ∧ t.good none ∧ t.nl ≤ 1000 ∧ t.dpt < d ∧ ∀ q H', Same H H' → H q = none → H' q = some (.lst ((a :: t.il).map V.ref)) → Q (.ref q) H'
theorem ok_lists (T : Tx P w K mg) : ∀ d, FnX P w K mg base CX0 (d + 1) "_law_lists" ["_law_rows"] [] (spLists d)
  | 0 => T.d_l_lists.ok0 sc_l_lists (fun _ _ _ _ _ _ us hl => match us, hl with | [_], _ => rfl) (fun vs H Q E h => by obtain ⟨a, t, rfl, _, _, _, _, h, _⟩ := h; omega) (fun f cdv A outer s H vs Q E hr h => by obtain ⟨a, t, rfl, _, _, _, _, h, _⟩ := h; omega)
  | d + 1 => by
    have F_l_lists := ok_lists T d
    refine T.d_l_lists.ok0 sc_l_lists (fun _ _ _ _ _ _ us hl => match us, hl with | [_], _ => rfl) (fun vs H Q E h => ?_) (fun f cdv A outer s H vs Q E hr h => have hu := hu_of hr; ⟨_, (by exact (pss_cons (ps_set (i := 1) sc_l_lists.nd rfl (Or.inl rfl) (pe_lst (pa_cons (pv 0) pa_nil)))
      (pss_cons (ps_for PassesOwn.never rfl (pi_list (pv 0)) (pg_name (i := 2) sc_l_lists.nd rfl (Or.inl rfl))
        (pss_one (ps_if (pt_cmpR op_eq (pe_ix ix_list (pv 2) pe_int (fun _ _ => rfl)) pe_str (nomark _)) (pss_one (ps_for PassesOwn.never rfl (pi_list (pe_ix ix_list (pv 2) pe_int (fun _ _ => rfl))) (pg_unl rfl (pgs_cons (pg_name (i := 3) sc_l_lists.nd rfl (Or.inl rfl)) (pgs_cons (pg_name (i := 4) sc_l_lists.nd rfl (Or.inl rfl)) pgs_nil)))
        (pss_one (ps_set (i := 1) sc_l_lists.nd rfl (Or.inl rfl) (pe_op op_cat (pv 1) (pe_callX F_l_lists (hr.mono (by first | decide | omega)) pass0 (pa_cons (pv 4) pa_nil))))))) pss_nil)))
      (pss_one (ps_ret (pv 1)))))), ?_⟩)
    · obtain ⟨a, t, rfl, _⟩ := h
      rfl
    obtain ⟨a, t, rfl, ha, ho, hg, hn, hd, h0⟩ := h
    have q9 : sizeLine = 16777216 := sizeLine_eq
    refine set_lst (vs := [.ref a]) (ev_cons (ev_var rfl) fun _ _ => ev_nil) (fun H1 f1 s1 hf1 hl1 => ?_)
    refine for_lst (K := K) (a := a) (xs := t.refs) (fun i σ H' => Same H H' ∧ ∃ (fa : Addr) (acc : List Addr) (y2 y3 y4 : Option V) (rest : AT), σ = [some (.ref a), some (.ref fa), y2, y3, y4] ∧ H' fa = some (.lst ((a :: acc).map V.ref)) ∧ H fa = none ∧ rest.refs = t.refs.drop i ∧ rest.own H ∧ rest.good none ∧ t.il = acc ++ rest.il ∧ rest.nl ≤ t.nl ∧ rest.dpt ≤ t.dpt) (ev_var rfl) (.inl (.inl (s1 _ _ ha))) (fun H2 s2 => ⟨s1.tr s2, f1, [], none, none, none, t, rfl, s2 _ _ hl1, hf1, rfl, ho, hg, rfl, Nat.le_refl _, Nat.le_refl _⟩) (fun i σ H' _ k => .inl (.inl (k.1 _ _ ha))) ?_ ?_
    · rintro i x σ H2 hx ⟨s2, fa, acc, y2, y3, y4, rest, rfl, hfa, hfn, hre, hro, hrg, hil, hrn, hrd⟩
      rw [drop_at hx] at hre
      rcases at_row hrg hre with ⟨r, ws, u, rfl, rfl, hws, hug, hur⟩ | ⟨r, b, z, o, p, bl, u, rfl, rfl, hst, hbg, hug, hur⟩
      · obtain ⟨z, wr, rfl, hz, _⟩ := pl_first hws
        have h9 : EvT (tTest (tOp rEq (tOp (rIxL K) (tVar 2) (tC (V.int 0))) (tC (V.str "step")))) [some (.ref a), some (.ref fa), some (.ref r), y3, y4] H2 (decide (z = "step")) := eq_str (ev_ixL (ev_var rfl) (fun _ _ => ev_C) (.inl (.inl (s2 _ _ hro.1))) (at0 _ _)) fun _ _ => ev_C
        rw [decide_eq_false hz] at h9
        refine do_if h9 (fun z => by cases z) (fun _ H3 s3 => ⟨s2.tr s3, fa, acc, _, _, _, u, rfl, s3 _ _ hfa, hfn, hur, hro.2, hug, hil, by have : (AT.row r (z :: wr) u).nl = 1 + u.nl := rfl; omega, hrd⟩)
      · have h9 : EvT (tTest (tOp rEq (tOp (rIxL K) (tVar 2) (tC (V.int 0))) (tC (V.str "step")))) [some (.ref a), some (.ref fa), some (.ref r), y3, y4] H2 (decide (("step" : Str) = "step")) := eq_str (ev_ixL (ev_var rfl) (fun _ _ => ev_C) (.inl (.inl (s2 _ _ hro.1))) rfl) fun _ _ => ev_C
        rw [decide_eq_true rfl] at h9
        have e1 : (AT.step r b z o p bl u).nl = 1 + bl.nl + u.nl := rfl
        have e2 : (AT.step r b z o p bl u).dpt = max (bl.dpt + 1) u.dpt := rfl
        have e3 : (AT.step r b z o p bl u).il = bl.il ++ u.il := rfl
        refine do_if h9 (fun _ H3 s3 => ?_) (fun z => by cases z)
        have s23 := s2.tr s3
        refine for_lst (K := K) (a := b) (xs := bl.refs) (fun j σ H' => Same H H' ∧ ∃ (f5 : Addr) (ac2 : List Addr) (y3 y4 : Option V) (rest : AT), σ = [some (.ref a), some (.ref f5), some (.ref r), y3, y4] ∧ H' f5 = some (.lst ((a :: (acc ++ ac2)).map V.ref)) ∧ H f5 = none ∧ rest.refs = bl.refs.drop j ∧ rest.own H ∧ rest.good (some z) ∧ bl.il = ac2 ++ rest.il ∧ rest.nl ≤ bl.nl ∧ rest.dpt ≤ bl.dpt) (ev_ixL (ev_var rfl) (fun _ _ => ev_C) (.inl (.inl (s23 _ _ hro.1))) rfl) (.inl (.inl (s23 _ _ hro.2.1))) (fun H4 s4 => ⟨s23.tr s4, fa, [], y3, y4, bl, rfl, by rw [List.append_nil]; exact (s3.tr s4) _ _ hfa, hfn, rfl, hro.2.2.1, hbg, rfl, Nat.le_refl _, Nat.le_refl _⟩) (fun j σ H' _ k => .inl (.inl (k.1 _ _ hro.2.1))) ?_ ?_
        · rintro j x2 σ H4 hx2 ⟨s4, f5, ac2, y3, y4, re2, rfl, hf5, hf5n, hre2, hro2, hrg2, hil2, hrn2, hrd2⟩
          rw [drop_at hx2] at hre2
          obtain ⟨pp, ii, oo, rs, u2, rfl, rfl, hoo, hrsg, hu2g, hu2r⟩ := at_blk hrg2 hre2
          have f1 : (AT.blk pp ii oo rs u2).nl = 2 + rs.nl + u2.nl := rfl
          have f2 : (AT.blk pp ii oo rs u2).dpt = max rs.dpt u2.dpt := rfl
          have f3 : (AT.blk pp ii oo rs u2).il = ii :: (rs.il ++ u2.il) := rfl
          refine ⟨pp, _, rfl, .inl (.inl (s4 _ _ hro2.1)), rfl, _, _, rfl, _, _, rfl, rfl, ?_⟩
          refine ⟨_, rfl, _, rfl, ii, rs, rfl, s4 _ _ hro2.2.1, AT.own_up rs (fun x _ o k => s4 _ _ k) hro2.2.2.1, hrsg, by omega, by omega, fun q H5 s5 hq hq5 => ?_⟩
          have hl1 := il_nl t
          have hl2 := il_nl rs
          have hl3 : acc.length + ac2.length ≤ t.nl := by
            rw [hil, e3, hil2] at hl1
            simp only [List.length_append] at hl1
            omega
          refine ⟨f5, q, _, _, rfl, rfl, s5 _ _ hf5, hq5, by simp only [List.length_map, List.length_cons, List.length_append]; omega, fun q6 hq6 => ?_⟩
          refine nm ⟨(s4.tr s5).tr (Same.new hq6), q6, ac2 ++ ii :: rs.il, _, _, u2, rfl, ?_, none_of (s4.tr s5) hq6, hu2r, hro2.2.2.2, hu2g, by rw [hil2, f3]; simp, by omega, by omega⟩
          rw [upd_same]
          simp
        · rintro σ H4 ⟨s4, f5, ac2, y3, y4, re2, rfl, hf5, hf5n, hre2, hro2, hrg2, hil2, hrn2, hrd2⟩
          rw [List.drop_length] at hre2
          have := refs_nil hre2
          subst this
          have e8 : ac2 = bl.il := by rw [hil2]; exact (List.append_nil _).symm
          subst e8
          exact ⟨s4, f5, acc ++ bl.il, _, _, _, u, rfl, hf5, hf5n, hur, hro.2.2.2, hug, by rw [hil, e3]; simp, by omega, by omega⟩
    · rintro σ H2 ⟨s2, fa, acc, y2, y3, y4, rest, rfl, hfa, hfn, hre, hro, hrg, hil, hrn, hrd⟩
      rw [List.drop_length] at hre
      have := refs_nil hre
      subst this
      have e8 : acc = t.il := by rw [hil]; exact (List.append_nil _).symm
      subst e8
      exact ⟨_, rfl, h0 fa H2 s2 hfn hfa⟩
end
end K59


set_option Elab.async false
set_option linter.all false
set_option maxRecDepth 100000
set_option maxHeartbeats 4000000
namespace K59
open PySem PySem.Spec PyProof.Rows L2
section
variable {P : Program} {w : World} {K : PySem.W.Frag} {mg : Str → Option Value} {base : Heap}
theorem draw_go {σ : L2.St} {H : Hp} {Q : VK} {d c : Addr} {n i : Nat} {lim : Nat} (hi : σ[i]? = some (some (.ref d))) (hb : Bag H d c n) (hn : n < 2 ^ 30) (h0 : 0 < lim) (h1 : lim ≤ 1000) (k : ∀ (r : Nat) H', r < lim → SameX d H H' → Bag H' d c (n + 1) → Q (.int (r : Nat)) H') :
    tCall spDraw [] E0 (tCons (tVar i) (tCons (tC (.int (lim : Nat))) tNil)) σ H Q :=
  ⟨_, hi, d, c, n, (lim : Nat), rfl, hb, by omega, by omega, by omega, fun r H' r0 r1 s hb' => by
    obtain ⟨m, rfl⟩ := Int.eq_ofNat_of_zero_le r0
    exact k m H' (by omega) s hb'⟩
theorem bag_ne {H : Hp} {d c x : Addr} {n : Nat} {l : List V} (h : Bag H d c n) (hx : H x = some (.lst l)) : x ≠ d := fun e => by
  obtain ⟨kv, hd⟩ := bag_d h
  rw [e, hd] at hx
  cases hx
/-- xs[draw(bag, len)], xs a list display -/
theorem pick_go {σ : L2.St} {H : Hp} {Q : VK} {ta : TA} {xs : List V} {d c : Addr} {n i lim : Nat} (ha : EvA ta σ H xs) (hi : σ[i]? = some (some (.ref d))) (hb : Bag H d c n) (hn : n < 2 ^ 30) (hl : lim = xs.length) (h0 : 0 < lim) (k : ∀ (r : Nat) v H', xs[r]? = some v → SameX d H H' → Bag H' d c (n + 1) → Q v H') (h1 : Nat.ble xs.length 1000 = true := by rfl) :
    tOp (rIxL K) (tLst ta) (tCall spDraw [] E0 (tCons (tVar i) (tCons (tC (.int (lim : Nat))) tNil))) σ H Q := by
  refine mk_lst (Q := fun x H1 => tCall spDraw [] E0 (tCons (tVar i) (tCons (tC (.int (lim : Nat))) tNil)) σ H1 fun y H2 => rIxL K x y H2 Q) ha (fun H1 l s1 _ hl1 => ?_) h1
  refine draw_go hi (hb.up s1) hn h0 (by have := Nat.le_of_ble_eq_true h1; omega) (fun r H2 hr s2 hb2 => ?_)
  have hlt : r < xs.length := by omega
  refine ⟨l, xs, r, xs[r], rfl, rfl, .inl (.inl (s2 _ _ (bag_ne (hb.up s1) hl1) hl1)), atI_nat (by simp [hlt]), k r _ H2 (by simp [hlt]) (s1.x.tr s2) hb2⟩
/-- xs[draw(bag, len)], xs a name -/
theorem pickv_go {σ : L2.St} {H : Hp} {Q : VK} {xs : List V} {p d c : Addr} {n i j lim : Nat} (hv : σ[j]? = some (some (.ref p))) (hp : H p = some (.lst xs)) (hi : σ[i]? = some (some (.ref d))) (hb : Bag H d c n) (hn : n < 2 ^ 30) (hl : lim = xs.length) (h0 : 0 < lim) (h1 : lim ≤ 1000) (k : ∀ (r : Nat) v H', xs[r]? = some v → SameX d H H' → Bag H' d c (n + 1) → Q v H') :
    tOp (rIxL K) (tVar j) (tCall spDraw [] E0 (tCons (tVar i) (tCons (tC (.int (lim : Nat))) tNil))) σ H Q := by
  refine ⟨_, hv, draw_go hi hb hn h0 h1 (fun r H2 hr s2 hb2 => ?_)⟩
  have hlt : r < xs.length := by omega
  exact ⟨p, xs, r, xs[r], rfl, rfl, .inl (.inl (s2 _ _ (bag_ne hb hp) hp)), atI_nat (by simp [hlt]), k r _ H2 (by simp [hlt]) s2 hb2⟩
/-- one new row -/
structure NewR (d : Addr) (H H' : Hp) (r : Addr) (e : AT) : Prop where
  sm : SameX d H H'
  one : e.one
  refs : e.refs = [.ref r]
  own : e.own H'
  nd : e.adr.Nodup
  new : ∀ x ∈ e.adr, H x = none
  sg : ∃ n, n ≤ 4 ∧ Sg e 0 0 0 n
theorem noneX {d x : Addr} {H H1 : Hp} {c : Addr} {n : Nat} (s : SameX d H H1) (h : Bag H1 d c n) (hx : H1 x = none) : H x = none := by
  cases e : H x with
  | none => rfl
  | some u =>
    by_cases hxd : x = d
    · obtain ⟨kv, hd⟩ := bag_d h
      rw [hxd, hd] at hx; cases hx
    · rw [s _ _ hxd e] at hx; cases hx
theorem mkR {d r : Addr} {H H' : Hp} {ws : List Str} (s : SameX d H H') (h : H' r = some (.lst (ws.map V.str))) (hn : H r = none) (hw : ws ∈ plS) : NewR d H H' r (.row r ws .nil) :=
  ⟨s, rfl, rfl, ⟨h, trivial⟩, by simp [AT.adr], fun x hx => by simp only [AT.adr, List.mem_cons, List.not_mem_nil, or_false] at hx; rw [hx]; exact hn, 1, by decide, ⟨hw, trivial⟩, rfl, rfl, rfl, rfl⟩
theorem par_go {ta : TA} {i j : Nat} {s : TS} {D : Ends} {z : L2.St} {H : Hp} (h : ta z H fun vs H1 => ∃ v u, vs = [v, u] ∧ s D ((z.set i (some v)).set j (some u)) H1) : tSeq (tPar i j ta) s D z H := h
theorem seq_ifR {t : TT} {a r : TS} {D : Ends} {z : L2.St} {H : Hp} (Rst : Hp → Prop) (hc : (∀ H1, Rst H1 → r D z H1) → t z H fun b H1 => if b = true then a { nx := r D, rt := D.rt, bk := D.bk, ct := D.ct } z H1 else r D z H1) (hR : ∀ H1, Rst H1 → r D z H1) : tSeq (tIfS t a tNext) r D z H := hc hR
theorem in_lst {K : PySem.W.Frag} {z : L2.St} {H : Hp} {ta : TA} {ns : List Str} (ha : ∀ H, EvA ta z H (ns.map V.str)) (hl : Nat.ble (ns.map V.str).length 1000 = true := by rfl) : ∀ H1, Same H H1 → ∀ Q : VK, (∀ H2 q, Same H1 H2 → SqL K H2 q (ns.map V.str) ∨ SqT K H2 q (ns.map V.str) → Q (.ref q) H2) → tLst ta z H1 Q :=
  fun H1 _ Q k => mk_lst (ha H1) (fun H2 T s2 _ hT => k H2 T s2 (.inl (.inl (.inl hT)))) hl
def othW : List Str := ["find", "look", "free", "strike"]
def fstO (w o : Str) : Option Str := if w ∈ (["find", "look"] : List Str) then some o else none
def sndO (w p : Str) : Option Str := if w = "find" then none else some p
theorem oth_ok {w o p : Str} (hw : w ∈ othW) (ho : o ∈ idN) (hp : p ∈ plN) : stOk w (fstO w o) (sndO w p) ∧ w ∈ stW ∧ w ∉ onces ∧ (outs w).length = 2 := by
  simp only [othW, List.mem_cons, List.not_mem_nil, or_false] at hw
  rcases hw with rfl | rfl | rfl | rfl
  · exact ⟨.inl ⟨rfl, ⟨o, ho, rfl⟩, rfl⟩, by decide +kernel, by decide +kernel, by decide +kernel⟩
  · exact ⟨.inr (.inl ⟨by decide +kernel, ⟨o, ho, rfl⟩, p, hp, rfl⟩), by decide +kernel, by decide +kernel, by decide +kernel⟩
  · exact ⟨.inr (.inr ⟨by decide +kernel, rfl, p, hp, rfl⟩), by decide +kernel, by decide +kernel, by decide +kernel⟩
  · exact ⟨.inr (.inr ⟨by decide +kernel, rfl, p, hp, rfl⟩), by decide +kernel, by decide +kernel, by decide +kernel⟩
theorem sg_step {r b : Addr} {w : Str} {o p : Option Str} {bl : AT} {n : Nat} (h : stOk w o p) (hw : w ∉ onces) (hb : bl.good (some w)) (h1 : ∀ z ∈ onces, bl.cnt z = 0) (hn : bl.nl = n) : Sg (AT.step r b w o p bl .nil) 0 0 0 (1 + n) := by
  have e : ∀ z ∈ onces, (AT.step r b w o p bl .nil).cnt z = 0 := fun z hz => by
    show (if w = z then 1 else 0) + bl.cnt z + 0 = 0
    rw [if_neg (fun e => hw (by rw [e]; exact hz)), h1 z hz]
  exact ⟨⟨h, hb, trivial⟩, e _ (by decide +kernel), e _ (by decide +kernel), e _ (by decide +kernel), by show 1 + bl.nl + 0 = 1 + n; omega⟩
def spOther : Sp := fun vs H Q E => ∃ (d c : Addr) (n : Nat) (kv : V), vs = [.ref d, kv] ∧ Bag H d c n ∧ n < 2 ^ 29 ∧ ∀ r e H' m, m ≤ n + 20 → NewR d H H' r e → Bag H' d c m → Q (.ref r) H'
theorem ok_other (T : Tx P w K mg) : FnX P w K mg base CX0 2 "_law_other" ["_law_bag_here", "_law_kind"] [] spOther := by
  have F_l_step := ok_lstep (base := base) T
  have F_l_outcomes := ok_outc (base := base) T
  have F_l_draw := ok_draw (w := w) (base := base) T
  refine T.d_l_other.ok0 sc_l_other (fun _ _ _ _ _ _ us hl => match us, hl with | [_, _], _ => rfl) (fun vs H Q E h => ?_) (fun f cdv A outer s H vs Q E hr h => have hu := hu_of hr; ⟨_, (by exact (pss_cons (ps_par (i := 2) (j := 3) (by rfl) sc_l_other.nd rfl rfl (by decide) rfl rfl (pa_cons (pe_ix ix_list (pe_lst (pa_cons pe_str (pa_cons pe_str pa_nil))) (pe_callX F_l_draw (hr.mono (by first | decide | omega)) pass0 (pa_cons (pv 0) (pa_cons pe_int pa_nil))) (fun _ _ => rfl)) (pa_cons (pe_ix ix_list (pe_lst (pa_cons pe_str (pa_cons pe_str pa_nil))) (pe_callX F_l_draw (hr.mono (by first | decide | omega)) pass0 (pa_cons (pv 0) (pa_cons pe_int pa_nil))) (fun _ _ => rfl)) pa_nil)) (by rfl))
      (pss_cons (ps_set (i := 4) sc_l_other.nd rfl (Or.inl rfl) (pe_lst (pa_cons pe_str (pa_cons pe_str (pa_cons pe_str (pa_cons pe_str pa_nil))))))
      (pss_cons (ps_set (i := 5) sc_l_other.nd rfl (Or.inl rfl) (pe_ix ix_list (pv 4) (pe_callX F_l_draw (hr.mono (by first | decide | omega)) pass0 (pa_cons (pv 0) (pa_cons pe_int pa_nil))) (fun _ _ => rfl)))
      (pss_cons (ps_par (i := 6) (j := 7) (by rfl) sc_l_other.nd rfl rfl (by decide) rfl rfl (pa_cons (pe_ifExp (pt_cmpR op_in_seq (pv 5) (pe_lst (pa_cons pe_str (pa_cons pe_str pa_nil))) (by rfl)) (pv 2) pe_non) (pa_cons (pe_ifExp (pt_cmpR op_eq (pv 5) pe_str (nomark _)) pe_non (pv 3)) pa_nil)) (by rfl))
      (pss_cons (ps_set (i := 8) sc_l_other.nd rfl (Or.inl rfl) (pe_callX F_l_step (hr.mono (by first | decide | omega)) pass0 (pa_cons (pv 5) (pa_cons (pv 6) (pa_cons (pv 7) (pa_cons (pe_lst pa_nil) pa_nil))))))
      (pss_cons (ps_set (i := 9) sc_l_other.nd rfl (Or.inl rfl) (pe_callX F_l_outcomes (hr.mono (by first | decide | omega)) pass0 (pa_cons (pv 5) pa_nil)))
      (pss_cons (ps_if (pt_cmpR op_eq (pe_callX F_l_draw (hr.mono (by first | decide | omega)) pass0 (pa_cons (pv 0) (pa_cons pe_int pa_nil))) pe_int (nomark _)) (pss_one (ps_expr (pe_bm PySem.F.plainAttrs_list PySem.F.slot_list_append PySem.F.type_list_append mt_append (pe_ix ix_list (pv 8) pe_int (fun _ _ => rfl)) (pa_cons (pe_lst (pa_cons (pe_ix ix_list (pv 9) (pe_callX F_l_draw (hr.mono (by first | decide | omega)) pass0 (pa_cons (pv 0) (pa_cons pe_int pa_nil))) (fun _ _ => rfl)) (pa_cons (pe_op op_rep (pe_lst (pa_cons (pe_lst (pa_cons pe_str (pa_cons pe_str pa_nil))) pa_nil)) (pe_callX F_l_draw (hr.mono (by first | decide | omega)) pass0 (pa_cons (pv 0) (pa_cons pe_int pa_nil)))) pa_nil))) pa_nil)))) pss_nil)
      (pss_cons (ps_set (i := 10) sc_l_other.nd rfl (Or.inl rfl) (pe_lst (pa_cons (pe_lst (pa_cons pe_str pa_nil)) (pa_cons (pe_lst (pa_cons pe_str (pa_cons (pv 2) pa_nil))) (pa_cons (pe_lst (pa_cons pe_str (pa_cons pe_str (pa_cons pe_str pa_nil)))) (pa_cons (pe_lst (pa_cons pe_str (pa_cons pe_str (pa_cons pe_str pa_nil)))) pa_nil))))))
      (pss_cons (ps_set (i := 10) sc_l_other.nd rfl (Or.inl rfl) (pe_op op_cat (pv 10) (pe_lst (pa_cons (pe_lst (pa_cons pe_str (pa_cons pe_str (pa_cons pe_str pa_nil)))) (pa_cons (pe_lst (pa_cons pe_str (pa_cons pe_str (pa_cons pe_str pa_nil)))) pa_nil)))))
      (pss_cons (ps_set (i := 10) sc_l_other.nd rfl (Or.inl rfl) (pe_op op_cat (pv 10) (pe_lst (pa_cons (pe_lst (pa_cons pe_str (pa_cons (pe_ix ix_list (pe_lst (pa_cons pe_str (pa_cons pe_str pa_nil))) (pe_callX F_l_draw (hr.mono (by first | decide | omega)) pass0 (pa_cons (pv 0) (pa_cons pe_int pa_nil))) (fun _ _ => rfl)) pa_nil))) (pa_cons (pv 8) (pa_cons (pv 8) (pa_cons (pv 8) pa_nil)))))))
      (pss_one (ps_ret (pe_ix ix_list (pv 10) (pe_callX F_l_draw (hr.mono (by first | decide | omega)) pass0 (pa_cons (pv 0) (pa_cons pe_int pa_nil))) (fun _ _ => rfl))))))))))))))), ?_⟩)
  · obtain ⟨d, c, n, kv, rfl, _⟩ := h
    rfl
  obtain ⟨d, c, n, kv, rfl, hb, hn, h0⟩ := h
  refine par_go (cons_go (pick_go (lim := 2) (xs := [.str "h", .str "i"]) (ev_cons ev_C fun _ _ => ev_cons ev_C fun _ _ => ev_nil) rfl hb (by omega) rfl (by decide) (fun r1 v1 H1 hv1 s1 hb1 => ?_)))
  refine cons_go (pick_go (lim := 2) (xs := [.str "p", .str "q"]) (ev_cons ev_C fun _ _ => ev_cons ev_C fun _ _ => ev_nil) rfl hb1 (by omega) rfl (by decide) (fun r2 v2 H2 hv2 s2 hb2 => nil_go ⟨_, _, rfl, ?_⟩))
  obtain ⟨o, ho, rfl⟩ : ∃ o ∈ idN, v1 = .str o := by
    have := List.mem_of_getElem? hv1
    simp only [List.mem_cons, List.not_mem_nil, or_false] at this
    rcases this with rfl | rfl
    · exact ⟨"h", by decide +kernel, rfl⟩
    · exact ⟨"i", by decide +kernel, rfl⟩
  obtain ⟨p, hp, rfl⟩ : ∃ p ∈ plN, v2 = .str p := by
    have := List.mem_of_getElem? hv2
    simp only [List.mem_cons, List.not_mem_nil, or_false] at this
    rcases this with rfl | rfl
    · exact ⟨"p", by decide +kernel, rfl⟩
    · exact ⟨"q", by decide +kernel, rfl⟩
  have s02 := s1.tr s2
  refine set_lst (vs := othW.map V.str) (ev_cons ev_C fun _ _ => ev_cons ev_C fun _ _ => ev_cons ev_C fun _ _ => ev_cons ev_C fun _ _ => ev_nil) (fun H3 l3 s3 _ hl3 => ?_)
  refine set_te (pickv_go (j := 4) (lim := 4) rfl hl3 rfl (hb2.up s3) (by omega) rfl (by decide) (by decide) (fun r4 v4 H4 hv4 s4 hb4 => ?_))
  obtain ⟨z, hz, rfl⟩ : ∃ z ∈ othW, v4 = .str z := by
    rw [List.getElem?_map] at hv4
    obtain ⟨z, hz, rfl⟩ := Option.map_eq_some_iff.mp hv4
    exact ⟨z, List.mem_of_getElem? hz, rfl⟩
  have s04 : SameX d H H4 := (s02.tr s3.x).tr s4
  obtain ⟨hst, hzW, hzo, hol⟩ := oth_ok hz ho hp
  let S4 : L2.St := [some (.ref d), some kv, some (.str o), some (.str p), some (.ref l3), some (.str z), none, none, none, none, none]
  have E1 : ∀ H, EvE (tIf (tTest (tOp (rIn K false) (tVar 5) (tLst (tCons (tC (V.str "find")) (tCons (tC (V.str "look")) tNil))))) (tVar 2) (tC V.non)) S4 H (oS (fstO z o)) := fun H => by
    refine ev_if (ev_test (ev_in (ns := ["find", "look"]) (ev_var rfl) (in_lst (fun H => ev_cons ev_C fun _ _ => ev_cons ev_C fun _ _ => ev_nil)))) (fun g _ _ => ?_) (fun g _ _ => ?_)
    · unfold fstO; rw [if_pos (of_decide_eq_true g)]; exact ev_var rfl
    · unfold fstO; rw [if_neg (of_decide_eq_false g)]; exact ev_C
  have E2 : ∀ H, EvE (tIf (tTest (tOp rEq (tVar 5) (tC (V.str "find")))) (tC V.non) (tVar 3)) S4 H (oS (sndO z p)) := fun H => by
    refine ev_if (eq_str (x := z) (ev_var rfl) fun _ _ => ev_C) (fun g _ _ => ?_) (fun g _ _ => ?_)
    · unfold sndO; rw [if_pos (of_decide_eq_true g)]; exact ev_C
    · unfold sndO; rw [if_neg (of_decide_eq_false g)]; exact ev_var rfl
  refine par_go ((ev_cons (E1 H4) fun H5 _ => ev_cons (E2 H5) fun _ _ => ev_nil) _ fun H5 s5 => ⟨_, _, rfl, ?_⟩)
  have hb5 := hb4.up s5
  have s05 := s04.tr s5.x
  refine set_te ⟨_, rfl, _, rfl, _, rfl, mk_e (fun b6 H6 n6 => ⟨_, _, _, _, rfl, fun r7 H7 s7 hr7 h7 => ?_⟩)⟩
  obtain ⟨o7, d7, x7⟩ := step_new (z := z) (o := fstO z o) (p := sndO z p) n6 s7 hr7 h7
  have s57 := n6.sm.tr s7
  refine set_te ⟨_, rfl, z, rfl, hzW, fun q8 H8 s8 hq8 => ?_⟩
  have s58 := s57.tr s8
  have hb8 := hb5.up s58
  have s08 := s05.tr s58.x
  have ne7 : r7 ≠ d := fun e => by
    obtain ⟨kvd, hd⟩ := bag_d (hb5.up n6.sm)
    rw [e, hd] at hr7; cases hr7
  have ne6 : b6 ≠ d := fun e => by
    obtain ⟨kvd, hd⟩ := bag_d hb5
    have := n6.qn
    rw [e, hd] at this; cases this
  have x0 : ∀ x ∈ (AT.step r7 b6 z (fstO z o) (sndO z p) .nil .nil).adr, H x = none := fun x hx => noneX s05 hb5 (x7 x hx)
  have rb : r7 ≠ b6 := by
    simp only [AT.adr, List.append_nil, List.nodup_cons, List.mem_cons, not_or] at d7
    exact d7.1.1
  refine seq_ifR (fun Hf => SameX d H Hf ∧ ∃ m e k, m ≤ n + 10 ∧ Bag Hf d c m ∧ e.one ∧ AT.refs e = [.ref r7] ∧ e.own Hf ∧ e.adr.Nodup ∧ (∀ x ∈ e.adr, H x = none) ∧ k ≤ 4 ∧ Sg e 0 0 0 k) (fun hR => ?_) (fun Hf hf => ?_)
  · refine draw_go (lim := 2) rfl hb8 (by omega) (by decide) (by decide) (fun rd H9 hrd s9 hb9 => ⟨rfl, _, rfl, ?_⟩)
    have h7_9 : H9 r7 = some (.lst [.str "step", .str z, oS (fstO z o), oS (sndO z p), .ref b6]) := s9 _ _ ne7 (s8 _ _ h7)
    have h6_9 : H9 b6 = some (.lst []) := s9 _ _ ne6 ((s7.tr s8) _ _ n6.at_)
    refine iteB (fun g => ?_) (fun g => ?_)
    · refine ⟨_, rfl, r7, _, _, _, rfl, rfl, .inl (.inl h7_9), rfl, .inl ⟨rfl, ⟨_, .inl (.inl h6_9)⟩⟩, ?_⟩
      have h8_9 : H9 q8 = some (.lst ((outs z).map V.str)) := s9 _ _ (bag_ne hb8 hq8) hq8
      refine cons_go (lst_go (cons_go (pickv_go (j := 9) (lim := 2) rfl h8_9 rfl hb9 (by omega) (by rw [List.length_map, hol]) (by decide) (by decide) (fun ra va Ha hva sa hba => ?_))))
      obtain ⟨oc, hoc, rfl⟩ : ∃ oc ∈ outs z, va = .str oc := by
        rw [List.getElem?_map] at hva
        obtain ⟨y, hy, rfl⟩ := Option.map_eq_some_iff.mp hva
        exact ⟨y, List.mem_of_getElem? hy, rfl⟩
      have s0a : SameX d H Ha := (s08.tr s9).tr sa
      refine cons_go ⟨szL rfl, fun qn hqn => ⟨szL rfl, fun ql hql => ?_⟩⟩
      have sB : Same Ha (upd Ha qn (.lst [.str "quit", .str "no"])) := Same.new hqn
      have hB : upd Ha qn (.lst [.str "quit", .str "no"]) qn = some (.lst [.str "quit", .str "no"]) := upd_same
      generalize upd Ha qn (.lst [.str "quit", .str "no"]) = HB at sB hB hql ⊢
      have sC : Same HB (upd HB ql (.lst [.ref qn])) := Same.new hql
      have hC : upd HB ql (.lst [.ref qn]) ql = some (.lst [.ref qn]) := upd_same
      generalize upd HB ql (.lst [.ref qn]) = HC at sC hC ⊢
      have hbC := hba.up (sB.tr sC)
      refine draw_go (lim := 2) rfl hbC (by omega) (by decide) (by decide) (fun re HD hre sD hbD => ?_)
      have neq : qn ≠ d := bag_ne (hba.up sB) hB
      have hqD : HD qn = some (.lst [.str "quit", .str "no"]) := sD _ _ neq (sC _ _ hB)
      have hqlD : HD ql = some (.lst [.ref qn]) := sD _ _ (bag_ne hbC hC) hC
      have s0D : SameX d H HD := (s0a.tr (sB.tr sC).x).tr sD
      have qn0 : H qn = none := noneX s0a hba hqn
      obtain ⟨rs, hrs⟩ : ∃ rs : AT, (List.replicate ((re : Nat) : Int).toNat [V.ref qn]).flatten = rs.refs ∧ rs.own HD ∧ rs.adr.Nodup ∧ (∀ x ∈ rs.adr, x = qn) ∧ rs.good none ∧ (∀ y ∈ onces, rs.cnt y = 0) ∧ rs.nl ≤ 1 := by
        have : re = 0 ∨ re = 1 := by omega
        rcases this with rfl | rfl
        · exact ⟨.nil, rfl, trivial, List.nodup_nil, (fun x hx => nomatch hx), trivial, fun y _ => rfl, Nat.zero_le _⟩
        · exact ⟨.row qn ["quit", "no"] .nil, rfl, ⟨hqD, trivial⟩, by simp [AT.adr], fun x hx => by simpa [AT.adr] using hx, ⟨by decide +kernel, trivial⟩, fun y _ => rfl, Nat.le_refl _⟩
      obtain ⟨hr1, hr2, hr3, hr4, hr5, hr6, hr7'⟩ := hrs
      have hsz : [V.ref qn].length * ((re : Nat) : Int).toNat ≤ sizeLine := by
        have q9 : sizeLine = 16777216 := sizeLine_eq
        show 1 * re ≤ _
        omega
      refine ⟨ql, _, _, rfl, rfl, hqlD, by omega, by omega, hsz, fun pi hpi => nil_go ⟨szL rfl, fun pp hpp => nil_go ?_⟩⟩
      rw [hr1] at hpp ⊢
      have sE : Same HD (upd HD pi (.lst rs.refs)) := Same.new hpi
      have hE : upd HD pi (.lst rs.refs) pi = some (.lst rs.refs) := upd_same
      generalize upd HD pi (.lst rs.refs) = HE at sE hE hpp ⊢
      have sF : Same HE (upd HE pp (.lst [.str oc, .ref pi])) := Same.new hpp
      have hF : upd HE pp (.lst [.str oc, .ref pi]) pp = some (.lst [.str oc, .ref pi]) := upd_same
      generalize upd HE pp (.lst [.str oc, .ref pi]) = HF at sF hF ⊢
      have s9D : SameX d H9 HD := (sa.tr (sB.tr sC).x).tr sD
      have h6F : HF b6 = some (.lst []) := (sE.tr sF) _ _ (s9D _ _ ne6 h6_9)
      have h7F : HF r7 = some (.lst [.str "step", .str z, oS (fstO z o), oS (sndO z p), .ref b6]) := (sE.tr sF) _ _ (s9D _ _ ne7 h7_9)
      refine ⟨b6, [], .ref pp, rfl, rfl, h6F, by show 0 < sizeLine; decide, hR _ ⟨?_, n + 8, AT.step r7 b6 z (fstO z o) (sndO z p) (.blk pp pi oc rs .nil) .nil, 1 + (2 + rs.nl), by omega, ?_, rfl, rfl, ?_, ?_, ?_, by omega, ?_⟩⟩
      · intro x u hx hu
        rw [upd_ne (ne_of_none hu (x0 b6 (by simp [AT.adr])))]
        exact (sE.tr sF) _ _ (s0D _ _ hx hu)
      · have hbF := hbD.up (sE.tr sF)
        obtain ⟨cs, a1, a2, a3, a4, g1, g2, g3⟩ := (hbF.mono (by omega) : Bag HF d c (n + 8))
        refine ⟨cs, a1, a2, a3, a4, by rw [upd_ne (Ne.symm ne6)]; exact g1, ?_, g3⟩
        rw [upd_ne (fun e => by
          rw [← e] at h6F
          rw [h6F] at g2
          have hcs : cs = [] := by
            cases cs with
            | nil => rfl
            | cons x y => cases g2
          obtain ⟨cs0, _, _, _, _, g10, g20, _⟩ := hb5
          have := n6.qn
          rw [← e, g20] at this
          cases this)]
        exact g2
      · have fr : ∀ x l, x ≠ b6 → HF x = some (.lst l) → upd HF b6 (.lst ([] ++ [V.ref pp])) x = some (.lst l) := fun x l hx hl => by rw [upd_ne hx]; exact hl
        have ppb : pp ≠ b6 := lst_ne hpp (sE _ _ (s9D _ _ ne6 h6_9))
        have pib : pi ≠ b6 := lst_ne hpi (s9D _ _ ne6 h6_9)
        have qnb : qn ≠ b6 := lst_ne hqn (sa _ _ ne6 h6_9)
        refine ⟨fr _ _ rb h7F, by rw [upd_same]; rfl, ⟨fr _ _ ppb hF, fr _ _ pib (sF _ _ hE), ?_, trivial⟩, trivial⟩
        exact AT.own_up rs (fun x hx u hu => by rw [hr4 x hx] at hu ⊢; rw [upd_ne qnb]; exact (sE.tr sF) _ _ hu) hr2
      · have ppb : pp ≠ b6 := lst_ne hpp (sE _ _ (s9D _ _ ne6 h6_9))
        have pib : pi ≠ b6 := lst_ne hpi (s9D _ _ ne6 h6_9)
        have qnb : qn ≠ b6 := lst_ne hqn (sa _ _ ne6 h6_9)
        have ppr : pp ≠ r7 := lst_ne hpp (sE _ _ (s9D _ _ ne7 h7_9))
        have pir : pi ≠ r7 := lst_ne hpi (s9D _ _ ne7 h7_9)
        have qnr : qn ≠ r7 := lst_ne hqn (sa _ _ ne7 h7_9)
        have ppi : pp ≠ pi := lst_ne hpp hE
        have ppq : pp ≠ qn := lst_ne hpp (sE _ _ hqD)
        have piq : pi ≠ qn := lst_ne hpi hqD
        simp only [AT.adr, List.append_nil, List.nodup_cons, List.mem_cons, not_or]
        exact ⟨⟨rb, Ne.symm ppr, Ne.symm pir, fun k => qnr (hr4 _ k).symm⟩, ⟨Ne.symm ppb, Ne.symm pib, fun k => qnb (hr4 _ k).symm⟩, ⟨ppi, fun k => ppq (hr4 _ k)⟩, fun k => piq (hr4 _ k), hr3⟩
      · intro x hx
        simp only [AT.adr, List.append_nil, List.mem_cons] at hx
        rcases hx with rfl | rfl | rfl | rfl | hx
        · exact x0 _ (by simp [AT.adr])
        · exact x0 _ (by simp [AT.adr])
        · exact noneX s0D hbD (none_of sE hpp)
        · exact noneX s0D hbD hpi
        · rw [hr4 x hx]; exact qn0
      · exact sg_step hst hzo ⟨hoc, (fun k => nomatch k), hr5, trivial⟩ (fun y hy => by show rs.cnt y + 0 = 0; rw [hr6 y hy]) (by show 2 + rs.nl + 0 = 2 + rs.nl; omega)
    · refine hR _ ⟨s08.tr s9, n + 4, AT.step r7 b6 z (fstO z o) (sndO z p) .nil .nil, 1 + 0, by omega, hb9.mono (by omega), rfl, rfl, ⟨h7_9, h6_9, trivial, trivial⟩, d7, x0, by omega, sg_step hst hzo trivial (fun y _ => rfl) rfl⟩
  · obtain ⟨s0f, m, e, k, hm, hbf, he1, he2, he3, he4, he5, hk, hsg⟩ := hf
    let rw1 : List Str := ["leave"]
    let rw2 : List Str := ["enter", o]
    let rw3 : List Str := ["copy", "h", "i"]
    let rw4 : List Str := ["copy", "i", "h"]
    let rw5 : List Str := ["copy", "q", "p"]
    let rw6 : List Str := ["copy", "p", "q"]
    refine set_te (lst_go (cons_go (mk_lst (vs := rw1.map V.str) (ev_cons ev_C fun _ _ => ev_nil) (fun Ha x1 sa hx1 ha => ?_))))
    refine cons_go (mk_lst (vs := rw2.map V.str) (ev_cons ev_C fun _ _ => ev_cons (ev_var rfl) fun _ _ => ev_nil) (fun Hb x2 sb hx2 hb' => ?_))
    refine cons_go (mk_lst (vs := rw3.map V.str) (ev_cons ev_C fun _ _ => ev_cons ev_C fun _ _ => ev_cons ev_C fun _ _ => ev_nil) (fun Hc x3 sc hx3 hc => ?_))
    refine cons_go (mk_lst (vs := rw4.map V.str) (ev_cons ev_C fun _ _ => ev_cons ev_C fun _ _ => ev_cons ev_C fun _ _ => ev_nil) (fun Hd x4 sd hx4 hd => ?_))
    refine nil_go ⟨szL rfl, fun p1 hp1 => ?_⟩
    have s1' : Same Hd (upd Hd p1 (.lst [.ref x1, .ref x2, .ref x3, .ref x4])) := Same.new hp1
    have h1' : upd Hd p1 (.lst [.ref x1, .ref x2, .ref x3, .ref x4]) p1 = some (.lst [.ref x1, .ref x2, .ref x3, .ref x4]) := upd_same
    generalize upd Hd p1 (.lst [.ref x1, .ref x2, .ref x3, .ref x4]) = Hp1 at s1' h1' ⊢
    refine set_te ⟨_, rfl, lst_go (cons_go (mk_lst (vs := rw5.map V.str) (ev_cons ev_C fun _ _ => ev_cons ev_C fun _ _ => ev_cons ev_C fun _ _ => ev_nil) (fun He x5 se hx5 he => ?_)))⟩
    refine cons_go (mk_lst (vs := rw6.map V.str) (ev_cons ev_C fun _ _ => ev_cons ev_C fun _ _ => ev_cons ev_C fun _ _ => ev_nil) (fun Hg x6 sg hx6 hg => ?_))
    refine nil_go ⟨szL rfl, fun p2 hp2 => ?_⟩
    have s2' : Same Hg (upd Hg p2 (.lst [.ref x5, .ref x6])) := Same.new hp2
    have h2' : upd Hg p2 (.lst [.ref x5, .ref x6]) p2 = some (.lst [.ref x5, .ref x6]) := upd_same
    generalize upd Hg p2 (.lst [.ref x5, .ref x6]) = Hp2 at s2' h2' ⊢
    refine ⟨p1, p2, _, _, rfl, rfl, ((se.tr sg).tr s2') _ _ h1', h2', szL rfl, fun p3 hp3 => ?_⟩
    have s3' : Same Hp2 (upd Hp2 p3 (.lst ([.ref x1, .ref x2, .ref x3, .ref x4] ++ [.ref x5, .ref x6]))) := Same.new hp3
    have h3' : upd Hp2 p3 (.lst ([.ref x1, .ref x2, .ref x3, .ref x4] ++ [.ref x5, .ref x6])) p3 = some (.lst [.ref x1, .ref x2, .ref x3, .ref x4, .ref x5, .ref x6]) := upd_same
    generalize upd Hp2 p3 (.lst ([.ref x1, .ref x2, .ref x3, .ref x4] ++ [.ref x5, .ref x6])) = Hp3 at s3' h3' ⊢
    have sfd : Same Hf Hd := ((sa.tr sb).tr sc).tr sd
    have sf3 : Same Hf Hp3 := sfd.tr ((s1'.tr (se.tr sg)).tr (s2'.tr s3'))
    have hb3' := hbf.up sf3
    refine set_te ⟨_, rfl, lst_go (cons_go (lst_go (cons_go (c_go (cons_go (pick_go (lim := 2) (xs := [.str "ok", .str "no"]) (ev_cons ev_C fun _ _ => ev_cons ev_C fun _ _ => ev_nil) rfl hb3' (by omega) rfl (by decide) (fun rq vq Hq hvq sq hbq => ?_)))))))⟩
    obtain ⟨zq, hzq, rfl⟩ : ∃ zq, (["quit", zq] : List Str) ∈ plS ∧ vq = .str zq := by
      have := List.mem_of_getElem? hvq
      simp only [List.mem_cons, List.not_mem_nil, or_false] at this
      rcases this with rfl | rfl
      · exact ⟨"ok", by decide +kernel, rfl⟩
      · exact ⟨"no", by decide +kernel, rfl⟩
    have s0q : SameX d H Hq := (s0f.tr sf3.x).tr sq
    refine nil_go ⟨szL rfl, fun x7 hx7 => ?_⟩
    have s7' : Same Hq (upd Hq x7 (.lst [.str "quit", .str zq])) := Same.new hx7
    have h7' : upd Hq x7 (.lst [.str "quit", .str zq]) x7 = some (.lst [.str "quit", .str zq]) := upd_same
    generalize upd Hq x7 (.lst [.str "quit", .str zq]) = H7q at s7' h7' ⊢
    refine ⟨_, rfl, _, rfl, _, rfl, szL rfl, fun p4 hp4 => ?_⟩
    have s4' : Same H7q (upd H7q p4 (.lst [.ref x7, .ref r7, .ref r7, .ref r7])) := Same.new hp4
    have h4' : upd H7q p4 (.lst [.ref x7, .ref r7, .ref r7, .ref r7]) p4 = some (.lst [.ref x7, .ref r7, .ref r7, .ref r7]) := upd_same
    generalize upd H7q p4 (.lst [.ref x7, .ref r7, .ref r7, .ref r7]) = Hp4 at s4' h4' ⊢
    have h3q : Hp4 p3 = some (.lst [.ref x1, .ref x2, .ref x3, .ref x4, .ref x5, .ref x6]) := (s7'.tr s4') _ _ (sq _ _ (bag_ne hb3' h3') h3')
    refine ⟨p3, p4, _, _, rfl, rfl, h3q, h4', szL rfl, fun p5 hp5 => ?_⟩
    have s5' : Same Hp4 (upd Hp4 p5 (.lst ([.ref x1, .ref x2, .ref x3, .ref x4, .ref x5, .ref x6] ++ [.ref x7, .ref r7, .ref r7, .ref r7]))) := Same.new hp5
    have h5' : upd Hp4 p5 (.lst ([.ref x1, .ref x2, .ref x3, .ref x4, .ref x5, .ref x6] ++ [.ref x7, .ref r7, .ref r7, .ref r7])) p5 = some (.lst [.ref x1, .ref x2, .ref x3, .ref x4, .ref x5, .ref x6, .ref x7, .ref r7, .ref r7, .ref r7]) := upd_same
    generalize upd Hp4 p5 (.lst ([.ref x1, .ref x2, .ref x3, .ref x4, .ref x5, .ref x6] ++ [.ref x7, .ref r7, .ref r7, .ref r7])) = Hp5 at s5' h5' ⊢
    have sq5 : Same Hq Hp5 := (s7'.tr s4').tr s5'
    have hb5' := hbq.up sq5
    refine pickv_go (j := 10) (lim := 10) rfl h5' rfl hb5' (by omega) rfl (by decide) (by decide) (fun ri vi HZ hvi sZ hbZ => ?_)
    have s0Z : SameX d H HZ := (s0q.tr sq5.x).tr sZ
    have sdZ : SameX d Hd HZ := (((s1'.tr (se.tr sg)).tr (s2'.tr s3')).x.tr sq).tr (sq5.x.tr sZ)
    have sgZ : SameX d Hg HZ := ((s2'.tr s3').x.tr sq).tr (sq5.x.tr sZ)
    have fin : ∀ (x : Addr) (ws : List Str) (Hx : Hp), ws ∈ plS → SameX d H Hx → Hx x = none → (∃ mx, Bag Hx d c mx) → HZ x = some (.lst (ws.map V.str)) → Q (.ref x) HZ := fun x ws Hx hws sx hxn hbx hz => by
      obtain ⟨mx, hbx⟩ := hbx
      exact h0 x _ HZ (n + 20) (Nat.le_refl _) (mkR s0Z hz (noneX sx hbx hxn) hws) (hbZ.mono (by omega))
    have bne : ∀ {Hy : Hp} {my : Nat} {x : Addr} {l : List V}, Bag Hy d c my → Hy x = some (.lst l) → x ≠ d := fun h k => bag_ne h k
    have mem := List.mem_of_getElem? hvi
    simp only [List.mem_cons, List.not_mem_nil, or_false] at mem
    have hbd := hbf.up sfd
    have hbg := hbd.up (s1'.tr (se.tr sg))
    rcases mem with rfl | rfl | rfl | rfl | rfl | rfl | rfl | rfl | rfl | rfl
    · exact fin x1 rw1 Hf (by decide +kernel) s0f hx1 ⟨_, hbf⟩ (sdZ _ _ (bne (hbf.up sa) ha) (((sb.tr sc).tr sd) _ _ ha))
    · exact fin x2 rw2 Ha (by simp only [idN, List.mem_cons, List.not_mem_nil, or_false] at ho; rcases ho with rfl | rfl <;> decide +kernel) (s0f.tr sa.x) hx2 ⟨_, hbf.up sa⟩ (sdZ _ _ (bne (hbf.up (sa.tr sb)) hb') ((sc.tr sd) _ _ hb'))
    · exact fin x3 rw3 Hb (by decide +kernel) (s0f.tr (sa.tr sb).x) hx3 ⟨_, hbf.up (sa.tr sb)⟩ (sdZ _ _ (bne (hbf.up ((sa.tr sb).tr sc)) hc) (sd _ _ hc))
    · exact fin x4 rw4 Hc (by decide +kernel) (s0f.tr ((sa.tr sb).tr sc).x) hx4 ⟨_, hbf.up ((sa.tr sb).tr sc)⟩ (sdZ _ _ (bne hbd hd) hd)
    · exact fin x5 rw5 Hp1 (by decide +kernel) (s0f.tr (sfd.tr s1').x) hx5 ⟨_, hbd.up s1'⟩ (sgZ _ _ (bne (hbd.up (s1'.tr se)) he) (sg _ _ he))
    · exact fin x6 rw6 He (by decide +kernel) (s0f.tr (sfd.tr (s1'.tr se)).x) hx6 ⟨_, hbd.up (s1'.tr se)⟩ (sgZ _ _ (bne hbg hg) hg)
    · exact fin x7 ["quit", zq] Hq hzq s0q hx7 ⟨_, hbq⟩ (sZ _ _ (bne (hbq.up s7') h7') ((s4'.tr s5') _ _ h7'))
    all_goals
      refine h0 r7 e HZ (n + 20) (Nat.le_refl _) ⟨s0Z, he1, he2, AT.own_up e (fun x hx u hu => ?_) he3, he4, he5, k, hk, hsg⟩ (hbZ.mono (by omega))
      obtain ⟨l, hl⟩ := AT.own_lst e he3 x hx
      exact sdZ _ _ (bne hbf hl) (sfd _ _ hu)
end
end K59


set_option Elab.async false
set_option linter.all false
set_option maxRecDepth 100000
set_option maxHeartbeats 4000000
namespace K59
open PySem PySem.Spec PyProof.Rows L2
section
variable {P : Program} {w : World} {K : PySem.W.Frag} {mg : Str → Option Value} {base : Heap}
/-- the rows t at a, beside the bag -/
structure TreeB (H : Hp) (c a : Addr) (t : AT) : Prop where
  at_ : H a = some (.lst t.refs)
  own : t.own H
  nd : (a :: t.adr).Nodup
  cn : c ∉ a :: t.adr
  good : t.good none
theorem TreeB.draw {H H' : Hp} {c a d : Addr} {t : AT} {n : Nat} (h : TreeB H c a t) (hb : Bag H d c n) (s : SameX d H H') : TreeB H' c a t := by
  have ne : ∀ x ∈ t.adr, x ≠ d := fun x hx => by
    obtain ⟨l, hl⟩ := AT.own_lst t h.own x hx
    exact bag_ne hb hl
  exact ⟨s _ _ (bag_ne hb h.at_) h.at_, AT.own_up t (fun x hx o ho => s _ _ (ne x hx) ho) h.own, h.nd, h.cn, h.good⟩
theorem TreeB.up {H H' : Hp} {c a : Addr} {t : AT} (h : TreeB H c a t) (s : Same H H') : TreeB H' c a t := ⟨s _ _ h.at_, AT.own_up t (fun x _ o ho => s _ _ ho) h.own, h.nd, h.cn, h.good⟩
theorem il_adr : ∀ t : AT, ∀ x ∈ t.il, x ∈ t.adr
  | .nil, x, h => nomatch h
  | .row r ws t, x, h => List.mem_cons_of_mem _ (il_adr t x h)
  | .step r b w o p bl t, x, h => by
    rcases List.mem_append.mp (show x ∈ bl.il ++ t.il from h) with k | k
    · simp [AT.adr, il_adr bl x k]
    · simp [AT.adr, il_adr t x k]
  | .blk p i o rs t, x, h => by
    rcases List.mem_cons.mp (show x ∈ i :: (rs.il ++ t.il) from h) with k | k
    · simp [AT.adr, k]
    · rcases List.mem_append.mp k with k | k
      · simp [AT.adr, il_adr rs x k]
      · simp [AT.adr, il_adr t x k]
/-- the list of rows at cc: what is there, and what comes of a change -/
theorem slip_ctx {H : Hp} {c a cc : Addr} {t : AT} (h : TreeB H c a t) (hc : cc ∈ a :: t.il) : ∃ s : AT, H cc = some (.lst s.refs) ∧ s.own H ∧ s.good none ∧ (cc :: s.adr).Nodup ∧ (∀ x ∈ cc :: s.adr, x ∈ a :: t.adr) ∧ s.nl ≤ t.nl ∧
    ∀ s' H', (∀ x ∈ a :: t.adr, x ≠ cc → x ∉ s.adr → ∀ o, H x = some o → H' x = some o) → H' cc = some (.lst (AT.refs s')) → s'.own H' → s'.good none → s'.adr.Nodup → (∀ x ∈ s'.adr, x ∈ s.adr ∨ (x ∉ a :: t.adr ∧ x ≠ c)) →
      ∃ t', TreeB H' c a t' ∧ t'.nl + s.nl = t.nl + s'.nl ∧ ∀ z, t'.cnt z + s.cnt z = t.cnt z + s'.cnt z := by
  have hn := List.nodup_cons.mp h.nd
  rcases List.mem_cons.mp hc with rfl | hc
  · refine ⟨t, h.at_, h.own, h.good, h.nd, fun x hx => hx, Nat.le_refl _, fun s' H' f hcc ho hg hnd hnew => ⟨s', ⟨hcc, ho, List.nodup_cons.mpr ⟨fun k => ?_, hnd⟩, fun k => ?_, hg⟩, by omega, fun z => by omega⟩⟩
    · rcases hnew _ k with k | k
      · exact hn.1 k
      · exact k.1 (List.mem_cons_self ..)
    · rcases List.mem_cons.mp k with k | k
      · exact h.cn (by rw [k]; exact List.mem_cons_self ..)
      · rcases hnew _ k with k | k
        · exact h.cn (List.mem_cons_of_mem _ k)
        · exact k.2 rfl
  · obtain ⟨s, hs⟩ := Rp.find t hc
    obtain ⟨t0, h0⟩ := hs s
    obtain ⟨sub1, sub2, sub3⟩ := Rp.sub h0
    obtain ⟨rd1, rd2⟩ := Rp.read h0 h.own
    have hca : cc ≠ a := fun e => hn.1 (by rw [← e]; exact sub1)
    have hsn : s.adr.Nodup := by
      have := (sub_nodup h0) hn.2
      exact this
    refine ⟨s, rd1, rd2, (Rp.good h0).1 none h.good, List.nodup_cons.mpr ⟨sub3 hn.2, hsn⟩, fun x hx => ?_, ?_, fun s' H' f hcc ho hg hnd hnew => ?_⟩
    · rcases List.mem_cons.mp hx with k | k
      · rw [k]; exact List.mem_cons_of_mem _ sub1
      · exact List.mem_cons_of_mem _ (sub2 x k)
    · exact (sub_nl h0)
    · obtain ⟨t', h'⟩ := hs s'
      have hm := Rp.meas h'
      refine ⟨t', ⟨?_, Rp.write h' h.own hn.2 (fun x hx h1 h2 o ho => f x (List.mem_cons_of_mem _ hx) h1 h2 o ho) hcc ho, List.nodup_cons.mpr ⟨fun k => ?_, Rp.nodup h' hn.2 hnd (fun x hx => (hnew x hx).imp id (fun k => fun z => k.1 (List.mem_cons_of_mem _ z)))⟩, fun k => ?_, (Rp.good h').2 hg none h.good⟩, hm.2, hm.1⟩
      · rw [Rp.refs h']
        exact f a (List.mem_cons_self ..) (Ne.symm hca) (fun k => hn.1 (sub2 a k)) _ h.at_
      · rcases Rp.mem h' a k with k | k
        · exact hn.1 k
        · rcases hnew a k with k | k
          · exact hn.1 (sub2 a k)
          · exact k.1 (List.mem_cons_self ..)
      · rcases List.mem_cons.mp k with k | k
        · exact h.cn (by rw [k]; exact List.mem_cons_self ..)
        · rcases Rp.mem h' c k with k | k
          · exact h.cn (List.mem_cons_of_mem _ k)
          · rcases hnew c k with k | k
            · exact h.cn (List.mem_cons_of_mem _ (sub2 c k))
            · exact k.2 rfl
where
  sub_nodup {c : Addr} {s s' t t' : AT} (h : Rp c s s' t t') : t.adr.Nodup → s.adr.Nodup := by
    induction h with
    | here => intro n; simp only [AT.adr, List.nodup_cons, List.nodup_append] at n; exact n.2.2.1
    | blkI h ih => intro n; simp only [AT.adr, List.nodup_cons, List.nodup_append] at n; exact ih n.2.2.1
    | blkR h ih => intro n; simp only [AT.adr, List.nodup_cons, List.nodup_append] at n; exact ih n.2.2.2.1
    | stepB h ih => intro n; simp only [AT.adr, List.nodup_cons, List.nodup_append] at n; exact ih n.2.2.1
    | stepR h ih => intro n; simp only [AT.adr, List.nodup_cons, List.nodup_append] at n; exact ih n.2.2.2.1
    | rowR h ih => intro n; simp only [AT.adr, List.nodup_cons] at n; exact ih n.2
  sub_nl {c : Addr} {s s' t t' : AT} (h : Rp c s s' t t') : s.nl ≤ t.nl := by
    induction h with
    | here => simp only [AT.nl]; omega
    | blkI h ih => simp only [AT.nl]; omega
    | blkR h ih => simp only [AT.nl]; omega
    | stepB h ih => simp only [AT.nl]; omega
    | stepR h ih => simp only [AT.nl]; omega
    | rowR h ih => simp only [AT.nl]; omega
theorem drawE_go {σ : L2.St} {H : Hp} {Q : VK} {te : TE} {d c : Addr} {n i : Nat} {lim : Nat} (hi : σ[i]? = some (some (.ref d))) (he : EvE te σ H (.int (lim : Nat))) (hb : Bag H d c n) (hn : n < 2 ^ 30) (h0 : 0 < lim) (h1 : lim ≤ 1000) (k : ∀ (r : Nat) H', r < lim → SameX d H H' → Bag H' d c (n + 1) → Q (.int (r : Nat)) H') :
    tCall spDraw [] E0 (tCons (tVar i) (tCons te tNil)) σ H Q :=
  ⟨_, hi, he _ fun H1 s1 => ⟨d, c, n, (lim : Nat), rfl, hb.up s1, by omega, by omega, by omega, fun r H' r0 r1 s hb' => by
    obtain ⟨m, rfl⟩ := Int.eq_ofNat_of_zero_le r0
    exact k m H' (by omega) (s1.x.tr s) hb'⟩⟩
theorem Bag.mut {H : Hp} {d c x : Addr} {n : Nat} {o : HO} (h : Bag H d c n) (hd : d ≠ x) (hc : c ≠ x) : Bag (upd H x o) d c n := by
  obtain ⟨cs, a, dg, cnt, fo, h1, h2, h3⟩ := h
  exact ⟨cs, a, dg, cnt, fo, by rw [upd_ne hd]; exact h1, by rw [upd_ne hc]; exact h2, h3⟩
theorem seqIx_nat {n i : Nat} (h : i < n) : seqIndex? (i : Int) n = some i := by
  unfold seqIndex?
  simp
  omega
theorem erase_at (A B : List V) (v : V) : (A ++ v :: B).eraseIdx A.length = A ++ B := by
  induction A with
  | nil => rfl
  | cons x r ih => exact congrArg (x :: ·) ih
theorem swap_at (A B : List V) (v u : V) : ((A ++ v :: u :: B).set (A.length + 1) v).set A.length u = A ++ u :: v :: B := by
  induction A with
  | nil => rfl
  | cons x r ih => exact congrArg (x :: ·) ih
theorem ixN_at {n j : Nat} (h : j < n) : ixN n (j : Int) = some j := by
  unfold ixN
  rw [if_pos (by omega), if_pos (by omega)]
  rfl
theorem take_refs {p q : AT} {i : Nat} (h : p.len = i) : (p.app q).refs.take i = p.refs ∧ (p.app q).refs.drop i = q.refs := by
  rw [AT.refs_app, ← h, ← AT.len_refs]
  exact ⟨List.take_left .., List.drop_left ..⟩
theorem nodup_app {p q : AT} (h : (p.app q).adr.Nodup) : p.adr.Nodup ∧ q.adr.Nodup ∧ ∀ x ∈ p.adr, x ∉ q.adr := by
  rw [AT.adr_app, List.nodup_append] at h
  exact ⟨h.1, h.2.1, fun x hx k => h.2.2 x hx x k rfl⟩
theorem goodB_app : ∀ (x y : AT) {w : Str}, (x.app y).good (some w) → x.good (some w)
  | .nil, _, _, _ => trivial
  | .blk p i o rs t, y, w, h => by
    obtain ⟨h1, h2, h3, h4⟩ := h
    refine ⟨h1, fun k => h2 ?_, h3, goodB_app t y h4⟩
    exact os_app t y o k
  | .row _ _ _, _, _, h => h.elim
  | .step _ _ _ _ _ _ _, _, _, h => h.elim
where
  os_app : ∀ (t y : AT) (o : Str), o ∈ t.os → o ∈ (t.app y).os
    | .blk p i o' rs t, y, o, h => by
      rcases List.mem_cons.mp (show o ∈ o' :: t.os from h) with k | k
      · exact List.mem_cons.mpr (.inl k)
      · exact List.mem_cons.mpr (.inr (os_app t y o k))
    | .nil, _, _, h => nomatch h
    | .row _ _ _, _, _, h => nomatch h
    | .step _ _ _ _ _ _ _, _, _, h => nomatch h
theorem flip_ok {z y : Str} {o : Option Str} (h : stOk z o (some y)) : ∃ y' : Str, stOk z o (some y') ∧ valV ([(.inr "p", .str "q"), (.inr "q", .str "p")] : List (Key × V)) (.inr y) = some (.str y') := by
  have two : ∀ y ∈ plN, ∃ y' ∈ plN, valV ([(.inr "p", .str "q"), (.inr "q", .str "p")] : List (Key × V)) (.inr y) = some (.str y') := fun y hy => by
    simp only [plN, List.mem_cons, List.not_mem_nil, or_false] at hy
    rcases hy with rfl | rfl
    · exact ⟨"q", by decide +kernel, rfl⟩
    · exact ⟨"p", by decide +kernel, rfl⟩
  rcases h with ⟨_, _, k⟩ | ⟨h1, h2, y0, hy0, k⟩ | ⟨h1, h2, y0, hy0, k⟩
  · cases k
  · cases k
    obtain ⟨y', h3, h4⟩ := two y hy0
    exact ⟨y', .inr (.inl ⟨h1, h2, y', h3, rfl⟩), h4⟩
  · cases k
    obtain ⟨y', h3, h4⟩ := two y hy0
    exact ⟨y', .inr (.inr ⟨h1, h2, y', h3, rfl⟩), h4⟩
def oD : Option Str → PyData
  | none => .none
  | some z => .str z
def AT.toD : AT → List PyData
  | .nil => []
  | .row _ ws t => .list (ws.map PyData.str) :: t.toD
  | .step _ _ w o p bl t => .list [.str "step", .str w, oD o, oD p, .list bl.toD] :: t.toD
  | .blk _ _ o rs t => .list [.str o, .list rs.toD] :: t.toD
theorem dp_o {K : PySem.W.Frag} {H : Hp} : ∀ o : Option Str, Dp K H (oS o) (oD o)
  | none => .non
  | some z => .str z
theorem dp_at {K : PySem.W.Frag} {H : Hp} : ∀ t : AT, t.own H → DpAll K H t.refs t.toD
  | .nil, _ => .nil
  | .row r ws t, ⟨h1, h2⟩ => .cons (.lst (.inl (.inl h1)) (dpStrs ws)) (dp_at t h2)
  | .step r b w o p bl t, ⟨h1, h2, h3, h4⟩ => .cons (.lst (.inl (.inl h1)) (.cons (.str _) (.cons (.str _) (.cons (dp_o o) (.cons (dp_o p) (.cons (.lst (.inl (.inl h2)) (dp_at bl h3)) .nil)))))) (dp_at t h4)
  | .blk r b o bl t, ⟨h1, h2, h3, h4⟩ => .cons (.lst (.inl (.inl h1)) (.cons (.str _) (.cons (.lst (.inl (.inl h2)) (dp_at bl h3)) .nil))) (dp_at t h4)
theorem so_o {o : Option Str} (h : ∀ z, o = some z → PyData.strOk z = true) : PyData.canLay0 (oD o) = true ∧ PyData.depth (oD o) = 0 := by
  cases o with
  | none => exact ⟨rfl, rfl⟩
  | some z => exact ⟨h z rfl, rfl⟩
theorem st_so {w : Str} {o p : Option Str} (h : stOk w o p) : PyData.strOk w = true ∧ (∀ z, o = some z → PyData.strOk z = true) ∧ (∀ z, p = some z → PyData.strOk z = true) := by
  have hw := stOk_stW h
  have h1 : ∀ z ∈ stW, PyData.strOk z = true := by decide +kernel
  have h2 : ∀ z ∈ idN, PyData.strOk z = true := by decide +kernel
  have h3 : ∀ z ∈ plN, PyData.strOk z = true := by decide +kernel
  refine ⟨h1 w hw, fun z hz => ?_, fun z hz => ?_⟩
  · rcases h with ⟨_, ⟨x, hx, e⟩, _⟩ | ⟨_, ⟨x, hx, e⟩, _⟩ | ⟨_, e, _⟩
    · rw [hz] at e; cases e; exact h2 _ hx
    · rw [hz] at e; cases e; exact h2 _ hx
    · rw [hz] at e; cases e
  · rcases h with ⟨_, _, e⟩ | ⟨_, _, x, hx, e⟩ | ⟨_, _, x, hx, e⟩
    · rw [hz] at e; cases e
    · rw [hz] at e; cases e; exact h3 _ hx
    · rw [hz] at e; cases e; exact h3 _ hx
theorem sh_at : ∀ (t : AT), (t.good none ∨ ∃ w, t.good (some w)) → PyData.canLayAll0 t.toD = true ∧ PyData.depthAll t.toD ≤ 2 * t.nl
  | .nil, _ => ⟨rfl, Nat.le_refl _⟩
  | .row r ws t, h => by
    have hg : ws ∈ plS ∧ t.good none := h.elim id (fun ⟨w, k⟩ => k.elim)
    obtain ⟨h1, h2⟩ := sh_at t (.inl hg.2)
    have h3 : ∀ ws ∈ plS, ws.all PyData.strOk = true := by decide +kernel
    have h4 := h3 ws hg.1
    constructor
    · show (PyData.canLayAll0 (ws.map PyData.str) && PyData.canLayAll0 t.toD) = true
      rw [cl_strs, h4, h1]; rfl
    · show max (PyData.depthAll (ws.map PyData.str) + 1) (PyData.depthAll t.toD) ≤ 2 * (1 + t.nl)
      rw [dp_strs]; omega
  | .step r b w o p bl t, h => by
    have hg : stOk w o p ∧ bl.good (some w) ∧ t.good none := h.elim id (fun ⟨w, k⟩ => k.elim)
    obtain ⟨h1, h2⟩ := sh_at t (.inl hg.2.2)
    obtain ⟨h3, h4⟩ := sh_at bl (.inr ⟨w, hg.2.1⟩)
    obtain ⟨k1, k2, k3⟩ := st_so hg.1
    obtain ⟨a1, a2⟩ := so_o k2
    obtain ⟨b1, b2⟩ := so_o k3
    have hs : PyData.strOk ("step" : Str) = true := by decide +kernel
    constructor
    · show ((PyData.strOk ("step" : Str) && (PyData.strOk w && (PyData.canLay0 (oD o) && (PyData.canLay0 (oD p) && (PyData.canLayAll0 bl.toD && true))))) && PyData.canLayAll0 t.toD) = true
      rw [hs, k1, a1, b1, h3, h1]; rfl
    · show max (max 0 (max 0 (max (PyData.depth (oD o)) (max (PyData.depth (oD p)) (max (PyData.depthAll bl.toD + 1) 0)))) + 1) (PyData.depthAll t.toD) ≤ 2 * (1 + bl.nl + t.nl)
      rw [a2, b2]; omega
  | .blk r b o rs t, h => by
    obtain ⟨w, hg⟩ : ∃ w, o ∈ outs w ∧ o ∉ t.os ∧ rs.good none ∧ t.good (some w) := h.elim (fun k => k.elim) id
    obtain ⟨h1, h2⟩ := sh_at t (.inr ⟨w, hg.2.2.2⟩)
    obtain ⟨h3, h4⟩ := sh_at rs (.inl hg.2.2.1)
    have hs : PyData.strOk o = true := by
      have : ∀ z ∈ allO, PyData.strOk z = true := by decide +kernel
      exact this o (outs_all hg.1)
    constructor
    · show ((PyData.strOk o && (PyData.canLayAll0 rs.toD && true)) && PyData.canLayAll0 t.toD) = true
      rw [hs, h3, h1]; rfl
    · show max (max 0 (max (PyData.depthAll rs.toD + 1) 0) + 1) (PyData.depthAll t.toD) ≤ 2 * (2 + rs.nl + t.nl)
      omega
/-- blocks != [] -/
theorem ne_nil {K : PySem.W.Frag} {z : L2.St} {H : Hp} {te : TE} {b : Addr} {t : AT} (he : EvE te z H (.ref b)) (hb : H b = some (.lst t.refs)) (ho : t.own H) (hg : t.good none ∨ ∃ w, t.good (some w)) (hn : t.nl ≤ 31) : EvT (tTest (tOp (rNeD K) te (tLst tNil))) z H (!t.refs.isEmpty) := by
  refine ev_test fun Q k => he _ fun H1 s1 => mk_lst (vs := []) ev_nil (fun H2 T s2 _ hT => ?_)
  obtain ⟨h1, h2⟩ := sh_at t hg
  have s12 := s1.tr s2
  refine ⟨_, _, .lst (.inl (.inl (s12 _ _ hb))) (dp_at t (AT.own_up t (fun x _ o k => s12 _ _ k) ho)), .lst (.inl (.inl hT)) .nil, ?_, ?_, ?_⟩
  · show (PyData.canLayAll0 t.toD && decide (PyData.depthAll t.toD + 1 ≤ 64)) = true
    rw [h1, decide_eq_true (by omega)]; rfl
  · decide +kernel
  · have e : (!PyData.eqv (.list t.toD) (.list [])) = !t.refs.isEmpty := by
      cases t <;> rfl
    rw [e]
    exact k _ s12
def spSlip : Sp := fun vs H Q E => ∃ (d c a : Addr) (n : Nat) (kv : V) (t : AT), vs = [.ref d, kv, .ref a] ∧ Bag H d c n ∧ n < 2 ^ 28 ∧ TreeB H c a t ∧ t.nl ≤ 32 ∧ ∀ t' H' m, m ≤ n + 30 → Bag H' d c m → TreeB H' c a t' → t'.nl ≤ t.nl + 4 → (∀ z ∈ onces, t'.cnt z ≤ t.cnt z) → Q .non H'
theorem ok_slip (T : Tx P w K mg) : FnX P w K mg base CX0 45 "_law_slip" ["_law_bag_here", "_law_kind", "_law_rows"] [] spSlip := by
  have F_l_lists := ok_lists (base := base) T 40
  have F_l_other := ok_other (base := base) T
  have F_l_draw := ok_draw (w := w) (base := base) T
  refine T.d_l_slip.ok0 sc_l_slip (fun _ _ _ _ _ _ us hl => match us, hl with | [_, _, _], _ => rfl) (fun vs H Q E h => ?_) (fun f cdv A outer s H vs Q E hr h => have hu := hu_of hr; ⟨_, (by exact (pss_cons (ps_set (i := 3) sc_l_slip.nd rfl (Or.inl rfl) (pe_callX F_l_lists (hr.mono (by first | decide | omega)) pass0 (pa_cons (pv 2) pa_nil)))
      (pss_cons (ps_set (i := 4) sc_l_slip.nd rfl (Or.inl rfl) (pe_ix ix_list (pv 3) (pe_callX F_l_draw (hr.mono (by first | decide | omega)) pass0 (pa_cons (pv 0) (pa_cons (pe_callB call_len_seq (by rfl) T.b_len (by decide +kernel) (pa_cons (pv 3) pa_nil)) pa_nil))) (fun _ _ => rfl)))
      (pss_cons (ps_par (i := 5) (j := 6) (by rfl) sc_l_slip.nd rfl rfl (by decide) rfl rfl (pa_cons (pe_callX F_l_draw (hr.mono (by first | decide | omega)) pass0 (pa_cons (pv 0) (pa_cons (pe_op op_add (pe_callB call_len_seq (by rfl) T.b_len (by decide +kernel) (pa_cons (pv 4) pa_nil)) pe_int) pa_nil))) (pa_cons (pe_callX F_l_draw (hr.mono (by first | decide | omega)) pass0 (pa_cons (pv 0) (pa_cons pe_int pa_nil))) pa_nil)) (by rfl))
      (pss_one (ps_if (PW.pt (pw_or (pt_cmpR op_eq (pv 6) pe_int (nomark _)) (pw_or1 (pt_cmpR op_eq (pv 5) (pe_callB call_len_seq (by rfl) T.b_len (by decide +kernel) (pa_cons (pv 4) pa_nil)) (nomark _))))) (pss_one (ps_expr (pe_bm PySem.F.plainAttrs_list PySem.F.slot_list_insert PySem.F.type_list_insert mt_insert (pv 4) (pa_cons (pv 5) (pa_cons (pe_callX F_l_other (hr.mono (by first | decide | omega)) pass0 (pa_cons (pv 0) (pa_cons (pv 1) pa_nil))) pa_nil))))) (pss_one (ps_if (pt_cmpR op_eq (pv 6) pe_int (nomark _)) (pss_one (ps_expr (pe_bm PySem.F.plainAttrs_list PySem.F.slot_list_pop PySem.F.type_list_pop mt_popAt (pv 4) (pa_cons (pv 5) pa_nil)))) (pss_one (ps_if (PW.pt (pw_and (pt_cmpR op_eq (pv 6) pe_int (nomark _)) (pw_and1 (pt_cmpR op_gt (pv 5) pe_int (nomark _))))) (pss_one (ps_asg (pe_tup (pa_cons (pe_ix ix_list (pv 4) (pe_op op_sub (pv 5) pe_int) (fun _ _ => rfl)) (pa_cons (pe_ix ix_list (pv 4) (pv 5) (fun _ _ => rfl)) pa_nil))) (pg_tup rfl (pgs_cons (pg_sub (pv 4) (pv 5) set_list) (pgs_cons (pg_sub (pv 4) (pe_op op_sub (pv 5) pe_int) set_list) pgs_nil))))) (pss_one (ps_if (PW.pt (pw_and (pt_cmpR op_eq (pe_ix ix_list (pe_ix ix_list (pv 4) (pv 5) (fun _ _ => rfl)) pe_int (fun _ _ => rfl)) pe_str (nomark _)) (pw_and (pt_cmpR op_eq (pv 6) pe_int (nomark _)) (pw_and1 (pt_cmpR (op_neD hr.units) (pe_ix ix_list (pe_ix ix_list (pv 4) (pv 5) (fun _ _ => rfl)) pe_int (fun _ _ => rfl)) (pe_lst pa_nil) (nomark _)))))) (pss_one (ps_expr (pe_bm0 PySem.F.plainAttrs_list PySem.F.slot_list_pop PySem.F.type_list_pop mt_pop (pe_ix ix_list (pe_ix ix_list (pv 4) (pv 5) (fun _ _ => rfl)) pe_int (fun _ _ => rfl))))) (pss_one (ps_if (PW.pt (pw_and (pt_cmpR op_eq (pe_ix ix_list (pe_ix ix_list (pv 4) (pv 5) (fun _ _ => rfl)) pe_int (fun _ _ => rfl)) pe_str (nomark _)) (pw_and1 (pt_cmpR op_notN (pe_ix ix_list (pe_ix ix_list (pv 4) (pv 5) (fun _ _ => rfl)) pe_int (fun _ _ => rfl)) pe_non (nomark _))))) (pss_one (ps_asg (pe_dget hu (pe_disp (pps_cons pe_str pe_str (pps_cons pe_str pe_str pps_nil)) (by rfl) (by rfl) (fun z => by cases z) (by decide)) (pe_ix ix_list (pe_ix ix_list (pv 4) (pv 5) (fun _ _ => rfl)) pe_int (fun _ _ => rfl)) (fun _ _ => rfl)) (pg_sub (pe_ix ix_list (pv 4) (pv 5) (fun _ _ => rfl)) pe_int set_list))) (pss_one (ps_if (pt_cmpR op_eq (pe_ix ix_list (pe_ix ix_list (pv 4) (pv 5) (fun _ _ => rfl)) pe_int (fun _ _ => rfl)) pe_str (nomark _)) (pss_one (ps_asg (pe_dget hu (pe_disp (pps_cons pe_str pe_str (pps_cons pe_str pe_str pps_nil)) (by rfl) (by rfl) (fun z => by cases z) (by decide)) (pe_ix ix_list (pe_ix ix_list (pv 4) (pv 5) (fun _ _ => rfl)) pe_int (fun _ _ => rfl)) (fun _ _ => rfl)) (pg_sub (pe_ix ix_list (pv 4) (pv 5) (fun _ _ => rfl)) pe_int set_list))) pss_nil)))))))))))))))), ?_⟩)
  · obtain ⟨d, c, a, n, kv, t, rfl, _⟩ := h
    rfl
  obtain ⟨d, c, a, n, kv, t, rfl, hb, hn, ht, hnl, h0⟩ := h
  have q9 : sizeLine = 16777216 := sizeLine_eq
  have hdn := dpt_nl t
  have hil := il_nl t
  refine set_te ⟨_, rfl, a, t, rfl, ht.at_, ht.own, ht.good, by omega, by omega, fun q1 H1 s1 hq1 hl1 => ?_⟩
  have hb1 := hb.up s1
  have ht1 := ht.up s1
  refine set_te ⟨_, rfl, drawE_go (lim := ((a :: t.il).map V.ref).length) rfl (ev_len (K := K) (ev_cons (ev_var rfl) fun _ _ => ev_nil) (.inl (.inl (.inl hl1)))) hb1 (by omega) (by simp) (by simp; omega) (fun r2 H2 hr2 s2 hb2 => ?_)⟩
  have hl2 : H2 q1 = some (.lst ((a :: t.il).map V.ref)) := s2 _ _ (bag_ne hb1 hl1) hl1
  have ht2 := ht1.draw hb1 s2
  have hr2' : r2 < (a :: t.il).length := by simpa using hr2
  refine ⟨q1, _, r2, .ref (a :: t.il)[r2], rfl, rfl, .inl (.inl hl2), atI_nat (by rw [List.getElem?_map, List.getElem?_eq_getElem hr2']; rfl), ?_⟩
  have hcc : (a :: t.il)[r2] ∈ a :: t.il := List.getElem_mem hr2'
  generalize (a :: t.il)[r2] = cc at hcc ⊢
  obtain ⟨s0, c1, c2, c3, c4, c5, c6, _⟩ := slip_ctx ht2 hcc
  have hls := AT.len_nl s0
  have hlr := AT.len_refs s0
  refine par_go (cons_go (drawE_go (lim := s0.len + 1) rfl (ev_op (ev_len (K := K) (ev_cons (ev_var rfl) fun _ _ => ev_nil) (.inl (.inl (.inl c1)))) (fun _ _ => ev_C) fun H9 _ Q' q' => ⟨_, _, rfl, rfl, by rw [hlr]; exact q'⟩) hb2 (by omega) (by omega) (by omega) (fun r3 H3 hr3 s3 hb3 => ?_)))
  refine cons_go (draw_go (lim := 6) rfl hb3 (by omega) (by decide) (by decide) (fun r4 H4 hr4 s4 hb4 => nil_go ⟨_, _, rfl, ?_⟩))
  have ht4 := (ht2.draw hb2 s3).draw hb3 s4
  obtain ⟨s, e1, e2, e3, e4, e5, e6, e7⟩ := slip_ctx ht4 hcc
  have ccd : cc ≠ d := bag_ne hb4 e1
  have ccc : cc ≠ c := fun z => ht4.cn (by rw [← z]; exact e5 cc (List.mem_cons_self ..))
  have hsl : s.len = s0.len := by
    have h9 : H4 cc = some (.lst s0.refs) := s4 _ _ (bag_ne hb3 (s3 _ _ (bag_ne hb2 c1) c1)) (s3 _ _ (bag_ne hb2 c1) c1)
    rw [e1] at h9
    have h8 : s.refs = s0.refs := by injection (Option.some.inj h9)
    rw [← AT.len_refs, ← AT.len_refs, h8]
  have e1l := AT.len_refs s
  have e4' := List.nodup_cons.mp e4
  have fin : ∀ (s' : AT) (H' : Hp) (m : Nat), m ≤ n + 30 → Bag H' d c m → (∀ x ∈ a :: t.adr, x ≠ cc → x ∉ s.adr → ∀ o, H4 x = some o → H' x = some o) → H' cc = some (.lst s'.refs) → s'.own H' → s'.good none → s'.adr.Nodup → (∀ x ∈ s'.adr, x ∈ s.adr ∨ (x ∉ a :: t.adr ∧ x ≠ c)) → s'.nl ≤ s.nl + 4 → (∀ z ∈ onces, s'.cnt z ≤ s.cnt z) → Q .non H' := by
    intro s' H' m hm hb' f h1 h2 h3 h4 h5 h6 h7
    obtain ⟨t', k1, k2, k3⟩ := e7 s' H' f h1 h2 h3 h4 h5
    exact h0 t' H' m hm hb' k1 (by omega) (fun z hz => by have := k3 z; have := h7 z hz; omega)
  have stay : ∀ H5, Same H4 H5 → Q .non H5 := fun H5 s5 => fin s H5 (n + 30) (Nat.le_refl _) ((hb4.up s5).mono (by omega)) (fun x _ _ _ o ho => s5 _ _ ho) (s5 _ _ e1) (AT.own_up s (fun x _ o ho => s5 _ _ ho) e2) e3 e4'.2 (fun x hx => .inl hx) (by omega) (fun z _ => Nat.le_refl _)
  let S4 : L2.St := [some (.ref d), some kv, some (.ref a), some (.ref q1), some (.ref cc), some (.int (r3 : Nat)), some (.int (r4 : Nat))]
  have t56 : ∀ {H5 : Hp} {y : Nat}, EvT (tTest (tOp rEq (tVar 6) (tC (V.int (y : Nat))))) S4 H5 (decide (r4 = y)) := fun {H5 y} => eq_nat (x := r4) (y := y) (ev_var rfl) fun _ _ => ev_C
  refine do_if (σ := S4) (ev_or (t56 (y := 5)) fun _ H5 s5 => eq_nat (x := r3) (y := s.refs.length) (ev_var rfl) fun H6 s6 => ev_len (K := K) (ev_cons (ev_var rfl) fun _ _ => ev_nil) (.inl (.inl (.inl ((s5.tr s6) _ _ e1))))) (fun g H5 s5 => ?_) (fun g H5 s5 => ?_)
  · refine ⟨_, rfl, .inl ⟨rfl, ⟨_, .inl (.inl (s5 _ _ e1))⟩⟩, _, rfl, _, rfl, _, rfl, d, c, _, kv, rfl, hb4.up s5, by omega, fun r e H6 m6 hm6 nr hb6 => ?_⟩
    have s46 : SameX d H4 H6 := s5.x.tr nr.sm
    obtain ⟨p, q, rfl, hpl⟩ := AT.cut s r3 (by omega)
    obtain ⟨tk, dr⟩ := take_refs (q := q) hpl
    obtain ⟨np, nq, npq⟩ := nodup_app e4'.2
    have in4 : ∀ x ∈ (p.app q).adr, ∃ l, H4 x = some (.lst l) := fun x hx => AT.own_lst _ e2 x hx
    have en : ∀ x ∈ e.adr, H4 x = none := fun x hx => none_of s5 (nr.new x hx)
    have h6 : H6 cc = some (.lst (p.app q).refs) := s46 _ _ ccd e1
    have hb6' : Bag H6 d c (n + 30) := hb6.mono (by omega)
    refine ⟨cc, _, r3, .ref r, rfl, rfl, h6, by omega, by omega, by omega, ?_⟩
    have ecc : cc ∉ e.adr := fun k => by rw [en cc k] at e1; cases e1
    obtain ⟨ne, hne, hsg⟩ := nr.sg
    refine fin (p.app (e.app q)) _ (n + 30) (Nat.le_refl _) (hb6'.mut (Ne.symm ccd) (Ne.symm ccc)) (fun x hx h1 h2 o ho => ?_) ?_ ?_ ?_ ?_ (fun x hx => ?_) ?_ (fun z hz => ?_)
    · rw [upd_ne h1]
      by_cases hxd : x = d
      · exfalso
        have : ∃ l, H4 x = some (.lst l) := by
          rcases List.mem_cons.mp hx with k | k
          · rw [k]; exact ⟨_, ht4.at_⟩
          · exact AT.own_lst t ht4.own x k
        obtain ⟨l, hl⟩ := this
        exact bag_ne hb4 hl hxd
      · exact s46 _ _ hxd ho
    · rw [upd_same]
      show some (HO.lst ((p.app q).refs.take ((r3 : Nat) : Int).toNat ++ [V.ref r] ++ (p.app q).refs.drop ((r3 : Nat) : Int).toNat)) = _
      rw [show ((r3 : Nat) : Int).toNat = r3 from rfl, tk, dr, AT.refs_app, AT.refs_app, nr.refs, List.append_assoc]
    · have up : ∀ u : AT, (∀ x ∈ u.adr, x ∈ (p.app q).adr) → u.own H4 → u.own (upd H6 cc (.lst ((p.app q).refs.take ((r3 : Nat) : Int).toNat ++ [V.ref r] ++ (p.app q).refs.drop ((r3 : Nat) : Int).toNat))) := fun u hu ho => AT.own_up u (fun x hx o' ho' => by
        obtain ⟨l, hl⟩ := in4 x (hu x hx)
        rw [upd_ne (fun z => e4'.1 (by rw [← z]; exact hu x hx))]
        exact s46 _ _ (bag_ne hb4 hl) ho') ho
      have o4 := (AT.own_app p q).mp e2
      refine (AT.own_app _ _).mpr ⟨up p (fun x hx => by rw [AT.adr_app]; exact List.mem_append_left _ hx) o4.1, (AT.own_app _ _).mpr ⟨AT.own_up e (fun x hx o' ho' => by rw [upd_ne (fun z => ecc (by rw [← z]; exact hx))]; exact ho') nr.own, up q (fun x hx => by rw [AT.adr_app]; exact List.mem_append_right _ hx) o4.2⟩⟩
    · have g4 := (AT.good_app p q).mp e3
      exact (AT.good_app _ _).mpr ⟨g4.1, (AT.good_app _ _).mpr ⟨hsg.good, g4.2⟩⟩
    · rw [AT.adr_app, AT.adr_app, List.nodup_append, List.nodup_append]
      refine ⟨np, ⟨nr.nd, nq, fun x hx y hy z => ?_⟩, fun x hx y hy z => ?_⟩
      · subst z
        obtain ⟨l, hl⟩ := in4 x (by rw [AT.adr_app]; exact List.mem_append_right _ hy)
        rw [en x hx] at hl; cases hl
      · subst z
        rcases List.mem_append.mp hy with k | k
        · obtain ⟨l, hl⟩ := in4 x (by rw [AT.adr_app]; exact List.mem_append_left _ hx)
          rw [en x k] at hl; cases hl
        · exact npq x hx k
    · rw [AT.adr_app, AT.adr_app] at hx
      rcases List.mem_append.mp hx with k | k
      · exact .inl (by rw [AT.adr_app]; exact List.mem_append_left _ k)
      · rcases List.mem_append.mp k with k | k
        · refine .inr ⟨fun z => ?_, fun z => ?_⟩
          · have : ∃ l, H4 x = some (.lst l) := by
              rcases List.mem_cons.mp z with k | k
              · rw [k]; exact ⟨_, ht4.at_⟩
              · exact AT.own_lst t ht4.own x k
            obtain ⟨l, hl⟩ := this
            rw [en x k] at hl; cases hl
          · have h9 := en x k
            obtain ⟨cs, _, _, _, _, _, g2, _⟩ := hb4
            rw [z, g2] at h9; cases h9
        · exact .inl (by rw [AT.adr_app]; exact List.mem_append_right _ k)
    · rw [AT.nl_app, AT.nl_app, AT.nl_app, hsg.nl]; omega
    · rw [AT.cnt_app, AT.cnt_app, AT.cnt_app]
      have : e.cnt z = 0 := by
        simp only [onces, List.mem_cons, List.not_mem_nil, or_false] at hz
        rcases hz with rfl | rfl | rfl
        · exact hsg.lay
        · exact hsg.str
        · exact hsg.giv
      omega
  have hlt : r3 < s.len := by
    have h9 : decide (r3 = s.refs.length) = false := by
      cases k : decide (r3 = s.refs.length) with
      | false => rfl
      | true => rw [k] at g; simp at g
    have := of_decide_eq_false h9
    omega
  obtain ⟨p, e, q, rfl, hpl, he1⟩ := AT.cut1 hlt
  have own4 := (AT.own_app _ _).mp e2
  have own5 := (AT.own_app _ _).mp own4.2
  have gd4 := (AT.good_app _ _).mp e3
  have gd5 := (AT.good_app _ _).mp gd4.2
  obtain ⟨np, neq, npeq⟩ := nodup_app e4'.2
  obtain ⟨ne', nq', neq'⟩ := nodup_app neq
  have hb5 := hb4.up s5
  have in4 : ∀ x ∈ (p.app (e.app q)).adr, ∃ l, H4 x = some (.lst l) := fun x hx => AT.own_lst _ e2 x hx
  have ap : ∀ x, x ∈ p.adr → x ∈ (p.app (e.app q)).adr := fun x hx => by rw [AT.adr_app]; exact List.mem_append_left _ hx
  have ae : ∀ x, x ∈ e.adr → x ∈ (p.app (e.app q)).adr := fun x hx => by rw [AT.adr_app, AT.adr_app]; exact List.mem_append_right _ (List.mem_append_left _ hx)
  have aq : ∀ x, x ∈ q.adr → x ∈ (p.app (e.app q)).adr := fun x hx => by rw [AT.adr_app, AT.adr_app]; exact List.mem_append_right _ (List.mem_append_right _ hx)
  have finL : ∀ (s' : AT) (H6 : Hp), Same H4 H6 → s'.own H4 → s'.good none → s'.adr.Nodup → (∀ x ∈ s'.adr, x ∈ (p.app (e.app q)).adr) → s'.nl ≤ (p.app (e.app q)).nl → (∀ z, s'.cnt z ≤ (p.app (e.app q)).cnt z) → Q .non (upd H6 cc (.lst s'.refs)) := fun s' H6 s46 h1 h2 h3 h4 h5 h6 =>
    fin s' _ (n + 30) (Nat.le_refl _) (((hb4.up s46).mono (by omega)).mut (Ne.symm ccd) (Ne.symm ccc)) (fun x _ hx1 _ o ho => by rw [upd_ne hx1]; exact s46 _ _ ho) upd_same (AT.own_up s' (fun x hx o ho => by rw [upd_ne (fun k => e4'.1 (by rw [← k]; exact h4 x hx))]; exact s46 _ _ ho) h1) h2 h3 (fun x hx => .inl (h4 x hx)) (by omega) (fun z _ => h6 z)
  have finR : ∀ (e' : AT) (x : Addr) (l : List V) (H6 : Hp), Same H4 H6 → x ∈ e.adr → e'.refs = e.refs → e'.own (upd H6 x (.lst l)) → e'.good none → e'.adr.Nodup → (∀ y ∈ e'.adr, y ∈ e.adr) → e'.nl ≤ e.nl → (∀ z, e'.cnt z ≤ e.cnt z) → Q .non (upd H6 x (.lst l)) := by
    intro e' x l H6 s46 hx hr ho hg hn' hy hnl' hcnt
    have hxs := ae x hx
    have hxcc : x ≠ cc := fun k => e4'.1 (by rw [← k]; exact hxs)
    obtain ⟨lx, hlx⟩ := in4 x hxs
    have hxd : x ≠ d := bag_ne hb4 hlx
    have hxc : x ≠ c := fun k => ht4.cn (by rw [← k]; exact e5 x (List.mem_cons_of_mem _ hxs))
    refine fin (p.app (e'.app q)) _ (n + 30) (Nat.le_refl _) (((hb4.up s46).mono (by omega)).mut (Ne.symm hxd) (Ne.symm hxc)) (fun y _ _ hy2 o hoy => by rw [upd_ne (fun k => hy2 (by rw [k]; exact hxs))]; exact s46 _ _ hoy) ?_ ?_ ?_ ?_ (fun y hy' => ?_) ?_ (fun z _ => ?_)
    · rw [upd_ne (Ne.symm hxcc), s46 _ _ e1, AT.refs_app, AT.refs_app, AT.refs_app, AT.refs_app, hr]
    · refine (AT.own_app _ _).mpr ⟨AT.own_up p (fun y hy' o hoy => by rw [upd_ne (fun k => npeq y hy' (by rw [k, AT.adr_app]; exact List.mem_append_left _ hx))]; exact s46 _ _ hoy) own4.1, (AT.own_app _ _).mpr ⟨ho, AT.own_up q (fun y hy' o hoy => by rw [upd_ne (fun k => neq' x hx (by rw [← k]; exact hy'))]; exact s46 _ _ hoy) own5.2⟩⟩
    · exact (AT.good_app _ _).mpr ⟨gd4.1, (AT.good_app _ _).mpr ⟨hg, gd5.2⟩⟩
    · rw [AT.adr_app, AT.adr_app, List.nodup_append, List.nodup_append]
      refine ⟨np, ⟨hn', nq', fun y h1 y2 h2 k => neq' y (hy y h1) (by rw [k]; exact h2)⟩, fun y h1 y2 h2 k => ?_⟩
      subst k
      rcases List.mem_append.mp h2 with h2 | h2
      · exact npeq y h1 (by rw [AT.adr_app]; exact List.mem_append_left _ (hy y h2))
      · exact npeq y h1 (by rw [AT.adr_app]; exact List.mem_append_right _ h2)
    · rw [AT.adr_app, AT.adr_app] at hy'
      rcases List.mem_append.mp hy' with k | k
      · exact .inl (ap y k)
      · rcases List.mem_append.mp k with k | k
        · exact .inl (ae y (hy y k))
        · exact .inl (aq y k)
    · rw [AT.nl_app, AT.nl_app, AT.nl_app, AT.nl_app]; omega
    · rw [AT.cnt_app, AT.cnt_app, AT.cnt_app, AT.cnt_app]; have := hcnt z; omega
  have npq : ∀ x ∈ p.adr, x ∉ q.adr := fun x hx k => npeq x hx (by rw [AT.adr_app]; exact List.mem_append_right _ k)
  have pq_nd : (p.app q).adr.Nodup := by
    rw [AT.adr_app, List.nodup_append]
    exact ⟨np, nq', fun x hx y hy k => npq x hx (by rw [k]; exact hy)⟩
  obtain ⟨ve, hve⟩ : ∃ ve : Addr, e.refs = [.ref ve] := by
    cases e with
    | nil => exact he1.elim
    | row r ws t => cases (show t = .nil from he1); exact ⟨r, rfl⟩
    | step r b w o p bl t => cases (show t = .nil from he1); exact ⟨r, rfl⟩
    | blk r b o bl t => cases (show t = .nil from he1); exact ⟨r, rfl⟩
  have rfs : (p.app (e.app q)).refs = p.refs ++ .ref ve :: q.refs := by rw [AT.refs_app, AT.refs_app, hve]; rfl
  have pl : p.refs.length = r3 := by rw [AT.len_refs, hpl]
  have at3 : (p.app (e.app q)).refs[r3]? = some (.ref ve) := by rw [rfs, ← pl]; simp
  refine do_if (σ := S4) (t56 (y := 0)) (fun g2 H6 s6 => ?_) (fun g2 H6 s6 => ?_)
  · have s46 := s5.tr s6
    refine ⟨_, rfl, .inl ⟨rfl, ⟨_, .inl (.inl (s46 _ _ e1))⟩⟩, _, rfl, cc, _, (r3 : Nat), r3, .ref ve, rfl, rfl, s46 _ _ e1, by omega, by omega, ?_, at3, ?_⟩
    · exact seqIx_nat (by rw [e1l]; exact hlt)
    · have : (p.app (e.app q)).refs.eraseIdx r3 = (p.app q).refs := by
        rw [rfs, AT.refs_app, ← pl]
        exact erase_at _ _ _
      rw [this]
      refine finL (p.app q) H6 s46 ((AT.own_app _ _).mpr ⟨own4.1, own5.2⟩) ((AT.good_app _ _).mpr ⟨gd4.1, gd5.2⟩) pq_nd (fun x hx => ?_) ?_ (fun z => ?_)
      · rw [AT.adr_app] at hx
        rcases List.mem_append.mp hx with k | k
        · exact ap x k
        · exact aq x k
      · rw [AT.nl_app, AT.nl_app, AT.nl_app]; omega
      · rw [AT.cnt_app, AT.cnt_app, AT.cnt_app]; omega
  refine do_if (σ := S4) (ev_and (t56 (y := 1)) fun _ H7 s7 => ev_test (ev_op (ev_var rfl) (fun _ _ => ev_C) fun H8 _ Q' q' => ⟨(r3 : Nat), 0, rfl, rfl, q'⟩)) (fun g3 H7 s7 => ?_) (fun g3 H7 s7 => ?_)
  · have s47 := (s5.tr s6).tr s7
    simp only [Bool.and_eq_true, decide_eq_true_eq] at g3
    obtain ⟨k, hk⟩ : ∃ k, r3 = k + 1 := ⟨r3 - 1, by omega⟩
    obtain ⟨p', q1', rfl, hp'⟩ := AT.cut p k (by omega)
    have hq1 : q1'.len = 1 := by rw [AT.len_app] at hpl; omega
    obtain ⟨v1, hv1⟩ : ∃ v1 : Addr, q1'.refs = [.ref v1] := by
      have h9 := AT.len_refs q1'
      rw [hq1] at h9
      cases q1' with
      | nil => cases h9
      | row r ws t => exact ⟨r, by show V.ref r :: t.refs = _; rw [show t.refs = [] from List.length_eq_zero_iff.mp (by have : t.refs.length + 1 = 1 := h9; omega)]⟩
      | step r b w o p bl t => exact ⟨r, by show V.ref r :: t.refs = _; rw [show t.refs = [] from List.length_eq_zero_iff.mp (by have : t.refs.length + 1 = 1 := h9; omega)]⟩
      | blk r b o bl t => exact ⟨r, by show V.ref r :: t.refs = _; rw [show t.refs = [] from List.length_eq_zero_iff.mp (by have : t.refs.length + 1 = 1 := h9; omega)]⟩
    have rf2 : ((p'.app q1').app (e.app q)).refs = p'.refs ++ .ref v1 :: .ref ve :: q.refs := by rw [rfs, AT.refs_app, hv1, List.append_assoc]; rfl
    have pl' : p'.refs.length = k := by rw [AT.len_refs, hp']
    have h7cc := s47 _ _ e1
    have E1 : ∀ H, Same H7 H → EvE (tOp (rIxL K) (tVar 4) (tOp (rI0 fun i j => V.int (i - j)) (tVar 5) (tC (V.int 1)))) S4 H (.ref v1) := fun H s9 => by
      refine ev_ixL (n := (r3 : Int) - 1) (ev_var rfl) (fun H9 _ => ev_op (ev_var rfl) (fun _ _ => ev_C) fun _ _ Q' q' => ⟨_, _, rfl, rfl, q'⟩) (.inl (.inl (s9 _ _ h7cc))) ?_
      rw [show (r3 : Int) - 1 = (k : Int) by omega]
      refine atI_nat ?_
      rw [rf2, ← pl']
      simp
    have E2 : ∀ H, Same H7 H → EvE (tOp (rIxL K) (tVar 4) (tVar 5)) S4 H (.ref ve) := fun H s9 => ev_ixL (n := (r3 : Nat)) (ev_var rfl) (fun _ _ => ev_var rfl) (.inl (.inl (s9 _ _ h7cc))) (atI_nat at3)
    refine mk_tup (Q := fun x H1 => _) (ev_cons (E1 H7 (Same.rf _)) fun H8 s8 => ev_cons (E2 H8 s8) fun _ _ => ev_nil) (fun H8 tp s8 _ htp => ?_)
    have h8cc := s8 _ _ h7cc
    have l8 : ((p'.app q1').app (e.app q)).refs.length = s0.len := by rw [e1l, hsl]
    refine ⟨tp, _, rfl, .inl (.inl htp), rfl, _, _, rfl, _, rfl, _, rfl, cc, _, (r3 : Nat), r3, rfl, rfl, h8cc, ixN_at (by omega), ?_⟩
    refine ⟨_, _, rfl, _, rfl, _, rfl, _, _, rfl, rfl, cc, _, (r3 : Int) - 1, k, rfl, rfl, upd_same, ?_, rfl, ?_⟩
    · rw [show (r3 : Int) - 1 = (k : Int) by omega]
      exact ixN_at (by rw [List.length_set]; omega)
    · rw [upd_upd]
      have e8 : ((((p'.app q1').app (e.app q)).refs.set r3 (.ref v1)).set k (.ref ve)) = (p'.app (e.app (q1'.app q))).refs := by
        rw [rf2, AT.refs_app, AT.refs_app, AT.refs_app, hve, hv1, hk, ← pl']
        exact swap_at _ _ _ _
      rw [e8]
      have ow := (AT.own_app _ _).mp own4.1
      have gw := (AT.good_app _ _).mp gd4.1
      have nw := nodup_app np
      refine finL (p'.app (e.app (q1'.app q))) H8 (s47.tr s8) ((AT.own_app _ _).mpr ⟨ow.1, (AT.own_app _ _).mpr ⟨own5.1, (AT.own_app _ _).mpr ⟨ow.2, own5.2⟩⟩⟩) ((AT.good_app _ _).mpr ⟨gw.1, (AT.good_app _ _).mpr ⟨gd5.1, (AT.good_app _ _).mpr ⟨gw.2, gd5.2⟩⟩⟩) ?_ (fun x hx => ?_) ?_ (fun z => ?_)
      · rw [AT.adr_app, AT.adr_app, AT.adr_app, List.nodup_append, List.nodup_append, List.nodup_append]
        have pe : ∀ x ∈ (p'.app q1').adr, x ∉ e.adr := fun x hx k => npeq x hx (by rw [AT.adr_app]; exact List.mem_append_left _ k)
        have inp : ∀ x ∈ p'.adr, x ∈ (p'.app q1').adr := fun x hx => by rw [AT.adr_app]; exact List.mem_append_left _ hx
        have inq : ∀ x ∈ q1'.adr, x ∈ (p'.app q1').adr := fun x hx => by rw [AT.adr_app]; exact List.mem_append_right _ hx
        refine ⟨nw.1, ⟨ne', ⟨nw.2.1, nq', fun x h1 y h2 k => npq x (inq x h1) (by rw [k]; exact h2)⟩, fun x h1 y h2 k => ?_⟩, fun x h1 y h2 k => ?_⟩
        · subst k
          rcases List.mem_append.mp h2 with h2 | h2
          · exact pe x (inq x h2) h1
          · exact neq' x h1 h2
        · subst k
          rcases List.mem_append.mp h2 with h2 | h2
          · exact pe x (inp x h1) h2
          · rcases List.mem_append.mp h2 with h2 | h2
            · exact nw.2.2 x h1 h2
            · exact npq x (inp x h1) h2
      · rw [AT.adr_app, AT.adr_app, AT.adr_app] at hx
        rcases List.mem_append.mp hx with k | k
        · exact ap x (by rw [AT.adr_app]; exact List.mem_append_left _ k)
        · rcases List.mem_append.mp k with k | k
          · exact ae x k
          · rcases List.mem_append.mp k with k | k
            · exact ap x (by rw [AT.adr_app]; exact List.mem_append_right _ k)
            · exact aq x k
      · simp only [AT.nl_app]; omega
      · simp only [AT.cnt_app]; omega
  have s47 := (s5.tr s6).tr s7
  have h7cc := s47 _ _ e1
  have Ev : ∀ H, Same H7 H → EvE (tOp (rIxL K) (tVar 4) (tVar 5)) S4 H (.ref ve) := fun H s9 => ev_ixL (n := (r3 : Nat)) (ev_var rfl) (fun _ _ => ev_var rfl) (.inl (.inl (s9 _ _ h7cc))) (atI_nat at3)
  cases e with
  | nil => exact he1.elim
  | blk r b o bl u => exact gd5.1.elim
  | row r ws u =>
    cases (show u = .nil from he1)
    have hve' : [V.ref r] = [V.ref ve] := hve
    injection hve' with hve1
    injection hve1 with hve2
    subst hve2
    obtain ⟨z, wr, rfl, hz, hzq⟩ := pl_first gd5.1.1
    have h7r : H7 r = some (.lst ((z :: wr).map V.str)) := s47 _ _ own5.1.1
    have F0 : ∀ H, Same H7 H → EvE (tOp (rIxL K) (tOp (rIxL K) (tVar 4) (tVar 5)) (tC (V.int 0))) S4 H (.str z) := fun H s9 => ev_ixL (Ev H s9) (fun _ _ => ev_C) (.inl (.inl (s9 _ _ h7r))) (at0 _ _)
    have nst : ∀ H, Same H7 H → EvT (tTest (tOp rEq (tOp (rIxL K) (tOp (rIxL K) (tVar 4) (tVar 5)) (tC (V.int 0))) (tC (V.str "step")))) S4 H false := fun H s9 => by
      have := eq_str (y := "step") (F0 H s9) (b := tC (.str "step")) fun _ _ => ev_C
      rw [decide_eq_false hz] at this
      exact this
    refine do_if (σ := S4) (b1 := false) (ev_and (b2 := false) (nst H7 (Same.rf _)) (fun k => by cases k)) (fun k => by cases k) (fun _ H8 s8 => ?_)
    refine do_if (σ := S4) (b1 := false) (ev_and (b2 := false) (nst H8 s8) (fun k => by cases k)) (fun k => by cases k) (fun _ H9 s9 => ?_)
    refine do_if (σ := S4) (eq_str (y := "quit") (F0 H9 (s8.tr s9)) fun _ _ => ev_C) (fun g8 Ha sa => ?_) (fun g8 Ha sa => stay Ha (((s47.tr s8).tr s9).tr sa))
    have hq : z = "quit" := of_decide_eq_true g8
    have s4a := ((s47.tr s8).tr s9).tr sa
    have hws : (z :: wr) = (["quit", "ok"] : List Str) ∨ (z :: wr) = (["quit", "no"] : List Str) := hzq.mp hq
    have h4r : Ha r = some (.lst ((z :: wr).map V.str)) := s4a _ _ own5.1.1
    obtain ⟨y, y', hy, hy', hyv⟩ : ∃ y y' : Str, (z :: wr) = (["quit", y] : List Str) ∧ (["quit", y'] : List Str) ∈ plS ∧ valV ([(.inr "ok", .str "no"), (.inr "no", .str "ok")] : List (Key × V)) (.inr y) = some (.str y') := by
      rcases hws with k | k
      · exact ⟨"ok", "no", k, by decide +kernel, rfl⟩
      · exact ⟨"no", "ok", k, by decide +kernel, rfl⟩
    rw [hy] at h4r
    refine fun D hD => ⟨upd_same, [(.inr "ok", .str "no"), (.inr "no", .str "ok")], rfl, (by show 2 ≤ 15; decide), ?_⟩
    have em : mergeK [] [(Sum.inr "ok", V.str "no"), (Sum.inr "no", V.str "ok")] = ([(.inr "ok", .str "no"), (.inr "no", .str "ok")] : List (Key × V)) := rfl
    rw [upd_upd, em]
    have sD : Same Ha (upd Ha D (.dK [(.inr "ok", .str "no"), (.inr "no", .str "ok")])) := Same.new hD
    have hDd : upd Ha D (.dK [(.inr "ok", .str "no"), (.inr "no", .str "ok")]) D = some (.dK [(.inr "ok", .str "no"), (.inr "no", .str "ok")]) := upd_same
    generalize upd Ha D (.dK [(.inr "ok", .str "no"), (.inr "no", .str "ok")]) = HD at sD hDd ⊢
    have s7D : Same H7 HD := (s8.tr s9).tr (sa.tr sD)
    have hDr : HD r = some (.lst [.str "quit", .str y]) := sD _ _ h4r
    refine ev_ixL (v := .str y) (Ev HD s7D) (fun _ _ => ev_C) (.inl (.inl hDr)) rfl _ fun HE sE => ⟨D, .str y', rfl, .inl ⟨_, .inr y, .inl (sE _ _ hDd), rfl, hyv.symm⟩, ?_⟩
    refine Ev HE (s7D.tr sE) _ fun HF sF => ⟨r, _, 1, 1, rfl, rfl, (sE.tr sF) _ _ hDr, rfl, ?_⟩
    exact finR (.row r ["quit", y'] .nil) r _ HF (s4a.tr (sD.tr (sE.tr sF))) (by simp [AT.adr]) rfl ⟨upd_same, trivial⟩ ⟨hy', trivial⟩ (by simp [AT.adr]) (fun y hy => hy) (Nat.le_refl _) (fun z => Nat.le_refl _)
  | step r b z o pl bl u =>
    cases (show u = .nil from he1)
    have hve' : [V.ref r] = [V.ref ve] := hve
    injection hve' with hve1
    injection hve1 with hve2
    subst hve2
    have h7r : H7 r = some (.lst [.str "step", .str z, oS o, oS pl, .ref b]) := s47 _ _ own5.1.1
    have h7b : H7 b = some (.lst bl.refs) := s47 _ _ own5.1.2.1
    have bl4 := own5.1.2.2.1
    have gst := gd5.1.1
    have gbl := gd5.1.2.1
    have ndr : (AT.step r b z o pl bl .nil).adr.Nodup := ne'
    simp only [AT.adr, List.append_nil, List.nodup_cons, List.mem_cons, not_or] at ndr
    have hbln : bl.nl ≤ 31 := by
      have h9 : (p.app ((AT.step r b z o pl bl .nil).app q)).nl = p.nl + ((1 + bl.nl + 0) + q.nl) := by rw [AT.nl_app, AT.nl_app]; rfl
      omega
    have F0 : ∀ H, Same H7 H → EvT (tTest (tOp rEq (tOp (rIxL K) (tOp (rIxL K) (tVar 4) (tVar 5)) (tC (V.int 0))) (tC (V.str "step")))) S4 H true := fun H s9 => by
      have := eq_str (x := "step") (y := "step") (ev_ixL (K := K) (n := 0) (Ev H s9) (fun _ _ => ev_C) (.inl (.inl (s9 _ _ h7r))) rfl) (b := tC (.str "step")) fun _ _ => ev_C
      rw [decide_eq_true rfl] at this
      exact this
    have I3 : ∀ H, Same H7 H → EvE (tOp (rIxL K) (tOp (rIxL K) (tVar 4) (tVar 5)) (tC (V.int 3))) S4 H (oS pl) := fun H s9 => ev_ixL (Ev H s9) (fun _ _ => ev_C) (.inl (.inl (s9 _ _ h7r))) rfl
    have I4 : ∀ H, Same H7 H → EvE (tOp (rIxL K) (tOp (rIxL K) (tVar 4) (tVar 5)) (tC (V.int 4))) S4 H (.ref b) := fun H s9 => ev_ixL (Ev H s9) (fun _ _ => ev_C) (.inl (.inl (s9 _ _ h7r))) rfl
    refine do_if (σ := S4) (ev_and (F0 H7 (Same.rf _)) fun _ H8 s8 => ev_and (t56 (y := 2)) fun _ H9 s9 => ne_nil (I4 H9 (s8.tr s9)) ((s8.tr s9) _ _ h7b) (AT.own_up bl (fun x _ o ho => (s47.tr (s8.tr s9)) _ _ ho) bl4) (.inr ⟨z, gbl⟩) hbln) (fun g8 H8 s8 => ?_) (fun g8 H8 s8 => ?_)
    · have hbn : bl.refs ≠ [] := fun k => by rw [k] at g8; simp at g8
      have hlen : bl.refs.length ≠ 0 := fun k => hbn (List.length_eq_zero_iff.mp k)
      rw [AT.len_refs] at hlen
      obtain ⟨b0, l0, rfl, hb0⟩ := AT.cut bl (bl.len - 1) (by omega)
      have hl0 : l0.len = 1 := by rw [AT.len_app] at hb0 hlen; omega
      refine I4 H8 s8 _ fun H9 s9 => ⟨.inl ⟨rfl, ⟨_, .inl (.inl ((s8.tr s9) _ _ h7b))⟩⟩, ?_⟩
      have hlr0 := AT.len_refs (b0.app l0)
      have hlt9 : (b0.app l0).refs.length - 1 < (b0.app l0).refs.length := by omega
      refine ⟨b, _, (b0.app l0).refs[(b0.app l0).refs.length - 1], rfl, rfl, (s8.tr s9) _ _ h7b, List.getElem?_eq_getElem hlt9, ?_⟩
      have edl : (b0.app l0).refs.dropLast = b0.refs := by
        rw [AT.refs_app]
        have h9 := AT.len_refs l0
        rw [hl0] at h9
        obtain ⟨v, hv⟩ := List.length_eq_one_iff.mp h9
        rw [hv]
        exact List.dropLast_concat
      rw [edl]
      have s49 := s47.tr (s8.tr s9)
      have o0 := (AT.own_app _ _).mp bl4
      have bn0 : b ∉ b0.adr := fun k => ndr.2.1 (by rw [AT.adr_app]; exact List.mem_append_left _ k)
      have nd0 : b0.adr.Nodup := (nodup_app ndr.2.2).1
      refine finR (.step r b z o pl b0 .nil) b _ H9 s49 (by simp [AT.adr]) rfl ⟨by rw [upd_ne ndr.1.1]; exact s49 _ _ own5.1.1, upd_same, AT.own_up b0 (fun x hx o ho => by rw [upd_ne (fun k => bn0 (by rw [← k]; exact hx))]; exact s49 _ _ ho) o0.1, trivial⟩ ⟨gst, goodB_app b0 l0 gbl, trivial⟩ ?_ (fun y hy => ?_) ?_ (fun z' => ?_)
      · simp only [AT.adr, List.append_nil, List.nodup_cons, List.mem_cons, not_or]
        exact ⟨⟨ndr.1.1, fun k => ndr.1.2 (by rw [AT.adr_app]; exact List.mem_append_left _ k)⟩, bn0, nd0⟩
      · simp only [AT.adr, List.append_nil, List.mem_cons] at hy ⊢
        rcases hy with k | k | k
        · exact .inl k
        · exact .inr (.inl k)
        · exact .inr (.inr (by rw [AT.adr_app]; exact List.mem_append_left _ k))
      · show 1 + b0.nl + 0 ≤ 1 + (b0.app l0).nl + 0
        rw [AT.nl_app]; omega
      · show (if z = z' then 1 else 0) + b0.cnt z' + 0 ≤ (if z = z' then 1 else 0) + (b0.app l0).cnt z' + 0
        rw [AT.cnt_app]; omega
    · have Nn : ∀ H, Same H7 H → EvT (tTest (tOp (fun x y H Q => y = V.non ∧ Q (V.bl !decide (x = V.non)) H) (tOp (rIxL K) (tOp (rIxL K) (tVar 4) (tVar 5)) (tC (V.int 3))) (tC V.non))) S4 H pl.isSome := fun H s9 => ev_test (ev_op (I3 H s9) (fun _ _ => ev_C) fun H2 _ Q' q' => ⟨rfl, by cases pl with | none => exact q' | some y => exact q'⟩)
      refine do_if (σ := S4) (ev_and (F0 H8 s8) fun _ H9 s9 => Nn H9 (s8.tr s9)) (fun g9 H9 s9 => ?_) (fun g9 H9 s9 => ?_)
      · cases pl with
        | none => cases g9
        | some y =>
          obtain ⟨y', hy', hyv⟩ := flip_ok gst
          have s49 := s47.tr (s8.tr s9)
          refine fun D hD => ⟨upd_same, [(.inr "p", .str "q"), (.inr "q", .str "p")], rfl, (by show 2 ≤ 15; decide), ?_⟩
          have em : mergeK [] [(Sum.inr "p", V.str "q"), (Sum.inr "q", V.str "p")] = ([(.inr "p", .str "q"), (.inr "q", .str "p")] : List (Key × V)) := rfl
          rw [upd_upd, em]
          have sD : Same H9 (upd H9 D (.dK [(.inr "p", .str "q"), (.inr "q", .str "p")])) := Same.new hD
          have hDd : upd H9 D (.dK [(.inr "p", .str "q"), (.inr "q", .str "p")]) D = some (.dK [(.inr "p", .str "q"), (.inr "q", .str "p")]) := upd_same
          generalize upd H9 D (.dK [(.inr "p", .str "q"), (.inr "q", .str "p")]) = HD at sD hDd ⊢
          have s7D : Same H7 HD := (s8.tr s9).tr sD
          refine I3 HD s7D _ fun HE sE => ⟨D, .str y', rfl, .inl ⟨_, .inr y, .inl (sE _ _ hDd), rfl, hyv.symm⟩, ?_⟩
          refine Ev HE (s7D.tr sE) _ fun HF sF => ⟨r, _, 3, 3, rfl, rfl, (s7D.tr (sE.tr sF)) _ _ h7r, rfl, ?_⟩
          have s4F := s47.tr (s7D.tr (sE.tr sF))
          have rbl : r ∉ bl.adr := ndr.1.2
          refine finR (.step r b z o (some y') bl .nil) r _ HF s4F (by simp [AT.adr]) rfl ⟨upd_same, by rw [upd_ne (Ne.symm ndr.1.1)]; exact s4F _ _ own5.1.2.1, AT.own_up bl (fun x hx o ho => by rw [upd_ne (fun k => rbl (by rw [← k]; exact hx))]; exact s4F _ _ ho) bl4, trivial⟩ ⟨hy', gbl, trivial⟩ ne' (fun y hy => hy) (Nat.le_refl _) (fun z' => Nat.le_refl _)
      · refine do_if (σ := S4) (b1 := false) ?_ (fun k => by cases k) (fun _ Ha sa => stay Ha (s47.tr ((s8.tr s9).tr sa)))
        have := eq_str (x := "step") (y := "quit") (ev_ixL (K := K) (n := 0) (Ev H9 (s8.tr s9)) (fun _ _ => ev_C) (.inl (.inl ((s8.tr s9) _ _ h7r))) rfl) (b := tC (.str "quit")) fun _ _ => ev_C
        rw [show decide (("step" : Str) = "quit") = false by decide +kernel] at this
        exact this
end
end K59


set_option Elab.async false
set_option linter.all false
set_option maxRecDepth 100000
set_option maxHeartbeats 4000000
namespace K59
open PySem PySem.Spec PyProof.Rows L2
section
variable {P : Program} {w : World} {K : PySem.W.Frag} {mg : Str → Option Value} {base : Heap}
theorem nx_for {wi : TI} {g : TG} {tb r : TS} {D : Ends} {z : L2.St} {H : Hp} (h : tFor wi g tb { nx := r D, rt := D.rt, bk := D.bk, ct := D.ct } z H) : tSeq (tFor wi g tb) r D z H := h
/-- behind i rows -/
def WrI (H : Hp) (t : AT) (a ln : Addr) (ls : List Str) (i : Nat) (z : L2.St) (H' : Hp) : Prop := (∀ x o, x ≠ ln → x ∉ t.adr → H x = some o → H' x = some o) ∧ ∃ (done : List Str) (rest : AT) (y2 y3 y4 y5 : Option V), z = [some (.ref a), some (.ref ln), y2, y3, y4, y5] ∧ t.wl = done ++ rest.wl ∧ rest.refs = t.refs.drop i ∧ rest.own H' ∧ rest.good none ∧ (∀ x ∈ rest.adr, x ∈ t.adr) ∧ rest.adr.Nodup ∧ rest.dpt ≤ t.dpt ∧ H' ln = some (.lst ((ls ++ done).map V.str))
theorem tj_row {ws : List Str} (h : ws ∈ plS) : (ws.getD 0 "" = "copy" → ∃ x y : Str, ws = (["copy", x, y] : List Str) ∧ (x ++ (" = " : Str)) ++ y = rowT ws ∧ x.length ≤ 10 ∧ y.length ≤ 10) ∧ (ws.getD 0 "" ≠ "copy" → Txt.join spS ws = rowT ws ∧ (ws.map (·.length)).sum + ws.length * spS.length ≤ 16777216) := by
  simp only [plS, List.mem_cons, List.not_mem_nil, or_false] at h
  rcases h with rfl | rfl | rfl | rfl | rfl | rfl | rfl | rfl | rfl
  · exact ⟨fun k => absurd k (by decide +kernel), fun _ => by decide +kernel⟩
  · exact ⟨fun k => absurd k (by decide +kernel), fun _ => by decide +kernel⟩
  · exact ⟨fun k => absurd k (by decide +kernel), fun _ => by decide +kernel⟩
  · exact ⟨fun _ => ⟨"h", "i", rfl, by decide +kernel, by decide +kernel, by decide +kernel⟩, fun k => absurd (by decide +kernel) k⟩
  · exact ⟨fun _ => ⟨"i", "h", rfl, by decide +kernel, by decide +kernel, by decide +kernel⟩, fun k => absurd (by decide +kernel) k⟩
  · exact ⟨fun _ => ⟨"q", "p", rfl, by decide +kernel, by decide +kernel, by decide +kernel⟩, fun k => absurd (by decide +kernel) k⟩
  · exact ⟨fun _ => ⟨"p", "q", rfl, by decide +kernel, by decide +kernel, by decide +kernel⟩, fun k => absurd (by decide +kernel) k⟩
  · exact ⟨fun k => absurd k (by decide +kernel), fun _ => by decide +kernel⟩
  · exact ⟨fun k => absurd k (by decide +kernel), fun _ => by decide +kernel⟩
theorem tj_step {z : Str} {o p : Option Str} (h : stOk z o p) : Txt.join spS ([z] ++ (o.toList ++ p.toList)) = stepT z o p ∧ (([z] ++ (o.toList ++ p.toList)).map (·.length)).sum + ([z] ++ (o.toList ++ p.toList)).length * spS.length ≤ 16777216 := by
  simp only [stOk, idN, plN, List.mem_cons, List.not_mem_nil, or_false] at h
  rcases h with ⟨rfl, ⟨x, (rfl | rfl), rfl⟩, rfl⟩ | ⟨(rfl | rfl), ⟨x, (rfl | rfl), rfl⟩, y, (rfl | rfl), rfl⟩ | ⟨(rfl | rfl | rfl | rfl), rfl, y, (rfl | rfl), rfl⟩ <;> decide +kernel
theorem str_app_len (x y : Str) : (x ++ y).length = x.length + y.length := by
  show (x.cps ++ y.cps).size = _
  rw [Array.size_append]
  rfl
theorem tj_on {o : Str} (h : o ∈ allO) : o.length ≤ 20 := by
  simp only [allO, List.mem_cons, List.not_mem_nil, or_false] at h
  rcases h with rfl | rfl | rfl | rfl | rfl | rfl | rfl | rfl | rfl | rfl | rfl | rfl | rfl <;> decide +kernel
def spWritten (d : Nat) : Sp := fun vs H Q E => ∃ (a ln : Addr) (t : AT) (ls : List Str), vs = [.ref a, .ref ln] ∧ H a = some (.lst t.refs) ∧ t.own H ∧ (a :: t.adr).Nodup ∧ t.good none ∧ ln ∉ a :: t.adr ∧ H ln = some (.lst (ls.map V.str)) ∧ ls.length + t.nl ≤ 1000 ∧ t.dpt < d ∧
  ∀ H', H' ln = some (.lst ((ls ++ t.wl).map V.str)) → (∀ x o, x ≠ ln → x ∉ t.adr → H x = some o → H' x = some o) → Q (.ref ln) H'
theorem ok_written (T : Tx P w K mg) : ∀ d, FnX P w K mg base CX0 (d + 1) "_law_written" ["_law_rows", "_law_lines"] [] (spWritten d)
  | 0 => T.d_l_written.ok0 sc_l_written (fun _ _ _ _ _ _ us hl => match us, hl with | [_, _], _ => rfl) (fun vs H Q E h => by obtain ⟨a, ln, t, ls, rfl, _, _, _, _, _, _, _, h, _⟩ := h; omega) (fun f cdv A outer s H vs Q E hr h => by obtain ⟨a, ln, t, ls, rfl, _, _, _, _, _, _, _, h, _⟩ := h; omega)
  | d + 1 => by
    have F_l_written := ok_written T d
    refine T.d_l_written.ok0 sc_l_written (fun _ _ _ _ _ _ us hl => match us, hl with | [_, _], _ => rfl) (fun vs H Q E h => ?_) (fun f cdv A outer s H vs Q E hr h => have hu := hu_of hr; ⟨_, (by exact (pss_cons (ps_for PassesOwn.never rfl (pi_list (pv 0)) (pg_name (i := 2) sc_l_written.nd rfl (Or.inl rfl))
        (pss_one (ps_if (pt_cmpR op_eq (pe_ix ix_list (pv 2) pe_int (fun _ _ => rfl)) pe_str (nomark _)) (pss_cons (ps_expr (pe_bm PySem.F.plainAttrs_list PySem.F.slot_list_append PySem.F.type_list_append mt_append (pv 1) (pa_cons (pe_join pe_str (pe_lc (own := [("_law_part", 3)]) (g := (gName 3))  (by rfl) sc_l_written.nd (pi_list (pe_slice sl_list (pv 2) (po_some pe_int) (po_some pe_int))) (blkOk_by (own := [("_law_part", 3)]) (N := ["_law_rows", "_law_lines", "_law_row", "_law_part", "_law_outcome", "_law_inner"]) (sc := defScope s_l_written) (by decide +kernel)) (fun _ _ _ _ _ => (pg_name (i := 3) sc_l_written.nd rfl (Or.inl rfl))) (fun _ _ _ _ _ => (pts_one (pt_cmpR op_notN (pv 3) pe_non (nomark _)))) (fun _ _ _ _ _ => (pv 3)))) pa_nil)))
      (pss_cons (ps_expr (pe_bm PySem.F.plainAttrs_list PySem.F.slot_list_append PySem.F.type_list_append mt_append (pv 2) (pa_cons (pe_callB call_len_seq (by rfl) T.b_len (by decide +kernel) (pa_cons (pv 1) pa_nil)) pa_nil)))
      (pss_one (ps_for PassesOwn.never rfl (pi_list (pe_ix ix_list (pv 2) pe_int (fun _ _ => rfl))) (pg_unl rfl (pgs_cons (pg_name (i := 4) sc_l_written.nd rfl (Or.inl rfl)) (pgs_cons (pg_name (i := 5) sc_l_written.nd rfl (Or.inl rfl)) pgs_nil)))
        (pss_cons (ps_expr (pe_bm PySem.F.plainAttrs_list PySem.F.slot_list_append PySem.F.type_list_append mt_append (pv 1) (pa_cons (pe_op op_add_str pe_str (pv 4)) pa_nil)))
      (pss_cons (ps_expr (pe_callX F_l_written (hr.mono (by first | decide | omega)) pass0 (pa_cons (pv 5) (pa_cons (pv 1) pa_nil))))
      (pss_one (ps_expr (pe_bm PySem.F.plainAttrs_list PySem.F.slot_list_append PySem.F.type_list_append mt_append (pv 1) (pa_cons pe_str pa_nil)))))))))) (pss_one (ps_if (pt_cmpR op_eq (pe_ix ix_list (pv 2) pe_int (fun _ _ => rfl)) pe_str (nomark _)) (pss_one (ps_expr (pe_bm PySem.F.plainAttrs_list PySem.F.slot_list_append PySem.F.type_list_append mt_append (pv 1) (pa_cons (pe_op op_add_str (pe_op op_add_str (pe_ix ix_list (pv 2) pe_int (fun _ _ => rfl)) pe_str) (pe_ix ix_list (pv 2) pe_int (fun _ _ => rfl))) pa_nil)))) (pss_one (ps_expr (pe_bm PySem.F.plainAttrs_list PySem.F.slot_list_append PySem.F.type_list_append mt_append (pv 1) (pa_cons (pe_join pe_str (pv 2)) pa_nil)))))))))
      (pss_one (ps_ret (pv 1))))), ?_⟩)
    · obtain ⟨a, ln, t, ls, rfl, _⟩ := h
      rfl
    obtain ⟨a, ln, t, ls, rfl, ha, ho, hnd, hg, hln, hl, hlen, hd, h0⟩ := h
    have q9 : sizeLine = 16777216 := sizeLine_eq
    have hna := List.nodup_cons.mp hnd
    have lna : ln ≠ a := fun k => hln (by rw [k]; exact List.mem_cons_self ..)
    have lnt : ln ∉ t.adr := fun k => hln (List.mem_cons_of_mem _ k)
    have hwl := wl_nl t
    refine nx_for (for_lst (K := K) (a := a) (xs := t.refs) (WrI H t a ln ls) (ev_var rfl) (.inl (.inl ha)) (fun H1 s1 => ⟨fun x o _ _ hx => s1 _ _ hx, [], t, none, none, none, none, rfl, rfl, rfl, AT.own_up t (fun x _ o k => s1 _ _ k) ho, hg, fun x hx => hx, hna.2, Nat.le_refl _, by rw [List.append_nil]; exact s1 _ _ hl⟩) (fun i σ H' _ k => .inl (.inl (k.1 a _ (Ne.symm lna) hna.1 ha))) ?_ ?_)
    · rintro i x σ H2 hx ⟨fr, done, rest, y2, y3, y4, y5, rfl, hw, hre, hro, hrg, hra, hrn, hrd, hl2⟩
      rw [drop_at hx] at hre
      have hlw := congrArg List.length hw
      rw [hwl, List.length_append] at hlw
      -- one line more
      have app : ∀ (Hx : Hp) (z : Str) (dn : List Str) (D : Hp → Prop), Hx ln = some (.lst ((ls ++ dn).map V.str)) → dn.length < t.nl → D (upd Hx ln (.lst ((ls ++ (dn ++ [z])).map V.str))) → rAppend (.ref ln) [.str z] Hx (fun _ H1 => D H1) := fun Hx z dn D h1 h2 h3 => ⟨ln, _, _, rfl, rfl, h1, by rw [List.length_map, List.length_append]; omega, by
        rw [show (ls ++ dn).map V.str ++ [V.str z] = (ls ++ (dn ++ [z])).map V.str by simp]
        exact h3⟩
      rcases at_row hrg hre with ⟨r, ws, u, rfl, rfl, hws, hug, hur⟩ | ⟨r, b, z, o, p, bl, u, rfl, rfl, hst, hbg, hug, hur⟩
      · have hr2 : H2 r = some (.lst (ws.map V.str)) := hro.1
        have rln : r ≠ ln := fun k => lnt (by rw [← k]; exact hra r (by simp [AT.adr]))
        have e1 : (AT.row r ws u).wl = rowT ws :: u.wl := rfl
        rw [e1] at hw hlw
        obtain ⟨tj1, tj2⟩ := tj_row hws
        obtain ⟨z, wr, hzw, hz, _⟩ := pl_first hws
        have n2 := List.nodup_cons.mp (show (r :: u.adr).Nodup from hrn)
        have fin : ∀ Hx, Same H2 Hx → WrI H t a ln ls (i + 1) [some (.ref a), some (.ref ln), some (.ref r), y3, y4, y5] (upd Hx ln (.lst ((ls ++ (done ++ [rowT ws])).map V.str))) := fun Hx sx =>
          ⟨fun x o h1 h2 h3 => by rw [upd_ne h1]; exact sx _ _ (fr x o h1 h2 h3), done ++ [rowT ws], u, some (.ref r), y3, y4, y5, rfl, by rw [hw]; simp, hur, AT.own_up u (fun x hx' o k => by rw [upd_ne (fun e => lnt (by rw [← e]; exact hra x (List.mem_cons_of_mem _ hx')))]; exact sx _ _ k) hro.2, hug, fun x hx' => hra x (List.mem_cons_of_mem _ hx'), n2.2, hrd, upd_same⟩
        let S2 : L2.St := [some (.ref a), some (.ref ln), some (.ref r), y3, y4, y5]
        have F0 : ∀ H, Same H2 H → ∀ y : Str, EvT (tTest (tOp rEq (tOp (rIxL K) (tVar 2) (tC (V.int 0))) (tC (V.str y)))) S2 H (decide (z = y)) := fun H s9 y => by
          rw [hzw] at hr2
          exact eq_str (ev_ixL (ev_var rfl) (fun _ _ => ev_C) (.inl (.inl (s9 _ _ hr2))) (at0 _ _)) fun _ _ => ev_C
        have hgz : ws.getD 0 "" = z := by rw [hzw]; rfl
        have hlt : done.length < t.nl := by rw [List.length_cons] at hlw; omega
        refine do_if (σ := S2) (b1 := false) (by have := F0 H2 (Same.rf _) "step"; rw [decide_eq_false hz] at this; exact this) (fun k => by cases k) (fun _ H3 s3 => ?_)
        refine do_if (σ := S2) (F0 H3 s3 "copy") (fun g H4 s4 => ?_) (fun g H4 s4 => ?_)
        · obtain ⟨x, y, hxy, he, hx1, hy1⟩ := tj1 (by rw [hgz]; exact of_decide_eq_true g)
          have s24 := s3.tr s4
          have hr4 : H4 r = some (.lst [.str "copy", .str x, .str y]) := by rw [hxy] at hr2; exact s24 _ _ hr2
          have hl4 := s24 _ _ hl2
          refine ⟨_, rfl, .inl ⟨rfl, ⟨_, .inl (.inl hl4)⟩⟩, ?_⟩
          refine cons_go (ev_ixL (v := .str x) (ev_var rfl) (fun _ _ => ev_C) (.inl (.inl hr4)) rfl _ fun H5 s5 => ?_)
          have l3 : ((" = " : Str)).length ≤ 10 := by decide +kernel
          refine ⟨x, _, rfl, rfl, by omega, ?_⟩
          refine ev_ixL (v := .str y) (ev_var rfl) (fun _ _ => ev_C) (.inl (.inl (s5 _ _ hr4))) rfl _ fun H6 s6 => ⟨_, y, rfl, rfl, ?_, ?_⟩
          · have l4 := str_app_len x (" = " : Str)
            omega
          · refine nil_go ?_
            rw [he]
            exact app H6 (rowT ws) done (fun H9 => WrI H t a ln ls (i + 1) S2 H9) ((s5.tr s6) _ _ hl4) hlt (fin H6 (s24.tr (s5.tr s6)))
        · obtain ⟨he, hsz⟩ := tj2 (by rw [hgz]; exact of_decide_eq_false g)
          have s24 := s3.tr s4
          have hl4 := s24 _ _ hl2
          refine ⟨_, rfl, .inl ⟨rfl, ⟨_, .inl (.inl hl4)⟩⟩, ?_⟩
          refine cons_go ⟨⟨_, rfl⟩, _, rfl, spS, r, ws, rfl, rfl, .inl (.inl (.inl (s24 _ _ hr2))), hsz, nil_go ?_⟩
          rw [he]
          exact app H4 (rowT ws) done (fun H9 => WrI H t a ln ls (i + 1) S2 H9) hl4 hlt (fin H4 s24)
      · have e1 : (AT.step r b z o p bl u).wl = stepT z o p :: (bl.wl ++ u.wl) := rfl
        have e2 : (AT.step r b z o p bl u).dpt = max (bl.dpt + 1) u.dpt := rfl
        rw [e1] at hw hlw
        have hblw := wl_nl bl
        have nd2 := hrn
        simp only [AT.adr, List.nodup_cons, List.nodup_append, List.mem_append, List.mem_cons, not_or] at nd2
        have inr : ∀ x ∈ (AT.step r b z o p bl u).adr, x ∈ t.adr := hra
        have rt : r ∈ t.adr := hra r (by simp [AT.adr])
        have rln : r ≠ ln := fun k => lnt (by rw [← k]; exact rt)
        have bln : b ≠ ln := fun k => lnt (by rw [← k]; exact hra b (by simp [AT.adr]))
        have blt : ∀ x ∈ bl.adr, x ∈ t.adr := fun x hx' => hra x (by simp [AT.adr, hx'])
        have ut : ∀ x ∈ u.adr, x ∈ t.adr := fun x hx' => hra x (by simp [AT.adr, hx'])
        obtain ⟨tj, tsz⟩ := tj_step hst
        let S2 : L2.St := [some (.ref a), some (.ref ln), some (.ref r), y3, y4, y5]
        have h9 : EvT (tTest (tOp rEq (tOp (rIxL K) (tVar 2) (tC (V.int 0))) (tC (V.str "step")))) S2 H2 (decide (("step" : Str) = "step")) := eq_str (ev_ixL (ev_var rfl) (fun _ _ => ev_C) (.inl (.inl hro.1)) rfl) fun _ _ => ev_C
        rw [decide_eq_true rfl] at h9
        refine do_if (σ := S2) h9 (fun _ H3 s3 => ?_) (fun k => by cases k)
        have hr3 := s3 _ _ hro.1
        have hl3 := s3 _ _ hl2
        refine do_drop ⟨_, rfl, .inl ⟨rfl, ⟨_, .inl (.inl hl3)⟩⟩, ?_⟩
        refine cons_go ⟨⟨_, rfl⟩, _, rfl, 1, rfl, 4, rfl, r, _, rfl, .inl (.inl hr3), fun q4 hq4 => ?_⟩
        have hcut : cutV [V.str "step", .str z, oS o, oS p, .ref b] (some 1) (some 4) = [.str z, oS o, oS p] := rfl
        rw [hcut]
        have s4 : Same H3 (upd H3 q4 (.lst [.str z, oS o, oS p])) := Same.new hq4
        have h4 : upd H3 q4 (.lst [.str z, oS o, oS p]) q4 = some (.lst [.str z, oS o, oS p]) := upd_same
        generalize upd H3 q4 (.lst [.str z, oS o, oS p]) = H4 at s4 h4 ⊢
        refine ⟨q4, rfl, ⟨_, .inl (.inl h4)⟩, fun D hD => ?_⟩
        let pk : List (Option Str) := [some z, o, p]
        refine lc_list (xs := pk.map oS) (fun j H' => Same H4 H' ∧ H' D = some (.lst (((pk.take j).filterMap id).map V.str))) ⟨Same.new hD, upd_same⟩ (fun j H' _ k => .inl (.inl (k.1 _ _ h4))) ?_ ?_
        · rintro j v H5 hv ⟨s5, hD5⟩
          rw [List.getElem?_map] at hv
          obtain ⟨y, hy, rfl⟩ := Option.map_eq_some_iff.mp hv
          have hj : j < 3 := by
            by_cases k : j < 3
            · exact k
            · rw [List.getElem?_eq_none (by show 3 ≤ j; omega)] at hy; cases hy
          have etk : (pk.take (j + 1)).filterMap id = (pk.take j).filterMap id ++ y.toList := by
            rw [List.take_succ, hy, List.filterMap_append]
            cases y <;> rfl
          refine nm ⟨rfl, ?_⟩
          cases y with
          | none =>
            refine ⟨_, rfl, rfl, _, rfl, iteF ⟨s5, ?_⟩⟩
            rw [etk]
            simpa using hD5
          | some yy =>
            refine ⟨_, rfl, rfl, _, rfl, iteT ⟨_, rfl, _, hD5, ?_, s5.mut hD, ?_⟩⟩
            · have := List.length_filterMap_le id (pk.take j)
              rw [List.length_map]
              have h8 : (pk.take j).length ≤ 3 := by rw [List.length_take]; exact Nat.min_le_right ..
              omega
            · rw [upd_same, etk, List.map_append]
              rfl
        · rintro H5 ⟨s5, hD5⟩
          have epk : (pk.take (pk.map oS).length).filterMap id = [z] ++ (o.toList ++ p.toList) := by
            cases o <;> cases p <;> rfl
          rw [epk] at hD5
          refine ⟨spS, D, _, rfl, rfl, .inl (.inl (.inl hD5)), tsz, nil_go ?_⟩
          rw [tj]
          have s25 : Same H2 H5 := (s3.tr s4).tr s5
          have hlt : done.length < t.nl := by rw [List.length_cons] at hlw; omega
          refine app H5 (stepT z o p) done (fun H9 => (tSeq _ _ : TS) _ S2 H9) (s25 _ _ hl2) hlt ?_
          have hl6 : upd H5 ln (.lst ((ls ++ (done ++ [stepT z o p])).map V.str)) ln = some (.lst ((ls ++ (done ++ [stepT z o p])).map V.str)) := upd_same
          have s26 : SameX ln H2 (upd H5 ln (.lst ((ls ++ (done ++ [stepT z o p])).map V.str))) := s25.x.upd
          generalize upd H5 ln (.lst ((ls ++ (done ++ [stepT z o p])).map V.str)) = H6 at hl6 s26 ⊢
          have hr6 := s26 _ _ rln hro.1
          have hb6 := s26 _ _ bln hro.2.1
          refine do_drop ⟨_, rfl, .inl ⟨rfl, ⟨_, .inl (.inl hr6)⟩⟩, ?_⟩
          refine ev_cons (ev_len (K := K) (ev_cons (ev_var rfl) fun _ _ => ev_nil) (.inl (.inl (.inl hl6)))) (fun _ _ => ev_nil) _ fun H7 s7 => ?_
          refine ⟨r, _, _, rfl, rfl, s7 _ _ hr6, by show 5 < sizeLine; decide, ?_⟩
          have rb : r ≠ b := nd2.1.1
          have s28 : ∀ x uu, x ≠ ln → x ≠ r → H2 x = some uu → upd H7 r (.lst ([V.str "step", .str z, oS o, oS p, .ref b] ++ [.int ((((ls ++ (done ++ [stepT z o p])).map V.str).length : Nat) : Int)])) x = some uu := fun x uu h1 h2 h3 => by rw [upd_ne h2]; exact s7 _ _ (s26 _ _ h1 h3)
          have hl8 : upd H7 r (.lst ([V.str "step", .str z, oS o, oS p, .ref b] ++ [.int ((((ls ++ (done ++ [stepT z o p])).map V.str).length : Nat) : Int)])) ln = some (.lst ((ls ++ (done ++ [stepT z o p])).map V.str)) := by rw [upd_ne (Ne.symm rln)]; exact s7 _ _ hl6
          have hr8 : upd H7 r (.lst ([V.str "step", .str z, oS o, oS p, .ref b] ++ [.int ((((ls ++ (done ++ [stepT z o p])).map V.str).length : Nat) : Int)])) r = some (.lst [.str "step", .str z, oS o, oS p, .ref b, .int ((((ls ++ (done ++ [stepT z o p])).map V.str).length : Nat) : Int)]) := upd_same
          generalize upd H7 r (.lst ([V.str "step", .str z, oS o, oS p, .ref b] ++ [.int ((((ls ++ (done ++ [stepT z o p])).map V.str).length : Nat) : Int)])) = H8 at s28 hl8 hr8 ⊢
          generalize ((((ls ++ (done ++ [stepT z o p])).map V.str).length : Nat) : Int) = nn at hr8
          have hb8 : H8 b = some (.lst bl.refs) := s28 _ _ bln (Ne.symm rb) hro.2.1
          have rbl : r ∉ bl.adr := nd2.1.2.1
          have ru : r ∉ u.adr := nd2.1.2.2
          have bbl : b ∉ bl.adr := nd2.2.1.1
          have bu : b ∉ u.adr := nd2.2.1.2
          have blu : ∀ x ∈ bl.adr, x ∉ u.adr := fun x h1 h2 => nd2.2.2.2.2 x h1 x h2 rfl
          refine for_lst (K := K) (a := b) (xs := bl.refs) (fun j σ H' => (∀ x uu, x ≠ ln → x ∉ t.adr → H x = some uu → H' x = some uu) ∧ H' b = some (.lst bl.refs) ∧ u.own H' ∧ ∃ (d2 : List Str) (re2 : AT) (y4 y5 : Option V), σ = [some (.ref a), some (.ref ln), some (.ref r), y3, y4, y5] ∧ bl.wl = d2 ++ re2.wl ∧ re2.refs = bl.refs.drop j ∧ re2.own H' ∧ re2.good (some z) ∧ (∀ x ∈ re2.adr, x ∈ bl.adr) ∧ re2.adr.Nodup ∧ re2.dpt ≤ bl.dpt ∧ H' ln = some (.lst ((ls ++ (done ++ (stepT z o p :: d2))).map V.str)))
            (ev_ixL (ev_var rfl) (fun _ _ => ev_C) (.inl (.inl hr8)) rfl) (.inl (.inl hb8)) (fun H9 s9 => ⟨fun x uu h1 h2 h3 => s9 _ _ (s28 x uu h1 (fun k => h2 (by rw [k]; exact rt)) (fr x uu h1 h2 h3)), s9 _ _ hb8, AT.own_up u (fun x hx' uu k => s9 _ _ (s28 x uu (fun e => lnt (by rw [← e]; exact ut x hx')) (fun e => ru (by rw [← e]; exact hx')) k)) hro.2.2.2, [], bl, y4, y5, rfl, rfl, rfl, AT.own_up bl (fun x hx' uu k => s9 _ _ (s28 x uu (fun e => lnt (by rw [← e]; exact blt x hx')) (fun e => rbl (by rw [← e]; exact hx')) k)) hro.2.2.1, hbg, fun x hx' => hx', nd2.2.2.1, Nat.le_refl _, s9 _ _ hl8⟩) (fun j σ H' _ k => .inl (.inl k.2.1)) ?_ ?_
          · rintro j x2 σ H9 hx2 ⟨fr9, hb9, hu9, d2, re2, y4, y5, rfl, hw2, hre2, hro2, hrg2, hra2, hrn2, hrd2, hl9⟩
            rw [drop_at hx2] at hre2
            obtain ⟨pp, ii, oo, rs, u2, rfl, rfl, hoo, hrsg, hu2g, hu2r⟩ := at_blk hrg2 hre2
            have f1 : (AT.blk pp ii oo rs u2).wl = onT oo :: (rs.wl ++ endL :: u2.wl) := rfl
            have f2 : (AT.blk pp ii oo rs u2).dpt = max rs.dpt u2.dpt := rfl
            rw [f1] at hw2
            have hlw2 := congrArg List.length hw2
            rw [hblw] at hlw2
            simp only [List.length_append, List.length_cons] at hlw2 hlw
            have hrsl := wl_nl rs
            have nd3 := hrn2
            simp only [AT.adr, List.nodup_cons, List.nodup_append, List.mem_append, List.mem_cons, not_or] at nd3
            have inb : ∀ x ∈ (AT.blk pp ii oo rs u2).adr, x ∈ bl.adr := hra2
            have iibl : ii ∈ bl.adr := hra2 ii (by simp [AT.adr])
            have rsbl : ∀ x ∈ rs.adr, x ∈ bl.adr := fun x hx' => hra2 x (by simp [AT.adr, hx'])
            have u2bl : ∀ x ∈ u2.adr, x ∈ bl.adr := fun x hx' => hra2 x (by simp [AT.adr, hx'])
            refine ⟨pp, _, rfl, .inl (.inl hro2.1), rfl, _, _, rfl, _, _, rfl, rfl, ?_⟩
            have lo := tj_on (outs_all hoo)
            have l3 : (("on " : Str)).length ≤ 10 := by decide +kernel
            refine do_drop ⟨_, rfl, .inl ⟨rfl, ⟨_, .inl (.inl hl9)⟩⟩, ?_⟩
            refine cons_go ⟨_, rfl, _, _, rfl, rfl, by omega, nil_go ?_⟩
            refine ⟨ln, _, _, rfl, rfl, hl9, by simp only [List.length_map, List.length_append, List.length_cons]; omega, ?_⟩
            have eA : (ls ++ (done ++ (stepT z o p :: d2))).map V.str ++ [V.str (("on " : Str) ++ oo)] = (ls ++ (done ++ (stepT z o p :: (d2 ++ [onT oo])))).map V.str := by simp [onT]
            rw [eA]
            have lnb : ∀ x ∈ bl.adr, x ≠ ln := fun x hx' k => lnt (by rw [← k]; exact blt x hx')
            have sA : SameX ln H9 (upd H9 ln (.lst ((ls ++ (done ++ (stepT z o p :: (d2 ++ [onT oo])))).map V.str))) := SameX.put
            have hA : upd H9 ln (.lst ((ls ++ (done ++ (stepT z o p :: (d2 ++ [onT oo])))).map V.str)) ln = some (.lst ((ls ++ (done ++ (stepT z o p :: (d2 ++ [onT oo])))).map V.str)) := upd_same
            generalize upd H9 ln (.lst ((ls ++ (done ++ (stepT z o p :: (d2 ++ [onT oo])))).map V.str)) = HA at sA hA ⊢
            refine do_drop ⟨_, rfl, _, rfl, ii, ln, rs, ls ++ (done ++ (stepT z o p :: (d2 ++ [onT oo]))), rfl, sA _ _ (lnb ii iibl) hro2.2.1, AT.own_up rs (fun x hx' uu k => sA _ _ (lnb x (rsbl x hx')) k) hro2.2.2.1, List.nodup_cons.mpr ⟨nd3.2.1.1, nd3.2.2.1⟩, hrsg, fun k => ?_, hA, by simp only [List.length_append, List.length_cons, List.length_nil]; omega, by omega, fun HB hB frB => ?_⟩
            · rcases List.mem_cons.mp k with k | k
              · exact lnb ii iibl k.symm
              · exact lnb ln (rsbl ln k) rfl
            refine ⟨_, rfl, .inl ⟨rfl, ⟨_, .inl (.inl hB)⟩⟩, ?_⟩
            refine ⟨ln, _, _, rfl, rfl, hB, by simp only [List.length_map, List.length_append, List.length_cons, List.length_nil]; omega, ?_⟩
            have eB : (ls ++ (done ++ (stepT z o p :: (d2 ++ [onT oo]))) ++ rs.wl).map V.str ++ [V.str "end"] = (ls ++ (done ++ (stepT z o p :: (d2 ++ (onT oo :: (rs.wl ++ [endL])))))).map V.str := by simp [endL]
            rw [eB]
            have frC : ∀ x uu, x ≠ ln → x ∉ rs.adr → H9 x = some uu → upd HB ln (.lst ((ls ++ (done ++ (stepT z o p :: (d2 ++ (onT oo :: (rs.wl ++ [endL])))))).map V.str)) x = some uu := fun x uu h1 h2 h3 => by rw [upd_ne h1]; exact frB x uu h1 h2 (sA _ _ h1 h3)
            refine ⟨fun x uu h1 h2 h3 => frC x uu h1 (fun k => h2 (blt x (rsbl x k))) (fr9 x uu h1 h2 h3), frC b _ bln (fun k => bbl (rsbl b k)) hb9, AT.own_up u (fun x hx' uu k => frC x uu (fun e => lnt (by rw [← e]; exact ut x hx')) (fun e => blu x (rsbl x e) hx') k) hu9, d2 ++ (onT oo :: (rs.wl ++ [endL])), u2, _, _, rfl, by rw [hw2]; simp, hu2r, AT.own_up u2 (fun x hx' uu k => frC x uu (lnb x (u2bl x hx')) (fun e => nd3.2.2.2.2 x e x hx' rfl) k) hro2.2.2.2, hu2g, u2bl, nd3.2.2.2.1, by omega, upd_same⟩
          · rintro σ H9 ⟨fr9, hb9, hu9, d2, re2, y4, y5, rfl, hw2, hre2, hro2, hrg2, hra2, hrn2, hrd2, hl9⟩
            rw [List.drop_length] at hre2
            have := refs_nil hre2
            subst this
            have e8 : d2 = bl.wl := by rw [hw2]; exact (List.append_nil _).symm
            subst e8
            exact ⟨fr9, done ++ (stepT z o p :: bl.wl), u, some (.ref r), y3, y4, y5, rfl, by rw [hw]; simp, hur, hu9, hug, ut, nd2.2.2.2.1, by omega, hl9⟩
    · rintro σ H2 ⟨fr, done, rest, y2, y3, y4, y5, rfl, hw, hre, hro, hrg, hra, hrn, hrd, hl2⟩
      rw [List.drop_length] at hre
      have := refs_nil hre
      subst this
      have e8 : done = t.wl := by rw [hw]; exact (List.append_nil _).symm
      subst e8
      exact ⟨_, rfl, h0 H2 hl2 fr⟩
end
end K59


set_option Elab.async false
set_option linter.all false
set_option maxRecDepth 100000
set_option maxHeartbeats 4000000
namespace K59
open PySem PySem.Spec PyProof.Rows L2
section
variable {P : Program} {w : World} {K : PySem.W.Frag} {mg : Str → Option Value} {base : Heap}
def spDrawn : Sp := fun vs H Q E => ∃ (d c : Addr) (n : Nat), vs = [.ref d] ∧ Bag H d c n ∧ n < 2 ^ 20 ∧ ∀ q a ln k t H' m, m ≤ n + 200 → Bag H' d c m → H' q = some (.tup [.str k, .ref a, .ref ln]) → H' ln = some (.lst (t.wl.map V.str)) → k ∈ dkN → AT.good none t → t.nl ≤ 32 → Once k t → Q (.ref q) H'
theorem ok_drawn (T : Tx P w K mg) : FnX P w K mg base CX0 60 "_law_drawn" ["_law_bag_here"] [] spDrawn := by
  have F_l_base := ok_lbase (base := base) T
  have F_l_slip := ok_slip (base := base) T
  have F_l_written := ok_written (base := base) T 40
  have F_l_draw := ok_draw (w := w) (base := base) T
  refine T.d_l_drawn.ok0 sc_l_drawn (fun _ _ _ _ _ _ us hl => match us, hl with | [_], _ => rfl) (fun vs H Q E h => ?_) (fun f cdv A outer s H vs Q E hr h => have hu := hu_of hr; ⟨_, (by exact (pss_cons (ps_set (i := 1) sc_l_drawn.nd rfl (Or.inl rfl) (pe_ix ix_list (pe_lst (pa_cons pe_str (pa_cons pe_str (pa_cons pe_str pa_nil)))) (pe_callX F_l_draw (hr.mono (by first | decide | omega)) pass0 (pa_cons (pv 0) (pa_cons pe_int pa_nil))) (fun _ _ => rfl)))
      (pss_cons (ps_set (i := 2) sc_l_drawn.nd rfl (Or.inl rfl) (pe_ifExp (pt_cmpR op_gt (pe_callX F_l_draw (hr.mono (by first | decide | omega)) pass0 (pa_cons (pv 0) (pa_cons pe_int pa_nil))) pe_int (nomark _)) (pe_callX F_l_base (hr.mono (by first | decide | omega)) pass0 (pa_cons (pv 0) (pa_cons (pv 1) pa_nil))) (pe_lst pa_nil)))
      (pss_cons (ps_for PassesOwn.never rfl (pi_range1 rfl T.b_range (pa_cons (pe_callX F_l_draw (hr.mono (by first | decide | omega)) pass0 (pa_cons (pv 0) (pa_cons pe_int pa_nil))) pa_nil)) (pg_name (i := 3) sc_l_drawn.nd rfl (Or.inl rfl))
        (pss_one (ps_expr (pe_callX F_l_slip (hr.mono (by first | decide | omega)) pass0 (pa_cons (pv 0) (pa_cons (pv 1) (pa_cons (pv 2) pa_nil)))))))
      (pss_one (ps_ret (pe_tup (pa_cons (pv 1) (pa_cons (pv 2) (pa_cons (pe_callX F_l_written (hr.mono (by first | decide | omega)) pass0 (pa_cons (pv 2) (pa_cons (pe_lst pa_nil) pa_nil))) pa_nil)))))))))), ?_⟩)
  · obtain ⟨d, c, n, rfl, _⟩ := h
    rfl
  obtain ⟨d, c, n, rfl, hb, hn, h0⟩ := h
  refine set_te (pick_go (lim := 3) (xs := dkN.map V.str) (ev_cons ev_C fun _ _ => ev_cons ev_C fun _ _ => ev_cons ev_C fun _ _ => ev_nil) rfl hb (by omega) rfl (by decide) (fun r1 v1 H1 hv1 s1 hb1 => ?_))
  obtain ⟨k, hk, rfl⟩ : ∃ k ∈ dkN, v1 = .str k := by
    rw [List.getElem?_map] at hv1
    obtain ⟨k, hk, rfl⟩ := Option.map_eq_some_iff.mp hv1
    exact ⟨k, List.mem_of_getElem? hk, rfl⟩
  have rest : ∀ (a : Addr) (t : AT) (H2 : Hp) (m : Nat), m ≤ n + 10 → Bag H2 d c m → TreeB H2 c a t → t.nl ≤ 20 → Once k t → (tSeq (tFor (iRng1 (tCons (tCall spDraw [] E0 (tCons (tVar 0) (tCons (tC (V.int 4)) tNil))) tNil)) (gName 3) (tDrop (tCall spSlip [] E0 (tCons (tVar 0) (tCons (tVar 1) (tCons (tVar 2) tNil)))))) (tRet (tTup (tCons (tVar 1) (tCons (tVar 2) (tCons (tCall (spWritten 40) [] E0 (tCons (tVar 2) (tCons (tLst tNil) tNil))) tNil)))))) { nx := fun _ H' => Q .non H', rt := Q } [some (.ref d), some (.str k), some (.ref a), none] H2 := by
    intro a t H2 m hm hb2 ht hnl hon
    refine nx_for (draw_go (lim := 4) rfl hb2 (by omega) (by decide) (by decide) (fun r H3 hr3 s3 hb3 => ?_))
    have ht3 := ht.draw hb2 s3
    refine ⟨(r : Nat), rfl, by omega, by omega, for_range (lo := 0) (n := r) (fun i σ H' => ∃ (t' : AT) (m' : Nat) (y : Option V), σ = [some (.ref d), some (.str k), some (.ref a), y] ∧ m' ≤ n + 11 + 30 * i ∧ Bag H' d c m' ∧ TreeB H' c a t' ∧ t'.nl ≤ 20 + 4 * i ∧ Once k t') ⟨t, m + 1, none, rfl, by omega, hb3, ht3, by omega, hon⟩ ?_ ?_⟩
    · rintro i σ H4 hi ⟨t', m', y, rfl, hm', hb4, ht4, hnl4, hon4⟩
      refine ⟨_, rfl, _, rfl, _, rfl, d, c, a, m', .str k, t', rfl, hb4, by omega, ht4, by omega, fun t2 H5 m2 hm2 hb5 ht5 hnl5 hcnt => ?_⟩
      exact ⟨t2, m2, _, rfl, by omega, hb5, ht5, by omega, fun z hz => Nat.le_trans (hcnt z hz) (hon4.1 z hz), fun e => by
        have h1 := hcnt "lay" (by decide +kernel)
        have h2 := hcnt "stretch" (by decide +kernel)
        have h3 := hon4.2 e
        omega⟩
    · rintro σ H4 ⟨t', m', y, rfl, hm', hb4, ht4, hnl4, hon4⟩
      have hdp := dpt_nl t'
      refine ⟨_, rfl, _, rfl, _, rfl, szL rfl, fun ln hln => ?_⟩
      have s5 : Same H4 (upd H4 ln (.lst [])) := Same.new hln
      have h5 : upd H4 ln (.lst []) ln = some (.lst []) := upd_same
      generalize upd H4 ln (.lst []) = H5 at s5 h5 ⊢
      have ht5 := ht4.up s5
      have hb5 := hb4.up s5
      have lnT : ln ∉ a :: t'.adr := fun z => by
        rcases List.mem_cons.mp z with z | z
        · have := ht4.at_
          rw [← z, hln] at this; cases this
        · obtain ⟨l, hl⟩ := AT.own_lst t' ht4.own ln z
          rw [hln] at hl; cases hl
      refine ⟨a, ln, t', [], rfl, ht5.at_, ht5.own, ht5.nd, ht5.good, lnT, h5, by show 0 + t'.nl ≤ 1000; omega, by omega, fun H6 h6 fr => ⟨szL rfl, fun q hq => ?_⟩⟩
      have hd6 : Bag H6 d c m' := by
        obtain ⟨cs, a1, a2, a3, a4, g1, g2, g3⟩ := hb5
        have dT : d ∉ t'.adr := fun z => by
          obtain ⟨l, hl⟩ := AT.own_lst t' ht5.own d z
          rw [g1] at hl; cases hl
        have dl : d ≠ ln := fun e => by rw [e, h5] at g1; cases g1
        have cl : c ≠ ln := fun e => by
          obtain ⟨cs', _, _, _, _, _, g2', _⟩ := hb4
          rw [e, hln] at g2'; cases g2'
        exact ⟨cs, a1, a2, a3, a4, fr d _ dl dT g1, fr c _ cl (fun z => ht5.cn (List.mem_cons_of_mem _ z)) g2, g3⟩
      have s7 : Same H6 (upd H6 q (.tup [.str k, .ref a, .ref ln])) := Same.new hq
      exact h0 q a ln k t' _ m' (by omega) (hd6.up s7) upd_same (s7 _ _ h6) hk ht5.good (by omega) hon4
  have cn : ∀ {q : Addr} {t : AT} {H2 : Hp} {m : Nat}, Bag H2 d c m → (∀ x ∈ q :: t.adr, H2 x = none) → c ∉ q :: t.adr := fun h2 hx z => by
    obtain ⟨cs', _, _, _, _, _, g2', _⟩ := h2
    rw [hx c z] at g2'; cases g2'
  refine set_te (draw_go (lim := 12) rfl hb1 (by omega) (by decide) (by decide) (fun r2 H2 hr2 s2 hb2 => ?_))
  refine ⟨_, _, rfl, rfl, _, rfl, ?_⟩
  refine iteB (fun g => ?_) (fun g => ?_)
  · refine ⟨_, rfl, _, rfl, d, c, n + 1 + 1, k, rfl, hk, hb2, by omega, fun q t H3 m hm nb hb3 hbo => ?_⟩
    exact rest q t H3 m (by omega) hb3 ⟨nb.at_, nb.own, nb.nd, cn hb2 nb.new, hbo.1⟩ hbo.2.1 hbo.2.2
  · refine mk_lst (vs := []) ev_nil (fun H3 q s3 hq h3 => ?_)
    refine rest q .nil H3 (n + 1 + 1) (by omega) (hb2.up s3) ⟨h3, trivial, by simp [AT.adr], cn hb2 (fun x hx => by simp only [AT.adr, List.mem_cons, List.not_mem_nil, or_false] at hx; rw [hx]; exact hq), trivial⟩ (Nat.zero_le _) ⟨fun z _ => Nat.zero_le _, fun _ => ⟨rfl, rfl⟩⟩
end
end K59


set_option Elab.async false
set_option linter.all false
set_option maxRecDepth 100000
set_option maxHeartbeats 4000000
namespace K59
open PySem PySem.Spec PyProof.Rows L2
def badL : List Str := ["find", "find p", "look h", "look p h", "lay h", "give p h", "free h", "strike", "stretch p q", "enter", "enter p", "leave h", "h = p", "h = h", "p = 1", "quit", "quit yes", "Leave", " leave", "leave ", "", "on full now", "else", "if there", "find h p", "copy h i", "lay  p", "on there", "on", "h=i"]
def oddB (z : Str) : Bool := !decide (words z = endW) && ((stepOf (words z)).isNone && (!(plainRow (words z) 0).isSome && ((!begins [z] || decide (z = "on there")) && (decide (z.length ≤ 1000) && ((words z).all PyData.strOk && (nlF z && PyData.strOk z))))))
theorem badL_ok : ∀ z ∈ badL, oddB z = true := by decide +kernel
structure OddL (z : Str) : Prop where
  odd : Odd z
  on : begins [z] = true → z = "on there"
  ok : LnOk z
  nn : nlF z = true
  so : PyData.strOk z = true
  len : z.length ≤ 1000
theorem oddL {z : Str} (h : z ∈ badL) : OddL z := by
  have k := badL_ok z h
  unfold oddB at k
  simp only [Bool.and_eq_true, Bool.not_eq_true', decide_eq_false_iff_not, Option.isNone_iff_eq_none, decide_eq_true_eq, Bool.or_eq_true] at k
  obtain ⟨k1, k2, k3, k4, k5, k6, k7, k8⟩ := k
  refine ⟨⟨k1, k2, pl_none k3, fun b => ?_⟩, fun b => ?_, ⟨by omega, k6⟩, k7, k8, k5⟩
  · rcases k4 with k4 | k4
    · rw [b] at k4; cases k4
    · rw [k4]; decide +kernel
  · rcases k4 with k4 | k4
    · rw [b] at k4; cases k4
    · exact k4
def soB (z : Str) : Bool := PyData.strOk z && (decide (z.length ≤ 1000) && !decide (z = ""))
theorem soB_of {z : Str} (h : soB z = true) : PyData.strOk z = true ∧ z.length ≤ 1000 ∧ z ≠ "" := by
  unfold soB at h
  simp only [Bool.and_eq_true, decide_eq_true_eq, Bool.not_eq_true', decide_eq_false_iff_not] at h
  exact h
theorem so_row : ∀ ws ∈ plS, soB (rowT ws) = true := by decide +kernel
theorem so_step {w : Str} {o p : Option Str} (h : stOk w o p) : soB (stepT w o p) = true := by
  simp only [stOk, idN, plN, List.mem_cons, List.not_mem_nil, or_false] at h
  rcases h with ⟨rfl, ⟨x, (rfl | rfl), rfl⟩, rfl⟩ | ⟨(rfl | rfl), ⟨x, (rfl | rfl), rfl⟩, y, (rfl | rfl), rfl⟩ | ⟨(rfl | rfl | rfl | rfl), rfl, y, (rfl | rfl), rfl⟩ <;> decide +kernel
theorem so_on : ∀ o ∈ allO, soB (onT o) = true := by decide +kernel
/-- the lines of good rows -/
structure WlL (z : Str) : Prop where
  ok : LnOk z
  nn : nlF z = true
  sb : soB z = true
theorem WlL.so {z : Str} (h : WlL z) : PyData.strOk z = true := (soB_of h.sb).1
theorem WlL.len {z : Str} (h : WlL z) : z.length ≤ 1000 := (soB_of h.sb).2.1
theorem WlL.ne {z : Str} (h : WlL z) : z ≠ "" := (soB_of h.sb).2.2
theorem wlL : ∀ t : AT, (t.good none ∨ ∃ w, t.good (some w)) → ∀ z ∈ t.wl, WlL z
  | .nil, _, z, h => nomatch h
  | .row r ws t, g, z, h => by
    have hg : ws ∈ plS ∧ t.good none := g.elim id (fun ⟨w, k⟩ => k.elim)
    rcases List.mem_cons.mp (show z ∈ rowT ws :: t.wl from h) with k | k
    · rw [k]; exact ⟨(rowL hg.1).ok, (rowL hg.1).nn, so_row ws hg.1⟩
    · exact wlL t (.inl hg.2) z k
  | .step r b w o p bl t, g, z, h => by
    have hg : stOk w o p ∧ bl.good (some w) ∧ t.good none := g.elim id (fun ⟨w, k⟩ => k.elim)
    rcases List.mem_cons.mp (show z ∈ stepT w o p :: (bl.wl ++ t.wl) from h) with k | k
    · rw [k]; exact ⟨(stepL hg.1).ok, (stepL hg.1).nn, so_step hg.1⟩
    · rcases List.mem_append.mp k with k | k
      · exact wlL bl (.inr ⟨w, hg.2.1⟩) z k
      · exact wlL t (.inl hg.2.2) z k
  | .blk r b o rs t, g, z, h => by
    obtain ⟨w, hg⟩ : ∃ w, o ∈ outs w ∧ o ∉ t.os ∧ rs.good none ∧ t.good (some w) := g.elim (fun k => k.elim) id
    have ho := outs_all hg.1
    rcases List.mem_cons.mp (show z ∈ onT o :: (rs.wl ++ endL :: t.wl) from h) with k | k
    · rw [k]; exact ⟨(onL ho).ok, (onL ho).nn, so_on o ho⟩
    · rcases List.mem_append.mp k with k | k
      · exact wlL rs (.inl hg.2.2.1) z k
      · rcases List.mem_cons.mp k with k | k
        · rw [k]; exact ⟨lnB (by decide +kernel), by decide +kernel, by decide +kernel⟩
        · exact wlL t (.inr ⟨w, hg.2.2.2⟩) z k
theorem cutTo (xs : List V) (n : Nat) : cutV xs none (some (n : Int)) = xs.take n := by
  unfold cutV
  rw [HT.sIx_nat]
  show List.take (min n xs.length - 0) (xs.drop 0) = _
  rw [Nat.sub_zero, List.drop_zero]
  by_cases h : n ≤ xs.length
  · rw [Nat.min_eq_left h]
  · rw [Nat.min_eq_right (by omega), List.take_length, List.take_of_length_le (by omega)]
theorem cutFrom (xs : List V) (n : Nat) : cutV xs (some (n : Int)) none = xs.drop n := by
  unfold cutV
  rw [HT.sIx_nat]
  show List.take (xs.length - min n xs.length) (xs.drop (min n xs.length)) = _
  by_cases h : n ≤ xs.length
  · rw [Nat.min_eq_left h]
    exact List.take_of_length_le (by rw [List.length_drop]; omega)
  · rw [Nat.min_eq_right (by omega), List.drop_length, List.drop_eq_nil_of_le (by omega)]
    simp
section
variable {P : Program} {w : World} {K : PySem.W.Frag} {mg : Str → Option Value} {base : Heap}
theorem set_cat {ta : TA} {s : TS} {D : Ends} {z : L2.St} {H : Hp} {xs ys : List V} {i : Nat} {p : Addr} (hi : z[i]? = some (some (.ref p))) (hp : H p = some (.lst xs)) (ha : EvA ta z H ys) (hl : Nat.ble (xs ++ ys).length 1000 = true) (k : ∀ H' q, Same H H' → H' q = some (.lst (xs ++ ys)) → s D (z.set i (some (.ref q))) H') : tSeq (tAsg (tOp rCat (tVar i) (tLst ta)) (gName i)) s D z H := by
  have hle := Nat.le_of_ble_eq_true hl
  rw [List.length_append] at hle
  have q9 : sizeLine = 16777216 := sizeLine_eq
  refine ⟨_, hi, ha _ fun H1 s1 => ⟨by omega, fun q2 hq2 => ⟨p, q2, xs, ys, rfl, rfl, (s1.tr (Same.new hq2)) _ _ hp, upd_same, by omega, fun q3 hq3 => k _ q3 ((s1.tr (Same.new hq2)).tr (Same.new hq3)) upd_same⟩⟩⟩
theorem retT_go {ta : TA} {D : Ends} {z : L2.St} {H : Hp} (h : ta z H fun xs H1 => xs.length ≤ sizeLine ∧ ∀ p, H1 p = none → D.rt (.ref p) (upd H1 p (.tup xs))) : tRet (tTup ta) D z H := h
theorem nx_whl {c : TT} {tb r : TS} {D : Ends} {z : L2.St} {H : Hp} (h : tWhile c tb { nx := r D, rt := D.rt, bk := D.bk, ct := D.ct } z H) : tSeq (tWhile c tb) r D z H := h
def spOddL : Sp := fun vs H Q E => ∃ (d c ln : Addr) (n : Nat) (kv : V) (t : AT), vs = [.ref d, kv, .ref ln] ∧ Bag H d c n ∧ n < 2 ^ 25 ∧ H ln = some (.lst (t.wl.map V.str)) ∧ t.good none ∧ t.nl ≤ 100 ∧
  ∀ q q2 A B z H' m, m ≤ n + 5 → SameX d H H' → Bag H' d c m → H' q = some (.tup [.ref q2, .int (((A : List Str).length + 1 : Nat) : Int)]) → H' q2 = some (.lst ((A ++ z :: B).map V.str)) → t.wl = A ++ B → OddL z → AOk z A → (z = "" → t.wl ≠ []) → Q (.ref q) H'
theorem ok_odd (T : Tx P w K mg) : FnX P w K mg base CX0 2 "_law_odd_line" ["_law_bag_here", "_law_kind", "_law_lines"] [] spOddL := by
  have F_l_draw := ok_draw (w := w) (base := base) T
  refine T.d_l_odd_line.ok0 sc_l_odd_line (fun _ _ _ _ _ _ us hl => match us, hl with | [_, _, _], _ => rfl) (fun vs H Q E h => ?_) (fun f cdv A outer s H vs Q E hr h => have hu := hu_of hr; ⟨_, (by exact (pss_cons (ps_set (i := 3) sc_l_odd_line.nd rfl (Or.inl rfl) (pe_lst (pa_cons pe_str (pa_cons pe_str (pa_cons pe_str (pa_cons pe_str (pa_cons pe_str (pa_cons pe_str (pa_cons pe_str (pa_cons pe_str pa_nil))))))))))
      (pss_cons (ps_set (i := 3) sc_l_odd_line.nd rfl (Or.inl rfl) (pe_op op_cat (pv 3) (pe_lst (pa_cons pe_str (pa_cons pe_str (pa_cons pe_str (pa_cons pe_str (pa_cons pe_str (pa_cons pe_str (pa_cons pe_str (pa_cons pe_str pa_nil)))))))))))
      (pss_cons (ps_set (i := 3) sc_l_odd_line.nd rfl (Or.inl rfl) (pe_op op_cat (pv 3) (pe_lst (pa_cons pe_str (pa_cons pe_str (pa_cons pe_str (pa_cons pe_str (pa_cons pe_str (pa_cons pe_str pa_nil)))))))))
      (pss_cons (ps_set (i := 3) sc_l_odd_line.nd rfl (Or.inl rfl) (pe_op op_cat (pv 3) (pe_lst (pa_cons pe_str (pa_cons pe_str (pa_cons pe_str (pa_cons pe_str (pa_cons pe_str (pa_cons pe_str (pa_cons pe_str (pa_cons pe_str pa_nil)))))))))))
      (pss_cons (ps_set (i := 4) sc_l_odd_line.nd rfl (Or.inl rfl) (pe_callX F_l_draw (hr.mono (by first | decide | omega)) pass0 (pa_cons (pv 0) (pa_cons (pe_op op_add (pe_callB call_len_seq (by rfl) T.b_len (by decide +kernel) (pa_cons (pv 2) pa_nil)) pe_int) pa_nil))))
      (pss_cons (ps_while PassesOwn.never (PW.pt (pw_and (pt_cmpR op_gt (pv 4) pe_int (nomark _)) (pw_and1 (pt_cmpR op_eq (pe_ix ix_list (pv 2) (pe_op op_sub (pv 4) pe_int) (fun _ _ => rfl)) pe_str (nomark _))))) (pss_one (ps_set (i := 4) sc_l_odd_line.nd rfl (Or.inl rfl) (pe_op op_sub (pv 4) pe_int))))
      (pss_cons (ps_set (i := 5) sc_l_odd_line.nd rfl (Or.inl rfl) (pe_ifExp (pt_cmpR op_gt (pv 4) pe_int (nomark _)) (pe_ix ix_list (pe_split (pe_ix ix_list (pv 2) (pe_op op_sub (pv 4) pe_int) (fun _ _ => rfl)) pe_str) pe_int (fun _ _ => rfl)) pe_str))
      (pss_cons (ps_set (i := 6) sc_l_odd_line.nd rfl (Or.inl rfl) (pe_ix ix_list (pv 3) (pe_callX F_l_draw (hr.mono (by first | decide | omega)) pass0 (pa_cons (pv 0) (pa_cons pe_int pa_nil))) (fun _ _ => rfl)))
      (pss_cons (ps_if (PW.pt (pw_and (pt_cmpR op_eq (pv 6) pe_str (nomark _)) (pw_and1 (pt_cmpR (op_eqD hr.units) (pv 2) (pe_lst pa_nil) (nomark _))))) (pss_one (ps_set (i := 6) sc_l_odd_line.nd rfl (Or.inl rfl) pe_str)) pss_nil)
      (pss_cons (ps_if (PW.pt (pw_and (pt_cmpR op_eq (pv 6) pe_str (nomark _)) (pw_and1 (pt_cmpR op_in_seq (pv 5) (pe_lst (pa_cons pe_str (pa_cons pe_str pa_nil))) (by rfl))))) (pss_one (ps_set (i := 6) sc_l_odd_line.nd rfl (Or.inl rfl) pe_str)) pss_nil)
      (pss_one (ps_ret (pe_tup (pa_cons (pe_op op_cat (pe_op op_cat (pe_slice sl_list (pv 2) po_none (po_some (pv 4))) (pe_lst (pa_cons (pv 6) pa_nil))) (pe_slice sl_list (pv 2) (po_some (pv 4)) po_none)) (pa_cons (pe_op op_add (pv 4) pe_int) pa_nil)))))))))))))))), ?_⟩)
  · obtain ⟨d, c, ln, n, kv, t, rfl, _⟩ := h
    rfl
  obtain ⟨d, c, ln, n, kv, t, rfl, hb, hn, hl, hg, hnl, h0⟩ := h
  have q9 : sizeLine = 16777216 := sizeLine_eq
  refine set_lst (vs := (badL.take 8).map V.str) (ev_cons ev_C fun _ _ => (ev_cons ev_C fun _ _ => (ev_cons ev_C fun _ _ => (ev_cons ev_C fun _ _ => (ev_cons ev_C fun _ _ => (ev_cons ev_C fun _ _ => (ev_cons ev_C fun _ _ => (ev_cons ev_C fun _ _ => ev_nil)))))))) (fun H1 p1 s1 _ h1 => ?_)
  refine set_cat (i := 3) rfl h1 (ys := ((badL.drop 8).take 8).map V.str) (ev_cons ev_C fun _ _ => (ev_cons ev_C fun _ _ => (ev_cons ev_C fun _ _ => (ev_cons ev_C fun _ _ => (ev_cons ev_C fun _ _ => (ev_cons ev_C fun _ _ => (ev_cons ev_C fun _ _ => (ev_cons ev_C fun _ _ => ev_nil)))))))) (by decide +kernel) (fun H2 p2 s2 h2 => ?_)
  refine set_cat (i := 3) rfl h2 (ys := ((badL.drop 16).take 6).map V.str) (ev_cons ev_C fun _ _ => (ev_cons ev_C fun _ _ => (ev_cons ev_C fun _ _ => (ev_cons ev_C fun _ _ => (ev_cons ev_C fun _ _ => (ev_cons ev_C fun _ _ => ev_nil)))))) (by decide +kernel) (fun H3 p3 s3 h3 => ?_)
  refine set_cat (i := 3) rfl h3 (ys := (badL.drop 22).map V.str) (ev_cons ev_C fun _ _ => (ev_cons ev_C fun _ _ => (ev_cons ev_C fun _ _ => (ev_cons ev_C fun _ _ => (ev_cons ev_C fun _ _ => (ev_cons ev_C fun _ _ => (ev_cons ev_C fun _ _ => (ev_cons ev_C fun _ _ => ev_nil)))))))) (by decide +kernel) (fun H4 p4 s4 h4 => ?_)
  have h4' : H4 p4 = some (.lst (badL.map V.str)) := h4
  have s04 : Same H H4 := ((s1.tr s2).tr s3).tr s4
  have hwl := wl_nl t
  have hl4 := s04 _ _ hl
  have hb4 := hb.up s04
  refine set_te (drawE_go (lim := t.wl.length + 1) rfl (ev_op (ev_len (K := K) (ev_cons (ev_var rfl) fun _ _ => ev_nil) (.inl (.inl (.inl hl4)))) (fun _ _ => ev_C) fun _ _ Q' q' => ⟨_, _, rfl, rfl, by rw [List.length_map]; exact q'⟩) hb4 (by omega) (by omega) (by omega) (fun r5 H5 hr5 s5 hb5 => ?_))
  have hl5 := s5 _ _ (bag_ne hb4 hl4) hl4
  have h5b := s5 _ _ (bag_ne hb4 h4') h4'
  have s05 : SameX d H H5 := s04.x.tr s5
  have ixl : ∀ {H' : Hp} {σ : L2.St} {at_ : Nat}, σ[2]? = some (some (.ref ln)) → σ[4]? = some (some (.int (at_ : Nat))) → H' ln = some (.lst (t.wl.map V.str)) → 1 ≤ at_ → at_ ≤ t.wl.length → EvE (tOp (rIxL K) (tVar 2) (tOp (rI0 fun i j => V.int (i - j)) (tVar 4) (tC (V.int 1)))) σ H' (.str (t.wl.getD (at_ - 1) "")) := fun {H' σ at_} h1 h2 h3 h4 h5 => by
    refine ev_ixL (n := (at_ : Int) - 1) (ev_var h1) (fun _ _ => ev_op (ev_var h2) (fun _ _ => ev_C) fun _ _ Q' q' => ⟨_, _, rfl, rfl, q'⟩) (.inl (.inl h3)) ?_
    rw [show (at_ : Int) - 1 = ((at_ - 1 : Nat) : Int) by omega]
    exact at_word (by omega)
  have pos : ∀ {H' : Hp} {σ : L2.St} {at_ : Nat}, σ[4]? = some (some (.int (at_ : Nat))) → EvT (tTest (tOp (rI0 fun i j => V.bl (decide (j < i))) (tVar 4) (tC (V.int 0)))) σ H' (decide ((0 : Int) < (at_ : Nat))) := fun h => ev_test (ev_op (ev_var h) (fun _ _ => ev_C) fun _ _ Q' q' => ⟨_, _, rfl, rfl, q'⟩)
  refine nx_whl (do_whl (fun m σ H' => ∃ at_ : Nat, m = at_ ∧ at_ ≤ t.wl.length ∧ σ = [some (.ref d), some kv, some (.ref ln), some (.ref p4), some (.int (at_ : Nat)), none, none] ∧ Same H5 H') (m0 := r5) ⟨r5, rfl, by omega, rfl, Same.rf _⟩ ?_)
  rintro m σ H6 ⟨at_, rfl, hat, rfl, s6⟩
  have hl6 := s6 _ _ hl5
  let S6 : L2.St := [some (.ref d), some kv, some (.ref ln), some (.ref p4), some (.int (m : Nat)), none, none]
  refine ⟨_, ev_and (pos rfl) fun g H7 s7 => eq_str (ixl rfl rfl (s7 _ _ hl6) (by have := of_decide_eq_true g; omega) hat) fun _ _ => ev_C, fun g H7 s7 => ?_, fun g H7 s7 => ?_⟩
  · simp only [Bool.and_eq_true, decide_eq_true_eq] at g
    refine ⟨_, rfl, _, _, rfl, rfl, m - 1, by omega, m - 1, rfl, by omega, ?_, s6.tr s7⟩
    show [some (V.ref d), some kv, some (.ref ln), some (.ref p4), some (.int ((m : Int) - 1)), none, none] = _
    rw [show (m : Int) - 1 = ((m - 1 : Nat) : Int) by omega]
  have hend : 0 < m → t.wl.getD (m - 1) "" ≠ "end" := fun hm e => by
    rw [decide_eq_true e, decide_eq_true (by omega : (0 : Int) < (m : Nat))] at g
    cases g
  have hl7 := s7 _ _ hl6
  have s57 := s6.tr s7
  have hb7 := hb5.up s57
  let lastW : Str := if 0 < m then (words (t.wl.getD (m - 1) "")).getD 0 "" else ""
  refine set_ifV (pos (σ := S6) rfl) (fun v H8 => v = .str lastW ∧ Same H7 H8) (fun g2 H8 s8 Q' k => ?_) (fun g2 H8 s8 Q' k => ?_) ?_
  · have hm : 0 < m := by have := of_decide_eq_true g2; omega
    have hz : t.wl.getD (m - 1) "" ∈ t.wl := by
      rw [List.getD_eq_getElem?_getD, List.getElem?_eq_getElem (by omega)]
      exact List.getElem_mem _
    have hok := (wlL t (.inl hg) _ hz).ok.1
    refine do_split (ixl (σ := S6) rfl rfl (s8 _ _ hl7) hm hat) (by decide +kernel) (by omega) (fun H9 q s9 _ hq => ?_)
    refine ⟨q, _, 0, _, rfl, rfl, .inl (.inl hq), at_word (i := 0) (w0 (words_ne _)), k _ _ ⟨?_, s8.tr s9⟩⟩
    show V.str ((words (t.wl.getD (m - 1) "")).getD 0 "") = V.str (if 0 < m then _ else _)
    rw [if_pos hm]
  · refine k _ _ ⟨?_, s8⟩
    show V.str "" = V.str (if 0 < m then _ else _)
    rw [if_neg (by have := of_decide_eq_false g2; omega)]
  rintro _ H8 ⟨rfl, s8⟩
  have s58 := s57.tr s8
  refine set_te (pickv_go (j := 3) (lim := 30) rfl (s58 _ _ h5b) rfl (hb5.up s58) (by omega) rfl (by decide) (by decide) (fun r9 v9 H9 hv9 s9 hb9 => ?_))
  obtain ⟨z0, hz0, rfl⟩ : ∃ z0 ∈ badL, v9 = .str z0 := by
    rw [List.getElem?_map] at hv9
    obtain ⟨k, hk, rfl⟩ := Option.map_eq_some_iff.mp hv9
    exact ⟨k, List.mem_of_getElem? hk, rfl⟩
  have hl9 := s9 _ _ (bag_ne (hb5.up s58) (s58 _ _ hl5)) (s58 _ _ hl5)
  have s09 : SameX d H H9 := (s05.tr s58.x).tr s9
  have soA : t.wl.all PyData.strOk = true := List.all_eq_true.mpr fun z hz => (wlL t (.inl hg) z hz).so
  have fin : ∀ (z : Str) (Hx : Hp), Same H9 Hx → OddL z → (begins [z] = true → 0 < m → lastW ≠ "find") → (z = "" → t.wl ≠ []) → (tRet (tTup (tCons (tOp rCat (tOp rCat (tSl (rSlL K) (tVar 2) tNoPart (tPart (tVar 4))) (tLst (tCons (tVar 6) tNil))) (tSl (rSlL K) (tVar 2) (tPart (tVar 4)) tNoPart)) (tCons (tOp (rI0 fun i j => V.int (i + j)) (tVar 4) (tC (V.int 1))) tNil)))) { nx := fun _ H' => Q .non H', rt := Q } [some (.ref d), some kv, some (.ref ln), some (.ref p4), some (.int (m : Nat)), some (.str lastW), some (.str z)] Hx := by
    intro z Hx sx hz hbg hze
    have hlx := sx _ _ hl9
    refine retT_go (cons_go ?_)
    refine ⟨_, rfl, _, rfl, _, rfl, ln, _, rfl, .inl (.inl hlx), fun qa hqa => ?_⟩
    rw [cutTo]
    have sa : Same Hx (upd Hx qa (.lst ((t.wl.map V.str).take m))) := Same.new hqa
    have ha : upd Hx qa (.lst ((t.wl.map V.str).take m)) qa = some (.lst ((t.wl.map V.str).take m)) := upd_same
    generalize upd Hx qa (.lst ((t.wl.map V.str).take m)) = Ha at sa ha ⊢
    refine ⟨_, rfl, szL rfl, fun qb hqb => ?_⟩
    have sb : Same Ha (upd Ha qb (.lst [.str z])) := Same.new hqb
    have hb' : upd Ha qb (.lst [.str z]) qb = some (.lst [.str z]) := upd_same
    generalize upd Ha qb (.lst [.str z]) = Hb at sb hb' ⊢
    refine ⟨qa, qb, _, _, rfl, rfl, sb _ _ ha, hb', by simp only [List.length_take, List.length_map, List.length_cons, List.length_nil]; omega, fun qc hqc => ?_⟩
    have sc : Same Hb (upd Hb qc (.lst ((t.wl.map V.str).take m ++ [.str z]))) := Same.new hqc
    have hc' : upd Hb qc (.lst ((t.wl.map V.str).take m ++ [.str z])) qc = some (.lst ((t.wl.map V.str).take m ++ [.str z])) := upd_same
    generalize upd Hb qc (.lst ((t.wl.map V.str).take m ++ [.str z])) = Hc at sc hc' ⊢
    refine ⟨_, rfl, _, rfl, _, rfl, ln, _, rfl, .inl (.inl (((sa.tr sb).tr sc) _ _ hlx)), fun qd hqd => ?_⟩
    rw [cutFrom]
    have sd : Same Hc (upd Hc qd (.lst ((t.wl.map V.str).drop m))) := Same.new hqd
    have hd' : upd Hc qd (.lst ((t.wl.map V.str).drop m)) qd = some (.lst ((t.wl.map V.str).drop m)) := upd_same
    generalize upd Hc qd (.lst ((t.wl.map V.str).drop m)) = Hd at sd hd' ⊢
    refine ⟨qc, qd, _, _, rfl, rfl, sd _ _ hc', hd', by simp only [List.length_take, List.length_drop, List.length_map, List.length_append, List.length_cons, List.length_nil]; omega, fun qe hqe => ?_⟩
    have se : Same Hd (upd Hd qe (.lst ((t.wl.map V.str).take m ++ [.str z] ++ (t.wl.map V.str).drop m))) := Same.new hqe
    have he' : upd Hd qe (.lst ((t.wl.map V.str).take m ++ [.str z] ++ (t.wl.map V.str).drop m)) qe = some (.lst ((t.wl.take m ++ z :: t.wl.drop m).map V.str)) := by
      rw [upd_same]
      simp [List.map_take, List.map_drop]
    generalize upd Hd qe (.lst ((t.wl.map V.str).take m ++ [.str z] ++ (t.wl.map V.str).drop m)) = He at se he' ⊢
    refine cons_go ⟨_, rfl, _, _, rfl, rfl, nil_go ⟨szL rfl, fun q hq => ?_⟩⟩
    have s9e : Same H9 He := sx.tr (((sa.tr sb).tr sc).tr (sd.tr se))
    have sq : Same He (upd He q (.tup [.ref qe, .int ((m : Int) + 1)])) := Same.new hq
    have hA : (t.wl.take m).length = m := by rw [List.length_take]; omega
    refine h0 q qe (t.wl.take m) (t.wl.drop m) z _ (n + 2) (by omega) (s09.tr (s9e.tr sq).x) (hb9.up (s9e.tr sq)) ?_ (sq _ _ he') (List.take_append_drop m t.wl).symm hz (fun l hl' => ?_) hze
    · rw [upd_same, hA]
      rfl
    · have hm : 0 < m := by
        by_cases k : 0 < m
        · exact k
        · rw [show m = 0 by omega, List.take_zero] at hl'; cases hl'
      have el : t.wl.getD (m - 1) "" = l := by
        rw [List.getLast?_eq_getElem?, hA, List.getElem?_take_of_lt (by omega)] at hl'
        rw [List.getD_eq_getElem?_getD, hl']
        rfl
      refine ⟨fun k => hend hm (by rw [el, k]; rfl), fun hb9' => ?_⟩
      have h9 := hbg hb9' hm
      have e9 : lastW = (words l).getD 0 "" := by
        show (if 0 < m then _ else _) = _
        rw [if_pos hm, el]
      rw [e9] at h9
      exact h9
  have on_no : begins [("on" : Str)] = false := by decide +kernel
  have onL' : OddL "on" := oddL (by decide +kernel)
  -- the two tests
  have two : ∀ (z : Str) (Hx : Hp), Same H9 Hx → z ∈ badL → (z = "" → t.wl ≠ []) → (tSeq (tIfS (tAnd (tTest (tOp rEq (tVar 6) (tC (V.str "on there")))) (tTest (tOp (rIn K false) (tVar 5) (tLst (tCons (tC (V.str "find")) (tCons (tC (V.str "end")) tNil)))))) (tAsg (tC (V.str "on")) (gName 6)) tNext) (tRet (tTup (tCons (tOp rCat (tOp rCat (tSl (rSlL K) (tVar 2) tNoPart (tPart (tVar 4))) (tLst (tCons (tVar 6) tNil))) (tSl (rSlL K) (tVar 2) (tPart (tVar 4)) tNoPart)) (tCons (tOp (rI0 fun i j => V.int (i + j)) (tVar 4) (tC (V.int 1))) tNil))))) { nx := fun _ H' => Q .non H', rt := Q } [some (.ref d), some kv, some (.ref ln), some (.ref p4), some (.int (m : Nat)), some (.str lastW), some (.str z)] Hx := by
    intro z Hx sx hz hze
    refine seq_if (ev_and (eq_str (ev_var rfl) fun _ _ => ev_C) fun _ Hy sy => ev_test (ev_in (ns := ["find", "end"]) (ev_var rfl) (in_lst (fun H => ev_cons ev_C fun _ _ => ev_cons ev_C fun _ _ => ev_nil)))) (fun g Hy sy => ?_) (fun g Hy sy => ?_)
    · exact fin "on" Hy (sx.tr sy) onL' (fun k => by rw [on_no] at k; cases k) (fun k => absurd k (by decide +kernel))
    · refine fin z Hy (sx.tr sy) (oddL hz) (fun k hm => ?_) hze
      intro e
      rw [decide_eq_true ((oddL hz).on k), decide_eq_true (show lastW ∈ (["find", "end"] : List Str) by rw [e]; decide +kernel)] at g
      cases g
  refine seq_if (ev_and (eq_str (ev_var rfl) fun _ _ => ev_C) fun _ Hx sx => ev_eqL (zs := []) (ev_var rfl) (.inl (.inl (sx _ _ hl9))) soA (fun H => ev_nil) rfl) (fun g Hx sx => ?_) (fun g Hx sx => ?_)
  · exact two "on" Hx sx (by decide +kernel) (fun k => absurd k (by decide +kernel))
  · refine two z0 Hx sx hz0 (fun k e => ?_)
    rw [decide_eq_true k, decide_eq_true e] at g
    cases g
end
end K59


set_option Elab.async false
set_option linter.all false
set_option maxRecDepth 100000
set_option maxHeartbeats 4000000
namespace K59
open PySem PySem.Spec PyProof.Rows L2
/-! lines, joined -/
theorem nlF_tl {z : Str} (h : nlF z = true) : 10 ∉ TL.tl z := fun m => by
  unfold nlF at h
  rw [Array.all_eq_true'] at h
  exact of_decide_eq_true (h 10 (Array.mem_toList_iff.mp m)) rfl
theorem split_empty : Txt.split (Str.ofString "") nlS = [Str.ofString ""] := by decide +kernel
theorem join_split {ls : List Str} (hne : ls ≠ []) (hn : ∀ z ∈ ls, nlF z = true) : Txt.split (Txt.join nlS ls) nlS = ls :=
  TL.split_join (s := 10) (S := []) (by decide +kernel) (by decide +kernel) hne (fun p hp => nlF_tl (hn p hp))
theorem lines_join {ls : List Str} (hn : ∀ z ∈ ls, nlF z = true) (h0 : ls ≠ [Str.ofString ""]) : linesOf (Txt.join nlS ls) = ls := by
  by_cases hne : ls = []
  · subst hne
    decide +kernel
  · have h1 := join_split hne hn
    unfold linesOf
    rw [if_neg fun e => ?_]
    · exact h1
    · rw [e, split_empty] at h1
      exact h0 h1.symm
theorem mem_joinL {s : List Nat} {c : Nat} : ∀ {ps : List (List Nat)}, c ∈ TL.joinL s ps → c ∈ s ∨ ∃ p ∈ ps, c ∈ p
  | [], h => nomatch h
  | [p], h => .inr ⟨p, List.mem_singleton_self _, h⟩
  | p :: q :: r, h => by
    rcases List.mem_append.mp (show c ∈ p ++ (s ++ TL.joinL s (q :: r)) from h) with k | k
    · exact .inr ⟨p, List.mem_cons_self .., k⟩
    · rcases List.mem_append.mp k with k | k
      · exact .inl k
      · rcases mem_joinL k with k | ⟨x, hx, k⟩
        · exact .inl k
        · exact .inr ⟨x, List.mem_cons_of_mem _ hx, k⟩
theorem strOk_tl {z : Str} : PyData.strOk z = true ↔ ∀ c ∈ TL.tl z, c < 0x110000 := by
  show z.cps.all (· < 0x110000) = true ↔ _
  rw [Array.all_eq_true']
  exact ⟨fun h c hc => of_decide_eq_true (h c (Array.mem_toList_iff.mp hc)), fun h c hc => decide_eq_true (h c (Array.mem_toList_iff.mpr hc))⟩
theorem so_join {ls : List Str} (h : ∀ z ∈ ls, PyData.strOk z = true) : PyData.strOk (Txt.join nlS ls) = true := by
  rw [strOk_tl, TL.join_eq, TL.tl_join]
  intro c hc
  rcases mem_joinL hc with k | ⟨p, hp, k⟩
  · have : TL.tl nlS = [10] := by decide +kernel
    rw [this, List.mem_singleton] at k
    omega
  · obtain ⟨z, hz, rfl⟩ := List.mem_map.mp hp
    exact strOk_tl.mp (h z hz) c k
theorem joinL_len {s : List Nat} {B : Nat} : ∀ {ps : List (List Nat)}, (∀ p ∈ ps, p.length ≤ B) → (TL.joinL s ps).length ≤ ps.length * (B + s.length)
  | [], _ => by simp [TL.joinL]
  | [p], h => by
    have := h p (List.mem_singleton_self _)
    show p.length ≤ 1 * (B + s.length)
    omega
  | p :: q :: r, h => by
    have h1 := h p (List.mem_cons_self ..)
    have h2 := joinL_len (s := s) (ps := q :: r) (fun x hx => h x (List.mem_cons_of_mem _ hx))
    show (p ++ (s ++ TL.joinL s (q :: r))).length ≤ (r.length + 1 + 1) * (B + s.length)
    rw [List.length_append, List.length_append, Nat.add_mul]
    have h3 : (q :: r).length * (B + s.length) = (r.length + 1) * (B + s.length) := rfl
    omega
/-- lines that a text may be made of -/
structure LsOk (ls : List Str) : Prop where
  ok : ∀ z ∈ ls, LnOk z ∧ nlF z = true ∧ z.length ≤ 1000
  few : ls.length ≤ 90
  ne : ls ≠ [Str.ofString ""]
theorem LsOk.lines {ls : List Str} (h : LsOk ls) : linesOf (Txt.join nlS ls) = ls := lines_join (fun z hz => (h.ok z hz).2.1) h.ne
theorem LsOk.len {ls : List Str} (h : LsOk ls) : (Txt.join nlS ls).length ≤ 100000 := by
  rw [TL.len_tl, TL.join_eq, TL.tl_join]
  have h1 := joinL_len (s := TL.tl nlS) (B := 1000) (ps := ls.map TL.tl) (fun p hp => by
    obtain ⟨z, hz, rfl⟩ := List.mem_map.mp hp
    rw [← TL.len_tl]
    exact (h.ok z hz).2.2)
  have : (TL.tl nlS).length = 1 := by decide +kernel
  rw [this, List.length_map] at h1
  have := h.few
  omega
theorem sum_le {B : Nat} : ∀ {ls : List Str}, (∀ z ∈ ls, z.length ≤ B) → (ls.map (fun x => x.length)).sum ≤ ls.length * B
  | [], _ => by simp
  | z :: r, h => by
    have h1 := h z (List.mem_cons_self ..)
    have h2 := sum_le (ls := r) (fun x hx => h x (List.mem_cons_of_mem _ hx))
    rw [List.map_cons, List.sum_cons, List.length_cons, Nat.add_mul]
    omega
theorem LsOk.sum {ls : List Str} (h : LsOk ls) : (ls.map (fun x => x.length)).sum + ls.length * (Str.ofString "\n").length ≤ 16777216 := by
  have h1 := sum_le (B := 1000) (fun z hz => (h.ok z hz).2.2)
  have h2 : (Str.ofString "\n").length = 1 := by decide +kernel
  have := h.few
  rw [h2]
  omega
def lsB (ls : List Str) : Bool := ls.all (fun z => decide (z.length ≤ 1000) && ((words z).all PyData.strOk && nlF z)) && (decide (ls.length ≤ 90) && !decide (ls = [Str.ofString ""]))
theorem lsB_ok {ls : List Str} (h : lsB ls = true) : LsOk ls := by
  unfold lsB at h
  simp only [Bool.and_eq_true, Bool.not_eq_true', decide_eq_false_iff_not, decide_eq_true_eq] at h
  obtain ⟨h1, h2, h3⟩ := h
  refine ⟨fun z hz => ?_, h2, h3⟩
  have h4 := List.all_eq_true.mp h1 z hz
  simp only [Bool.and_eq_true, decide_eq_true_eq] at h4
  exact ⟨⟨by omega, h4.2.1⟩, h4.2.2, h4.1⟩
/-! flat tuples -/
abbrev SI := Str ⊕ Nat
def sv : SI → V
  | .inl z => .str z
  | .inr n => .int (n : Nat)
def sd : SI → PyData
  | .inl z => .str z
  | .inr n => .int (n : Nat)
def sok : SI → Bool
  | .inl z => PyData.strOk z
  | .inr _ => true
theorem dp_si {K : PySem.W.Frag} {H : Hp} : ∀ l : List SI, DpAll K H (l.map sv) (l.map sd)
  | [] => .nil
  | .inl z :: r => .cons (.str z) (dp_si r)
  | .inr n :: r => .cons (.int _) (dp_si r)
theorem cl_si : ∀ l : List SI, PyData.canLayAll0 (l.map sd) = l.all sok
  | [] => by simp [PyData.canLayAll0]
  | .inl z :: r => by simp only [List.map_cons, sd, PyData.canLayAll0, PyData.canLay0, List.all_cons, sok]; rw [cl_si r]
  | .inr n :: r => by simp only [List.map_cons, sd, PyData.canLayAll0, PyData.canLay0, List.all_cons, sok]; rw [cl_si r]
theorem dep_si : ∀ l : List SI, PyData.depthAll (l.map sd) = 0
  | [] => by simp [PyData.depthAll]
  | .inl z :: r => by simp only [List.map_cons, sd, PyData.depthAll, PyData.depth]; rw [dep_si r]; rfl
  | .inr n :: r => by simp only [List.map_cons, sd, PyData.depthAll, PyData.depth]; rw [dep_si r]; rfl
theorem sh_si {l : List SI} (h : l.all sok = true) : SeqAt.shaped (.tuple (l.map sd)) = true := by
  show (PyData.canLayAll0 (l.map sd) && decide (PyData.depthAll (l.map sd) + 1 ≤ 64)) = true
  rw [cl_si, dep_si, h]
  rfl
theorem eqv_si : ∀ l : List SI, PyData.eqvAll (l.map sd) (l.map sd) = true
  | [] => by simp [PyData.eqvAll]
  | .inl z :: r => by simp only [List.map_cons, sd, PyData.eqvAll, PyData.eqv]; rw [eqv_si r]; simp
  | .inr n :: r => by simp only [List.map_cons, sd, PyData.eqvAll, PyData.eqv]; rw [eqv_si r]; simp
section
variable {P : Program} {w : World} {K : PySem.W.Frag} {mg : Str → Option Value} {base : Heap} {a b : TE} {ta : TA} {z : L2.St} {H : Hp} {xs ys : List Str} {vs : List V}
/-- a list of texts, made or there -/
def SL (t : TE) (z : L2.St) (H : Hp) (xs : List Str) : Prop := ∀ Q : VK, (∀ q H', Same H H' → H' q = some (.lst (xs.map V.str)) → Q (.ref q) H') → t z H Q
def TP (t : TE) (z : L2.St) (H : Hp) (vs : List V) : Prop := ∀ Q : VK, (∀ q H', Same H H' → H' q = some (.tup vs) → Q (.ref q) H') → t z H Q
theorem sl_lst (ha : EvA ta z H (xs.map V.str)) (hl : Nat.ble (xs.map V.str).length 1000 = true := by rfl) : SL (tLst ta) z H xs := fun Q k => mk_lst ha (fun H' T s _ h => k T H' s h) hl
theorem sl_var {i : Nat} {p : Addr} (hi : z[i]? = some (some (.ref p))) (hp : H p = some (.lst (xs.map V.str))) : SL (tVar i) z H xs := fun Q k => ⟨_, hi, k p H (Same.rf H) hp⟩
theorem sl_cat (ha : SL a z H xs) (hb : ∀ H1, Same H H1 → SL b z H1 ys) (hl : xs.length + ys.length ≤ 1000) : SL (tOp rCat a b) z H (xs ++ ys) := fun Q k => ha _ fun q1 H1 s1 h1 => hb H1 s1 _ fun q2 H2 s2 h2 => by
  have q9 : sizeLine = 16777216 := sizeLine_eq
  refine ⟨q1, q2, _, _, rfl, rfl, s2 _ _ h1, h2, by rw [List.length_map, List.length_map]; omega, fun q3 hq3 => k q3 _ ((s1.tr s2).tr (Same.new hq3)) (by rw [upd_same, List.map_append])⟩
theorem map_flat {f : Str → V} : ∀ n : Nat, (List.replicate n (xs.map f)).flatten = (List.replicate n xs).flatten.map f
  | 0 => rfl
  | n + 1 => by rw [List.replicate_succ, List.flatten_cons, List.replicate_succ, List.flatten_cons, List.map_append, map_flat n]
theorem sl_rep {n : Nat} (ha : SL a z H xs) (hb : ∀ H1, Same H H1 → EvE b z H1 (.int (n : Nat))) (hl : xs.length * n ≤ 1000) (hn : n ≤ 1000) : SL (tOp rRep a b) z H (List.replicate n xs).flatten := fun Q k => ha _ fun q1 H1 s1 h1 => hb H1 s1 _ fun H2 s2 => by
  have q9 : sizeLine = 16777216 := sizeLine_eq
  refine ⟨q1, _, _, rfl, rfl, s2 _ _ h1, by omega, by omega, by rw [List.length_map, Int.toNat_natCast]; omega, fun q3 hq3 => k q3 _ ((s1.tr s2).tr (Same.new hq3)) (by rw [upd_same, Int.toNat_natCast, map_flat])⟩
theorem set_sl {s : TS} {D : Ends} {i : Nat} (ha : SL a z H xs) (k : ∀ H' q, Same H H' → H' q = some (.lst (xs.map V.str)) → s D (z.set i (some (.ref q))) H') : tSeq (tAsg a (gName i)) s D z H := ha _ fun q H' s1 h1 => k H' q s1 h1
theorem ev_join (ha : SL a z H xs) (hx : LsOk xs) : EvE (tM1 (fun x ts H Q => ∃ y p zs, x = V.str y ∧ ts = [V.ref p] ∧ (SqL K H p (List.map V.str zs) ∨ SqT K H p (List.map V.str zs)) ∧ (List.map (fun x => x.length) zs).sum + zs.length * y.length ≤ 16777216 ∧ Q (V.str (Txt.join y zs)) H) (tC (V.str (Str.ofString "\n"))) a) z H (.str (Txt.join nlS xs)) :=
  fun Q k => ⟨⟨_, rfl⟩, ha _ fun q H1 s1 h1 => ⟨_, q, xs, rfl, rfl, .inl (.inl (.inl h1)), hx.sum, k H1 s1⟩⟩
theorem tp_tup (ha : EvA ta z H vs) (hl : Nat.ble vs.length 1000 = true := by rfl) : TP (tTup ta) z H vs := fun Q k => mk_tup ha (fun H' T s _ h => k T H' s h) hl
theorem tp_var {i : Nat} {p : Addr} (hi : z[i]? = some (some (.ref p))) (hp : H p = some (.tup vs)) : TP (tVar i) z H vs := fun Q k => ⟨_, hi, k p H (Same.rf H) hp⟩
theorem tp_tried {k : Str} (ha : EvE a z H (.str k)) (hb : ∀ H1, Same H H1 → EvE b z H1 (.str (Txt.join nlS xs))) (hk : k ∈ dkN) (hx : LsOk xs) {E : XK} : TP (tCall (spTried K) [] E (tCons a (tCons b tNil))) z H (vdV k (Txt.join nlS xs) xs.length (verd k xs)) := fun Q kk => ha _ fun H1 s1 => hb H1 s1 _ fun H2 s2 => by
  refine ⟨.str k, Txt.join nlS xs, rfl, .inl rfl, hx.len, by rw [hx.lines]; exact fun t ht => (hx.ok t ht).1, (fun e => ?_), fun k' ek hk' q H' s3 hq => ?_⟩
  · rw [show kindOk dkN (.str k) = decide (k ∈ dkN) from rfl, decide_eq_true hk] at e
    cases e
  · cases ek
    rw [hx.lines] at hq
    exact kk q H' ((s1.tr s2).tr s3) hq
theorem tp_strange {kv : V} (ha : EvE a z H kv) (hv : ∀ H1, Same H H1 → KindV H1 kv) (hb : ∀ H1, Same H H1 → EvE b z H1 (.str (Txt.join nlS xs))) (hk : kindOk dkN kv = false) (hx : LsOk xs) {E : XK} : TP (tCall (spTried K) [] E (tCons a (tCons b tNil))) z H [.str "kind", kv] := fun Q kk => ha _ fun H1 s1 => hb H1 s1 _ fun H2 s2 => by
  refine ⟨kv, Txt.join nlS xs, rfl, hv _ (s1.tr s2), hx.len, by rw [hx.lines]; exact fun t ht => (hx.ok t ht).1, (fun e q H' s3 hq => kk q H' ((s1.tr s2).tr s3) hq), fun k' ek hk' q H' s3 hq => ?_⟩
  rw [ek, show kindOk dkN (.str k') = decide (k' ∈ dkN) from rfl, decide_eq_true hk'] at hk
  cases hk
theorem ne_tup {ds : List PyData} (ha : TP a z H vs) (hb : ∀ H1, Same H H1 → TP b z H1 vs) (hd : ∀ H2, Same H H2 → DpAll K H2 vs ds) (hs : SeqAt.shaped (.tuple ds) = true) (he : PyData.eqvAll ds ds = true) : EvT (tTest (tOp (rNeD K) a b)) z H false := fun R k => ha _ fun q1 H1 s1 h1 => hb H1 s1 _ fun q2 H2 s2 h2 => by
  have s := s1.tr s2
  refine ⟨_, _, .tup (.inl (.inl (s2 _ _ h1))) (hd H2 s), .tup (.inl (.inl h2)) (hd H2 s), hs, hs, false, ?_, k H2 s⟩
  show V.bl (!PyData.eqvAll ds ds) = _
  rw [he]
  rfl
theorem eq_tup {ds : List PyData} (ha : TP a z H vs) (hb : ∀ H1, Same H H1 → TP b z H1 vs) (hd : ∀ H2, Same H H2 → DpAll K H2 vs ds) (hs : SeqAt.shaped (.tuple ds) = true) (he : PyData.eqvAll ds ds = true) : EvE (tOp (rEqD K) a b) z H (.bl true) := fun R k => ha _ fun q1 H1 s1 h1 => hb H1 s1 _ fun q2 H2 s2 h2 => by
  have s := s1.tr s2
  refine ⟨_, _, .tup (.inl (.inl (s2 _ _ h1))) (hd H2 s), .tup (.inl (.inl h2)) (hd H2 s), hs, hs, ?_⟩
  show R (.bl (PyData.eqvAll ds ds)) H2
  rw [he]
  exact k H2 s
theorem ne_si (l : List SI) (ha : TP a z H (l.map sv)) (hb : ∀ H1, Same H H1 → TP b z H1 (l.map sv)) (hs : l.all sok = true) : EvT (tTest (tOp (rNeD K) a b)) z H false := ne_tup ha hb (fun H2 _ => dp_si l) (sh_si hs) (eqv_si l)
theorem eq_si (l : List SI) (ha : TP a z H (l.map sv)) (hb : ∀ H1, Same H H1 → TP b z H1 (l.map sv)) (hs : l.all sok = true) : EvE (tOp (rEqD K) a b) z H (.bl true) := eq_tup ha hb (fun H2 _ => dp_si l) (sh_si hs) (eqv_si l)
theorem ix_tp {n : Int} {v : V} (ha : TP a z H vs) (hb : ∀ H1, Same H H1 → EvE b z H1 (.int n)) (hi : atI vs n = some v) : EvE (tOp (rIxT K) a b) z H v := fun Q k => ha _ fun q H1 s1 h1 => hb H1 s1 _ fun H2 s2 => ⟨q, _, n, v, rfl, rfl, .inl (.inl (s2 _ _ h1)), hi, k H2 (s1.tr s2)⟩
theorem tp_two {u v : V} {r : List V} (ha : TP a z H (u :: v :: r)) : TP (tSl (rSlA K) a tNoPart (tPart (tC (.int 2)))) z H [u, v] := fun Q k => ha _ fun q H1 s1 h1 => by
  refine ⟨2, rfl, q, _, rfl, .inl (.inl h1), fun g => ?_, fun g p hp => k p _ (s1.tr (Same.new hp)) ?_⟩
  · have g2 := g.2
    rw [show (some (2 : Int)) = some ((2 : Nat) : Int) from rfl, HT.sIx_nat] at g2
    cases r with
    | nil => exact k q H1 s1 h1
    | cons x y => simp only [List.length_cons] at g2; omega
  · rw [upd_same, show (some (2 : Int)) = some ((2 : Nat) : Int) from rfl, cutTo]
    rfl
end
end K59


set_option Elab.async false
set_option linter.all false
set_option maxRecDepth 100000
set_option maxHeartbeats 4000000
namespace K59
open PySem PySem.Spec PyProof.Rows L2
abbrev Rw := Str × Nat × List Str
def Rw3 (H : Hp) (B : Addr → Prop) (v : V) (r : Rw) : Prop := ∃ q l, v = .ref q ∧ H q = some (.tup [.str r.1, .int (r.2.1 : Nat), .ref l]) ∧ H l = some (.lst (r.2.2.map V.str)) ∧ B l
def All3 (H : Hp) (B : Addr → Prop) : List V → List Rw → Prop
  | [], [] => True
  | v :: vs, r :: rs => Rw3 H B v r ∧ All3 H B vs rs
  | [], _ :: _ => False
  | _ :: _, [] => False
theorem Rw3.to {H H' : Hp} {B B' : Addr → Prop} {v : V} {r : Rw} (h1 : ∀ q xs, H q = some (.tup xs) → H' q = some (.tup xs)) (h2 : ∀ l xs, B l → H l = some (.lst xs) → H' l = some (.lst xs)) (h3 : ∀ l xs, B l → H l = some (.lst xs) → B' l) (h : Rw3 H B v r) : Rw3 H' B' v r := by
  obtain ⟨q, l, a, b, c, d⟩ := h
  exact ⟨q, l, a, h1 _ _ b, h2 _ _ d c, h3 _ _ d c⟩
theorem All3.to {H H' : Hp} {B B' : Addr → Prop} (h1 : ∀ q xs, H q = some (.tup xs) → H' q = some (.tup xs)) (h2 : ∀ l xs, B l → H l = some (.lst xs) → H' l = some (.lst xs)) (h3 : ∀ l xs, B l → H l = some (.lst xs) → B' l) : ∀ {vs : List V} {rs : List Rw}, All3 H B vs rs → All3 H' B' vs rs
  | [], [], _ => trivial
  | v :: vs, r :: rs, h => ⟨h.1.to h1 h2 h3, All3.to h1 h2 h3 h.2⟩
  | [], _ :: _, h => h.elim
  | _ :: _, [], h => h.elim
theorem All3.app {H : Hp} {B : Addr → Prop} : ∀ {vs us : List V} {rs ts : List Rw}, All3 H B vs rs → All3 H B us ts → All3 H B (vs ++ us) (rs ++ ts)
  | [], _, [], _, _, h => h
  | v :: vs, _, r :: rs, _, h, k => ⟨h.1, All3.app h.2 k⟩
  | [], _, _ :: _, _, h, _ => h.elim
  | _ :: _, _, [], _, h, _ => h.elim
theorem All3.get {H : Hp} {B : Addr → Prop} : ∀ {vs : List V} {rs : List Rw} {i : Nat} {v : V}, All3 H B vs rs → vs[i]? = some v → ∃ r ∈ rs, Rw3 H B v r
  | [], [], _, _, _, h => by simp at h
  | v :: vs, r :: rs, 0, _, h, k => by
    cases k
    exact ⟨r, List.mem_cons_self .., h.1⟩
  | v :: vs, r :: rs, i + 1, _, h, k => by
    obtain ⟨x, hx, hr⟩ := All3.get h.2 (show vs[i]? = some _ from k)
    exact ⟨x, List.mem_cons_of_mem _ hx, hr⟩
  | [], _ :: _, _, _, h, _ => h.elim
  | _ :: _, [], _, _, h, _ => h.elim
theorem All3.len {H : Hp} {B : Addr → Prop} : ∀ {vs : List V} {rs : List Rw}, All3 H B vs rs → vs.length = rs.length
  | [], [], _ => rfl
  | v :: vs, r :: rs, h => by rw [List.length_cons, List.length_cons, All3.len h.2]
  | [], _ :: _, h => h.elim
  | _ :: _, [], h => h.elim
abbrev AnyA : Addr → Prop := fun _ => True
theorem All3.up {H H' : Hp} {B : Addr → Prop} {vs : List V} {rs : List Rw} (s : Same H H') (h : All3 H B vs rs) : All3 H' B vs rs := h.to (fun q xs k => s _ _ k) (fun q xs _ k => s _ _ k) (fun _ _ k _ => k)
section
variable {a : TE} {ta : TA} {z : L2.St} {H : Hp}
def R3 (t : TE) (z : L2.St) (H : Hp) (r : Rw) : Prop := ∀ Q : VK, (∀ v H', Same H H' → Rw3 H' AnyA v r → Q v H') → t z H Q
def AR3 (t : TA) (z : L2.St) (H : Hp) (rs : List Rw) : Prop := ∀ Q : List V → Hp → Prop, (∀ vs H', Same H H' → All3 H' AnyA vs rs → Q vs H') → t z H Q
theorem ar_nil : AR3 tNil z H [] := fun Q k => k [] H (Same.rf H) trivial
theorem ar_cons {t : TE} {r : Rw} {rs : List Rw} (h1 : R3 t z H r) (h2 : ∀ H1, Same H H1 → AR3 ta z H1 rs) : AR3 (tCons t ta) z H (r :: rs) := fun Q k => h1 _ fun v H1 s1 hv => h2 H1 s1 _ fun vs H2 s2 hvs => k (v :: vs) H2 (s1.tr s2) ⟨hv.to (fun q xs k => s2 _ _ k) (fun q xs _ k => s2 _ _ k) (fun _ _ k _ => k), hvs⟩
theorem r3_of {w : Str} (n : Nat) {ls : List Str} {tl : TE} (h : SL tl z H ls) : R3 (tTup (tCons (tC (.str w)) (tCons (tC (.int (n : Nat))) (tCons tl tNil)))) z H (w, n, ls) := fun Q k => h _ fun q H1 s1 h1 => ⟨szL rfl, fun p hp => k _ _ (s1.tr (Same.new hp)) ⟨p, q, rfl, upd_same, (Same.new hp) _ _ h1, trivial⟩⟩
theorem set_l3 {s : TS} {D : Ends} {i : Nat} {rs : List Rw} (h : AR3 ta z H rs) (hl : Nat.ble rs.length 1000 = true) (k : ∀ H' q vs, Same H H' → H' q = some (.lst vs) → All3 H' AnyA vs rs → s D (z.set i (some (.ref q))) H') : tSeq (tAsg (tLst ta) (gName i)) s D z H :=
  h _ fun vs H1 s1 hv => ⟨szL (by rw [hv.len]; exact hl), fun q hq => k _ q vs (s1.tr (Same.new hq)) upd_same (hv.up (Same.new hq))⟩
theorem set_c3 {s : TS} {D : Ends} {i : Nat} {p : Addr} {vs : List V} {rs ts : List Rw} (hi : z[i]? = some (some (.ref p))) (hp : H p = some (.lst vs)) (hv : All3 H AnyA vs rs) (h : AR3 ta z H ts) (hl : Nat.ble (rs ++ ts).length 1000 = true) (k : ∀ H' q us, Same H H' → H q = none → H' q = some (.lst us) → All3 H' (· ≠ q) us (rs ++ ts) → s D (z.set i (some (.ref q))) H') : tSeq (tAsg (tOp rCat (tVar i) (tLst ta)) (gName i)) s D z H :=
  ⟨_, hi, h _ fun us H1 s1 hu => by
    have hle := Nat.le_of_ble_eq_true hl
    have q9 : sizeLine = 16777216 := sizeLine_eq
    rw [List.length_append] at hle
    have l1 := hv.len
    have l2 := hu.len
    refine ⟨by omega, fun q2 hq2 => ⟨p, q2, vs, us, rfl, rfl, (s1.tr (Same.new hq2)) _ _ hp, upd_same, by omega, fun q3 hq3 => k _ q3 _ ((s1.tr (Same.new hq2)).tr (Same.new hq3)) (none_of (s1.tr (Same.new hq2)) hq3) upd_same ?_⟩⟩
    have s2 : Same H1 (upd (upd H1 q2 (.lst us)) q3 (.lst (vs ++ us))) := (Same.new hq2).tr (Same.new hq3)
    refine ((hv.up s1).app hu).to (fun q xs k => s2 _ _ k) (fun q xs _ k => s2 _ _ k) (fun l xs _ k e => ?_)
    rw [e] at k
    rw [(Same.new hq2) _ _ k] at hq3
    cases hq3⟩
theorem All3.free {B : Addr → Prop} {vs : List V} {rs : List Rw} (h : All3 H B vs rs) : All3 H AnyA vs rs := h.to (fun _ _ k => k) (fun _ _ _ k => k) (fun _ _ _ _ => trivial)
end
def rowsL : List Rw := [("line", 1, ["end"]), ("line", 2, ["leave", "end", "leave"]), ("line", 1, ["on there", "end"]), ("line", 3, ["find h", "on there"]), ("line", 2, ["find h", "on held", "end"]), ("line", 4, ["find h", "on none", "end", "on none", "end"]), ("line", 3, ["find h", "leave", "on none", "end"]), ("line", 4, ["find h", "on none", "quit no", "on there", "end", "end"]), ("line", 5, ["find h", "on none", "find i", "on there"]), ("steps", 9, (List.replicate 9 (["lay p"] : List Str)).flatten), ("line", 3, ["lay p", "lay p", "Leave"])]
def rwB (k : Str) (r : Rw) : Bool := lsB r.2.2 && (PyData.strOk r.1 && match verd k r.2.2 with
  | .line n => decide (r.1 = "line") && decide (n = r.2.1)
  | .steps n => decide (r.1 = "steps") && decide (n = r.2.1)
  | _ => false)
theorem rows_ok : ∀ k ∈ dkN, ∀ r ∈ rowsL, rwB k r = true := by decide +kernel
theorem row_ok {k : Str} {r : Rw} (hk : k ∈ dkN) (hr : r ∈ rowsL) : LsOk r.2.2 ∧ PyData.strOk r.1 = true ∧ ∃ us, vdV k (Txt.join nlS r.2.2) r.2.2.length (verd k r.2.2) = .str r.1 :: .int (r.2.1 : Nat) :: us := by
  have h := rows_ok k hk r hr
  unfold rwB at h
  simp only [Bool.and_eq_true] at h
  obtain ⟨h1, h2, h3⟩ := h
  refine ⟨lsB_ok h1, h2, ?_⟩
  split at h3
  · rename_i n e
    simp only [Bool.and_eq_true, decide_eq_true_eq] at h3
    rw [e, h3.1, ← h3.2]
    exact ⟨_, rfl⟩
  · rename_i n e
    simp only [Bool.and_eq_true, decide_eq_true_eq] at h3
    rw [e, h3.1, ← h3.2]
    exact ⟨_, rfl⟩
  · cases h3
section
variable {P : Program} {w : World} {K : PySem.W.Frag} {mg : Str → Option Value} {base : Heap}
def spLR : Sp := fun vs H Q E => ∃ (d c : Addr) (n : Nat) (k : Str) (v2 v3 : V), vs = [.ref d, .str k, v2, v3] ∧ Bag H d c n ∧ n < 2 ^ 25 ∧ k ∈ dkN ∧ ∀ H' m, m ≤ n + 1 → SameX d H H' → Bag H' d c m → Q (.bl true) H'
theorem ok_lr (T : Tx P w K mg) : FnX P w K mg base CX0 136 "_law_lines_right" ["_law_bag_here", "_law_kind", "_law_rows", "_law_lines"] [] spLR := by
  have F_l_draw := ok_draw (w := w) (base := base) T
  have F_l_tried := ok_tried (base := base) T
  refine T.d_l_lines_right.ok0 sc_l_lines_right (fun _ _ _ _ _ _ us hl => match us, hl with | [_, _, _, _], _ => rfl) (fun vs H Q E h => ?_) (fun f cdv A outer s H vs Q E hr h => have hu := hu_of hr; ⟨_, (by exact (pss_cons (ps_set (i := 4) sc_l_lines_right.nd rfl (Or.inl rfl) (pe_lst (pa_cons (pe_tup (pa_cons pe_str (pa_cons pe_int (pa_cons (pe_lst (pa_cons pe_str pa_nil)) pa_nil)))) (pa_cons (pe_tup (pa_cons pe_str (pa_cons pe_int (pa_cons (pe_lst (pa_cons pe_str (pa_cons pe_str (pa_cons pe_str pa_nil)))) pa_nil)))) (pa_cons (pe_tup (pa_cons pe_str (pa_cons pe_int (pa_cons (pe_lst (pa_cons pe_str (pa_cons pe_str pa_nil))) pa_nil)))) pa_nil)))))
      (pss_cons (ps_set (i := 4) sc_l_lines_right.nd rfl (Or.inl rfl) (pe_op op_cat (pv 4) (pe_lst (pa_cons (pe_tup (pa_cons pe_str (pa_cons pe_int (pa_cons (pe_lst (pa_cons pe_str (pa_cons pe_str pa_nil))) pa_nil)))) (pa_cons (pe_tup (pa_cons pe_str (pa_cons pe_int (pa_cons (pe_lst (pa_cons pe_str (pa_cons pe_str (pa_cons pe_str pa_nil)))) pa_nil)))) pa_nil)))))
      (pss_cons (ps_set (i := 4) sc_l_lines_right.nd rfl (Or.inl rfl) (pe_op op_cat (pv 4) (pe_lst (pa_cons (pe_tup (pa_cons pe_str (pa_cons pe_int (pa_cons (pe_lst (pa_cons pe_str (pa_cons pe_str (pa_cons pe_str (pa_cons pe_str (pa_cons pe_str pa_nil)))))) pa_nil)))) pa_nil))))
      (pss_cons (ps_set (i := 4) sc_l_lines_right.nd rfl (Or.inl rfl) (pe_op op_cat (pv 4) (pe_lst (pa_cons (pe_tup (pa_cons pe_str (pa_cons pe_int (pa_cons (pe_lst (pa_cons pe_str (pa_cons pe_str (pa_cons pe_str (pa_cons pe_str pa_nil))))) pa_nil)))) pa_nil))))
      (pss_cons (ps_set (i := 4) sc_l_lines_right.nd rfl (Or.inl rfl) (pe_op op_cat (pv 4) (pe_lst (pa_cons (pe_tup (pa_cons pe_str (pa_cons pe_int (pa_cons (pe_lst (pa_cons pe_str (pa_cons pe_str (pa_cons pe_str (pa_cons pe_str (pa_cons pe_str (pa_cons pe_str pa_nil))))))) pa_nil)))) pa_nil))))
      (pss_cons (ps_set (i := 4) sc_l_lines_right.nd rfl (Or.inl rfl) (pe_op op_cat (pv 4) (pe_lst (pa_cons (pe_tup (pa_cons pe_str (pa_cons pe_int (pa_cons (pe_lst (pa_cons pe_str (pa_cons pe_str (pa_cons pe_str (pa_cons pe_str pa_nil))))) pa_nil)))) (pa_cons (pe_tup (pa_cons pe_str (pa_cons pe_int (pa_cons (pe_op op_rep (pe_lst (pa_cons pe_str pa_nil)) pe_int) pa_nil)))) pa_nil)))))
      (pss_cons (ps_expr (pe_bm PySem.F.plainAttrs_list PySem.F.slot_list_append PySem.F.type_list_append mt_append (pv 4) (pa_cons (pe_tup (pa_cons pe_str (pa_cons pe_int (pa_cons (pe_lst (pa_cons pe_str (pa_cons pe_str (pa_cons pe_str pa_nil)))) pa_nil)))) pa_nil)))
      (pss_cons (ps_asg (pe_ix ix_list (pv 4) (pe_callX F_l_draw (hr.mono (by first | decide | omega)) pass0 (pa_cons (pv 0) (pa_cons (pe_callB call_len_seq (by rfl) T.b_len (by decide +kernel) (pa_cons (pv 4) pa_nil)) pa_nil))) (fun _ _ => rfl)) (pg_tup rfl (pgs_cons (pg_name (i := 5) sc_l_lines_right.nd rfl (Or.inl rfl)) (pgs_cons (pg_name (i := 6) sc_l_lines_right.nd rfl (Or.inl rfl)) (pgs_cons (pg_name (i := 7) sc_l_lines_right.nd rfl (Or.inl rfl)) pgs_nil)))))
      (pss_one (ps_ret (pe_cmpR (op_eqD hr.units) (pe_slice sl_tupA (pe_callX F_l_tried (hr.mono (by first | decide | omega)) pass0 (pa_cons (pv 1) (pa_cons (pe_join pe_str (pv 7)) pa_nil))) po_none (po_some pe_int)) (pe_tup (pa_cons (pv 5) (pa_cons (pv 6) pa_nil))) (nomark _))))))))))))), ?_⟩)
  · obtain ⟨d, c, n, k, v2, v3, rfl, _⟩ := h
    rfl
  obtain ⟨d, c, n, k, v2, v3, rfl, hb, hn, hk, h0⟩ := h
  have q9 : sizeLine = 16777216 := sizeLine_eq
  refine set_l3 (rs := [("line", 1, ["end"]), ("line", 2, ["leave", "end", "leave"]), ("line", 1, ["on there", "end"])]) (ar_cons (r3_of 1 (sl_lst (xs := ["end"]) (ev_cons ev_C fun _ _ => ev_nil))) fun _ _ => (ar_cons (r3_of 2 (sl_lst (xs := ["leave", "end", "leave"]) (ev_cons ev_C fun _ _ => (ev_cons ev_C fun _ _ => (ev_cons ev_C fun _ _ => ev_nil))))) fun _ _ => (ar_cons (r3_of 1 (sl_lst (xs := ["on there", "end"]) (ev_cons ev_C fun _ _ => (ev_cons ev_C fun _ _ => ev_nil)))) fun _ _ => ar_nil))) (by rfl) (fun H1 p1 w1 s1 h1 a1 => ?_)
  refine set_c3 (i := 4) rfl h1 a1 (ts := [("line", 3, ["find h", "on there"]), ("line", 2, ["find h", "on held", "end"])]) (ar_cons (r3_of 3 (sl_lst (xs := ["find h", "on there"]) (ev_cons ev_C fun _ _ => (ev_cons ev_C fun _ _ => ev_nil)))) fun _ _ => (ar_cons (r3_of 2 (sl_lst (xs := ["find h", "on held", "end"]) (ev_cons ev_C fun _ _ => (ev_cons ev_C fun _ _ => (ev_cons ev_C fun _ _ => ev_nil))))) fun _ _ => ar_nil)) (by rfl) (fun H2 p2 w2 s2 n2 h2 a2 => ?_)
  refine set_c3 (i := 4) rfl h2 a2.free (ts := [("line", 4, ["find h", "on none", "end", "on none", "end"])]) (ar_cons (r3_of 4 (sl_lst (xs := ["find h", "on none", "end", "on none", "end"]) (ev_cons ev_C fun _ _ => (ev_cons ev_C fun _ _ => (ev_cons ev_C fun _ _ => (ev_cons ev_C fun _ _ => (ev_cons ev_C fun _ _ => ev_nil))))))) fun _ _ => ar_nil) (by rfl) (fun H3 p3 w3 s3 n3 h3 a3 => ?_)
  refine set_c3 (i := 4) rfl h3 a3.free (ts := [("line", 3, ["find h", "leave", "on none", "end"])]) (ar_cons (r3_of 3 (sl_lst (xs := ["find h", "leave", "on none", "end"]) (ev_cons ev_C fun _ _ => (ev_cons ev_C fun _ _ => (ev_cons ev_C fun _ _ => (ev_cons ev_C fun _ _ => ev_nil)))))) fun _ _ => ar_nil) (by rfl) (fun H4 p4 w4 s4 n4 h4 a4 => ?_)
  refine set_c3 (i := 4) rfl h4 a4.free (ts := [("line", 4, ["find h", "on none", "quit no", "on there", "end", "end"])]) (ar_cons (r3_of 4 (sl_lst (xs := ["find h", "on none", "quit no", "on there", "end", "end"]) (ev_cons ev_C fun _ _ => (ev_cons ev_C fun _ _ => (ev_cons ev_C fun _ _ => (ev_cons ev_C fun _ _ => (ev_cons ev_C fun _ _ => (ev_cons ev_C fun _ _ => ev_nil)))))))) fun _ _ => ar_nil) (by rfl) (fun H5 p5 w5 s5 n5 h5 a5 => ?_)
  refine set_c3 (i := 4) rfl h5 a5.free (ts := [("line", 5, ["find h", "on none", "find i", "on there"]), ("steps", 9, (List.replicate 9 (["lay p"] : List Str)).flatten)]) (ar_cons (r3_of 5 (sl_lst (xs := ["find h", "on none", "find i", "on there"]) (ev_cons ev_C fun _ _ => (ev_cons ev_C fun _ _ => (ev_cons ev_C fun _ _ => (ev_cons ev_C fun _ _ => ev_nil)))))) fun _ _ => (ar_cons (r3_of 9 (sl_rep (n := 9) (sl_lst (xs := ["lay p"]) (ev_cons ev_C fun _ _ => ev_nil)) (fun _ _ => ev_C) (by decide) (by decide))) fun _ _ => ar_nil)) (by rfl) (fun H6 p6 w6 s6 n6 h6 a6 => ?_)
  have s0 : Same H H6 := ((((s1.tr s2).tr s3).tr s4).tr s5).tr s6
  refine do_drop ⟨_, rfl, .inl ⟨rfl, _, .inl (.inl h6)⟩, ?_⟩
  refine cons_go (((r3_of 3 (sl_lst (xs := ["lay p", "lay p", "Leave"]) (ev_cons ev_C fun _ _ => (ev_cons ev_C fun _ _ => (ev_cons ev_C fun _ _ => ev_nil)))))) _ fun v H7 s7 r7 => nil_go ⟨p6, w6, v, rfl, rfl, s7 _ _ h6, ?_, ?_⟩)
  · have := a6.len
    rw [this, q9]
    decide
  have h7 := s7 _ _ h6
  have hw6 := a6.len
  have a7 : All3 (upd H7 p6 (.lst (w6 ++ [v]))) AnyA (w6 ++ [v]) rowsL := by
    have nt : ∀ q xs, H7 q = some (.tup xs) → q ≠ p6 := fun q xs k e => by rw [e, h7] at k; cases k
    refine All3.app (rs := rowsL.take 10) (ts := rowsL.drop 10) ((a6.up s7).to (fun q xs k => by rw [upd_ne (nt q xs k)]; exact k) (fun l xs hl k => by rw [upd_ne hl]; exact k) (fun _ _ _ _ => trivial)) ⟨?_, trivial⟩
    obtain ⟨q, l, e1, e2, e3, _⟩ := r7
    have hlp : l ≠ p6 := fun e => by
      rw [e, h7] at e3
      have := congrArg (fun o => match o with | some (HO.lst y) => y.length | _ => 0) e3
      simp only [hw6] at this
      revert this
      decide
    exact ⟨q, l, e1, by rw [upd_ne (nt q _ e2)]; exact e2, by rw [upd_ne hlp]; exact e3, trivial⟩
  have s05 : Same H H5 := (((s1.tr s2).tr s3).tr s4).tr s5
  have hp6 : H p6 = none := none_of s05 n6
  obtain ⟨kvd, hbd⟩ := bag_d hb
  have hdp : d ≠ p6 := fun e => by rw [← e, hbd] at hp6; cases hp6
  have hcp : c ≠ p6 := fun e => by
    obtain ⟨cs, a1, a2, a3, a4, g1, g2, g3⟩ := hb
    rw [← e, g2] at hp6
    cases hp6
  have hb8 : Bag (upd H7 p6 (.lst (w6 ++ [v]))) d c n := (hb.up (s0.tr s7)).mut hdp hcp
  have s8 : SameX d H (upd H7 p6 (.lst (w6 ++ [v]))) := fun x o hx k => by
    rw [upd_ne (ne_of_none k hp6)]
    exact (s0.tr s7) _ _ k
  have h8 : upd H7 p6 (.lst (w6 ++ [v])) p6 = some (.lst (w6 ++ [v])) := upd_same
  generalize upd H7 p6 (.lst (w6 ++ [v])) = H8 at a7 hb8 s8 h8 ⊢
  have hlen : (w6 ++ [v]).length = 11 := a7.len
  refine asg_go ⟨_, rfl, drawE_go (lim := 11) rfl (by
    have := ev_len (K := K) (ta := tCons (tVar 4) tNil) (σ := [some (.ref d), some (.str k), some v2, some v3, some (.ref p6), none, none, none]) (ev_cons (ev_var rfl) fun _ _ => ev_nil) (.inl (.inl (.inl h8)))
    rw [hlen] at this
    exact this) hb8 (by omega) (by decide) (by decide) (fun r H9 hr9 s9 hb9 => ?_)⟩
  have h9 := s9 _ _ (bag_ne hb8 h8) h8
  obtain ⟨v9, hv9⟩ : ∃ v9, (w6 ++ [v])[r]? = some v9 := ⟨_, List.getElem?_eq_getElem (by omega)⟩
  obtain ⟨row, hrow, q, l, e1, e2, e3, _⟩ := a7.get hv9
  obtain ⟨kv8, hb8d⟩ := bag_d hb8
  have e2' := s9 _ _ (fun e => by rw [e, hb8d] at e2; cases e2) e2
  have e3' := s9 _ _ (bag_ne hb8 e3) e3
  obtain ⟨k1, k2, us, k3⟩ := row_ok hk hrow
  refine ⟨p6, _, r, v9, rfl, rfl, .inl (.inl h9), atI_nat hv9, ?_⟩
  rw [e1]
  refine ⟨q, _, rfl, .inl (.inl e2'), rfl, _, _, rfl, _, _, rfl, _, _, rfl, rfl, ?_⟩
  refine eq_si [.inl row.1, .inr row.2.1] (tp_two (r := us) (by show TP _ _ _ (.str row.1 :: .int (row.2.1 : Nat) :: us); rw [← k3]; exact tp_tried (ev_var rfl) (fun _ s' => ev_join (sl_var rfl (s' _ _ e3')) k1) hk k1)) (fun _ _ => tp_tup (ev_cons (ev_var rfl) fun _ _ => ev_cons (ev_var rfl) fun _ _ => ev_nil)) (by simp [sok, k2]) Q (fun H' s' => ?_)
  exact h0 H' (n + 1) (by omega) ((s8.tr s9).tr s'.x) (hb9.up s')
end
end K59


set_option Elab.async false
set_option linter.all false
set_option maxRecDepth 100000
set_option maxHeartbeats 4000000
namespace K59
open PySem PySem.Spec PyProof.Rows L2
def nw (z : Str) : Nat := if z = "lay p" then 0 else 1
def aheadL (z : Str) : List Str := (List.replicate (nw z) (["lay p"] : List Str)).flatten
def onc1L (z : Str) (m : Nat) : List Str := aheadL z ++ (List.replicate m (["find i"] : List Str)).flatten ++ [z, "leave", z]
def behL (z : Str) (i : Nat) : List Str := if i = 0 then ["on none", z, "end"] else [z]
def waysL (z : Str) (i : Nat) : List Str := aheadL z ++ (["find i", "on there", z, "quit no", "end"] : List Str) ++ behL z i
def bothL (z : Str) : List Str := aheadL z ++ (["find i", "on there", z, "end", z] : List Str)
def fixL : List Str := ["lay p", "on full", "lay p", "end"]
def blkL : List Str := ["lay p", "on laid", "end", "give h p", "on given", "end", "stretch p", "on bare", "end", "on stretched", "end", "on full", "end"]
def aloneL (m : Nat) (z : Str) : List Str := (List.replicate m (["leave"] : List Str)).flatten ++ [z, "lay p"]
def wdL : List Str := ["lay p", "give h p", "stretch p"]
def isRef (v : Vd) (n : Nat) : Bool := match v with | .refused m => decide (m = n) | _ => false
def isMade (v : Vd) : Bool := match v with | .made => true | _ => false
theorem isRef_of {v : Vd} {n : Nat} (h : isRef v n = true) : v = .refused n := by
  unfold isRef at h
  split at h
  · rw [of_decide_eq_true h]
  · cases h
theorem isMade_of {v : Vd} (h : isMade v = true) : v = .made := by
  unfold isMade at h
  split at h
  · rfl
  · cases h
def okRf (k : Str) (ls : List Str) (n : Nat) : Bool := lsB ls && isRef (verd k ls) n
def okMd (k : Str) (ls : List Str) : Bool := lsB ls && isMade (verd k ls)
theorem okRf_of {k : Str} {ls : List Str} {n : Nat} (h : okRf k ls n = true) : LsOk ls ∧ verd k ls = .refused n := by
  unfold okRf at h
  simp only [Bool.and_eq_true] at h
  exact ⟨lsB_ok h.1, isRef_of h.2⟩
theorem okMd_of {k : Str} {ls : List Str} (h : okMd k ls = true) : LsOk ls ∧ verd k ls = .made := by
  unfold okMd at h
  simp only [Bool.and_eq_true] at h
  exact ⟨lsB_ok h.1, isMade_of h.2⟩
def k2N : List Str := ["enter", "change"]
theorem once1 : ∀ k ∈ k2N, ∀ z ∈ wdL, ∀ m ∈ [0, 1, 2], okRf k (onc1L z m) (onc1L z m).length = true := by decide +kernel
theorem once2 : ∀ k ∈ k2N, ∀ z ∈ wdL, ∀ i ∈ [0, 1], okMd k (waysL z i) = true := by decide +kernel
theorem once3 : ∀ k ∈ k2N, ∀ z ∈ wdL, okRf k (bothL z) (bothL z).length = true := by decide +kernel
theorem once4 : ∀ k ∈ k2N, okRf k fixL 3 = true := by decide +kernel
theorem once5 : ∀ k ∈ k2N, okMd k blkL = true := by decide +kernel
theorem once6 : ∀ z ∈ (["lay p", "stretch p"] : List Str), ∀ m ∈ [0, 1, 2], okRf "leave" (aloneL m z) (m + 1) = true := by decide +kernel
theorem fix_join : Str.ofString "lay p\non full\nlay p\nend" = Txt.join nlS fixL := by decide +kernel
theorem blk_join : Str.ofString "lay p\non laid\nend\ngive h p\non given\nend\nstretch p\non bare\nend\non stretched\nend\non full\nend" = Txt.join nlS blkL := by decide +kernel
theorem k2_dk : ∀ k ∈ k2N, k ∈ dkN := by decide +kernel
theorem sm3 {m : Nat} (h : m < 3) : m ∈ [0, 1, 2] := by
  rcases m with _ | _ | _ | m
  · decide
  · decide
  · decide
  · omega
theorem ref_ok (n : Nat) : ([.inl "refused", .inr n] : List SI).all sok = true := by
  show (PyData.strOk "refused" && (true && true)) = true
  decide +kernel
theorem pick_mem {ns : List Str} {r : Nat} {v : V} (h : (ns.map V.str)[r]? = some v) : ∃ z ∈ ns, v = .str z := by
  rw [List.getElem?_map] at h
  obtain ⟨z, hz, rfl⟩ := Option.map_eq_some_iff.mp h
  exact ⟨z, List.mem_of_getElem? hz, rfl⟩
section
variable {P : Program} {w : World} {K : PySem.W.Frag} {mg : Str → Option Value} {base : Heap} {a b : TE} {ta : TA} {z : L2.St} {H : Hp} {xs ys : List Str} {vs : List V}
theorem tp_ref {k : Str} {n : Nat} (hv : verd k xs = .refused n) (ha : EvE a z H (.str k)) (hb : ∀ H1, Same H H1 → EvE b z H1 (.str (Txt.join nlS xs))) (hk : k ∈ dkN) (hx : LsOk xs) {E : XK} : TP (tCall (spTried K) [] E (tCons a (tCons b tNil))) z H (([.inl "refused", .inr n] : List SI).map sv) := by
  have := tp_tried (K := K) ha hb hk hx (E := E)
  rw [hv] at this
  exact this
theorem made_no {k : Str} (hv : verd k xs = .made) (ha : EvE a z H (.str k)) (hb : ∀ H1, Same H H1 → EvE b z H1 (.str (Txt.join nlS xs))) (hk : k ∈ dkN) (hx : LsOk xs) {E : XK} : EvT (tTest (tOp rNe (tOp (rIxT K) (tCall (spTried K) [] E (tCons a (tCons b tNil))) (tC (.int 0))) (tC (.str "made")))) z H false := by
  have h := tp_tried (K := K) ha hb hk hx (E := E)
  rw [hv] at h
  have h2 := ne_str (ix_tp (K := K) (n := 0) (v := .str "made") h (fun _ _ => ev_C) (at0 _ _)) (fun (_ : Hp) _ => (ev_C : EvE (tC (.str "made")) _ _ _))
  rw [decide_eq_true rfl] at h2
  exact h2
theorem ev_len_str {p : Addr} {i : Nat} (hi : z[i]? = some (some (.ref p))) (hp : H p = some (.lst (xs.map V.str))) : EvE (tCB (fun ts H Q => ∃ p ys, ts = [V.ref p] ∧ (SqL K H p ys ∨ SqT K H p ys) ∧ Q (.int (ys.length : Nat)) H) (tCons (tVar i) tNil)) z H (.int (xs.length : Nat)) := by
  have := ev_len (K := K) (σ := z) (ev_cons (ev_var hi) fun _ _ => ev_nil) (.inl (.inl (.inl hp)))
  rw [List.length_map] at this
  exact this
theorem ev_nw {y : Str} (hi : z[1]? = some (some (.str y))) : EvE (tCB (fun ts H Q => (∃ i, ts = [V.int i] ∧ Q (V.int i) H) ∨ ∃ k, ts = [V.bl k] ∧ Q (V.int (if k = true then 1 else 0)) H) (tCons (tOp rNe (tVar 1) (tC (.str "lay p"))) tNil)) z H (.int (nw y : Nat)) := fun Q q => by
  have h := ev_cons (ev_ne (ev_var hi) (fun (_ : Hp) _ => (ev_C : EvE (tC (.str "lay p")) _ _ _)) rfl) (fun (_ : Hp) _ => ev_nil) (H := H)
  refine h _ fun H1 s1 => .inr ⟨_, rfl, ?_⟩
  have e : (if (!decide (V.str y = V.str "lay p")) = true then (1 : Int) else 0) = ((nw y : Nat) : Int) := by
    unfold nw
    rw [dcS]
    by_cases g : y = "lay p" <;> simp [g]
  rw [e]
  exact q H1 s1
def spOR : Sp := fun vs H Q E => ∃ (d c : Addr) (n : Nat), vs = [.ref d] ∧ Bag H d c n ∧ n < 2 ^ 25 ∧ ∀ H' m, m ≤ n + 5 → SameX d H H' → Bag H' d c m → Q (.bl true) H'
theorem ok_or (T : Tx P w K mg) : FnX P w K mg base CX0 136 "_law_once_right" ["_law_bag_here"] [] spOR := by
  have F_l_draw := ok_draw (w := w) (base := base) T
  have F_l_tried := ok_tried (base := base) T
  refine T.d_l_once_right.ok0 sc_l_once_right (fun _ _ _ _ _ _ us hl => match us, hl with | [_], _ => rfl) (fun vs H Q E h => ?_) (fun f cdv A outer s H vs Q E hr h => have hu := hu_of hr; ⟨_, (by exact (pss_cons (ps_par (i := 1) (j := 2) (by rfl) sc_l_once_right.nd rfl rfl (by decide) rfl rfl (pa_cons (pe_ix ix_list (pe_lst (pa_cons pe_str (pa_cons pe_str (pa_cons pe_str pa_nil)))) (pe_callX F_l_draw (hr.mono (by first | decide | omega)) pass0 (pa_cons (pv 0) (pa_cons pe_int pa_nil))) (fun _ _ => rfl)) (pa_cons (pe_ix ix_list (pe_lst (pa_cons pe_str (pa_cons pe_str pa_nil))) (pe_callX F_l_draw (hr.mono (by first | decide | omega)) pass0 (pa_cons (pv 0) (pa_cons pe_int pa_nil))) (fun _ _ => rfl)) pa_nil)) (by rfl))
      (pss_cons (ps_set (i := 3) sc_l_once_right.nd rfl (Or.inl rfl) (pe_op op_rep (pe_lst (pa_cons pe_str pa_nil)) (pe_callTy call_int1 (by rfl) T.b_int (by decide +kernel) (pa_cons (pe_cmpR op_ne (pv 1) pe_str (nomark _)) pa_nil))))
      (pss_cons (ps_set (i := 4) sc_l_once_right.nd rfl (Or.inl rfl) (pe_callX F_l_draw (hr.mono (by first | decide | omega)) pass0 (pa_cons (pv 0) (pa_cons pe_int pa_nil))))
      (pss_cons (ps_set (i := 5) sc_l_once_right.nd rfl (Or.inl rfl) (pe_op op_cat (pe_op op_cat (pv 3) (pe_op op_rep (pe_lst (pa_cons pe_str pa_nil)) (pv 4))) (pe_lst (pa_cons (pv 1) (pa_cons pe_str (pa_cons (pv 1) pa_nil))))))
      (pss_cons (ps_if (pt_cmpR (op_neD hr.units) (pe_callX F_l_tried (hr.mono (by first | decide | omega)) pass0 (pa_cons (pv 2) (pa_cons (pe_join pe_str (pv 5)) pa_nil))) (pe_tup (pa_cons pe_str (pa_cons (pe_callB call_len_seq (by rfl) T.b_len (by decide +kernel) (pa_cons (pv 5) pa_nil)) pa_nil))) (nomark _)) (pss_one (ps_ret pe_bl)) pss_nil)
      (pss_cons (ps_set (i := 6) sc_l_once_right.nd rfl (Or.inl rfl) (pe_ix ix_list (pe_lst (pa_cons (pe_lst (pa_cons pe_str (pa_cons (pv 1) (pa_cons pe_str pa_nil)))) (pa_cons (pe_lst (pa_cons (pv 1) pa_nil)) pa_nil))) (pe_callX F_l_draw (hr.mono (by first | decide | omega)) pass0 (pa_cons (pv 0) (pa_cons pe_int pa_nil))) (fun _ _ => rfl)))
      (pss_cons (ps_set (i := 7) sc_l_once_right.nd rfl (Or.inl rfl) (pe_op op_cat (pe_op op_cat (pv 3) (pe_lst (pa_cons pe_str (pa_cons pe_str (pa_cons (pv 1) (pa_cons pe_str (pa_cons pe_str pa_nil))))))) (pv 6)))
      (pss_cons (ps_if (pt_cmpR op_ne (pe_ix ix_tup (pe_callX F_l_tried (hr.mono (by first | decide | omega)) pass0 (pa_cons (pv 2) (pa_cons (pe_join pe_str (pv 7)) pa_nil))) pe_int (fun _ _ => rfl)) pe_str (nomark _)) (pss_one (ps_ret pe_bl)) pss_nil)
      (pss_cons (ps_set (i := 8) sc_l_once_right.nd rfl (Or.inl rfl) (pe_op op_cat (pv 3) (pe_lst (pa_cons pe_str (pa_cons pe_str (pa_cons (pv 1) (pa_cons pe_str (pa_cons (pv 1) pa_nil))))))))
      (pss_cons (ps_if (pt_cmpR (op_neD hr.units) (pe_callX F_l_tried (hr.mono (by first | decide | omega)) pass0 (pa_cons (pv 2) (pa_cons (pe_join pe_str (pv 8)) pa_nil))) (pe_tup (pa_cons pe_str (pa_cons (pe_callB call_len_seq (by rfl) T.b_len (by decide +kernel) (pa_cons (pv 8) pa_nil)) pa_nil))) (nomark _)) (pss_one (ps_ret pe_bl)) pss_nil)
      (pss_cons (ps_if (pt_cmpR (op_neD hr.units) (pe_callX F_l_tried (hr.mono (by first | decide | omega)) pass0 (pa_cons (pv 2) (pa_cons pe_str pa_nil))) (pe_tup (pa_cons pe_str (pa_cons pe_int pa_nil))) (nomark _)) (pss_one (ps_ret pe_bl)) pss_nil)
      (pss_cons (ps_set (i := 9) sc_l_once_right.nd rfl (Or.inl rfl) pe_str)
      (pss_cons (ps_if (pt_cmpR op_ne (pe_ix ix_tup (pe_callX F_l_tried (hr.mono (by first | decide | omega)) pass0 (pa_cons (pv 2) (pa_cons (pv 9) pa_nil))) pe_int (fun _ _ => rfl)) pe_str (nomark _)) (pss_one (ps_ret pe_bl)) pss_nil)
      (pss_cons (ps_set (i := 10) sc_l_once_right.nd rfl (Or.inl rfl) (pe_op op_cat (pe_op op_rep (pe_lst (pa_cons pe_str pa_nil)) (pv 4)) (pe_lst (pa_cons (pe_ix ix_list (pe_lst (pa_cons pe_str (pa_cons pe_str pa_nil))) (pe_callX F_l_draw (hr.mono (by first | decide | omega)) pass0 (pa_cons (pv 0) (pa_cons pe_int pa_nil))) (fun _ _ => rfl)) (pa_cons pe_str pa_nil)))))
      (pss_one (ps_ret (pe_cmpR (op_eqD hr.units) (pe_callX F_l_tried (hr.mono (by first | decide | omega)) pass0 (pa_cons pe_str (pa_cons (pe_join pe_str (pv 10)) pa_nil))) (pe_tup (pa_cons pe_str (pa_cons (pe_op op_add (pv 4) pe_int) pa_nil))) (nomark _))))))))))))))))))), ?_⟩)
  · obtain ⟨d, c, n, rfl, _⟩ := h
    rfl
  obtain ⟨d, c, n, rfl, hb, hn, h0⟩ := h
  have q9 : sizeLine = 16777216 := sizeLine_eq
  refine par_go (cons_go (pick_go (lim := 3) (xs := wdL.map V.str) (ev_cons ev_C fun _ _ => ev_cons ev_C fun _ _ => ev_cons ev_C fun _ _ => ev_nil) rfl hb (by omega) rfl (by decide) (fun r1 v1 H1 hv1 s1 hb1 => ?_)))
  obtain ⟨y, hy, rfl⟩ := pick_mem hv1
  refine cons_go (pick_go (lim := 2) (xs := k2N.map V.str) (ev_cons ev_C fun _ _ => ev_cons ev_C fun _ _ => ev_nil) rfl hb1 (by omega) rfl (by decide) (fun r2 v2 H2 hv2 s2 hb2 => nil_go ⟨_, _, rfl, ?_⟩))
  obtain ⟨k, hk, rfl⟩ := pick_mem hv2
  have hkd := k2_dk k hk
  have hnw : nw y ≤ 1 := by unfold nw; split <;> omega
  refine set_sl (xs := aheadL y) (sl_rep (sl_lst (xs := ["lay p"]) (ev_cons ev_C fun _ _ => ev_nil)) (fun _ _ => ev_nw rfl) (by show 1 * nw y ≤ 1000; omega) (by omega)) (fun H3 p3 s3 h3 => ?_)
  refine set_te (draw_go (lim := 3) rfl (hb2.up s3) (by omega) (by decide) (by decide) (fun m H4 hm s4 hb4 => ?_))
  have h34 := s4 _ _ (bag_ne (hb2.up s3) h3) h3
  have hla : (aheadL y).length ≤ 1 := by
    unfold aheadL nw
    split <;> decide
  have hm2 := sm3 hm
  obtain ⟨o1, e1⟩ := okRf_of (once1 k hk y hy m hm2)
  have hlf : ((List.replicate m (["find i"] : List Str)).flatten).length ≤ 2 := by
    rw [List.mem_cons, List.mem_cons, List.mem_singleton] at hm2
    rcases hm2 with rfl | rfl | rfl <;> decide
  refine set_sl (xs := onc1L y m) (sl_cat (sl_cat (sl_var rfl h34) (fun H5 s5 => sl_rep (sl_lst (xs := ["find i"]) (ev_cons ev_C fun _ _ => ev_nil)) (fun _ _ => ev_var rfl) (by show 1 * m ≤ 1000; omega) (by omega)) (by omega)) (fun H5 s5 => sl_lst (xs := [y, "leave", y]) (ev_cons (ev_var rfl) fun _ _ => ev_cons ev_C fun _ _ => ev_cons (ev_var rfl) fun _ _ => ev_nil)) (by rw [List.length_append]; simp only [List.length_cons, List.length_nil]; omega)) (fun H5 p5 s5 h5 => ?_)
  refine seq_if (ne_si _ (tp_ref e1 (ev_var rfl) (fun _ s' => ev_join (sl_var rfl (s' _ _ h5)) o1) hkd o1) (fun _ s' => tp_tup (ev_cons ev_C fun _ s'' => ev_cons (ev_len_str rfl ((s'.tr s'') _ _ h5)) fun _ _ => ev_nil)) (ref_ok _)) (fun g => by cases g) (fun _ H6 s6 => ?_)
  have hb6 := (hb4.up s5).up s6
  have h36 := (s5.tr s6) _ _ h34
  -- behind
  refine set_te (lst_go (cons_go ((sl_lst (xs := ["on none", y, "end"]) (ev_cons ev_C fun _ _ => ev_cons (ev_var rfl) fun _ _ => ev_cons ev_C fun _ _ => ev_nil)) _ fun qa Ha sa ha => ?_)))
  refine cons_go ((sl_lst (xs := [y]) (ev_cons (ev_var rfl) fun _ _ => ev_nil)) _ fun qb Hb sb hqb => nil_go ⟨szL rfl, fun ql hql => ?_⟩)
  have sl' : Same Hb (upd Hb ql (.lst [.ref qa, .ref qb])) := Same.new hql
  have hl' : upd Hb ql (.lst [.ref qa, .ref qb]) ql = some (.lst [.ref qa, .ref qb]) := upd_same
  generalize upd Hb ql (.lst [.ref qa, .ref qb]) = Hc at sl' hl' ⊢
  have s6c : Same H6 Hc := (sa.tr sb).tr sl'
  have hbc := hb6.up s6c
  refine draw_go (lim := 2) rfl hbc (by omega) (by decide) (by decide) (fun i H7 hi7 s7 hb7 => ?_)
  have hl7 := s7 _ _ (bag_ne hbc hl') hl'
  have h37 := s7 _ _ (bag_ne hbc (s6c _ _ h36)) (s6c _ _ h36)
  have ha7 := s7 _ _ (bag_ne hbc ((sb.tr sl') _ _ ha)) ((sb.tr sl') _ _ ha)
  have hq7 := s7 _ _ (bag_ne hbc (sl' _ _ hqb)) (sl' _ _ hqb)
  obtain ⟨q6, hq6, h6⟩ : ∃ q6, [V.ref qa, V.ref qb][i]? = some (.ref q6) ∧ H7 q6 = some (.lst ((behL y i).map V.str)) := by
    rcases i with _ | _ | i
    · exact ⟨qa, rfl, ha7⟩
    · exact ⟨qb, rfl, hq7⟩
    · omega
  refine ⟨ql, _, i, _, rfl, rfl, .inl (.inl hl7), atI_nat hq6, ?_⟩
  have hi2 : i ∈ [0, 1] := by
    rcases i with _ | _ | i
    · decide
    · decide
    · omega
  have hlb : (behL y i).length ≤ 3 := by
    unfold behL
    split <;> simp
  obtain ⟨o2, e2⟩ := okMd_of (once2 k hk y hy i hi2)
  refine set_sl (xs := waysL y i) (sl_cat (sl_cat (sl_var rfl h37) (fun H5 s5 => sl_lst (xs := ["find i", "on there", y, "quit no", "end"]) (ev_cons ev_C fun _ _ => ev_cons ev_C fun _ _ => ev_cons (ev_var rfl) fun _ _ => ev_cons ev_C fun _ _ => ev_cons ev_C fun _ _ => ev_nil)) (by simp only [List.length_cons, List.length_nil]; omega)) (fun _ s' => sl_var rfl (s' _ _ h6)) (by rw [List.length_append]; simp only [List.length_cons, List.length_nil]; omega)) (fun H8 p8 s8 h8 => ?_)
  refine seq_if (made_no e2 (ev_var rfl) (fun _ s' => ev_join (sl_var rfl (s' _ _ h8)) o2) hkd o2) (fun g => by cases g) (fun _ H9 s9 => ?_)
  have h39 := (s8.tr s9) _ _ h37
  obtain ⟨o3, e3⟩ := okRf_of (once3 k hk y hy)
  refine set_sl (xs := bothL y) (sl_cat (sl_var rfl h39) (fun H5 s5 => sl_lst (xs := ["find i", "on there", y, "end", y]) (ev_cons ev_C fun _ _ => ev_cons ev_C fun _ _ => ev_cons (ev_var rfl) fun _ _ => ev_cons ev_C fun _ _ => ev_cons (ev_var rfl) fun _ _ => ev_nil)) (by simp only [List.length_cons, List.length_nil]; omega)) (fun H10 p10 s10 h10 => ?_)
  refine seq_if (ne_si _ (tp_ref e3 (ev_var rfl) (fun _ s' => ev_join (sl_var rfl (s' _ _ h10)) o3) hkd o3) (fun _ s' => tp_tup (ev_cons ev_C fun _ s'' => ev_cons (ev_len_str rfl ((s'.tr s'') _ _ h10)) fun _ _ => ev_nil)) (ref_ok _)) (fun g => by cases g) (fun _ H11 s11 => ?_)
  obtain ⟨o4, e4⟩ := okRf_of (once4 k hk)
  refine seq_if (ne_si [.inl "refused", .inr 3] (tp_ref e4 (ev_var rfl) (fun _ s' => by rw [← fix_join]; exact ev_C) hkd o4) (fun _ s' => tp_tup (ev_cons ev_C fun _ s'' => ev_cons ev_C fun _ _ => ev_nil)) (ref_ok _)) (fun g => by cases g) (fun _ H12 s12 => ?_)
  obtain ⟨o5, e5⟩ := okMd_of (once5 k hk)
  refine do_set ev_C (fun H13 s13 => ?_)
  refine seq_if (made_no e5 (ev_var rfl) (fun _ s' => by rw [← blk_join]; exact ev_var rfl) hkd o5) (fun g => by cases g) (fun _ H14 s14 => ?_)
  have s714 : Same H7 H14 := ((s8.tr s9).tr (s10.tr s11)).tr (s12.tr (s13.tr s14))
  refine set_te ((sl_rep (n := m) (sl_lst (xs := ["leave"]) (ev_cons ev_C fun _ _ => ev_nil)) (fun _ _ => ev_var rfl) (by show 1 * m ≤ 1000; omega) (by omega)) _ fun q1 H15 s15 h15 => lst_go (cons_go ?_))
  refine pick_go (lim := 2) (xs := ((["lay p", "stretch p"] : List Str)).map V.str) (ev_cons ev_C fun _ _ => ev_cons ev_C fun _ _ => ev_nil) rfl (hb7.up (s714.tr s15)) (by omega) rfl (by decide) (fun r16 v16 H16 hv16 s16 hb16 => ?_)
  obtain ⟨y2, hy2, rfl⟩ := pick_mem hv16
  have h16 := s16 _ _ (bag_ne (hb7.up (s714.tr s15)) h15) h15
  obtain ⟨o6, e6⟩ := okRf_of (once6 y2 hy2 m hm2)
  refine ⟨szL rfl, fun q2 hq2 => ⟨q1, q2, _, _, rfl, rfl, (Same.new hq2) _ _ h16, upd_same, by rw [List.length_map]; have : ((List.replicate m (["leave"] : List Str)).flatten).length ≤ 2 := (by rw [List.mem_cons, List.mem_cons, List.mem_singleton] at hm2; rcases hm2 with rfl | rfl | rfl <;> decide); simp only [List.length_cons, List.length_nil]; omega, fun q3 hq3 => ?_⟩⟩
  have s17 : Same H16 (upd (upd H16 q2 (.lst [.str y2, .str "lay p"])) q3 (.lst (((List.replicate m (["leave"] : List Str)).flatten).map V.str ++ [.str y2, .str "lay p"]))) := (Same.new hq2).tr (Same.new hq3)
  have h17 : upd (upd H16 q2 (.lst [.str y2, .str "lay p"])) q3 (.lst (((List.replicate m (["leave"] : List Str)).flatten).map V.str ++ [.str y2, .str "lay p"])) q3 = some (.lst ((aloneL m y2).map V.str)) := by
    rw [upd_same]
    unfold aloneL
    rw [List.map_append]
    rfl
  generalize upd (upd H16 q2 (.lst [.str y2, .str "lay p"])) q3 (.lst (((List.replicate m (["leave"] : List Str)).flatten).map V.str ++ [.str y2, .str "lay p"])) = H17 at s17 h17 ⊢
  refine eq_si [.inl "refused", .inr (m + 1)] (tp_ref e6 ev_C (fun _ s' => ev_join (sl_var rfl (s' _ _ h17)) o6) (by decide +kernel) o6) (fun _ _ => tp_tup (ev_cons ev_C fun _ _ => ev_cons (ev_op (ev_var rfl) (fun _ _ => ev_C) fun _ _ Q' q' => ⟨_, _, rfl, rfl, q'⟩) fun _ _ => ev_nil)) (ref_ok _) Q (fun H' s' => ?_)
  refine h0 H' (n + 5) (by omega) ?_ ((hb16.up s17).up s')
  exact ((((((s1.tr s2).tr s3.x).tr s4).tr ((s5.tr s6).tr s6c).x).tr s7).tr (s714.tr s15).x).tr (s16.tr (s17.tr s').x)
end
end K59


set_option Elab.async false
set_option linter.all false
set_option maxRecDepth 100000
set_option maxHeartbeats 4000000
namespace K59
open PySem PySem.Spec PyProof.Rows L2
/-! the lines that begin a step -/
def stW7 : List Str := ["find", "look", "lay", "give", "free", "strike", "stretch"]
def isSt (z : Str) : Bool := decide ((words z).getD 0 "" ∈ stW7)
theorem st_row : ∀ ws ∈ plS, isSt (rowT ws) = false := by decide +kernel
theorem st_on : ∀ o ∈ allO, isSt (onT o) = false := by decide +kernel
theorem st_end : isSt endL = false := by decide +kernel
theorem st_step {w : Str} {o p : Option Str} (h : stOk w o p) : isSt (stepT w o p) = true := by
  simp only [stOk, idN, plN, List.mem_cons, List.not_mem_nil, or_false] at h
  rcases h with ⟨rfl, ⟨x, (rfl | rfl), rfl⟩, rfl⟩ | ⟨(rfl | rfl), ⟨x, (rfl | rfl), rfl⟩, y, (rfl | rfl), rfl⟩ | ⟨(rfl | rfl | rfl | rfl), rfl, y, (rfl | rfl), rfl⟩ <;> decide +kernel
theorem st_count : ∀ t : AT, (t.good none ∨ ∃ w, t.good (some w)) → (t.wl.filter isSt).length = t.st
  | .nil, _ => rfl
  | .row r ws t, g => by
    have hg : ws ∈ plS ∧ t.good none := g.elim id (fun ⟨w, k⟩ => k.elim)
    show ((rowT ws :: t.wl).filter isSt).length = t.st
    rw [List.filter_cons, st_row ws hg.1]
    exact st_count t (.inl hg.2)
  | .step r b w o p bl t, g => by
    have hg : stOk w o p ∧ bl.good (some w) ∧ t.good none := g.elim id (fun ⟨w, k⟩ => k.elim)
    show ((stepT w o p :: (bl.wl ++ t.wl)).filter isSt).length = 1 + bl.st + t.st
    rw [List.filter_cons, st_step hg.1, if_pos rfl, List.filter_append, List.length_cons, List.length_append, st_count bl (.inr ⟨w, hg.2.1⟩), st_count t (.inl hg.2.2)]
    omega
  | .blk r b o rs t, g => by
    obtain ⟨w, hg⟩ : ∃ w, o ∈ outs w ∧ o ∉ t.os ∧ rs.good none ∧ t.good (some w) := g.elim (fun k => k.elim) id
    show ((onT o :: (rs.wl ++ endL :: t.wl)).filter isSt).length = rs.st + t.st
    rw [List.filter_cons, st_on o (outs_all hg.1)]
    show ((rs.wl ++ endL :: t.wl).filter isSt).length = rs.st + t.st
    rw [List.filter_append, List.filter_cons, st_end, List.length_append, st_count rs (.inl hg.2.2.1)]
    show rs.st + (t.wl.filter isSt).length = _
    rw [st_count t (.inr ⟨w, hg.2.2.2⟩)]
theorem wl_ls {t : AT} (g : t.good none) (hl : t.nl ≤ 90) : LsOk t.wl := by
  have hw := wlL t (.inl g)
  refine ⟨fun z hz => ⟨(hw z hz).ok, (hw z hz).nn, (hw z hz).len⟩, by rw [wl_nl]; exact hl, fun e => ?_⟩
  exact (hw "" (by rw [e]; exact List.mem_singleton_self _)).ne rfl
theorem odd_ls {t : AT} {A B : List Str} {z : Str} (g : t.good none) (hl : t.nl ≤ 80) (e : t.wl = A ++ B) (hz : OddL z) (h0 : z = "" → t.wl ≠ []) : LsOk (A ++ z :: B) := by
  have hw := wlL t (.inl g)
  refine ⟨fun y hy => ?_, ?_, fun k => ?_⟩
  · have : y = z ∨ y ∈ t.wl := by
      rw [e]
      rcases List.mem_append.mp hy with h | h
      · exact .inr (List.mem_append.mpr (.inl h))
      · rcases List.mem_cons.mp h with h | h
        · exact .inl h
        · exact .inr (List.mem_append.mpr (.inr h))
    rcases this with rfl | h
    · exact ⟨hz.ok, hz.nn, hz.len⟩
    · exact ⟨(hw y h).ok, (hw y h).nn, (hw y h).len⟩
  · have := congrArg List.length e
    rw [wl_nl, List.length_append] at this
    rw [List.length_append, List.length_cons]
    omega
  · cases A with
    | nil =>
      cases B with
      | nil =>
        have : z = "" := by simpa using k
        exact h0 this (by rw [e]; rfl)
      | cons b r => simp at k
    | cons a r => simp at k
def longL (j : Nat) : List Str := (List.replicate j (["leave"] : List Str)).flatten ++ (["Leave"] : List Str)
theorem rp1_len (j : Nat) (y : Str) : ((List.replicate j ([y] : List Str)).flatten).length = j := by
  rw [List.length_flatten, List.map_replicate]
  simp
theorem long_len (j : Nat) : (longL j).length = j + 1 := by
  unfold longL
  rw [List.length_append, rp1_len]
  rfl
theorem long_ls {j : Nat} (h1 : 40 ≤ j) (h2 : j ≤ 48) : LsOk (longL j) := by
  have key : ∀ z ∈ (["leave", "Leave"] : List Str), LnOk z ∧ nlF z = true ∧ z.length ≤ 1000 := by
    intro z hz
    simp only [List.mem_cons, List.not_mem_nil, or_false] at hz
    rcases hz with rfl | rfl <;> exact ⟨lnB (by decide +kernel), by decide +kernel, by decide +kernel⟩
  refine ⟨fun z hz => key z ?_, by rw [long_len]; omega, fun e => ?_⟩
  · unfold longL at hz
    rcases List.mem_append.mp hz with h | h
    · obtain ⟨l, hl, hzl⟩ := List.mem_flatten.mp h
      rw [(List.mem_replicate.mp hl).2] at hzl
      rw [List.mem_singleton.mp hzl]
      exact List.mem_cons_self ..
    · rw [List.mem_singleton.mp h]
      exact List.mem_cons_of_mem _ (List.mem_singleton_self _)
  · have := congrArg List.length e
    rw [long_len] at this
    simp at this
    omega
theorem long_verd {j : Nat} (k : Str) (h1 : 40 ≤ j) : verd k (longL j) = .lines := by
  unfold verd
  rw [if_pos (by rw [long_len]; omega)]
def fortyL : List Str := (List.replicate 40 (["leave"] : List Str)).flatten
theorem forty_ok : ∀ k ∈ dkN, okMd k fortyL = true := by decide +kernel
theorem none_ok : ∀ k ∈ dkN, okMd k [] = true := by decide +kernel
theorem dk_so : ∀ k ∈ dkN, PyData.strOk k = true := by decide +kernel
section
variable {P : Program} {w : World} {K : PySem.W.Frag} {mg : Str → Option Value} {base : Heap} {a b : TE} {ta : TA} {z : L2.St} {H : Hp} {xs ys : List Str} {vs : List V} {Q : VK}
theorem op_go {r : R2} (h : a z H fun x H1 => b z H1 fun y H2 => r x y H2 Q) : tOp r a b z H Q := h
theorem cb_go {r : List V → Hp → VK → Prop} (h : ta z H fun vs H1 => r vs H1 Q) : tCB r ta z H Q := h
theorem make_go {k : Str} (hv : verd k xs = .made) (ha : EvE a z H (.str k)) (hb : ∀ H1, Same H H1 → EvE b z H1 (.str (Txt.join nlS xs))) (hk : k ∈ dkN) (hx : LsOk xs) (kk : ∀ x H', Same H H' → CodeAt K H' x k (Txt.join nlS xs) → Q (.ref x) H') : tMake (cD K) (spDC K) [] E0 (tCons a (tCons b tNil)) z H Q := by
  refine ha _ fun H1 s1 => hb H1 s1 _ fun H2 s2 => fun x dx hx' hdx hne => ?_
  have sX : Same H2 (upd (upd H2 dx (.own x)) x (.ins (cD K) dx [])) := fun b o hb => by rw [upd_ne (ne_of_none hb hx'), upd_ne (ne_of_none hb hdx)]; exact hb
  generalize hHX : upd (upd H2 dx (.own x)) x (.ins (cD K) dx []) = HX at sX ⊢
  have hXx : HX x = some (.ins (cD K) dx []) := by rw [← hHX]; exact upd_same
  have fw : ∀ {H'}, SameX x HX H' → Same H2 H' := fun s b o hb => s _ _ (ne_of_none hb hx') (sX _ _ hb)
  refine ⟨x, dx, .str k, Txt.join nlS xs, rfl, hXx, .inl rfl, hx.len, by rw [hx.lines]; exact fun t ht => (hx.ok t ht).1, (fun e => ?_), fun k' ek hk' => ?_⟩
  · rw [show kindOk dkN (.str k) = decide (k ∈ dkN) from rfl, decide_eq_true hk] at e
    cases e
  cases ek
  rw [hx.lines, hv]
  exact ⟨(fun e => nomatch e), (fun n e => nomatch e), (fun n e => nomatch e), (fun n e => nomatch e), fun _ H' hc sx => ⟨rfl, kk x H' ((s1.tr s2).tr (fw sx)) hc⟩⟩
theorem ev_get {k text y : Str} {x : Addr} {i j n : Nat} (hi : z[i]? = some (some (.ref x))) (hj : z[j]? = some (some (.int (n : Nat)))) (hc : CodeAt K H x k text) (h1 : 1 ≤ n) (hy : (linesOf text)[n - 1]? = some y) : EvE (tOp (rIxO (cD K) (spGet K) E0) (tVar i) (tVar j)) z H (.str y) := fun Q q => by
  have hc' := hc
  obtain ⟨dx, l, t, r, hx1, hl1⟩ := hc'
  exact ⟨_, hi, _, hj, x, dx, _, rfl, hx1, x, k, text, n, y, rfl, hc, h1, hy, fun H' s' => q H' s'⟩
theorem cmp_code {X : Cx} {k text : Str} {x : Addr} {i : Nat} {neg : Bool} (hi : z[i]? = some (some (.ref x))) (hc : CodeAt K H x k text) (ht : PyData.strOk text = true) (hk : k ∈ dkN) (hv : verd k ys = .made) (ha : EvE a z H (.str k)) (hb : ∀ H1, Same H H1 → EvE b z H1 (.str (Txt.join nlS ys))) (hy : LsOk ys) (hs : PyData.strOk (Txt.join nlS ys) = true) : EvT (tTest (tOp (rCmpO X (cD K) (spEqD K) E0 neg) (tVar i) (tMake (cD K) (spDC K) [] E0 (tCons a (tCons b tNil))))) z H (if neg then !decide (text = Txt.join nlS ys) else decide (text = Txt.join nlS ys)) := fun R q => by
  refine ⟨_, hi, make_go hv ha hb hk hy fun x2 H2 s2 hc2 => ?_⟩
  have hcu := hc.up s2
  have hc' := hcu
  obtain ⟨dx, l, t, r, hx1, hl1⟩ := hc'
  have hc2' := hc2
  obtain ⟨dx2, l2, t2, r2, hx2, hl2⟩ := hc2'
  refine ⟨x, dx, _, rfl, hx1, right_ins hx2, x, x2, k, text, k, Txt.join nlS ys, rfl, hcu, hc2, ?_, ?_, fun H3 s3 => ⟨_, rfl, _, rfl, ?_⟩⟩
  · simp [dk_so k hk, ht]
  · simp [dk_so k hk, hs]
  · have e : (decide (k = k) && decide (text = Txt.join nlS ys)) = decide (text = Txt.join nlS ys) := by simp
    rw [e]
    exact q H3 (s2.tr s3)
theorem ne_nilL {p : Addr} {i : Nat} (hi : z[i]? = some (some (.ref p))) (hp : H p = some (.lst (xs.map V.str))) (ho : xs.all PyData.strOk = true) : EvT (tTest (tOp (rNeD K) (tVar i) (tLst tNil))) z H (!decide (xs = [])) := fun R q => by
  refine ⟨_, hi, szL rfl, fun p2 hp2 => ?_⟩
  have s2 : Same H (upd H p2 (.lst [])) := Same.new hp2
  refine ⟨_, _, .lst (.inl (.inl (s2 _ _ hp))) (dpStrs xs), .lst (xs := (([] : List Str)).map V.str) (.inl (.inl upd_same)) (dpStrs []), shaped_strs ho, shaped_strs rfl, _, rfl, ?_⟩
  rw [eqv_strs]
  exact q _ s2
/-- strange kinds -/
def strD : List PyData := [.str "Enter", .str "", .none, .int 0, .list [.str "enter"], .str "put"]
def StrK (K : PySem.W.Frag) (H : Hp) (v : V) : Prop := (flatV v = true ∧ kindOk dkN v = false ∧ ∃ d ∈ strD, ∀ H, Dp K H v d) ∨ ∃ p, v = .ref p ∧ H p = some (.lst [.str "enter"])
theorem StrK.up {H H' : Hp} {v : V} (s : Same H H') (h : StrK K H v) : StrK K H' v := h.imp id fun ⟨p, e, hp⟩ => ⟨p, e, s _ _ hp⟩
theorem StrK.kv {H : Hp} {v : V} (h : StrK K H v) : KindV H v := h.imp (·.1) fun ⟨p, e, hp⟩ => ⟨p, _, e, hp⟩
theorem StrK.no {H : Hp} {v : V} (h : StrK K H v) : kindOk dkN v = false := by
  rcases h with h | ⟨p, rfl, hp⟩
  · exact h.2.1
  · rfl
def dOf : V → PyData
  | .str y => .str y
  | .int i => .int i
  | .non => .none
  | _ => .list [.str "enter"]
theorem StrK.dp {H : Hp} {v : V} (h : StrK K H v) : ∃ d ∈ strD, ∀ H', Same H H' → Dp K H' v d := by
  rcases h with ⟨_, _, d, hd, k⟩ | ⟨p, rfl, hp⟩
  · exact ⟨d, hd, fun H' _ => k H'⟩
  · exact ⟨.list [.str "enter"], by simp [strD], fun H' s => .lst (xs := (["enter"] : List Str).map V.str) (.inl (.inl (s _ _ hp))) (dpStrs ["enter"])⟩
theorem strD_ok : ∀ d ∈ strD, SeqAt.shaped (.tuple [.str "kind", d]) = true ∧ PyData.eqvAll [.str "kind", d] [.str "kind", d] = true := by
  intro d hd
  simp only [strD, List.mem_cons, List.not_mem_nil, or_false] at hd
  rcases hd with rfl | rfl | rfl | rfl | rfl | rfl <;> exact ⟨by decide +kernel, by simp [PyData.eqvAll, PyData.eqv]⟩
end
end K59


set_option Elab.async false
set_option linter.all false
set_option maxRecDepth 100000
set_option maxHeartbeats 4000000
namespace K59
open PySem PySem.Spec PyProof.Rows L2
section
variable {P : Program} {w : World} {K : PySem.W.Frag} {mg : Str → Option Value} {base : Heap}
def dueL (k text : Str) (st len : Nat) : List SI := if 8 < st then [.inl "steps", .inr st, .inr 8] else [.inl "made", .inl k, .inl text, .inr len]
theorem due_vd (k text : Str) (st len : Nat) : vdV k text len (if 8 < st then .steps st else .made) = (dueL k text st len).map sv := by
  unfold dueL
  split <;> rfl
theorem due_ok {k text : Str} {st len : Nat} (hk : PyData.strOk k = true) (ht : PyData.strOk text = true) : (dueL k text st len).all sok = true := by
  have e1 : PyData.strOk "steps" = true := by decide +kernel
  have e2 : PyData.strOk "made" = true := by decide +kernel
  unfold dueL
  split <;> simp [sok, hk, ht, e1, e2]
theorem line_ok (n : Nat) : ([.inl "line", .inr n] : List SI).all sok = true := by
  show (PyData.strOk "line" && (true && true)) = true
  decide +kernel
theorem lines_ok (n : Nat) : ([.inl "lines", .inr n, .inr 40] : List SI).all sok = true := by
  show (PyData.strOk "lines" && (true && (true && true))) = true
  decide +kernel
theorem nil_join : Str.ofString "" = Txt.join nlS [] := by decide +kernel
theorem seq_ifS {t : TT} {s r : TS} {D : Ends} {z : L2.St} {H : Hp} {b : Bool} (Rst : L2.St → Hp → Prop) (hc : EvT t z H b) (h1 : (∀ z' H', Rst z' H' → r D z' H') → b = true → ∀ H1, Same H H1 → s { nx := r D, rt := D.rt, bk := D.bk, ct := D.ct } z H1) (h2 : b = false → ∀ H1, Same H H1 → Rst z H1) (hR : ∀ z' H', Rst z' H' → r D z' H') : tSeq (tIfS t s tNext) r D z H := seq_if hc (h1 hR) (fun g H1 s1 => hR _ _ (h2 g H1 s1))
theorem addN_go {i j n : Nat} {H : Hp} {Q : VK} (e : i + j = n) (h : Q (.int (n : Nat)) H) : rI0 (fun i j => V.int (i + j)) (.int (i : Nat)) (.int (j : Nat)) H Q := ⟨_, _, rfl, rfl, by subst e; exact h⟩
theorem ev_sub1 {z : L2.St} {H : Hp} {i n : Nat} (hi : z[i]? = some (some (.int ((n + 1 : Nat) : Int)))) : EvE (tOp (rI0 fun i j => V.int (i - j)) (tVar i) (tC (V.int 1))) z H (.int (n : Nat)) := fun Q q => ⟨_, hi, _, _, rfl, rfl, by
  have e : ((n + 1 : Nat) : Int) - 1 = ((n : Nat) : Int) := by omega
  dsimp only
  rw [e]
  exact q _ (Same.rf _)⟩
theorem CodeAt.bag {H H' : Hp} {x d c : Addr} {n : Nat} {k text : Str} (hb : Bag H d c n) (s : SameX d H H') (h : CodeAt K H x k text) : CodeAt K H' x k text := by
  obtain ⟨dx, l, t, r, h1, h2⟩ := h
  obtain ⟨kv, hd⟩ := bag_d hb
  exact ⟨dx, l, t, r, s _ _ (fun e => by rw [e, hd] at h1; cases h1) h1, s _ _ (bag_ne hb h2) h2⟩
def spLaw (K : PySem.W.Frag) : Sp := fun vs H Q E => ∃ (a : Addr) (xs : List Int), vs = [.ref a] ∧ SqL K H a (xs.map V.int) ∧ ∀ H', Q (.bl true) H'
theorem ok_law (T : Tx P w K mg) {f : Addr} {fd : FuncData} (F : FunD K "law" "law" (defArgs s_law) (defBody s_law) (defScope s_law) [] [] f fd) : FnOk P w K mg base CX0 140 f fd ["_law_script"] (spLaw K) := by
  have F_l_bag := ok_bag (w := w) (base := base) T
  have F_l_draw := ok_draw (w := w) (base := base) T
  have F_l_drawn := ok_drawn (base := base) T
  have F_l_tried := ok_tried (base := base) T
  have F_l_odd_line := ok_odd (base := base) T
  have F_l_lines_right := ok_lr (base := base) T
  have F_l_once_right := ok_or (base := base) T
  have F_DeedCode := ok_dc (base := base) T
  have F_DeedCode_getitem := ok_get (base := base) T
  have F_DeedCode_eq := ok_eq (base := base) T
  refine L2.FunD.ok0 F sc_law (fun vs H Q E h => ?_) (fun cdv A outer s H vs Q E hr h => have hu := hu_of hr; ⟨_, (by exact (pss_cons (ps_set (i := 1) sc_law.nd rfl (Or.inl rfl) (pe_callX F_l_bag (hr.mono (by first | decide | omega)) pass0 (pa_cons (pv 0) pa_nil)))
      (pss_cons (ps_asg (pe_callX F_l_drawn (hr.mono (by first | decide | omega)) pass0 (pa_cons (pv 1) pa_nil)) (pg_tup rfl (pgs_cons (pg_name (i := 2) sc_law.nd rfl (Or.inl rfl)) (pgs_cons (pg_name (i := 3) sc_law.nd rfl (Or.inl rfl)) (pgs_cons (pg_name (i := 4) sc_law.nd rfl (Or.inl rfl)) pgs_nil)))))
      (pss_cons (ps_set (i := 5) sc_law.nd rfl (Or.inr rfl) (pe_lst (pa_cons pe_str (pa_cons pe_str (pa_cons pe_str (pa_cons pe_str (pa_cons pe_str (pa_cons pe_str (pa_cons pe_str pa_nil)))))))))
      (pss_cons (ps_set (i := 6) sc_law.nd rfl (Or.inl rfl) (pe_callB call_len_seq (by rfl) T.b_len (by decide +kernel) (pa_cons (pe_lc (own := [("_law_line", 7)]) (g := (gName 7))  (by rfl) sc_law.nd (pi_list (pv 4)) (blkOk_by (own := [("_law_line", 7)]) (N := ["_law_script", "_law_bag_here", "_law_kind", "_law_rows", "_law_lines", "_law_words", "_law_steps", "_law_line", "_law_text", "_law_due", "_law_code", "_law_at", "_law_bent", "_law_strange", "_law_many", "_law_long"]) (sc := defScope s_law) (by decide +kernel)) (fun _ _ _ _ _ => (pg_name (i := 7) sc_law.nd rfl (Or.inl rfl))) (fun _ _ _ _ _ => (pts_one (pt_cmpR (inS_at (K := K)) (pe_ix (ixL_at (K := K)) (pe_split (pv 7) pe_str) pe_int (fun _ _ => rfl)) (pv 5) (by rfl)))) (fun _ _ _ _ _ => (pv 7))) pa_nil)))
      (pss_cons (ps_set (i := 8) sc_law.nd rfl (Or.inl rfl) (pe_join pe_str (pv 4)))
      (pss_cons (ps_set (i := 9) sc_law.nd rfl (Or.inl rfl) (pe_ifExp (pt_cmpR op_le (pv 6) pe_int (nomark _)) (pe_tup (pa_cons pe_str (pa_cons (pv 2) (pa_cons (pv 8) (pa_cons (pe_callB call_len_seq (by rfl) T.b_len (by decide +kernel) (pa_cons (pv 4) pa_nil)) pa_nil))))) (pe_tup (pa_cons pe_str (pa_cons (pv 6) (pa_cons pe_int pa_nil))))))
      (pss_cons (ps_if (pt_cmpR (op_neD hr.units) (pe_callX F_l_tried (hr.mono (by first | decide | omega)) pass0 (pa_cons (pv 2) (pa_cons (pv 8) pa_nil))) (pv 9) (nomark _)) (pss_one (ps_ret pe_bl)) pss_nil)
      (pss_cons (ps_if (PW.pt (pw_and (pt_cmpR op_le (pv 6) pe_int (nomark _)) (pw_and1 (pt_cmpR (op_neD hr.units) (pv 4) (pe_lst pa_nil) (nomark _))))) (pss_cons (ps_par (i := 10) (j := 11) (by rfl) sc_law.nd rfl rfl (by decide) rfl rfl (pa_cons (pe_makeX F_DeedCode (hr.mono (by first | decide | omega)) passF (pa_cons (pv 2) (pa_cons (pv 8) pa_nil))) (pa_cons (pe_op op_add pe_int (pe_callX F_l_draw (hr.mono (by first | decide | omega)) pass0 (pa_cons (pv 1) (pa_cons (pe_callB call_len_seq (by rfl) T.b_len (by decide +kernel) (pa_cons (pv 4) pa_nil)) pa_nil)))) pa_nil)) (by rfl))
      (pss_one (ps_if (PW.pt (pw_or (pt_cmpR op_ne (pe_ixO F_DeedCode_getitem (hr.mono (by first | decide | omega)) passF (fn_get T) (pv 10) (pv 11)) (pe_ix ix_list (pv 4) (pe_op op_sub (pv 11) pe_int) (fun _ _ => rfl)) (nomark _)) (pw_or (pt_cmpR (op_neO F_DeedCode_eq (hr.mono (by first | decide | omega)) passF T.ne_DeedCode T.cm_DeedCode) (pv 10) (pe_makeX F_DeedCode (hr.mono (by first | decide | omega)) passF (pa_cons (pv 2) (pa_cons (pv 8) pa_nil))) (nomark _)) (pw_or1 (pt_cmpR (op_eqO F_DeedCode_eq (hr.mono (by first | decide | omega)) passF) (pv 10) (pe_makeX F_DeedCode (hr.mono (by first | decide | omega)) passF (pa_cons (pv 2) (pa_cons pe_str pa_nil))) (nomark _)))))) (pss_one (ps_ret pe_bl)) pss_nil))) pss_nil)
      (pss_cons (ps_asg (pe_callX F_l_odd_line (hr.mono (by first | decide | omega)) pass0 (pa_cons (pv 1) (pa_cons (pv 2) (pa_cons (pv 4) pa_nil)))) (pg_tup rfl (pgs_cons (pg_name (i := 12) sc_law.nd rfl (Or.inl rfl)) (pgs_cons (pg_name (i := 11) sc_law.nd rfl (Or.inl rfl)) pgs_nil))))
      (pss_cons (ps_if (pt_cmpR (op_neD hr.units) (pe_callX F_l_tried (hr.mono (by first | decide | omega)) pass0 (pa_cons (pv 2) (pa_cons (pe_join pe_str (pv 12)) pa_nil))) (pe_tup (pa_cons pe_str (pa_cons (pv 11) pa_nil))) (nomark _)) (pss_one (ps_ret pe_bl)) pss_nil)
      (pss_cons (ps_set (i := 13) sc_law.nd rfl (Or.inl rfl) (pe_ix ix_list (pe_lst (pa_cons pe_str (pa_cons pe_str (pa_cons pe_non (pa_cons pe_int (pa_cons (pe_lst (pa_cons pe_str pa_nil)) (pa_cons pe_str pa_nil))))))) (pe_callX F_l_draw (hr.mono (by first | decide | omega)) pass0 (pa_cons (pv 1) (pa_cons pe_int pa_nil))) (fun _ _ => rfl)))
      (pss_cons (ps_set (i := 14) sc_law.nd rfl (Or.inl rfl) (pe_op op_add pe_int (pe_callX F_l_draw (hr.mono (by first | decide | omega)) pass0 (pa_cons (pv 1) (pa_cons pe_int pa_nil)))))
      (pss_cons (ps_set (i := 15) sc_law.nd rfl (Or.inl rfl) (pe_join pe_str (pe_op op_cat (pe_op op_rep (pe_lst (pa_cons pe_str pa_nil)) (pe_op op_sub (pv 14) pe_int)) (pe_lst (pa_cons pe_str pa_nil)))))
      (pss_cons (ps_if (pt_cmpR (op_neD hr.units) (pe_callX F_l_tried (hr.mono (by first | decide | omega)) pass0 (pa_cons (pv 13) (pa_cons (pv 15) pa_nil))) (pe_tup (pa_cons pe_str (pa_cons (pv 13) pa_nil))) (nomark _)) (pss_one (ps_ret pe_bl)) pss_nil)
      (pss_cons (ps_if (pt_cmpR (op_neD hr.units) (pe_callX F_l_tried (hr.mono (by first | decide | omega)) pass0 (pa_cons (pv 2) (pa_cons (pv 15) pa_nil))) (pe_tup (pa_cons pe_str (pa_cons (pv 14) (pa_cons pe_int pa_nil)))) (nomark _)) (pss_one (ps_ret pe_bl)) pss_nil)
      (pss_cons (ps_if (pt_cmpR op_ne (pe_ix ix_tup (pe_callX F_l_tried (hr.mono (by first | decide | omega)) pass0 (pa_cons (pv 2) (pa_cons (pe_join pe_str (pe_op op_rep (pe_lst (pa_cons pe_str pa_nil)) pe_int)) pa_nil))) pe_int (fun _ _ => rfl)) pe_str (nomark _)) (pss_one (ps_ret pe_bl)) pss_nil)
      (pss_one (ps_ret (pe_and (pe_callX F_l_lines_right (hr.mono (by first | decide | omega)) pass0 (pa_cons (pv 1) (pa_cons (pv 2) (pa_cons (pv 3) (pa_cons (pv 4) pa_nil))))) (pe_one (pe_callX F_l_once_right (hr.mono (by first | decide | omega)) pass0 (pa_cons (pv 1) pa_nil))))))))))))))))))))))), ?_⟩)
  · obtain ⟨a, xs, rfl, _⟩ := h
    rfl
  obtain ⟨a, xs, rfl, ha, hQ⟩ := h
  have q9 : sizeLine = 16777216 := sizeLine_eq
  refine set_te ⟨_, rfl, a, xs, rfl, ha, fun d c H1 hd s1 hb1 => ?_⟩
  refine asg_go ⟨_, rfl, d, c, 0, rfl, hb1, by omega, fun q ar ln k t H2 m hm hb2 hq hln hk hg hnl hon => ?_⟩
  refine ⟨q, _, rfl, .inl (.inl hq), rfl, _, _, rfl, _, _, rfl, _, _, rfl, rfl, ?_⟩
  have hwl := wl_nl t
  have hls := wl_ls hg (by omega)
  have hsoL : ∀ z ∈ t.wl, PyData.strOk z = true := fun z hz => (wlL t (.inl hg) z hz).so
  have hsoT := so_join hsoL
  refine set_lst (vs := stW7.map V.str) (ev_cons ev_C fun _ _ => (ev_cons ev_C fun _ _ => (ev_cons ev_C fun _ _ => (ev_cons ev_C fun _ _ => (ev_cons ev_C fun _ _ => (ev_cons ev_C fun _ _ => (ev_cons ev_C fun _ _ => ev_nil))))))) (fun H3 p3 s3 _ h3 => ?_)
  have hln3 := s3 _ _ hln
  -- the steps, counted
  refine set_te (cb_go (cons_go ⟨_, rfl, ln, rfl, ⟨_, .inl (.inl hln3)⟩, fun D hD => ?_⟩))
  refine lc_list (xs := t.wl.map V.str) (fun i H' => Same H3 H' ∧ H' D = some (.lst (((t.wl.take i).filter isSt).map V.str))) ⟨Same.new hD, upd_same⟩ (fun i H' _ h => .inl (.inl (h.1 _ _ hln3))) ?_ ?_
  · rintro i v H4 hv ⟨s4, hD4⟩
    rw [List.getElem?_map] at hv
    obtain ⟨y, hy, rfl⟩ := Option.map_eq_some_iff.mp hv
    have hyw := wlL t (.inl hg) y (List.mem_of_getElem? hy)
    have hyl := hyw.len
    refine ⟨rfl, ?_⟩
    have ev1 : ∀ H4 : Hp, EvE (tOp (rIxL K) (tM1 (fun x xs H Q => ∃ a b, x = V.str a ∧ xs = [V.str b] ∧ (b.length == 0) = false ∧ a.length + 2 ≤ sizeLine ∧ rNewStrs (Txt.split a b) H Q) (tVar 7) (tC (V.str spS))) (tC (V.int 0))) [some (.ref a), some (.ref d), some (.str k), some (.ref ar), some (.ref ln), some (.ref p3), none, some (.str y), none, none, none, none, none, none, none, none] H4 (.str ((words y).getD 0 "")) := fun H4 Q' q' => do_split (z := y) (y := spS) (ev_var rfl) (by decide +kernel) (by omega) (fun H5 qs s5 _ hqs => ⟨qs, _, 0, _, rfl, rfl, .inl (.inl hqs), at_word (i := 0) (w0 (words_ne y)), q' _ s5⟩)
    refine ev_test (ev_in (K := K) (ns := stW7) (ev1 H4) (fun H5 s5 Q' q' => ⟨_, rfl, q' H5 p3 (Same.rf _) (.inl (.inl (.inl ((s4.tr s5) _ _ h3))))⟩)) _ fun H6 s6 => ?_
    have etk : (t.wl.take (i + 1)).filter isSt = (t.wl.take i).filter isSt ++ (if isSt y = true then [y] else []) := by
      rw [List.take_succ, hy, List.filter_append]
      show _ ++ List.filter _ [y] = _
      rw [List.filter_cons]
      rfl
    refine iteB (fun gq => ?_) (fun gq => ?_)
    · refine ⟨_, rfl, _, s6 _ _ hD4, ?_, (s4.tr s6).mut hD, ?_⟩
      · have h6 := List.length_filter_le isSt (t.wl.take i)
        have h7 : (t.wl.take i).length ≤ t.wl.length := by rw [List.length_take]; omega
        rw [List.length_map]
        omega
      · rw [upd_same, etk, if_pos (show isSt y = true from gq)]
        simp
    · refine ⟨s4.tr s6, ?_⟩
      rw [etk, if_neg (by rw [show isSt y = false from gq]; exact Bool.false_ne_true), List.append_nil]
      exact s6 _ _ hD4
  rintro H4 ⟨s4, hD4⟩
  rw [List.length_map, List.take_length] at hD4
  refine nil_go ⟨D, _, rfl, .inl (.inl (.inl hD4)), ?_⟩
  rw [List.length_map, st_count t (.inl hg)]
  have hb4 := (hb2.up s3).up s4
  have hln4 := s4 _ _ hln3
  have h34 := s4 _ _ h3
  refine do_set (ev_join (sl_var rfl hln4) hls) (fun H5 s5 => ?_)
  have hsokD := due_ok (st := t.st) (len := t.wl.length) (dk_so k hk) hsoT
  have hln5 := s5 _ _ hln4
  refine set_ifV (b := decide ((t.st : Int) ≤ 8)) (ev_test (ev_op (ev_var rfl) (fun _ _ => ev_C) fun _ _ Q' q' => ⟨_, _, rfl, rfl, q'⟩)) (fun v H' => ∃ q, v = .ref q ∧ Same H5 H' ∧ H' q = some (.tup ((dueL k (Txt.join nlS t.wl) t.st t.wl.length).map sv))) (fun g H6 s6 Q' k' => ?_) (fun g H6 s6 Q' k' => ?_) ?_
  · have g' := of_decide_eq_true g
    refine tp_tup (vs := (dueL k (Txt.join nlS t.wl) t.st t.wl.length).map sv) ?_ (by unfold dueL; rw [if_neg (by omega)]; rfl) _ (fun q9 H7 s7 h7 => k' _ _ ⟨q9, rfl, s6.tr s7, h7⟩)
    unfold dueL
    rw [if_neg (by omega)]
    exact ev_cons ev_C fun _ sa => ev_cons (ev_var rfl) fun _ sb => ev_cons (ev_var rfl) fun _ sc => ev_cons (ev_len_str rfl ((((s6.tr sa).tr sb).tr sc) _ _ hln5)) fun _ _ => ev_nil
  · have g' := of_decide_eq_false g
    refine tp_tup (vs := (dueL k (Txt.join nlS t.wl) t.st t.wl.length).map sv) ?_ (by unfold dueL; rw [if_pos (by omega)]; rfl) _ (fun q9 H7 s7 h7 => k' _ _ ⟨q9, rfl, s6.tr s7, h7⟩)
    unfold dueL
    rw [if_pos (by omega)]
    exact ev_cons ev_C fun _ _ => ev_cons (ev_var rfl) fun _ _ => ev_cons ev_C fun _ _ => ev_nil
  rintro _ H6 ⟨q6, rfl, s6, h6⟩
  have hvg := verd_good hg (by omega) hon
  have hln6 := s6 _ _ hln5
  have hb6 := (hb4.up s5).up s6
  refine seq_if (ne_si _ (by
    have h9 := tp_tried (K := K) (E := E0) (a := tVar 2) (b := tVar 8) (z := [some (.ref a), some (.ref d), some (.str k), some (.ref ar), some (.ref ln), some (.ref p3), some (.int (t.st : Nat)), none, some (.str (Txt.join nlS t.wl)), some (.ref q6), none, none, none, none, none, none]) (H := H6) (ev_var rfl) (fun _ _ => ev_var rfl) hk hls
    rw [hvg, due_vd] at h9
    exact h9) (fun _ s' => tp_var rfl (s' _ _ h6)) hsokD) (fun g => by cases g) (fun _ H7 s7 => ?_)
  have hln7 := s7 _ _ hln6
  have hb7 := hb6.up s7
  refine seq_ifS (fun z' H' => ∃ (y10 y11 : Option V) (m' : Nat), z' = [some (.ref a), some (.ref d), some (.str k), some (.ref ar), some (.ref ln), some (.ref p3), some (.int (t.st : Nat)), none, some (.str (Txt.join nlS t.wl)), some (.ref q6), y10, y11, none, none, none, none] ∧ m' ≤ 201 ∧ Bag H' d c m' ∧ H' ln = some (.lst (t.wl.map V.str))) (ev_and (ev_test (ev_op (b := tC (V.int 8)) (ev_var rfl) (fun _ _ => ev_C) fun _ _ Q' q' => ⟨_, _, rfl, rfl, q'⟩)) fun _ H8 s8 => ne_nilL rfl (s8 _ _ hln7) (List.all_eq_true.mpr hsoL)) (fun hR g H8 s8 => ?_) (fun g H8 s8 => ⟨none, none, m, rfl, by omega, hb7.up s8, s8 _ _ hln7⟩) ?_
  · simp only [Bool.and_eq_true, decide_eq_true_eq, Bool.not_eq_true', decide_eq_false_iff_not] at g
    obtain ⟨g1, g2⟩ := g
    have hlp : 0 < t.wl.length := List.length_pos_iff.mpr g2
    have hmd : verd k t.wl = .made := by rw [hvg, if_neg (by omega)]
    have hln8 := s8 _ _ hln7
    have hb8 := hb7.up s8
    refine par_go (cons_go (make_go hmd (ev_var rfl) (fun _ _ => ev_var rfl) hk hls (fun x H9 s9 hc9 => cons_go (op_go (c_go (drawE_go (lim := t.wl.length) rfl (ev_len_str rfl (s9 _ _ hln8)) (hb8.up s9) (by omega) hlp (by omega) (fun r H10 hr s10 hb10 => addN_go (i := 1) (j := r) (n := r + 1) (by omega) (nil_go ⟨_, _, rfl, ?_⟩))))))))
    have hc10 := hc9.bag (hb8.up s9) s10
    have hln10 := s10 _ _ (bag_ne (hb8.up s9) (s9 _ _ hln8)) (s9 _ _ hln8)
    obtain ⟨y, hy⟩ : ∃ y, t.wl[r]? = some y := ⟨_, List.getElem?_eq_getElem hr⟩
    have hy1 : (linesOf (Txt.join nlS t.wl))[r + 1 - 1]? = some y := by
      rw [hls.lines, show r + 1 - 1 = r by omega]
      exact hy
    obtain ⟨on1, on2⟩ := okMd_of (none_ok k hk)
    have hne : ¬ Txt.join nlS t.wl = Txt.join nlS [] := fun e => by
      have h9 := hls.lines
      rw [e, on1.lines] at h9
      exact g2 h9.symm
    refine do_if (ev_or (ne_str (y := y) (ev_get rfl rfl hc10 (by omega) hy1) (fun H11 s11 => ?_)) fun _ H11 s11 => ev_or (cmp_code (neg := true) rfl (hc10.up s11) hsoT hk hmd (ev_var rfl) (fun _ _ => ev_var rfl) hls hsoT) fun _ H12 s12 => cmp_code (neg := false) rfl (hc10.up (s11.tr s12)) hsoT hk on2 (ev_var rfl) (fun _ _ => by rw [← nil_join]; exact ev_C) on1 (by rw [← nil_join]; decide +kernel)) (fun g => ?_) (fun g H11 s11 => hR _ _ ⟨_, _, m + 1, rfl, by omega, hb10.up s11, s11 _ _ hln10⟩)
    · exact ev_ixL (n := (r : Nat)) (ev_var rfl) (fun _ _ => ev_sub1 rfl) (.inl (.inl (s11 _ _ hln10))) (atI_nat (by rw [List.getElem?_map, hy]; rfl))
    · simp only [decide_true, Bool.not_true, Bool.false_or, if_pos, decide_eq_true_eq] at g
      revert g
      simp [hne]
  rintro z' H8 ⟨y10, y11, m', rfl, hm', hb8, hln8⟩
  refine asg_go ⟨_, rfl, _, rfl, _, rfl, d, c, ln, m', .str k, t, rfl, hb8, by omega, hln8, hg, by omega, fun qo q2 A0 B0 z0 H9 m9 hm9 s9 hb9 hqo hq2 eAB hz hA hz0 => ?_⟩
  refine ⟨qo, _, rfl, .inl (.inl hqo), rfl, _, _, rfl, _, _, rfl, rfl, ?_⟩
  have hlo := odd_ls hg (by omega) eAB hz hz0
  have hvo := verd_odd (k := k) hg (by omega) hz.odd eAB hA
  refine seq_if (ne_si [.inl "line", .inr (A0.length + 1)] (by
    have h9 := tp_tried (K := K) (E := E0) (a := tVar 2) (b := tM1 (fun x ts H Q => ∃ y p zs, x = V.str y ∧ ts = [V.ref p] ∧ (SqL K H p (List.map V.str zs) ∨ SqT K H p (List.map V.str zs)) ∧ (List.map (fun x => x.length) zs).sum + zs.length * y.length ≤ 16777216 ∧ Q (V.str (Txt.join y zs)) H) (tC (V.str (Str.ofString "\n"))) (tVar 12)) (z := [some (.ref a), some (.ref d), some (.str k), some (.ref ar), some (.ref ln), some (.ref p3), some (.int (t.st : Nat)), none, some (.str (Txt.join nlS t.wl)), some (.ref q6), y10, some (.int ((A0.length + 1 : Nat) : Int)), some (.ref q2), none, none, none]) (H := H9) (ev_var rfl) (fun _ s' => ev_join (sl_var rfl (s' _ _ hq2)) hlo) hk hlo
    rw [hvo] at h9
    exact h9) (fun _ s' => tp_tup (ev_cons ev_C fun _ _ => ev_cons (ev_var rfl) fun _ _ => ev_nil)) (line_ok _)) (fun g => by cases g) (fun _ H10 s10 => ?_)
  have hb10 := hb9.up s10
  -- a strange kind
  refine set_te (op_go (lst_go (cons_go (c_go (cons_go (c_go (cons_go (c_go (cons_go (c_go (cons_go ((sl_lst (xs := ["enter"]) (ev_cons ev_C fun _ _ => ev_nil)) _ fun qe He se he => cons_go (c_go (nil_go ⟨szL rfl, fun ql hql => ?_⟩))))))))))))))
  have sl' : Same He (upd He ql (.lst [.str "Enter", .str "", .non, .int 0, .ref qe, .str "put"])) := Same.new hql
  have hl' : upd He ql (.lst [.str "Enter", .str "", .non, .int 0, .ref qe, .str "put"]) ql = some (.lst [.str "Enter", .str "", .non, .int 0, .ref qe, .str "put"]) := upd_same
  generalize upd He ql (.lst [.str "Enter", .str "", .non, .int 0, .ref qe, .str "put"]) = Hl at sl' hl' ⊢
  have hbl := hb10.up (se.tr sl')
  refine draw_go (lim := 6) rfl hbl (by omega) (by decide) (by decide) (fun r H11 hr s11 hb11 => ?_)
  have hl11 := s11 _ _ (bag_ne hbl hl') hl'
  have he11 := s11 _ _ (bag_ne hbl (sl' _ _ he)) (sl' _ _ he)
  obtain ⟨v, hv, hS⟩ : ∃ v, [V.str "Enter", .str "", .non, .int 0, .ref qe, .str "put"][r]? = some v ∧ StrK K H11 v := by
    rcases r with _ | _ | _ | _ | _ | _ | r
    · exact ⟨_, rfl, .inl ⟨rfl, by decide +kernel, .str "Enter", by simp [strD], fun H => .str _⟩⟩
    · exact ⟨_, rfl, .inl ⟨rfl, by decide +kernel, .str "", by simp [strD], fun H => .str _⟩⟩
    · exact ⟨_, rfl, .inl ⟨rfl, rfl, .none, by simp [strD], fun H => .non⟩⟩
    · exact ⟨_, rfl, .inl ⟨rfl, rfl, .int 0, by simp [strD], fun H => .int _⟩⟩
    · exact ⟨_, rfl, .inr ⟨qe, rfl, he11⟩⟩
    · exact ⟨_, rfl, .inl ⟨rfl, by decide +kernel, .str "put", by simp [strD], fun H => .str _⟩⟩
    · omega
  refine ⟨ql, _, r, v, rfl, rfl, .inl (.inl hl11), atI_nat hv, ?_⟩
  refine set_te (op_go (c_go (draw_go (lim := 9) rfl hb11 (by omega) (by decide) (by decide) (fun r2 H12 hr2 s12 hb12 => addN_go (i := 41) (j := r2) (n := 40 + r2 + 1) (by omega) ?_))))
  have hS12 : StrK K H12 v := by
    rcases hS with h | ⟨p, rfl, hp⟩
    · exact .inl h
    · exact .inr ⟨p, rfl, s12 _ _ (bag_ne hb11 hp) hp⟩
  generalize hj : 40 + r2 = j
  have hll := long_ls (j := j) (by omega) (by omega)
  refine do_set (ev_join (xs := longL j) (sl_cat (sl_rep (n := j) (sl_lst (xs := ["leave"]) (ev_cons ev_C fun _ _ => ev_nil)) (fun _ _ => ev_sub1 rfl) (by show 1 * j ≤ 1000; omega) (by omega)) (fun _ _ => sl_lst (xs := ["Leave"]) (ev_cons ev_C fun _ _ => ev_nil)) (by rw [rp1_len]; show j + 1 ≤ 1000; omega)) hll) (fun H13 s13 => ?_)
  have hS13 := hS12.up s13
  obtain ⟨dv, hdv, hdp⟩ := hS13.dp
  obtain ⟨hsh, heq⟩ := strD_ok dv hdv
  refine seq_if (ne_tup (tp_strange (ev_var rfl) (fun _ s' => (hS13.up s').kv) (fun _ _ => ev_var rfl) hS13.no hll) (fun _ _ => tp_tup (ev_cons ev_C fun _ _ => ev_cons (ev_var rfl) fun _ _ => ev_nil)) (fun H' s' => .cons (.str _) (.cons (hdp H' s') .nil)) hsh heq) (fun g => by cases g) (fun _ H14 s14 => ?_)
  refine seq_if (ne_si [.inl "lines", .inr (j + 1), .inr 40] (by
    have h9 := tp_tried (K := K) (E := E0) (a := tVar 2) (b := tVar 15) (z := [some (.ref a), some (.ref d), some (.str k), some (.ref ar), some (.ref ln), some (.ref p3), some (.int (t.st : Nat)), none, some (.str (Txt.join nlS t.wl)), some (.ref q6), y10, some (.int ((A0.length + 1 : Nat) : Int)), some (.ref q2), some v, some (.int ((j + 1 : Nat) : Int)), some (.str (Txt.join nlS (longL j)))]) (H := H14) (ev_var rfl) (fun _ _ => ev_var rfl) hk hll
    rw [long_verd k (by omega), long_len] at h9
    exact h9) (fun _ s' => tp_tup (ev_cons ev_C fun _ _ => ev_cons (ev_var rfl) fun _ _ => ev_cons ev_C fun _ _ => ev_nil)) (lines_ok _)) (fun g => by cases g) (fun _ H15 s15 => ?_)
  obtain ⟨o4, e4⟩ := okMd_of (forty_ok k hk)
  refine seq_if (made_no e4 (ev_var rfl) (fun _ _ => ev_join (sl_rep (n := 40) (sl_lst (xs := ["leave"]) (ev_cons ev_C fun _ _ => ev_nil)) (fun _ _ => ev_C) (by decide) (by decide)) o4) hk o4) (fun g => by cases g) (fun _ H16 s16 => ?_)
  have hb16 := hb12.up (s13.tr (s14.tr (s15.tr s16)))
  refine ⟨_, rfl, _, rfl, _, rfl, _, rfl, d, c, _, k, _, _, rfl, hb16, by omega, hk, fun H17 m17 hm17 s17 hb17 => ⟨true, rfl, iteT ?_⟩⟩
  exact ⟨_, rfl, d, c, m17, rfl, hb17, by omega, fun H18 _ _ _ _ => hQ H18⟩
end
end K59


set_option Elab.async false
set_option linter.all false
set_option maxRecDepth 100000
set_option maxHeartbeats 0
namespace K59
open PySem PySem.Spec PyProof.Rows L2 He HeE
def h_CodeText_init : He.DefD := ⟨("CodeText", some "__init__"), "__init__", "CodeText.__init__", defArgs s_CodeText_init, defBody s_CodeText_init, defScope s_CodeText_init, [], []⟩
def h_CodeText_same : He.DefD := ⟨("CodeText", some "same"), "same", "CodeText.same", defArgs s_CodeText_same, defBody s_CodeText_same, defScope s_CodeText_same, [], []⟩
def h_CodeText_len : He.DefD := ⟨("CodeText", some "__len__"), "__len__", "CodeText.__len__", defArgs s_CodeText_len, defBody s_CodeText_len, defScope s_CodeText_len, [], []⟩
def h_CodeText_iter : He.DefD := ⟨("CodeText", some "__iter__"), "__iter__", "CodeText.__iter__", defArgs s_CodeText_iter, defBody s_CodeText_iter, defScope s_CodeText_iter, [], []⟩
def h_CodeText_getitem : He.DefD := ⟨("CodeText", some "__getitem__"), "__getitem__", "CodeText.__getitem__", defArgs s_CodeText_getitem, defBody s_CodeText_getitem, defScope s_CodeText_getitem, [], []⟩
def h_CodeText_eq : He.DefD := ⟨("CodeText", some "__eq__"), "__eq__", "CodeText.__eq__", defArgs s_CodeText_eq, defBody s_CodeText_eq, defScope s_CodeText_eq, [], []⟩
def h_step_of : He.DefD := ⟨("step_of", none), "step_of", "step_of", defArgs s_step_of, defBody s_step_of, defScope s_step_of, [], []⟩
def h_plain_row : He.DefD := ⟨("plain_row", none), "plain_row", "plain_row", defArgs s_plain_row, defBody s_plain_row, defScope s_plain_row, [], []⟩
def h_DeedReader_init : He.DefD := ⟨("DeedReader", some "__init__"), "__init__", "DeedReader.__init__", defArgs s_DeedReader_init, defBody s_DeedReader_init, defScope s_DeedReader_init, [], []⟩
def h_DeedReader_words : He.DefD := ⟨("DeedReader", some "words"), "words", "DeedReader.words", defArgs s_DeedReader_words, defBody s_DeedReader_words, defScope s_DeedReader_words, [], []⟩
def h_DeedReader_read_rows : He.DefD := ⟨("DeedReader", some "read_rows"), "read_rows", "DeedReader.read_rows", defArgs s_DeedReader_read_rows, defBody s_DeedReader_read_rows, defScope s_DeedReader_read_rows, [], []⟩
def h_DeedReader_read_row : He.DefD := ⟨("DeedReader", some "read_row"), "read_row", "DeedReader.read_row", defArgs s_DeedReader_read_row, defBody s_DeedReader_read_row, defScope s_DeedReader_read_row, [], []⟩
def h_DeedReader_blocks : He.DefD := ⟨("DeedReader", some "blocks"), "blocks", "DeedReader.blocks", defArgs s_DeedReader_blocks, defBody s_DeedReader_blocks, defScope s_DeedReader_blocks, [], []⟩
def h_DeedReader_begins_block : He.DefD := ⟨("DeedReader", some "begins_block"), "begins_block", "DeedReader.begins_block", defArgs s_DeedReader_begins_block, defBody s_DeedReader_begins_block, defScope s_DeedReader_begins_block, [], []⟩
def h_count_steps : He.DefD := ⟨("count_steps", none), "count_steps", "count_steps", defArgs s_count_steps, defBody s_count_steps, defScope s_count_steps, [], []⟩
def h_deed_ways : He.DefD := ⟨("deed_ways", none), "deed_ways", "deed_ways", defArgs s_deed_ways, defBody s_deed_ways, defScope s_deed_ways, [], []⟩
def h_ways_behind : He.DefD := ⟨("ways_behind", none), "ways_behind", "ways_behind", defArgs s_ways_behind, defBody s_ways_behind, defScope s_ways_behind, [], []⟩
def h_need_deed_limits : He.DefD := ⟨("need_deed_limits", none), "need_deed_limits", "need_deed_limits", defArgs s_need_deed_limits, defBody s_need_deed_limits, defScope s_need_deed_limits, [], []⟩
def h_unfit_lines : He.DefD := ⟨("unfit_lines", none), "unfit_lines", "unfit_lines", defArgs s_unfit_lines, defBody s_unfit_lines, defScope s_unfit_lines, [], []⟩
def h_l_bag : He.DefD := ⟨("_law_bag", none), "_law_bag", "_law_bag", defArgs s_l_bag, defBody s_l_bag, defScope s_l_bag, [], []⟩
def h_l_draw : He.DefD := ⟨("_law_draw", none), "_law_draw", "_law_draw", defArgs s_l_draw, defBody s_l_draw, defScope s_l_draw, [], []⟩
def h_l_outcomes : He.DefD := ⟨("_law_outcomes", none), "_law_outcomes", "_law_outcomes", defArgs s_l_outcomes, defBody s_l_outcomes, defScope s_l_outcomes, [], []⟩
def h_l_step : He.DefD := ⟨("_law_step", none), "_law_step", "_law_step", defArgs s_l_step, defBody s_l_step, defScope s_l_step, [], []⟩
def h_l_found : He.DefD := ⟨("_law_found", none), "_law_found", "_law_found", defArgs s_l_found, defBody s_l_found, defScope s_l_found, [], []⟩
def h_l_laid : He.DefD := ⟨("_law_laid", none), "_law_laid", "_law_laid", defArgs s_l_laid, defBody s_l_laid, defScope s_l_laid, [], []⟩
def h_l_gone : He.DefD := ⟨("_law_gone", none), "_law_gone", "_law_gone", defArgs s_l_gone, defBody s_l_gone, defScope s_l_gone, [], []⟩
def h_l_base : He.DefD := ⟨("_law_base", none), "_law_base", "_law_base", defArgs s_l_base, defBody s_l_base, defScope s_l_base, [], []⟩
def h_l_lists : He.DefD := ⟨("_law_lists", none), "_law_lists", "_law_lists", defArgs s_l_lists, defBody s_l_lists, defScope s_l_lists, [], []⟩
def h_l_other : He.DefD := ⟨("_law_other", none), "_law_other", "_law_other", defArgs s_l_other, defBody s_l_other, defScope s_l_other, [], []⟩
def h_l_slip : He.DefD := ⟨("_law_slip", none), "_law_slip", "_law_slip", defArgs s_l_slip, defBody s_l_slip, defScope s_l_slip, [], []⟩
def h_l_written : He.DefD := ⟨("_law_written", none), "_law_written", "_law_written", defArgs s_l_written, defBody s_l_written, defScope s_l_written, [], []⟩
def h_l_drawn : He.DefD := ⟨("_law_drawn", none), "_law_drawn", "_law_drawn", defArgs s_l_drawn, defBody s_l_drawn, defScope s_l_drawn, [], []⟩
def h_l_tried : He.DefD := ⟨("_law_tried", none), "_law_tried", "_law_tried", defArgs s_l_tried, defBody s_l_tried, defScope s_l_tried, [], []⟩
def h_l_odd_line : He.DefD := ⟨("_law_odd_line", none), "_law_odd_line", "_law_odd_line", defArgs s_l_odd_line, defBody s_l_odd_line, defScope s_l_odd_line, [], []⟩
def h_l_lines_right : He.DefD := ⟨("_law_lines_right", none), "_law_lines_right", "_law_lines_right", defArgs s_l_lines_right, defBody s_l_lines_right, defScope s_l_lines_right, [], []⟩
def h_l_once_right : He.DefD := ⟨("_law_once_right", none), "_law_once_right", "_law_once_right", defArgs s_l_once_right, defBody s_l_once_right, defScope s_l_once_right, [], []⟩
def h_law : He.DefD := ⟨("law", none), "law", "law", defArgs s_law, defBody s_law, defScope s_law, [], []⟩
def h_DeedCode_same : He.DefD := ⟨("DeedCode", some "same"), "same", "CodeText.same", defArgs s_CodeText_same, defBody s_CodeText_same, defScope s_CodeText_same, [], []⟩
def h_DeedCode_len : He.DefD := ⟨("DeedCode", some "__len__"), "__len__", "CodeText.__len__", defArgs s_CodeText_len, defBody s_CodeText_len, defScope s_CodeText_len, [], []⟩
def h_DeedCode_iter : He.DefD := ⟨("DeedCode", some "__iter__"), "__iter__", "CodeText.__iter__", defArgs s_CodeText_iter, defBody s_CodeText_iter, defScope s_CodeText_iter, [], []⟩
def h_DeedCode_getitem : He.DefD := ⟨("DeedCode", some "__getitem__"), "__getitem__", "CodeText.__getitem__", defArgs s_CodeText_getitem, defBody s_CodeText_getitem, defScope s_CodeText_getitem, [], []⟩
def h_DeedCode_eq : He.DefD := ⟨("DeedCode", some "__eq__"), "__eq__", "CodeText.__eq__", defArgs s_CodeText_eq, defBody s_CodeText_eq, defScope s_CodeText_eq, [], []⟩
def fn0 : List He.DefD := [h_CodeText_init, h_CodeText_same, h_CodeText_len, h_CodeText_iter, h_CodeText_getitem, h_CodeText_eq, h_step_of, h_plain_row, h_DeedReader_init, h_DeedReader_words, h_DeedReader_read_rows, h_DeedReader_read_row, h_DeedReader_blocks, h_DeedReader_begins_block, h_count_steps, h_deed_ways, h_ways_behind, h_need_deed_limits, h_unfit_lines, h_l_bag, h_l_draw, h_l_outcomes, h_l_step, h_l_found, h_l_laid]
def fn1 : List He.DefD := [h_l_gone, h_l_base, h_l_lists, h_l_other, h_l_slip, h_l_written, h_l_drawn, h_l_tried, h_l_odd_line, h_l_lines_right, h_l_once_right, h_law, h_DeedCode_same, h_DeedCode_len, h_DeedCode_iter, h_DeedCode_getitem, h_DeedCode_eq]
abbrev fn : List He.DefD := fn0 ++ fn1
def fa0 : List He.Fa := [.glo "CodeText", .mkr "CodeText", .cls "CodeText", .meth "CodeText" "same", .meth "CodeText" "__len__", .meth "CodeText" "__iter__", .meth "CodeText" "__getitem__", .meth "CodeText" "__eq__", .glo "step_of", .glo "plain_row", .glo "DeedReader", .mkr "DeedReader", .cls "DeedReader", .meth "DeedReader" "words", .meth "DeedReader" "read_rows", .meth "DeedReader" "read_row", .meth "DeedReader" "blocks", .meth "DeedReader" "begins_block", .glo "count_steps", .glo "deed_ways", .glo "ways_behind", .glo "need_deed_limits", .glo "unfit_lines", .glo "_law_bag", .glo "_law_draw"]
def fa1 : List He.Fa := [.glo "_law_outcomes", .glo "_law_step", .glo "_law_found", .glo "_law_laid", .glo "_law_gone", .glo "_law_base", .glo "_law_lists", .glo "_law_other", .glo "_law_slip", .glo "_law_written", .glo "_law_drawn", .glo "_law_tried", .glo "_law_odd_line", .glo "_law_lines_right", .glo "_law_once_right", .glo "law", .cls "DeedCode", .meth "DeedCode" "same", .meth "DeedCode" "__len__", .meth "DeedCode" "__iter__", .meth "DeedCode" "__getitem__", .meth "DeedCode" "__eq__", .mkr "DeedCode", .noat "CodeText" "kind", .noat "CodeText" "own_lines"]
def fa2 : List He.Fa := [.noat "CodeText" "own_tables", .noat "CodeText" "part", .noat "CodeText" "text", .noat "DeedReader" "line", .noat "DeedReader" "texts", .glo "DeedCode", .noat "DeedCode" "kind", .noat "DeedCode" "own_lines", .noat "DeedCode" "own_tables", .noat "DeedCode" "part", .noat "DeedCode" "rows", .noat "DeedCode" "text", .glo "HeldError", .free "TypeError", .free "ValueError", .free "int", .free "isinstance", .free "len", .free "list", .free "min", .free "range", .free "str", .free "sum", .free "tuple", .glo "DEED_KINDS"]
def fa3 : List He.Fa := [.glo "ID_NAMES", .glo "PLACE_NAMES", .glo "OUTCOMES", .glo "ONCE", .int "MOST_DEED_LINES" 40, .int "MOST_STEPS" 8]
abbrev fa : List He.Fa := fa0 ++ fa1 ++ fa2 ++ fa3
def e_BadKind : ErrD := ⟨"BadKind", ["kind"], "BadKind.__init__", defArgs s_BadKind_init, defBody s_BadKind_init, defScope s_BadKind_init⟩
def e_BadLine : ErrD := ⟨"BadLine", ["line"], "BadLine.__init__", defArgs s_BadLine_init, defBody s_BadLine_init, defScope s_BadLine_init⟩
def e_Refused : ErrD := ⟨"Refused", ["line"], "Refused.__init__", defArgs s_Refused_init, defBody s_Refused_init, defScope s_Refused_init⟩
def e_TooMany : ErrD := ⟨"TooMany", ["what", "many", "most"], "TooMany.__init__", defArgs s_TooMany_init, defBody s_TooMany_init, defScope s_TooMany_init⟩
def er : List ErrD := [e_BadKind, e_BadLine, e_Refused, e_TooMany]
def u_DeedCode : ErrD := ⟨"DeedCode", [], "DeedCode.__init__", defArgs s_DeedCode_init, defBody s_DeedCode_init, defScope s_DeedCode_init⟩
theorem s_u_DeedCode : SupS P0 "DeedCode.__init__" s_DeedCode_init ["self", "kind", "text", "__class__", "rows"] ["self", "kind", "text"] := ⟨rfl, NdefX.nscope_by (by decide +kernel), rfl, ⟨rfl, _, rfl, rfl⟩, ⟨_, _, _, _, _, rfl, fun env => ⟨⟨_, rfl⟩, rfl, rfl⟩⟩, fun cc c doc pm ctv us hl => match us, hl with | [_, _, _], _ => rfl⟩
def su : List ErrD := [u_DeedCode]
def tabs : List (Str × List Str) := [("OUTCOMES", ["find", "look", "lay", "give", "free", "strike", "stretch"])]
def file : Str := P0.main.file
def exL (K : PySem.W.Frag) : List Bool := [
  supB K file "DeedCode" "CodeText" "DeedCode.__init__",
  eqO (PySem.W.findIn K (.ref (He.ga K "CodeText")) "__ne__") (some (some (.builtin "object.__ne__"))),
  HeE.okO (PySem.W.mroIn K (He.ga K "CodeText") (.type "object")) (some true),
  eqO (PySem.W.findIn K (.ref (He.ga K "CodeText")) "__class__") (some (some (.builtin "object.__class__"))),
  eqO (PySem.W.findIn K (.ref (He.ga K "DeedCode")) "__ne__") (some (some (.builtin "object.__ne__"))),
  HeE.okO (PySem.W.mroIn K (He.ga K "DeedCode") (.type "object")) (some true),
  eqO (PySem.W.findIn K (.ref (He.ga K "DeedCode")) "__class__") (some (some (.builtin "object.__class__"))),
  HeE.okO (PySem.W.kitOne K (.ref (He.ga K "DeedCode")) (.ref (He.ga K "CodeText"))) (some true),
  eqO (PySem.W.specialIn K (.builtin "object.__class__") "__get__") (some (some (.builtin "getset_descriptor.__get__"))),
  HeE.okO (PySem.W.takesIn K (.builtin "object.__class__")) (some true),
  HeE.okO (PySem.W.exmOne K (.ref (He.ga K "BadKind")) (.ref (He.ga K "BadKind"))) (some true),
  HeE.okO (PySem.W.exmOne K (.ref (He.ga K "BadKind")) (.ref (He.ga K "BadLine"))) (some false),
  HeE.okO (PySem.W.exmOne K (.ref (He.ga K "BadKind")) (.ref (He.ga K "Refused"))) (some false),
  HeE.okO (PySem.W.exmOne K (.ref (He.ga K "BadKind")) (.ref (He.ga K "TooMany"))) (some false),
  HeE.okO (PySem.W.exmOne K (.ref (He.ga K "BadLine")) (.ref (He.ga K "BadKind"))) (some false),
  HeE.okO (PySem.W.exmOne K (.ref (He.ga K "BadLine")) (.ref (He.ga K "BadLine"))) (some true),
  HeE.okO (PySem.W.exmOne K (.ref (He.ga K "BadLine")) (.ref (He.ga K "Refused"))) (some false),
  HeE.okO (PySem.W.exmOne K (.ref (He.ga K "BadLine")) (.ref (He.ga K "TooMany"))) (some false),
  HeE.okO (PySem.W.exmOne K (.ref (He.ga K "Refused")) (.ref (He.ga K "BadKind"))) (some false),
  HeE.okO (PySem.W.exmOne K (.ref (He.ga K "Refused")) (.ref (He.ga K "BadLine"))) (some false),
  HeE.okO (PySem.W.exmOne K (.ref (He.ga K "Refused")) (.ref (He.ga K "Refused"))) (some true),
  HeE.okO (PySem.W.exmOne K (.ref (He.ga K "Refused")) (.ref (He.ga K "TooMany"))) (some false),
  HeE.okO (PySem.W.exmOne K (.ref (He.ga K "TooMany")) (.ref (He.ga K "BadKind"))) (some false),
  HeE.okO (PySem.W.exmOne K (.ref (He.ga K "TooMany")) (.ref (He.ga K "BadLine"))) (some false),
  HeE.okO (PySem.W.exmOne K (.ref (He.ga K "TooMany")) (.ref (He.ga K "Refused"))) (some false),
  HeE.okO (PySem.W.exmOne K (.ref (He.ga K "TooMany")) (.ref (He.ga K "TooMany"))) (some true),
  tupB K "DEED_KINDS" [.str "enter", .str "leave", .str "change"],
  tupB K "ID_NAMES" [.str "h", .str "i"],
  tupB K "PLACE_NAMES" [.str "p", .str "q"],
  tvB K "OUTCOMES" "find" ["there", "none"],
  tvB K "OUTCOMES" "look" ["held", "stale"],
  tvB K "OUTCOMES" "lay" ["laid", "full"],
  tvB K "OUTCOMES" "give" ["given", "out"],
  tvB K "OUTCOMES" "free" ["freed", "unlent"],
  tvB K "OUTCOMES" "strike" ["struck", "bare"],
  tvB K "OUTCOMES" "stretch" ["stretched", "full", "bare"],
  tupB K "ONCE" [.str "lay", .str "stretch", .str "give"]]
def ex (K : PySem.W.Frag) : Bool := (exL K).all id
theorem s_e_BadKind : ErrS P0 e_BadKind := ⟨rfl, by decide +kernel, by decide +kernel, by decide +kernel, by decide +kernel, by decide, rfl, ⟨_, rfl, rfl⟩, ⟨_, _, _, _, _, _, _, _, [⟨"kind", _, _, _, _⟩], rfl, rfl, fun env => ⟨_, rfl⟩⟩, fun kV doc pm an cda ct cc self us hl => match us, hl with | [_], _ => rfl⟩
theorem s_e_BadLine : ErrS P0 e_BadLine := ⟨rfl, by decide +kernel, by decide +kernel, by decide +kernel, by decide +kernel, by decide, rfl, ⟨_, rfl, rfl⟩, ⟨_, _, _, _, _, _, _, _, [⟨"line", _, _, _, _⟩], rfl, rfl, fun env => ⟨_, rfl⟩⟩, fun kV doc pm an cda ct cc self us hl => match us, hl with | [_], _ => rfl⟩
theorem s_e_Refused : ErrS P0 e_Refused := ⟨rfl, by decide +kernel, by decide +kernel, by decide +kernel, by decide +kernel, by decide, rfl, ⟨_, rfl, rfl⟩, ⟨_, _, _, _, _, _, _, _, [⟨"line", _, _, _, _⟩], rfl, rfl, fun env => ⟨_, rfl⟩⟩, fun kV doc pm an cda ct cc self us hl => match us, hl with | [_], _ => rfl⟩
theorem s_e_TooMany : ErrS P0 e_TooMany := ⟨rfl, by decide +kernel, by decide +kernel, by decide +kernel, by decide +kernel, by decide, rfl, ⟨_, rfl, rfl⟩, ⟨_, _, _, _, _, _, _, _, [⟨"what", _, _, _, _⟩, ⟨"many", _, _, _, _⟩, ⟨"most", _, _, _, _⟩], rfl, rfl, fun env => ⟨_, rfl⟩⟩, fun kV doc pm an cda ct cc self us hl => match us, hl with | [_, _, _], _ => rfl⟩
abbrev R : PySem.W.OpenRow := PySem.W.OpenLaw.row PySem.Challenge.rw_heldplaces_k59_deeds_made_and_refused
abbrev hk : PySem.W.Hook := hookF file 5 fa fn er su tabs ex
def ob (s : PySem.W.SharedT) : AlF := obsF file fa fn er su tabs ex (HandSHeadRun.getT s) (frE (HandSHeadRun.getT s) 5)
theorem ob_eq (s : PySem.W.SharedT) : ob s = hk.obs s.abs := obsF_eq (HandSHeadRun.getT_eq s)
def names0 : List PySem.Str := ["HeldError", "BadKind", "BadLine", "Refused", "TooMany", "CodeText", "DEED_KINDS", "ID_NAMES", "PLACE_NAMES", "OUTCOMES", "ONCE", "MOST_DEED_LINES", "MOST_STEPS", "step_of", "plain_row", "DeedReader", "count_steps", "deed_ways", "ways_behind", "need_deed_limits", "unfit_lines", "DeedCode", "_law_bag", "_law_draw", "_law_outcomes"]
def names1 : List PySem.Str := ["_law_step", "_law_found", "_law_laid", "_law_gone", "_law_base", "_law_lists", "_law_other", "_law_slip", "_law_written", "_law_drawn", "_law_tried", "_law_odd_line", "_law_lines_right", "_law_once_right"]
abbrev names : List PySem.Str := names0 ++ names1
theorem tx {w : World} {h : Heap} {K : PySem.W.Frag} {mg : Str → Option Value} (X : K.In h) (G : h.Ns mainGlobals mg) (c : SaysF file fa fn er su tabs ex w h K) : Tx P0 w K mg where
  mk_CodeText := by
    obtain ⟨fd, F⟩ := c.fn h_CodeText_init (by simp [fn, fn0, fn1])
    exact ⟨_, fd, glo_ok X G (c.fa (.glo "CodeText") (by simp [fa, fa0, fa1, fa2, fa3])), mkr_ok (c.fa (.mkr "CodeText") (by simp [fa, fa0, fa1, fa2, fa3])), F⟩
  m_CodeText_same := by
    obtain ⟨fd, F⟩ := c.fn h_CodeText_same (by simp [fn, fn0, fn1])
    exact ⟨_, fd, cls_ok (c.fa (.cls "CodeText") (by simp [fa, fa0, fa1, fa2, fa3])), meth_ok (c.fa (.meth "CodeText" "same") (by simp [fa, fa0, fa1, fa2, fa3])), F⟩
  m_CodeText_len := by
    obtain ⟨fd, F⟩ := c.fn h_CodeText_len (by simp [fn, fn0, fn1])
    exact ⟨_, fd, cls_ok (c.fa (.cls "CodeText") (by simp [fa, fa0, fa1, fa2, fa3])), meth_ok (c.fa (.meth "CodeText" "__len__") (by simp [fa, fa0, fa1, fa2, fa3])), F⟩
  m_CodeText_iter := by
    obtain ⟨fd, F⟩ := c.fn h_CodeText_iter (by simp [fn, fn0, fn1])
    exact ⟨_, fd, cls_ok (c.fa (.cls "CodeText") (by simp [fa, fa0, fa1, fa2, fa3])), meth_ok (c.fa (.meth "CodeText" "__iter__") (by simp [fa, fa0, fa1, fa2, fa3])), F⟩
  m_CodeText_getitem := by
    obtain ⟨fd, F⟩ := c.fn h_CodeText_getitem (by simp [fn, fn0, fn1])
    exact ⟨_, fd, cls_ok (c.fa (.cls "CodeText") (by simp [fa, fa0, fa1, fa2, fa3])), meth_ok (c.fa (.meth "CodeText" "__getitem__") (by simp [fa, fa0, fa1, fa2, fa3])), F⟩
  m_CodeText_eq := by
    obtain ⟨fd, F⟩ := c.fn h_CodeText_eq (by simp [fn, fn0, fn1])
    exact ⟨_, fd, cls_ok (c.fa (.cls "CodeText") (by simp [fa, fa0, fa1, fa2, fa3])), meth_ok (c.fa (.meth "CodeText" "__eq__") (by simp [fa, fa0, fa1, fa2, fa3])), F⟩
  d_step_of := by
    obtain ⟨fd, F⟩ := c.fn h_step_of (by simp [fn, fn0, fn1])
    exact ⟨_, fd, glo_ok X G (c.fa (.glo "step_of") (by simp [fa, fa0, fa1, fa2, fa3])), F⟩
  d_plain_row := by
    obtain ⟨fd, F⟩ := c.fn h_plain_row (by simp [fn, fn0, fn1])
    exact ⟨_, fd, glo_ok X G (c.fa (.glo "plain_row") (by simp [fa, fa0, fa1, fa2, fa3])), F⟩
  mk_DeedReader := by
    obtain ⟨fd, F⟩ := c.fn h_DeedReader_init (by simp [fn, fn0, fn1])
    exact ⟨_, fd, glo_ok X G (c.fa (.glo "DeedReader") (by simp [fa, fa0, fa1, fa2, fa3])), mkr_ok (c.fa (.mkr "DeedReader") (by simp [fa, fa0, fa1, fa2, fa3])), F⟩
  m_DeedReader_words := by
    obtain ⟨fd, F⟩ := c.fn h_DeedReader_words (by simp [fn, fn0, fn1])
    exact ⟨_, fd, cls_ok (c.fa (.cls "DeedReader") (by simp [fa, fa0, fa1, fa2, fa3])), meth_ok (c.fa (.meth "DeedReader" "words") (by simp [fa, fa0, fa1, fa2, fa3])), F⟩
  m_DeedReader_read_rows := by
    obtain ⟨fd, F⟩ := c.fn h_DeedReader_read_rows (by simp [fn, fn0, fn1])
    exact ⟨_, fd, cls_ok (c.fa (.cls "DeedReader") (by simp [fa, fa0, fa1, fa2, fa3])), meth_ok (c.fa (.meth "DeedReader" "read_rows") (by simp [fa, fa0, fa1, fa2, fa3])), F⟩
  m_DeedReader_read_row := by
    obtain ⟨fd, F⟩ := c.fn h_DeedReader_read_row (by simp [fn, fn0, fn1])
    exact ⟨_, fd, cls_ok (c.fa (.cls "DeedReader") (by simp [fa, fa0, fa1, fa2, fa3])), meth_ok (c.fa (.meth "DeedReader" "read_row") (by simp [fa, fa0, fa1, fa2, fa3])), F⟩
  m_DeedReader_blocks := by
    obtain ⟨fd, F⟩ := c.fn h_DeedReader_blocks (by simp [fn, fn0, fn1])
    exact ⟨_, fd, cls_ok (c.fa (.cls "DeedReader") (by simp [fa, fa0, fa1, fa2, fa3])), meth_ok (c.fa (.meth "DeedReader" "blocks") (by simp [fa, fa0, fa1, fa2, fa3])), F⟩
  m_DeedReader_begins_block := by
    obtain ⟨fd, F⟩ := c.fn h_DeedReader_begins_block (by simp [fn, fn0, fn1])
    exact ⟨_, fd, cls_ok (c.fa (.cls "DeedReader") (by simp [fa, fa0, fa1, fa2, fa3])), meth_ok (c.fa (.meth "DeedReader" "begins_block") (by simp [fa, fa0, fa1, fa2, fa3])), F⟩
  d_count_steps := by
    obtain ⟨fd, F⟩ := c.fn h_count_steps (by simp [fn, fn0, fn1])
    exact ⟨_, fd, glo_ok X G (c.fa (.glo "count_steps") (by simp [fa, fa0, fa1, fa2, fa3])), F⟩
  d_deed_ways := by
    obtain ⟨fd, F⟩ := c.fn h_deed_ways (by simp [fn, fn0, fn1])
    exact ⟨_, fd, glo_ok X G (c.fa (.glo "deed_ways") (by simp [fa, fa0, fa1, fa2, fa3])), F⟩
  d_ways_behind := by
    obtain ⟨fd, F⟩ := c.fn h_ways_behind (by simp [fn, fn0, fn1])
    exact ⟨_, fd, glo_ok X G (c.fa (.glo "ways_behind") (by simp [fa, fa0, fa1, fa2, fa3])), F⟩
  d_need_deed_limits := by
    obtain ⟨fd, F⟩ := c.fn h_need_deed_limits (by simp [fn, fn0, fn1])
    exact ⟨_, fd, glo_ok X G (c.fa (.glo "need_deed_limits") (by simp [fa, fa0, fa1, fa2, fa3])), F⟩
  d_unfit_lines := by
    obtain ⟨fd, F⟩ := c.fn h_unfit_lines (by simp [fn, fn0, fn1])
    exact ⟨_, fd, glo_ok X G (c.fa (.glo "unfit_lines") (by simp [fa, fa0, fa1, fa2, fa3])), F⟩
  d_l_bag := by
    obtain ⟨fd, F⟩ := c.fn h_l_bag (by simp [fn, fn0, fn1])
    exact ⟨_, fd, glo_ok X G (c.fa (.glo "_law_bag") (by simp [fa, fa0, fa1, fa2, fa3])), F⟩
  d_l_draw := by
    obtain ⟨fd, F⟩ := c.fn h_l_draw (by simp [fn, fn0, fn1])
    exact ⟨_, fd, glo_ok X G (c.fa (.glo "_law_draw") (by simp [fa, fa0, fa1, fa2, fa3])), F⟩
  d_l_outcomes := by
    obtain ⟨fd, F⟩ := c.fn h_l_outcomes (by simp [fn, fn0, fn1])
    exact ⟨_, fd, glo_ok X G (c.fa (.glo "_law_outcomes") (by simp [fa, fa0, fa1, fa2, fa3])), F⟩
  d_l_step := by
    obtain ⟨fd, F⟩ := c.fn h_l_step (by simp [fn, fn0, fn1])
    exact ⟨_, fd, glo_ok X G (c.fa (.glo "_law_step") (by simp [fa, fa0, fa1, fa2, fa3])), F⟩
  d_l_found := by
    obtain ⟨fd, F⟩ := c.fn h_l_found (by simp [fn, fn0, fn1])
    exact ⟨_, fd, glo_ok X G (c.fa (.glo "_law_found") (by simp [fa, fa0, fa1, fa2, fa3])), F⟩
  d_l_laid := by
    obtain ⟨fd, F⟩ := c.fn h_l_laid (by simp [fn, fn0, fn1])
    exact ⟨_, fd, glo_ok X G (c.fa (.glo "_law_laid") (by simp [fa, fa0, fa1, fa2, fa3])), F⟩
  d_l_gone := by
    obtain ⟨fd, F⟩ := c.fn h_l_gone (by simp [fn, fn0, fn1])
    exact ⟨_, fd, glo_ok X G (c.fa (.glo "_law_gone") (by simp [fa, fa0, fa1, fa2, fa3])), F⟩
  d_l_base := by
    obtain ⟨fd, F⟩ := c.fn h_l_base (by simp [fn, fn0, fn1])
    exact ⟨_, fd, glo_ok X G (c.fa (.glo "_law_base") (by simp [fa, fa0, fa1, fa2, fa3])), F⟩
  d_l_lists := by
    obtain ⟨fd, F⟩ := c.fn h_l_lists (by simp [fn, fn0, fn1])
    exact ⟨_, fd, glo_ok X G (c.fa (.glo "_law_lists") (by simp [fa, fa0, fa1, fa2, fa3])), F⟩
  d_l_other := by
    obtain ⟨fd, F⟩ := c.fn h_l_other (by simp [fn, fn0, fn1])
    exact ⟨_, fd, glo_ok X G (c.fa (.glo "_law_other") (by simp [fa, fa0, fa1, fa2, fa3])), F⟩
  d_l_slip := by
    obtain ⟨fd, F⟩ := c.fn h_l_slip (by simp [fn, fn0, fn1])
    exact ⟨_, fd, glo_ok X G (c.fa (.glo "_law_slip") (by simp [fa, fa0, fa1, fa2, fa3])), F⟩
  d_l_written := by
    obtain ⟨fd, F⟩ := c.fn h_l_written (by simp [fn, fn0, fn1])
    exact ⟨_, fd, glo_ok X G (c.fa (.glo "_law_written") (by simp [fa, fa0, fa1, fa2, fa3])), F⟩
  d_l_drawn := by
    obtain ⟨fd, F⟩ := c.fn h_l_drawn (by simp [fn, fn0, fn1])
    exact ⟨_, fd, glo_ok X G (c.fa (.glo "_law_drawn") (by simp [fa, fa0, fa1, fa2, fa3])), F⟩
  d_l_tried := by
    obtain ⟨fd, F⟩ := c.fn h_l_tried (by simp [fn, fn0, fn1])
    exact ⟨_, fd, glo_ok X G (c.fa (.glo "_law_tried") (by simp [fa, fa0, fa1, fa2, fa3])), F⟩
  d_l_odd_line := by
    obtain ⟨fd, F⟩ := c.fn h_l_odd_line (by simp [fn, fn0, fn1])
    exact ⟨_, fd, glo_ok X G (c.fa (.glo "_law_odd_line") (by simp [fa, fa0, fa1, fa2, fa3])), F⟩
  d_l_lines_right := by
    obtain ⟨fd, F⟩ := c.fn h_l_lines_right (by simp [fn, fn0, fn1])
    exact ⟨_, fd, glo_ok X G (c.fa (.glo "_law_lines_right") (by simp [fa, fa0, fa1, fa2, fa3])), F⟩
  d_l_once_right := by
    obtain ⟨fd, F⟩ := c.fn h_l_once_right (by simp [fn, fn0, fn1])
    exact ⟨_, fd, glo_ok X G (c.fa (.glo "_law_once_right") (by simp [fa, fa0, fa1, fa2, fa3])), F⟩
  d_law := by
    obtain ⟨fd, F⟩ := c.fn h_law (by simp [fn, fn0, fn1])
    exact ⟨_, fd, glo_ok X G (c.fa (.glo "law") (by simp [fa, fa0, fa1, fa2, fa3])), F⟩
  m_DeedCode_same := by
    obtain ⟨fd, F⟩ := c.fn h_DeedCode_same (by simp [fn, fn0, fn1])
    exact ⟨_, fd, cls_ok (c.fa (.cls "DeedCode") (by simp [fa, fa0, fa1, fa2, fa3])), meth_ok (c.fa (.meth "DeedCode" "same") (by simp [fa, fa0, fa1, fa2, fa3])), F⟩
  m_DeedCode_len := by
    obtain ⟨fd, F⟩ := c.fn h_DeedCode_len (by simp [fn, fn0, fn1])
    exact ⟨_, fd, cls_ok (c.fa (.cls "DeedCode") (by simp [fa, fa0, fa1, fa2, fa3])), meth_ok (c.fa (.meth "DeedCode" "__len__") (by simp [fa, fa0, fa1, fa2, fa3])), F⟩
  m_DeedCode_iter := by
    obtain ⟨fd, F⟩ := c.fn h_DeedCode_iter (by simp [fn, fn0, fn1])
    exact ⟨_, fd, cls_ok (c.fa (.cls "DeedCode") (by simp [fa, fa0, fa1, fa2, fa3])), meth_ok (c.fa (.meth "DeedCode" "__iter__") (by simp [fa, fa0, fa1, fa2, fa3])), F⟩
  m_DeedCode_getitem := by
    obtain ⟨fd, F⟩ := c.fn h_DeedCode_getitem (by simp [fn, fn0, fn1])
    exact ⟨_, fd, cls_ok (c.fa (.cls "DeedCode") (by simp [fa, fa0, fa1, fa2, fa3])), meth_ok (c.fa (.meth "DeedCode" "__getitem__") (by simp [fa, fa0, fa1, fa2, fa3])), F⟩
  m_DeedCode_eq := by
    obtain ⟨fd, F⟩ := c.fn h_DeedCode_eq (by simp [fn, fn0, fn1])
    exact ⟨_, fd, cls_ok (c.fa (.cls "DeedCode") (by simp [fa, fa0, fa1, fa2, fa3])), meth_ok (c.fa (.meth "DeedCode" "__eq__") (by simp [fa, fa0, fa1, fa2, fa3])), F⟩
  sup_DeedCode := by
    obtain ⟨fd0, F0⟩ := c.fn h_CodeText_init (by simp [fn, fn0, fn1])
    exact supD_of (prog := P0) (y := "CodeText") (HeE.all_at c.more 0) (c.su u_DeedCode (by simp [su])) s_u_DeedCode (mkr_ok (c.fa (.mkr "DeedCode") (by simp [fa, fa0, fa1, fa2, fa3]))) F0
  ne_CodeText := eqO_ok (HeE.all_at c.more 1)
  cm_CodeText := of_decide_eq_true (HeE.all_at c.more 2)
  ca_CodeText := eqO_ok (HeE.all_at c.more 3)
  ne_DeedCode := eqO_ok (HeE.all_at c.more 4)
  cm_DeedCode := of_decide_eq_true (HeE.all_at c.more 5)
  ca_DeedCode := eqO_ok (HeE.all_at c.more 6)
  kc_DeedCode := of_decide_eq_true (HeE.all_at c.more 7)
  cn_obj := eqO_ok (HeE.all_at c.more 8)
  ct_obj := of_decide_eq_true (HeE.all_at c.more 9)
  x_BadKind_BadKind := of_decide_eq_true (HeE.all_at c.more 10)
  x_BadKind_BadLine := of_decide_eq_true (HeE.all_at c.more 11)
  x_BadKind_Refused := of_decide_eq_true (HeE.all_at c.more 12)
  x_BadKind_TooMany := of_decide_eq_true (HeE.all_at c.more 13)
  x_BadLine_BadKind := of_decide_eq_true (HeE.all_at c.more 14)
  x_BadLine_BadLine := of_decide_eq_true (HeE.all_at c.more 15)
  x_BadLine_Refused := of_decide_eq_true (HeE.all_at c.more 16)
  x_BadLine_TooMany := of_decide_eq_true (HeE.all_at c.more 17)
  x_Refused_BadKind := of_decide_eq_true (HeE.all_at c.more 18)
  x_Refused_BadLine := of_decide_eq_true (HeE.all_at c.more 19)
  x_Refused_Refused := of_decide_eq_true (HeE.all_at c.more 20)
  x_Refused_TooMany := of_decide_eq_true (HeE.all_at c.more 21)
  x_TooMany_BadKind := of_decide_eq_true (HeE.all_at c.more 22)
  x_TooMany_BadLine := of_decide_eq_true (HeE.all_at c.more 23)
  x_TooMany_Refused := of_decide_eq_true (HeE.all_at c.more 24)
  x_TooMany_TooMany := of_decide_eq_true (HeE.all_at c.more 25)
  cl_CodeText := cls_ok (c.fa (.cls "CodeText") (by simp [fa, fa0, fa1, fa2, fa3]))
  g_CodeText := glo_ok X G (c.fa (.glo "CodeText") (by simp [fa, fa0, fa1, fa2, fa3]))
  na_CodeText_kind := noat_ok (c.fa (.noat "CodeText" "kind") (by simp [fa, fa0, fa1, fa2, fa3]))
  na_CodeText_own_lines := noat_ok (c.fa (.noat "CodeText" "own_lines") (by simp [fa, fa0, fa1, fa2, fa3]))
  na_CodeText_own_tables := noat_ok (c.fa (.noat "CodeText" "own_tables") (by simp [fa, fa0, fa1, fa2, fa3]))
  na_CodeText_part := noat_ok (c.fa (.noat "CodeText" "part") (by simp [fa, fa0, fa1, fa2, fa3]))
  na_CodeText_text := noat_ok (c.fa (.noat "CodeText" "text") (by simp [fa, fa0, fa1, fa2, fa3]))
  cl_DeedReader := cls_ok (c.fa (.cls "DeedReader") (by simp [fa, fa0, fa1, fa2, fa3]))
  g_DeedReader := glo_ok X G (c.fa (.glo "DeedReader") (by simp [fa, fa0, fa1, fa2, fa3]))
  na_DeedReader_line := noat_ok (c.fa (.noat "DeedReader" "line") (by simp [fa, fa0, fa1, fa2, fa3]))
  na_DeedReader_texts := noat_ok (c.fa (.noat "DeedReader" "texts") (by simp [fa, fa0, fa1, fa2, fa3]))
  cl_DeedCode := cls_ok (c.fa (.cls "DeedCode") (by simp [fa, fa0, fa1, fa2, fa3]))
  g_DeedCode := glo_ok X G (c.fa (.glo "DeedCode") (by simp [fa, fa0, fa1, fa2, fa3]))
  na_DeedCode_kind := noat_ok (c.fa (.noat "DeedCode" "kind") (by simp [fa, fa0, fa1, fa2, fa3]))
  na_DeedCode_own_lines := noat_ok (c.fa (.noat "DeedCode" "own_lines") (by simp [fa, fa0, fa1, fa2, fa3]))
  na_DeedCode_own_tables := noat_ok (c.fa (.noat "DeedCode" "own_tables") (by simp [fa, fa0, fa1, fa2, fa3]))
  na_DeedCode_part := noat_ok (c.fa (.noat "DeedCode" "part") (by simp [fa, fa0, fa1, fa2, fa3]))
  na_DeedCode_rows := noat_ok (c.fa (.noat "DeedCode" "rows") (by simp [fa, fa0, fa1, fa2, fa3]))
  na_DeedCode_text := noat_ok (c.fa (.noat "DeedCode" "text") (by simp [fa, fa0, fa1, fa2, fa3]))
  g_HeldError := glo_ok X G (c.fa (.glo "HeldError") (by simp [fa, fa0, fa1, fa2, fa3]))
  e_BadKind := errTxt (c.er e_BadKind (by simp [er])).1 (c.er e_BadKind (by simp [er])).2 s_e_BadKind
  g_BadKind := errG X G (c.er e_BadKind (by simp [er])).1
  k_BadKind := errK (prog := P0) (c.er e_BadKind (by simp [er])).1
  e_BadLine := errTxt (c.er e_BadLine (by simp [er])).1 (c.er e_BadLine (by simp [er])).2 s_e_BadLine
  g_BadLine := errG X G (c.er e_BadLine (by simp [er])).1
  k_BadLine := errK (prog := P0) (c.er e_BadLine (by simp [er])).1
  e_Refused := errTxt (c.er e_Refused (by simp [er])).1 (c.er e_Refused (by simp [er])).2 s_e_Refused
  g_Refused := errG X G (c.er e_Refused (by simp [er])).1
  k_Refused := errK (prog := P0) (c.er e_Refused (by simp [er])).1
  e_TooMany := errTxt (c.er e_TooMany (by simp [er])).1 (c.er e_TooMany (by simp [er])).2 s_e_TooMany
  g_TooMany := errG X G (c.er e_TooMany (by simp [er])).1
  k_TooMany := errK (prog := P0) (c.er e_TooMany (by simp [er])).1
  b_TypeError := free_ok X G (c.fa (.free "TypeError") (by simp [fa, fa0, fa1, fa2, fa3]))
  b_ValueError := free_ok X G (c.fa (.free "ValueError") (by simp [fa, fa0, fa1, fa2, fa3]))
  b_int := free_ok X G (c.fa (.free "int") (by simp [fa, fa0, fa1, fa2, fa3]))
  b_isinstance := free_ok X G (c.fa (.free "isinstance") (by simp [fa, fa0, fa1, fa2, fa3]))
  b_len := free_ok X G (c.fa (.free "len") (by simp [fa, fa0, fa1, fa2, fa3]))
  b_list := free_ok X G (c.fa (.free "list") (by simp [fa, fa0, fa1, fa2, fa3]))
  b_min := free_ok X G (c.fa (.free "min") (by simp [fa, fa0, fa1, fa2, fa3]))
  b_range := free_ok X G (c.fa (.free "range") (by simp [fa, fa0, fa1, fa2, fa3]))
  b_str := free_ok X G (c.fa (.free "str") (by simp [fa, fa0, fa1, fa2, fa3]))
  b_sum := free_ok X G (c.fa (.free "sum") (by simp [fa, fa0, fa1, fa2, fa3]))
  b_tuple := free_ok X G (c.fa (.free "tuple") (by simp [fa, fa0, fa1, fa2, fa3]))
  g_DEED_KINDS := glo_ok X G (c.fa (.glo "DEED_KINDS") (by simp [fa, fa0, fa1, fa2, fa3]))
  t_DEED_KINDS := tupB_ok (vs := [.str "enter", .str "leave", .str "change"]) (HeE.all_at c.more 26)
  g_ID_NAMES := glo_ok X G (c.fa (.glo "ID_NAMES") (by simp [fa, fa0, fa1, fa2, fa3]))
  t_ID_NAMES := tupB_ok (vs := [.str "h", .str "i"]) (HeE.all_at c.more 27)
  g_PLACE_NAMES := glo_ok X G (c.fa (.glo "PLACE_NAMES") (by simp [fa, fa0, fa1, fa2, fa3]))
  t_PLACE_NAMES := tupB_ok (vs := [.str "p", .str "q"]) (HeE.all_at c.more 28)
  g_OUTCOMES := glo_ok X G (c.fa (.glo "OUTCOMES") (by simp [fa, fa0, fa1, fa2, fa3]))
  k_OUTCOMES_find := tvB_ok (zs := ["there", "none"]) (c.ts ("OUTCOMES", ["find", "look", "lay", "give", "free", "strike", "stretch"]) (by simp [tabs])) (HeE.all_at c.more 29)
  k_OUTCOMES_look := tvB_ok (zs := ["held", "stale"]) (c.ts ("OUTCOMES", ["find", "look", "lay", "give", "free", "strike", "stretch"]) (by simp [tabs])) (HeE.all_at c.more 30)
  k_OUTCOMES_lay := tvB_ok (zs := ["laid", "full"]) (c.ts ("OUTCOMES", ["find", "look", "lay", "give", "free", "strike", "stretch"]) (by simp [tabs])) (HeE.all_at c.more 31)
  k_OUTCOMES_give := tvB_ok (zs := ["given", "out"]) (c.ts ("OUTCOMES", ["find", "look", "lay", "give", "free", "strike", "stretch"]) (by simp [tabs])) (HeE.all_at c.more 32)
  k_OUTCOMES_free := tvB_ok (zs := ["freed", "unlent"]) (c.ts ("OUTCOMES", ["find", "look", "lay", "give", "free", "strike", "stretch"]) (by simp [tabs])) (HeE.all_at c.more 33)
  k_OUTCOMES_strike := tvB_ok (zs := ["struck", "bare"]) (c.ts ("OUTCOMES", ["find", "look", "lay", "give", "free", "strike", "stretch"]) (by simp [tabs])) (HeE.all_at c.more 34)
  k_OUTCOMES_stretch := tvB_ok (zs := ["stretched", "full", "bare"]) (c.ts ("OUTCOMES", ["find", "look", "lay", "give", "free", "strike", "stretch"]) (by simp [tabs])) (HeE.all_at c.more 35)
  g_ONCE := glo_ok X G (c.fa (.glo "ONCE") (by simp [fa, fa0, fa1, fa2, fa3]))
  t_ONCE := tupB_ok (vs := [.str "lay", .str "stretch", .str "give"]) (HeE.all_at c.more 36)
  c_MOST_DEED_LINES := int_ok X G (c.fa (.int "MOST_DEED_LINES" 40) (by simp [fa, fa0, fa1, fa2, fa3]))
  c_MOST_STEPS := int_ok X G (c.fa (.int "MOST_STEPS" 8) (by simp [fa, fa0, fa1, fa2, fa3]))
def runP (w : World) : Prop := HandSHeadRun.RunEq R (PySem.W.view R.prog [43]) hk ob 40000 names w
theorem run_f (w : World) : runP (w.withFollow "special-get-raises" false) := by
  intro os
  kernel_rfl
theorem run_t (w : World) : runP (w.withFollow "special-get-raises" true) := by
  intro os
  kernel_rfl
theorem run (w : World) : runP w := PySem.W.byRow2 "special-get-raises" (P := runP) run_f run_t w
end K59


set_option Elab.async false
set_option linter.all false
set_option maxRecDepth 100000
set_option maxHeartbeats 0
namespace K59
open PySem PySem.Spec PyProof.Rows L2 He HeE
theorem facts {w : World} {h : Heap} {mg : Str → Option Value} {f : Addr} (hfa : mg ("law" : Str) = some (.ref f)) (G : h.Ns mainGlobals mg) (Y : hk.says w h) :
    ∃ K : PySem.W.Frag, K.In h ∧ LamX.LawAtS PySem.Challenge.rw_heldplaces_k59_deeds_made_and_refused w K CX0 140 63 "_law_script" mg f h := by
  obtain ⟨K, X, c⟩ := Y
  obtain ⟨fd, F⟩ := c.fn h_law (by simp [fn, fn0, fn1])
  have e := hfa.symm.trans (glo_ok X G (c.fa (.glo "law") (by simp [fa, fa0, fa1, fa2, fa3])))
  cases e
  have b := FunD.bindsA (ps := ["_law_script"]) F fun _ _ _ _ _ _ us hl => match us, hl with | [_], _ => rfl
  have T := tx X G c
  exact ⟨K, X, fd, [], spLaw K, (fun p hp => by cases hp), (fun p hp => by cases hp), (fun p hp => by cases hp), fun s u => b s [u] rfl, fun H a ns hl _ ht hs => ⟨a, ns, rfl, hs, fun _ => rfl⟩, fun base hK hN hT => ok_law T F⟩
end K59
open PySem PySem.W PySem.Calls PyProof.Rows
theorem PySem.Challenge.cw_heldplaces_k59_deeds_made_and_refused_holds : PySem.Challenge.rw_heldplaces_k59_deeds_made_and_refused.Holds := by
  w_on; o_law
  refine HandSHeadRun.head_any (r := OpenLaw.row PySem.Challenge.rw_heldplaces_k59_deeds_made_and_refused) (q := view (OpenLaw.row PySem.Challenge.rw_heldplaces_k59_deeds_made_and_refused).prog [43]) (H := K59.hk) (ob := K59.ob) (M := 40000) (loose := K59.names) (d := HandSHeadRun.topDef (OpenLaw.row PySem.Challenge.rw_heldplaces_k59_deeds_made_and_refused).prog 43) (kwd := []) K59.ob_eq
    (by kernel_rfl) (fun s => by kernel_rfl) (fun w => K59.run w) (by kernel_rfl) (by kernel_rfl) (by kernel_rfl) (by rfl) (by first | assumption | decide +kernel) (by decide +kernel) ⟨rfl, rfl, rfl, rfl, rfl, by decide +kernel⟩ ?hw ?hc
  case hw => w_witness2
  case hc =>
    refine LamX.walk_ofTsE (l := PySem.Challenge.rw_heldplaces_k59_deeds_made_and_refused) (n := 63) (k := 140) (x := "_law_script") (CX := fun _ => L2.CX0) rfl (by decide) (by kernel_rfl) ⟨rfl, by decide, by decide⟩ ?F (fun _ _ _ _ _ z => z)
    intro w mg fa h Y G hmg0
    have hmg : mg ("law" : PySem.Str) = some (.ref fa) := by
      have e : (HandSHeadRun.topDef (OpenLaw.row PySem.Challenge.rw_heldplaces_k59_deeds_made_and_refused).prog 43).name = ("law" : PySem.Str) := by kernel_rfl
      rw [← e]
      exact hmg0
    exact K59.facts hmg G Y

