import PyProof.Rows.All
import Wide.All
import OpenK.AllK
import Wide.FinOn
import PyProof.EqAt
import PyProof.EqKinds
import PyProof.TupleCall
import KE.KExcSuper
import HandS.ForMost
import HandS.ForExc
import HandS.ExcInit
import HandS.TryMany
import KE.KExcIs
import KE.KIsAll
import KE.KTryMore
import HandS.NoneIn
import HandS.Style
import HandS.Flow
import HandS.StrMore
import HandS.IsInst
import HandS.Lambda
import HandS.More
import HandS.Wide
import HandS.Head0
import HandS.Head1
import HandS.Head2
import HandS.HeadEnd
import HandS.HeadHook1
import HandS.HeadHook2
import HandS.HeadHook3
import HandS.HeadHook4
import HandS.HeadWalk
import PyProof.InstNe
import HandS.HotCalls
import HandS.Nested
import KE.KSuper
import HandS.Star
import HandS.DictComp
import HandS.Deep
import PyProof.P3In
import Wide.Once
import HandS.Keys
import KE.KStateDown
import Lean
import HandS.ReplaceLit
import HandS.Sort
import HandS.Iter
import PyProof.NeKinds
import PyProof.AutoSeq1
import HandS.SetFor
import PySem.Challenge.RW_heldplaces_k03_whole_page_limits_by_ways
set_option Elab.async false
set_option linter.all false
set_option maxRecDepth 100000
set_option maxHeartbeats 4000000
/-! Errors of the program: class X(HeldError): def __init__(self, f, ..): super().__init__('..'); self.f = f; .. -/
namespace PySem
namespace ErrX
open PySem.W PySem.Calls PyProof.Rows PySem.HandSPX
/-! ### the text of __init__ -/
structure FldP where
  f : Str
  a : Pos
  b : Pos
  c : Pos
  d : Pos
def setSt (q : FldP) : Stmt := .Assign [.Attribute (.Name "self" q.a) q.f q.b] (.Name q.f q.c) q.d
def supSt (msg : Str) (j : Nat) (p0 p1 p2 p3 p4 p5 : Pos) : Stmt := .Expr (.Call (.Attribute (.Call (.Name "super" p0) [] [] p1) "__init__" p2) [.Constant (.str msg) j p3] [] p4) p5
def supEv (env : Env) (pl : Sem Bool) (msg : Str) (j : Nat) (p0 p1 p2 p3 p4 : Pos) : Prop := eval (.Call (.Attribute (.Call (.Name "super" p0) [] [] p1) "__init__" p2) [.Constant (.str msg) j p3] [] p4) env = (do
      let ov ← attributeBase (.Call (.Name "super" p0) [] [] p1) "__init__" env (eval (.Call (.Name "super" p0) [] [] p1) env)
      standAt p2.atName
      let (f, first) ← holding [ov] (getMethod ov "__init__" pl)
      callWith p4 f first (backTo p4 (starEach [.Constant (.str msg) j p3] env)) [])
def iScope (fs : List Str) : Scope := { kind := .function, names := (PySem.Str.ofString "self", .local) :: (fs.map fun f => (f, .local)) ++ [(PySem.Str.ofString "__class__", .free), (PySem.Str.ofString "super", .globalImplicit)], isGenerator := false, isCoroutine := false, more := [] }
/-- what the written part says of an error's class at C, its fields fs -/
structure ErrTxt (prog : Program) (K : Frag) (fs : List Str) (C : Addr) : Prop where
  cls : ∃ nm q N bs bm sn sub ab col dd k0 k1 k2 k3 k5, K.lookup C = some (excClassObj nm q C N bs bm true sn sub ab col dd k0 k1 k2 k3 k5 "ValueError.__new__") ∧ refsVE bm = true
  sa : findIn K (.ref C) "__setattr__" = some (some (.builtin "object.__setattr__"))
  ga : findIn K (.ref C) "__getattribute__" = some (some (.builtin "BaseException.__getattribute__"))
  gg : findIn K (.ref C) "__getattr__" = some none
  noN : ∀ f ∈ fs, findIn K (.ref C) f = some none
  kC : keepIn K (.ref C) = true
  exC : subIn K (.ref C) (.type "BaseException") = some true
  veC : subIn K (.ref C) (.type "ValueError") = some true
  tyC : typeIn K (.ref C) = some (.type "type")
  hdC : hasDictIn K C = true
  own : mroIn K C (.ref C) = some true
  sup : ks_superIn K C C "__init__" = some (some (.builtin "ValueError.__init__"))
  opq : nsIn K cStatics "thirdparty.any" = some none
  gsup : nsIn K mainGlobals "super" = some none
  topN : (prog.main.scope.names.lookup ("super" : Str)).isSome = false
  kinds : (fs.all fun f => (iScope fs).names.lookup f == some .local && !(f == ("self" : Str))) = true
  dbg : ∀ f ∈ fs, (f == ("__debug__" : Str)) = false
  outs : ("__class__" : Str) ∉ fs ∧ ("super" : Str) ∉ fs
  nd : fs.Nodup
  len : fs.length ≤ 900
  init : ∃ (fI cc cda : Addr) (oc : Value) (od : Option Addr) (qual : Str) (params : Arguments) (body : List Stmt) (kV doc pm : Value) (an : Option Addr) (ct : Value) (osl : Array (Option Value)) (ccl : Value) (cdd : Option Addr) (vs : Array Value) (ccs : Array (Option Value)) (file : Str) (tf : Tok) (cl : Value) (cld : Option Addr) (csl : Array (Option Value)),
    findIn K (.ref C) "__init__" = some (some (.ref fI)) ∧ typeIn K (.ref fI) = some (.type "function") ∧
    K.lookup fI = some ⟨oc, od, .func (ksFn "__init__" qual params body (iScope fs) .none kV doc pm an (.ref cda) ct cc), osl⟩ ∧ codeIn K (.ref cda) qual = true ∧
    K.lookup cda = some ⟨ccl, cdd, .fields vs, ccs⟩ ∧ vs[2]? = some (.str file tf) ∧ ((prog.main.file : Str) == file) = true ∧ K.lookup cc = some ⟨cl, cld, .cell (some (.ref C)), csl⟩ ∧
    (∃ ar, (params.posonlyargs ++ params.args).head? = some ar ∧ ar.arg = "self") ∧
    (∃ msg j p0 p1 p2 p3 p4 p5 ps, body = supSt msg j p0 p1 p2 p3 p4 p5 :: (ps : List FldP).map setSt ∧ ps.map (·.f) = fs ∧ ∀ env, ∃ pl, supEv env pl msg j p0 p1 p2 p3 p4) ∧
    (∀ (self : Value) (us : List Value), us.length = fs.length → bindArgs (ksFn "__init__" qual params body (iScope fs) .none kV doc pm an (.ref cda) ct cc) ⟨self :: us, []⟩ = pure ((("self" : Str), self) :: fs.zip us))
/-- the attributes, the last one set first -/
def mOf : List (Str × Value) → Str → Option Value
  | [], _ => none
  | (f, v) :: r, y => if y = f then some v else mOf r y
/-- an exception of the class at C: its dict, its message's tuple -/
abbrev eO (C t1 : Addr) (d : Option Addr) : Obj := { cls := .ref C, dict := d, data := .fields #[.ref t1, .none, .none, .none, .bool false, .none] }
/-- how the dict lies: none if no field is set -/
def DictOk (h h' : Heap) (e : Addr) : List (Str × Value) → Option Addr → Prop
  | [], d => d = none
  | q :: r, d => ∃ dx, d = some dx ∧ h.objs.size ≤ dx ∧ dx ≠ e ∧ h'.Ns1 dx (mOf (q :: r))
structure ErrEnd (h h' : Heap) (e C : Addr) (fvs : List (Str × Value)) : Prop where
  keep : ∀ b o, b ≠ e → h.get? b = some o → h'.get? b = some o
  obj : ∃ t1 d, h'.get? e = some (eO C t1 d) ∧ DictOk h h' e fvs d
theorem within_mOf : ∀ l : List (Str × Value), Within (mOf l) (l.map (·.1))
  | [] => fun y hy => absurd rfl hy
  | (f, v) :: r => fun y hy => by
    by_cases e : y = f
    · subst e; exact List.mem_cons_self
    · have z : mOf ((f, v) :: r) y = mOf r y := if_neg e
      rw [z] at hy
      exact List.mem_cons_of_mem _ (within_mOf r y hy)
section
variable {prog : Program} {w : World} {A : Around} {E : Value → Shared → Prop} {R : Result → Shared → Prop} {s : Shared} {K : Frag} {mg : Str → Option Value} {C : Addr} {fs : List Str}
theorem one_size (v : Value) : [v].length ≤ sizeLine := by
  rw [sizeLine_eq]
  exact (by decide : 1 ≤ 16777216)
/-- self.f = f for the fields of ps, one after the other -/
theorem sets (T : ErrTxt prog K fs C) {env : Env} {e : Addr} {m : Str → Option Value} (hk : env.scope.kind = .function) (hself : env.kindOf "self" = some .local) (h₀ : Heap) (Q : Flow → Shared → Prop) :
    ∀ (ps : List FldP) (us : List Value) (done : List (Str × Value)) (s : Shared), ps.length = us.length → (∀ p ∈ ps, p.f ∈ fs ∧ env.kindOf p.f = some .local) → (∀ q ∈ (ps.map (·.f)).zip us, m q.1 = some q.2) → done.length + ps.length ≤ 900 → m "self" = some (.ref e) → s.heap.Ns env.locals m → env.locals ≠ e →
      (∀ b o, b ≠ e → h₀.get? b = some o → s.heap.get? b = some o) → K.In h₀ → K.lookup e = none → h₀.objs.size ≤ s.heap.objs.size →
      (∃ t1 d, s.heap.get? e = some (eO C t1 d) ∧ DictOk h₀ s.heap e done d ∧ ∀ dx, d = some dx → dx ≠ env.locals) →
      (∀ s', s'.os = s.os → s'.gens = s.gens → s'.drawn = s.drawn → ErrEnd h₀ s'.heap e C (((ps.map (·.f)).zip us).reverse ++ done) → Q .next s') →
      wpAny (model prog w) A (execs (ps.map setSt) env) Q E s
  | [], us, done, s, hl, _, _, _, _, _, _, k, _, _, _, ⟨t1, d, he, hd, _⟩, hq => by
    cases us with
    | nil => exact wpAny_execs_nil (hq s rfl rfl rfl ⟨k, t1, d, he, hd⟩)
    | cons => cases hl
  | p :: ps, us, done, s, hl, hp, hm, hz, hs, hn, hL, k, KX, hKe, hsz, ⟨t1, d, he, hd, hdL⟩, hq => by
    cases us with
    | nil => cases hl
    | cons u us =>
      obtain ⟨nm, q, N, bs, bm, sn, sub, ab, col, dd, k0, k1, k2, k3, k5, hC, hbm⟩ := T.cls
      have hcl : clsIn K C = some { name := nm, bases := bs, mro := .ref C :: bm, ns := N, qualname := q, hasDict := true, slotNames := sn, subclasses := sub, abstract := ab, collection := col, hasDel := false } := by unfold clsIn; rw [hC] <;> rfl
      have X1 : K.In s.heap := fun a o z => k a o (fun y => by rw [y, hKe] at z; cases z) (KX a o z)
      obtain ⟨pf, pl⟩ := hp p List.mem_cons_self
      have hu : m p.f = some u := hm (p.f, u) (by simp)
      have next : ∀ s', s'.os = s.os → s'.gens = s.gens → s'.drawn = s.drawn → s'.heap.Ns env.locals m → (∀ b o, b ≠ e → h₀.get? b = some o → s'.heap.get? b = some o) → h₀.objs.size ≤ s'.heap.objs.size → (∃ t1 d, s'.heap.get? e = some (eO C t1 d) ∧ DictOk h₀ s'.heap e ((p.f, u) :: done) d ∧ ∀ dx, d = some dx → dx ≠ env.locals) → wpAny (model prog w) A (execs (ps.map setSt) env) Q E s' := fun s' e1 e2 e3 hn' k' hsz' hd' => by
        refine sets T hk hself h₀ Q ps us ((p.f, u) :: done) s' (by simpa using hl) (fun z hz => hp z (List.mem_cons_of_mem _ hz)) (fun z hz => hm z (by simp at hz ⊢; exact .inr hz)) (by simp at hz ⊢; omega) hs hn' hL k' KX hKe hsz' hd' fun s2 f1 f2 f3 hE => hq s2 (f1.trans e1) (f2.trans e2) (f3.trans e3) ?_
        have z : ((p :: ps).map (·.f)).zip (u :: us) = (p.f, u) :: (ps.map (·.f)).zip us := rfl
        rw [z, List.reverse_cons, List.append_assoc]
        exact hE
      show wpAny _ _ (execs (setSt p :: ps.map setSt) env) _ _ _
      have hnd : (p.f == ("__debug__" : Str)) = false := T.dbg _ pf
      refine wpAny_execs_cons (plainObj_wpAny_Assign_Attribute (wpAny_Name (wpAny_loadName_local hk pl hn hu (wpAny_Name (wpAny_loadName_local hk hself hn hs ?_) (by decide))) hnd))
      obtain ⟨hp0, g0, d0, tk0, os0⟩ := s
      cases done with
      | nil =>
        obtain rfl : d = none := hd
        refine set_plain X1 (ox := eO C t1 none) (od := none) ⟨he, rfl, rfl, trivial⟩ T.sa ?_
        refine exc_osa X1 he hcl (show refsVE (.ref C :: bm) = true from hbm) rfl (T.noN _ pf) (fun h' tk' dx kk hdn hde hobj hns => ?_)
        have nL : dx ≠ env.locals := fun z => absurd (hn.lt) (by rw [← z]; exact Nat.not_lt.mpr hdn)
        refine next ⟨h', g0, d0, tk', os0⟩ rfl rfl rfl ?_ (fun b o hb ho => kk b o hb (k b o hb ho)) ?_ ⟨t1, some dx, hobj, ⟨dx, rfl, Nat.le_trans hsz hdn, hde, ?_⟩, fun z hz => by cases hz; exact nL⟩
        · obtain ⟨oL, es, ep, hoL, r⟩ := hn
          exact ⟨oL, es, ep, kk _ _ hL hoL, r⟩
        · obtain ⟨_, _, _, zz, _⟩ := hns
          exact Nat.le_of_lt (Nat.lt_of_le_of_lt (Nat.le_trans hsz hdn) (Heap.lt_size zz))
        · exact hns
      | cons q0 r0 =>
        obtain ⟨dx, rfl, hdn, hde, hns⟩ := hd
        have nL := hdL dx rfl
        obtain ⟨oD, esD, epD, hoD, hdD⟩ := id hns
        refine set_plain X1 (ox := eO C t1 (some dx)) (od := some oD) ⟨he, rfl, rfl, hoD⟩ T.sa ?_
        refine OEX.osa_old X1 he hns (within_mOf (q0 :: r0)) (by simp at hz ⊢; omega) hcl (show refsVE (.ref C :: bm) = true from hbm) rfl (T.noN _ pf) (fun h' tk' kk hns' => ?_)
        refine next ⟨h', g0, d0, tk', os0⟩ rfl rfl rfl ?_ (fun b o hb ho => ?_) ?_ ⟨t1, some dx, kk _ _ (Ne.symm hde) he, ⟨dx, rfl, hdn, hde, hns'⟩, fun z hz => by cases hz; exact nL⟩
        · obtain ⟨oL, es, ep, hoL, r⟩ := hn
          exact ⟨oL, es, ep, kk _ _ (Ne.symm nL) hoL, r⟩
        · exact kk b o (fun z => absurd (Heap.lt_size ho) (by rw [z]; exact Nat.not_lt.mpr hdn)) (k b o hb ho)
        · have z1 := Heap.lt_size (kk _ _ (Ne.symm hde) he)
          obtain ⟨_, _, _, zz, _⟩ := hns'
          exact Nat.le_of_lt (Nat.lt_of_le_of_lt hdn (Heap.lt_size zz))

theorem lookup_zip {x : Str} {u : Value} : ∀ {fs : List Str} {us : List Value}, fs.Nodup → (x, u) ∈ fs.zip us → (fs.zip us).reverse.lookup x = some u := fun {fs us} nd h => by
  have key : ∀ (l : List (Str × Value)), (l.map (·.1)).Nodup → (x, u) ∈ l → l.lookup x = some u := by
    intro l
    induction l with
    | nil => intro _ z; cases z
    | cons p r ih =>
      intro n z
      obtain ⟨f, v⟩ := p
      have n1 := List.nodup_cons.mp n
      rcases List.mem_cons.mp z with e | e
      · cases e
        simp [List.lookup]
      · have ne : x ≠ f := fun q => n1.1 (List.mem_map.mpr ⟨_, e, q⟩)
        have ne2 : (x == f) = false := by simpa using ne
        simp only [List.lookup, ne2]
        exact ih n1.2 e
  refine key _ ?_ (List.mem_reverse.mpr h)
  rw [List.map_reverse]
  have sub : ((fs.zip us).map (·.1)).Sublist fs := by
    clear h key
    induction fs generalizing us with
    | nil => simp
    | cons f r ih =>
      cases us with
      | nil => simp
      | cons v vs => simp only [List.zip_cons_cons, List.map_cons]; exact (ih (List.nodup_cons.mp nd).2).cons_cons f
  have q := nd.sublist sub
  exact List.pairwise_reverse.mpr (q.imp fun h => Ne.symm h)
theorem call_mw {h : Heap} {g : Array GenState} {d : Drawn} {t : Nat} {os : OsState} {u e t0 N : Addr} {nm q : Str} {bs bm : List Value} {hdct : Bool} {sn : List Str} {sub : List Value} {ab : Bool} {col : Option Bool} {dd : Option Addr} {k0 k1 k2 k3 k5 : Option Value} {rest : List Value} {Q : Value → Shared → Prop}
    (he : h.get? e = some (excO C t0)) (hu : h.get? u = some (kxs_mw "ValueError.__init__" e)) (hC : h.get? C = some (excClassObj nm q C N bs bm hdct sn sub ab col dd k0 k1 k2 k3 k5 "ValueError.__new__")) (hrest : rest.length ≤ sizeLine)
    (hq : ∀ h' t1, (∀ b o, b ≠ e → h.get? b = some o → h'.get? b = some o) → h'.get? e = some (excO C t1) → Q .none ⟨h', g, d, t, os⟩) :
    wpAny (model prog w) A (call (.ref u) rest) Q E ⟨h, g, d, t, os⟩ := by
  refine wpAny_call (codeAny_of_tree ?_)
  show wpAny _ A.in1 (callAny (.ref u) ⟨rest, []⟩) _ _ _
  simp only [callAny]
  refine wpAny_bind (wpAny_load hu ?_)
  simp only [kxs_mw, show (Value.type "method-wrapper" == Value.type "method" || Value.type "method-wrapper" == Value.type "builtin_function_or_method" || Value.type "method-wrapper" == Value.type "method-wrapper") = true by decide, if_true]
  refine KFB.if_so (by decide) ?_
  refine wpAny_bind (check_bound_init F.excBase_ValueError.toExcCallFacts hC he rfl ?_)
  refine wpAny_bind (wpAny_pure (wpAny_pure ?_))
  refine ⟨plainId_quiet F.excBase_ValueError.init.plain _, codeAny_builtin F.excBase_ValueError.initEntry ?_⟩
  exact exc_init_tree (cls := .ref C) (t0 := t0) (dv := none) (c2 := .none) (c3 := .none) (b4 := .bool false) he hrest fun h' k a b => hq h' _ k a
theorem err_init (T : ErrTxt prog K fs C) {e t0 fI : Addr} {us : List Value} (hI : findIn K (.ref C) "__init__" = some (some (.ref fI))) (hl : us.length = fs.length) (X : K.In s.heap) (hg : s.heap.Ns mainGlobals mg) (hb : ∃ mb, s.heap.Ns builtinsNs mb ∧ ∀ x : Str, x ≠ "__name__" → mb x = bootBuiltins x)
    (hlim : s.heap.NoLimit) (hx : s.heap.get? e = some (excO C t0)) (hnx : K.lookup e = none) (hroom : A.depth < recursionLimit)
    (hq : ∀ s', s'.os = s.os → s'.gens = s.gens → s'.drawn = s.drawn → ErrEnd s.heap s'.heap e C (fs.zip us).reverse → R (.ok (.ret .none)) s') :
    codeAny (model prog w) A (.call (.ref fI) ⟨.ref e :: us, []⟩) R s := by
  obtain ⟨fI', cc, cda, oc, od, qual, params, body, kV, doc, pm, an, ct, osl, ccl, cdd, vs, ccs, file, tf, cl, cld, csl, i1, i2, ho, hcd, hcode, hvs, hfile, hcell, ⟨ar, har, hara⟩, ⟨msg, j, p0, p1, p2, p3, p4, p5, ps, rfl, hps, hev⟩, hbind⟩ := T.init
  rw [hI] at i1
  cases i1
  obtain ⟨nm, q, N, bs, bm, sn, sub, ab, col, dd, k0, k1, k2, k3, k5, hC, hbm⟩ := T.cls
  have hcl : clsIn K C = some { name := nm, bases := bs, mro := .ref C :: bm, ns := N, qualname := q, hasDict := true, slotNames := sn, subclasses := sub, abstract := ab, collection := col, hasDel := false } := by unfold clsIn; rw [hC] <;> rfl
  obtain ⟨mb, hmb, hmbv⟩ := hb
  have kin : ∀ f ∈ fs, (iScope fs).names.lookup f = some .local := fun f hf => by
    have z := List.all_eq_true.mp T.kinds f hf
    simp only [Bool.and_eq_true, beq_iff_eq] at z
    exact z.1
  have nself : ∀ f ∈ fs, f ≠ "self" := fun f hf => by
    have z := List.all_eq_true.mp T.kinds f hf
    simp only [Bool.and_eq_true, Bool.not_eq_true', beq_eq_false_iff_ne] at z
    exact z.2
  have hcellN : ∀ y ∈ (iScope fs).names, y.2 ≠ .cell := fun y hy => by
    rcases List.mem_append.mp (show y ∈ ((PySem.Str.ofString "self", NameKind.local) :: fs.map fun f => (f, NameKind.local)) ++ [(PySem.Str.ofString "__class__", NameKind.free), (PySem.Str.ofString "super", NameKind.globalImplicit)] from hy) with z | z
    · rcases List.mem_cons.mp z with z | z
      · rw [z]; decide
      · obtain ⟨f, _, rfl⟩ := List.mem_map.mp z
        exact fun q => nomatch (show NameKind.local = NameKind.cell from q)
    · rcases List.mem_cons.mp z with z | z
      · rw [z]; decide
      · rcases List.mem_cons.mp z with z | z
        · rw [z]; decide
        · cases z
  have look : ∀ x : Str, x ≠ "self" → x ∉ fs → (iScope fs).names.lookup x = ([(PySem.Str.ofString "__class__", NameKind.free), (PySem.Str.ofString "super", NameKind.globalImplicit)] : List (Str × NameKind)).lookup x := fun x h1 h2 => by
    show ((PySem.Str.ofString "self", NameKind.local) :: ((fs.map fun f => (f, NameKind.local)) ++ [(PySem.Str.ofString "__class__", NameKind.free), (PySem.Str.ofString "super", NameKind.globalImplicit)])).lookup x = _
    have e1 : (x == (PySem.Str.ofString "self")) = false := by simpa using h1
    rw [List.lookup_cons, e1]
    show ((fs.map fun f => (f, NameKind.local)) ++ _).lookup x = _
    have key : ∀ (l : List Str) (r : List (Str × NameKind)), x ∉ l → ((l.map fun f => (f, NameKind.local)) ++ r).lookup x = r.lookup x := by
      intro l r
      induction l with
      | nil => intro _; rfl
      | cons a l ih =>
        intro hn
        have e2 : (x == a) = false := by simpa using (fun z => hn (by rw [z]; exact List.mem_cons_self))
        show ((a, NameKind.local) :: ((l.map fun f => (f, NameKind.local)) ++ r)).lookup x = _
        rw [List.lookup_cons, e2]
        exact ih fun z => hn (List.mem_cons_of_mem _ z)
    exact key fs _ h2
  have cls_in := T.outs.1
  have sup_in := T.outs.2
  have hks : (iScope fs).names.lookup ("super" : Str) = some .globalImplicit := by rw [look _ (by decide) sup_in]; rfl
  have hkc : (iScope fs).names.lookup ("__class__" : Str) = some .free := by rw [look _ (by decide) cls_in]; rfl
  refine ks_codeAny_call_defAt (fd := ksFn "__init__" qual params (supSt msg j p0 p1 p2 p3 p4 p5 :: ps.map setSt) (iScope fs) .none kV doc pm an (.ref cda) ct cc) (body := supSt msg j p0 p1 p2 p3 p4 p5 :: ps.map setSt) (binds := (("self" : Str), .ref e) :: fs.zip us) hroom (X _ _ ho) rfl hlim (codeRec_of X hcd) rfl (BindsTo.of_eq (hbind _ _ hl)) hcellN (fun y hy => ?_) (fun h1 hns hk => ?_) rfl rfl rfl
  · rcases List.mem_cons.mp hy with z | z
    · rw [z]; rfl
    · exact kin _ (List.of_mem_zip z).1
  have X1 : K.In h1 := X.keeps hk
  have hx1 := hk _ _ hx
  have hself : (((("self" : Str), Value.ref e) :: fs.zip us).reverse).lookup ("self" : Str) = some (.ref e) := by
    rw [List.reverse_cons]
    have key : ∀ (l : List (Str × Value)), (∀ p ∈ l, p.1 ≠ "self") → (l ++ [(("self" : Str), Value.ref e)]).lookup ("self" : Str) = some (.ref e) := by
      intro l
      induction l with
      | nil => intro _; rfl
      | cons p r ih =>
        intro hp
        have e1 : ((PySem.Str.ofString "self") == p.1) = false := by simpa using Ne.symm (hp p List.mem_cons_self)
        show (p :: (r ++ _)).lookup _ = _
        obtain ⟨p1, p2⟩ := p
        rw [List.lookup_cons, e1]
        exact ih fun z hz => hp z (List.mem_cons_of_mem _ hz)
    exact key _ fun p hp => nself _ (List.of_mem_zip (List.mem_reverse.mp hp)).1
  obtain ⟨pl, hev⟩ := hev (callEnv (ksFn "__init__" qual params (supSt msg j p0 p1 p2 p3 p4 p5 :: ps.map setSt) (iScope fs) .none kV doc pm an (.ref cda) ct cc) s.heap.objs.size fI)
  refine ks_wpAt_execs_cons (ks_wpAt_Expr_any (ks_wpAt_MethodCall (pl := pl) ?_ hev))
  refine ks_wpAt_super_base (env := callEnv (ksFn "__init__" qual params (supSt msg j p0 p1 p2 p3 p4 p5 :: ps.map setSt) (iScope fs) .none kV doc pm an (.ref cda) ct cc) s.heap.objs.size fI) hks hkc (by decide) rfl (X1 _ _ ho) rfl har rfl (X1 _ _ hcode) rfl hvs hfile T.topN ?_
  refine ks_loadName_global rfl hks (loadGlobal_builtin (hg.keeps hk) (mg_none_of X hg T.gsup) (hmb.keeps hk) ((hmbv _ (by decide +kernel)).trans (by first | boot_by_name | rfl | kernel_rfl)) ⟨rfl, ?_⟩)
  refine wpAny_loadName_free rfl hkc rfl ⟨_, X1 _ _ hcell, rfl⟩ ?_
  rw [hara]
  refine wpAny_loadName_local (v := .ref e) rfl rfl hns hself ?_
  refine ks_wpAny_isType_cls (X1 _ _ hC) rfl ⟨rfl, ?_⟩
  refine ks_wpAny_call_super (X1 _ _ hC) rfl hx1 rfl (fun c z => by cases z) (looks_mroIn X1 T.own) (fun h2 hso k2 => ?_)
  have X2 : K.In h2 := X1.keeps k2
  have hx2 := k2 _ _ hx1
  have J2 : InstAt h2 e (excO C t0) C none := ⟨hx2, rfl, rfl, trivial⟩
  have hsup := T.sup
  unfold ks_superIn at hsup
  rw [hcl] at hsup
  refine kxs_getMethod kxs_ValueError hso (looks_opaque X2 T.opq) (l₀ := .ref C :: bm) ((looks_clsIn X2 hcl).andThen .now) rfl X2 hsup (J2.type.andThen (looks_subIn X2 T.veC)) (ks_ne X2 J2 hcl) (by decide) ?_
  refine kxs_callWith (i := "ValueError.__init__") (x := e) rfl ?_
  refine evalArgs_plain (spliced_cons (Constant_str (k := j) (pos := p3) (spliced_nil ⟨?_, ?_⟩)))
  · show (h2.push (kxs_mw "ValueError.__init__" e)).get? h2.objs.size = some _
    exact Heap.get?_push_size h2 rfl
  · have hx3 : (h2.push (kxs_mw "ValueError.__init__" e)).get? e = some (excO C t0) := Heap.get?_push_of_some _ hx2
    refine call_mw hx3 (Heap.get?_push_size h2 rfl) (Heap.get?_push_of_some _ (X2 _ _ hC)) (one_size _) (fun h4 t1 k4 hx4 => ?_)
    show wpAt _ _ _ (execs (ps.map setSt) _) _ _ _
    refine wpAt_of_wpAny ?_
    have keep4 : ∀ b o, b ≠ e → s.heap.get? b = some o → h4.get? b = some o := fun b o hb ho => k4 b o hb (Heap.get?_push_of_some _ (k2 b o (hk b o ho)))
    have ltL := hns.lt
    have hLe : s.heap.objs.size ≠ e := Nat.ne_of_gt (Heap.lt_size hx)
    have hn4 : h4.Ns s.heap.objs.size fun x => List.lookup x ((("self" : Str), Value.ref e) :: fs.zip us).reverse := by
      obtain ⟨oL, es, ep, hoL, r⟩ := hns
      exact ⟨oL, es, ep, k4 _ _ hLe (Heap.get?_push_of_some _ (k2 _ _ hoL)), r⟩
    refine sets (us := us) (done := []) T rfl rfl s.heap _ ps _ (by rw [← hps, List.length_map] at hl; exact hl.symm) (fun p hp => ?_) (fun z hz => ?_) ?_ hself hn4 hLe keep4 X hnx (Nat.le_of_lt hn4.lt) ⟨t1, none, hx4, rfl, fun dx z => nomatch z⟩ (fun s' e1 e2 e3 hE => ?_)
    · have pin : p.f ∈ fs := by rw [← hps]; exact List.mem_map_of_mem hp
      exact ⟨pin, kin _ pin⟩
    · rw [hps] at hz
      show List.lookup z.1 ((("self" : Str), Value.ref e) :: fs.zip us).reverse = some z.2
      rw [List.reverse_cons]
      have q1 := lookup_zip T.nd hz
      have app : ∀ (l r : List (Str × Value)) (v : Value), l.lookup z.1 = some v → (l ++ r).lookup z.1 = some v := by
        intro l r v
        induction l with
        | nil => intro q; cases q
        | cons a l ih =>
          obtain ⟨a1, a2⟩ := a
          intro q
          show ((a1, a2) :: (l ++ r)).lookup z.1 = some v
          rw [List.lookup_cons] at q ⊢
          cases qq : (z.1 == a1) with
          | true => rw [qq] at q; exact q
          | false => rw [qq] at q; exact ih q
      exact app _ _ _ q1
    · have z := T.len
      rw [← hps, List.length_map] at z
      simpa using z
    · rw [hps, List.append_nil] at hE
      exact hq s' e1 e2 e3 hE

/-- a made error -/
structure Made (h h' : Heap) (e C : Addr) (fvs : List (Str × Value)) : Prop where
  keep : ∀ b o, h.get? b = some o → h'.get? b = some o
  new : h.objs.size ≤ e
  obj : ∃ t1 d, h'.get? e = some (eO C t1 d) ∧ DictOk h h' e fvs d
theorem err_made (T : ErrTxt prog K fs C) {us : List Value} (hl : us.length = fs.length) (X : K.In s.heap) (hg : s.heap.Ns mainGlobals mg) (hb : ∃ mb, s.heap.Ns builtinsNs mb ∧ ∀ x : Str, x ≠ "__name__" → mb x = bootBuiltins x)
    (hlim : s.heap.NoLimit) (hroom : A.depth + 1 < recursionLimit) (hq : ∀ s' e, s'.os = s.os → s'.gens = s.gens → s'.drawn = s.drawn → Made s.heap s'.heap e C (fs.zip us).reverse → R (.ok (.ret (.ref e))) s') :
    codeAny (model prog w) A (.call (.ref C) ⟨us, []⟩) R s := by
  obtain ⟨nm, q, N, bs, bm, sn, sub, ab, col, dd, k0, k1, k2, k3, k5, hC, hbm⟩ := T.cls
  obtain ⟨fI, cc, cda, oc, od, qual, params, body, kV, doc, pm, an, ct, osl, ccl, cdd, vs, ccs, file, tf, cl, cld, csl, i1, i2, _⟩ := T.init
  obtain ⟨hp, g, dr, tk, os⟩ := s
  have k : ∀ b o, hp.get? b = some o → ((hp.push (kdv_tup us)).push (excO C hp.objs.size)).get? b = some o := fun b o e => Heap.get?_push_of_some _ (Heap.get?_push_of_some _ e)
  have hget : ((hp.push (kdv_tup us)).push (excO C hp.objs.size)).get? (hp.objs.size + 1) = some (excO C hp.objs.size) := by heap_get
  have hnx : K.lookup (hp.objs.size + 1) = none := by
    cases e : K.lookup (hp.objs.size + 1) with
    | none => rfl
    | some o =>
      have z : hp.get? (hp.objs.size + 1) = some o := X _ _ e
      exact absurd (Nat.lt_of_succ_lt (Heap.lt_size z)) (Nat.lt_irrefl _)
  have usz : us.length ≤ sizeLine := by have := T.len; rw [hl, sizeLine_eq]; omega
  refine call_own F.excBase_ValueError (fun X => refsVE_contains X bm hbm) (X _ _ hC) (looks_findIn X i1) (fun self => bind_fn X self i2) usz ?_
  refine err_init (s := ⟨(hp.push (kdv_tup us)).push (excO C hp.objs.size), g, dr, tk, os⟩) T i1 hl (X.keeps k) (hg.keeps k) (by obtain ⟨mb, h1, h2⟩ := hb; exact ⟨mb, h1.keeps k, h2⟩) (hlim.keeps k) hget hnx ?_ fun s' e1 e2 e3 hE => ?_
  · show A.depth + 1 < recursionLimit
    exact hroom
  · obtain ⟨k', t1, d, hobj, hd⟩ := hE
    have old : ∀ b o, hp.get? b = some o → s'.heap.get? b = some o := fun b o e => k' b o (Nat.ne_of_lt (Nat.lt_succ_of_lt (Heap.lt_size e))) (k b o e)
    refine ⟨rfl, hq s' (hp.objs.size + 1) e1 e2 e3 ⟨old, Nat.le_succ _, t1, d, hobj, ?_⟩⟩
    cases z : (fs.zip us).reverse with
    | nil => rw [z] at hd; exact hd
    | cons a r =>
      rw [z] at hd
      obtain ⟨dx, rfl, h1, h2, h3⟩ := hd
      refine ⟨dx, rfl, Nat.le_trans ?_ h1, h2, h3⟩
      show hp.objs.size ≤ ((hp.push (kdv_tup us)).push (excO C hp.objs.size)).objs.size
      rw [Heap.size_push, Heap.size_push]
      omega
end
end ErrX
end PySem

namespace L2
open PySem PySem.Spec PyProof.Rows
theorem relO_mOf {vs : List V} {us : List Value} (r : Vals vs us) : ∀ (fs : List Str) (g : Str), RelO (((fs.zip vs).reverse).lookup g) (ErrX.mOf (fs.zip us).reverse g) := by
  have key : ∀ (l : List (Str × V)) (m : List (Str × Value)), Paired (fun (p : Str × V) (q : Str × Value) => p.1 = q.1 ∧ RelV p.2 q.2) l m → ∀ g, RelO (l.lookup g) (ErrX.mOf m g) := by
    intro l m h
    induction h with
    | nil => intro g; trivial
    | cons a _ ih =>
      rename_i p q l m _
      obtain ⟨p1, p2⟩ := p
      obtain ⟨q1, q2⟩ := q
      obtain ⟨e, rv⟩ := a
      dsimp only at e rv
      subst e
      intro g
      rw [lookup_put]
      show RelO _ (if g = p1 then some q2 else ErrX.mOf m g)
      by_cases h : g = p1
      · rw [if_pos h, if_pos h]; exact rv
      · rw [if_neg h, if_neg h]; exact ih g
  intro fs g
  refine key _ _ ?_ g
  have zp : ∀ (fs : List Str) {vs : List V} {us : List Value}, Vals vs us → Paired (fun (p : Str × V) (q : Str × Value) => p.1 = q.1 ∧ RelV p.2 q.2) (fs.zip vs) (fs.zip us) := by
    intro fs
    induction fs with
    | nil => intro vs us _; exact .nil
    | cons f r ih =>
      intro vs us rr
      cases rr with
      | nil => exact .nil
      | cons a b => exact .cons ⟨rfl, a⟩ (ih b)
  have app : ∀ {l1 l2 : List (Str × V)} {m1 m2 : List (Str × Value)}, Paired (fun (p : Str × V) (q : Str × Value) => p.1 = q.1 ∧ RelV p.2 q.2) l1 m1 → Paired (fun (p : Str × V) (q : Str × Value) => p.1 = q.1 ∧ RelV p.2 q.2) l2 m2 → Paired (fun (p : Str × V) (q : Str × Value) => p.1 = q.1 ∧ RelV p.2 q.2) (l1 ++ l2) (m1 ++ m2) := by
    intro l1 l2 m1 m2 h1 h2
    induction h1 with
    | nil => exact h2
    | cons a _ ih => exact .cons a ih
  have rev : ∀ {l : List (Str × V)} {m : List (Str × Value)}, Paired (fun (p : Str × V) (q : Str × Value) => p.1 = q.1 ∧ RelV p.2 q.2) l m → Paired (fun (p : Str × V) (q : Str × Value) => p.1 = q.1 ∧ RelV p.2 q.2) l.reverse m.reverse := by
    intro l m h
    induction h with
    | nil => exact .nil
    | cons a _ ih => rw [List.reverse_cons, List.reverse_cons]; exact app ih (.cons a .nil)
  exact rev (zp fs r)
section
variable {X : Cx} {C : Addr} {fs : List Str} {x : Str}
/-- X(e, ..): an error with its fields (its dict d; none where it has none) -/
def tMkErr (C : Addr) (fs : List Str) (ta : TA) : St → Hp → XK → Prop := fun σ H Q => ta σ H fun vs H1 => vs.length = fs.length ∧
  (fs = [] → Q (.ref C) none H1) ∧ (fs ≠ [] → ∀ d, H1 d = none → Q (.ref C) (some d) (upd H1 d (.xd (fs.zip vs).reverse)))
theorem mk_err {pins : List (Addr × Obj)} {s1 : Shared} {σ : St} {H1 : Hp} {Q : XK} {us : List Value} {vs : List V} {k : Nat} (T : ErrX.ErrTxt X.prog X.K fs C) (hr : Room k X.A) (I1 : Inv X pins σ H1 s1) (r1 : Vals vs us) (hl : vs.length = fs.length)
    (q0 : fs = [] → Q (.ref C) none H1) (q1 : fs ≠ [] → ∀ d, H1 d = none → Q (.ref C) (some d) (upd H1 d (.xd (fs.zip vs).reverse))) : wpAny (model X.prog X.w) X.A (call (.ref C) us) (MkP X pins σ Q) X.xe s1 := by
  have hlim := I1.nolimit
  have hul : us.length = fs.length := by rw [← r1.length]; exact hl
  obtain ⟨hp, g, dr, tk, os⟩ := s1
  refine wpAny_call (ErrX.err_made T hul I1.kIn (I1.ok.mod.glob.keeps I1.bk) (by obtain ⟨mb, h1, h2⟩ := I1.ok.mod.blt; exact ⟨mb, h1.keeps I1.bk, h2⟩) hlim (by have := hr.dp; omega) fun s' e e1 e2 e3 M => ?_)
  obtain ⟨h', g', dr', tk', os'⟩ := s'
  obtain rfl : os' = os := e1
  obtain rfl : g' = g := e2
  obtain rfl : dr' = dr := e3
  show MkP X pins σ Q (.ref e) ⟨h', g', dr', tk', os'⟩
  obtain ⟨t1, d, hoe, hd⟩ := M.obj
  obtain ⟨G', g1, g2⟩ := restrict h' fun b => decide (b ≠ e)
  have gk : ∀ b, b ≠ e → G'.get? b = h'.get? b := fun b hb => g1 b (decide_eq_true hb)
  have ge : G'.get? e = none := g2 e (by simp)
  have old : ∀ b o, hp.get? b = some o → G'.get? b = some o := fun b o q => (gk b (Nat.ne_of_lt (Nat.lt_of_lt_of_le (Heap.lt_size q) M.new))).trans (M.keep b o q)
  have back : ∀ b o, G'.get? b = some o → h'.get? b = some o := fun b o q => by
    by_cases hb : b = e
    · rw [hb, ge] at q; cases q
    · exact (gk b hb).symm.trans q
  cases z : (fs.zip us).reverse with
  | nil =>
    rw [z] at hd
    obtain rfl : d = none := hd
    have fe : fs = [] := by
      cases fs with
      | nil => rfl
      | cons a r =>
        cases us with
        | nil => simp at hul
        | cons u us => simp at z
    have J : Inv X pins σ H1 ⟨G', g', dr', tk', os'⟩ := I1.kept (t' := tk') old
    exact ⟨e, _, _, ⟨G', g', dr', tk', os'⟩, _, .ref C, none, rfl, J, back, ge, hoe, ⟨rfl, rfl⟩, rfl, rfl, I1.hok.fresh M.new, rfl, I1.bare, raises_own T.exC T.tyC, q0 fe⟩
  | cons a r =>
    rw [z] at hd
    obtain ⟨dx, rfl, dbig, dne, hns⟩ := hd
    have fe : fs ≠ [] := fun q => by subst q; simp at z
    have ob : ObjOk X.prog X.w (upd H1 dx (.xd (fs.zip vs).reverse)) G' dx (.xd (fs.zip vs).reverse) :=
      ⟨_, hns.at (fun o q => (gk dx dne).trans q), fun f => by rw [← z]; exact relO_mOf r1 fs f⟩
    have J : Inv X pins σ (upd H1 dx (.xd (fs.zip vs).reverse)) ⟨G', g', dr', tk', os'⟩ := I1.laid (t' := tk') old dbig ob
    refine ⟨e, _, _, ⟨G', g', dr', tk', os'⟩, _, .ref C, some dx, rfl, J, back, ge, hoe, ⟨rfl, rfl⟩, rfl, rfl, ?_, rfl, I1.bare, raises_own T.exC T.tyC, q1 fe dx (I1.hok.fresh dbig)⟩
    rw [upd_ne (Ne.symm dne)]
    exact I1.hok.fresh M.new
theorem pmk_err {a : Expr} {as : List Expr} {ta : TA} {p pos : Pos} {k : Nat} (T : ErrX.ErrTxt X.prog X.K fs C) (hm : X.mg x = some (.ref C)) (hr : Room k X.A) (ha : PA X (a :: as) ta) (hg : Gl X x := by rfl) (hdb : (x == ("__debug__" : Str)) = false := by decide)
    (he : starEach (a :: as) X.env = (false, eval a X.env) :: starEach as X.env := by rfl) (hpl : (backTo pos (starEach as X.env)).any (·.1) = false := by rfl) :
    PMk X (.Call (.Name x p) (a :: as) [] pos) (tMkErr C fs ta) := by
  intro pins s σ H Q I h
  refine wpAny_Call_Name_kw (ld_glob I hg hm ?_ hdb)
  refine PySem.W.callWith_K (h₀ := X.base) I.ok.mod.kin T.kC (thn (ha.run pos pins s σ H _ I h) fun us s1 hh => ?_) he hpl
  obtain ⟨vs, H1, I1, r1, hl, q0, q1⟩ := hh
  exact ⟨I1.kIn, mk_err T hr I1 r1 hl q0 q1⟩
end
end L2


set_option Elab.async false
set_option linter.all false
set_option maxRecDepth 100000
set_option maxHeartbeats 4000000
/-! try with several except clauses, with and without a name; an error's fields and isinstance in a suite -/
namespace L2
open PySem PySem.Spec PyProof.Rows
/-- an except clause: its class, the slot of its name (if any), its suite -/
structure Cl where
  c : Value
  slot : Option Nat
  ts : Addr → Value → Option Addr → TS
/-- where a suite ends: its name goes -/
def dropAt (o : Option Nat) (D : Ends) : Ends := match o with
  | none => D
  | some i => { nx := fun z => D.nx (z.set i none), rt := D.rt, bk := fun z => D.bk (z.set i none), ct := fun z => D.ct (z.set i none) }
def putAt (o : Option Nat) (a : Addr) (z : St) : St := match o with
  | none => z
  | some i => z.set i (some (.ref a))
def wCl (K : PySem.W.Frag) (Wout : WX) (D : Ends) : List Cl → WX
  | [] => Wout
  | k :: r => fun cls d z H => ∃ b, PySem.W.exmOne K cls k.c = some b ∧ (b = true → ∀ a, H a = none → k.ts a cls d (dropAt k.slot D) (putAt k.slot a z) H) ∧ (b = false → wCl K Wout D r cls d z H)
inductive ClsOk (X : Cx) : List ExceptHandler → List Cl → Prop
  | nil : ClsOk X [] []
  | bare {x : Str} {k : Cl} {b0 : Stmt} {su : List Stmt} {np p : Pos} {hds : List ExceptHandler} {l : List Cl} (hc : Names X x k.c) (hk : k.slot = none)
      (hsu : ∀ (a : Addr) (oe : Obj) (cls : Value) (d : Option Addr) (pn : List (Addr × Obj)), Zc cls d oe → (∃ vs, oe.data = .fields vs) → PSs (X.suite a ((a, oe) :: pn)) (b0 :: su) (k.ts a cls d)) (r : ClsOk X hds l) :
      ClsOk X (.ExceptHandler (some (.Name x np)) none (b0 :: su) p :: hds) (k :: l)
  | named {x n : Str} {i : Nat} {k : Cl} {b0 : Stmt} {su : List Stmt} {np p : Pos} {hds : List ExceptHandler} {l : List Cl} (hc : Names X x k.c) (hk : k.slot = some i) (hi : X.N[i]? = some n) (hln : X.env.kindOf n = some .local)
      (hsu : ∀ (a : Addr) (oe : Obj) (cls : Value) (d : Option Addr) (pn : List (Addr × Obj)), Zc cls d oe → (∃ vs, oe.data = .fields vs) → PSs (X.suite a ((a, oe) :: pn)) (b0 :: su) (k.ts a cls d)) (r : ClsOk X hds l) :
      ClsOk X (.ExceptHandler (some (.Name x np)) (some n) (b0 :: su) p :: hds) (k :: l)
section
variable {X : Cx}
/-- the clauses, looked at one after the other, with the exception at a in the air -/
theorem clauses_go {B : Heap} {a : Addr} {pins : List (Addr × Obj)} {D : Ends} {sI s' : Shared} {h3 : Heap} {z : St} {H : Hp} {cls : Value} {d : Option Addr} {Wout : WX} (hs : X.stack = X.env :: X.outer) (hf : X.env.frame = some X.env.locals) (hN : X.N.Nodup) (tk : Takes X Wout) (ok : X.Ok)
    (J : Inv X pins z H sI) (nb : ∀ b o, sI.heap.get? b = some o → b ∉ frs X.stack → B.get? b = some o) (up : sI.heap.UpToSlots h3) (fl : HandSPX.FlyingZ B (X.env :: X.outer) a (Zc cls d) h3) (na : H a = none) (os : s'.os = sI.os) (ag : AllBare s'.gens) :
    ∀ {hds : List ExceptHandler} {l : List Cl}, ClsOk X hds l → wCl X.K Wout D l cls d z H → wpAny (model X.prog X.w) X.A (handleBy (.ref a) X.env hds) (SP X pins D) X.xe { s' with heap := h3 } := by
  have J3 : Inv X pins z H { s' with heap := h3 } := J.landed (s' := { s' with heap := h3 }) nb fl.1 up os ag
  obtain ⟨oe, vs, he, hz, hd⟩ := fl.there
  have nfr : a ∉ frs (X.env :: X.outer) := fun hm => by
    obtain ⟨_, o', e', hnf⟩ := fl.2.2.1.mem hm
    rw [he] at e'
    cases e'
    exact hnf _ hd
  have nL : a ≠ X.env.locals := fun q => nfr (List.mem_filterMap.mpr ⟨X.env, List.mem_cons_self, by rw [hf, q]⟩)
  have nF : a ∉ X.fs := fun hm => by
    obtain ⟨e, h1, q⟩ := List.mem_filterMap.mp hm
    exact nfr (List.mem_filterMap.mpr ⟨e, List.mem_cons_of_mem _ h1, q⟩)
  have S3 := J3.suite he hd na nL nF
  have LT : PySem.W.Looks (model X.prog X.w) h3 (typeOf (.ref a)) cls := fun A Q E s k q => wpAny_typeOf_ref (k _ _ he) (by rw [hz.1]; exact q)
  have test : ∀ {x : Str} {c : Value} {np : Pos}, Names X x c → ∀ {Q : Value → Shared → Prop} {E : Value → Shared → Prop}, Q c { s' with heap := h3 } → wpAny (model X.prog X.w) (X.A.mark (some (.ref a))) (eval (.Name x np) X.env) Q E { s' with heap := h3 } := by
    intro x c np hc Q E q
    obtain ⟨hg, hdb, hm | ⟨hm, hv, hn⟩⟩ := hc
    · exact ld_glob (X := X.suite a ((a, oe) :: (X.pn ++ pins))) S3 hg hm q hdb
    · exact ld_blt (X := X.suite a ((a, oe) :: (X.pn ++ pins))) S3 hg hm hv q hn hdb
  intro hds l hk
  induction hk with
  | nil =>
    intro w
    refine wpAny_handleBy_nil ?_
    obtain ⟨k1, k2, k3, oe', vs', T, oT, ts', he', hz', hd', h1, hr⟩ := id fl
    unfold PySem.passOn
    refine wpAny_bind (wpAny_field he' hd' h1 ?_)
    rw [if_neg (show ¬ ((Value.ref T == Value.none) = true) from by simp)]
    have out : wpAny (model X.prog X.w) X.A (setFlight (.ref a) X.env.frame) (fun _ s4 => wpAny (model X.prog X.w) X.A (throw (.ref a) : Sem Flow) (SP X pins D) X.xe s4) X.xe { s' with heap := h3 } := by
      rw [hf]
      exact HandSPX.setFlight_upZ fl fun h4 hh4 up4 => wpAny_throw (tk _ _ ⟨a, B, sI, pins, z, H, cls, d, rfl, J, nb, up.trans up4, .inr (.inr (by rw [hs]; exact hh4)), na, os, ag, w⟩)
    first
      | exact wpAny_bind (wpAny_pure (wpAny_bind out))
      | exact wpAny_bind out
  | @bare x k b0 su np p hds2 l2 hc hk hsu r ih =>
    intro w
    obtain ⟨b, hb1, hyes, hno⟩ := w
    refine wpAny_handleBy_cons (codeAny_handlers_test ?_) (by intro q; cases q)
    refine test hc ((PySem.W.exm_one (M := model X.prog X.w) J3.kIn LT hb1).here ?_)
    cases b with
    | false => exact ih (hno rfl)
    | true =>
      refine codeAny_handlers_suite (HandSPX.lands_againZ fl fun h4 fl4 up4 => ?_)
      have J4 : Inv X pins z H { s' with heap := h4 } := J.landed (s' := { s' with heap := h4 }) nb fl4.1 (up.trans up4) os ag
      obtain ⟨oe4, vs4, he4, hz4, hd4⟩ := fl4.there
      have go := hyes rfl a na
      rw [hk] at go
      refine wpAny_mono ((hsu a oe4 cls d (X.pn ++ pins) hz4 ⟨_, hd4⟩).run [] _ _ H _ (J4.suite he4 hd4 na nL nF) go) (fun f s6 hsp => ?_) (fun _ _ q => False.elim q)
      cases f with
      | ret u =>
        obtain ⟨v6, z6, H6, S6, r6, q6⟩ := hsp
        exact ⟨_, _, _, S6.unsuite ok, r6, q6⟩
      | next | brk | cont =>
        obtain ⟨z6, H6, S6, q6⟩ := hsp
        exact ⟨_, _, S6.unsuite ok, q6⟩
  | @named x n i k b0 su np p hds2 l2 hc hk hi hln hsu r ih =>
    intro w
    obtain ⟨b, hb1, hyes, hno⟩ := w
    refine wpAny_handleBy_cons (codeAny_handlers_test ?_) (by intro q; cases q)
    refine test hc ((PySem.W.exm_one (M := model X.prog X.w) J3.kIn LT hb1).here ?_)
    cases b with
    | false => exact ih (hno rfl)
    | true =>
      refine codeAny_handlers_suite_as (HandSPX.lands_againZ fl fun h4 fl4 up4 => ?_)
      have J4 : Inv X pins z H { s' with heap := h4 } := J.landed (s' := { s' with heap := h4 }) nb fl4.1 (up.trans up4) os ag
      obtain ⟨oe4, vs4, he4, hz4, hd4⟩ := fl4.there
      have go := hyes rfl a na
      rw [hk] at go
      refine store_ok (X := X.suite a ((a, oe4) :: (X.pn ++ pins))) (v := .ref a) (J4.suite he4 hd4 na nL nF) hN hi (.inl hln) rfl (fun s5 S5 => ?_) (.inr hln)
      refine wpAny_mono ((hsu a oe4 cls d (X.pn ++ pins) hz4 ⟨_, hd4⟩).run [] s5 _ H _ S5 go) (fun f s6 hsp => ?_) (fun _ _ q => False.elim q)
      have gone : ∀ {z6 : St} {H6 : Hp} {Q : Shared → Prop}, Inv (X.suite a ((a, oe4) :: (X.pn ++ pins))) [] z6 H6 s6 → (∀ s7, Inv X pins (z6.set i none) H6 s7 → Q s7) →
          wpAny (model X.prog X.w) X.A (do bindName X.env n .none; unbindBehindTheSuite X.env n p) (fun _ s7 => Q s7) X.xe s6 := fun S6 hq => gone_ok (S6.unsuite ok) hN hi hln hq
      cases f with
      | ret u =>
        obtain ⟨v6, z6, H6, S6, r6, q6⟩ := hsp
        exact gone S6 fun s7 J7 => ⟨_, _, _, J7, r6, q6⟩
      | next | brk | cont =>
        obtain ⟨z6, H6, S6, q6⟩ := hsp
        exact gone S6 fun s7 J7 => ⟨_, _, J7, q6⟩
/-- try: body / except .. (as ..): .. -/
theorem ps_try_cls {body : List Stmt} {h0 : ExceptHandler} {hds : List ExceptHandler} {l : List Cl} {pos : Pos} {tb : WX → TS} {Wout : WX} (hs : X.stack = X.env :: X.outer) (hf : X.env.frame = some X.env.locals) (hN : X.N.Nodup) (tk : Takes X Wout)
    (hb : ∀ (W : WX) (pn : List (Addr × Obj)) (xe : Value → Shared → Prop), Takes (X.tr pn xe) W → PassesOwn (model X.prog X.w) X.A X.env xe → PSs (X.tr pn xe) body (tb W))
    (hh : ClsOk X (h0 :: hds) l) : PS X (.Try body (h0 :: hds) [] [] pos) (fun D z H => tb (wCl X.K Wout D l) D z H) := by
  refine ⟨fun pins s z H D I h => ?_⟩
  have ok := I.ok
  have hfr : X.A.frames = some (X.env :: X.outer) := by rw [ok.frames, hs]
  refine wpAny_Try_except (wpAny_mono ((hb (wCl X.K Wout D l) (X.pn ++ pins) (fun e s1 => wpAny (model X.prog X.w) X.A (noteFrame e X.env) (fun _ s2 => wpAny (model X.prog X.w) X.A (setFlight e none) (fun _ s3 =>
    wpAny (model X.prog X.w) X.A (handleBy e X.env (h0 :: hds)) (SP X pins D) X.xe s3) X.xe s2) X.xe s1) (fun u s' xx => ?_) PassesOwn.looking).run [] s z H D (I.toTry _) h) (fun f s1 hsp => ?_) (fun e s1 he => he))
  · obtain ⟨a, B, sI, pins', z', H', cls, d, rfl, J', nb, up, sky, na, os, ag, w⟩ := xx
    show wpAny (model X.prog X.w) X.A (noteFrame (.ref a) X.env) _ _ _
    exact Sky.land Zc.steady hfr hf (by rw [← hs]; exact sky) fun h3 fl3 up3 => clauses_go hs hf hN tk ok (J'.ofTry ok) nb (up.trans up3) fl3 na os ag hh w
  · cases f with
    | next =>
      obtain ⟨z', H', J', q⟩ := hsp
      exact wpAny_execs_nil ⟨z', H', J'.ofTry ok, q⟩
    | brk | cont =>
      obtain ⟨z', H', J', q⟩ := hsp
      exact ⟨z', H', J'.ofTry ok, q⟩
    | ret u =>
      obtain ⟨v, z', H', J', r, q⟩ := hsp
      exact ⟨v, z', H', J'.ofTry ok, r, q⟩

/-- e.f, e the error that the suite holds at a (class cls, dict d) -/
def tErrFld (C a : Addr) (cls : Value) (d : Option Addr) (f : Str) (te : TE) : TE := fun z H Q => te z H fun x H1 => x = .ref a ∧ cls = .ref C ∧ ∃ (dd : Addr) (fvs : List (Str × V)) (v : V), d = some dd ∧ H1 dd = some (.xd fvs) ∧ fvs.lookup f = some v ∧ Q v H1
theorem pe_errFld {fs : List Str} {C a : Addr} {oe : Obj} {cls : Value} {d : Option Addr} {pn : List (Addr × Obj)} {e : Expr} {te : TE} {f : Str} {pos : Pos} (T : ErrX.ErrTxt X.prog X.K fs C) (hm : f ∈ fs) (hz : Zc cls d oe) (hf : ∃ vs, oe.data = .fields vs) (he : PE (X.suite a ((a, oe) :: pn)) e te)
    (hb : attributeBase e f X.env (eval e X.env) = eval e X.env := by rfl) : PE (X.suite a ((a, oe) :: pn)) (.Attribute e f pos) (tErrFld C a cls d f te) := by
  refine ⟨fun pins s z H Q I h => attr_of hb (thn (he.run pins s z H _ I h) fun u s1 hh => ?_)⟩
  obtain ⟨x, H1, I1, rx, ex, ec, dd, fvs, v, ed, ea, el, q⟩ := hh
  subst ex ec ed
  obtain rfl : u = Value.ref a := rx
  obtain ⟨ha, _⟩ := I1.pin (a, oe) (List.mem_append_left _ List.mem_cons_self)
  obtain ⟨vs, hd⟩ := hf
  have hx : ObjOk X.prog X.w H1 s1.heap dd (.xd fvs) := I1.hok dd _ ea
  obtain ⟨mA, hns, hr⟩ := hx
  obtain ⟨od, ho, hl⟩ := lookIn_ns hns
  obtain ⟨u, hu, ru⟩ := RelO.some_of (v := v) (o := mA f) (by rw [← el]; exact hr f)
  have J : PySem.W.InstAt s1.heap a oe C (some od) := ⟨ha, hz.1, by unfold PySem.W.notCls; rw [hd] <;> rfl, by rw [hz.2]; exact ho⟩
  exact HandSPX.exc_get I1.kIn J T.ga T.gg T.exC (PySem.W.findObj_own T.hdC (T.noN _ hm) rfl (by rw [hl, hu])) (handed_of ru) ⟨v, H1, I1.tok _, ru, q⟩
/-- what the class at D must say, so that isinstance asks its instances rightly -/
structure ErrK (K : PySem.W.Frag) (D : Addr) : Prop where
  hcl : (PySem.W.clsIn K D).isSome = true
  hga : PySem.W.findIn K (.ref D) "__getattribute__" = some (some (.builtin "BaseException.__getattribute__"))
  hgt : PySem.W.findIn K (.ref D) "__getattr__" = some none
  hsub : PySem.W.subIn K (.ref D) (.type "BaseException") = some true
  ha : PySem.W.findIn K (.ref D) "__class__" = some (some (.builtin "object.__class__"))
  hn : PySem.W.specialIn K (.builtin "object.__class__") "__get__" = some (some (.builtin "getset_descriptor.__get__"))
  htk : PySem.W.takesIn K (.builtin "object.__class__") = some true
  hm : PySem.W.mroIn K D (.type "object") = some true
/-- isinstance(e, c), e the error that the suite holds -/
def rIsErr (K : PySem.W.Frag) (a : Addr) (cls : Value) (d : Option Addr) : List V → Hp → VK → Prop := fun xs H Q => ∃ (D : Addr) (c : V) (cv : Value) (b : Bool), cls = .ref D ∧ ErrK K D ∧ xs = [.ref a, c] ∧ (∀ u, RelV c u → u = cv) ∧ PySem.W.kitOne K (.ref D) cv = some b ∧
  (d = none ∨ ∃ dd fvs, d = some dd ∧ H dd = some (.xd fvs)) ∧ Q (.bl b) H
theorem call_isErr {a : Addr} {oe : Obj} {cls : Value} {d : Option Addr} {pn : List (Addr × Obj)} (hz : Zc cls d oe) (hf : ∃ vs, oe.data = .fields vs) : CallR (X.suite a ((a, oe) :: pn)) (.builtin "isinstance") (rIsErr X.K a cls d) := by
  intro pins s z H xs us Q I r h
  obtain ⟨D, c, cv, b, rfl, T, rfl, hcv, e, hd, q⟩ := h
  cases r with
  | cons rx rr =>
    cases rr with
    | cons rt rr =>
      cases rr
      cases rx
      have ec := hcv _ rt
      subst ec
      obtain ⟨hget, _⟩ := I.pin (a, oe) (List.mem_append.mpr (.inl List.mem_cons_self))
      obtain ⟨vs, hv⟩ := hf
      have nc : PySem.W.notCls oe = true := by unfold PySem.W.notCls; rw [hv] <;> rfl
      have J : ∃ od, PySem.W.InstAt s.heap a oe D od := by
        rcases hd with rfl | ⟨dd, fvs, rfl, hx⟩
        · exact ⟨none, hget, hz.1, nc, by rw [hz.2]; trivial⟩
        · have hx' : ObjOk X.prog X.w H s.heap dd (.xd fvs) := I.hok dd _ hx
          obtain ⟨mA, ⟨od, es, ep, ho, _⟩, hr⟩ := hx'
          exact ⟨some od, hget, hz.1, nc, by rw [hz.2]; exact ho⟩
      obtain ⟨od, J⟩ := J
      exact PySem.W.kia_one (PySem.W.kitx_exc T.hcl T.hga T.hgt T.hsub T.ha T.hn T.htk T.hm) I.kIn J e (fun z => nomatch z) fun tk => ⟨.bl b, H, I.kept (t' := tk) fun _ _ z => z, rfl, q⟩
end
end L2


set_option Elab.async false
set_option linter.all false
set_option maxRecDepth 100000
set_option maxHeartbeats 4000000
/-! dicts whose keys are None, ints and texts -/
namespace L2
open PySem PySem.Spec PyProof.Rows
def nV : Option Key → V
  | none => .non
  | some k => kV k
def dNok (P : Program) (w : World) (a : Addr) (kvs : List (Option Key × V)) (h : Heap) : Prop := kvs.length ≤ sizeLine ∧ (a == sysModules) = false ∧ ∃ vs, KV kvs vs ∧ h.DictOf (noneKind P w) a vs
def dN (P : Program) (w : World) (a : Addr) (kvs : List (Option Key × V)) : HO := .ext (dNok P w a kvs)
theorem nV_is {P : Program} {w : World} {k : Option Key} {u : Value} (r : RelV (nV k) u) : (noneKind P w).is k u = true := by
  cases k with
  | none => cases r; rfl
  | some k => exact kV_is (P := P) (w := w) r
section
variable {P : Program} {w : World} {H : Hp} {h h' : Heap} {a : Addr} {kvs : List (Option Key × V)}
theorem dN_ok (z : dNok P w a kvs h) : ObjOk P w H h a (dN P w a kvs) := by
  refine ⟨z, ?_, fun h1 h2 z k => ?_⟩
  · obtain ⟨_, _, vs, _, o, es, ep, e, _⟩ := z
    exact ⟨o, e⟩
  · obtain ⟨z1, z2, vs, r, o, es, ep, e, c⟩ := z
    exact ⟨z1, z2, vs, r, o, es, ep, k _ e, c⟩
theorem dN_at (ok : HOk P w H h) (e : H a = some (dN P w a kvs)) : dNok P w a kvs h := by
  have x : ObjOk P w H h a (.ext (dNok P w a kvs)) := ok a _ e
  exact x.1
theorem dictOf_nil (x : h.DictOf (mixKind P w) a []) : h.DictOf (noneKind P w) a [] := by
  obtain ⟨o, es, ep, h1, h2, h3, h4, h5, h6⟩ := x
  have e0 : es = #[] := by
    cases hs : es with
    | mk l =>
      cases l with
      | nil => rfl
      | cons q r => subst hs; exact nomatch h5
  subst e0
  exact ⟨o, #[], ep, h1, h2, h3, fun e he => absurd he (by simp), .nil, List.nodup_nil⟩
end
theorem carriesN_of {P : Program} {w : World} : ∀ {kvs : List (Option Key × V)} {ws : List (Value × Value)}, VV (kvs.map fun kv => (nV kv.1, kv.2)) ws → ∃ rs, Carries (noneKind P w) ws rs ∧ KV kvs rs
  | [], _, r => by rw [List.map_nil] at r; cases r; exact ⟨[], True.intro, .nil⟩
  | p :: kvs, _, r => by
    rw [List.map_cons] at r
    cases r with
    | @cons a b as bs h t =>
      obtain ⟨rs, c, q⟩ := carriesN_of (P := P) (w := w) t
      obtain ⟨b1, b2⟩ := b
      exact ⟨(p.1, b2) :: rs, ⟨nV_is h.1, rfl, c⟩, .cons ⟨rfl, h.2⟩ q⟩
def mergeN (kvs more : List (Option Key × V)) : List (Option Key × V) := more.foldl (fun acc kv => putK acc kv.1 kv.2) kvs
theorem KV.mergeN : ∀ {more : List (Option Key × V)} {rs : List (Option Key × Value)} {kvs : List (Option Key × V)} {vs : List (Option Key × Value)}, KV more rs → KV kvs vs → KV (mergeN kvs more) (merged vs rs) := by
  intro more rs kvs vs h
  induction h generalizing kvs vs with
  | nil => intro r; exact r
  | @cons a b as bs hab _ ih =>
    intro r
    obtain ⟨a1, a2⟩ := a
    obtain ⟨b1, b2⟩ := b
    obtain ⟨e, rv⟩ := hab
    dsimp only at e rv
    subst e
    exact ih (r.put a1 rv)
theorem length_mergeN : ∀ (more kvs : List (Option Key × V)), (mergeN kvs more).length ≤ kvs.length + more.length
  | [], kvs => Nat.le_refl _
  | p :: more, kvs => by
    have h1 := length_mergeN more (putK kvs p.1 p.2)
    have h2 := length_putK kvs p.1 p.2
    show (mergeN (putK kvs p.1 p.2) more).length ≤ _
    rw [List.length_cons]
    omega
/-- {k: v, ..}, None among the keys -/
def tDispN (P : Program) (w : World) (trs : List (TE × TE)) : TE := fun z H Q => ∀ p, H p = none → tPairs trs z (upd H p (.dK [])) fun ps H2 => H2 p = some (.dK []) ∧ ∃ kvs : List (Option Key × V), ps = kvs.map (fun kv => (nV kv.1, kv.2)) ∧ kvs.length ≤ 15 ∧ Q (.ref p) (upd H2 p (dN P w p (mergeN [] kvs)))
theorem pe_dispN {X : Cx} {pos : Pos} {keys : List (Option Expr)} {values : List Expr} {trs : List (TE × TE)} (h : PPs X pos keys values trs) (hall : keys.all (·.isSome) = true) (hl : keys.length = values.length) (h0 : keys ≠ [])
    (h15 : keys.length ≤ 15) : PE X (.Dict keys values pos) (tDispN X.prog X.w trs) := by
  refine ⟨fun pins s z H Q I q => ?_⟩
  have hn := I.hok.fresh (Nat.le_refl s.heap.objs.size)
  have I1 := I.laid (a := s.heap.objs.size) (o := .dK []) (h' := s.heap.push { cls := .type "dict", data := .dict #[] }) (t' := s.toks) (fun _ _ q => Heap.get?_push_of_some _ q) (Nat.le_refl _) (dk_empty s.heap I.big)
  refine wpAny_Dict_walk (knd := noneKind X.prog X.w) hall hl h0 h15 (thn (h.run pins _ z _ _ I1 (q _ hn)) fun ws s2 ⟨ps, H2, I2, rel, e, kvs, ep, lk, q2⟩ => ?_)
  subst ep
  obtain ⟨rs, c, rk⟩ := carriesN_of (P := X.prog) (w := X.w) rel
  obtain ⟨zz, hd, vs0, r0, dd⟩ := dk_of I2.hok e
  cases r0
  refine ⟨rs, c, dictOf_nil dd, fun h' dd' hs => ⟨.ref s.heap.objs.size, _, ?_, rfl, q2⟩⟩
  have hz : (mergeN [] kvs).length ≤ sizeLine := by
    have h1 := length_mergeN kvs []
    rw [List.length_nil] at h1
    rw [sizeLine_eq]; omega
  have he : ∃ q, h'.get? s.heap.objs.size = some q := let ⟨q, _, _, hq, _⟩ := dd'; ⟨q, hq⟩
  exact d_write I2 (by rw [e]; exact True.intro) hs he (dN_ok ⟨hz, hd, _, rk.mergeN .nil, dd'⟩)
section
variable {X : Cx} {o e f : Expr} {apos cpos : Pos} {td ty tx : TE}
/-- d.get(k, x) -/
def tDGet2N (P : Program) (w : World) (td ty tx : TE) : TE := fun z H Q => td z H fun x H1 => ∃ a kvs, x = .ref a ∧ H1 a = some (dN P w a kvs) ∧ ty z H1 fun y H2 => tx z H2 fun v H3 => ∃ kvs' k, H3 a = some (dN P w a kvs') ∧ y = nV k ∧ Q ((valV kvs' k).getD v) H3
theorem pe_dget2N (ho : PE X o td) (he : PE X e ty) (hx : PE X f tx) (m : M2 X o "get" apos e f cpos) : PE X (.Call (.Attribute o "get" apos) [e, f] [] cpos) (tDGet2N X.prog X.w td ty tx) := by
  refine ⟨fun pins s z H Q I h => ?_⟩
  refine wpAny_Call_method m.base m.few m.line PySem.F.plainAttrs_dict PySem.F.slot_dict_get PySem.F.type_dict_get (thn (ho.run pins s z H _ I h) fun u s1 ⟨x, H1, I1, rx, a, kvs, ex, d, q1⟩ => ?_)
  subst ex
  obtain rfl : u = Value.ref a := rx
  obtain ⟨_, hd, vs, rel, dd⟩ := dN_at I1.hok d
  refine ⟨dd.typeIs, fun b q => ?_, ?_⟩
  · cases q
    obtain ⟨ob, _, _, h1, h2, _⟩ := dd
    exact ⟨ob, h1, h2.2.1⟩
  rw [m.trees]
  refine Calls.callWith_builtin rfl (Calls.evalArgs_plain (Calls.spliced_cons (thn (he.run pins s1 z H1 _ I1 q1) fun iv s2 ⟨y, H2, I2, ry, q2⟩ =>
    Calls.spliced_cons (thn (hx.run pins s2 z H2 _ I2 q2) fun fv s3 ⟨zv, H3, I3, rz, kvs', k, e3, ey, q3⟩ => Calls.spliced_nil ?_))))
  subst ey
  obtain ⟨_, hd', vs', rel', dd'⟩ := dN_at I3.hok e3
  exact call_meetsIn PySem.F.slot_dict_get dd'.typeIs PySem.F.entry_dict_get (PySem.F.args_dict_get_3 _ _ _) (meets_dict_get_default (noneKind X.prog X.w) a (nV_is ry) hd' fv) ⟨_, dd'.mapOf, ⟨_, H3, I3.tok _, (rel'.val k).getD rz, q3⟩⟩
/-- d[k] = v -/
def sDPutN (P : Program) (w : World) (td ty tv : TE) : TS := fun D z H => tv z H fun v H1 => td z H1 fun x H2 => ty z H2 fun y H3 => ∃ a kvs k, x = .ref a ∧ H3 a = some (dN P w a kvs) ∧ y = nV k ∧ kvs.length < sizeLine ∧ D.nx z (upd H3 a (dN P w a (putK kvs k v)))
theorem ps_dputN {i value : Expr} {pos pos' : Pos} {tv : TE} (ho : PE X o td) (hi : PE X i ty) (hv : PE X value tv) (hs : swapsWith value (some (.Subscript o i pos')) pos.line X.env = pure false) :
    PS X (.Assign [.Subscript o i pos'] value pos) (sDPutN X.prog X.w td ty tv) := by
  refine ⟨fun pins s z H D I h => ?_⟩
  refine wpAny_Assign_Subscript (thn (hv.run pins s z H _ I h) fun r s1 ⟨v, H1, I1, rv, q1⟩ => thn (ho.run pins s1 z H1 _ I1 q1) fun u s2 ⟨x, H2, I2, rx, q2⟩ => thn (hi.run pins s2 z H2 _ I2 q2) fun iv s3 ⟨y, H3, I3, ry, a, kvs, k, ex, e, ey, l, q3⟩ => ?_) hs
  subst ex ey
  obtain rfl : u = Value.ref a := rx
  obtain ⟨zz, hd, vs, rel, dd⟩ := dN_at I3.hok e
  have hz : vs.length ≤ sizeLine := by rw [← rel.length]; exact zz
  have hl : (putK kvs k v).length ≤ sizeLine := by have := length_putK kvs k v; omega
  refine wpAny_setItem_pairs (hsz := hz) (nV_is ry) dd fun h' dd' hs => ⟨z, _, ?_, q3⟩
  have he : ∃ q, h'.get? a = some q := let ⟨q, _, _, hq, _⟩ := dd'; ⟨q, hq⟩
  exact d_write I3 (by rw [e]; exact True.intro) hs he (dN_ok ⟨hl, hd, _, rel.put k rv, dd'⟩)
end
end L2


set_option Elab.async false
set_option linter.all false
set_option maxRecDepth 100000
set_option maxHeartbeats 4000000
/-! calls by names; small words -/
namespace L2
open PySem PySem.Spec PyProof.Rows
/-- the module's name x is a def that keeps sp (its last parameters filled by the defaults ds) -/
structure FnX (P : Program) (w : World) (K : PySem.W.Frag) (mg : Str → Option Value) (base : Heap) (CX : CXT) (k : Nat) (x : Str) (ps : List Str) (ds : List V) (sp : Sp) : Prop where
  ex : ∃ f fd dvs, mg x = some (.ref f) ∧ PySem.W.keepIn K (.ref f) = true ∧ Binds K fd ps dvs ∧ Vals ds dvs ∧ FnOk P w K mg base CX k f fd ps sp
/-- the class at C has the method m, which keeps sp -/
structure MeX (P : Program) (w : World) (K : PySem.W.Frag) (mg : Str → Option Value) (base : Heap) (CX : CXT) (k : Nat) (C : Addr) (m : Str) (ps : List Str) (ds : List V) (sp : Sp) : Prop where
  ex : ∃ f fd dvs, Cls K C ∧ Meth K C m f ∧ Binds K fd ps dvs ∧ Vals ds dvs ∧ FnOk P w K mg base CX k f fd ps sp
/-- the module's name x is the class at C, whose __init__ keeps sp -/
structure MkX (P : Program) (w : World) (K : PySem.W.Frag) (mg : Str → Option Value) (base : Heap) (CX : CXT) (k : Nat) (x : Str) (C : Addr) (ps : List Str) (ds : List V) (sp : Sp) : Prop where
  ex : ∃ f fd dvs, mg x = some (.ref C) ∧ Mk K C f ∧ Binds K fd ps dvs ∧ Vals ds dvs ∧ FnOk P w K mg base CX k f fd ps sp
section
variable {X : Cx} {CX : CXT} {k : Nat} {C : Addr} {ps : List Str} {sp : Sp} {ds : List V} {E : XK} {x m : Str} {p pos apos : Pos} {e o : Expr} {es : List Expr} {ta : TE} {t : TA}
theorem pe_callX (F : FnX X.prog X.w X.K X.mg X.base CX k x ps ds sp) (hr : Room k X.A) (hx : Passes CX X E) (ha : PA X (e :: es) t) (hg : Gl X x := by rfl) (hdb : (x == ("__debug__" : Str)) = false := by decide)
    (he : starEach (e :: es) X.env = (false, eval e X.env) :: starEach es X.env := by rfl) (hpl : (backTo pos (starEach es X.env)).any (·.1) = false := by rfl) : PE X (.Call (.Name x p) (e :: es) [] pos) (tCall sp ds E t) := by
  obtain ⟨f, fd, dvs, hm, kp, b, vd, G⟩ := F.ex
  exact pe_call G hr hg hm kp b vd hx ha hdb he hpl
theorem pe_callX0 (F : FnX X.prog X.w X.K X.mg X.base CX k x ps ds sp) (hr : Room k X.A) (hx : Passes CX X E) (hg : Gl X x := by rfl) (hdb : (x == ("__debug__" : Str)) = false := by decide) : PE X (.Call (.Name x p) [] [] pos) (tCall sp ds E tNil) := by
  obtain ⟨f, fd, dvs, hm, kp, b, vd, G⟩ := F.ex
  exact pe_call0 G hr hg hm kp b vd hx hdb
theorem pe_methX {pl : Sem Bool} (F : MeX X.prog X.w X.K X.mg X.base CX k C m ps ds sp) (hr : Room k X.A) (hx : Passes CX X E) (ho : PE X o ta) (ha : PA X (e :: es) t)
    (hst : starEach (e :: es) X.env = (false, eval e X.env) :: starEach es X.env := by rfl) (hpl : (backTo pos (starEach es X.env)).any (·.1) = false := by rfl)
    (ht : eval (.Call (.Attribute o m apos) (e :: es) [] pos) X.env = (do
      let ov ← eval o X.env
      standAt apos.atName
      let (f, first) ← holding [ov] (getMethod ov m pl)
      callWith pos f first (backTo pos (starEach (e :: es) X.env)) (backToKw pos (keywordEach [] X.env))) := by rfl) :
    PE X (.Call (.Attribute o m apos) (e :: es) [] pos) (tMeth C m sp ds E ta t) := by
  obtain ⟨f, fd, dvs, c, mm, b, vd, G⟩ := F.ex
  exact pe_meth ho c mm G hr b vd hx ha hst hpl ht
theorem pe_methX0 {pl : Sem Bool} (F : MeX X.prog X.w X.K X.mg X.base CX k C m ps ds sp) (hr : Room k X.A) (hx : Passes CX X E) (ho : PE X o ta)
    (ht : eval (.Call (.Attribute o m apos) [] [] pos) X.env = (do
      let ov ← eval o X.env
      standAt apos.atName
      let (f, first) ← holding [ov] (getMethod ov m pl)
      callWith pos f first (backTo pos (starEach [] X.env)) (backToKw pos (keywordEach [] X.env))) := by rfl) :
    PE X (.Call (.Attribute o m apos) [] [] pos) (tMeth C m sp ds E ta tNil) := by
  obtain ⟨f, fd, dvs, c, mm, b, vd, G⟩ := F.ex
  exact pe_meth0 ho c mm G hr b vd hx ht
theorem pe_makeX (F : MkX X.prog X.w X.K X.mg X.base CX k x C ps ds sp) (hr : Room (k + 1) X.A) (hx : Passes CX X E) (ha : PA X (e :: es) t) (hg : Gl X x := by rfl) (hdb : (x == ("__debug__" : Str)) = false := by decide)
    (he : starEach (e :: es) X.env = (false, eval e X.env) :: starEach es X.env := by rfl) (hpl : (backTo pos (starEach es X.env)).any (·.1) = false := by rfl) : PE X (.Call (.Name x p) (e :: es) [] pos) (tMake C sp ds E t) := by
  obtain ⟨f, fd, dvs, hm, M, b, vd, G⟩ := F.ex
  exact pe_make M G hr hg hm b vd hx ha hdb he hpl
/-- a constant of the module that is an int, a text, an object -/
theorem pe_gint {i : Int} (h : ∃ t, X.mg x = some (.int i t)) (hg : Gl X x := by rfl) (hdb : (x == ("__debug__" : Str)) = false := by decide) : PE X (.Name x pos) (tC (.int i)) := by
  obtain ⟨t, h⟩ := h
  exact pe_glob hg h ⟨t, rfl⟩ hdb
theorem pe_gstr {z : Str} (h : ∃ t, X.mg x = some (.str z t)) (hg : Gl X x := by rfl) (hdb : (x == ("__debug__" : Str)) = false := by decide) : PE X (.Name x pos) (tC (.str z)) := by
  obtain ⟨t, h⟩ := h
  exact pe_glob hg h ⟨t, rfl⟩ hdb
theorem pe_gref {a : Addr} (h : X.mg x = some (.ref a)) (hg : Gl X x := by rfl) (hdb : (x == ("__debug__" : Str)) = false := by decide) : PE X (.Name x pos) (tC (.ref a)) := pe_glob hg h rfl hdb
/-- what is raised in a callee goes on out of this def -/
theorem passOut {E : XK} {P : Program} {w : World} {K : PySem.W.Frag} {mg : Str → Option Value} {base : Heap} {N : List Str} {qual : Str} {scope : Scope} {f : Addr} {cd : Value} {A : Around} {outer : List Env} {s : Shared} {H : Hp} :
    Passes (L2.CX P w) (cxOf (L2.CX P w) P w K mg base N qual scope f cd A outer s H E) E := passes_call (takes_of rfl rfl rfl rfl) (fun _ _ _ _ h => h)
/-- a def that raises nothing, where some may be raised -/
theorem FnX.out {P : Program} {w : World} {K : PySem.W.Frag} {mg : Str → Option Value} {base : Heap} (F : FnX P w K mg base CX0 k x ps ds sp) : FnX P w K mg base (L2.CX P w) k x ps ds sp := by
  obtain ⟨f, fd, dvs, hm, kp, b, vd, G⟩ := F.ex
  refine ⟨f, fd, dvs, hm, kp, b, vd, G.len, fun A outer s H args us vs Q E hr he hb hv hs => codeAny_mono (G.run A outer s H args us vs Q E hr he hb hv hs) fun r s' h => ?_⟩
  cases r with
  | error e => exact (show False from h).elim
  | ok fl => cases fl <;> exact h
theorem FnX.mono {P : Program} {w : World} {K : PySem.W.Frag} {mg : Str → Option Value} {base : Heap} {j : Nat} (F : FnX P w K mg base CX j x ps ds sp) (h : j ≤ k) : FnX P w K mg base CX k x ps ds sp := by
  obtain ⟨f, fd, dvs, hm, kp, b, vd, G⟩ := F.ex
  exact ⟨f, fd, dvs, hm, kp, b, vd, G.mono h⟩
end
/-- a def of the text, at the module's name x, without defaults -/
abbrev DefX (K : PySem.W.Frag) (mg : Str → Option Value) (x : Str) (st : Stmt) : Prop := ∃ f fd, mg x = some (.ref f) ∧ FunD K x x (defArgs st) (defBody st) (defScope st) [] [] f fd
section
variable {P : Program} {w : World} {K : PySem.W.Frag} {mg : Str → Option Value} {base : Heap} {x : Str} {st : Stmt} {N ps : List Str} {k : Nat} {sp : Sp}
theorem DefX.ok0 (F : DefX K mg x st) (S : FnScope N ps (defScope st)) (hb : ∀ (kV doc pm : Value) (an : Option Addr) (cdv ct : Value) (us : List Value), us.length = ps.length → bindArgs (PySem.W.fnOf x x (defArgs st) (defBody st) (defScope st) .none kV doc pm an cdv ct) ⟨us, []⟩ = pure (ps.zip us))
    (len : ∀ vs H Q E, sp vs H Q E → vs.length = ps.length)
    (hbody : ∀ (f : Addr) (cdv : Value) (A : Around) (outer : List Env) (s : Shared) (H : Hp) (vs : List V) (Q : VK) (E : XK), Room k (A.deeper (envOfC x (defScope st) s.heap.objs.size f cdv)) → sp vs H Q E →
      ∃ t, PSs (cxOf CX0 P w K mg base N x (defScope st) f cdv A outer s H E).nox (defBody st) t ∧ t { nx := fun _ H' => Q .non H', rt := Q } (start N vs) H) : FnX P w K mg base CX0 (k + 1) x ps [] sp := by
  obtain ⟨f, fd, hm, F⟩ := F
  refine ⟨f, fd, [], hm, F.kp, F.bindsN hb, .nil, F.ok S len fun cdv A outer s H vs Q E hr h => ?_⟩
  obtain ⟨t, h1, h2⟩ := hbody f cdv A outer s H vs Q E hr h
  exact ⟨t, h1.nox, h2⟩
theorem DefX.okX (F : DefX K mg x st) (S : FnScope N ps (defScope st)) (hb : ∀ (kV doc pm : Value) (an : Option Addr) (cdv ct : Value) (us : List Value), us.length = ps.length → bindArgs (PySem.W.fnOf x x (defArgs st) (defBody st) (defScope st) .none kV doc pm an cdv ct) ⟨us, []⟩ = pure (ps.zip us))
    (len : ∀ vs H Q E, sp vs H Q E → vs.length = ps.length)
    (hbody : ∀ (f : Addr) (cdv : Value) (A : Around) (outer : List Env) (s : Shared) (H : Hp) (vs : List V) (Q : VK) (E : XK), Room k (A.deeper (envOfC x (defScope st) s.heap.objs.size f cdv)) → sp vs H Q E →
      ∃ t, PSs (cxOf (L2.CX P w) P w K mg base N x (defScope st) f cdv A outer s H E) (defBody st) t ∧ t { nx := fun _ H' => Q .non H', rt := Q } (start N vs) H) : FnX P w K mg base (L2.CX P w) (k + 1) x ps [] sp := by
  obtain ⟨f, fd, hm, F⟩ := F
  exact ⟨f, fd, [], hm, F.kp, F.bindsN hb, .nil, F.ok S len fun cdv A outer s H vs Q E hr h => hbody f cdv A outer s H vs Q E hr h⟩
end
/-- a method of the text: class at C, its method m (statement st, qualified name q) -/
structure MetX (K : PySem.W.Frag) (C : Addr) (m q : Str) (st : Stmt) (f : Addr) (fd : FuncData) : Prop where
  c : Cls K C
  me : Meth K C m f
  fn : FunD K m q (defArgs st) (defBody st) (defScope st) [] [] f fd
section
variable {P : Program} {w : World} {K : PySem.W.Frag} {mg : Str → Option Value} {base : Heap} {C : Addr} {m q : Str} {st : Stmt} {N ps : List Str} {k : Nat} {sp : Sp}
theorem MetX.okX (F : ∃ f fd, MetX K C m q st f fd) (S : FnScope N ps (defScope st)) (hb : ∀ (kV doc pm : Value) (an : Option Addr) (cdv ct : Value) (us : List Value), us.length = ps.length → bindArgs (PySem.W.fnOf m q (defArgs st) (defBody st) (defScope st) .none kV doc pm an cdv ct) ⟨us, []⟩ = pure (ps.zip us))
    (len : ∀ vs H Q E, sp vs H Q E → vs.length = ps.length)
    (hbody : ∀ (f : Addr) (cdv : Value) (A : Around) (outer : List Env) (s : Shared) (H : Hp) (vs : List V) (Q : VK) (E : XK), Room k (A.deeper (envOfC q (defScope st) s.heap.objs.size f cdv)) → sp vs H Q E →
      ∃ t, PSs (cxOf (L2.CX P w) P w K mg base N q (defScope st) f cdv A outer s H E) (defBody st) t ∧ t { nx := fun _ H' => Q .non H', rt := Q } (start N vs) H) : MeX P w K mg base (L2.CX P w) (k + 1) C m ps [] sp := by
  obtain ⟨f, fd, F⟩ := F
  exact ⟨f, fd, [], F.c, F.me, F.fn.bindsN hb, .nil, F.fn.ok S len fun cdv A outer s H vs Q E hr h => hbody f cdv A outer s H vs Q E hr h⟩
end
/-- for i, x in enumerate(list) -/
theorem for_enum {K : PySem.W.Frag} {a : Addr} {xs : List V} {g : TG} {tb : TS} {D : Ends} {z : St} {H : Hp} (Pv : Nat → St → Hp → Prop) (h0 : Pv 0 z H) (hl : ∀ i z H, i ≤ xs.length → Pv i z H → SqL K H a xs)
    (hs : ∀ i x z H, xs[i]? = some x → Pv i z H → ∀ T, H T = none → g (.ref T) z (upd H T (.tup [.int (i : Nat), x])) fun z2 H2 => tb { D with nx := Pv (i + 1), ct := Pv (i + 1), bk := D.nx } z2 H2) (hd : ∀ z H, Pv xs.length z H → D.nx z H) :
    ∃ W : Nat → Nat → St → Hp → Prop, (∃ m, W 0 m z H) ∧ ∀ i m z H, W i m z H →
      ((Ite K a).stop i H ∧ D.nx z H) ∨ ((Ite K a).go i H ∧ ∃ N : St → Hp → Prop, (∀ z' H', N z' H' → ∃ m', m' < m ∧ W (i + 1) m' z' H') ∧ ∀ x H', (Ite K a).yld i H x H' → g x z H' fun z2 H2 => tb { D with nx := N, ct := N, bk := D.nx } z2 H2) := by
  refine ⟨fun i m z H => m = xs.length - i ∧ i ≤ xs.length ∧ Pv i z H, ⟨xs.length, by simp, Nat.zero_le _, h0⟩, ?_⟩
  rintro i m z H ⟨rfl, hi, p⟩
  have q := hl i z H hi p
  by_cases hlt : i < xs.length
  · refine .inr ⟨⟨xs, xs[i], q, by simp [hlt]⟩, Pv (i + 1), fun z' H' p' => ⟨xs.length - (i + 1), by omega, rfl, hlt, p'⟩, fun v H' y => ?_⟩
    obtain ⟨T, x, rfl, hT, rfl, hx⟩ := y
    exact hs i x z _ (hx xs q) p T hT
  · have e : i = xs.length := by omega
    subst e
    exact .inl ⟨⟨xs, q, Nat.le_refl _⟩, hd z H p⟩
/-- tuples stay -/
def TupLe (H H' : Hp) : Prop := ∀ b xs, H b = some (.tup xs) → H' b = some (.tup xs)
theorem TupLe.refl (H : Hp) : TupLe H H := fun _ _ h => h
theorem TupLe.trans {H H1 H2 : Hp} (a : TupLe H H1) (b : TupLe H1 H2) : TupLe H H2 := fun c xs h => b c xs (a c xs h)
theorem TupLe.new {H : Hp} {p : Addr} {o : HO} (h : H p = none) : TupLe H (upd H p o) := fun b xs e => by rw [upd_ne (ne_of_none e h)]; exact e
theorem TupLe.mut {H : Hp} {p : Addr} {o u : HO} (h : H p = some u) (hu : ∀ xs, u ≠ .tup xs) : TupLe H (upd H p o) := fun b xs e => by
  rw [upd_ne (fun z => by subst z; rw [h] at e; exact hu xs (Option.some.inj e))]; exact e
theorem Same.new {H : Hp} {p : Addr} {o : HO} (h : H p = none) : Same H (upd H p o) := fun b u e => by rw [upd_ne (ne_of_none e h)]; exact e
/-- an object that H did not know has changed -/
theorem Same.mut {H H' : Hp} {p : Addr} {o : HO} (e : Same H H') (h : H p = none) : Same H (upd H' p o) := fun b u q => by rw [upd_ne (ne_of_none q h)]; exact e b u q
theorem Same.seqT {K : PySem.W.Frag} {H H' : Hp} {a : Addr} {xs : List V} (e : Same H H') (h : SqT K H a xs) : SqT K H' a xs := by
  rcases h with (h | ⟨o, h⟩) | h
  · exact .inl (.inl (e _ _ h))
  · exact .inl (.inr ⟨o, e _ _ h⟩)
  · exact .inr h
theorem Same.tups {H H' : Hp} (e : Same H H') : TupLe H H' := fun b xs h => e b _ h
theorem inV_str (z : Str) (ns : List Str) : inV (.str z) (ns.map V.str) = decide (z ∈ ns) := by
  unfold inV
  induction ns with
  | nil => rfl
  | cons n r ih =>
    rw [List.map_cons, List.any_cons, ih]
    show ((n == z) || decide (z ∈ r)) = decide (z ∈ n :: r)
    by_cases e : z = n
    · subst e
      simp
    · have e2 : (n == z) = false := by simpa using fun q => e q.symm
      rw [e2, Bool.false_or]
      simp [List.mem_cons, e]
theorem flat_strs (ns : List Str) : (ns.map V.str).all flatV = true := by
  rw [List.all_eq_true]
  intro v hv
  obtain ⟨n, _, rfl⟩ := List.mem_map.mp hv
  rfl
theorem iteB {b : Bool} {A B : Prop} (ht : b = true → A) (hf : b = false → B) : if b = true then A else B := by
  cases b with
  | true => rw [if_pos rfl]; exact ht rfl
  | false => rw [if_neg Bool.false_ne_true]; exact hf rfl
end L2


set_option Elab.async false
set_option linter.all false
set_option maxRecDepth 100000
set_option maxHeartbeats 4000000
/-! == and != of an instance whose class has its own __eq__ (and no __ne__) -/
namespace PySem.W
open PySem PySem.Spec PySem.Calls PyProof.Rows
section
variable {prog : Program} {w : World} {A : Around} {E : Value → Shared → Prop} {s : Shared} {h₀ : Heap} {L : Addr} {m : Str → Option Value} {K : Frag} {x C f : Addr} {ox : Obj} {od : Option Obj} {b tb : Value}
theorem ne_entry {Q : Fin → Shared → Prop} (X : K.In s.heap) (I : InstAt s.heap x ox C od) (hs : findIn K (.ref C) "__eq__" = some (some (.ref f))) (hf : isFn K (.ref f) = true) (hu : A.units < cLine)
    (hcall : wpAny (model prog w) A (call (.ref f) [.ref x, b]) (fun v s' => ∃ c, v = .bool c ∧ Q (.done (.ret (.bool (!c)))) s') E s) :
    wpAny (model prog w) A (Builtin.«object.__ne__» ⟨[.ref x, b], []⟩) Q E s := by
  obtain ⟨hp, g, d, t, os⟩ := s
  unfold Builtin.«object.__ne__»
  repeat (first
    | with_reducible refine wpAny_cRoomFor hu ?_
    | (refine wpAny_bind (m := callSpecialIfBound? (.ref x) (Str.ofString "__eq__") [b])
        (ifBound_K X I hs hf (wpAny_mono hcall (fun r s' hr => by
          obtain ⟨c, rfl, hq⟩ := hr
          repeat (first | exact hq | exact wpAny_pure hq | exact wpAny_truthy_bool hq | (refine wpAny_bind (m := truthy (.bool _)) (wpAny_truthy_bool ?_)) | wp_step)) fun _ _ e => e)))
    | wp_step)
theorem ne_try {Q : Option Value → Shared → Prop} (X : K.In s.heap) (I : InstAt s.heap x ox C od) (hne : findIn K (.ref C) "__ne__" = some (some (.builtin "object.__ne__"))) (hobj : mroIn K C (.type "object") = some true)
    (hs : findIn K (.ref C) "__eq__" = some (some (.ref f))) (hf : isFn K (.ref f) = true) (hu : A.units + 1 < cLine)
    (hcall : wpAny (model prog w) A.in1 (call (.ref f) [.ref x, b]) (fun v s' => ∃ c, v = .bool c ∧ Q (some (.bool (!c))) s') E s) :
    wpAny (model prog w) A (tryCompare (.ref x) "__ne__" b) Q E s := by
  have go : ∀ {R : Value → Shared → Prop}, (∀ c s', Q (some (.bool (!c))) s' → R (.bool (!c)) s') → wpAny (model prog w) A (call (.builtin "object.__ne__") [.ref x, b]) R E s := fun {R} hR => by
    have sub : Looks (model prog w) s.heap (isInstance (.ref x) (.type "object")) true := I.type.andThen (looks_mroIn X hobj)
    refine wpAny_call (codeAny_call_builtin F.cmp_object.ne.plain F.cmpEntry_ne ?_)
    refine @check_slot (model prog w) _ _ s "object.__ne__" "object" "__ne__" (.ref x) [b] [] _ F.cmpKind_ne F.cmpSplit_ne sub (F.cmpArgs_ne _ _) ?_
    exact ne_entry (A := A.in1) X I hs hf hu (wpAny_mono hcall (fun v s' hv => by obtain ⟨c, rfl, hq⟩ := hv; exact ⟨c, rfl, hR c s' hq⟩) fun _ _ e => e)
  unfold tryCompare
  refine wpAny_bind ?_
  simp only [callSpecialIfBound?, bindSpecialIfBound?]
  refine wpAny_holding (wpAny_bind (wpAny_bind (wpAny_bind (I.type.here ((looks_findIn X hne).here ?_)))))
  refine wpAny_bind (wpAny_askSetting (wpAny_ite ?_))
  have bd := F.cmp_object.ne.bind (.ref x)
  have fin : ∀ {Q2 : Option Value → Shared → Prop}, (∀ c s', Q (some (.bool (!c))) s' → Q2 (some (.bool (!c))) s') → wpAny (model prog w) A (call (.builtin "object.__ne__") ([.ref x] ++ [b]) >>= fun v => pure (some v)) Q2 E s :=
    fun h2 => wpAny_bind (go fun c s' hq => wpAny_pure (h2 c s' hq))
  split
  · rw [bd]
    exact wpAny_bind (wpAny_pure (wpAny_pure (fin fun c s' hq => wpAny_pure hq)))
  · refine wpAny_tryCatch ?_
    rw [bd]
    exact wpAny_bind (wpAny_pure (wpAny_pure (fin fun c s' hq => wpAny_pure hq)))
theorem ne_K {Q : Value → Shared → Prop} (hu : A.units + 1 < cLine) (F : Fr h₀ L s.heap m) (X₀ : K.In h₀) (I : InstAt s.heap x ox C od) (hb : Looks (model prog w) s.heap (typeOf b) tb) (hn : notFirst K C tb = true)
    (hne : findIn K (.ref C) "__ne__" = some (some (.builtin "object.__ne__"))) (hobj : mroIn K C (.type "object") = some true) (hs : findIn K (.ref C) "__eq__" = some (some (.ref f))) (hf : isFn K (.ref f) = true)
    (h : wpAny (model prog w) A.in1 (call (.ref f) [.ref x, b]) (fun v s' => ∃ c, v = .bool c ∧ Q (.bool (!c)) s') E s) : wpAny (model prog w) A (richCompare .NotEq (.ref x) b) Q E s := by
  have X := X₀.keeps F.keep
  have one : wpAny (model prog w) A (tryCompare (.ref x) "__ne__" b) (fun r s' => ∃ v, r = some v ∧ Q v s') E s := ne_try X I hne hobj hs hf hu (wpAny_mono h (fun v s' hv => by obtain ⟨c, e, q⟩ := hv; exact ⟨c, e, _, rfl, q⟩) fun _ _ e => e)
  unfold richCompare
  simp only [oneThing_ref]
  refine wpAny_holding (wpAny_bind (wpAny_cRoomFor (Nat.lt_of_succ_lt hu) ?_))
  refine wpAny_bind (I.type.here (wpAny_bind (hb.here ?_)))
  have last : wpAny (model prog w) A (tryCompare (.ref x) (cmpInfo .NotEq).2.1 b) (fun r s' => ∃ v, r = some v ∧ Q v s') E s := one
  split
  · rename_i q
    have e : subIn K tb (.ref C) = some false := by
      rcases Bool.or_eq_true_iff.mp hn with e | e
      · rw [beq_iff_eq.mp e] at q; simp at q
      · exact beq_iff_eq.mp e
    refine wpAny_bind ((looks_subIn X e).here ?_)
    simp only [Bool.false_eq_true, if_false]
    refine wpAny_bind (wpAny_mono last (fun r s' z => ?_) fun _ _ e => e)
    obtain ⟨v, rfl, hq⟩ := z
    exact wpAny_pure hq
  · refine wpAny_bind (wpAny_pure ?_)
    simp only [Bool.false_eq_true, if_false]
    refine wpAny_bind (wpAny_mono last (fun r s' z => ?_) fun _ _ e => e)
    obtain ⟨v, rfl, hq⟩ := z
    exact wpAny_pure hq
end
end PySem.W
namespace L2
open PySem PySem.Spec PyProof.Rows
section
variable {X : Cx} {CX : CXT} {k : Nat} {C : Addr} {ps : List Str} {sp : Sp} {E : XK}
/-- what stands on the right of such a comparison: its type comes not first -/
structure RightOk (X : Cx) (C : Addr) (H : Hp) (y : V) : Prop where
  ty : ∀ (pins : List (Addr × Obj)) (z : L2.St) (s : Shared) (u : Value), Inv X pins z H s → RelV y u → ∃ tb, PySem.W.Looks (model X.prog X.w) s.heap (typeOf u) tb ∧ PySem.W.notFirst X.K C tb = true
theorem right_ins {H : Hp} {b dy : Addr} {gs : List (Str × V)} (h : H b = some (.ins C dy gs)) : RightOk X C H (.ref b) := ⟨fun pins z s u I r => by
  cases r
  obtain ⟨mB, J', _⟩ := ins_get I.hok h
  obtain ⟨od', J', _⟩ := J'.look
  exact ⟨.ref C, J'.type, by simp [PySem.W.notFirst]⟩⟩
theorem right_str {H : Hp} {t : Str} (h : PySem.W.notFirst X.K C (.type "str") = true) : RightOk X C H (.str t) := ⟨fun pins z s u I r => by
  obtain ⟨tk, rfl⟩ := r
  exact ⟨.type "str", PySem.W.Looks.of_pure rfl, h⟩⟩
/-- a == b, a != b (neg), a an instance of the class at C -/
def rCmpO (X : Cx) (C : Addr) (sp : Sp) (E : XK) (neg : Bool) : R2 := fun x y H Q => ∃ a dx fs, x = .ref a ∧ H a = some (.ins C dx fs) ∧ RightOk X C H y ∧ sp [x, y] H (fun v H' => ∃ c, v = .bl c ∧ Q (.bl (if neg then !c else c)) H') E
theorem op_eqO (F : MeX X.prog X.w X.K X.mg X.base CX k C "__eq__" ps [] sp) (hr : Room k X.A) (hx : Passes CX X E) : OpR X (compareOp .Eq) (rCmpO X C sp E false) := by
  intro pins s z H x y v u Q I rx ry h
  obtain ⟨a, dx, fs, rfl, ha, R, q⟩ := h
  obtain ⟨f, fd, dvs, c, mm, b, vd, G⟩ := F.ex
  cases vd
  cases rx
  obtain ⟨tb, lk, nf⟩ := R.ty pins z s u I ry
  obtain ⟨mA, J, _⟩ := ins_get I.hok ha
  obtain ⟨od, J, _⟩ := J.look
  obtain ⟨m, hF⟩ := I.fr
  show wpAny (model X.prog X.w) X.A (richCompare .Eq (.ref a) u) (EP X pins z Q) X.xe s
  refine PySem.W.cmp_K (op := .Eq) (tb := tb) hr.units0 hF I.ok.mod.kin J lk nf mm.at_ mm.fn ?_
  refine wpAny_mono (run_fn (us := [.ref a, u]) (vs := [.ref a, y]) G hr b .nil hx I (.cons rfl (.cons ry .nil)) q) (fun v s' hv => ?_) fun _ _ x => x
  obtain ⟨v', H', I', rv, c, rfl, q⟩ := hv
  cases rv
  exact ⟨.bl c, H', I', rfl, q⟩
theorem op_neO (F : MeX X.prog X.w X.K X.mg X.base CX k C "__eq__" ps [] sp) (hr : Room (k + 1) X.A) (hx : Passes CX X E) (hne : PySem.W.findIn X.K (.ref C) "__ne__" = some (some (.builtin "object.__ne__"))) (hobj : PySem.W.mroIn X.K C (.type "object") = some true) :
    OpR X (compareOp .NotEq) (rCmpO X C sp E true) := by
  intro pins s z H x y v u Q I rx ry h
  obtain ⟨a, dx, fs, rfl, ha, R, q⟩ := h
  obtain ⟨f, fd, dvs, c, mm, b, vd, G⟩ := F.ex
  cases vd
  cases rx
  obtain ⟨tb, lk, nf⟩ := R.ty pins z s u I ry
  obtain ⟨mA, J, _⟩ := ins_get I.hok ha
  obtain ⟨od, J, _⟩ := J.look
  obtain ⟨m, hF⟩ := I.fr
  show wpAny (model X.prog X.w) X.A (richCompare .NotEq (.ref a) u) (EP X pins z Q) X.xe s
  refine PySem.W.ne_K (tb := tb) (hu_of hr) hF I.ok.mod.kin J lk nf hne hobj mm.at_ mm.fn ?_
  have e := I.env0
  have r2 : Vals [V.ref a, y] [Value.ref a, u] := .cons rfl (.cons ry .nil)
  have hl := G.len _ _ _ _ q
  refine wpAny_call (codeAny_mono (G.run X.A.in1 X.stack s H ⟨[.ref a, u], []⟩ [.ref a, u] [.ref a, y] _ E hr.in1 e.in1 (by
    have := b s [.ref a, u] I.kIn (by simpa using hl)
    simpa using this) r2 q) fun r s' hq => ?_)
  cases r with
  | error e => exact hx pins z H s e s' I hq
  | ok fl =>
    cases fl with
    | ret w =>
      obtain ⟨zz, H', I', rz, c, rfl, q⟩ := I.after hq
      cases rz
      exact ⟨c, rfl, .bl (!c), H', I', rfl, q⟩
    | next => exact False.elim hq
    | brk => exact False.elim hq
    | cont => exact False.elim hq
end
end L2


set_option Elab.async false
set_option linter.all false
set_option maxRecDepth 100000
set_option maxHeartbeats 4000000
namespace L2
open PySem PySem.Spec PyProof.Rows
section
variable {X : Cx}
/-- repr(True), repr(False) -/
theorem call_repr_bl : CallR X (.builtin "repr") (fun xs H Q => ∃ b : Bool, xs = [.bl b] ∧ Q (.str (if b then Str.ofString "True" else Str.ofString "False")) H) := by
  intro pins s z H xs us Q I r h
  obtain ⟨b, rfl, q⟩ := h
  obtain ⟨u, rfl, e⟩ := vals1 r
  obtain rfl : u = Value.bool b := e
  exact PySem.P.repr_of_bool ⟨.str _, H, I.tok _, ⟨_, rfl⟩, q⟩
/-- s * n -/
theorem op_rep_str : OpR X (binaryOp .Mult) (fun x y H Q => ∃ (a : Str) (n : Int), x = .str a ∧ y = .int n ∧ 2 ≤ n ∧ n ≤ 10000 ∧ 0 < a.length ∧ a.length ≤ 1000 ∧ (⟨(List.replicate n.toNat a.cps).foldl (· ++ ·) #[]⟩ : Str).length ≤ sizeLine ∧ Q (.str ⟨(List.replicate n.toNat a.cps).foldl (· ++ ·) #[]⟩) H) := by
  intro pins s z H x y v u Q I rx ry h
  obtain ⟨a, n, rfl, rfl, h1, h2, h3, h4, h5, q⟩ := h
  obtain ⟨t, rfl⟩ := rx
  obtain ⟨t', rfl⟩ := ry
  have e1 : (n == 1 || a.length == 0) = false := by
    have : ¬ n = 1 := by omega
    have : ¬ a.length = 0 := by omega
    simp_all
  have hm : a.length * n.toNat ≤ 1000 * 10000 := Nat.mul_le_mul h4 (by omega)
  refine PySem.P.mul_str ?_ (fun _ _ => ?_) (fun _ _ => ?_) ?_
  · rw [decide_eq_false (by omega), decide_eq_false (by omega)]; rfl
  · have : (2 ^ 63 - 1) / n ≥ 1000 := by
      have : (1000 : Int) * n ≤ 2 ^ 63 - 1 := by omega
      exact (Int.le_ediv_iff_mul_le (by omega)).mpr this
    omega
  · show decide (_ > sizeLine) = false
    have q9 : sizeLine = 16777216 := sizeLine_eq
    exact decide_eq_false (by omega)
  · rw [if_neg (by omega), if_neg (by rw [e1]; exact Bool.false_ne_true)]
    exact ⟨h5, .str _, H, I.tok _, ⟨_, rfl⟩, q⟩
/-- nothing leaves -/
theorem passF {P : Program} {w : World} {X : Cx} (h1 : X.prog = P := by rfl) (h2 : X.w = w := by rfl) : Passes (L2.CX P w) X (fun _ _ _ => False) := by
  subst h1 h2
  exact passes_call LamX.takes0 (fun _ _ _ _ h => h)
theorem takes_len {W : WX} (tk : Takes X W) : Takes X (fun cls d z H => z.length = X.N.length → W cls d z H) := fun u s' xx => by
  obtain ⟨a, B, sI, pins', z', H', cls, d, e, J', nb, up, sky, na, os, ag, w⟩ := xx
  exact tk u s' ⟨a, B, sI, pins', z', H', cls, d, e, J', nb, up, sky, na, os, ag, w J'.len⟩
end
theorem FunD.ok0 {P : Program} {w : World} {K : PySem.W.Frag} {mg : Str → Option Value} {base : Heap} {x q : Str} {st : Stmt} {N ps : List Str} {k : Nat} {sp : Sp} {f : Addr} {fd : FuncData} (F : FunD K x q (defArgs st) (defBody st) (defScope st) [] [] f fd) (S : FnScope N ps (defScope st))
    (len : ∀ vs H Q E, sp vs H Q E → vs.length = ps.length)
    (hbody : ∀ (cdv : Value) (A : Around) (outer : List Env) (s : Shared) (H : Hp) (vs : List V) (Q : VK) (E : XK), Room k (A.deeper (envOfC q (defScope st) s.heap.objs.size f cdv)) → sp vs H Q E →
      ∃ t, PSs (cxOf CX0 P w K mg base N q (defScope st) f cdv A outer s H E).nox (defBody st) t ∧ t { nx := fun _ H' => Q .non H', rt := Q } (start N vs) H) : FnOk P w K mg base CX0 (k + 1) f fd ps sp :=
  F.ok S len fun cdv A outer s H vs Q E hr h => by
    obtain ⟨t, h1, h2⟩ := hbody cdv A outer s H vs Q E hr h
    exact ⟨t, h1.nox, h2⟩
end L2


set_option Elab.async false
set_option linter.all false
set_option maxRecDepth 100000
set_option maxHeartbeats 4000000
namespace L2
open PySem PySem.Spec PyProof.Rows
section
variable {X : Cx} {C : Addr} {x : Str}
/-- X(): an error without fields -/
theorem pmk_err0 {p pos : Pos} {k : Nat} (T : ErrX.ErrTxt X.prog X.K [] C) (hm : X.mg x = some (.ref C)) (hr : Room k X.A) (hg : Gl X x := by rfl) (hdb : (x == ("__debug__" : Str)) = false := by decide) : PMk X (.Call (.Name x p) [] [] pos) (tMkErr C [] tNil) := by
  intro pins s z H Q I h
  obtain ⟨hl, q0, q1⟩ := h
  refine wpAny_Call_Name_kw (ld_glob I hg hm ?_ hdb)
  exact PySem.W.callWith_K0 I.kIn T.kC (mk_err (us := []) T hr I .nil hl q0 q1)
/-- isinstance(e, c), e an error that is pinned -/
theorem call_isErrP {a : Addr} {oe : Obj} {cls : Value} {d : Option Addr} (hp : (a, oe) ∈ X.pn) (hz : Zc cls d oe) (hf : ∃ vs, oe.data = .fields vs) : CallR X (.builtin "isinstance") (rIsErr X.K a cls d) := by
  intro pins s z H xs us Q I r h
  obtain ⟨D, c, cv, b, rfl, T, rfl, hcv, e, hd, q⟩ := h
  cases r with
  | cons rx rr =>
    cases rr with
    | cons rt rr =>
      cases rr
      cases rx
      have ec := hcv _ rt
      subst ec
      obtain ⟨hget, _⟩ := I.pin (a, oe) (List.mem_append.mpr (.inl hp))
      obtain ⟨vs, hv⟩ := hf
      have nc : PySem.W.notCls oe = true := by unfold PySem.W.notCls; rw [hv] <;> rfl
      have J : ∃ od, PySem.W.InstAt s.heap a oe D od := by
        rcases hd with rfl | ⟨dd, fvs, rfl, hx⟩
        · exact ⟨none, hget, hz.1, nc, by rw [hz.2]; trivial⟩
        · have hx' : ObjOk X.prog X.w H s.heap dd (.xd fvs) := I.hok dd _ hx
          obtain ⟨mA, ⟨od, es, ep, ho, _⟩, hr⟩ := hx'
          exact ⟨some od, hget, hz.1, nc, by rw [hz.2]; exact ho⟩
      obtain ⟨od, J⟩ := J
      exact PySem.W.kia_one (PySem.W.kitx_exc T.hcl T.hga T.hgt T.hsub T.ha T.hn T.htk T.hm) I.kIn J e (fun z => nomatch z) fun tk => ⟨.bl b, H, I.kept (t' := tk) fun _ _ z => z, rfl, q⟩
/-- a def that may raise, called in a try's body -/
theorem pe_callXS {CX : CXT} {k : Nat} {ps : List Str} {sp : Sp} {E : L2.St → XK} {p pos : Pos} {e : Expr} {es : List Expr} {t : TA} (F : FnX X.prog X.w X.K X.mg X.base CX k x ps [] sp) (hr : Room k X.A) (hx : ∀ z, PassesAt CX X z (E z)) (ha : PA X (e :: es) t) (hg : Gl X x := by rfl) (hdb : (x == ("__debug__" : Str)) = false := by decide)
    (he : starEach (e :: es) X.env = (false, eval e X.env) :: starEach es X.env := by rfl) (hpl : (backTo pos (starEach es X.env)).any (·.1) = false := by rfl) : PE X (.Call (.Name x p) (e :: es) [] pos) (tCallS sp E t) := by
  obtain ⟨f, fd, dvs, hm, kp, b, vd, G⟩ := F.ex
  cases vd
  exact pe_callS G hr hg hm kp b hx ha hdb he hpl
/-- a def that got the pinned error: its body's walk, entered with the pin -/
theorem run_pin {N ps : List Str} {st : Stmt} {f : Addr} {fd : FuncData} {k : Nat} {p : Addr × Obj} {pins : List (Addr × Obj)} {z : L2.St} {H : Hp} {s : Shared} {us : List Value} {vs : List V} {Q : VK} {y : Str}
    (F : FunD X.K y y (defArgs st) (defBody st) (defScope st) [] [] f fd) (S : FnScope N ps (defScope st)) (hl : vs.length = ps.length) (hb : Binds X.K fd ps []) (hr : L2H.RoomH (k + 1) X.A) (hp : p ∈ X.pn) (I : Inv X pins z H s) (r : Vals vs us)
    (hbody : ∀ (cdv : Value), L2H.RoomH k (X.A.deeper (envOfC y (defScope st) s.heap.objs.size f cdv)) →
      ∃ t, PSs (L2H.cxH CX0 X.prog X.w X.K X.mg X.base N y (defScope st) f cdv X.A X.stack s H E0 p) (defBody st) t ∧ t { nx := fun _ H' => Q .non H', rt := Q } (start N vs) H) :
    wpAny (model X.prog X.w) X.A (call (.ref f) us) (EP X pins z Q) X.xe s := by
  obtain ⟨oc, od, dV, kV, doc, pm, an, cdv, ct, osl, rfl, lk, hcd, _, _⟩ := F.ex
  have b := hb s us I.kIn (by rw [List.append_nil, ← r.length]; exact hl)
  rw [List.append_nil] at b
  have P1 := I.pin p (List.mem_append_left _ hp)
  have hpin : L2H.PinOk X.stack H s p := ⟨P1.1, P1.2.1, fun hm => by
    rcases List.mem_cons.mp (I.stkSub p.1 hm) with e | e
    · exact P1.2.2.1 e
    · exact P1.2.2.2.1 e, P1.2.2.2.2⟩
  have e0 := I.env0
  have KX : X.K.In s.heap := e0.mod.kin.keeps fun _ _ e => (e0.bs _ _ e).1
  have lim : s.heap.NoLimit := e0.mod.nolimit.keeps fun _ _ e => (e0.bs _ _ e).1
  have hk2 : ∀ q ∈ ps.zip us, (defScope st).names.lookup q.1 = some .local ∨ ((defScope st).names.lookup q.1 = some .cell ∧ ((cellsFrom (s.heap.objs.size + 1) (defScope st).names []).lookup q.1).isSome = true) := by
    rintro ⟨n, v⟩ hq
    rcases S.par n (List.of_mem_zip hq).1 with e | e
    · exact .inl e
    · exact .inr ⟨e, PySem.W.cellsFrom_some _ _ _ (.inl e)⟩
  have rc : codeAny (model X.prog X.w) X.A (.call (.ref f) ⟨us, []⟩) (CR CX0 X.stack X.prog X.w H s Q E0) s := by
    refine codeAny_call_function hr.depth (KX _ _ lk) rfl S.co S.gen rfl (PySem.W.codeRec_of KX hcd) (b _ _ _ _ (wpAny_newFunctionEnv_cells S.kind hk2 fun env he s1 x => ?_))
    subst he
    refine ⟨lim.keeps x.toInCall.keep, codeAny_func ?_⟩
    obtain ⟨t, ht, hq⟩ := hbody cdv (hr.deeper _)
    have J := L2H.inv_startH (CX := CX0) (E := E0) (f := f) (cd := cdv) S hpin e0 hl r x
    refine wpAny_mono (ht.run [] s1 (start N vs) H _ J hq) (fun fl s' hs => ?_) fun e s' hs => hs
    cases fl with
    | ret u =>
      obtain ⟨v, z', H', J', rv, q⟩ := hs
      exact ⟨v, H', J'.os, J'.bare, J'.base, J'.hok, rv, q⟩
    | next =>
      obtain ⟨z', H', J', q⟩ := hs
      exact ⟨V.non, H', J'.os, J'.bare, J'.base, J'.hok, rfl, q⟩
    | brk =>
      obtain ⟨_, _, _, q⟩ := hs
      exact q.elim
    | cont =>
      obtain ⟨_, _, _, q⟩ := hs
      exact q.elim
  refine wpAny_call (codeAny_mono rc fun r s' hq => ?_)
  cases r with
  | error e => exact (show False from hq).elim
  | ok fl =>
    cases fl with
    | ret u => exact I.after hq
    | next => exact False.elim hq
    | brk => exact False.elim hq
    | cont => exact False.elim hq
end
end L2


set_option Elab.async false
set_option linter.all false
set_option maxRecDepth 100000
set_option maxHeartbeats 4000000
/-! class X(Y): def __init__(self, ..): super().__init__(..) first, then the rest -/
namespace SupX
open PySem PySem.Spec PyProof.Rows L2 NdefX PySem.Calls PySem.HandSPX
def supCall (args : List Expr) (p0 p1 p2 p4 p5 : Pos) : Stmt := .Expr (.Call (.Attribute (.Call (.Name "super" p0) [] [] p1) "__init__" p2) args [] p4) p5
/-- what is known of the class at C, its __init__ at fI (function F), the __init__ above it at f0 -/
structure SupT (prog : Program) (K : PySem.W.Frag) (C fI f0 : Addr) (F : NF) (N ps : List Str) (e : Expr) (es : List Expr) (rest : List Stmt) : Prop where
  fn : ∃ (oc : Value) (od : Option Addr) (osl : Array (Option Value)) (doc pm ctv : Value), K.lookup fI = some ⟨oc, od, .func (F.fd doc pm ctv), osl⟩
  cd : PySem.W.codeIn K (.ref F.c) F.qual = true
  file : ∃ (ccl : Value) (cdd : Option Addr) (vs : Array Value) (ccs : Array (Option Value)) (f : Str) (tf : Tok), K.lookup F.c = some ⟨ccl, cdd, .fields vs, ccs⟩ ∧ vs[2]? = some (.str f tf) ∧ ((prog.main.file : Str) == f) = true
  cell : ∃ (cc : Addr) (cl : Value) (cld : Option Addr) (csl : Array (Option Value)), F.cl = [(("__class__" : Str), cc)] ∧ K.lookup cc = some ⟨cl, cld, .cell (some (.ref C)), csl⟩
  cls : ∃ cdD, PySem.W.clsIn K C = some cdD
  own : PySem.W.mroIn K C (.ref C) = some true
  sup : PySem.W.ks_superIn K C C "__init__" = some (some (.ref f0))
  fun0 : PySem.W.typeIn K (.ref f0) = some (.type "function")
  fn0 : PySem.W.fnIn K f0 = true
  opq : PySem.W.nsIn K cStatics "thirdparty.any" = some none
  gsup : PySem.W.nsIn K mainGlobals "super" = some none
  topN : (prog.main.scope.names.lookup ("super" : Str)).isSome = false
  sc : NScope N ps ["__class__"] F.scope
  ksup : F.scope.names.lookup ("super" : Str) = some .globalImplicit
  self : ps[0]? = some ("self" : Str) ∧ ∃ ar, (F.params.posonlyargs ++ F.params.args).head? = some ar ∧ ar.arg = "self"
  body : ∃ p0 p1 p2 p4 p5, F.body = supCall (e :: es) p0 p1 p2 p4 p5 :: rest ∧ ∀ env, (∃ pl, eval (.Call (.Attribute (.Call (.Name "super" p0) [] [] p1) "__init__" p2) (e :: es) [] p4) env = (do
      let ov ← attributeBase (.Call (.Name "super" p0) [] [] p1) "__init__" env (eval (.Call (.Name "super" p0) [] [] p1) env)
      standAt p2.atName
      let (f, first) ← holding [ov] (getMethod ov "__init__" pl)
      callWith p4 f first (backTo p4 (starEach (e :: es) env)) [])) ∧ starEach (e :: es) env = (false, eval e env) :: starEach es env ∧ (backTo p4 (starEach es env)).any (·.1) = false
  bind : ∀ (doc pm ctv : Value) (us : List Value), us.length = ps.length → bindArgs (F.fd doc pm ctv) ⟨us, []⟩ = pure (ps.zip us)
section
variable {P : Program} {w : World} {K : PySem.W.Frag} {mg : Str → Option Value} {base : Heap} {C fI f0 : Addr} {F : NF} {N ps ps0 : List Str} {e : Expr} {es : List Expr} {rest : List Stmt} {k : Nat} {fd0 : FuncData} {sp sp0 : Sp}
theorem sup_run {oc doc pm ctv : Value} {od : Option Addr} {osl : Array (Option Value)} (T : SupT P K C fI f0 F N ps e es rest) (lk : K.lookup fI = some ⟨oc, od, .func (F.fd doc pm ctv), osl⟩) (G : FnOk P w K mg base (L2.CX P w) k f0 fd0 ps0 sp0) (b0 : L2.Binds K fd0 ps0 [])
    {A : Around} {outer : List Env} {s : Shared} {H : Hp} {args : Args} {us : List Value} {vs : List V} {Q : VK} {E : XK} (hr : Room (k + 1) A) (e0 : Env0 P w K mg base A outer s H) (hb : BindsTo s (F.fd doc pm ctv) args (ps.zip us)) (r : Vals vs us) (hl : vs.length = ps.length)
    (hbody : ∃ x dx fs ta t, vs[0]? = some (.ref x) ∧ H x = some (.ins C dx fs) ∧ PA (ncx (L2.CX P w) P w K mg base N F fI A outer s H E) (e :: es) ta ∧ PSs (ncx (L2.CX P w) P w K mg base N F fI A outer s H E) rest t ∧
      ta (startF N vs [some (.ref C)]) H fun ys H1 => sp0 (.ref x :: ys) H1 (fun _ H2 => t { nx := fun _ H' => Q .non H', rt := Q } (startF N vs [some (.ref C)]) H2) E) :
    codeAny (model P w) A (.call (.ref fI) args) (CR (L2.CX P w) outer P w H s Q E) s := by
  obtain ⟨x, dx, fs, ta, t, hv0, hx, ha, ht, hq⟩ := hbody
  obtain ⟨ccl, cdd, vs2, ccs, fl, tfl, hcode, hvs, hfile⟩ := T.file
  obtain ⟨cc, cl, cld, csl, hcl, hcell⟩ := T.cell
  obtain ⟨cdD, hC⟩ := T.cls
  obtain ⟨hs0, ar, har, hara⟩ := T.self
  obtain ⟨p0, p1, p2, p4, p5, hbd, hev⟩ := T.body
  have S := T.sc
  have KX : K.In s.heap := e0.mod.kin.keeps fun _ _ q => (e0.bs _ _ q).1
  have lim : s.heap.NoLimit := e0.mod.nolimit.keeps fun _ _ q => (e0.bs _ _ q).1
  refine ks_codeAny_call_defAt (fd := F.fd doc pm ctv) (body := F.body) (binds := ps.zip us) hr.depth (KX _ _ lk) rfl lim (PySem.W.codeRec_of KX T.cd) rfl hb S.nocell (fun y hy => S.par _ (List.of_mem_zip hy).1) (fun h1 hns kp => ?_) S.co S.gen S.kind
  have CA : CellsAt F.cl ["__class__"] [some (.ref C)] s.heap H := by
    have hcH : H cc = none := (e0.bs cc _ (e0.mod.kin _ _ hcell)).2
    have hic : s.heap.IsCell cc (some (.ref C)) := ⟨_, KX _ _ hcell, rfl⟩
    rw [hcl]
    have look : ∀ y c, ([(("__class__" : Str), cc)] : List (Str × Addr)).lookup y = some c → y = ("__class__" : Str) ∧ c = cc := fun y c q => by
      have q2 := PySem.mem_of_lookup q
      have q3 := List.mem_singleton.mp q2
      injection q3 with q4 q5
      exact ⟨q4, q5⟩
    refine ⟨rfl, fun y c q => ?_, fun y z c q1 q2 => ?_, fun i y q => ?_⟩
    · obtain ⟨_, rfl⟩ := look y c q
      exact ⟨hcH, _, hic⟩
    · rw [(look y c q1).1, (look z c q2).1]
    · cases i with
      | zero =>
        cases q
        exact ⟨cc, rfl, fun v hv => by cases hv; exact ⟨_, rfl, hic⟩⟩
      | succ j => simp at q
  have I : Inv (ncx (L2.CX P w) P w K mg base N F fI A outer s H E) [] (startF N vs [some (.ref C)]) H { s with heap := h1, toks := s.toks + (ps.zip us).length } := inv_startN S hr.hd e0 hl r CA hns kp
  obtain ⟨⟨pl, hevl⟩, hst, hpl⟩ := hev (envF F fI s.heap.objs.size)
  rw [hbd]
  have hint : interactive (callEnv (F.fd doc pm ctv) s.heap.objs.size fI) = false := by
    show (F.scope.kind == .module && _) = false
    rw [S.kind]
    rfl
  refine ks_wpAt_execs_cons (ks_wpAt_Expr_any (ks_wpAt_MethodCall (pl := pl) ?_ hevl) hint)
  have X1 : K.In h1 := KX.keeps kp
  obtain ⟨oD, hD1, hD2⟩ : ∃ oD, K.lookup C = some oD ∧ oD.data = .cls cdD := by
    unfold PySem.W.clsIn at hC
    split at hC
    · rename_i c d cd' sl ho
      cases hC
      exact ⟨_, ho, rfl⟩
    · cases hC
  obtain ⟨mA, J, _⟩ := ins_get I.hok hx
  obtain ⟨odx, J, _⟩ := J.look
  have hkc : F.scope.names.lookup ("__class__" : Str) = some .free := S.frk _ List.mem_cons_self
  obtain ⟨u0, hu0, ru0⟩ := r.get hv0
  obtain rfl : u0 = Value.ref x := ru0
  have ndP : ps.Nodup := by
    have q := S.nd.sublist (List.take_sublist (ps.length + 1) N)
    have q2 : N.take (ps.length + 1) = ps ++ [("__class__" : Str)] := S.pre
    rw [q2] at q
    exact (List.nodup_append.mp q).1
  have hself : (ps.zip us).reverse.lookup ("self" : Str) = some (.ref x) := zip_look ndP hs0 hu0
  obtain ⟨mb, hmb, hmbv⟩ := e0.mod.blt
  have kb : ∀ b o, base.get? b = some o → h1.get? b = some o := fun b o q => kp _ _ (e0.bs b o q).1
  refine ks_wpAt_super_base (env := callEnv (F.fd doc pm ctv) s.heap.objs.size fI) T.ksup hkc (by decide) rfl (X1 _ _ lk) rfl har rfl (X1 _ _ hcode) rfl hvs hfile T.topN ?_
  refine PySem.W.ks_loadName_global S.kind T.ksup (loadGlobal_builtin (e0.mod.glob.keeps kb) (PySem.W.mg_none_of (e0.mod.kin) e0.mod.glob T.gsup) (hmb.keeps kb) ((hmbv _ (by decide +kernel)).trans (by first | boot_by_name | rfl | kernel_rfl)) ⟨rfl, ?_⟩)
  refine wpAny_loadName_free S.kind hkc (by show F.cl.lookup _ = _; rw [hcl]; rfl) ⟨_, X1 _ _ hcell, rfl⟩ ?_
  rw [hara]
  refine wpAny_loadName_local S.kind (S.par _ (List.mem_of_getElem? hs0)) hns hself ?_
  refine ks_wpAny_isType_cls (X1 _ _ hD1) hD2 ⟨rfl, ?_⟩
  refine ks_wpAny_call_super (X1 _ _ hD1) hD2 J.at_ J.cls (fun c z => by cases z) (PySem.W.looks_mroIn X1 T.own) (fun h2 hso k2 => ?_)
  have X2 : K.In h2 := X1.keeps k2
  have I2 := I.kept (t' := s.toks + (ps.zip us).length) k2
  obtain ⟨mA2, J2, _⟩ := ins_get I2.hok hx
  obtain ⟨odx2, J2, _⟩ := J2.look
  have hsup := T.sup
  unfold PySem.W.ks_superIn at hsup
  rw [hC] at hsup
  obtain ⟨of, hof, hofc⟩ : ∃ of, h2.get? f0 = some of ∧ of.cls = .type "function" := by
    have ht' : (K.lookup f0).map (·.cls) = some (.type "function") := T.fun0
    cases z : K.lookup f0 with
    | none => rw [z] at ht'; cases ht'
    | some of => rw [z] at ht'; exact ⟨of, X2 _ _ z, Option.some.inj ht'⟩
  refine ks_wpAny_getMethod_super hso (PySem.W.looks_opaque X2 T.opq) (l₀ := cdD.mro) ((PySem.W.looks_clsIn X2 hC).andThen .now) rfl X2 hsup hof hofc (PySem.W.ks_ne X2 J2 hC) (by decide) ?_
  have k3 : ∀ b o, h2.get? b = some o → (h2.push (PySem.W.methodObj (.ref f0) (.ref x))).get? b = some o := fun b o q => Heap.get?_push_of_some _ q
  have I3 := I2.kept (t' := s.toks + (ps.zip us).length + 1) k3
  have hmo : (h2.push (PySem.W.methodObj (.ref f0) (.ref x))).get? h2.objs.size = some (PySem.W.methodObj (.ref f0) (.ref x)) := Heap.get?_push_size _ rfl
  have hqn : H h2.objs.size = none := I2.hok.fresh (Nat.le_refl _)
  have I4 : Inv (ncx (L2.CX P w) P w K mg base N F fI A outer s H E) [(h2.objs.size, PySem.W.methodObj (.ref f0) (.ref x))] (startF N vs [some (.ref C)]) H { s with heap := h2.push (PySem.W.methodObj (.ref f0) (.ref x)), toks := s.toks + (ps.zip us).length + 1 } :=
    ⟨I3.ok, I3.os, I3.bare, I3.base, I3.loc, I3.cell, I3.free, I3.freeC, fun p hp => by
      have ep : p = (h2.objs.size, PySem.W.methodObj (.ref f0) (.ref x)) := by simpa using (show p ∈ ([] : List (Addr × Obj)) ++ [(h2.objs.size, PySem.W.methodObj (.ref f0) (.ref x))] from hp)
      subst ep
      exact ⟨hmo, hqn, fun z => by have q := I2.lt; rw [← z] at q; exact Nat.lt_irrefl _ q, fun z => I2.nofs (Nat.le_refl _) z, fun v z => by cases z⟩, I3.hok, I3.len⟩
  have go := ha.run p4 _ _ _ _ _ I4 hq
  rw [show starEach (e :: es) (ncx (L2.CX P w) P w K mg base N F fI A outer s H E).env = (false, eval e (envF F fI s.heap.objs.size)) :: starEach es (envF F fI s.heap.objs.size) from hst] at go
  show wpAny _ _ (callWith p4 (.ref h2.objs.size) [] (backTo p4 (starEach (e :: es) (envF F fI s.heap.objs.size))) []) _ _ _
  rw [hst]
  refine PySem.W.callWith_of (P := PySem.W.MethP K h2.objs.size f0 (.ref x)) (by show ((false || (backTo p4 (starEach es (envF F fI s.heap.objs.size))).any (·.1)) || false) = false; rw [hpl]; rfl) (PySem.W.keeps_M T.fn0) (evalArgs_plain (wpAny_mono go (fun us1 s1 hh => ?_) fun _ _ q => q))
  obtain ⟨vs1, H1, I5, r1, q1⟩ := hh
  have hm5 := (I5.pin (h2.objs.size, PySem.W.methodObj (.ref f0) (.ref x)) (by simp [ncx])).1
  refine ⟨⟨hm5, I5.kIn⟩, ?_⟩
  have hl0 : (Value.ref x :: us1).length = ps0.length := by
    have q := G.len _ _ _ _ q1
    have q2 := r1.length
    simp at q ⊢
    omega
  have b := b0 s1 (.ref x :: us1) I5.kIn (by rw [List.append_nil]; exact hl0)
  rw [List.append_nil] at b
  refine wpAny_call (ks_codeAny_call_bound hm5 (codeAny_mono (G.run (A.deeper (envF F fI s.heap.objs.size)) (envF F fI s.heap.objs.size :: outer) s1 H1 ⟨.ref x :: us1, []⟩ (.ref x :: us1) (.ref x :: vs1) _ E (hr.deeper _) I5.env0 b (.cons rfl r1) q1) fun r9 s9 h9 => ?_))
  have pass : Passes (L2.CX P w) (ncx (L2.CX P w) P w K mg base N F fI A outer s H E) E := passes_call (takes_of rfl rfl rfl rfl) (fun _ _ _ _ h => h)
  cases r9 with
  | error e9 => exact pass _ _ _ _ _ _ I5 h9
  | ok fl9 =>
    cases fl9 with
    | ret u9 =>
      obtain ⟨v9, H9, I9, rv9, q9⟩ := I5.after h9
      have I10 : Inv (ncx (L2.CX P w) P w K mg base N F fI A outer s H E) [] (startF N vs [some (.ref C)]) H9 s9 := ⟨I9.ok, I9.os, I9.bare, I9.base, I9.loc, I9.cell, I9.free, I9.freeC, (fun p hp => by cases (show p ∈ ([] : List (Addr × Obj)) ++ [] from hp)), I9.hok, I9.len⟩
      refine wpAt_of_wpAny (wpAny_mono (ht.run [] s9 _ H9 _ I10 q9) (fun f2 s2 hs2 => ?_) fun _ _ q => q)
      cases f2 with
      | ret u =>
        obtain ⟨v, z', H', J', rv, q⟩ := hs2
        exact ⟨v, H', J'.os, J'.bare, J'.base, J'.hok, rv, q⟩
      | next =>
        obtain ⟨z', H', J', q⟩ := hs2
        exact ⟨V.non, H', J'.os, J'.bare, J'.base, J'.hok, rfl, q⟩
      | brk =>
        obtain ⟨_, _, _, q⟩ := hs2
        exact q.elim
      | cont =>
        obtain ⟨_, _, _, q⟩ := hs2
        exact q.elim
    | next => exact h9.elim
    | brk => exact h9.elim
    | cont => exact h9.elim
/-- THE RULE for such an __init__ -/
theorem sup_ok (T : SupT P K C fI f0 F N ps e es rest) (G : FnOk P w K mg base (L2.CX P w) k f0 fd0 ps0 sp0) (b0 : L2.Binds K fd0 ps0 []) (len : ∀ vs H Q E, sp vs H Q E → vs.length = ps.length)
    (hbody : ∀ (A : Around) (outer : List Env) (s : Shared) (H : Hp) (vs : List V) (Q : VK) (E : XK), Room k (A.deeper (envF F fI s.heap.objs.size)) → sp vs H Q E →
      ∃ x dx fs ta t, vs[0]? = some (.ref x) ∧ H x = some (.ins C dx fs) ∧ PA (ncx (L2.CX P w) P w K mg base N F fI A outer s H E) (e :: es) ta ∧ PSs (ncx (L2.CX P w) P w K mg base N F fI A outer s H E) rest t ∧
      ta (startF N vs [some (.ref C)]) H fun ys H1 => sp0 (.ref x :: ys) H1 (fun _ H2 => t { nx := fun _ H' => Q .non H', rt := Q } (startF N vs [some (.ref C)]) H2) E) :
    ∃ doc pm ctv, FnOk P w K mg base (L2.CX P w) (k + 1) fI (F.fd doc pm ctv) ps sp ∧ L2.Binds K (F.fd doc pm ctv) ps [] := by
  obtain ⟨oc, od, osl, doc, pm, ctv, lk⟩ := T.fn
  refine ⟨doc, pm, ctv, ⟨len, fun A outer s H args us vs Q E hr e0 hb r hs => ?_⟩, ?_⟩
  · exact sup_run T lk G b0 hr e0 hb r (len _ _ _ _ hs) (hbody A outer s H vs Q E (hr.deeper _) hs)
  · exact .all (T.bind doc pm ctv)
end
end SupX


set_option Elab.async false
set_option linter.all false
set_option maxRecDepth 100000
set_option maxHeartbeats 4000000
/-! readings that make new objects alone: their value is known, the heap grows -/
namespace L2
open PySem PySem.Spec PyProof.Rows
def EvE (t : TE) (σ : St) (H : Hp) (v : V) : Prop := ∀ Q : VK, (∀ H', Same H H' → Q v H') → t σ H Q
def EvT (t : TT) (σ : St) (H : Hp) (b : Bool) : Prop := ∀ R : Bool → Hp → Prop, (∀ H', Same H H' → R b H') → t σ H R
def EvA (t : TA) (σ : St) (H : Hp) (vs : List V) : Prop := ∀ Q : List V → Hp → Prop, (∀ H', Same H H' → Q vs H') → t σ H Q
theorem Same.rf (H : Hp) : Same H H := fun _ _ h => h
theorem Same.tr {H H1 H2 : Hp} (a : Same H H1) (b : Same H1 H2) : Same H H2 := fun c o h => b c o (a c o h)
theorem Same.sql {K : PySem.W.Frag} {H H' : Hp} {a : Addr} {xs : List V} (e : Same H H') (h : SqL K H a xs) : SqL K H' a xs := by
  rcases h with (h | ⟨o, h⟩) | h
  · exact .inl (.inl (e _ _ h))
  · exact .inl (.inr ⟨o, e _ _ h⟩)
  · exact .inr h
section
variable {K : PySem.W.Frag} {σ : St} {H : Hp} {v x y : V} {a b c : TE} {t u : TT} {i : Nat} {p q : Addr} {xs vs : List V} {b1 b2 : Bool}
theorem ev_C : EvE (tC v) σ H v := fun Q h => h H (Same.rf H)
theorem ev_var (h : σ[i]? = some (some v)) : EvE (tVar i) σ H v := fun Q k => ⟨v, h, k H (Same.rf H)⟩
theorem ev_op {r : R2} (ha : EvE a σ H x) (hb : ∀ H1, Same H H1 → EvE b σ H1 y) (hr : ∀ H2, Same H H2 → ∀ Q : VK, Q v H2 → r x y H2 Q) : EvE (tOp r a b) σ H v :=
  fun Q k => ha _ fun H1 s1 => hb H1 s1 _ fun H2 s2 => hr H2 (s1.tr s2) Q (k H2 (s1.tr s2))
theorem ev_ixL {n : Int} (ha : EvE a σ H (.ref p)) (hb : ∀ H1, Same H H1 → EvE b σ H1 (.int n)) (hp : SqL K H p xs) (hi : atI xs n = some v) : EvE (tOp (rIxL K) a b) σ H v :=
  ev_op ha hb fun H2 s2 Q q => ⟨p, xs, n, v, rfl, rfl, s2.sql hp, hi, q⟩
theorem ev_ixT {n : Int} (ha : EvE a σ H (.ref p)) (hb : ∀ H1, Same H H1 → EvE b σ H1 (.int n)) (hp : SqT K H p xs) (hi : atI xs n = some v) : EvE (tOp (rIxT K) a b) σ H v :=
  ev_op ha hb fun H2 s2 Q q => ⟨p, xs, n, v, rfl, rfl, s2.seqT hp, hi, q⟩
theorem ev_eq (ha : EvE a σ H x) (hb : ∀ H1, Same H H1 → EvE b σ H1 y) (hs : scal x y = true) : EvE (tOp rEq a b) σ H (.bl (decide (x = y))) :=
  ev_op ha hb fun H2 s2 Q q => ⟨hs, q⟩
theorem ev_ne (ha : EvE a σ H x) (hb : ∀ H1, Same H H1 → EvE b σ H1 y) (hs : scal x y = true) : EvE (tOp rNe a b) σ H (.bl !(decide (x = y))) :=
  ev_op ha hb fun H2 s2 Q q => ⟨hs, q⟩
theorem ev_in {z : Str} {ns : List Str} (ha : EvE a σ H (.str z)) (hb : ∀ H1, Same H H1 → ∀ Q : VK, (∀ H2 q, Same H1 H2 → SqL K H2 q (ns.map V.str) ∨ SqT K H2 q (ns.map V.str) → Q (.ref q) H2) → b σ H1 Q) : EvE (tOp (rIn K false) a b) σ H (.bl (decide (z ∈ ns))) :=
  fun Q k => ha _ fun H1 s1 => hb H1 s1 _ fun H2 q s2 hq => ⟨q, _, rfl, hq, rfl, flat_strs ns, by rw [inV_str]; exact k H2 (s1.tr s2)⟩
theorem ev_notin {z : Str} {ns : List Str} (ha : EvE a σ H (.str z)) (hb : ∀ H1, Same H H1 → ∀ Q : VK, (∀ H2 q, Same H1 H2 → SqL K H2 q (ns.map V.str) ∨ SqT K H2 q (ns.map V.str) → Q (.ref q) H2) → b σ H1 Q) : EvE (tOp (rIn K true) a b) σ H (.bl (!decide (z ∈ ns))) :=
  fun Q k => ha _ fun H1 s1 => hb H1 s1 _ fun H2 q s2 hq => ⟨q, _, rfl, hq, rfl, flat_strs ns, by rw [inV_str]; exact k H2 (s1.tr s2)⟩
theorem ev_isN {r : R2} (ha : EvE a σ H x) (hr : ∀ H2 Q, Q (.bl b1) H2 → r x .non H2 Q) : EvE (tOp r a (tC .non)) σ H (.bl b1) := ev_op ha (fun _ _ => ev_C) fun H2 _ Q q => hr H2 Q q
theorem ev_test (ha : EvE a σ H (.bl b1)) : EvT (tTest a) σ H b1 := fun R k => ha _ fun H1 s1 => ⟨b1, rfl, k H1 s1⟩
theorem ev_tB (ha : EvE a σ H (.bl b1)) : EvT (tB a) σ H b1 := fun R k => ha _ fun H1 s1 => ⟨b1, rfl, k H1 s1⟩
theorem ev_and (ht : EvT t σ H b1) (hu : b1 = true → ∀ H1, Same H H1 → EvT u σ H1 b2) : EvT (tAnd t u) σ H (b1 && b2) := by
  intro R k
  refine ht _ fun H1 s1 => ?_
  cases b1 with
  | true => exact iteT (hu rfl H1 s1 _ fun H2 s2 => k H2 (s1.tr s2))
  | false => exact iteF (k H1 s1)
theorem ev_or (ht : EvT t σ H b1) (hu : b1 = false → ∀ H1, Same H H1 → EvT u σ H1 b2) : EvT (tOr t u) σ H (b1 || b2) := by
  intro R k
  refine ht _ fun H1 s1 => ?_
  cases b1 with
  | true => exact iteT (k H1 s1)
  | false => exact iteF (hu rfl H1 s1 _ fun H2 s2 => k H2 (s1.tr s2))
theorem ev_not (ht : EvT t σ H b1) : EvT (tNot t) σ H (!b1) := fun R k => ht _ fun H1 s1 => k H1 s1
theorem ev_nil : EvA tNil σ H [] := fun Q k => k H (Same.rf H)
theorem ev_cons {ts : TA} (ha : EvE a σ H x) (hs : ∀ H1, Same H H1 → EvA ts σ H1 vs) : EvA (tCons a ts) σ H (x :: vs) :=
  fun Q k => ha _ fun H1 s1 => hs H1 s1 _ fun H2 s2 => k H2 (s1.tr s2)
theorem ev_len {ta : TA} (ha : EvA ta σ H [.ref p]) (hp : SqL K H p xs ∨ SqT K H p xs) : EvE (tCB (fun xs H Q => ∃ p ys, xs = [V.ref p] ∧ (SqL K H p ys ∨ SqT K H p ys) ∧ Q (.int (ys.length : Nat)) H) ta) σ H (.int (xs.length : Nat)) :=
  fun Q k => ha _ fun H1 s1 => ⟨p, xs, rfl, hp.imp s1.sql s1.seqT, k H1 s1⟩
theorem ev_fld {C dx : Addr} {fs : List (Str × V)} {f : Str} (ha : EvE a σ H (.ref p)) (hx : H p = some (.ins C dx fs)) (hc : Cls K C) (hn : NoAttr K C f) (hl : fs.lookup f = some v) : EvE (tFld K a f) σ H v :=
  fun Q k => ha _ fun H1 s1 => ⟨p, C, dx, fs, v, rfl, s1 _ _ hx, hc, hn, hl, k H1 s1⟩
theorem ev_if (ht : EvT t σ H b1) (h1 : b1 = true → ∀ H1, Same H H1 → EvE a σ H1 v) (h2 : b1 = false → ∀ H1, Same H H1 → EvE b σ H1 v) : EvE (tIf t a b) σ H v := by
  intro Q k
  refine ht _ fun H1 s1 => ?_
  cases b1 with
  | true => exact iteT (h1 rfl H1 s1 _ fun H2 s2 => k H2 (s1.tr s2))
  | false => exact iteF (h2 rfl H1 s1 _ fun H2 s2 => k H2 (s1.tr s2))
theorem ev_andV (ha : EvE a σ H (.bl b1)) (hb : b1 = true → ∀ H1, Same H H1 → EvE b σ H1 (.bl b2)) : EvE (tAndV a b) σ H (.bl (b1 && b2)) := by
  intro Q k
  refine ha _ fun H1 s1 => ⟨b1, rfl, ?_⟩
  cases b1 with
  | true => exact iteT (hb rfl H1 s1 _ fun H2 s2 => k H2 (s1.tr s2))
  | false => exact iteF (k H1 s1)
theorem szL {n : Nat} (h : Nat.ble n 1000 = true) : n ≤ sizeLine := by
  have q : sizeLine = 16777216 := sizeLine_eq
  have := Nat.le_of_ble_eq_true h
  omega
/-- a tuple or list that is made anew -/
theorem mk_tup {ta : TA} (ha : EvA ta σ H vs) {Q : VK} (k : ∀ H' T, Same H H' → H T = none → H' T = some (.tup vs) → Q (.ref T) H') (hl : Nat.ble vs.length 1000 = true := by rfl) : tTup ta σ H Q :=
  ha _ fun H1 s1 => ⟨szL hl, fun T hT => k _ T (s1.tr (Same.new hT)) (by cases e : H T with | none => rfl | some o => rw [s1 _ _ e] at hT; cases hT) upd_same⟩
theorem mk_lst {ta : TA} (ha : EvA ta σ H vs) {Q : VK} (k : ∀ H' T, Same H H' → H T = none → H' T = some (.lst vs) → Q (.ref T) H') (hl : Nat.ble vs.length 1000 = true := by rfl) : tLst ta σ H Q :=
  ha _ fun H1 s1 => ⟨szL hl, fun T hT => k _ T (s1.tr (Same.new hT)) (by cases e : H T with | none => rfl | some o => rw [s1 _ _ e] at hT; cases hT) upd_same⟩
/-- the names of a tuple display, of a tuple at the top -/
theorem in_tup {ta : TA} {ns : List Str} (ha : ∀ H, EvA ta σ H (ns.map V.str)) (hl : Nat.ble (ns.map V.str).length 1000 = true := by rfl) : ∀ H1, Same H H1 → ∀ Q : VK, (∀ H2 q, Same H1 H2 → SqL K H2 q (ns.map V.str) ∨ SqT K H2 q (ns.map V.str) → Q (.ref q) H2) → tTup ta σ H1 Q :=
  fun H1 _ Q k => mk_tup (ha H1) (fun H2 T s2 _ hT => k H2 T s2 (.inr (.inl (.inl hT)))) hl
theorem in_top {ns : List Str} (h : ∀ H, SqT K H q (ns.map V.str)) : ∀ H1, Same H H1 → ∀ Q : VK, (∀ H2 q, Same H1 H2 → SqL K H2 q (ns.map V.str) ∨ SqT K H2 q (ns.map V.str) → Q (.ref q) H2) → (tC (.ref q)) σ H1 Q :=
  fun H1 _ Q k => k H1 q (Same.rf _) (.inr (h H1))
theorem seq_if {s r : TS} {D : Ends} (hc : EvT t σ H b1) (h1 : b1 = true → ∀ H1, Same H H1 → s { nx := r D, rt := D.rt, bk := D.bk, ct := D.ct } σ H1) (h2 : b1 = false → ∀ H1, Same H H1 → r D σ H1) : tSeq (tIfS t s tNext) r D σ H := by
  refine hc _ fun H1 s1 => ?_
  cases b1 with
  | true => exact iteT (h1 rfl H1 s1)
  | false => exact iteF (h2 rfl H1 s1)
theorem do_if {s r : TS} {D : Ends} (hc : EvT t σ H b1) (h1 : b1 = true → ∀ H1, Same H H1 → s D σ H1) (h2 : b1 = false → ∀ H1, Same H H1 → r D σ H1) : tIfS t s r D σ H := by
  refine hc _ fun H1 s1 => ?_
  cases b1 with
  | true => exact iteT (h1 rfl H1 s1)
  | false => exact iteF (h2 rfl H1 s1)
theorem do_set {s : TS} {D : Ends} (ha : EvE a σ H x) (k : ∀ H1, Same H H1 → s D (σ.set i (some x)) H1) : tSeq (tAsg a (gName i)) s D σ H := ha _ fun H1 s1 => k H1 s1
end
theorem dcS {x y : Str} : decide (V.str x = V.str y) = decide (x = y) := by
  by_cases e : x = y
  · rw [e]; simp
  · rw [decide_eq_false e, decide_eq_false (fun k => e (V.str.inj k))]
theorem dcI {x y : Int} : decide (V.int x = V.int y) = decide (x = y) := by
  by_cases e : x = y
  · rw [e]; simp
  · rw [decide_eq_false e, decide_eq_false (fun k => e (V.int.inj k))]
theorem dcN {x y : Nat} : decide (V.int (x : Int) = V.int (y : Int)) = decide (x = y) := by
  rw [dcI]
  by_cases e : x = y
  · rw [e]; simp
  · rw [decide_eq_false e, decide_eq_false (by omega)]
theorem eq_str {a b : TE} {σ : St} {H : Hp} {x y : Str} (ha : EvE a σ H (.str x)) (hb : ∀ H1, Same H H1 → EvE b σ H1 (.str y)) : EvT (tTest (tOp rEq a b)) σ H (decide (x = y)) := by
  rw [← dcS]
  exact ev_test (ev_eq ha hb rfl)
theorem ne_str {a b : TE} {σ : St} {H : Hp} {x y : Str} (ha : EvE a σ H (.str x)) (hb : ∀ H1, Same H H1 → EvE b σ H1 (.str y)) : EvT (tTest (tOp rNe a b)) σ H (!decide (x = y)) := by
  rw [← dcS]
  exact ev_test (ev_ne ha hb rfl)
theorem eq_nat {a b : TE} {σ : St} {H : Hp} {x y : Nat} (ha : EvE a σ H (.int (x : Int))) (hb : ∀ H1, Same H H1 → EvE b σ H1 (.int (y : Int))) : EvT (tTest (tOp rEq a b)) σ H (decide (x = y)) := by
  rw [← dcN]
  exact ev_test (ev_eq ha hb rfl)
theorem at_word {ws : List Str} {i : Nat} (h : i < ws.length) : atI (ws.map V.str) (i : Int) = some (.str (ws.getD i "")) := by
  refine atI_nat ?_
  rw [List.getElem?_map, List.getD_eq_getElem?_getD, List.getElem?_eq_getElem h]
  rfl
/-- words[i] -/
theorem ev_word {K : PySem.W.Frag} {a : TE} {σ : St} {H : Hp} {p : Addr} {ws : List Str} {i : Nat} (ha : EvE a σ H (.ref p)) (hp : SqL K H p (ws.map V.str)) (h : i < ws.length) : EvE (tOp (rIxL K) a (tC (.int (i : Int)))) σ H (.str (ws.getD i "")) :=
  ev_ixL ha (fun _ _ => ev_C) hp (at_word h)
end L2


set_option Elab.async false
set_option linter.all false
set_option maxRecDepth 100000
set_option maxHeartbeats 4000000
namespace L2
open PySem PySem.Spec PyProof.Rows
theorem dpStrs {K : PySem.W.Frag} {H : Hp} : ∀ cs : List Str, DpAll K H (cs.map V.str) (cs.map PyData.str)
  | [] => .nil
  | c :: r => .cons (.str c) (dpStrs r)
theorem cl_strs : ∀ cs : List Str, PyData.canLayAll0 (cs.map PyData.str) = cs.all PyData.strOk
  | [] => rfl
  | c :: r => by
    show (PyData.canLay0 (.str c) && PyData.canLayAll0 (r.map PyData.str)) = (PyData.strOk c && r.all PyData.strOk)
    rw [cl_strs r]
    rfl
theorem dp_strs : ∀ cs : List Str, PyData.depthAll (cs.map PyData.str) = 0
  | [] => rfl
  | c :: r => by
    show max (PyData.depth (.str c)) (PyData.depthAll (r.map PyData.str)) = 0
    rw [dp_strs r]
    rfl
theorem shaped_strs {cs : List Str} (h : cs.all PyData.strOk = true) : SeqAt.shaped (.list (cs.map PyData.str)) = true := by
  show (PyData.canLayAll0 (cs.map PyData.str) && decide (PyData.depthAll (cs.map PyData.str) + 1 ≤ 64)) = true
  rw [cl_strs, dp_strs, h]
  rfl
theorem eqv_all : ∀ a b : List Str, PyData.eqvAll (a.map PyData.str) (b.map PyData.str) = decide (a = b)
  | [], [] => by simp [PyData.eqvAll]
  | x :: xs, [] => by simp [PyData.eqvAll]
  | [], y :: ys => by simp [PyData.eqvAll]
  | x :: xs, y :: ys => by
    simp only [List.map_cons, PyData.eqvAll, PyData.eqv]
    rw [eqv_all xs ys]
    by_cases e : x = y
    · subst e; simp
    · have : (x == y) = false := by simpa using e
      rw [this, Bool.false_and]
      simp [e]
theorem eqv_strs (a b : List Str) : PyData.eqv (.list (a.map PyData.str)) (.list (b.map PyData.str)) = decide (a = b) := by
  show PyData.eqvAll _ _ = _
  exact eqv_all a b
/-- x in a tuple, both deep -/
def rInT (K : PySem.W.Frag) : R2 := fun x y H Q => ∃ d ds, Dp K H x d ∧ Dp K H y (.tuple ds) ∧ SeqAt.shaped d = true ∧ SeqAt.shaped (.tuple ds) = true ∧ Q (.bl (ds.any fun z => PyData.eqv z d)) H
theorem op_inT {X : Cx} (hu : X.A.units + 65 < cLine) : OpR X (compareOp .In) (rInT X.K) := by
  intro pins s σ H x y v u Q I rx ry h
  obtain ⟨d, ds, hd, he, sd, se, q⟩ := h
  obtain ⟨as, r1⟩ := Dp.reads I d x v hd rx
  obtain ⟨bs, r2⟩ := Dp.reads I (.tuple ds) y u he ry
  exact SeqAt.in_tuple_reads r2 r1 (SeqAt.canLay_of_shaped se) (SeqAt.canLay_of_shaped sd) (room_in_shaped sd hu) ⟨.bl _, H, I, rfl, q⟩
section
variable {K : PySem.W.Frag} {σ : St} {H : Hp} {a b c : TE} {p q : Addr} {ws zs z2 : List Str}
/-- a list of texts == a list display of texts -/
theorem ev_eqL (ha : EvE a σ H (.ref p)) (hp : SqL K H p (ws.map V.str)) (ho : ws.all PyData.strOk = true) {tb : TA} (hb : ∀ H, EvA tb σ H (zs.map V.str)) (hz : zs.all PyData.strOk = true) (hl : Nat.ble (zs.map V.str).length 1000 = true := by rfl) : EvT (tTest (tOp (rEqD K) a (tLst tb))) σ H (decide (ws = zs)) := by
  refine ev_test fun Q k => ha _ fun H1 s1 => mk_lst (hb H1) (fun H2 T s2 _ hT => ?_) hl
  refine ⟨_, _, .lst ((s1.tr s2).sql hp) (dpStrs ws), .lst (.inl (.inl hT)) (dpStrs zs), shaped_strs ho, shaped_strs hz, ?_⟩
  rw [eqv_strs]
  exact k _ (s1.tr s2)
/-- a list of texts in a tuple display of two lists of texts -/
theorem ev_inL2 (ha : EvE a σ H (.ref p)) (hp : SqL K H p (ws.map V.str)) (ho : ws.all PyData.strOk = true) {t1 t2 : TA} (h1 : ∀ H, EvA t1 σ H (zs.map V.str)) (h2 : ∀ H, EvA t2 σ H (z2.map V.str)) (o1 : zs.all PyData.strOk = true) (o2 : z2.all PyData.strOk = true)
    (l1 : Nat.ble (zs.map V.str).length 1000 = true := by rfl) (l2 : Nat.ble (z2.map V.str).length 1000 = true := by rfl) : EvT (tTest (tOp (rInT K) a (tTup (tCons (tLst t1) (tCons (tLst t2) tNil))))) σ H (decide (ws = zs) || decide (ws = z2)) := by
  refine ev_test fun Q k => ha _ fun H1 s1 => ?_
  dsimp only [tTup, tCons, tNil]
  refine mk_lst (h1 H1) (fun H2 A s2 _ hA => ?_) l1
  refine mk_lst (h2 H2) (fun H3 B s3 _ hB => ?_) l2
  refine ⟨szL rfl, fun T hT => ?_⟩
  have s4 : Same H3 (upd H3 T (.tup [.ref A, .ref B])) := Same.new hT
  refine ⟨_, _, .lst ((((s1.tr s2).tr s3).tr s4).sql hp) (dpStrs ws), .tup (.inl (.inl upd_same)) (.cons (.lst (.inl (.inl (s4 _ _ (s3 _ _ hA)))) (dpStrs zs)) (.cons (.lst (.inl (.inl (s4 _ _ hB))) (dpStrs z2)) .nil)), shaped_strs ho, ?_, ?_⟩
  · show (PyData.canLayAll0 [.list (zs.map PyData.str), .list (z2.map PyData.str)] && decide (PyData.depthAll [.list (zs.map PyData.str), .list (z2.map PyData.str)] + 1 ≤ 64)) = true
    have e1 : PyData.canLayAll0 [.list (zs.map PyData.str), .list (z2.map PyData.str)] = (PyData.canLayAll0 (zs.map PyData.str) && (PyData.canLayAll0 (z2.map PyData.str) && true)) := rfl
    have e2 : PyData.depthAll [.list (zs.map PyData.str), .list (z2.map PyData.str)] = max (PyData.depthAll (zs.map PyData.str) + 1) (max (PyData.depthAll (z2.map PyData.str) + 1) 0) := rfl
    rw [e1, e2, cl_strs, cl_strs, dp_strs, dp_strs, o1, o2]
    rfl
  · simp only [List.any_cons, List.any_nil, Bool.or_false]
    rw [eqv_strs, eqv_strs]
    have f1 : decide (zs = ws) = decide (ws = zs) := by simp [eq_comm]
    have f2 : decide (z2 = ws) = decide (ws = z2) := by simp [eq_comm]
    rw [f1, f2]
    exact k _ (((s1.tr s2).tr s3).tr s4)
end
end L2
namespace L2
open PySem PySem.Spec PyProof.Rows
theorem Room.u65 {k : Nat} {A : Around} (h : Room k A) : A.units + 65 < cLine := by have := h.un; omega
theorem Room.u1 {k : Nat} {A : Around} (h : Room k A) : A.units + 1 < cLine := by have := h.un; omega
end L2
namespace L2
open PySem PySem.Spec PyProof.Rows
section
variable {K : PySem.W.Frag} {te : TE} {g : TG} {tb : TS} {D : Ends} {σ : St} {H : Hp}
/-- for .. in a tuple, a list: the sequence is known, then by an invariant -/
theorem for_in_tup (h : te σ H fun x H1 => ∃ (a : Addr) (xs : List V) (Pv : Nat → St → Hp → Prop), x = V.ref a ∧ SqT K H1 a xs ∧ Pv 0 σ H1 ∧ (∀ i σ H, i ≤ xs.length → Pv i σ H → SqT K H a xs) ∧
    (∀ i x σ H, xs[i]? = some x → Pv i σ H → g x σ H fun σ2 H2 => tb { nx := Pv (i + 1), rt := D.rt, bk := D.nx, ct := Pv (i + 1) } σ2 H2) ∧ (∀ σ H, Pv xs.length σ H → D.nx σ H))
    (mono : ∀ Q Q' : VK, (∀ v H1, Q v H1 → Q' v H1) → te σ H Q → te σ H Q') : tFor (iTup K te) g tb D σ H :=
  mono _ _ (fun v H1 ⟨a, xs, Pv, e, hs, h0, h1, h2, h3⟩ => ⟨a, e, ⟨xs, hs⟩, for_tup Pv h0 h1 h2 h3⟩) h
theorem for_in_list (h : te σ H fun x H1 => ∃ (a : Addr) (xs : List V) (Pv : Nat → St → Hp → Prop), x = V.ref a ∧ SqL K H1 a xs ∧ Pv 0 σ H1 ∧ (∀ i σ H, i ≤ xs.length → Pv i σ H → SqL K H a xs) ∧
    (∀ i x σ H, xs[i]? = some x → Pv i σ H → g x σ H fun σ2 H2 => tb { nx := Pv (i + 1), rt := D.rt, bk := D.nx, ct := Pv (i + 1) } σ2 H2) ∧ (∀ σ H, Pv xs.length σ H → D.nx σ H))
    (mono : ∀ Q Q' : VK, (∀ v H1, Q v H1 → Q' v H1) → te σ H Q → te σ H Q') : tFor (iList K te) g tb D σ H :=
  mono _ _ (fun v H1 ⟨a, xs, Pv, e, hs, h0, h1, h2, h3⟩ => ⟨a, e, ⟨xs, hs⟩, for_list Pv h0 h1 h2 h3⟩) h
end
/-- for .. in a list whose expression is known -/
theorem for_lst {K : PySem.W.Frag} {te : TE} {g : TG} {tb : TS} {D : Ends} {σ : St} {H : Hp} {a : Addr} {xs : List V} (Pv : Nat → St → Hp → Prop) (he : EvE te σ H (.ref a)) (hs : SqL K H a xs) (h0 : ∀ H1, Same H H1 → Pv 0 σ H1) (h1 : ∀ i σ H, i ≤ xs.length → Pv i σ H → SqL K H a xs)
    (h2 : ∀ i x σ H, xs[i]? = some x → Pv i σ H → g x σ H fun σ2 H2 => tb { nx := Pv (i + 1), rt := D.rt, bk := D.nx, ct := Pv (i + 1) } σ2 H2) (h3 : ∀ σ H, Pv xs.length σ H → D.nx σ H) : tFor (iList K te) g tb D σ H :=
  he _ fun H1 s1 => ⟨a, rfl, ⟨xs, s1.sql hs⟩, for_list Pv (h0 H1 s1) h1 h2 h3⟩
theorem for_tp {K : PySem.W.Frag} {te : TE} {g : TG} {tb : TS} {D : Ends} {σ : St} {H : Hp} {a : Addr} {xs : List V} (Pv : Nat → St → Hp → Prop) (he : EvE te σ H (.ref a)) (hs : SqT K H a xs) (h0 : ∀ H1, Same H H1 → Pv 0 σ H1) (h1 : ∀ i σ H, i ≤ xs.length → Pv i σ H → SqT K H a xs)
    (h2 : ∀ i x σ H, xs[i]? = some x → Pv i σ H → g x σ H fun σ2 H2 => tb { nx := Pv (i + 1), rt := D.rt, bk := D.nx, ct := Pv (i + 1) } σ2 H2) (h3 : ∀ σ H, Pv xs.length σ H → D.nx σ H) : tFor (iTup K te) g tb D σ H :=
  he _ fun H1 s1 => ⟨a, rfl, ⟨xs, s1.seqT hs⟩, for_tup Pv (h0 H1 s1) h1 h2 h3⟩
/-- for .. in a tuple display -/
theorem for_disp {K : PySem.W.Frag} {ta : TA} {g : TG} {tb : TS} {D : Ends} {σ : St} {H : Hp} {xs : List V} (Pv : Nat → St → Hp → Prop) (ha : EvA ta σ H xs) (h0 : ∀ H1, Same H H1 → Pv 0 σ H1) (hm : ∀ i σ H1, Pv i σ H1 → Same H H1)
    (h2 : ∀ i x σ H, xs[i]? = some x → Pv i σ H → ∀ a, SqT K H a xs → g x σ H fun σ2 H2 => tb { nx := fun σ H => Pv (i + 1) σ H ∧ SqT K H a xs, rt := D.rt, bk := D.nx, ct := fun σ H => Pv (i + 1) σ H ∧ SqT K H a xs } σ2 H2) (h3 : ∀ σ H, Pv xs.length σ H → D.nx σ H) (hl : Nat.ble xs.length 1000 = true := by rfl) : tFor (iTup K (tTup ta)) g tb D σ H := by
  refine ha _ fun H1 s1 => ⟨szL hl, fun a hT => ⟨a, rfl, ⟨xs, .inl (.inl upd_same)⟩, ?_⟩⟩
  exact for_tup (fun i σ H => Pv i σ H ∧ SqT K H a xs) ⟨h0 _ (s1.tr (Same.new hT)), .inl (.inl upd_same)⟩ (fun i σ H _ k => k.2) (fun i x σ H hx k => h2 i x σ H hx k.1 a k.2) (fun σ H k => h3 σ H k.1)
end L2
namespace L2
open PySem PySem.Spec PyProof.Rows
section
variable {K : PySem.W.Frag} {σ : St} {H : Hp} {v : V} {a b : TE} {p C dx : Addr} {fs : List (Str × V)} {m : Str} {sp : Sp} {E : XK}
theorem ev_meth0 (ha : EvE a σ H (.ref p)) (hx : H p = some (.ins C dx fs)) (hl : fs.lookup m = none) (hs : ∀ H1 Q, Same H H1 → (∀ H', Same H1 H' → Q v H') → sp [.ref p] H1 Q E) : EvE (tMeth C m sp [] E a tNil) σ H v :=
  fun Q k => ha _ fun H1 s1 => ⟨p, dx, fs, rfl, s1 _ _ hx, hl, hs H1 Q s1 fun H' s2 => k H' (s1.tr s2)⟩
theorem ev_lt {i j : Int} (ha : EvE a σ H (.int i)) (hb : ∀ H1, Same H H1 → EvE b σ H1 (.int j)) : EvE (tOp (fun x y H Q => ∃ i j, x = V.int i ∧ y = V.int j ∧ Q (.bl (decide (i < j))) H) a b) σ H (.bl (decide (i < j))) :=
  ev_op ha hb fun H2 s2 Q q => ⟨i, j, rfl, rfl, q⟩
/-- text.split(" ") -/
theorem do_split {z y : Str} (ha : EvE a σ H (.str z)) (hy : (y.length == 0) = false) (hz : z.length + 2 ≤ sizeLine) {Q : VK} (k : ∀ H' q, Same H H' → H q = none → H' q = some (.lst ((Txt.split z y).map V.str)) → Q (.ref q) H') :
    tM1 (fun x xs H Q => ∃ a b, x = V.str a ∧ xs = [V.str b] ∧ (b.length == 0) = false ∧ a.length + 2 ≤ sizeLine ∧ rNewStrs (Txt.split a b) H Q) a (tC (.str y)) σ H Q :=
  ha _ fun H1 s1 => ⟨⟨z, rfl⟩, z, y, rfl, rfl, hy, hz, fun q hq => k _ q (s1.tr (Same.new hq)) (by cases e : H q with | none => rfl | some o => rw [s1 _ _ e] at hq; cases hq) upd_same⟩
theorem do_drop {s : TS} {D : Ends} {te : TE} (h : te σ H fun _ H1 => s D σ H1) : tSeq (tDrop te) s D σ H := h
theorem do_whl {c : TT} {tb : TS} {D : Ends} (W : Nat → St → Hp → Prop) {m0 : Nat} (h0 : W m0 σ H) (hs : ∀ m σ H, W m σ H → ∃ b, EvT c σ H b ∧ (b = true → ∀ H1, Same H H1 → tb { nx := fun σ' H' => ∃ m', m' < m ∧ W m' σ' H', rt := D.rt, bk := D.nx, ct := fun σ' H' => ∃ m', m' < m ∧ W m' σ' H' } σ H1) ∧ (b = false → ∀ H1, Same H H1 → D.nx σ H1)) : tWhile c tb D σ H := by
  refine ⟨W, ⟨m0, h0⟩, fun m σ H hw => ?_⟩
  obtain ⟨b, hc, h1, h2⟩ := hs m σ H hw
  refine hc _ fun H1 s1 => ?_
  cases b with
  | true => exact iteT ⟨_, fun _ _ h => h, h1 rfl H1 s1⟩
  | false => exact iteF (h2 rfl H1 s1)
theorem none_of {H H1 : Hp} {q : Addr} (s : Same H H1) (h : H1 q = none) : H q = none := by
  cases e : H q with
  | none => rfl
  | some o => rw [s _ _ e] at h; cases h
/-- all but the object at x stays -/
def SameX (x : Addr) (H H' : Hp) : Prop := ∀ b o, b ≠ x → H b = some o → H' b = some o
theorem Same.x {x : Addr} {H H' : Hp} (s : Same H H') : SameX x H H' := fun b o _ h => s b o h
theorem SameX.tr {x : Addr} {H H1 H2 : Hp} (a : SameX x H H1) (b : SameX x H1 H2) : SameX x H H2 := fun c o n h => b c o n (a c o n h)
theorem SameX.upd {x : Addr} {H H' : Hp} {o : HO} (a : SameX x H H') : SameX x H (upd H' x o) := fun c u n h => by rw [upd_ne n]; exact a c u n h
theorem SameX.mut {x p : Addr} {H H' : Hp} {o : HO} (a : SameX x H H') (h : H p = none) : SameX x H (L2.upd H' p o) := fun c u n q => by rw [upd_ne (ne_of_none q h)]; exact a c u n q
end
end L2
namespace L2
open PySem PySem.Spec PyProof.Rows
theorem set_lst {ta : TA} {s : TS} {D : Ends} {σ : St} {H : Hp} {vs : List V} {i : Nat} (ha : EvA ta σ H vs) (k : ∀ H' T, Same H H' → H T = none → H' T = some (.lst vs) → s D (σ.set i (some (.ref T))) H') (hl : Nat.ble vs.length 1000 = true := by rfl) : tSeq (tAsg (tLst ta) (gName i)) s D σ H :=
  ha _ fun H1 s1 => ⟨szL hl, fun T hT => k _ T (s1.tr (Same.new hT)) (none_of s1 hT) upd_same⟩
theorem set_tup {ta : TA} {s : TS} {D : Ends} {σ : St} {H : Hp} {vs : List V} {i : Nat} (ha : EvA ta σ H vs) (k : ∀ H' T, Same H H' → H T = none → H' T = some (.tup vs) → s D (σ.set i (some (.ref T))) H') (hl : Nat.ble vs.length 1000 = true := by rfl) : tSeq (tAsg (tTup ta) (gName i)) s D σ H :=
  ha _ fun H1 s1 => ⟨szL hl, fun T hT => k _ T (s1.tr (Same.new hT)) (none_of s1 hT) upd_same⟩
end L2
namespace L2
open PySem PySem.Spec PyProof.Rows
section
variable {σ : St} {H : Hp} {a : TE} {x : V}
theorem isN_t (ha : EvE a σ H .non) : EvT (tTest (tOp (fun x y H Q => y = V.non ∧ Q (V.bl (decide (x = V.non))) H) a (tC V.non))) σ H true := ev_test (ev_op ha (fun _ _ => ev_C) fun H2 _ Q q => ⟨rfl, q⟩)
theorem isN_f (ha : EvE a σ H x) (hx : x ≠ .non) : EvT (tTest (tOp (fun x y H Q => y = V.non ∧ Q (V.bl (decide (x = V.non))) H) a (tC V.non))) σ H false := ev_test (ev_op ha (fun _ _ => ev_C) fun H2 _ Q q => ⟨rfl, by rw [decide_eq_false hx]; exact q⟩)
end
end L2
namespace L2
theorem nm {i : Nat} {v : V} {σ : St} {H : Hp} {Q : St → Hp → Prop} (h : Q (σ.set i (some v)) H) : gName i v σ H Q := h
theorem nx_seq {t u : TS} {D : Ends} {σ : St} {H : Hp} {r : VK} {b c : St → Hp → Prop} (h : tSeq t u D σ H) : Ends.nx { nx := tSeq t u D, rt := r, bk := b, ct := c } σ H := h
end L2


set_option Elab.async false
set_option linter.all false
set_option maxRecDepth 100000
set_option maxHeartbeats 4000000
namespace L2
open PySem PySem.Spec PyProof.Rows
section
variable {X : Cx}
/-- name = {k: v for ..} on one line, the name a local -/
theorem ps_setDc {i : Nat} {y : Str} {py : Pos} {kx vx tg iter : Expr} {ifs : List Expr} {scope : Scope} {own : List (Str × Nat)} {pos spos : Pos} {wi : TI} {g : TG} {tt : TT} {tk tv : TE} (hc : X.calm = true) (hN : X.N.Nodup) (hy : X.N[i]? = some y) (hyl : X.env.scope.names.lookup y = some .local)
    (hsw : swapsWith (.DictComp kx vx [⟨tg, iter, ifs, 0⟩] scope pos) (some (.Name y py)) spos.line X.env = pure true) (hi : PI X tg iter wi) (ok : BlkOk X.N X.env.scope scope own)
    (hg : ∀ (s : Shared) (H : Hp) (C : Addr) (cl : List (Str × Addr)) (fp : List Addr), PG (X.blk s H scope (compEnvC scope cl C X.env) fp) tg g) (ht : ∀ (s : Shared) (H : Hp) (C : Addr) (cl : List (Str × Addr)) (fp : List Addr), PTs (X.blk s H scope (compEnvC scope cl C X.env) fp) ifs tt) (hk : ∀ (s : Shared) (H : Hp) (C : Addr) (cl : List (Str × Addr)) (fp : List Addr), PE (X.blk s H scope (compEnvC scope cl C X.env) fp) kx tk)
    (he : ∀ (s : Shared) (H : Hp) (C : Addr) (cl : List (Str × Addr)) (fp : List Addr), PE (X.blk s H scope (compEnvC scope cl C X.env) fp) vx tv) (hs : ∀ x, foldedSetIterable iter X.env x = pure x := by (intro _; rfl)) : PS X (.Assign [.Name y py] (.DictComp kx vx [⟨tg, iter, ifs, 0⟩] scope pos) spos) (tAsg (tDc wi g tt tk tv (own.map (·.2))) (gName i)) := by
  refine ⟨fun ps s0 z H0 D0 I0 h0 => ?_⟩
  rw [exec_Assign_Name_used _ _ _ _ hsw]; refine wpAny_bind (wpAny_standAt (wpAny_bind ?_))
  show wpAny _ X.A (do let _ ← comprehension (.DictComp kx vx [⟨tg, iter, ifs, 0⟩] scope pos) scope X.env (firstIterPos [⟨tg, iter, ifs, 0⟩] pos) newDict false (eval iter X.env) (some (assign (.Name y py) X.env))) _ _ s0
  have h1 : tDc wi g tt tk tv (own.map (·.2)) z H0 (fun x H1 => gName i x z H1 D0.nx) := h0
  refine wpAny_bind (thn (dc_core (Qf := fun _ s' => SP X ps D0 .next s') hc hN I0 hi ok hg ht hk he hs h1 fun L C s' m H' I' q hn f => ?_) fun _ s' hq => wpAny_pure (wpAny_pure hq))
  show wpAny _ _ (assign (.Name y py) X.env (.ref L)) _ _ _; refine wpAny_assign_Name (store_ok2 (v := V.ref L) I' hN hy (.inl hyl) rfl (fun s2 I2 ⟨a, sb, ha⟩ => ?_) (.inr hyl))
  obtain ⟨c0, c1, c2, c3, c4, c5⟩ := f
  have hCa : C ≠ a := by
    rcases ha with e | e
    · exact fun k => c1 (k.trans e)
    · exact fun k => c4 y a e k.symm
  exact ⟨m, hn.sameBut sb hCa, fun h3 sb3 => ⟨_, H', I2.turned (t' := s2.toks) (fun b o hb e => (sb3.2 b hb).trans e) c0 c1 c3 c4 c5, q⟩⟩
theorem swD_true {kx vx : Expr} {gs : List Comprehension} {scope : Scope} {pos py : Pos} {y : Str} {l : Nat} {env : Env} (hk : env.scope.kind = .function) (hy : env.scope.names.lookup y = some .local) (hl : (py.line == pos.line) = true)
    (ha : (scope.names.any fun (n, k) => n == y && (k == .local || k == .cell)) = false) : swapsWith (.DictComp kx vx gs scope pos) (some (.Name y py)) l env = pure true := by
  have e1 : env.blockKind = .function := by unfold Env.blockKind; rw [hk]; rfl
  have e2 : env.kindOf y = some .local := hy
  unfold swapsWith
  simp only [e1, e2, ha, Expr.pos, hl]; rfl
theorem ixT_at {X : Cx} {K : PySem.W.Frag} (h : X.K = K := by rfl) : IxR X (rIxT K) := by subst h; exact ix_tup
theorem ixL_at {X : Cx} {K : PySem.W.Frag} (h : X.K = K := by rfl) : IxR X (rIxL K) := by subst h; exact ix_list
theorem inS_at {X : Cx} {K : PySem.W.Frag} (h : X.K = K := by rfl) : OpR X (compareOp .In) (rIn K false) := by subst h; exact op_in_seq
theorem niS_at {X : Cx} {K : PySem.W.Frag} (h : X.K = K := by rfl) : OpR X (compareOp .NotIn) (rIn K true) := by subst h; exact op_notIn_seq
theorem fld_at {X : Cx} {K : PySem.W.Frag} {ta : TE} {e : Expr} {f : Str} {pos : Pos} (he : PE X (.Attribute e f pos) (tFld X.K ta f)) (h : X.K = K := by rfl) : PE X (.Attribute e f pos) (tFld K ta f) := by subst h; exact he
theorem piL_at {X : Cx} {K : PySem.W.Frag} {tg l : Expr} {tl : TE} (he : PE X l tl) (h : X.K = K := by rfl) : PI X tg l (iList K tl) := by subst h; exact pi_list he
theorem piT_at {X : Cx} {K : PySem.W.Frag} {tg l : Expr} {tl : TE} (he : PE X l tl) (h : X.K = K := by rfl) : PI X tg l (iTup K tl) := by subst h; exact pi_tup he
theorem set_ifV {t : TT} {A B : TE} {s : TS} {D : Ends} {z : St} {H : Hp} {i : Nat} {b : Bool} (ht : EvT t z H b) (R : V → Hp → Prop) (hA : b = true → ∀ H1, Same H H1 → ∀ Q : VK, (∀ v H2, R v H2 → Q v H2) → A z H1 Q) (hB : b = false → ∀ H1, Same H H1 → ∀ Q : VK, (∀ v H2, R v H2 → Q v H2) → B z H1 Q) (k : ∀ v H2, R v H2 → s D (z.set i (some v)) H2) : tSeq (tAsg (tIf t A B) (gName i)) s D z H := by
  refine ht _ fun H1 s1 => ?_
  cases b with
  | true => exact iteT (hA rfl H1 s1 _ k)
  | false => exact iteF (hB rfl H1 s1 _ k)
theorem cut1 (xs : List V) : cutV xs (some 1) none = xs.drop 1 := by
  have h : HT.sIx xs.length 0 (some 1) = min 1 xs.length := HT.sIx_nat _ _ 1
  have h2 : HT.sIx xs.length xs.length none = xs.length := rfl
  unfold cutV
  rw [h, h2]
  cases xs with
  | nil => rfl
  | cons x r =>
    have e : min 1 (x :: r).length = 1 := by simp
    rw [e]
    show r.take (r.length + 1 - 1) = r
    rw [Nat.add_sub_cancel]
    exact List.take_length
end
end L2


set_option Elab.async false
set_option linter.all false
set_option maxRecDepth 100000
set_option maxHeartbeats 4000000
namespace SupX
open PySem PySem.Spec PyProof.Rows L2 NdefX
/-- the arguments of super().__init__(..), the first statement of st's body -/
def supArgs (st : Stmt) : List Expr := match defBody st with
  | .Expr (.Call _ as _ _) _ :: _ => as
  | _ => []
def supE (st : Stmt) : Expr := match supArgs st with
  | e :: _ => e
  | [] => .Name "" ⟨0, 0, 0, 0⟩
def supEs (st : Stmt) : List Expr := (supArgs st).drop 1
def supR (st : Stmt) : List Stmt := (defBody st).drop 1
abbrev nfOf (q : Str) (st : Stmt) (cc c : Addr) : NF := ⟨"__init__", q, defArgs st, defBody st, defScope st, [("__class__", cc)], c⟩
/-- class x(y): the __init__ of x (statement st) calls that of y (statement s0) first -/
abbrev SupD (P : Program) (K : PySem.W.Frag) (x q q0 : Str) (st s0 : Stmt) (N ps : List Str) : Prop := ∃ f0 fd0 fI cc c, SupT P K (He.ga K x) fI f0 (nfOf q st cc c) N ps (supE st) (supEs st) (supR st) ∧ Mk K (He.ga K x) fI ∧ FunD K "__init__" q0 (defArgs s0) (defBody s0) (defScope s0) [] [] f0 fd0
end SupX


set_option Elab.async false
set_option linter.all false
set_option maxRecDepth 100000
set_option maxHeartbeats 4000000
/-! len(o), o[i] of an instance whose class has its own __len__, __getitem__ -/
namespace L2
open PySem PySem.Spec PyProof.Rows
section
variable {X : Cx} {CX : CXT} {k : Nat} {C : Addr} {ps : List Str} {sp : Sp} {E : XK} {m : Str}
/-- a method of C called by the machine, one step deeper -/
theorem run_in1 (F : MeX X.prog X.w X.K X.mg X.base CX k C m ps [] sp) (hr : Room (k + 1) X.A) (hx : Passes CX X E) {pins : List (Addr × Obj)} {z : St} {H : Hp} {s : Shared} {us : List Value} {vs : List V} {Q : VK} (I : Inv X pins z H s) (r : Vals vs us) (q : sp vs H Q E) :
    ∃ f, Meth X.K C m f ∧ wpAny (model X.prog X.w) X.A.in1 (call (.ref f) us) (EP X pins z Q) X.xe s := by
  obtain ⟨f, fd, dvs, c, mm, b, vd, G⟩ := F.ex
  cases vd
  refine ⟨f, mm, ?_⟩
  have hl := G.len _ _ _ _ q
  refine wpAny_call (codeAny_mono (G.run X.A.in1 X.stack s H ⟨us, []⟩ us vs Q E hr.in1 I.env0.in1 (by
    have := b s us I.kIn (by rw [List.append_nil, ← r.length]; exact hl)
    simpa using this) r q) fun r s' hq => ?_)
  cases r with
  | error e => exact hx pins z H s e s' I hq
  | ok fl =>
    cases fl with
    | ret w => exact I.after hq
    | next => exact False.elim hq
    | brk => exact False.elim hq
    | cont => exact False.elim hq
def rIxO (C : Addr) (sp : Sp) (E : XK) : R2 := fun x y H Q => ∃ a dx fs, x = .ref a ∧ H a = some (.ins C dx fs) ∧ sp [x, y] H Q E
theorem pe_ixO {a b : Expr} {ta tb : TE} {pos : Pos} (F : MeX X.prog X.w X.K X.mg X.base CX k C "__getitem__" ps [] sp) (hr : Room (k + 1) X.A) (hx : Passes CX X E) (hfn : ∀ f, PySem.W.findIn X.K (.ref C) "__getitem__" = some (some (.ref f)) → PySem.W.fnIn X.K f = true) (ha : PE X a ta) (hb : PE X b tb)
    (hs : ∀ x i, subscripted b true x i = runValue (.builtin "lifetime.subscript" ⟨[x, i], []⟩) := by (intro _ _; rfl)) : PE X (.Subscript a b pos) (tOp (rIxO C sp E) ta tb) := by
  refine ⟨fun pins s z H Q I h => ?_⟩
  refine Subscript_ (binT ha hb I h fun v u s2 x y H2 I2 rx ry q => ?_)
  obtain ⟨p, dx, fs, rfl, hp, q⟩ := q
  obtain rfl : v = Value.ref p := rx
  obtain ⟨mA, J, _⟩ := ins_get I2.hok hp
  obtain ⟨od, J, _⟩ := J.look
  obtain ⟨f, mm, go⟩ := run_in1 F hr hx I2 (us := [.ref p, u]) (vs := [.ref p, y]) (.cons rfl (.cons ry .nil)) q
  obtain ⟨mF, hF⟩ := I2.fr
  exact PySem.W.sub_K hF I2.ok.mod.kin J mm.at_ (hfn f mm.at_) mm.fn go (hs _ _)
def rLenO (C : Addr) (sp : Sp) (E : XK) : List V → Hp → VK → Prop := fun xs H Q => ∃ a dx fs, xs = [.ref a] ∧ H a = some (.ins C dx fs) ∧ sp [.ref a] H (fun v H' => ∃ n : Nat, v = .int (n : Nat) ∧ n ≤ 100000 ∧ Q (.int (n : Nat)) H') E
theorem call_lenO (F : MeX X.prog X.w X.K X.mg X.base CX k C "__len__" ps [] sp) (hr : Room (k + 1) X.A) (hx : Passes CX X E) : CallR X (.builtin "len") (rLenO C sp E) := by
  intro pins s z H xs us Q I r h
  obtain ⟨a, dx, fs, rfl, ha, q⟩ := h
  obtain ⟨u, rfl, ru⟩ := vals1 r
  obtain rfl : u = Value.ref a := ru
  obtain ⟨mA, J, _⟩ := ins_get I.hok ha
  obtain ⟨od, J, _⟩ := J.look
  obtain ⟨f, mm, go⟩ := run_in1 F hr hx I (us := [.ref a]) (vs := [.ref a]) (.cons rfl .nil) q
  obtain ⟨mF, hF⟩ := I.fr
  refine PySem.W.len_K hF I.ok.mod.kin J mm.at_ mm.fn (wpAny_mono go (fun v s' hv => ?_) fun _ _ x => x)
  obtain ⟨v2, H', I', rv, n, rfl, hn, q⟩ := hv
  obtain ⟨t, rfl⟩ := rv
  refine ⟨⟨by omega, by omega⟩, ?_⟩
  exact ⟨.int (n : Nat), H', I'.tok _, ⟨_, rfl⟩, q⟩
end
end L2


set_option Elab.async false
set_option linter.all false
set_option maxRecDepth 100000
set_option maxHeartbeats 4000000
namespace K03
open PySem PySem.Spec PyProof.Rows L2
def top (i : Nat) : Stmt := PySem.Challenge.pw_heldplaces_k03_whole_page_limits_by_ways.main.body.getD i (.Pass ⟨0, 0, 0, 0⟩)
abbrev s__wall : Stmt := top 0
theorem sc__wall : FnScope ["k"] ["k"] (defScope s__wall) := ⟨rfl, rfl, rfl, by decide +kernel, rfl, by decide +kernel, by decide +kernel⟩
abbrev s_BadKind_init : Stmt := inClass (top 3) 0
abbrev s_BadLine_init : Stmt := inClass (top 4) 0
abbrev s_Refused_init : Stmt := inClass (top 5) 0
abbrev s_BadRule_init : Stmt := inClass (top 6) 0
abbrev s_BadSize_init : Stmt := inClass (top 7) 0
abbrev s_TooMany_init : Stmt := inClass (top 8) 0
abbrev s_told_number : Stmt := top 13
theorem sc_told_number : FnScope ["word"] ["word"] (defScope s_told_number) := ⟨rfl, rfl, rfl, by decide +kernel, rfl, by decide +kernel, by decide +kernel⟩
abbrev s_told_atom : Stmt := top 14
theorem sc_told_atom : FnScope ["word", "names", "number"] ["word", "names"] (defScope s_told_atom) := ⟨rfl, rfl, rfl, by decide +kernel, rfl, by decide +kernel, by decide +kernel⟩
abbrev s_told_sum : Stmt := top 15
theorem sc_told_sum : FnScope ["words", "names", "found", "seen", "place", "word", "atom"] ["words", "names"] (defScope s_told_sum) := ⟨rfl, rfl, rfl, by decide +kernel, rfl, by decide +kernel, by decide +kernel⟩
abbrev s_told_part : Stmt := top 16
theorem sc_told_part : FnScope ["text", "names", "others", "wanted", "told", "words", "one", "other"] ["text", "names", "others"] (defScope s_told_part) := ⟨rfl, rfl, rfl, by decide +kernel, rfl, by decide +kernel, by decide +kernel⟩
abbrev s_Reader_init : Stmt := inClass (top 17) 0
theorem sc_Reader_init : FnScope ["self", "lines", "row_of", "part_of"] ["self", "lines", "row_of", "part_of"] (defScope s_Reader_init) := ⟨rfl, rfl, rfl, by decide +kernel, rfl, by decide +kernel, by decide +kernel⟩
abbrev s_Reader_read_block : Stmt := inClass (top 17) 1
theorem sc_Reader_read_block : FnScope ["self", "is_inner", "rows", "text"] ["self", "is_inner"] (defScope s_Reader_read_block) := ⟨rfl, rfl, rfl, by decide +kernel, rfl, by decide +kernel, by decide +kernel⟩
abbrev s_Reader_read_if : Stmt := inClass (top 17) 2
theorem sc_Reader_read_if : FnScope ["self", "text", "line", "parts", "part", "rows", "word", "others"] ["self", "text"] (defScope s_Reader_read_if) := ⟨rfl, rfl, rfl, by decide +kernel, rfl, by decide +kernel, by decide +kernel⟩
abbrev s_read_rows : Stmt := top 18
theorem sc_read_rows : FnScope ["lines", "row_of", "part_of", "most_ifs", "reader", "rows", "word"] ["lines", "row_of", "part_of", "most_ifs"] (defScope s_read_rows) := ⟨rfl, rfl, rfl, by decide +kernel, rfl, by decide +kernel, by decide +kernel⟩
abbrev s_all_rows : Stmt := top 19
theorem sc_all_rows : FnScope ["rows", "found", "row"] ["rows"] (defScope s_all_rows) := ⟨rfl, rfl, rfl, by decide +kernel, rfl, by decide +kernel, by decide +kernel⟩
abbrev s_all_ways : Stmt := top 20
theorem sc_all_ways : FnScope ["rows", "ends", "found", "row", "later", "way", "has_ended", "block", "more", "ended"] ["rows", "ends"] (defScope s_all_ways) := ⟨rfl, rfl, rfl, by decide +kernel, rfl, by decide +kernel, by decide +kernel⟩
abbrev s_CodeText_init : Stmt := inClass (top 21) 0
theorem sc_CodeText_init : FnScope ["self", "part", "kind", "kinds", "text", "most_lines"] ["self", "part", "kind", "kinds", "text", "most_lines"] (defScope s_CodeText_init) := ⟨rfl, rfl, rfl, by decide +kernel, rfl, by decide +kernel, by decide +kernel⟩
abbrev s_CodeText_same : Stmt := inClass (top 21) 1
theorem sc_CodeText_same : FnScope ["self"] ["self"] (defScope s_CodeText_same) := ⟨rfl, rfl, rfl, by decide +kernel, rfl, by decide +kernel, by decide +kernel⟩
abbrev s_CodeText_len : Stmt := inClass (top 21) 2
theorem sc_CodeText_len : FnScope ["self"] ["self"] (defScope s_CodeText_len) := ⟨rfl, rfl, rfl, by decide +kernel, rfl, by decide +kernel, by decide +kernel⟩
abbrev s_CodeText_iter : Stmt := inClass (top 21) 3
theorem sc_CodeText_iter : FnScope ["self"] ["self"] (defScope s_CodeText_iter) := ⟨rfl, rfl, rfl, by decide +kernel, rfl, by decide +kernel, by decide +kernel⟩
abbrev s_CodeText_getitem : Stmt := inClass (top 21) 4
theorem sc_CodeText_getitem : FnScope ["self", "k"] ["self", "k"] (defScope s_CodeText_getitem) := ⟨rfl, rfl, rfl, by decide +kernel, rfl, by decide +kernel, by decide +kernel⟩
abbrev s_CodeText_eq : Stmt := inClass (top 21) 5
theorem sc_CodeText_eq : FnScope ["self", "other"] ["self", "other"] (defScope s_CodeText_eq) := ⟨rfl, rfl, rfl, by decide +kernel, rfl, by decide +kernel, by decide +kernel⟩
abbrev s_page_kinds : Stmt := top 24
theorem sc_page_kinds : FnScope ["row", "found", "word", "names", "parts", "part", "kind"] ["row"] (defScope s_page_kinds) := ⟨rfl, rfl, rfl, by decide +kernel, rfl, by decide +kernel, by decide +kernel⟩
abbrev s_page_names : Stmt := top 25
theorem sc_page_names : FnScope ["row", "told", "part", "factor", "name"] ["row"] (defScope s_page_names) := ⟨rfl, rfl, rfl, by decide +kernel, rfl, by decide +kernel, by decide +kernel⟩
abbrev s_what_of : Stmt := top 26
theorem sc_what_of : FnScope ["row", "word"] ["row"] (defScope s_what_of) := ⟨rfl, rfl, rfl, by decide +kernel, rfl, by decide +kernel, by decide +kernel⟩
abbrev s_wrong_on_way : Stmt := top 27
theorem sc_wrong_on_way : FnScope ["way", "found", "settings", "divisions", "done", "row", "what", "word", "asks", "part"] ["way"] (defScope s_wrong_on_way) := ⟨rfl, rfl, rfl, by decide +kernel, rfl, by decide +kernel, by decide +kernel⟩
abbrev s_need_page_limits : Stmt := top 28
theorem sc_need_page_limits : FnScope ["rows", "kind", "wrong", "row", "way", "has_ended", "line"] ["rows", "kind"] (defScope s_need_page_limits) := ⟨rfl, rfl, rfl, by decide +kernel, rfl, by decide +kernel, by decide +kernel⟩
abbrev s_page_setting : Stmt := top 33
theorem sc_page_setting : FnScope ["words", "line", "goal", "told", "divisor", "total"] ["words", "line"] (defScope s_page_setting) := ⟨rfl, rfl, rfl, by decide +kernel, rfl, by decide +kernel, by decide +kernel⟩
abbrev s_page_row : Stmt := top 34
theorem sc_page_row : FnScope ["text", "line", "words", "total"] ["text", "line"] (defScope s_page_row) := ⟨rfl, rfl, rfl, by decide +kernel, rfl, by decide +kernel, by decide +kernel⟩
abbrev s_page_part : Stmt := top 35
theorem sc_page_part : FnScope ["text"] ["text"] (defScope s_page_part) := ⟨rfl, rfl, rfl, by decide +kernel, rfl, by decide +kernel, by decide +kernel⟩
abbrev s_PageCode_init : Stmt := inClass (top 38) 0
abbrev s_PageCode_same : Stmt := inClass (top 38) 1
theorem sc_PageCode_same : FnScope ["self"] ["self"] (defScope s_PageCode_same) := ⟨rfl, rfl, rfl, by decide +kernel, rfl, by decide +kernel, by decide +kernel⟩
abbrev s_is_whole : Stmt := top 40
theorem sc_is_whole : FnScope ["value"] ["value"] (defScope s_is_whole) := ⟨rfl, rfl, rfl, by decide +kernel, rfl, by decide +kernel, by decide +kernel⟩
abbrev s_need_size : Stmt := top 41
theorem sc_need_size : FnScope ["size"] ["size"] (defScope s_need_size) := ⟨rfl, rfl, rfl, by decide +kernel, rfl, by decide +kernel, by decide +kernel⟩
abbrev s_PageRules_init : Stmt := inClass (top 42) 0
theorem sc_PageRules_init : FnScope ["self", "head", "slot", "unit", "most"] ["self", "head", "slot", "unit", "most"] (defScope s_PageRules_init) := ⟨rfl, rfl, rfl, by decide +kernel, rfl, by decide +kernel, by decide +kernel⟩
abbrev s_PageRules_room : Stmt := inClass (top 42) 1
theorem sc_PageRules_room : FnScope ["self", "length"] ["self", "length"] (defScope s_PageRules_room) := ⟨rfl, rfl, rfl, by decide +kernel, rfl, by decide +kernel, by decide +kernel⟩
abbrev s_PageRules_in_use : Stmt := inClass (top 42) 2
theorem sc_PageRules_in_use : FnScope ["self", "size"] ["self", "size"] (defScope s_PageRules_in_use) := ⟨rfl, rfl, rfl, by decide +kernel, rfl, by decide +kernel, by decide +kernel⟩
abbrev s_PageRules_next_in_use : Stmt := inClass (top 42) 3
theorem sc_PageRules_next_in_use : FnScope ["self", "size"] ["self", "size"] (defScope s_PageRules_next_in_use) := ⟨rfl, rfl, rfl, by decide +kernel, rfl, by decide +kernel, by decide +kernel⟩
abbrev s_PageRules_eq : Stmt := inClass (top 42) 4
theorem sc_PageRules_eq : FnScope ["self", "other", "one"] ["self", "other"] (defScope s_PageRules_eq) := ⟨rfl, rfl, rfl, by decide +kernel, rfl, by decide +kernel, by decide +kernel⟩
abbrev s_l_bag : Stmt := top 44
theorem sc_l_bag : FnScope ["_law_script", "_law_fold", "_law_cell"] ["_law_script"] (defScope s_l_bag) := ⟨rfl, rfl, rfl, by decide +kernel, rfl, by decide +kernel, by decide +kernel⟩
abbrev s_l_draw : Stmt := top 45
theorem sc_l_draw : FnScope ["_law_bag_here", "_law_limit", "_law_cell", "_law_digit", "_law_base", "_law_found"] ["_law_bag_here", "_law_limit"] (defScope s_l_draw) := ⟨rfl, rfl, rfl, by decide +kernel, rfl, by decide +kernel, by decide +kernel⟩
abbrev s_l_pool : Stmt := top 46
theorem sc_l_pool : FnScope ["_law_kind", "_law_pool_here"] ["_law_kind"] (defScope s_l_pool) := ⟨rfl, rfl, rfl, by decide +kernel, rfl, by decide +kernel, by decide +kernel⟩
abbrev s_l_lines : Stmt := top 47
theorem sc_l_lines : FnScope ["_law_bag_here", "_law_kind", "_law_deep", "_law_left", "_law_found", "_law_pool_here", "_law_turn", "_law_tests"] ["_law_bag_here", "_law_kind", "_law_deep", "_law_left"] (defScope s_l_lines) := ⟨rfl, rfl, rfl, by decide +kernel, rfl, by decide +kernel, by decide +kernel⟩
abbrev s_l_block : Stmt := top 48
theorem sc_l_block : FnScope ["_law_lines_here", "_law_at", "_law_deep", "_law_other", "_law_k", "_law_word"] ["_law_lines_here", "_law_at"] (defScope s_l_block) := ⟨rfl, rfl, rfl, by decide +kernel, rfl, by decide +kernel, by decide +kernel⟩
abbrev s_l_ways : Stmt := top 49
theorem sc_l_ways : FnScope ["_law_lines_here", "_law_first", "_law_last", "_law_found", "_law_line", "_law_tails", "_law_end", "_law_other", "_law_begin", "_law_way", "_law_longer", "_law_tail"] ["_law_lines_here", "_law_first", "_law_last"] (defScope s_l_ways) := ⟨rfl, rfl, rfl, by decide +kernel, rfl, by decide +kernel, by decide +kernel⟩
abbrev s_l_once : Stmt := top 50
theorem sc_l_once : FnScope ["_law_line", "_law_word"] ["_law_line"] (defScope s_l_once) := ⟨rfl, rfl, rfl, by decide +kernel, rfl, by decide +kernel, by decide +kernel⟩
abbrev s_l_faults : Stmt := top 51
theorem sc_l_faults : FnScope ["_law_lines_here", "_law_told", "_law_found", "_law_seen", "_law_done", "_law_line", "_law_text", "_law_name", "_law_word", "_law_late", "_law_each"] ["_law_lines_here", "_law_told"] (defScope s_l_faults) := ⟨rfl, rfl, rfl, by decide +kernel, rfl, by decide +kernel, by decide +kernel⟩
abbrev s_l_strange : Stmt := top 52
theorem sc_l_strange : FnScope ["_law_kind", "_law_text", "_law_words", "_law_word"] ["_law_kind", "_law_text"] (defScope s_l_strange) := ⟨rfl, rfl, rfl, by decide +kernel, rfl, by decide +kernel, by decide +kernel⟩
abbrev s_law : Stmt := top 53
theorem sc_law : FnScope ["_law_script", "_law_bag_here", "_law_turn", "_law_kind", "_law_lines_here", "_law_faults_here", "_law_k", "_law_told", "_law_due", "_law_found", "e"] ["_law_script"] (defScope s_law) := ⟨rfl, rfl, rfl, by decide +kernel, rfl, by decide +kernel, by decide +kernel⟩
abbrev P0 : Program := PySem.Challenge.pw_heldplaces_k03_whole_page_limits_by_ways
/-- what the top has left -/
structure Tx (P : Program) (w : World) (K : PySem.W.Frag) (mg : Str → Option Value) : Prop where
  d__wall : DefX K mg "_wall" s__wall
  d_told_number : DefX K mg "told_number" s_told_number
  d_told_atom : DefX K mg "told_atom" s_told_atom
  d_told_sum : DefX K mg "told_sum" s_told_sum
  d_told_part : DefX K mg "told_part" s_told_part
  mk_Reader : ∃ f fd, mg "Reader" = some (.ref (He.ga K "Reader")) ∧ Mk K (He.ga K "Reader") f ∧ FunD K "__init__" "Reader.__init__" (defArgs s_Reader_init) (defBody s_Reader_init) (defScope s_Reader_init) [] [] f fd
  m_Reader_read_block : ∃ f fd, MetX K (He.ga K "Reader") "read_block" "Reader.read_block" s_Reader_read_block f fd
  m_Reader_read_if : ∃ f fd, MetX K (He.ga K "Reader") "read_if" "Reader.read_if" s_Reader_read_if f fd
  d_read_rows : DefX K mg "read_rows" s_read_rows
  d_all_rows : DefX K mg "all_rows" s_all_rows
  d_all_ways : DefX K mg "all_ways" s_all_ways
  mk_CodeText : ∃ f fd, mg "CodeText" = some (.ref (He.ga K "CodeText")) ∧ Mk K (He.ga K "CodeText") f ∧ FunD K "__init__" "CodeText.__init__" (defArgs s_CodeText_init) (defBody s_CodeText_init) (defScope s_CodeText_init) [] [] f fd
  m_CodeText_same : ∃ f fd, MetX K (He.ga K "CodeText") "same" "CodeText.same" s_CodeText_same f fd
  m_CodeText_len : ∃ f fd, MetX K (He.ga K "CodeText") "__len__" "CodeText.__len__" s_CodeText_len f fd
  m_CodeText_iter : ∃ f fd, MetX K (He.ga K "CodeText") "__iter__" "CodeText.__iter__" s_CodeText_iter f fd
  m_CodeText_getitem : ∃ f fd, MetX K (He.ga K "CodeText") "__getitem__" "CodeText.__getitem__" s_CodeText_getitem f fd
  m_CodeText_eq : ∃ f fd, MetX K (He.ga K "CodeText") "__eq__" "CodeText.__eq__" s_CodeText_eq f fd
  d_page_kinds : DefX K mg "page_kinds" s_page_kinds
  d_page_names : DefX K mg "page_names" s_page_names
  d_what_of : DefX K mg "what_of" s_what_of
  d_wrong_on_way : DefX K mg "wrong_on_way" s_wrong_on_way
  d_need_page_limits : DefX K mg "need_page_limits" s_need_page_limits
  d_page_setting : DefX K mg "page_setting" s_page_setting
  d_page_row : DefX K mg "page_row" s_page_row
  d_page_part : DefX K mg "page_part" s_page_part
  m_PageCode_same : ∃ f fd, MetX K (He.ga K "PageCode") "same" "PageCode.same" s_PageCode_same f fd
  d_is_whole : DefX K mg "is_whole" s_is_whole
  d_need_size : DefX K mg "need_size" s_need_size
  mk_PageRules : ∃ f fd, mg "PageRules" = some (.ref (He.ga K "PageRules")) ∧ Mk K (He.ga K "PageRules") f ∧ FunD K "__init__" "PageRules.__init__" (defArgs s_PageRules_init) (defBody s_PageRules_init) (defScope s_PageRules_init) [.non] [] f fd
  m_PageRules_room : ∃ f fd, MetX K (He.ga K "PageRules") "room" "PageRules.room" s_PageRules_room f fd
  m_PageRules_in_use : ∃ f fd, MetX K (He.ga K "PageRules") "in_use" "PageRules.in_use" s_PageRules_in_use f fd
  m_PageRules_next_in_use : ∃ f fd, MetX K (He.ga K "PageRules") "next_in_use" "PageRules.next_in_use" s_PageRules_next_in_use f fd
  m_PageRules_eq : ∃ f fd, MetX K (He.ga K "PageRules") "__eq__" "PageRules.__eq__" s_PageRules_eq f fd
  d_l_bag : DefX K mg "_law_bag" s_l_bag
  d_l_draw : DefX K mg "_law_draw" s_l_draw
  d_l_pool : DefX K mg "_law_pool" s_l_pool
  d_l_lines : DefX K mg "_law_lines" s_l_lines
  d_l_block : DefX K mg "_law_block" s_l_block
  d_l_ways : DefX K mg "_law_ways" s_l_ways
  d_l_once : DefX K mg "_law_once" s_l_once
  d_l_faults : DefX K mg "_law_faults" s_l_faults
  d_l_strange : DefX K mg "_law_strange" s_l_strange
  d_law : DefX K mg "law" s_law
  sup_PageCode : SupX.SupD P K "PageCode" "PageCode.__init__" "CodeText.__init__" s_PageCode_init s_CodeText_init ["self", "kind", "rules", "text", "__class__"] ["self", "kind", "rules", "text"]
  m_PageCode_len : ∃ f fd, MetX K (He.ga K "PageCode") "__len__" "CodeText.__len__" s_CodeText_len f fd
  m_PageCode_iter : ∃ f fd, MetX K (He.ga K "PageCode") "__iter__" "CodeText.__iter__" s_CodeText_iter f fd
  m_PageCode_getitem : ∃ f fd, MetX K (He.ga K "PageCode") "__getitem__" "CodeText.__getitem__" s_CodeText_getitem f fd
  m_PageCode_eq : ∃ f fd, MetX K (He.ga K "PageCode") "__eq__" "CodeText.__eq__" s_CodeText_eq f fd
  ne_CodeText : PySem.W.findIn K (.ref (He.ga K "CodeText")) "__ne__" = some (some (.builtin "object.__ne__"))
  cm_CodeText : PySem.W.mroIn K (He.ga K "CodeText") (.type "object") = some true
  ca_CodeText : PySem.W.findIn K (.ref (He.ga K "CodeText")) "__class__" = some (some (.builtin "object.__class__"))
  ne_PageCode : PySem.W.findIn K (.ref (He.ga K "PageCode")) "__ne__" = some (some (.builtin "object.__ne__"))
  cm_PageCode : PySem.W.mroIn K (He.ga K "PageCode") (.type "object") = some true
  ca_PageCode : PySem.W.findIn K (.ref (He.ga K "PageCode")) "__class__" = some (some (.builtin "object.__class__"))
  kc_PageCode : PySem.W.kitOne K (.ref (He.ga K "PageCode")) (.ref (He.ga K "CodeText")) = some true
  ne_PageRules : PySem.W.findIn K (.ref (He.ga K "PageRules")) "__ne__" = some (some (.builtin "object.__ne__"))
  cm_PageRules : PySem.W.mroIn K (He.ga K "PageRules") (.type "object") = some true
  ca_PageRules : PySem.W.findIn K (.ref (He.ga K "PageRules")) "__class__" = some (some (.builtin "object.__class__"))
  cn_obj : PySem.W.specialIn K (.builtin "object.__class__") "__get__" = some (some (.builtin "getset_descriptor.__get__"))
  ct_obj : PySem.W.takesIn K (.builtin "object.__class__") = some true
  x_BadKind_BadKind : PySem.W.exmOne K (.ref (He.ga K "BadKind")) (.ref (He.ga K "BadKind")) = some true
  x_BadKind_BadLine : PySem.W.exmOne K (.ref (He.ga K "BadKind")) (.ref (He.ga K "BadLine")) = some false
  x_BadKind_Refused : PySem.W.exmOne K (.ref (He.ga K "BadKind")) (.ref (He.ga K "Refused")) = some false
  x_BadKind_BadRule : PySem.W.exmOne K (.ref (He.ga K "BadKind")) (.ref (He.ga K "BadRule")) = some false
  x_BadKind_BadSize : PySem.W.exmOne K (.ref (He.ga K "BadKind")) (.ref (He.ga K "BadSize")) = some false
  x_BadKind_TooMany : PySem.W.exmOne K (.ref (He.ga K "BadKind")) (.ref (He.ga K "TooMany")) = some false
  x_BadLine_BadKind : PySem.W.exmOne K (.ref (He.ga K "BadLine")) (.ref (He.ga K "BadKind")) = some false
  x_BadLine_BadLine : PySem.W.exmOne K (.ref (He.ga K "BadLine")) (.ref (He.ga K "BadLine")) = some true
  x_BadLine_Refused : PySem.W.exmOne K (.ref (He.ga K "BadLine")) (.ref (He.ga K "Refused")) = some false
  x_BadLine_BadRule : PySem.W.exmOne K (.ref (He.ga K "BadLine")) (.ref (He.ga K "BadRule")) = some false
  x_BadLine_BadSize : PySem.W.exmOne K (.ref (He.ga K "BadLine")) (.ref (He.ga K "BadSize")) = some false
  x_BadLine_TooMany : PySem.W.exmOne K (.ref (He.ga K "BadLine")) (.ref (He.ga K "TooMany")) = some false
  x_Refused_BadKind : PySem.W.exmOne K (.ref (He.ga K "Refused")) (.ref (He.ga K "BadKind")) = some false
  x_Refused_BadLine : PySem.W.exmOne K (.ref (He.ga K "Refused")) (.ref (He.ga K "BadLine")) = some false
  x_Refused_Refused : PySem.W.exmOne K (.ref (He.ga K "Refused")) (.ref (He.ga K "Refused")) = some true
  x_Refused_BadRule : PySem.W.exmOne K (.ref (He.ga K "Refused")) (.ref (He.ga K "BadRule")) = some false
  x_Refused_BadSize : PySem.W.exmOne K (.ref (He.ga K "Refused")) (.ref (He.ga K "BadSize")) = some false
  x_Refused_TooMany : PySem.W.exmOne K (.ref (He.ga K "Refused")) (.ref (He.ga K "TooMany")) = some false
  x_BadRule_BadKind : PySem.W.exmOne K (.ref (He.ga K "BadRule")) (.ref (He.ga K "BadKind")) = some false
  x_BadRule_BadLine : PySem.W.exmOne K (.ref (He.ga K "BadRule")) (.ref (He.ga K "BadLine")) = some false
  x_BadRule_Refused : PySem.W.exmOne K (.ref (He.ga K "BadRule")) (.ref (He.ga K "Refused")) = some false
  x_BadRule_BadRule : PySem.W.exmOne K (.ref (He.ga K "BadRule")) (.ref (He.ga K "BadRule")) = some true
  x_BadRule_BadSize : PySem.W.exmOne K (.ref (He.ga K "BadRule")) (.ref (He.ga K "BadSize")) = some false
  x_BadRule_TooMany : PySem.W.exmOne K (.ref (He.ga K "BadRule")) (.ref (He.ga K "TooMany")) = some false
  x_BadSize_BadKind : PySem.W.exmOne K (.ref (He.ga K "BadSize")) (.ref (He.ga K "BadKind")) = some false
  x_BadSize_BadLine : PySem.W.exmOne K (.ref (He.ga K "BadSize")) (.ref (He.ga K "BadLine")) = some false
  x_BadSize_Refused : PySem.W.exmOne K (.ref (He.ga K "BadSize")) (.ref (He.ga K "Refused")) = some false
  x_BadSize_BadRule : PySem.W.exmOne K (.ref (He.ga K "BadSize")) (.ref (He.ga K "BadRule")) = some false
  x_BadSize_BadSize : PySem.W.exmOne K (.ref (He.ga K "BadSize")) (.ref (He.ga K "BadSize")) = some true
  x_BadSize_TooMany : PySem.W.exmOne K (.ref (He.ga K "BadSize")) (.ref (He.ga K "TooMany")) = some false
  x_TooMany_BadKind : PySem.W.exmOne K (.ref (He.ga K "TooMany")) (.ref (He.ga K "BadKind")) = some false
  x_TooMany_BadLine : PySem.W.exmOne K (.ref (He.ga K "TooMany")) (.ref (He.ga K "BadLine")) = some false
  x_TooMany_Refused : PySem.W.exmOne K (.ref (He.ga K "TooMany")) (.ref (He.ga K "Refused")) = some false
  x_TooMany_BadRule : PySem.W.exmOne K (.ref (He.ga K "TooMany")) (.ref (He.ga K "BadRule")) = some false
  x_TooMany_BadSize : PySem.W.exmOne K (.ref (He.ga K "TooMany")) (.ref (He.ga K "BadSize")) = some false
  x_TooMany_TooMany : PySem.W.exmOne K (.ref (He.ga K "TooMany")) (.ref (He.ga K "TooMany")) = some true
  cl_Reader : Cls K (He.ga K "Reader")
  g_Reader : mg "Reader" = some (.ref (He.ga K "Reader"))
  na_Reader_ifs : NoAttr K (He.ga K "Reader") "ifs"
  na_Reader_line : NoAttr K (He.ga K "Reader") "line"
  na_Reader_own_lines : NoAttr K (He.ga K "Reader") "own_lines"
  na_Reader_part_of : NoAttr K (He.ga K "Reader") "part_of"
  na_Reader_row_of : NoAttr K (He.ga K "Reader") "row_of"
  cl_CodeText : Cls K (He.ga K "CodeText")
  g_CodeText : mg "CodeText" = some (.ref (He.ga K "CodeText"))
  na_CodeText_kind : NoAttr K (He.ga K "CodeText") "kind"
  na_CodeText_own_lines : NoAttr K (He.ga K "CodeText") "own_lines"
  na_CodeText_own_tables : NoAttr K (He.ga K "CodeText") "own_tables"
  na_CodeText_part : NoAttr K (He.ga K "CodeText") "part"
  na_CodeText_text : NoAttr K (He.ga K "CodeText") "text"
  cl_PageCode : Cls K (He.ga K "PageCode")
  g_PageCode : mg "PageCode" = some (.ref (He.ga K "PageCode"))
  na_PageCode_kind : NoAttr K (He.ga K "PageCode") "kind"
  na_PageCode_own_lines : NoAttr K (He.ga K "PageCode") "own_lines"
  na_PageCode_own_tables : NoAttr K (He.ga K "PageCode") "own_tables"
  na_PageCode_part : NoAttr K (He.ga K "PageCode") "part"
  na_PageCode_rows : NoAttr K (He.ga K "PageCode") "rows"
  na_PageCode_rules : NoAttr K (He.ga K "PageCode") "rules"
  na_PageCode_text : NoAttr K (He.ga K "PageCode") "text"
  cl_PageRules : Cls K (He.ga K "PageRules")
  g_PageRules : mg "PageRules" = some (.ref (He.ga K "PageRules"))
  na_PageRules_head : NoAttr K (He.ga K "PageRules") "head"
  na_PageRules_most : NoAttr K (He.ga K "PageRules") "most"
  na_PageRules_slot : NoAttr K (He.ga K "PageRules") "slot"
  na_PageRules_unit : NoAttr K (He.ga K "PageRules") "unit"
  g_HeldError : mg "HeldError" = some (.ref (He.ga K "HeldError"))
  e_BadKind : ErrX.ErrTxt P K ["kind"] (He.ga K "BadKind")
  g_BadKind : mg "BadKind" = some (.ref (He.ga K "BadKind"))
  k_BadKind : ErrK K (He.ga K "BadKind")
  e_BadLine : ErrX.ErrTxt P K ["line"] (He.ga K "BadLine")
  g_BadLine : mg "BadLine" = some (.ref (He.ga K "BadLine"))
  k_BadLine : ErrK K (He.ga K "BadLine")
  e_Refused : ErrX.ErrTxt P K ["line"] (He.ga K "Refused")
  g_Refused : mg "Refused" = some (.ref (He.ga K "Refused"))
  k_Refused : ErrK K (He.ga K "Refused")
  e_BadRule : ErrX.ErrTxt P K ["what"] (He.ga K "BadRule")
  g_BadRule : mg "BadRule" = some (.ref (He.ga K "BadRule"))
  k_BadRule : ErrK K (He.ga K "BadRule")
  e_BadSize : ErrX.ErrTxt P K ["size"] (He.ga K "BadSize")
  g_BadSize : mg "BadSize" = some (.ref (He.ga K "BadSize"))
  k_BadSize : ErrK K (He.ga K "BadSize")
  e_TooMany : ErrX.ErrTxt P K ["what", "many", "most"] (He.ga K "TooMany")
  g_TooMany : mg "TooMany" = some (.ref (He.ga K "TooMany"))
  k_TooMany : ErrK K (He.ga K "TooMany")
  b_TypeError : mg "TypeError" = none
  b_ValueError : mg "ValueError" = none
  b_any : mg "any" = none
  b_bool : mg "bool" = none
  b_enumerate : mg "enumerate" = none
  b_int : mg "int" = none
  b_isinstance : mg "isinstance" = none
  b_len : mg "len" = none
  b_list : mg "list" = none
  b_min : mg "min" = none
  b_range : mg "range" = none
  b_str : mg "str" = none
  b_tuple : mg "tuple" = none
  c_MOST_FIGURES : ∃ t, mg "MOST_FIGURES" = some (.int 30 t)
  c_MOST_TERMS : ∃ t, mg "MOST_TERMS" = some (.int 4 t)
  c_MOST_PARTS : ∃ t, mg "MOST_PARTS" = some (.int 4 t)
  g_ONCE : mg "ONCE" = some (.ref (He.ga K "ONCE"))
  t_ONCE : ∀ H, SqT K H (He.ga K "ONCE") [.str "take", .str "clear", .str "pack", .str "at", .str "len", .str "lay", .str "slots"]
  g_REGISTERS : mg "REGISTERS" = some (.ref (He.ga K "REGISTERS"))
  t_REGISTERS : ∀ H, SqT K H (He.ga K "REGISTERS") [.str "a", .str "b", .str "c"]
  g_NAMES : mg "NAMES" = some (.ref (He.ga K "NAMES"))
  t_NAMES : ∀ H, SqT K H (He.ga K "NAMES") [.str "size", .str "head", .str "slot", .str "unit", .str "slots", .str "low", .str "holes", .str "edge", .str "len", .str "own.at", .str "own.len", .str "a", .str "b", .str "c"]
  g_LONE : mg "LONE" = some (.ref (He.ga K "LONE"))
  kd_LONE : ∃ es n, KDict K w (He.ga K "LONE") es n
  kn_LONE : ∀ z : Str, z ∉ (["no", "quit", "pack", "clear own", "take empty", "take next", "slots = slots + 1", "slots = slots - 1"] : List Str) → PySem.W.nsIn K (He.ga K "LONE") z = some none
  k_LONE_no : ∃ a, KDct K w (He.ga K "LONE") "no" (.ref a) ∧ ∀ H, SqT K H a [.str "no"]
  k_LONE_quit : ∃ a, KDct K w (He.ga K "LONE") "quit" (.ref a) ∧ ∀ H, SqT K H a [.str "quit"]
  k_LONE_pack : ∃ a, KDct K w (He.ga K "LONE") "pack" (.ref a) ∧ ∀ H, SqT K H a [.str "pack"]
  k_LONE_clearx20own : ∃ a, KDct K w (He.ga K "LONE") "clear own" (.ref a) ∧ ∀ H, SqT K H a [.str "clear"]
  k_LONE_takex20empty : ∃ a, KDct K w (He.ga K "LONE") "take empty" (.ref a) ∧ ∀ H, SqT K H a [.str "take", .str "empty"]
  k_LONE_takex20next : ∃ a, KDct K w (He.ga K "LONE") "take next" (.ref a) ∧ ∀ H, SqT K H a [.str "take", .str "next"]
  k_LONE_slotsx20x3dx20slotsx20x2bx201 : ∃ a, KDct K w (He.ga K "LONE") "slots = slots + 1" (.ref a) ∧ ∀ H, SqT K H a [.str "slots", .int (1)]
  k_LONE_slotsx20x3dx20slotsx20x2dx201 : ∃ a, KDct K w (He.ga K "LONE") "slots = slots - 1" (.ref a) ∧ ∀ H, SqT K H a [.str "slots", .int (-1)]
  g_PAGE_KINDS : mg "PAGE_KINDS" = some (.ref (He.ga K "PAGE_KINDS"))
  t_PAGE_KINDS : ∀ H, SqT K H (He.ga K "PAGE_KINDS") [.str "put", .str "strike", .str "set", .str "pack"]
end K03


set_option Elab.async false
set_option linter.all false
set_option maxRecDepth 100000
set_option maxHeartbeats 4000000
/-! a Hook that tells defs, classes, errors with an __init__ by super(), code tables -/
namespace HeE
open PySem PySem.Spec PyProof.Rows L2 He PySem.ErrX
structure ErrD where
  x : Str
  fs : List Str
  qual : Str
  params : Arguments
  body : List Stmt
  scope : Scope
abbrev FnE : Type := Option (Str × Str × Arguments × FuncBody × Scope × Addr × Addr)
def iAd (K : PySem.W.Frag) (x : Str) : Addr := ma K (ga K x) "__init__"
def fnE (K : PySem.W.Frag) (x : Str) : FnE := match K.lookup (iAd K x) with
  | some ⟨_, _, .func fd, _⟩ => some (fd.name, fd.qualname, fd.params, fd.body, fd.scope, fd.globals, fd.builtins)
  | _ => none
def ErrD.val (d : ErrD) : FnE := some ("__init__", d.qual, d.params, .stmts d.body, d.scope, mainGlobals, builtinsNs)
def fileB (K : PySem.W.Frag) (cda : Addr) (file : Str) : Bool := match K.lookup cda with
  | some ⟨_, _, .fields vs, _⟩ => (match (vs[2]? : Option Value) with
    | some (.str f _) => (file == f)
    | _ => false)
  | _ => false
def cellB (K : PySem.W.Frag) (cc C : Addr) : Bool := match K.lookup cc with
  | some ⟨_, _, .cell (some (.ref C')), _⟩ => decide (C' = C)
  | _ => false
def initB (K : PySem.W.Frag) (C fI : Addr) (file q : Str) : Bool := match K.lookup fI with
  | some ⟨_, _, .func fd, _⟩ => (match fd.code, fd.closure, fd.defaults with
    | .ref cda, [(cn, cc)], .none => decide (cn = "__class__") && (PySem.W.codeIn K (.ref cda) q && (fileB K cda file && cellB K cc C))
    | _, _, _ => false)
  | _ => false
def clsB (K : PySem.W.Frag) (C : Addr) : Bool := match K.lookup C with
  | some ⟨.type t, _, .cls cd, sl⟩ => decide (t = "type") && (match cd.mro, sl.toList with
    | .ref C' :: bm, [_, _, _, _, some (.builtin n), _] => decide (C' = C) && (decide (n = "ValueError.__new__") && (!cd.hasDel && (cd.hasDict && PySem.HandSPX.refsVE bm)))
    | _, _ => false)
  | _ => false
def okO (a b : Option Bool) : Bool := decide (a = b)
def okV (a b : Option Value) : Bool := decide (a = b)
def errL (K : PySem.W.Frag) (file : Str) (d : ErrD) : List Bool := [
  clsB K (ga K d.x),
  eqO (PySem.W.findIn K (.ref (ga K d.x)) "__setattr__") (some (some (.builtin "object.__setattr__"))),
  eqO (PySem.W.findIn K (.ref (ga K d.x)) "__getattribute__") (some (some (.builtin "BaseException.__getattribute__"))),
  eqO (PySem.W.findIn K (.ref (ga K d.x)) "__getattr__") (some none),
  d.fs.all (fun f => eqO (PySem.W.findIn K (.ref (ga K d.x)) f) (some none)),
  PySem.W.keepIn K (.ref (ga K d.x)),
  okO (PySem.W.subIn K (.ref (ga K d.x)) (.type "BaseException")) (some true),
  okO (PySem.W.subIn K (.ref (ga K d.x)) (.type "ValueError")) (some true),
  okV (PySem.W.typeIn K (.ref (ga K d.x))) (some (.type "type")),
  PySem.W.hasDictIn K (ga K d.x),
  okO (PySem.W.mroIn K (ga K d.x) (.ref (ga K d.x))) (some true),
  eqO (PySem.W.ks_superIn K (ga K d.x) (ga K d.x) "__init__") (some (some (.builtin "ValueError.__init__"))),
  eqO (PySem.W.nsIn K cStatics "thirdparty.any") (some none),
  eqO (PySem.W.nsIn K mainGlobals "super") (some none),
  eqO (PySem.W.findIn K (.ref (ga K d.x)) "__init__") (some (some (.ref (iAd K d.x)))),
  okV (PySem.W.typeIn K (.ref (iAd K d.x))) (some (.type "function")),
  initB K (ga K d.x) (iAd K d.x) file d.qual,
  (PySem.W.clsIn K (ga K d.x)).isSome,
  eqO (PySem.W.findIn K (.ref (ga K d.x)) "__class__") (some (some (.builtin "object.__class__"))),
  eqO (PySem.W.specialIn K (.builtin "object.__class__") "__get__") (some (some (.builtin "getset_descriptor.__get__"))),
  okO (PySem.W.takesIn K (.builtin "object.__class__")) (some true),
  okO (PySem.W.mroIn K (ga K d.x) (.type "object")) (some true),
  eqO (PySem.W.nsIn K mainGlobals d.x) (some (some (.ref (ga K d.x))))]
def errB (K : PySem.W.Frag) (file : Str) (d : ErrD) : Bool := (errL K file d).all id
theorem all_at {l : List Bool} (h : l.all id = true) (i : Nat) {b : Bool} (e : l[i]? = some b := by rfl) : b = true := List.all_eq_true.mp h b (List.mem_of_getElem? e)
/-- what the text says of an error -/
structure ErrS (prog : Program) (d : ErrD) : Prop where
  topN : (prog.main.scope.names.lookup ("super" : Str)).isSome = false
  kinds : (d.fs.all fun f => (iScope d.fs).names.lookup f == some .local && !(f == ("self" : Str))) = true
  dbg : ∀ f ∈ d.fs, (f == ("__debug__" : Str)) = false
  outs : ("__class__" : Str) ∉ d.fs ∧ ("super" : Str) ∉ d.fs
  nd : d.fs.Nodup
  len : d.fs.length ≤ 900
  scope : d.scope = iScope d.fs
  head : ∃ ar, (d.params.posonlyargs ++ d.params.args).head? = some ar ∧ ar.arg = "self"
  body : ∃ msg j p0 p1 p2 p3 p4 p5 ps, d.body = supSt msg j p0 p1 p2 p3 p4 p5 :: (ps : List FldP).map setSt ∧ ps.map (·.f) = d.fs ∧ ∀ env, ∃ pl, supEv env pl msg j p0 p1 p2 p3 p4
  bind : ∀ (kV doc pm : Value) (an : Option Addr) (cda : Addr) (ct : Value) (cc : Addr) (self : Value) (us : List Value), us.length = d.fs.length → bindArgs (PySem.W.ksFn "__init__" d.qual d.params d.body (iScope d.fs) .none kV doc pm an (.ref cda) ct cc) ⟨self :: us, []⟩ = pure ((("self" : Str), self) :: d.fs.zip us)
theorem clsB_ok {K : PySem.W.Frag} {C : Addr} (h : clsB K C = true) : ∃ nm q N bs bm sn sub ab col dd k0 k1 k2 k3 k5, K.lookup C = some (excClassObj nm q C N bs bm true sn sub ab col dd k0 k1 k2 k3 k5 "ValueError.__new__") ∧ PySem.HandSPX.refsVE bm = true := by
  unfold clsB at h
  split at h
  · rename_i t dd cd sl q
    obtain ⟨h1, h2⟩ := ba h
    split at h2
    · rename_i C' bm k0 k1 k2 k3 n k5 e1 e2
      obtain ⟨a1, a⟩ := ba h2
      obtain ⟨a2, a⟩ := ba a
      obtain ⟨a3, a⟩ := ba a
      obtain ⟨a4, a5⟩ := ba a
      obtain ⟨sl⟩ := sl
      obtain ⟨n1, n2, n3, n4, n5, n6, n7, n8, n9, n10, n11⟩ := cd
      simp only at e1 e2 a3 a4
      have a1 := of_decide_eq_true a1
      have a2 := of_decide_eq_true a2
      have h1 := of_decide_eq_true h1
      have a3 : n11 = false := by simpa using a3
      subst a1 a2 h1 a3 a4 e1 e2
      exact ⟨n1, n5, n4, n2, bm, n7, n8, n9, n10, dd, k0, k1, k2, k3, k5, q, a5⟩
    · cases h2
  · cases h
theorem errTxt {prog : Program} {K : PySem.W.Frag} {d : ErrD} (h : errB K prog.main.file d = true) (e : fnE K d.x = d.val) (S : ErrS prog d) : ErrTxt prog K d.fs (ga K d.x) where
  cls := clsB_ok (all_at h 0)
  sa := eqO_ok (all_at h 1)
  ga := eqO_ok (all_at h 2)
  gg := eqO_ok (all_at h 3)
  noN := fun f hf => eqO_ok (List.all_eq_true.mp (all_at h 4) f hf)
  kC := all_at h 5
  exC := of_decide_eq_true (all_at h 6)
  veC := of_decide_eq_true (all_at h 7)
  tyC := of_decide_eq_true (all_at h 8)
  hdC := all_at h 9
  own := of_decide_eq_true (all_at h 10)
  sup := eqO_ok (all_at h 11)
  opq := eqO_ok (all_at h 12)
  gsup := eqO_ok (all_at h 13)
  topN := S.topN
  kinds := S.kinds
  dbg := S.dbg
  outs := S.outs
  nd := S.nd
  len := S.len
  init := by
    have h14 := eqO_ok (all_at h 14)
    have h15 : PySem.W.typeIn K (.ref (iAd K d.x)) = some (.type "function") := of_decide_eq_true (all_at h 15)
    have h16 : initB K (He.ga K d.x) (iAd K d.x) prog.main.file d.qual = true := all_at h 16
    unfold initB at h16
    unfold fnE ErrD.val at e
    cases q : K.lookup (iAd K d.x) with
    | none => rw [q] at h16; cases h16
    | some o =>
      obtain ⟨oc, od, dt, osl⟩ := o
      rw [q] at h16 e
      cases dt with
      | func fd =>
        obtain ⟨n1, n2, n3, n4, n5, n6, n7, n8, n9, n10, n11, n12, n13, n14, n15⟩ := fd
        have e2 : (some (n1, n2, n3, n4, n5, n6, n15) : FnE) = (some (Str.ofString "__init__", d.qual, d.params, .stmts d.body, d.scope, mainGlobals, builtinsNs) : FnE) := e
        simp only [Option.some.injEq, Prod.mk.injEq] at e2
        obtain ⟨h1, h2, h3, h4, h5, h6, h8⟩ := e2
        subst h1 h2 h3 h4 h5 h6 h8
        cases n13 with
        | ref cda =>
          cases n7 with
          | nil => cases h16
          | cons c7 r7 =>
            obtain ⟨cn, cc⟩ := c7
            cases r7 with
            | cons _ _ => cases h16
            | nil =>
              cases n8 with
              | none =>
                have h17 : (decide (cn = "__class__") && (PySem.W.codeIn K (.ref cda) d.qual && (fileB K cda prog.main.file && cellB K cc (He.ga K d.x)))) = true := h16
                obtain ⟨a1, a⟩ := ba h17
                obtain ⟨a2, a⟩ := ba a
                obtain ⟨a3, a4⟩ := ba a
                have a1 := of_decide_eq_true a1
                subst a1
                unfold fileB at a3
                unfold cellB at a4
                split at a3
                · rename_i ccl cdd vs ccs q1
                  split at a3
                  · rename_i f tf q2
                    split at a4
                    · rename_i cl cld C' csl q3
                      have a4 := of_decide_eq_true a4
                      subst a4
                      rw [S.scope] at q
                      exact ⟨iAd K d.x, cc, cda, oc, od, d.qual, d.params, d.body, n9, n10, n11, n12, n14, osl, ccl, cdd, vs, ccs, f, tf, cl, cld, csl, h14, h15, q, a2, q1, q2, a3, q3, S.head, S.body, S.bind n9 n10 n11 n12 cda n14 cc⟩
                    · cases a4
                  · cases a3
                · cases a3
              | _ => cases h16
        | _ => cases h16
      | _ => cases h16
theorem errK {prog : Program} {K : PySem.W.Frag} {d : ErrD} {file : Str} (h : errB K file d = true) : ErrK K (ga K d.x) where
  hcl := all_at h 17
  hga := eqO_ok (all_at h 2)
  hgt := eqO_ok (all_at h 3)
  hsub := of_decide_eq_true (all_at h 6)
  ha := eqO_ok (all_at h 18)
  hn := eqO_ok (all_at h 19)
  htk := of_decide_eq_true (all_at h 20)
  hm := of_decide_eq_true (all_at h 21)
theorem errG {K : PySem.W.Frag} {d : ErrD} {file : Str} {hp : Heap} {mg : Str → Option Value} (X : K.In hp) (G : hp.Ns mainGlobals mg) (h : errB K file d = true) : mg d.x = some (.ref (ga K d.x)) := PySem.W.mg_of X G (eqO_ok (all_at h 22))
/-! ### the Hook -/
abbrev AlE : Type := Bool × List FnW × List FnE
def obsE (file : Str) (fa : List Fa) (fn : List DefD) (er : List ErrD) (tf : List Defn) (ex : PySem.W.Frag → Bool) (g : Addr → Option Obj) (K : PySem.W.Frag) : AlE :=
  ((fa.all fun f => f.ok K) && ((fn.all fun d => d.ok K) && ((er.all fun d => errB K file d) && (ex K && tabsB g tf K))), fn.map (fun d => fnW K d.at_), er.map (fun d => fnE K d.x))
def valE (fn : List DefD) (er : List ErrD) : AlE := (true, fn.map DefD.val, er.map ErrD.val)
structure SaysE (file : Str) (fa : List Fa) (fn : List DefD) (er : List ErrD) (tf : List Defn) (ex : PySem.W.Frag → Bool) (h : Heap) (K : PySem.W.Frag) : Prop where
  fa : ∀ f ∈ fa, f.ok K = true
  fn : ∀ d ∈ fn, ∃ fd, FunD K d.name d.qual d.params d.body d.scope (d.dvs K) (d.kws K) (fAd K d.at_) fd
  er : ∀ d ∈ er, errB K file d = true ∧ fnE K d.x = d.val
  more : ex K = true
  hd : ∀ p ∈ tf, PySem.W.codeHdIn K (cT K p).1 (cT K p).2 = true
  out : ∀ p ∈ tf, K.lookup (cT K p).2 = none
  empty : ∀ p ∈ tf, h.get? (cT K p).2 = some { cls := .none, data := .fields #[] }
def frE (g : Addr → Option Obj) (n : Nat) : PySem.W.Frag := frT g (cStatics :: asD g n)
theorem map_at {α β : Type} {f g : α → β} : ∀ {l : List α}, l.map f = l.map g → ∀ d ∈ l, f d = g d
  | [], _, d, hd => by cases hd
  | a :: r, h, d, hd => by
    have h2 : f a :: r.map f = g a :: r.map g := h
    injection h2 with h3 h4
    rcases List.mem_cons.mp hd with e | e
    · subst e; exact h3
    · exact map_at h4 d e
theorem saysE_of {file : Str} {n : Nat} {fa : List Fa} {fn : List DefD} {er : List ErrD} {tf : List Defn} {ex : PySem.W.Frag → Bool} {h : Heap} (e : obsE file fa fn er tf ex h.get? (frE h.get? n) = valE fn er) : SaysE file fa fn er tf ex h (frE h.get? n) := by
  have e1 : ((fa.all fun f => f.ok (frE h.get? n)) && ((fn.all fun d => d.ok (frE h.get? n)) && ((er.all fun d => errB (frE h.get? n) file d) && (ex (frE h.get? n) && tabsB h.get? tf (frE h.get? n))))) = true := congrArg (fun z : AlE => z.1) e
  have e2 : fn.map (fun d => fnW (frE h.get? n) d.at_) = fn.map DefD.val := congrArg (fun z : AlE => z.2.1) e
  have e3 : er.map (fun d => fnE (frE h.get? n) d.x) = er.map ErrD.val := congrArg (fun z : AlE => z.2.2) e
  obtain ⟨a1, a⟩ := ba e1
  obtain ⟨a2, a⟩ := ba a
  obtain ⟨a3, a⟩ := ba a
  obtain ⟨a4, a5⟩ := ba a
  have key : ∀ p ∈ tf, PySem.W.codeHdIn (frE h.get? n) (cT (frE h.get? n) p).1 (cT (frE h.get? n) p).2 = true ∧ ∃ o, h.get? (cT (frE h.get? n) p).2 = some o ∧ emptyTab o = true := fun p hp => by
    obtain ⟨h3, h4⟩ := ba (List.all_eq_true.mp a5 p hp)
    refine ⟨h3, ?_⟩
    cases q : h.get? (cT (frE h.get? n) p).2 with
    | none => rw [q] at h4; cases h4
    | some o => rw [q] at h4; exact ⟨o, rfl, h4⟩
  exact ⟨fun f hf => List.all_eq_true.mp a1 f hf, fun d hd => DefD.funD (map_at e2 d hd) (List.all_eq_true.mp a2 d hd), fun d hd => ⟨List.all_eq_true.mp a3 d hd, map_at e3 d hd⟩, a4, fun p hp => (key p hp).1, fun p hp => by
    obtain ⟨_, o, q, z⟩ := key p hp
    exact frT_none q z, fun p hp => by
    obtain ⟨_, o, q, z⟩ := key p hp
    rw [q, emptyTab_eq z]⟩
def hookE (file : Str) (n : Nat) (fa : List Fa) (fn : List DefD) (er : List ErrD) (tf : List Defn) (ex : PySem.W.Frag → Bool) : PySem.W.Hook where
  α := AlE
  obs := fun s => obsE file fa fn er tf ex s.heap.get? (frE s.heap.get? n)
  val := fun _ => valE fn er
  says := fun _ h => ∃ K : PySem.W.Frag, K.In h ∧ SaysE file fa fn er tf ex h K
  of := fun _ _ e => ⟨_, frT_in, saysE_of e⟩
  keeps := fun _ _ _ ⟨K, hK, c⟩ k => ⟨K, PySem.W.Frag.In.keeps hK k, ⟨c.fa, c.fn, c.er, c.more, c.hd, c.out, fun p hp => k _ _ (c.empty p hp)⟩⟩
theorem obsE_eq {file : Str} {n : Nat} {fa : List Fa} {fn : List DefD} {er : List ErrD} {tf : List Defn} {ex : PySem.W.Frag → Bool} {g : Addr → Option Obj} {s : Shared} (h : ∀ a, g a = s.heap.get? a) : obsE file fa fn er tf ex g (frE g n) = (hookE file n fa fn er tf ex).obs s := by
  have e : g = s.heap.get? := funext h
  rw [e] <;> rfl
end HeE


set_option Elab.async false
set_option linter.all false
set_option maxRecDepth 100000
set_option maxHeartbeats 4000000
/-! the Hook of HookE, with classes whose __init__ calls that above by super(), and with tables of texts -/
namespace HeE
open PySem PySem.Spec PyProof.Rows L2 He PySem.ErrX
abbrev AlF : Type := AlE × List FnE × List (Option (List (Option (Str × Int))))
def obsF (file : Str) (fa : List Fa) (fn : List DefD) (er su : List ErrD) (ts : List (Str × List Str)) (ex : PySem.W.Frag → Bool) (g : Addr → Option Obj) (K : PySem.W.Frag) : AlF := (obsE file fa fn er [] ex g K, su.map (fun d => fnE K d.x), ts.map fun t => dicW K (ga K t.1))
def valF (fn : List DefD) (er su : List ErrD) (ts : List (Str × List Str)) (w : World) : AlF := (valE fn er, su.map ErrD.val, ts.map fun t => some (keysIn w.params t.2))
structure SaysF (file : Str) (fa : List Fa) (fn : List DefD) (er su : List ErrD) (ts : List (Str × List Str)) (ex : PySem.W.Frag → Bool) (w : World) (h : Heap) (K : PySem.W.Frag) : Prop extends SaysE file fa fn er [] ex h K where
  su : ∀ d ∈ su, fnE K d.x = d.val
  ts : ∀ t ∈ ts, ∃ es n, KDict K w (ga K t.1) es n
theorem saysF_of {file : Str} {n : Nat} {fa : List Fa} {fn : List DefD} {er su : List ErrD} {ts : List (Str × List Str)} {ex : PySem.W.Frag → Bool} {w : World} {h : Heap} (e : obsF file fa fn er su ts ex h.get? (frE h.get? n) = valF fn er su ts w) : SaysF file fa fn er su ts ex w h (frE h.get? n) := by
  have e1 : obsE file fa fn er [] ex h.get? (frE h.get? n) = valE fn er := congrArg (fun z : AlF => z.1) e
  have e2 : su.map (fun d => fnE (frE h.get? n) d.x) = su.map ErrD.val := congrArg (fun z : AlF => z.2.1) e
  have e3 : ts.map (fun t => dicW (frE h.get? n) (ga (frE h.get? n) t.1)) = ts.map fun t => some (keysIn w.params t.2) := congrArg (fun z : AlF => z.2.2) e
  exact ⟨saysE_of e1, fun d hd => map_at e2 d hd, fun t ht => dicW_ok (map_at e3 t ht)⟩
def hookF (file : Str) (n : Nat) (fa : List Fa) (fn : List DefD) (er su : List ErrD) (ts : List (Str × List Str)) (ex : PySem.W.Frag → Bool) : PySem.W.Hook where
  α := AlF
  obs := fun s => obsF file fa fn er su ts ex s.heap.get? (frE s.heap.get? n)
  val := fun w => valF fn er su ts w
  says := fun w h => ∃ K : PySem.W.Frag, K.In h ∧ SaysF file fa fn er su ts ex w h K
  of := fun _ _ e => ⟨_, frT_in, saysF_of e⟩
  keeps := fun _ _ _ ⟨K, hK, c⟩ k => ⟨K, PySem.W.Frag.In.keeps hK k, ⟨⟨c.fa, c.fn, c.er, c.more, c.hd, c.out, fun p hp => nomatch hp⟩, c.su, c.ts⟩⟩
theorem obsF_eq {file : Str} {n : Nat} {fa : List Fa} {fn : List DefD} {er su : List ErrD} {ts : List (Str × List Str)} {ex : PySem.W.Frag → Bool} {g : Addr → Option Obj} {s : Shared} (h : ∀ a, g a = s.heap.get? a) : obsF file fa fn er su ts ex g (frE g n) = (hookF file n fa fn er su ts ex).obs s := by
  have e : g = s.heap.get? := funext h
  rw [e] <;> rfl
/-! ### tables -/
def strTB (K : PySem.W.Frag) (a : Addr) (zs : List Str) : Bool := match K.lookup a with
  | some ⟨.type c, _, .seq its _, _⟩ => decide (c = "tuple") && (decide (its.size ≤ sizeLine) && relAll (zs.map V.str) its.toList)
  | _ => false
theorem strTB_ok {K : PySem.W.Frag} {a : Addr} {zs : List Str} (h : strTB K a zs = true) (H : Hp) : SqT K H a (zs.map V.str) := by
  unfold strTB at h
  cases q : K.lookup a with
  | none => rw [q] at h; cases h
  | some o =>
    obtain ⟨oc, od, dt, osl⟩ := o
    rw [q] at h
    cases oc with
    | type c =>
      cases dt with
      | seq its n =>
        obtain ⟨h1, h2⟩ := ba (show (decide (c = "tuple") && (decide (its.size ≤ sizeLine) && relAll (zs.map V.str) its.toList)) = true from h)
        obtain ⟨h3, h4⟩ := ba h2
        exact .inr ⟨_, its, n, q, congrArg Value.type (of_decide_eq_true h1), rfl, of_decide_eq_true h3, relAll_ok h4⟩
      | _ => cases h
    | _ => cases dt <;> cases h
def tvAd (K : PySem.W.Frag) (x k : Str) : Addr := match PySem.W.nsIn K (ga K x) k with
  | some (some (.ref a)) => a
  | _ => 0
/-- x[k] is the tuple of texts zs -/
def tvB (K : PySem.W.Frag) (x k : Str) (zs : List Str) : Bool := eqO (PySem.W.nsIn K (ga K x) k) (some (some (.ref (tvAd K x k)))) && strTB K (tvAd K x k) zs
theorem tvB_ok {K : PySem.W.Frag} {w : World} {x k : Str} {zs : List Str} (D : ∃ es n, KDict K w (ga K x) es n) (h : tvB K x k zs = true) : ∃ a, KDct K w (ga K x) k (.ref a) ∧ ∀ H, SqT K H a (zs.map V.str) := by
  obtain ⟨h1, h2⟩ := ba h
  obtain ⟨es, n, d⟩ := D
  exact ⟨_, ⟨es, n, _, d.at_, d.lit, eqO_ok h1, rfl⟩, strTB_ok h2⟩
/-! ### super().__init__ of an own class -/
def sinB (K : PySem.W.Frag) (C fI : Addr) (file q : Str) : Bool := match K.lookup fI with
  | some ⟨_, _, .func fd, _⟩ => (match fd.code, fd.closure, fd.defaults, fd.kwdefaults with
    | .ref cda, [(cn, cc)], .none, .none => decide (cn = "__class__") && (fd.annotations.isNone && (PySem.W.codeIn K (.ref cda) q && (fileB K cda file && cellB K cc C)))
    | _, _, _, _ => false)
  | _ => false
def supL (K : PySem.W.Frag) (file x y q : Str) : List Bool := [
  sinB K (ga K x) (iAd K x) file q,
  (PySem.W.clsIn K (ga K x)).isSome,
  okO (PySem.W.mroIn K (ga K x) (.ref (ga K x))) (some true),
  eqO (PySem.W.ks_superIn K (ga K x) (ga K x) "__init__") (some (some (.ref (iAd K y)))),
  okV (PySem.W.typeIn K (.ref (iAd K y))) (some (.type "function")),
  PySem.W.fnIn K (iAd K y),
  eqO (PySem.W.nsIn K cStatics "thirdparty.any") (some none),
  eqO (PySem.W.nsIn K mainGlobals "super") (some none)]
def supB (K : PySem.W.Frag) (file x y q : Str) : Bool := (supL K file x y q).all id
/-- what the text says of such an __init__ -/
structure SupS (prog : Program) (q : Str) (st : Stmt) (N ps : List Str) : Prop where
  topN : (prog.main.scope.names.lookup ("super" : Str)).isSome = false
  sc : NdefX.NScope N ps ["__class__"] (defScope st)
  ksup : (defScope st).names.lookup ("super" : Str) = some .globalImplicit
  self : ps[0]? = some ("self" : Str) ∧ ∃ ar, ((defArgs st).posonlyargs ++ (defArgs st).args).head? = some ar ∧ ar.arg = "self"
  body : ∃ p0 p1 p2 p4 p5, defBody st = SupX.supCall (SupX.supE st :: SupX.supEs st) p0 p1 p2 p4 p5 :: SupX.supR st ∧ ∀ env, (∃ pl, eval (.Call (.Attribute (.Call (.Name "super" p0) [] [] p1) "__init__" p2) (SupX.supE st :: SupX.supEs st) [] p4) env = (do
      let ov ← attributeBase (.Call (.Name "super" p0) [] [] p1) "__init__" env (eval (.Call (.Name "super" p0) [] [] p1) env)
      standAt p2.atName
      let (f, first) ← holding [ov] (getMethod ov "__init__" pl)
      callWith p4 f first (backTo p4 (starEach (SupX.supE st :: SupX.supEs st) env)) [])) ∧ starEach (SupX.supE st :: SupX.supEs st) env = (false, eval (SupX.supE st) env) :: starEach (SupX.supEs st) env ∧ (backTo p4 (starEach (SupX.supEs st) env)).any (·.1) = false
  bind : ∀ (cc c : Addr) (doc pm ctv : Value) (us : List Value), us.length = ps.length → bindArgs ((SupX.nfOf q st cc c).fd doc pm ctv) ⟨us, []⟩ = pure (ps.zip us)
theorem supD_of {prog : Program} {K : PySem.W.Frag} {x y q q0 : Str} {st s0 : Stmt} {N ps : List Str} {fd0 : FuncData} (h : supB K prog.main.file x y q = true) (e : fnE K x = (some ((("__init__" : String) : Str), q, defArgs st, FuncBody.stmts (defBody st), defScope st, mainGlobals, builtinsNs) : FnE)) (S : SupS prog q st N ps) (M : Mk K (ga K x) (iAd K x))
    (F0 : FunD K "__init__" q0 (defArgs s0) (defBody s0) (defScope s0) [] [] (iAd K y) fd0) : SupX.SupD prog K x q q0 st s0 N ps := by
  have h0 : sinB K (ga K x) (iAd K x) prog.main.file q = true := all_at h 0
  unfold sinB at h0
  unfold fnE at e
  cases z : K.lookup (iAd K x) with
  | none => rw [z] at h0; cases h0
  | some o =>
    obtain ⟨oc, od, dt, osl⟩ := o
    rw [z] at h0 e
    cases dt with
    | func fd =>
      obtain ⟨n1, n2, n3, n4, n5, n6, n7, n8, n9, n10, n11, n12, n13, n14, n15⟩ := fd
      have e2 : (some (n1, n2, n3, n4, n5, n6, n15) : FnE) = (some (Str.ofString "__init__", q, defArgs st, .stmts (defBody st), defScope st, mainGlobals, builtinsNs) : FnE) := e
      simp only [Option.some.injEq, Prod.mk.injEq] at e2
      obtain ⟨h1, h2, h3, h4, h5, h6, h8⟩ := e2
      subst h1 h2 h3 h4 h5 h6 h8
      cases n13 with
      | ref cda =>
        cases n7 with
        | nil => cases h0
        | cons c7 r7 =>
          obtain ⟨cn, cc⟩ := c7
          cases r7 with
          | cons _ _ => cases h0
          | nil =>
            cases n8 with
            | none =>
              cases n9 with
              | none =>
                have h17 : (decide (cn = "__class__") && (n12.isNone && (PySem.W.codeIn K (.ref cda) n2 && (fileB K cda prog.main.file && cellB K cc (ga K x))))) = true := h0
                obtain ⟨a1, a⟩ := ba h17
                obtain ⟨a5, a⟩ := ba a
                obtain ⟨a2, a⟩ := ba a
                obtain ⟨a3, a4⟩ := ba a
                have a1 := of_decide_eq_true a1
                subst a1
                cases n12 with
                | some _ => cases a5
                | none =>
                  unfold fileB at a3
                  unfold cellB at a4
                  split at a3
                  · rename_i ccl cdd vs ccs q1
                    split at a3
                    · rename_i f tf q2
                      split at a4
                      · rename_i cl cld C' csl q3
                        have a4 := of_decide_eq_true a4
                        subst a4
                        refine ⟨iAd K y, fd0, iAd K x, cc, cda, ?_, M, F0⟩
                        exact {
                          fn := ⟨oc, od, osl, n10, n11, n14, z⟩
                          cd := a2
                          file := ⟨ccl, cdd, vs, ccs, f, tf, q1, q2, a3⟩
                          cell := ⟨cc, cl, cld, csl, rfl, q3⟩
                          cls := Option.isSome_iff_exists.mp (all_at h 1)
                          own := of_decide_eq_true (all_at h 2)
                          sup := eqO_ok (all_at h 3)
                          fun0 := of_decide_eq_true (all_at h 4)
                          fn0 := all_at h 5
                          opq := eqO_ok (all_at h 6)
                          gsup := eqO_ok (all_at h 7)
                          topN := S.topN
                          sc := S.sc
                          ksup := S.ksup
                          self := S.self
                          body := S.body
                          bind := S.bind cc cda }
                      · cases a4
                    · cases a3
                  · cases a3
              | _ => cases h0
            | _ => cases h0
      | _ => cases h0
    | _ => cases h0
end HeE


set_option Elab.async false
set_option linter.all false
set_option maxRecDepth 100000
set_option maxHeartbeats 4000000
/-! lambdas with parameters that capture names, kept in fields, called from afar -/
namespace LmX
open PySem PySem.Spec PyProof.Rows L2 LamX NdefX
/-- the object at f is a lambda: F its words, b its body -/
def FnL (f : Addr) (F : NF) (b : Expr) : HO := .ext fun h => ∃ (pm ctv : Value), h.get? f = some (PySem.W.kla_obj "<lambda>" F.qual F.params b F.scope F.cl pm F.c ctv)
theorem fnL_at {P : Program} {w : World} {H : Hp} {h : Heap} {f : Addr} {F : NF} {b : Expr} (hok : HOk P w H h) (e : H f = some (FnL f F b)) : ∃ (pm ctv : Value), h.get? f = some (PySem.W.kla_obj "<lambda>" F.qual F.params b F.scope F.cl pm F.c ctv) := by
  obtain ⟨z, _, _⟩ := hok f _ e
  exact z
section
variable {X : Cx} {pins : List (Addr × Obj)} {σ : L2.St} {H : Hp} {s : Shared}
/-- the lambda is made: its code object is new, or found in the table; the function is known from now on -/
theorem lam_make3 {T : List (Addr × Str)} {c P : Addr} {params : Arguments} {body : Expr} {scope : Scope} {pos : Pos} {E : Value → Shared → Prop} {Q : Value → Shared → Prop} (I : Inv X pins σ H s) (TB : TabB X.base X.mg c P) (hcode : X.env.code = .ref c)
    (hm : (P, X.env.qual ++ "<lambda>") ∈ T) (hu : ∀ p ∈ T, p.1 = P → p.2 = X.env.qual ++ "<lambda>") (hT : Tabs T H) (hdef : defaultsOf params X.env = ([], [])) (hfree : ∀ y ∈ scope.names, y.2 = .free → ∃ c, X.env.cells.lookup y.1 = some c)
    (h : ∀ (f c' : Addr) (H1 : Hp) (s' : Shared), Inv X pins σ H1 s' → ExtN H H1 → Tabs T H1 → H f = none →
      H1 f = some (FnL f ⟨"<lambda>", X.env.qual ++ "<lambda>", params, [], scope, cloFrom X.env.cells scope.names [], c'⟩ body) → H1 c' = some (CodeO c' (X.env.qual ++ "<lambda>")) → Q (.ref f) s') :
    wpAny (model X.prog X.w) X.A (eval (.Lambda params body scope pos) X.env) Q E s := by
  obtain ⟨ps, hP, ht, ha⟩ := hT _ hm
  refine PySem.W.kla_eval hdef ?_
  have bP : s.heap.BuiltinsAt X.mg P := TB.bm.keeps I.bk
  have hP' : s.heap.get? P = some { cls := .none, data := .fields ps } := I.hok P _ hP
  -- the function is known from now on
  have fin : ∀ (f c' : Addr) (pm ctv : Value) (H1 : Hp) (s' : Shared), Inv X pins σ H1 s' → ExtN H H1 → Tabs T H1 → s.heap.objs.size ≤ f →
      s'.heap.get? f = some (PySem.W.kla_obj "<lambda>" (X.env.qual ++ "<lambda>") params body scope (cloFrom X.env.cells scope.names []) pm c' ctv) → H1 f = none → H1 c' = some (CodeO c' (X.env.qual ++ "<lambda>")) → Q (.ref f) s' := by
    intro f c' pm ctv H1 s' I1 eN T1 hf ho n1 hc
    have I2 := I1.take (h' := s'.heap) (t' := s'.toks) (it := f) (o := FnL f ⟨"<lambda>", X.env.qual ++ "<lambda>", params, [], scope, cloFrom X.env.cells scope.names [], c'⟩ body) (fun b ob _ e => e) (I.fpOk hf n1)
      ⟨⟨pm, ctv, ho⟩, ⟨_, ho⟩, fun h1 h2 ⟨p, t, z⟩ st => ⟨p, t, st _ z⟩⟩
    have up : ∀ b o, H1 b = some o → upd H1 f (FnL f ⟨"<lambda>", X.env.qual ++ "<lambda>", params, [], scope, cloFrom X.env.cells scope.names [], c'⟩ body) b = some o := fun b o e => by
      rw [upd_ne (ne_of_none e n1)]; exact e
    exact h f c' _ s' I2 (eN.trans (ExtN.of up)) (T1.ext up) (I.hok.fresh hf) upd_same (up _ _ hc)
  cases hc : codeAmong pos ps.toList with
  | none =>
    refine PySem.W.kla_makeFunction (mg := X.mg) (c := c) (P := P) (ps := ps) (closure_ok hfree) I.ok.glob (I.mod.glob.keeps I.bk) hcode (TB.code.keeps I.bk) hP' ht hc TB.gP bP fun c' ctv h' tk hx hge hlt hrec htb => ?_
    obtain ⟨c2, oc, vs, t, e2, hoc, hd, hv⟩ := hrec
    cases e2
    have hsz : s.heap.objs.size ≤ h'.objs.size := Nat.le_trans hge (Nat.le_of_lt hlt)
    have nC : H c' = none := I.hok.fresh hge
    have I1 := inv_table (t' := tk) (more := #[rawInt pos.line, rawInt pos.col, .ref c']) (h' := h'.push (PySem.W.kla_obj "<lambda>" (X.env.qual ++ "<lambda>") params body scope (cloFrom X.env.cells scope.names []) ((X.mg "__name__").getD .none) c' ctv)) I hP
      (fun b o hb e => Heap.get?_push_of_some _ (hx b o hb e)) (Heap.get?_push_of_some _ htb) hge ⟨oc, vs, t, Heap.get?_push_of_some _ hoc, hd, hv⟩
    have hE : ExtN H (upd (upd H P (.tbl (ps ++ #[rawInt pos.line, rawInt pos.col, .ref c']))) c' (CodeO c' (X.env.qual ++ "<lambda>"))) := fun b o e n => by
      rw [upd_ne (ne_of_none e nC), upd_ne (fun z => n ps (Option.some.inj (e.symm.trans (by rw [z]; exact hP))))]
      exact e
    have eL : (ps ++ #[rawInt pos.line, rawInt pos.col, .ref c']).toList = ps.toList ++ [rawInt pos.line, rawInt pos.col, .ref c'] := by simp
    refine fin h'.objs.size c' ((X.mg "__name__").getD .none) ctv _ _ I1 hE (fun p hp => ?_) hsz (Heap.get?_push_size _ rfl) ?_ upd_same
    · by_cases hb : p.1 = P
      · rw [hu p hp hb, hb]
        refine ⟨_, by rw [upd_ne (ne_of_none hP nC), upd_same], by rw [eL]; exact PySem.TriplesOk_snoc _ _ _ _ ht, fun p' cv hcv => ?_⟩
        rw [eL] at hcv
        rcases among_app _ ht hcv with z | z
        · obtain ⟨c0, e1, e2⟩ := ha p' cv z
          exact ⟨c0, e1, hE _ _ e2 codeO_ne⟩
        · exact ⟨c', z, upd_same⟩
      · obtain ⟨ps', a1, a2, a3⟩ := hT p hp
        refine ⟨ps', by rw [upd_ne (ne_of_none a1 nC), upd_ne hb]; exact a1, a2, fun p' cv hcv => ?_⟩
        obtain ⟨c0, e1, e2⟩ := a3 p' cv hcv
        exact ⟨c0, e1, hE _ _ e2 codeO_ne⟩
    · have n1 : h'.objs.size ≠ c' := Nat.ne_of_gt hlt
      have n2 : h'.objs.size ≠ P := Nat.ne_of_gt (Nat.lt_of_lt_of_le (Heap.lt_size hP') hsz)
      rw [upd_ne n1, upd_ne n2]
      exact I.hok.fresh hsz
  | some cv =>
    obtain ⟨c', e, hco⟩ := ha pos cv hc
    subst e
    refine PySem.W.kla_makeFunctionHit (mg := X.mg) (c := c) (P := P) (ps := ps) (closure_ok hfree) I.ok.glob (I.mod.glob.keeps I.bk) hcode (TB.code.keeps I.bk) hP' ht hc bP fun ctv h' tk hx hsz => ?_
    have I1 : Inv X pins σ H { s with heap := h'.push (PySem.W.kla_obj "<lambda>" (X.env.qual ++ "<lambda>") params body scope (cloFrom X.env.cells scope.names []) ((X.mg "__name__").getD .none) c' ctv), toks := tk } := I.kept fun b o e => Heap.get?_push_of_some _ (hx b o e)
    exact fin h'.objs.size c' ((X.mg "__name__").getD .none) ctv H _ I1 (ExtN.refl H) hT hsz (Heap.get?_push_size _ rfl) (I.hok.fresh hsz) hco
end
/-- the reading of a lambda -/
def tLm (T : List (Addr × Str)) (mk : Addr → NF) (b : Expr) : TE := fun σ H Q => Tabs T H ∧ ∀ (f c' : Addr) (H1 : Hp), ExtN H H1 → Tabs T H1 → H f = none → H1 f = some (FnL f (mk c') b) → H1 c' = some (CodeO c' (mk c').qual) → Q (.ref f) H1
theorem pe_lam {X : Cx} {T : List (Addr × Str)} {c P : Addr} {params : Arguments} {body : Expr} {scope : Scope} {pos : Pos} (TB : TabB X.base X.mg c P) (hcode : X.env.code = .ref c) (hm : (P, X.env.qual ++ "<lambda>") ∈ T) (hu : ∀ p ∈ T, p.1 = P → p.2 = X.env.qual ++ "<lambda>")
    (hfree : ∀ y ∈ scope.names, y.2 = .free → X.env.scope.names.lookup y.1 = some .cell ∨ X.env.scope.names.lookup y.1 = some .free) (hdef : defaultsOf params X.env = ([], []) := by rfl) :
    PE X (.Lambda params body scope pos) (tLm T (fun c' => ⟨"<lambda>", X.env.qual ++ "<lambda>", params, [], scope, cloFrom X.env.cells scope.names [], c'⟩) body) := by
  refine ⟨fun pins s σ H Q I h => ?_⟩
  obtain ⟨hT, h⟩ := h
  have hfr : ∀ y ∈ scope.names, y.2 = .free → ∃ c, X.env.cells.lookup y.1 = some c := fun y hy e => (hfree y hy e).elim (fun z => I.ok.has _ (.inl z)) fun z => I.ok.has _ (.inr z)
  exact lam_make3 I TB hcode hm hu hT hdef hfr fun f c' H1 s' I1 eN T1 f0 f1 c1 => ⟨.ref f, H1, I1, rfl, h f c' H1 eN T1 f0 f1 c1⟩
/-- what a base tells of the captured cells, in every state over it -/
def BCell (base : Heap) (cl : List (Str × Addr)) (fr : List Str) (ws : List (Option V)) : Prop := ∀ (h : Heap) (H : Hp), (∀ b o, base.get? b = some o → h.get? b = some o ∧ H b = none) → CellsAt cl fr ws h H
/-- the promise of a lambda F at f, from wherever it is called -/
structure LOk (P : Program) (w : World) (K : PySem.W.Frag) (mg : Str → Option Value) (base : Heap) (k : Nat) (f : Addr) (F : NF) (b : Expr) (ps : List Str) (sp : Sp) : Prop where
  len : ∀ vs H Q E, sp vs H Q E → vs.length = ps.length
  run : ∀ (A : Around) (outer : List Env) (s : Shared) (H : Hp) (us : List Value) (vs : List V) (Q : VK) (E : XK), Room k A → Env0 P w K mg base A outer s H → H f = some (FnL f F b) → H F.c = some (CodeO F.c F.qual) →
    Vals vs us → sp vs H Q E → codeAny (model P w) A (.call (.ref f) ⟨us, []⟩) (CR C8.CX0 outer P w H s Q E) s
section
variable {P : Program} {w : World} {K : PySem.W.Frag} {mg : Str → Option Value} {base : Heap} {N ps fr : List Str} {F : NF} {b : Expr} {f : Addr} {k j : Nat} {sp : Sp} {ws : List (Option V)}
theorem LOk.mono (o : LOk P w K mg base j f F b ps sp) (h : j ≤ k) : LOk P w K mg base k f F b ps sp := ⟨o.len, fun A outer s H us vs Q E hr => o.run A outer s H us vs Q E (hr.mono h)⟩
/-- THE RULE: a lambda by its body -/
theorem lok_of (S : NScope N ps fr F.scope) (hb : ∀ (pm ctv : Value) (us : List Value), us.length = ps.length → bindArgs (PySem.W.kla_fn "<lambda>" F.qual F.params b F.scope F.cl pm (.ref F.c) ctv) ⟨us, []⟩ = pure (ps.zip us)) (len : ∀ vs H Q E, sp vs H Q E → vs.length = ps.length)
    (C : BCell base F.cl fr ws)
    (hbody : ∀ (A : Around) (outer : List Env) (s : Shared) (H : Hp) (vs : List V) (Q : VK) (E : XK), Room k (A.deeper (envF F f s.heap.objs.size)) → sp vs H Q E → ∃ t, PE (ncx C8.CX0 P w K mg base N F f A outer s H E) b t ∧ t (startF N vs ws) H Q) :
    LOk P w K mg base (k + 1) f F b ps sp := by
  refine ⟨len, fun A outer s H us vs Q E hr e0 hf hc r hsp => ?_⟩
  have hl := len _ _ _ _ hsp
  have lim : s.heap.NoLimit := e0.mod.nolimit.keeps fun b o e => (e0.bs b o e).1
  obtain ⟨pm, ctv, ho⟩ := fnL_at e0.hok hf
  refine PySem.W.kla_callFunE hr.depth ho rfl S.co S.gen rfl (codeO_at e0.hok hc) ?_
  show wpAny _ _ (bindArgs (PySem.W.kla_fn "<lambda>" F.qual F.params b F.scope F.cl pm (.ref F.c) ctv) ⟨us, []⟩) _ _ _
  rw [hb pm ctv us (by rw [← r.length]; exact hl)]
  refine wpAny_pure (wpAny_newFunctionEnv S.nocell (fun ⟨n, _⟩ hy => S.par n (List.of_mem_zip hy).1) (fun h₁ hns hsb => ⟨lim.fresh _ hsb, ?_⟩) S.kind)
  show codeAny _ _ (.expr b (envF F f s.heap.objs.size)) _ _
  have kp : ∀ b o, s.heap.get? b = some o → h₁.get? b = some o := fun b o e => hsb.extBut b o (Nat.ne_of_lt (Heap.lt_size e)) (Heap.get?_push_of_some _ e)
  obtain ⟨t, ht, hq⟩ := hbody A outer s H vs Q E (hr.deeper _) hsp
  have I : Inv (ncx C8.CX0 P w K mg base N F f A outer s H E) [] (startF N vs ws) H { s with heap := h₁, toks := s.toks + (ps.zip us).length } := inv_startN S hr.hd e0 hl r (C s.heap H e0.bs) hns kp
  refine PySem.W.kla_codeExpr (wpAny_mono (ht.run [] _ (startF N vs ws) H Q I hq) (fun v s' hs => ?_) fun e s' hs => hs)
  obtain ⟨w', H', J, rv, q⟩ := hs
  exact ⟨w', H', J.os, J.bare, J.base, J.hok, rv, q⟩
end
end LmX


set_option Elab.async false
set_option linter.all false
set_option maxRecDepth 100000
set_option maxHeartbeats 4000000
/-! a base with one cell more; calls under it; a call of a lambda in a field -/
namespace LmX
open PySem PySem.Spec PyProof.Rows L2 LamX NdefX
def deadO : Obj := { cls := .none, data := .freed }
/-- the base, and the object o at a -/
def addO (base : Heap) (a : Nat) (o : Obj) : Heap := ⟨(base.objs.toList ++ (List.replicate (a - base.objs.size) deadO ++ [o])).toArray, base.life⟩
theorem addO_size {base : Heap} {a : Nat} {o : Obj} (h : base.objs.size ≤ a) : (addO base a o).objs.size = a + 1 := by
  show (base.objs.toList ++ (List.replicate (a - base.objs.size) deadO ++ [o])).toArray.size = a + 1
  simp only [List.size_toArray, List.length_append, List.length_replicate, List.length_cons, List.length_nil, Array.length_toList]
  omega
theorem addO_get {base : Heap} {a b : Nat} {o u : Obj} (h : base.objs.size ≤ a) (e : (addO base a o).get? b = some u) : base.get? b = some u ∨ (b = a ∧ u = o) := by
  unfold Heap.get? at e ⊢
  have e0 : (addO base a o).objs[b]? = (base.objs.toList ++ (List.replicate (a - base.objs.size) deadO ++ [o]))[b]? := by
    show (base.objs.toList ++ (List.replicate (a - base.objs.size) deadO ++ [o])).toArray[b]? = _
    rw [List.getElem?_toArray]
  rw [e0] at e
  by_cases h1 : b < base.objs.size
  · rw [List.getElem?_append_left (by rw [Array.length_toList]; exact h1), Array.getElem?_toList] at e
    exact .inl e
  · rw [List.getElem?_append_right (by rw [Array.length_toList]; omega), Array.length_toList] at e
    by_cases h2 : b < a
    · rw [List.getElem?_append_left (by rw [List.length_replicate]; omega), List.getElem?_replicate, if_pos (by omega)] at e
      cases e
    · rw [List.getElem?_append_right (by rw [List.length_replicate]; omega), List.length_replicate] at e
      by_cases h3 : b = a
      · subst h3
        rw [Nat.sub_self] at e
        obtain ⟨oc, od, dt, sl⟩ := o
        cases dt <;> first
          | (cases e; exact .inr ⟨rfl, rfl⟩)
          | cases e
      · have : b - base.objs.size - (a - base.objs.size) = (b - a - 1) + 1 := by omega
        rw [this] at e
        cases e
theorem addO_keep {base : Heap} {a b : Nat} {o u : Obj} (e : base.get? b = some u) : (addO base a o).get? b = some u := by
  have h1 := Heap.lt_size e
  unfold Heap.get? at e ⊢
  have e0 : (addO base a o).objs[b]? = base.objs[b]? := by
    show (base.objs.toList ++ (List.replicate (a - base.objs.size) deadO ++ [o])).toArray[b]? = _
    rw [List.getElem?_toArray, List.getElem?_append_left (by rw [Array.length_toList]; exact h1), Array.getElem?_toList]
  rw [e0]
  exact e
theorem addO_at {base : Heap} {a : Nat} {o : Obj} (h : base.objs.size ≤ a) (hf : o.data ≠ .freed) : (addO base a o).get? a = some o := by
  unfold Heap.get?
  have e0 : (addO base a o).objs[a]? = some o := by
    show (base.objs.toList ++ (List.replicate (a - base.objs.size) deadO ++ [o])).toArray[a]? = _
    rw [List.getElem?_toArray, List.getElem?_append_right (by rw [Array.length_toList]; omega), Array.length_toList, List.getElem?_append_right (by rw [List.length_replicate]; omega), List.length_replicate, Nat.sub_self]
    rfl
  rw [e0]
  obtain ⟨oc, od, dt, sl⟩ := o
  cases dt <;> first | rfl | exact absurd rfl hf
section
variable {X : Cx} {pins : List (Addr × Obj)} {σ : L2.St} {H : Hp} {s : Shared}
/-- the frame's own cell of the name y, in the base from now on -/
theorem base_cell {y : Str} {a : Addr} {i : Nat} {v : V} (I : Inv X pins σ H s) (hy : X.fn y = true) (hk : X.env.scope.names.lookup y = some .cell) (hi : X.N[i]? = some y) (hv : σ[i]? = some (some v)) :
    ∃ (a : Addr) (base' : Heap) (u : Value), X.env.cells.lookup y = some a ∧ RelV v u ∧ Mod X.K X.mg base' ∧ Env0 X.prog X.w X.K X.mg base' X.A X.stack s H ∧ ∀ (h : Heap) (H' : Hp), (∀ b o, base'.get? b = some o → h.get? b = some o ∧ H' b = none) → h.IsCell a (some u) ∧ H' a = none := by
  obtain ⟨m, hn, hl⟩ := I.loc
  obtain ⟨u, ru, lk⟩ := hl i y v hi hv (.inr (.inl hk))
  rcases lk with ⟨z, _⟩ | ⟨_, a, ha, hc⟩
  · have z' : X.env.scope.names.lookup y = some .local := z
    rw [hk] at z'; cases z'
  obtain ⟨o, ho, hd⟩ := id hc
  have hab := I.ok.cab y a hy ha
  have hba : X.base.objs.size ≤ a := Nat.le_trans I.ok.bsz hab
  have hnf : ∀ z : Prop, o.data = .freed → z := fun z e => by rw [hd] at e; cases e
  have kp : ∀ b u, X.base.get? b = some u → (addO X.base a o).get? b = some u := fun b u e => addO_keep e
  have at_ : (addO X.base a o).get? a = some o := by
    refine addO_at hba ?_
    intro e
    rw [hd] at e; cases e
  have e0 := I.env0
  refine ⟨a, addO X.base a o, u, ha, ru, ?_, ?_, fun h H' hb => ?_⟩
  · have M := I.ok.mod
    obtain ⟨mb, b1, b2⟩ := M.blt
    exact ⟨PySem.W.Frag.In.keeps M.kin kp, M.glob.keeps kp, ⟨mb, b1.keeps kp, b2⟩, M.nolimit.keeps kp⟩
  · have M := I.ok.mod
    obtain ⟨mb, b1, b2⟩ := M.blt
    refine ⟨e0.frames, ⟨PySem.W.Frag.In.keeps M.kin kp, M.glob.keeps kp, ⟨mb, b1.keeps kp, b2⟩, M.nolimit.keeps kp⟩, fun b q e => ?_, ?_, ?_, e0.frf, e0.hok, e0.bare⟩
    · rcases addO_get hba e with e | ⟨e1, e2⟩
      · exact e0.bs b q e
      · subst e1 e2
        exact ⟨ho, I.freeC y _ ha⟩
    · rw [addO_size hba]
      exact Heap.lt_size ho
    · -- the frames that run are none of it
      have key : ∀ l : List Env, s.heap.FunFrames X.base l → (∀ e ∈ l, ∀ L, e.frame = some L → L ≠ a) → s.heap.FunFrames (addO X.base a o) l := by
        intro l
        induction l with
        | nil => intro _ _; trivial
        | cons e r ih =>
          intro hf hne
          obtain ⟨h1, ⟨L, oL, h2, h3, h4, h5⟩, h6⟩ := hf
          refine ⟨h1, ⟨L, oL, h2, ?_, h4, h5⟩, ih h6 fun e' he => hne e' (List.mem_cons_of_mem _ he)⟩
          cases g : (addO X.base a o).get? L with
          | none => rfl
          | some q =>
            rcases addO_get hba g with z | ⟨z, _⟩
            · rw [h3] at z; cases z
            · exact absurd z (hne e (List.mem_cons_self ..) L h2)
      refine key _ e0.funs ?_
      have outer : ∀ e ∈ X.outer, ∀ L, e.frame = some L → L ≠ a := by
        have : ∀ l : List Env, X.s_0.heap.FunFrames X.base l → ∀ e ∈ l, ∀ L, e.frame = some L → L ≠ a := by
          intro l
          induction l with
          | nil => intro _ e he; cases he
          | cons e r ih =>
            intro hf e' he L hL
            obtain ⟨_, ⟨L', oL, h2, _, h4, _⟩, h6⟩ := hf
            rcases List.mem_cons.mp he with z | z
            · subst z
              rw [h2] at hL
              cases hL
              intro z
              have := Heap.lt_size h4
              rw [z] at this
              exact Nat.lt_irrefl _ (Nat.lt_of_lt_of_le this hab)
            · exact ih h6 e' z L hL
        exact this X.outer I.ok.funs
      have own : X.env.locals ≠ a := by
        obtain ⟨ob, es, ep, g1, g2, _⟩ := hn
        intro z
        rw [z, ho] at g1
        cases g1
        rw [hd] at g2; cases g2
      rcases I.ok.stk with z | ⟨z, z2⟩
      · rw [z]; exact outer
      · rw [z]
        intro e he L hL
        rcases List.mem_cons.mp he with q | q
        · subst q
          rw [z2] at hL
          cases hL
          exact own
        · exact outer e q L hL
  · obtain ⟨h1, h2⟩ := hb a o at_
    exact ⟨⟨o, h1, hd⟩, h2⟩
end
end LmX


set_option Elab.async false
set_option linter.all false
set_option maxRecDepth 100000
set_option maxHeartbeats 4000000
/-! a def called under a base with a cell more; a lambda in a field called -/
namespace LmX
open PySem PySem.Spec PyProof.Rows L2 LamX NdefX
/-- the lambda's scope captures y alone -/
def oneB (sc : Scope) (y : Str) : Bool := (sc.names.all fun z => !decide (z.2 = .free) || decide (z.1 = y)) && decide ((y, NameKind.free) ∈ sc.names)
theorem bcell_of {base' : Heap} {cells : List (Str × Addr)} {sc : Scope} {y : Str} {a : Addr} {u : Value} {v : V} (h1 : oneB sc y = true) (ha : cells.lookup y = some a) (ru : RelV v u)
    (hb : ∀ (h : Heap) (H' : Hp), (∀ b o, base'.get? b = some o → h.get? b = some o ∧ H' b = none) → h.IsCell a (some u) ∧ H' a = none) : BCell base' (cloFrom cells sc.names []) [y] [some v] := by
  unfold oneB at h1
  simp only [Bool.and_eq_true, Bool.or_eq_true, Bool.not_eq_true', decide_eq_true_eq, decide_eq_false_iff_not, List.all_eq_true] at h1
  obtain ⟨g1, g2⟩ := h1
  have hfree : ∀ z ∈ sc.names, z.2 = .free → ∃ c, cells.lookup z.1 = some c := fun z hz e => by
    rcases g1 z hz with q | q
    · exact absurd e q
    · rw [q]; exact ⟨a, ha⟩
  have only : ∀ {z c}, (cloFrom cells sc.names []).lookup z = some c → z = y ∧ c = a := fun {z c} e => by
    rcases cloFrom_mem (PySem.mem_of_lookup e) with hm | ⟨h1, h2⟩
    · cases hm
    · rcases g1 _ h1 with q | q
      · exact absurd rfl q
      · have q : z = y := q
        refine ⟨q, ?_⟩
        have := clo_cm hfree e
        rw [q, ha] at this
        exact (Option.some.inj this).symm
  intro h H' hh
  obtain ⟨c1, c2⟩ := hb h H' hh
  refine ⟨rfl, fun z c e => ?_, fun z1 z2 c e1 e2 => by rw [(only e1).1, (only e2).1], fun i z e => ?_⟩
  · rw [(only e).2]
    exact ⟨c2, _, c1⟩
  · match i, e with
    | 0, e =>
      cases e
      exact ⟨a, clo_has hfree g2 ha, fun v' e' => by cases e'; exact ⟨u, ru, c1⟩⟩
/-- x(..), where the callee may learn what the cell of the i-th name holds -/
def tCallB (K : PySem.W.Frag) (mg : Str → Option Value) (cells : List (Str × Addr)) (scs : List Scope) (y : Str) (i : Nat) (sp : Heap → Sp) (ds : List V) (E : XK) (t : TA) : TE := fun σ H Q => t σ H fun vs H1 => ∃ v, σ[i]? = some (some v) ∧
  ∀ base', Mod K mg base' → (∀ sc ∈ scs, BCell base' (cloFrom cells sc.names []) [y] [some v]) → sp base' (vs ++ ds) H1 Q E
section
variable {X : Cx} {CX : CXT} {k i : Nat} {ps : List Str} {sp : Heap → Sp} {ds : List V} {E : XK} {x y : Str} {p pos apos : Pos} {e o : Expr} {es : List Expr} {t : TA} {scs : List Scope}
theorem pe_callB (F : ∀ base', Mod X.K X.mg base' → FnX X.prog X.w X.K X.mg base' CX k x ps ds (sp base')) (hr : Room k X.A) (hx : Passes CX X E) (ha : PA X (e :: es) t) (hy : X.fn y = true) (hk : X.env.scope.names.lookup y = some .cell) (hi : X.N[i]? = some y) (hs : (scs.all fun sc => oneB sc y) = true)
    (hg : Gl X x := by rfl) (hdb : (x == ("__debug__" : Str)) = false := by decide)
    (he : starEach (e :: es) X.env = (false, eval e X.env) :: starEach es X.env := by rfl) (hpl : (backTo pos (starEach es X.env)).any (·.1) = false := by rfl) : PE X (.Call (.Name x p) (e :: es) [] pos) (tCallB X.K X.mg X.env.cells scs y i sp ds E t) := by
  refine ⟨fun pins s σ H Q I h => ?_⟩
  obtain ⟨f, fd, dvs, hm, kp, _, _, _⟩ := (F X.base I.ok.mod).ex
  refine wpAny_Call_Name_kw (ld_glob I hg hm ?_ hdb)
  refine PySem.W.callWith_K (h₀ := X.base) I.ok.mod.kin kp (thn (ha.run pos pins s σ H _ I h) fun us s1 ⟨vs, H1, I1, r, v, hv, q⟩ => ⟨I1.kIn, ?_⟩) he hpl
  obtain ⟨a, base', u, c1, c2, c3, c4, c5⟩ := base_cell (a := 0) I1 hy hk hi hv
  obtain ⟨f', fd', dvs', hm', kp', hb, vd, G⟩ := (F base' c3).ex
  obtain rfl : f = f' := by
    rw [hm] at hm'
    cases hm'
    rfl
  have h := q base' c3 fun sc hsc => bcell_of (List.all_eq_true.mp hs sc hsc) c1 c2 c5
  have r2 : Vals (vs ++ ds) (us ++ dvs') := r.append vd
  have hl : (us ++ dvs').length = ps.length := by rw [← r2.length]; exact G.len _ _ _ _ h
  show wpAny _ _ (call (.ref f) us) _ _ _
  refine wpAny_call (codeAny_mono (G.run X.A X.stack s1 H1 ⟨us, []⟩ (us ++ dvs') (vs ++ ds) Q E hr c4 (hb s1 us I1.kIn hl) r2 h) fun r s' hq => ?_)
  cases r with
  | error e => exact hx pins σ H1 s1 e s' I1 hq
  | ok fl =>
    cases fl with
    | ret u => exact I1.after hq
    | next => exact False.elim hq
    | brk => exact False.elim hq
    | cont => exact False.elim hq
/-- o.m(..), m a field that holds a lambda -/
def tCallL (P : Program) (w : World) (K : PySem.W.Frag) (mg : Str → Option Value) (base : Heap) (j : Nat) (m : Str) (to : TE) (t : TA) : TE := fun σ H Q => to σ H fun x H1 => ∃ a C dx fs f F b, x = .ref a ∧ H1 a = some (.ins C dx fs) ∧ Cls K C ∧ NoAttr K C m ∧ fs.lookup m = some (.ref f) ∧ H1 f = some (FnL f F b) ∧
  t σ H1 fun vs H2 => H2 f = some (FnL f F b) ∧ H2 F.c = some (CodeO F.c F.qual) ∧ ∃ ps sp, LOk P w K mg base j f F b ps sp ∧ sp vs H2 Q C8.E0
theorem fnAtL {pins : List (Addr × Obj)} {σ : L2.St} {H : Hp} {s : Shared} {f : Addr} {F : NF} {b : Expr} (I : Inv X pins σ H s) (e : H f = some (FnL f F b)) : PySem.W.FnAt f s.heap := by
  obtain ⟨pm, ctv, ho⟩ := fnL_at I.hok e
  exact ⟨_, _, _, _, ho⟩
theorem pe_callL {pl : Sem Bool} {m : Str} {to : TE} {j : Nat} (ho : PE X o to) (ha : PA X (e :: es) t) (hr : Room j X.A)
    (hst : starEach (e :: es) X.env = (false, eval e X.env) :: starEach es X.env := by rfl) (hpl : (backTo pos (starEach es X.env)).any (·.1) = false := by rfl)
    (ht : eval (.Call (.Attribute o m apos) (e :: es) [] pos) X.env = (do
      let ov ← eval o X.env
      standAt apos.atName
      let (f, first) ← holding [ov] (getMethod ov m pl)
      callWith pos f first (backTo pos (starEach (e :: es) X.env)) (backToKw pos (keywordEach [] X.env))) := by rfl) :
    PE X (.Call (.Attribute o m apos) (e :: es) [] pos) (tCallL X.prog X.w X.K X.mg X.base j m to t) := by
  refine ⟨fun pins s σ H Q I h => ?_⟩
  refine PySem.W.methodCall_KW (pl := pl) (thn (ho.run pins s σ H _ I h) fun u s1 ⟨x, H1, I1, rx, a, C, dx, fs, f, F, b, ex, ea, c, n, l, hf1, q⟩ => ?_) ht
  subst ex
  obtain rfl : u = Value.ref a := rx
  obtain ⟨mA, O, _⟩ := ins_get I1.hok ea
  obtain ⟨od, J, _⟩ := O.look
  refine PySem.W.method_usual (r := none) I1.kIn J (PySem.W.plainGet_of (c.get m)).1 (PySem.W.plainGet_of (c.get m)).2 n rfl ?_
  refine getattr_ok I1 ea c n l fun u' s2 I2 ru => ?_
  obtain rfl : u' = Value.ref f := ru
  refine PySem.W.callWith_F (first := []) (fnAtL I2 hf1) (thn (ha.run pos pins s2 σ H1 _ I2 q) fun us s3 ⟨vs, H2, I3, r, hf2, hc2, ps, sp, G, hsp⟩ => ⟨fnAtL I3 hf2, ?_⟩) hst hpl
  show wpAny _ _ (call (.ref f) us) _ _ _
  refine wpAny_call (codeAny_mono (G.run X.A X.stack s3 H2 us vs Q C8.E0 hr I3.env0 hf2 hc2 r hsp) fun r s' hq => ?_)
  cases r with
  | error e => exact (show False from hq).elim
  | ok fl =>
    cases fl with
    | ret u => exact I3.after hq
    | next => exact False.elim hq
    | brk => exact False.elim hq
    | cont => exact False.elim hq
theorem callL_at {P : Program} {w : World} {K : PySem.W.Frag} {mg : Str → Option Value} {base : Heap} {pl : Sem Bool} {m : Str} {to : TE} {j : Nat} (ho : PE X o to) (ha : PA X (e :: es) t) (hr : Room j X.A)
    (h1 : X.prog = P := by rfl) (h2 : X.w = w := by rfl) (h3 : X.K = K := by rfl) (h4 : X.mg = mg := by rfl) (h5 : X.base = base := by rfl)
    (hst : starEach (e :: es) X.env = (false, eval e X.env) :: starEach es X.env := by rfl) (hpl : (backTo pos (starEach es X.env)).any (·.1) = false := by rfl)
    (ht : eval (.Call (.Attribute o m apos) (e :: es) [] pos) X.env = (do
      let ov ← eval o X.env
      standAt apos.atName
      let (f, first) ← holding [ov] (getMethod ov m pl)
      callWith pos f first (backTo pos (starEach (e :: es) X.env)) (backToKw pos (keywordEach [] X.env))) := by rfl) :
    PE X (.Call (.Attribute o m apos) (e :: es) [] pos) (tCallL P w K mg base j m to t) := by
  subst h1 h2 h3 h4 h5
  exact pe_callL ho ha hr hst hpl ht
end
end LmX


set_option Elab.async false
set_option linter.all false
set_option maxRecDepth 100000
set_option maxHeartbeats 4000000
/-! a def that captures names and has cells of its own -/
namespace BothX
open PySem PySem.Spec PyProof.Rows L2 NdefX
theorem cells_app : ∀ (names : List (Str × NameKind)) (n : Nat) (acc : List (Str × Addr)), cellsFrom n names acc = cellsFrom n names [] ++ acc
  | [], _, _ => rfl
  | (x, k) :: r, n, acc => by
    unfold cellsFrom
    by_cases h : (k == NameKind.cell) = true
    · rw [if_pos h, if_pos h, cells_app r _ ((x, n) :: acc), cells_app r _ [(x, n)], List.append_assoc]
      rfl
    · rw [if_neg h, if_neg h]
      exact cells_app r _ acc
section
variable {M : Model} {A : Around} {E : Value → Shared → Prop} {s₀ s : Shared} {m cm : Str → Option Value} {env : Env} {cs : List (Str × Addr)}
theorem stLB {n : Str} {v : Value} {Q : Unit → Shared → Prop} (x : InCallC s₀ env.locals m cs cm s) (hk : env.scope.kind = .function) (hl : env.kindOf n = some .local)
    (h : ∀ s', InCallC s₀ env.locals (fun y => if y = n then some v else m y) cs cm s' → Q () s') : wpAny M A (storeName env n v) Q E s := by
  refine wpAny_storeName_local hl x.toInCall.ns (fun h' hn' hs' => h _ ⟨⟨?_, hn', fun b o e => ?_, x.toInCall.fresh⟩, fun k c hc => ?_, x.apart, x.above⟩) (by rw [hk]; rfl)
  · obtain ⟨h₁, tk, rfl⟩ := x.toInCall.same
    exact ⟨h', _, rfl⟩
  · exact hs'.extBut b o (Nat.ne_of_lt (Nat.lt_of_lt_of_le (Heap.lt_size e) x.toInCall.fresh)) (x.toInCall.keep b o e)
  · exact (x.cell k c hc).sameBut hs' (Nat.ne_of_gt (x.above k c (mem_of_lookup hc)))
theorem stCB {n : Str} {c : Addr} {v : Value} {Q : Unit → Shared → Prop} (x : InCallC s₀ env.locals m cs cm s) (hk : env.scope.kind = .function) (hl : env.kindOf n = some .cell)
    (hc : env.cells.lookup n = some c) (hcs : cs.lookup n = some c)
    (h : ∀ s', InCallC s₀ env.locals m cs (fun y => if y = n then some v else cm y) s' → Q () s') : wpAny M A (storeName env n v) Q E s := by
  have hLc := x.above n c (mem_of_lookup hcs)
  refine wpAny_storeName_cell hk hl hc (x.cell n c hcs) fun h' hc' hs' => h _ ⟨⟨?_, x.toInCall.ns.sameBut hs' (Nat.ne_of_lt hLc), fun b o e => ?_, x.toInCall.fresh⟩, fun k c' hk' => ?_, x.apart, x.above⟩
  · obtain ⟨h₁, tk, rfl⟩ := x.toInCall.same
    exact ⟨h', _, rfl⟩
  · exact hs'.extBut b o (Nat.ne_of_lt (Nat.lt_trans (Nat.lt_of_lt_of_le (Heap.lt_size e) x.toInCall.fresh) hLc)) (x.toInCall.keep b o e)
  · by_cases hkn : k = n
    · subst hkn
      rw [hcs] at hk'; cases hk'
      simpa using hc'
    · rw [if_neg hkn]
      exact (x.cell k c' hk').sameBut hs' fun e => hkn (name_of_addr x.apart (mem_of_lookup hk') (e ▸ mem_of_lookup hcs))
theorem bindParamsB (f : Str × Value → PUnit → Sem (ForInStep PUnit)) (hf : ∀ n v u, f (n, v) u = (do storeName env n v; pure (.yield ⟨⟩))) (hk : env.scope.kind = .function) :
    ∀ (binds : List (Str × Value)) (m cm : Str → Option Value) (s : Shared) (Q : PUnit → Shared → Prop), InCallC s₀ env.locals m cs cm s →
      (∀ x ∈ binds, env.kindOf x.1 = some .local ∨ (env.kindOf x.1 = some .cell ∧ ∃ c, env.cells.lookup x.1 = some c ∧ cs.lookup x.1 = some c)) →
      (∀ s', InCallC s₀ env.locals (bindL env.kindOf binds m) cs (bindC env.kindOf binds cm) s' → Q ⟨⟩ s') → wpAny M A (forIn binds ⟨⟩ f) Q E s
  | [], m, cm, s, Q, x, _, h => by rw [List.forIn_nil]; exact wpAny_pure (h s x)
  | (n, v) :: r, m, cm, s, Q, x, hkind, h => by
    rw [List.forIn_cons, hf]
    have hr : ∀ y ∈ r, env.kindOf y.1 = some .local ∨ (env.kindOf y.1 = some .cell ∧ ∃ c, env.cells.lookup y.1 = some c ∧ cs.lookup y.1 = some c) := fun y hy => hkind y (List.mem_cons_of_mem _ hy)
    rcases hkind (n, v) List.mem_cons_self with hl | ⟨hl, c, hc, hcs⟩
    · refine wpAny_bind (wpAny_bind (stLB x hk hl fun s' x' => wpAny_pure (bindParamsB f hf hk r _ _ s' Q x' hr fun s'' x'' => h s'' ?_)))
      unfold bindL bindC; rw [if_pos hl, if_pos hl]; exact x''
    · have hnl : ¬ env.kindOf n = some .local := by rw [hl]; decide
      refine wpAny_bind (wpAny_bind (stCB x hk hl hc hcs fun s' x' => wpAny_pure (bindParamsB f hf hk r _ _ s' Q x' hr fun s'' x'' => h s'' ?_)))
      unfold bindL bindC; rw [if_neg hnl, if_neg hnl]; exact x''
end
section
variable {M : Model} {A : Around} {E : Value → Shared → Prop} {s : Shared}
theorem newEnvB {scope : Scope} {globals : Addr} {closure : List (Str × Addr)} {binds : List (Str × Value)} {qual : Str} {func : Option Addr} {code : Value} {builtins : Addr} {Q : Env → Shared → Prop}
    (hk : scope.kind = .function)
    (hkind : ∀ x ∈ binds, scope.names.lookup x.1 = some .local ∨ (scope.names.lookup x.1 = some .cell ∧ ∃ c, (cellsFrom (s.heap.objs.size + 1) scope.names []).lookup x.1 = some c))
    (hQ : ∀ env, env = newEnv scope s.heap.objs.size globals (cellsFrom (s.heap.objs.size + 1) scope.names [] ++ closure) qual func code none builtins →
      ∀ s', InCallC s env.locals (bindL env.kindOf binds fun _ => none) (cellsFrom (s.heap.objs.size + 1) scope.names []) (bindC env.kindOf binds fun _ => none) s' → Q env s') :
    wpAny M A (newFunctionEnv scope globals closure binds qual func code none builtins) Q E s := by
  simp only [newFunctionEnv, Option.isSome_none, Bool.false_eq_true, if_false]
  refine wpAny_bind (wpAny_alloc ?_)
  refine wpAny_bind (wpAny_layCells _ (fun name kind cells => by cases hkc : kind == NameKind.cell <;> simp [hkc]) _ _ _ _ ?_)
  have ok := cellsFrom_ok scope.names (s.heap.push { cls := .type "frame", data := .dict #[] }) (s.heap.objs.size + 1) [] ⟨fun _ _ hm => (nomatch hm), List.Pairwise.nil⟩ (by rw [Heap.size_push]; exact Nat.le_refl _)
  rw [Heap.size_push] at ok
  rw [show ({ s with heap := s.heap.push { cls := .type "frame", data := .dict #[] } } : Shared).heap.objs.size = s.heap.objs.size + 1 from Heap.size_push ..]
  rw [cells_app scope.names (s.heap.objs.size + 1) closure]
  refine wpAny_bind (bindParamsB (s₀ := s) (env := newEnv scope s.heap.objs.size globals (cellsFrom (s.heap.objs.size + 1) scope.names [] ++ closure) qual func code none builtins) (cs := cellsFrom (s.heap.objs.size + 1) scope.names [])
    _ (fun _ _ _ => rfl) hk binds (fun _ => none) (fun _ => none) _ _
    ⟨⟨⟨_, _, rfl⟩, (Heap.Ns.new s.heap (.type "frame")).keeps (pushCells_keeps _ _), fun b o e => pushCells_keeps _ _ b o (Heap.get?_push_of_some _ e), Nat.le_refl _⟩,
      fun n c hc => (ok.empty n c (mem_of_lookup hc)).1, ok.apart, fun n c hm => (ok.empty n c hm).2⟩
    (fun x hx => (hkind x hx).imp id fun ⟨h1, c, h2⟩ => ⟨h1, c, by
      show (cellsFrom (s.heap.objs.size + 1) scope.names [] ++ closure).lookup x.1 = some c
      rw [List.lookup_append, h2]; rfl, h2⟩) fun s' x => wpAny_pure (hQ _ rfl s' x))
end
/-- its names: the parameters, then the captured ones, then its locals; some may be cells of its own -/
structure BScope (N ps fr : List Str) (sc : Scope) : Prop where
  kind : sc.kind = .function
  co : sc.isCoroutine = false
  gen : sc.isGenerator = false
  nd : N.Nodup
  pre : N.take (ps.length + fr.length) = ps ++ fr
  par : ∀ x ∈ ps, sc.names.lookup x = some .local ∨ sc.names.lookup x = some .cell
  free : ∀ y ∈ sc.names, y.2 = .free → y.1 ∈ fr
  frk : ∀ x ∈ fr, sc.names.lookup x = some .free
def bscB (N ps fr : List Str) (sc : Scope) : Bool :=
  decide (sc.kind = .function) && !sc.isCoroutine && !sc.isGenerator && decide N.Nodup && decide (N.take (ps.length + fr.length) = ps ++ fr) && ps.all (fun x => decide (sc.names.lookup x = some .local) || decide (sc.names.lookup x = some .cell)) && sc.names.all (fun y => !decide (y.2 = .free) || decide (y.1 ∈ fr)) && fr.all (fun x => decide (sc.names.lookup x = some .free))
theorem bscope_by {N ps fr : List Str} {sc : Scope} (h : bscB N ps fr sc = true) : BScope N ps fr sc := by
  unfold bscB at h
  simp only [Bool.and_eq_true, Bool.not_eq_true', decide_eq_true_eq, List.all_eq_true, Bool.or_eq_true, decide_eq_false_iff_not] at h
  obtain ⟨⟨⟨⟨⟨⟨⟨h1, h2⟩, h3⟩, h4⟩, h5⟩, h6⟩, h8⟩, h9⟩ := h
  exact ⟨h1, h2, h3, h4, h5, h6, fun y hy e => (h8 y hy).elim (fun z => absurd e z) id, h9⟩
abbrev envB (F : NF) (f L : Addr) : Env := PySem.W.envX F.qual F.scope L f (.ref F.c) (cellsFrom (L + 1) F.scope.names [] ++ F.cl)
/-- the context of its body, at its entry -/
def bcx (CX : CXT) (P : Program) (w : World) (K : PySem.W.Frag) (mg : Str → Option Value) (base : Heap) (N : List Str) (F : NF) (f : Addr) (A : Around) (outer : List Env) (s : Shared) (H : Hp) (E : XK) : Cx where
  prog := P
  w := w
  K := K
  mg := mg
  base := base
  A := A.deeper (envB F f s.heap.objs.size)
  N := N
  s_0 := s
  H_0 := H
  env := envB F f s.heap.objs.size
  outer := outer
  stack := envB F f s.heap.objs.size :: outer
  ex := []
  calm := true
  fn := fun x => decide (F.scope.names.lookup x = some .cell)
  pn := []
  xe := fun e s' => wpAny (model P w) (A.deeper (envB F f s.heap.objs.size)) (leaving (envB F f s.heap.objs.size) e) (fun _ s'' => CX outer H s E e s'') (fun e' s'' => CX outer H s E e' s'') s'
theorem no_own {sc : Scope} {n : Nat} {x : Str} {c : Addr} (h : (cellsFrom n sc.names []).lookup x = some c) (hu : ∀ y ∈ sc.names, sc.names.lookup y.1 = some y.2) : sc.names.lookup x = some .cell := by
  have key : ∀ (names : List (Str × NameKind)) (n : Nat) (acc : List (Str × Addr)), (x, c) ∈ cellsFrom n names acc → (x, c) ∈ acc ∨ (x, NameKind.cell) ∈ names := by
    intro names
    induction names with
    | nil => intro n acc h; exact .inl h
    | cons y r ih =>
      obtain ⟨z, k⟩ := y
      intro n acc h
      unfold cellsFrom at h
      by_cases hk : (k == NameKind.cell) = true
      · rw [if_pos hk] at h
        rcases ih _ _ h with q | q
        · rcases List.mem_cons.mp q with q | q
          · have e1 : x = z := (Prod.mk.inj q).1
            refine .inr (List.mem_cons.mpr (.inl ?_))
            rw [e1, beq_iff_eq.mp hk]
          · exact .inl q
        · exact .inr (List.mem_cons_of_mem _ q)
      · rw [if_neg hk] at h
        rcases ih _ _ h with q | q
        · exact .inl q
        · exact .inr (List.mem_cons_of_mem _ q)
  rcases key _ _ _ (PySem.mem_of_lookup h) with q | q
  · cases q
  · exact hu _ q
section
variable {CX : CXT} {P : Program} {w : World} {K : PySem.W.Frag} {mg : Str → Option Value} {base : Heap} {N ps fr : List Str} {F : NF} {f : Addr} {A : Around} {outer : List Env} {s s1 : Shared} {H : Hp} {E : XK} {us : List Value} {vs : List V} {ws : List (Option V)}
theorem inv_startB (S : BScope N ps fr F.scope) (hu : ∀ y ∈ F.scope.names, F.scope.names.lookup y.1 = some y.2) (hcl : ∀ y c, F.cl.lookup y = some c → y ∈ fr) (hd : A.handled = none) (e0 : Env0 P w K mg base A outer s H) (hl : vs.length = ps.length) (r : Vals vs us) (C : CellsAt F.cl fr ws s.heap H)
    (x : InCallC s s.heap.objs.size (bindL (envB F f s.heap.objs.size).kindOf (ps.zip us) fun _ => none) (cellsFrom (s.heap.objs.size + 1) F.scope.names []) (bindC (envB F f s.heap.objs.size).kindOf (ps.zip us) fun _ => none) s1) :
    Inv (bcx CX P w K mg base N F f A outer s H E) [] (startF N vs ws) H s1 := by
  have hpl : ps.length + fr.length ≤ N.length := by
    have q := congrArg List.length S.pre
    rw [List.length_take, List.length_append] at q
    omega
  obtain ⟨h1, tk, rfl, kp⟩ := x.done
  have noA : ∀ b : Addr, b ∉ (bcx CX P w K mg base N F f A outer s H E).ex := fun b z => absurd (show b ∈ ([] : List Addr) from z) (by simp)
  have cellK : ∀ {c : Addr} {v : Option Value}, s.heap.IsCell c v → h1.IsCell c v := fun {c v} ⟨o, ho, hd⟩ => ⟨o, kp _ _ ho, hd⟩
  -- a cell: an own one, or a captured one
  have two : ∀ {y c}, (envB F f s.heap.objs.size).cells.lookup y = some c → (cellsFrom (s.heap.objs.size + 1) F.scope.names []).lookup y = some c ∨ ((cellsFrom (s.heap.objs.size + 1) F.scope.names []).lookup y = none ∧ F.cl.lookup y = some c) := fun {y c} h => by
    have h' : (cellsFrom (s.heap.objs.size + 1) F.scope.names [] ++ F.cl).lookup y = some c := h
    rw [List.lookup_append] at h'
    cases e : (cellsFrom (s.heap.objs.size + 1) F.scope.names []).lookup y with
    | none => rw [e] at h'; exact .inr ⟨rfl, h'⟩
    | some q => rw [e] at h'; exact .inl h'
  have old : ∀ {y c}, F.cl.lookup y = some c → c < s.heap.objs.size := fun {y c} h => by
    obtain ⟨_, v, z⟩ := C.all y c h
    exact z.lt
  have new : ∀ {y c}, (cellsFrom (s.heap.objs.size + 1) F.scope.names []).lookup y = some c → s.heap.objs.size < c := fun {y c} h => x.above y c (PySem.mem_of_lookup h)
  have ownL : ∀ {y c}, (cellsFrom (s.heap.objs.size + 1) F.scope.names []).lookup y = some c → (envB F f s.heap.objs.size).cells.lookup y = some c := fun {y c} h => by
    show (cellsFrom (s.heap.objs.size + 1) F.scope.names [] ++ F.cl).lookup y = some c
    rw [List.lookup_append, h]; rfl
  have frL : ∀ {y c}, y ∈ fr → F.cl.lookup y = some c → (envB F f s.heap.objs.size).cells.lookup y = some c := fun {y c} hy h => by
    show (cellsFrom (s.heap.objs.size + 1) F.scope.names [] ++ F.cl).lookup y = some c
    have e : (cellsFrom (s.heap.objs.size + 1) F.scope.names []).lookup y = none := by
      cases e : (cellsFrom (s.heap.objs.size + 1) F.scope.names []).lookup y with
      | none => rfl
      | some q =>
        have h1 := no_own e hu
        rw [S.frk y hy] at h1; cases h1
    rw [List.lookup_append, e]; exact h
  refine ⟨⟨e0.mod, S.kind, rfl, rfl, Nat.le_refl _, fun y z c e1 e2 => ?_, fun y hy => ?_, fun y c hy hc => ?_, fun _ => hd, Around.frames_deeper e0.frames, .inr ⟨rfl, rfl⟩, fun b z => absurd z (noA b), e0.bs, e0.bsz, fun b _ _ => noA b,
      fun b z => absurd z (noA b), e0.funs, e0.frf⟩,
    rfl, e0.bare, Un.kept kp, ⟨_, x.toInCall.ns, fun i y v e1 e2 e3 => ?_⟩, fun y c e => ?_, e0.hok.fresh (Nat.le_refl _), fun y c e => ?_, fun q hq => absurd (show q ∈ ([] : List (Addr × Obj)) ++ [] from hq) (by simp), e0.hok.kept kp, ?_⟩
  · rcases two e1 with a | ⟨_, a⟩ <;> rcases two e2 with b | ⟨_, b⟩
    · exact name_of_addr x.apart (PySem.mem_of_lookup a) (PySem.mem_of_lookup b)
    · exact absurd (Nat.lt_trans (old b) (new a)) (Nat.lt_irrefl _)
    · exact absurd (Nat.lt_trans (old a) (new b)) (Nat.lt_irrefl _)
    · exact C.inj y z c a b
  · have hy : F.scope.names.lookup y = some .cell ∨ F.scope.names.lookup y = some .free := hy
    rcases hy with hy | hy
    · obtain ⟨c, hc⟩ := cell_has (n := s.heap.objs.size + 1) hy
      exact ⟨c, ownL hc⟩
    · have hyf := S.free _ (PySem.mem_of_lookup hy) rfl
      obtain ⟨i, hi⟩ := List.mem_iff_getElem?.mp hyf
      obtain ⟨c, hc, _⟩ := C.has i y hi
      exact ⟨c, frL hyf hc⟩
  · have hy : decide (F.scope.names.lookup y = some .cell) = true := hy
    have hy := of_decide_eq_true hy
    rcases two hc with a | ⟨a, b⟩
    · exact Nat.le_of_lt (new a)
    · have h1 := S.frk y (hcl y c b)
      rw [hy] at h1; cases h1
  · have e1 : N[i]? = some y := e1
    have clen := C.len
    unfold startF at e2
    by_cases h1 : i < ps.length
    · have hq : (ps ++ fr)[i]? = some y := by
        rw [← S.pre, List.getElem?_take_of_lt (by omega)]
        exact e1
      rw [List.getElem?_append_left h1] at hq
      rw [List.getElem?_append_left (by rw [List.length_map]; omega), List.getElem?_map] at e2
      have ha : vs[i]? = some v := by
        cases e : vs[i]? with
        | none => rw [e] at e2; cases e2
        | some a => rw [e] at e2; cases e2; rfl
      obtain ⟨u, hu', rv⟩ := r.get ha
      have ndP : ps.Nodup := by
        have q := S.nd.sublist (List.take_sublist (ps.length + fr.length) N)
        rw [S.pre] at q
        exact (List.nodup_append.mp q).1
      refine ⟨u, rv, ?_⟩
      rcases S.par y (List.mem_of_getElem? hq) with k | k
      · exact .inl ⟨k, bindL_get ndP hq hu' k⟩
      · obtain ⟨c, e⟩ := cell_has (n := s.heap.objs.size + 1) k
        refine .inr ⟨.inl k, c, ownL e, ?_⟩
        have q := x.cell y c e
        rw [bindC_get ndP hq hu' (by show F.scope.names.lookup y ≠ _; rw [k]; decide)] at q
        exact q
    · rw [List.getElem?_append_right (by rw [List.length_map]; omega), List.length_map] at e2
      by_cases h2 : i < ps.length + fr.length
      · have hq : (ps ++ fr)[i]? = some y := by
          rw [← S.pre, List.getElem?_take_of_lt (by omega)]
          exact e1
        rw [List.getElem?_append_right (by omega)] at hq
        rw [List.getElem?_append_left (by omega), hl] at e2
        obtain ⟨c, hc, hv⟩ := C.has (i - ps.length) y hq
        obtain ⟨u, ru, hu'⟩ := hv v e2
        exact ⟨u, ru, .inr ⟨.inr (S.frk y (List.mem_of_getElem? hq)), c, frL (List.mem_of_getElem? hq) hc, cellK hu'⟩⟩
      · rw [List.getElem?_append_right (by omega), List.getElem?_replicate] at e2
        split at e2 <;> cases e2
  · rcases two e with a | ⟨_, a⟩
    · exact ⟨_, x.cell y c a⟩
    · obtain ⟨v, z⟩ := (C.all y c a).2
      exact ⟨v, cellK z⟩
  · rcases two e with a | ⟨_, a⟩
    · exact e0.hok.fresh (Nat.le_of_lt (new a))
    · exact (C.all y c a).1
  · have clen := C.len
    unfold startF
    show _ = N.length
    rw [List.length_append, List.length_append, List.length_map, List.length_replicate]
    omega
end
end BothX


set_option Elab.async false
set_option linter.all false
set_option maxRecDepth 100000
set_option maxHeartbeats 4000000
/-! the same, where __init__ has cells of its own (lambdas capture its names) -/
namespace SupB
open PySem PySem.Spec PyProof.Rows L2 NdefX PySem.Calls PySem.HandSPX SupX BothX
/-- what is known of the class at C, its __init__ at fI (function F), the __init__ above it at f0 -/
structure SupT (prog : Program) (K : PySem.W.Frag) (C fI f0 : Addr) (F : NF) (N ps : List Str) (e : Expr) (es : List Expr) (rest : List Stmt) : Prop where
  fn : ∃ (oc : Value) (od : Option Addr) (osl : Array (Option Value)) (doc pm ctv : Value), K.lookup fI = some ⟨oc, od, .func (F.fd doc pm ctv), osl⟩
  cd : PySem.W.codeIn K (.ref F.c) F.qual = true
  file : ∃ (ccl : Value) (cdd : Option Addr) (vs : Array Value) (ccs : Array (Option Value)) (f : Str) (tf : Tok), K.lookup F.c = some ⟨ccl, cdd, .fields vs, ccs⟩ ∧ vs[2]? = some (.str f tf) ∧ ((prog.main.file : Str) == f) = true
  cell : ∃ (cc : Addr) (cl : Value) (cld : Option Addr) (csl : Array (Option Value)), F.cl = [(("__class__" : Str), cc)] ∧ K.lookup cc = some ⟨cl, cld, .cell (some (.ref C)), csl⟩
  cls : ∃ cdD, PySem.W.clsIn K C = some cdD
  own : PySem.W.mroIn K C (.ref C) = some true
  sup : PySem.W.ks_superIn K C C "__init__" = some (some (.ref f0))
  fun0 : PySem.W.typeIn K (.ref f0) = some (.type "function")
  fn0 : PySem.W.fnIn K f0 = true
  opq : PySem.W.nsIn K cStatics "thirdparty.any" = some none
  gsup : PySem.W.nsIn K mainGlobals "super" = some none
  topN : (prog.main.scope.names.lookup ("super" : Str)).isSome = false
  sc : BScope N ps ["__class__"] F.scope
  uq : ∀ y ∈ F.scope.names, F.scope.names.lookup y.1 = some y.2
  selfL : F.scope.names.lookup ("self" : Str) = some .local
  ksup : F.scope.names.lookup ("super" : Str) = some .globalImplicit
  self : ps[0]? = some ("self" : Str) ∧ ∃ ar, (F.params.posonlyargs ++ F.params.args).head? = some ar ∧ ar.arg = "self"
  body : ∃ p0 p1 p2 p4 p5, F.body = supCall (e :: es) p0 p1 p2 p4 p5 :: rest ∧ ∀ env, (∃ pl, eval (.Call (.Attribute (.Call (.Name "super" p0) [] [] p1) "__init__" p2) (e :: es) [] p4) env = (do
      let ov ← attributeBase (.Call (.Name "super" p0) [] [] p1) "__init__" env (eval (.Call (.Name "super" p0) [] [] p1) env)
      standAt p2.atName
      let (f, first) ← holding [ov] (getMethod ov "__init__" pl)
      callWith p4 f first (backTo p4 (starEach (e :: es) env)) [])) ∧ starEach (e :: es) env = (false, eval e env) :: starEach es env ∧ (backTo p4 (starEach es env)).any (·.1) = false
  bind : ∀ (doc pm ctv : Value) (us : List Value), us.length = ps.length → bindArgs (F.fd doc pm ctv) ⟨us, []⟩ = pure (ps.zip us)
section
variable {P : Program} {w : World} {K : PySem.W.Frag} {mg : Str → Option Value} {base : Heap} {C fI f0 : Addr} {F : NF} {N ps ps0 : List Str} {e : Expr} {es : List Expr} {rest : List Stmt} {k : Nat} {fd0 : FuncData} {sp sp0 : Sp}
theorem sup_run {oc doc pm ctv : Value} {od : Option Addr} {osl : Array (Option Value)} (T : SupT P K C fI f0 F N ps e es rest) (lk : K.lookup fI = some ⟨oc, od, .func (F.fd doc pm ctv), osl⟩) (G : FnOk P w K mg base (L2.CX P w) k f0 fd0 ps0 sp0) (b0 : L2.Binds K fd0 ps0 [])
    {A : Around} {outer : List Env} {s : Shared} {H : Hp} {args : Args} {us : List Value} {vs : List V} {Q : VK} {E : XK} (hr : Room (k + 1) A) (e0 : Env0 P w K mg base A outer s H) (hb : BindsTo s (F.fd doc pm ctv) args (ps.zip us)) (r : Vals vs us) (hl : vs.length = ps.length)
    (hbody : ∃ x dx fs ta t, vs[0]? = some (.ref x) ∧ H x = some (.ins C dx fs) ∧ PA (bcx (L2.CX P w) P w K mg base N F fI A outer s H E) (e :: es) ta ∧ PSs (bcx (L2.CX P w) P w K mg base N F fI A outer s H E) rest t ∧
      ta (startF N vs [some (.ref C)]) H fun ys H1 => sp0 (.ref x :: ys) H1 (fun _ H2 => t { nx := fun _ H' => Q .non H', rt := Q } (startF N vs [some (.ref C)]) H2) E) :
    codeAny (model P w) A (.call (.ref fI) args) (CR (L2.CX P w) outer P w H s Q E) s := by
  obtain ⟨x, dx, fs, ta, t, hv0, hx, ha, ht, hq⟩ := hbody
  obtain ⟨ccl, cdd, vs2, ccs, fl, tfl, hcode, hvs, hfile⟩ := T.file
  obtain ⟨cc, cl, cld, csl, hcl, hcell⟩ := T.cell
  obtain ⟨cdD, hC⟩ := T.cls
  obtain ⟨hs0, ar, har, hara⟩ := T.self
  obtain ⟨p0, p1, p2, p4, p5, hbd, hev⟩ := T.body
  have S := T.sc
  have KX : K.In s.heap := e0.mod.kin.keeps fun _ _ q => (e0.bs _ _ q).1
  have lim : s.heap.NoLimit := e0.mod.nolimit.keeps fun _ _ q => (e0.bs _ _ q).1
  refine codeAny_call_function hr.depth (KX _ _ lk) rfl S.co S.gen rfl (PySem.W.codeRec_of KX T.cd) (hb _ _ _ _ (newEnvB S.kind (fun ⟨n, _⟩ hy => (S.par n (List.of_mem_zip hy).1).imp id fun q => ⟨q, cell_has q⟩) (fun env he s9 x9 => ?_)))
  subst he
  refine ⟨lim.keeps x9.toInCall.keep, ks_codeAny_funcAt ?_⟩
  show PySem.wpAt _ _ (.func F.body (envB F fI s.heap.objs.size)) (execs F.body (envB F fI s.heap.objs.size)) _ _ _
  have CA : CellsAt F.cl ["__class__"] [some (.ref C)] s.heap H := by
    have hcH : H cc = none := (e0.bs cc _ (e0.mod.kin _ _ hcell)).2
    have hic : s.heap.IsCell cc (some (.ref C)) := ⟨_, KX _ _ hcell, rfl⟩
    rw [hcl]
    have look : ∀ y c, ([(("__class__" : Str), cc)] : List (Str × Addr)).lookup y = some c → y = ("__class__" : Str) ∧ c = cc := fun y c q => by
      have q2 := PySem.mem_of_lookup q
      have q3 := List.mem_singleton.mp q2
      injection q3 with q4 q5
      exact ⟨q4, q5⟩
    refine ⟨rfl, fun y c q => ?_, fun y z c q1 q2 => ?_, fun i y q => ?_⟩
    · obtain ⟨_, rfl⟩ := look y c q
      exact ⟨hcH, _, hic⟩
    · rw [(look y c q1).1, (look z c q2).1]
    · cases i with
      | zero =>
        cases q
        exact ⟨cc, rfl, fun v hv => by cases hv; exact ⟨_, rfl, hic⟩⟩
      | succ j => simp at q
  have I : Inv (bcx (L2.CX P w) P w K mg base N F fI A outer s H E) [] (startF N vs [some (.ref C)]) H s9 := inv_startB S T.uq (fun y c q => by
    rw [hcl] at q
    have q2 := List.mem_singleton.mp (PySem.mem_of_lookup q)
    rw [(Prod.mk.inj q2).1]
    exact List.mem_cons_self ..) hr.hd e0 hl r CA x9
  have hns := x9.toInCall.ns
  obtain ⟨h1, tk9, rfl, kp⟩ := x9.done
  obtain ⟨⟨pl, hevl⟩, hst, hpl⟩ := hev (envB F fI s.heap.objs.size)
  rw [hbd]
  have hint : interactive (envB F fI s.heap.objs.size) = false := by
    show (F.scope.kind == .module && _) = false
    rw [S.kind]
    rfl
  refine ks_wpAt_execs_cons (ks_wpAt_Expr_any (ks_wpAt_MethodCall (pl := pl) ?_ hevl) hint)
  have X1 : K.In h1 := KX.keeps kp
  obtain ⟨oD, hD1, hD2⟩ : ∃ oD, K.lookup C = some oD ∧ oD.data = .cls cdD := by
    unfold PySem.W.clsIn at hC
    split at hC
    · rename_i c d cd' sl ho
      cases hC
      exact ⟨_, ho, rfl⟩
    · cases hC
  obtain ⟨mA, J, _⟩ := ins_get I.hok hx
  obtain ⟨odx, J, _⟩ := J.look
  have hkc : F.scope.names.lookup ("__class__" : Str) = some .free := S.frk _ List.mem_cons_self
  obtain ⟨u0, hu0, ru0⟩ := r.get hv0
  obtain rfl : u0 = Value.ref x := ru0
  have ndP : ps.Nodup := by
    have q := S.nd.sublist (List.take_sublist (ps.length + 1) N)
    have q2 : N.take (ps.length + 1) = ps ++ [("__class__" : Str)] := S.pre
    rw [q2] at q
    exact (List.nodup_append.mp q).1
  have hself : bindL (envB F fI s.heap.objs.size).kindOf (ps.zip us) (fun _ => none) ("self" : Str) = some (.ref x) := bindL_get ndP hs0 hu0 T.selfL
  obtain ⟨mb, hmb, hmbv⟩ := e0.mod.blt
  have kb : ∀ b o, base.get? b = some o → h1.get? b = some o := fun b o q => kp _ _ (e0.bs b o q).1
  refine ks_wpAt_super_base (env := envB F fI s.heap.objs.size) T.ksup hkc (by decide) rfl (X1 _ _ lk) rfl har rfl (X1 _ _ hcode) rfl hvs hfile T.topN ?_
  refine PySem.W.ks_loadName_global S.kind T.ksup (loadGlobal_builtin (e0.mod.glob.keeps kb) (PySem.W.mg_none_of (e0.mod.kin) e0.mod.glob T.gsup) (hmb.keeps kb) ((hmbv _ (by decide +kernel)).trans (by first | boot_by_name | rfl | kernel_rfl)) ⟨rfl, ?_⟩)
  refine wpAny_loadName_free S.kind hkc (by
    show (cellsFrom (s.heap.objs.size + 1) F.scope.names [] ++ F.cl).lookup ("__class__" : Str) = some cc
    have e : (cellsFrom (s.heap.objs.size + 1) F.scope.names []).lookup ("__class__" : Str) = none := by
      cases e : (cellsFrom (s.heap.objs.size + 1) F.scope.names []).lookup ("__class__" : Str) with
      | none => rfl
      | some q =>
        have h1 := no_own e T.uq
        rw [hkc] at h1; cases h1
    rw [List.lookup_append, e, hcl]; rfl) ⟨_, X1 _ _ hcell, rfl⟩ ?_
  rw [hara]
  refine wpAny_loadName_local S.kind T.selfL hns hself ?_
  refine ks_wpAny_isType_cls (X1 _ _ hD1) hD2 ⟨rfl, ?_⟩
  refine ks_wpAny_call_super (X1 _ _ hD1) hD2 J.at_ J.cls (fun c z => by cases z) (PySem.W.looks_mroIn X1 T.own) (fun h2 hso k2 => ?_)
  have X2 : K.In h2 := X1.keeps k2
  have I2 := I.kept (t' := tk9) k2
  obtain ⟨mA2, J2, _⟩ := ins_get I2.hok hx
  obtain ⟨odx2, J2, _⟩ := J2.look
  have hsup := T.sup
  unfold PySem.W.ks_superIn at hsup
  rw [hC] at hsup
  obtain ⟨of, hof, hofc⟩ : ∃ of, h2.get? f0 = some of ∧ of.cls = .type "function" := by
    have ht' : (K.lookup f0).map (·.cls) = some (.type "function") := T.fun0
    cases z : K.lookup f0 with
    | none => rw [z] at ht'; cases ht'
    | some of => rw [z] at ht'; exact ⟨of, X2 _ _ z, Option.some.inj ht'⟩
  refine ks_wpAny_getMethod_super hso (PySem.W.looks_opaque X2 T.opq) (l₀ := cdD.mro) ((PySem.W.looks_clsIn X2 hC).andThen .now) rfl X2 hsup hof hofc (PySem.W.ks_ne X2 J2 hC) (by decide) ?_
  have k3 : ∀ b o, h2.get? b = some o → (h2.push (PySem.W.methodObj (.ref f0) (.ref x))).get? b = some o := fun b o q => Heap.get?_push_of_some _ q
  have I3 := I2.kept (t' := tk9 + 1) k3
  have hmo : (h2.push (PySem.W.methodObj (.ref f0) (.ref x))).get? h2.objs.size = some (PySem.W.methodObj (.ref f0) (.ref x)) := Heap.get?_push_size _ rfl
  have hqn : H h2.objs.size = none := I2.hok.fresh (Nat.le_refl _)
  have I4 : Inv (bcx (L2.CX P w) P w K mg base N F fI A outer s H E) [(h2.objs.size, PySem.W.methodObj (.ref f0) (.ref x))] (startF N vs [some (.ref C)]) H { s with heap := h2.push (PySem.W.methodObj (.ref f0) (.ref x)), toks := tk9 + 1 } :=
    ⟨I3.ok, I3.os, I3.bare, I3.base, I3.loc, I3.cell, I3.free, I3.freeC, fun p hp => by
      have ep : p = (h2.objs.size, PySem.W.methodObj (.ref f0) (.ref x)) := by simpa using (show p ∈ ([] : List (Addr × Obj)) ++ [(h2.objs.size, PySem.W.methodObj (.ref f0) (.ref x))] from hp)
      subst ep
      exact ⟨hmo, hqn, fun z => by have q := I2.lt; rw [← z] at q; exact Nat.lt_irrefl _ q, fun z => I2.nofs (Nat.le_refl _) z, fun v z => by cases z⟩, I3.hok, I3.len⟩
  have go := ha.run p4 _ _ _ _ _ I4 hq
  rw [show starEach (e :: es) (bcx (L2.CX P w) P w K mg base N F fI A outer s H E).env = (false, eval e (envB F fI s.heap.objs.size)) :: starEach es (envB F fI s.heap.objs.size) from hst] at go
  show wpAny _ _ (callWith p4 (.ref h2.objs.size) [] (backTo p4 (starEach (e :: es) (envB F fI s.heap.objs.size))) []) _ _ _
  rw [hst]
  refine PySem.W.callWith_of (P := PySem.W.MethP K h2.objs.size f0 (.ref x)) (by show ((false || (backTo p4 (starEach es (envB F fI s.heap.objs.size))).any (·.1)) || false) = false; rw [hpl]; rfl) (PySem.W.keeps_M T.fn0) (evalArgs_plain (wpAny_mono go (fun us1 s1 hh => ?_) fun _ _ q => q))
  obtain ⟨vs1, H1, I5, r1, q1⟩ := hh
  have hm5 := (I5.pin (h2.objs.size, PySem.W.methodObj (.ref f0) (.ref x)) (by simp [bcx])).1
  refine ⟨⟨hm5, I5.kIn⟩, ?_⟩
  have hl0 : (Value.ref x :: us1).length = ps0.length := by
    have q := G.len _ _ _ _ q1
    have q2 := r1.length
    simp at q ⊢
    omega
  have b := b0 s1 (.ref x :: us1) I5.kIn (by rw [List.append_nil]; exact hl0)
  rw [List.append_nil] at b
  refine wpAny_call (ks_codeAny_call_bound hm5 (codeAny_mono (G.run (A.deeper (envB F fI s.heap.objs.size)) (envB F fI s.heap.objs.size :: outer) s1 H1 ⟨.ref x :: us1, []⟩ (.ref x :: us1) (.ref x :: vs1) _ E (hr.deeper _) I5.env0 b (.cons rfl r1) q1) fun r9 s9 h9 => ?_))
  have pass : Passes (L2.CX P w) (bcx (L2.CX P w) P w K mg base N F fI A outer s H E) E := passes_call (takes_of rfl rfl rfl rfl) (fun _ _ _ _ h => h)
  cases r9 with
  | error e9 => exact pass _ _ _ _ _ _ I5 h9
  | ok fl9 =>
    cases fl9 with
    | ret u9 =>
      obtain ⟨v9, H9, I9, rv9, q9⟩ := I5.after h9
      have I10 : Inv (bcx (L2.CX P w) P w K mg base N F fI A outer s H E) [] (startF N vs [some (.ref C)]) H9 s9 := ⟨I9.ok, I9.os, I9.bare, I9.base, I9.loc, I9.cell, I9.free, I9.freeC, (fun p hp => by cases (show p ∈ ([] : List (Addr × Obj)) ++ [] from hp)), I9.hok, I9.len⟩
      refine wpAt_of_wpAny (wpAny_mono (ht.run [] s9 _ H9 _ I10 q9) (fun f2 s2 hs2 => ?_) fun _ _ q => q)
      cases f2 with
      | ret u =>
        obtain ⟨v, z', H', J', rv, q⟩ := hs2
        exact ⟨v, H', J'.os, J'.bare, J'.base, J'.hok, rv, q⟩
      | next =>
        obtain ⟨z', H', J', q⟩ := hs2
        exact ⟨V.non, H', J'.os, J'.bare, J'.base, J'.hok, rfl, q⟩
      | brk =>
        obtain ⟨_, _, _, q⟩ := hs2
        exact q.elim
      | cont =>
        obtain ⟨_, _, _, q⟩ := hs2
        exact q.elim
    | next => exact h9.elim
    | brk => exact h9.elim
    | cont => exact h9.elim
/-- THE RULE for such an __init__ -/
theorem sup_ok (T : SupT P K C fI f0 F N ps e es rest) (G : FnOk P w K mg base (L2.CX P w) k f0 fd0 ps0 sp0) (b0 : L2.Binds K fd0 ps0 []) (len : ∀ vs H Q E, sp vs H Q E → vs.length = ps.length)
    (hbody : ∀ (A : Around) (outer : List Env) (s : Shared) (H : Hp) (vs : List V) (Q : VK) (E : XK), Room k (A.deeper (envB F fI s.heap.objs.size)) → sp vs H Q E →
      ∃ x dx fs ta t, vs[0]? = some (.ref x) ∧ H x = some (.ins C dx fs) ∧ PA (bcx (L2.CX P w) P w K mg base N F fI A outer s H E) (e :: es) ta ∧ PSs (bcx (L2.CX P w) P w K mg base N F fI A outer s H E) rest t ∧
      ta (startF N vs [some (.ref C)]) H fun ys H1 => sp0 (.ref x :: ys) H1 (fun _ H2 => t { nx := fun _ H' => Q .non H', rt := Q } (startF N vs [some (.ref C)]) H2) E) :
    ∃ doc pm ctv, FnOk P w K mg base (L2.CX P w) (k + 1) fI (F.fd doc pm ctv) ps sp ∧ L2.Binds K (F.fd doc pm ctv) ps [] := by
  obtain ⟨oc, od, osl, doc, pm, ctv, lk⟩ := T.fn
  refine ⟨doc, pm, ctv, ⟨len, fun A outer s H args us vs Q E hr e0 hb r hs => ?_⟩, ?_⟩
  · exact sup_run T lk G b0 hr e0 hb r (len _ _ _ _ hs) (hbody A outer s H vs Q E (hr.deeper _) hs)
  · exact .all (T.bind doc pm ctv)
end
end SupB


set_option Elab.async false
set_option linter.all false
set_option maxRecDepth 100000
set_option maxHeartbeats 4000000
namespace SupB
open PySem PySem.Spec PyProof.Rows L2 NdefX SupX
/-- class x(y): the __init__ of x (statement st), which has cells of its own, calls that of y (statement s0) first; its code object at c keeps the table at Pt -/
abbrev SupD (P : Program) (K : PySem.W.Frag) (x q q0 : Str) (st s0 : Stmt) (N ps : List Str) : Prop := ∃ f0 fd0 fI cc c, SupB.SupT P K (He.ga K x) fI f0 (nfOf q st cc c) N ps (supE st) (supEs st) (supR st) ∧ Mk K (He.ga K x) fI ∧ FunD K "__init__" q0 (defArgs s0) (defBody s0) (defScope s0) [] [] f0 fd0
end SupB


set_option Elab.async false
set_option linter.all false
set_option maxRecDepth 100000
set_option maxHeartbeats 4000000
/-! the Hook of HookF with code tables (lambdas), with what is no key of a table, with an __init__ that has cells of its own -/
namespace HeE
open PySem PySem.Spec PyProof.Rows L2 He PySem.ErrX
def obsG (file : Str) (fa : List Fa) (fn : List DefD) (er su : List ErrD) (ts : List (Str × List Str)) (tf : List Defn) (ex : PySem.W.Frag → Bool) (g : Addr → Option Obj) (K : PySem.W.Frag) : AlF := (obsE file fa fn er tf ex g K, su.map (fun d => fnE K d.x), ts.map fun t => dicW K (ga K t.1))
structure SaysG (file : Str) (fa : List Fa) (fn : List DefD) (er su : List ErrD) (ts : List (Str × List Str)) (tf : List Defn) (ex : PySem.W.Frag → Bool) (w : World) (h : Heap) (K : PySem.W.Frag) : Prop extends SaysE file fa fn er tf ex h K where
  su : ∀ d ∈ su, fnE K d.x = d.val
  ts : ∀ t ∈ ts, dicW K (ga K t.1) = some (He.keysIn w.params t.2)
theorem saysG_of {file : Str} {n : Nat} {fa : List Fa} {fn : List DefD} {er su : List ErrD} {ts : List (Str × List Str)} {tf : List Defn} {ex : PySem.W.Frag → Bool} {w : World} {h : Heap} (e : obsG file fa fn er su ts tf ex h.get? (frE h.get? n) = valF fn er su ts w) : SaysG file fa fn er su ts tf ex w h (frE h.get? n) := by
  have e1 : obsE file fa fn er tf ex h.get? (frE h.get? n) = valE fn er := congrArg (fun z : AlF => z.1) e
  have e2 : su.map (fun d => fnE (frE h.get? n) d.x) = su.map ErrD.val := congrArg (fun z : AlF => z.2.1) e
  have e3 : ts.map (fun t => dicW (frE h.get? n) (ga (frE h.get? n) t.1)) = ts.map fun t => some (He.keysIn w.params t.2) := congrArg (fun z : AlF => z.2.2) e
  exact ⟨saysE_of e1, fun d hd => map_at e2 d hd, fun t ht => map_at e3 t ht⟩
def hookG (file : Str) (n : Nat) (fa : List Fa) (fn : List DefD) (er su : List ErrD) (ts : List (Str × List Str)) (tf : List Defn) (ex : PySem.W.Frag → Bool) : PySem.W.Hook where
  α := AlF
  obs := fun s => obsG file fa fn er su ts tf ex s.heap.get? (frE s.heap.get? n)
  val := fun w => valF fn er su ts w
  says := fun w h => ∃ K : PySem.W.Frag, K.In h ∧ SaysG file fa fn er su ts tf ex w h K
  of := fun _ _ e => ⟨_, frT_in, saysG_of e⟩
  keeps := fun _ _ _ ⟨K, hK, c⟩ k => ⟨K, PySem.W.Frag.In.keeps hK k, ⟨⟨c.fa, c.fn, c.er, c.more, c.hd, c.out, fun p hp => k _ _ (c.empty p hp)⟩, c.su, c.ts⟩⟩
theorem obsG_eq {file : Str} {n : Nat} {fa : List Fa} {fn : List DefD} {er su : List ErrD} {ts : List (Str × List Str)} {tf : List Defn} {ex : PySem.W.Frag → Bool} {g : Addr → Option Obj} {s : Shared} (h : ∀ a, g a = s.heap.get? a) : obsG file fa fn er su ts tf ex g (frE g n) = (hookG file n fa fn er su ts tf ex).obs s := by
  have e : g = s.heap.get? := funext h
  rw [e] <;> rfl
/-! ### what is no key of a table -/
theorem find_no {z : Str} : ∀ {l : List DictEntry} {P : Params} {ks : List Str}, l.map He.keyOf = He.keysIn P ks → z ∉ ks → l.find? (·.key.isStr z) = none ∧ l.any (·.refKey) = false
  | [], _, _, _, _ => ⟨rfl, rfl⟩
  | e :: r, P, [], h, _ => by cases h
  | e :: r, P, k :: ks, h, hz => by
    have h1 : He.keyOf e :: r.map He.keyOf = some (k, PyData.keyHash P k) :: He.keysIn P ks := h
    injection h1 with h2 h3
    obtain ⟨g1, g2⟩ := find_no h3 (fun m => hz (List.mem_cons_of_mem _ m))
    unfold He.keyOf at h2
    split at h2
    · rename_i x t q
      obtain ⟨h5, h6⟩ := Prod.mk.inj (Option.some.inj h2)
      have n1 : e.key.isStr z = false := by
        rw [q]
        have hne : x ≠ z := fun e => hz (by rw [← e, h5]; exact List.mem_cons_self ..)
        cases y : (Value.str x t).isStr z with
        | false => rfl
        | true => exact absurd (by simpa [Value.isStr] using y) hne
      have n2 : e.refKey = false := by
        unfold DictEntry.refKey
        rw [q]
      exact ⟨by rw [List.find?_cons, n1]; exact g1, by rw [List.any_cons, n2, g2]; rfl⟩
    · cases h2
theorem kn_ok {K : PySem.W.Frag} {w : World} {a : Addr} {ks : List Str} (h : dicW K a = some (He.keysIn w.params ks)) : ∀ z : Str, z ∉ ks → PySem.W.nsIn K a z = some none := by
  intro z hz
  unfold dicW at h
  split at h
  · rename_i c es n sl q
    split at h
    · obtain ⟨h1, h2⟩ := find_no (Option.some.inj h) hz
      unfold PySem.W.nsIn
      rw [q]
      dsimp only
      rw [h1]
      dsimp only
      rw [h2]
      rfl
    · cases h
  · cases h
/-- x[k] is the text z -/
def svB (K : PySem.W.Frag) (x k z : Str) : Bool := match PySem.W.nsIn K (ga K x) k with
  | some (some (.str y _)) => decide (y = z)
  | _ => false
theorem svB_ok {K : PySem.W.Frag} {w : World} {x k z : Str} (D : ∃ es n, KDict K w (ga K x) es n) (h : svB K x k z = true) : KDct K w (ga K x) k (.str z) := by
  unfold svB at h
  obtain ⟨es, n, d⟩ := D
  split at h
  · rename_i y t q
    have h := of_decide_eq_true h
    subst h
    exact ⟨es, n, _, d.at_, d.lit, q, _, rfl⟩
  · cases h
/-! ### super().__init__ there -/
structure SupSB (prog : Program) (q : Str) (st : Stmt) (N ps : List Str) : Prop where
  topN : (prog.main.scope.names.lookup ("super" : Str)).isSome = false
  sc : BothX.BScope N ps ["__class__"] (defScope st)
  uq : ∀ y ∈ (defScope st).names, (defScope st).names.lookup y.1 = some y.2
  selfL : (defScope st).names.lookup ("self" : Str) = some .local
  ksup : (defScope st).names.lookup ("super" : Str) = some .globalImplicit
  self : ps[0]? = some ("self" : Str) ∧ ∃ ar, ((defArgs st).posonlyargs ++ (defArgs st).args).head? = some ar ∧ ar.arg = "self"
  body : ∃ p0 p1 p2 p4 p5, defBody st = SupX.supCall (SupX.supE st :: SupX.supEs st) p0 p1 p2 p4 p5 :: SupX.supR st ∧ ∀ env, (∃ pl, eval (.Call (.Attribute (.Call (.Name "super" p0) [] [] p1) "__init__" p2) (SupX.supE st :: SupX.supEs st) [] p4) env = (do
      let ov ← attributeBase (.Call (.Name "super" p0) [] [] p1) "__init__" env (eval (.Call (.Name "super" p0) [] [] p1) env)
      standAt p2.atName
      let (f, first) ← holding [ov] (getMethod ov "__init__" pl)
      callWith p4 f first (backTo p4 (starEach (SupX.supE st :: SupX.supEs st) env)) [])) ∧ starEach (SupX.supE st :: SupX.supEs st) env = (false, eval (SupX.supE st) env) :: starEach (SupX.supEs st) env ∧ (backTo p4 (starEach (SupX.supEs st) env)).any (·.1) = false
  bind : ∀ (cc c : Addr) (doc pm ctv : Value) (us : List Value), us.length = ps.length → bindArgs ((SupX.nfOf q st cc c).fd doc pm ctv) ⟨us, []⟩ = pure (ps.zip us)
theorem supDB_of {prog : Program} {K : PySem.W.Frag} {x y q q0 : Str} {st s0 : Stmt} {N ps : List Str} {fd0 : FuncData} (h : supB K prog.main.file x y q = true) (e : fnE K x = (some ((("__init__" : String) : Str), q, defArgs st, FuncBody.stmts (defBody st), defScope st, mainGlobals, builtinsNs) : FnE)) (S : SupSB prog q st N ps) (M : Mk K (ga K x) (iAd K x))
    (F0 : FunD K "__init__" q0 (defArgs s0) (defBody s0) (defScope s0) [] [] (iAd K y) fd0) : ∃ f0 fd0 cc, SupB.SupT prog K (ga K x) (iAd K x) f0 (SupX.nfOf q st cc (cT K (x, some "__init__")).1) N ps (SupX.supE st) (SupX.supEs st) (SupX.supR st) ∧ Mk K (ga K x) (iAd K x) ∧ FunD K "__init__" q0 (defArgs s0) (defBody s0) (defScope s0) [] [] f0 fd0 := by
  have h0 : sinB K (ga K x) (iAd K x) prog.main.file q = true := all_at h 0
  unfold sinB at h0
  unfold fnE at e
  cases z : K.lookup (iAd K x) with
  | none => rw [z] at h0; cases h0
  | some o =>
    obtain ⟨oc, od, dt, osl⟩ := o
    rw [z] at h0 e
    cases dt with
    | func fd =>
      obtain ⟨n1, n2, n3, n4, n5, n6, n7, n8, n9, n10, n11, n12, n13, n14, n15⟩ := fd
      have e2 : (some (n1, n2, n3, n4, n5, n6, n15) : FnE) = (some (Str.ofString "__init__", q, defArgs st, .stmts (defBody st), defScope st, mainGlobals, builtinsNs) : FnE) := e
      simp only [Option.some.injEq, Prod.mk.injEq] at e2
      obtain ⟨h1, h2, h3, h4, h5, h6, h8⟩ := e2
      subst h1 h2 h3 h4 h5 h6 h8
      cases n13 with
      | ref cda =>
        cases n7 with
        | nil => cases h0
        | cons c7 r7 =>
          obtain ⟨cn, cc⟩ := c7
          cases r7 with
          | cons _ _ => cases h0
          | nil =>
            cases n8 with
            | none =>
              cases n9 with
              | none =>
                have h17 : (decide (cn = "__class__") && (n12.isNone && (PySem.W.codeIn K (.ref cda) n2 && (fileB K cda prog.main.file && cellB K cc (ga K x))))) = true := h0
                obtain ⟨a1, a⟩ := ba h17
                obtain ⟨a5, a⟩ := ba a
                obtain ⟨a2, a⟩ := ba a
                obtain ⟨a3, a4⟩ := ba a
                have a1 := of_decide_eq_true a1
                subst a1
                cases n12 with
                | some _ => cases a5
                | none =>
                  have ecd : (cT K (x, some "__init__")).1 = cda := codeOf_eq z rfl
                  unfold fileB at a3
                  unfold cellB at a4
                  split at a3
                  · rename_i ccl cdd vs ccs q1
                    split at a3
                    · rename_i f tf q2
                      split at a4
                      · rename_i cl cld C' csl q3
                        have a4 := of_decide_eq_true a4
                        subst a4
                        refine ⟨iAd K y, fd0, cc, ?_, M, F0⟩
                        rw [ecd]
                        exact {
                          fn := ⟨oc, od, osl, n10, n11, n14, z⟩
                          cd := a2
                          file := ⟨ccl, cdd, vs, ccs, f, tf, q1, q2, a3⟩
                          cell := ⟨cc, cl, cld, csl, rfl, q3⟩
                          cls := Option.isSome_iff_exists.mp (all_at h 1)
                          own := of_decide_eq_true (all_at h 2)
                          sup := eqO_ok (all_at h 3)
                          fun0 := of_decide_eq_true (all_at h 4)
                          fn0 := all_at h 5
                          opq := eqO_ok (all_at h 6)
                          gsup := eqO_ok (all_at h 7)
                          topN := S.topN
                          sc := S.sc
                          uq := S.uq
                          selfL := S.selfL
                          ksup := S.ksup
                          self := S.self
                          body := S.body
                          bind := S.bind cc cda }
                      · cases a4
                    · cases a3
                  · cases a3
              | _ => cases h0
            | _ => cases h0
      | _ => cases h0
    | _ => cases h0
end HeE


set_option Elab.async false
set_option linter.all false
set_option maxRecDepth 100000
set_option maxHeartbeats 4000000
/-! tables whose entries are tuples of texts and numbers -/
namespace HeE
open PySem PySem.Spec PyProof.Rows L2 He
def strTV (K : PySem.W.Frag) (a : Addr) (vs : List V) : Bool := match K.lookup a with
  | some ⟨.type c, _, .seq its _, _⟩ => decide (c = "tuple") && (decide (its.size ≤ sizeLine) && relAll vs its.toList)
  | _ => false
theorem strTV_ok {K : PySem.W.Frag} {a : Addr} {vs : List V} (h : strTV K a vs = true) (H : Hp) : SqT K H a vs := by
  unfold strTV at h
  cases q : K.lookup a with
  | none => rw [q] at h; cases h
  | some o =>
    obtain ⟨oc, od, dt, osl⟩ := o
    rw [q] at h
    cases oc with
    | type c =>
      cases dt with
      | seq its n =>
        obtain ⟨h1, h2⟩ := ba (show (decide (c = "tuple") && (decide (its.size ≤ sizeLine) && relAll vs its.toList)) = true from h)
        obtain ⟨h3, h4⟩ := ba h2
        exact .inr ⟨_, its, n, q, congrArg Value.type (of_decide_eq_true h1), rfl, of_decide_eq_true h3, relAll_ok h4⟩
      | _ => cases h
    | _ => cases dt <;> cases h
/-- x[k] is the tuple vs -/
def tvV (K : PySem.W.Frag) (x k : Str) (vs : List V) : Bool := eqO (PySem.W.nsIn K (ga K x) k) (some (some (.ref (tvAd K x k)))) && strTV K (tvAd K x k) vs
theorem tvV_ok {K : PySem.W.Frag} {w : World} {x k : Str} {vs : List V} (D : ∃ es n, KDict K w (ga K x) es n) (h : tvV K x k vs = true) : ∃ a, KDct K w (ga K x) k (.ref a) ∧ ∀ H, SqT K H a vs := by
  obtain ⟨h1, h2⟩ := ba h
  obtain ⟨es, n, d⟩ := D
  exact ⟨_, ⟨es, n, _, d.at_, d.lit, eqO_ok h1, rfl⟩, strTV_ok h2⟩
end HeE


set_option Elab.async false
set_option linter.all false
set_option maxRecDepth 100000
set_option maxHeartbeats 0
namespace K03.HdX
open PySem PySem.Spec PyProof.Rows L2 He HeE
def h__wall : He.DefD := ⟨("_wall", none), "_wall", "_wall", defArgs s__wall, defBody s__wall, defScope s__wall, [], []⟩
def h_told_number : He.DefD := ⟨("told_number", none), "told_number", "told_number", defArgs s_told_number, defBody s_told_number, defScope s_told_number, [], []⟩
def h_told_atom : He.DefD := ⟨("told_atom", none), "told_atom", "told_atom", defArgs s_told_atom, defBody s_told_atom, defScope s_told_atom, [], []⟩
def h_told_sum : He.DefD := ⟨("told_sum", none), "told_sum", "told_sum", defArgs s_told_sum, defBody s_told_sum, defScope s_told_sum, [], []⟩
def h_told_part : He.DefD := ⟨("told_part", none), "told_part", "told_part", defArgs s_told_part, defBody s_told_part, defScope s_told_part, [], []⟩
def h_Reader_init : He.DefD := ⟨("Reader", some "__init__"), "__init__", "Reader.__init__", defArgs s_Reader_init, defBody s_Reader_init, defScope s_Reader_init, [], []⟩
def h_Reader_read_block : He.DefD := ⟨("Reader", some "read_block"), "read_block", "Reader.read_block", defArgs s_Reader_read_block, defBody s_Reader_read_block, defScope s_Reader_read_block, [], []⟩
def h_Reader_read_if : He.DefD := ⟨("Reader", some "read_if"), "read_if", "Reader.read_if", defArgs s_Reader_read_if, defBody s_Reader_read_if, defScope s_Reader_read_if, [], []⟩
def h_read_rows : He.DefD := ⟨("read_rows", none), "read_rows", "read_rows", defArgs s_read_rows, defBody s_read_rows, defScope s_read_rows, [], []⟩
def h_all_rows : He.DefD := ⟨("all_rows", none), "all_rows", "all_rows", defArgs s_all_rows, defBody s_all_rows, defScope s_all_rows, [], []⟩
def h_all_ways : He.DefD := ⟨("all_ways", none), "all_ways", "all_ways", defArgs s_all_ways, defBody s_all_ways, defScope s_all_ways, [], []⟩
def h_CodeText_init : He.DefD := ⟨("CodeText", some "__init__"), "__init__", "CodeText.__init__", defArgs s_CodeText_init, defBody s_CodeText_init, defScope s_CodeText_init, [], []⟩
def h_CodeText_same : He.DefD := ⟨("CodeText", some "same"), "same", "CodeText.same", defArgs s_CodeText_same, defBody s_CodeText_same, defScope s_CodeText_same, [], []⟩
def h_CodeText_len : He.DefD := ⟨("CodeText", some "__len__"), "__len__", "CodeText.__len__", defArgs s_CodeText_len, defBody s_CodeText_len, defScope s_CodeText_len, [], []⟩
def h_CodeText_iter : He.DefD := ⟨("CodeText", some "__iter__"), "__iter__", "CodeText.__iter__", defArgs s_CodeText_iter, defBody s_CodeText_iter, defScope s_CodeText_iter, [], []⟩
def h_CodeText_getitem : He.DefD := ⟨("CodeText", some "__getitem__"), "__getitem__", "CodeText.__getitem__", defArgs s_CodeText_getitem, defBody s_CodeText_getitem, defScope s_CodeText_getitem, [], []⟩
def h_CodeText_eq : He.DefD := ⟨("CodeText", some "__eq__"), "__eq__", "CodeText.__eq__", defArgs s_CodeText_eq, defBody s_CodeText_eq, defScope s_CodeText_eq, [], []⟩
def h_page_kinds : He.DefD := ⟨("page_kinds", none), "page_kinds", "page_kinds", defArgs s_page_kinds, defBody s_page_kinds, defScope s_page_kinds, [], []⟩
def h_page_names : He.DefD := ⟨("page_names", none), "page_names", "page_names", defArgs s_page_names, defBody s_page_names, defScope s_page_names, [], []⟩
def h_what_of : He.DefD := ⟨("what_of", none), "what_of", "what_of", defArgs s_what_of, defBody s_what_of, defScope s_what_of, [], []⟩
def h_wrong_on_way : He.DefD := ⟨("wrong_on_way", none), "wrong_on_way", "wrong_on_way", defArgs s_wrong_on_way, defBody s_wrong_on_way, defScope s_wrong_on_way, [], []⟩
def h_need_page_limits : He.DefD := ⟨("need_page_limits", none), "need_page_limits", "need_page_limits", defArgs s_need_page_limits, defBody s_need_page_limits, defScope s_need_page_limits, [], []⟩
def h_page_setting : He.DefD := ⟨("page_setting", none), "page_setting", "page_setting", defArgs s_page_setting, defBody s_page_setting, defScope s_page_setting, [], []⟩
def h_page_row : He.DefD := ⟨("page_row", none), "page_row", "page_row", defArgs s_page_row, defBody s_page_row, defScope s_page_row, [], []⟩
def h_page_part : He.DefD := ⟨("page_part", none), "page_part", "page_part", defArgs s_page_part, defBody s_page_part, defScope s_page_part, [], []⟩
def h_PageCode_same : He.DefD := ⟨("PageCode", some "same"), "same", "PageCode.same", defArgs s_PageCode_same, defBody s_PageCode_same, defScope s_PageCode_same, [], []⟩
def h_is_whole : He.DefD := ⟨("is_whole", none), "is_whole", "is_whole", defArgs s_is_whole, defBody s_is_whole, defScope s_is_whole, [], []⟩
def h_need_size : He.DefD := ⟨("need_size", none), "need_size", "need_size", defArgs s_need_size, defBody s_need_size, defScope s_need_size, [], []⟩
def h_PageRules_init : He.DefD := ⟨("PageRules", some "__init__"), "__init__", "PageRules.__init__", defArgs s_PageRules_init, defBody s_PageRules_init, defScope s_PageRules_init, [.non], []⟩
def h_PageRules_room : He.DefD := ⟨("PageRules", some "room"), "room", "PageRules.room", defArgs s_PageRules_room, defBody s_PageRules_room, defScope s_PageRules_room, [], []⟩
def h_PageRules_in_use : He.DefD := ⟨("PageRules", some "in_use"), "in_use", "PageRules.in_use", defArgs s_PageRules_in_use, defBody s_PageRules_in_use, defScope s_PageRules_in_use, [], []⟩
def h_PageRules_next_in_use : He.DefD := ⟨("PageRules", some "next_in_use"), "next_in_use", "PageRules.next_in_use", defArgs s_PageRules_next_in_use, defBody s_PageRules_next_in_use, defScope s_PageRules_next_in_use, [], []⟩
def h_PageRules_eq : He.DefD := ⟨("PageRules", some "__eq__"), "__eq__", "PageRules.__eq__", defArgs s_PageRules_eq, defBody s_PageRules_eq, defScope s_PageRules_eq, [], []⟩
def h_l_bag : He.DefD := ⟨("_law_bag", none), "_law_bag", "_law_bag", defArgs s_l_bag, defBody s_l_bag, defScope s_l_bag, [], []⟩
def h_l_draw : He.DefD := ⟨("_law_draw", none), "_law_draw", "_law_draw", defArgs s_l_draw, defBody s_l_draw, defScope s_l_draw, [], []⟩
def h_l_pool : He.DefD := ⟨("_law_pool", none), "_law_pool", "_law_pool", defArgs s_l_pool, defBody s_l_pool, defScope s_l_pool, [], []⟩
def h_l_lines : He.DefD := ⟨("_law_lines", none), "_law_lines", "_law_lines", defArgs s_l_lines, defBody s_l_lines, defScope s_l_lines, [], []⟩
def h_l_block : He.DefD := ⟨("_law_block", none), "_law_block", "_law_block", defArgs s_l_block, defBody s_l_block, defScope s_l_block, [], []⟩
def h_l_ways : He.DefD := ⟨("_law_ways", none), "_law_ways", "_law_ways", defArgs s_l_ways, defBody s_l_ways, defScope s_l_ways, [], []⟩
def h_l_once : He.DefD := ⟨("_law_once", none), "_law_once", "_law_once", defArgs s_l_once, defBody s_l_once, defScope s_l_once, [], []⟩
def h_l_faults : He.DefD := ⟨("_law_faults", none), "_law_faults", "_law_faults", defArgs s_l_faults, defBody s_l_faults, defScope s_l_faults, [], []⟩
def h_l_strange : He.DefD := ⟨("_law_strange", none), "_law_strange", "_law_strange", defArgs s_l_strange, defBody s_l_strange, defScope s_l_strange, [], []⟩
def h_law : He.DefD := ⟨("law", none), "law", "law", defArgs s_law, defBody s_law, defScope s_law, [], []⟩
def h_PageCode_len : He.DefD := ⟨("PageCode", some "__len__"), "__len__", "CodeText.__len__", defArgs s_CodeText_len, defBody s_CodeText_len, defScope s_CodeText_len, [], []⟩
def h_PageCode_iter : He.DefD := ⟨("PageCode", some "__iter__"), "__iter__", "CodeText.__iter__", defArgs s_CodeText_iter, defBody s_CodeText_iter, defScope s_CodeText_iter, [], []⟩
def h_PageCode_getitem : He.DefD := ⟨("PageCode", some "__getitem__"), "__getitem__", "CodeText.__getitem__", defArgs s_CodeText_getitem, defBody s_CodeText_getitem, defScope s_CodeText_getitem, [], []⟩
def h_PageCode_eq : He.DefD := ⟨("PageCode", some "__eq__"), "__eq__", "CodeText.__eq__", defArgs s_CodeText_eq, defBody s_CodeText_eq, defScope s_CodeText_eq, [], []⟩
def fn0 : List He.DefD := [h__wall, h_told_number, h_told_atom, h_told_sum, h_told_part, h_Reader_init, h_Reader_read_block, h_Reader_read_if, h_read_rows, h_all_rows, h_all_ways, h_CodeText_init, h_CodeText_same, h_CodeText_len, h_CodeText_iter, h_CodeText_getitem, h_CodeText_eq, h_page_kinds, h_page_names, h_what_of, h_wrong_on_way, h_need_page_limits, h_page_setting, h_page_row, h_page_part]
def fn1 : List He.DefD := [h_PageCode_same, h_is_whole, h_need_size, h_PageRules_init, h_PageRules_room, h_PageRules_in_use, h_PageRules_next_in_use, h_PageRules_eq, h_l_bag, h_l_draw, h_l_pool, h_l_lines, h_l_block, h_l_ways, h_l_once, h_l_faults, h_l_strange, h_law, h_PageCode_len, h_PageCode_iter, h_PageCode_getitem, h_PageCode_eq]
abbrev fn : List He.DefD := fn0 ++ fn1
def fa0 : List He.Fa := [.glo "_wall", .glo "told_number", .glo "told_atom", .glo "told_sum", .glo "told_part", .glo "Reader", .mkr "Reader", .cls "Reader", .meth "Reader" "read_block", .meth "Reader" "read_if", .glo "read_rows", .glo "all_rows", .glo "all_ways", .glo "CodeText", .mkr "CodeText", .cls "CodeText", .meth "CodeText" "same", .meth "CodeText" "__len__", .meth "CodeText" "__iter__", .meth "CodeText" "__getitem__", .meth "CodeText" "__eq__", .glo "page_kinds", .glo "page_names", .glo "what_of", .glo "wrong_on_way"]
def fa1 : List He.Fa := [.glo "need_page_limits", .glo "page_setting", .glo "page_row", .glo "page_part", .cls "PageCode", .meth "PageCode" "same", .glo "is_whole", .glo "need_size", .glo "PageRules", .mkr "PageRules", .cls "PageRules", .meth "PageRules" "room", .meth "PageRules" "in_use", .meth "PageRules" "next_in_use", .meth "PageRules" "__eq__", .glo "_law_bag", .glo "_law_draw", .glo "_law_pool", .glo "_law_lines", .glo "_law_block", .glo "_law_ways", .glo "_law_once", .glo "_law_faults", .glo "_law_strange", .glo "law"]
def fa2 : List He.Fa := [.meth "PageCode" "__len__", .meth "PageCode" "__iter__", .meth "PageCode" "__getitem__", .meth "PageCode" "__eq__", .mkr "PageCode", .noat "Reader" "ifs", .noat "Reader" "line", .noat "Reader" "own_lines", .noat "Reader" "part_of", .noat "Reader" "row_of", .noat "CodeText" "kind", .noat "CodeText" "own_lines", .noat "CodeText" "own_tables", .noat "CodeText" "part", .noat "CodeText" "text", .glo "PageCode", .noat "PageCode" "kind", .noat "PageCode" "own_lines", .noat "PageCode" "own_tables", .noat "PageCode" "part", .noat "PageCode" "rows", .noat "PageCode" "rules", .noat "PageCode" "text", .noat "PageRules" "head", .noat "PageRules" "most"]
def fa3 : List He.Fa := [.noat "PageRules" "slot", .noat "PageRules" "unit", .glo "HeldError", .free "TypeError", .free "ValueError", .free "any", .free "bool", .free "enumerate", .free "int", .free "isinstance", .free "len", .free "list", .free "min", .free "range", .free "str", .free "tuple", .int "MOST_FIGURES" 30, .int "MOST_TERMS" 4, .int "MOST_PARTS" 4, .glo "ONCE", .glo "REGISTERS", .glo "NAMES", .glo "LONE", .glo "PAGE_KINDS"]
abbrev fa : List He.Fa := fa0 ++ fa1 ++ fa2 ++ fa3
def e_BadKind : ErrD := ⟨"BadKind", ["kind"], "BadKind.__init__", defArgs s_BadKind_init, defBody s_BadKind_init, defScope s_BadKind_init⟩
def e_BadLine : ErrD := ⟨"BadLine", ["line"], "BadLine.__init__", defArgs s_BadLine_init, defBody s_BadLine_init, defScope s_BadLine_init⟩
def e_Refused : ErrD := ⟨"Refused", ["line"], "Refused.__init__", defArgs s_Refused_init, defBody s_Refused_init, defScope s_Refused_init⟩
def e_BadRule : ErrD := ⟨"BadRule", ["what"], "BadRule.__init__", defArgs s_BadRule_init, defBody s_BadRule_init, defScope s_BadRule_init⟩
def e_BadSize : ErrD := ⟨"BadSize", ["size"], "BadSize.__init__", defArgs s_BadSize_init, defBody s_BadSize_init, defScope s_BadSize_init⟩
def e_TooMany : ErrD := ⟨"TooMany", ["what", "many", "most"], "TooMany.__init__", defArgs s_TooMany_init, defBody s_TooMany_init, defScope s_TooMany_init⟩
def er : List ErrD := [e_BadKind, e_BadLine, e_Refused, e_BadRule, e_BadSize, e_TooMany]
def u_PageCode : ErrD := ⟨"PageCode", [], "PageCode.__init__", defArgs s_PageCode_init, defBody s_PageCode_init, defScope s_PageCode_init⟩
theorem s_u_PageCode : SupS P0 "PageCode.__init__" s_PageCode_init ["self", "kind", "rules", "text", "__class__"] ["self", "kind", "rules", "text"] := ⟨rfl, NdefX.nscope_by (by decide +kernel), rfl, ⟨rfl, _, rfl, rfl⟩, ⟨_, _, _, _, _, rfl, fun env => ⟨⟨_, rfl⟩, rfl, rfl⟩⟩, fun cc c doc pm ctv us hl => match us, hl with | [_, _, _, _], _ => rfl⟩
def su : List ErrD := [u_PageCode]
def tabs : List (Str × List Str) := [("LONE", ["no", "quit", "pack", "clear own", "take empty", "take next", "slots = slots + 1", "slots = slots - 1"])]
def tf : List Defn := []
def file : Str := P0.main.file
def exL (K : PySem.W.Frag) : List Bool := [
  supB K file "PageCode" "CodeText" "PageCode.__init__",
  eqO (PySem.W.findIn K (.ref (He.ga K "CodeText")) "__ne__") (some (some (.builtin "object.__ne__"))),
  HeE.okO (PySem.W.mroIn K (He.ga K "CodeText") (.type "object")) (some true),
  eqO (PySem.W.findIn K (.ref (He.ga K "CodeText")) "__class__") (some (some (.builtin "object.__class__"))),
  eqO (PySem.W.findIn K (.ref (He.ga K "PageCode")) "__ne__") (some (some (.builtin "object.__ne__"))),
  HeE.okO (PySem.W.mroIn K (He.ga K "PageCode") (.type "object")) (some true),
  eqO (PySem.W.findIn K (.ref (He.ga K "PageCode")) "__class__") (some (some (.builtin "object.__class__"))),
  HeE.okO (PySem.W.kitOne K (.ref (He.ga K "PageCode")) (.ref (He.ga K "CodeText"))) (some true),
  eqO (PySem.W.findIn K (.ref (He.ga K "PageRules")) "__ne__") (some (some (.builtin "object.__ne__"))),
  HeE.okO (PySem.W.mroIn K (He.ga K "PageRules") (.type "object")) (some true),
  eqO (PySem.W.findIn K (.ref (He.ga K "PageRules")) "__class__") (some (some (.builtin "object.__class__"))),
  eqO (PySem.W.specialIn K (.builtin "object.__class__") "__get__") (some (some (.builtin "getset_descriptor.__get__"))),
  HeE.okO (PySem.W.takesIn K (.builtin "object.__class__")) (some true),
  HeE.okO (PySem.W.exmOne K (.ref (He.ga K "BadKind")) (.ref (He.ga K "BadKind"))) (some true),
  HeE.okO (PySem.W.exmOne K (.ref (He.ga K "BadKind")) (.ref (He.ga K "BadLine"))) (some false),
  HeE.okO (PySem.W.exmOne K (.ref (He.ga K "BadKind")) (.ref (He.ga K "Refused"))) (some false),
  HeE.okO (PySem.W.exmOne K (.ref (He.ga K "BadKind")) (.ref (He.ga K "BadRule"))) (some false),
  HeE.okO (PySem.W.exmOne K (.ref (He.ga K "BadKind")) (.ref (He.ga K "BadSize"))) (some false),
  HeE.okO (PySem.W.exmOne K (.ref (He.ga K "BadKind")) (.ref (He.ga K "TooMany"))) (some false),
  HeE.okO (PySem.W.exmOne K (.ref (He.ga K "BadLine")) (.ref (He.ga K "BadKind"))) (some false),
  HeE.okO (PySem.W.exmOne K (.ref (He.ga K "BadLine")) (.ref (He.ga K "BadLine"))) (some true),
  HeE.okO (PySem.W.exmOne K (.ref (He.ga K "BadLine")) (.ref (He.ga K "Refused"))) (some false),
  HeE.okO (PySem.W.exmOne K (.ref (He.ga K "BadLine")) (.ref (He.ga K "BadRule"))) (some false),
  HeE.okO (PySem.W.exmOne K (.ref (He.ga K "BadLine")) (.ref (He.ga K "BadSize"))) (some false),
  HeE.okO (PySem.W.exmOne K (.ref (He.ga K "BadLine")) (.ref (He.ga K "TooMany"))) (some false),
  HeE.okO (PySem.W.exmOne K (.ref (He.ga K "Refused")) (.ref (He.ga K "BadKind"))) (some false),
  HeE.okO (PySem.W.exmOne K (.ref (He.ga K "Refused")) (.ref (He.ga K "BadLine"))) (some false),
  HeE.okO (PySem.W.exmOne K (.ref (He.ga K "Refused")) (.ref (He.ga K "Refused"))) (some true),
  HeE.okO (PySem.W.exmOne K (.ref (He.ga K "Refused")) (.ref (He.ga K "BadRule"))) (some false),
  HeE.okO (PySem.W.exmOne K (.ref (He.ga K "Refused")) (.ref (He.ga K "BadSize"))) (some false),
  HeE.okO (PySem.W.exmOne K (.ref (He.ga K "Refused")) (.ref (He.ga K "TooMany"))) (some false),
  HeE.okO (PySem.W.exmOne K (.ref (He.ga K "BadRule")) (.ref (He.ga K "BadKind"))) (some false),
  HeE.okO (PySem.W.exmOne K (.ref (He.ga K "BadRule")) (.ref (He.ga K "BadLine"))) (some false),
  HeE.okO (PySem.W.exmOne K (.ref (He.ga K "BadRule")) (.ref (He.ga K "Refused"))) (some false),
  HeE.okO (PySem.W.exmOne K (.ref (He.ga K "BadRule")) (.ref (He.ga K "BadRule"))) (some true),
  HeE.okO (PySem.W.exmOne K (.ref (He.ga K "BadRule")) (.ref (He.ga K "BadSize"))) (some false),
  HeE.okO (PySem.W.exmOne K (.ref (He.ga K "BadRule")) (.ref (He.ga K "TooMany"))) (some false),
  HeE.okO (PySem.W.exmOne K (.ref (He.ga K "BadSize")) (.ref (He.ga K "BadKind"))) (some false),
  HeE.okO (PySem.W.exmOne K (.ref (He.ga K "BadSize")) (.ref (He.ga K "BadLine"))) (some false),
  HeE.okO (PySem.W.exmOne K (.ref (He.ga K "BadSize")) (.ref (He.ga K "Refused"))) (some false),
  HeE.okO (PySem.W.exmOne K (.ref (He.ga K "BadSize")) (.ref (He.ga K "BadRule"))) (some false),
  HeE.okO (PySem.W.exmOne K (.ref (He.ga K "BadSize")) (.ref (He.ga K "BadSize"))) (some true),
  HeE.okO (PySem.W.exmOne K (.ref (He.ga K "BadSize")) (.ref (He.ga K "TooMany"))) (some false),
  HeE.okO (PySem.W.exmOne K (.ref (He.ga K "TooMany")) (.ref (He.ga K "BadKind"))) (some false),
  HeE.okO (PySem.W.exmOne K (.ref (He.ga K "TooMany")) (.ref (He.ga K "BadLine"))) (some false),
  HeE.okO (PySem.W.exmOne K (.ref (He.ga K "TooMany")) (.ref (He.ga K "Refused"))) (some false),
  HeE.okO (PySem.W.exmOne K (.ref (He.ga K "TooMany")) (.ref (He.ga K "BadRule"))) (some false),
  HeE.okO (PySem.W.exmOne K (.ref (He.ga K "TooMany")) (.ref (He.ga K "BadSize"))) (some false),
  HeE.okO (PySem.W.exmOne K (.ref (He.ga K "TooMany")) (.ref (He.ga K "TooMany"))) (some true),
  tupB K "ONCE" [.str "take", .str "clear", .str "pack", .str "at", .str "len", .str "lay", .str "slots"],
  tupB K "REGISTERS" [.str "a", .str "b", .str "c"],
  tupB K "NAMES" [.str "size", .str "head", .str "slot", .str "unit", .str "slots", .str "low", .str "holes", .str "edge", .str "len", .str "own.at", .str "own.len", .str "a", .str "b", .str "c"],
  tvV K "LONE" "no" [.str "no"],
  tvV K "LONE" "quit" [.str "quit"],
  tvV K "LONE" "pack" [.str "pack"],
  tvV K "LONE" "clear own" [.str "clear"],
  tvV K "LONE" "take empty" [.str "take", .str "empty"],
  tvV K "LONE" "take next" [.str "take", .str "next"],
  tvV K "LONE" "slots = slots + 1" [.str "slots", .int (1)],
  tvV K "LONE" "slots = slots - 1" [.str "slots", .int (-1)],
  tupB K "PAGE_KINDS" [.str "put", .str "strike", .str "set", .str "pack"]]
def ex (K : PySem.W.Frag) : Bool := (exL K).all id
theorem s_e_BadKind : ErrS P0 e_BadKind := ⟨rfl, by decide +kernel, by decide +kernel, by decide +kernel, by decide +kernel, by decide, rfl, ⟨_, rfl, rfl⟩, ⟨_, _, _, _, _, _, _, _, [⟨"kind", _, _, _, _⟩], rfl, rfl, fun env => ⟨_, rfl⟩⟩, fun kV doc pm an cda ct cc self us hl => match us, hl with | [_], _ => rfl⟩
theorem s_e_BadLine : ErrS P0 e_BadLine := ⟨rfl, by decide +kernel, by decide +kernel, by decide +kernel, by decide +kernel, by decide, rfl, ⟨_, rfl, rfl⟩, ⟨_, _, _, _, _, _, _, _, [⟨"line", _, _, _, _⟩], rfl, rfl, fun env => ⟨_, rfl⟩⟩, fun kV doc pm an cda ct cc self us hl => match us, hl with | [_], _ => rfl⟩
theorem s_e_Refused : ErrS P0 e_Refused := ⟨rfl, by decide +kernel, by decide +kernel, by decide +kernel, by decide +kernel, by decide, rfl, ⟨_, rfl, rfl⟩, ⟨_, _, _, _, _, _, _, _, [⟨"line", _, _, _, _⟩], rfl, rfl, fun env => ⟨_, rfl⟩⟩, fun kV doc pm an cda ct cc self us hl => match us, hl with | [_], _ => rfl⟩
theorem s_e_BadRule : ErrS P0 e_BadRule := ⟨rfl, by decide +kernel, by decide +kernel, by decide +kernel, by decide +kernel, by decide, rfl, ⟨_, rfl, rfl⟩, ⟨_, _, _, _, _, _, _, _, [⟨"what", _, _, _, _⟩], rfl, rfl, fun env => ⟨_, rfl⟩⟩, fun kV doc pm an cda ct cc self us hl => match us, hl with | [_], _ => rfl⟩
theorem s_e_BadSize : ErrS P0 e_BadSize := ⟨rfl, by decide +kernel, by decide +kernel, by decide +kernel, by decide +kernel, by decide, rfl, ⟨_, rfl, rfl⟩, ⟨_, _, _, _, _, _, _, _, [⟨"size", _, _, _, _⟩], rfl, rfl, fun env => ⟨_, rfl⟩⟩, fun kV doc pm an cda ct cc self us hl => match us, hl with | [_], _ => rfl⟩
theorem s_e_TooMany : ErrS P0 e_TooMany := ⟨rfl, by decide +kernel, by decide +kernel, by decide +kernel, by decide +kernel, by decide, rfl, ⟨_, rfl, rfl⟩, ⟨_, _, _, _, _, _, _, _, [⟨"what", _, _, _, _⟩, ⟨"many", _, _, _, _⟩, ⟨"most", _, _, _, _⟩], rfl, rfl, fun env => ⟨_, rfl⟩⟩, fun kV doc pm an cda ct cc self us hl => match us, hl with | [_, _, _], _ => rfl⟩
abbrev R : PySem.W.OpenRow := PySem.W.OpenLaw.row PySem.Challenge.rw_heldplaces_k03_whole_page_limits_by_ways
abbrev hk : PySem.W.Hook := hookG file 5 fa fn er su tabs tf ex
def ob (s : PySem.W.SharedT) : AlF := obsG file fa fn er su tabs tf ex (HandSHeadRun.getT s) (HeE.frE (HandSHeadRun.getT s) 5)
theorem ob_eq (s : PySem.W.SharedT) : ob s = hk.obs s.abs := obsG_eq (HandSHeadRun.getT_eq s)
def names0 : List PySem.Str := ["_wall", "HeldError", "BadKind", "BadLine", "Refused", "BadRule", "BadSize", "TooMany", "MOST_FIGURES", "MOST_TERMS", "MOST_PARTS", "told_number", "told_atom", "told_sum", "told_part", "Reader", "read_rows", "all_rows", "all_ways", "CodeText", "ONCE", "page_kinds", "page_names", "what_of", "wrong_on_way"]
def names1 : List PySem.Str := ["need_page_limits", "REGISTERS", "NAMES", "LONE", "page_setting", "page_row", "page_part", "PAGE_KINDS", "PageCode", "is_whole", "need_size", "PageRules", "_law_bag", "_law_draw", "_law_pool", "_law_lines", "_law_block", "_law_ways", "_law_once", "_law_faults", "_law_strange"]
abbrev names : List PySem.Str := names0 ++ names1
theorem tx {w : World} {h : Heap} {K : PySem.W.Frag} {mg : Str → Option Value} (X : K.In h) (G : h.Ns mainGlobals mg) (c : SaysG file fa fn er su tabs tf ex w h K) : Tx P0 w K mg where
  d__wall := by
    obtain ⟨fd, F⟩ := c.fn h__wall (by simp [fn, fn0, fn1])
    exact ⟨_, fd, glo_ok X G (c.fa (.glo "_wall") (by simp [fa, fa0, fa1, fa2, fa3])), F⟩
  d_told_number := by
    obtain ⟨fd, F⟩ := c.fn h_told_number (by simp [fn, fn0, fn1])
    exact ⟨_, fd, glo_ok X G (c.fa (.glo "told_number") (by simp [fa, fa0, fa1, fa2, fa3])), F⟩
  d_told_atom := by
    obtain ⟨fd, F⟩ := c.fn h_told_atom (by simp [fn, fn0, fn1])
    exact ⟨_, fd, glo_ok X G (c.fa (.glo "told_atom") (by simp [fa, fa0, fa1, fa2, fa3])), F⟩
  d_told_sum := by
    obtain ⟨fd, F⟩ := c.fn h_told_sum (by simp [fn, fn0, fn1])
    exact ⟨_, fd, glo_ok X G (c.fa (.glo "told_sum") (by simp [fa, fa0, fa1, fa2, fa3])), F⟩
  d_told_part := by
    obtain ⟨fd, F⟩ := c.fn h_told_part (by simp [fn, fn0, fn1])
    exact ⟨_, fd, glo_ok X G (c.fa (.glo "told_part") (by simp [fa, fa0, fa1, fa2, fa3])), F⟩
  mk_Reader := by
    obtain ⟨fd, F⟩ := c.fn h_Reader_init (by simp [fn, fn0, fn1])
    exact ⟨_, fd, glo_ok X G (c.fa (.glo "Reader") (by simp [fa, fa0, fa1, fa2, fa3])), mkr_ok (c.fa (.mkr "Reader") (by simp [fa, fa0, fa1, fa2, fa3])), F⟩
  m_Reader_read_block := by
    obtain ⟨fd, F⟩ := c.fn h_Reader_read_block (by simp [fn, fn0, fn1])
    exact ⟨_, fd, cls_ok (c.fa (.cls "Reader") (by simp [fa, fa0, fa1, fa2, fa3])), meth_ok (c.fa (.meth "Reader" "read_block") (by simp [fa, fa0, fa1, fa2, fa3])), F⟩
  m_Reader_read_if := by
    obtain ⟨fd, F⟩ := c.fn h_Reader_read_if (by simp [fn, fn0, fn1])
    exact ⟨_, fd, cls_ok (c.fa (.cls "Reader") (by simp [fa, fa0, fa1, fa2, fa3])), meth_ok (c.fa (.meth "Reader" "read_if") (by simp [fa, fa0, fa1, fa2, fa3])), F⟩
  d_read_rows := by
    obtain ⟨fd, F⟩ := c.fn h_read_rows (by simp [fn, fn0, fn1])
    exact ⟨_, fd, glo_ok X G (c.fa (.glo "read_rows") (by simp [fa, fa0, fa1, fa2, fa3])), F⟩
  d_all_rows := by
    obtain ⟨fd, F⟩ := c.fn h_all_rows (by simp [fn, fn0, fn1])
    exact ⟨_, fd, glo_ok X G (c.fa (.glo "all_rows") (by simp [fa, fa0, fa1, fa2, fa3])), F⟩
  d_all_ways := by
    obtain ⟨fd, F⟩ := c.fn h_all_ways (by simp [fn, fn0, fn1])
    exact ⟨_, fd, glo_ok X G (c.fa (.glo "all_ways") (by simp [fa, fa0, fa1, fa2, fa3])), F⟩
  mk_CodeText := by
    obtain ⟨fd, F⟩ := c.fn h_CodeText_init (by simp [fn, fn0, fn1])
    exact ⟨_, fd, glo_ok X G (c.fa (.glo "CodeText") (by simp [fa, fa0, fa1, fa2, fa3])), mkr_ok (c.fa (.mkr "CodeText") (by simp [fa, fa0, fa1, fa2, fa3])), F⟩
  m_CodeText_same := by
    obtain ⟨fd, F⟩ := c.fn h_CodeText_same (by simp [fn, fn0, fn1])
    exact ⟨_, fd, cls_ok (c.fa (.cls "CodeText") (by simp [fa, fa0, fa1, fa2, fa3])), meth_ok (c.fa (.meth "CodeText" "same") (by simp [fa, fa0, fa1, fa2, fa3])), F⟩
  m_CodeText_len := by
    obtain ⟨fd, F⟩ := c.fn h_CodeText_len (by simp [fn, fn0, fn1])
    exact ⟨_, fd, cls_ok (c.fa (.cls "CodeText") (by simp [fa, fa0, fa1, fa2, fa3])), meth_ok (c.fa (.meth "CodeText" "__len__") (by simp [fa, fa0, fa1, fa2, fa3])), F⟩
  m_CodeText_iter := by
    obtain ⟨fd, F⟩ := c.fn h_CodeText_iter (by simp [fn, fn0, fn1])
    exact ⟨_, fd, cls_ok (c.fa (.cls "CodeText") (by simp [fa, fa0, fa1, fa2, fa3])), meth_ok (c.fa (.meth "CodeText" "__iter__") (by simp [fa, fa0, fa1, fa2, fa3])), F⟩
  m_CodeText_getitem := by
    obtain ⟨fd, F⟩ := c.fn h_CodeText_getitem (by simp [fn, fn0, fn1])
    exact ⟨_, fd, cls_ok (c.fa (.cls "CodeText") (by simp [fa, fa0, fa1, fa2, fa3])), meth_ok (c.fa (.meth "CodeText" "__getitem__") (by simp [fa, fa0, fa1, fa2, fa3])), F⟩
  m_CodeText_eq := by
    obtain ⟨fd, F⟩ := c.fn h_CodeText_eq (by simp [fn, fn0, fn1])
    exact ⟨_, fd, cls_ok (c.fa (.cls "CodeText") (by simp [fa, fa0, fa1, fa2, fa3])), meth_ok (c.fa (.meth "CodeText" "__eq__") (by simp [fa, fa0, fa1, fa2, fa3])), F⟩
  d_page_kinds := by
    obtain ⟨fd, F⟩ := c.fn h_page_kinds (by simp [fn, fn0, fn1])
    exact ⟨_, fd, glo_ok X G (c.fa (.glo "page_kinds") (by simp [fa, fa0, fa1, fa2, fa3])), F⟩
  d_page_names := by
    obtain ⟨fd, F⟩ := c.fn h_page_names (by simp [fn, fn0, fn1])
    exact ⟨_, fd, glo_ok X G (c.fa (.glo "page_names") (by simp [fa, fa0, fa1, fa2, fa3])), F⟩
  d_what_of := by
    obtain ⟨fd, F⟩ := c.fn h_what_of (by simp [fn, fn0, fn1])
    exact ⟨_, fd, glo_ok X G (c.fa (.glo "what_of") (by simp [fa, fa0, fa1, fa2, fa3])), F⟩
  d_wrong_on_way := by
    obtain ⟨fd, F⟩ := c.fn h_wrong_on_way (by simp [fn, fn0, fn1])
    exact ⟨_, fd, glo_ok X G (c.fa (.glo "wrong_on_way") (by simp [fa, fa0, fa1, fa2, fa3])), F⟩
  d_need_page_limits := by
    obtain ⟨fd, F⟩ := c.fn h_need_page_limits (by simp [fn, fn0, fn1])
    exact ⟨_, fd, glo_ok X G (c.fa (.glo "need_page_limits") (by simp [fa, fa0, fa1, fa2, fa3])), F⟩
  d_page_setting := by
    obtain ⟨fd, F⟩ := c.fn h_page_setting (by simp [fn, fn0, fn1])
    exact ⟨_, fd, glo_ok X G (c.fa (.glo "page_setting") (by simp [fa, fa0, fa1, fa2, fa3])), F⟩
  d_page_row := by
    obtain ⟨fd, F⟩ := c.fn h_page_row (by simp [fn, fn0, fn1])
    exact ⟨_, fd, glo_ok X G (c.fa (.glo "page_row") (by simp [fa, fa0, fa1, fa2, fa3])), F⟩
  d_page_part := by
    obtain ⟨fd, F⟩ := c.fn h_page_part (by simp [fn, fn0, fn1])
    exact ⟨_, fd, glo_ok X G (c.fa (.glo "page_part") (by simp [fa, fa0, fa1, fa2, fa3])), F⟩
  m_PageCode_same := by
    obtain ⟨fd, F⟩ := c.fn h_PageCode_same (by simp [fn, fn0, fn1])
    exact ⟨_, fd, cls_ok (c.fa (.cls "PageCode") (by simp [fa, fa0, fa1, fa2, fa3])), meth_ok (c.fa (.meth "PageCode" "same") (by simp [fa, fa0, fa1, fa2, fa3])), F⟩
  d_is_whole := by
    obtain ⟨fd, F⟩ := c.fn h_is_whole (by simp [fn, fn0, fn1])
    exact ⟨_, fd, glo_ok X G (c.fa (.glo "is_whole") (by simp [fa, fa0, fa1, fa2, fa3])), F⟩
  d_need_size := by
    obtain ⟨fd, F⟩ := c.fn h_need_size (by simp [fn, fn0, fn1])
    exact ⟨_, fd, glo_ok X G (c.fa (.glo "need_size") (by simp [fa, fa0, fa1, fa2, fa3])), F⟩
  mk_PageRules := by
    obtain ⟨fd, F⟩ := c.fn h_PageRules_init (by simp [fn, fn0, fn1])
    exact ⟨_, fd, glo_ok X G (c.fa (.glo "PageRules") (by simp [fa, fa0, fa1, fa2, fa3])), mkr_ok (c.fa (.mkr "PageRules") (by simp [fa, fa0, fa1, fa2, fa3])), F⟩
  m_PageRules_room := by
    obtain ⟨fd, F⟩ := c.fn h_PageRules_room (by simp [fn, fn0, fn1])
    exact ⟨_, fd, cls_ok (c.fa (.cls "PageRules") (by simp [fa, fa0, fa1, fa2, fa3])), meth_ok (c.fa (.meth "PageRules" "room") (by simp [fa, fa0, fa1, fa2, fa3])), F⟩
  m_PageRules_in_use := by
    obtain ⟨fd, F⟩ := c.fn h_PageRules_in_use (by simp [fn, fn0, fn1])
    exact ⟨_, fd, cls_ok (c.fa (.cls "PageRules") (by simp [fa, fa0, fa1, fa2, fa3])), meth_ok (c.fa (.meth "PageRules" "in_use") (by simp [fa, fa0, fa1, fa2, fa3])), F⟩
  m_PageRules_next_in_use := by
    obtain ⟨fd, F⟩ := c.fn h_PageRules_next_in_use (by simp [fn, fn0, fn1])
    exact ⟨_, fd, cls_ok (c.fa (.cls "PageRules") (by simp [fa, fa0, fa1, fa2, fa3])), meth_ok (c.fa (.meth "PageRules" "next_in_use") (by simp [fa, fa0, fa1, fa2, fa3])), F⟩
  m_PageRules_eq := by
    obtain ⟨fd, F⟩ := c.fn h_PageRules_eq (by simp [fn, fn0, fn1])
    exact ⟨_, fd, cls_ok (c.fa (.cls "PageRules") (by simp [fa, fa0, fa1, fa2, fa3])), meth_ok (c.fa (.meth "PageRules" "__eq__") (by simp [fa, fa0, fa1, fa2, fa3])), F⟩
  d_l_bag := by
    obtain ⟨fd, F⟩ := c.fn h_l_bag (by simp [fn, fn0, fn1])
    exact ⟨_, fd, glo_ok X G (c.fa (.glo "_law_bag") (by simp [fa, fa0, fa1, fa2, fa3])), F⟩
  d_l_draw := by
    obtain ⟨fd, F⟩ := c.fn h_l_draw (by simp [fn, fn0, fn1])
    exact ⟨_, fd, glo_ok X G (c.fa (.glo "_law_draw") (by simp [fa, fa0, fa1, fa2, fa3])), F⟩
  d_l_pool := by
    obtain ⟨fd, F⟩ := c.fn h_l_pool (by simp [fn, fn0, fn1])
    exact ⟨_, fd, glo_ok X G (c.fa (.glo "_law_pool") (by simp [fa, fa0, fa1, fa2, fa3])), F⟩
  d_l_lines := by
    obtain ⟨fd, F⟩ := c.fn h_l_lines (by simp [fn, fn0, fn1])
    exact ⟨_, fd, glo_ok X G (c.fa (.glo "_law_lines") (by simp [fa, fa0, fa1, fa2, fa3])), F⟩
  d_l_block := by
    obtain ⟨fd, F⟩ := c.fn h_l_block (by simp [fn, fn0, fn1])
    exact ⟨_, fd, glo_ok X G (c.fa (.glo "_law_block") (by simp [fa, fa0, fa1, fa2, fa3])), F⟩
  d_l_ways := by
    obtain ⟨fd, F⟩ := c.fn h_l_ways (by simp [fn, fn0, fn1])
    exact ⟨_, fd, glo_ok X G (c.fa (.glo "_law_ways") (by simp [fa, fa0, fa1, fa2, fa3])), F⟩
  d_l_once := by
    obtain ⟨fd, F⟩ := c.fn h_l_once (by simp [fn, fn0, fn1])
    exact ⟨_, fd, glo_ok X G (c.fa (.glo "_law_once") (by simp [fa, fa0, fa1, fa2, fa3])), F⟩
  d_l_faults := by
    obtain ⟨fd, F⟩ := c.fn h_l_faults (by simp [fn, fn0, fn1])
    exact ⟨_, fd, glo_ok X G (c.fa (.glo "_law_faults") (by simp [fa, fa0, fa1, fa2, fa3])), F⟩
  d_l_strange := by
    obtain ⟨fd, F⟩ := c.fn h_l_strange (by simp [fn, fn0, fn1])
    exact ⟨_, fd, glo_ok X G (c.fa (.glo "_law_strange") (by simp [fa, fa0, fa1, fa2, fa3])), F⟩
  d_law := by
    obtain ⟨fd, F⟩ := c.fn h_law (by simp [fn, fn0, fn1])
    exact ⟨_, fd, glo_ok X G (c.fa (.glo "law") (by simp [fa, fa0, fa1, fa2, fa3])), F⟩
  m_PageCode_len := by
    obtain ⟨fd, F⟩ := c.fn h_PageCode_len (by simp [fn, fn0, fn1])
    exact ⟨_, fd, cls_ok (c.fa (.cls "PageCode") (by simp [fa, fa0, fa1, fa2, fa3])), meth_ok (c.fa (.meth "PageCode" "__len__") (by simp [fa, fa0, fa1, fa2, fa3])), F⟩
  m_PageCode_iter := by
    obtain ⟨fd, F⟩ := c.fn h_PageCode_iter (by simp [fn, fn0, fn1])
    exact ⟨_, fd, cls_ok (c.fa (.cls "PageCode") (by simp [fa, fa0, fa1, fa2, fa3])), meth_ok (c.fa (.meth "PageCode" "__iter__") (by simp [fa, fa0, fa1, fa2, fa3])), F⟩
  m_PageCode_getitem := by
    obtain ⟨fd, F⟩ := c.fn h_PageCode_getitem (by simp [fn, fn0, fn1])
    exact ⟨_, fd, cls_ok (c.fa (.cls "PageCode") (by simp [fa, fa0, fa1, fa2, fa3])), meth_ok (c.fa (.meth "PageCode" "__getitem__") (by simp [fa, fa0, fa1, fa2, fa3])), F⟩
  m_PageCode_eq := by
    obtain ⟨fd, F⟩ := c.fn h_PageCode_eq (by simp [fn, fn0, fn1])
    exact ⟨_, fd, cls_ok (c.fa (.cls "PageCode") (by simp [fa, fa0, fa1, fa2, fa3])), meth_ok (c.fa (.meth "PageCode" "__eq__") (by simp [fa, fa0, fa1, fa2, fa3])), F⟩
  sup_PageCode := by
    obtain ⟨fd0, F0⟩ := c.fn h_CodeText_init (by simp [fn, fn0, fn1])
    exact supD_of (prog := P0) (y := "CodeText") (HeE.all_at c.more 0) (c.su u_PageCode (by simp [su])) s_u_PageCode (mkr_ok (c.fa (.mkr "PageCode") (by simp [fa, fa0, fa1, fa2, fa3]))) F0
  ne_CodeText := eqO_ok (HeE.all_at c.more 1)
  cm_CodeText := of_decide_eq_true (HeE.all_at c.more 2)
  ca_CodeText := eqO_ok (HeE.all_at c.more 3)
  ne_PageCode := eqO_ok (HeE.all_at c.more 4)
  cm_PageCode := of_decide_eq_true (HeE.all_at c.more 5)
  ca_PageCode := eqO_ok (HeE.all_at c.more 6)
  kc_PageCode := of_decide_eq_true (HeE.all_at c.more 7)
  ne_PageRules := eqO_ok (HeE.all_at c.more 8)
  cm_PageRules := of_decide_eq_true (HeE.all_at c.more 9)
  ca_PageRules := eqO_ok (HeE.all_at c.more 10)
  cn_obj := eqO_ok (HeE.all_at c.more 11)
  ct_obj := of_decide_eq_true (HeE.all_at c.more 12)
  x_BadKind_BadKind := of_decide_eq_true (HeE.all_at c.more 13)
  x_BadKind_BadLine := of_decide_eq_true (HeE.all_at c.more 14)
  x_BadKind_Refused := of_decide_eq_true (HeE.all_at c.more 15)
  x_BadKind_BadRule := of_decide_eq_true (HeE.all_at c.more 16)
  x_BadKind_BadSize := of_decide_eq_true (HeE.all_at c.more 17)
  x_BadKind_TooMany := of_decide_eq_true (HeE.all_at c.more 18)
  x_BadLine_BadKind := of_decide_eq_true (HeE.all_at c.more 19)
  x_BadLine_BadLine := of_decide_eq_true (HeE.all_at c.more 20)
  x_BadLine_Refused := of_decide_eq_true (HeE.all_at c.more 21)
  x_BadLine_BadRule := of_decide_eq_true (HeE.all_at c.more 22)
  x_BadLine_BadSize := of_decide_eq_true (HeE.all_at c.more 23)
  x_BadLine_TooMany := of_decide_eq_true (HeE.all_at c.more 24)
  x_Refused_BadKind := of_decide_eq_true (HeE.all_at c.more 25)
  x_Refused_BadLine := of_decide_eq_true (HeE.all_at c.more 26)
  x_Refused_Refused := of_decide_eq_true (HeE.all_at c.more 27)
  x_Refused_BadRule := of_decide_eq_true (HeE.all_at c.more 28)
  x_Refused_BadSize := of_decide_eq_true (HeE.all_at c.more 29)
  x_Refused_TooMany := of_decide_eq_true (HeE.all_at c.more 30)
  x_BadRule_BadKind := of_decide_eq_true (HeE.all_at c.more 31)
  x_BadRule_BadLine := of_decide_eq_true (HeE.all_at c.more 32)
  x_BadRule_Refused := of_decide_eq_true (HeE.all_at c.more 33)
  x_BadRule_BadRule := of_decide_eq_true (HeE.all_at c.more 34)
  x_BadRule_BadSize := of_decide_eq_true (HeE.all_at c.more 35)
  x_BadRule_TooMany := of_decide_eq_true (HeE.all_at c.more 36)
  x_BadSize_BadKind := of_decide_eq_true (HeE.all_at c.more 37)
  x_BadSize_BadLine := of_decide_eq_true (HeE.all_at c.more 38)
  x_BadSize_Refused := of_decide_eq_true (HeE.all_at c.more 39)
  x_BadSize_BadRule := of_decide_eq_true (HeE.all_at c.more 40)
  x_BadSize_BadSize := of_decide_eq_true (HeE.all_at c.more 41)
  x_BadSize_TooMany := of_decide_eq_true (HeE.all_at c.more 42)
  x_TooMany_BadKind := of_decide_eq_true (HeE.all_at c.more 43)
  x_TooMany_BadLine := of_decide_eq_true (HeE.all_at c.more 44)
  x_TooMany_Refused := of_decide_eq_true (HeE.all_at c.more 45)
  x_TooMany_BadRule := of_decide_eq_true (HeE.all_at c.more 46)
  x_TooMany_BadSize := of_decide_eq_true (HeE.all_at c.more 47)
  x_TooMany_TooMany := of_decide_eq_true (HeE.all_at c.more 48)
  cl_Reader := cls_ok (c.fa (.cls "Reader") (by simp [fa, fa0, fa1, fa2, fa3]))
  g_Reader := glo_ok X G (c.fa (.glo "Reader") (by simp [fa, fa0, fa1, fa2, fa3]))
  na_Reader_ifs := noat_ok (c.fa (.noat "Reader" "ifs") (by simp [fa, fa0, fa1, fa2, fa3]))
  na_Reader_line := noat_ok (c.fa (.noat "Reader" "line") (by simp [fa, fa0, fa1, fa2, fa3]))
  na_Reader_own_lines := noat_ok (c.fa (.noat "Reader" "own_lines") (by simp [fa, fa0, fa1, fa2, fa3]))
  na_Reader_part_of := noat_ok (c.fa (.noat "Reader" "part_of") (by simp [fa, fa0, fa1, fa2, fa3]))
  na_Reader_row_of := noat_ok (c.fa (.noat "Reader" "row_of") (by simp [fa, fa0, fa1, fa2, fa3]))
  cl_CodeText := cls_ok (c.fa (.cls "CodeText") (by simp [fa, fa0, fa1, fa2, fa3]))
  g_CodeText := glo_ok X G (c.fa (.glo "CodeText") (by simp [fa, fa0, fa1, fa2, fa3]))
  na_CodeText_kind := noat_ok (c.fa (.noat "CodeText" "kind") (by simp [fa, fa0, fa1, fa2, fa3]))
  na_CodeText_own_lines := noat_ok (c.fa (.noat "CodeText" "own_lines") (by simp [fa, fa0, fa1, fa2, fa3]))
  na_CodeText_own_tables := noat_ok (c.fa (.noat "CodeText" "own_tables") (by simp [fa, fa0, fa1, fa2, fa3]))
  na_CodeText_part := noat_ok (c.fa (.noat "CodeText" "part") (by simp [fa, fa0, fa1, fa2, fa3]))
  na_CodeText_text := noat_ok (c.fa (.noat "CodeText" "text") (by simp [fa, fa0, fa1, fa2, fa3]))
  cl_PageCode := cls_ok (c.fa (.cls "PageCode") (by simp [fa, fa0, fa1, fa2, fa3]))
  g_PageCode := glo_ok X G (c.fa (.glo "PageCode") (by simp [fa, fa0, fa1, fa2, fa3]))
  na_PageCode_kind := noat_ok (c.fa (.noat "PageCode" "kind") (by simp [fa, fa0, fa1, fa2, fa3]))
  na_PageCode_own_lines := noat_ok (c.fa (.noat "PageCode" "own_lines") (by simp [fa, fa0, fa1, fa2, fa3]))
  na_PageCode_own_tables := noat_ok (c.fa (.noat "PageCode" "own_tables") (by simp [fa, fa0, fa1, fa2, fa3]))
  na_PageCode_part := noat_ok (c.fa (.noat "PageCode" "part") (by simp [fa, fa0, fa1, fa2, fa3]))
  na_PageCode_rows := noat_ok (c.fa (.noat "PageCode" "rows") (by simp [fa, fa0, fa1, fa2, fa3]))
  na_PageCode_rules := noat_ok (c.fa (.noat "PageCode" "rules") (by simp [fa, fa0, fa1, fa2, fa3]))
  na_PageCode_text := noat_ok (c.fa (.noat "PageCode" "text") (by simp [fa, fa0, fa1, fa2, fa3]))
  cl_PageRules := cls_ok (c.fa (.cls "PageRules") (by simp [fa, fa0, fa1, fa2, fa3]))
  g_PageRules := glo_ok X G (c.fa (.glo "PageRules") (by simp [fa, fa0, fa1, fa2, fa3]))
  na_PageRules_head := noat_ok (c.fa (.noat "PageRules" "head") (by simp [fa, fa0, fa1, fa2, fa3]))
  na_PageRules_most := noat_ok (c.fa (.noat "PageRules" "most") (by simp [fa, fa0, fa1, fa2, fa3]))
  na_PageRules_slot := noat_ok (c.fa (.noat "PageRules" "slot") (by simp [fa, fa0, fa1, fa2, fa3]))
  na_PageRules_unit := noat_ok (c.fa (.noat "PageRules" "unit") (by simp [fa, fa0, fa1, fa2, fa3]))
  g_HeldError := glo_ok X G (c.fa (.glo "HeldError") (by simp [fa, fa0, fa1, fa2, fa3]))
  e_BadKind := errTxt (c.er e_BadKind (by simp [er])).1 (c.er e_BadKind (by simp [er])).2 s_e_BadKind
  g_BadKind := errG X G (c.er e_BadKind (by simp [er])).1
  k_BadKind := errK (prog := P0) (c.er e_BadKind (by simp [er])).1
  e_BadLine := errTxt (c.er e_BadLine (by simp [er])).1 (c.er e_BadLine (by simp [er])).2 s_e_BadLine
  g_BadLine := errG X G (c.er e_BadLine (by simp [er])).1
  k_BadLine := errK (prog := P0) (c.er e_BadLine (by simp [er])).1
  e_Refused := errTxt (c.er e_Refused (by simp [er])).1 (c.er e_Refused (by simp [er])).2 s_e_Refused
  g_Refused := errG X G (c.er e_Refused (by simp [er])).1
  k_Refused := errK (prog := P0) (c.er e_Refused (by simp [er])).1
  e_BadRule := errTxt (c.er e_BadRule (by simp [er])).1 (c.er e_BadRule (by simp [er])).2 s_e_BadRule
  g_BadRule := errG X G (c.er e_BadRule (by simp [er])).1
  k_BadRule := errK (prog := P0) (c.er e_BadRule (by simp [er])).1
  e_BadSize := errTxt (c.er e_BadSize (by simp [er])).1 (c.er e_BadSize (by simp [er])).2 s_e_BadSize
  g_BadSize := errG X G (c.er e_BadSize (by simp [er])).1
  k_BadSize := errK (prog := P0) (c.er e_BadSize (by simp [er])).1
  e_TooMany := errTxt (c.er e_TooMany (by simp [er])).1 (c.er e_TooMany (by simp [er])).2 s_e_TooMany
  g_TooMany := errG X G (c.er e_TooMany (by simp [er])).1
  k_TooMany := errK (prog := P0) (c.er e_TooMany (by simp [er])).1
  b_TypeError := free_ok X G (c.fa (.free "TypeError") (by simp [fa, fa0, fa1, fa2, fa3]))
  b_ValueError := free_ok X G (c.fa (.free "ValueError") (by simp [fa, fa0, fa1, fa2, fa3]))
  b_any := free_ok X G (c.fa (.free "any") (by simp [fa, fa0, fa1, fa2, fa3]))
  b_bool := free_ok X G (c.fa (.free "bool") (by simp [fa, fa0, fa1, fa2, fa3]))
  b_enumerate := free_ok X G (c.fa (.free "enumerate") (by simp [fa, fa0, fa1, fa2, fa3]))
  b_int := free_ok X G (c.fa (.free "int") (by simp [fa, fa0, fa1, fa2, fa3]))
  b_isinstance := free_ok X G (c.fa (.free "isinstance") (by simp [fa, fa0, fa1, fa2, fa3]))
  b_len := free_ok X G (c.fa (.free "len") (by simp [fa, fa0, fa1, fa2, fa3]))
  b_list := free_ok X G (c.fa (.free "list") (by simp [fa, fa0, fa1, fa2, fa3]))
  b_min := free_ok X G (c.fa (.free "min") (by simp [fa, fa0, fa1, fa2, fa3]))
  b_range := free_ok X G (c.fa (.free "range") (by simp [fa, fa0, fa1, fa2, fa3]))
  b_str := free_ok X G (c.fa (.free "str") (by simp [fa, fa0, fa1, fa2, fa3]))
  b_tuple := free_ok X G (c.fa (.free "tuple") (by simp [fa, fa0, fa1, fa2, fa3]))
  c_MOST_FIGURES := int_ok X G (c.fa (.int "MOST_FIGURES" 30) (by simp [fa, fa0, fa1, fa2, fa3]))
  c_MOST_TERMS := int_ok X G (c.fa (.int "MOST_TERMS" 4) (by simp [fa, fa0, fa1, fa2, fa3]))
  c_MOST_PARTS := int_ok X G (c.fa (.int "MOST_PARTS" 4) (by simp [fa, fa0, fa1, fa2, fa3]))
  g_ONCE := glo_ok X G (c.fa (.glo "ONCE") (by simp [fa, fa0, fa1, fa2, fa3]))
  t_ONCE := tupB_ok (vs := [.str "take", .str "clear", .str "pack", .str "at", .str "len", .str "lay", .str "slots"]) (HeE.all_at c.more 49)
  g_REGISTERS := glo_ok X G (c.fa (.glo "REGISTERS") (by simp [fa, fa0, fa1, fa2, fa3]))
  t_REGISTERS := tupB_ok (vs := [.str "a", .str "b", .str "c"]) (HeE.all_at c.more 50)
  g_NAMES := glo_ok X G (c.fa (.glo "NAMES") (by simp [fa, fa0, fa1, fa2, fa3]))
  t_NAMES := tupB_ok (vs := [.str "size", .str "head", .str "slot", .str "unit", .str "slots", .str "low", .str "holes", .str "edge", .str "len", .str "own.at", .str "own.len", .str "a", .str "b", .str "c"]) (HeE.all_at c.more 51)
  g_LONE := glo_ok X G (c.fa (.glo "LONE") (by simp [fa, fa0, fa1, fa2, fa3]))
  kd_LONE := dicW_ok (c.ts ("LONE", ["no", "quit", "pack", "clear own", "take empty", "take next", "slots = slots + 1", "slots = slots - 1"]) (by simp [tabs]))
  kn_LONE := kn_ok (c.ts ("LONE", ["no", "quit", "pack", "clear own", "take empty", "take next", "slots = slots + 1", "slots = slots - 1"]) (by simp [tabs]))
  k_LONE_no := tvV_ok (vs := [.str "no"]) (dicW_ok (c.ts ("LONE", ["no", "quit", "pack", "clear own", "take empty", "take next", "slots = slots + 1", "slots = slots - 1"]) (by simp [tabs]))) (HeE.all_at c.more 52)
  k_LONE_quit := tvV_ok (vs := [.str "quit"]) (dicW_ok (c.ts ("LONE", ["no", "quit", "pack", "clear own", "take empty", "take next", "slots = slots + 1", "slots = slots - 1"]) (by simp [tabs]))) (HeE.all_at c.more 53)
  k_LONE_pack := tvV_ok (vs := [.str "pack"]) (dicW_ok (c.ts ("LONE", ["no", "quit", "pack", "clear own", "take empty", "take next", "slots = slots + 1", "slots = slots - 1"]) (by simp [tabs]))) (HeE.all_at c.more 54)
  k_LONE_clearx20own := tvV_ok (vs := [.str "clear"]) (dicW_ok (c.ts ("LONE", ["no", "quit", "pack", "clear own", "take empty", "take next", "slots = slots + 1", "slots = slots - 1"]) (by simp [tabs]))) (HeE.all_at c.more 55)
  k_LONE_takex20empty := tvV_ok (vs := [.str "take", .str "empty"]) (dicW_ok (c.ts ("LONE", ["no", "quit", "pack", "clear own", "take empty", "take next", "slots = slots + 1", "slots = slots - 1"]) (by simp [tabs]))) (HeE.all_at c.more 56)
  k_LONE_takex20next := tvV_ok (vs := [.str "take", .str "next"]) (dicW_ok (c.ts ("LONE", ["no", "quit", "pack", "clear own", "take empty", "take next", "slots = slots + 1", "slots = slots - 1"]) (by simp [tabs]))) (HeE.all_at c.more 57)
  k_LONE_slotsx20x3dx20slotsx20x2bx201 := tvV_ok (vs := [.str "slots", .int (1)]) (dicW_ok (c.ts ("LONE", ["no", "quit", "pack", "clear own", "take empty", "take next", "slots = slots + 1", "slots = slots - 1"]) (by simp [tabs]))) (HeE.all_at c.more 58)
  k_LONE_slotsx20x3dx20slotsx20x2dx201 := tvV_ok (vs := [.str "slots", .int (-1)]) (dicW_ok (c.ts ("LONE", ["no", "quit", "pack", "clear own", "take empty", "take next", "slots = slots + 1", "slots = slots - 1"]) (by simp [tabs]))) (HeE.all_at c.more 59)
  g_PAGE_KINDS := glo_ok X G (c.fa (.glo "PAGE_KINDS") (by simp [fa, fa0, fa1, fa2, fa3]))
  t_PAGE_KINDS := tupB_ok (vs := [.str "put", .str "strike", .str "set", .str "pack"]) (HeE.all_at c.more 60)
def runP (w : World) : Prop := HandSHeadRun.RunEq R (PySem.W.view R.prog [53]) hk ob 40000 names w
theorem run_f (w : World) : runP (w.withFollow "special-get-raises" false) := by
  intro os
  kernel_rfl
theorem run_t (w : World) : runP (w.withFollow "special-get-raises" true) := by
  intro os
  kernel_rfl
theorem run (w : World) : runP w := PySem.W.byRow2 "special-get-raises" (P := runP) run_f run_t w
end K03.HdX


set_option Elab.async false
set_option linter.all false
set_option maxRecDepth 100000
set_option maxHeartbeats 4000000
namespace L2
open PySem
theorem SameX.refl {x : Addr} {H : Hp} : SameX x H H := fun _ _ _ h => h
theorem SameX.trans {x : Addr} {H H1 H2 : Hp} (a : SameX x H H1) (b : SameX x H1 H2) : SameX x H H2 := a.tr b
theorem SameX.put {x : Addr} {H : Hp} {o : HO} : SameX x H (L2.upd H x o) := fun c u n h => by rw [upd_ne n]; exact h
end L2
namespace K03
open PySem PySem.Spec PyProof.Rows L2
section
variable {P : Program} {w : World} {K : PySem.W.Frag} {mg : Str → Option Value} {base : Heap}
def bagD (c : Addr) (at_ dg cnt fo : Int) : HO := .dK [(Sum.inr "cells", .ref c), (Sum.inr "at", .int at_), (Sum.inr "digits", .int dg), (Sum.inr "count", .int cnt), (Sum.inr "fold", .int fo)]
/-- the bag at d: at most n draws so far -/
def Bag (H : Hp) (d c : Addr) (n : Nat) : Prop := ∃ (cs : List Int) (at_ dg cnt fo : Int), H d = some (bagD c at_ dg cnt fo) ∧ H c = some (.lst (cs.map V.int)) ∧ 0 ≤ at_ ∧ 0 ≤ dg ∧ 0 ≤ cnt ∧ cnt ≤ n ∧ 0 ≤ fo ∧ fo < 2147483648
theorem Bag.mono {H : Hp} {d c : Addr} {n m : Nat} (h : Bag H d c n) (hm : n ≤ m) : Bag H d c m := by
  obtain ⟨cs, a, dg, cnt, fo, h1, h2, h3, h4, h5, h6, h7⟩ := h
  exact ⟨cs, a, dg, cnt, fo, h1, h2, h3, h4, h5, by omega, h7⟩
theorem Bag.up {H H' : Hp} {d c : Addr} {n : Nat} (h : Bag H d c n) (e : Same H H') : Bag H' d c n := by
  obtain ⟨cs, a, dg, cnt, fo, h1, h2, h3⟩ := h
  exact ⟨cs, a, dg, cnt, fo, e _ _ h1, e _ _ h2, h3⟩
section
variable {H : Hp} {d c : Addr} {a b m l : Int}
theorem g_cells (h : H d = some (bagD c a b m l)) : DGet H d (.str (Str.ofString "cells")) (some (.ref c)) := DGet.k (k := Sum.inr "cells") h
theorem g_at (h : H d = some (bagD c a b m l)) : DGet H d (.str (Str.ofString "at")) (some (.int a)) := DGet.k (k := Sum.inr "at") h
theorem g_dig (h : H d = some (bagD c a b m l)) : DGet H d (.str (Str.ofString "digits")) (some (.int b)) := DGet.k (k := Sum.inr "digits") h
theorem g_count (h : H d = some (bagD c a b m l)) : DGet H d (.str (Str.ofString "count")) (some (.int m)) := DGet.k (k := Sum.inr "count") h
theorem g_fold (h : H d = some (bagD c a b m l)) : DGet H d (.str (Str.ofString "fold")) (some (.int l)) := DGet.k (k := Sum.inr "fold") h
theorem p_at (x : Int) (h : H d = some (bagD c a b m l)) : DPut H d (.str (Str.ofString "at")) (.int x) (upd H d (bagD c x b m l)) := DPut.k (k := Sum.inr "at") h (by show 5 < sizeLine; decide)
theorem p_dig (x : Int) (h : H d = some (bagD c a b m l)) : DPut H d (.str (Str.ofString "digits")) (.int x) (upd H d (bagD c a x m l)) := DPut.k (k := Sum.inr "digits") h (by show 5 < sizeLine; decide)
theorem p_count (x : Int) (h : H d = some (bagD c a b m l)) : DPut H d (.str (Str.ofString "count")) (.int x) (upd H d (bagD c a b x l)) := DPut.k (k := Sum.inr "count") h (by show 5 < sizeLine; decide)
theorem p_fold (x : Int) (h : H d = some (bagD c a b m l)) : DPut H d (.str (Str.ofString "fold")) (.int x) (upd H d (bagD c a b m x)) := DPut.k (k := Sum.inr "fold") h (by show 5 < sizeLine; decide)
end
def spBag (K : PySem.W.Frag) : Sp := fun vs H Q E => ∃ (a : Addr) (xs : List Int), vs = [.ref a] ∧ SqL K H a (xs.map V.int) ∧ ∀ d c H', H d = none → Same H H' → Bag H' d c 0 → Q (.ref d) H'
theorem ok_bag (T : Tx P w K mg) : FnX P w K mg base CX0 1 "_law_bag" ["_law_script"] [] (spBag K) := by
  refine T.d_l_bag.ok0 sc_l_bag (fun _ _ _ _ _ _ us hl => match us, hl with | [_], _ => rfl) (fun vs H Q E h => ?_) (fun f cdv A outer s H vs Q E hr h => have hu := hu_of hr; ⟨_, (by exact (pss_cons (ps_set (i := 1) sc_l_bag.nd rfl (Or.inl rfl) pe_int)
      (pss_cons (ps_for PassesOwn.never rfl (pi_list (pv 0)) (pg_name (i := 2) sc_l_bag.nd rfl (Or.inl rfl))
        (pss_one (ps_set (i := 1) sc_l_bag.nd rfl (Or.inl rfl) (pe_op op_mod (pe_callTy call_int1 (by rfl) T.b_int (by decide +kernel) (pa_cons (pe_op op_add (pe_op op_mul (pv 1) pe_int) (pv 2)) pa_nil)) pe_int))))
      (pss_one (ps_ret (pe_disp (pps_cons pe_str (pe_callTy call_list_of (by rfl) T.b_list (by decide +kernel) (pa_cons (pv 0) pa_nil)) (pps_cons pe_str pe_int (pps_cons pe_str pe_int (pps_cons pe_str pe_int (pps_cons pe_str (pv 1) pps_nil))))) (by rfl) (by rfl) (fun z => by cases z) (by decide))))))), ?_⟩)
  · obtain ⟨a, xs, rfl, _⟩ := h
    rfl
  obtain ⟨a, xs, rfl, ha, hq⟩ := h
  refine ⟨_, rfl, a, rfl, ⟨_, ha⟩, for_list (xs := xs.map V.int) (fun i z H' => H' = H ∧ ∃ fo o, z = [some (.ref a), some (.int fo), o] ∧ 0 ≤ fo ∧ fo < 1000000007) ⟨rfl, 0, _, rfl, by decide, by decide⟩ (fun i z H' _ h => by rw [h.1]; exact ha) ?_ ?_⟩
  · rintro i v z H' hv ⟨rfl, fo, o, rfl, f0, f1⟩
    obtain ⟨k, h1, h2⟩ := List.mem_map.mp (List.mem_of_getElem? hv)
    subst h2
    refine ⟨_, rfl, _, _, rfl, rfl, .inl ⟨by omega, by omega⟩, _, rfl, _, _, rfl, rfl, .inl ⟨_, rfl, _, _, rfl, rfl, (by decide : (0 : Int) < 1000000007), ?_⟩⟩
    exact ⟨rfl, _, _, rfl, Int.emod_nonneg _ (by decide), Int.emod_lt_of_pos _ (by decide)⟩
  · rintro z H' ⟨rfl, fo, o, rfl, f0, f1⟩
    refine fun d hd => ⟨_, rfl, a, _, rfl, .inl ((Same.new hd).seq ha), fun l hl => ⟨_, rfl, ?_⟩⟩
    have hd2 : upd (upd H' d (.dK [])) l (.lst (xs.map V.int)) d = some (.dK []) := Same.new hl _ _ upd_same
    have hl2 : upd (upd H' d (.dK [])) l (.lst (xs.map V.int)) l = some (.lst (xs.map V.int)) := upd_same
    have S2 : Same H' (upd (upd H' d (.dK [])) l (.lst (xs.map V.int))) := (Same.new hd).trans (Same.new hl)
    refine ⟨hd2, [(Sum.inr "cells", .ref l), (Sum.inr "at", .int 0), (Sum.inr "digits", .int 0), (Sum.inr "count", .int 0), (Sum.inr "fold", .int fo)], rfl, (by show 5 ≤ 15; decide), ?_⟩
    refine hq d l _ hd (S2.mut hd) ⟨xs, 0, 0, 0, fo, upd_same, ?_, by omega, by omega, by omega, by omega, f0, by omega⟩
    rw [upd_ne (fun z => by subst z; rw [hl2] at hd2; cases hd2)]
    exact hl2
/-- a draw below lim -/
def spDraw : Sp := fun vs H Q E => ∃ (d c : Addr) (n : Nat) (lim : Int), vs = [.ref d, .int lim] ∧ Bag H d c n ∧ n < 2 ^ 40 ∧ 0 < lim ∧ lim ≤ 10 ^ 15 ∧ ∀ r H', 0 ≤ r → r < lim → SameX d H H' → Bag H' d c (n + 1) → Q (.int r) H'
theorem ok_draw (T : Tx P w K mg) : FnX P w K mg base CX0 1 "_law_draw" ["_law_bag_here", "_law_limit"] [] spDraw := by
  refine T.d_l_draw.ok0 sc_l_draw (fun _ _ _ _ _ _ us hl => match us, hl with | [_, _], _ => rfl) (fun vs H Q E h => ?_) (fun f cdv A outer s H vs Q E hr h => have hu := hu_of hr; ⟨_, (by exact (pss_cons (ps_dput hu (pv 0) pe_str (pe_op op_add (pe_dget hu (pv 0) pe_str (fun _ _ => rfl)) pe_int) rfl)
      (pss_cons (ps_if (PW.pt (pw_and (pt_cmpR op_eq (pe_dget hu (pv 0) pe_str (fun _ _ => rfl)) pe_int (nomark _)) (pw_and1 (pt_cmpR op_lt (pe_dget hu (pv 0) pe_str (fun _ _ => rfl)) (pe_callB call_len_seq (by rfl) T.b_len (by decide +kernel) (pa_cons (pe_dget hu (pv 0) pe_str (fun _ _ => rfl)) pa_nil)) (nomark _))))) (pss_cons (ps_set (i := 2) sc_l_draw.nd rfl (Or.inl rfl) (pe_ix ix_list (pe_dget hu (pv 0) pe_str (fun _ _ => rfl)) (pe_dget hu (pv 0) pe_str (fun _ _ => rfl)) (fun _ _ => rfl)))
      (pss_cons (ps_dput hu (pv 0) pe_str (pe_op op_add (pe_dget hu (pv 0) pe_str (fun _ _ => rfl)) pe_int) rfl)
      (pss_one (ps_if (pt_cmpR op_ge (pv 2) (pe_op op_pow pe_int pe_int) (nomark _)) (pss_one (ps_dput hu (pv 0) pe_str (pe_op op_sub (pv 2) (pe_op op_pow pe_int pe_int)) rfl)) (pss_one (ps_dput hu (pv 0) pe_str (pe_op op_mod (pe_callTy call_int1 (by rfl) T.b_int (by decide +kernel) (pa_cons (pe_op op_add (pe_op op_mul (pe_dget hu (pv 0) pe_str (fun _ _ => rfl)) pe_int) (pv 2)) pa_nil)) pe_int) rfl)))))) pss_nil)
      (pss_cons (ps_if (pt_cmpR op_gt (pe_dget hu (pv 0) pe_str (fun _ _ => rfl)) pe_int (nomark _)) (pss_cons (ps_set (i := 3) sc_l_draw.nd rfl (Or.inl rfl) (pe_op op_mod (pe_callTy call_int1 (by rfl) T.b_int (by decide +kernel) (pa_cons (pe_dget hu (pv 0) pe_str (fun _ _ => rfl)) pa_nil)) (pv 1)))
      (pss_cons (ps_dput hu (pv 0) pe_str (pe_op op_fdivW (pe_dget hu (pv 0) pe_str (fun _ _ => rfl)) (pv 1)) rfl)
      (pss_one (ps_ret (pv 3))))) pss_nil)
      (pss_cons (ps_set (i := 4) sc_l_draw.nd rfl (Or.inl rfl) (pe_op op_add (pe_op op_add (pe_dget hu (pv 0) pe_str (fun _ _ => rfl)) (pe_op op_mul (pe_dget hu (pv 0) pe_str (fun _ _ => rfl)) pe_int)) pe_int))
      (pss_cons (ps_set (i := 5) sc_l_draw.nd rfl (Or.inl rfl) (pe_op op_fdiv (pe_callTy call_int1 (by rfl) T.b_int (by decide +kernel) (pa_cons (pe_op op_mod (pe_op op_pow (pv 4) pe_int) pe_int) pa_nil)) pe_int))
      (pss_one (ps_ret (pe_ifExp (pt_cmpR op_lt (pv 1) (pe_op op_pow pe_int pe_int) (nomark _)) (pe_op op_mod (pv 5) (pv 1)) (pe_op op_mod (pe_callTy call_int1 (by rfl) T.b_int (by decide +kernel) (pa_cons (pe_op op_pow (pv 5) pe_int) pa_nil)) (pv 1))))))))))), ?_⟩)
  · obtain ⟨d, c, n, sp, rfl, _⟩ := h
    rfl
  obtain ⟨d, c, n, lim, rfl, ⟨cs, at0, dg0, cnt0, fo0, hd, hc, a1, a2, a3, a4, a5, a6⟩, hn, l0, l1, hq⟩ := h
  have hcd : c ≠ d := fun z => by subst z; rw [hd] at hc; cases hc
  refine ⟨_, rfl, d, _, rfl, g_count hd, _, _, rfl, rfl, _, rfl, d, _, rfl, p_count _ hd, ?_⟩
  have S1 : SameX d H (upd H d (bagD c at0 dg0 (cnt0 + 1) fo0)) := SameX.put
  have hd1 : upd H d (bagD c at0 dg0 (cnt0 + 1) fo0) d = some (bagD c at0 dg0 (cnt0 + 1) fo0) := upd_same
  have hc1 : upd H d (bagD c at0 dg0 (cnt0 + 1) fo0) c = some (.lst (cs.map V.int)) := by rw [upd_ne hcd]; exact hc
  generalize upd H d (bagD c at0 dg0 (cnt0 + 1) fo0) = H1 at *
  refine ⟨_, rfl, d, _, rfl, g_dig hd1, rfl, _, rfl, ?_⟩
  refine iteB (fun g0 => ?_) (fun _ => iteF ?_)
  · refine ⟨_, rfl, d, _, rfl, g_at hd1, _, rfl, d, _, rfl, g_cells hd1, c, _, rfl, .inl (SqL.of hc1), _, _, rfl, rfl, _, rfl, ?_⟩
    refine iteB (fun g1 => ?_) (fun _ => ?_)
    · have g1' : at0 < (cs.map V.int).length := of_decide_eq_true g1
      rw [List.length_map] at g1'
      have hj : at0.toNat < cs.length := by omega
      have ej : at0 = ((at0.toNat : Nat) : Int) := by omega
      have q := atI_nat (xs := cs.map V.int) (j := at0.toNat) (v := .int cs[at0.toNat]) (by simp [hj])
      rw [← ej] at q
      refine ⟨_, rfl, d, _, rfl, g_cells hd1, _, rfl, d, _, rfl, g_at hd1, c, _, _, _, rfl, rfl, SqL.of hc1, q, ?_⟩
      clear q
      generalize cs[at0.toNat] = cell
      refine ⟨_, rfl, d, _, rfl, g_at hd1, _, _, rfl, rfl, _, rfl, d, _, rfl, p_at _ hd1, ?_⟩
      have S2 : SameX d H (upd H1 d (bagD c (at0 + 1) dg0 (cnt0 + 1) fo0)) := S1.trans SameX.put
      have hd2 : upd H1 d (bagD c (at0 + 1) dg0 (cnt0 + 1) fo0) d = some (bagD c (at0 + 1) dg0 (cnt0 + 1) fo0) := upd_same
      have hc2 : upd H1 d (bagD c (at0 + 1) dg0 (cnt0 + 1) fo0) c = some (.lst (cs.map V.int)) := by rw [upd_ne hcd]; exact hc1
      generalize upd H1 d (bagD c (at0 + 1) dg0 (cnt0 + 1) fo0) = H2 at *
      refine ⟨_, rfl, _, _, rfl, rfl, ⟨by decide, by decide, by decide⟩, _, _, rfl, rfl, _, rfl, ?_⟩
      refine iteB (fun g2 => ?_) (fun _ => ?_)
      · refine ⟨_, rfl, _, _, rfl, rfl, ⟨by decide, by decide, by decide⟩, _, _, rfl, rfl, _, rfl, d, _, rfl, p_dig _ hd2, ?_⟩
        have b2 : 0 ≤ cell - 10 ^ (18 : Int).toNat := Int.sub_nonneg_of_le (of_decide_eq_true g2)
        have b1 : 0 ≤ at0 + 1 := by omega
        have b3 : 0 ≤ cnt0 + 1 := by omega
        have b4 : cnt0 + 1 ≤ ((n + 1 : Nat) : Int) := by omega
        have b5 := a5
        have b6 := a6
        have S9 : SameX d H (upd H2 d (bagD c (at0 + 1) (cell - 10 ^ (18 : Int).toNat) (cnt0 + 1) fo0)) := S2.trans SameX.put
        have hd9 : upd H2 d (bagD c (at0 + 1) (cell - 10 ^ (18 : Int).toNat) (cnt0 + 1) fo0) d = some (bagD c (at0 + 1) (cell - 10 ^ (18 : Int).toNat) (cnt0 + 1) fo0) := upd_same
        have hc9 : upd H2 d (bagD c (at0 + 1) (cell - 10 ^ (18 : Int).toNat) (cnt0 + 1) fo0) c = some (.lst (cs.map V.int)) := by rw [upd_ne hcd]; exact hc2
        dsimp only
        generalize upd H2 d (bagD c (at0 + 1) (cell - 10 ^ (18 : Int).toNat) (cnt0 + 1) fo0) = H9 at *
        generalize cell - 10 ^ (18 : Int).toNat = dg9 at *
        generalize at0 + 1 = at9 at *
        generalize cnt0 + 1 = cnt9 at *
        generalize fo0 = fo9 at *
        refine ⟨_, rfl, d, _, rfl, g_dig hd9, _, _, rfl, rfl, _, rfl, ?_⟩
        refine iteB (fun g => ?_) (fun g => ?_)
        · refine ⟨_, rfl, d, _, rfl, g_dig hd9, .inl ⟨_, rfl, _, rfl, _, _, rfl, rfl, l0, ?_⟩⟩
          refine ⟨_, rfl, d, _, rfl, g_dig hd9, _, rfl, _, _, rfl, rfl, wide_div (b := 60) l0 (by omega) (by decide) (by decide), _, rfl, d, _, rfl, p_dig _ hd9, _, rfl, ?_⟩
          exact hq _ _ (Int.emod_nonneg _ (by omega)) (Int.emod_lt_of_pos _ l0) (S9.trans SameX.put) ⟨cs, at9, dg9 / lim, cnt9, fo9, upd_same, (by rw [upd_ne hcd]; exact hc9), b1, Int.ediv_nonneg b2 (by omega), b3, b4, b5, b6⟩
        · refine ⟨_, rfl, d, _, rfl, g_fold hd9, _, rfl, d, _, rfl, g_count hd9, _, _, rfl, rfl, .inl ⟨by omega, by omega⟩, _, _, rfl, rfl, _, _, rfl, rfl, ?_⟩
          refine ⟨_, rfl, _, _, rfl, rfl, ⟨by decide, by decide, by show (fo9 + cnt9 * 7933 + 61).natAbs < 2 ^ 64; omega⟩, _, _, rfl, rfl, (by decide : (0 : Int) < 2305843009213693951), .inl ⟨_, rfl, _, _, rfl, rfl, ⟨by decide, by decide⟩, ?_⟩⟩
          have f0 := Int.emod_nonneg ((fo9 + cnt9 * 7933 + 61) ^ (17 : Int).toNat) (b := 2305843009213693951) (by decide)
          have f1 := Int.emod_lt_of_pos ((fo9 + cnt9 * 7933 + 61) ^ (17 : Int).toNat) (b := 2305843009213693951) (by decide)
          dsimp only
          generalize (fo9 + cnt9 * 7933 + 61) ^ (17 : Int).toNat % 2305843009213693951 = m9 at *
          refine ⟨_, rfl, _, _, rfl, rfl, ⟨by decide, by decide, by decide⟩, _, _, rfl, rfl, _, rfl, ?_⟩
          refine iteB (fun g => ?_) (fun g => ?_)
          · exact ⟨_, rfl, _, rfl, _, _, rfl, rfl, l0, hq _ _ (Int.emod_nonneg _ (by omega)) (Int.emod_lt_of_pos _ l0) S9 ⟨cs, at9, dg9, cnt9, fo9, hd9, hc9, b1, b2, b3, b4, b5, b6⟩⟩
          · exact ⟨_, rfl, _, _, rfl, rfl, ⟨by decide, by decide, by show (m9 / 128).natAbs < 2 ^ 64; omega⟩, .inl ⟨_, rfl, _, rfl, _, _, rfl, rfl, l0, hq _ _ (Int.emod_nonneg _ (by omega)) (Int.emod_lt_of_pos _ l0) S9 ⟨cs, at9, dg9, cnt9, fo9, hd9, hc9, b1, b2, b3, b4, b5, b6⟩⟩⟩
      · refine ⟨_, rfl, d, _, rfl, g_fold hd2, _, _, rfl, rfl, .inl ⟨by omega, by omega⟩, _, rfl, _, _, rfl, rfl, .inl ⟨_, rfl, _, _, rfl, rfl, (by decide : (0 : Int) < 2147483587), _, rfl, d, _, rfl, p_fold _ hd2, ?_⟩⟩
        have b5 := Int.emod_nonneg (fo0 * 69069 + cell) (b := 2147483587) (by decide)
        have b6' := Int.emod_lt_of_pos (fo0 * 69069 + cell) (b := 2147483587) (by decide)
        have b2 := a2
        have b1 : 0 ≤ at0 + 1 := by omega
        have b3 : 0 ≤ cnt0 + 1 := by omega
        have b4 : cnt0 + 1 ≤ ((n + 1 : Nat) : Int) := by omega
        have S9 : SameX d H (upd H2 d (bagD c (at0 + 1) dg0 (cnt0 + 1) ((fo0 * 69069 + cell) % 2147483587))) := S2.trans SameX.put
        have hd9 : upd H2 d (bagD c (at0 + 1) dg0 (cnt0 + 1) ((fo0 * 69069 + cell) % 2147483587)) d = some (bagD c (at0 + 1) dg0 (cnt0 + 1) ((fo0 * 69069 + cell) % 2147483587)) := upd_same
        have hc9 : upd H2 d (bagD c (at0 + 1) dg0 (cnt0 + 1) ((fo0 * 69069 + cell) % 2147483587)) c = some (.lst (cs.map V.int)) := by rw [upd_ne hcd]; exact hc2
        dsimp only
        generalize upd H2 d (bagD c (at0 + 1) dg0 (cnt0 + 1) ((fo0 * 69069 + cell) % 2147483587)) = H9 at *
        generalize (fo0 * 69069 + cell) % 2147483587 = fo9 at *
        have b6 : fo9 < 2147483648 := by omega
        generalize dg0 = dg9 at *
        generalize at0 + 1 = at9 at *
        generalize cnt0 + 1 = cnt9 at *
        refine ⟨_, rfl, d, _, rfl, g_dig hd9, _, _, rfl, rfl, _, rfl, ?_⟩
        refine iteB (fun g => ?_) (fun g => ?_)
        · refine ⟨_, rfl, d, _, rfl, g_dig hd9, .inl ⟨_, rfl, _, rfl, _, _, rfl, rfl, l0, ?_⟩⟩
          refine ⟨_, rfl, d, _, rfl, g_dig hd9, _, rfl, _, _, rfl, rfl, wide_div (b := 60) l0 (by omega) (by decide) (by decide), _, rfl, d, _, rfl, p_dig _ hd9, _, rfl, ?_⟩
          exact hq _ _ (Int.emod_nonneg _ (by omega)) (Int.emod_lt_of_pos _ l0) (S9.trans SameX.put) ⟨cs, at9, dg9 / lim, cnt9, fo9, upd_same, (by rw [upd_ne hcd]; exact hc9), b1, Int.ediv_nonneg b2 (by omega), b3, b4, b5, b6⟩
        · refine ⟨_, rfl, d, _, rfl, g_fold hd9, _, rfl, d, _, rfl, g_count hd9, _, _, rfl, rfl, .inl ⟨by omega, by omega⟩, _, _, rfl, rfl, _, _, rfl, rfl, ?_⟩
          refine ⟨_, rfl, _, _, rfl, rfl, ⟨by decide, by decide, by show (fo9 + cnt9 * 7933 + 61).natAbs < 2 ^ 64; omega⟩, _, _, rfl, rfl, (by decide : (0 : Int) < 2305843009213693951), .inl ⟨_, rfl, _, _, rfl, rfl, ⟨by decide, by decide⟩, ?_⟩⟩
          have f0 := Int.emod_nonneg ((fo9 + cnt9 * 7933 + 61) ^ (17 : Int).toNat) (b := 2305843009213693951) (by decide)
          have f1 := Int.emod_lt_of_pos ((fo9 + cnt9 * 7933 + 61) ^ (17 : Int).toNat) (b := 2305843009213693951) (by decide)
          dsimp only
          generalize (fo9 + cnt9 * 7933 + 61) ^ (17 : Int).toNat % 2305843009213693951 = m9 at *
          refine ⟨_, rfl, _, _, rfl, rfl, ⟨by decide, by decide, by decide⟩, _, _, rfl, rfl, _, rfl, ?_⟩
          refine iteB (fun g => ?_) (fun g => ?_)
          · exact ⟨_, rfl, _, rfl, _, _, rfl, rfl, l0, hq _ _ (Int.emod_nonneg _ (by omega)) (Int.emod_lt_of_pos _ l0) S9 ⟨cs, at9, dg9, cnt9, fo9, hd9, hc9, b1, b2, b3, b4, b5, b6⟩⟩
          · exact ⟨_, rfl, _, _, rfl, rfl, ⟨by decide, by decide, by show (m9 / 128).natAbs < 2 ^ 64; omega⟩, .inl ⟨_, rfl, _, rfl, _, _, rfl, rfl, l0, hq _ _ (Int.emod_nonneg _ (by omega)) (Int.emod_lt_of_pos _ l0) S9 ⟨cs, at9, dg9, cnt9, fo9, hd9, hc9, b1, b2, b3, b4, b5, b6⟩⟩⟩
    · have b1 := a1
      have b2 := a2
      have b3 : 0 ≤ cnt0 + 1 := by omega
      have b4 : cnt0 + 1 ≤ ((n + 1 : Nat) : Int) := by omega
      have b5 := a5
      have b6 := a6
      have S9 := S1
      have hd9 := hd1
      have hc9 := hc1
      generalize H1 = H9 at *
      generalize fo0 = fo9 at *
      generalize dg0 = dg9 at *
      generalize at0 = at9 at *
      generalize cnt0 + 1 = cnt9 at *
      refine ⟨_, rfl, d, _, rfl, g_dig hd9, _, _, rfl, rfl, _, rfl, ?_⟩
      refine iteB (fun g => ?_) (fun g => ?_)
      · refine ⟨_, rfl, d, _, rfl, g_dig hd9, .inl ⟨_, rfl, _, rfl, _, _, rfl, rfl, l0, ?_⟩⟩
        refine ⟨_, rfl, d, _, rfl, g_dig hd9, _, rfl, _, _, rfl, rfl, wide_div (b := 60) l0 (by omega) (by decide) (by decide), _, rfl, d, _, rfl, p_dig _ hd9, _, rfl, ?_⟩
        exact hq _ _ (Int.emod_nonneg _ (by omega)) (Int.emod_lt_of_pos _ l0) (S9.trans SameX.put) ⟨cs, at9, dg9 / lim, cnt9, fo9, upd_same, (by rw [upd_ne hcd]; exact hc9), b1, Int.ediv_nonneg b2 (by omega), b3, b4, b5, b6⟩
      · refine ⟨_, rfl, d, _, rfl, g_fold hd9, _, rfl, d, _, rfl, g_count hd9, _, _, rfl, rfl, .inl ⟨by omega, by omega⟩, _, _, rfl, rfl, _, _, rfl, rfl, ?_⟩
        refine ⟨_, rfl, _, _, rfl, rfl, ⟨by decide, by decide, by show (fo9 + cnt9 * 7933 + 61).natAbs < 2 ^ 64; omega⟩, _, _, rfl, rfl, (by decide : (0 : Int) < 2305843009213693951), .inl ⟨_, rfl, _, _, rfl, rfl, ⟨by decide, by decide⟩, ?_⟩⟩
        have f0 := Int.emod_nonneg ((fo9 + cnt9 * 7933 + 61) ^ (17 : Int).toNat) (b := 2305843009213693951) (by decide)
        have f1 := Int.emod_lt_of_pos ((fo9 + cnt9 * 7933 + 61) ^ (17 : Int).toNat) (b := 2305843009213693951) (by decide)
        dsimp only
        generalize (fo9 + cnt9 * 7933 + 61) ^ (17 : Int).toNat % 2305843009213693951 = m9 at *
        refine ⟨_, rfl, _, _, rfl, rfl, ⟨by decide, by decide, by decide⟩, _, _, rfl, rfl, _, rfl, ?_⟩
        refine iteB (fun g => ?_) (fun g => ?_)
        · exact ⟨_, rfl, _, rfl, _, _, rfl, rfl, l0, hq _ _ (Int.emod_nonneg _ (by omega)) (Int.emod_lt_of_pos _ l0) S9 ⟨cs, at9, dg9, cnt9, fo9, hd9, hc9, b1, b2, b3, b4, b5, b6⟩⟩
        · exact ⟨_, rfl, _, _, rfl, rfl, ⟨by decide, by decide, by show (m9 / 128).natAbs < 2 ^ 64; omega⟩, .inl ⟨_, rfl, _, rfl, _, _, rfl, rfl, l0, hq _ _ (Int.emod_nonneg _ (by omega)) (Int.emod_lt_of_pos _ l0) S9 ⟨cs, at9, dg9, cnt9, fo9, hd9, hc9, b1, b2, b3, b4, b5, b6⟩⟩⟩
  · have b1 := a1
    have b2 := a2
    have b3 : 0 ≤ cnt0 + 1 := by omega
    have b4 : cnt0 + 1 ≤ ((n + 1 : Nat) : Int) := by omega
    have b5 := a5
    have b6 := a6
    have S9 := S1
    have hd9 := hd1
    have hc9 := hc1
    generalize H1 = H9 at *
    generalize fo0 = fo9 at *
    generalize dg0 = dg9 at *
    generalize at0 = at9 at *
    generalize cnt0 + 1 = cnt9 at *
    refine ⟨_, rfl, d, _, rfl, g_dig hd9, _, _, rfl, rfl, _, rfl, ?_⟩
    refine iteB (fun g => ?_) (fun g => ?_)
    · refine ⟨_, rfl, d, _, rfl, g_dig hd9, .inl ⟨_, rfl, _, rfl, _, _, rfl, rfl, l0, ?_⟩⟩
      refine ⟨_, rfl, d, _, rfl, g_dig hd9, _, rfl, _, _, rfl, rfl, wide_div (b := 60) l0 (by omega) (by decide) (by decide), _, rfl, d, _, rfl, p_dig _ hd9, _, rfl, ?_⟩
      exact hq _ _ (Int.emod_nonneg _ (by omega)) (Int.emod_lt_of_pos _ l0) (S9.trans SameX.put) ⟨cs, at9, dg9 / lim, cnt9, fo9, upd_same, (by rw [upd_ne hcd]; exact hc9), b1, Int.ediv_nonneg b2 (by omega), b3, b4, b5, b6⟩
    · refine ⟨_, rfl, d, _, rfl, g_fold hd9, _, rfl, d, _, rfl, g_count hd9, _, _, rfl, rfl, .inl ⟨by omega, by omega⟩, _, _, rfl, rfl, _, _, rfl, rfl, ?_⟩
      refine ⟨_, rfl, _, _, rfl, rfl, ⟨by decide, by decide, by show (fo9 + cnt9 * 7933 + 61).natAbs < 2 ^ 64; omega⟩, _, _, rfl, rfl, (by decide : (0 : Int) < 2305843009213693951), .inl ⟨_, rfl, _, _, rfl, rfl, ⟨by decide, by decide⟩, ?_⟩⟩
      have f0 := Int.emod_nonneg ((fo9 + cnt9 * 7933 + 61) ^ (17 : Int).toNat) (b := 2305843009213693951) (by decide)
      have f1 := Int.emod_lt_of_pos ((fo9 + cnt9 * 7933 + 61) ^ (17 : Int).toNat) (b := 2305843009213693951) (by decide)
      dsimp only
      generalize (fo9 + cnt9 * 7933 + 61) ^ (17 : Int).toNat % 2305843009213693951 = m9 at *
      refine ⟨_, rfl, _, _, rfl, rfl, ⟨by decide, by decide, by decide⟩, _, _, rfl, rfl, _, rfl, ?_⟩
      refine iteB (fun g => ?_) (fun g => ?_)
      · exact ⟨_, rfl, _, rfl, _, _, rfl, rfl, l0, hq _ _ (Int.emod_nonneg _ (by omega)) (Int.emod_lt_of_pos _ l0) S9 ⟨cs, at9, dg9, cnt9, fo9, hd9, hc9, b1, b2, b3, b4, b5, b6⟩⟩
      · exact ⟨_, rfl, _, _, rfl, rfl, ⟨by decide, by decide, by show (m9 / 128).natAbs < 2 ^ 64; omega⟩, .inl ⟨_, rfl, _, rfl, _, _, rfl, rfl, l0, hq _ _ (Int.emod_nonneg _ (by omega)) (Int.emod_lt_of_pos _ l0) S9 ⟨cs, at9, dg9, cnt9, fo9, hd9, hc9, b1, b2, b3, b4, b5, b6⟩⟩⟩
end
end K03


set_option Elab.async false
set_option linter.all false
set_option maxRecDepth 100000
set_option maxHeartbeats 4000000
/-! a class called in a try's body: what leaves it may hang on the slots -/
namespace L2
open PySem PySem.Spec PyProof.Rows
section
variable {X : Cx} {CX : CXT} {k : Nat} {C : Addr} {ps : List Str} {sp : Sp} {E : St → XK} {x : Str}
def tMakeS (C : Addr) (sp : Sp) (E : St → XK) (t : TA) : TE := fun σ H Q => t σ H fun vs H1 => ∀ x dx, H1 x = none → H1 dx = none → dx ≠ x → sp (V.ref x :: vs) (upd (upd H1 dx (.own x)) x (.ins C dx [])) (fun v H2 => v = .non ∧ Q (.ref x) H2) (E σ)
theorem pe_makeXS {p pos : Pos} {e : Expr} {es : List Expr} {t : TA} (F : MkX X.prog X.w X.K X.mg X.base CX k x C ps [] sp) (hr : Room (k + 1) X.A) (hx : ∀ z, PassesAt CX X z (E z)) (ha : PA X (e :: es) t) (hg : Gl X x := by rfl) (hdb : (x == ("__debug__" : Str)) = false := by decide)
    (he : starEach (e :: es) X.env = (false, eval e X.env) :: starEach es X.env := by rfl) (hpl : (backTo pos (starEach es X.env)).any (·.1) = false := by rfl) : PE X (.Call (.Name x p) (e :: es) [] pos) (tMakeS C sp E t) := by
  obtain ⟨f, fd, dvs, hm, M, b, vd, G⟩ := F.ex
  cases vd
  refine ⟨fun pins s z H Q I h => wpAny_Call_Name_kw (ld_glob I hg hm ?_ hdb)⟩
  refine PySem.W.callWith_K (h₀ := X.base) I.ok.mod.kin M.kp (thn (ha.run pos pins s z H _ I h) fun us s1 hh => ?_) he hpl
  obtain ⟨vs, H1, I1, r, q⟩ := hh
  refine ⟨I1.kIn, ?_⟩
  have q2 := q (s1.heap.objs.size + 1) s1.heap.objs.size (I1.hok.fresh (Nat.le_succ _)) (I1.hok.fresh (Nat.le_refl _)) (Nat.ne_of_lt (Nat.lt_succ_self _))
  have J := Inv.made (C := C) I1
  have r2 : Vals (V.ref (s1.heap.objs.size + 1) :: vs) (Value.ref (s1.heap.objs.size + 1) :: us) := .cons rfl r
  have hl : (Value.ref (s1.heap.objs.size + 1) :: us).length = ps.length := by
    have e1 := r2.length
    rw [G.len _ _ _ _ q2] at e1
    exact e1.symm
  have b2 := b _ (Value.ref (s1.heap.objs.size + 1) :: us) J.kIn (by rw [List.append_nil]; exact hl)
  rw [List.append_nil] at b2
  refine wpAny_call (make_map (f := f) I1.kIn M.makes M.init (beq_iff_eq.mp M.fn) (codeAny_mono (G.run _ X.stack _ _ ⟨Value.ref (s1.heap.objs.size + 1) :: us, []⟩ (Value.ref (s1.heap.objs.size + 1) :: us) _ _ (E z) (hr.make C us []) (J.env0.make C us []) b2 r2 q2) fun r9 s9 h9 => ?_))
  cases r9 with
  | error e9 => exact hx z pins _ _ e9 s9 J h9
  | ok fl =>
    cases fl with
    | ret u =>
      obtain ⟨v, H', I3, rv, ev, q3⟩ := J.after h9
      subst ev
      exact ⟨rv, V.ref (s1.heap.objs.size + 1), H', I3, rfl, q3⟩
    | next => exact False.elim h9
    | brk => exact False.elim h9
    | cont => exact False.elim h9
end
end L2


set_option Elab.async false
set_option linter.all false
set_option maxRecDepth 100000
set_option maxHeartbeats 4000000
/-! attributes as targets; dicts with None among what is asked; sorted of (int, text); rules with a token out -/
namespace L2
open PySem PySem.Spec PyProof.Rows
section
variable {X : Cx} {o e f i : Expr} {apos cpos pos : Pos} {td ty tx ta : TE}
/-- e.f as a target -/
def gFld (K : PySem.W.Frag) (ta : TE) (f : Str) : TG := fun v σ H Q => ta σ H fun x H1 => ∃ a C dx fs, x = .ref a ∧ H1 a = some (.ins C dx fs) ∧ Cls K C ∧ NoAttr K C f ∧ fs.length < 1000 ∧ Q σ (upd H1 a (.ins C dx (putF f v fs)))
theorem pg_fld {f : Str} (ho : PE X o ta) : PG X (.Attribute o f pos) (gFld X.K ta f) := by
  refine ⟨fun pins s σ H v u Q I r h => ?_⟩
  rw [assign_Attribute]
  refine wpAny_bind (wpAny_holding (thn (ho.run pins s σ H _ I h) fun ov s1 ⟨x, H1, I1, r1, a, C, dx, fs, ex, ea, c, n, l, q⟩ => ?_))
  subst ex
  obtain rfl : ov = Value.ref a := r1
  refine wpAny_bind (wpAny_standAt (wpAny_bind (wpAny_holding (setattr_ok I1 ea c n l r fun s3 I3 => ?_))))
  exact wpAny_release ⟨σ, _, I3, q⟩
/-- d[k], d.get(k) -/
def tDGetN (P : Program) (w : World) (td ty : TE) : TE := fun z H Q => td z H fun x H1 => ty z H1 fun y H2 => ∃ a kvs k v, x = .ref a ∧ H2 a = some (dN P w a kvs) ∧ y = nV k ∧ valV kvs k = some v ∧ Q v H2
theorem pe_dgetN (hu : X.A.units + 1 < cLine) (ho : PE X o td) (hi : PE X i ty) (hs : NoSl i) : PE X (.Subscript o i pos) (tDGetN X.prog X.w td ty) := by
  refine ⟨fun pins s σ H Q I h => ?_⟩
  refine subD_of PySem.F.slot_dict_getitem.lookup hs (thn (ho.run pins s σ H _ I h) fun u s1 ⟨x, H1, I1, rx, q1⟩ => thn (hi.run pins s1 σ H1 _ I1 q1) fun iv s2 ⟨y, H2, I2, ry, a, kvs, k, v, ex, d, ey, l, q2⟩ => ?_)
  subst ex ey
  obtain rfl : u = Value.ref a := rx
  obtain ⟨_, hd, vs, rel, dd⟩ := dN_at I2.hok d
  obtain ⟨w', hw, rw'⟩ := RelO.some_of (v := v) (o := valueAt vs k) (by rw [← l]; exact rel.val k)
  exact ⟨dd.typeIs, wpAny_getItem_of (nV_is ry) dd.mapOf hw ⟨v, H2, I2.tok _, rw', q2⟩⟩
def tDGet1N (P : Program) (w : World) (td ty : TE) : TE := fun z H Q => td z H fun x H1 => ∃ a kvs, x = .ref a ∧ H1 a = some (dN P w a kvs) ∧ ty z H1 fun y H2 => ∃ kvs' k, H2 a = some (dN P w a kvs') ∧ y = nV k ∧ Q ((valV kvs' k).getD .non) H2
theorem pe_dget1N (ho : PE X o td) (he : PE X e ty) (m : M1 X o "get" apos e cpos) : PE X (.Call (.Attribute o "get" apos) [e] [] cpos) (tDGet1N X.prog X.w td ty) := by
  refine ⟨fun pins s z H Q I h => ?_⟩
  refine wpAny_Call_method m.base m.few m.line PySem.F.plainAttrs_dict PySem.F.slot_dict_get PySem.F.type_dict_get (thn (ho.run pins s z H _ I h) fun u s1 ⟨x, H1, I1, rx, a, kvs, ex, d, q1⟩ => ?_)
  subst ex
  obtain rfl : u = Value.ref a := rx
  obtain ⟨_, hd, vs, rel, dd⟩ := dN_at I1.hok d
  refine ⟨dd.typeIs, fun b q => ?_, ?_⟩
  · cases q
    obtain ⟨ob, _, _, h1, h2, _⟩ := dd
    exact ⟨ob, h1, h2.2.1⟩
  rw [m.trees]
  refine Calls.callWith_builtin rfl (Calls.evalArgs_plain (Calls.spliced_cons (thn (he.run pins s1 z H1 _ I1 q1) fun iv s2 ⟨y, H2, I2, ry, kvs', k, e3, ey, q3⟩ => Calls.spliced_nil ?_)))
  subst ey
  obtain ⟨_, hd', vs', rel', dd'⟩ := dN_at I2.hok e3
  have rn : RelV V.non Value.none := rfl
  exact call_meetsIn PySem.F.slot_dict_get dd'.typeIs PySem.F.entry_dict_get (PySem.F.args_dict_get_2 _ _) (meets_dict_get (noneKind X.prog X.w) a (nV_is ry) hd') ⟨_, dd'.mapOf, ⟨_, H2, I2.tok _, (rel'.val k).getD rn, q3⟩⟩
end
end L2


set_option Elab.async false
set_option linter.all false
set_option maxRecDepth 100000
set_option maxHeartbeats 4000000
/-! rules with a token out -/
namespace L2
open PySem PySem.Spec PyProof.Rows CwR
section
variable {X : Cx} {e : Expr} {te : TE} {pos : Pos}
/-- name = value -/
theorem pst_set {i : Nat} {x : Str} {pos' : Pos} (hN : X.N.Nodup) (hi : X.N[i]? = some x) (hx : Loc X.env.scope x) (he : PET X e te) (hs : swapsWith e (some (.Name x pos')) pos.line X.env = pure false := by rfl) (hf : X.fn x = true ∨ X.env.scope.names.lookup x = some .local := by first | exact .inl rfl | exact .inr rfl) :
    PST X (.Assign [.Name x pos'] e pos) (tAsg te (gName i)) := by
  intro pins s σ H D h0 I h
  refine wpAny_Assign_Name (thn (he pins s σ H _ h0 I h) fun v s1 ⟨y, H1, I1, r1, q1⟩ => ?_) hs
  exact store_ok I1 hN hi hx r1 (fun s2 I2 => ⟨_, H1, I2, q1⟩) hf
/-- name = a text, ahead of the rest: then a token is out -/
theorem pss_strT {i : Nat} {x z : Str} {j : Nat} {pos' cp : Pos} {rest : List Stmt} {u : TS} (hN : X.N.Nodup) (hi : X.N[i]? = some x) (hx : Loc X.env.scope x) (h : PSsT X rest u) (hs : swapsWith (.Constant (.str z) j cp) (some (.Name x pos')) pos.line X.env = pure false := by rfl) (hf : X.fn x = true ∨ X.env.scope.names.lookup x = some .local := by first | exact .inl rfl | exact .inr rfl) :
    PSs X (.Assign [.Name x pos'] (.Constant (.str z) j cp) pos :: rest) (tSeq (tAsg (tC (.str z)) (gName i)) u) := by
  refine ⟨fun pins s σ H D I hq => ?_⟩
  have hq' : tAsg (tC (.str z)) (gName i) { nx := u D, rt := D.rt, bk := D.bk, ct := D.ct } σ H := hq
  refine wpAny_execs_cons ?_
  refine wpAny_Assign_Name (Calls.Constant_str ?_) hs
  refine wpAny_mono (PySem.wpAny_toks_of (n := 1) (by show 1 ≤ s.toks + 1; omega) (store_ok (v := V.str z) (Q := fun _ s2 => Inv X pins (σ.set i (some (V.str z))) H s2) (I.tok _) hN hi hx ⟨_, rfl⟩ (fun s2 I2 => I2) hf)) (fun _ s2 q => ?_) fun _ _ z => z.2
  exact h pins s2 _ H D q.1 q.2 hq'
theorem pet_tup {es : List Expr} {ta : TA} {x1} (h : PAT X es ta) : PET X (.Tuple es x1 pos) (tTup ta) := by
  intro pins s σ H Q h0 I hq
  refine wpAny_Tuple_spliced (thn (h pos pins s σ H _ h0 I hq) fun us s1 ⟨xs, H1, I1, r, z, q⟩ => ⟨by rw [← r.length]; exact z, ?_⟩)
  have hf : H1 s1.heap.objs.size = none := I1.hok.fresh (Nat.le_refl _)
  refine ⟨.ref s1.heap.objs.size, upd H1 s1.heap.objs.size (.tup xs), I1.laid (t' := s1.toks) (fun b u e => Heap.get?_push_of_some _ e) (Nat.le_refl _) ?_, rfl, q _ hf⟩
  exact ⟨z, us, r, ⟨_, Heap.get?_push_size _ rfl, rfl, _, rfl⟩⟩
theorem pst_expr (he : PET X e te) (hs : swapsWith e none pos.line X.env = pure false := by rfl) : PST X (.Expr e pos) (tDrop te) := by
  intro pins s σ H D h0 I h
  exact wpAny_Expr_any (thn (he pins s σ H _ h0 I h) fun v s1 ⟨x, H1, I1, r1, q1⟩ => ⟨σ, H1, I1, q1⟩) I.quiet hs
theorem pet_bm {T name id : String} {r : V → List V → Hp → VK → Prop} {o e : Expr} {es : List Expr} {to : TE} {t : TA} {apos cpos : Pos} (pa : PlainAttrs T) (slot : Slot T name id) (hty : typeOf (.builtin id) = pure (.type "method_descriptor")) (hm : MtR X id r) (ho : PE X o to) (ha : PAT X (e :: es) t)
    (hbase : attributeBase o name X.env (eval o X.env) = eval o X.env := by rfl)
    (hfew : ((backTo cpos (starEach (e :: es) X.env)).all (fun x => !x.1) && (backToKw cpos (keywordEach [] X.env)).all (fun x => x.1.isSome)
      && decide ((e :: es).length + ([] : List Keyword).length + (if ([] : List Keyword).isEmpty then 0 else 1) < 30)) = true := by rfl)
    (hline : (apos.endLine == cpos.line) = true := by rfl) (hs : starEach (e :: es) X.env = (false, eval e X.env) :: starEach es X.env := by rfl) (hplain : (backTo cpos (starEach es X.env)).any (·.1) = false := by rfl) :
    PET X (.Call (.Attribute o name apos) (e :: es) [] cpos) (tBM X.K T r to t) := by
  intro pins s σ H Q h0 I h
  refine wpAny_Call_method_late hbase hfew hline rfl (wpAny_mono (PySem.wpAny_toks_of h0 (ho.run pins s σ H _ I h)) (fun v s1 ⟨h1, x, H1, I1, r1, ty, q1⟩ => ?_) fun _ _ z => z.2)
  obtain ⟨h3, h2⟩ := tyV_is I1 r1 ty
  refine ⟨T, id, pa, slot, hty, h3, h2, ?_⟩
  have hA := ha cpos pins s1 σ H1 _ h1 I1 q1
  rw [hs] at hA ⊢
  refine Calls.callWith_builtin (by show (false || (backTo cpos (starEach es X.env)).any (·.1)) = false; rw [hplain] <;> rfl) (Calls.evalArgs_plain ?_)
  exact thn hA fun us s2 ⟨vs, H2, I2, r2, q2⟩ => hm pins s2 σ H2 x vs v us Q I2 r1 r2 q2
end
section
variable {X : Cx} {CX : CXT} {k : Nat} {C : Addr} {ps : List Str} {sp : Sp} {E : XK} {x : Str}
/-- C(e, ..), a token out -/
theorem pet_makeX {p pos : Pos} {e : Expr} {es : List Expr} {t : TA} (F : MkX X.prog X.w X.K X.mg X.base CX k x C ps [] sp) (hr : Room (k + 1) X.A) (hx : Passes CX X E) (ha : PAT X (e :: es) t) (hg : Gl X x := by rfl) (hdb : (x == ("__debug__" : Str)) = false := by decide)
    (he : starEach (e :: es) X.env = (false, eval e X.env) :: starEach es X.env := by rfl) (hpl : (backTo pos (starEach es X.env)).any (·.1) = false := by rfl) : PET X (.Call (.Name x p) (e :: es) [] pos) (tMake C sp [] E t) := by
  obtain ⟨f, fd, dvs, hm, M, b, vd, G⟩ := F.ex
  cases vd
  intro pins s z H Q h0 I h
  refine wpAny_Call_Name_kw (ld_glob I hg hm ?_ hdb)
  refine PySem.W.callWith_K (h₀ := X.base) I.ok.mod.kin M.kp (thn (ha pos pins s z H _ h0 I h) fun us s1 hh => ?_) he hpl
  obtain ⟨vs, H1, I1, r, q⟩ := hh
  refine ⟨I1.kIn, ?_⟩
  have q2 := q (s1.heap.objs.size + 1) s1.heap.objs.size (I1.hok.fresh (Nat.le_succ _)) (I1.hok.fresh (Nat.le_refl _)) (Nat.ne_of_lt (Nat.lt_succ_self _))
  have J := Inv.made (C := C) I1
  have r2 : Vals (V.ref (s1.heap.objs.size + 1) :: vs) (Value.ref (s1.heap.objs.size + 1) :: us) := .cons rfl r
  have q3 := q2
  rw [List.append_nil] at q3
  have hl : (Value.ref (s1.heap.objs.size + 1) :: us).length = ps.length := by
    have e1 := r2.length
    rw [G.len _ _ _ _ q3] at e1
    exact e1.symm
  have b2 := b _ (Value.ref (s1.heap.objs.size + 1) :: us) J.kIn (by rw [List.append_nil]; exact hl)
  rw [List.append_nil] at b2
  refine wpAny_call (make_map (f := f) I1.kIn M.makes M.init (beq_iff_eq.mp M.fn) (codeAny_mono (G.run _ X.stack _ _ ⟨Value.ref (s1.heap.objs.size + 1) :: us, []⟩ (Value.ref (s1.heap.objs.size + 1) :: us) _ _ E (hr.make C us []) (J.env0.make C us []) b2 r2 q3) fun r9 s9 h9 => ?_))
  cases r9 with
  | error e9 => exact hx pins _ _ _ e9 s9 J h9
  | ok fl =>
    cases fl with
    | ret u =>
      obtain ⟨v, H', I3, rv, ev, q3⟩ := J.after h9
      subst ev
      exact ⟨rv, V.ref (s1.heap.objs.size + 1), H', I3, rfl, q3⟩
    | next => exact False.elim h9
    | brk => exact False.elim h9
    | cont => exact False.elim h9
end
section
variable {X : Cx} {tg iter : Expr} {body : List Stmt} {wi : TI} {g : TG} {tb : TS} {pos : Pos}
/-- an iterable that leaves a token out -/
def PI1 (X : Cx) (tg iter : Expr) (wi : TI) : Prop := ∀ (pins : List (Addr × Obj)) (s : Shared) (σ : St) (H : Hp) (R : It → Hp → Prop), Inv X pins σ H s → wi σ H R →
    wpAny (model X.prog X.w) X.A (eval iter X.env) (fun v s1 => 1 ≤ s1.toks ∧ wpAny (model X.prog X.w) X.A (pyIter v) (PIE X pins σ tg R) X.xe s1) X.xe s
theorem pi1_range {n : Int} {j : Nat} {cp p pos : Pos} (hg : Gl X "range") (hm : X.mg "range" = none) (hs : starEach [.Constant (.int n) j cp] X.env = [(false, eval (.Constant (.int n) j cp) X.env)] := by rfl) : PI1 X tg (.Call (.Name "range" p) [.Constant (.int n) j cp] [] pos) (iRng1 (tCons (tC (.int n)) tNil)) := by
  intro pins s σ H R I h
  obtain ⟨m, e, q1, q2, q⟩ := h
  cases e
  refine Call_ (ld_blt I hg hm boot_range (PyProof.Rows.callWith_type1 ?_ hs rfl))
  rw [hs]
  refine Calls.spliced_cons (wpAny_Constant_int (k := j) (pos := cp) (Calls.spliced_nil ?_))
  exact wpAny_mono (PySem.wpAny_toks_of (n := 1) (s := { s with toks := s.toks + 1 }) (by show 1 ≤ s.toks + 1; omega) (call_range_1 (range_it (I.tok _) (by omega) (by omega) q1 q2 (by simpa using q)))) (fun _ _ q => q) fun _ _ z => z.2
/-- for, a token out in the body -/
theorem forT_core {pins : List (Addr × Obj)} {s : Shared} {σ : St} {D : Ends} (hp : PassesOwn (model X.prog X.w) X.A X.env X.xe) (hc : X.calm = true) (hg : PG X tg g) (hb : PSsT X body tb) (hs : ∀ x, foldedSetIterable iter X.env x = pure x)
    (hi : wpAny (model X.prog X.w) X.A (eval iter X.env) (fun v s1 => 1 ≤ s1.toks ∧ wpAny (model X.prog X.w) X.A (pyIter v) (PIE X pins σ tg fun J H1 => ∃ W : Nat → Nat → St → Hp → Prop, (∃ m, W 0 m σ H1) ∧ ∀ i m σ H, W i m σ H → (J.stop i H ∧ D.nx σ H) ∨ (J.go i H ∧ ∃ N : St → Hp → Prop, (∀ σ' H', N σ' H' → ∃ m', m' < m ∧ W (i + 1) m' σ' H') ∧ ∀ x H', J.yld i H x H' → g x σ H' fun σ2 H2 => tb { nx := N, rt := D.rt, bk := D.nx, ct := N } σ2 H2)) X.xe s1) X.xe s) :
    wpAny (model X.prog X.w) X.A (exec (.For tg iter body [] pos) X.env) (fun f s' => SP X pins D f s') X.xe s := by
  refine wpAny_For (thn hi fun v s1 h1 => wpAny_mono (PySem.wpAny_toks_of h1.1 h1.2) (fun itv s2 h2 => ?_) fun _ _ z => z.2) hs
  obtain ⟨t2, it, fp, tn, J, H2, e, I2, T, st2, f2, W, ⟨m0, w0⟩, turn⟩ := h2
  subst e
  have stat : ∀ {H' : Hp}, (∀ b ∈ fp, H' b = none) → ∀ b ∈ fp, FpOk X pins H' b := fun hn b hb => ⟨hn b hb, (f2 b hb).2⟩
  refine codeAny_forLoop_any (fun n s' => 1 ≤ s'.toks ∧ ∃ i σ' H', Inv X pins σ' H' s' ∧ tn i s'.heap ∧ (∀ b ∈ fp, H' b = none) ∧ W i n σ' H') ?_ m0 ⟨t2, 0, σ, H2, I2, st2, fun b hb => (f2 b hb).1, w0⟩
  rintro n s3 ⟨t3, i, σ3, H3, I3, st3, fr3, w3⟩
  rcases turn i n σ3 H3 w3 with ⟨stop, qn⟩ | ⟨go, N, hN, step⟩
  · refine wpAny_passesOwn hp (thn (T.done X rfl rfl rfl hc i pins s3 σ3 H3 X.xe I3 (stat fr3) st3 stop) fun r s4 ⟨hr, I4⟩ => ?_)
    subst hr
    exact wpAny_execs_nil ⟨σ3, H3, I4, qn⟩
  · refine wpAny_passesOwn hp (wpAny_mono (PySem.wpAny_toks_of t3 (T.item X rfl rfl rfl hc i pins s3 σ3 H3 X.xe I3 (stat fr3) st3 go)) (fun r s4 ⟨t4, u, hr, h4⟩ => ?_) fun _ _ z => z.2)
    subst hr
    refine wpAny_passesOwn hp (wpAny_mono (PySem.wpAny_toks_of t4 h4) (fun _ s5 ⟨t5, x, H5, I5, r5, y5, st5, fr5⟩ => ?_) fun _ _ z => z.2)
    have I5' := I5.pinned (stat fr5) (T.obj _ _ st5)
    refine wpAny_passesOwn hp (wpAny_mono (PySem.wpAny_toks_of t5 (hg.run _ s5 σ3 H5 x u _ I5' r5 (step x H5 y5))) (fun _ s6 ⟨t6, σ6, H6, I6, q6⟩ => ?_) fun _ _ z => z.2)
    refine wpAny_passesOwn hp (wpAny_mono (PySem.wpAny_toks_of t6 (hb _ s6 σ6 H6 _ t6 I6 q6)) (fun f s7 ⟨t7, q7⟩ => ?_) fun _ _ z => z.2)
    have again : ∀ {σ7 : St} {H7 : Hp}, Inv X (pins ++ pinsAt fp s5.heap) σ7 H7 s7 → N σ7 H7 → ∃ m, m < n ∧ 1 ≤ s7.toks ∧ ∃ i σ' H', Inv X pins σ' H' s7 ∧ tn i s7.heap ∧ (∀ b ∈ fp, H' b = none) ∧ W i m σ' H' := fun {σ7 H7} I7 n7 => by
      obtain ⟨m', hm, w7⟩ := hN σ7 H7 n7
      refine ⟨m', hm, t7, i + 1, σ7, H7, I7.unpinned, T.keep _ _ _ st5 fun b hb o e => (I7.pin (b, o) (List.mem_append_right _ (List.mem_append_right _ (mem_pinsAt hb e)))).1, fun b hb => ?_, w7⟩
      obtain ⟨o, e, d⟩ := T.obj _ _ st5 b hb
      exact (I7.pin (b, o) (List.mem_append_right _ (List.mem_append_right _ (mem_pinsAt hb e)))).2.1
    cases f with
    | next => obtain ⟨σ7, H7, I7, n7⟩ := q7; exact again I7 n7
    | cont => obtain ⟨σ7, H7, I7, n7⟩ := q7; exact again I7 n7
    | brk => obtain ⟨σ7, H7, I7, q7⟩ := q7; exact ⟨σ7, H7, I7.unpinned, q7⟩
    | ret v => obtain ⟨x7, σ7, H7, I7, r7, q7⟩ := q7; exact ⟨x7, σ7, H7, I7.unpinned, r7, q7⟩
theorem ps_for1 (hp : PassesOwn (model X.prog X.w) X.A X.env X.xe) (hc : X.calm = true) (hi : PI1 X tg iter wi) (hg : PG X tg g) (hb : PSsT X body tb) (hs : ∀ x, foldedSetIterable iter X.env x = pure x := by intro _; rfl) : PS X (.For tg iter body [] pos) (tFor wi g tb) :=
  ⟨fun pins s σ H D I h => forT_core hp hc hg hb hs (hi pins s σ H _ I h)⟩
theorem pst_forT (hp : PassesOwn (model X.prog X.w) X.A X.env X.xe) (hc : X.calm = true) (hi : PI X tg iter wi) (hg : PG X tg g) (hb : PSsT X body tb) (hs : ∀ x, foldedSetIterable iter X.env x = pure x := by intro _; rfl) : PST X (.For tg iter body [] pos) (tFor wi g tb) :=
  fun pins s σ H D h0 I h => forT_core hp hc hg hb hs (PySem.wpAny_mono (PySem.wpAny_toks_of h0 (hi.run pins s σ H _ I h)) (fun _ _ q => q) fun _ _ z => z.2)
end
end L2


set_option Elab.async false
set_option linter.all false
set_option maxRecDepth 100000
set_option maxHeartbeats 4000000
/-! a list == [], a list != [], whatever lies in it -/
namespace L2
open PySem PySem.Spec PyProof.Rows
def rNil (K : PySem.W.Frag) (f : Bool → Bool) : R2 := fun x y H Q => ∃ a b xs, x = .ref a ∧ y = .ref b ∧ SqL K H a xs ∧ SqL K H b [] ∧ Q (.bl (f xs.isEmpty)) H
theorem op_eqNil {X : Cx} (hu : X.A.units + 1 < cLine) : OpR X (compareOp .Eq) (rNil X.K id) := by
  intro pins s σ H x y v u Q I rx ry h
  obtain ⟨a, b, xs, rfl, rfl, hx, hy, q⟩ := h
  cases rx
  cases ry
  obtain ⟨its, r, ht, hz⟩ := I.list hx
  obtain ⟨its2, r2, ht2, hz2⟩ := I.list hy
  have e1 := r.length
  have e2 := r2.length
  have hnil : its2 = [] := List.length_eq_zero_iff.mp (by simpa using e2.symm)
  subst hnil
  cases xs with
  | nil =>
    have : its = [] := List.length_eq_zero_iff.mp (by simpa using e1.symm)
    subst this
    exact SeqAt.eq_listAt (e := fun _ => true) ht.isList ht2.isList rfl (by omega) (fun j h1 _ => absurd h1 (Nat.not_lt_zero _)) ⟨.bl true, H, I, rfl, q⟩
  | cons c cs =>
    refine SeqAt.eq_list_lengthsAt ht.isList ht2.isList ?_ (by omega) ⟨.bl false, H, I, rfl, q⟩
    rw [List.length_cons] at e1
    simp only [List.size_toArray, List.length_nil, bne_iff_ne, ne_eq]
    omega
theorem op_neNil {X : Cx} (hu : X.A.units + 1 < cLine) : OpR X (compareOp .NotEq) (rNil X.K not) := by
  intro pins s σ H x y v u Q I rx ry h
  obtain ⟨a, b, xs, rfl, rfl, hx, hy, q⟩ := h
  cases rx
  cases ry
  obtain ⟨its, r, ht, hz⟩ := I.list hx
  obtain ⟨its2, r2, ht2, hz2⟩ := I.list hy
  have e1 := r.length
  have e2 := r2.length
  have hnil : its2 = [] := List.length_eq_zero_iff.mp (by simpa using e2.symm)
  subst hnil
  cases xs with
  | nil =>
    have : its = [] := List.length_eq_zero_iff.mp (by simpa using e1.symm)
    subst this
    exact SeqAt.RcNeAt.lists (e := fun _ => true) ht.isList ht2.isList rfl (by omega) (fun j h1 _ => absurd h1 (Nat.not_lt_zero _)) _ _ _ _ ⟨.bl false, H, I, rfl, q⟩
  | cons c cs =>
    refine SeqAt.RcNeAt.lists_lengths ht.isList ht2.isList ?_ (by omega) _ _ _ _ ⟨.bl true, H, I, rfl, q⟩
    rw [List.length_cons] at e1
    simp only [List.size_toArray, List.length_nil, bne_iff_ne, ne_eq]
    omega
end L2


set_option Elab.async false
set_option linter.all false
set_option maxRecDepth 100000
set_option maxHeartbeats 4000000
/-! general words for readings -/
namespace L2
open PySem PySem.Spec PyProof.Rows
section
variable {K : PySem.W.Frag} {a r1 te ta tb : TE} {r : TA} {g : TG} {s tbd : TS} {D : Ends} {z σ : St} {H H1 : Hp} {Q : VK} {i j : Nat} {v x : V}
theorem cons_go {Q : List V → Hp → Prop} (h : a z H fun x H1 => r z H1 fun xs H2 => Q (x :: xs) H2) : tCons a r z H Q := h
theorem call_go {sp : Sp} {ds : List V} {E : XK} {t : TA} (h : t z H fun vs H1 => sp (vs ++ ds) H1 Q E) : tCall sp ds E t z H Q := h
theorem c_go (h : Q v H) : tC v z H Q := h
theorem lst_go {t : TA} (h : t z H fun xs H1 => xs.length ≤ sizeLine ∧ ∀ p, H1 p = none → Q (.ref p) (upd H1 p (.lst xs))) : tLst t z H Q := h
theorem tup_go {t : TA} (h : t z H fun xs H1 => xs.length ≤ sizeLine ∧ ∀ p, H1 p = none → Q (.ref p) (upd H1 p (.tup xs))) : tTup t z H Q := h
theorem nil_go {Q : List V → Hp → Prop} (h : Q [] H) : tNil z H Q := h
theorem var_go (hv : z[i]? = some (some v)) (h : Q v H) : tVar i z H Q := ⟨v, hv, h⟩
theorem set_te (h : te z H fun v H1 => s D (z.set i (some v)) H1) : tSeq (tAsg te (gName i)) s D z H := h
theorem asg_go (h : te z H fun x H1 => g x z H1 (s D)) : tSeq (tAsg te g) s D z H := h
theorem asg_go0 (h : te z H fun x H1 => g x z H1 D.nx) : tAsg te g D z H := h
theorem par_go {ta : TA} (h : ta z H fun vs H1 => ∃ v u, vs = [v, u] ∧ s D ((z.set i (some v)).set j (some u)) H1) : tSeq (tPar i j ta) s D z H := h
theorem nx_for {wi : TI} {r : TS} (h : tFor wi g tbd { nx := r D, rt := D.rt, bk := D.bk, ct := D.ct } z H) : tSeq (tFor wi g tbd) r D z H := h
theorem nx_whl {c : TT} {r : TS} (h : tWhile c tbd { nx := r D, rt := D.rt, bk := D.bk, ct := D.ct } z H) : tSeq (tWhile c tbd) r D z H := h
theorem ret_go (h : te z H D.rt) : tRet te D z H := h
theorem drop_go0 (h : te z H fun _ H1 => D.nx z H1) : tDrop te D z H := h
theorem cb_go {r : List V → Hp → VK → Prop} {ta : TA} (h : ta z H fun vs H1 => r vs H1 Q) : tCB r ta z H Q := h
theorem op_go {r : R2} (h : ta z H fun x H1 => tb z H1 fun y H2 => r x y H2 Q) : tOp r ta tb z H Q := h
theorem seq_ifQ {t : TT} {a r : TS} (R : St → Hp → Prop) (hc : (∀ z1 H1, R z1 H1 → r D z1 H1) → t z H fun b H1 => if b = true then a { nx := r D, rt := D.rt, bk := D.bk, ct := D.ct } z H1 else r D z H1) (hR : ∀ z1 H1, R z1 H1 → r D z1 H1) : tSeq (tIfS t a tNext) r D z H := hc hR
theorem for_te {Pre : Addr → Hp → Prop} {xs : List V} (Pv : Addr → Hp → Nat → St → Hp → Prop) (h : ∀ Q : VK, (∀ a H1, Pre a H1 → Q (.ref a) H1) → te σ H Q) (hs : ∀ a H1, Pre a H1 → SqL K H1 a xs) (h0 : ∀ a H1, Pre a H1 → Pv a H1 0 σ H1) (h1 : ∀ a H1 i σ H, Pre a H1 → i ≤ xs.length → Pv a H1 i σ H → SqL K H a xs)
    (h2 : ∀ a H1, Pre a H1 → ∀ i x σ H, xs[i]? = some x → Pv a H1 i σ H → g x σ H fun σ2 H2 => tbd { nx := Pv a H1 (i + 1), rt := D.rt, bk := D.nx, ct := Pv a H1 (i + 1) } σ2 H2) (h3 : ∀ a H1 σ H, Pre a H1 → Pv a H1 xs.length σ H → D.nx σ H) : tFor (iList K te) g tbd D σ H :=
  h _ fun a H1 p => ⟨a, rfl, ⟨xs, hs a H1 p⟩, for_list (Pv a H1) (h0 a H1 p) (fun i σ H hi q => h1 a H1 i σ H p hi q) (h2 a H1 p) (fun σ H q => h3 a H1 σ H p q)⟩
theorem for_te2 (Pre : Addr → List V → Hp → Prop) (Pv : Addr → List V → Hp → Nat → St → Hp → Prop) (h : ∀ Q : VK, (∀ a xs H1, Pre a xs H1 → Q (.ref a) H1) → te σ H Q) (hs : ∀ a xs H1, Pre a xs H1 → SqL K H1 a xs) (h0 : ∀ a xs H1, Pre a xs H1 → Pv a xs H1 0 σ H1) (h1 : ∀ a xs H1 i σ H, Pre a xs H1 → i ≤ xs.length → Pv a xs H1 i σ H → SqL K H a xs)
    (h2 : ∀ a xs H1, Pre a xs H1 → ∀ i x σ H, xs[i]? = some x → Pv a xs H1 i σ H → g x σ H fun σ2 H2 => tbd { nx := Pv a xs H1 (i + 1), rt := D.rt, bk := D.nx, ct := Pv a xs H1 (i + 1) } σ2 H2) (h3 : ∀ a xs H1 σ H, Pre a xs H1 → Pv a xs H1 xs.length σ H → D.nx σ H) : tFor (iList K te) g tbd D σ H :=
  h _ fun a xs H1 p => ⟨a, rfl, ⟨xs, hs a xs H1 p⟩, for_list (Pv a xs H1) (h0 a xs H1 p) (fun i σ H hi q => h1 a xs H1 i σ H p hi q) (h2 a xs H1 p) (fun σ H q => h3 a xs H1 σ H p q)⟩
theorem ne_same (ha : EvE ta σ H v) (hb : ∀ H1, Same H H1 → EvE tb σ H1 v) (hs : scal v v = true) : EvT (tTest (tOp rNe ta tb)) σ H false := by
  have := ev_test (ev_ne ha hb hs)
  rw [decide_eq_true rfl] at this
  exact this
theorem ne_nilL {q : Addr} {xs : List V} (he : EvE te σ H (.ref q)) (hq : SqL K H q xs) : EvT (tTest (tOp (rNil K not) te (tLst tNil))) σ H (!xs.isEmpty) :=
  ev_test fun Q k => he _ fun H1 s1 => mk_lst (vs := []) ev_nil (fun H2 T s2 _ hT => ⟨_, _, xs, rfl, rfl, (s1.tr s2).sql hq, .inl (.inl hT), k _ (s1.tr s2)⟩)
theorem ev_dget {d : Addr} {kvs : List (Key × V)} {y : Str} (ha : EvE ta σ H (.ref d)) (hb : ∀ H1, Same H H1 → EvE tb σ H1 (.str y)) (hd : H d = some (.dK kvs)) (hv : valV kvs (.inr y) = some v) : EvE (tDGet ta tb) σ H v :=
  fun Q k => ha _ fun H1 s1 => hb H1 s1 _ fun H2 s2 => ⟨d, v, rfl, .inl ⟨kvs, .inr y, .inl ((s1.tr s2) _ _ hd), rfl, hv.symm⟩, k H2 (s1.tr s2)⟩
theorem ev_din {d : Addr} {kvs : List (Key × V)} {y : Str} (ha : EvE ta σ H (.str y)) (hb : ∀ H1, Same H H1 → EvE tb σ H1 (.ref d)) (hd : H d = some (.dK kvs)) : EvE (tDIn ta tb) σ H (.bl (valV kvs (.inr y)).isSome) :=
  fun Q k => ha _ fun H1 s1 => hb H1 s1 _ fun H2 s2 => ⟨d, _, rfl, .inl ⟨kvs, .inr y, .inl ((s1.tr s2) _ _ hd), rfl, rfl⟩, k H2 (s1.tr s2)⟩
/-- text[:n], text[n:] -/
theorem ev_cutA {y : Str} {n : Int} (ha : EvE ta σ H (.str y)) (hl : y.length ≤ sizeLine) : EvE (tSl rSlS ta tNoPart (tPart (tC (.int n)))) σ H (.str (cutS y none (some n))) := fun Q k => ha _ fun H1 s1 => ⟨n, rfl, y, rfl, hl, k H1 s1⟩
theorem ev_cutB {y : Str} {n : Int} (ha : EvE ta σ H (.str y)) (hl : y.length ≤ sizeLine) : EvE (tSl rSlS ta (tPart (tC (.int n))) tNoPart) σ H (.str (cutS y (some n) none)) := fun Q k => ha _ fun H1 s1 => ⟨n, rfl, y, rfl, hl, k H1 s1⟩
theorem isNv {b : Bool} (h : EvE ta σ H v) (hb : decide (v = .non) = b) : EvE (tOp (fun x y H Q => y = V.non ∧ Q (V.bl (decide (x = V.non))) H) ta (tC V.non)) σ H (.bl b) := ev_isN h fun H2 Q q => ⟨rfl, by rw [hb]; exact q⟩
theorem notNv {b : Bool} (h : EvE ta σ H v) (hb : (!decide (v = .non)) = b) : EvE (tOp (fun x y H Q => y = V.non ∧ Q (V.bl !decide (x = V.non)) H) ta (tC V.non)) σ H (.bl b) := ev_isN h fun H2 Q q => ⟨rfl, by rw [hb]; exact q⟩
end
theorem same_upd {H H1 : Hp} {a : Addr} {o : HO} (s : Same H1 H) (h : H1 a = none) : Same H1 (upd H a o) := fun b u hb => by
  rw [upd_ne (ne_of_none hb h)]; exact s b u hb
theorem drop_at {α : Type} {xs : List α} {i : Nat} {x : α} (h : xs[i]? = some x) : xs.drop i = x :: xs.drop (i + 1) := by
  obtain ⟨hi, e⟩ := List.getElem?_eq_some_iff.mp h
  rw [List.drop_eq_getElem_cons hi, e]
theorem tk1 {α : Type} {l : List α} {i : Nat} {x : α} (h : l[i]? = some x) : l.take (i + 1) = l.take i ++ [x] := by
  rw [List.take_succ, h]; rfl
theorem at0 (v : V) (us : List V) : atI (v :: us) 0 = some v := atI_nat (j := 0) rfl
theorem lst_ne {H : Hp} {q x : Addr} {o : HO} (h : H q = none) (k : H x = some o) : q ≠ x := fun e => by rw [e, k] at h; cases h
-- data
theorem SqL.up {K : PySem.W.Frag} {H H' : Hp} {a : Addr} {xs : List V} (h : SqL K H a xs) (e : Same H H') : SqL K H' a xs := e.sql h
mutual
theorem Dp.up {K : PySem.W.Frag} {H H' : Hp} (e : Same H H') : ∀ {v : V} {d : PyData}, Dp K H v d → Dp K H' v d
  | _, _, .int i => .int i
  | _, _, .str x => .str x
  | _, _, .bl b => .bl b
  | _, _, .non => .non
  | _, _, .lst h hs => .lst (e.sql h) (DpAll.up e hs)
  | _, _, .tup h hs => .tup (e.seqT h) (DpAll.up e hs)
theorem DpAll.up {K : PySem.W.Frag} {H H' : Hp} (e : Same H H') : ∀ {vs : List V} {ds : List PyData}, DpAll K H vs ds → DpAll K H' vs ds
  | _, _, .nil => .nil
  | _, _, .cons h hs => .cons (Dp.up e h) (DpAll.up e hs)
end
-- data of tuples, texts, numbers, truth values, None: nothing of it ever changes
mutual
inductive Dq (K : PySem.W.Frag) (H : Hp) : V → PyData → Prop
  | non : Dq K H .non .none
  | bl (b : Bool) : Dq K H (.bl b) (.bool b)
  | int (i : Int) : Dq K H (.int i) (.int i)
  | str (x : Str) : Dq K H (.str x) (.str x)
  | tup {p : Addr} {xs : List V} {ds : List PyData} : (H p = some (.tup xs) ∨ ∀ H', SqT K H' p xs) → DqAll K H xs ds → Dq K H (.ref p) (.tuple ds)
inductive DqAll (K : PySem.W.Frag) (H : Hp) : List V → List PyData → Prop
  | nil : DqAll K H [] []
  | cons {v : V} {vs : List V} {d : PyData} {ds : List PyData} : Dq K H v d → DqAll K H vs ds → DqAll K H (v :: vs) (d :: ds)
end
section
variable {K : PySem.W.Frag} {H H' : Hp}
mutual
theorem Dq.up (e : TupLe H H') : ∀ {v : V} {d : PyData}, Dq K H v d → Dq K H' v d
  | _, _, .int i => .int i
  | _, _, .str x => .str x
  | _, _, .bl b => .bl b
  | _, _, .non => .non
  | _, _, .tup h hs => .tup (h.imp (e _ _) id) (DqAll.up e hs)
theorem DqAll.up (e : TupLe H H') : ∀ {vs : List V} {ds : List PyData}, DqAll K H vs ds → DqAll K H' vs ds
  | _, _, .nil => .nil
  | _, _, .cons h hs => .cons (Dq.up e h) (DqAll.up e hs)
end
mutual
theorem Dq.dp : ∀ {v : V} {d : PyData}, Dq K H v d → Dp K H v d
  | _, _, .int i => .int i
  | _, _, .str x => .str x
  | _, _, .bl b => .bl b
  | _, _, .non => .non
  | _, _, .tup h hs => .tup (h.elim (fun h => .inl (.inl h)) (fun h => h H)) (DqAll.dp hs)
theorem DqAll.dp : ∀ {vs : List V} {ds : List PyData}, DqAll K H vs ds → DpAll K H vs ds
  | _, _, .nil => .nil
  | _, _, .cons h hs => .cons (Dq.dp h) (DqAll.dp hs)
end
theorem Same.tl (s : Same H H') : TupLe H H' := fun b xs h => s b _ h
/-- a tuple taken apart -/
theorem Dq.tuple {v : V} {ds : List PyData} (h : Dq K H v (.tuple ds)) : ∃ p xs, v = .ref p ∧ SqT K H p xs ∧ DqAll K H xs ds := by
  cases h with
  | tup h hs => exact ⟨_, _, rfl, h.elim (fun h => .inl (.inl h)) (fun h => h H), hs⟩
theorem DqAll.len : ∀ {vs : List V} {ds : List PyData}, DqAll K H vs ds → vs.length = ds.length
  | _, _, .nil => rfl
  | _, _, .cons _ hs => by rw [List.length_cons, List.length_cons, DqAll.len hs]
theorem DqAll.at : ∀ {vs : List V} {ds : List PyData}, DqAll K H vs ds → ∀ {i : Nat} {v : V}, vs[i]? = some v → ∃ d, ds[i]? = some d ∧ Dq K H v d
  | _, _, .cons h hs, 0, v, e => by cases e; exact ⟨_, rfl, h⟩
  | _, _, .cons h hs, i + 1, v, e => DqAll.at hs (i := i) e
theorem DqAll.get : ∀ {vs : List V} {ds : List PyData}, DqAll K H vs ds → ∀ {i : Nat} {d : PyData}, ds[i]? = some d → ∃ v, vs[i]? = some v ∧ Dq K H v d
  | _, _, .cons h hs, 0, v, e => by cases e; exact ⟨_, rfl, h⟩
  | _, _, .cons h hs, i + 1, v, e => DqAll.get hs (i := i) e
theorem DqAll.app : ∀ {vs ws : List V} {ds es : List PyData}, DqAll K H vs ds → DqAll K H ws es → DqAll K H (vs ++ ws) (ds ++ es)
  | _, _, _, _, .nil, k => k
  | _, _, _, _, .cons h hs, k => .cons h (DqAll.app hs k)
theorem DqAll.snoc {vs : List V} {ds : List PyData} {v : V} {d : PyData} (h : DqAll K H vs ds) (k : Dq K H v d) : DqAll K H (vs ++ [v]) (ds ++ [d]) := h.app (.cons k .nil)
theorem DqAll.drop : ∀ {vs : List V} {ds : List PyData} (i : Nat), DqAll K H vs ds → DqAll K H (vs.drop i) (ds.drop i)
  | _, _, 0, h => h
  | _, _, i + 1, .nil => .nil
  | _, _, i + 1, .cons _ hs => DqAll.drop i hs
theorem DqAll.take : ∀ {vs : List V} {ds : List PyData} (i : Nat), DqAll K H vs ds → DqAll K H (vs.take i) (ds.take i)
  | _, _, 0, h => .nil
  | _, _, i + 1, .nil => .nil
  | _, _, i + 1, .cons h hs => .cons h (DqAll.take i hs)
end
end L2


set_option Elab.async false
set_option linter.all false
set_option maxRecDepth 100000
set_option maxHeartbeats 4000000
/-! the reader of the codes with ifs: rows as read, the reading as a relation; None in a tuple of tuples -/
namespace Rdr
open PySem
/-- rows: what a row tells, an if with its line, its parts and its blocks -/
inductive RT (α β : Type)
  | nil
  | leaf (x : α) (rest : RT α β)
  | ifr (line : Nat) (ps : List β) (a b rest : RT α β)
variable {α β : Type}
def RT.app : RT α β → RT α β → RT α β
  | .nil, t => t
  | .leaf x r, t => .leaf x (r.app t)
  | .ifr l ps a b r, t => .ifr l ps a b (r.app t)
theorem RT.app_nil : ∀ s : RT α β, s.app .nil = s
  | .nil => rfl
  | .leaf x r => by show RT.leaf x (r.app .nil) = _; rw [RT.app_nil r]
  | .ifr l ps a b r => by show RT.ifr l ps a b (r.app .nil) = _; rw [RT.app_nil r]
theorem RT.app_assoc : ∀ s t u : RT α β, (s.app t).app u = s.app (t.app u)
  | .nil, _, _ => rfl
  | .leaf x r, t, u => by show RT.leaf x _ = RT.leaf x _; rw [RT.app_assoc r t u]
  | .ifr l ps a b r, t, u => by show RT.ifr l ps a b _ = RT.ifr l ps a b _; rw [RT.app_assoc r t u]
section
variable (fa : α → List PyData) (fb : β → List PyData)
def ifD (l : Nat) (ps a b : List PyData) : PyData := .tuple [.str "if", .int (l : Nat), .tuple ps, .tuple a, .tuple b]
def RT.toL : RT α β → List PyData
  | .nil => []
  | .leaf x r => .tuple (fa x) :: r.toL
  | .ifr l ps a b r => ifD l (ps.map fun p => .tuple (fb p)) a.toL b.toL :: r.toL
theorem RT.toL_app : ∀ s t : RT α β, (s.app t).toL fa fb = s.toL fa fb ++ t.toL fa fb
  | .nil, _ => rfl
  | .leaf x r, t => by show PyData.tuple (fa x) :: (r.app t).toL fa fb = _; rw [RT.toL_app r t]; rfl
  | .ifr l ps a b r, t => by show ifD _ _ _ _ :: (r.app t).toL fa fb = _; rw [RT.toL_app r t]; rfl
end
inductive Res (α β : Type)
  | err (k : Nat)
  | ok (t : RT α β) (word : Str) (ls : List Str) (n ifs : Nat)
def Res.pre (f : RT α β → RT α β) : Res α β → Res α β
  | .err k => .err k
  | .ok t w ls n i => .ok (f t) w ls n i
theorem pre_pre (R : Res α β) (f g : RT α β → RT α β) : (R.pre f).pre g = R.pre (fun t => g (f t)) := by cases R <;> rfl
inductive Md
  | blk (inner : Bool)
  | cond (text : Str)
def enders : List Str := ["else", "end"]
def isIf (t : Str) : Prop := L2.cutS t none (some 3) = "if "
def cut3 (t : Str) : Str := L2.cutS t (some 3) none
def andS : Str := Str.ofString " and "
def partsOf (partF : Str → Option β) (text : Str) : List (Option β) := (Txt.split text andS).map partF
/-- the parts of a test, all that can be told, at most four -/
def goodPs (partF : Str → Option β) (text : Str) (ps : List β) : Prop := partsOf partF text = ps.map some ∧ ps.length ≤ 4
def badPs (partF : Str → Option β) (text : Str) : Prop := 4 < (partsOf partF text).length ∨ none ∈ partsOf partF text
section
variable (rowF : Str → Nat → Option α) (partF : Str → Option β)
inductive Rd : Md → List Str → Nat → Nat → Res α β → Prop
  | eof {n i} : Rd (.blk false) [] n i (.ok .nil "" [] n i)
  | eofI {n i} : Rd (.blk true) [] n i (.err (n + 1))
  | fin {t r n i} : t ∈ enders → Rd (.blk true) (t :: r) n i (.ok .nil t r (n + 1) i)
  | finO {t r n i} : t ∈ enders → Rd (.blk false) (t :: r) n i (.err (n + 1))
  | bad {b t r n i} : t ∉ enders → ¬ isIf t → rowF t (n + 1) = none → Rd (.blk b) (t :: r) n i (.err (n + 1))
  | leaf {b t r n i x R} : t ∉ enders → ¬ isIf t → rowF t (n + 1) = some x → Rd (.blk b) r (n + 1) i R → Rd (.blk b) (t :: r) n i (R.pre (.leaf x))
  | ifE {b t r n i k} : t ∉ enders → isIf t → Rd (.cond (cut3 t)) r (n + 1) i (.err k) → Rd (.blk b) (t :: r) n i (.err k)
  | ifr {b t r n i l ps x y r2 n2 i2 R} : t ∉ enders → isIf t → Rd (.cond (cut3 t)) r (n + 1) i (.ok (.ifr l ps x y .nil) "" r2 n2 i2) → Rd (.blk b) r2 n2 i2 R → Rd (.blk b) (t :: r) n i (R.pre (.ifr l ps x y))
  | badC {text r n i} : badPs partF text → Rd (.cond text) r n i (.err n)
  | aE {text r n i ps k} : goodPs partF text ps → Rd (.blk true) r n (i + 1) (.err k) → Rd (.cond text) r n i (.err k)
  | one {text r n i ps x r2 n2 i2} : goodPs partF text ps → Rd (.blk true) r n (i + 1) (.ok x "end" r2 n2 i2) → Rd (.cond text) r n i (.ok (.ifr n ps x .nil .nil) "" r2 n2 i2)
  | bE {text r n i ps x r2 n2 i2 k} : goodPs partF text ps → Rd (.blk true) r n (i + 1) (.ok x "else" r2 n2 i2) → Rd (.blk true) r2 n2 i2 (.err k) → Rd (.cond text) r n i (.err k)
  | two {text r n i ps x r2 n2 i2 y r3 n3 i3} : goodPs partF text ps → Rd (.blk true) r n (i + 1) (.ok x "else" r2 n2 i2) → Rd (.blk true) r2 n2 i2 (.ok y "end" r3 n3 i3) → Rd (.cond text) r n i (.ok (.ifr n ps x y .nil) "" r3 n3 i3)
  | elsE {text r n i ps x r2 n2 i2 y r3 n3 i3} : goodPs partF text ps → Rd (.blk true) r n (i + 1) (.ok x "else" r2 n2 i2) → Rd (.blk true) r2 n2 i2 (.ok y "else" r3 n3 i3) → Rd (.cond text) r n i (.err n3)
end
variable {rowF : Str → Nat → Option α} {partF : Str → Option β}
theorem drop1 {r ls : List Str} {t : Str} {j : Nat} (h : r = ls.drop j) (h2 : j ≤ ls.length) : r = (t :: ls).drop (j + 1) ∧ j + 1 ≤ (t :: ls).length := ⟨by rw [List.drop_succ_cons]; exact h, by rw [List.length_cons]; omega⟩
/-- what is left are the lines from the number on -/
theorem Rd.adv {md : Md} {ls : List Str} {n i : Nat} {R : Res α β} (h : Rd rowF partF md ls n i R) : ∀ t w ls' n' i', R = .ok t w ls' n' i' → ∃ j, j ≤ ls.length ∧ ls' = ls.drop j ∧ n' = n + j ∧ i ≤ i' := by
  induction h with
  | eof => rintro t w ls' n' i' ⟨⟩; exact ⟨0, by simp, rfl, rfl, Nat.le_refl _⟩
  | fin _ => rintro t w ls' n' i' ⟨⟩; exact ⟨1, by simp, rfl, rfl, Nat.le_refl _⟩
  | eofI => intro t w ls' n' i' e; cases e
  | finO _ => intro t w ls' n' i' e; cases e
  | bad => intro t w ls' n' i' e; cases e
  | ifE => intro t w ls' n' i' e; cases e
  | badC => intro t w ls' n' i' e; cases e
  | aE => intro t w ls' n' i' e; cases e
  | bE => intro t w ls' n' i' e; cases e
  | elsE => intro t w ls' n' i' e; cases e
  | @leaf b t r n i x R _ _ _ _ ih =>
    intro t' w ls' n' i' e
    cases R with
    | err k => cases e
    | ok u w2 l m i2 =>
      cases e
      obtain ⟨j, h1, h2, h3, h4⟩ := ih u w ls' n' i' rfl
      exact ⟨j + 1, (drop1 (t := t) h2 h1).2, (drop1 (t := t) h2 h1).1, by omega, h4⟩
  | @ifr b t r n i l ps x y r2 n2 i2 R _ _ _ _ ih1 ih2 =>
    intro t' w ls' n' i' e
    cases R with
    | err k => cases e
    | ok u w2 l m i2 =>
      cases e
      obtain ⟨j1, h4, h5, h6, h7⟩ := ih1 _ _ r2 n2 _ rfl
      obtain ⟨j, h1, h2, h3, h8⟩ := ih2 u w ls' n' i' rfl
      subst h5 h6
      rw [List.length_drop] at h1
      rw [List.drop_drop] at h2
      have q : j1 + j ≤ r.length := by omega
      exact ⟨j1 + j + 1, (drop1 (t := t) h2 q).2, (drop1 (t := t) h2 q).1, by omega, Nat.le_trans h7 h8⟩
  | one _ _ ih =>
    rintro t w ls' n' i' ⟨⟩
    obtain ⟨j, h1, h2, h3, h4⟩ := ih _ _ _ _ _ rfl
    exact ⟨j, h1, h2, h3, by omega⟩
  | two _ _ _ ih1 ih2 =>
    rintro t w ls' n' i' ⟨⟩
    obtain ⟨j1, h4, h5, h6, h7⟩ := ih1 _ _ _ _ _ rfl
    obtain ⟨j, h1, h2, h3, h8⟩ := ih2 _ _ _ _ _ rfl
    subst h5 h6
    rw [List.length_drop] at h1
    rw [List.drop_drop] at h2
    exact ⟨j1 + j, by omega, h2, by omega, by omega⟩
/-- an inner block ends with else or end -/
theorem Rd.word {md : Md} {ls : List Str} {n i : Nat} {R : Res α β} (h : Rd rowF partF md ls n i R) : md = .blk true → ∀ t w ls' n' i', R = .ok t w ls' n' i' → w ∈ enders := by
  induction h with
  | fin h => rintro _ t w ls' n' i' ⟨⟩; exact h
  | eof => rintro ⟨⟩
  | eofI => intro _ t w ls' n' i' e; cases e
  | finO _ => rintro ⟨⟩
  | bad => intro _ t w ls' n' i' e; cases e
  | ifE => intro _ t w ls' n' i' e; cases e
  | badC => rintro ⟨⟩
  | aE => rintro ⟨⟩
  | bE => rintro ⟨⟩
  | elsE => rintro ⟨⟩
  | one => rintro ⟨⟩
  | two => rintro ⟨⟩
  | @leaf b t r n i x R _ _ _ _ ih =>
    intro e t' w ls' n' i' q
    cases R with
    | err k => cases q
    | ok u w2 l m i2 => cases q; exact ih e _ _ _ _ _ rfl
  | @ifr b t r n i l ps x y r2 n2 i2 R _ _ _ _ ih1 ih2 =>
    intro e t' w ls' n' i' q
    cases R with
    | err k => cases q
    | ok u w2 l m i2 => cases q; exact ih2 e _ _ _ _ _ rfl
end Rdr
namespace L2
open PySem PySem.Spec PyProof.Rows
/-- the items are tuples or None -/
def tupOrN (K : PySem.W.Frag) (H : Hp) (v : V) : Prop := v = .non ∨ ∃ q ys, v = .ref q ∧ SqT K H q ys
/-- None in a tuple of such -/
def rNoneInT (K : PySem.W.Frag) : R2 := fun x y H Q => ∃ p xs, x = .non ∧ y = .ref p ∧ SqT K H p xs ∧ (∀ v ∈ xs, tupOrN K H v) ∧ Q (.bl (xs.any fun v => decide (v = .non))) H
def isNonU : Value → Bool
  | .none => true
  | _ => false
theorem op_noneInT {X : Cx} (hu : X.A.units + 64 < cLine) : OpR X (compareOp .In) (rNoneInT X.K) := by
  intro pins s σ H x y v u Q I rx ry h
  obtain ⟨p, xs, rfl, rfl, hq, hs, q⟩ := h
  cases ry
  cases rx
  obtain ⟨its, r, pl, hz⟩ := I.tuple hq
  have key : ∀ {xs : List V} {us : List Value}, Vals xs us → (∀ v ∈ xs, tupOrN X.K H v) → (us.any isNonU = xs.any fun v => decide (v = .non)) ∧ ∀ w ∈ us, SeqAt.EqAt X.A.in1 s w .none (isNonU w) := by
    intro xs us r
    induction r with
    | nil => intro _; exact ⟨rfl, fun w hw => by cases hw⟩
    | @cons y u ys us r t ih =>
      intro hs
      obtain ⟨h1, h2⟩ := ih fun v hv => hs v (List.mem_cons_of_mem _ hv)
      rcases hs y (List.mem_cons_self ..) with e | ⟨q, zs, e, hz⟩
      · subst e
        cases r
        refine ⟨by rw [List.any_cons, List.any_cons, h1]; rfl, fun w hw => ?_⟩
        rcases List.mem_cons.mp hw with e | hw
        · subst e; exact SeqAt.EqAt.same _
        · exact h2 w hw
      · subst e
        cases r
        obtain ⟨its2, r2, pl2, hz2⟩ := I.tuple hz
        refine ⟨by rw [List.any_cons, List.any_cons, h1]; rfl, fun w hw => ?_⟩
        rcases List.mem_cons.mp hw with e | hw
        · subst e
          exact SeqAt.EqAt.tuple_none pl2 (show X.A.units + 1 < cLine by omega)
        · exact h2 w hw
  obtain ⟨k1, k2⟩ := key r hs
  refine SeqAt.in_tupleAt isNonU pl (fun w hw => k2 w (by simpa using hw)) ⟨.bl _, H, I, rfl, ?_⟩
  rw [show its.toArray.any isNonU = its.any isNonU by simp, k1]
  exact q
theorem noneInT_at {X : Cx} {K : PySem.W.Frag} (hu : X.A.units + 64 < cLine) (h : X.K = K := by rfl) : OpR X (compareOp .In) (rNoneInT K) := by subst h; exact op_noneInT hu
theorem paS_at {X : Cx} {K : PySem.W.Frag} {e : Expr} {es : List Expr} {te : TE} {t : TA} {p : Pos} (he : PE X e te) (hr : PA X es t) (hs : starEach (.Starred e p :: es) X.env = (true, eval e X.env) :: starEach es X.env := by rfl) (h : X.K = K := by rfl) : PA X (.Starred e p :: es) (StX.tStar K te t) := by
  subst h
  exact StX.pa_star he hr hs
end L2


set_option Elab.async false
set_option linter.all false
set_option maxRecDepth 100000
set_option maxHeartbeats 4000000
/-! all rows of a code, the ways through it -/
namespace Rdr
open PySem
inductive It (α β : Type)
  | leaf (x : α)
  | ifi (l : Nat) (ps : List β) (a b : RT α β)
variable {α β : Type}
def It.toD (fa : α → List PyData) (fb : β → List PyData) : It α β → PyData
  | .leaf x => .tuple (fa x)
  | .ifi l ps a b => ifD l (ps.map fun p => .tuple (fb p)) (a.toL fa fb) (b.toL fa fb)
def RT.all : RT α β → List (It α β)
  | .nil => []
  | .leaf x r => .leaf x :: r.all
  | .ifr l ps a b r => .ifi l ps a b :: ((a.all ++ b.all) ++ r.all)
abbrev Wy (α β : Type) := List (It α β) × Bool
def RT.waysF (fin : α → Bool) : RT α β → List (Wy α β) → List (Wy α β)
  | .nil, ws => ws
  | .leaf x r, ws => r.waysF fin (ws.flatMap fun y => if y.2 then [(y.1, true)] else [(y.1 ++ [.leaf x], fin x)])
  | .ifr l ps a b r, ws => r.waysF fin (ws.flatMap fun y => if y.2 then [(y.1, true)] else (a.waysF fin [([], false)] ++ b.waysF fin [([], false)]).map fun z => (y.1 ++ .ifi l ps a b :: z.1, z.2))
def RT.ways (fin : α → Bool) (t : RT α β) : List (Wy α β) := t.waysF fin [([], false)]
def RT.dep : RT α β → Nat
  | .nil => 0
  | .leaf _ r => r.dep
  | .ifr _ _ a b r => max (max a.dep b.dep + 1) r.dep
def RT.sz : RT α β → Nat
  | .nil => 0
  | .leaf _ r => 1 + r.sz
  | .ifr _ _ a b r => 1 + a.sz + b.sz + r.sz
def RT.ifs : RT α β → Nat
  | .nil => 0
  | .leaf _ r => r.ifs
  | .ifr _ _ a b r => 1 + a.ifs + b.ifs + r.ifs
theorem dep_sz : ∀ t : RT α β, t.dep ≤ t.sz
  | .nil => Nat.le_refl _
  | .leaf _ r => by have := dep_sz r; show r.dep ≤ 1 + r.sz; omega
  | .ifr _ _ a b r => by have := dep_sz r; have := dep_sz b; have := dep_sz a; show max (max a.dep b.dep + 1) r.dep ≤ 1 + a.sz + b.sz + r.sz; omega
theorem all_len : ∀ t : RT α β, t.all.length = t.sz
  | .nil => rfl
  | .leaf _ r => by show r.all.length + 1 = 1 + r.sz; rw [all_len r]; omega
  | .ifr _ _ a b r => by
    show ((a.all ++ b.all) ++ r.all).length + 1 = 1 + a.sz + b.sz + r.sz
    rw [List.length_append, List.length_append, all_len a, all_len b, all_len r]; omega
theorem fm_len {α β : Type} (f : α → List β) (c : Nat) : ∀ l : List α, (∀ x ∈ l, (f x).length ≤ c) → (l.flatMap f).length ≤ l.length * c
  | [], _ => by simp
  | x :: r, h => by
    have h1 := h x (List.mem_cons_self ..)
    have h2 := fm_len f c r (fun y hy => h y (List.mem_cons_of_mem _ hy))
    rw [List.flatMap_cons, List.length_append, List.length_cons, Nat.add_mul]
    omega
theorem waysF_len (fin : α → Bool) : ∀ (t : RT α β) (ws : List (Wy α β)), (t.waysF fin ws).length ≤ ws.length * 2 ^ t.ifs
  | .nil, ws => by show ws.length ≤ ws.length * 1; omega
  | .leaf x r, ws => by
    have h := waysF_len fin r (ws.flatMap fun y => if y.2 then [(y.1, true)] else [(y.1 ++ [.leaf x], fin x)])
    have h2 : (ws.flatMap fun y : Wy α β => if y.2 then [(y.1, true)] else [(y.1 ++ [.leaf x], fin x)]).length ≤ ws.length * 1 := fm_len _ 1 ws (fun y _ => by split <;> exact Nat.le_refl _)
    have h3 := Nat.mul_le_mul_right (2 ^ r.ifs) h2
    show (r.waysF fin _).length ≤ ws.length * 2 ^ r.ifs
    rw [Nat.mul_one] at h3
    exact Nat.le_trans h h3
  | .ifr l ps a b r, ws => by
    have ha := waysF_len fin a [([], false)]
    have hb := waysF_len fin b [([], false)]
    rw [List.length_singleton, Nat.one_mul] at ha hb
    have h := waysF_len fin r (ws.flatMap fun y => if y.2 then [(y.1, true)] else (a.waysF fin [([], false)] ++ b.waysF fin [([], false)]).map fun z => (y.1 ++ .ifi l ps a b :: z.1, z.2))
    have q : 1 ≤ 2 ^ (a.ifs + b.ifs) := Nat.one_le_pow _ _ (by decide)
    have h2 : (ws.flatMap fun y : Wy α β => if y.2 then [(y.1, true)] else (a.waysF fin [([], false)] ++ b.waysF fin [([], false)]).map fun z => (y.1 ++ .ifi l ps a b :: z.1, z.2)).length ≤ ws.length * (2 * 2 ^ (a.ifs + b.ifs)) := fm_len _ _ ws (fun y _ => by
      split
      · show 1 ≤ _; omega
      · rw [List.length_map, List.length_append]
        have e1 : 2 ^ a.ifs ≤ 2 ^ (a.ifs + b.ifs) := Nat.pow_le_pow_right (by decide) (by omega)
        have e2 : 2 ^ b.ifs ≤ 2 ^ (a.ifs + b.ifs) := Nat.pow_le_pow_right (by decide) (by omega)
        omega)
    have h3 := Nat.mul_le_mul_right (2 ^ r.ifs) h2
    show (r.waysF fin _).length ≤ ws.length * 2 ^ (1 + a.ifs + b.ifs + r.ifs)
    have e : ws.length * 2 ^ (1 + a.ifs + b.ifs + r.ifs) = ws.length * (2 * 2 ^ (a.ifs + b.ifs)) * 2 ^ r.ifs := by
      rw [show 1 + a.ifs + b.ifs + r.ifs = 1 + (a.ifs + b.ifs) + r.ifs by omega, Nat.pow_add, Nat.pow_add 2 1, Nat.pow_one]
      simp only [Nat.mul_assoc]
    rw [e]
    exact Nat.le_trans h h3
theorem waysF_met (fin : α → Bool) : ∀ (t : RT α β) (ws : List (Wy α β)) (n : Nat), (∀ x ∈ ws, x.1.length ≤ n) → ∀ x ∈ t.waysF fin ws, x.1.length ≤ n + t.sz
  | .nil, ws, n, h => fun x hx => h x hx
  | .leaf y r, ws, n, h => fun x hx => by
    have := waysF_met fin r _ (n + 1) (fun x hx => by
      rw [List.mem_flatMap] at hx
      obtain ⟨z, hz, hx⟩ := hx
      have hzn := h z hz
      split at hx
      · rw [List.mem_singleton] at hx; rw [hx]; show z.1.length ≤ _; omega
      · rw [List.mem_singleton] at hx; rw [hx, List.length_append]; show z.1.length + 1 ≤ _; omega) x hx
    show _ ≤ n + (1 + r.sz)
    omega
  | .ifr l ps a b r, ws, n, h => fun x hx => by
    have ha := waysF_met fin a [([], false)] 0 (fun x hx => by rw [List.mem_singleton] at hx; rw [hx]; exact Nat.le_refl _)
    have hb := waysF_met fin b [([], false)] 0 (fun x hx => by rw [List.mem_singleton] at hx; rw [hx]; exact Nat.le_refl _)
    have := waysF_met fin r _ (n + 1 + a.sz + b.sz) (fun x hx => by
      rw [List.mem_flatMap] at hx
      obtain ⟨z, hz, hx⟩ := hx
      have hzn := h z hz
      split at hx
      · rw [List.mem_singleton] at hx; rw [hx]; show z.1.length ≤ _; omega
      · rw [List.mem_map] at hx
        obtain ⟨u, hu, rfl⟩ := hx
        show (z.1 ++ _).length ≤ _
        rw [List.length_append, List.length_cons]
        rcases List.mem_append.mp hu with hu | hu
        · have := ha u hu; omega
        · have := hb u hu; omega) x hx
    show _ ≤ n + (1 + a.sz + b.sz + r.sz)
    omega
theorem ifs_sz : ∀ t : RT α β, t.ifs ≤ t.sz
  | .nil => Nat.le_refl _
  | .leaf _ r => by have := ifs_sz r; show r.ifs ≤ 1 + r.sz; omega
  | .ifr _ _ a b r => by have := ifs_sz r; have := ifs_sz b; have := ifs_sz a; show 1 + a.ifs + b.ifs + r.ifs ≤ 1 + a.sz + b.sz + r.sz; omega
/-- the rows read are as many as the lines at most, the ifs are counted -/
theorem app_ifs : ∀ s t : RT α β, (s.app t).ifs = s.ifs + t.ifs
  | .nil, t => by show t.ifs = 0 + t.ifs; omega
  | .leaf _ r, t => app_ifs r t
  | .ifr _ _ a b r, t => by show 1 + a.ifs + b.ifs + (r.app t).ifs = 1 + a.ifs + b.ifs + r.ifs + t.ifs; rw [app_ifs r t]; omega
variable {rowF : Str → Nat → Option α} {partF : Str → Option β}
theorem Rd.good {md : Md} {ls : List Str} {n i : Nat} {R : Res α β} (h : Rd rowF partF md ls n i R) : ∀ t w ls' n' i', R = .ok t w ls' n' i' → t.sz + ls'.length ≤ ls.length + (match md with | .cond _ => 1 | _ => 0) ∧ i' = i + t.ifs := by
  induction h with
  | eof => rintro t w ls' n' i' ⟨⟩; exact ⟨Nat.le_refl _, rfl⟩
  | @fin t r n i _ => rintro t2 w ls' n' i' ⟨⟩; exact ⟨by show 0 + r.length ≤ r.length + 1 + 0; omega, rfl⟩
  | eofI => intro t w ls' n' i' e; cases e
  | finO _ => intro t w ls' n' i' e; cases e
  | bad => intro t w ls' n' i' e; cases e
  | ifE => intro t w ls' n' i' e; cases e
  | badC => intro t w ls' n' i' e; cases e
  | aE => intro t w ls' n' i' e; cases e
  | bE => intro t w ls' n' i' e; cases e
  | elsE => intro t w ls' n' i' e; cases e
  | @leaf b t r n i x R _ _ _ _ ih =>
    intro t' w ls' n' i' e
    cases R with
    | err k => cases e
    | ok u w2 l m i2 =>
      cases e
      obtain ⟨h1, h2⟩ := ih _ _ _ _ _ rfl
      exact ⟨by show 1 + u.sz + _ ≤ r.length + 1 + 0; simp at h1; omega, h2⟩
  | @ifr b t r n i l ps x y r2 n2 i2 R _ _ _ _ ih1 ih2 =>
    intro t' w ls' n' i' e
    cases R with
    | err k => cases e
    | ok u w2 l2 m i3 =>
      cases e
      obtain ⟨h1, h2⟩ := ih1 _ _ _ _ _ rfl
      obtain ⟨h3, h4⟩ := ih2 _ _ _ _ _ rfl
      have h1 : 1 + x.sz + y.sz + 0 + r2.length ≤ r.length + 1 := h1
      have h2 : i2 = i + (1 + x.ifs + y.ifs + 0) := h2
      have h3 : u.sz + ls'.length ≤ r2.length + 0 := h3
      exact ⟨by show 1 + x.sz + y.sz + u.sz + ls'.length ≤ r.length + 1 + 0; omega, by show i' = i + (1 + x.ifs + y.ifs + u.ifs); omega⟩
  | @one text r n i ps x r2 n2 i2 _ _ ih =>
    rintro t w ls' n' i' ⟨⟩
    obtain ⟨h1, h2⟩ := ih _ _ _ _ _ rfl
    exact ⟨by show 1 + x.sz + 0 + 0 + _ ≤ _ + 1; simp at h1; omega, by show _ = i + (1 + x.ifs + 0 + 0); omega⟩
  | @two text r n i ps x r2 n2 i2 y r3 n3 i3 _ _ _ ih1 ih2 =>
    rintro t w ls' n' i' ⟨⟩
    obtain ⟨h1, h2⟩ := ih1 _ _ _ _ _ rfl
    obtain ⟨h3, h4⟩ := ih2 _ _ _ _ _ rfl
    exact ⟨by show 1 + x.sz + y.sz + 0 + _ ≤ _ + 1; simp at h1 h3; omega, by show _ = i + (1 + x.ifs + y.ifs + 0); omega⟩
end Rdr
namespace Rdr
open PySem
variable {α β : Type}
def RT.its : RT α β → List (It α β)
  | .nil => []
  | .leaf x r => .leaf x :: r.its
  | .ifr l ps a b r => .ifi l ps a b :: r.its
def It.all : It α β → List (It α β)
  | .leaf x => [.leaf x]
  | .ifi l ps a b => .ifi l ps a b :: (a.all ++ b.all)
def It.stepW (fin : α → Bool) : It α β → Wy α β → List (Wy α β)
  | .leaf x, y => if y.2 then [(y.1, true)] else [(y.1 ++ [.leaf x], fin x)]
  | .ifi l ps a b, y => if y.2 then [(y.1, true)] else (a.ways fin ++ b.ways fin).map fun z => (y.1 ++ .ifi l ps a b :: z.1, z.2)
def It.sz : It α β → Nat
  | .leaf _ => 1
  | .ifi _ _ a b => 1 + a.sz + b.sz
def It.dep : It α β → Nat
  | .leaf _ => 0
  | .ifi _ _ a b => max a.dep b.dep + 1
def It.ifs : It α β → Nat
  | .leaf _ => 0
  | .ifi _ _ a b => 1 + a.ifs + b.ifs
theorem toL_its (fa : α → List PyData) (fb : β → List PyData) : ∀ t : RT α β, t.toL fa fb = t.its.map (It.toD fa fb)
  | .nil => rfl
  | .leaf x r => by show _ :: _ = _ :: _; rw [toL_its fa fb r]; rfl
  | .ifr l ps a b r => by show _ :: _ = _ :: _; rw [toL_its fa fb r]; rfl
theorem all_its : ∀ t : RT α β, t.all = t.its.flatMap It.all
  | .nil => rfl
  | .leaf x r => by show _ :: _ = _; rw [all_its r]; rfl
  | .ifr l ps a b r => by show _ :: _ = _; rw [all_its r]; rfl
theorem waysF_its (fin : α → Bool) : ∀ (t : RT α β) (ws : List (Wy α β)), t.waysF fin ws = t.its.foldl (fun ws it => ws.flatMap (it.stepW fin)) ws
  | .nil, _ => rfl
  | .leaf x r, ws => waysF_its fin r _
  | .ifr l ps a b r, ws => waysF_its fin r _
theorem its_sz : ∀ (t : RT α β) (it : It α β), it ∈ t.its → it.sz ≤ t.sz ∧ it.dep ≤ t.dep ∧ it.ifs ≤ t.ifs
  | .nil, _, h => by cases h
  | .leaf x r, it, h => by
    rcases List.mem_cons.mp h with e | h
    · subst e; exact ⟨by show 1 ≤ 1 + r.sz; omega, Nat.zero_le _, Nat.zero_le _⟩
    · obtain ⟨h1, h2, h3⟩ := its_sz r it h
      exact ⟨by show _ ≤ 1 + r.sz; omega, h2, h3⟩
  | .ifr l ps a b r, it, h => by
    rcases List.mem_cons.mp h with e | h
    · subst e; exact ⟨by show 1 + a.sz + b.sz ≤ 1 + a.sz + b.sz + r.sz; omega, by show _ ≤ max (max a.dep b.dep + 1) r.dep; exact Nat.le_max_left _ _, by show 1 + a.ifs + b.ifs ≤ 1 + a.ifs + b.ifs + r.ifs; omega⟩
    · obtain ⟨h1, h2, h3⟩ := its_sz r it h
      exact ⟨by show _ ≤ 1 + a.sz + b.sz + r.sz; omega, by show _ ≤ max (max a.dep b.dep + 1) r.dep; omega, by show _ ≤ 1 + a.ifs + b.ifs + r.ifs; omega⟩
theorem take_fm_le {γ δ : Type} (f : γ → List δ) (l : List γ) (i : Nat) : ((l.take i).flatMap f).length ≤ (l.flatMap f).length := by
  have h : l.flatMap f = (l.take i).flatMap f ++ (l.drop i).flatMap f := by rw [← List.flatMap_append, List.take_append_drop]
  rw [h, List.length_append]
  omega
theorem take_fm {γ δ : Type} (f : γ → List δ) {l : List γ} {i : Nat} {x : γ} (h : l[i]? = some x) : (l.take (i + 1)).flatMap f = (l.take i).flatMap f ++ f x := by
  rw [List.take_succ, h, List.flatMap_append]
  simp
theorem take_mp {γ δ : Type} (f : γ → δ) {l : List γ} {i : Nat} {x : γ} (h : l[i]? = some x) : (l.take (i + 1)).map f = (l.take i).map f ++ [f x] := by
  rw [List.take_succ, h, List.map_append]
  simp
end Rdr
namespace Rdr
open PySem
variable {α β : Type}
def RT.ofL : List (It α β) → RT α β
  | [] => .nil
  | .leaf x :: r => .leaf x (RT.ofL r)
  | .ifi l ps a b :: r => .ifr l ps a b (RT.ofL r)
theorem its_ofL : ∀ l : List (It α β), (RT.ofL l).its = l
  | [] => rfl
  | .leaf x :: r => congrArg _ (its_ofL r)
  | .ifi l ps a b :: r => congrArg _ (its_ofL r)
theorem ofL_its : ∀ t : RT α β, RT.ofL t.its = t
  | .nil => rfl
  | .leaf x r => congrArg _ (ofL_its r)
  | .ifr l ps a b r => congrArg _ (ofL_its r)
theorem ofL_take : ∀ (l : List (It α β)) (i : Nat), (RT.ofL (l.take i)).ifs ≤ (RT.ofL l).ifs ∧ (RT.ofL (l.take i)).sz ≤ (RT.ofL l).sz
  | l, 0 => ⟨Nat.zero_le _, Nat.zero_le _⟩
  | [], i + 1 => ⟨Nat.zero_le _, Nat.zero_le _⟩
  | .leaf x :: r, i + 1 => by
    obtain ⟨h1, h2⟩ := ofL_take r i
    exact ⟨h1, by show 1 + _ ≤ 1 + _; omega⟩
  | .ifi l ps a b :: r, i + 1 => by
    obtain ⟨h1, h2⟩ := ofL_take r i
    exact ⟨by show 1 + a.ifs + b.ifs + _ ≤ 1 + a.ifs + b.ifs + _; omega, by show 1 + a.sz + b.sz + _ ≤ 1 + a.sz + b.sz + _; omega⟩
theorem take_ways (fin : α → Bool) (t : RT α β) (i : Nat) (hi : t.ifs ≤ 9) (hs : t.sz ≤ 1000) : ((t.its.take i).foldl (fun ws it => ws.flatMap (it.stepW fin)) [([], false)]).length ≤ 512 ∧ ∀ x ∈ (t.its.take i).foldl (fun ws it => ws.flatMap (it.stepW fin)) ([([], false)] : List (Wy α β)), x.1.length ≤ 1000 := by
  have e := waysF_its fin (RT.ofL (t.its.take i)) [([], false)]
  rw [its_ofL] at e
  obtain ⟨h1, h2⟩ := ofL_take t.its i
  rw [ofL_its] at h1 h2
  rw [← e]
  refine ⟨?_, fun x hx => ?_⟩
  · have h3 := waysF_len fin (RT.ofL (t.its.take i)) [([], false)]
    rw [List.length_singleton, Nat.one_mul] at h3
    exact Nat.le_trans h3 (Nat.le_trans (Nat.pow_le_pow_right (by decide) (Nat.le_trans h1 hi)) (by decide))
  · have := waysF_met fin (RT.ofL (t.its.take i)) [([], false)] 0 (fun x hx => by rw [List.mem_singleton] at hx; rw [hx]; exact Nat.le_refl _) x hx
    omega
end Rdr
namespace L2
open PySem PySem.Spec PyProof.Rows
/-- for .. in a tuple display, while something else changes -/
theorem for_dispX {K : PySem.W.Frag} {ta : TA} {g : TG} {tb : TS} {D : Ends} {σ : St} {H : Hp} {xs : List V} (Pv : Addr → Nat → St → Hp → Prop) (ha : EvA ta σ H xs) (h0 : ∀ a H1 H2, Same H H1 → H1 a = none → Same H1 H2 → H2 a = some (.tup xs) → Pv a 0 σ H2) (hs : ∀ a i σ H, Pv a i σ H → SqT K H a xs)
    (h2 : ∀ a i x σ H, xs[i]? = some x → Pv a i σ H → g x σ H fun σ2 H2 => tb { nx := Pv a (i + 1), rt := D.rt, bk := D.nx, ct := Pv a (i + 1) } σ2 H2) (h3 : ∀ a σ H, Pv a xs.length σ H → D.nx σ H) (hl : Nat.ble xs.length 1000 = true := by rfl) : tFor (iTup K (tTup ta)) g tb D σ H := by
  refine ha _ fun H1 s1 => ⟨szL hl, fun a hT => ⟨a, rfl, ⟨xs, .inl (.inl upd_same)⟩, ?_⟩⟩
  exact for_tup (Pv a) (h0 a H1 _ s1 hT (Same.new hT) upd_same) (fun i σ H _ k => hs a i σ H k) (fun i x σ H hx k => h2 a i x σ H hx k) (fun σ H k => h3 a σ H k)
end L2
namespace Rdr
variable {α β : Type}
/-- a way's rows are rows of the code -/
theorem ways_mem (fin : α → Bool) : ∀ (t : RT α β) (ws : List (Wy α β)), ∀ x ∈ t.waysF fin ws, ∀ it ∈ x.1, it ∈ t.all ∨ ∃ y ∈ ws, it ∈ y.1
  | .nil, ws, x, hx, it, hi => .inr ⟨x, hx, hi⟩
  | .leaf y r, ws, x, hx, it, hi => by
    rcases ways_mem fin r _ x hx it hi with h | ⟨z, hz, h⟩
    · exact .inl (List.mem_cons_of_mem _ h)
    · rw [List.mem_flatMap] at hz
      obtain ⟨u, hu, hz⟩ := hz
      split at hz
      · rw [List.mem_singleton] at hz; subst hz; exact .inr ⟨u, hu, h⟩
      · rw [List.mem_singleton] at hz
        subst hz
        rcases List.mem_append.mp h with h | h
        · exact .inr ⟨u, hu, h⟩
        · exact .inl (by rw [List.mem_singleton.mp h]; exact List.mem_cons_self ..)
  | .ifr l ps a b r, ws, x, hx, it, hi => by
    have sub : ∀ j, j ∈ a.all ∨ j ∈ b.all ∨ j ∈ r.all → j ∈ (RT.ifr l ps a b r).all := fun j h => by
      show j ∈ It.ifi l ps a b :: ((a.all ++ b.all) ++ r.all)
      simp only [List.mem_cons, List.mem_append]
      rcases h with h | h | h
      · exact .inr (.inl (.inl h))
      · exact .inr (.inl (.inr h))
      · exact .inr (.inr h)
    rcases ways_mem fin r _ x hx it hi with h | ⟨z, hz, h⟩
    · exact .inl (sub _ (.inr (.inr h)))
    · rw [List.mem_flatMap] at hz
      obtain ⟨u, hu, hz⟩ := hz
      split at hz
      · rw [List.mem_singleton] at hz; subst hz; exact .inr ⟨u, hu, h⟩
      · rw [List.mem_map] at hz
        obtain ⟨v, hv, rfl⟩ := hz
        rcases List.mem_append.mp h with h | h
        · exact .inr ⟨u, hu, h⟩
        · rcases List.mem_cons.mp h with h | h
          · subst h; exact .inl (List.mem_cons_self ..)
          · rcases List.mem_append.mp hv with hv | hv
            · rcases ways_mem fin a _ v hv it h with h | ⟨y, hy, h⟩
              · exact .inl (sub _ (.inl h))
              · rw [List.mem_singleton] at hy; subst hy; cases h
            · rcases ways_mem fin b _ v hv it h with h | ⟨y, hy, h⟩
              · exact .inl (sub _ (.inr (.inl h)))
              · rw [List.mem_singleton] at hy; subst hy; cases h
end Rdr
namespace Rdr
variable {α β : Type} {rowF : PySem.Str → Nat → Option α} {partF : PySem.Str → Option β}
/-- where the rows come from -/
def Src (rowF : PySem.Str → Nat → Option α) (it : It α β) : Prop := match it with
  | .leaf x => ∃ text n, rowF text n = some x
  | .ifi _ ps _ _ => ps.length ≤ 4
theorem Rd.src {md : Md} {ls : List PySem.Str} {n i : Nat} {R : Res α β} (h : Rd rowF partF md ls n i R) : ∀ t w ls' n' i', R = .ok t w ls' n' i' → ∀ it ∈ t.all, Src rowF it := by
  induction h with
  | eof => rintro t w ls' n' i' ⟨⟩ it h; cases h
  | fin _ => rintro t w ls' n' i' ⟨⟩ it h; cases h
  | eofI => intro t w ls' n' i' e; cases e
  | finO _ => intro t w ls' n' i' e; cases e
  | bad => intro t w ls' n' i' e; cases e
  | ifE => intro t w ls' n' i' e; cases e
  | badC => intro t w ls' n' i' e; cases e
  | aE => intro t w ls' n' i' e; cases e
  | bE => intro t w ls' n' i' e; cases e
  | elsE => intro t w ls' n' i' e; cases e
  | @leaf b t r n i x R _ _ hx _ ih =>
    intro t' w ls' n' i' e it hit
    cases R with
    | err k => cases e
    | ok u w2 l m i2 =>
      cases e
      rcases List.mem_cons.mp hit with e | hit
      · subst e; exact ⟨_, _, hx⟩
      · exact ih _ _ _ _ _ rfl it hit
  | @ifr b t r n i l ps x y r2 n2 i2 R _ _ _ _ ih1 ih2 =>
    intro t' w ls' n' i' e it hit
    cases R with
    | err k => cases e
    | ok u w2 l2 m i3 =>
      cases e
      have h1 := ih1 _ _ _ _ _ rfl
      have hit' : it ∈ It.ifi l ps x y :: ((x.all ++ y.all) ++ u.all) := hit
      rw [List.mem_cons, List.mem_append] at hit'
      rcases hit' with e | hit' | hit'
      · exact h1 it (by show it ∈ It.ifi l ps x y :: ((x.all ++ y.all) ++ []); rw [e]; exact List.mem_cons_self ..)
      · exact h1 it (by show it ∈ It.ifi l ps x y :: ((x.all ++ y.all) ++ []); rw [List.append_nil]; exact List.mem_cons_of_mem _ hit')
      · exact ih2 _ _ _ _ _ rfl it hit'
  | @one text r n i ps x r2 n2 i2 hg _ ih =>
    rintro t w ls' n' i' ⟨⟩ it hit
    have hit' : it ∈ It.ifi n ps x .nil :: ((x.all ++ []) ++ []) := hit
    rw [List.append_nil, List.append_nil, List.mem_cons] at hit'
    rcases hit' with e | hit'
    · subst e; exact hg.2
    · exact ih _ _ _ _ _ rfl it hit'
  | @two text r n i ps x r2 n2 i2 y r3 n3 i3 hg _ _ ih1 ih2 =>
    rintro t w ls' n' i' ⟨⟩ it hit
    have hit' : it ∈ It.ifi n ps x y :: ((x.all ++ y.all) ++ []) := hit
    rw [List.append_nil, List.mem_cons, List.mem_append] at hit'
    rcases hit' with e | hit' | hit'
    · subst e; exact hg.2
    · exact ih1 _ _ _ _ _ rfl it hit'
    · exact ih2 _ _ _ _ _ rfl it hit'
end Rdr


set_option Elab.async false
set_option linter.all false
set_option maxRecDepth 100000
set_option maxHeartbeats 4000000
/-! comprehensions over lists and tuples that give data; in-place times -/
namespace L2
open PySem PySem.Spec PyProof.Rows
/-- found *= 2 -/
theorem ip_mul2 {X : Cx} : PIp X .Mult (fun x y H Q => ∃ i, x = .int i ∧ y = .int 2 ∧ Q (.int (i * 2)) H) := by
  intro pins s σ H x y v u Q I r1 r2 h
  obtain ⟨i, e1, e2, q⟩ := h
  subst e1; subst e2
  obtain ⟨t, rfl⟩ := r1
  obtain ⟨t', rfl⟩ := r2
  exact imul_int ⟨.int _, H, I.tok _, ⟨_, rfl⟩, q⟩ (IntMulOk.of_right (by decide))
/-- an expression that gives data -/
def EvD (K : PySem.W.Frag) (te : TE) (σ : St) (H : Hp) (d : PyData) : Prop := ∀ Q : VK, (∀ y H', Same H H' → Dq K H' y d → Q y H') → te σ H Q
theorem EvE.d {K : PySem.W.Frag} {te : TE} {σ : St} {H : Hp} {v : V} {d : PyData} (h : EvE te σ H v) (k : ∀ H', Same H H' → Dq K H' v d) : EvD K te σ H d := fun Q q => h Q fun H' s => q v H' s (k H' s)
section
variable {K : PySem.W.Frag} {tl te : TE} {g : TG} {tt : TT} {vs : List Nat} {σ : St} {H : Hp} {a : Addr} {xs : List V}
/-- what one entry does: left out, or told as data -/
def LcStep (K : PySem.W.Frag) (g : TG) (tt : TT) (te : TE) (vs : List Nat) (σ : St) (v : V) (H : Hp) (o : Option PyData) : Prop :=
  ∃ σ2, (∀ R : St → Hp → Prop, R σ2 H → g v (wipe σ vs) H R) ∧ wipe σ2 vs = wipe σ vs ∧ (match o with | none => EvT tt σ2 H false | some d => EvT tt σ2 H true ∧ ∀ H2, Same H H2 → EvD K te σ2 H2 d)
theorem fm_take {os : List (Option PyData)} {i : Nat} {o : Option PyData} (h : os[i]? = some o) : (os.take (i + 1)).filterMap id = (os.take i).filterMap id ++ (match o with | none => [] | some d => [d]) := by
  rw [tk1 h, List.filterMap_append]
  cases o <;> rfl
theorem lc_stepOk {D : Addr} {os : List (Option PyData)} {v : V} {o : Option PyData} {i : Nat} {H1 H2 : Hp} (hn : os.length ≤ 1000000) (ho : os[i]? = some o) (hD : H1 D = none) (s : Same H1 H2) (st : LcStep K g tt te vs σ v H2 o) {acc : List V} (hacc : H2 D = some (.lst acc)) (hd : DqAll K H2 acc ((os.take i).filterMap id)) :
    g v (wipe σ vs) H2 fun σ2 H2 => wipe σ2 vs = wipe σ vs ∧ tt σ2 H2 fun b H3 => if b = true then te σ2 H3 fun y H4 => ∃ acc, H4 D = some (.lst acc) ∧ acc.length < sizeLine ∧ (Same H1 (upd H4 D (.lst (acc ++ [y]))) ∧ ∃ ac, upd H4 D (.lst (acc ++ [y])) D = some (.lst ac) ∧ DqAll K (upd H4 D (.lst (acc ++ [y]))) ac ((os.take (i + 1)).filterMap id))
      else (Same H1 H3 ∧ ∃ ac, H3 D = some (.lst ac) ∧ DqAll K H3 ac ((os.take (i + 1)).filterMap id)) := by
  obtain ⟨σ2, h1, h2, h3⟩ := st
  have q9 : sizeLine = 16777216 := sizeLine_eq
  refine h1 _ ⟨h2, ?_⟩
  cases o with
  | none =>
    refine h3 _ fun H3 s3 => ?_
    rw [if_neg (by decide)]
    refine ⟨s.tr s3, acc, s3 _ _ hacc, ?_⟩
    rw [fm_take ho, List.append_nil]
    exact hd.up s3.tl
  | some d =>
    refine h3.1 _ fun H3 s3 => ?_
    rw [if_pos rfl]
    refine h3.2 H3 s3 _ fun y H4 s4 hy => ?_
    have s24 := s3.tr s4
    have hl : acc.length ≤ os.length := by
      rw [hd.len]
      exact Nat.le_trans (List.length_filterMap_le _ _) (by rw [List.length_take]; omega)
    have tC : TupLe H4 (upd H4 D (.lst (acc ++ [y]))) := TupLe.mut (s24 _ _ hacc) fun xs z => by cases z
    refine ⟨acc, s24 _ _ hacc, by omega, (s.tr s24).mut hD, _, upd_same, ?_⟩
    rw [fm_take ho]
    exact ((hd.up s24.tl).up tC).snoc (hy.up tC)
theorem lc_dq (os : List (Option PyData)) (he : EvE tl σ H (.ref a)) (hs : SqL K H a xs) (hl : os.length = xs.length) (hn : os.length ≤ 1000000)
    (step : ∀ (i : Nat) (v : V) (o : Option PyData) (H' : Hp), xs[i]? = some v → os[i]? = some o → Same H H' → LcStep K g tt te vs σ v H' o) {Q : VK} (k : ∀ q ys H', Same H H' → H q = none → H' q = some (.lst ys) → DqAll K H' ys (os.filterMap id) → Q (.ref q) H') : tLc (iList K tl) g tt te vs σ H Q :=
  he _ fun H1 s1 => ⟨a, rfl, ⟨xs, s1.sql hs⟩, fun D hD => by
    refine lc_list (xs := xs) (fun i H' => Same H1 H' ∧ ∃ ac, H' D = some (.lst ac) ∧ DqAll K H' ac ((os.take i).filterMap id)) ⟨Same.new hD, [], upd_same, .nil⟩ (fun i H' _ h => (s1.tr h.1).sql hs) ?_ (fun H2 h => ?_)
    · rintro i v H2 hv ⟨s2, acc, hacc, hd⟩
      have hi : i < os.length := by
        by_cases z : i < os.length
        · exact z
        · rw [List.getElem?_eq_none (by omega)] at hv; cases hv
      have ho : os[i]? = some os[i] := List.getElem?_eq_getElem hi
      exact lc_stepOk hn ho hD s2 (step i v _ H2 hv ho (s1.tr s2)) hacc hd
    · obtain ⟨s2, acc, hacc, hd⟩ := h
      rw [← hl, List.take_length] at hd
      exact k D acc H2 (s1.tr s2) (none_of s1 hD) hacc hd⟩
theorem lct_dq (os : List (Option PyData)) (he : EvE tl σ H (.ref a)) (hs : SqT K H a xs) (hl : os.length = xs.length) (hn : os.length ≤ 1000000)
    (step : ∀ (i : Nat) (v : V) (o : Option PyData) (H' : Hp), xs[i]? = some v → os[i]? = some o → Same H H' → LcStep K g tt te vs σ v H' o) {Q : VK} (k : ∀ q ys H', Same H H' → H q = none → H' q = some (.lst ys) → DqAll K H' ys (os.filterMap id) → Q (.ref q) H') : tLc (iTup K tl) g tt te vs σ H Q :=
  he _ fun H1 s1 => ⟨a, rfl, ⟨xs, s1.seqT hs⟩, fun D hD => by
    refine lc_tup (xs := xs) (fun i H' => Same H1 H' ∧ ∃ ac, H' D = some (.lst ac) ∧ DqAll K H' ac ((os.take i).filterMap id)) ⟨Same.new hD, [], upd_same, .nil⟩ (fun i H' _ h => (s1.tr h.1).seqT hs) ?_ (fun H2 h => ?_)
    · rintro i v H2 hv ⟨s2, acc, hacc, hd⟩
      have hi : i < os.length := by
        by_cases z : i < os.length
        · exact z
        · rw [List.getElem?_eq_none (by omega)] at hv; cases hv
      have ho : os[i]? = some os[i] := List.getElem?_eq_getElem hi
      exact lc_stepOk hn ho hD s2 (step i v _ H2 hv ho (s1.tr s2)) hacc hd
    · obtain ⟨s2, acc, hacc, hd⟩ := h
      rw [← hl, List.take_length] at hd
      exact k D acc H2 (s1.tr s2) (none_of s1 hD) hacc hd⟩
theorem lcr_dq {ta : TA} {lo hi : Int} (os : List (Option PyData)) (he : EvA ta σ H [.int lo, .int hi]) (hb : -(2 ^ 62) ≤ lo ∧ lo < 2 ^ 62 ∧ -(2 ^ 62) ≤ hi ∧ hi < 2 ^ 62) (hl : os.length = (hi - lo).toNat) (hn : os.length ≤ 1000000)
    (step : ∀ (i : Nat) (o : Option PyData) (H' : Hp), os[i]? = some o → Same H H' → LcStep K g tt te vs σ (.int (lo + i)) H' o) {Q : VK} (k : ∀ q ys H', Same H H' → H q = none → H' q = some (.lst ys) → DqAll K H' ys (os.filterMap id) → Q (.ref q) H') : tLc (iRng2 ta) g tt te vs σ H Q :=
  he _ fun H1 s1 => ⟨lo, hi, rfl, hb, fun D hD => by
    refine lc_range (fun i H' => Same H1 H' ∧ ∃ ac, H' D = some (.lst ac) ∧ DqAll K H' ac ((os.take i).filterMap id)) ⟨Same.new hD, [], upd_same, .nil⟩ ?_ (fun H2 h => ?_)
    · rintro i H2 hi ⟨s2, acc, hacc, hd⟩
      have ho : os[i]? = some os[i] := List.getElem?_eq_getElem (by omega)
      exact lc_stepOk hn ho hD s2 (step i _ H2 ho (s1.tr s2)) hacc hd
    · obtain ⟨s2, acc, hacc, hd⟩ := h
      rw [← hl, List.take_length] at hd
      exact k D acc H2 (s1.tr s2) (none_of s1 hD) hacc hd⟩
theorem lc_of (Good : Addr → List V → Hp → Prop) {Q : VK} (he : ∀ R : VK, (∀ pa xs H1, Good pa xs H1 → R (.ref pa) H1) → tl σ H R) (h : ∀ pa xs H1, Good pa xs H1 → tLc (iList K (tC (.ref pa))) g tt te vs σ H1 Q) : tLc (iList K tl) g tt te vs σ H Q := he _ fun pa xs H1 k => h pa xs H1 k
theorem lct_of (Good : Addr → List V → Hp → Prop) {Q : VK} (he : ∀ R : VK, (∀ pa xs H1, Good pa xs H1 → R (.ref pa) H1) → tl σ H R) (h : ∀ pa xs H1, Good pa xs H1 → tLc (iTup K (tC (.ref pa))) g tt te vs σ H1 Q) : tLc (iTup K tl) g tt te vs σ H Q := he _ fun pa xs H1 k => h pa xs H1 k
end
theorem ev_orV {a b : TE} {σ : L2.St} {H : Hp} {b1 b2 : Bool} (ha : EvE a σ H (.bl b1)) (hb : b1 = false → ∀ H1, Same H H1 → EvE b σ H1 (.bl b2)) : EvE (tOrV a b) σ H (.bl (b1 || b2)) := by
  intro Q k
  refine ha _ fun H1 s1 => ⟨b1, rfl, ?_⟩
  cases b1 with
  | true => exact iteT (k H1 s1)
  | false => exact iteF (hb rfl H1 s1 _ fun H2 s2 => k H2 (s1.tr s2))
theorem ev_chain {tb : TE} {σ : St} {H : Hp} {a n c : Int} (h : ∀ H1, Same H H1 → EvE tb σ H1 (.int n)) : EvE (tChain (rI0 fun i j => .bl (decide (i ≤ j))) (rI0 fun i j => .bl (decide (i ≤ j))) (tC (.int a)) tb (tC (.int c))) σ H (.bl (decide (a ≤ n) && decide (n ≤ c))) := fun Q k => h H (Same.rf H) _ fun H1 s1 => ⟨_, _, rfl, rfl, _, rfl, iteB (fun g => ⟨_, _, rfl, rfl, by rw [g, Bool.true_and] at k; exact k H1 s1⟩) fun g => by rw [g, Bool.false_and] at k; exact k H1 s1⟩
theorem ev_yes {σ : St} {H : Hp} : EvT tYes σ H true := fun R k => k H (Same.rf H)
theorem dq_bools {K : PySem.W.Frag} {H : Hp} : ∀ {vs : List V} {bs : List Bool}, DqAll K H vs (bs.map PyData.bool) → vs = bs.map V.bl
  | _, [], h => by cases h; rfl
  | _, b :: bs, h => by
    cases h with
    | cons h1 h2 => cases h1; rw [dq_bools h2]; rfl
theorem dq_ints {K : PySem.W.Frag} {H : Hp} : ∀ {vs : List V} {ns : List Int}, DqAll K H vs (ns.map PyData.int) → vs = ns.map V.int
  | _, [], h => by cases h; rfl
  | _, b :: bs, h => by
    cases h with
    | cons h1 h2 => cases h1; rw [dq_ints h2]; rfl
theorem fm_some {γ : Type} (f : γ → PyData) (l : List γ) : (l.map fun x => some (f x)).filterMap id = l.map f := by
  induction l with
  | nil => rfl
  | cons x r ih => rw [List.map_cons, List.filterMap_cons, ih]; rfl
end L2


set_option Elab.async false
set_option linter.all false
set_option maxRecDepth 100000
set_option maxHeartbeats 4000000
/-! drawing -/
namespace K03
open PySem PySem.Spec PyProof.Rows L2
section
variable {K : PySem.W.Frag}
theorem bag_d {H : Hp} {d c : Addr} {n : Nat} (h : Bag H d c n) : ∃ kv, H d = some (.dK kv) := by
  obtain ⟨cs, a, dg, cnt, fo, h1, _⟩ := h
  exact ⟨_, h1⟩
theorem bag_c {H : Hp} {d c : Addr} {n : Nat} (h : Bag H d c n) : ∃ l, H c = some (.lst l) := by
  obtain ⟨cs, a, dg, cnt, fo, _, h2, _⟩ := h
  exact ⟨_, h2⟩
theorem draw_go {σ : L2.St} {H : Hp} {Q : VK} {d c : Addr} {n i : Nat} {lim : Nat} (hi : σ[i]? = some (some (.ref d))) (hb : Bag H d c n) (hn : n < 2 ^ 30) (h0 : 0 < lim) (h1 : lim ≤ 1000) (k : ∀ (r : Nat) H', r < lim → SameX d H H' → Bag H' d c (n + 1) → Q (.int (r : Nat)) H') :
    tCall spDraw [] E0 (tCons (tVar i) (tCons (tC (.int (lim : Nat))) tNil)) σ H Q :=
  ⟨_, hi, d, c, n, (lim : Nat), rfl, hb, by omega, by omega, by omega, fun r H' r0 r1 s hb' => by
    obtain ⟨m, rfl⟩ := Int.eq_ofNat_of_zero_le r0
    exact k m H' (by omega) s hb'⟩
theorem bag_ne {H : Hp} {d c x : Addr} {n : Nat} {l : List V} (h : Bag H d c n) (hx : H x = some (.lst l)) : x ≠ d := fun e => by
  obtain ⟨kv, hd⟩ := bag_d h
  rw [e, hd] at hx
  cases hx
/-- xs[draw(bag, len)], xs a list display -/
theorem pick_go {σ : L2.St} {H : Hp} {Q : VK} {ta : TA} {xs : List V} {d c : Addr} {n i lim : Nat} (ha : EvA ta σ H xs) (hi : σ[i]? = some (some (.ref d))) (hb : Bag H d c n) (hn : n < 2 ^ 30) (hl : lim = xs.length) (h0 : 0 < lim) (k : ∀ (r : Nat) v H', xs[r]? = some v → SameX d H H' → Bag H' d c (n + 1) → Q v H') (h1 : Nat.ble xs.length 1000 = true := by rfl) :
    tOp (rIxL K) (tLst ta) (tCall spDraw [] E0 (tCons (tVar i) (tCons (tC (.int (lim : Nat))) tNil))) σ H Q := by
  refine mk_lst (Q := fun x H1 => tCall spDraw [] E0 (tCons (tVar i) (tCons (tC (.int (lim : Nat))) tNil)) σ H1 fun y H2 => rIxL K x y H2 Q) ha (fun H1 l s1 _ hl1 => ?_) h1
  refine draw_go hi (hb.up s1) hn h0 (by have := Nat.le_of_ble_eq_true h1; omega) (fun r H2 hr s2 hb2 => ?_)
  have hlt : r < xs.length := by omega
  refine ⟨l, xs, r, xs[r], rfl, rfl, .inl (.inl (s2 _ _ (bag_ne (hb.up s1) hl1) hl1)), atI_nat (by simp [hlt]), k r _ H2 (by simp [hlt]) (s1.x.tr s2) hb2⟩
/-- xs[draw(bag, len)], xs a name -/
theorem pickv_go {σ : L2.St} {H : Hp} {Q : VK} {xs : List V} {p d c : Addr} {n i j lim : Nat} (hv : σ[j]? = some (some (.ref p))) (hp : H p = some (.lst xs)) (hi : σ[i]? = some (some (.ref d))) (hb : Bag H d c n) (hn : n < 2 ^ 30) (hl : lim = xs.length) (h0 : 0 < lim) (h1 : lim ≤ 1000) (k : ∀ (r : Nat) v H', xs[r]? = some v → SameX d H H' → Bag H' d c (n + 1) → Q v H') :
    tOp (rIxL K) (tVar j) (tCall spDraw [] E0 (tCons (tVar i) (tCons (tC (.int (lim : Nat))) tNil))) σ H Q := by
  refine ⟨_, hv, draw_go hi hb hn h0 h1 (fun r H2 hr s2 hb2 => ?_)⟩
  have hlt : r < xs.length := by omega
  exact ⟨p, xs, r, xs[r], rfl, rfl, .inl (.inl (s2 _ _ (bag_ne hb hp) hp)), atI_nat (by simp [hlt]), k r _ H2 (by simp [hlt]) s2 hb2⟩
end
end K03


set_option Elab.async false
set_option linter.all false
set_option maxRecDepth 100000
set_option maxHeartbeats 4000000
/-! ### numbers, atoms and sums of texts: the plain functions -/
namespace Tld
open PySem L2
def isDig (c : Nat) : Bool := decide (48 ≤ c) && decide (c ≤ 57)
def numOk (cs : List Nat) : Bool := !cs.isEmpty && cs.all isDig && decide (cs.length ≤ 30) && !(decide (1 < cs.length) && (cs.head? == some 48))
/-- the number that a word writes -/
def tNum (w : Str) : Option Int := if numOk w.cps.toList = true then some ((NumText.digitsVal w.cps.toList : Nat) : Int) else none
def oI : Option Int → V
  | none => .non
  | some n => .int n
theorem uni_dig : ∀ c < 128, Unicode.isDigit c = isDig c := by decide +kernel
theorem len_tl (w : Str) : w.cps.toList.length = w.length := Array.length_toList
theorem asc_dig {w : Str} (h : Txt.isascii w = true) : Txt.isdigit w = (!w.cps.toList.isEmpty && w.cps.toList.all isDig) := by
  have h1 : ∀ c ∈ w.cps.toList, c < 128 := fun c hc => by
    have z : w.cps.all (· < 128) = true := h
    rw [← Array.all_toList] at z
    exact of_decide_eq_true (List.all_eq_true.mp z c hc)
  show (decide (w.length > 0) && w.cps.all Unicode.isDigit) = _
  rw [← Array.all_toList]
  have e1 : w.cps.toList.all Unicode.isDigit = w.cps.toList.all isDig := by
    rw [Bool.eq_iff_iff, List.all_eq_true, List.all_eq_true]
    exact ⟨fun z c hc => by rw [← uni_dig c (h1 c hc)]; exact z c hc, fun z c hc => by rw [uni_dig c (h1 c hc)]; exact z c hc⟩
  rw [e1]
  congr 1
  have e2 := len_tl w
  cases e : w.cps.toList with
  | nil => rw [e] at e2; rw [← e2]; rfl
  | cons a r => rw [e] at e2; rw [← e2]; rfl
theorem not_asc {w : Str} (h : Txt.isascii w = false) : numOk w.cps.toList = false := by
  cases z : numOk w.cps.toList with
  | false => rfl
  | true =>
    unfold numOk at z
    rw [Bool.and_eq_true, Bool.and_eq_true, Bool.and_eq_true] at z
    have q : w.cps.all (· < 128) = true := by
      rw [← Array.all_toList, List.all_eq_true]
      intro c hc
      have d := List.all_eq_true.mp z.1.1.2 c hc
      unfold isDig at d
      rw [Bool.and_eq_true, decide_eq_true_eq, decide_eq_true_eq] at d
      exact decide_eq_true (by omega)
    have h' : w.cps.all (· < 128) = false := h
    rw [q] at h'
    cases h'
theorem num_int {w : Str} (h : numOk w.cps.toList = true) : intText? w = some ((NumText.digitsVal w.cps.toList : Nat) : Int) := by
  unfold numOk at h
  rw [Bool.and_eq_true, Bool.and_eq_true, Bool.and_eq_true] at h
  refine intText_digits (fun c hc => ?_) (fun z => ?_) ?_
  · have d := List.all_eq_true.mp h.1.1.2 c hc
    unfold isDig at d
    rw [Bool.and_eq_true, decide_eq_true_eq, decide_eq_true_eq] at d
    exact d
  · rw [z] at h
    exact nomatch h.1.1.1
  · have z := of_decide_eq_true h.1.2
    rw [len_tl] at z
    omega
def oS : Option Str → V
  | none => .non
  | some z => .str z
def tAtom (ns : List Str) (z : Str) : Option (Int × Option Str) := if z ∈ ns then some (1, some z) else (tNum z).map fun n => (n, none)
end Tld
namespace K03
open PySem PySem.Spec PyProof.Rows L2 Tld
section
variable {P : Program} {w : World} {K : PySem.W.Frag} {mg : Str → Option Value} {base : Heap}
def spNum : Sp := fun vs H Q _ => ∃ z : Str, vs = [.str z] ∧ z.length ≤ 1000000 ∧ Q (oI (tNum z)) H
theorem ok_told_number (T : Tx P w K mg) : FnX P w K mg base CX0 1 "told_number" ["word"] [] spNum := by
  refine T.d_told_number.ok0 sc_told_number (fun _ _ _ _ _ _ us hl => match us, hl with | [_], _ => rfl) (fun vs H Q E h => ?_) (fun f cdv A outer s H vs Q E hr h => ⟨_, (by exact (pss_cons (ps_if (PW.pt (pw_or (pt_not (pt_val (pe_m0 PySem.F.slot_str_isascii PySem.F.type_str_isascii mt_isascii (pv 0)))) (pw_or (pt_not (pt_val (pe_m0 PySem.F.slot_str_isdigit PySem.F.type_str_isdigit mt_isdigit (pv 0)))) (pw_or (pt_cmpR op_gt (pe_callB call_len_str (by rfl) T.b_len (by decide +kernel) (pa_cons (pv 0) pa_nil)) (pe_gint T.c_MOST_FIGURES) (nomark _)) (pw_or1 (PW.pt (pw_and (pt_cmpR op_gt (pe_callB call_len_str (by rfl) T.b_len (by decide +kernel) (pa_cons (pv 0) pa_nil)) pe_int (nomark _)) (pw_and1 (pt_cmpR op_eq (pe_ix ix_str (pv 0) pe_int (fun _ _ => rfl)) pe_str (nomark _)))))))))) (pss_one (ps_ret pe_non)) pss_nil)
      (pss_one (ps_ret (pe_callTy call_int_str (by rfl) T.b_int (by decide +kernel) (pa_cons (pv 0) pa_nil)))))), ?_⟩)
  · obtain ⟨z, rfl, _⟩ := h
    rfl
  obtain ⟨z, rfl, hl, hQ⟩ := h
  have hsz : z.length ≤ sizeLine := Nat.le_trans hl (by decide)
  refine ⟨_, rfl, ⟨_, rfl⟩, _, rfl, rfl, trivial, _, rfl, ?_⟩
  refine iteB (fun h1 => ?_) (fun h1 => ?_)
  · have h1' : Txt.isascii z = false := by cases q : Txt.isascii z <;> rw [q] at h1 <;> first | rfl | cases h1
    have e : tNum z = none := if_neg (by rw [not_asc h1']; decide)
    rw [e] at hQ
    exact iteT hQ
  have a1 : Txt.isascii z = true := by cases q : Txt.isascii z <;> rw [q] at h1 <;> first | rfl | cases h1
  refine ⟨_, rfl, ⟨_, rfl⟩, _, rfl, rfl, trivial, _, rfl, ?_⟩
  have ed := asc_dig a1
  refine iteB (fun h2 => ?_) (fun h2 => ?_)
  · have h2' : (!z.cps.toList.isEmpty && z.cps.toList.all isDig) = false := by rw [← ed]; cases q : Txt.isdigit z <;> rw [q] at h2 <;> first | rfl | cases h2
    have e : tNum z = none := if_neg (by unfold numOk; rw [h2', Bool.false_and, Bool.false_and]; exact Bool.false_ne_true)
    rw [e] at hQ
    exact iteT hQ
  have a2 : (!z.cps.toList.isEmpty && z.cps.toList.all isDig) = true := by rw [← ed]; cases q : Txt.isdigit z <;> rw [q] at h2 <;> first | rfl | cases h2
  refine ⟨_, rfl, _, rfl, hsz, _, _, rfl, rfl, _, rfl, ?_⟩
  have el := len_tl z
  refine iteB (fun h3 => ?_) (fun h3 => ?_)
  · have h3' := of_decide_eq_true h3
    have e : tNum z = none := if_neg (by unfold numOk; rw [a2, decide_eq_false (show ¬ z.cps.toList.length ≤ 30 by omega), Bool.and_false, Bool.false_and]; exact Bool.false_ne_true)
    rw [e] at hQ
    exact iteT hQ
  have h3' := of_decide_eq_false h3
  refine ⟨_, rfl, _, rfl, hsz, _, _, rfl, rfl, _, rfl, ?_⟩
  have a3 : decide (z.cps.toList.length ≤ 30) = true := decide_eq_true (by omega)
  refine iteB (fun h4 => ?_) (fun h4 => ?_)
  · have h4' := of_decide_eq_true h4
    obtain ⟨c, r, ec⟩ : ∃ c r, z.cps.toList = c :: r := by
      cases q : z.cps.toList with
      | nil => rw [q] at el; simp at el; omega
      | cons c r => exact ⟨c, r, rfl⟩
    refine ⟨_, rfl, _, _, c, rfl, rfl, hsz, ?_, rfl, _, rfl, ?_⟩
    · rw [ec]
      exact atI_nat (j := 0) rfl
    refine iteB (fun h5 => ?_) (fun h5 => ?_)
    · have h5' : c = 48 := by
        have q := of_decide_eq_true h5
        have q2 : (⟨#[c]⟩ : Str) = Str.ofString "0" := V.str.inj q
        have q3 := congrArg (fun y : Str => y.cps.toList) q2
        have q4 : ([c] : List Nat) = [48] := q3
        exact List.head_eq_of_cons_eq q4
      have e : tNum z = none := if_neg (by unfold numOk; rw [a2, a3, ec, h5', decide_eq_true (show 1 < (48 :: r).length by rw [← h5', ← ec]; omega)]; exact Bool.false_ne_true)
      rw [e] at hQ
      exact hQ
    · have h5' : c ≠ 48 := fun q => by
        have q2 := of_decide_eq_false h5
        exact q2 (by rw [q]; rfl)
      have ok : numOk z.cps.toList = true := by
        unfold numOk
        rw [a2, a3, ec]
        have q : (([c] ++ r).head? == some 48) = false := by
          show (some c == some 48) = false
          simpa using h5'
        rw [show (c :: r).head? = ([c] ++ r).head? from rfl, q, Bool.and_false]
        rfl
      have e : tNum z = some _ := if_pos ok
      rw [e] at hQ
      exact ⟨_, rfl, _, _, rfl, num_int ok, by omega, hQ⟩
  · have h4' := of_decide_eq_false h4
    have ok : numOk z.cps.toList = true := by
      unfold numOk
      rw [a2, a3, decide_eq_false (show ¬ 1 < z.cps.toList.length by omega)]
      rfl
    have e : tNum z = some _ := if_pos ok
    rw [e] at hQ
    exact iteF ⟨_, rfl, _, _, rfl, num_int ok, by omega, hQ⟩

def spAtom (K : PySem.W.Frag) : Sp := fun vs H Q _ => ∃ (z : Str) (b : Addr) (ns : List Str), vs = [.str z, .ref b] ∧ SqT K H b (ns.map V.str) ∧ z.length ≤ 1000000 ∧
  (tAtom ns z = none → Q .non H) ∧ ∀ n o p, tAtom ns z = some (n, o) → H p = none → Q (.ref p) (upd H p (.tup [.int n, oS o]))
theorem ok_told_atom (T : Tx P w K mg) : FnX P w K mg base CX0 2 "told_atom" ["word", "names"] [] (spAtom K) := by
  have F_told_number := ok_told_number (P := P) (w := w) (base := base) T
  refine T.d_told_atom.ok0 sc_told_atom (fun _ _ _ _ _ _ us hl => match us, hl with | [_, _], _ => rfl) (fun vs H Q E h => ?_) (fun f cdv A outer s H vs Q E hr h => ⟨_, (by exact (pss_cons (ps_if (pt_cmpR op_in_seq (pv 0) (pv 1) (by rfl)) (pss_one (ps_ret (pe_tup (pa_cons pe_int (pa_cons (pv 0) pa_nil))))) pss_nil)
      (pss_cons (ps_set (i := 2) sc_told_atom.nd rfl (Or.inl rfl) (pe_callX F_told_number (hr.mono (by first | decide | omega)) pass0 (pa_cons (pv 0) pa_nil)))
      (pss_one (ps_ret (pe_ifExp (pt_cmpR op_isN (pv 2) pe_non (nomark _)) pe_non (pe_tup (pa_cons (pv 2) (pa_cons pe_non pa_nil))))))))), ?_⟩)
  · obtain ⟨z, b, ns, rfl, _⟩ := h
    rfl
  obtain ⟨z, b, ns, rfl, hb, hl, h0, h1⟩ := h
  refine ⟨_, rfl, _, rfl, _, _, rfl, .inr hb, rfl, flat_strs ns, _, rfl, ?_⟩
  rw [inV_str]
  refine iteB (fun c => ?_) (fun c => ?_)
  · have c' := of_decide_eq_true c
    refine ⟨_, rfl, (by show 2 ≤ sizeLine; decide), fun p hp => h1 1 (some z) p (if_pos c') hp⟩
  have c' := of_decide_eq_false c
  refine ⟨_, rfl, z, rfl, hl, ?_⟩
  have ea : tAtom ns z = (tNum z).map fun n => (n, none) := if_neg c'
  refine ⟨_, rfl, rfl, _, rfl, ?_⟩
  cases e : tNum z with
  | none =>
    rw [e] at ea
    exact iteT (h0 ea)
  | some n =>
    rw [e] at ea
    refine iteF ?_
    exact ⟨_, rfl, (by show 2 ≤ sizeLine; decide), fun p hp => h1 n none p ea hp⟩
end
end K03


set_option Elab.async false
set_option linter.all false
set_option maxRecDepth 100000
set_option maxHeartbeats 4000000
namespace Tld
open PySem L2
def inSeen (seen : List Str) : Option Str → Bool
  | none => false
  | some x => decide (x ∈ seen)
/-- the rest of a sum's words, from the place i on; all: the words -/
def tGo (ns all : List Str) : Nat → List Str → List (Int × Option Str) → List Str → Option (List (Int × Option Str))
  | _, [], found, _ => some found
  | i, z :: r, found, seen =>
    if i % 2 = 1 then (if z ∈ ([Str.ofString "+", Str.ofString "-"] : List Str) then tGo ns all (i + 1) r found seen else none)
    else match tAtom ns z with
      | none => none
      | some (n, o) => if inSeen seen o = true then none else
          tGo ns all (i + 1) r (found ++ [(if 0 < i ∧ all[i - 1]? = some (Str.ofString "-") then -n else n, o)]) (match o with | none => seen | some x => x :: seen)
def tSum (ns ws : List Str) : Option (List (Int × Option Str)) := if ws.length % 2 = 0 ∨ 7 < ws.length then none else tGo ns ws 0 ws [] []
/-- what stands for an atom -/
def AtR (H : Hp) (v : V) (q : Int × Option Str) : Prop := ∃ p, v = .ref p ∧ H p = some (.tup [.int q.1, oS q.2])
theorem AtR.up {H H' : Hp} {v : V} {q : Int × Option Str} (e : TupLe H H') (h : AtR H v q) : AtR H' v q := by
  obtain ⟨p, h1, h2⟩ := h
  exact ⟨p, h1, e _ _ h2⟩
abbrev AtsR (H : Hp) (vs : List V) (qs : List (Int × Option Str)) : Prop := Paired (AtR H) vs qs
theorem AtsR.up {H H' : Hp} (e : TupLe H H') : ∀ {vs : List V} {qs : List (Int × Option Str)}, AtsR H vs qs → AtsR H' vs qs
  | _, _, .nil => .nil
  | _, _, .cons a b => .cons (a.up e) (AtsR.up e b)
theorem AtsR.snoc {H : Hp} {v : V} {q : Int × Option Str} (h : AtR H v q) : ∀ {vs : List V} {qs : List (Int × Option Str)}, AtsR H vs qs → AtsR H (vs ++ [v]) (qs ++ [q])
  | _, _, .nil => .cons h .nil
  | _, _, .cons a b => .cons a (AtsR.snoc h b)
/-- the dict of the names that are seen -/
structure SeenOk (kvs : List (Option Key × V)) (seen : List Str) : Prop where
  nn : valV kvs none = some (.bl false)
  yes : ∀ x, x ∈ seen → valV kvs (some (Sum.inr x)) = some (.bl true)
  no : ∀ x, x ∉ seen → valV kvs (some (Sum.inr x)) = none
theorem seen_start : SeenOk [(none, .bl false)] [] := ⟨rfl, fun _ h => absurd h (by simp), fun _ _ => rfl⟩
theorem SeenOk.put {kvs : List (Option Key × V)} {seen : List Str} (h : SeenOk kvs seen) (o : Option Str) :
    SeenOk (putK kvs (o.map Sum.inr) (.bl (!decide (oS o = .non)))) (match o with | none => seen | some x => x :: seen) := by
  cases o with
  | none =>
    refine ⟨by rw [valV_put]; rfl, fun x hx => ?_, fun x hx => ?_⟩
    · rw [valV_put, if_neg (by intro z; cases z)]; exact h.yes x hx
    · rw [valV_put, if_neg (by intro z; cases z)]; exact h.no x hx
  | some y =>
    have e : (!decide (oS (some y) = .non)) = true := rfl
    rw [e]
    refine ⟨by rw [valV_put, if_neg (by intro z; cases z)]; exact h.nn, fun x hx => ?_, fun x hx => ?_⟩
    · rw [valV_put]
      by_cases q : x = y
      · subst q; exact if_pos rfl
      · rw [if_neg (by intro z; injection z with z; injection z with z; exact q z)]
        exact h.yes x (by rcases List.mem_cons.mp hx with z | z; exact absurd z q; exact z)
    · rw [valV_put, if_neg (by intro z; injection z with z; injection z with z; exact hx (by rw [z]; exact List.mem_cons_self))]
      exact h.no x fun z => hx (List.mem_cons_of_mem _ z)
theorem SeenOk.get {kvs : List (Option Key × V)} {seen : List Str} (h : SeenOk kvs seen) (o : Option Str) : (valV kvs (o.map Sum.inr)).getD (.bl false) = .bl (inSeen seen o) := by
  cases o with
  | none => exact congrArg (fun z : Option V => z.getD (.bl false)) h.nn
  | some x =>
    show (valV kvs (some (Sum.inr x))).getD _ = .bl (decide (x ∈ seen))
    by_cases q : x ∈ seen
    · rw [h.yes x q, decide_eq_true q]; rfl
    · rw [h.no x q, decide_eq_false q]; rfl
theorem nV_oS (o : Option Str) : oS o = nV (o.map Sum.inr) := by cases o <;> rfl
end Tld
namespace K03
open PySem PySem.Spec PyProof.Rows L2 Tld
section
variable {P : Program} {w : World} {K : PySem.W.Frag} {mg : Str → Option Value} {base : Heap}
def spSum (K : PySem.W.Frag) : Sp := fun vs H Q _ => ∃ (a b : Addr) (ws ns : List Str), vs = [.ref a, .ref b] ∧ SqL K H a (ws.map V.str) ∧ SqT K H b (ns.map V.str) ∧ (∀ z ∈ ws, z.length ≤ 1000000) ∧
  (tSum ns ws = none → ∀ H', Same H H' → Q .non H') ∧ ∀ qs vs p H', tSum ns ws = some qs → Same H H' → H' p = some (.tup vs) → AtsR H' vs qs → H p = none → Q (.ref p) H'
theorem ok_told_sum (T : Tx P w K mg) : FnX P w K mg base CX0 3 "told_sum" ["words", "names"] [] (spSum K) := by
  have F_told_atom := ok_told_atom (P := P) (w := w) (base := base) T
  refine T.d_told_sum.ok0 sc_told_sum (fun _ _ _ _ _ _ us hl => match us, hl with | [_, _], _ => rfl) (fun vs H Q E h => ?_) (fun f cdv A outer s H vs Q E hr h => ⟨_, (by exact (pss_cons (ps_if (PW.pt (pw_or (pt_cmpR op_eq (pe_op op_mod (pe_callB call_len_seq (by rfl) T.b_len (by decide +kernel) (pa_cons (pv 0) pa_nil)) pe_int) pe_int (nomark _)) (pw_or1 (pt_cmpR op_gt (pe_callB call_len_seq (by rfl) T.b_len (by decide +kernel) (pa_cons (pv 0) pa_nil)) (pe_op op_sub (pe_op op_mul pe_int (pe_gint T.c_MOST_TERMS)) pe_int) (nomark _))))) (pss_one (ps_ret pe_non)) pss_nil)
      (pss_cons (ps_par (i := 2) (j := 3) (by rfl) sc_told_sum.nd rfl rfl (by decide) rfl rfl (pa_cons (pe_lst pa_nil) (pa_cons (pe_dispN (pps_cons pe_non pe_bl pps_nil) (by rfl) (by rfl) (fun z => by cases z) (by decide)) pa_nil)) (by rfl))
      (pss_cons (ps_for PassesOwn.never rfl (pi_enum rfl T.b_enumerate (pa_cons (pv 0) pa_nil)) (pg_tup rfl (pgs_cons (pg_name (i := 4) sc_told_sum.nd rfl (Or.inl rfl)) (pgs_cons (pg_name (i := 5) sc_told_sum.nd rfl (Or.inl rfl)) pgs_nil)))
        (pss_cons (ps_if (pt_cmpR op_eq (pe_op op_mod (pv 4) pe_int) pe_int (nomark _)) (pss_cons (ps_if (pt_cmpR op_notIn_seq (pv 5) (pe_tup (pa_cons pe_str (pa_cons pe_str pa_nil))) (by rfl)) (pss_one (ps_ret pe_non)) pss_nil)
      (pss_one ps_continue)) pss_nil)
      (pss_cons (ps_set (i := 6) sc_told_sum.nd rfl (Or.inl rfl) (pe_callX F_told_atom (hr.mono (by first | decide | omega)) pass0 (pa_cons (pv 5) (pa_cons (pv 1) pa_nil))))
      (pss_cons (ps_if (PW.pt (pw_or (pt_cmpR op_isN (pv 6) pe_non (nomark _)) (pw_or1 (pt_val (pe_dget2N (pv 3) (pe_ix ix_tup (pv 6) pe_int (fun _ _ => rfl)) pe_bl ⟨rfl, rfl, rfl, rfl⟩))))) (pss_one (ps_ret pe_non)) pss_nil)
      (pss_cons (ps_dputN (pv 3) (pe_ix ix_tup (pv 6) pe_int (fun _ _ => rfl)) (pe_cmpR op_notN (pe_ix ix_tup (pv 6) pe_int (fun _ _ => rfl)) pe_non (nomark _)) rfl)
      (pss_one (ps_expr (pe_bm PySem.F.plainAttrs_list PySem.F.slot_list_append PySem.F.type_list_append mt_append (pv 2) (pa_cons (pe_ifExp (PW.pt (pw_and (pt_cmpR op_gt (pv 4) pe_int (nomark _)) (pw_and1 (pt_cmpR op_eq (pe_ix ix_list (pv 0) (pe_op op_sub (pv 4) pe_int) (fun _ _ => rfl)) pe_str (nomark _))))) (pe_tup (pa_cons (pe_un un_neg (pe_ix ix_tup (pv 6) pe_int (fun _ _ => rfl))) (pa_cons (pe_ix ix_tup (pv 6) pe_int (fun _ _ => rfl)) pa_nil))) (pv 6)) pa_nil)))))))))
      (pss_one (ps_ret (pe_callTy call_tuple_of (by rfl) T.b_tuple (by decide +kernel) (pa_cons (pv 2) pa_nil)))))))), ?_⟩)
  · obtain ⟨a, b, ws, ns, rfl, _⟩ := h
    rfl
  obtain ⟨a, b, ws, ns, rfl, ha, hb, hl, h0, h1⟩ := h
  have lw : (ws.map V.str).length = ws.length := List.length_map ..
  refine ⟨_, rfl, _, _, rfl, .inl ha, _, _, rfl, rfl, (by show (0 : Int) < 2; decide), rfl, _, rfl, ?_⟩
  rw [lw]
  refine iteB (fun c => ?_) (fun c => ?_)
  · have c' : ws.length % 2 = 0 := by have z := V.int.inj (of_decide_eq_true c); omega
    exact iteT (h0 (if_pos (.inl c')) H (Same.refl H))
  have c1 : ¬ ws.length % 2 = 0 := fun z => of_decide_eq_false c (congrArg V.int (show ((ws.length : Int) % 2) = 0 by omega))
  refine ⟨_, rfl, _, _, rfl, .inl ha, _, _, rfl, rfl, .inl ⟨by decide, by decide⟩, _, _, rfl, rfl, _, _, rfl, rfl, _, rfl, ?_⟩
  rw [lw]
  refine iteB (fun c => ?_) (fun c => ?_)
  · have c' := of_decide_eq_true c
    exact h0 (if_pos (.inr (by omega))) H (Same.refl H)
  have c2 : ¬ 7 < ws.length := fun z => of_decide_eq_false c (by omega)
  have es : tSum ns ws = tGo ns ws 0 ws [] [] := if_neg (by omega)
  refine ⟨(by show 0 ≤ sizeLine; decide), fun fl hfl sd hsd => ⟨upd_same, [(none, .bl false)], rfl, (by decide), _, _, rfl, ?_⟩⟩
  have sdne : fl ≠ sd := ne_of_none (H := upd H fl (.lst [])) upd_same hsd
  have hsd0 : H sd = none := by rw [upd_ne (Ne.symm sdne)] at hsd; exact hsd
  rw [upd_upd]
  have S0 : Same H (upd (upd H fl (.lst [])) sd (dN P w sd [(none, .bl false)])) := ((Same.refl H).mut hfl).mut hsd0
  refine ⟨_, rfl, a, _, rfl, S0.seq ha, for_enum (xs := ws.map V.str) (fun i σ H' => ∃ (v4 v5 v6 : Option V) (fvs : List V) (kvs : List (Option Key × V)) (found : List (Int × Option Str)) (seen : List Str),
      σ = [some (.ref a), some (.ref b), some (.ref fl), some (.ref sd), v4, v5, v6] ∧ Same H H' ∧ H' fl = some (.lst fvs) ∧ H' sd = some (dN P w sd kvs) ∧ AtsR H' fvs found ∧ SeenOk kvs seen ∧ kvs.length ≤ i + 1 ∧ fvs.length ≤ i ∧ tGo ns ws i (ws.drop i) found seen = tSum ns ws)
    ⟨none, none, none, [], _, [], [], rfl, S0, ?_, upd_same, .nil, seen_start, Nat.le_refl _, Nat.le_refl _, es.symm⟩ (fun i σ H' _ h => ?_) ?_ ?_⟩
  · rw [upd_ne sdne]; exact upd_same
  · obtain ⟨_, _, _, _, _, _, _, _, S, _⟩ := h
    exact S.seq ha
  · rintro i x σ H' hx ⟨v4, v5, v6, fvs, kvs, found, seen, rfl, S, hf, hs, hA, hS, lk, lf, eG⟩ Tp hTp
    obtain ⟨z, hz, rfl⟩ : ∃ z, ws[i]? = some z ∧ x = .str z := by
      rw [List.getElem?_map] at hx
      cases e : ws[i]? with
      | none => rw [e] at hx; cases hx
      | some z => rw [e] at hx; exact ⟨z, rfl, (Option.some.inj hx).symm⟩
    have hi : i < ws.length := (List.getElem?_eq_some_iff.mp hz).1
    have ed : ws.drop i = z :: ws.drop (i + 1) := by
      rw [List.drop_eq_getElem_cons hi]
      congr 1
      exact (List.getElem?_eq_some_iff.mp hz).2
    rw [ed] at eG
    have S1 : Same H (upd H' Tp (.tup [.int (i : Nat), .str z])) := S.trans (Same.new hTp)
    have hf1 : upd H' Tp (.tup [.int (i : Nat), .str z]) fl = some (.lst fvs) := by rw [upd_ne (ne_of_none hf hTp)]; exact hf
    have hs1 : upd H' Tp (.tup [.int (i : Nat), .str z]) sd = some (dN P w sd kvs) := by rw [upd_ne (ne_of_none hs hTp)]; exact hs
    have hA1 : AtsR (upd H' Tp (.tup [.int (i : Nat), .str z])) fvs found := hA.up (TupLe.new hTp)
    refine ⟨Tp, _, rfl, SqT.of upd_same, rfl, _, _, rfl, _, _, rfl, rfl, ?_⟩
    generalize upd H' Tp (.tup [.int (i : Nat), .str z]) = H1 at *
    refine ⟨_, rfl, _, _, rfl, rfl, (by show (0 : Int) < 2; decide), rfl, _, rfl, ?_⟩
    refine iteB (fun c => ?_) (fun c => ?_)
    · have c' : i % 2 = 1 := by have q := V.int.inj (of_decide_eq_true c); omega
      unfold tGo at eG
      rw [if_pos c'] at eG
      refine ⟨_, rfl, (by show 2 ≤ sizeLine; decide), fun pq hpq => ⟨pq, _, rfl, .inr (SqT.of upd_same), rfl, rfl, _, rfl, ?_⟩⟩
      have e1 : inV (.str z) [V.str (Str.ofString "+"), V.str (Str.ofString "-")] = decide (z ∈ ([Str.ofString "+", Str.ofString "-"] : List Str)) := inV_str z [Str.ofString "+", Str.ofString "-"]
      show if (!inV (.str z) [V.str (Str.ofString "+"), V.str (Str.ofString "-")]) = true then _ else _
      rw [e1]
      have S2 : Same H (upd H1 pq (.tup [.str (Str.ofString "+"), .str (Str.ofString "-")])) := S1.trans (Same.new hpq)
      refine iteB (fun d => ?_) (fun d => ?_)
      · rw [if_neg (fun q => by rw [decide_eq_true q] at d; cases d)] at eG
        exact h0 eG.symm _ S2
      · have d' : z ∈ ([Str.ofString "+", Str.ofString "-"] : List Str) := by
          cases q : decide (z ∈ ([Str.ofString "+", Str.ofString "-"] : List Str)) with
          | true => exact of_decide_eq_true q
          | false => rw [q] at d; cases d
        rw [if_pos d'] at eG
        exact ⟨_, _, _, fvs, kvs, found, seen, rfl, S2, by rw [upd_ne (ne_of_none hf1 hpq)]; exact hf1, by rw [upd_ne (ne_of_none hs1 hpq)]; exact hs1, hA1.up (TupLe.new hpq), hS, by omega, by omega, eG⟩
    · have c' : ¬ i % 2 = 1 := fun q => of_decide_eq_false c (congrArg V.int (show ((i : Int) % 2) = 1 by omega))
      unfold tGo at eG
      rw [if_neg c'] at eG
      refine ⟨_, rfl, _, rfl, z, b, ns, rfl, S1.seqT hb, hl z (List.mem_of_getElem? hz), fun e => ?_, fun n o p e hp => ?_⟩
      · rw [e] at eG
        exact ⟨_, rfl, rfl, _, rfl, iteT (iteT (h0 eG.symm _ S1))⟩
      · rw [e] at eG
        dsimp only at eG
        have S2 : Same H (upd H1 p (.tup [.int n, oS o])) := S1.trans (Same.new hp)
        have hf2 : upd H1 p (.tup [.int n, oS o]) fl = some (.lst fvs) := by rw [upd_ne (ne_of_none hf1 hp)]; exact hf1
        have hs2 : upd H1 p (.tup [.int n, oS o]) sd = some (dN P w sd kvs) := by rw [upd_ne (ne_of_none hs1 hp)]; exact hs1
        have hp2 : upd H1 p (.tup [.int n, oS o]) p = some (.tup [.int n, oS o]) := upd_same
        have hA2 : AtsR (upd H1 p (.tup [.int n, oS o])) fvs found := hA1.up (TupLe.new hp)
        generalize upd H1 p (.tup [.int n, oS o]) = H2 at *
        refine ⟨_, rfl, rfl, _, rfl, iteF ?_⟩
        refine ⟨_, rfl, sd, kvs, rfl, hs2, _, rfl, p, _, _, _, rfl, rfl, SqT.of hp2, atI_nat (j := 1) rfl, kvs, o.map Sum.inr, hs2, nV_oS o, _, hS.get o, ?_⟩
        refine iteB (fun d => ?_) (fun d => ?_)
        · rw [if_pos d] at eG
          exact h0 eG.symm _ S2
        rw [if_neg (by rw [d]; exact Bool.false_ne_true)] at eG
        refine ⟨_, rfl, p, _, _, _, rfl, rfl, SqT.of hp2, atI_nat (j := 1) rfl, rfl, _, rfl, _, rfl, p, _, _, _, rfl, rfl, SqT.of hp2, atI_nat (j := 1) rfl, sd, kvs, o.map Sum.inr, rfl, hs2, nV_oS o, small1000 (by omega), ?_⟩
        have hS3 := hS.put o
        have S3 : Same H (upd H2 sd (dN P w sd (putK kvs (o.map Sum.inr) (.bl (!decide (oS o = .non)))))) := S2.mut hsd0
        have TL : TupLe H2 (upd H2 sd (dN P w sd (putK kvs (o.map Sum.inr) (.bl (!decide (oS o = .non)))))) := TupLe.mut hs2 (fun xs q => nomatch (show HO.ext _ = HO.tup xs from q))
        have hf3 : upd H2 sd (dN P w sd (putK kvs (o.map Sum.inr) (.bl (!decide (oS o = .non))))) fl = some (.lst fvs) := by rw [upd_ne sdne]; exact hf2
        have hs3 : upd H2 sd (dN P w sd (putK kvs (o.map Sum.inr) (.bl (!decide (oS o = .non))))) sd = some (dN P w sd (putK kvs (o.map Sum.inr) (.bl (!decide (oS o = .non))))) := upd_same
        have lk3 : (putK kvs (o.map Sum.inr) (.bl (!decide (oS o = .non)))).length ≤ i + 1 + 1 := by have q := length_putK kvs (o.map Sum.inr) (.bl (!decide (oS o = .non))); omega
        have hp3 := TL _ _ hp2
        have hA3 := hA2.up TL
        generalize putK kvs (o.map Sum.inr) (.bl (!decide (oS o = .non))) = kvs3 at *
        have put : ∀ (v : V) (H4 : Hp) (m : Int), AtR H4 v (m, o) → Same H H4 → H4 fl = some (.lst fvs) → H4 sd = some (dN P w sd kvs3) → AtsR H4 fvs found → m = (if 0 < i ∧ ws[i - 1]? = some (Str.ofString "-") then -n else n) →
            ∃ l xs y, V.ref fl = .ref l ∧ [v] = [y] ∧ H4 l = some (.lst xs) ∧ xs.length < sizeLine ∧ ∃ (v4 v5 v6 : Option V) (fvs : List V) (kvs : List (Option Key × V)) (found : List (Int × Option Str)) (seen : List Str),
              [some (V.ref a), some (.ref b), some (.ref fl), some (.ref sd), some (.int (i : Int)), some (.str z), some (.ref p)] = [some (.ref a), some (.ref b), some (.ref fl), some (.ref sd), v4, v5, v6] ∧ Same H (upd H4 l (.lst (xs ++ [y]))) ∧ (upd H4 l (.lst (xs ++ [y]))) fl = some (.lst fvs) ∧ (upd H4 l (.lst (xs ++ [y]))) sd = some (dN P w sd kvs) ∧ AtsR (upd H4 l (.lst (xs ++ [y]))) fvs found ∧ SeenOk kvs seen ∧ kvs.length ≤ i + 1 + 1 ∧ fvs.length ≤ i + 1 ∧ tGo ns ws (i + 1) (ws.drop (i + 1)) found seen = tSum ns ws := by
          intro v H4 m hv S4 hf4 hs4 hA4 em
          have TL4 : TupLe H4 (upd H4 fl (.lst (fvs ++ [v]))) := TupLe.mut hf4 (fun xs q => nomatch q)
          refine ⟨fl, fvs, v, rfl, rfl, hf4, small1000 (by omega), _, _, _, fvs ++ [v], kvs3, _, _, rfl, S4.mut hfl, upd_same, by rw [upd_ne (Ne.symm sdne)]; exact hs4, (AtsR.snoc (hv.up TL4) (hA4.up TL4)), hS3, lk3, by simp; omega, ?_⟩
          rw [em]
          exact eG
        refine ⟨_, rfl, .inl ⟨rfl, _, SqL.of hf3⟩, ?_⟩
        have neg : 0 < i → ws[i - 1]? = some (Str.ofString "-") → ∀ (pn : Addr), (upd H2 sd (dN P w sd kvs3)) pn = none → _ := fun g1 g2 pn hpn => put (.ref pn) (upd (upd H2 sd (dN P w sd kvs3)) pn (.tup [.int (-n), oS o])) (-n) ⟨pn, rfl, upd_same⟩ (S3.trans (Same.new hpn)) (by rw [upd_ne (ne_of_none hf3 hpn)]; exact hf3) (by rw [upd_ne (ne_of_none hs3 hpn)]; exact hs3) (hA3.up (TupLe.new hpn)) (if_pos ⟨g1, g2⟩).symm
        have pos : ¬ (0 < i ∧ ws[i - 1]? = some (Str.ofString "-")) → _ := fun g => put (.ref p) (upd H2 sd (dN P w sd kvs3)) n ⟨p, rfl, hp3⟩ S3 hf3 hs3 hA3 (if_neg g).symm
        refine ⟨_, rfl, _, _, rfl, rfl, _, rfl, ?_⟩
        refine iteB (fun g => ?_) (fun g => ?_)
        · have g' : 0 < i := by have q := of_decide_eq_true g; omega
          obtain ⟨y, hy⟩ : ∃ y, ws[i - 1]? = some y := ⟨ws[i - 1], List.getElem?_eq_getElem (by omega)⟩
          have hyx : (ws.map V.str)[i - 1]? = some (.str y) := by rw [List.getElem?_map, hy]; rfl
          refine ⟨_, rfl, _, rfl, _, _, rfl, rfl, a, _, _, .str y, rfl, rfl, S3.seq ha, ?_, rfl, _, rfl, ?_⟩
          · have q : ((i : Int) - 1) = ((i - 1 : Nat) : Int) := by omega
            show atI (ws.map V.str) ((i : Int) - 1) = _
            rw [q]
            exact atI_nat hyx
          refine iteB (fun k => ?_) (fun k => ?_)
          · have k' : y = Str.ofString "-" := V.str.inj (of_decide_eq_true k)
            rw [k'] at hy
            refine ⟨_, rfl, p, _, _, _, rfl, rfl, SqT.of hp3, atI_nat (j := 0) rfl, _, rfl, _, rfl, p, _, _, _, rfl, rfl, SqT.of hp3, atI_nat (j := 1) rfl, (by show 2 ≤ sizeLine; decide), fun pn hpn => neg g' hy pn hpn⟩
          · refine ⟨_, rfl, pos fun q => ?_⟩
            rw [hy] at q
            exact of_decide_eq_false k (congrArg V.str (Option.some.inj q.2))
        · refine iteF ⟨_, rfl, pos fun q => ?_⟩
          exact of_decide_eq_false g (by omega)
  · rintro σ H' ⟨v4, v5, v6, fvs, kvs, found, seen, rfl, S, hf, hs, hA, hS, lk, lf, eG⟩
    rw [lw, List.drop_length] at eG
    refine ⟨_, rfl, fl, _, rfl, .inl ⟨SqL.of hf, fun p hp => ?_⟩⟩
    exact h1 found fvs p _ eG.symm (S.trans (Same.new hp)) upd_same (hA.up (TupLe.new hp)) (S.free hp)
end
end K03


set_option Elab.async false
set_option linter.all false
set_option maxRecDepth 100000
set_option maxHeartbeats 4000000
namespace Tld
open PySem L2
abbrev At := Int × Option Str
inductive Part
  | lone (s : Str) (w : Bool)
  | same (a b : At) (w : Bool)
  | less (a b : At) (s w : Bool)
def oD : Option Str → PyData
  | none => .none
  | some z => .str z
def atD (a : At) : PyData := .tuple [.int a.1, oD a.2]
def Part.toD : Part → PyData
  | .lone s w => .tuple [.str s, .bool w]
  | .same a b w => .tuple [.str "same", .tuple [atD a], .tuple [atD b], .bool w]
  | .less a b s w => .tuple [.str "less", .tuple [atD a], .tuple [atD b], .bool s, .bool w]
def wantP (text : Str) : Bool := decide (cutS text none (some 4) ≠ "not ")
def toldP (text : Str) : Str := if wantP text then text else cutS text (some 4) none
/-- a part of a test; ot: the parts that compare nothing -/
def tPart (ns : List Str) (ot : List (Str × Str)) (text : Str) : Option Part :=
  if (ot.lookup (toldP text)).isSome = true then (ot.lookup (toldP text)).map fun s => .lone s (wantP text)
  else match Txt.split (toldP text) " " with
    | [x, y, z] => if y ∈ (["<", "<=", "is"] : List Str) ∧ x ≠ z then
        (match tAtom ns x, tAtom ns z with
          | some a, some b => if y = "is" then some (.same a b (wantP text)) else some (.less a b (decide (y = "<")) (wantP text))
          | _, _ => none) else none
    | _ => none
end Tld
namespace K03
open PySem PySem.Spec PyProof.Rows L2 Tld
section
variable {P : Program} {w : World} {K : PySem.W.Frag} {mg : Str → Option Value} {base : Heap}
/-- the dict of the parts that compare nothing -/
def OthR (H : Hp) (a : Addr) (ot : List (Str × Str)) : Prop := ∃ kvs, H a = some (.dK kvs) ∧ (∀ z, (valV kvs (.inr z)).isSome = (ot.lookup z).isSome) ∧ ∀ z s, ot.lookup z = some s → ∃ p, valV kvs (.inr z) = some (.ref p) ∧ H p = some (.tup [.str s])
/-- what stands for an atom, or None -/
def AtV (H : Hp) (v : V) : Option At → Prop
  | none => v = .non
  | some a => ∃ p, v = .ref p ∧ H p = some (.tup [.int a.1, oS a.2])
theorem AtV.up {H H' : Hp} (s : Same H H') {v : V} : ∀ {o : Option At}, AtV H v o → AtV H' v o
  | none, h => h
  | some a, ⟨p, e, h⟩ => ⟨p, e, s _ _ h⟩
theorem AtV.isn {H : Hp} {v : V} : ∀ {o : Option At}, AtV H v o → decide (v = .non) = o.isNone
  | none, h => by rw [show v = .non from h]; rfl
  | some a, ⟨p, e, h⟩ => by rw [e]; exact decide_eq_false fun z => by cases z
theorem oS_dq {K : PySem.W.Frag} {H : Hp} : ∀ o : Option Str, Dq K H (oS o) (oD o)
  | none => .non
  | some z => .str z
theorem AtV.dq {K : PySem.W.Frag} {H : Hp} {v : V} {a : At} (h : AtV H v (some a)) : Dq K H v (atD a) := by
  obtain ⟨p, e, hp⟩ := h
  rw [e]
  exact .tup (.inl hp) (.cons (.int _) (.cons (oS_dq _) .nil))
theorem at_go {σ : L2.St} {H : Hp} {te tn : TE} {z : Str} {na : Addr} {ns : List Str} {Q : VK} (he : EvE te σ H (.str z)) (hn : ∀ H1, Same H H1 → EvE tn σ H1 (.ref na)) (hna : SqT K H na (ns.map V.str)) (hl : z.length ≤ 1000000) (k : ∀ v H', Same H H' → AtV H' v (tAtom ns z) → Q v H') : tCall (spAtom K) [] E0 (tCons te (tCons tn tNil)) σ H Q :=
  call_go (cons_go (he _ fun H1 s1 => cons_go (hn H1 s1 _ fun H2 s2 => nil_go ⟨z, na, ns, rfl, (s1.tr s2).seqT hna, hl, fun e => k .non H2 (s1.tr s2) (by rw [e]; rfl), fun n o p e hp => k (.ref p) _ ((s1.tr s2).tr (Same.new hp)) (by rw [e]; exact ⟨p, rfl, upd_same⟩)⟩)))
theorem oth_in {σ : L2.St} {H : Hp} {i j : Nat} {oa : Addr} {ot : List (Str × Str)} {z : Str} (hi : σ[i]? = some (some (.str z))) (hj : σ[j]? = some (some (.ref oa))) (ho : OthR H oa ot) : EvT (tB (tDIn (tVar i) (tVar j))) σ H (ot.lookup z).isSome := by
  obtain ⟨kvs, h1, h2, _⟩ := ho
  have := ev_tB (ev_din (ev_var hi) (fun _ _ => ev_var hj) h1)
  rw [h2] at this
  exact this
theorem OthR.up {H H' : Hp} {oa : Addr} {ot : List (Str × Str)} (s : Same H H') (h : OthR H oa ot) : OthR H' oa ot := by
  obtain ⟨kvs, h1, h2, h3⟩ := h
  exact ⟨kvs, s _ _ h1, h2, fun z x e => by obtain ⟨p, k1, k2⟩ := h3 z x e; exact ⟨p, k1, s _ _ k2⟩⟩
def spPart (K : PySem.W.Frag) : Sp := fun vs H Q _ => ∃ (text : Str) (na oa : Addr) (ns : List Str) (ot : List (Str × Str)), vs = [.str text, .ref na, .ref oa] ∧ text.length ≤ 1000 ∧ SqT K H na (ns.map V.str) ∧ OthR H oa ot ∧
  (tPart ns ot text = none → ∀ H', Same H H' → Q .non H') ∧ ∀ p v H', tPart ns ot text = some p → Same H H' → Dq K H' v p.toD → Q v H'
theorem split_len (x y : Str) : ∀ z ∈ Txt.split x y, z.length ≤ x.length := fun z hz => by
  have e := StrLaws.join_split x y
  have key : ∀ (l : List (List Nat)) (z : List Nat), z ∈ l → z.length ≤ (TL.joinL (TL.tl y) l).length := by
    intro l
    induction l with
    | nil => intro z hz; cases hz
    | cons a r ih =>
      intro z hz
      cases r with
      | nil =>
        rcases List.mem_cons.mp hz with q | q
        · subst q; exact Nat.le_refl _
        · cases q
      | cons b r =>
        show z.length ≤ (a ++ (TL.tl y ++ TL.joinL (TL.tl y) (b :: r))).length
        rw [List.length_append, List.length_append]
        rcases List.mem_cons.mp hz with q | q
        · subst q; omega
        · have := ih z q; omega
  have q := key _ _ (List.mem_map_of_mem (f := TL.tl) hz)
  rw [← TL.tl_join, e] at q
  rw [TL.len_tl, TL.len_tl]
  exact q
theorem ok_told_part (T : Tx P w K mg) : FnX P w K mg base CX0 3 "told_part" ["text", "names", "others"] [] (spPart K) := by
  have F_told_atom := ok_told_atom (P := P) (w := w) (base := base) T
  refine T.d_told_part.ok0 sc_told_part (fun _ _ _ _ _ _ us hl => match us, hl with | [_, _, _], _ => rfl) (fun vs H Q E h => ?_) (fun f cdv A outer s H vs Q E hr h => have hu := hu_of hr; ⟨_, (by exact (pss_cons (ps_set (i := 3) sc_told_part.nd rfl (Or.inl rfl) (pe_cmpR op_ne (pe_slice sl_str (pv 0) po_none (po_some pe_int)) pe_str (nomark _)))
      (pss_cons (ps_set (i := 4) sc_told_part.nd rfl (Or.inl rfl) (pe_ifExp (pt_val (pv 3)) (pv 0) (pe_slice sl_str (pv 0) (po_some pe_int) po_none)))
      (pss_cons (ps_if (pt_cmp (pc_din hu (pv 4) (pv 2))) (pss_one (ps_ret (pe_tup (StX.pa_star (pe_dget hu (pv 2) (pv 4) (fun _ _ => rfl)) (pa_cons (pv 3) pa_nil))))) pss_nil)
      (pss_cons (ps_set (i := 5) sc_told_part.nd rfl (Or.inl rfl) (pe_split (pv 4) pe_str))
      (pss_cons (ps_if (PW.pt (pw_or (pt_cmpR op_ne (pe_callB call_len_seq (by rfl) T.b_len (by decide +kernel) (pa_cons (pv 5) pa_nil)) pe_int (nomark _)) (pw_or (pt_cmpR op_notIn_seq (pe_ix ix_list (pv 5) pe_int (fun _ _ => rfl)) (pe_tup (pa_cons pe_str (pa_cons pe_str (pa_cons pe_str pa_nil)))) (by rfl)) (pw_or1 (pt_cmpR op_eq (pe_ix ix_list (pv 5) pe_int (fun _ _ => rfl)) (pe_ix ix_list (pv 5) pe_int (fun _ _ => rfl)) (nomark _)))))) (pss_one (ps_ret pe_non)) pss_nil)
      (pss_cons (ps_par (i := 6) (j := 7) (by rfl) sc_told_part.nd rfl rfl (by decide) rfl rfl (pa_cons (pe_callX F_told_atom (hr.mono (by first | decide | omega)) pass0 (pa_cons (pe_ix ix_list (pv 5) pe_int (fun _ _ => rfl)) (pa_cons (pv 1) pa_nil))) (pa_cons (pe_callX F_told_atom (hr.mono (by first | decide | omega)) pass0 (pa_cons (pe_ix ix_list (pv 5) pe_int (fun _ _ => rfl)) (pa_cons (pv 1) pa_nil))) pa_nil)) (by rfl))
      (pss_cons (ps_if (PW.pt (pw_or (pt_cmpR op_isN (pv 6) pe_non (nomark _)) (pw_or1 (pt_cmpR op_isN (pv 7) pe_non (nomark _))))) (pss_one (ps_ret pe_non)) pss_nil)
      (pss_cons (ps_if (pt_cmpR op_eq (pe_ix ix_list (pv 5) pe_int (fun _ _ => rfl)) pe_str (nomark _)) (pss_one (ps_ret (pe_tup (pa_cons pe_str (pa_cons (pe_tup (pa_cons (pv 6) pa_nil)) (pa_cons (pe_tup (pa_cons (pv 7) pa_nil)) (pa_cons (pv 3) pa_nil))))))) pss_nil)
      (pss_one (ps_ret (pe_tup (pa_cons pe_str (pa_cons (pe_tup (pa_cons (pv 6) pa_nil)) (pa_cons (pe_tup (pa_cons (pv 7) pa_nil)) (pa_cons (pe_cmpR op_eq (pe_ix ix_list (pv 5) pe_int (fun _ _ => rfl)) pe_str (nomark _)) (pa_cons (pv 3) pa_nil))))))))))))))))), ?_⟩)
  · obtain ⟨text, na, oa, ns, ot, rfl, _⟩ := h
    rfl
  obtain ⟨text, na, oa, ns, ot, rfl, htl, hna, hoa, h0, h1⟩ := h
  have q9 : sizeLine = 16777216 := sizeLine_eq
  have hsz : text.length ≤ sizeLine := by omega
  have htd : (toldP text).length ≤ text.length := by
    unfold toldP
    split
    · exact Nat.le_refl _
    · exact cutS_length _ _ _
  have hnz : ((" " : Str).length == 0) = false := by decide +kernel
  refine do_set (x := .bl (wantP text)) ?_ (fun H1 s1 => ?_)
  · have e : (!(decide (V.str (cutS text none (some 4)) = V.str "not "))) = wantP text := by
      unfold wantP
      rw [dcS]
      by_cases h : cutS text none (some 4) = "not " <;> simp [h]
    rw [← e]
    exact ev_ne (ev_cutA (ev_var rfl) hsz) (fun _ _ => ev_C) rfl
  refine do_set (x := .str (toldP text)) (ev_if (b1 := wantP text) (ev_tB (ev_var rfl)) (fun g H2 s2 => ?_) (fun g H2 s2 => ?_)) (fun H2 s2 => ?_)
  · rw [show toldP text = text from if_pos g]; exact ev_var rfl
  · rw [show toldP text = cutS text (some 4) none from if_neg (by rw [g]; decide)]; exact ev_cutB (ev_var rfl) hsz
  have s02 := s1.tr s2
  have hoa2 := hoa.up s02
  refine seq_if (b1 := (ot.lookup (toldP text)).isSome) (oth_in rfl rfl hoa2) (fun g H3 s3 => ?_) (fun g H3 s3 => ?_)
  · obtain ⟨s, hs⟩ := Option.isSome_iff_exists.mp g
    obtain ⟨kvs, hk1, _, hk3⟩ := hoa2.up s3
    obtain ⟨p, hp1, hp2⟩ := hk3 _ _ hs
    have eP : tPart ns ot text = some (.lone s (wantP text)) := (if_pos g).trans (by rw [hs]; rfl)
    refine ret_go (tup_go ?_)
    refine ev_dget (y := toldP text) (v := .ref p) (ev_var rfl) (fun _ _ => ev_var rfl) hk1 hp1 _ fun H4 s4 => ⟨p, [.str s], rfl, .inl (.inl (.inl (s4 _ _ hp2))), cons_go ⟨_, rfl, nil_go ⟨szL rfl, fun q hq => ?_⟩⟩⟩
    exact h1 (.lone s (wantP text)) _ _ eP ((s02.tr (s3.tr s4)).tr (Same.new hq)) (.tup (.inl upd_same) (.cons (.str _) (.cons (.bl _) .nil)))
  have eP : tPart ns ot text = match Txt.split (toldP text) " " with
    | [x, y, z] => if y ∈ (["<", "<=", "is"] : List Str) ∧ x ≠ z then
        (match tAtom ns x, tAtom ns z with
          | some a, some b => if y = "is" then some (.same a b (wantP text)) else some (.less a b (decide (y = "<")) (wantP text))
          | _, _ => none) else none
    | _ => none := if_neg (by rw [g]; decide)
  refine set_te (do_split (ev_var rfl) hnz (by omega) (fun H4 q s4 _ hq => ?_))
  have hlw : ∀ x ∈ Txt.split (toldP text) " ", x.length ≤ 1000000 := fun x hx => Nat.le_trans (split_len _ _ x hx) (by omega)
  generalize Txt.split (toldP text) " " = ws at hq eP hlw
  have s04 := s02.tr (s3.tr s4)
  let S5 : L2.St := [some (.str text), some (.ref na), some (.ref oa), some (.bl (wantP text)), some (.str (toldP text)), some (.ref q), none, none]
  have wd : ∀ {H' : Hp} {i : Nat}, Same H4 H' → i < ws.length → EvE (tOp (rIxL K) (tVar 5) (tC (.int (i : Int)))) S5 H' (.str (ws.getD i "")) := fun s h => ev_word (ev_var rfl) (.inl (.inl (s _ _ hq))) h
  refine seq_if (σ := S5) (b1 := !decide (ws.length = 3) || (!decide (ws.getD 1 "" ∈ (["<", "<=", "is"] : List Str)) || decide (ws.getD 0 "" = ws.getD 2 ""))) (ev_or ?_ (fun g5 H5 s5 => ?_)) (fun g5 H5 s5 => ?_) (fun g5 H5 s5 => ?_)
  · have := ev_test (ev_ne (ev_len (K := K) (σ := S5) (ev_cons (ev_var (i := 5) rfl) fun _ _ => ev_nil) (.inl (.inl (.inl hq)))) (fun _ _ => ev_C (v := .int ((3 : Nat) : Int))) rfl)
    rw [dcN, List.length_map] at this
    exact this
  · have h3 : ws.length = 3 := by simpa using g5
    refine ev_or (ev_test (ev_notin (wd (i := 1) s5 (by omega)) (in_tup (ns := ["<", "<=", "is"]) fun _ => ev_cons ev_C fun _ _ => ev_cons ev_C fun _ _ => ev_cons ev_C fun _ _ => ev_nil))) (fun _ H6 s6 => eq_str (wd (i := 0) (s5.tr s6) (by omega)) fun H7 s7 => wd (i := 2) ((s5.tr s6).tr s7) (by omega))
  · refine h0 ?_ _ (s04.tr s5)
    rw [eP]
    match ws, g5 with
    | [], _ => rfl
    | [_], _ => rfl
    | [_, _], _ => rfl
    | [x, y, z], g5 =>
      refine if_neg fun ⟨k1, k2⟩ => ?_
      have g5' : (!decide (y ∈ (["<", "<=", "is"] : List Str)) || decide (x = z)) = true := g5
      rw [decide_eq_true k1, decide_eq_false k2] at g5'
      cases g5'
    | _ :: _ :: _ :: _ :: _, _ => rfl
  obtain ⟨x, y, z, rfl⟩ : ∃ x y z, ws = [x, y, z] := by
    match ws, g5 with
    | [], g5 => cases g5
    | [_], g5 => cases g5
    | [_, _], g5 => cases g5
    | [x, y, z], g5 => exact ⟨x, y, z, rfl⟩
    | _ :: _ :: _ :: _ :: r, g5 => rw [decide_eq_false (show ¬ (_ :: _ :: _ :: _ :: r).length = 3 by simp)] at g5; cases g5
  have g6 : (!decide (y ∈ (["<", "<=", "is"] : List Str)) || decide (x = z)) = false := g5
  rw [Bool.or_eq_false_iff] at g6
  have gy : y ∈ (["<", "<=", "is"] : List Str) := by
    cases e : decide (y ∈ (["<", "<=", "is"] : List Str)) with
    | true => exact of_decide_eq_true e
    | false => rw [e] at g6; cases g6.1
  have gx : x ≠ z := of_decide_eq_false g6.2
  replace eP : tPart ns ot text = (match tAtom ns x, tAtom ns z with
          | some a, some b => if y = "is" then some (Part.same a b (wantP text)) else some (.less a b (decide (y = "<")) (wantP text))
          | _, _ => none) := eP.trans (if_pos ⟨gy, gx⟩)
  have s05 := s04.tr s5
  refine par_go (cons_go (at_go (wd (i := 0) s5 (show 0 < 3 by decide)) (fun _ _ => ev_var rfl) (s05.seqT hna) (hlw x (by simp)) (fun v6 H6 s6 hv6 => cons_go (at_go (wd (i := 2) (s5.tr s6) (show 2 < 3 by decide)) (fun _ _ => ev_var rfl) ((s05.tr s6).seqT hna) (hlw z (by simp)) (fun v7 H7 s7 hv7 => nil_go ⟨_, _, rfl, ?_⟩)))))
  have hv6' : AtV _ v6 (tAtom ns x) := hv6.up s7
  replace hv7 : AtV _ v7 (tAtom ns z) := hv7
  have s07 := (s05.tr s6).tr s7
  let S7 : L2.St := [some (.str text), some (.ref na), some (.ref oa), some (.bl (wantP text)), some (.str (toldP text)), some (.ref q), some v6, some v7]
  refine seq_if (σ := S7) (ev_or (ev_test (isNv (ev_var rfl) hv6'.isn)) fun _ H8 s8 => ev_test (isNv (ev_var rfl) hv7.isn)) (fun g8 H8 s8 => ?_) (fun g8 H8 s8 => ?_)
  · refine h0 ?_ _ (s07.tr s8)
    rw [eP]
    cases e1 : tAtom ns x with
    | none => rfl
    | some a =>
      cases e2 : tAtom ns z with
      | none => rfl
      | some b => rw [e1, e2] at g8; cases g8
  cases e1 : tAtom ns x with
  | none => rw [e1] at g8; cases g8
  | some a =>
    cases e2 : tAtom ns z with
    | none => rw [e1, e2] at g8; cases g8
    | some b =>
      rw [e1, e2] at eP
      rw [e1] at hv6'
      rw [e2] at hv7
      have d6 : ∀ {H' : Hp}, TupLe H7 H' → Dq K H' v6 (atD a) := fun s => (AtV.dq (K := K) hv6').up s
      have d7 : ∀ {H' : Hp}, TupLe H7 H' → Dq K H' v7 (atD b) := fun s => (AtV.dq (K := K) hv7).up s
      have s47 := (s5.tr s6).tr s7
      refine seq_if (σ := S7) (b1 := decide (y = "is")) (eq_str (wd (i := 1) (s47.tr s8) (show 1 < 3 by decide)) fun _ _ => ev_C) (fun g9 H9 s9 => ?_) (fun g9 H9 s9 => ?_)
      · refine ret_go (tup_go (cons_go (c_go (cons_go (tup_go (cons_go ⟨_, rfl, nil_go ⟨szL rfl, fun p1 hp1 => cons_go (tup_go (cons_go ⟨_, rfl, nil_go ⟨szL rfl, fun p2 hp2 => cons_go ⟨_, rfl, nil_go ⟨szL rfl, fun p3 hp3 => ?_⟩⟩⟩⟩))⟩⟩))))))
        have t1 : Same H9 (upd H9 p1 (.tup [v6])) := Same.new hp1
        have i1 : upd H9 p1 (.tup [v6]) p1 = some (.tup [v6]) := upd_same
        generalize upd H9 p1 (.tup [v6]) = Ha at t1 i1 hp2 hp3 ⊢
        have t2 : Same Ha (upd Ha p2 (.tup [v7])) := Same.new hp2
        have i2 : upd Ha p2 (.tup [v7]) p2 = some (.tup [v7]) := upd_same
        generalize upd Ha p2 (.tup [v7]) = Hb at t2 i2 hp3 ⊢
        have t3 : Same Hb (upd Hb p3 (.tup [.str "same", .ref p1, .ref p2, .bl (wantP text)])) := Same.new hp3
        have t79 := (((s8.tr s9).tr t1).tr t2).tr t3
        replace eP := eP.trans (if_pos (of_decide_eq_true g9))
        exact h1 _ _ _ eP (s07.tr t79) (.tup (.inl upd_same) (.cons (.str _) (.cons (.tup (.inl ((t2.tr t3) _ _ i1)) (.cons (d6 t79.tl) .nil)) (.cons (.tup (.inl (t3 _ _ i2)) (.cons (d7 t79.tl) .nil)) (.cons (.bl _) .nil)))))
      · refine ret_go (tup_go (cons_go (c_go (cons_go (tup_go (cons_go ⟨_, rfl, nil_go ⟨szL rfl, fun p1 hp1 => cons_go (tup_go (cons_go ⟨_, rfl, nil_go ⟨szL rfl, fun p2 hp2 => ?_⟩⟩))⟩⟩))))))
        have t1 : Same H9 (upd H9 p1 (.tup [v6])) := Same.new hp1
        have i1 : upd H9 p1 (.tup [v6]) p1 = some (.tup [v6]) := upd_same
        generalize upd H9 p1 (.tup [v6]) = Ha at t1 i1 hp2 ⊢
        have t2 : Same Ha (upd Ha p2 (.tup [v7])) := Same.new hp2
        have i2 : upd Ha p2 (.tup [v7]) p2 = some (.tup [v7]) := upd_same
        generalize upd Ha p2 (.tup [v7]) = Hb at t2 i2 ⊢
        have t48 := (s47.tr s8).tr s9
        have eb : decide (V.str y = V.str "<") = decide (y = "<") := dcS
        refine cons_go (ev_eq (wd (i := 1) ((t48.tr t1).tr t2) (show 1 < 3 by decide)) (fun _ _ => ev_C (v := .str "<")) rfl _ fun Hc t3 => cons_go ⟨_, rfl, nil_go ⟨szL rfl, fun p3 hp3 => ?_⟩⟩)
        have t4 : Same Hc (upd Hc p3 (.tup [.str "less", .ref p1, .ref p2, .bl (decide (V.str y = V.str "<")), .bl (wantP text)])) := Same.new hp3
        have t79 := ((((s8.tr s9).tr t1).tr t2).tr t3).tr t4
        replace eP := eP.trans (if_neg (of_decide_eq_false g9))
        refine h1 _ _ _ eP (s07.tr t79) (.tup (.inl upd_same) (.cons (.str _) (.cons (.tup (.inl (((t2.tr t3).tr t4) _ _ i1)) (.cons (d6 t79.tl) .nil)) (.cons (.tup (.inl ((t3.tr t4) _ _ i2)) (.cons (d7 t79.tl) .nil)) (.cons ?_ (.cons (.bl _) .nil))))))
        show Dq K _ (.bl (decide (V.str y = V.str "<"))) (.bool (decide (y = "<")))
        rw [eb]
        exact .bl _
end
end K03


set_option Elab.async false
set_option linter.all false
set_option maxRecDepth 100000
set_option maxHeartbeats 4000000
/-! a plain def kept in a field, called -/
namespace LmX
open PySem PySem.Spec PyProof.Rows L2 LamX NdefX
/-- the def at f keeps sp -/
def PfOk (P : Program) (w : World) (K : PySem.W.Frag) (mg : Str → Option Value) (base : Heap) (j : Nat) (f : Addr) (ps : List Str) (sp : Sp) : Prop := ∃ fd, PySem.W.keepIn K (.ref f) = true ∧ Binds K fd ps [] ∧ FnOk P w K mg base L2.CX0 j f fd ps sp
/-- o.m(..), m a field that holds a def -/
def tCallG (P : Program) (w : World) (K : PySem.W.Frag) (mg : Str → Option Value) (base : Heap) (j : Nat) (m : Str) (to : TE) (t : TA) : TE := fun σ H Q => to σ H fun x H1 => ∃ a C dx fs f, x = .ref a ∧ H1 a = some (.ins C dx fs) ∧ Cls K C ∧ NoAttr K C m ∧ fs.lookup m = some (.ref f) ∧
  ∃ ps sp, PfOk P w K mg base j f ps sp ∧ t σ H1 fun vs H2 => sp vs H2 Q L2.E0
section
variable {X : Cx} {x y : Str} {p pos apos : Pos} {e o : Expr} {es : List Expr} {t : TA}
theorem pe_callG {pl : Sem Bool} {m : Str} {to : TE} {j : Nat} (ho : PE X o to) (ha : PA X (e :: es) t) (hr : Room j X.A)
    (hst : starEach (e :: es) X.env = (false, eval e X.env) :: starEach es X.env := by rfl) (hpl : (backTo pos (starEach es X.env)).any (·.1) = false := by rfl)
    (ht : eval (.Call (.Attribute o m apos) (e :: es) [] pos) X.env = (do
      let ov ← eval o X.env
      standAt apos.atName
      let (f, first) ← holding [ov] (getMethod ov m pl)
      callWith pos f first (backTo pos (starEach (e :: es) X.env)) (backToKw pos (keywordEach [] X.env))) := by rfl) :
    PE X (.Call (.Attribute o m apos) (e :: es) [] pos) (tCallG X.prog X.w X.K X.mg X.base j m to t) := by
  refine ⟨fun pins s σ H Q I h => ?_⟩
  refine PySem.W.methodCall_KW (pl := pl) (thn (ho.run pins s σ H _ I h) fun u s1 ⟨x, H1, I1, rx, a, C, dx, fs, f, ex, ea, c, n, l, ps, sp, ⟨fd, kp, hb, G⟩, q⟩ => ?_) ht
  subst ex
  obtain rfl : u = Value.ref a := rx
  obtain ⟨mA, O, _⟩ := ins_get I1.hok ea
  obtain ⟨od, J, _⟩ := O.look
  refine PySem.W.method_usual (r := none) I1.kIn J (PySem.W.plainGet_of (c.get m)).1 (PySem.W.plainGet_of (c.get m)).2 n rfl ?_
  refine getattr_ok I1 ea c n l fun u' s2 I2 ru => ?_
  obtain rfl : u' = Value.ref f := ru
  refine PySem.W.callWith_K (first := []) (h₀ := X.base) I2.ok.mod.kin kp (thn (ha.run pos pins s2 σ H1 _ I2 q) fun us s3 ⟨vs, H2, I3, r, hsp⟩ => ⟨I3.kIn, ?_⟩) hst hpl
  show wpAny _ _ (call (.ref f) us) _ _ _
  exact run_fn G hr hb .nil pass0 I3 r (by rw [List.append_nil]; exact hsp)
theorem callG_at {P : Program} {w : World} {K : PySem.W.Frag} {mg : Str → Option Value} {base : Heap} {pl : Sem Bool} {m : Str} {to : TE} {j : Nat} (ho : PE X o to) (ha : PA X (e :: es) t) (hr : Room j X.A)
    (h1 : X.prog = P := by rfl) (h2 : X.w = w := by rfl) (h3 : X.K = K := by rfl) (h4 : X.mg = mg := by rfl) (h5 : X.base = base := by rfl)
    (hst : starEach (e :: es) X.env = (false, eval e X.env) :: starEach es X.env := by rfl) (hpl : (backTo pos (starEach es X.env)).any (·.1) = false := by rfl)
    (ht : eval (.Call (.Attribute o m apos) (e :: es) [] pos) X.env = (do
      let ov ← eval o X.env
      standAt apos.atName
      let (f, first) ← holding [ov] (getMethod ov m pl)
      callWith pos f first (backTo pos (starEach (e :: es) X.env)) (backToKw pos (keywordEach [] X.env))) := by rfl) :
    PE X (.Call (.Attribute o m apos) (e :: es) [] pos) (tCallG P w K mg base j m to t) := by
  subst h1 h2 h3 h4 h5
  exact pe_callG ho ha hr hst hpl ht
end
end LmX


set_option Elab.async false
set_option linter.all false
set_option maxRecDepth 100000
set_option maxHeartbeats 4000000
namespace K03
open PySem PySem.Spec PyProof.Rows L2 Rdr LmX LamX NdefX
section
variable {P : Program} {w : World} {K : PySem.W.Frag} {mg : Str → Option Value} {base : Heap}
/-- a def that keeps sp lies at f, whatever the heap -/
def LamAt (P : Program) (w : World) (K : PySem.W.Frag) (mg : Str → Option Value) (base : Heap) (j : Nat) (ps : List Str) (sp : Sp) (f : Addr) (_ : Hp) : Prop := PfOk P w K mg base j f ps sp
theorem LamAt.up {j : Nat} {ps : List Str} {sp : Sp} {f : Addr} {H H' : Hp} (h : LamAt P w K mg base j ps sp f H) (_ : Same H H') : LamAt P w K mg base j ps sp f H' := h
theorem LamAt.upx {j : Nat} {ps : List Str} {sp : Sp} {f x : Addr} {H H' : Hp} {C dx : Addr} {fs : List (Str × V)} (h : LamAt P w K mg base j ps sp f H) (_ : H x = some (.ins C dx fs)) (_ : SameX x H H') : LamAt P w K mg base j ps sp f H' := h
variable {α β : Type}
/-- what the lambda of the rows keeps -/
def spRowL (K : PySem.W.Frag) (fa : α → List PyData) (rowF : Str → Nat → Option α) : Sp := fun vs H Q E => ∃ (t : Str) (n : Nat), vs = [.str t, .int (n : Nat)] ∧ (t.length ≤ 1000 ∧ PyData.strOk t = true) ∧
  (rowF t n = none → ∀ H', Same H H' → Q .non H') ∧ ∀ a v H', rowF t n = some a → Same H H' → Dq K H' v (.tuple (fa a)) → Q v H'
def spPartL (K : PySem.W.Frag) (fb : β → List PyData) (partF : Str → Option β) : Sp := fun vs H Q E => ∃ (t : Str), vs = [.str t] ∧ t.length ≤ 1000 ∧
  (partF t = none → ∀ H', Same H H' → Q .non H') ∧ ∀ a v H', partF t = some a → Same H H' → Dq K H' v (.tuple (fb a)) → Q v H'
def rdF (l f g : Addr) (n i : Nat) : List (Str × V) := [("own_lines", .ref l), ("row_of", .ref f), ("part_of", .ref g), ("line", .int (n : Nat)), ("ifs", .int (i : Nat))]
abbrev cR (K : PySem.W.Frag) : Addr := He.ga K "Reader"
/-- a reader of the lines ts at line n, i ifs met -/
structure RdAt (P : Program) (w : World) (K : PySem.W.Frag) (mg : Str → Option Value) (base : Heap) (fa : α → List PyData) (fb : β → List PyData) (rowF : Str → Nat → Option α) (partF : Str → Option β) (H : Hp) (x dx l f g : Addr) (ts : List Str) (n i : Nat) : Prop where
  i : H x = some (.ins (cR K) dx (rdF l f g n i))
  l : H l = some (.lst (ts.map V.str))
  f : LamAt P w K mg base 10 ["text", "line"] (spRowL K fa rowF) f H
  g : LamAt P w K mg base 10 ["text"] (spPartL K fb partF) g H
  le : n ≤ ts.length
variable {fa : α → List PyData} {fb : β → List PyData} {rowF : Str → Nat → Option α} {partF : Str → Option β}
theorem RdAt.up {H H' : Hp} {x dx l f g : Addr} {ts : List Str} {n i : Nat} (r : RdAt P w K mg base fa fb rowF partF H x dx l f g ts n i) (s : Same H H') : RdAt P w K mg base fa fb rowF partF H' x dx l f g ts n i := ⟨s _ _ r.i, s _ _ r.l, r.f.up s, r.g.up s, r.le⟩
theorem RdAt.lx {H : Hp} {x dx l f g : Addr} {ts : List Str} {n i : Nat} (r : RdAt P w K mg base fa fb rowF partF H x dx l f g ts n i) : l ≠ x := fun e => by
  have h := r.l
  rw [e, r.i] at h
  cases h
theorem RdAt.to {H H' : Hp} {x dx l f g : Addr} {ts : List Str} {n i m j : Nat} (r : RdAt P w K mg base fa fb rowF partF H x dx l f g ts n i) (s : SameX x H H') (h : H' x = some (.ins (cR K) dx (rdF l f g m j))) (le : m ≤ ts.length) : RdAt P w K mg base fa fb rowF partF H' x dx l f g ts m j :=
  ⟨h, s _ _ r.lx r.l, r.f.upx r.i s, r.g.upx r.i s, le⟩
theorem RdAt.tl {H H' : Hp} {x dx l f g : Addr} {ts : List Str} {n i : Nat} (r : RdAt P w K mg base fa fb rowF partF H x dx l f g ts n i) (s : SameX x H H') : TupLe H H' := fun b xs h => s b _ (fun e => by rw [e, r.i] at h; cases h) h
def TsOk (ts : List Str) : Prop := ts.length ≤ 1000 ∧ ∀ t ∈ ts, t.length ≤ 1000 ∧ PyData.strOk t = true
/-- Reader(lines, row_of, part_of) -/
def spRI (K : PySem.W.Frag) : Sp := fun vs H Q E => ∃ (x dx l f g : Addr), vs = [.ref x, .ref l, .ref f, .ref g] ∧ H x = some (.ins (cR K) dx []) ∧
  (∀ H', H' x = some (.ins (cR K) dx (rdF l f g 0 0)) → SameX x H H' → Q .non H')
theorem ok_rinit (T : Tx P w K mg) : MkX P w K mg base CX0 1 "Reader" (cR K) ["self", "lines", "row_of", "part_of"] [] (spRI K) := by
  obtain ⟨f, fd, hm, M, F⟩ := T.mk_Reader
  refine ⟨f, fd, [], hm, M, F.bindsN (fun _ _ _ _ _ _ us hl => match us, hl with | [_, _, _, _], _ => rfl), .nil, F.ok0 sc_Reader_init (fun vs H Q E h => ?_) (fun cdv A outer s H vs Q E hr h => ⟨_, (by exact (pss_cons (ps_fld (pv 0) (pv 1) rfl)
      (pss_cons (ps_fld (pv 0) (pv 2) rfl)
      (pss_cons (ps_fld (pv 0) (pv 3) rfl)
      (pss_cons (ps_fld (pv 0) pe_int rfl)
      (pss_one (ps_fld (pv 0) pe_int rfl))))))), ?_⟩)⟩
  · obtain ⟨x, dx, l, f, g, rfl, _⟩ := h
    rfl
  obtain ⟨x, dx, l, f, g, rfl, hx, h0⟩ := h
  refine ⟨_, rfl, _, rfl, x, cR K, dx, [], rfl, hx, T.cl_Reader, T.na_Reader_own_lines, (by show 0 < 1000; decide), ?_⟩
  refine ⟨_, rfl, _, rfl, x, cR K, dx, _, rfl, upd_same, T.cl_Reader, T.na_Reader_row_of, (by show 1 < 1000; decide), ?_⟩
  rw [upd_upd]
  refine ⟨_, rfl, _, rfl, x, cR K, dx, _, rfl, upd_same, T.cl_Reader, T.na_Reader_part_of, (by show 2 < 1000; decide), ?_⟩
  rw [upd_upd]
  refine ⟨_, rfl, x, cR K, dx, _, rfl, upd_same, T.cl_Reader, T.na_Reader_line, (by show 3 < 1000; decide), ?_⟩
  rw [upd_upd]
  refine ⟨_, rfl, x, cR K, dx, _, rfl, upd_same, T.cl_Reader, T.na_Reader_ifs, (by show 4 < 1000; decide), ?_⟩
  rw [upd_upd]
  exact h0 _ upd_same (fun b o hb ho => by rw [upd_ne hb]; exact ho)
end
end K03


set_option Elab.async false
set_option linter.all false
set_option maxRecDepth 100000
set_option maxHeartbeats 4000000
namespace K03
open PySem PySem.Spec PyProof.Rows L2 Rdr LmX LamX NdefX
theorem drop_via {s : TS} {D : Ends} {te : TE} {σ : L2.St} {H : Hp} (R : Hp → Prop) (h : ∀ Q : VK, (∀ v H1, R H1 → Q v H1) → te σ H Q) (hk : ∀ H1, R H1 → s D σ H1) : tSeq (tDrop te) s D σ H := h _ fun v H1 r => hk H1 r
abbrev ErrAt (K : PySem.W.Frag) (x : Addr) (H : Hp) (E : XK) (k : Nat) : Prop := ∀ d H', SameX x H H' → H' d = some (.xd [("line", .int (k : Nat))]) → E (.ref (He.ga K "BadLine")) (some d) H'
theorem ev_m1 {σ : L2.St} {H : Hp} {n : Int} : EvE (tUn (rU fun i => .int (-i)) (tC (.int n))) σ H (.int (-n)) := fun Q k => ⟨n, rfl, k H (Same.rf H)⟩
theorem atI_last {α : Type} (xs : List α) (y : α) : atI (xs ++ [y]) (-1) = some y := by
  unfold atI ixN
  rw [List.length_append]
  have e : ((xs.length + [y].length : Nat) : Int) = (xs.length : Int) + 1 := by simp
  rw [if_neg (by decide), if_pos (by simp; omega)]
  simp
  rw [show (-1 + ((xs.length : Int) + 1)).toNat = xs.length by omega]
  simp
section
variable {P : Program} {w : World} {K : PySem.W.Frag} {mg : Str → Option Value} {base : Heap} {α β : Type} {fa : α → List PyData} {fb : β → List PyData} {rowF : Str → Nat → Option α} {partF : Str → Option β}
def spBlk (P : Program) (w : World) (K : PySem.W.Frag) (mg : Str → Option Value) (base : Heap) (fa : α → List PyData) (fb : β → List PyData) (rowF : Str → Nat → Option α) (partF : Str → Option β) (m : Nat) : Sp := fun vs H Q E =>
  ∃ (x dx l f g : Addr) (ts : List Str) (n i : Nat) (inner : Bool), vs = [.ref x, .bl inner] ∧ RdAt P w K mg base fa fb rowF partF H x dx l f g ts n i ∧ TsOk ts ∧ ts.length - n < m ∧
  (∀ k, Rd rowF partF (.blk inner) (ts.drop n) n i (.err k) → ErrAt K x H E k) ∧
  (∀ t wd ls n' i', Rd rowF partF (.blk inner) (ts.drop n) n i (.ok t wd ls n' i') → ∀ q a xs H', SameX x H H' → RdAt P w K mg base fa fb rowF partF H' x dx l f g ts n' i' → H' q = some (.tup [.ref a, .str wd]) → H' a = some (.tup xs) → DqAll K H' xs (t.toL fa fb) → Q (.ref q) H')
def spIf (P : Program) (w : World) (K : PySem.W.Frag) (mg : Str → Option Value) (base : Heap) (fa : α → List PyData) (fb : β → List PyData) (rowF : Str → Nat → Option α) (partF : Str → Option β) (m : Nat) : Sp := fun vs H Q E =>
  ∃ (x dx l f g : Addr) (ts : List Str) (n i : Nat) (text : Str), vs = [.ref x, .str text] ∧ RdAt P w K mg base fa fb rowF partF H x dx l f g ts n i ∧ TsOk ts ∧ text.length ≤ 1000 ∧ ts.length - n < m ∧
  (∀ k, Rd rowF partF (.cond text) (ts.drop n) n i (.err k) → ErrAt K x H E k) ∧
  (∀ l0 ps a b ls n' i', Rd rowF partF (.cond text) (ts.drop n) n i (.ok (.ifr l0 ps a b .nil) "" ls n' i') → ∀ v H', SameX x H H' → RdAt P w K mg base fa fb rowF partF H' x dx l f g ts n' i' →
    Dq K H' v (ifD l0 (ps.map fun p => .tuple (fb p)) (a.toL fa fb) (b.toL fa fb)) → Q v H')
theorem LamAt.updL {j : Nat} {ps : List Str} {sp : Sp} {f p : Addr} {H : Hp} {xs : List V} {o : HO} (h : LamAt P w K mg base j ps sp f H) (_ : H p = some (.lst xs)) : LamAt P w K mg base j ps sp f (upd H p o) := h
theorem RdAt.updL {H : Hp} {x dx l f g p : Addr} {ts : List Str} {n i : Nat} {xs : List V} {o : HO} (r : RdAt P w K mg base fa fb rowF partF H x dx l f g ts n i) (hp : H p = some (.lst xs)) (hl : p ≠ l) : RdAt P w K mg base fa fb rowF partF (upd H p o) x dx l f g ts n i :=
  ⟨by rw [upd_ne (fun e => by have := r.i; rw [e, hp] at this; cases this)]; exact r.i, by rw [upd_ne (Ne.symm hl)]; exact r.l, r.f.updL hp, r.g.updL hp, r.le⟩
theorem do_inc (T : Tx P w K mg) {s : TS} {D : Ends} {σ : L2.St} {H : Hp} {x dx l f g : Addr} {ts : List Str} {n i : Nat} (hv : σ[0]? = some (some (.ref x))) (r : RdAt P w K mg base fa fb rowF partF H x dx l f g ts n i) (k : s D σ (upd H x (.ins (cR K) dx (rdF l f g (n + 1) i)))) : tSeq (sFldAug K (tVar 0) (tC (.int 1)) rAdd "line") s D σ H :=
  ⟨_, hv, x, cR K, dx, _, _, rfl, r.i, T.cl_Reader, T.na_Reader_line, rfl, _, _, rfl, rfl, dx, _, r.i, (by show 5 < 1000; decide), k⟩
theorem ok_block (T : Tx P w K mg) {m j : Nat} (hj : 10 ≤ j) (F_Reader_read_if : MeX P w K mg base (L2.CX P w) j (cR K) "read_if" ["self", "text"] [] (spIf P w K mg base fa fb rowF partF m)) :
    MeX P w K mg base (L2.CX P w) (j + 1) (cR K) "read_block" ["self", "is_inner"] [] (spBlk P w K mg base fa fb rowF partF (m + 1)) := by
  refine MetX.okX T.m_Reader_read_block sc_Reader_read_block (fun _ _ _ _ _ _ us hl => match us, hl with | [_, _], _ => rfl) (fun vs H Q E h => ?_) (fun f cdv A outer s H vs Q E hr h => ⟨_, (by exact (pss_cons (ps_set (i := 2) sc_Reader_read_block.nd rfl (Or.inl rfl) (pe_lst pa_nil))
      (pss_cons (ps_while (passes_of rfl) (pt_cmpR op_lt (pe_fld (pv 0) rfl) (pe_callB call_len_seq (by rfl) T.b_len (by decide +kernel) (pa_cons (pe_fld (pv 0) rfl) pa_nil)) (nomark _)) (pss_cons (ps_set (i := 3) sc_Reader_read_block.nd rfl (Or.inl rfl) (pe_ix ix_list (pe_fld (pv 0) rfl) (pe_fld (pv 0) rfl) (fun _ _ => rfl)))
      (pss_cons (ps_fldaug (pv 0) pe_int in_add)
      (pss_cons (ps_if (pt_cmpR op_in_seq (pv 3) (pe_tup (pa_cons pe_str (pa_cons pe_str pa_nil))) (by rfl)) (pss_cons (ps_if (pt_not (pt_val (pv 1))) (pss_one (ps_raise rfl (takes_of rfl rfl rfl rfl) (pmk_err T.e_BadLine T.g_BadLine hr (pa_cons (pe_fld (pv 0) rfl) pa_nil)))) pss_nil)
      (pss_one (ps_ret (pe_tup (pa_cons (pe_callTy call_tuple_of (by rfl) T.b_tuple (by decide +kernel) (pa_cons (pv 2) pa_nil)) (pa_cons (pv 3) pa_nil)))))) pss_nil)
      (pss_cons (ps_expr (pe_bm PySem.F.plainAttrs_list PySem.F.slot_list_append PySem.F.type_list_append mt_append (pv 2) (pa_cons (pe_ifExp (pt_cmpR op_eq (pe_slice sl_str (pv 3) po_none (po_some pe_int)) pe_str (nomark _)) (pe_methX F_Reader_read_if (hr.mono (by first | decide | omega)) passOut (pv 0) (pa_cons (pe_slice sl_str (pv 3) (po_some pe_int) po_none) pa_nil)) (LmX.callG_at (P := P) (w := w) (K := K) (mg := mg) (base := base) (j := 10) (pv 0) (pa_cons (pv 3) (pa_cons (pe_fld (pv 0) rfl) pa_nil)) (hr.mono (by first | decide | omega)))) pa_nil)))
      (pss_one (ps_if (pt_cmpR op_isN (pe_ix ix_list (pv 2) (pe_un un_neg pe_int) (fun _ _ => rfl)) pe_non (nomark _)) (pss_one (ps_raise rfl (takes_of rfl rfl rfl rfl) (pmk_err T.e_BadLine T.g_BadLine hr (pa_cons (pe_fld (pv 0) rfl) pa_nil)))) pss_nil)))))))
      (pss_cons (ps_if (pt_val (pv 1)) (pss_one (ps_raise rfl (takes_of rfl rfl rfl rfl) (pmk_err T.e_BadLine T.g_BadLine hr (pa_cons (pe_op op_add (pe_fld (pv 0) rfl) pe_int) pa_nil)))) pss_nil)
      (pss_one (ps_ret (pe_tup (pa_cons (pe_callTy call_tuple_of (by rfl) T.b_tuple (by decide +kernel) (pa_cons (pv 2) pa_nil)) (pa_cons pe_str pa_nil))))))))), ?_⟩)
  · obtain ⟨x, dx, l, f, g, ts, n, i, inner, rfl, _⟩ := h
    rfl
  obtain ⟨x, dx, l, f, g, ts, n, i, inner, rfl, r, hts, hm, h0, h1⟩ := h
  refine set_lst (vs := []) ev_nil (fun H1 la s1 hla hl => ?_)
  have hlx : la ≠ x := fun z => by rw [z, r.i] at hla; cases hla
  have hll : la ≠ l := fun z => by rw [z, r.l] at hla; cases hla
  have q9 : sizeLine = 16777216 := sizeLine_eq
  refine do_whl (fun k σ H' => ∃ n' i' xs ww done, σ = [some (.ref x), some (.bl inner), some (.ref la), ww] ∧ k = ts.length - n' ∧ SameX x H H' ∧ RdAt P w K mg base fa fb rowF partF H' x dx l f g ts n' i' ∧ n ≤ n' ∧ H' la = some (.lst xs) ∧ xs.length ≤ n' ∧ DqAll K H' xs (RT.toL fa fb done) ∧
    ∀ R, Rd rowF partF (.blk inner) (ts.drop n') n' i' R → Rd rowF partF (.blk inner) (ts.drop n) n i (R.pre done.app)) (m0 := ts.length - n) ⟨n, i, [], none, .nil, rfl, rfl, s1.x, r.up s1, Nat.le_refl _, hl, Nat.zero_le _, .nil, fun R h => by cases R <;> exact h⟩ ?_
  rintro k σ H2 ⟨n', i', xs, ww, done, rfl, rfl, sx, r2, hn, hl2, hxl, hdq, hR⟩
  have V0 : ∀ {u H}, EvE (tVar 0) [some (.ref x), some (.bl inner), some (.ref la), u] H (.ref x) := ev_var rfl
  have FL : ∀ {u H}, RdAt P w K mg base fa fb rowF partF H x dx l f g ts n' i' → EvE (tFld K (tVar 0) "own_lines") [some (.ref x), some (.bl inner), some (.ref la), u] H (.ref l) := fun r => ev_fld V0 r.i T.cl_Reader T.na_Reader_own_lines rfl
  have FN : ∀ {u H m i}, RdAt P w K mg base fa fb rowF partF H x dx l f g ts m i → EvE (tFld K (tVar 0) "line") [some (.ref x), some (.bl inner), some (.ref la), u] H (.int (m : Nat)) := fun r => ev_fld V0 r.i T.cl_Reader T.na_Reader_line rfl
  refine ⟨decide (n' < ts.length), ?_, fun gg H3 s3 => ?_, fun gg H3 s3 => ?_⟩
  · have := ev_test (σ := [some (.ref x), some (.bl inner), some (.ref la), ww]) (ev_lt (FN r2) fun H3 s3 => ev_len (K := K) (ev_cons (FL (r2.up s3)) fun _ _ => ev_nil) (.inl (s3.sql (.inl (.inl r2.l)))))
    rw [List.length_map, show decide ((n' : Int) < (ts.length : Int)) = decide (n' < ts.length) from by by_cases h : n' < ts.length <;> simp [h]] at this
    exact this
  · have hlt : n' < ts.length := of_decide_eq_true gg
    have r3 := r2.up s3
    have e : ts.drop n' = ts[n'] :: ts.drop (n' + 1) := List.drop_eq_getElem_cons hlt
    have htm : ts[n'] ∈ ts := List.getElem_mem hlt
    generalize ht : ts[n'] = t at e htm
    have htl := hts.2 t htm
    rw [e] at hR
    refine do_set (x := .str t) (ev_ixL (FL r3) (fun H4 s4 => FN (r3.up s4)) (.inl (.inl r3.l)) ?_) (fun H4 s4 => ?_)
    · refine atI_nat ?_
      rw [List.getElem?_map, List.getElem?_eq_getElem hlt, ht]
      rfl
    have r4 := r3.up s4
    refine do_inc T rfl r4 ?_
    have sx47 : SameX x H4 (upd H4 x (.ins (cR K) dx (rdF l f g (n' + 1) i'))) := (Same.rf H4).x.upd
    have r7 := r4.to sx47 upd_same hlt
    generalize upd H4 x (.ins (cR K) dx (rdF l f g (n' + 1) i')) = H7 at sx47 r7 ⊢
    have s24 := s3.tr s4
    have sx7 : SameX x H H7 := (sx.tr s24.x).tr sx47
    have hl7 : H7 la = some (.lst xs) := sx47 _ _ hlx (s24 _ _ hl2)
    have hd7 : DqAll K H7 xs (RT.toL fa fb done) := hdq.up fun b u h => r4.tl sx47 b u (s24 _ _ h)
    let S : L2.St := [some (.ref x), some (.bl inner), some (.ref la), some (.str t)]
    have V3 : ∀ {H}, EvE (tVar 3) S H (.str t) := ev_var rfl
    refine seq_if (σ := S) (ev_test (ev_in (ns := enders) V3 (in_tup (ns := enders) fun _ => ev_cons ev_C fun _ _ => ev_cons ev_C fun _ _ => ev_nil))) (fun g1 H8 s8 => ?_) (fun g1 H8 s8 => ?_)
    · have g1 := of_decide_eq_true g1
      have r8 := r7.up s8
      refine seq_if (σ := S) (ev_not (ev_tB (ev_var (i := 1) rfl))) (fun g2 H9 s9 => ?_) (fun g2 H9 s9 => ?_)
      · have g2 : inner = false := by simpa using g2
        subst g2
        have r9 := r8.up s9
        refine FN r9 _ fun Ha sa => ⟨rfl, (fun z => absurd z (by simp)), fun _ d hd => ?_⟩
        exact h0 _ (hR (.err (n' + 1)) (.finO g1)) d _ ((((sx7.tr s8.x).tr s9.x).tr sa.x).tr (Same.new hd).x) upd_same
      · have g2 : inner = true := by simpa using g2
        subst g2
        have r9 := r8.up s9
        have s79 := s8.tr s9
        refine ret_go (tup_go (cons_go ⟨_, rfl, la, xs, rfl, .inl ⟨.inl (.inl (s79 _ _ hl7)), fun q hq => cons_go (var_go rfl (nil_go ⟨szL rfl, fun q2 hq2 => ?_⟩))⟩⟩))
        have t1 : Same H9 (upd H9 q (.tup xs)) := Same.new hq
        have i1 : upd H9 q (.tup xs) q = some (.tup xs) := upd_same
        generalize upd H9 q (.tup xs) = Ha at t1 i1 hq2 ⊢
        have t2 : Same Ha (upd Ha q2 (.tup [.ref q, .str t])) := Same.new hq2
        have t7 := (s79.tr t1).tr t2
        refine h1 (done.app .nil) t (ts.drop (n' + 1)) (n' + 1) i' (hR (.ok .nil t _ (n' + 1) i') (.fin g1)) q2 q xs _ (sx7.tr t7.x) (r7.up t7) upd_same (t2 _ _ i1) ?_
        rw [RT.app_nil]
        exact hd7.up t7.tl
    · have g1 := of_decide_eq_false g1
      refine drop_via (σ := S) (fun H1 => ∃ y n2 i2, SameX x H H1 ∧ H1 la = some (.lst (xs ++ [y])) ∧ RdAt P w K mg base fa fb rowF partF H1 x dx l f g ts n2 i2 ∧ n' + 1 ≤ n2 ∧ DqAll K H1 xs (RT.toL fa fb done) ∧
        ((y = .non ∧ n2 = n' + 1 ∧ Rd rowF partF (.blk inner) (t :: ts.drop (n' + 1)) n' i' (.err (n' + 1))) ∨ ∃ t1 d, Dq K H1 y (.tuple d) ∧ RT.toL fa fb t1 = [.tuple d] ∧ ∀ R, Rd rowF partF (.blk inner) (ts.drop n2) n2 i2 R → Rd rowF partF (.blk inner) (t :: ts.drop (n' + 1)) n' i' (R.pre t1.app))) (fun Q hQ => ?_) (fun H9 hy => ?_)
      · have hl8 := s8 _ _ hl7
        have r8 := r7.up s8
        have app : ∀ (y : V) (H9 : Hp) (n2 i2 : Nat), SameX x H8 H9 → RdAt P w K mg base fa fb rowF partF H9 x dx l f g ts n2 i2 → n' + 1 ≤ n2 →
            ((y = .non ∧ n2 = n' + 1 ∧ Rd rowF partF (.blk inner) (t :: ts.drop (n' + 1)) n' i' (.err (n' + 1))) ∨ ∃ t1 d, Dq K H9 y (.tuple d) ∧ RT.toL fa fb t1 = [.tuple d] ∧ ∀ R, Rd rowF partF (.blk inner) (ts.drop n2) n2 i2 R → Rd rowF partF (.blk inner) (t :: ts.drop (n' + 1)) n' i' (R.pre t1.app)) → rAppend (.ref la) [y] H9 Q := by
          intro y H9 n2 i2 s9 r9 hn2 hy
          have hl9 := s9 _ _ hlx hl8
          have tl : TupLe H9 (upd H9 la (.lst (xs ++ [y]))) := TupLe.mut hl9 fun xs z => by cases z
          refine ⟨la, xs, y, rfl, rfl, hl9, by have := hts.1; omega, hQ _ _ ⟨y, n2, i2, ?_, upd_same, ?_, hn2, ?_, ?_⟩⟩
          · intro b o hb ho
            rw [upd_ne (ne_of_none ho hla)]
            exact s9 _ _ hb (s8 _ _ (sx7 _ _ hb ho))
          · exact r9.updL hl9 hll
          · exact (hd7.up fun b u h => r8.tl s9 b u (s8 _ _ h)).up tl
          · rcases hy with hy | ⟨t1, d, h4, h5, h6⟩
            · exact .inl hy
            · exact .inr ⟨t1, d, h4.up tl, h5, h6⟩
        refine ⟨_, rfl, .inl ⟨rfl, ⟨_, .inl (.inl hl8)⟩⟩, cons_go ?_⟩
        refine ev_test (ev_eq (ev_cutA V3 (by omega)) (fun _ _ => ev_C) rfl) _ fun H9 s9 => ?_
        rw [dcS]
        have r9 := r8.up s9
        refine iteB (fun g2 => ?_) (fun g2 => ?_)
        · have g2 := of_decide_eq_true g2
          refine ⟨_, rfl, x, dx, _, rfl, r9.i, rfl, cons_go (ev_cutB V3 (by omega) _ fun Ha sa => nil_go ?_)⟩
          have ra := r9.up sa
          have s8a := s9.tr sa
          refine ⟨x, dx, l, f, g, ts, n' + 1, i', cut3 t, rfl, ra, hts, Nat.le_trans (cutS_length _ _ _) htl.1, by omega, (fun k hk d Hb sb hd => ?_), (fun l0 ps a b ls n2 i2 hrd y Hb sb rb hy => nil_go ?_)⟩
          · exact h0 _ (hR (.err k) (.ifE g1 g2 hk)) d Hb ((sx7.tr (s8.tr s8a).x).tr sb) hd
          · obtain ⟨j9, hj1, hj2, hj3, _⟩ := Rd.adv hrd _ _ _ _ _ rfl
            refine app y Hb n2 i2 (s8a.x.tr sb) rb (by omega) (.inr ⟨.ifr l0 ps a b .nil, _, hy, rfl, fun R hRR => .ifr g1 g2 hrd ?_⟩)
            rw [List.drop_drop] at hj2
            rw [hj2, show n' + 1 + j9 = n2 by omega]
            exact hRR
        · have g2 := of_decide_eq_false g2
          refine ⟨_, rfl, x, cR K, dx, _, f, rfl, r9.i, T.cl_Reader, T.na_Reader_row_of, rfl, _, _, r9.f, cons_go (var_go rfl (cons_go (FN r9 _ fun Ha sa => nil_go ?_)))⟩
          have s8a := s9.tr sa
          have ra := r9.up sa
          refine ⟨t, n' + 1, rfl, htl, (fun e9 Hb sb => nil_go ?_), (fun a y Hb e9 sb hy => nil_go ?_)⟩
          · exact app .non Hb (n' + 1) i' (s8a.tr sb).x (ra.up sb) (Nat.le_refl _) (.inl ⟨rfl, rfl, .bad g1 g2 e9⟩)
          · exact app y Hb (n' + 1) i' (s8a.tr sb).x (ra.up sb) (Nat.le_refl _) (.inr ⟨.leaf a .nil, _, hy, rfl, fun R hRR => .leaf g1 g2 e9 hRR⟩)
      · obtain ⟨y, n2, i2, sx9, hl9, r9, hn2, hd9, hy⟩ := hy
        refine do_if (σ := S) (b1 := decide (y = .non)) (ev_test (isNv (ev_ixL (ev_var rfl) (fun _ _ => ev_m1) (.inl (.inl hl9)) (atI_last xs y)) rfl)) (fun g2 Ha sa => ?_) (fun g2 Ha sa => ?_)
        · have g2 := of_decide_eq_true g2
          subst g2
          rcases hy with ⟨_, e2, hy⟩ | ⟨t1, d, h4, _⟩
          · subst e2
            have ra := r9.up sa
            refine FN ra _ fun Hb sb => ⟨rfl, (fun z => absurd z (by simp)), fun _ d hd => ?_⟩
            exact h0 _ (hR (.err (n' + 1)) hy) d _ (((sx9.tr sa.x).tr sb.x).tr (Same.new hd).x) upd_same
          · cases h4
        · have g2 := of_decide_eq_false g2
          rcases hy with ⟨e2, _⟩ | ⟨t1, d, h4, h5, h6⟩
          · exact absurd e2 g2
          refine ⟨ts.length - n2, by have := r9.le; omega, n2, i2, xs ++ [y], _, done.app t1, rfl, rfl, sx9.tr sa.x, r9.up sa, by omega, sa _ _ hl9, by simp; omega, ?_, fun R hRR => ?_⟩
          · rw [RT.toL_app, h5]
            exact (hd9.up sa.tl).snoc (h4.up sa.tl)
          · have h9 := hR _ (h6 R hRR)
            rw [pre_pre] at h9
            have e9 : (fun t2 => done.app (t1.app t2)) = (done.app t1).app := by
              funext u
              rw [RT.app_assoc]
            rw [e9] at h9
            exact h9
  · have hge : ¬ n' < ts.length := of_decide_eq_false gg
    have e : ts.drop n' = [] := List.drop_eq_nil_of_le (by omega)
    rw [e] at hR
    have r3 := r2.up s3
    have s23 := s3
    refine nx_seq (seq_if (b1 := inner) (ev_tB (ev_var (i := 1) rfl)) (fun g1 H4 s4 => ?_) (fun g1 H4 s4 => ?_))
    · subst g1
      have r4 := r3.up s4
      refine ev_op (v := .int ((n' + 1 : Nat) : Int)) (FN r4) (fun _ _ => ev_C) (fun H5 _ Q q => ⟨_, _, rfl, rfl, q⟩) _ fun Ha sa => ⟨rfl, (fun z => absurd z (by simp)), fun _ d hd => ?_⟩
      exact h0 _ (hR (.err (n' + 1)) .eofI) d _ (((((sx.tr s3.x).tr s4.x).tr sa.x)).tr (Same.new hd).x) upd_same
    · subst g1
      have s34 := s3.tr s4
      refine ret_go (tup_go (cons_go ⟨_, rfl, la, xs, rfl, .inl ⟨.inl (.inl (s34 _ _ hl2)), fun q hq => cons_go (c_go (nil_go ⟨szL rfl, fun q2 hq2 => ?_⟩))⟩⟩))
      have t1 : Same H4 (upd H4 q (.tup xs)) := Same.new hq
      have i1 : upd H4 q (.tup xs) q = some (.tup xs) := upd_same
      generalize upd H4 q (.tup xs) = Ha at t1 i1 hq2 ⊢
      have t2 : Same Ha (upd Ha q2 (.tup [.ref q, .str ""])) := Same.new hq2
      have t7 := (s34.tr t1).tr t2
      refine h1 (done.app .nil) "" [] n' i' (hR (.ok .nil "" [] n' i') .eof) q2 q xs _ (sx.tr t7.x) (r2.up t7) upd_same (t2 _ _ i1) ?_
      rw [RT.app_nil]
      exact hdq.up t7.tl
end
end K03


set_option Elab.async false
set_option linter.all false
set_option maxRecDepth 100000
set_option maxHeartbeats 4000000
namespace K03
open PySem PySem.Spec PyProof.Rows L2 Rdr LmX LamX NdefX
def POk {β : Type} (K : PySem.W.Frag) (H : Hp) (fb : β → List PyData) (v : V) : Option β → Prop
  | none => v = .non
  | some b => Dq K H v (.tuple (fb b))
inductive PAll {β : Type} (K : PySem.W.Frag) (H : Hp) (fb : β → List PyData) : List V → List (Option β) → Prop
  | nil : PAll K H fb [] []
  | cons {v : V} {vs : List V} {o : Option β} {os : List (Option β)} : POk K H fb v o → PAll K H fb vs os → PAll K H fb (v :: vs) (o :: os)
theorem split_cnt (x y : Str) (hy : 1 ≤ y.length) : (Txt.split x y).length ≤ x.length + 1 := by
  have e := StrLaws.join_split x y
  have key : ∀ (l : List (List Nat)), l.length ≤ (TL.joinL (TL.tl y) l).length + 1 := by
    intro l
    induction l with
    | nil => exact Nat.zero_le _
    | cons a r ih =>
      cases r with
      | nil => exact Nat.le_add_left 1 _
      | cons b r =>
        show (b :: r).length + 1 ≤ (a ++ (TL.tl y ++ TL.joinL (TL.tl y) (b :: r))).length + 1
        rw [List.length_append, List.length_append]
        have : 1 ≤ (TL.tl y).length := by rw [← TL.len_tl]; exact hy
        omega
  have q := key ((Txt.split x y).map TL.tl)
  rw [← TL.tl_join, e, List.length_map, ← TL.len_tl] at q
  exact q
section
variable {K : PySem.W.Frag} {H H' : Hp} {β : Type} {fb : β → List PyData}
theorem POk.up (s : TupLe H H') {v : V} : ∀ {o : Option β}, POk K H fb v o → POk K H' fb v o
  | none, h => h
  | some b, h => Dq.up s h
theorem PAll.up (s : TupLe H H') : ∀ {vs : List V} {os : List (Option β)}, PAll K H fb vs os → PAll K H' fb vs os
  | _, _, .nil => .nil
  | _, _, .cons h hs => .cons (h.up s) (PAll.up s hs)
theorem PAll.snoc : ∀ {vs : List V} {os : List (Option β)} {v : V} {o : Option β}, PAll K H fb vs os → POk K H fb v o → PAll K H fb (vs ++ [v]) (os ++ [o])
  | _, _, _, _, .nil, h => .cons h .nil
  | _, _, _, _, .cons h hs, k => .cons h (PAll.snoc hs k)
theorem PAll.len : ∀ {vs : List V} {os : List (Option β)}, PAll K H fb vs os → vs.length = os.length
  | _, _, .nil => rfl
  | _, _, .cons _ hs => by rw [List.length_cons, List.length_cons, PAll.len hs]
theorem PAll.tup : ∀ {vs : List V} {os : List (Option β)}, PAll K H fb vs os → ∀ v ∈ vs, tupOrN K H v
  | _, _, .nil => fun v h => by cases h
  | _, _, .cons (o := o) h hs => fun v hv => by
    rcases List.mem_cons.mp hv with e | hv
    · subst e
      match o, h with
      | none, h => exact .inl h
      | some b, h =>
        obtain ⟨p, xs, e, hp, _⟩ := Dq.tuple h
        exact .inr ⟨p, xs, e, hp⟩
    · exact PAll.tup hs v hv
theorem PAll.anyN : ∀ {vs : List V} {os : List (Option β)}, PAll K H fb vs os → (vs.any fun v => decide (v = .non)) = os.any (·.isNone)
  | _, _, .nil => rfl
  | _, _, .cons (o := o) h hs => by
    rw [List.any_cons, List.any_cons, PAll.anyN hs]
    match o, h with
    | none, h => rw [show _ = V.non from h]; rfl
    | some b, h =>
      obtain ⟨p, xs, e, _⟩ := Dq.tuple h
      rw [e]
      rfl
theorem PAll.dq : ∀ {vs : List V} {ps : List β}, PAll K H fb vs (ps.map some) → DqAll K H vs (ps.map fun p => .tuple (fb p))
  | _, [], .nil => .nil
  | _, p :: ps, .cons h hs => .cons h (PAll.dq hs)
end
theorem all_some {β : Type} : ∀ {os : List (Option β)}, os.any (·.isNone) = false → ∃ ps : List β, os = ps.map some
  | [], _ => ⟨[], rfl⟩
  | o :: os, h => by
    rw [List.any_cons, Bool.or_eq_false_iff] at h
    obtain ⟨ps, e⟩ := all_some h.2
    cases o with
    | none => cases h.1
    | some b => exact ⟨b :: ps, by rw [e]; rfl⟩
theorem wipe8 {a b c d e f g h : Option V} : wipe [a, b, c, d, e, f, g, h] [4] = [a, b, c, d, none, f, g, h] := rfl
section
variable {P : Program} {w : World} {K : PySem.W.Frag} {mg : Str → Option Value} {base : Heap} {α β : Type} {fa : α → List PyData} {fb : β → List PyData} {rowF : Str → Nat → Option α} {partF : Str → Option β}
theorem do_incI (T : Tx P w K mg) {s : TS} {D : Ends} {σ : L2.St} {H : Hp} {x dx l f g : Addr} {ts : List Str} {n i : Nat} (hv : σ[0]? = some (some (.ref x))) (r : RdAt P w K mg base fa fb rowF partF H x dx l f g ts n i) (k : s D σ (upd H x (.ins (cR K) dx (rdF l f g n (i + 1))))) : tSeq (sFldAug K (tVar 0) (tC (.int 1)) rAdd "ifs") s D σ H :=
  ⟨_, hv, x, cR K, dx, _, _, rfl, r.i, T.cl_Reader, T.na_Reader_ifs, rfl, _, _, rfl, rfl, dx, _, r.i, (by show 5 < 1000; decide), k⟩
theorem ok_readif (T : Tx P w K mg) {m j : Nat} (hj : 10 ≤ j) (F_Reader_read_block : MeX P w K mg base (L2.CX P w) j (cR K) "read_block" ["self", "is_inner"] [] (spBlk P w K mg base fa fb rowF partF m)) :
    MeX P w K mg base (L2.CX P w) (j + 1) (cR K) "read_if" ["self", "text"] [] (spIf P w K mg base fa fb rowF partF m) := by
  refine MetX.okX T.m_Reader_read_if sc_Reader_read_if (fun _ _ _ _ _ _ us hl => match us, hl with | [_, _], _ => rfl) (fun vs H Q E h => ?_) (fun f cdv A outer s H vs Q E hr h => ⟨_, (by exact (pss_cons (ps_par (i := 2) (j := 3) (by rfl) sc_Reader_read_if.nd rfl rfl (by decide) rfl rfl (pa_cons (pe_fld (pv 0) rfl) (pa_cons (pe_callTy call_tuple_of (by rfl) T.b_tuple (by decide +kernel) (pa_cons (pe_lc (own := [("part", 4)]) (g := (gName 4)) (tt := tYes) (by rfl) sc_Reader_read_if.nd (pi_list (pe_split (pv 1) pe_str)) (blkOk_by (own := [("part", 4)]) (N := ["self", "text", "line", "parts", "part", "rows", "word", "others"]) (sc := defScope s_Reader_read_if) (by decide +kernel)) (fun _ _ _ _ _ => (pg_name (i := 4) sc_Reader_read_if.nd rfl (Or.inl rfl))) (fun _ _ _ _ _ => pts_nil) (fun _ _ _ _ _ => (LmX.callG_at (P := P) (w := w) (K := K) (mg := mg) (base := base) (j := 10) (pv 0) (pa_cons (pv 4) pa_nil) (hr.mono (by first | decide | omega))))) pa_nil)) pa_nil)) (by rfl))
      (pss_cons (ps_if (PW.pt (pw_or (pt_cmpR op_gt (pe_callB call_len_seq (by rfl) T.b_len (by decide +kernel) (pa_cons (pv 3) pa_nil)) (pe_gint T.c_MOST_PARTS) (nomark _)) (pw_or1 (pt_cmpR (op_noneInT hr.units) pe_non (pv 3) (by rfl))))) (pss_one (ps_raise rfl (takes_of rfl rfl rfl rfl) (pmk_err T.e_BadLine T.g_BadLine hr (pa_cons (pv 2) pa_nil)))) pss_nil)
      (pss_cons (ps_fldaug (pv 0) pe_int in_add)
      (pss_cons (ps_asg (pe_methX F_Reader_read_block (hr.mono (by first | decide | omega)) passOut (pv 0) (pa_cons pe_bl pa_nil)) (pg_tup rfl (pgs_cons (pg_name (i := 5) sc_Reader_read_if.nd rfl (Or.inl rfl)) (pgs_cons (pg_name (i := 6) sc_Reader_read_if.nd rfl (Or.inl rfl)) pgs_nil))))
      (pss_cons (ps_set (i := 7) sc_Reader_read_if.nd rfl (Or.inl rfl) (pe_tup pa_nil))
      (pss_cons (ps_if (pt_cmpR op_eq (pv 6) pe_str (nomark _)) (pss_cons (ps_asg (pe_methX F_Reader_read_block (hr.mono (by first | decide | omega)) passOut (pv 0) (pa_cons pe_bl pa_nil)) (pg_tup rfl (pgs_cons (pg_name (i := 7) sc_Reader_read_if.nd rfl (Or.inl rfl)) (pgs_cons (pg_name (i := 6) sc_Reader_read_if.nd rfl (Or.inl rfl)) pgs_nil))))
      (pss_one (ps_if (pt_cmpR op_eq (pv 6) pe_str (nomark _)) (pss_one (ps_raise rfl (takes_of rfl rfl rfl rfl) (pmk_err T.e_BadLine T.g_BadLine hr (pa_cons (pe_fld (pv 0) rfl) pa_nil)))) pss_nil))) pss_nil)
      (pss_one (ps_ret (pe_tup (pa_cons pe_str (pa_cons (pv 2) (pa_cons (pv 3) (pa_cons (pv 5) (pa_cons (pv 7) pa_nil))))))))))))))), ?_⟩)
  · obtain ⟨x, dx, l, f, g, ts, n, i, text, rfl, _⟩ := h
    rfl
  obtain ⟨x, dx, l, f, g, ts, n, i, text, rfl, r, hts, htl, hm, h0, h1⟩ := h
  have q9 : sizeLine = 16777216 := sizeLine_eq
  let S0 : L2.St := [some (.ref x), some (.str text), none, none, none, none, none, none]
  refine par_go (cons_go (ev_fld (σ := S0) (ev_var rfl) r.i T.cl_Reader T.na_Reader_line rfl _ fun H1 s1 => cons_go (cb_go (cons_go ?_))))
  have r1 := r.up s1
  refine do_split (z := text) (ev_var rfl) (by decide +kernel) (by omega) (fun H2 wa s2 _ hwa => ⟨wa, rfl, ⟨_, .inl (.inl hwa)⟩, fun D hD => ?_⟩)
  have s02 := s1.tr s2
  have r2 := r.up s02
  have hlw : ∀ z ∈ Txt.split text andS, z.length ≤ 1000 := fun z hz => Nat.le_trans (split_len _ _ z hz) htl
  have hln : (Txt.split text andS).length ≤ 1001 := Nat.le_trans (split_cnt text andS (by decide +kernel)) (by omega)
  replace hwa : H2 wa = some (.lst ((Txt.split text andS).map V.str)) := hwa
  generalize hws : Txt.split text andS = ws at hlw hwa hln
  have eps : partsOf partF text = ws.map partF := by unfold partsOf; rw [hws]
  have hDw : D ≠ wa := fun z => by rw [z, hwa] at hD; cases hD
  refine lc_list (xs := ws.map V.str) (fun k H' => Same H2 H' ∧ ∃ vs, H' D = some (.lst vs) ∧ PAll K H' fb vs ((ws.take k).map partF)) ⟨Same.new hD, [], upd_same, .nil⟩ (fun k H' _ h => .inl (.inl (h.1 _ _ hwa))) ?_ (fun H3 h => ?_)
  · rintro k v H3 hk ⟨s3, vs, hd, hv⟩
    rw [List.getElem?_map] at hk
    cases hz : ws[k]? with
    | none => rw [hz] at hk; cases hk
    | some z =>
      rw [hz] at hk
      cases hk
      have hzl := hlw z (List.mem_of_getElem? hz)
      have r3 := r2.up s3
      refine ⟨rfl, ?_⟩
      dsimp only [tYes]
      rw [if_pos rfl]
      have fin : ∀ v H4, Same H3 H4 → POk K H4 fb v (partF z) → ∃ acc, H4 D = some (.lst acc) ∧ acc.length < sizeLine ∧ (Same H2 (upd H4 D (.lst (acc ++ [v]))) ∧ ∃ vs, upd H4 D (.lst (acc ++ [v])) D = some (.lst vs) ∧ PAll K (upd H4 D (.lst (acc ++ [v]))) fb vs ((ws.take (k + 1)).map partF)) := by
        intro v H4 s4 hv4
        have hl := hv.len
        rw [List.length_map, List.length_take] at hl
        have tl : TupLe H4 (upd H4 D (.lst (vs ++ [v]))) := TupLe.mut (s4 _ _ hd) fun xs z => by cases z
        refine ⟨vs, s4 _ _ hd, by omega, (s3.tr s4).mut hD, _, upd_same, ?_⟩
        rw [tk1 hz, List.map_append]
        exact ((hv.up s4.tl).up tl).snoc (hv4.up tl)
      refine ⟨_, rfl, x, cR K, dx, _, g, rfl, r3.i, T.cl_Reader, T.na_Reader_part_of, rfl, _, _, r3.g, cons_go ⟨_, rfl, nil_go ⟨z, rfl, hzl, (fun e H4 s4 => ?_), (fun a v H4 e s4 hv => ?_)⟩⟩⟩
      · exact fin .non H4 s4 (by rw [e]; rfl)
      · exact fin v H4 s4 (by rw [e]; exact hv)
  · obtain ⟨s3, vs, hd, hv⟩ := h
    rw [List.take_of_length_le (by simp), ← eps] at hv
    have hvl := hv.len
    rw [eps, List.length_map] at hvl
    refine nil_go ⟨D, vs, rfl, .inl ⟨.inl (.inl hd), fun pa hpa => nil_go ⟨_, _, rfl, ?_⟩⟩⟩
    have t1 : Same H3 (upd H3 pa (.tup vs)) := Same.new hpa
    have i1 : upd H3 pa (.tup vs) pa = some (.tup vs) := upd_same
    generalize upd H3 pa (.tup vs) = H4 at t1 i1 ⊢
    have s24 := s3.tr t1
    have s04 := s02.tr s24
    have r4 := r2.up s24
    have hv4 := hv.up t1.tl
    let S : L2.St := [some (.ref x), some (.str text), some (.int (n : Nat)), some (.ref pa), none, none, none, none]
    refine seq_if (σ := S) (b1 := decide (4 < (partsOf partF text).length) || (partsOf partF text).any (·.isNone)) (ev_or ?_ (fun _ H5 s5 => ?_)) (fun g1 H5 s5 => ?_) (fun g1 H5 s5 => ?_)
    · have := ev_test (σ := S) (ev_op (r := fun x y H Q => ∃ i j, x = V.int i ∧ y = V.int j ∧ Q (.bl (decide (i > j))) H) (v := .bl (decide ((vs.length : Int) > 4))) (ev_len (K := K) (ev_cons (ev_var (i := 3) rfl) fun _ _ => ev_nil) (.inr (.inl (.inl i1)))) (fun _ _ => ev_C) (fun H5 _ Q q => ⟨_, _, rfl, rfl, q⟩))
      rw [hvl, show decide ((ws.length : Int) > 4) = decide (4 < (partsOf partF text).length) from by
        rw [eps, List.length_map]
        exact decide_eq_decide.mpr (by omega)] at this
      exact this
    · refine ev_test (ev_op (ev_C (v := .non)) (fun _ _ => ev_var rfl) (fun H6 s6 Q q => ⟨pa, vs, rfl, rfl, .inl (.inl (s6 _ _ (s5 _ _ i1))), ((hv4.up s5.tl).up s6.tl).tup, ?_⟩))
      rw [hv4.anyN]
      exact q
    · refine ⟨_, rfl, rfl, (fun z => absurd z (by simp)), fun _ d hd => ?_⟩
      refine h0 n (.badC ?_) d _ ((s04.tr s5).tr (Same.new hd)).x upd_same
      rw [Bool.or_eq_true] at g1
      rcases g1 with g | g
      · exact .inl (of_decide_eq_true g)
      · refine .inr ?_
        obtain ⟨o, ho, hn⟩ := List.any_eq_true.mp g
        cases o with
        | none => exact ho
        | some b => cases hn
    rw [Bool.or_eq_false_iff] at g1
    obtain ⟨ps, eps2⟩ := all_some g1.2
    have gp : goodPs partF text ps := ⟨eps2, by
      have := of_decide_eq_false g1.1
      rw [eps2, List.length_map] at this
      omega⟩
    rw [eps2] at hv4
    have dps := hv4.dq
    have r5 := r4.up s5
    refine do_incI T rfl r5 ?_
    have sx56 : SameX x H5 (upd H5 x (.ins (cR K) dx (rdF l f g n (i + 1)))) := (Same.rf H5).x.upd
    have r6 := r5.to sx56 upd_same r5.le
    have i6 : upd H5 x (.ins (cR K) dx (rdF l f g n (i + 1))) pa = some (.tup vs) := r5.tl sx56 _ _ (s5 _ _ i1)
    have d6 := (dps.up s5.tl).up (r5.tl sx56)
    generalize upd H5 x (.ins (cR K) dx (rdF l f g n (i + 1))) = H6 at sx56 r6 i6 d6 ⊢
    have sx6 : SameX x H H6 := (s04.tr s5).x.tr sx56
    refine asg_go ⟨_, rfl, x, dx, _, rfl, r6.i, rfl, cons_go (c_go (nil_go ⟨x, dx, l, f, g, ts, n, i + 1, true, rfl, r6, hts, hm, (fun k hk d H7 s7 hd => h0 _ (.aE gp hk) d H7 (sx6.tr s7) hd), (fun t1 wd ls n2 i2 hrd q a xs H7 s7 r7 hq ha hxs => ?_)⟩))⟩
    have i7 := r6.tl s7 _ _ i6
    have d7 := d6.up (r6.tl s7)
    have sx7 := sx6.tr s7
    refine ⟨q, _, rfl, .inl (.inl hq), rfl, _, _, rfl, _, _, rfl, rfl, set_te (tup_go (nil_go ⟨szL rfl, fun e0 he0 => ?_⟩))⟩
    have t2 : Same H7 (upd H7 e0 (.tup [])) := Same.new he0
    have ie : upd H7 e0 (.tup []) e0 = some (.tup []) := upd_same
    generalize upd H7 e0 (.tup []) = H8 at t2 ie ⊢
    have i8 := t2 _ _ i7
    have d8 := d7.up t2.tl
    have r8 := r7.up t2
    have sx8 := sx7.tr t2.x
    have ha8 := t2 _ _ ha
    have dx8 := hxs.up t2.tl
    obtain ⟨j9, hj1, hj2, hj3, _⟩ := Rd.adv hrd _ _ _ _ _ rfl
    rw [List.drop_drop] at hj2
    have els : ls = ts.drop n2 := by rw [hj2, hj3]
    subst els
    have hwd := Rd.word hrd rfl _ _ _ _ _ rfl
    let S8 : L2.St := [some (.ref x), some (.str text), some (.int (n : Nat)), some (.ref pa), none, some (.ref a), some (.str wd), some (.ref e0)]
    have out : ∀ (H9 : Hp) (b : Addr) (ys : List V) (t2 : RT α β) (n3 i3 : Nat) (wd2 : Str), SameX x H H9 → RdAt P w K mg base fa fb rowF partF H9 x dx l f g ts n3 i3 → DqAll K H9 vs (ps.map fun p => .tuple (fb p)) → H9 pa = some (.tup vs) → H9 a = some (.tup xs) → DqAll K H9 xs (t1.toL fa fb) → H9 b = some (.tup ys) → DqAll K H9 ys (t2.toL fa fb) →
        Rd rowF partF (.cond text) (ts.drop n) n i (.ok (.ifr n ps t1 t2 .nil) "" (ts.drop n3) n3 i3) →
        tTup (tCons (tC (.str "if")) (tCons (tVar 2) (tCons (tVar 3) (tCons (tVar 5) (tCons (tVar 7) tNil))))) [some (.ref x), some (.str text), some (.int (n : Nat)), some (.ref pa), none, some (.ref a), some (.str wd2), some (.ref b)] H9 Q := by
      intro H9 b ys t2 n3 i3 wd2 sx9 r9 d9 i9 ha9 hx9 hb9 hy9 hrd9
      refine tup_go (cons_go (c_go (cons_go (var_go rfl (cons_go (var_go rfl (cons_go (var_go rfl (cons_go (var_go rfl (nil_go ⟨szL rfl, fun z hz => ?_⟩)))))))))))
      have t9 : Same H9 (upd H9 z (.tup [.str "if", .int (n : Nat), .ref pa, .ref a, .ref b])) := Same.new hz
      exact h1 _ _ _ _ _ _ _ hrd9 _ _ (sx9.tr t9.x) (r9.up t9) (.tup (.inl upd_same) (.cons (.str _) (.cons (.int _) (.cons (.tup (.inl (t9 _ _ i9)) (d9.up t9.tl)) (.cons (.tup (.inl (t9 _ _ ha9)) (hx9.up t9.tl)) (.cons (.tup (.inl (t9 _ _ hb9)) (hy9.up t9.tl)) .nil))))))
    refine seq_if (σ := S8) (eq_str (x := wd) (ev_var (i := 6) rfl) fun _ _ => ev_C) (fun g2 H9 s9 => ?_) (fun g2 H9 s9 => ?_)
    · have g2 := of_decide_eq_true g2
      subst g2
      have r9 := r8.up s9
      have sx9 := sx8.tr s9.x
      refine asg_go ⟨_, rfl, x, dx, _, rfl, r9.i, rfl, cons_go (c_go (nil_go ⟨x, dx, l, f, g, ts, n2, i2, true, rfl, r9, hts, by omega, (fun k hk d Ha sa hd => h0 _ (.bE gp hrd hk) d Ha (sx9.tr sa) hd), (fun t2 wd2 ls n3 i3 hrd2 q2 b ys Ha sa ra hq2 hb hys => ?_)⟩))⟩
      have ia := r9.tl sa _ _ (s9 _ _ i8)
      have da := (d8.up s9.tl).up (r9.tl sa)
      have hxa := (dx8.up s9.tl).up (r9.tl sa)
      have haa := r9.tl sa _ _ (s9 _ _ ha8)
      have sxa := sx9.tr sa
      obtain ⟨j8, hk1, hk2, hk3, _⟩ := Rd.adv hrd2 _ _ _ _ _ rfl
      rw [List.drop_drop] at hk2
      have els : ls = ts.drop n3 := by rw [hk2, hk3]
      subst els
      have hwd2 := Rd.word hrd2 rfl _ _ _ _ _ rfl
      refine ⟨q2, _, rfl, .inl (.inl hq2), rfl, _, _, rfl, _, _, rfl, rfl, ?_⟩
      let S9 : L2.St := [some (.ref x), some (.str text), some (.int (n : Nat)), some (.ref pa), none, some (.ref a), some (.str wd2), some (.ref b)]
      refine do_if (σ := S9) (eq_str (x := wd2) (ev_var (i := 6) rfl) fun _ _ => ev_C) (fun g3 Hb sb => ?_) (fun g3 Hb sb => ?_)
      · have g3 := of_decide_eq_true g3
        subst g3
        have rb := ra.up sb
        refine ev_fld (σ := S9) (ev_var rfl) rb.i T.cl_Reader T.na_Reader_line rfl _ fun Hc sc => ⟨rfl, (fun z => absurd z (by simp)), fun _ d hd => ?_⟩
        exact h0 _ (.elsE gp hrd hrd2) d _ (((sxa.tr sb.x).tr sc.x).tr (Same.new hd).x) upd_same
      · have g3 := of_decide_eq_false g3
        have ew : wd2 = "end" := by
          rcases List.mem_cons.mp hwd2 with e | e
          · exact absurd e g3
          · exact List.mem_singleton.mp e
        subst ew
        exact out Hb b ys t2 n3 i3 _ (sxa.tr sb.x) (ra.up sb) (da.up sb.tl) (sb _ _ ia) (sb _ _ haa) (hxa.up sb.tl) (sb _ _ hb) (hys.up sb.tl) (.two gp hrd hrd2)
    · have g2 := of_decide_eq_false g2
      have ew : wd = "end" := by
        rcases List.mem_cons.mp hwd with e | e
        · exact absurd e g2
        · exact List.mem_singleton.mp e
      subst ew
      exact ret_go (out H9 e0 [] .nil n2 i2 _ (sx8.tr s9.x) (r8.up s9) (d8.up s9.tl) (s9 _ _ i8) (s9 _ _ ha8) (dx8.up s9.tl) (s9 _ _ ie) .nil (.one gp hrd))
end
end K03


set_option Elab.async false
set_option linter.all false
set_option maxRecDepth 100000
set_option maxHeartbeats 4000000
namespace K03
open PySem PySem.Spec PyProof.Rows L2 Rdr LmX LamX NdefX
section
variable {P : Program} {w : World} {K : PySem.W.Frag} {mg : Str → Option Value} {base : Heap} {α β : Type} {fa : α → List PyData} {fb : β → List PyData} {rowF : Str → Nat → Option α} {partF : Str → Option β}
theorem ok_reader (T : Tx P w K mg) : ∀ m, MeX P w K mg base (L2.CX P w) (2 * m + 12) (cR K) "read_block" ["self", "is_inner"] [] (spBlk P w K mg base fa fb rowF partF m)
  | 0 => MetX.okX (k := 11) T.m_Reader_read_block sc_Reader_read_block (fun _ _ _ _ _ _ us hl => match us, hl with | [_, _], _ => rfl) (fun vs H Q E h => by obtain ⟨x, dx, l, f, g, ts, n, i, inner, rfl, _, _, h, _⟩ := h; omega) (fun f cdv A outer s H vs Q E hr h => by obtain ⟨x, dx, l, f, g, ts, n, i, inner, rfl, _, _, h, _⟩ := h; omega)
  | m + 1 => ok_block T (by omega) (ok_readif T (by omega) (ok_reader T m))
/-- read_rows(lines, row_of, part_of, most_ifs) -/
def spRR (P : Program) (w : World) (K : PySem.W.Frag) (mg : Str → Option Value) (fa : α → List PyData) (fb : β → List PyData) (rowF : Str → Nat → Option α) (partF : Str → Option β) (base : Heap) : Sp := fun vs H Q E =>
  ∃ (l f g : Addr) (ts : List Str) (most : Nat), vs = [.ref l, .ref f, .ref g, .int (most : Nat)] ∧ H l = some (.lst (ts.map V.str)) ∧ LamAt P w K mg base 10 ["text", "line"] (spRowL K fa rowF) f H ∧ LamAt P w K mg base 10 ["text"] (spPartL K fb partF) g H ∧ ts.length ≤ 40 ∧ (∀ t ∈ ts, t.length ≤ 1000 ∧ PyData.strOk t = true) ∧
  (∀ k, Rd rowF partF (.blk false) ts 0 0 (.err k) → ∀ d H', Same H H' → H' d = some (.xd [("line", .int (k : Nat))]) → E (.ref (He.ga K "BadLine")) (some d) H') ∧
  (∀ t wd ls n i, Rd rowF partF (.blk false) ts 0 0 (.ok t wd ls n i) →
    (most < i → ∀ d H', Same H H' → H' d = some (.xd [("most", .int (most : Nat)), ("many", .int (i : Nat)), ("what", .str "ifs")]) → E (.ref (He.ga K "TooMany")) (some d) H') ∧
    (i ≤ most → ∀ q xs H', Same H H' → H' q = some (.tup xs) → DqAll K H' xs (t.toL fa fb) → Q (.ref q) H'))
theorem ok_read_rows (T : Tx P w K mg) : FnX P w K mg base (L2.CX P w) 95 "read_rows" ["lines", "row_of", "part_of", "most_ifs"] [] (spRR P w K mg fa fb rowF partF base) := by
  have F_Reader := ok_rinit (base := base) T
  have F_Reader_read_block := ok_reader (base := base) (fa := fa) (fb := fb) (rowF := rowF) (partF := partF) T 41
  refine DefX.okX T.d_read_rows sc_read_rows (fun _ _ _ _ _ _ us hl => match us, hl with | [_, _, _, _], _ => rfl) (fun vs H Q E h => ?_) (fun f cdv A outer s H vs Q E hr h => ⟨_, (by exact (pss_cons (ps_set (i := 4) sc_read_rows.nd rfl (Or.inl rfl) (pe_makeX F_Reader (hr.mono (by first | decide | omega)) pass0 (pa_cons (pv 0) (pa_cons (pv 1) (pa_cons (pv 2) pa_nil)))))
      (pss_cons (ps_asg (pe_methX F_Reader_read_block (hr.mono (by first | decide | omega)) passOut (pv 4) (pa_cons pe_bl pa_nil)) (pg_tup rfl (pgs_cons (pg_name (i := 5) sc_read_rows.nd rfl (Or.inl rfl)) (pgs_cons (pg_name (i := 6) sc_read_rows.nd rfl (Or.inl rfl)) pgs_nil))))
      (pss_cons (ps_if (pt_cmpR op_gt (pe_fld (pv 4) rfl) (pv 3) (nomark _)) (pss_one (ps_raise rfl (takes_of rfl rfl rfl rfl) (pmk_err T.e_TooMany T.g_TooMany hr (pa_cons pe_str (pa_cons (pe_fld (pv 4) rfl) (pa_cons (pv 3) pa_nil)))))) pss_nil)
      (pss_one (ps_ret (pv 5))))))), ?_⟩)
  · obtain ⟨l, f, g, ts, most, rfl, _⟩ := h
    rfl
  obtain ⟨l, f, g, ts, most, rfl, hl, hf, hg, hts, htl, h0, h1⟩ := h
  refine set_te (cons_go (var_go rfl (cons_go (var_go rfl (cons_go (var_go rfl (nil_go fun x dx hx hdx hne => ?_)))))))
  have sR : Same H (upd (upd H dx (.own x)) x (.ins (cR K) dx [])) := fun b o hb => by rw [upd_ne (ne_of_none hb hx), upd_ne (ne_of_none hb hdx)]; exact hb
  generalize hHR : upd (upd H dx (.own x)) x (.ins (cR K) dx []) = HR at sR ⊢
  have hRx : HR x = some (.ins (cR K) dx []) := by rw [← hHR]; exact upd_same
  refine ⟨x, dx, l, f, g, rfl, hRx, fun H2 hx2 sx2 => ⟨rfl, ?_⟩⟩
  have s2 : Same H H2 := fun b o hb => sx2 _ _ (ne_of_none hb hx) (sR _ _ hb)
  have r2 : RdAt P w K mg base fa fb rowF partF H2 x dx l f g ts 0 0 := ⟨hx2, s2 _ _ hl, hf.up s2, hg.up s2, Nat.zero_le _⟩
  have sm : ∀ {H3 : Hp}, SameX x H2 H3 → Same H H3 := fun s3 b o hb => s3 _ _ (ne_of_none hb hx) (s2 _ _ hb)
  refine asg_go ⟨_, rfl, x, dx, _, rfl, hx2, rfl, cons_go (c_go (nil_go ⟨x, dx, l, f, g, ts, 0, 0, false, rfl, r2, ⟨by omega, htl⟩, by omega, (fun k hk d H3 s3 hd => h0 k hk d H3 (sm s3) hd), (fun t wd ls n i hrd q a xs H3 s3 r3 hq ha hxs => ?_)⟩))⟩
  obtain ⟨k1, k2⟩ := h1 t wd ls n i hrd
  have s03 := sm s3
  refine ⟨q, _, rfl, .inl (.inl hq), rfl, _, _, rfl, _, _, rfl, rfl, ?_⟩
  let S : L2.St := [some (.ref l), some (.ref f), some (.ref g), some (.int (most : Nat)), some (.ref x), some (.ref a), some (.str wd)]
  have FI : ∀ {H4}, RdAt P w K mg base fa fb rowF partF H4 x dx l f g ts n i → EvE (tFld K (tVar 4) "ifs") S H4 (.int (i : Nat)) := fun r => ev_fld (ev_var rfl) r.i T.cl_Reader T.na_Reader_ifs rfl
  refine seq_if (σ := S) (b1 := decide (most < i)) ?_ (fun g1 H4 s4 => ?_) (fun g1 H4 s4 => ?_)
  · have := ev_test (σ := S) (ev_op (r := fun x y H Q => ∃ i j, x = V.int i ∧ y = V.int j ∧ Q (.bl (decide (i > j))) H) (v := .bl (decide ((i : Int) > (most : Int)))) (FI r3) (fun _ _ => ev_var (i := 3) rfl) (fun H5 _ Q q => ⟨_, _, rfl, rfl, q⟩))
    rw [show decide ((i : Int) > (most : Int)) = decide (most < i) from decide_eq_decide.mpr (by omega)] at this
    exact this
  · have g1 := of_decide_eq_true g1
    have r4 := r3.up s4
    refine cons_go (c_go (cons_go (FI r4 _ fun H5 s5 => cons_go (var_go rfl (nil_go ⟨rfl, (fun z => absurd z (by simp)), fun _ d hd => ?_⟩)))))
    exact k1 g1 d _ (((s03.tr s4).tr s5).tr (Same.new hd)) upd_same
  · have g1 := of_decide_eq_false g1
    exact ⟨_, rfl, k2 (by omega) a xs H4 (s03.tr s4) (s4 _ _ ha) (hxs.up s4.tl)⟩
end
end K03


set_option Elab.async false
set_option linter.all false
set_option maxRecDepth 100000
set_option maxHeartbeats 4000000
namespace K03
open PySem PySem.Spec PyProof.Rows L2 Rdr LmX LamX NdefX
/-- what a row tells begins with a word, not with «if» -/
def Wrd {α : Type} (fa : α → List PyData) : Prop := ∀ x, ∃ z r, fa x = .str z :: r ∧ z ≠ "if"
section
variable {P : Program} {w : World} {K : PySem.W.Frag} {mg : Str → Option Value} {base : Heap} {α β : Type} {fa : α → List PyData} {fb : β → List PyData}
def spAll (K : PySem.W.Frag) (fa : α → List PyData) (fb : β → List PyData) (d : Nat) : Sp := fun vs H Q E => ∃ (p : Addr) (xs : List V) (t : RT α β), vs = [.ref p] ∧ SqT K H p xs ∧ DqAll K H xs (t.toL fa fb) ∧ t.dep < d ∧ t.sz ≤ 1000 ∧
  ∀ q ys H', Same H H' → H q = none → H' q = some (.lst ys) → DqAll K H' ys (t.all.map (It.toD fa fb)) → Q (.ref q) H'
theorem Same.ofX {x : Addr} {H H1 H2 : Hp} (s : Same H H1) (h : H x = none) (sx : SameX x H1 H2) : Same H H2 := fun b o hb => sx b o (ne_of_none hb h) (s b o hb)
theorem ok_all (T : Tx P w K mg) (hw : Wrd fa) {d j : Nat} (F_all_rows : FnX P w K mg base CX0 j "all_rows" ["rows"] [] (spAll K fa fb d)) : FnX P w K mg base CX0 (j + 1) "all_rows" ["rows"] [] (spAll K fa fb (d + 1)) := by
  refine T.d_all_rows.ok0 sc_all_rows (fun _ _ _ _ _ _ us hl => match us, hl with | [_], _ => rfl) (fun vs H Q E h => ?_) (fun f cdv A outer s H vs Q E hr h => have hu := hu_of hr; ⟨_, (by exact (pss_cons (ps_set (i := 1) sc_all_rows.nd rfl (Or.inl rfl) (pe_lst pa_nil))
      (pss_cons (ps_for PassesOwn.never rfl (pi_tup (pv 0)) (pg_name (i := 2) sc_all_rows.nd rfl (Or.inl rfl))
        (pss_cons (ps_expr (pe_bm PySem.F.plainAttrs_list PySem.F.slot_list_append PySem.F.type_list_append mt_append (pv 1) (pa_cons (pv 2) pa_nil)))
      (pss_one (ps_if (pt_cmpR op_eq (pe_ix ix_tup (pv 2) pe_int (fun _ _ => rfl)) pe_str (nomark _)) (pss_one (ps_expr (pe_bm PySem.F.plainAttrs_list PySem.F.slot_list_extend PySem.F.type_list_extend mt_extend (pv 1) (pa_cons (pe_lst (StX.pa_star (pe_callX F_all_rows (hr.mono (by first | decide | omega)) pass0 (pa_cons (pe_ix ix_tup (pv 2) pe_int (fun _ _ => rfl)) pa_nil)) (StX.pa_star (pe_callX F_all_rows (hr.mono (by first | decide | omega)) pass0 (pa_cons (pe_ix ix_tup (pv 2) pe_int (fun _ _ => rfl)) pa_nil)) pa_nil))) pa_nil)))) pss_nil))))
      (pss_one (ps_ret (pv 1)))))), ?_⟩)
  · obtain ⟨p, xs, t, rfl, _⟩ := h
    rfl
  obtain ⟨p, xs, t, rfl, hp, hx, hd, hsz, h0⟩ := h
  have q9 : sizeLine = 16777216 := sizeLine_eq
  refine set_lst (vs := []) ev_nil (fun H1 la s1 hla hl => ?_)
  have hl9 : (t.its.flatMap It.all).length ≤ 1000 := by rw [← all_its, all_len]; exact hsz
  have hxl := hx.len
  rw [toL_its, List.length_map] at hxl
  refine for_tp (K := K) (a := p) (xs := xs) (fun i σ H' => Same H H' ∧ ∃ ys u, σ = [some (.ref p), some (.ref la), u] ∧ H' la = some (.lst ys) ∧ DqAll K H' ys (((t.its.take i).flatMap It.all).map (It.toD fa fb))) (ev_var rfl) (s1.seqT hp) (fun H2 s2 => ⟨s1.tr s2, [], none, rfl, s2 _ _ hl, .nil⟩) (fun i σ H' _ k => k.1.seqT hp) ?_ ?_
  · rintro i v σ H2 hv ⟨s2, ys, u, rfl, hl2, hy⟩
    obtain ⟨dd, hdd, hvd⟩ := DqAll.at hx hv
    rw [toL_its, List.getElem?_map] at hdd
    obtain ⟨it, hit, rfl⟩ := Option.map_eq_some_iff.mp hdd
    obtain ⟨g1, g2, g3⟩ := its_sz t it (List.mem_of_getElem? hit)
    have hv2 := hvd.up s2.tl
    have hyl := hy.len
    rw [List.length_map] at hyl
    have hle := take_fm_le It.all t.its i
    have hnx := take_fm It.all hit
    refine nm (do_drop ⟨_, rfl, .inl ⟨rfl, ⟨_, .inl (.inl hl2)⟩⟩, _, rfl, la, ys, v, rfl, rfl, hl2, by omega, ?_⟩)
    have t3 : TupLe H2 (upd H2 la (.lst (ys ++ [v]))) := TupLe.mut hl2 fun xs z => by cases z
    have hla2 : H la = none := hla
    have s3 : Same H (upd H2 la (.lst (ys ++ [v]))) := s2.mut hla
    have hl3 : upd H2 la (.lst (ys ++ [v])) la = some (.lst (ys ++ [v])) := upd_same
    generalize upd H2 la (.lst (ys ++ [v])) = H3 at t3 s3 hl3 ⊢
    have hv3 := hv2.up t3
    have hy3 := (hy.up t3).snoc hv3
    let S : L2.St := [some (.ref p), some (.ref la), some v]
    cases it with
    | leaf x =>
      obtain ⟨z, r, ez, hz⟩ := hw x
      obtain ⟨va, us, rfl, hva, hus⟩ := Dq.tuple (show Dq K H3 v (.tuple (fa x)) from hv3)
      rw [ez] at hus
      cases hus with
      | cons hz1 hz2 =>
        cases hz1
        refine do_if (σ := S) (b1 := decide (z = "if")) (eq_str (ev_ixT (ev_var (i := 2) rfl) (fun _ _ => ev_C) hva (at0 _ _)) fun _ _ => ev_C) (fun g H4 s4 => absurd (of_decide_eq_true g) hz) (fun g H4 s4 => ?_)
        refine ⟨s3.tr s4, _, _, rfl, s4 _ _ hl3, ?_⟩
        rw [hnx, List.map_append]
        exact hy3.up s4.tl
    | ifi l ps a b =>
      obtain ⟨va, us, rfl, hva, hus⟩ := Dq.tuple (show Dq K H3 v (ifD l (ps.map fun p => .tuple (fb p)) (a.toL fa fb) (b.toL fa fb)) from hv3)
      cases hus with
      | cons h1 hus => cases hus with
      | cons h2 hus => cases hus with
      | cons h3 hus => cases hus with
      | cons h4 hus => cases hus with
      | cons h5 hus =>
      cases hus
      cases h1
      obtain ⟨pa, xa, rfl, hpa, hxa⟩ := Dq.tuple h4
      obtain ⟨pb, xb, rfl, hpb, hxb⟩ := Dq.tuple h5
      have e1 : 1 + a.sz + b.sz ≤ t.sz := g1
      have e2 : max a.dep b.dep + 1 ≤ t.dep := g2
      refine do_if (σ := S) (b1 := decide (("if" : Str) = "if")) (eq_str (ev_ixT (ev_var (i := 2) rfl) (fun _ _ => ev_C) hva rfl) fun _ _ => ev_C) (fun g H4 s4 => ?_) (fun g H4 s4 => by simp at g)
      have hl4 := s4 _ _ hl3
      refine ⟨_, rfl, .inl ⟨rfl, ⟨_, .inl (.inl hl4)⟩⟩, cons_go (lst_go ?_)⟩
      refine call_go (cons_go (ev_ixT (σ := S) (ev_var rfl) (fun _ _ => ev_C) (s4.seqT hva) (v := .ref pa) rfl _ fun H5 s5 => nil_go ⟨pa, xa, a, rfl, (s4.tr s5).seqT hpa, hxa.up (s4.tr s5).tl, by omega, by omega, fun qa ya H6 s6 _ hqa hya => ⟨qa, ya, rfl, .inr (.inl (.inl hqa)), ?_⟩⟩))
      have s46 := (s4.tr s5).tr s6
      refine call_go (cons_go (ev_ixT (σ := S) (ev_var rfl) (fun _ _ => ev_C) (s46.seqT hva) (v := .ref pb) rfl _ fun H7 s7 => nil_go ⟨pb, xb, b, rfl, (s46.tr s7).seqT hpb, hxb.up (s46.tr s7).tl, by omega, by omega, fun qb yb H8 s8 _ hqb hyb => ⟨qb, yb, rfl, .inr (.inl (.inl hqb)), ?_⟩⟩))
      have la1 := hya.len
      have lb1 := hyb.len
      rw [List.length_map, all_len] at la1 lb1
      have s78 := s7.tr s8
      refine nil_go ⟨by simp; omega, fun q hq => ?_⟩
      have hl8 := (s46.tr s78) _ _ hl3
      have hne : la ≠ q := fun e => by rw [← e, hl8] at hq; cases hq
      have t8 : Same H8 (upd H8 q (.lst (ya ++ (yb ++ [])))) := Same.new hq
      have iq : upd H8 q (.lst (ya ++ (yb ++ []))) q = some (.lst (ya ++ (yb ++ []))) := upd_same
      generalize upd H8 q (.lst (ya ++ (yb ++ []))) = H9 at t8 iq ⊢
      have s39 := (s46.tr s78).tr t8
      have hl9' := s39 _ _ hl3
      have t9 : TupLe H9 (upd H9 la (.lst ((ys ++ [.ref va]) ++ (ya ++ (yb ++ []))))) := TupLe.mut hl9' fun xs z => by cases z
      refine nil_go ⟨la, q, ys ++ [.ref va], ya ++ (yb ++ []), rfl, rfl, hl9', iq, by simp; omega, (s3.tr s39).mut hla, _, _, rfl, upd_same, ?_⟩
      generalize upd H9 la (.lst ((ys ++ [.ref va]) ++ (ya ++ (yb ++ [])))) = Hz at t9 ⊢
      rw [hnx, List.map_append, List.append_nil, List.append_assoc]
      show DqAll K Hz (ys ++ (V.ref va :: (ya ++ yb))) (_ ++ (It.toD fa fb (.ifi l ps a b) :: (a.all ++ b.all).map (It.toD fa fb)))
      rw [List.map_append]
      exact ((hy.up t3).up (s39.tl.trans t9)).app (.cons (hv3.up (s39.tl.trans t9)) ((hya.up ((s78.tr t8).tl.trans t9)).app (hyb.up (t8.tl.trans t9))))
  · rintro σ H2 ⟨s2, ys, u, rfl, hl2, hy⟩
    rw [hxl, List.take_length, ← all_its] at hy
    exact ⟨_, rfl, h0 la ys H2 s2 hla hl2 hy⟩
theorem ok_all_rows (T : Tx P w K mg) (hw : Wrd fa) : ∀ d, FnX P w K mg base CX0 (d + 1) "all_rows" ["rows"] [] (spAll K fa fb d)
  | 0 => T.d_all_rows.ok0 (k := 0) sc_all_rows (fun _ _ _ _ _ _ us hl => match us, hl with | [_], _ => rfl) (fun vs H Q E h => by obtain ⟨p, xs, t, rfl, _, _, h, _⟩ := h; omega) (fun f cdv A outer s H vs Q E hr h => by obtain ⟨p, xs, t, rfl, _, _, h, _⟩ := h; omega)
  | d + 1 => ok_all T hw (ok_all_rows T hw d)
end
end K03


set_option Elab.async false
set_option linter.all false
set_option maxRecDepth 100000
set_option maxHeartbeats 4000000
namespace K03
open PySem PySem.Spec PyProof.Rows L2 Rdr LmX LamX NdefX
section
variable {α β : Type}
/-- ways in the heap, their lists at addresses of F -/
def RepW (K : PySem.W.Frag) (fa : α → List PyData) (fb : β → List PyData) (F : Addr → Prop) (H : Hp) : List (Wy α β) → List V → Prop
  | [], ys => ys = []
  | x :: xs, ys => ∃ a b ms zs, ys = .ref a :: zs ∧ H a = some (.tup [.ref b, .bl x.2]) ∧ F b ∧ H b = some (.lst ms) ∧ DqAll K H ms (x.1.map (It.toD fa fb)) ∧ RepW K fa fb F H xs zs
variable {K : PySem.W.Frag} {fa : α → List PyData} {fb : β → List PyData}
theorem RepW.up {F F' : Addr → Prop} {H H' : Hp} (hf : ∀ b, F b → F' b) (s : TupLe H H') (hl : ∀ b vs, F b → H b = some (.lst vs) → H' b = some (.lst vs)) : ∀ (ws : List (Wy α β)) (ys : List V), RepW K fa fb F H ws ys → RepW K fa fb F' H' ws ys
  | [], _, h => h
  | x :: xs, _, ⟨a, b, ms, zs, e, ha, fb, hb, hm, h⟩ => ⟨a, b, ms, zs, e, s _ _ ha, hf _ fb, hl _ _ fb hb, hm.up s, up hf s hl xs zs h⟩
theorem RepW.app {F : Addr → Prop} {H : Hp} : ∀ (v w : List (Wy α β)) (xs ys : List V), RepW K fa fb F H v xs → RepW K fa fb F H w ys → RepW K fa fb F H (v ++ w) (xs ++ ys)
  | [], w, xs, ys, h, k => by cases (show xs = [] from h); exact k
  | x :: v, w, _, ys, ⟨a, b, ms, zs, e, ha, fb, hb, hm, h⟩, k => by subst e; exact ⟨a, b, ms, zs ++ ys, rfl, ha, fb, hb, hm, app v w zs ys h k⟩
theorem RepW.at {F : Addr → Prop} {H : Hp} : ∀ (ws : List (Wy α β)) (ys : List V), RepW K fa fb F H ws ys → ys.length = ws.length ∧ ∀ (i : Nat) (y : V), ys[i]? = some y → ∃ (x : Wy α β) (a b : Addr) (ms : List V), ws[i]? = some x ∧ y = V.ref a ∧ H a = some (.tup [.ref b, .bl x.2]) ∧ F b ∧ H b = some (.lst ms) ∧ DqAll K H ms (x.1.map (It.toD fa fb))
  | [], ys, h => by cases (show ys = [] from h); exact ⟨rfl, fun i y e => by simp at e⟩
  | x :: xs, _, ⟨a, b, ms, zs, e, ha, fb, hb, hm, h⟩ => by
    subst e
    obtain ⟨h1, h2⟩ := RepW.at xs zs h
    refine ⟨by simp [h1], fun i y e => ?_⟩
    cases i with
    | zero => exact ⟨x, a, b, ms, rfl, (by simpa using e.symm), ha, fb, hb, hm⟩
    | succ i => exact h2 i y (by simpa using e)
end
def finF {α : Type} (fa : α → List PyData) (ends : List Str) (x : α) : Bool := match fa x with
  | .str z :: _ => decide (z ∈ ends)
  | _ => false
section
variable {P : Program} {w : World} {K : PySem.W.Frag} {mg : Str → Option Value} {base : Heap} {α β : Type} {fa : α → List PyData} {fb : β → List PyData}
abbrev Nn (H : Hp) : Addr → Prop := fun a => H a = none
def spWays (K : PySem.W.Frag) (fa : α → List PyData) (fb : β → List PyData) (d : Nat) : Sp := fun vs H Q E => ∃ (p ea : Addr) (xs : List V) (t : RT α β) (ends : List Str), vs = [.ref p, .ref ea] ∧ SqT K H p xs ∧ DqAll K H xs (t.toL fa fb) ∧ t.dep < d ∧ t.sz ≤ 1000 ∧ t.ifs ≤ 9 ∧ SqT K H ea (ends.map V.str) ∧
  ∀ q ys H', Same H H' → H q = none → H' q = some (.lst ys) → RepW K fa fb (Nn H) H' (t.ways (finF fa ends)) ys → Q (.ref q) H'
/-- later.extend([([*way, row, *more], ended) for more, ended in all_ways(block, ends)]) -/
theorem ext_go {d : Nat} {E : XK} {D : Ends} {H : Hp} {p ea fl la wb pb : Addr} {row : V} {u6 u8 u9 : Option V} {ms zs xb : List V} {m : List (It α β)} {it : It α β} {t : RT α β} {ends : List Str}
    (hm : H wb = some (.lst ms)) (hmd : DqAll K H ms (m.map (It.toD fa fb))) (hml : m.length ≤ 1000) (hrow : Dq K H row (it.toD fa fb)) (hpb : SqT K H pb xb) (hxb : DqAll K H xb (t.toL fa fb)) (hd : t.dep < d) (hs : t.sz ≤ 1000) (hi : t.ifs ≤ 9) (hea : SqT K H ea (ends.map V.str)) (hla : H la = some (.lst zs)) (hzl : zs.length ≤ 1000000)
    (k : ∀ H' new, SameX la H H' → H' la = some (.lst (zs ++ new)) → RepW K fa fb (fun b => H b = none) H' ((t.ways (finF fa ends)).map fun z => (m ++ it :: z.1, z.2)) new → D.nx [some (.ref p), some (.ref ea), some (.ref fl), some row, some (.ref la), some (.ref wb), u6, some (.ref pb), u8, u9] H') :
    tDrop (tBM K "list" rExtend (tVar 4) (tCons (tLc (iList K (tCall (spWays K fa fb d) [] E (tCons (tVar 7) (tCons (tVar 1) tNil)))) (gTup K 2 (gCons (gName 8) (gCons (gName 9) gNil))) tYes (tTup (tCons (tLst (StX.tStar K (tVar 5) (tCons (tVar 3) (StX.tStar K (tVar 8) tNil)))) (tCons (tVar 9) tNil))) [8, 9]) tNil)) D [some (.ref p), some (.ref ea), some (.ref fl), some row, some (.ref la), some (.ref wb), u6, some (.ref pb), u8, u9] H := by
  have q9 : sizeLine = 16777216 := sizeLine_eq
  refine ⟨_, rfl, .inl ⟨rfl, ⟨_, .inl (.inl hla)⟩⟩, cons_go ?_⟩
  refine call_go (sp := spWays K fa fb d) (t := tCons (tVar 7) (tCons (tVar 1) tNil)) (cons_go ⟨_, rfl, cons_go ⟨_, rfl, nil_go ⟨pb, ea, xb, t, ends, rfl, hpb, hxb, hd, hs, hi, hea, fun q ys H1 s1 hq hq1 hys => ?_⟩⟩⟩)
  refine ⟨q, rfl, ⟨_, .inl (.inl hq1)⟩, fun Dl hD => ?_⟩
  obtain ⟨wl, wat⟩ := RepW.at _ _ hys
  have hcnt : (t.ways (finF fa ends)).length ≤ 512 := by
    have h1 := waysF_len (finF fa ends) t [([], false)]
    rw [List.length_singleton, Nat.one_mul] at h1
    exact Nat.le_trans h1 (Nat.le_trans (Nat.pow_le_pow_right (by decide) hi) (by decide))
  have hmet : ∀ x ∈ t.ways (finF fa ends), x.1.length ≤ 1000 := fun x hx => by
    have := waysF_met (finF fa ends) t [([], false)] 0 (fun x hx => by rw [List.mem_singleton] at hx; rw [hx]; exact Nat.le_refl _) x hx
    omega
  have hDq : Dl ≠ q := fun z => by rw [z, hq1] at hD; cases hD
  have hDla : Dl ≠ la := fun z => by rw [z, s1 _ _ hla] at hD; cases hD
  have hD0 : H Dl = none := none_of s1 hD
  let G : Wy α β → Wy α β := fun z => (m ++ it :: z.1, z.2)
  refine lc_list (xs := ys) (fun i H' => Same H1 H' ∧ ∃ acc, H' Dl = some (.lst acc) ∧ RepW K fa fb (fun b => H b = none ∧ b ≠ Dl) H' (((t.ways (finF fa ends)).take i).map G) acc) ⟨Same.new hD, [], upd_same, rfl⟩ (fun i H' _ h => .inl (.inl (h.1 _ _ hq1))) ?_ (fun H2 h => ?_)
  · rintro i x H2 hx ⟨s2, acc, hacc, hW⟩
    obtain ⟨y, wa, wc, wm, hyi, rfl, hwa, hwn, hwc, hwm⟩ := wat i x hx
    have s12 := s1.tr s2
    refine ⟨wa, _, rfl, .inl (.inl (s2 _ _ hwa)), rfl, _, _, rfl, _, _, rfl, rfl, rfl, ?_⟩
    dsimp only [tYes]
    rw [if_pos rfl]
    refine tup_go (cons_go (lst_go ⟨_, rfl, wb, ms, rfl, .inr (.inl (.inl (s12 _ _ hm))), cons_go ⟨_, rfl, _, rfl, wc, wm, rfl, .inr (.inl (.inl (s2 _ _ hwc))), nil_go ⟨?_, fun lp hlp => cons_go ⟨_, rfl, nil_go ⟨szL rfl, fun op hop => ?_⟩⟩⟩⟩⟩))
    · have h1 := hmd.len
      have h2 := hwm.len
      have h3 := hmet y (List.mem_of_getElem? hyi)
      rw [List.length_map] at h1 h2
      simp
      omega
    · have hDl2 : lp ≠ Dl := fun e => by rw [e, hacc] at hlp; cases hlp
      have sA : Same H2 (upd H2 lp (.lst (ms ++ (row :: (wm ++ []))))) := Same.new hlp
      have iA : upd H2 lp (.lst (ms ++ (row :: (wm ++ [])))) lp = some (.lst (ms ++ (row :: (wm ++ [])))) := upd_same
      generalize upd H2 lp (.lst (ms ++ (row :: (wm ++ [])))) = HA at sA iA hop ⊢
      have sB : Same HA (upd HA op (.tup [.ref lp, .bl y.2])) := Same.new hop
      have iB : upd HA op (.tup [.ref lp, .bl y.2]) op = some (.tup [.ref lp, .bl y.2]) := upd_same
      generalize upd HA op (.tup [.ref lp, .bl y.2]) = HB at sB iB ⊢
      have sAB := sA.tr sB
      have haB := sAB _ _ hacc
      have hal : acc.length ≤ 512 := by
        have := (RepW.at _ _ hW).1
        rw [List.length_map, List.length_take] at this
        omega
      have tC : TupLe HB (upd HB Dl (.lst (acc ++ [.ref op]))) := TupLe.mut haB fun xs z => by cases z
      have hopD : op ≠ Dl := fun e => by rw [e, haB] at iB; cases iB
      refine ⟨acc, haB, by omega, (s2.tr sAB).mut hD, _, upd_same, ?_⟩
      rw [take_mp G hyi]
      refine RepW.app _ _ _ _ (RepW.up (fun _ h => h) (sAB.tl.trans tC) (fun c vs h hc => by rw [upd_ne h.2]; exact sAB _ _ hc) _ _ hW) ?_
      refine ⟨op, lp, _, [], rfl, by rw [upd_ne hopD]; exact iB, ⟨none_of (s12) hlp, hDl2⟩, by rw [upd_ne hDl2]; exact sB _ _ iA, ?_, rfl⟩
      show DqAll K _ _ ((m ++ it :: y.1).map (It.toD fa fb))
      rw [List.append_nil, List.map_append]
      have tl : TupLe H2 (upd HB Dl (.lst (acc ++ [.ref op]))) := sAB.tl.trans tC
      exact (hmd.up (s12.tl.trans tl)).app (.cons (hrow.up (s12.tl.trans tl)) (hwm.up (s2.tl.trans tl)))
  · obtain ⟨s2, acc, hacc, hW⟩ := h
    rw [wl, List.take_length] at hW
    have s12 := s1.tr s2
    have hla2 := s12 _ _ hla
    have hal := (RepW.at _ _ hW).1
    rw [List.length_map] at hal
    refine nil_go ⟨la, Dl, zs, acc, rfl, rfl, hla2, hacc, by omega, k _ acc (fun b o hb ho => by rw [upd_ne hb]; exact s12 _ _ ho) upd_same ?_⟩
    have tC : TupLe H2 (upd H2 la (.lst (zs ++ acc))) := TupLe.mut hla2 fun xs z => by cases z
    exact RepW.up (fun b h => h.1) tC (fun c vs h hc => by rw [upd_ne (fun e => by have := h.1; rw [e, hla] at this; cases this)]; exact hc) _ _ hW
end
end K03


set_option Elab.async false
set_option linter.all false
set_option maxRecDepth 100000
set_option maxHeartbeats 4000000
namespace K03
open PySem PySem.Spec PyProof.Rows L2 Rdr LmX LamX NdefX
section
variable {P : Program} {w : World} {K : PySem.W.Frag} {mg : Str → Option Value} {base : Heap} {α β : Type} {fa : α → List PyData} {fb : β → List PyData}
theorem seqT_x {x a : Addr} {H H' : Hp} {xs zs : List V} (s : SameX x H H') (hx : H x = some (.lst zs)) (h : SqT K H a xs) : SqT K H' a xs := by
  rcases h with (h | ⟨o, h⟩) | h
  · exact .inl (.inl (s _ _ (fun e => by rw [e, hx] at h; cases h) h))
  · exact .inl (.inr ⟨o, s _ _ (fun e => by rw [e, hx] at h; cases h) h⟩)
  · exact .inr h
theorem ok_ways (T : Tx P w K mg) (hw : Wrd fa) {d j : Nat} (F_all_ways : FnX P w K mg base CX0 j "all_ways" ["rows", "ends"] [] (spWays K fa fb d)) : FnX P w K mg base CX0 (j + 1) "all_ways" ["rows", "ends"] [] (spWays K fa fb (d + 1)) := by
  refine T.d_all_ways.ok0 sc_all_ways (fun _ _ _ _ _ _ us hl => match us, hl with | [_, _], _ => rfl) (fun vs H Q E h => ?_) (fun f cdv A outer s H vs Q E hr h => have hu := hu_of hr; ⟨_, (by exact (pss_cons (ps_set (i := 2) sc_all_ways.nd rfl (Or.inl rfl) (pe_lst (pa_cons (pe_tup (pa_cons (pe_lst pa_nil) (pa_cons pe_bl pa_nil))) pa_nil)))
      (pss_cons (ps_for PassesOwn.never rfl (pi_tup (pv 0)) (pg_name (i := 3) sc_all_ways.nd rfl (Or.inr rfl))
        (pss_cons (ps_set (i := 4) sc_all_ways.nd rfl (Or.inl rfl) (pe_lst pa_nil))
      (pss_cons (ps_for PassesOwn.never rfl (pi_list (pv 2)) (pg_tup rfl (pgs_cons (pg_name (i := 5) sc_all_ways.nd rfl (Or.inr rfl)) (pgs_cons (pg_name (i := 6) sc_all_ways.nd rfl (Or.inl rfl)) pgs_nil)))
        (pss_one (ps_if (pt_val (pv 6)) (pss_one (ps_expr (pe_bm PySem.F.plainAttrs_list PySem.F.slot_list_append PySem.F.type_list_append mt_append (pv 4) (pa_cons (pe_tup (pa_cons (pv 5) (pa_cons pe_bl pa_nil))) pa_nil)))) (pss_one (ps_if (pt_cmpR op_eq (pe_ix ix_tup (pv 3) pe_int (fun _ _ => rfl)) pe_str (nomark _)) (pss_one (ps_for PassesOwn.never rfl (pi_tup (pe_tup (pa_cons (pe_ix ix_tup (pv 3) pe_int (fun _ _ => rfl)) (pa_cons (pe_ix ix_tup (pv 3) pe_int (fun _ _ => rfl)) pa_nil)))) (pg_name (i := 7) sc_all_ways.nd rfl (Or.inl rfl))
        (pss_one (ps_expr (pe_bm PySem.F.plainAttrs_list PySem.F.slot_list_extend PySem.F.type_list_extend mt_extend (pv 4) (pa_cons (pe_lc (own := [("more", 8), ("ended", 9)]) (g := (gTup K 2 (gCons (gName 8) (gCons (gName 9) gNil)))) (tt := tYes) (by rfl) sc_all_ways.nd (pi_list (pe_callX F_all_ways (hr.mono (by first | decide | omega)) pass0 (pa_cons (pv 7) (pa_cons (pv 1) pa_nil)))) (blkOk_by (own := [("more", 8), ("ended", 9)]) (N := ["rows", "ends", "found", "row", "later", "way", "has_ended", "block", "more", "ended"]) (sc := defScope s_all_ways) (by decide +kernel)) (fun _ _ _ _ _ => (pg_tup rfl (pgs_cons (pg_name (i := 8) sc_all_ways.nd rfl (Or.inl rfl)) (pgs_cons (pg_name (i := 9) sc_all_ways.nd rfl (Or.inl rfl)) pgs_nil)))) (fun _ _ _ _ _ => pts_nil) (fun _ _ _ _ _ => (pe_tup (pa_cons (pe_lst (paS_at (K := K) (pv 5) (pa_cons (pv 3) (paS_at (K := K) (pv 8) pa_nil)))) (pa_cons (pv 9) pa_nil))))) pa_nil)))))) (pss_one (ps_expr (pe_bm PySem.F.plainAttrs_list PySem.F.slot_list_append PySem.F.type_list_append mt_append (pv 4) (pa_cons (pe_tup (pa_cons (pe_lst (StX.pa_star (pv 5) (pa_cons (pv 3) pa_nil))) (pa_cons (pe_cmpR op_in_seq (pe_ix ix_tup (pv 3) pe_int (fun _ _ => rfl)) (pv 1) (by rfl)) pa_nil))) pa_nil)))))))))
      (pss_one (ps_set (i := 2) sc_all_ways.nd rfl (Or.inl rfl) (pv 4))))))
      (pss_one (ps_ret (pv 2)))))), ?_⟩)
  · obtain ⟨p, ea, xs, t, ends, rfl, _⟩ := h
    rfl
  obtain ⟨p, ea, xs, t, ends, rfl, hp, hx, hd, hsz, hif, hea, h0⟩ := h
  have q9 : sizeLine = 16777216 := sizeLine_eq
  have hxl := hx.len
  rw [toL_its, List.length_map] at hxl
  let fin := finF fa ends
  let stp : List (Wy α β) → It α β → List (Wy α β) := fun ws it => ws.flatMap (it.stepW fin)
  refine set_te (lst_go (cons_go (tup_go (cons_go (lst_go (nil_go ⟨szL rfl, fun e he => cons_go (c_go (nil_go ⟨szL rfl, fun tp htp => nil_go ⟨szL rfl, fun fl hfl => ?_⟩⟩))⟩))))))
  have s1 : Same H (upd H e (.lst [])) := Same.new he
  have i1 : upd H e (.lst []) e = some (.lst []) := upd_same
  generalize upd H e (.lst []) = H1 at s1 i1 htp hfl ⊢
  have s2 : Same H1 (upd H1 tp (.tup [.ref e, .bl false])) := Same.new htp
  have i2 : upd H1 tp (.tup [.ref e, .bl false]) tp = some (.tup [.ref e, .bl false]) := upd_same
  generalize upd H1 tp (.tup [.ref e, .bl false]) = H2 at s2 i2 hfl ⊢
  have s3 : Same H2 (upd H2 fl (.lst [.ref tp])) := Same.new hfl
  have i3 : upd H2 fl (.lst [.ref tp]) fl = some (.lst [.ref tp]) := upd_same
  generalize upd H2 fl (.lst [.ref tp]) = H3 at s3 i3 ⊢
  have s03 := (s1.tr s2).tr s3
  refine for_tp (K := K) (a := p) (xs := xs) (fun i σ H' => Same H H' ∧ ∃ fl ys u3 u4 u5 u6 u7, σ = [some (.ref p), some (.ref ea), some (.ref fl), u3, u4, u5, u6, u7, none, none] ∧ H fl = none ∧ H' fl = some (.lst ys) ∧ RepW K fa fb (Nn H) H' ((t.its.take i).foldl stp [([], false)]) ys) (ev_var rfl) (s03.seqT hp)
    (fun H4 s4 => ⟨s03.tr s4, fl, [.ref tp], none, none, none, none, none, rfl, none_of (s1.tr s2) hfl, s4 _ _ i3, tp, e, [], [], rfl, (s3.tr s4) _ _ i2, he, ((s2.tr s3).tr s4) _ _ i1, .nil, rfl⟩) (fun i σ H' _ k => k.1.seqT hp) ?_ ?_
  · rintro i v σ H4 hv ⟨s4, fl, ys, u3, u4, u5, u6, u7, rfl, hfl0, hfl4, hW⟩
    obtain ⟨dd, hdd, hvd⟩ := DqAll.at hx hv
    rw [toL_its, List.getElem?_map] at hdd
    obtain ⟨it, hit, rfl⟩ := Option.map_eq_some_iff.mp hdd
    obtain ⟨g1, g2, g3⟩ := its_sz t it (List.mem_of_getElem? hit)
    generalize hws : (t.its.take i).foldl stp [([], false)] = ws at hW
    have hnx : (t.its.take (i + 1)).foldl stp [([], false)] = ws.flatMap (it.stepW fin) := by
      rw [tk1 hit, List.foldl_append, hws]; rfl
    have hcnt : (ws.flatMap (it.stepW fin)).length ≤ 512 := by
      rw [← hnx]
      exact (take_ways fin t (i + 1) hif hsz).1
    have hmet : ∀ x ∈ ws, x.1.length ≤ 1000 := by
      rw [← hws]
      exact (take_ways fin t i hif hsz).2
    obtain ⟨wl, wat⟩ := RepW.at _ _ hW
    refine nm (set_lst (vs := []) ev_nil (fun H5 la s5 hla hl => ?_))
    have hla0 : H la = none := none_of s4 hla
    have hlf : la ≠ fl := fun z => by rw [z, hfl4] at hla; cases hla
    have hv5 := (hvd.up s4.tl).up s5.tl
    have hfl5 : H5 fl = some (.lst ys) := s5 _ _ hfl4
    refine nx_for (for_lst (K := K) (a := fl) (xs := ys) (fun j σ H' => Same H H' ∧ SameX la H5 H' ∧ ∃ zs u5 u6 u7, σ = [some (.ref p), some (.ref ea), some (.ref fl), some v, some (.ref la), u5, u6, u7, none, none] ∧ H' la = some (.lst zs) ∧ RepW K fa fb (fun b => H b = none ∧ b ≠ la) H' ((ws.take j).flatMap (it.stepW fin)) zs)
      (ev_var rfl) (.inl (.inl hfl5)) (fun H6 s6 => ⟨(s4.tr s5).tr s6, s6.x, [], _, _, _, rfl, s6 _ _ hl, rfl⟩) (fun j σ H' _ k => .inl (.inl (k.2.1 _ _ (Ne.symm hlf) hfl5))) ?_ ?_)
    · rintro k y σ H6 hy ⟨s6, sx6, zs, u5, u6, u7, rfl, hl6, hW6⟩
      obtain ⟨x, wa, wb, ms, hxk, rfl, hwa, hwn, hwb, hwm⟩ := wat k y hy
      have hwa5 := s5 _ _ hwa
      have hwb5 := s5 _ _ hwb
      have hwal : wa ≠ la := fun z => by rw [z] at hwa; rw [hwa] at hla; cases hla
      have hwbl : wb ≠ la := fun z => by rw [z] at hwb; rw [hwb] at hla; cases hla
      have tl56 : TupLe H5 H6 := fun b us h => sx6 _ _ (fun z => by rw [z, hl] at h; cases h) h
      have hwa6 := sx6 _ _ hwal hwa5
      have hwb6 := sx6 _ _ hwbl hwb5
      have hwm6 := (hwm.up s5.tl).up tl56
      have hv6 := hv5.up tl56
      have hzl := (RepW.at _ _ hW6).1
      have hzl2 : zs.length ≤ 512 := by
        have := take_fm_le (it.stepW fin) ws k
        omega
      have hnk := take_fm (it.stepW fin) hxk
      obtain ⟨m, eb⟩ := x
      let S : L2.St := [some (.ref p), some (.ref ea), some (.ref fl), some v, some (.ref la), some (.ref wb), some (.bl eb), u7, none, none]
      refine ⟨wa, _, rfl, .inl (.inl hwa6), rfl, _, _, rfl, _, _, rfl, rfl, ?_⟩
      -- one more entry
      have one : ∀ (H7 : Hp) (q ob : Addr) (mm : List V) (r : Wy α β), Same H6 H7 → H7 q = some (.tup [.ref ob, .bl r.2]) → (H ob = none ∧ ob ≠ la) → H7 ob = some (.lst mm) → DqAll K H7 mm (r.1.map (It.toD fa fb)) → it.stepW fin (m, eb) = [r] →
          rAppend (.ref la) [.ref q] H7 (fun x H1 => Same H H1 ∧ SameX la H5 H1 ∧ ∃ zs u5 u6 u7, S = [some (.ref p), some (.ref ea), some (.ref fl), some v, some (.ref la), u5, u6, u7, none, none] ∧ H1 la = some (.lst zs) ∧ RepW K fa fb (fun b => H b = none ∧ b ≠ la) H1 ((ws.take (k + 1)).flatMap (it.stepW fin)) zs) := by
        intro H7 q ob mm r s7 hq hob hmm hmd er
        have hl7 := s7 _ _ hl6
        have tC : TupLe H7 (upd H7 la (.lst (zs ++ [.ref q]))) := TupLe.mut hl7 fun xs z => by cases z
        have hql : q ≠ la := fun z => by rw [z, hl7] at hq; cases hq
        refine ⟨la, zs, .ref q, rfl, rfl, hl7, by omega, (s6.tr s7).mut hla0, fun b o hb ho => by rw [upd_ne hb]; exact s7 _ _ (sx6 _ _ hb ho), _, _, _, _, rfl, upd_same, ?_⟩
        rw [hnk, er]
        refine RepW.app _ _ _ _ (RepW.up (fun _ h => h) (s7.tl.trans tC) (fun c vs h hc => by rw [upd_ne h.2]; exact s7 _ _ hc) _ _ hW6) ?_
        exact ⟨q, ob, mm, [], rfl, by rw [upd_ne hql]; exact hq, hob, by rw [upd_ne hob.2]; exact hmm, hmd.up tC, rfl⟩
      refine do_if (σ := S) (ev_tB (ev_var (i := 6) rfl)) (fun ge H7 s7 => ?_) (fun ge H7 s7 => ?_)
      · subst ge
        refine ⟨_, rfl, .inl ⟨rfl, ⟨_, .inl (.inl (s7 _ _ hl6))⟩⟩, cons_go (tup_go (cons_go (var_go rfl (cons_go (c_go (nil_go ⟨szL rfl, fun q hq => nil_go ?_⟩))))))⟩
        have s8 := s7.tr (Same.new (o := .tup [.ref wb, .bl true]) hq)
        exact one _ q wb ms (m, true) s8 upd_same ⟨hwn, hwbl⟩ (s8 _ _ hwb6) (hwm6.up s8.tl) (by cases it <;> rfl)
      · subst ge
        have hv7 := hv6.up s7.tl
        have hl7 := s7 _ _ hl6
        have hwb7 := s7 _ _ hwb6
        have hwm7 := hwm6.up s7.tl
        have hml := hmet _ (List.mem_of_getElem? hxk)
        cases it with
        | leaf x =>
          obtain ⟨z, r, ez, hz⟩ := hw x
          have hv7' : Dq K H7 v (.tuple (fa x)) := hv7
          obtain ⟨va, us, rfl, hva, hus⟩ := Dq.tuple hv7'
          rw [ez] at hus
          cases hus with
          | cons hz1 hz2 =>
          cases hz1
          have I0 : ∀ {H8}, Same H7 H8 → EvE (tOp (rIxT K) (tVar 3) (tC (.int 0))) S H8 (.str z) := fun s8 => ev_ixT (ev_var rfl) (fun _ _ => ev_C) (s8.seqT hva) (at0 _ _)
          refine do_if (σ := S) (b1 := decide (z = "if")) (eq_str (I0 (Same.rf _)) fun _ _ => ev_C) (fun g H8 s8 => absurd (of_decide_eq_true g) hz) (fun g H8 s8 => ?_)
          refine ⟨_, rfl, .inl ⟨rfl, ⟨_, .inl (.inl (s8 _ _ hl7))⟩⟩, cons_go (tup_go (cons_go (lst_go ⟨_, rfl, wb, ms, rfl, .inr (.inl (.inl (s8 _ _ hwb7))), cons_go (var_go rfl (nil_go ⟨?_, fun lp hlp => ?_⟩))⟩)))⟩
          · have h1 := hwm.len
            rw [List.length_map] at h1
            have h2 : m.length ≤ 1000 := hml
            simp
            omega
          · have s9 : Same H8 (upd H8 lp (.lst (ms ++ [.ref va]))) := Same.new hlp
            have i9 : upd H8 lp (.lst (ms ++ [.ref va])) lp = some (.lst (ms ++ [.ref va])) := upd_same
            have hll : lp ≠ la := fun e => by rw [e, s8 _ _ hl7] at hlp; cases hlp
            have hlpn : H lp = none := none_of ((s6.tr s7).tr s8) hlp
            generalize upd H8 lp (.lst (ms ++ [.ref va])) = H9 at s9 i9 ⊢
            have s79 := s8.tr s9
            refine cons_go (ev_in (I0 s79) (fun Ha sa Q k => ⟨_, rfl, k Ha ea (Same.rf _) (.inr (((s6.tr s7).tr s79).tr sa |>.seqT hea))⟩) _ fun Ha sa => nil_go ⟨szL rfl, fun q hq => nil_go ?_⟩)
            have sb := sa.tr (Same.new (o := .tup [.ref lp, .bl (decide (z ∈ ends))]) hq)
            refine one _ q lp _ (m ++ [.leaf x], decide (z ∈ ends)) (s7.tr (s79.tr sb)) upd_same ⟨hlpn, hll⟩ (sb _ _ i9) ?_ ?_
            · rw [List.map_append]
              exact ((hwm7.up (s79.tr sb).tl)).app (.cons (hv7.up (s79.tr sb).tl) .nil)
            · show (if false = true then [(m, true)] else [(m ++ [.leaf x], fin x)]) = _
              rw [if_neg (by decide), show fin x = decide (z ∈ ends) from by show finF fa ends x = _; unfold finF; rw [ez]]
        | ifi l ps a b =>
          have hv7' : Dq K H7 v (ifD l (ps.map fun p => .tuple (fb p)) (a.toL fa fb) (b.toL fa fb)) := hv7
          obtain ⟨va, us, rfl, hva, hus⟩ := Dq.tuple hv7'
          cases hus with
          | cons h1 hus => cases hus with
          | cons h2 hus => cases hus with
          | cons h3 hus => cases hus with
          | cons h4 hus => cases hus with
          | cons h5 hus =>
          cases hus
          cases h1
          obtain ⟨pa, xa, rfl, hpa, hxa⟩ := Dq.tuple h4
          obtain ⟨pb, xb, rfl, hpb, hxb⟩ := Dq.tuple h5
          have e1 : 1 + a.sz + b.sz ≤ t.sz := g1
          have e2 : max a.dep b.dep + 1 ≤ t.dep := g2
          have e3 : 1 + a.ifs + b.ifs ≤ t.ifs := g3
          refine do_if (σ := S) (b1 := decide (("if" : Str) = "if")) (eq_str (ev_ixT (ev_var (i := 3) rfl) (fun _ _ => ev_C) hva rfl) fun _ _ => ev_C) (fun g H8 s8 => ?_) (fun g H8 s8 => by simp at g)
          have hr8 := hv7.up s8.tl
          have eW : ∀ fin' : α → Bool, It.stepW fin' (.ifi l ps a b) (m, false) = (a.ways fin').map (fun z => (m ++ .ifi l ps a b :: z.1, z.2)) ++ (b.ways fin').map (fun z => (m ++ .ifi l ps a b :: z.1, z.2)) := fun fin' => by
            show (if false = true then [(m, true)] else (a.ways fin' ++ b.ways fin').map fun z => (m ++ .ifi l ps a b :: z.1, z.2)) = _
            rw [if_neg (by decide), List.map_append]
          have hwl2 : H wb = none := hwn
          have wlen : ∀ t2 : RT α β, t2.ifs ≤ 9 → (t2.ways fin).length ≤ 512 := fun t2 h => by
            have h1 := waysF_len fin t2 [([], false)]
            rw [List.length_singleton, Nat.one_mul] at h1
            exact Nat.le_trans h1 (Nat.le_trans (Nat.pow_le_pow_right (by decide) h) (by decide))
          have s68 := s7.tr s8
          refine for_dispX (K := K) (xs := [.ref pa, .ref pb]) (fun tq i σ H' => SameX la H8 H' ∧ H' tq = some (.tup [.ref pa, .ref pb]) ∧ ∃ new u7, σ = [some (.ref p), some (.ref ea), some (.ref fl), some (.ref va), some (.ref la), some (.ref wb), some (.bl false), u7, none, none] ∧ H' la = some (.lst (zs ++ new)) ∧
            RepW K fa fb (fun b => H b = none ∧ b ≠ la) H' ((([a, b] : List (RT α β)).take i).flatMap fun t2 => (t2.ways fin).map fun z => (m ++ .ifi l ps a b :: z.1, z.2)) new) (ev_cons (ev_ixT (ev_var rfl) (fun _ _ => ev_C) (s8.seqT hva) rfl) fun H9 s9 => ev_cons (ev_ixT (ev_var rfl) (fun _ _ => ev_C) ((s8.tr s9).seqT hva) rfl) fun _ _ => ev_nil)
            (fun tq H9 Ha s9 hq sa ha => ⟨(s9.tr sa).x, ha, [], u7, rfl, by rw [List.append_nil]; exact (s9.tr sa) _ _ (s8 _ _ hl7), rfl⟩) (fun tq i σ H' k => .inl (.inl k.2.1)) ?_ ?_
          · rintro tq i x σ H9 hx ⟨sx9, htq, new, u7, rfl, hl9, hW9⟩
            have hnl := (RepW.at _ _ hW9).1
            have tl89 : TupLe H8 H9 := fun c us h => sx9 _ _ (fun z => by rw [z, s8 _ _ hl7] at h; cases h) h
            have key : ∀ (t2 : RT α β) (pp : Addr), ([a, b] : List (RT α β))[i]? = some t2 → ∀ H' nw, SameX la H9 H' → H' la = some (.lst ((zs ++ new) ++ nw)) → RepW K fa fb (fun b => H9 b = none) H' ((t2.ways fin).map fun z => (m ++ .ifi l ps a b :: z.1, z.2)) nw →
                SameX la H8 H' ∧ H' tq = some (.tup [.ref pa, .ref pb]) ∧ ∃ new u7, ([some (.ref p), some (.ref ea), some (.ref fl), some (.ref va), some (.ref la), some (.ref wb), some (.bl false), some (.ref pp), none, none] : L2.St) = [some (.ref p), some (.ref ea), some (.ref fl), some (.ref va), some (.ref la), some (.ref wb), some (.bl false), u7, none, none] ∧ H' la = some (.lst (zs ++ new)) ∧
                RepW K fa fb (fun b => H b = none ∧ b ≠ la) H' ((([a, b] : List (RT α β)).take (i + 1)).flatMap fun t2 => (t2.ways fin).map fun z => (m ++ .ifi l ps a b :: z.1, z.2)) new := by
              intro t2 pp ht2 H' nw sx' hl' hW'
              have tl' : TupLe H9 H' := fun c us h => sx' _ _ (fun z => by rw [z, hl9] at h; cases h) h
              refine ⟨sx9.tr sx', tl' _ _ htq, new ++ nw, _, rfl, by rw [hl', List.append_assoc], ?_⟩
              rw [take_fm _ ht2]
              refine RepW.app _ _ _ _ (RepW.up (fun _ h => h) tl' (fun c vs h hc => sx' _ _ h.2 hc) _ _ hW9) (RepW.up (fun c h => ⟨?_, fun e => by rw [e, hl9] at h; cases h⟩) (TupLe.refl _) (fun _ _ _ h => h) _ _ hW')
              cases e9 : H c with
              | none => rfl
              | some o =>
                by_cases hc : c = la
                · rw [hc, hla0] at e9; cases e9
                · have := sx9 c o hc (s8 _ _ (s7 _ _ (s6 _ _ e9)))
                  rw [h] at this; cases this
            have wlen2 : ∀ t2, ([a, b] : List (RT α β))[i]? = some t2 → (zs ++ new).length ≤ 1000000 := fun t2 ht2 => by
              have h1 := take_fm_le (fun t2 : RT α β => (t2.ways fin).map fun z => (m ++ It.ifi l ps a b :: z.1, z.2)) [a, b] i
              have h2 := wlen a (by omega)
              have h3 := wlen b (by omega)
              simp only [List.flatMap_cons, List.flatMap_nil, List.length_append, List.length_map, List.length_nil] at h1
              rw [List.length_append]
              omega
            have hwb9 := sx9 _ _ hwbl (s8 _ _ hwb7)
            have hwm9 := (hwm7.up s8.tl).up tl89
            have hv9 := hr8.up tl89
            have hl8 := s8 _ _ hl7
            have hea9 : SqT K H9 ea (ends.map V.str) := seqT_x sx9 hl8 ((s6.tr s68).seqT hea)
            have hpa9 : SqT K H9 pa xa := seqT_x sx9 hl8 (s8.seqT hpa)
            have hpb9 : SqT K H9 pb xb := seqT_x sx9 hl8 (s8.seqT hpb)
            match i, hx, key, wlen2 with
            | 0, hx, key, wlen2 =>
              cases hx
              exact nm (ext_go (it := .ifi l ps a b) (m := m) hwb9 hwm9 hml hv9 hpa9 ((hxa.up s8.tl).up tl89) (by omega) (by omega) (by omega) hea9 hl9 (wlen2 a rfl) (key a pa rfl))
            | 1, hx, key, wlen2 =>
              cases hx
              exact nm (ext_go (it := .ifi l ps a b) (m := m) hwb9 hwm9 hml hv9 hpb9 ((hxb.up s8.tl).up tl89) (by omega) (by omega) (by omega) hea9 hl9 (wlen2 b rfl) (key b pb rfl))
            | i + 2, hx, _, _ => cases hx
          · rintro tq σ H9 ⟨sx9, htq, new, u7, rfl, hl9, hW9⟩
            have hl8 := s8 _ _ hl7
            refine ⟨Same.ofX (s6.tr s68) hla0 sx9, (sx6.tr s68.x).tr sx9, zs ++ new, _, _, _, rfl, hl9, ?_⟩
            have e9 : (([a, b] : List (RT α β)).take ([V.ref pa, V.ref pb] : List V).length).flatMap (fun t2 => (t2.ways fin).map fun z => (m ++ It.ifi l ps a b :: z.1, z.2)) = It.stepW fin (.ifi l ps a b) (m, false) := by
              rw [eW]
              show (List.map _ _ ++ (List.map _ _ ++ [])) = _
              rw [List.append_nil]
            rw [e9] at hW9
            rw [hnk]
            exact RepW.app _ _ _ _ (RepW.up (fun _ h => h) (s68.tl.trans (fun c us h => sx9 _ _ (fun z => by rw [z, hl8] at h; cases h) h)) (fun c vs h hc => sx9 _ _ h.2 (s68 _ _ hc)) _ _ hW6) hW9
    · rintro σ H6 ⟨s6, sx6, zs, u5, u6, u7, rfl, hl6, hW6⟩
      rw [wl, List.take_length] at hW6
      refine ⟨_, rfl, s6, la, zs, _, _, _, _, _, rfl, hla0, hl6, ?_⟩
      rw [hnx]
      exact RepW.up (fun b h => h.1) (TupLe.refl _) (fun _ _ _ h => h) _ _ hW6
  · rintro σ H4 ⟨s4, fl, ys, u3, u4, u5, u6, u7, rfl, hfl0, hfl4, hW⟩
    rw [hxl, List.take_length] at hW
    exact ⟨_, rfl, h0 fl ys H4 s4 hfl0 hfl4 (by unfold RT.ways; rw [waysF_its]; exact hW)⟩
theorem ok_all_ways (T : Tx P w K mg) (hw : Wrd fa) : ∀ d, FnX P w K mg base CX0 (d + 1) "all_ways" ["rows", "ends"] [] (spWays K fa fb d)
  | 0 => T.d_all_ways.ok0 (k := 0) sc_all_ways (fun _ _ _ _ _ _ us hl => match us, hl with | [_, _], _ => rfl) (fun vs H Q E h => by obtain ⟨p, ea, xs, t, ends, rfl, _, _, h, _⟩ := h; omega) (fun f cdv A outer s H vs Q E hr h => by obtain ⟨p, ea, xs, t, ends, rfl, _, _, h, _⟩ := h; omega)
  | d + 1 => ok_ways T hw (ok_all_ways T hw d)
end
end K03


set_option Elab.async false
set_option linter.all false
set_option maxRecDepth 100000
set_option maxHeartbeats 4000000
namespace K03
open PySem PySem.Spec PyProof.Rows L2
section
variable {P : Program} {w : World} {K : PySem.W.Frag} {mg : Str → Option Value} {base : Heap}
abbrev cD (K : PySem.W.Frag) : Addr := He.ga K "PageCode"
def nlS : Str := Str.ofString "\n"
/-- a code's lines -/
def linesOf (z : Str) : List Str := if z = Str.ofString "" then [] else Txt.split z nlS
/-- a value in the place of a kind: flat, or a list -/
def KindV (H : Hp) (v : V) : Prop := flatV v = true ∨ ∃ p xs, v = .ref p ∧ H p = some (.lst xs)
def kindOk (ks : List Str) : V → Bool
  | .str z => decide (z ∈ ks)
  | _ => false
def ctF (part kind text : Str) (l t : Addr) : List (Str × V) := [("part", .str part), ("kind", .str kind), ("text", .str text), ("own_lines", .ref l), ("own_tables", .ref t)]
/-- CodeText.__init__, its instance of the class PageCode -/
def spCT (K : PySem.W.Frag) : Sp := fun vs H Q E => ∃ (x dx kp : Addr) (part text : Str) (kv : V) (ks : List Str) (most : Int), vs = [.ref x, .str part, kv, .ref kp, .str text, .int most] ∧ H x = some (.ins (cD K) dx []) ∧ SqT K H kp (ks.map V.str) ∧ KindV H kv ∧ text.length ≤ 100000 ∧
  (kindOk ks kv = false → ∀ d, H d = none → E (.ref (He.ga K "BadKind")) (some d) (upd H d (.xd [("kind", kv)]))) ∧
  (∀ k, kv = .str k → k ∈ ks → ((linesOf text).length : Int) > most → ∀ d H', H d = none → H' d = some (.xd [("most", .int most), ("many", .int ((linesOf text).length : Nat)), ("what", .str (Str.ofString "lines"))]) → (∀ b o, b ≠ x → H b = some o → H' b = some o) → E (.ref (He.ga K "TooMany")) (some d) H') ∧
  (∀ k, kv = .str k → k ∈ ks → ((linesOf text).length : Int) ≤ most → ∀ l t H', H l = none → H t = none → H' x = some (.ins (cD K) dx (ctF part k text l t)) → H' l = some (.lst ((linesOf text).map V.str)) → (∀ b o, b ≠ x → H b = some o → H' b = some o) → Q .non H')
theorem ok_ct (T : Tx P w K mg) {f : Addr} {fd : FuncData} (F : FunD K "__init__" "CodeText.__init__" (defArgs s_CodeText_init) (defBody s_CodeText_init) (defScope s_CodeText_init) [] [] f fd) : L2.Binds K fd ["self", "part", "kind", "kinds", "text", "most_lines"] [] ∧ FnOk P w K mg base (L2.CX P w) 3 f fd ["self", "part", "kind", "kinds", "text", "most_lines"] (spCT K) := by
  refine ⟨F.bindsN (fun _ _ _ _ _ _ us hl => match us, hl with | [_, _, _, _, _, _], _ => rfl), F.ok sc_CodeText_init (fun vs H Q E h => ?_) (fun cdv A outer s H vs Q E hr h => ⟨_, (by exact (pss_cons (ps_if (PW.pt (pw_or (pt_not (pt_val (pe_callB call_isi (by rfl) T.b_isinstance (by decide +kernel) (pa_cons (pv 2) (pa_cons (pe_bltn (v := .ty "str") (by rfl) T.b_str (by decide +kernel) rfl) pa_nil))))) (pw_or1 (pt_cmpR op_notIn_seq (pv 2) (pv 3) (by rfl))))) (pss_one (ps_raise rfl (takes_of rfl rfl rfl rfl) (pmk_err T.e_BadKind T.g_BadKind hr (pa_cons (pv 2) pa_nil)))) pss_nil)
      (pss_cons (ps_fld (pv 0) (pv 1) rfl)
      (pss_cons (ps_fld (pv 0) (pv 2) rfl)
      (pss_cons (ps_fld (pv 0) (pv 4) rfl)
      (pss_cons (ps_fld (pv 0) (pe_ifExp (pt_cmpR op_ne (pv 4) pe_str (nomark _)) (pe_split (pv 4) pe_str) (pe_lst pa_nil)) rfl)
      (pss_cons (ps_if (pt_cmpR op_gt (pe_callB call_len_seq (by rfl) T.b_len (by decide +kernel) (pa_cons (pe_fld (pv 0) rfl) pa_nil)) (pv 5) (nomark _)) (pss_one (ps_raise rfl (takes_of rfl rfl rfl rfl) (pmk_err T.e_TooMany T.g_TooMany hr (pa_cons pe_str (pa_cons (pe_callB call_len_seq (by rfl) T.b_len (by decide +kernel) (pa_cons (pe_fld (pv 0) rfl) pa_nil)) (pa_cons (pv 5) pa_nil)))))) pss_nil)
      (pss_one (ps_fld (pv 0) pe_dnewK rfl))))))))), ?_⟩)⟩
  · obtain ⟨x, dx, kp, part, text, kv, ks, most, rfl, _⟩ := h
    rfl
  obtain ⟨x, dx, kp, part, text, kv, ks, most, rfl, hx, hks, hkv, htl, h0, h1, h2⟩ := h
  have bad : kindOk ks kv = false → tMkErr (He.ga K "BadKind") ["kind"] (tCons (tVar 2) tNil) (start ["self", "part", "kind", "kinds", "text", "most_lines"] [.ref x, .str part, kv, .ref kp, .str text, .int most]) H (fun cls d H' => E cls d H') :=
    fun e => ⟨_, rfl, rfl, (fun z => absurd z (by simp)), fun _ d hd => h0 e d hd⟩
  obtain ⟨t, b1, ty, k1, hb⟩ : ∃ (t : Value) (b1 : Bool), TyX K H kv t ∧ PySem.W.kitOne K t (.type "str") = some b1 ∧ (if b1 = true then ∃ k, kv = .str k else kindOk ks kv = false) := by
    rcases hkv with hf | ⟨p, xs, rfl, hp⟩
    · cases kv with
      | int i => exact ⟨_, false, .base (.int i), kit_ty (by decide +kernel), rfl⟩
      | bl i => exact ⟨_, false, .base (.bl i), kit_ty (by decide +kernel), rfl⟩
      | str i => exact ⟨_, true, .base (.str i), kit_ty (by decide +kernel), ⟨i, rfl⟩⟩
      | non => exact ⟨_, false, .base .non, kit_ty (by decide +kernel), rfl⟩
      | byt _ => cases hf
      | flt _ => cases hf
      | ref _ => cases hf
      | ty _ => cases hf
    · exact ⟨_, false, .base (.lst hp), kit_ty (by decide +kernel), rfl⟩
  refine ⟨_, rfl, _, _, t, .type "str", b1, rfl, .ty _, ty, k1, _, rfl, ?_⟩
  cases b1 with
  | false => exact iteT (iteT (bad hb))
  | true =>
    obtain ⟨k, rfl⟩ := hb
    refine iteF ?_
    refine ⟨_, rfl, _, rfl, kp, _, rfl, .inr hks, rfl, flat_strs ks, _, rfl, ?_⟩
    rw [inV_str]
    refine iteB (fun g => bad (by simpa [kindOk] using g)) (fun g => ?_)
    have hk : k ∈ ks := by simpa using g
    refine ⟨_, rfl, _, rfl, x, cD K, dx, _, rfl, hx, T.cl_PageCode, T.na_PageCode_part, (by show 0 < 1000; decide), ?_⟩
    refine ⟨_, rfl, _, rfl, x, cD K, dx, _, rfl, upd_same, T.cl_PageCode, T.na_PageCode_kind, (by show 1 < 1000; decide), ?_⟩
    refine ⟨_, rfl, _, rfl, x, cD K, dx, _, rfl, upd_same, T.cl_PageCode, T.na_PageCode_text, (by show 2 < 1000; decide), ?_⟩
    rw [upd_upd, upd_upd]
    refine ⟨_, rfl, rfl, _, rfl, ?_⟩
    refine iteB (fun g1 => ?_) (fun g1 => ?_)
    · have e1 : linesOf text = Txt.split text nlS := by
        unfold linesOf
        rw [if_neg (fun z => by subst z; exact absurd g1 (by decide +kernel))]
      refine ⟨_, rfl, ⟨_, rfl⟩, text, nlS, rfl, rfl, by decide +kernel, (by have q9 : sizeLine = 16777216 := sizeLine_eq; omega), fun l hl => ?_⟩
      have hlx : l ≠ x := fun z => by subst z; rw [upd_same] at hl; cases hl
      have hl0 : H l = none := by rw [upd_ne hlx] at hl; exact hl
      refine ⟨_, rfl, x, cD K, dx, _, rfl, Same.new hl _ _ upd_same, T.cl_PageCode, T.na_PageCode_own_lines, (by show 3 < 1000; decide), ?_⟩
      refine ⟨_, rfl, x, cD K, dx, _, _, rfl, upd_same, T.cl_PageCode, T.na_PageCode_own_lines, rfl, l, (linesOf text).map V.str, rfl, .inl (SqL.of ?_), _, rfl, _, _, rfl, rfl, _, rfl, ?_⟩
      · (rw [upd_ne hlx, upd_same, e1]; try rfl)
      have hLl : ∀ o, upd (upd (upd H x o) l (.lst ((Txt.split text nlS).map V.str))) x (.ins (cD K) dx [("part", .str part), ("kind", .str k), ("text", .str text), ("own_lines", .ref l)]) l = some (.lst ((linesOf text).map V.str)) := fun o => by (rw [upd_ne hlx, upd_same, e1]; try rfl)
      have hSB : ∀ o, ∀ b u, b ≠ x → H b = some u → upd (upd (upd H x o) l (.lst ((Txt.split text nlS).map V.str))) x (.ins (cD K) dx [("part", .str part), ("kind", .str k), ("text", .str text), ("own_lines", .ref l)]) b = some u := fun o b u hbx hb => by rw [upd_ne hbx, upd_ne (ne_of_none hb hl0), upd_ne hbx]; exact hb
      rw [List.length_map]
      refine iteB (fun g2 => ?_) (fun g2 => ?_)
      · refine ⟨_, rfl, x, cD K, dx, _, _, rfl, upd_same, T.cl_PageCode, T.na_PageCode_own_lines, rfl, l, (linesOf text).map V.str, rfl, .inl (SqL.of ?_), _, rfl, rfl, (fun z => absurd z (by simp)), fun _ d hd => ?_⟩
        · (rw [upd_ne hlx, upd_same, e1]; try rfl)
        have hdx : d ≠ x := fun z => by subst z; rw [upd_same] at hd; cases hd
        have hd0 : H d = none := by
          cases q : H d with
          | none => rfl
          | some o => have q2 := hSB (.ins (cD K) dx [("part", .str part), ("kind", .str k), ("text", .str text)]) d o hdx q; exact absurd (hd.symm.trans q2) (by simp)
        exact h1 k rfl hk (of_decide_eq_true g2) d _ hd0 (by rw [upd_same]; show some (HO.xd [("most", .int most), ("many", .int (((linesOf text).map V.str).length : Nat)), ("what", .str (Str.ofString "lines"))]) = _; rw [List.length_map]) (fun b o hbx hb => by rw [upd_ne (ne_of_none hb hd0)]; exact hSB (.ins (cD K) dx [("part", .str part), ("kind", .str k), ("text", .str text)]) b o hbx hb)
      · refine fun t ht => ?_
        have htx : t ≠ x := fun z => by subst z; rw [upd_same] at ht; cases ht
        have ht0 : H t = none := by
          cases q : H t with
          | none => rfl
          | some o => have q2 := hSB (.ins (cD K) dx [("part", .str part), ("kind", .str k), ("text", .str text)]) t o htx q; exact absurd (ht.symm.trans q2) (by simp)
        have hlt : l ≠ t := fun z => by subst z; exact absurd (ht.symm.trans (hLl (.ins (cD K) dx [("part", .str part), ("kind", .str k), ("text", .str text)]))) (by simp)
        refine ⟨_, rfl, x, cD K, dx, _, rfl, Same.new ht _ _ upd_same, T.cl_PageCode, T.na_PageCode_own_tables, (by show 4 < 1000; decide), ?_⟩
        refine h2 k rfl hk (by have := of_decide_eq_false g2; omega) l t _ hl0 ht0 upd_same ?_ (fun b o hbx hb => ?_)
        · rw [upd_ne hlx, upd_ne hlt]; exact hLl (.ins (cD K) dx [("part", .str part), ("kind", .str k), ("text", .str text)])
        · rw [upd_ne hbx, upd_ne (ne_of_none hb ht0)]; exact hSB (.ins (cD K) dx [("part", .str part), ("kind", .str k), ("text", .str text)]) b o hbx hb
    · have e1 : linesOf text = [] := by
        unfold linesOf
        rw [if_pos (Classical.byContradiction fun z => by
          have q : (!decide (V.str text = V.str (Str.ofString ""))) = true := by rw [decide_eq_false (fun y => z (V.str.inj y))]; rfl
          rw [q] at g1
          cases g1)]
      refine ⟨(by show 0 ≤ sizeLine; decide), fun l hl => ?_⟩
      have hlx : l ≠ x := fun z => by subst z; rw [upd_same] at hl; cases hl
      have hl0 : H l = none := by rw [upd_ne hlx] at hl; exact hl
      refine ⟨_, rfl, x, cD K, dx, _, rfl, Same.new hl _ _ upd_same, T.cl_PageCode, T.na_PageCode_own_lines, (by show 3 < 1000; decide), ?_⟩
      refine ⟨_, rfl, x, cD K, dx, _, _, rfl, upd_same, T.cl_PageCode, T.na_PageCode_own_lines, rfl, l, (linesOf text).map V.str, rfl, .inl (SqL.of ?_), _, rfl, _, _, rfl, rfl, _, rfl, ?_⟩
      · (rw [upd_ne hlx, upd_same, e1]; try rfl)
      have hLl : ∀ o, upd (upd (upd H x o) l (.lst [])) x (.ins (cD K) dx [("part", .str part), ("kind", .str k), ("text", .str text), ("own_lines", .ref l)]) l = some (.lst ((linesOf text).map V.str)) := fun o => by (rw [upd_ne hlx, upd_same, e1]; try rfl)
      have hSB : ∀ o, ∀ b u, b ≠ x → H b = some u → upd (upd (upd H x o) l (.lst [])) x (.ins (cD K) dx [("part", .str part), ("kind", .str k), ("text", .str text), ("own_lines", .ref l)]) b = some u := fun o b u hbx hb => by rw [upd_ne hbx, upd_ne (ne_of_none hb hl0), upd_ne hbx]; exact hb
      rw [List.length_map]
      refine iteB (fun g2 => ?_) (fun g2 => ?_)
      · refine ⟨_, rfl, x, cD K, dx, _, _, rfl, upd_same, T.cl_PageCode, T.na_PageCode_own_lines, rfl, l, (linesOf text).map V.str, rfl, .inl (SqL.of ?_), _, rfl, rfl, (fun z => absurd z (by simp)), fun _ d hd => ?_⟩
        · (rw [upd_ne hlx, upd_same, e1]; try rfl)
        have hdx : d ≠ x := fun z => by subst z; rw [upd_same] at hd; cases hd
        have hd0 : H d = none := by
          cases q : H d with
          | none => rfl
          | some o => have q2 := hSB (.ins (cD K) dx [("part", .str part), ("kind", .str k), ("text", .str text)]) d o hdx q; exact absurd (hd.symm.trans q2) (by simp)
        exact h1 k rfl hk (of_decide_eq_true g2) d _ hd0 (by rw [upd_same]; show some (HO.xd [("most", .int most), ("many", .int (((linesOf text).map V.str).length : Nat)), ("what", .str (Str.ofString "lines"))]) = _; rw [List.length_map]) (fun b o hbx hb => by rw [upd_ne (ne_of_none hb hd0)]; exact hSB (.ins (cD K) dx [("part", .str part), ("kind", .str k), ("text", .str text)]) b o hbx hb)
      · refine fun t ht => ?_
        have htx : t ≠ x := fun z => by subst z; rw [upd_same] at ht; cases ht
        have ht0 : H t = none := by
          cases q : H t with
          | none => rfl
          | some o => have q2 := hSB (.ins (cD K) dx [("part", .str part), ("kind", .str k), ("text", .str text)]) t o htx q; exact absurd (ht.symm.trans q2) (by simp)
        have hlt : l ≠ t := fun z => by subst z; exact absurd (ht.symm.trans (hLl (.ins (cD K) dx [("part", .str part), ("kind", .str k), ("text", .str text)]))) (by simp)
        refine ⟨_, rfl, x, cD K, dx, _, rfl, Same.new ht _ _ upd_same, T.cl_PageCode, T.na_PageCode_own_tables, (by show 4 < 1000; decide), ?_⟩
        refine h2 k rfl hk (by have := of_decide_eq_false g2; omega) l t _ hl0 ht0 upd_same ?_ (fun b o hbx hb => ?_)
        · rw [upd_ne hlx, upd_ne hlt]; exact hLl (.ins (cD K) dx [("part", .str part), ("kind", .str k), ("text", .str text)])
        · rw [upd_ne hbx, upd_ne (ne_of_none hb ht0)]; exact hSB (.ins (cD K) dx [("part", .str part), ("kind", .str k), ("text", .str text)]) b o hbx hb
end
end K03


set_option Elab.async false
set_option linter.all false
set_option maxRecDepth 100000
set_option maxHeartbeats 4000000
namespace L2
open PySem PySem.Spec PyProof.Rows
theorem pairs1_go {tv : TE} {v : V} {σ : St} {H : Hp} {Q : List (V × V) → Hp → Prop} (h : tv σ H fun y H2 => Q [(v, y)] H2) : tPairs [(tC v, tv)] σ H Q := h
theorem pairs2_go {tv tu : TE} {v u : V} {σ : St} {H : Hp} {Q : List (V × V) → Hp → Prop} (h : tv σ H fun y H2 => tu σ H2 fun z H3 => Q [(v, y), (u, z)] H3) : tPairs [(tC v, tv), (tC u, tu)] σ H Q := h
end L2
namespace Pgr
open PySem Tld
def pgNames : List Str := ["size", "head", "slot", "unit", "slots", "low", "holes", "edge", "len", "own.at", "own.len", "a", "b", "c"]
def pgOthers : List (Str × Str) := [("there is empty", "empty"), ("own is last", "last")]
/-- what a page code's part is read as -/
def partG (text : Str) : Option Part := tPart pgNames pgOthers text
def pds : Part → List PyData
  | .lone s w => [.str s, .bool w]
  | .same a b w => [.str "same", .tuple [atD a], .tuple [atD b], .bool w]
  | .less a b s w => [.str "less", .tuple [atD a], .tuple [atD b], .bool s, .bool w]
theorem toD_pds (p : Part) : p.toD = .tuple (pds p) := by cases p <;> rfl
end Pgr
namespace K03
open PySem PySem.Spec PyProof.Rows L2 Tld Pgr
theorem oth_two {kvs : List (Key × V)} {p q : Addr} (h : kvs = [((.inr "there is empty" : Key), V.ref p), (.inr "own is last", .ref q)]) {H : Hp} {a : Addr} (ha : H a = some (.dK kvs)) (hp : H p = some (.tup [.str "empty"])) (hq : H q = some (.tup [.str "last"])) : OthR H a pgOthers := by
  subst h
  have n12 : ¬ ("there is empty" : Str) = "own is last" := by decide +kernel
  have key : ∀ z : Str, valV [((.inr "there is empty" : Key), V.ref p), (.inr "own is last", .ref q)] (.inr z) = if z = "there is empty" then some (.ref p) else if z = "own is last" then some (.ref q) else none := fun z => by
    unfold valV
    by_cases h1 : z = "there is empty"
    · subst h1; simp
    · have h1' : ¬ ((.inr "there is empty" : Key) = .inr z) := fun k => h1 (Sum.inr.inj k).symm
      by_cases h2 : z = "own is last"
      · subst h2; simp [n12]; exact fun e => absurd e h1
      · have h2' : ¬ ((.inr "own is last" : Key) = .inr z) := fun k => h2 (Sum.inr.inj k).symm
        simp [h1, h2, Ne.symm h1, Ne.symm h2]
  have lk : ∀ z : Str, pgOthers.lookup z = if z = "there is empty" then some "empty" else if z = "own is last" then some "last" else none := fun z => by
    unfold pgOthers
    by_cases h1 : z = "there is empty"
    · rw [if_pos h1]; subst h1; rfl
    · have b1 : (z == Str.ofString "there is empty") = false := beq_eq_false_iff_ne.mpr h1
      rw [if_neg h1]
      by_cases h2 : z = "own is last"
      · rw [if_pos h2]; subst h2; rfl
      · have b2 : (z == Str.ofString "own is last") = false := beq_eq_false_iff_ne.mpr h2
        rw [if_neg h2]
        show (match z == Str.ofString "there is empty" with | true => some (Str.ofString "empty") | false => match z == Str.ofString "own is last" with | true => some (Str.ofString "last") | false => none) = none
        rw [b1, b2]
  refine ⟨_, ha, fun z => ?_, fun z s e => ?_⟩
  · rw [key, lk]
    by_cases h1 : z = "there is empty"
    · rw [if_pos h1, if_pos h1]; rfl
    · rw [if_neg h1, if_neg h1]
      by_cases h2 : z = "own is last"
      · rw [if_pos h2, if_pos h2]; rfl
      · rw [if_neg h2, if_neg h2]; rfl
  · rw [lk] at e
    rw [key]
    by_cases h1 : z = "there is empty"
    · rw [if_pos h1] at e ⊢; cases e; exact ⟨p, rfl, hp⟩
    · rw [if_neg h1] at e ⊢
      by_cases h2 : z = "own is last"
      · rw [if_pos h2] at e ⊢; cases e; exact ⟨q, rfl, hq⟩
      · rw [if_neg h2] at e; cases e
section
variable {P : Program} {w : World} {K : PySem.W.Frag} {mg : Str → Option Value} {base : Heap}
def spPgPart (K : PySem.W.Frag) : Sp := fun vs H Q _ => ∃ (text : Str), vs = [.str text] ∧ text.length ≤ 1000 ∧
  (partG text = none → ∀ H', Same H H' → Q .non H') ∧ ∀ p v H', partG text = some p → Same H H' → Dq K H' v (.tuple (pds p)) → Q v H'
theorem ok_page_part (T : Tx P w K mg) : FnX P w K mg base CX0 4 "page_part" ["text"] [] (spPgPart K) := by
  have F_told_part := ok_told_part (P := P) (w := w) (base := base) T
  refine T.d_page_part.ok0 sc_page_part (fun _ _ _ _ _ _ us hl => match us, hl with | [_], _ => rfl) (fun vs H Q E h => ?_) (fun f cdv A outer s H vs Q E hr h => have hu := hu_of hr; ⟨_, (by exact (pss_one (ps_ret (pe_callX F_told_part (hr.mono (by first | decide | omega)) pass0 (pa_cons (pv 0) (pa_cons (pe_gref T.g_NAMES) (pa_cons (pe_disp (pps_cons pe_str (pe_tup (pa_cons pe_str pa_nil)) (pps_cons pe_str (pe_tup (pa_cons pe_str pa_nil)) pps_nil)) (by rfl) (by rfl) (fun z => by cases z) (by decide)) pa_nil))))))), ?_⟩)
  · obtain ⟨text, rfl, _⟩ := h
    rfl
  obtain ⟨text, rfl, htl, h0, h1⟩ := h
  refine ret_go (call_go (cons_go (var_go rfl (cons_go (c_go (cons_go ?_))))))
  refine fun da hda => pairs2_go (tup_go (cons_go (c_go (nil_go ⟨szL rfl, fun p hp => tup_go (cons_go (c_go (nil_go ⟨szL rfl, fun q hq => ?_⟩)))⟩))))
  have t1 : Same H (upd H da (.dK [])) := Same.new hda
  have i1 : upd H da (.dK []) da = some (.dK []) := upd_same
  generalize upd H da (.dK []) = H2 at t1 i1 hp hq ⊢
  have t2 : Same H2 (upd H2 p (.tup [.str "empty"])) := Same.new hp
  have i2 : upd H2 p (.tup [.str "empty"]) p = some (.tup [.str "empty"]) := upd_same
  generalize upd H2 p (.tup [.str "empty"]) = H3 at t2 i2 hq ⊢
  have t3 : Same H3 (upd H3 q (.tup [.str "last"])) := Same.new hq
  have i3 : upd H3 q (.tup [.str "last"]) q = some (.tup [.str "last"]) := upd_same
  generalize upd H3 q (.tup [.str "last"]) = H4 at t3 i3 ⊢
  have j1 := (t2.tr t3) _ _ i1
  have j2 := t3 _ _ i2
  refine ⟨j1, [((.inr "there is empty" : Key), .ref p), (.inr "own is last", .ref q)], rfl, (show 2 ≤ 15 by decide), ?_⟩
  have hdp : da ≠ p := fun e => by rw [← e, j1] at j2; cases j2
  have hdq : da ≠ q := fun e => by rw [← e, j1] at i3; cases i3
  have em : mergeK [] [((.inr "there is empty" : Key), V.ref p), (.inr "own is last", .ref q)] = [((.inr "there is empty" : Key), V.ref p), (.inr "own is last", .ref q)] := by rfl
  have sA : Same H (upd H4 da (.dK (mergeK [] [((.inr "there is empty" : Key), V.ref p), (.inr "own is last", .ref q)]))) := ((t1.tr t2).tr t3).mut hda
  have iA : upd H4 da (.dK (mergeK [] [((.inr "there is empty" : Key), V.ref p), (.inr "own is last", .ref q)])) da = some (.dK (mergeK [] [((.inr "there is empty" : Key), V.ref p), (.inr "own is last", .ref q)])) := upd_same
  have iP : upd H4 da (.dK (mergeK [] [((.inr "there is empty" : Key), V.ref p), (.inr "own is last", .ref q)])) p = some (.tup [.str "empty"]) := by rw [upd_ne (Ne.symm hdp)]; exact j2
  have iQ : upd H4 da (.dK (mergeK [] [((.inr "there is empty" : Key), V.ref p), (.inr "own is last", .ref q)])) q = some (.tup [.str "last"]) := by rw [upd_ne (Ne.symm hdq)]; exact i3
  generalize upd H4 da (.dK (mergeK [] [((.inr "there is empty" : Key), V.ref p), (.inr "own is last", .ref q)])) = H5 at sA iA iP iQ ⊢
  exact nil_go ⟨text, _, da, pgNames, pgOthers, rfl, htl, T.t_NAMES _, oth_two em iA iP iQ, fun e H' s' => h0 e H' (sA.tr s'), fun p v H' e s' hv => h1 p v H' e (sA.tr s') (by rw [← toD_pds]; exact hv)⟩
end
end K03


set_option Elab.async false
set_option linter.all false
set_option maxRecDepth 100000
set_option maxHeartbeats 4000000
/-! slices of lists of texts -/
namespace L2
open PySem PySem.Spec PyProof.Rows
theorem par3_go {i j l : Nat} {ta : TA} {s : TS} {D : Ends} {z : St} {H : Hp} (h : ta z H fun vs H1 => ∃ u v w, vs = [u, v, w] ∧ s D (((z.set i (some u)).set j (some v)).set l (some w)) H1) : tSeq (tPar3 i j l ta) s D z H := h
theorem set_via {te : TE} {s : TS} {D : Ends} {z : St} {H : Hp} {i : Nat} (R : V → Hp → Prop) (h : ∀ Q : VK, (∀ v H1, R v H1 → Q v H1) → te z H Q) (k : ∀ v H1, R v H1 → s D (z.set i (some v)) H1) : tSeq (tAsg te (gName i)) s D z H := h _ k
theorem cut_from (xs : List V) (n : Nat) : cutV xs (some (n : Int)) none = xs.drop n := by
  have h : HT.sIx xs.length 0 (some (n : Int)) = min n xs.length := HT.sIx_nat _ _ n
  have h2 : HT.sIx xs.length xs.length none = xs.length := rfl
  unfold cutV
  rw [h, h2]
  by_cases hn : n < xs.length
  · rw [Nat.min_eq_left (Nat.le_of_lt hn), List.take_of_length_le (by rw [List.length_drop]; exact Nat.le_refl _)]
  · rw [Nat.min_eq_right (by omega), List.drop_length, List.drop_eq_nil_of_le (by omega)]
    simp
theorem cut_mid (xs : List V) (h : 2 ≤ xs.length) : cutV xs (some 2) (some (-2)) = (xs.drop 2).take (xs.length - 4) := by
  have h1 : HT.sIx xs.length 0 (some 2) = min 2 xs.length := HT.sIx_nat _ _ 2
  have h2 : HT.sIx xs.length xs.length (some (-2)) = xs.length - 2 := by
    show (if (-2 : Int) < 0 then ((-2 : Int) + (xs.length : Int)).toNat else min (-2 : Int).toNat xs.length) = _
    rw [if_pos (by decide)]
    omega
  unfold cutV
  rw [h1, h2, Nat.min_eq_left h, show xs.length - 2 - 2 = xs.length - 4 by omega]
theorem atI_m2 {α : Type} {us : List α} (h : 2 ≤ us.length) : atI us (-2) = us[us.length - 2]? := by
  unfold atI ixN
  rw [if_neg (by decide), if_pos (by omega), show (-2 + (us.length : Int)).toNat = us.length - 2 by omega]
  rfl
theorem cut_take (xs : List V) (n : Nat) : cutV xs none (some (n : Int)) = xs.take n := by
  have h2 : HT.sIx xs.length xs.length (some (n : Int)) = min n xs.length := HT.sIx_nat _ _ n
  unfold cutV
  rw [h2, HT.sIx_none, List.drop_zero, Nat.sub_zero, List.take_eq_take_iff]
  omega
section
variable {K : PySem.W.Frag} {σ : St} {H : Hp} {i : Nat} {wa : Addr} {ws : List Str} {z : Str}
/-- words[:1] == [z] -/
theorem ev_eqTake (hv : σ[i]? = some (some (.ref wa))) (hw : SqL K H wa (ws.map V.str)) (hs : ws.all PyData.strOk = true) (hz : PyData.strOk z = true) :
    EvT (tTest (tOp (rEqD K) (tSl (rSlL K) (tVar i) tNoPart (L2.tPart (tC (.int 1)))) (tLst (tCons (tC (.str z)) tNil)))) σ H (decide (ws.take 1 = [z])) := by
  refine ev_test fun Q k => ⟨_, hv, 1, rfl, wa, _, rfl, hw, fun p hp => ?_⟩
  have s1 : Same H (upd H p (.lst (cutV (ws.map V.str) none (some 1)))) := Same.new hp
  have h1 : upd H p (.lst (cutV (ws.map V.str) none (some 1))) p = some (.lst ((ws.take 1).map V.str)) := by
    rw [upd_same, show cutV (ws.map V.str) none (some 1) = _ from cut_take _ 1, List.map_take]
  generalize upd H p (.lst (cutV (ws.map V.str) none (some 1))) = H1 at s1 h1 ⊢
  refine mk_lst (Q := fun y H2 => rEqD K (.ref p) y H2 Q) (vs := [z].map V.str) (ev_cons ev_C fun _ _ => ev_nil) (fun H2 T s2 _ hT => ?_)
  refine ⟨_, _, .lst (.inl (.inl (s2 _ _ h1))) (dpStrs _), .lst (.inl (.inl hT)) (dpStrs _), shaped_strs (List.all_eq_true.mpr fun x hx => List.all_eq_true.mp hs x (List.mem_of_mem_take hx)), shaped_strs (by rw [List.all_cons, hz]; rfl), ?_⟩
  rw [eqv_strs]
  exact k _ (s1.tr s2)
/-- words[1:] -/
theorem sl_tail {Q : VK} (hv : σ[i]? = some (some (.ref wa))) (hw : SqL K H wa (ws.map V.str)) (k : ∀ q H', Same H H' → H' q = some (.lst ((ws.drop 1).map V.str)) → Q (.ref q) H') : tSl (rSlL K) (tVar i) (L2.tPart (tC (.int 1))) tNoPart σ H Q :=
  ⟨_, hv, 1, rfl, wa, _, rfl, hw, fun p hp => k p _ (Same.new hp) (by rw [upd_same, cut1, List.map_drop])⟩
end
end L2


set_option Elab.async false
set_option linter.all false
set_option maxRecDepth 100000
set_option maxHeartbeats 4000000
namespace Pgr
open PySem Tld
/-- the lines that stand alone -/
inductive Ln
  | no
  | quit
  | pack
  | clear
  | takeE
  | takeN
  | up
  | dn
def Ln.z : Ln → Str
  | .no => "no"
  | .quit => "quit"
  | .pack => "pack"
  | .clear => "clear own"
  | .takeE => "take empty"
  | .takeN => "take next"
  | .up => "slots = slots + 1"
  | .dn => "slots = slots - 1"
def Ln.w : Ln → Str
  | .no => "no"
  | .quit => "quit"
  | .pack => "pack"
  | .clear => "clear"
  | .takeE => "take"
  | .takeN => "take"
  | .up => "slots"
  | .dn => "slots"
def Ln.r : Ln → List PyData
  | .takeE => [.str "empty"]
  | .takeN => [.str "next"]
  | .up => [.int 1]
  | .dn => [.int (-1)]
  | _ => []
def Ln.v : Ln → List L2.V
  | .takeE => [.str "empty"]
  | .takeN => [.str "next"]
  | .up => [.int 1]
  | .dn => [.int (-1)]
  | _ => []
def allLn : List Ln := [.no, .quit, .pack, .clear, .takeE, .takeN, .up, .dn]
/-- what a line tells, but for its number -/
inductive Sh
  | lone (e : Ln)
  | room (goal nm : Str)
  | set (goal : Str) (t : List At) (d : Option Int)
  | field (goal : Str) (t : List At)
  | own (goal : Str) (t : List At)
  | lay (t : List At)
structure PgRow where
  l : Nat
  s : Sh
def oIP : Option Int → PyData
  | none => .none
  | some i => .int i
def Sh.w : Sh → Str
  | .lone e => e.w
  | .room .. => "room"
  | .set .. => "set"
  | .field .. => "field"
  | .own .. => "own"
  | .lay _ => "lay"
def Sh.r : Sh → List PyData
  | .lone e => e.r
  | .room g n => [.str g, .str n]
  | .set g t d => [.str g, .tuple (t.map atD), oIP d]
  | .field g t => [.str g, .tuple (t.map atD)]
  | .own g t => [.str g, .tuple (t.map atD)]
  | .lay t => [.tuple (t.map atD)]
def PgRow.ds (x : PgRow) : List PyData := .str x.s.w :: .int (x.l : Nat) :: x.s.r
def regs : List Str := ["a", "b", "c"]
def flds : List Str := ["low", "holes"]
def owns : List Str := ["own.at", "own.len"]
/-- what behind the divisor is a setting of -/
def setG (goal : Str) (told : List Str) (d : Option Int) : Option Sh :=
  match tSum pgNames told with
  | none => none
  | some t => if goal ∈ regs then some (.set goal t d) else if goal ∈ flds then some (.field goal t)
    else if goal ∈ owns then some (.own (L2.cutS goal (some 4) none) t) else none
def setQ (goal : Str) (told : List Str) : Option Sh :=
  if goal ∈ regs ∧ told.take 1 = [Str.ofString "room"] then
    (if told.drop 1 = [Str.ofString "len"] ∨ told.drop 1 = [Str.ofString "own.len"] then some (.room goal (told.getD 1 "")) else none)
  else if goal ∈ regs ∧ 2 < told.length ∧ told.getD (told.length - 2) "" = "//" then
    (match tNum (told.getLastD "") with
      | none => none
      | some n => if 2 ≤ n ∧ n ≤ 6 then setG goal (told.take (told.length - 2)) (some n) else none)
  else setG goal told none
def setP (ws : List Str) : Option Sh := setQ (ws.getD 0 "") (ws.drop 2)
def shP (text : Str) : Option Sh :=
  match allLn.find? (fun e => decide (e.z = text)) with
  | some e => some (.lone e)
  | none => if (Txt.split text " ").getD 0 "" = "lay" then (tSum pgNames ((Txt.split text " ").drop 1)).map .lay
    else if ((Txt.split text " ").drop 1).take 1 = [Str.ofString "="] then setP (Txt.split text " ") else none
def rowP (text : Str) (l : Nat) : Option PgRow := (shP text).map (⟨l, ·⟩)
end Pgr
namespace K03
open PySem PySem.Spec PyProof.Rows L2 Tld Pgr
section
variable {P : Program} {w : World} {K : PySem.W.Frag} {mg : Str → Option Value} {base : Heap}
def spSetP (K : PySem.W.Frag) : Sp := fun vs H Q _ => ∃ (a : Addr) (ws : List Str) (l : Nat), vs = [.ref a, .int (l : Nat)] ∧ SqL K H a (ws.map V.str) ∧ 2 ≤ ws.length ∧ ws.length ≤ 2000 ∧ (∀ z ∈ ws, z.length ≤ 2000 ∧ PyData.strOk z = true) ∧
  (setP ws = none → ∀ H', Same H H' → Q .non H') ∧ ∀ r v H', setP ws = some r → Same H H' → Dq K H' v (.tuple (PgRow.ds ⟨l, r⟩)) → Q v H'
theorem sl_from {σ : L2.St} {H : Hp} {i : Nat} {wa : Addr} {ws : List Str} {Q : VK} (n : Nat) (hv : σ[i]? = some (some (.ref wa))) (hw : SqL K H wa (ws.map V.str)) (k : ∀ q H', Same H H' → H q = none → H' q = some (.lst ((ws.drop n).map V.str)) → Q (.ref q) H') : tSl (rSlL K) (tVar i) (L2.tPart (tC (.int (n : Int)))) tNoPart σ H Q :=
  ⟨_, hv, n, rfl, wa, _, rfl, hw, fun p hp => k p _ (Same.new hp) hp (by rw [upd_same, show cutV (ws.map V.str) (some (n : Int)) none = _ from cut_from _ n, List.map_drop])⟩
theorem getD_mem {ws : List Str} {i : Nat} (h : i < ws.length) : ws.getD i "" ∈ ws := by
  rw [List.getD_eq_getElem?_getD, List.getElem?_eq_getElem h]
  exact List.getElem_mem h
theorem cut_upto (xs : List V) (n : Nat) (h : 0 < n) : cutV xs none (some (-(n : Int))) = xs.take (xs.length - n) := by
  have h2 : HT.sIx xs.length xs.length (some (-(n : Int))) = xs.length - n := by
    show (if (-(n : Int)) < 0 then ((-(n : Int)) + (xs.length : Int)).toNat else min (-(n : Int)).toNat xs.length) = _
    rw [if_pos (by omega)]
    omega
  unfold cutV
  rw [h2, HT.sIx_none, List.drop_zero, Nat.sub_zero]
theorem sl_upto {σ : L2.St} {H : Hp} {i : Nat} {wa : Addr} {ws : List Str} {Q : VK} (n : Nat) (hv : σ[i]? = some (some (.ref wa))) (hw : SqL K H wa (ws.map V.str)) (hn : 0 < n) (k : ∀ q H', Same H H' → H q = none → H' q = some (.lst ((ws.take (ws.length - n)).map V.str)) → Q (.ref q) H') : tSl (rSlL K) (tVar i) tNoPart (L2.tPart (tUn (rU fun i => V.int (-i)) (tC (.int (n : Int))))) σ H Q :=
  ⟨_, hv, n, rfl, -(n : Int), rfl, wa, _, rfl, hw, fun p hp => k p _ (Same.new hp) hp (by rw [upd_same, show cutV (ws.map V.str) none (some (-(n : Int))) = _ from cut_upto _ n hn, List.length_map, List.map_take])⟩
theorem last_map {ws : List Str} (h : ws ≠ []) : (ws.map V.str).getLast? = some (.str (ws.getLastD "")) := by
  rw [List.getLast?_map, List.getLast?_eq_some_getLast h]
  cases ws with
  | nil => exact absurd rfl h
  | cons x r => rw [List.getLastD_cons, Option.map_some, List.getLast_eq_getLastD]
theorem getLastD_mem {ws : List Str} (h : ws ≠ []) : ws.getLastD "" ∈ ws := by
  cases ws with
  | nil => exact absurd rfl h
  | cons x r =>
    have e : (x :: r).getLastD "" = (x :: r).getLast h := by rw [List.getLastD_cons, List.getLast_eq_getLastD]
    rw [e]
    exact List.getLast_mem h
theorem atI_m1 {α : Type} {us : List α} {u : α} (h : us.getLast? = some u) : atI us (-1) = some u := by
  obtain ⟨hne, rfl⟩ := List.getLast?_eq_some_iff.mp h
  exact atI_last _ _
theorem ats_dq {H : Hp} : ∀ {vs : List V} {qs : List At}, AtsR H vs qs → DqAll K H vs (qs.map atD)
  | _, _, .nil => .nil
  | _, _, .cons h hs => by
    obtain ⟨p, e, hp⟩ := h
    subst e
    exact .cons (.tup (.inl hp) (.cons (.int _) (.cons (oS_dq _) .nil))) (ats_dq hs)
theorem ok_page_setting (T : Tx P w K mg) : FnX P w K mg base CX0 4 "page_setting" ["words", "line"] [] (spSetP K) := by
  have F_told_number := ok_told_number (P := P) (w := w) (base := base) T
  have F_told_sum := ok_told_sum (P := P) (w := w) (base := base) T
  refine T.d_page_setting.ok0 sc_page_setting (fun _ _ _ _ _ _ us hl => match us, hl with | [_, _], _ => rfl) (fun vs H Q E h => ?_) (fun f cdv A outer s H vs Q E hr h => have hu := hu_of hr; ⟨_, (by exact (pss_cons (ps_par3 (i := 2) (j := 3) (l := 4) (by rfl) sc_page_setting.nd rfl rfl rfl (by decide) (by decide) (by decide) rfl rfl rfl (pa_cons (pe_ix ix_list (pv 0) pe_int (fun _ _ => rfl)) (pa_cons (pe_slice sl_list (pv 0) (po_some pe_int) po_none) (pa_cons pe_non pa_nil))) (by rfl))
      (pss_cons (ps_if (PW.pt (pw_and (pt_cmpR op_in_seq (pv 2) (pe_gref T.g_REGISTERS) (by rfl)) (pw_and1 (pt_cmpR (op_eqD hr.units) (pe_slice sl_list (pv 3) po_none (po_some pe_int)) (pe_lst (pa_cons pe_str pa_nil)) (nomark _))))) (pss_one (ps_ret (pe_ifExp (pt_cmpR (op_inT hr.u65) (pe_slice sl_list (pv 3) (po_some pe_int) po_none) (pe_tup (pa_cons (pe_lst (pa_cons pe_str pa_nil)) (pa_cons (pe_lst (pa_cons pe_str pa_nil)) pa_nil))) (by rfl)) (pe_tup (pa_cons pe_str (pa_cons (pv 1) (pa_cons (pv 2) (pa_cons (pe_ix ix_list (pv 3) pe_int (fun _ _ => rfl)) pa_nil))))) pe_non))) pss_nil)
      (pss_cons (ps_if (PW.pt (pw_and (pt_cmpR op_in_seq (pv 2) (pe_gref T.g_REGISTERS) (by rfl)) (pw_and (pt_cmpR op_gt (pe_callB call_len_seq (by rfl) T.b_len (by decide +kernel) (pa_cons (pv 3) pa_nil)) pe_int (nomark _)) (pw_and1 (pt_cmpR op_eq (pe_ix ix_list (pv 3) (pe_un un_neg pe_int) (fun _ _ => rfl)) pe_str (nomark _)))))) (pss_cons (ps_set (i := 4) sc_page_setting.nd rfl (Or.inl rfl) (pe_callX F_told_number (hr.mono (by first | decide | omega)) pass0 (pa_cons (pe_ix ix_list (pv 3) (pe_un un_neg pe_int) (fun _ _ => rfl)) pa_nil)))
      (pss_cons (ps_if (PW.pt (pw_or (pt_cmpR op_isN (pv 4) pe_non (nomark _)) (pw_or1 (pt_not (pt_chain op_le op_le pe_int (pv 4) pe_int))))) (pss_one (ps_ret pe_non)) pss_nil)
      (pss_one (ps_set (i := 3) sc_page_setting.nd rfl (Or.inl rfl) (pe_slice sl_list (pv 3) po_none (po_some (pe_un un_neg pe_int))))))) pss_nil)
      (pss_cons (ps_set (i := 5) sc_page_setting.nd rfl (Or.inl rfl) (pe_callX F_told_sum (hr.mono (by first | decide | omega)) pass0 (pa_cons (pv 3) (pa_cons (pe_gref T.g_NAMES) pa_nil))))
      (pss_cons (ps_if (pt_cmpR op_isN (pv 5) pe_non (nomark _)) (pss_one (ps_ret pe_non)) pss_nil)
      (pss_cons (ps_if (pt_cmpR op_in_seq (pv 2) (pe_gref T.g_REGISTERS) (by rfl)) (pss_one (ps_ret (pe_tup (pa_cons pe_str (pa_cons (pv 1) (pa_cons (pv 2) (pa_cons (pv 5) (pa_cons (pv 4) pa_nil)))))))) pss_nil)
      (pss_cons (ps_if (pt_cmpR op_in_seq (pv 2) (pe_tup (pa_cons pe_str (pa_cons pe_str pa_nil))) (by rfl)) (pss_one (ps_ret (pe_tup (pa_cons pe_str (pa_cons (pv 1) (pa_cons (pv 2) (pa_cons (pv 5) pa_nil))))))) pss_nil)
      (pss_one (ps_ret (pe_ifExp (pt_cmpR op_in_seq (pv 2) (pe_tup (pa_cons pe_str (pa_cons pe_str pa_nil))) (by rfl)) (pe_tup (pa_cons pe_str (pa_cons (pv 1) (pa_cons (pe_slice sl_str (pv 2) (po_some pe_int) po_none) (pa_cons (pv 5) pa_nil))))) pe_non))))))))))), ?_⟩)
  · obtain ⟨a, ws, l, rfl, _⟩ := h
    rfl
  obtain ⟨a, ws, l, rfl, ha, h2, hn, hwz, h0, h1⟩ := h
  have q9 : sizeLine = 16777216 := sizeLine_eq
  have hz2 : ∀ z ∈ ws.drop 2, z.length ≤ 2000 ∧ PyData.strOk z = true := fun z hz => hwz z (List.mem_of_mem_drop hz)
  have hn2 : (ws.drop 2).length ≤ 2000 := by rw [List.length_drop]; omega
  have hgl : (ws.getD 0 "").length ≤ 2000 := (hwz _ (getD_mem (by omega))).1
  refine par3_go (cons_go (ev_word (i := 0) (ev_var rfl) ha (by omega) _ fun H1 s1 => cons_go (sl_from (i := 0) 2 rfl (s1.sql ha) fun q H2 s2 hq0 hq => cons_go (c_go (nil_go ⟨_, _, _, rfl, ?_⟩)))))
  have s02 := s1.tr s2
  have eP : setP ws = setQ (ws.getD 0 "") (ws.drop 2) := rfl
  rw [eP] at h0 h1
  generalize ws.drop 2 = told at *
  generalize ws.getD 0 "" = goal at *
  let S : Addr → Option Int → L2.St := fun q d => [some (.ref a), some (.int (l : Nat)), some (.str goal), some (.ref q), some (Tld.oI d), none]
  have hot : told.all PyData.strOk = true := List.all_eq_true.mpr fun z hz => (hz2 z hz).2
  have treg : ∀ {H' : Hp} {q : Addr} {d : Option Int}, EvT (tTest (tOp (rIn K false) (tVar 2) (tC (V.ref (He.ga K "REGISTERS"))))) (S q d) H' (decide (goal ∈ regs)) := ev_test (ev_in (ev_var rfl) (in_top (ns := regs) fun H => T.t_REGISTERS H))
  have W : ∀ {H' : Hp} {i : Nat}, Same H2 H' → i < told.length → EvE (tOp (rIxL K) (tVar 3) (tC (.int (i : Int)))) (S q none) H' (.str (told.getD i "")) := fun s h => ev_word (ev_var rfl) (.inl (.inl (s _ _ hq))) h
  refine seq_if (σ := S q none) (ev_and treg fun _ H3 s3 => ev_eqTake (ws := told) (z := "room") rfl (.inl (.inl (s3 _ _ hq))) hot (by decide +kernel)) (fun g H3 s3 => ?_) (fun g H3 s3 => ?_)
  · rw [Bool.and_eq_true] at g
    have g1 := of_decide_eq_true g.1
    have g2 := of_decide_eq_true g.2
    have e : setQ goal told = if told.drop 1 = [Str.ofString "len"] ∨ told.drop 1 = [Str.ofString "own.len"] then some (.room goal (told.getD 1 "")) else none := if_pos ⟨g1, g2⟩
    have s03 := s02.tr s3
    refine ret_go ?_
    refine sl_from (i := 3) 1 rfl (.inl (.inl (s3 _ _ hq))) fun q1 H4 s4 _ hq1 => ?_
    have ho1 : (told.drop 1).all PyData.strOk = true := List.all_eq_true.mpr fun z hz => (hz2 z (List.mem_of_mem_drop hz)).2
    refine ev_inL2 (a := tC (.ref q1)) (σ := S q none) (zs := [Str.ofString "len"]) (z2 := [Str.ofString "own.len"]) ev_C (.inl (.inl hq1)) ho1 (fun _ => ev_cons ev_C fun _ _ => ev_nil) (fun _ => ev_cons ev_C fun _ _ => ev_nil) (by decide +kernel) (by decide +kernel) rfl rfl _ fun H5 s5 => iteB (fun g3 => ?_) (fun g3 => ?_)
    · rw [Bool.or_eq_true] at g3
      have g4 : told.drop 1 = [Str.ofString "len"] ∨ told.drop 1 = [Str.ofString "own.len"] := g3.imp of_decide_eq_true of_decide_eq_true
      rw [if_pos g4] at e
      have hl1 : 1 < told.length := by
        have : 0 < (told.drop 1).length := by rcases g4 with g4 | g4 <;> rw [g4] <;> exact Nat.zero_lt_one
        rw [List.length_drop] at this
        omega
      refine tup_go (cons_go (c_go (cons_go (var_go rfl (cons_go (var_go rfl (cons_go (W (i := 1) (s3.tr (s4.tr s5)) hl1 _ fun H6 s6 => nil_go ⟨szL rfl, fun p hp => ?_⟩))))))))
      exact h1 _ _ _ e ((s03.tr ((s4.tr s5).tr s6)).tr (Same.new hp)) (.tup (.inl upd_same) (.cons (.str _) (.cons (.int _) (.cons (.str _) (.cons (.str _) .nil)))))
    · rw [Bool.or_eq_false_iff] at g3
      rw [if_neg (fun z => z.elim (of_decide_eq_false g3.1) (of_decide_eq_false g3.2))] at e
      exact c_go (h0 e H5 (s03.tr (s4.tr s5)))
  have s03 := s02.tr s3
  have e1 : setQ goal told = if goal ∈ regs ∧ 2 < told.length ∧ told.getD (told.length - 2) "" = "//" then
    (match tNum (told.getLastD "") with
      | none => none
      | some n => if 2 ≤ n ∧ n ≤ 6 then setG goal (told.take (told.length - 2)) (some n) else none)
    else setG goal told none := if_neg (fun ⟨z1, z2⟩ => by rw [decide_eq_true z1, decide_eq_true z2] at g; cases g)
  have hq3 := s3 _ _ hq
  have tl : ∀ {H4}, Same H3 H4 → EvE (tCB (fun xs H Q => ∃ p ys, xs = [V.ref p] ∧ (SqL K H p ys ∨ SqT K H p ys) ∧ Q (.int (ys.length : Nat)) H) (tCons (tVar 3) tNil)) (S q none) H4 (.int (told.length : Nat)) := fun s4 => by
    have := ev_len (K := K) (σ := S q none) (ev_cons (ev_var (i := 3) rfl) fun _ _ => ev_nil) (.inl (.inl (.inl (s4 _ _ hq3))))
    rw [List.length_map] at this
    exact this
  refine seq_ifQ (fun z1 H' => ∃ (q' : Addr) (td : List Str) (d : Option Int), z1 = S q' d ∧ Same H H' ∧ H' q' = some (.lst (td.map V.str)) ∧ (∀ z ∈ td, z.length ≤ 2000) ∧ setQ goal told = setG goal td d) (fun KR => ?_) ?_
  · have tA : EvT (tAnd (tTest (tOp (rIn K false) (tVar 2) (tC (V.ref (He.ga K "REGISTERS"))))) (tAnd (tTest (tOp (rI0 fun i j => V.bl (decide (j < i))) (tCB (fun xs H Q => ∃ p ys, xs = [V.ref p] ∧ (SqL K H p ys ∨ SqT K H p ys) ∧ Q (.int (ys.length : Nat)) H) (tCons (tVar 3) tNil)) (tC (V.int 2)))) (tTest (tOp rEq (tOp (rIxL K) (tVar 3) (tUn (rU fun i => V.int (-i)) (tC (V.int 2)))) (tC (V.str "//")))))) (S q none) H3 (decide (goal ∈ regs) && (decide (2 < told.length) && decide (told.getD (told.length - 2) "" = "//"))) := by
      refine ev_and treg fun _ H4 s4 => ev_and ?_ fun g5 H5 s5 => eq_str (ev_ixL (ev_var rfl) (fun _ _ => ev_m1) (.inl (.inl (s5 _ _ (s4 _ _ hq3)))) ?_) fun _ _ => ev_C
      · have := ev_test (σ := S q none) (H := H4) (ev_op (r := rI0 fun i j => V.bl (decide (j < i))) (v := .bl (decide ((2 : Int) < (told.length : Nat)))) (tl s4) (fun _ _ => ev_C) fun _ _ Q q => ⟨_, _, rfl, rfl, q⟩)
        rw [show decide ((2 : Int) < (told.length : Nat)) = decide (2 < told.length) from decide_eq_decide.mpr (by omega)] at this
        exact this
      · have g5 := of_decide_eq_true g5
        rw [atI_m2 (by rw [List.length_map]; omega), List.length_map, List.getElem?_map, List.getD_eq_getElem?_getD, List.getElem?_eq_getElem (show told.length - 2 < told.length by omega)]
        rfl
    refine tA _ fun H4 s4 => iteB (fun g4 => ?_) (fun g4 => ?_)
    · rw [Bool.and_eq_true, Bool.and_eq_true] at g4
      have gl := of_decide_eq_true g4.2.1
      have s04 := s03.tr s4
      have hq4 := s4 _ _ hq3
      rw [if_pos ⟨of_decide_eq_true g4.1, gl, of_decide_eq_true g4.2.2⟩] at e1
      have hne : told ≠ [] := fun e => by rw [e] at gl; cases gl
      refine set_te (call_go (cons_go (ev_ixL (ev_var rfl) (fun _ _ => ev_m1) (.inl (.inl hq4)) (atI_m1 (last_map hne)) _ fun H5 s5 => nil_go ⟨_, rfl, Nat.le_trans (hz2 _ (getLastD_mem hne)).1 (by decide), ?_⟩)))
      have s05 := s04.tr s5
      have hq5 := s5 _ _ hq4
      cases en : tNum (told.getLastD "") with
      | none =>
        rw [en] at e1
        exact seq_if (σ := S q none) (b1 := true) (ev_or (b1 := true) (b2 := true) (isN_t (ev_var rfl)) fun z => by cases z) (fun _ H6 s6 => ret_go (c_go (h0 e1 H6 (s05.tr s6)))) (fun z => by cases z)
      | some n =>
        rw [en] at e1
        refine seq_if (σ := S q (some n)) (b1 := !(decide (2 ≤ n) && decide (n ≤ 6))) (ev_or (b1 := false) (isN_f (ev_var rfl) (fun z => by cases z)) fun _ H6 s6 => ev_not (ev_test (ev_chain fun _ _ => ev_var rfl))) (fun g5 H6 s6 => ?_) (fun g5 H6 s6 => ?_)
        · refine ret_go (c_go (h0 (e1.trans (if_neg fun ⟨z1, z2⟩ => ?_)) H6 (s05.tr s6)))
          rw [decide_eq_true z1, decide_eq_true z2] at g5
          cases g5
        · have g6 : (decide (2 ≤ n) && decide (n ≤ 6)) = true := by simpa using g5
          rw [Bool.and_eq_true] at g6
          have e2 := e1.trans (if_pos ⟨of_decide_eq_true g6.1, of_decide_eq_true g6.2⟩)
          refine asg_go0 ?_
          refine sl_upto (i := 3) 2 rfl (.inl (.inl (s6 _ _ hq5))) (by omega) fun q2 H7 s7 hq20 hq2 => ?_
          exact KR _ _ ⟨q2, _, some n, rfl, s05.tr (s6.tr s7), hq2, fun z hz => (hz2 z (List.mem_of_mem_take hz)).1, e2⟩
    · refine KR _ _ ⟨q, told, none, rfl, s03.tr s4, s4 _ _ hq3, fun z hz => (hz2 z hz).1, e1.trans (if_neg fun ⟨z1, z2, z3⟩ => ?_)⟩
      rw [decide_eq_true z1, decide_eq_true z2, decide_eq_true z3] at g4
      cases g4
  · rintro _ H' ⟨q', td, d, rfl, s', hq', htl, e⟩
    have htl' : ∀ z ∈ td, z.length ≤ 1000000 := fun z hz => Nat.le_trans (htl z hz) (by decide)
    rw [e] at h0 h1
    refine set_te (call_go (cons_go (var_go rfl (cons_go (c_go (nil_go ⟨q', _, td, pgNames, rfl, .inl (.inl hq'), T.t_NAMES _, htl', fun en H4 s4 => ?_, fun qs vs p H4 es s4 hp hvs _ => ?_⟩))))))
    · have en' : setG goal td d = none := by unfold setG; rw [en]
      refine seq_if (σ := [some (.ref a), some (.int (l : Nat)), some (.str goal), some (.ref q'), some (Tld.oI d), some .non]) (b1 := true) (isN_t (ev_var rfl)) (fun _ H5 s5 => ?_) (fun z => by cases z)
      exact ret_go (c_go (h0 en' H5 ((s'.tr s4).tr s5)))
    · have es' : setG goal td d = if goal ∈ regs then some (.set goal qs d) else if goal ∈ flds then some (.field goal qs) else if goal ∈ owns then some (.own (L2.cutS goal (some 4) none) qs) else none := by unfold setG; rw [es]
      rw [es'] at h0 h1
      let S5 : L2.St := [some (.ref a), some (.int (l : Nat)), some (.str goal), some (.ref q'), some (Tld.oI d), some (.ref p)]
      have s04 := s'.tr s4
      have dp : ∀ {H5}, Same H4 H5 → Dq K H5 (.ref p) (.tuple (qs.map atD)) := fun s5 => .tup (.inl (s5 _ _ hp)) ((ats_dq hvs).up s5.tl)
      have dd : ∀ {H5}, Dq K H5 (Tld.oI d) (oIP d) := fun {H5} => by cases d <;> first | exact .non | exact .int _
      refine seq_if (σ := S5) (b1 := false) (isN_f (ev_var rfl) (fun z => by cases z)) (fun z => by cases z) (fun _ H5 s5 => ?_)
      have s05 := s04.tr s5
      refine seq_if (σ := S5) (ev_test (ev_in (ev_var rfl) (in_top (ns := regs) fun H => T.t_REGISTERS H))) (fun g6 H6 s6 => ?_) (fun g6 H6 s6 => ?_)
      · refine ret_go (mk_tup (ev_cons ev_C fun _ _ => ev_cons (ev_var rfl) fun _ _ => ev_cons (ev_var rfl) fun _ _ => ev_cons (ev_var rfl) fun _ _ => ev_cons (ev_var rfl) fun _ _ => ev_nil) fun Ht t st _ ht => ?_)
        exact h1 _ _ _ (if_pos (of_decide_eq_true g6)) ((s05.tr s6).tr st) (.tup (.inl ht) (.cons (.str _) (.cons (.int _) (.cons (.str _) (.cons (dp ((s5.tr s6).tr st)) (.cons dd .nil))))))
      rw [if_neg (of_decide_eq_false g6)] at h0 h1
      have s06 := s05.tr s6
      refine seq_if (σ := S5) (ev_test (ev_in (ev_var rfl) (in_tup (ns := flds) fun _ => ev_cons ev_C fun _ _ => ev_cons ev_C fun _ _ => ev_nil))) (fun g7 H7 s7 => ?_) (fun g7 H7 s7 => ?_)
      · refine ret_go (mk_tup (ev_cons ev_C fun _ _ => ev_cons (ev_var rfl) fun _ _ => ev_cons (ev_var rfl) fun _ _ => ev_cons (ev_var rfl) fun _ _ => ev_nil) fun Ht t st _ ht => ?_)
        exact h1 _ _ _ (if_pos (of_decide_eq_true g7)) ((s06.tr s7).tr st) (.tup (.inl ht) (.cons (.str _) (.cons (.int _) (.cons (.str _) (.cons (dp (((s5.tr s6).tr s7).tr st)) .nil)))))
      rw [if_neg (of_decide_eq_false g7)] at h0 h1
      have s07 := s06.tr s7
      refine ret_go (ev_test (ev_in (σ := S5) (ev_var rfl) (in_tup (ns := owns) fun _ => ev_cons ev_C fun _ _ => ev_cons ev_C fun _ _ => ev_nil)) _ fun H8 s8 => iteB (fun g8 => ?_) (fun g8 => ?_))
      · refine mk_tup (σ := S5) (ev_cons ev_C fun _ _ => ev_cons (ev_var rfl) fun _ _ => ev_cons (ev_cutB (ev_var rfl) (by omega)) fun _ _ => ev_cons (ev_var rfl) fun _ _ => ev_nil) fun Ht t st _ ht => ?_
        exact h1 _ _ _ (if_pos (of_decide_eq_true g8)) ((s07.tr s8).tr st) (.tup (.inl ht) (.cons (.str _) (.cons (.int _) (.cons (.str _) (.cons (dp ((((s5.tr s6).tr s7).tr s8).tr st)) .nil)))))
      · exact c_go (h0 (if_neg (of_decide_eq_false g8)) H8 (s07.tr s8))
end
end K03


set_option Elab.async false
set_option linter.all false
set_option maxRecDepth 100000
set_option maxHeartbeats 4000000
/-! the words of a text: their number, their signs -/
namespace L2
open PySem PySem.Spec PyProof.Rows
theorem sp_so {z : Str} : PyData.strOk z = true ↔ ∀ c ∈ TL.tl z, c < 0x110000 := by
  show z.cps.all (· < 0x110000) = true ↔ _
  rw [Array.all_eq_true']
  exact ⟨fun h c hc => of_decide_eq_true (h c (Array.mem_toList_iff.mp hc)), fun h c hc => decide_eq_true (h c (Array.mem_toList_iff.mpr hc))⟩
theorem joinL_mem (s : List Nat) : ∀ (l : List (List Nat)) (z : List Nat), z ∈ l → ∀ c ∈ z, c ∈ TL.joinL s l := by
  intro l
  induction l with
  | nil => intro z hz; cases hz
  | cons a r ih =>
    intro z hz c hc
    cases r with
    | nil =>
      rcases List.mem_cons.mp hz with q | q
      · subst q; exact hc
      · cases q
    | cons b r =>
      show c ∈ a ++ (s ++ TL.joinL s (b :: r))
      rcases List.mem_cons.mp hz with q | q
      · subst q; exact List.mem_append.mpr (.inl hc)
      · exact List.mem_append.mpr (.inr (List.mem_append.mpr (.inr (ih z q c hc))))
theorem joinL_count (s : List Nat) (hs : 1 ≤ s.length) : ∀ (l : List (List Nat)), l.length ≤ (TL.joinL s l).length + 1
  | [] => Nat.zero_le _
  | [a] => by simp
  | a :: b :: r => by
    have ih := joinL_count s hs (b :: r)
    show (b :: r).length + 1 ≤ (a ++ (s ++ TL.joinL s (b :: r))).length + 1
    rw [List.length_append, List.length_append]
    omega
theorem split_so {x y : Str} (h : PyData.strOk x = true) : ∀ z ∈ Txt.split x y, PyData.strOk z = true := fun z hz => sp_so.mpr fun c hc => by
  have e := StrLaws.join_split x y
  have k := joinL_mem (TL.tl y) _ _ (List.mem_map_of_mem (f := TL.tl) hz) c hc
  rw [← TL.tl_join, e] at k
  exact sp_so.mp h c k
theorem split_count (x : Str) {y : Str} (hy : 1 ≤ y.length) : (Txt.split x y).length ≤ x.length + 1 := by
  have e := StrLaws.join_split x y
  have k := joinL_count (TL.tl y) (by rw [← TL.len_tl]; exact hy) ((Txt.split x y).map TL.tl)
  rw [← TL.tl_join, e, List.length_map, ← TL.len_tl] at k
  exact k
end L2


set_option Elab.async false
set_option linter.all false
set_option maxRecDepth 100000
set_option maxHeartbeats 4000000
namespace K03
open PySem PySem.Spec PyProof.Rows L2 Tld Pgr
section
variable {P : Program} {w : World} {K : PySem.W.Frag} {mg : Str → Option Value} {base : Heap}
theorem lone_none {text : Str} (h : allLn.find? (fun e => decide (e.z = text)) = none) : ∀ e : Ln, e.z ≠ text := fun e he => by
  have := List.find?_eq_none.mp h e (by cases e <;> simp [allLn])
  simp [he] at this
theorem lone_some {text : Str} {e : Ln} (h : allLn.find? (fun e => decide (e.z = text)) = some e) : e.z = text := by
  have := List.find?_some h
  simpa using this
theorem lone_at (T : Tx P w K mg) (e : Ln) : ∃ a, KDct K w (He.ga K "LONE") e.z (.ref a) ∧ ∀ H, SqT K H a (.str e.w :: e.v) := by
  cases e
  · exact T.k_LONE_no
  · exact T.k_LONE_quit
  · exact T.k_LONE_pack
  · exact T.k_LONE_clearx20own
  · exact T.k_LONE_takex20empty
  · exact T.k_LONE_takex20next
  · exact T.k_LONE_slotsx20x3dx20slotsx20x2bx201
  · exact T.k_LONE_slotsx20x3dx20slotsx20x2dx201
theorem lone_in (T : Tx P w K mg) (text : Str) : ∃ r, PySem.W.nsIn K (He.ga K "LONE") text = some r ∧ r.isSome = (allLn.find? (fun e => decide (e.z = text))).isSome := by
  cases h : allLn.find? (fun e => decide (e.z = text)) with
  | none =>
    refine ⟨none, T.kn_LONE text fun hm => ?_, rfl⟩
    simp only [List.mem_cons, List.not_mem_nil, or_false] at hm
    have hn := lone_none h
    rcases hm with e | e | e | e | e | e | e | e
    · exact hn .no e.symm
    · exact hn .quit e.symm
    · exact hn .pack e.symm
    · exact hn .clear e.symm
    · exact hn .takeE e.symm
    · exact hn .takeN e.symm
    · exact hn .up e.symm
    · exact hn .dn e.symm
  | some e =>
    obtain ⟨a, ⟨es, n, u, _, _, hn, _⟩, _⟩ := lone_at T e
    rw [lone_some h] at hn
    exact ⟨some u, hn, rfl⟩
theorem split_facts (text : Str) (h : PyData.strOk text = true) : Txt.split text " " ≠ [] ∧ (∀ z ∈ Txt.split text " ", z.length ≤ text.length ∧ PyData.strOk z = true) ∧ (Txt.split text " ").length ≤ text.length + 1 :=
  ⟨fun e => by
    have h := fact_split text " "
    rw [e] at h
    exact absurd h.1 (by decide), fun z hz => ⟨split_len _ _ z hz, split_so h z hz⟩, split_count text (by decide +kernel)⟩
theorem cut_12 (xs : List V) : cutV xs (some 1) (some 2) = (xs.drop 1).take 1 := by
  have h1 : HT.sIx xs.length 0 (some 1) = min 1 xs.length := HT.sIx_nat _ _ 1
  have h2 : HT.sIx xs.length xs.length (some 2) = min 2 xs.length := HT.sIx_nat _ _ 2
  unfold cutV
  rw [h1, h2]
  match xs with
  | [] => rfl
  | [a] => rfl
  | a :: b :: r =>
    have e1 : min 1 (a :: b :: r).length = 1 := by simp
    have e2 : min 2 (a :: b :: r).length = 2 := by simp
    rw [e1, e2]
/-- words[1:2] == [z] -/
theorem ev_eq12 {σ : L2.St} {H : Hp} {i : Nat} {wa : Addr} {ws : List Str} {z : Str} (hv : σ[i]? = some (some (.ref wa))) (hw : SqL K H wa (ws.map V.str)) (hs : ws.all PyData.strOk = true) (hz : PyData.strOk z = true) :
    EvT (tTest (tOp (rEqD K) (tSl (rSlL K) (tVar i) (L2.tPart (tC (.int 1))) (L2.tPart (tC (.int 2)))) (tLst (tCons (tC (.str z)) tNil)))) σ H (decide ((ws.drop 1).take 1 = [z])) := by
  refine ev_test fun Q k => ⟨_, hv, 1, rfl, 2, rfl, wa, _, rfl, hw, fun p hp => ?_⟩
  have s1 : Same H (upd H p (.lst (cutV (ws.map V.str) (some 1) (some 2)))) := Same.new hp
  have h1 : upd H p (.lst (cutV (ws.map V.str) (some 1) (some 2))) p = some (.lst (((ws.drop 1).take 1).map V.str)) := by
    rw [upd_same, cut_12, List.map_take, List.map_drop]
  generalize upd H p (.lst (cutV (ws.map V.str) (some 1) (some 2))) = H1 at s1 h1 ⊢
  refine mk_lst (Q := fun y H2 => rEqD K (.ref p) y H2 Q) (vs := [z].map V.str) (ev_cons ev_C fun _ _ => ev_nil) (fun H2 T s2 _ hT => ?_)
  refine ⟨_, _, .lst (.inl (.inl (s2 _ _ h1))) (dpStrs _), .lst (.inl (.inl hT)) (dpStrs _), shaped_strs (List.all_eq_true.mpr fun x hx => List.all_eq_true.mp hs x (List.mem_of_mem_drop (List.mem_of_mem_take hx))), shaped_strs (by rw [List.all_cons, hz]; rfl), ?_⟩
  rw [eqv_strs]
  exact k _ (s1.tr s2)
def spPgRow (K : PySem.W.Frag) : Sp := fun vs H Q _ => ∃ (text : Str) (l : Nat), vs = [.str text, .int (l : Nat)] ∧ text.length ≤ 1000 ∧ PyData.strOk text = true ∧
  (rowP text l = none → ∀ H', Same H H' → Q .non H') ∧ ∀ r v H', rowP text l = some r → Same H H' → Dq K H' v (.tuple r.ds) → Q v H'
theorem ok_page_row (T : Tx P w K mg) : FnX P w K mg base CX0 5 "page_row" ["text", "line"] [] (spPgRow K) := by
  have F_told_sum := ok_told_sum (P := P) (w := w) (base := base) T
  have F_page_setting := ok_page_setting (P := P) (w := w) (base := base) T
  obtain ⟨es, nn, hD⟩ := T.kd_LONE
  refine T.d_page_row.ok0 sc_page_row (fun _ _ _ _ _ _ us hl => match us, hl with | [_, _], _ => rfl) (fun vs H Q E h => ?_) (fun f cdv A outer s H vs Q E hr h => have hu := hu_of hr; ⟨_, (by exact (pss_cons (ps_set (i := 2) sc_page_row.nd rfl (Or.inl rfl) (pe_split (pv 0) pe_str))
      (pss_cons (ps_if (pt_cmpR (op_in_kd hD) (pv 0) (pe_gref T.g_LONE) (by rfl)) (pss_one (ps_ret (pe_tup (pa_cons (pe_ix ix_tup (pe_ix ix_kdict (pe_gref T.g_LONE) (pv 0) (fun _ _ => rfl)) pe_int (fun _ _ => rfl)) (pa_cons (pv 1) (StX.pa_star (pe_slice sl_tup (pe_ix ix_kdict (pe_gref T.g_LONE) (pv 0) (fun _ _ => rfl)) (po_some pe_int) po_none) pa_nil)))))) pss_nil)
      (pss_cons (ps_if (pt_cmpR op_eq (pe_ix ix_list (pv 2) pe_int (fun _ _ => rfl)) pe_str (nomark _)) (pss_cons (ps_set (i := 3) sc_page_row.nd rfl (Or.inl rfl) (pe_callX F_told_sum (hr.mono (by first | decide | omega)) pass0 (pa_cons (pe_slice sl_list (pv 2) (po_some pe_int) po_none) (pa_cons (pe_gref T.g_NAMES) pa_nil))))
      (pss_one (ps_ret (pe_ifExp (pt_cmpR op_notN (pv 3) pe_non (nomark _)) (pe_tup (pa_cons pe_str (pa_cons (pv 1) (pa_cons (pv 3) pa_nil)))) pe_non)))) pss_nil)
      (pss_one (ps_ret (pe_ifExp (pt_cmpR (op_eqD hr.units) (pe_slice sl_list (pv 2) (po_some pe_int) (po_some pe_int)) (pe_lst (pa_cons pe_str pa_nil)) (nomark _)) (pe_callX F_page_setting (hr.mono (by first | decide | omega)) pass0 (pa_cons (pv 2) (pa_cons (pv 1) pa_nil))) pe_non))))))), ?_⟩)
  · obtain ⟨text, l, rfl, _⟩ := h
    rfl
  obtain ⟨text, l, rfl, htl, hto, h0, h1⟩ := h
  have q9 : sizeLine = 16777216 := sizeLine_eq
  refine set_te (do_split (ev_var rfl) (by decide +kernel) (by omega) (fun H1 wa s1 _ hwa => ?_))
  have hw0 := split_facts text hto
  have eP : shP text = match allLn.find? (fun e => decide (e.z = text)) with
  | some e => some (.lone e)
  | none => if (Txt.split text " ").getD 0 "" = "lay" then (tSum pgNames ((Txt.split text " ").drop 1)).map .lay
    else if ((Txt.split text " ").drop 1).take 1 = [Str.ofString "="] then setP (Txt.split text " ") else none := rfl
  have hr0 : shP text = none → ∀ H', Same H H' → Q .non H' := fun e => h0 (by unfold rowP; rw [e]; rfl)
  have hr1 : ∀ r v H', shP text = some r → Same H H' → Dq K H' v (.tuple (PgRow.ds ⟨l, r⟩)) → Q v H' := fun r v H' e => h1 ⟨l, r⟩ v H' (by unfold rowP; rw [e]; rfl)
  clear h0 h1
  generalize Txt.split text " " = ws at hwa hw0 eP
  obtain ⟨hnw, hwz, hwn⟩ := hw0
  let S : L2.St := [some (.str text), some (.int (l : Nat)), some (.ref wa), none]
  refine seq_if (σ := S) (b1 := (allLn.find? (fun e => decide (e.z = text))).isSome) ?_ (fun g H2 s2 => ?_) (fun g H2 s2 => ?_)
  · obtain ⟨r, h1, h2⟩ := lone_in T text
    exact ev_test fun Q k => ⟨_, rfl, text, r, rfl, rfl, h1, by rw [h2]; exact k H1 (Same.rf _)⟩
  · obtain ⟨e, he⟩ := Option.isSome_iff_exists.mp g
    rw [he] at eP
    obtain ⟨a, hk, ha⟩ := lone_at T e
    rw [lone_some he] at hk
    have kd : ∀ {H3}, EvE (tOp (rIxD K w) (tC (V.ref (He.ga K "LONE"))) (tVar 0)) S H3 (.ref a) := fun {H3} Q k => ⟨_, rfl, _, text, .ref a, rfl, rfl, hk, k H3 (Same.rf _)⟩
    refine ret_go (tup_go (cons_go (ev_ixT (xs := .str e.w :: e.v) kd (fun _ _ => ev_C) (ha H2) (atI_nat (j := 0) rfl) _ fun H3 s3 => cons_go (var_go rfl ?_))))
    refine kd _ fun H4 s4 => ⟨1, rfl, a, .str e.w :: e.v, rfl, ha H4, fun z => absurd z.1 ?_, fun p hp => ⟨p, e.v, rfl, .inl (.inl (.inl ?_)), nil_go ⟨?_, fun q hq => ?_⟩⟩⟩
    · rw [show HT.sIx (V.str e.w :: e.v).length 0 (some 1) = min 1 _ from HT.sIx_nat _ _ 1, List.length_cons]
      omega
    · rw [upd_same]
      exact congrArg (fun x => some (HO.tup x)) (cut_from (V.str e.w :: e.v) 1)
    · rw [List.length_cons, List.length_cons, List.append_nil]
      have : e.v.length ≤ 1 := by cases e <;> decide
      omega
    · refine hr1 (.lone e) _ _ eP (((s1.tr s2).tr (s3.tr s4)).tr ((Same.new hp).tr (Same.new hq))) (.tup (.inl upd_same) (.cons (.str _) (.cons (.int _) ?_)))
      rw [List.append_nil]
      cases e
      · exact .nil
      · exact .nil
      · exact .nil
      · exact .nil
      · exact .cons (.str _) .nil
      · exact .cons (.str _) .nil
      · exact .cons (.int _) .nil
      · exact .cons (.int _) .nil
  have hwl : ∀ z ∈ ws, z.length ≤ 2000 ∧ PyData.strOk z = true := fun z hz => ⟨by have := (hwz z hz).1; omega, (hwz z hz).2⟩
  rw [show allLn.find? (fun e => decide (e.z = text)) = none by
    cases h : allLn.find? (fun e => decide (e.z = text)) with
    | none => rfl
    | some e => rw [h] at g; cases g] at eP
  replace eP : shP text = if ws.getD 0 "" = "lay" then (tSum pgNames (ws.drop 1)).map .lay else if (ws.drop 1).take 1 = [Str.ofString "="] then setP ws else none := eP
  have s02 := s1.tr s2
  have hw2 := s2 _ _ hwa
  refine seq_if (σ := S) (eq_str (ev_word (i := 0) (ev_var rfl) (.inl (.inl hw2)) (List.length_pos_iff.mpr hnw)) fun _ _ => ev_C) (fun g3 H3 s3 => ?_) (fun g3 H3 s3 => ?_)
  · rw [if_pos (of_decide_eq_true g3)] at eP
    have s03 := s02.tr s3
    refine set_te (call_go (cons_go (sl_from (i := 2) 1 rfl (.inl (.inl (s3 _ _ hw2))) fun q H4 s4 _ hq => cons_go (c_go (nil_go ⟨q, _, ws.drop 1, pgNames, rfl, .inl (.inl hq), T.t_NAMES _, fun z hz => Nat.le_trans (hwl z (List.mem_of_mem_drop hz)).1 (by decide), fun en H5 s5 => ?_, fun qs vs p H5 es s5 hp hvs _ => ?_⟩)))))
    · rw [en] at eP
      exact ret_go (ev_test (notNv (v := .non) (ev_var (i := 3) rfl) rfl) _ fun H6 s6 => iteF (c_go (hr0 eP H6 ((s03.tr (s4.tr s5)).tr s6))))
    · rw [es] at eP
      refine ret_go (ev_test (notNv (v := .ref p) (ev_var (i := 3) rfl) rfl) _ fun H6 s6 => iteT (mk_tup (ev_cons ev_C fun _ _ => ev_cons (ev_var rfl) fun _ _ => ev_cons (ev_var rfl) fun _ _ => ev_nil) fun H7 t s7 _ ht => ?_))
      exact hr1 (.lay qs) _ _ eP (((s03.tr (s4.tr s5)).tr s6).tr s7) (.tup (.inl ht) (.cons (.str _) (.cons (.int _) (.cons (.tup (.inl (s7 _ _ (s6 _ _ hp))) ((ats_dq hvs).up (s6.tr s7).tl)) .nil))))
  · rw [if_neg (of_decide_eq_false g3)] at eP
    have s03 := s02.tr s3
    have hw3 := s3 _ _ hw2
    refine ret_go ?_
    refine ev_eq12 (σ := S) (ws := ws) (z := "=") rfl (.inl (.inl hw3)) (List.all_eq_true.mpr fun z hz => (hwl z hz).2) (by decide +kernel) _ fun H4 s4 => iteB (fun g4 => ?_) (fun g4 => ?_)
    · have g4 := of_decide_eq_true g4
      rw [if_pos g4] at eP
      have h2 : 2 ≤ ws.length := by
        have : ((ws.drop 1).take 1).length = 1 := by rw [g4]; rfl
        rw [List.length_take, List.length_drop] at this
        omega
      exact call_go (cons_go (var_go rfl (cons_go (var_go rfl (nil_go ⟨wa, ws, l, rfl, .inl (.inl (s4 _ _ hw3)), h2, by omega, hwl, fun e H5 s5 => hr0 (eP.trans e) H5 ((s03.tr s4).tr s5), fun r v H5 e s5 hv => hr1 r v H5 (eP.trans e) ((s03.tr s4).tr s5) hv⟩)))))
    · exact c_go (hr0 (eP.trans (if_neg (of_decide_eq_false g4))) H4 (s03.tr s4))
end
end K03


set_option Elab.async false
set_option linter.all false
set_option maxRecDepth 100000
set_option maxHeartbeats 4000000
/-! a tuple == (n,) -/
namespace L2
open PySem PySem.Spec PyProof.Rows
def hd1 (K : PySem.W.Frag) (H : Hp) (v : V) : Prop := (∃ z, v = .str z) ∨ (∃ i, v = .int i) ∨ ∃ r ys, v = .ref r ∧ SqT K H r ys
def rEq1 (K : PySem.W.Frag) : R2 := fun x y H Q => ∃ p xs q n, x = .ref p ∧ y = .ref q ∧ SqT K H p xs ∧ SqT K H q [.int n] ∧ (∀ v, xs.head? = some v → hd1 K H v) ∧ Q (.bl (decide (xs = [.int n]))) H
theorem op_eq1 {X : Cx} (hu : X.A.units + 64 < cLine) : OpR X (compareOp .Eq) (rEq1 X.K) := by
  intro pins s σ H x y v u Q I rx ry h
  obtain ⟨p, xs, q, n, rfl, rfl, hp, hq, hh, k⟩ := h
  cases rx
  cases ry
  obtain ⟨its, r, pl, hz⟩ := I.tuple hp
  obtain ⟨its2, r2, pl2, hz2⟩ := I.tuple hq
  cases r2 with
  | cons r0 r2 =>
  cases r2
  obtain ⟨t, rfl⟩ := r0
  cases r with
  | nil => exact SeqAt.eq_tupleAt (e := fun _ => true) pl pl2 (by omega) (fun j h1 _ => absurd h1 (Nat.not_lt_zero _)) ⟨.bl false, H, I, rfl, k⟩
  | @cons x0 u0 xs us r0 r =>
    have e : ∃ b, SeqAt.EqAt X.A.in1 s u0 (.int n t) b ∧ b = decide (x0 = .int n) := by
      rcases hh x0 rfl with ⟨z, rfl⟩ | ⟨i, rfl⟩ | ⟨r, ys, rfl, hy⟩
      · obtain ⟨t2, rfl⟩ := r0
        exact ⟨false, SeqAt.EqAt.str_int _ _ _ _, rfl⟩
      · obtain ⟨t2, rfl⟩ := r0
        refine ⟨_, SeqAt.EqAt.int_int _ _ _ _, ?_⟩
        by_cases g : i = n
        · subst g; simp
        · have : (i == n) = false := by simpa using g
          rw [this, decide_eq_false]
          intro z; cases z; exact g rfl
      · cases r0
        obtain ⟨its3, r3, pl3, hz3⟩ := I.tuple hy
        exact ⟨false, SeqAt.EqAt.tuple_int _ _ pl3 (show X.A.units + 1 < cLine by omega), rfl⟩
    obtain ⟨b, hb, rfl⟩ := e
    refine SeqAt.eq_tupleAt (e := fun _ => decide (x0 = .int n)) pl pl2 (by omega) (fun j h1 h2 => ?_) ⟨.bl _, H, I, rfl, ?_⟩
    · have : j = 0 := by simp at h2; omega
      subst this
      exact hb
    · have hl := r.length
      have e2 : ((List.range (min (u0 :: us).toArray.size #[Value.int n t].size)).all (fun _ => decide (x0 = .int n)) && (u0 :: us).toArray.size == #[Value.int n t].size) = decide (x0 :: xs = [.int n]) := by
        simp only [List.size_toArray, List.length_cons, List.length_nil]
        rw [show min (us.length + 1) (0 + 1) = 1 by omega]
        show ((decide (x0 = .int n) && true) && _) = _
        rw [Bool.and_true]
        cases xs with
        | nil =>
          have : us.length = 0 := hl.symm
          rw [this]
          by_cases g : x0 = .int n <;> simp [g]
        | cons y ys =>
          have hl : us.length = ys.length + 1 := by rw [← hl]; rfl
          rw [hl]
          simp
      have e3 := e2.symm ▸ k
      exact e3
theorem eq1_at {X : Cx} {K : PySem.W.Frag} (hu : X.A.units + 64 < cLine) (h : X.K = K := by rfl) : OpR X (compareOp .Eq) (rEq1 K) := by subst h; exact op_eq1 hu
end L2


set_option Elab.async false
set_option linter.all false
set_option maxRecDepth 100000
set_option maxHeartbeats 4000000
/-! xs.extend(t), t a tuple -/
namespace PySem
open PySem.Spec PySem.AutoSeq1
theorem list_extend_tup (l : Addr) (items : Array Value) (n : Nat) (b : Addr) (items2 : Array Value) (n2 : Nat) (dd : Option Addr) (sl : Array (Option Value)) (hs0 : ¬(!items.isEmpty && Builtin.List.listTooLong (items.size + items2.size)) = true) (hs1 : items.size ≤ sizeLine) (hs2 : items.size + items2.size ≤ sizeLine + 1) :
    Meets (Builtin.«list.extend» ⟨[.ref l, .ref b], []⟩) (fun _ R s => s.heap.get? l = some { cls := .type "list", dict := none, data := .seq items n, slots := #[] } ∧ s.heap.get? b = some { cls := .type "tuple", dict := dd, data := .seq items2 n2, slots := sl } ∧ R (.ok (.ret Value.none)) { s with heap := s.heap.update l (Obj.mapSeq fun x => x ++ items2), toks := s.toks }) :=
  .of_wp fun prog w A R s h => by
    obtain ⟨hp, g, d, tk, os⟩ := s; obtain ⟨hl, hb, h⟩ := h; have f1 := idx_int; have f2 := sub_tuple_tuple; have f3 := sub_list_list; have f4 := sub_tuple_list; have f5 := sub_list_tuple;
    have hz' : (items ++ items2).size ≤ sizeLine + 1 := by rw [Array.size_append]; exact hs2
    wp_walk using (wpAny_updateSeq hl rfl (hz := hs1) (_hz' := hz')), wpAny_loadPart' hl, wpAny_loadPart' hb; exact ⟨_, rfl, h⟩
end PySem
namespace L2
open PySem PySem.Spec PyProof.Rows
/-- xs.extend(t), t a tuple -/
def rExtT (K : PySem.W.Frag) : V → List V → Hp → VK → Prop := fun x vs H Q => ∃ l b xs zs, x = .ref l ∧ vs = [.ref b] ∧ H l = some (.lst xs) ∧ SqT K H b zs ∧ xs.length + zs.length ≤ sizeLine ∧ Q .non (upd H l (.lst (xs ++ zs)))
theorem mt_extT {X : Cx} : MtM X "list.extend" (rExtT X.K) := by
  intro pins s σ H x vs v us Q I rx rv h
  obtain ⟨l, b, xs, zs, rfl, rfl, hH, hB, hz, q⟩ := h
  cases rx
  obtain ⟨u, rfl, ru⟩ := rv.one
  cases ru
  obtain ⟨z, its, n, r, hl, e⟩ := I.lstM hH
  obtain ⟨its2, r2, ⟨o, e2, hc, n2, hd⟩, z2⟩ := I.tuple hB
  have hl2 := r2.length
  obtain ⟨oc, od, dt, sl⟩ := o
  dsimp only at hc hd
  subst hc hd
  have hsz : its.toArray.size + its2.toArray.size ≤ sizeLine := by rw [List.size_toArray, List.size_toArray]; omega
  have hlong : ¬ (!its.toArray.isEmpty && Builtin.List.listTooLong (its.toArray.size + its2.toArray.size)) = true := by
    rw [notLongL hsz, Bool.and_false]
    exact Bool.false_ne_true
  refine call_meets F.slot_list_extend ⟨_, e, rfl⟩ F.entry_list_extend (F.args_list_extend_2 _ _)
    (list_extend_tup l its.toArray n b its2.toArray n2 od sl hlong (by rw [List.size_toArray]; omega) (by omega)) ⟨e, e2, ?_⟩
  refine ⟨.non, _, I.lset (its' := its ++ its2) hH e (by simp) (r.append r2) ?_, rfl, q⟩
  rw [List.length_append]
  omega
end L2


set_option Elab.async false
set_option linter.all false
set_option maxRecDepth 100000
set_option maxHeartbeats 4000000
namespace L2
open PySem PySem.Spec PyProof.Rows
section
variable {K : PySem.W.Frag} {σ : St} {H : Hp} {tv : TE} {v : V} {ds : List PyData} {i : Nat}
theorem dq_at {d : PyData} (hd : Dq K H v (.tuple ds)) (hi : ds[i]? = some d) : ∃ va us u, v = .ref va ∧ SqT K H va us ∧ us[i]? = some u ∧ Dq K H u d := by
  obtain ⟨va, us, e, h1, h2⟩ := Dq.tuple hd
  obtain ⟨u, h3, h4⟩ := h2.get hi
  exact ⟨va, us, u, e, h1, h3, h4⟩
theorem ev_rowV {u : V} {d : PyData} (he : EvE tv σ H v) (hd : Dq K H v (.tuple ds)) (hi : ds[i]? = some d) (hu : ∀ {H u'}, Dq K H u' d → u' = u) : EvE (tOp (rIxT K) tv (tC (.int (i : Int)))) σ H u := by
  obtain ⟨va, us, u', e, h1, h3, h4⟩ := dq_at hd hi
  subst e
  rw [← hu h4]
  exact ev_ixT he (fun _ _ => ev_C) h1 (atI_nat h3)
theorem ev_rowS {z : Str} (i : Nat) (he : EvE tv σ H v) (hd : Dq K H v (.tuple ds)) (hi : ds[i]? = some (.str z)) : EvE (tOp (rIxT K) tv (tC (.int (i : Int)))) σ H (.str z) := ev_rowV he hd hi fun h => by cases h; rfl
theorem ev_rowI {z : Int} (i : Nat) (he : EvE tv σ H v) (hd : Dq K H v (.tuple ds)) (hi : ds[i]? = some (.int z)) : EvE (tOp (rIxT K) tv (tC (.int (i : Int)))) σ H (.int z) := ev_rowV he hd hi fun h => by cases h; rfl
/-- row[i], a tuple -/
theorem ev_rowT {es : List PyData} (i : Nat) (he : EvE tv σ H v) (hd : Dq K H v (.tuple ds)) (hi : ds[i]? = some (.tuple es)) : ∃ p us, EvE (tOp (rIxT K) tv (tC (.int (i : Int)))) σ H (.ref p) ∧ SqT K H p us ∧ DqAll K H us es := by
  obtain ⟨va, us, u', e, h1, h3, h4⟩ := dq_at hd hi
  subst e
  obtain ⟨p, vs, e, h5, h6⟩ := Dq.tuple h4
  subst e
  exact ⟨p, vs, ev_ixT he (fun _ _ => ev_C) h1 (atI_nat h3), h5, h6⟩
theorem ev_rowD {d : PyData} (i : Nat) (he : EvE tv σ H v) (hd : Dq K H v (.tuple ds)) (hi : ds[i]? = some d) : EvD K (tOp (rIxT K) tv (tC (.int (i : Int)))) σ H d := by
  obtain ⟨va, us, u', e, h1, h3, h4⟩ := dq_at hd hi
  subst e
  exact (ev_ixT he (fun _ _ => ev_C) h1 (atI_nat h3)).d fun H' s => h4.up s.tl
end
theorem seq_of {t r : TS} {D : Ends} {z : L2.St} {H : Hp} (R : L2.St → Hp → Prop) (h : ∀ N : L2.St → Hp → Prop, (∀ z1 H1, R z1 H1 → N z1 H1) → t { nx := N, rt := D.rt, bk := D.bk, ct := D.ct } z H) (k : ∀ z1 H1, R z1 H1 → r D z1 H1) : tSeq t r D z H := h _ k
theorem dq_map {K : PySem.W.Frag} {γ : Type} {f : γ → PyData} {H : Hp} {xs : List V} {l : List γ} (h : DqAll K H xs (l.map f)) : xs.length = l.length ∧ ∀ (i : Nat) (v : V), xs[i]? = some v → ∃ x, l[i]? = some x ∧ Dq K H v (f x) := by
  refine ⟨by have := h.len; rw [List.length_map] at this; exact this, fun i v hv => ?_⟩
  obtain ⟨d, h1, h2⟩ := h.at hv
  rw [List.getElem?_map] at h1
  obtain ⟨x, h3, rfl⟩ := Option.map_eq_some_iff.mp h1
  exact ⟨x, h3, h2⟩
theorem EvT.eq {t : TT} {σ : L2.St} {H : Hp} {b c : Bool} (h : EvT t σ H b) (e : b = c) : EvT t σ H c := e ▸ h
end L2
namespace Pgr
open PySem Rdr Tld
abbrev IT := It PgRow Part
abbrev TR := RT PgRow Part
def itDs : IT → List PyData
  | .leaf x => x.ds
  | .ifi l ps a b => [.str "if", .int (l : Nat), .tuple (ps.map fun p => .tuple (pds p)), .tuple (a.toL PgRow.ds pds), .tuple (b.toL PgRow.ds pds)]
theorem toD_it (it : IT) : it.toD PgRow.ds pds = .tuple (itDs it) := by cases it <;> rfl
def it0 : IT → Str
  | .leaf x => x.s.w
  | .ifi .. => "if"
theorem itDs_0 (it : IT) : (itDs it)[0]? = some (.str (it0 it)) := by cases it <;> rfl
def itL : IT → Nat
  | .leaf x => x.l
  | .ifi l .. => l
theorem itDs_1 (it : IT) : (itDs it)[1]? = some (.int (itL it : Nat)) := by cases it <;> rfl
def part0 : Part → Str
  | .lone s _ => s
  | .same .. => "same"
  | .less .. => "less"
theorem pds_0 (p : Part) : (pds p)[0]? = some (.str (part0 p)) := by cases p <;> rfl
def partNs : Part → List At
  | .lone .. => []
  | .same a b _ => [a, b]
  | .less a b _ _ => [a, b]
/-- the parts that compare nothing -/
def okPart : Part → Prop
  | .lone s _ => s = "empty" ∨ s = "last"
  | _ => True
def okIt : IT → Prop
  | .leaf _ => True
  | .ifi _ ps _ _ => ps.length ≤ 4 ∧ ∀ p ∈ ps, okPart p
def shNs : Sh → List At
  | .set _ t _ => t
  | .field _ t => t
  | .own _ t => t
  | .lay t => t
  | _ => []
/-- the atoms in the sums of a row -/
def itNs : IT → List At
  | .leaf x => shNs x.s
  | .ifi _ ps _ _ => ps.flatMap partNs
def names (it : IT) : List (Option Str) := (itNs it).map (·.2)
def parts0 : IT → List Str
  | .leaf _ => []
  | .ifi _ ps _ _ => ps.map part0
def isUp : IT → Bool
  | .leaf ⟨_, .lone .up⟩ => true
  | _ => false
def isDn : IT → Bool
  | .leaf ⟨_, .lone .dn⟩ => true
  | _ => false
def roomN : IT → Option Str
  | .leaf ⟨_, .room _ n⟩ => some n
  | _ => none
def k1 (it : IT) : Bool := decide (it0 it = "take") || (decide (("empty" : Str) ∈ parts0 it) || isUp it)
def k3 (it : IT) : Bool := decide (it0 it = "clear") || decide (roomN it = some "own.len")
def k4 (it : IT) : Bool := decide (it0 it ∈ (["no", "lay"] : List Str)) || (decide (some (Str.ofString "len") ∈ names it) || decide (roomN it = some "len"))
def k5 (it : IT) : Bool := decide (it0 it = "own") || (decide (some (Str.ofString "own.at") ∈ names it) || (decide (some (Str.ofString "own.len") ∈ names it) || decide (("last" : Str) ∈ parts0 it)))
def kinds4 : List Str := ["put", "strike", "set", "pack"]
def fl (b : Bool) (ks l : List Str) : List Str := if b then l.filter fun k => decide (k ∈ ks) else l
/-- the kinds of codes in which a row may stand -/
def pkinds (it : IT) : List Str := fl (k5 it) ["put", "strike", "set"] (fl (k4 it) ["put", "set"] (fl (k3 it) ["strike", "set"] (fl (isDn it) ["strike"] (fl (k1 it) ["put"] kinds4))))
def onces : List Str := ["take", "clear", "pack", "at", "len", "lay", "slots"]
def whatW : IT → Str
  | .leaf ⟨_, .own g _⟩ => g
  | it => it0 it
def what (it : IT) : Option Str := if whatW it ∈ onces then some (whatW it) else none
/-- what is counted: the setting of a register, a division, what may be done once, whether empty is asked -/
def stKey : IT → Option Str
  | .leaf ⟨_, .set g _ _⟩ => some g
  | .leaf ⟨_, .room g _⟩ => some g
  | _ => none
def isDiv : IT → Bool
  | .leaf ⟨_, .set _ _ (some _)⟩ => true
  | _ => false
def asks : IT → Bool
  | .ifi _ ps _ _ => (ps.map part0).any fun z => decide (z = "empty")
  | _ => false
def anyDone (ks : List Str) (done : List (Option Str)) : Bool := (ks.map fun k => decide (some k ∈ done)).any id
def ctr (g : Str) (st : List Str) : Nat := st.countP (· = g)
def lateA (done : List (Option Str)) : Bool := anyDone ["at", "len", "lay", "slots"] done
def lateB (done : List (Option Str)) : Bool := anyDone ["at", "len", "slots"] done
/-- what a row adds to the faults of a way: st the registers set, dv the divisions, dn what was done -/
def ifL (b : Bool) (n : Nat) : List Nat := if b then [n] else []
def wa1 (it : IT) (st : List Str) : Bool := match stKey it with
  | some g => decide (3 < ctr g st + 1)
  | none => false
def wa2 (it : IT) (dv : Nat) : Bool := isDiv it && decide (2 < dv + 1)
def wa3 (it : IT) (dn : List (Option Str)) : Bool := (what it).isSome && decide (what it ∈ dn)
def wa4 (it : IT) (dn : List (Option Str)) : Bool := decide (what it = some "pack") && lateA dn
def wa5 (it : IT) (dn : List (Option Str)) : Bool := (decide (what it = some "take") || asks it) && lateB dn
def wr1 (it : IT) (st : List Str) (dv : Nat) (dn : List (Option Str)) : List Nat :=
  ifL (wa1 it st) (itL it) ++ (ifL (wa2 it dv) (itL it) ++ (ifL (wa3 it dn) (itL it) ++ (ifL (wa4 it dn) (itL it) ++ ifL (wa5 it dn) (itL it))))
def wrGo : List IT → List Str → Nat → List (Option Str) → List Nat
  | [], _, _, _ => []
  | it :: r, st, dv, done => wr1 it st dv done ++ wrGo r (st ++ (stKey it).toList) (if isDiv it then dv + 1 else dv) (done ++ [what it])
def wayWrong (w : List IT) : List Nat := wrGo w [] 0 []
def ends2 : List Str := ["no", "quit"]
def wrongs (kind : Str) (t : TR) : List Nat := (t.all.filterMap fun it => if kind ∈ pkinds it then none else some (itL it)) ++ (t.ways (K03.finF PgRow.ds ends2)).flatMap fun w => wayWrong w.1
theorem wrd_pg : K03.Wrd PgRow.ds := fun x => by
  obtain ⟨l, s⟩ := x
  refine ⟨s.w, _, rfl, ?_⟩
  cases s with
  | lone e => cases e <;> decide +kernel
  | room => show (Str.ofString "room") ≠ "if"; decide +kernel
  | set => show (Str.ofString "set") ≠ "if"; decide +kernel
  | field => show (Str.ofString "field") ≠ "if"; decide +kernel
  | own => show (Str.ofString "own") ≠ "if"; decide +kernel
  | lay => show (Str.ofString "lay") ≠ "if"; decide +kernel
end Pgr


set_option Elab.async false
set_option linter.all false
set_option maxRecDepth 100000
set_option maxHeartbeats 4000000
namespace K03
open PySem PySem.Spec PyProof.Rows L2 Rdr Tld Pgr
section
variable {P : Program} {w : World} {K : PySem.W.Frag} {mg : Str → Option Value} {base : Heap}
def nmV (it : IT) : List V := (names it).map oS
def spNames (K : PySem.W.Frag) : Sp := fun vs H Q _ => ∃ (v : V) (it : IT), vs = [v] ∧ Dq K H v (.tuple (itDs it)) ∧ okIt it ∧ (itNs it).length ≤ 1000 ∧ ∀ q H', Same H H' → H q = none → H' q = some (.lst (nmV it)) → Q (.ref q) H'
theorem p_two {p : Part} (ok : okPart p) : (part0 p ∈ (["same", "less"] : List Str) → ∃ a b r, pds p = .str (part0 p) :: .tuple [atD a] :: .tuple [atD b] :: r ∧ partNs p = [a, b]) ∧ (part0 p ∉ (["same", "less"] : List Str) → partNs p = []) := by
  cases p with
  | lone s w =>
    refine ⟨fun h => ?_, fun _ => rfl⟩
    have n1 : ¬ (("empty" : Str) ∈ (["same", "less"] : List Str)) := by decide +kernel
    have n2 : ¬ (("last" : Str) ∈ (["same", "less"] : List Str)) := by decide +kernel
    rcases ok with e | e
    · exact absurd (e ▸ h) n1
    · exact absurd (e ▸ h) n2
  | same a b w => exact ⟨fun _ => ⟨a, b, _, rfl, rfl⟩, fun h => absurd (show part0 (.same a b w) ∈ _ from List.mem_cons_self ..) h⟩
  | less a b s w => exact ⟨fun _ => ⟨a, b, _, rfl, rfl⟩, fun h => absurd (show part0 (.less a b s w) ∈ _ from List.mem_cons_of_mem _ (List.mem_cons_self ..)) h⟩
theorem sh_ne_if (s : Sh) : s.w ≠ "if" := by
  obtain ⟨z, r, e, h⟩ := wrd_pg ⟨0, s⟩
  cases e
  exact h
theorem dq_oD {H : Hp} : ∀ {vs : List V} {l : List (Option Str)}, DqAll K H vs (l.map oD) → vs = l.map oS
  | _, [], h => by cases h; rfl
  | _, none :: r, h => by
    cases h with
    | cons h1 h2 => cases h1; rw [dq_oD h2]; rfl
  | _, some z :: r, h => by
    cases h with
    | cons h1 h2 => cases h1; rw [dq_oD h2]; rfl
def sfo3 : List Str := ["set", "field", "own"]
theorem sh_sfo {s : Sh} (h : s.w ∈ sfo3) : ∃ g t r, s.r = .str g :: .tuple (t.map atD) :: r ∧ shNs s = t := by
  have n1 : ∀ e : Ln, ¬ e.w ∈ sfo3 := fun e => by cases e <;> decide +kernel
  have n2 : ¬ (("room" : Str) ∈ sfo3) := by decide +kernel
  have n3 : ¬ (("lay" : Str) ∈ sfo3) := by decide +kernel
  cases s with
  | lone e => exact absurd h (n1 e)
  | room g n => exact absurd h n2
  | lay t => exact absurd h n3
  | set g t d => exact ⟨g, t, _, rfl, rfl⟩
  | field g t => exact ⟨g, t, _, rfl, rfl⟩
  | own g t => exact ⟨g, t, _, rfl, rfl⟩
theorem sh_lay {s : Sh} (h : s.w = "lay") : ∃ t, s.r = [.tuple (t.map atD)] ∧ shNs s = t := by
  have n1 : ∀ e : Ln, ¬ e.w = "lay" := fun e => by cases e <;> decide +kernel
  have n2 : ¬ (("room" : Str) = "lay") := by decide +kernel
  have n3 : ¬ (("set" : Str) = "lay") := by decide +kernel
  have n4 : ¬ (("field" : Str) = "lay") := by decide +kernel
  have n5 : ¬ (("own" : Str) = "lay") := by decide +kernel
  cases s with
  | lone e => exact absurd h (n1 e)
  | room g n => exact absurd h n2
  | set g t d => exact absurd h n3
  | field g t => exact absurd h n4
  | own g t => exact absurd h n5
  | lay t => exact ⟨t, rfl, rfl⟩
theorem sh_none {s : Sh} (h : ¬ s.w ∈ sfo3) (h2 : ¬ s.w = "lay") : shNs s = [] := by
  cases s with
  | lone e => rfl
  | room g n => rfl
  | set g t d => exact absurd (show ("set" : Str) ∈ sfo3 by decide +kernel) h
  | field g t => exact absurd (show ("field" : Str) ∈ sfo3 by decide +kernel) h
  | own g t => exact absurd (show ("own" : Str) ∈ sfo3 by decide +kernel) h
  | lay t => exact absurd rfl h2
theorem _root_.L2.SameX.sqT {q p : Addr} {H H' : Hp} {us l : List V} (s : SameX q H H') (hq : H q = some (.lst l)) (h : SqT K H p us) : SqT K H' p us := by
  rcases h with (h | ⟨o, h⟩) | h
  · exact .inl (.inl (s _ _ (fun e => by rw [e, hq] at h; cases h) h))
  · exact .inl (.inr ⟨o, s _ _ (fun e => by rw [e, hq] at h; cases h) h⟩)
  · exact .inr h
theorem _root_.L2.SameX.tl {q : Addr} {H H' : Hp} {l : List V} (s : SameX q H H') (hq : H q = some (.lst l)) : TupLe H H' := fun b xs h => s _ _ (fun e => by rw [e, hq] at h; cases h) h
theorem ok_page_names (T : Tx P w K mg) : FnX P w K mg base CX0 1 "page_names" ["row"] [] (spNames K) := by
  refine T.d_page_names.ok0 sc_page_names (fun _ _ _ _ _ _ us hl => match us, hl with | [_], _ => rfl) (fun vs H Q E h => ?_) (fun f cdv A outer s H vs Q E hr h => have hu := hu_of hr; ⟨_, (by exact (pss_cons (ps_set (i := 1) sc_page_names.nd rfl (Or.inl rfl) (pe_lst pa_nil))
      (pss_cons (ps_if (pt_cmpR op_eq (pe_ix ix_tup (pv 0) pe_int (fun _ _ => rfl)) pe_str (nomark _)) (pss_one (ps_for PassesOwn.never rfl (pi_tup (pe_ix ix_tup (pv 0) pe_int (fun _ _ => rfl))) (pg_name (i := 2) sc_page_names.nd rfl (Or.inl rfl))
        (pss_one (ps_expr (pe_bm PySem.F.plainAttrs_list PySem.F.slot_list_extend PySem.F.type_list_extend mt_extend (pv 1) (pa_cons (pe_ifExp (pt_cmpR op_in_seq (pe_ix ix_tup (pv 2) pe_int (fun _ _ => rfl)) (pe_tup (pa_cons pe_str (pa_cons pe_str pa_nil))) (by rfl)) (pe_lst (StX.pa_star (pe_ix ix_tup (pv 2) pe_int (fun _ _ => rfl)) (StX.pa_star (pe_ix ix_tup (pv 2) pe_int (fun _ _ => rfl)) pa_nil))) (pe_lst pa_nil)) pa_nil)))))) (pss_one (ps_if (pt_cmpR op_in_seq (pe_ix ix_tup (pv 0) pe_int (fun _ _ => rfl)) (pe_tup (pa_cons pe_str (pa_cons pe_str (pa_cons pe_str pa_nil)))) (by rfl)) (pss_one (ps_expr (pe_bm PySem.F.plainAttrs_list PySem.F.slot_list_extend PySem.F.type_list_extend mt_extT (pv 1) (pa_cons (pe_ix ix_tup (pv 0) pe_int (fun _ _ => rfl)) pa_nil)))) (pss_one (ps_if (pt_cmpR op_eq (pe_ix ix_tup (pv 0) pe_int (fun _ _ => rfl)) pe_str (nomark _)) (pss_one (ps_expr (pe_bm PySem.F.plainAttrs_list PySem.F.slot_list_extend PySem.F.type_list_extend mt_extT (pv 1) (pa_cons (pe_ix ix_tup (pv 0) pe_int (fun _ _ => rfl)) pa_nil)))) pss_nil)))))
      (pss_one (ps_ret (pe_lc (own := [("factor", 3), ("name", 4)]) (g := (gTup K 2 (gCons (gName 3) (gCons (gName 4) gNil)))) (tt := tYes) (by rfl) sc_page_names.nd (pi_list (pv 1)) (blkOk_by (own := [("factor", 3), ("name", 4)]) (N := ["row", "told", "part", "factor", "name"]) (sc := defScope s_page_names) (by decide +kernel)) (fun _ _ _ _ _ => (pg_tup rfl (pgs_cons (pg_name (i := 3) sc_page_names.nd rfl (Or.inl rfl)) (pgs_cons (pg_name (i := 4) sc_page_names.nd rfl (Or.inl rfl)) pgs_nil)))) (fun _ _ _ _ _ => pts_nil) (fun _ _ _ _ _ => (pv 4)))))))), ?_⟩)
  · obtain ⟨v, it, rfl, _⟩ := h
    rfl
  obtain ⟨v, it, rfl, hd, hok, hn, h0⟩ := h
  have q9 : sizeLine = 16777216 := sizeLine_eq
  refine set_lst (vs := []) ev_nil fun H1 q s1 hq0 hq => ?_
  let S : V → Option V → L2.St := fun v p2 => [some v, some (.ref q), p2, none, none]
  have R0 : ∀ {H2}, Same H1 H2 → EvE (tOp (rIxT K) (tVar 0) (tC (.int 0))) (S v none) H2 (.str (it0 it)) := fun s2 => ev_rowS 0 (ev_var rfl) (hd.up (s1.tr s2).tl) (itDs_0 it)
  refine seq_of (fun z H2 => ∃ p2 xs, z = S v p2 ∧ Same H H2 ∧ H2 q = some (.lst xs) ∧ DqAll K H2 xs ((itNs it).map atD)) (fun N KN => ?_) ?_
  · have one : ∀ (H2 : Hp) (i : Nat) (t : List At), Same H1 H2 → (itDs it)[i]? = some (.tuple (t.map atD)) → itNs it = t → tDrop (tBM K "list" (rExtT K) (tVar 1) (tCons (tOp (rIxT K) (tVar 0) (tC (V.int (i : Int)))) tNil)) { nx := N, rt := Q } (S v none) H2 := by
      intro H2 i t s2 hi e
      obtain ⟨p, us, he, hp, hu⟩ := ev_rowT (tv := tVar 0) (σ := S v none) (H := H2) (v := v) i (ev_var rfl) (hd.up (s1.tr s2).tl) hi
      refine drop_go0 ⟨_, rfl, .inl ⟨rfl, ⟨_, .inl (.inl (s2 _ _ hq))⟩⟩, cons_go (he _ fun H3 s3 => nil_go ⟨q, p, [], us, rfl, rfl, s3 _ _ (s2 _ _ hq), s3.seqT hp, ?_, KN _ _ ⟨none, us, rfl, (s1.tr (s2.tr s3)).mut hq0, upd_same, ?_⟩⟩)⟩
      · have := hu.len
        rw [List.length_map] at this
        rw [e] at hn
        simp only [List.length_nil]
        omega
      · rw [e]
        exact hu.up ((s3.tl).trans (TupLe.mut (s3 _ _ (s2 _ _ hq)) fun xs z => by cases z))
    refine do_if (σ := S v none) (eq_str (R0 (Same.rf _)) fun _ _ => ev_C) (fun g H2 s2 => ?_) (fun g H2 s2 => ?_)
    · have g := of_decide_eq_true g
      cases it with
      | leaf x => exact absurd g (sh_ne_if x.s)
      | ifi l ps ra rb =>
        obtain ⟨p, us, he, hp, hu⟩ := ev_rowT (tv := tVar 0) (σ := S v none) (H := H2) (v := v) 2 (ev_var rfl) (hd.up (s1.tr s2).tl) rfl
        obtain ⟨hul, hua⟩ := dq_map hu
        refine for_tp (fun i σ H' => ∃ p2 xs, σ = S v p2 ∧ Same H H' ∧ SameX q H2 H' ∧ H' q = some (.lst xs) ∧ DqAll K H' xs (((ps.take i).flatMap partNs).map atD)) he hp (fun H3 s3 => ⟨none, [], rfl, s1.tr (s2.tr s3), s3.x, s3 _ _ (s2 _ _ hq), .nil⟩) (fun i σ H' _ h => by obtain ⟨_, _, _, _, sx, _⟩ := h; exact sx.sqT (s2 _ _ hq) hp) ?_ ?_
        · rintro i x σ H3 hx ⟨p2, xs, rfl, s3, sx3, hq3, hxs⟩
          obtain ⟨pp, hpi, hxd⟩ := hua i x hx
          have okp := hok.2 pp (List.mem_of_getElem? hpi)
          have hxs3 : DqAll K H3 xs (((ps.take i).flatMap partNs).map atD) := hxs
          have hxd3 := hxd.up (sx3.tl (s2 _ _ hq))
          have hnx := take_fm partNs hpi
          have hxl : xs.length ≤ 1000 := by
            have h1 := hxs.len
            rw [List.length_map] at h1
            have h2 := take_fm_le partNs ps i
            have h3 : (ps.flatMap partNs).length ≤ 1000 := hn
            omega
          have hn2 : ((ps.take (i + 1)).flatMap partNs).length ≤ 1000 := Nat.le_trans (take_fm_le partNs ps (i + 1)) hn
          refine nm (drop_go0 ⟨_, rfl, .inl ⟨rfl, ⟨_, .inl (.inl hq3)⟩⟩, cons_go ?_⟩)
          refine ev_test (σ := S v (some x)) (ev_in (ev_rowS 0 (ev_var rfl) hxd3 (pds_0 pp)) (in_tup (ns := ["same", "less"]) fun _ => ev_cons ev_C fun _ _ => ev_cons ev_C fun _ _ => ev_nil)) _ fun H4 s4 => iteB (fun g4 => ?_) (fun g4 => ?_)
          · obtain ⟨a, b, r, e1, e2⟩ := (p_two okp).1 (of_decide_eq_true g4)
            rw [e1] at hxd3
            obtain ⟨p1, u1, he1, hp1, hu1⟩ := ev_rowT (tv := tVar 2) (σ := S v (some x)) (H := H4) (v := x) 1 (ev_var rfl) (hxd3.up s4.tl) rfl
            refine lst_go (he1 _ fun H5 s5 => ⟨p1, u1, rfl, .inl (s5.seqT hp1), ?_⟩)
            obtain ⟨p2, u2, he2, hp2, hu2⟩ := ev_rowT (tv := tVar 2) (σ := S v (some x)) (H := H5) (v := x) 2 (ev_var rfl) ((hxd3.up s4.tl).up s5.tl) rfl
            refine he2 _ fun H6 s6 => ⟨p2, u2, rfl, .inl (s6.seqT hp2), nil_go ⟨?_, fun q4 hq4 => nil_go ?_⟩⟩
            · have h1 := hu1.len
              have h2 := hu2.len
              simp only [List.length_append, List.length_cons, List.length_nil] at *
              omega
            · have s36 := (s4.tr (s5.tr s6)).tr (Same.new (o := .lst (u1 ++ (u2 ++ []))) hq4)
              have iu : upd H6 q4 (.lst (u1 ++ (u2 ++ []))) q4 = some (.lst (u1 ++ (u2 ++ []))) := upd_same
              have d1 := hu1.up ((s5.tr s6).tr (Same.new (o := .lst (u1 ++ (u2 ++ []))) hq4)).tl
              have d2 := hu2.up (s6.tr (Same.new (o := .lst (u1 ++ (u2 ++ []))) hq4)).tl
              generalize upd H6 q4 (.lst (u1 ++ (u2 ++ []))) = H7 at s36 iu d1 d2 ⊢
              refine ⟨q, q4, xs, u1 ++ (u2 ++ []), rfl, rfl, s36 _ _ hq3, iu, ?_, some x, _, rfl, (s3.tr s36).mut hq0, (sx3.tr s36.x).upd, upd_same, ?_⟩
              · have h1 := hu1.len
                have h2 := hu2.len
                simp only [List.length_append, List.length_cons, List.length_nil] at *
                omega
              · have tm : TupLe H7 (upd H7 q (.lst (xs ++ (u1 ++ (u2 ++ []))))) := TupLe.mut (s36 _ _ hq3) fun xs z => by cases z
                rw [hnx, List.map_append]
                refine ((hxs3.up s36.tl).up tm).app ?_
                rw [e2]
                simp only [List.append_nil] at tm ⊢
                exact (d1.up tm).app (d2.up tm)
          · refine lst_go (nil_go ⟨szL rfl, fun q4 hq4 => nil_go ?_⟩)
            have s34 := s4.tr (Same.new (o := .lst []) hq4)
            have iu : upd H4 q4 (.lst []) q4 = some (.lst []) := upd_same
            generalize upd H4 q4 (.lst []) = H7 at s34 iu ⊢
            refine ⟨q, q4, xs, [], rfl, rfl, s34 _ _ hq3, iu, by rw [List.length_nil]; omega, some x, _, rfl, (s3.tr s34).mut hq0, (sx3.tr s34.x).upd, upd_same, ?_⟩
            have tm : TupLe H7 (upd H7 q (.lst (xs ++ []))) := TupLe.mut (s34 _ _ hq3) fun xs z => by cases z
            rw [hnx, (p_two okp).2 (of_decide_eq_false g4), List.append_nil, List.append_nil]
            rw [List.append_nil] at tm
            exact (hxs3.up s34.tl).up tm
        · rintro σ H3 ⟨p2, xs, rfl, s3, sx3, hq3, hxs⟩
          rw [hul, List.take_length] at hxs
          exact KN _ _ ⟨p2, xs, rfl, s3, hq3, hxs⟩
    · have g := of_decide_eq_false g
      cases it with
      | ifi l ps ra rb => exact absurd rfl g
      | leaf x =>
        refine do_if (σ := S v none) (ev_test (ev_in (R0 s2) (in_tup (ns := sfo3) fun _ => ev_cons ev_C fun _ _ => ev_cons ev_C fun _ _ => ev_cons ev_C fun _ _ => ev_nil))) (fun g3 H3 s3 => ?_) (fun g3 H3 s3 => ?_)
        · obtain ⟨gl, t, r, e1, e2⟩ := sh_sfo (of_decide_eq_true g3)
          exact one H3 3 t (s2.tr s3) (by show (PgRow.ds x)[3]? = _; unfold PgRow.ds; rw [e1]; rfl) e2
        refine do_if (σ := S v none) (eq_str (R0 (s2.tr s3)) fun _ _ => ev_C) (fun g4 H4 s4 => ?_) (fun g4 H4 s4 => ?_)
        · obtain ⟨t, e1, e2⟩ := sh_lay (of_decide_eq_true g4)
          exact one H4 2 t ((s2.tr s3).tr s4) (by show (PgRow.ds x)[2]? = _; unfold PgRow.ds; rw [e1]; rfl) e2
        · refine KN _ _ ⟨none, [], rfl, s1.tr ((s2.tr s3).tr s4), s4 _ _ (s3 _ _ (s2 _ _ hq)), ?_⟩
          rw [show itNs (.leaf x) = [] from sh_none (of_decide_eq_false g3) (of_decide_eq_false g4)]
          exact .nil
  · rintro _ H2 ⟨p2, xs, rfl, s2, hq2, hxs⟩
    obtain ⟨hxl, hxa⟩ := dq_map hxs
    refine ret_go (lc_dq ((itNs it).map fun a => some (oD a.2)) (ev_var rfl) (.inl (.inl hq2)) (by rw [List.length_map]; exact hxl.symm) (by rw [List.length_map]; omega) ?_ ?_)
    · intro i u o H3 hu ho s3
      obtain ⟨a, ha, hda⟩ := hxa i u hu
      rw [List.getElem?_map, ha] at ho
      cases ho
      obtain ⟨va, us, rfl, hva, hus⟩ := Dq.tuple (show Dq K H3 u (.tuple [.int a.1, oD a.2]) from hda.up s3.tl)
      cases hus with
      | cons h1 hus => cases hus with
      | @cons v2 _ _ _ h2 hus =>
      cases hus
      cases h1
      exact ⟨[some v, some (.ref q), p2, some (.int a.1), some v2], fun R k => ⟨va, _, rfl, hva, rfl, _, _, rfl, _, _, rfl, rfl, k⟩, rfl, ev_yes, fun H4 s4 => (ev_var (v := v2) rfl).d fun H5 s5 => h2.up (s4.tr s5).tl⟩
    · intro q3 y3 H3 s3 hq30 hq3 hy3
      refine h0 q3 H3 (s2.tr s3) (none_of s2 hq30) ?_
      rw [hq3]
      rw [show ((itNs it).map fun a => some (oD a.2)).filterMap id = (names it).map oD by
        unfold names
        generalize itNs it = l
        induction l with
        | nil => rfl
        | cons x r ih => rw [List.map_cons, List.filterMap_cons, ih]; rfl] at hy3
      rw [dq_oD hy3]
      rfl
end
end K03


set_option Elab.async false
set_option linter.all false
set_option maxRecDepth 100000
set_option maxHeartbeats 4000000
namespace K03
open PySem PySem.Spec PyProof.Rows L2 Rdr Tld Pgr
section
variable {P : Program} {w : World} {K : PySem.W.Frag} {mg : Str → Option Value} {base : Heap}
/-- texts and None in a list -/
theorem inV_oS (z : Str) : ∀ l : List (Option Str), inV (.str z) (l.map oS) = decide (some z ∈ l)
  | [] => by simp [inV]
  | none :: r => by
    have ih := inV_oS z r
    unfold inV at ih ⊢
    rw [List.map_cons, List.any_cons, ih]
    show (false || _) = _
    rw [Bool.false_or]
    exact decide_eq_decide.mpr ⟨fun h => List.mem_cons_of_mem _ h, fun h => by rcases List.mem_cons.mp h with e | h; cases e; exact h⟩
  | some y :: r => by
    have ih := inV_oS z r
    unfold inV at ih ⊢
    rw [List.map_cons, List.any_cons, ih]
    show (eqV (.str y) (.str z) || _) = _
    have e : eqV (.str y) (.str z) = decide (y = z) := by
      show (y == z) = _
      by_cases g : y = z
      · subst g; simp
      · rw [decide_eq_false g]; exact beq_eq_false_iff_ne.mpr g
    rw [e]
    by_cases g : y = z
    · subst g; simp
    · rw [decide_eq_false g, Bool.false_or]
      exact decide_eq_decide.mpr ⟨fun h => List.mem_cons_of_mem _ h, fun h => by rcases List.mem_cons.mp h with e | h; exact absurd (Option.some.inj e).symm g; exact h⟩
theorem flat_oS (l : List (Option Str)) : (l.map oS).all flatV = true := by
  rw [List.all_eq_true]
  intro v hv
  obtain ⟨o, _, rfl⟩ := List.mem_map.mp hv
  cases o <;> rfl
theorem ev_inO {σ : L2.St} {H : Hp} {te tn : TE} {q : Addr} {z : Str} {l : List (Option Str)} (he : EvE te σ H (.str z)) (hn : ∀ H1, Same H H1 → EvE tn σ H1 (.ref q)) (hq : SqL K H q (l.map oS)) : EvE (tOp (rIn K false) te tn) σ H (.bl (decide (some z ∈ l))) :=
  fun Q k => he _ fun H1 s1 => hn H1 s1 _ fun H2 s2 => ⟨q, _, rfl, .inl ((s1.tr s2).sql hq), rfl, flat_oS l, by rw [inV_oS]; exact k H2 (s1.tr s2)⟩
theorem ev_inS {σ : L2.St} {H : Hp} {te tn : TE} {q : Addr} {z : Str} {l : List Str} (he : EvE te σ H (.str z)) (hn : ∀ H1, Same H H1 → EvE tn σ H1 (.ref q)) (hq : SqL K H q (l.map V.str)) : EvE (tOp (rIn K false) te tn) σ H (.bl (decide (z ∈ l))) :=
  fun Q k => he _ fun H1 s1 => hn H1 s1 _ fun H2 s2 => ⟨q, _, rfl, .inl ((s1.tr s2).sql hq), rfl, flat_strs l, by rw [inV_str]; exact k H2 (s1.tr s2)⟩
def spWhat (K : PySem.W.Frag) : Sp := fun vs H Q _ => ∃ (v : V) (it : IT), vs = [v] ∧ Dq K H v (.tuple (itDs it)) ∧ ∀ H', Same H H' → Q (oS (what it)) H'
theorem ok_what_of (T : Tx P w K mg) : FnX P w K mg base CX0 1 "what_of" ["row"] [] (spWhat K) := by
  refine T.d_what_of.ok0 sc_what_of (fun _ _ _ _ _ _ us hl => match us, hl with | [_], _ => rfl) (fun vs H Q E h => ?_) (fun f cdv A outer s H vs Q E hr h => have hu := hu_of hr; ⟨_, (by exact (pss_cons (ps_set (i := 1) sc_what_of.nd rfl (Or.inl rfl) (pe_ifExp (pt_cmpR op_eq (pe_ix ix_tup (pv 0) pe_int (fun _ _ => rfl)) pe_str (nomark _)) (pe_ix ix_tup (pv 0) pe_int (fun _ _ => rfl)) (pe_ix ix_tup (pv 0) pe_int (fun _ _ => rfl))))
      (pss_one (ps_ret (pe_ifExp (pt_cmpR op_in_seq (pv 1) (pe_gref T.g_ONCE) (by rfl)) (pv 1) pe_non))))), ?_⟩)
  · obtain ⟨v, it, rfl, _⟩ := h
    rfl
  obtain ⟨v, it, rfl, hd, h0⟩ := h
  let S : Option V → L2.St := fun z => [some v, z]
  have R0 : ∀ {H2 z}, Same H H2 → EvE (tOp (rIxT K) (tVar 0) (tC (.int 0))) (S z) H2 (.str (it0 it)) := fun s2 => ev_rowS 0 (ev_var rfl) (hd.up s2.tl) (itDs_0 it)
  generalize hW : whatW it = W at *
  refine set_ifV (z := S none) (b := decide (it0 it = "own")) (eq_str (R0 (Same.rf _)) fun _ _ => ev_C) (fun v H' => v = .str W ∧ Same H H') (fun g H2 s2 Q k => ?_) (fun g H2 s2 Q k => ?_) ?_
  · have g := of_decide_eq_true g
    have e : (itDs it)[2]? = some (.str W) := by
      have n0 : ¬ ("if" : Str) = "own" := by decide +kernel
      have n1 : ∀ e : Ln, ¬ e.w = "own" := fun e => by cases e <;> decide +kernel
      have n2 : ¬ (("room" : Str) = "own") := by decide +kernel
      have n3 : ¬ (("set" : Str) = "own") := by decide +kernel
      have n4 : ¬ (("field" : Str) = "own") := by decide +kernel
      have n5 : ¬ (("lay" : Str) = "own") := by decide +kernel
      cases it with
      | ifi l ps a b => exact absurd g n0
      | leaf x =>
        obtain ⟨l, s⟩ := x
        cases s with
        | lone e => exact absurd g (n1 e)
        | room => exact absurd g n2
        | set => exact absurd g n3
        | field => exact absurd g n4
        | lay => exact absurd g n5
        | own gl t => subst hW; rfl
    exact ev_rowS (σ := S none) 2 (ev_var rfl) (hd.up s2.tl) e _ fun H3 s3 => k _ H3 ⟨rfl, s2.tr s3⟩
  · have g := of_decide_eq_false g
    have e : it0 it = W := by
      cases it with
      | ifi l ps a b => exact hW
      | leaf x =>
        obtain ⟨l, s⟩ := x
        cases s with
        | own gl t => exact absurd rfl g
        | _ => exact hW
    have r0 := R0 (z := none) s2
    rw [e] at r0
    exact r0 _ fun H3 s3 => k _ H3 ⟨rfl, s2.tr s3⟩
  · rintro _ H2 ⟨rfl, s2⟩
    have e : what it = if W ∈ onces then some W else none := by unfold what; rw [hW]
    refine ret_go (ev_test (σ := S (some (.str W))) (ev_in (ev_var rfl) (in_top (ns := onces) fun H => T.t_ONCE H)) _ fun H3 s3 => iteB (fun g => ?_) (fun g => ?_))
    · have h := h0 H3 (s2.tr s3)
      rw [e, if_pos (of_decide_eq_true g)] at h
      exact var_go rfl h
    · have h := h0 H3 (s2.tr s3)
      rw [e, if_neg (of_decide_eq_false g)] at h
      exact c_go h
theorem dq_strs {H : Hp} : ∀ {vs : List V} {l : List Str}, DqAll K H vs (l.map PyData.str) → vs = l.map V.str
  | _, [], h => by cases h; rfl
  | _, z :: r, h => by
    cases h with
    | cons h1 h2 => cases h1; rw [dq_strs h2]; rfl
theorem fm_fl (ks : List Str) : ∀ l : List Str, (l.map fun z => if z ∈ ks then some (PyData.str z) else none).filterMap id = (l.filter fun k => decide (k ∈ ks)).map PyData.str
  | [] => rfl
  | x :: r => by
    have ih := fm_fl ks r
    rw [List.map_cons, List.filterMap_cons, List.filter_cons]
    by_cases gx : x ∈ ks
    · rw [if_pos gx, if_pos (decide_eq_true gx)]
      show PyData.str x :: _ = _
      rw [ih]
      rfl
    · rw [if_neg gx, if_neg (by rw [decide_eq_false gx]; decide)]
      exact ih
theorem fl_len (b : Bool) (ks l : List Str) : (fl b ks l).length ≤ l.length := by
  unfold fl
  split
  · exact List.length_filter_le _ _
  · exact Nat.le_refl _
theorem fl_sub (b : Bool) (ks l : List Str) {k : Str} (h : k ∈ fl b ks l) : k ∈ l := by
  unfold fl at h
  split at h
  · exact (List.mem_filter.mp h).1
  · exact h
theorem sl_two {σ : L2.St} {H : Hp} {i : Nat} {v : V} {ds : List PyData} {n : Int} {tn : TE} (hv : σ[i]? = some (some v)) (hd : Dq K H v (.tuple ds)) (h2 : 2 ≤ ds.length) (hn : ∀ H, EvE tn σ H (.int n)) (hh : ∀ H ys, DqAll K H ys (ds.drop 2) → (∀ u, ys.head? = some u → hd1 K H u)) {b : Bool} (hb : ∀ H ys, DqAll K H ys (ds.drop 2) → decide (ys = [.int n]) = b) :
    EvT (tTest (tOp (rEq1 K) (tSl (rSlT K) (tVar i) (L2.tPart (tC (V.int 2))) tNoPart) (tTup (tCons tn tNil)))) σ H b := by
  obtain ⟨va, us, rfl, hva, hus⟩ := Dq.tuple hd
  refine ev_test fun Q k => ⟨_, hv, 2, rfl, va, us, rfl, hva, fun z => absurd z.1 ?_, fun p hp => ?_⟩
  · have := hus.len
    rw [show HT.sIx us.length 0 (some 2) = min 2 _ from HT.sIx_nat _ _ 2]
    omega
  · have s1 : Same H (upd H p (.tup (cutV us (some 2) none))) := Same.new hp
    have i1 : upd H p (.tup (cutV us (some 2) none)) p = some (.tup (us.drop 2)) := by rw [upd_same]; exact congrArg (fun x => some (HO.tup x)) (cut_from us 2)
    generalize upd H p (.tup (cutV us (some 2) none)) = H1 at s1 i1 ⊢
    refine mk_tup (Q := fun y H2 => rEq1 K (.ref p) y H2 Q) (vs := [.int n]) (ev_cons (hn _) fun _ _ => ev_nil) (fun H2 T s2 _ hT => ?_)
    have d2 : DqAll K H2 (us.drop 2) (ds.drop 2) := (hus.up (s1.tr s2).tl).drop 2
    refine ⟨p, us.drop 2, T, n, rfl, rfl, .inl (.inl (s2 _ _ i1)), .inl (.inl hT), hh H2 _ d2, ?_⟩
    rw [hb H2 _ d2]
    exact k _ (s1.tr s2)
theorem row_eq1 (it : IT) {H : Hp} {ys : List V} (h : DqAll K H ys ((itDs it).drop 2)) : (∀ u, ys.head? = some u → hd1 K H u) ∧ decide (ys = [.int 1]) = isUp it ∧ decide (ys = [.int (-1)]) = isDn it := by
  have tp : ∀ {ys : List V} {es r : List PyData}, DqAll K H ys (.tuple es :: r) → (∀ u, ys.head? = some u → hd1 K H u) ∧ decide (ys = [.int 1]) = false ∧ decide (ys = [.int (-1)]) = false := by
    intro ys es r h
    cases h with
    | cons h1 h2 =>
      obtain ⟨p, xs, rfl, hs, _⟩ := Dq.tuple h1
      exact ⟨fun v e => (by cases e; exact .inr (.inr ⟨p, xs, rfl, hs⟩)), decide_eq_false (by intro z; cases z), decide_eq_false (by intro z; cases z)⟩
  have st : ∀ {ys : List V} {z : Str} {r : List PyData}, DqAll K H ys (.str z :: r) → (∀ u, ys.head? = some u → hd1 K H u) ∧ decide (ys = [.int 1]) = false ∧ decide (ys = [.int (-1)]) = false := by
    intro ys z r h
    cases h with
    | cons h1 h2 =>
      cases h1
      exact ⟨fun v e => (by cases e; exact .inl ⟨z, rfl⟩), decide_eq_false (by intro z; cases z), decide_eq_false (by intro z; cases z)⟩
  have nl : ∀ {ys : List V}, DqAll K H ys [] → (∀ u, ys.head? = some u → hd1 K H u) ∧ decide (ys = [.int 1]) = false ∧ decide (ys = [.int (-1)]) = false := by
    intro ys h
    cases h
    exact ⟨fun v e => (by cases e), rfl, rfl⟩
  have it1 : ∀ {ys : List V} {n : Int}, DqAll K H ys [.int n] → (∀ u, ys.head? = some u → hd1 K H u) ∧ ys = [.int n] := by
    intro ys n h
    cases h with
    | cons h1 h2 =>
      cases h1
      cases h2
      exact ⟨fun v e => (by cases e; exact .inr (.inl ⟨n, rfl⟩)), rfl⟩
  cases it with
  | ifi l ps a b => exact tp h
  | leaf x =>
    obtain ⟨l, s⟩ := x
    cases s with
    | room g n => exact st h
    | set g t d => exact st h
    | field g t => exact st h
    | own g t => exact st h
    | lay t => exact tp h
    | lone e =>
      cases e with
      | no => exact nl h
      | quit => exact nl h
      | pack => exact nl h
      | clear => exact nl h
      | takeE => exact st h
      | takeN => exact st h
      | up =>
        obtain ⟨h1, rfl⟩ := it1 h
        exact ⟨h1, decide_eq_true rfl, decide_eq_false (by decide)⟩
      | dn =>
        obtain ⟨h1, rfl⟩ := it1 h
        exact ⟨h1, decide_eq_false (by decide), decide_eq_true rfl⟩
theorem room_yes {it : IT} (h : it0 it = "room") : ∃ n, (itDs it)[3]? = some (.str n) ∧ roomN it = some n := by
  have n0 : ¬ ("if" : Str) = "room" := by decide +kernel
  have n1 : ∀ e : Ln, ¬ e.w = "room" := fun e => by cases e <;> decide +kernel
  have n2 : ¬ (("own" : Str) = "room") := by decide +kernel
  have n3 : ¬ (("set" : Str) = "room") := by decide +kernel
  have n4 : ¬ (("field" : Str) = "room") := by decide +kernel
  have n5 : ¬ (("lay" : Str) = "room") := by decide +kernel
  cases it with
  | ifi l ps a b => exact absurd h n0
  | leaf x =>
    obtain ⟨l, s⟩ := x
    cases s with
    | lone e => exact absurd h (n1 e)
    | own => exact absurd h n2
    | set => exact absurd h n3
    | field => exact absurd h n4
    | lay => exact absurd h n5
    | room g n => exact ⟨n, rfl, rfl⟩
theorem room_no {it : IT} (h : ¬ it0 it = "room") : roomN it = none := by
  cases it with
  | ifi l ps a b => rfl
  | leaf x =>
    obtain ⟨l, s⟩ := x
    cases s with
    | room g n => exact absurd rfl h
    | _ => rfl
def spKinds (K : PySem.W.Frag) : Sp := fun vs H Q _ => ∃ (v : V) (it : IT), vs = [v] ∧ Dq K H v (.tuple (itDs it)) ∧ okIt it ∧ (itNs it).length ≤ 1000 ∧ ∀ q H', Same H H' → H q = none → H' q = some (.lst ((pkinds it).map V.str)) → Q (.ref q) H'
theorem ok_page_kinds (T : Tx P w K mg) : FnX P w K mg base CX0 2 "page_kinds" ["row"] [] (spKinds K) := by
  have F_page_names := ok_page_names (P := P) (w := w) (base := base) T
  refine T.d_page_kinds.ok0 sc_page_kinds (fun _ _ _ _ _ _ us hl => match us, hl with | [_], _ => rfl) (fun vs H Q E h => ?_) (fun f cdv A outer s H vs Q E hr h => have hu := hu_of hr; ⟨_, (by exact (pss_cons (ps_set (i := 1) sc_page_kinds.nd rfl (Or.inl rfl) (pe_lst (pa_cons pe_str (pa_cons pe_str (pa_cons pe_str (pa_cons pe_str pa_nil))))))
      (pss_cons (ps_par (i := 2) (j := 3) (by rfl) sc_page_kinds.nd rfl rfl (by decide) rfl rfl (pa_cons (pe_ix ix_tup (pv 0) pe_int (fun _ _ => rfl)) (pa_cons (pe_callX F_page_names (hr.mono (by first | decide | omega)) pass0 (pa_cons (pv 0) pa_nil)) pa_nil)) (by rfl))
      (pss_cons (ps_set (i := 4) sc_page_kinds.nd rfl (Or.inl rfl) (pe_ifExp (pt_cmpR op_eq (pv 2) pe_str (nomark _)) (pe_lc (own := [("part", 5)]) (g := (gName 5)) (tt := tYes) (by rfl) sc_page_kinds.nd (pi_tup (pe_ix ix_tup (pv 0) pe_int (fun _ _ => rfl))) (blkOk_by (own := [("part", 5)]) (N := ["row", "found", "word", "names", "parts", "part", "kind"]) (sc := defScope s_page_kinds) (by decide +kernel)) (fun _ _ _ _ _ => (pg_name (i := 5) sc_page_kinds.nd rfl (Or.inl rfl))) (fun _ _ _ _ _ => pts_nil) (fun _ _ _ _ _ => (pe_ix (ixT_at (K := K)) (pv 5) pe_int (fun _ _ => rfl)))) (pe_lst pa_nil)))
      (pss_cons (ps_if (PW.pt (pw_or (pt_cmpR op_eq (pv 2) pe_str (nomark _)) (pw_or (pt_cmpR op_in_seq pe_str (pv 4) (by rfl)) (pw_or1 (pt_cmpR (op_eq1 hr.units) (pe_slice sl_tup (pv 0) (po_some pe_int) po_none) (pe_tup (pa_cons pe_int pa_nil)) (nomark _)))))) (pss_one (ps_setLc (i := 1) (own := [("kind", 6)]) (g := (gName 6))  (by rfl) sc_page_kinds.nd rfl rfl (sw_true rfl rfl rfl (by decide +kernel)) (pi_list (pv 1)) (blkOk_by (own := [("kind", 6)]) (N := ["row", "found", "word", "names", "parts", "part", "kind"]) (sc := defScope s_page_kinds) (by decide +kernel)) (fun _ _ _ _ _ => (pg_name (i := 6) sc_page_kinds.nd rfl (Or.inl rfl))) (fun _ _ _ _ _ => (pts_one (pt_cmpR op_eq (pv 6) pe_str (nomark _)))) (fun _ _ _ _ _ => (pv 6)))) pss_nil)
      (pss_cons (ps_if (pt_cmpR (op_eq1 hr.units) (pe_slice sl_tup (pv 0) (po_some pe_int) po_none) (pe_tup (pa_cons (pe_un un_neg pe_int) pa_nil)) (nomark _)) (pss_one (ps_setLc (i := 1) (own := [("kind", 6)]) (g := (gName 6))  (by rfl) sc_page_kinds.nd rfl rfl (sw_true rfl rfl rfl (by decide +kernel)) (pi_list (pv 1)) (blkOk_by (own := [("kind", 6)]) (N := ["row", "found", "word", "names", "parts", "part", "kind"]) (sc := defScope s_page_kinds) (by decide +kernel)) (fun _ _ _ _ _ => (pg_name (i := 6) sc_page_kinds.nd rfl (Or.inl rfl))) (fun _ _ _ _ _ => (pts_one (pt_cmpR op_eq (pv 6) pe_str (nomark _)))) (fun _ _ _ _ _ => (pv 6)))) pss_nil)
      (pss_cons (ps_if (PW.pt (pw_or (pt_cmpR op_eq (pv 2) pe_str (nomark _)) (pw_or1 (PW.pt (pw_and (pt_cmpR op_eq (pv 2) pe_str (nomark _)) (pw_and1 (pt_cmpR op_eq (pe_ix ix_tup (pv 0) pe_int (fun _ _ => rfl)) pe_str (nomark _)))))))) (pss_one (ps_setLc (i := 1) (own := [("kind", 6)]) (g := (gName 6))  (by rfl) sc_page_kinds.nd rfl rfl (sw_true rfl rfl rfl (by decide +kernel)) (pi_list (pv 1)) (blkOk_by (own := [("kind", 6)]) (N := ["row", "found", "word", "names", "parts", "part", "kind"]) (sc := defScope s_page_kinds) (by decide +kernel)) (fun _ _ _ _ _ => (pg_name (i := 6) sc_page_kinds.nd rfl (Or.inl rfl))) (fun _ _ _ _ _ => (pts_one (pt_cmpR (inS_at (K := K)) (pv 6) (pe_tup (pa_cons pe_str (pa_cons pe_str pa_nil))) (by rfl)))) (fun _ _ _ _ _ => (pv 6)))) pss_nil)
      (pss_cons (ps_if (PW.pt (pw_or (pt_cmpR op_in_seq (pv 2) (pe_tup (pa_cons pe_str (pa_cons pe_str pa_nil))) (by rfl)) (pw_or (pt_cmpR op_in_seq pe_str (pv 3) (by rfl)) (pw_or1 (PW.pt (pw_and (pt_cmpR op_eq (pv 2) pe_str (nomark _)) (pw_and1 (pt_cmpR op_eq (pe_ix ix_tup (pv 0) pe_int (fun _ _ => rfl)) pe_str (nomark _))))))))) (pss_one (ps_setLc (i := 1) (own := [("kind", 6)]) (g := (gName 6))  (by rfl) sc_page_kinds.nd rfl rfl (sw_true rfl rfl rfl (by decide +kernel)) (pi_list (pv 1)) (blkOk_by (own := [("kind", 6)]) (N := ["row", "found", "word", "names", "parts", "part", "kind"]) (sc := defScope s_page_kinds) (by decide +kernel)) (fun _ _ _ _ _ => (pg_name (i := 6) sc_page_kinds.nd rfl (Or.inl rfl))) (fun _ _ _ _ _ => (pts_one (pt_cmpR (inS_at (K := K)) (pv 6) (pe_tup (pa_cons pe_str (pa_cons pe_str pa_nil))) (by rfl)))) (fun _ _ _ _ _ => (pv 6)))) pss_nil)
      (pss_cons (ps_if (PW.pt (pw_or (pt_cmpR op_eq (pv 2) pe_str (nomark _)) (pw_or (pt_cmpR op_in_seq pe_str (pv 3) (by rfl)) (pw_or (pt_cmpR op_in_seq pe_str (pv 3) (by rfl)) (pw_or1 (pt_cmpR op_in_seq pe_str (pv 4) (by rfl))))))) (pss_one (ps_setLc (i := 1) (own := [("kind", 6)]) (g := (gName 6))  (by rfl) sc_page_kinds.nd rfl rfl (sw_true rfl rfl rfl (by decide +kernel)) (pi_list (pv 1)) (blkOk_by (own := [("kind", 6)]) (N := ["row", "found", "word", "names", "parts", "part", "kind"]) (sc := defScope s_page_kinds) (by decide +kernel)) (fun _ _ _ _ _ => (pg_name (i := 6) sc_page_kinds.nd rfl (Or.inl rfl))) (fun _ _ _ _ _ => (pts_one (pt_cmpR op_ne (pv 6) pe_str (nomark _)))) (fun _ _ _ _ _ => (pv 6)))) pss_nil)
      (pss_one (ps_ret (pv 1)))))))))))), ?_⟩)
  · obtain ⟨v, it, rfl, _⟩ := h
    rfl
  obtain ⟨v, it, rfl, hd, hok, hn, h0⟩ := h
  have q9 : sizeLine = 16777216 := sizeLine_eq
  have dsl : 2 ≤ (itDs it).length := by
    cases it with
    | leaf x => show 2 ≤ (PyData.str _ :: PyData.int _ :: _).length; simp
    | ifi l ps a b => show 2 ≤ 5; decide
  refine set_lst (vs := kinds4.map V.str) (ev_cons ev_C fun _ _ => ev_cons ev_C fun _ _ => ev_cons ev_C fun _ _ => ev_cons ev_C fun _ _ => ev_nil) fun H1 f0 s1 hf00 hf0 => ?_
  refine par_go (cons_go (ev_rowS 0 (ev_var rfl) (hd.up s1.tl) (itDs_0 it) _ fun H2 s2 => cons_go (call_go (cons_go (var_go rfl (nil_go ⟨v, it, rfl, hd.up (s1.tr s2).tl, hok, hn, fun nq H3 s3 hn0 hnq => nil_go ⟨_, _, rfl, ?_⟩⟩))))))
  have s03 := s1.tr (s2.tr s3)
  refine set_ifV (z := [some v, some (.ref f0), some (.str (it0 it)), some (.ref nq), none, none, none]) (b := decide (it0 it = "if")) (eq_str (ev_var rfl) fun _ _ => ev_C) (fun u H' => ∃ pq, u = .ref pq ∧ Same H3 H' ∧ H' pq = some (.lst ((parts0 it).map V.str))) (fun g H4 s4 Q k => ?_) (fun g H4 s4 Q k => ?_) ?_
  · have g := of_decide_eq_true g
    cases it with
    | leaf x => exact absurd g (sh_ne_if x.s)
    | ifi l ps ra rb =>
      have hd4 := hd.up (s03.tr s4).tl
      obtain ⟨p, us, he, hp, hu⟩ := ev_rowT (tv := tVar 0) (σ := [some v, some (.ref f0), some (.str (it0 (.ifi l ps ra rb))), some (.ref nq), none, none, none]) (H := H4) (v := v) 2 (ev_var rfl) hd4 rfl
      obtain ⟨hul, hua⟩ := dq_map hu
      have hps : ps.length ≤ 4 := hok.1
      refine lct_dq (ps.map fun p => some (PyData.str (part0 p))) he hp (by rw [List.length_map]; exact hul.symm) (by rw [List.length_map]; omega) ?_ ?_
      · intro i u o H5 hu5 ho s5
        obtain ⟨pp, hpi, hxd⟩ := hua i u hu5
        rw [List.getElem?_map, hpi] at ho
        cases ho
        exact ⟨[some v, some (.ref f0), some (.str (it0 (.ifi l ps ra rb))), some (.ref nq), none, some u, none], fun R k => k, rfl, ev_yes, fun H6 s6 => (ev_rowS 0 (ev_var rfl) ((hxd.up s5.tl).up s6.tl) (pds_0 pp)).d fun _ _ => .str _⟩
      · intro q ys H5 s5 _ hq hys
        rw [show (ps.map fun p => some (PyData.str (part0 p))).filterMap id = (ps.map part0).map PyData.str by
          rw [fm_some, List.map_map]; rfl] at hys
        have ey := dq_strs hys
        subst ey
        exact k _ H5 ⟨q, rfl, s4.tr s5, hq⟩
  · have g := of_decide_eq_false g
    cases it with
    | ifi l ps ra rb => exact absurd rfl g
    | leaf x => exact mk_lst (vs := []) ev_nil fun H5 q s5 _ hq => k _ H5 ⟨q, rfl, s4.tr s5, hq⟩
  rintro _ H4 ⟨pq, rfl, s4, hpq⟩
  have s04 := s03.tr s4
  have hn4 := s4 _ _ hnq
  have hf4 := s4 _ _ (s3 _ _ (s2 _ _ hf0))
  let S : Addr → Option V → L2.St := fun f kd => [some v, some (.ref f), some (.str (it0 it)), some (.ref nq), some (.ref pq), none, kd]
  have flt : ∀ {r : TS} {D : Ends} {H5 : Hp} {tst tt : TT} {b : Bool} {ks l : List Str} {fa : Addr}, Same H4 H5 → H fa = none → H5 fa = some (.lst (l.map V.str)) → l.length ≤ 4 → EvT tst (S fa none) H5 b → (∀ k ∈ l, ∀ H6, Same H4 H6 → EvT tt (S fa (some (.str k))) H6 (decide (k ∈ ks))) →
      (∀ H6 fb, Same H4 H6 → H fb = none → H6 fb = some (.lst ((fl b ks l).map V.str)) → r D (S fb none) H6) → tSeq (tIfS tst (tAsg (tLc (iList K (tVar 1)) (gName 6) tt (tVar 6) (List.map (fun x => x.snd) [(Str.ofString "kind", 6)])) (gName 1)) tNext) r D (S fa none) H5 := by
    intro r D H5 tst tt b ks l fa s5 hfa0 hfa hl ht htt k
    refine seq_if ht (fun g H6 s6 => ?_) (fun g H6 s6 => ?_)
    · refine asg_go0 (lc_dq (l.map fun z => if z ∈ ks then some (PyData.str z) else none) (ev_var rfl) (.inl (.inl (s6 _ _ hfa))) (by rw [List.length_map, List.length_map]) (by rw [List.length_map]; omega) ?_ ?_)
      · intro i u o H7 hu7 ho s7
        rw [List.getElem?_map] at hu7 ho
        obtain ⟨z, hz, rfl⟩ := Option.map_eq_some_iff.mp hu7
        rw [hz] at ho
        cases ho
        have h1 := htt z (List.mem_of_getElem? hz) H7 (s5.tr (s6.tr s7))
        refine ⟨S fa (some (.str z)), fun R k => k, rfl, ?_⟩
        dsimp only
        by_cases gz : z ∈ ks
        · rw [decide_eq_true gz] at h1
          rw [if_pos gz]
          exact ⟨h1, fun H8 s8 => (ev_var (v := .str z) rfl).d fun _ _ => .str _⟩
        · rw [decide_eq_false gz] at h1
          rw [if_neg gz]
          exact h1
      · intro q ys H7 s7 hq0 hq hys
        rw [show (l.map fun z => if z ∈ ks then some (PyData.str z) else none).filterMap id = (fl b ks l).map PyData.str by rw [g]; exact fm_fl ks l] at hys
        have ey := dq_strs hys
        subst ey
        exact k H7 q (s5.tr (s6.tr s7)) (none_of (s04.tr (s5.tr s6)) hq0) hq
    · refine k H6 fa (s5.tr s6) hfa0 ?_
      rw [g]
      exact s6 _ _ hfa
  have hd4 := hd.up s04.tl
  have w2 : ∀ {fa H6}, EvE (tVar 2) (S fa none) H6 (.str (it0 it)) := ev_var rfl
  have inP : ∀ {fa H6} (z : Str), Same H4 H6 → EvT (tTest (tOp (rIn K false) (tC (.str z)) (tVar 4))) (S fa none) H6 (decide (z ∈ parts0 it)) := fun z s6 => ev_test (ev_inS ev_C (fun _ _ => ev_var rfl) (.inl (.inl (s6 _ _ hpq))))
  have inN : ∀ {fa H6} (z : Str), Same H4 H6 → EvT (tTest (tOp (rIn K false) (tC (.str z)) (tVar 3))) (S fa none) H6 (decide (some z ∈ names it)) := fun z s6 => ev_test (ev_inO ev_C (fun _ _ => ev_var rfl) (.inl (.inl (s6 _ _ hn4))))
  have rm : ∀ {fa H6} (z : Str), Same H4 H6 → EvT (tAnd (tTest (tOp rEq (tVar 2) (tC (V.str "room")))) (tTest (tOp rEq (tOp (rIxT K) (tVar 0) (tC (V.int 3))) (tC (V.str z))))) (S fa none) H6 (decide (roomN it = some z)) := fun {fa H6} z s6 => by
    by_cases g : it0 it = "room"
    · obtain ⟨n, e1, e2⟩ := room_yes g
      refine (ev_and (eq_str w2 fun _ _ => ev_C) fun _ H7 s7 => eq_str (ev_rowS 3 (ev_var rfl) (hd4.up (s6.tr s7).tl) e1) fun _ _ => ev_C).eq ?_
      rw [decide_eq_true g, e2, Bool.true_and]
      exact decide_eq_decide.mpr ⟨fun h => by rw [h], fun h => Option.some.inj h⟩
    · refine (ev_and (b2 := false) (eq_str w2 fun _ _ => ev_C) fun h => absurd (of_decide_eq_true h) g).eq ?_
      rw [room_no g, Bool.and_false]
      exact (decide_eq_false (by intro z; cases z)).symm
  have kd : ∀ {fa H6} (k z : Str), EvT (tTest (tOp rEq (tVar 6) (tC (.str z)))) (S fa (some (.str k))) H6 (decide (k ∈ [z])) := fun k z => (eq_str (ev_var rfl) fun _ _ => ev_C).eq (decide_eq_decide.mpr (by simp))
  have kd2 : ∀ {fa H6} (k y z : Str), EvT (tTest (tOp (rIn K false) (tVar 6) (tTup (tCons (tC (.str y)) (tCons (tC (.str z)) tNil))))) (S fa (some (.str k))) H6 (decide (k ∈ [y, z])) := fun k y z => ev_test (ev_in (ev_var rfl) (in_tup (ns := [y, z]) fun _ => ev_cons ev_C fun _ _ => ev_cons ev_C fun _ _ => ev_nil))
  refine flt (b := k1 it) (ks := ["put"]) (l := kinds4) (Same.rf _) hf00 hf4 (by decide) (ev_or (eq_str w2 fun _ _ => ev_C) fun _ H6 s6 => ev_or (inP "empty" s6) fun _ H7 s7 => sl_two rfl (hd4.up (s6.tr s7).tl) dsl (fun _ => ev_C) (fun H ys h => (row_eq1 it h).1) (fun H ys h => (row_eq1 it h).2.1)) (fun k _ H6 s6 => kd k "put") fun H5 f1 s5 hf10 hf1 => ?_
  have e1 := Nat.le_trans (fl_len (k1 it) ["put"] kinds4) (show kinds4.length ≤ 4 by decide)
  refine flt (b := isDn it) (ks := ["strike"]) s5 hf10 hf1 e1 (sl_two rfl (hd4.up s5.tl) dsl (fun _ => ev_m1) (fun H ys h => (row_eq1 it h).1) (fun H ys h => (row_eq1 it h).2.2)) (fun k _ H6 s6 => kd k "strike") fun H6 f2 s6 hf20 hf2 => ?_
  have e2 := Nat.le_trans (fl_len (isDn it) ["strike"] _) e1
  refine flt (b := k3 it) (ks := ["strike", "set"]) s6 hf20 hf2 e2 (ev_or (eq_str w2 fun _ _ => ev_C) fun _ H7 s7 => rm "own.len" (s6.tr s7)) (fun k _ H6 s6 => kd2 k _ _) fun H7 f3 s7 hf30 hf3 => ?_
  have e3 := Nat.le_trans (fl_len (k3 it) ["strike", "set"] _) e2
  refine flt (b := k4 it) (ks := ["put", "set"]) s7 hf30 hf3 e3 (ev_or (ev_test (ev_in w2 (in_tup (ns := ["no", "lay"]) fun _ => ev_cons ev_C fun _ _ => ev_cons ev_C fun _ _ => ev_nil))) fun _ H8 s8 => ev_or (inN "len" (s7.tr s8)) fun _ H9 s9 => rm "len" (s7.tr (s8.tr s9))) (fun k _ H6 s6 => kd2 k _ _) fun H8 f4 s8 hf40 hf4 => ?_
  have e4 := Nat.le_trans (fl_len (k4 it) ["put", "set"] _) e3
  refine flt (b := k5 it) (ks := ["put", "strike", "set"]) s8 hf40 hf4 e4 (ev_or (eq_str w2 fun _ _ => ev_C) fun _ H9 s9 => ev_or (inN "own.at" (s8.tr s9)) fun _ Ha sa => ev_or (inN "own.len" (s8.tr (s9.tr sa))) fun _ Hb sb => inP "last" (s8.tr (s9.tr (sa.tr sb)))) (fun k hk H6 s6 => ?_) fun H9 f5 s9 hf50 hf5 => ?_
  · refine (ne_str (ev_var rfl) fun _ _ => ev_C).eq ?_
    have hk4 : k ∈ kinds4 := fl_sub _ _ _ (fl_sub _ _ _ (fl_sub _ _ _ (fl_sub _ _ _ hk)))
    revert hk4
    have key : ∀ k ∈ kinds4, (!decide (k = "pack")) = decide (k ∈ (["put", "strike", "set"] : List Str)) := by decide +kernel
    exact key k
  · exact ret_go (var_go rfl (h0 f5 H9 (s04.tr s9) hf50 hf5))
end
end K03


set_option Elab.async false
set_option linter.all false
set_option maxRecDepth 100000
set_option maxHeartbeats 4000000
namespace K03
open PySem PySem.Spec PyProof.Rows L2 Rdr Tld Pgr
section
variable {P : Program} {w : World} {K : PySem.W.Frag} {mg : Str → Option Value} {base : Heap}
def mI (l : List Nat) : List V := l.map fun n => V.int (n : Nat)
/-- the dict of settings: how often each register was set -/
def DOk (kvs : List (Key × V)) (st : List Str) : Prop := (∀ g : Str, valV kvs (.inr g) = if ctr g st = 0 then none else some (.int (ctr g st : Nat))) ∧ kvs.length ≤ st.length
theorem putK_len {κ : Type} [DecidableEq κ] (kvs : List (κ × V)) (k : κ) (v : V) : (putK kvs k v).length ≤ kvs.length + 1 := by
  unfold putK
  split
  · rw [List.length_map]; omega
  · rw [List.length_append]; exact Nat.le_refl _
theorem ctr_app (g y : Str) (st : List Str) : ctr g (st ++ [y]) = ctr g st + if y = g then 1 else 0 := by
  unfold ctr
  rw [List.countP_append, List.countP_cons, List.countP_nil, Nat.zero_add]
  simp
theorem DOk.put {kvs : List (Key × V)} {st : List Str} (h : DOk kvs st) (y : Str) : DOk (putK kvs (.inr y) (.int ((ctr y st + 1 : Nat) : Int))) (st ++ [y]) := by
  refine ⟨fun g => ?_, ?_⟩
  · rw [valV_put, ctr_app]
    by_cases e : g = y
    · subst e
      rw [if_pos rfl, if_pos rfl, if_neg (by omega)]
    · rw [if_neg (fun z => e (Sum.inr.inj z)), show (if y = g then 1 else 0) = 0 from if_neg (fun z => e z.symm), Nat.add_zero]
      exact h.1 g
  · rw [List.length_append]
    exact Nat.le_trans (putK_len _ _ _) (Nat.add_le_add_right h.2 1)
theorem DOk.get {kvs : List (Key × V)} {st : List Str} (h : DOk kvs st) (y : Str) : (valV kvs (.inr y)).getD (.int 0) = .int (ctr y st : Nat) := by
  rw [h.1 y]
  by_cases e : ctr y st = 0
  · rw [if_pos e, e]; rfl
  · rw [if_neg e]; rfl
structure WdA (H : Hp) (f d g : Addr) (H' : Hp) (l : List Nat) (st : List Str) (dn : List (Option Str)) : Prop where
  hs : Same H H'
  hf : H' f = some (.lst (mI l))
  hd : ∃ kvs, H' d = some (.dK kvs) ∧ DOk kvs st
  hg : H' g = some (.lst (dn.map oS))
  fg : f ≠ g
  f0 : H f = none
  d0 : H d = none
  g0 : H g = none
section
variable {H H' H2 : Hp} {f d g : Addr} {l : List Nat} {st : List Str} {dn : List (Option Str)}
theorem WdA.fd (h : WdA H f d g H' l st dn) : f ≠ d := fun e => by
  obtain ⟨kvs, h1, _⟩ := h.hd
  have := h.hf
  rw [e, h1] at this
  cases this
theorem WdA.gd (h : WdA H f d g H' l st dn) : g ≠ d := fun e => by
  obtain ⟨kvs, h1, _⟩ := h.hd
  have := h.hg
  rw [e, h1] at this
  cases this
theorem WdA.up (h : WdA H f d g H' l st dn) (s : Same H' H2) : WdA H f d g H2 l st dn := ⟨h.hs.tr s, s _ _ h.hf, (by obtain ⟨kvs, h1, h2⟩ := h.hd; exact ⟨kvs, s _ _ h1, h2⟩), s _ _ h.hg, h.fg, h.f0, h.d0, h.g0⟩
theorem WdA.app (h : WdA H f d g H' l st dn) (n : Nat) : WdA H f d g (upd H' f (.lst (mI l ++ [.int (n : Nat)]))) (l ++ [n]) st dn :=
  ⟨h.hs.mut h.f0, (by rw [upd_same]; simp [mI]), (by obtain ⟨kvs, h1, h2⟩ := h.hd; exact ⟨kvs, (by rw [upd_ne (Ne.symm h.fd)]; exact h1), h2⟩), (by rw [upd_ne (Ne.symm h.fg)]; exact h.hg), h.fg, h.f0, h.d0, h.g0⟩
theorem WdA.don (h : WdA H f d g H' l st dn) (o : Option Str) : WdA H f d g (upd H' g (.lst (dn.map oS ++ [oS o]))) l st (dn ++ [o]) :=
  ⟨h.hs.mut h.g0, (by rw [upd_ne h.fg]; exact h.hf), (by obtain ⟨kvs, h1, h2⟩ := h.hd; exact ⟨kvs, (by rw [upd_ne (Ne.symm h.gd)]; exact h1), h2⟩), (by rw [upd_same, List.map_append]; rfl), h.fg, h.f0, h.d0, h.g0⟩
theorem WdA.put (h : WdA H f d g H' l st dn) {kvs : List (Key × V)} (hk : DOk kvs st) (y : Str) : WdA H f d g (upd H' d (.dK (putK kvs (.inr y) (.int ((ctr y st + 1 : Nat) : Int))))) l (st ++ [y]) dn :=
  ⟨h.hs.mut h.d0, (by rw [upd_ne h.fd]; exact h.hf), ⟨_, upd_same, hk.put y⟩, (by rw [upd_ne h.gd]; exact h.hg), h.fg, h.f0, h.d0, h.g0⟩
end
/-- any([word in done for word in (..)]) -/
theorem any_done {o0 o1 o2 o3 o5 o6 o7 o8 o9 : Option V} {H : Hp} {g : Addr} {dn : List (Option Str)} {ks : List Str} {ta : TA} (hg : H g = some (.lst (dn.map oS))) (ha : ∀ H, EvA ta [o0, o1, o2, o3, some (.ref g), o5, o6, o7, o8, o9] H (ks.map V.str)) (hk : Nat.ble (ks.map V.str).length 1000 = true) :
    EvT (tB (tCB (rAny K) (tCons (tLc (iTup K (tTup ta)) (gName 7) tYes (tOp (rIn K false) (tVar 7) (tVar 4)) (List.map (fun x => x.snd) [(Str.ofString "word", 7)])) tNil))) [o0, o1, o2, o3, some (.ref g), o5, o6, o7, o8, o9] H (anyDone ks dn) := by
  intro R k
  refine cb_go (cons_go ?_)
  refine lct_of (fun pa xs H1 => Same H H1 ∧ H1 pa = some (.tup xs) ∧ xs = ks.map V.str) (fun R hR => mk_tup (ha H) (fun H1 T s1 _ hT => hR T _ H1 ⟨s1, hT, rfl⟩) hk) ?_
  rintro pa _ H1 ⟨s1, hpa, rfl⟩
  have hkl : ks.length ≤ 1000 := by rw [List.length_map] at hk; exact Nat.le_of_ble_eq_true hk
  refine lct_dq (ks.map fun z => some (PyData.bool (decide (some z ∈ dn)))) ev_C (.inl (.inl hpa)) (by rw [List.length_map, List.length_map]) (by rw [List.length_map]; omega) ?_ ?_
  · intro i u o H2 hu2 ho s2
    rw [List.getElem?_map] at hu2 ho
    obtain ⟨z, hz, rfl⟩ := Option.map_eq_some_iff.mp hu2
    rw [hz] at ho
    cases ho
    exact ⟨[o0, o1, o2, o3, some (.ref g), o5, o6, some (.str z), o8, o9], fun R k => k, rfl, ev_yes, fun H3 s3 => EvE.d (v := .bl (decide (some z ∈ dn))) (ev_inO (ev_var rfl) (fun _ _ => ev_var rfl) (.inl (.inl (s3 _ _ (s2 _ _ (s1 _ _ hg)))))) fun _ _ => .bl _⟩
  · intro q ys H2 s2 _ hq hys
    rw [show (ks.map fun z => some (PyData.bool (decide (some z ∈ dn)))).filterMap id = (ks.map fun k => decide (some k ∈ dn)).map PyData.bool by rw [fm_some, List.map_map]; rfl] at hys
    have ey := dq_bools hys
    subst ey
    exact nil_go ⟨q, _, rfl, .inl (.inl hq), _, rfl, k H2 (s1.tr s2)⟩
theorem set_room {it : IT} : (it0 it ∈ (["set", "room"] : List Str) → ∃ g, stKey it = some g ∧ (itDs it)[2]? = some (.str g)) ∧ (it0 it ∉ (["set", "room"] : List Str) → stKey it = none) := by
  have n0 : ¬ ("if" : Str) ∈ (["set", "room"] : List Str) := by decide +kernel
  have n1 : ∀ e : Ln, ¬ e.w ∈ (["set", "room"] : List Str) := fun e => by cases e <;> decide +kernel
  have n2 : ¬ (("own" : Str) ∈ (["set", "room"] : List Str)) := by decide +kernel
  have n4 : ¬ (("field" : Str) ∈ (["set", "room"] : List Str)) := by decide +kernel
  have n5 : ¬ (("lay" : Str) ∈ (["set", "room"] : List Str)) := by decide +kernel
  have y1 : ("set" : Str) ∈ (["set", "room"] : List Str) := by decide +kernel
  have y2 : ("room" : Str) ∈ (["set", "room"] : List Str) := by decide +kernel
  cases it with
  | ifi l ps a b => exact ⟨fun h => absurd h n0, fun _ => rfl⟩
  | leaf x =>
    obtain ⟨l, s⟩ := x
    cases s with
    | lone e => exact ⟨fun h => absurd h (n1 e), fun _ => rfl⟩
    | own => exact ⟨fun h => absurd h n2, fun _ => rfl⟩
    | field => exact ⟨fun h => absurd h n4, fun _ => rfl⟩
    | lay => exact ⟨fun h => absurd h n5, fun _ => rfl⟩
    | set g t d => exact ⟨fun _ => ⟨g, rfl, rfl⟩, fun h => absurd y1 h⟩
    | room g n => exact ⟨fun _ => ⟨g, rfl, rfl⟩, fun h => absurd y2 h⟩
theorem set_div {it : IT} : (it0 it = "set" → ∃ d, (itDs it)[4]? = some (oIP d) ∧ isDiv it = d.isSome) ∧ (¬ it0 it = "set" → isDiv it = false) := by
  have n0 : ¬ ("if" : Str) = "set" := by decide +kernel
  have n1 : ∀ e : Ln, ¬ e.w = "set" := fun e => by cases e <;> decide +kernel
  have n2 : ¬ (("own" : Str) = "set") := by decide +kernel
  have n3 : ¬ (("room" : Str) = "set") := by decide +kernel
  have n4 : ¬ (("field" : Str) = "set") := by decide +kernel
  have n5 : ¬ (("lay" : Str) = "set") := by decide +kernel
  cases it with
  | ifi l ps a b => exact ⟨fun h => absurd h n0, fun _ => rfl⟩
  | leaf x =>
    obtain ⟨l, s⟩ := x
    cases s with
    | lone e => exact ⟨fun h => absurd h (n1 e), fun _ => rfl⟩
    | own => exact ⟨fun h => absurd h n2, fun _ => rfl⟩
    | room => exact ⟨fun h => absurd h n3, fun _ => rfl⟩
    | field => exact ⟨fun h => absurd h n4, fun _ => rfl⟩
    | lay => exact ⟨fun h => absurd h n5, fun _ => rfl⟩
    | set g t d => exact ⟨fun _ => ⟨d, rfl, by cases d <;> rfl⟩, fun h => absurd rfl h⟩
theorem ifL_len (b : Bool) (n : Nat) : (ifL b n).length ≤ 1 := by cases b <;> simp [ifL]
theorem w1_len (it : IT) (st : List Str) (dv : Nat) (dn : List (Option Str)) : (wr1 it st dv dn).length ≤ 5 := by
  have k1 := ifL_len (wa1 it st) (itL it)
  have k2 := ifL_len (wa2 it dv) (itL it)
  have k3 := ifL_len (wa3 it dn) (itL it)
  have k4 := ifL_len (wa4 it dn) (itL it)
  have k5 := ifL_len (wa5 it dn) (itL it)
  unfold wr1
  rw [List.length_append, List.length_append, List.length_append, List.length_append]
  omega
theorem wg_len : ∀ (w : List IT) (st : List Str) (dv : Nat) (dn : List (Option Str)), (wrGo w st dv dn).length ≤ 5 * w.length
  | [], _, _, _ => Nat.le_refl _
  | it :: r, st, dv, dn => by
    have h1 := w1_len it st dv dn
    have h2 := wg_len r (st ++ (stKey it).toList) (if isDiv it then dv + 1 else dv) (dn ++ [what it])
    show (wr1 it st dv dn ++ wrGo r _ _ _).length ≤ _
    rw [List.length_append, List.length_cons]
    omega
theorem dput_go {td ty tv : TE} {s : TS} {D : Ends} {z : L2.St} {H : Hp} (h : tv z H fun v H1 => td z H1 fun x H2 => ty z H2 fun y H3 => ∃ a H4, x = .ref a ∧ DPut H3 a y v H4 ∧ s D z H4) : tSeq (sDPut td ty tv) s D z H := h
theorem nx_ifq {t : TT} {s u r : TS} {D : Ends} {z : L2.St} {H : Hp} (h : tIfS t s u { nx := r D, rt := D.rt, bk := D.bk, ct := D.ct } z H) : tSeq (tIfS t s u) r D z H := h
theorem oS_eq (o : Option Str) (z : Str) : decide (oS o = .str z) = decide (o = some z) := by
  cases o with
  | none => exact (decide_eq_false (by intro h; cases h)).trans (decide_eq_false (by intro h; cases h)).symm
  | some y => exact decide_eq_decide.mpr ⟨fun h => by cases h; rfl, fun h => by cases h; rfl⟩
theorem sc_oS (o : Option Str) (z : Str) : scal (oS o) (.str z) = true := by cases o <;> rfl
theorem nx_eq {N : L2.St → Hp → Prop} {σ σ2 : L2.St} {H : Hp} (e : σ = σ2) (h : N σ2 H) : N σ H := e ▸ h
theorem nx_drop {te : TE} {D : Ends} {σ : L2.St} {H : Hp} {r : VK} {b c : L2.St → Hp → Prop} (h : te σ H fun _ H1 => D.nx σ H1) : Ends.nx { nx := tDrop te D, rt := r, bk := b, ct := c } σ H := h
theorem nx_ifx {t : TT} {s u : TS} {D : Ends} {σ : L2.St} {H : Hp} {r : VK} {b c : L2.St → Hp → Prop} (h : tIfS t s u D σ H) : Ends.nx { nx := tIfS t s u D, rt := r, bk := b, ct := c } σ H := h
def spWay (K : PySem.W.Frag) : Sp := fun vs H Q _ => ∃ (wa : Addr) (ms : List V) (wl : List IT), vs = [.ref wa] ∧ SqL K H wa ms ∧ DqAll K H ms (wl.map (It.toD PgRow.ds pds)) ∧ (∀ it ∈ wl, okIt it) ∧ wl.length ≤ 1000 ∧ ∀ q H', Same H H' → H q = none → H' q = some (.lst (mI (wayWrong wl))) → Q (.ref q) H'
theorem ok_wrong_on_way (T : Tx P w K mg) : FnX P w K mg base CX0 2 "wrong_on_way" ["way"] [] (spWay K) := by
  have F_what_of := ok_what_of (P := P) (w := w) (base := base) T
  refine T.d_wrong_on_way.ok0 sc_wrong_on_way (fun _ _ _ _ _ _ us hl => match us, hl with | [_], _ => rfl) (fun vs H Q E h => ?_) (fun f cdv A outer s H vs Q E hr h => have hu := hu_of hr; ⟨_, (by exact (pss_cons (ps_asg (pe_tup (pa_cons (pe_lst pa_nil) (pa_cons pe_dnewK (pa_cons pe_int (pa_cons (pe_lst pa_nil) pa_nil))))) (pg_tup rfl (pgs_cons (pg_name (i := 1) sc_wrong_on_way.nd rfl (Or.inl rfl)) (pgs_cons (pg_name (i := 2) sc_wrong_on_way.nd rfl (Or.inl rfl)) (pgs_cons (pg_name (i := 3) sc_wrong_on_way.nd rfl (Or.inl rfl)) (pgs_cons (pg_name (i := 4) sc_wrong_on_way.nd rfl (Or.inr rfl)) pgs_nil))))))
      (pss_cons (ps_for PassesOwn.never rfl (pi_list (pv 0)) (pg_name (i := 5) sc_wrong_on_way.nd rfl (Or.inl rfl))
        (pss_cons (ps_if (pt_cmpR op_in_seq (pe_ix ix_tup (pv 5) pe_int (fun _ _ => rfl)) (pe_tup (pa_cons pe_str (pa_cons pe_str pa_nil))) (by rfl)) (pss_cons (ps_dput hu (pv 2) (pe_ix ix_tup (pv 5) pe_int (fun _ _ => rfl)) (pe_op op_add (pe_dget2 hu (pv 2) (pe_ix ix_tup (pv 5) pe_int (fun _ _ => rfl)) pe_int ⟨rfl, rfl, rfl, rfl⟩) pe_int) rfl)
      (pss_one (ps_if (pt_cmpR op_gt (pe_dget hu (pv 2) (pe_ix ix_tup (pv 5) pe_int (fun _ _ => rfl)) (fun _ _ => rfl)) pe_int (nomark _)) (pss_one (ps_expr (pe_bm PySem.F.plainAttrs_list PySem.F.slot_list_append PySem.F.type_list_append mt_append (pv 1) (pa_cons (pe_ix ix_tup (pv 5) pe_int (fun _ _ => rfl)) pa_nil)))) pss_nil))) pss_nil)
      (pss_cons (ps_if (PW.pt (pw_and (pt_cmpR op_eq (pe_ix ix_tup (pv 5) pe_int (fun _ _ => rfl)) pe_str (nomark _)) (pw_and1 (pt_cmpR op_notN (pe_ix ix_tup (pv 5) pe_int (fun _ _ => rfl)) pe_non (nomark _))))) (pss_cons (ps_aug (i := 3) sc_wrong_on_way.nd rfl (Or.inl rfl) pe_int ip_add)
      (pss_one (ps_if (pt_cmpR op_gt (pv 3) pe_int (nomark _)) (pss_one (ps_expr (pe_bm PySem.F.plainAttrs_list PySem.F.slot_list_append PySem.F.type_list_append mt_append (pv 1) (pa_cons (pe_ix ix_tup (pv 5) pe_int (fun _ _ => rfl)) pa_nil)))) pss_nil))) pss_nil)
      (pss_cons (ps_set (i := 6) sc_wrong_on_way.nd rfl (Or.inl rfl) (pe_callX F_what_of (hr.mono (by first | decide | omega)) pass0 (pa_cons (pv 5) pa_nil)))
      (pss_cons (ps_if (PW.pt (pw_and (pt_cmpR op_notN (pv 6) pe_non (nomark _)) (pw_and1 (pt_cmpR op_in_seq (pv 6) (pv 4) (by rfl))))) (pss_one (ps_expr (pe_bm PySem.F.plainAttrs_list PySem.F.slot_list_append PySem.F.type_list_append mt_append (pv 1) (pa_cons (pe_ix ix_tup (pv 5) pe_int (fun _ _ => rfl)) pa_nil)))) pss_nil)
      (pss_cons (ps_if (PW.pt (pw_and (pt_cmpR op_eq (pv 6) pe_str (nomark _)) (pw_and1 (pt_val (pe_callB (cr_any rfl) (by rfl) T.b_any (by decide +kernel) (pa_cons (pe_lc (own := [("word", 7)]) (g := (gName 7)) (tt := tYes) (by rfl) sc_wrong_on_way.nd (pi_tup (pe_tup (pa_cons pe_str (pa_cons pe_str (pa_cons pe_str (pa_cons pe_str pa_nil)))))) (blkOk_by (own := [("word", 7)]) (N := ["way", "found", "settings", "divisions", "done", "row", "what", "word", "asks", "part"]) (sc := defScope s_wrong_on_way) (by decide +kernel)) (fun _ _ _ _ _ => (pg_name (i := 7) sc_wrong_on_way.nd rfl (Or.inl rfl))) (fun _ _ _ _ _ => pts_nil) (fun _ _ _ _ _ => (pe_cmpR (inS_at (K := K)) (pv 7) (pv 4) (by rfl)))) pa_nil)))))) (pss_one (ps_expr (pe_bm PySem.F.plainAttrs_list PySem.F.slot_list_append PySem.F.type_list_append mt_append (pv 1) (pa_cons (pe_ix ix_tup (pv 5) pe_int (fun _ _ => rfl)) pa_nil)))) pss_nil)
      (pss_cons (ps_set (i := 8) sc_wrong_on_way.nd rfl (Or.inl rfl) (pe_and (pe_cmpR op_eq (pe_ix ix_tup (pv 5) pe_int (fun _ _ => rfl)) pe_str (nomark _)) (pe_one (pe_callB (cr_any rfl) (by rfl) T.b_any (by decide +kernel) (pa_cons (pe_lc (own := [("part", 9)]) (g := (gName 9)) (tt := tYes) (by rfl) sc_wrong_on_way.nd (pi_tup (pe_ix ix_tup (pv 5) pe_int (fun _ _ => rfl))) (blkOk_by (own := [("part", 9)]) (N := ["way", "found", "settings", "divisions", "done", "row", "what", "word", "asks", "part"]) (sc := defScope s_wrong_on_way) (by decide +kernel)) (fun _ _ _ _ _ => (pg_name (i := 9) sc_wrong_on_way.nd rfl (Or.inl rfl))) (fun _ _ _ _ _ => pts_nil) (fun _ _ _ _ _ => (pe_cmpR op_eq (pe_ix (ixT_at (K := K)) (pv 9) pe_int (fun _ _ => rfl)) pe_str (nomark _)))) pa_nil)))))
      (pss_cons (ps_if (PW.pt (pw_and (PW.pt (pw_or (pt_cmpR op_eq (pv 6) pe_str (nomark _)) (pw_or1 (pt_val (pv 8))))) (pw_and1 (pt_val (pe_callB (cr_any rfl) (by rfl) T.b_any (by decide +kernel) (pa_cons (pe_lc (own := [("word", 7)]) (g := (gName 7)) (tt := tYes) (by rfl) sc_wrong_on_way.nd (pi_tup (pe_tup (pa_cons pe_str (pa_cons pe_str (pa_cons pe_str pa_nil))))) (blkOk_by (own := [("word", 7)]) (N := ["way", "found", "settings", "divisions", "done", "row", "what", "word", "asks", "part"]) (sc := defScope s_wrong_on_way) (by decide +kernel)) (fun _ _ _ _ _ => (pg_name (i := 7) sc_wrong_on_way.nd rfl (Or.inl rfl))) (fun _ _ _ _ _ => pts_nil) (fun _ _ _ _ _ => (pe_cmpR (inS_at (K := K)) (pv 7) (pv 4) (by rfl)))) pa_nil)))))) (pss_one (ps_expr (pe_bm PySem.F.plainAttrs_list PySem.F.slot_list_append PySem.F.type_list_append mt_append (pv 1) (pa_cons (pe_ix ix_tup (pv 5) pe_int (fun _ _ => rfl)) pa_nil)))) pss_nil)
      (pss_one (ps_expr (pe_bm PySem.F.plainAttrs_list PySem.F.slot_list_append PySem.F.type_list_append mt_append (pv 4) (pa_cons (pv 6) pa_nil))))))))))))
      (pss_one (ps_ret (pv 1)))))), ?_⟩)
  · obtain ⟨wa, ms, wl, rfl, _⟩ := h
    rfl
  obtain ⟨wa, ms, wl, rfl, hwa, hms, hok, hwn, h0⟩ := h
  have q9 : sizeLine = 16777216 := sizeLine_eq
  refine asg_go (tup_go (cons_go (lst_go (nil_go ⟨szL rfl, fun fa hf => cons_go fun da hd => cons_go (c_go (cons_go (lst_go (nil_go ⟨szL rfl, fun ga hg => nil_go ⟨szL rfl, fun t ht => ⟨t, _, rfl, .inl (.inl upd_same), rfl, _, _, rfl, _, _, rfl, _, _, rfl, _, _, rfl, rfl, ?_⟩⟩⟩))))⟩))))
  have i0 : WdA H fa da ga (upd (upd (upd (upd H fa (.lst [])) da (.dK [])) ga (.lst [])) t (.tup [.ref fa, .ref da, .int 0, .ref ga])) [] [] [] := by
    have s1 : Same H (upd H fa (.lst [])) := Same.new hf
    have i1 : upd H fa (.lst []) fa = some (.lst []) := upd_same
    generalize upd H fa (.lst []) = H1 at s1 i1 hd hg ht ⊢
    have s2 : Same H1 (upd H1 da (.dK [])) := Same.new hd
    have i2 : upd H1 da (.dK []) da = some (.dK []) := upd_same
    generalize upd H1 da (.dK []) = H2 at s2 i2 hg ht ⊢
    have s3 : Same H2 (upd H2 ga (.lst [])) := Same.new hg
    have i3 : upd H2 ga (.lst []) ga = some (.lst []) := upd_same
    generalize upd H2 ga (.lst []) = H3 at s3 i3 ht ⊢
    have s4 : Same H3 (upd H3 t (.tup [.ref fa, .ref da, .int 0, .ref ga])) := Same.new ht
    exact ⟨s1.tr (s2.tr (s3.tr s4)), s4 _ _ (s3 _ _ (s2 _ _ i1)), ⟨[], s4 _ _ (s3 _ _ i2), fun g => rfl, Nat.le_refl _⟩, s4 _ _ i3, (fun e => by rw [← e, s2 _ _ i1] at hg; cases hg), hf, none_of s1 hd, none_of (s1.tr s2) hg⟩
  generalize upd (upd (upd (upd H fa (.lst [])) da (.dK [])) ga (.lst [])) t (.tup [.ref fa, .ref da, .int 0, .ref ga]) = H1 at i0 ⊢
  have hWl : (wayWrong wl).length ≤ 5000 := by have := wg_len wl [] 0 []; unfold wayWrong; omega
  obtain ⟨hml, hma⟩ := dq_map hms
  let Y : Nat → Option V → Option V → Option V → Option V → Option V → L2.St := fun dv u5 u6 u7 u8 u9 => [some (.ref wa), some (.ref fa), some (.ref da), some (.int (dv : Nat)), some (.ref ga), u5, u6, u7, u8, u9]
  refine nx_for (for_lst (xs := ms) (fun i σ H' => ∃ (dv : Nat) (l : List Nat) (st : List Str) (dn : List (Option Str)) (u5 u6 u7 u8 u9 : Option V), σ = Y dv u5 u6 u7 u8 u9 ∧ WdA H fa da ga H' l st dn ∧ l ++ wrGo (wl.drop i) st dv dn = wayWrong wl ∧ st.length ≤ i ∧ dn.length ≤ i) (ev_var rfl) (i0.hs.sql hwa) (fun H2 s2 => ⟨0, [], [], [], none, none, none, none, none, rfl, i0.up s2, rfl, Nat.le_refl _, Nat.le_refl _⟩) (fun i σ H' _ h => by obtain ⟨_, _, _, _, _, _, _, _, _, _, hw, _⟩ := h; exact hw.hs.sql hwa) ?_ ?_)
  · rintro i row σ H2 hrow ⟨dv, l, st, dn, u5, u6, u7, u8, u9, rfl, hw, he, hst, hdn⟩
    obtain ⟨it, hit, hrd⟩ := hma i row hrow
    rw [toD_it] at hrd
    have hil : i < wl.length := (List.getElem?_eq_some_iff.mp hit).1
    rw [drop_at hit] at he
    have hoki := hok it (List.mem_of_getElem? hit)
    have bd : ∀ {a b : List Nat}, a ++ b = wayWrong wl → a.length < sizeLine := fun {a b} e => by
      have := congrArg List.length e
      rw [List.length_append] at this
      omega
    let Z : Nat → Option V → Option V → Option V → Option V → L2.St := fun dv u6 u7 u8 u9 => Y dv (some row) u6 u7 u8 u9
    have ap : ∀ {t : TT} {D : Ends} {dv : Nat} {u6 u7 u8 u9 : Option V} {H3 : Hp} {l : List Nat} {st : List Str} {dn : List (Option Str)} {b : Bool}, WdA H fa da ga H3 l st dn → l.length < sizeLine → EvT t (Z dv u6 u7 u8 u9) H3 b → (∀ H4, WdA H fa da ga H4 (l ++ ifL b (itL it)) st dn → D.nx (Z dv u6 u7 u8 u9) H4) →
        tIfS t (tDrop (tBM K "list" rAppend (tVar 1) (tCons (tOp (rIxT K) (tVar 5) (tC (V.int 1))) tNil))) tNext D (Z dv u6 u7 u8 u9) H3 := by
      intro t D dv u6 u7 u8 u9 H3 l st dn b hw hl ht k
      refine do_if ht (fun g H4 s4 => ?_) (fun g H4 s4 => ?_)
      · have hw4 := hw.up s4
        refine drop_go0 ⟨_, rfl, .inl ⟨rfl, ⟨_, .inl (.inl hw4.hf)⟩⟩, cons_go (ev_rowI 1 (ev_var rfl) (hrd.up hw4.hs.tl) (itDs_1 it) _ fun H5 s5 => nil_go ?_)⟩
        have hw5 := hw4.up s5
        refine ⟨fa, mI l, _, rfl, rfl, hw5.hf, (by unfold mI; rw [List.length_map]; exact hl), k _ ?_⟩
        rw [g]
        exact hw5.app (itL it)
      · refine k H4 ?_
        rw [g]
        show WdA H fa da _ H4 (l ++ []) st dn
        rw [List.append_nil]
        exact hw.up s4
    have hwr : wrGo (it :: wl.drop (i + 1)) st dv dn = wr1 it st dv dn ++ wrGo (wl.drop (i + 1)) (st ++ (stKey it).toList) (if isDiv it then dv + 1 else dv) (dn ++ [what it]) := rfl
    rw [hwr] at he
    generalize hrest : wrGo (wl.drop (i + 1)) (st ++ (stKey it).toList) (if isDiv it then dv + 1 else dv) (dn ++ [what it]) = rest at he
    unfold wr1 at he
    simp only [List.append_assoc] at he
    have r0 : ∀ {dv u6 u7 u8 u9} {H3 : Hp}, Same H H3 → EvE (tOp (rIxT K) (tVar 5) (tC (V.int 0))) (Z dv u6 u7 u8 u9) H3 (.str (it0 it)) := fun s3 => ev_rowS 0 (ev_var rfl) (hrd.up s3.tl) (itDs_0 it)
    refine nm ?_
    -- the settings
    refine seq_of (fun z H' => z = Z dv u6 u7 u8 u9 ∧ WdA H fa da ga H' (l ++ ifL (wa1 it st) (itL it)) (st ++ (stKey it).toList) dn) (fun N KN => ?_) ?_
    · refine do_if (σ := Z dv u6 u7 u8 u9) (ev_test (ev_in (r0 hw.hs) (in_tup (ns := ["set", "room"]) fun _ => ev_cons ev_C fun _ _ => ev_cons ev_C fun _ _ => ev_nil))) (fun g3 H3 s3 => ?_) (fun g3 H3 s3 => ?_)
      · obtain ⟨y, ey, eg⟩ := set_room.1 (of_decide_eq_true g3)
        have hw3 := hw.up s3
        obtain ⟨kvs, hk1, hk2⟩ := hw3.hd
        have r2 : ∀ {H4 : Hp}, Same H H4 → EvE (tOp (rIxT K) (tVar 5) (tC (V.int 2))) (Z dv u6 u7 u8 u9) H4 (.str y) := fun s4 => ev_rowS 2 (ev_var rfl) (hrd.up s4.tl) eg
        refine dput_go (op_go ⟨_, rfl, da, rfl, .inl ⟨kvs, .inl hk1⟩, r2 hw3.hs _ fun H4 s4 => ⟨valV kvs (.inr y), .inl ⟨kvs, .inr y, .inl (s4 _ _ hk1), rfl, rfl⟩, ?_⟩⟩)
        rw [hk2.get y]
        refine ⟨_, _, rfl, rfl, ⟨_, rfl, r2 (hw3.hs.tr s4) _ fun H5 s5 => ⟨da, _, rfl, .inl ⟨kvs, .inr y, (s4.tr s5) _ _ hk1, rfl, by have := hk2.2; omega, rfl⟩, ?_⟩⟩⟩
        have hw5 := (hw3.up (s4.tr s5)).put hk2 y
        have i5 : upd H5 da (.dK (putK kvs (.inr y) (.int ((ctr y st + 1 : Nat) : Int)))) da = some (.dK (putK kvs (.inr y) (.int ((ctr y st + 1 : Nat) : Int)))) := upd_same
        show tIfS _ _ _ _ _ (upd H5 da (.dK (putK kvs (.inr y) (.int ((ctr y st + 1 : Nat) : Int)))))
        generalize upd H5 da (.dK (putK kvs (.inr y) (.int ((ctr y st + 1 : Nat) : Int)))) = H6 at hw5 i5 ⊢
        have e1 : wa1 it st = decide (3 < ctr y st + 1) := by unfold wa1; rw [ey]
        refine ap (b := wa1 it st) hw5 (bd he) ?_ (fun H7 h7 => KN _ _ ⟨rfl, by rw [ey]; exact h7⟩)
        rw [e1]
        have := ev_test (σ := Z dv u6 u7 u8 u9) (H := H6) (ev_op (r := rI0 fun i j => V.bl (decide (j < i))) (v := .bl (decide ((3 : Int) < ((ctr y st + 1 : Nat) : Int)))) (ev_dget (ta := tVar 2) (y := y) (ev_var rfl) (fun H7 s7 => r2 (hw5.hs.tr s7)) i5 (by rw [valV_put, if_pos rfl])) (fun _ _ => ev_C) fun _ _ Q q => ⟨_, _, rfl, rfl, q⟩)
        rw [show decide ((3 : Int) < ((ctr y st + 1 : Nat) : Int)) = decide (3 < ctr y st + 1) from decide_eq_decide.mpr (by omega)] at this
        exact this
      · have ey := set_room.2 (of_decide_eq_false g3)
        refine KN _ _ ⟨rfl, ?_⟩
        have e1 : wa1 it st = false := by unfold wa1; rw [ey]
        rw [e1, ey]
        show WdA H fa da ga H3 (l ++ []) (st ++ []) dn
        rw [List.append_nil, List.append_nil]
        exact hw.up s3
    rintro _ H3 ⟨rfl, hw3⟩
    rw [← List.append_assoc] at he
    generalize hl3 : l ++ ifL (wa1 it st) (itL it) = l3 at he hw3
    generalize hst3 : st ++ (stKey it).toList = st3 at hw3 hrest
    -- the divisions
    refine seq_of (fun z H' => z = Z (if isDiv it then dv + 1 else dv) u6 u7 u8 u9 ∧ WdA H fa da ga H' (l3 ++ ifL (wa2 it dv) (itL it)) st3 dn) (fun N KN => ?_) ?_
    · have td : EvT (tAnd (tTest (tOp rEq (tOp (rIxT K) (tVar 5) (tC (V.int 0))) (tC (V.str "set")))) (tTest (tOp (fun x y H Q => y = V.non ∧ Q (V.bl !decide (x = V.non)) H) (tOp (rIxT K) (tVar 5) (tC (V.int 4))) (tC V.non)))) (Z dv u6 u7 u8 u9) H3 (isDiv it) := by
        by_cases g3 : it0 it = "set"
        · obtain ⟨dd, e1, e2⟩ := set_div.1 g3
          rw [e2]
          refine (ev_and (b2 := dd.isSome) (eq_str (r0 hw3.hs) fun _ _ => ev_C) fun _ H4 s4 => ?_).eq (by rw [decide_eq_true g3, Bool.true_and])
          obtain ⟨va, us, u, e9, hva, huf, hdf⟩ := dq_at (hrd.up (hw3.hs.tr s4).tl) e1
          have h4 : EvE (tOp (rIxT K) (tVar 5) (tC (.int 4))) (Z dv u6 u7 u8 u9) H4 u := ev_ixT (xs := us) (p := va) (ev_var (by rw [← e9]; rfl)) (fun _ _ => ev_C) hva (atI_nat huf)
          cases dd with
          | none => cases hdf; exact ev_test (notNv h4 rfl)
          | some n => cases hdf; exact ev_test (notNv h4 rfl)
        · rw [set_div.2 g3]
          exact (ev_and (b2 := false) (eq_str (r0 hw3.hs) fun _ _ => ev_C) fun h => absurd (of_decide_eq_true h) g3).eq (by rw [Bool.and_false])
      refine do_if td (fun g3 H4 s4 => ?_) (fun g3 H4 s4 => ?_)
      · refine ⟨_, rfl, _, _, rfl, rfl, ?_⟩
        rw [g3] at KN
        have e2 : wa2 it dv = decide (2 < dv + 1) := by unfold wa2; rw [g3, Bool.true_and]
        refine nx_eq (σ2 := Z (dv + 1) u6 u7 u8 u9) rfl ?_
        refine nx_ifx (ap (dv := dv + 1) (u6 := u6) (u7 := u7) (u8 := u8) (u9 := u9) (b := wa2 it dv) (hw3.up s4) (bd he) ?_ ?_)
        rotate_left
        · exact fun H7 h7 => KN _ _ ⟨rfl, h7⟩
        rw [e2]
        have := ev_test (σ := Z (dv + 1) u6 u7 u8 u9) (H := H4) (ev_op (r := rI0 fun i j => V.bl (decide (j < i))) (v := .bl (decide ((2 : Int) < ((dv + 1 : Nat) : Int)))) (ev_var (i := 3) rfl) (fun _ _ => ev_C) fun _ _ Q q => ⟨_, _, rfl, rfl, q⟩)
        rw [show decide ((2 : Int) < ((dv + 1 : Nat) : Int)) = decide (2 < dv + 1) from decide_eq_decide.mpr (by omega)] at this
        exact this
      · rw [g3] at KN
        refine KN _ _ ⟨rfl, ?_⟩
        have e2 : wa2 it dv = false := by unfold wa2; rw [g3]; rfl
        rw [e2]
        show WdA H fa da ga H4 (l3 ++ []) st3 dn
        rw [List.append_nil]
        exact hw3.up s4
    rintro _ H4 ⟨rfl, hw4⟩
    rw [← List.append_assoc] at he
    generalize hl4 : l3 ++ ifL (wa2 it dv) (itL it) = l4 at he hw4
    generalize hdv4 : (if isDiv it then dv + 1 else dv) = dv4 at hrest ⊢
    -- what it does
    refine set_te (call_go (cons_go (var_go rfl (nil_go ⟨row, it, rfl, hrd.up hw4.hs.tl, fun H5 s5 => ?_⟩))))
    have hw5 := hw4.up s5
    let u6' : Option V := some (oS (what it))
    have v6 : ∀ {u7 u8 u9} {H6 : Hp}, EvE (tVar 6) (Z dv4 u6' u7 u8 u9) H6 (oS (what it)) := ev_var rfl
    refine nx_ifq (ap (dv := dv4) (u6 := u6') (u7 := u7) (u8 := u8) (u9 := u9) (b := wa3 it dn) hw5 (bd he) ?_ (fun H6 hw6 => ?_))
    · unfold wa3
      cases ew : what it with
      | none => exact (ev_and (b1 := false) (b2 := false) (ev_test (notNv (v := .non) (by have := v6 (u7 := u7) (u8 := u8) (u9 := u9) (H6 := H5); rw [ew] at this; exact this) rfl)) fun z => by cases z).eq rfl
      | some z =>
        have h6 : ∀ {H6 : Hp}, EvE (tVar 6) (Z dv4 u6' u7 u8 u9) H6 (.str z) := fun {H6} => by have := v6 (u7 := u7) (u8 := u8) (u9 := u9) (H6 := H6); rw [ew] at this; exact this
        exact ev_and (b1 := true) (ev_test (notNv h6 rfl)) fun _ H6 s6 => ev_test (ev_inO h6 (fun _ _ => ev_var rfl) (.inl (.inl (hw5.up s6).hg)))
    rw [← List.append_assoc] at he
    generalize hl6 : l4 ++ ifL (wa3 it dn) (itL it) = l6 at he hw6
    have eqW : ∀ {u7 u8 u9} {H6 : Hp} (z : Str), EvT (tTest (tOp rEq (tVar 6) (tC (.str z)))) (Z dv4 u6' u7 u8 u9) H6 (decide (what it = some z)) := fun z => by
      rw [← oS_eq]
      exact ev_test (ev_eq v6 (fun _ _ => ev_C) (sc_oS _ _))
    refine nx_ifq (ap (dv := dv4) (u6 := u6') (u7 := u7) (u8 := u8) (u9 := u9) (b := wa4 it dn) hw6 (bd he) (ev_and (eqW "pack") fun _ H7 s7 => any_done (hw6.up s7).hg (ks := ["at", "len", "lay", "slots"]) (fun _ => ev_cons ev_C fun _ _ => ev_cons ev_C fun _ _ => ev_cons ev_C fun _ _ => ev_cons ev_C fun _ _ => ev_nil) rfl) (fun H7 hw7 => ?_))
    rw [← List.append_assoc] at he
    generalize hl7 : l6 ++ ifL (wa4 it dn) (itL it) = l7 at he hw7
    -- whether it asks
    refine nx_seq (do_set (x := .bl (asks it)) ?_ (fun H8 s8 => ?_))
    · have hr7 := hrd.up hw7.hs.tl
      have i0 : EvE (tOp rEq (tOp (rIxT K) (tVar 5) (tC (V.int 0))) (tC (.str "if"))) (Z dv4 u6' u7 u8 u9) H7 (.bl (decide (it0 it = "if"))) := by
        rw [← dcS]
        exact ev_eq (r0 hw7.hs) (fun _ _ => ev_C) rfl
      cases it with
      | leaf x =>
        rw [decide_eq_false (show ¬ it0 (.leaf x) = "if" from sh_ne_if x.s)] at i0
        exact ev_andV (b1 := false) (b2 := false) i0 fun z => by cases z
      | ifi ln ps ra rb =>
        rw [decide_eq_true (show it0 (.ifi ln ps ra rb) = "if" from rfl)] at i0
        refine ev_andV (b1 := true) (b2 := asks (.ifi ln ps ra rb)) i0 fun _ H8 s8 => ?_
        obtain ⟨p, us, hev, hp, hu⟩ := ev_rowT (tv := tVar 5) (σ := Z dv4 u6' u7 u8 u9) (H := H8) (v := row) 2 (ev_var rfl) (hr7.up s8.tl) rfl
        obtain ⟨hul, hua⟩ := dq_map hu
        have hps : ps.length ≤ 4 := hoki.1
        intro Q k
        refine cb_go (cons_go (lct_dq (ps.map fun p => some (PyData.bool (decide (part0 p = "empty")))) hev hp (by rw [List.length_map]; exact hul.symm) (by rw [List.length_map]; omega) ?_ ?_))
        · intro j u o H9 hu9 ho s9
          obtain ⟨pp, hpi, hxd⟩ := hua j u hu9
          rw [List.getElem?_map, hpi] at ho
          cases ho
          refine ⟨Z dv4 u6' u7 u8 (some u), fun R k => k, rfl, ev_yes, fun Ha sa => ?_⟩
          have h9 : EvE (tOp rEq (tOp (rIxT K) (tVar 9) (tC (.int 0))) (tC (.str "empty"))) (Z dv4 u6' u7 u8 (some u)) Ha (.bl (decide (part0 pp = "empty"))) := by
            rw [← dcS]
            exact ev_eq (ev_rowS 0 (ev_var rfl) ((hxd.up s9.tl).up sa.tl) (pds_0 pp)) (fun _ _ => ev_C) rfl
          exact h9.d fun _ _ => .bl _
        · intro q ys H9 s9 _ hq hys
          rw [show (ps.map fun p => some (PyData.bool (decide (part0 p = "empty")))).filterMap id = (ps.map fun p => decide (part0 p = "empty")).map PyData.bool by rw [fm_some, List.map_map]; rfl] at hys
          have ey := dq_bools hys
          subst ey
          refine nil_go ⟨q, _, rfl, .inl (.inl hq), ?_⟩
          have e : (ps.map fun p => decide (part0 p = "empty")).any id = asks (.ifi ln ps ra rb) := by
            show _ = (ps.map part0).any _
            rw [List.any_map, List.any_map]
            rfl
          rw [e]
          exact k H9 s9
    have hw8 := hw7.up s8
    let u8' : Option V := some (.bl (asks it))
    refine nx_ifq (ap (dv := dv4) (u6 := u6') (u7 := u7) (u8 := u8') (u9 := u9) (b := wa5 it dn) hw8 (bd he) (ev_and (ev_or (eqW "take") fun _ H9 s9 => ev_tB (ev_var rfl)) fun _ H9 s9 => any_done (hw8.up s9).hg (ks := ["at", "len", "slots"]) (fun _ => ev_cons ev_C fun _ _ => ev_cons ev_C fun _ _ => ev_cons ev_C fun _ _ => ev_nil) rfl) (fun H9 hw9 => ?_))
    rw [← List.append_assoc] at he
    generalize hl9 : l7 ++ ifL (wa5 it dn) (itL it) = l9 at he hw9
    refine nx_drop ⟨_, rfl, .inl ⟨rfl, ⟨_, .inl (.inl hw9.hg)⟩⟩, cons_go (var_go rfl (nil_go ⟨ga, dn.map oS, _, rfl, rfl, hw9.hg, by rw [List.length_map]; omega, ?_⟩))⟩
    subst hrest hst3
    refine ⟨dv4, l9, _, _, some row, u6', u7, u8', u9, rfl, hw9.don (what it), he, ?_, ?_⟩
    · rw [List.length_append]
      have : (stKey it).toList.length ≤ 1 := by cases stKey it <;> simp
      omega
    · rw [List.length_append]
      exact Nat.add_le_add_right hdn 1
  · rintro σ H2 ⟨dv, l, st, dn, u5, u6, u7, u8, u9, rfl, hw, he, hst, hdn⟩
    rw [hml, List.drop_length] at he
    have he : l ++ [] = wayWrong wl := he
    rw [List.append_nil] at he
    subst he
    exact ret_go (var_go rfl (h0 fa H2 hw.hs hw.f0 hw.hf))
end
end K03


set_option Elab.async false
set_option linter.all false
set_option maxRecDepth 100000
set_option maxHeartbeats 4000000
namespace K03
open PySem PySem.Spec PyProof.Rows L2 Rdr Tld Pgr NdefX LmX LamX
section
variable {P : Program} {w : World} {K : PySem.W.Frag} {mg : Str → Option Value} {base : Heap}
theorem nx_if {c : TT} {a b : TS} {D : Ends} {z : L2.St} {H : Hp} {r : VK} {k l : L2.St → Hp → Prop} (h : tIfS c a b D z H) : Ends.nx { nx := tIfS c a b D, rt := r, bk := k, ct := l } z H := h
/-- what an expression gives, its list -/
theorem dq_fm {γ : Type} {f : γ → Option Nat} {H : Hp} {ys : List V} {w : List γ} (h : DqAll K H ys ((w.map fun it => (f it).map fun l => PyData.int (l : Nat)).filterMap id)) : ys = mI (w.filterMap f) := by
  have e : (w.map fun it => (f it).map fun l => PyData.int (l : Nat)).filterMap id = ((w.filterMap f).map fun l : Nat => (l : Int)).map PyData.int := by
    clear h
    induction w with
    | nil => rfl
    | cons x r ih =>
      have ih' := ih
      rw [List.map_cons, List.filterMap_cons, List.filterMap_cons]
      cases f x with
      | none => exact ih'
      | some y => exact congrArg (PyData.int (y : Nat) :: ·) ih'
  rw [e] at h
  rw [dq_ints h, List.map_map]
  rfl
/-- the rows of a code of a page -/
structure RowsAt (K : PySem.W.Frag) (H : Hp) (p : Addr) (xs : List V) (t : TR) : Prop where
  s : SqT K H p xs
  d : DqAll K H xs (t.toL PgRow.ds pds)
  dep : t.dep < 41
  sz : t.sz ≤ 100
theorem RowsAt.up {H H' : Hp} {p : Addr} {xs : List V} {t : TR} (r : RowsAt K H p xs t) (s : Same H H') : RowsAt K H' p xs t := ⟨s.seqT r.s, r.d.up s.tl, r.dep, r.sz⟩
def strange (kind : Str) (t : TR) : List Nat := t.all.filterMap fun it => if kind ∈ pkinds it then none else some (itL it)
theorem wrong_len (kind : Str) (t : TR) (hsz : t.sz ≤ 100) (hif : t.ifs ≤ 7) (i : Nat) : (strange kind t ++ ((t.ways (finF PgRow.ds ends2)).take i).flatMap fun w : Wy PgRow Part => wayWrong w.1).length ≤ 70000 := by
  have hcnt : (t.ways (finF PgRow.ds ends2)).length ≤ 128 := by
    have h1 := waysF_len (finF PgRow.ds ends2) t [([], false)]
    rw [List.length_singleton, Nat.one_mul] at h1
    exact Nat.le_trans h1 (Nat.le_trans (Nat.pow_le_pow_right (by decide) hif) (by decide))
  have hww : ∀ y ∈ t.ways (finF PgRow.ds ends2), (wayWrong y.1).length ≤ 500 := fun y hy => by
    have h1 := waysF_met (finF PgRow.ds ends2) t [([], false)] 0 (fun x hx => by rw [List.mem_singleton] at hx; rw [hx]; exact Nat.le_refl _) y hy
    have h2 := wg_len y.1 [] 0 []
    unfold wayWrong
    omega
  have hsum : (((t.ways (finF PgRow.ds ends2)).take i).flatMap fun w : Wy PgRow Part => wayWrong w.1).length ≤ 128 * 500 := by
    have h1 := Rdr.fm_len (fun w : Wy PgRow Part => wayWrong w.1) 500 ((t.ways (finF PgRow.ds ends2)).take i) (fun y hy => hww y (List.mem_of_mem_take hy))
    have h2 : ((t.ways (finF PgRow.ds ends2)).take i).length ≤ 128 := by rw [List.length_take]; omega
    exact Nat.le_trans h1 (Nat.mul_le_mul_right 500 h2)
  have hs : (strange kind t).length ≤ 100 := by
    have h1 : t.all.length ≤ 100 := by rw [all_len]; exact hsz
    exact Nat.le_trans (List.length_filterMap_le _ _) h1
  rw [List.length_append]
  omega
def spNeed (K : PySem.W.Frag) : Sp := fun vs H Q E => ∃ (kind : Str) (p : Addr) (xs : List V) (t : TR), vs = [.ref p, .str kind] ∧ RowsAt K H p xs t ∧ t.ifs ≤ 7 ∧ (∀ it ∈ t.all, okIt it ∧ (itNs it).length ≤ 1000) ∧
  (wrongs kind t = [] → ∀ H', Same H H' → Q .non H') ∧ (∀ n ∈ wrongs kind t, (∀ j ∈ wrongs kind t, n ≤ j) → ∀ d H', Same H H' → H' d = some (.xd [("line", .int (n : Nat))]) → E (.ref (He.ga K "Refused")) (some d) H')
theorem ok_need (T : Tx P w K mg) : FnX P w K mg base (L2.CX P w) 45 "need_page_limits" ["rows", "kind"] [] (spNeed K) := by
  have F_all_rows := ok_all_rows (base := base) (fb := pds) T wrd_pg 41
  have F_all_ways := ok_all_ways (base := base) (fb := pds) T wrd_pg 41
  have F_page_kinds := ok_page_kinds (base := base) T
  have F_wrong_on_way := ok_wrong_on_way (base := base) T
  refine DefX.okX T.d_need_page_limits sc_need_page_limits (fun _ _ _ _ _ _ us hl => match us, hl with | [_, _], _ => rfl) (fun vs H Q E h => ?_) (fun f cdv A outer s H vs Q E hr h => ⟨_, (by exact (pss_cons (ps_setLc (i := 2) (own := [("row", 3)]) (g := (gName 3))  (by rfl) sc_need_page_limits.nd rfl rfl (sw_true rfl rfl rfl (by decide +kernel)) (pi_list (pe_callX F_all_rows (hr.mono (by first | decide | omega)) pass0 (pa_cons (pv 0) pa_nil))) (blkOk_by (own := [("row", 3)]) (N := ["rows", "kind", "wrong", "row", "way", "has_ended", "line"]) (sc := defScope s_need_page_limits) (by decide +kernel)) (fun _ _ _ _ _ => (pg_name (i := 3) sc_need_page_limits.nd rfl (Or.inl rfl))) (fun _ _ _ _ _ => (pts_one (pt_cmpR (niS_at (K := K)) (pv 1) (pe_callX F_page_kinds (hr.mono (by first | decide | omega)) pass0 (pa_cons (pv 3) pa_nil)) (by rfl)))) (fun _ _ _ _ _ => (pe_ix (ixT_at (K := K)) (pv 3) pe_int (fun _ _ => rfl))))
      (pss_cons (ps_for (passes_of rfl) rfl (pi_list (pe_callX F_all_ways (hr.mono (by first | decide | omega)) pass0 (pa_cons (pv 0) (pa_cons (pe_tup (pa_cons pe_str (pa_cons pe_str pa_nil))) pa_nil)))) (pg_tup rfl (pgs_cons (pg_name (i := 4) sc_need_page_limits.nd rfl (Or.inl rfl)) (pgs_cons (pg_name (i := 5) sc_need_page_limits.nd rfl (Or.inl rfl)) pgs_nil)))
        (pss_one (ps_expr (pe_bm PySem.F.plainAttrs_list PySem.F.slot_list_extend PySem.F.type_list_extend mt_extend (pv 2) (pa_cons (pe_callX F_wrong_on_way (hr.mono (by first | decide | omega)) pass0 (pa_cons (pv 4) pa_nil)) pa_nil)))))
      (pss_one (ps_if (pt_cmpR op_gt (pe_callB call_len_seq (by rfl) T.b_len (by decide +kernel) (pa_cons (pv 2) pa_nil)) pe_int (nomark _)) (pss_one (ps_raise rfl (takes_of rfl rfl rfl rfl) (pmk_err T.e_Refused T.g_Refused hr (pa_cons (pe_callB (cr_min rfl) (by rfl) T.b_min (by decide +kernel) (pa_cons (pe_lc (own := [("line", 6)]) (g := (gName 6)) (tt := tYes) (by rfl) sc_need_page_limits.nd (pi_list (pv 2)) (blkOk_by (own := [("line", 6)]) (N := ["rows", "kind", "wrong", "row", "way", "has_ended", "line"]) (sc := defScope s_need_page_limits) (by decide +kernel)) (fun _ _ _ _ _ => (pg_name (i := 6) sc_need_page_limits.nd rfl (Or.inl rfl))) (fun _ _ _ _ _ => pts_nil) (fun _ _ _ _ _ => (pe_callTy call_int1 (by rfl) T.b_int (by decide +kernel) (pa_cons (pv 6) pa_nil)))) pa_nil)) pa_nil)))) pss_nil))))), ?_⟩)
  · obtain ⟨kind, p, xs, t, rfl, _⟩ := h
    rfl
  obtain ⟨kind, p, xs, t, rfl, r, hif, hok, h0, h1⟩ := h
  have q9 : sizeLine = 16777216 := sizeLine_eq
  have hal : t.all.length ≤ 1000 := by rw [all_len]; exact Nat.le_trans r.sz (by decide)
  have hsz9 : t.sz ≤ 1000 := Nat.le_trans r.sz (by decide)
  have hif9 : t.ifs ≤ 9 := Nat.le_trans hif (by decide)
  have q9 : sizeLine = 16777216 := sizeLine_eq
  let fin := finF PgRow.ds ends2
  refine set_te ?_
  refine lc_of (fun q ys H1 => Same H H1 ∧ H1 q = some (.lst ys) ∧ DqAll K H1 ys (t.all.map (It.toD PgRow.ds pds))) (fun R hR => call_go (cons_go (var_go rfl (nil_go ⟨p, xs, t, rfl, r.s, r.d, r.dep, hsz9, fun q ys H1 s1 _ hq hys => hR q ys H1 ⟨s1, hq, hys⟩⟩)))) ?_
  rintro q ys H1 ⟨s1, hq, hys⟩
  obtain ⟨hyl, hya⟩ := dq_map hys
  refine lc_dq (t.all.map fun it => (if kind ∈ pkinds it then none else some (itL it)).map fun l : Nat => PyData.int (l : Nat)) ev_C (.inl (.inl hq)) (by rw [List.length_map]; exact hyl.symm) (by rw [List.length_map]; omega) ?_ ?_
  · intro i u o H2 hv ho s2
    obtain ⟨it, hit, hvd⟩ := hya i u hv
    rw [List.getElem?_map, hit] at ho
    cases ho
    rw [toD_it] at hvd
    have hd := hvd.up s2.tl
    have oki := hok it (List.mem_of_getElem? hit)
    refine ⟨[some (.ref p), some (.str kind), none, some u, none, none, none], fun R k => k, rfl, ?_⟩
    dsimp only
    have ht : EvT (tTest (tOp (rIn K true) (tVar 1) (tCall (spKinds K) [] E0 (tCons (tVar 3) tNil)))) [some (.ref p), some (.str kind), none, some u, none, none, none] H2 (!decide (kind ∈ pkinds it)) :=
      ev_test (ev_notin (ev_var rfl) fun H3 s3 Q k => call_go (cons_go (var_go rfl (nil_go ⟨u, it, rfl, hd.up s3.tl, oki.1, oki.2, fun q H' s' _ hq => k H' q s' (.inl (.inl (.inl hq)))⟩))))
    by_cases g : kind ∈ pkinds it
    · rw [decide_eq_true g] at ht
      rw [if_pos g]
      exact ht
    · rw [decide_eq_false g] at ht
      rw [if_neg g]
      exact ⟨ht, fun H3 s3 => (ev_rowI 1 (ev_var rfl) (hd.up s3.tl) (itDs_1 it)).d fun _ _ => .int _⟩
  intro wr wys H2 s2 hwr20 hw1 hwys
  have ew := dq_fm hwys
  replace ew : wys = mI (strange kind t) := ew
  subst ew
  have hwr := none_of s1 hwr20
  have s02 := s1.tr s2
  have r1 := r.up s02
  have wkin : ∀ {H' : Hp}, Same H2 H' → H' wr = some (.lst (mI (strange kind t))) := fun s => s _ _ hw1
  refine for_te2 (K := K) (fun q ys H3 => Same H2 H3 ∧ H3 q = some (.lst ys) ∧ RepW K PgRow.ds pds (fun b => H2 b = none) H3 (t.ways fin) ys ∧ H2 q = none)
    (fun q ys H3 i σ H' => Same H H' ∧ SameX wr H3 H' ∧ ∃ (u3 u4 u5 u6 : Option V), σ = [some (.ref p), some (.str kind), some (.ref wr), u3, u4, u5, u6] ∧ H' wr = some (.lst (mI (strange kind t ++ ((t.ways fin).take i).flatMap fun w => wayWrong w.1))))
    (fun R hR => call_go (cons_go (var_go rfl (cons_go (mk_tup (vs := ends2.map V.str) (ev_cons ev_C fun _ _ => ev_cons ev_C fun _ _ => ev_nil) (fun H3 ea s3 _ hea => nil_go ⟨p, ea, xs, t, ends2, rfl, (r1.up s3).s, (r1.up s3).d, r1.dep, hsz9, hif9, .inl (.inl hea), fun q ys H4 s4 hq0 hq hW => hR q ys H4 ⟨s3.tr s4, hq, RepW.up (fun b h => none_of s3 h) (Same.tl (Same.rf _)) (fun _ _ _ h => h) _ _ hW, none_of s3 hq0⟩⟩))))))
    (fun q ys H3 h => .inl (.inl h.2.1)) (fun q ys H3 ⟨s3, hq, hW, hq0⟩ => ⟨s02.tr s3, (Same.rf _).x, none, none, none, none, rfl, by rw [List.take_zero, List.flatMap_nil, List.append_nil]; exact wkin s3⟩)
    (fun q ys H3 i σ H' h _ k => .inl (.inl (k.2.1 _ _ (fun e => by have := h.2.2.2; rw [e, hw1] at this; cases this) h.2.1))) ?_ ?_
  · rintro q ys H3 ⟨s3, hq, hW, hq0⟩ i v σ H4 hv ⟨s4, sx4, u3, u4, u5, u6, rfl, hw4⟩
    obtain ⟨hWl, hWa⟩ := RepW.at _ _ hW
    obtain ⟨wy, wa, wb, ms, hwy, rfl, hwa, hwb0, hwb, hms⟩ := hWa i v hv
    have hwbr : wb ≠ wr := fun e => by have h9 : H2 wb = none := hwb0; rw [e, hw1] at h9; cases h9
    have tl34 : TupLe H3 H4 := fun b us h => sx4 _ _ (fun z => by rw [z, wkin s3] at h; cases h) h
    have hwa4 := tl34 _ _ hwa
    have hwb4 := sx4 _ _ hwbr hwb
    have hms4 := hms.up tl34
    obtain ⟨wl, eb⟩ := wy
    have hwm : wl.length ≤ 1000 := by
      have := waysF_met fin t [([], false)] 0 (fun x hx => by rw [List.mem_singleton] at hx; rw [hx]; exact Nat.le_refl _) _ (List.mem_of_getElem? hwy)
      have hz := r.sz
      have h9 : wl.length ≤ 0 + t.sz := this
      omega
    have hokw : ∀ it ∈ wl, okIt it := fun it hi => by
      rcases ways_mem fin t _ _ (List.mem_of_getElem? hwy) it hi with h | ⟨y, hy, h⟩
      · exact (hok it h).1
      · rw [List.mem_singleton] at hy; subst hy; cases h
    replace hms4 : DqAll K H4 ms (wl.map (It.toD PgRow.ds pds)) := hms4
    have hol := wrong_len kind t r.sz hif i
    have hnx := take_fm (fun w : Wy PgRow Part => wayWrong w.1) hwy
    have hww : (wayWrong wl).length ≤ 5000 := by have := wg_len wl [] 0 []; unfold wayWrong; omega
    refine ⟨wa, _, rfl, .inl (.inl hwa4), rfl, _, _, rfl, _, _, rfl, rfl, ?_⟩
    refine drop_go0 ⟨_, rfl, .inl ⟨rfl, ⟨_, .inl (.inl hw4)⟩⟩, cons_go (call_go (cons_go (var_go rfl (nil_go ⟨wb, ms, wl, rfl, .inl (.inl hwb4), hms4, hokw, hwm, fun fq H5 s5 hf0 hfq => nil_go ⟨wr, fq, _, _, rfl, rfl, s5 _ _ hw4, hfq, ?_, (s4.tr s5).mut hwr, (sx4.tr s5.x).upd, _, _, _, _, rfl, ?_⟩⟩))))⟩
    · unfold mI
      rw [List.length_map, List.length_map]
      have h9 : (strange kind t ++ ((t.ways fin).take i).flatMap fun w : Wy PgRow Part => wayWrong w.1).length ≤ 70000 := hol
      omega
    · rw [upd_same, hnx]
      unfold mI
      rw [List.map_append, List.map_append, List.map_append, List.append_assoc]
  · rintro q ys H3 σ H4 ⟨s3, hq, hW, hq0⟩ ⟨s4, sx4, u3, u4, u5, u6, rfl, hw4⟩
    obtain ⟨hWl, hWa⟩ := RepW.at _ _ hW
    rw [hWl, List.take_length, show (strange kind t ++ (t.ways fin).flatMap fun w : Wy PgRow Part => wayWrong w.1) = wrongs kind t from rfl] at hw4
    have hbl : (wrongs kind t).length ≤ 70000 := by
      have := wrong_len kind t r.sz hif (t.ways fin).length
      rw [List.take_length] at this
      exact Nat.le_trans this (by decide)
    generalize wrongs kind t = bad at h0 h1 hw4 hbl
    let S : L2.St := [some (.ref p), some (.str kind), some (.ref wr), u3, u4, u5, u6]
    refine nx_if (do_if (σ := S) (b1 := decide (0 < bad.length)) ?_ (fun g H5 s5 => ?_) (fun g H5 s5 => ?_))
    · have := ev_test (σ := S) (ev_op (r := fun x y H Q => ∃ i j, x = V.int i ∧ y = V.int j ∧ Q (.bl (decide (i > j))) H) (v := .bl (decide (((mI bad).length : Int) > 0))) (ev_len (K := K) (ev_cons (ev_var (i := 2) rfl) fun _ _ => ev_nil) (.inl (.inl (.inl hw4)))) (fun _ _ => ev_C) (fun H5 _ Q q => ⟨_, _, rfl, rfl, q⟩))
      rw [show (mI bad).length = bad.length from List.length_map .., show decide ((bad.length : Int) > 0) = decide (0 < bad.length) from decide_eq_decide.mpr (by omega)] at this
      exact this
    · have g := of_decide_eq_true g
      refine cons_go (cb_go (cons_go ?_))
      refine lc_dq ((bad.map fun l => PyData.int (l : Nat)).map some) (ev_var rfl) (.inl (.inl (s5 _ _ hw4))) (by simp [mI]) (by simp; omega) ?_ ?_
      · intro j v o H6 hv ho s6
        unfold mI at hv
        rw [List.getElem?_map] at hv
        obtain ⟨n, hn, rfl⟩ := Option.map_eq_some_iff.mp hv
        rw [List.getElem?_map, List.getElem?_map, hn] at ho
        cases ho
        exact ⟨[some (.ref p), some (.str kind), some (.ref wr), u3, u4, u5, some (.int (n : Nat))], fun R k => k, rfl, ev_yes, fun H7 s7 Q hQ => ⟨_, rfl, .inl ⟨_, rfl, hQ _ _ (Same.rf _) (.int _)⟩⟩⟩
      · intro lq ly H6 s6 _ hlq hly
        have e := fm_some (fun l : Nat => PyData.int (l : Nat)) bad
        have hy2 : DqAll K H6 ly ((bad.map fun l : Nat => (l : Int)).map PyData.int) := by
          rw [List.map_map] at hly ⊢
          exact e ▸ hly
        have ey := dq_ints hy2
        subst ey
        refine nil_go ⟨lq, _, rfl, .inl (.inl hlq), by rw [List.length_map]; exact g, fun mn hmn hmin => nil_go ⟨rfl, (fun z => absurd z (by simp)), fun _ d hd => ?_⟩⟩
        obtain ⟨n, hn, rfl⟩ := List.mem_map.mp hmn
        exact h1 n hn (fun j hj => by have := hmin j (List.mem_map.mpr ⟨j, hj, rfl⟩); omega) d _ ((((s4.tr s5).tr s6)).tr (Same.new hd)) upd_same
    · have g := of_decide_eq_false g
      exact h0 (List.eq_nil_of_length_eq_zero (by omega)) H5 (s4.tr s5)
end
end K03


set_option Elab.async false
set_option linter.all false
set_option maxRecDepth 100000
set_option maxHeartbeats 4000000
namespace K03
open PySem PySem.Spec PyProof.Rows L2 Rdr Tld Pgr NdefX LmX LamX
section
variable {P : Program} {w : World} {K : PySem.W.Frag} {mg : Str → Option Value} {base : Heap}
def isW : V → Bool
  | .int _ => true
  | _ => false
theorem KindV.up {H H' : Hp} {v : V} (s : Same H H') : KindV H v → KindV H' v := fun h => h.imp id fun ⟨p, xs, e, h⟩ => ⟨p, xs, e, s _ _ h⟩
def spWhole (K : PySem.W.Frag) : Sp := fun vs H Q _ => ∃ v, vs = [v] ∧ KindV H v ∧ ∀ H', Same H H' → Q (.bl (isW v)) H'
theorem ok_is_whole (T : Tx P w K mg) : FnX P w K mg base CX0 1 "is_whole" ["value"] [] (spWhole K) := by
  refine T.d_is_whole.ok0 sc_is_whole (fun _ _ _ _ _ _ us hl => match us, hl with | [_], _ => rfl) (fun vs H Q E h => ?_) (fun f cdv A outer s H vs Q E hr h => have hu := hu_of hr; ⟨_, (by exact (pss_one (ps_ret (pe_and (pe_callB call_isi (by rfl) T.b_isinstance (by decide +kernel) (pa_cons (pv 0) (pa_cons (pe_bltn (v := .ty "int") (by rfl) T.b_int (by decide +kernel) rfl) pa_nil))) (pe_one (pe_not (pe_callB call_isi (by rfl) T.b_isinstance (by decide +kernel) (pa_cons (pv 0) (pa_cons (pe_bltn (v := .ty "bool") (by rfl) T.b_bool (by decide +kernel) rfl) pa_nil))))))))), ?_⟩)
  · obtain ⟨v, rfl, _⟩ := h
    rfl
  obtain ⟨v, rfl, hv, h0⟩ := h
  obtain ⟨t, b1, b2, ty, k1, k2, hb⟩ : ∃ (t : Value) (b1 b2 : Bool), TyX K H v t ∧ PySem.W.kitOne K t (.type "int") = some b1 ∧ PySem.W.kitOne K t (.type "bool") = some b2 ∧ (b1 && !b2) = isW v := by
    rcases hv with hf | ⟨p, xs, rfl, hp⟩
    · cases v with
      | int i => exact ⟨_, true, false, .base (.int i), kit_ty (by decide +kernel), kit_ty (by decide +kernel), rfl⟩
      | bl i => exact ⟨_, true, true, .base (.bl i), kit_ty (by decide +kernel), kit_ty (by decide +kernel), rfl⟩
      | str i => exact ⟨_, false, false, .base (.str i), kit_ty (by decide +kernel), kit_ty (by decide +kernel), rfl⟩
      | non => exact ⟨_, false, false, .base .non, kit_ty (by decide +kernel), kit_ty (by decide +kernel), rfl⟩
      | byt _ => cases hf
      | flt _ => cases hf
      | ref _ => cases hf
      | ty _ => cases hf
    · exact ⟨_, false, false, .base (.lst hp), kit_ty (by decide +kernel), kit_ty (by decide +kernel), rfl⟩
  refine ret_go ⟨_, rfl, _, _, t, .type "int", b1, rfl, .ty _, ty, k1, b1, rfl, ?_⟩
  cases b1 with
  | false =>
    refine iteF ?_
    have := h0 H (Same.rf _)
    rw [← hb] at this
    exact this
  | true =>
    refine iteT ⟨_, rfl, _, _, t, .type "bool", b2, rfl, .ty _, ty, k2, b2, rfl, ?_⟩
    have := h0 H (Same.rf _)
    rw [← hb] at this
    exact this
theorem wh_t {σ : L2.St} {H : Hp} {i : Nat} {v : V} (hi : σ[i]? = some (some v)) (hv : KindV H v) : EvT (tB (tCall (spWhole K) [] E0 (tCons (tVar i) tNil))) σ H (isW v) := ev_tB fun Q k => call_go (cons_go (var_go hi (nil_go ⟨v, rfl, hv, fun H' s' => k H' s'⟩)))
def geW (n : Int) : V → Bool
  | .int i => decide (n ≤ i)
  | _ => false
def btW (n m : Int) : V → Bool
  | .int i => decide (n ≤ i) && decide (i ≤ m)
  | _ => false
theorem ge_t {σ : L2.St} {H : Hp} {i : Nat} {v : V} {n : Int} (hi : σ[i]? = some (some v)) (hv : KindV H v) : EvT (tOr (tNot (tB (tCall (spWhole K) [] E0 (tCons (tVar i) tNil)))) (tTest (tOp (rI0 fun i j => V.bl (decide (i < j))) (tVar i) (tC (.int n))))) σ H (!geW n v) := by
  cases v with
  | int j =>
    refine (ev_or (ev_not (wh_t hi hv)) fun _ H1 s1 => ev_test (ev_op (v := .bl (decide (j < n))) (ev_var hi) (fun _ _ => ev_C) fun _ _ Q q => ⟨_, _, rfl, rfl, q⟩)).eq ?_
    show (false || decide (j < n)) = !decide (n ≤ j)
    by_cases g : n ≤ j
    · rw [decide_eq_true g, decide_eq_false (by omega)]; rfl
    · rw [decide_eq_false g, decide_eq_true (by omega)]; rfl
  | _ => exact (ev_or (b1 := true) (b2 := true) (ev_not (wh_t hi hv)) fun z => by cases z).eq rfl
theorem bt_t {σ : L2.St} {H : Hp} {i : Nat} {v : V} {n m : Int} (hi : σ[i]? = some (some v)) (hv : KindV H v) : EvT (tOr (tNot (tB (tCall (spWhole K) [] E0 (tCons (tVar i) tNil)))) (tNot (tTest (tChain (rI0 fun i j => .bl (decide (i ≤ j))) (rI0 fun i j => .bl (decide (i ≤ j))) (tC (.int n)) (tVar i) (tC (.int m)))))) σ H (!btW n m v) := by
  cases v with
  | int j => exact (ev_or (ev_not (wh_t hi hv)) fun _ H1 s1 => ev_not (ev_test (ev_chain fun _ _ => ev_var hi))).eq rfl
  | _ => exact (ev_or (b1 := true) (b2 := true) (ev_not (wh_t hi hv)) fun z => by cases z).eq rfl
abbrev cPR (K : PySem.W.Frag) : Addr := He.ga K "PageRules"
/-- the first rule that is wrong -/
def badRule (h s u m : V) : Option Str := if !geW 0 h then some "head" else if !btW 1 64 s then some "slot" else if !btW 1 16 u then some "unit" else if !decide (m = .non) && !geW 1 m then some "most" else none
def ruF (h s u m : V) : List (Str × V) := [("head", h), ("slot", s), ("unit", u), ("most", m)]
def spRules (K : PySem.W.Frag) : Sp := fun vs H Q E => ∃ (x dx : Addr) (h s u m : V), vs = [.ref x, h, s, u, m] ∧ H x = some (.ins (cPR K) dx []) ∧ KindV H h ∧ KindV H s ∧ KindV H u ∧ KindV H m ∧
  (∀ z, badRule h s u m = some z → ∀ d H', Same H H' → H' d = some (.xd [("what", .str z)]) → E (.ref (He.ga K "BadRule")) (some d) H') ∧
  (badRule h s u m = none → ∀ H', SameX x H H' → H' x = some (.ins (cPR K) dx (ruF h s u m)) → Q .non H')
theorem rules_body (T : Tx P w K mg) {f : Addr} {fd : FuncData} (F : FunD K "__init__" "PageRules.__init__" (defArgs s_PageRules_init) (defBody s_PageRules_init) (defScope s_PageRules_init) [.non] [] f fd) : FnOk P w K mg base (L2.CX P w) 3 f fd ["self", "head", "slot", "unit", "most"] (spRules K) := by
  have F_is_whole := ok_is_whole (base := base) T
  refine F.ok sc_PageRules_init (fun vs H Q E h => ?_) (fun cdv A outer s H vs Q E hr h => ⟨_, (by exact (pss_cons (ps_if (PW.pt (pw_or (pt_not (pt_val (pe_callX F_is_whole (hr.mono (by first | decide | omega)) pass0 (pa_cons (pv 1) pa_nil)))) (pw_or1 (pt_cmpR op_lt (pv 1) pe_int (nomark _))))) (pss_one (ps_raise rfl (takes_of rfl rfl rfl rfl) (pmk_err T.e_BadRule T.g_BadRule hr (pa_cons pe_str pa_nil)))) pss_nil)
      (pss_cons (ps_if (PW.pt (pw_or (pt_not (pt_val (pe_callX F_is_whole (hr.mono (by first | decide | omega)) pass0 (pa_cons (pv 2) pa_nil)))) (pw_or1 (pt_not (pt_chain op_le op_le pe_int (pv 2) pe_int))))) (pss_one (ps_raise rfl (takes_of rfl rfl rfl rfl) (pmk_err T.e_BadRule T.g_BadRule hr (pa_cons pe_str pa_nil)))) pss_nil)
      (pss_cons (ps_if (PW.pt (pw_or (pt_not (pt_val (pe_callX F_is_whole (hr.mono (by first | decide | omega)) pass0 (pa_cons (pv 3) pa_nil)))) (pw_or1 (pt_not (pt_chain op_le op_le pe_int (pv 3) pe_int))))) (pss_one (ps_raise rfl (takes_of rfl rfl rfl rfl) (pmk_err T.e_BadRule T.g_BadRule hr (pa_cons pe_str pa_nil)))) pss_nil)
      (pss_cons (ps_if (PW.pt (pw_and (pt_cmpR op_notN (pv 4) pe_non (nomark _)) (pw_and1 (PW.pt (pw_or (pt_not (pt_val (pe_callX F_is_whole (hr.mono (by first | decide | omega)) pass0 (pa_cons (pv 4) pa_nil)))) (pw_or1 (pt_cmpR op_lt (pv 4) pe_int (nomark _)))))))) (pss_one (ps_raise rfl (takes_of rfl rfl rfl rfl) (pmk_err T.e_BadRule T.g_BadRule hr (pa_cons pe_str pa_nil)))) pss_nil)
      (pss_cons (ps_fld (pv 0) (pv 1) rfl)
      (pss_cons (ps_fld (pv 0) (pv 2) rfl)
      (pss_cons (ps_fld (pv 0) (pv 3) rfl)
      (pss_one (ps_fld (pv 0) (pv 4) rfl)))))))))), ?_⟩)
  · obtain ⟨x, dx, h, s, u, m, rfl, _⟩ := h
    rfl
  obtain ⟨x, dx, hv, sv, uv, mv, rfl, hx, kh, ks, ku, km, h0, h1⟩ := h
  let S : L2.St := [some (.ref x), some hv, some sv, some uv, some mv]
  refine seq_if (σ := S) (ge_t rfl kh) (fun g1 H1 s1 => ?_) (fun g1 H1 s1 => ?_)
  · exact cons_go (c_go (nil_go ⟨rfl, (fun z => absurd z (by simp)), fun _ d hd => h0 "head" (if_pos g1) d _ (s1.tr (Same.new hd)) upd_same⟩))
  refine seq_if (σ := S) (bt_t rfl (ks.up s1)) (fun g2 H2 s2 => ?_) (fun g2 H2 s2 => ?_)
  · exact cons_go (c_go (nil_go ⟨rfl, (fun z => absurd z (by simp)), fun _ d hd => h0 "slot" (by unfold badRule; rw [g1, if_neg (by decide), if_pos g2]) d _ ((s1.tr s2).tr (Same.new hd)) upd_same⟩))
  have s02 := s1.tr s2
  refine seq_if (σ := S) (bt_t rfl (ku.up s02)) (fun g3 H3 s3 => ?_) (fun g3 H3 s3 => ?_)
  · exact cons_go (c_go (nil_go ⟨rfl, (fun z => absurd z (by simp)), fun _ d hd => h0 "unit" (by unfold badRule; rw [g1, if_neg (by decide), g2, if_neg (by decide), if_pos g3]) d _ ((s02.tr s3).tr (Same.new hd)) upd_same⟩))
  have s03 := s02.tr s3
  refine seq_if (σ := S) (b1 := !decide (mv = .non) && !geW 1 mv) (ev_and (ev_test (notNv (ev_var rfl) rfl)) fun _ H4 s4 => ge_t rfl (km.up (s03.tr s4))) (fun g4 H4 s4 => ?_) (fun g4 H4 s4 => ?_)
  · exact cons_go (c_go (nil_go ⟨rfl, (fun z => absurd z (by simp)), fun _ d hd => h0 "most" (by unfold badRule; rw [g1, if_neg (by decide), g2, if_neg (by decide), g3, if_neg (by decide), if_pos g4]) d _ ((s03.tr s4).tr (Same.new hd)) upd_same⟩))
  have hx4 := (s03.tr s4) _ _ hx
  refine ⟨_, rfl, _, rfl, x, cPR K, dx, _, rfl, hx4, T.cl_PageRules, T.na_PageRules_head, (by show 0 < 1000; decide), ?_⟩
  refine ⟨_, rfl, _, rfl, x, cPR K, dx, _, rfl, upd_same, T.cl_PageRules, T.na_PageRules_slot, (by show 1 < 1000; decide), ?_⟩
  refine ⟨_, rfl, _, rfl, x, cPR K, dx, _, rfl, upd_same, T.cl_PageRules, T.na_PageRules_unit, (by show 2 < 1000; decide), ?_⟩
  refine ⟨_, rfl, _, rfl, x, cPR K, dx, _, rfl, upd_same, T.cl_PageRules, T.na_PageRules_most, (by show 3 < 1000; decide), ?_⟩
  rw [upd_upd, upd_upd, upd_upd]
  exact h1 (by unfold badRule; rw [g1, if_neg (by decide), g2, if_neg (by decide), g3, if_neg (by decide), g4, if_neg (by decide)]) _ (fun b o hb ho => by rw [upd_ne hb]; exact (s03.tr s4) _ _ ho) upd_same
/-- PageRules(head, slot, unit) -/
theorem ok_rules3 (T : Tx P w K mg) : MkX P w K mg base (L2.CX P w) 3 "PageRules" (cPR K) ["self", "head", "slot", "unit", "most"] [.non] (spRules K) := by
  obtain ⟨f, fd, hm, M, F⟩ := T.mk_PageRules
  obtain ⟨ds, hv, hb⟩ := FunD.binds1 (ps := ["self", "head", "slot", "unit", "most"]) F 4 0 (by simp) rfl (fun T kV doc pm an cdv ct us its h1 h2 => match us, h1, its, h2 with | [_, _, _, _], _, [_], _ => ⟨_, rfl, rfl⟩)
  exact ⟨f, fd, ds, hm, M, hb, hv, rules_body T F⟩
/-- PageRules(head, slot, unit, most) -/
theorem ok_rules4 (T : Tx P w K mg) : MkX P w K mg base (L2.CX P w) 3 "PageRules" (cPR K) ["self", "head", "slot", "unit", "most"] [] (spRules K) := by
  obtain ⟨f, fd, hm, M, F⟩ := T.mk_PageRules
  obtain ⟨ds, hv, hb⟩ := FunD.binds1 (ps := ["self", "head", "slot", "unit", "most"]) F 5 1 (by simp) rfl (fun T kV doc pm an cdv ct us its h1 h2 => match us, h1, its, h2 with | [_, _, _, _, _], _, [_], _ => ⟨_, rfl, rfl⟩)
  exact ⟨f, fd, ds, hm, M, hb, hv, rules_body T F⟩
end
end K03


set_option Elab.async false
set_option linter.all false
set_option maxRecDepth 100000
set_option maxHeartbeats 4000000
/-! a reading has one result -/
namespace Rdr
open PySem
variable {α β : Type} {rowF : Str → Nat → Option α} {partF : Str → Option β}
theorem good_one {text : Str} {ps qs : List β} (h : goodPs partF text ps) (k : goodPs partF text qs) : ps = qs := by
  have e := h.1.symm.trans k.1
  clear h k
  induction ps generalizing qs with
  | nil => cases qs with
    | nil => rfl
    | cons _ _ => cases e
  | cons p ps ih => cases qs with
    | nil => cases e
    | cons q qs =>
      rw [List.map_cons, List.map_cons] at e
      injection e with e1 e2
      injection e1 with e1
      rw [e1, ih e2]
theorem good_bad {text : Str} {ps : List β} (h : goodPs partF text ps) (k : badPs partF text) : False := by
  rcases k with k | k
  · rw [h.1, List.length_map] at k
    exact absurd h.2 (by omega)
  · rw [h.1] at k
    obtain ⟨p, _, e⟩ := List.mem_map.mp k
    cases e
theorem els_end : ("else" : Str) ≠ "end" := by decide +kernel
theorem Rd.det {md : Md} {ls : List Str} {n i : Nat} {R : Res α β} (h : Rd rowF partF md ls n i R) : ∀ {R'}, Rd rowF partF md ls n i R' → R = R' := by
  induction h with
  | eof => intro R' h; cases h; rfl
  | eofI => intro R' h; cases h; rfl
  | fin h1 =>
    intro R' h
    cases h with
    | fin _ => rfl
    | bad g => exact absurd h1 g
    | leaf g => exact absurd h1 g
    | ifE g => exact absurd h1 g
    | ifr g => exact absurd h1 g
  | finO h1 =>
    intro R' h
    cases h with
    | finO _ => rfl
    | bad g => exact absurd h1 g
    | leaf g => exact absurd h1 g
    | ifE g => exact absurd h1 g
    | ifr g => exact absurd h1 g
  | bad h1 h2 h3 =>
    intro R' h
    cases h with
    | fin g => exact absurd g h1
    | finO g => exact absurd g h1
    | bad => rfl
    | leaf _ _ g => rw [h3] at g; cases g
    | ifE _ g => exact absurd g h2
    | ifr _ g => exact absurd g h2
  | leaf h1 h2 h3 h4 ih =>
    intro R' h
    cases h with
    | fin g => exact absurd g h1
    | finO g => exact absurd g h1
    | bad _ _ g => rw [h3] at g; cases g
    | leaf _ _ g k =>
      rw [h3] at g
      cases g
      rw [ih k]
    | ifE _ g => exact absurd g h2
    | ifr _ g => exact absurd g h2
  | ifE h1 h2 h3 ih =>
    intro R' h
    cases h with
    | fin g => exact absurd g h1
    | finO g => exact absurd g h1
    | bad _ g => exact absurd h2 g
    | leaf _ g => exact absurd h2 g
    | ifE _ _ k => cases ih k; rfl
    | ifr _ _ k => cases ih k
  | ifr h1 h2 h3 h4 ih1 ih2 =>
    intro R' h
    cases h with
    | fin g => exact absurd g h1
    | finO g => exact absurd g h1
    | bad _ g => exact absurd h2 g
    | leaf _ g => exact absurd h2 g
    | ifE _ _ k => cases ih1 k
    | ifr _ _ k k2 =>
      cases ih1 k
      rw [ih2 k2]
  | badC h1 =>
    intro R' h
    cases h with
    | badC _ => rfl
    | aE g => exact (good_bad g h1).elim
    | one g => exact (good_bad g h1).elim
    | bE g => exact (good_bad g h1).elim
    | two g => exact (good_bad g h1).elim
    | elsE g => exact (good_bad g h1).elim
  | aE h1 h2 ih =>
    intro R' h
    cases h with
    | badC g => exact (good_bad h1 g).elim
    | aE _ k => cases ih k; rfl
    | one _ k => cases ih k
    | bE _ k => cases ih k
    | two _ k => cases ih k
    | elsE _ k => cases ih k
  | one h1 h2 ih =>
    intro R' h
    cases h with
    | badC g => exact (good_bad h1 g).elim
    | aE _ k => cases ih k
    | one g k => cases ih k; rw [good_one h1 g]
    | bE _ k =>
      have e := ih k
      injection e with _ e2
      exact absurd e2.symm els_end
    | two _ k =>
      have e := ih k
      injection e with _ e2
      exact absurd e2.symm els_end
    | elsE _ k =>
      have e := ih k
      injection e with _ e2
      exact absurd e2.symm els_end
  | bE h1 h2 h3 ih1 ih2 =>
    intro R' h
    cases h with
    | badC g => exact (good_bad h1 g).elim
    | aE _ k => cases ih1 k
    | one _ k =>
      have e := ih1 k
      injection e with _ e2
      exact absurd e2 els_end
    | bE _ k k2 => cases ih1 k; cases ih2 k2; rfl
    | two _ k k2 => cases ih1 k; cases ih2 k2
    | elsE _ k k2 => cases ih1 k; cases ih2 k2
  | two h1 h2 h3 ih1 ih2 =>
    intro R' h
    cases h with
    | badC g => exact (good_bad h1 g).elim
    | aE _ k => cases ih1 k
    | one _ k =>
      have e := ih1 k
      injection e with _ e2
      exact absurd e2 els_end
    | bE _ k k2 => cases ih1 k; cases ih2 k2
    | two g k k2 => cases ih1 k; cases ih2 k2; rw [good_one h1 g]
    | elsE _ k k2 =>
      cases ih1 k
      have e := ih2 k2
      injection e with _ e2
      exact absurd e2.symm els_end
  | elsE h1 h2 h3 ih1 ih2 =>
    intro R' h
    cases h with
    | badC g => exact (good_bad h1 g).elim
    | aE _ k => cases ih1 k
    | one _ k =>
      have e := ih1 k
      injection e with _ e2
      exact absurd e2 els_end
    | bE _ k k2 => cases ih1 k; cases ih2 k2
    | two g k k2 =>
      cases ih1 k
      have e := ih2 k2
      injection e with _ e2
      exact absurd e2 els_end
    | elsE _ k k2 => cases ih1 k; cases ih2 k2; rfl
end Rdr


set_option Elab.async false
set_option linter.all false
set_option maxRecDepth 100000
set_option maxHeartbeats 4000000
/-! where the parts of tests come from -/
namespace Rdr
variable {α β : Type} {rowF : PySem.Str → Nat → Option α} {partF : PySem.Str → Option β}
def SrcP (partF : PySem.Str → Option β) (it : It α β) : Prop := match it with
  | .leaf _ => True
  | .ifi _ ps _ _ => ∀ p ∈ ps, ∃ text, partF text = some p
theorem gp_src {n : Nat} {text : PySem.Str} {ps : List β} {x y : RT α β} (h : goodPs partF text ps) : SrcP partF (It.ifi n ps x y) := fun p hp => by
  have hm : some p ∈ partsOf partF text := by rw [h.1]; exact List.mem_map_of_mem hp
  obtain ⟨z, _, hz⟩ := List.mem_map.mp hm
  exact ⟨z, hz⟩
theorem Rd.srcP {md : Md} {ls : List PySem.Str} {n i : Nat} {R : Res α β} (h : Rd rowF partF md ls n i R) : ∀ t w ls' n' i', R = .ok t w ls' n' i' → ∀ it ∈ t.all, SrcP partF it := by
  induction h with
  | eof => rintro t w ls' n' i' ⟨⟩ it h; cases h
  | fin _ => rintro t w ls' n' i' ⟨⟩ it h; cases h
  | eofI => intro t w ls' n' i' e; cases e
  | finO _ => intro t w ls' n' i' e; cases e
  | bad => intro t w ls' n' i' e; cases e
  | ifE => intro t w ls' n' i' e; cases e
  | badC => intro t w ls' n' i' e; cases e
  | aE => intro t w ls' n' i' e; cases e
  | bE => intro t w ls' n' i' e; cases e
  | elsE => intro t w ls' n' i' e; cases e
  | @leaf b t r n i x R _ _ hx _ ih =>
    intro t' w ls' n' i' e it hit
    cases R with
    | err k => cases e
    | ok u w2 l m i2 =>
      cases e
      rcases List.mem_cons.mp hit with e | hit
      · subst e; exact trivial
      · exact ih _ _ _ _ _ rfl it hit
  | @ifr b t r n i l ps x y r2 n2 i2 R _ _ _ _ ih1 ih2 =>
    intro t' w ls' n' i' e it hit
    cases R with
    | err k => cases e
    | ok u w2 l2 m i3 =>
      cases e
      have h1 := ih1 _ _ _ _ _ rfl
      have hit' : it ∈ It.ifi l ps x y :: ((x.all ++ y.all) ++ u.all) := hit
      rw [List.mem_cons, List.mem_append] at hit'
      rcases hit' with e | hit' | hit'
      · exact h1 it (by show it ∈ It.ifi l ps x y :: ((x.all ++ y.all) ++ []); rw [e]; exact List.mem_cons_self ..)
      · exact h1 it (by show it ∈ It.ifi l ps x y :: ((x.all ++ y.all) ++ []); rw [List.append_nil]; exact List.mem_cons_of_mem _ hit')
      · exact ih2 _ _ _ _ _ rfl it hit'
  | @one text r n i ps x r2 n2 i2 hg _ ih =>
    rintro t w ls' n' i' ⟨⟩ it hit
    have hit' : it ∈ It.ifi n ps x .nil :: ((x.all ++ []) ++ []) := hit
    rw [List.append_nil, List.append_nil, List.mem_cons] at hit'
    rcases hit' with e | hit'
    · subst e; exact gp_src hg
    · exact ih _ _ _ _ _ rfl it hit'
  | @two text r n i ps x r2 n2 i2 y r3 n3 i3 hg _ _ ih1 ih2 =>
    rintro t w ls' n' i' ⟨⟩ it hit
    have hit' : it ∈ It.ifi n ps x y :: ((x.all ++ y.all) ++ []) := hit
    rw [List.append_nil, List.mem_cons, List.mem_append] at hit'
    rcases hit' with e | hit' | hit'
    · subst e; exact gp_src hg
    · exact ih1 _ _ _ _ _ rfl it hit'
    · exact ih2 _ _ _ _ _ rfl it hit'
end Rdr


set_option Elab.async false
set_option linter.all false
set_option maxRecDepth 100000
set_option maxHeartbeats 4000000
namespace K03
open PySem PySem.Spec PyProof.Rows L2 Rdr Tld Pgr NdefX LmX LamX
section
variable {P : Program} {w : World} {K : PySem.W.Frag} {mg : Str → Option Value} {base : Heap}
theorem tGo_len {ns all : List Str} : ∀ {r : List Str} {i : Nat} {found qs : List (Int × Option Str)} {seen : List Str}, tGo ns all i r found seen = some qs → qs.length ≤ found.length + r.length
  | [], i, found, qs, seen, h => by
    unfold tGo at h
    cases h
    simp
  | z :: r, i, found, qs, seen, h => by
    unfold tGo at h
    split at h
    · split at h
      · have q := tGo_len h
        simp; omega
      · cases h
    · split at h
      · cases h
      · split at h
        · cases h
        · have q := tGo_len h
          simp at q ⊢
          omega
theorem tSum_len {ns ws : List Str} {qs : List (Int × Option Str)} (h : tSum ns ws = some qs) : qs.length ≤ 7 := by
  unfold tSum at h
  split at h
  · cases h
  · have q := tGo_len h
    simp at q
    omega
theorem setG_len {goal : Str} {told : List Str} {d : Option Int} {s : Sh} (h : setG goal told d = some s) : (shNs s).length ≤ 7 := by
  unfold setG at h
  split at h
  · cases h
  · rename_i t ht
    have := tSum_len ht
    split at h
    · cases h; exact this
    · split at h
      · cases h; exact this
      · split at h
        · cases h; exact this
        · cases h
theorem shP_len {text : Str} {s : Sh} (h : shP text = some s) : (shNs s).length ≤ 7 := by
  unfold shP at h
  split at h
  · cases h; exact Nat.zero_le _
  · split at h
    · obtain ⟨t, ht, rfl⟩ := Option.map_eq_some_iff.mp h
      exact tSum_len ht
    · split at h
      · unfold setP setQ at h
        split at h
        · split at h
          · cases h; exact Nat.zero_le _
          · cases h
        · split at h
          · split at h
            · cases h
            · split at h
              · exact setG_len h
              · cases h
          · exact setG_len h
      · cases h
theorem partG_ok {text : Str} {p : Part} (h : partG text = some p) : okPart p := by
  unfold partG Tld.tPart at h
  split at h
  · obtain ⟨s, hs, rfl⟩ := Option.map_eq_some_iff.mp h
    unfold pgOthers at hs
    rw [List.lookup_cons] at hs
    split at hs
    · cases hs; exact .inl rfl
    · rw [List.lookup_cons] at hs
      split at hs
      · cases hs; exact .inr rfl
      · cases hs
  · split at h
    · split at h
      · split at h
        · split at h
          · cases h; exact trivial
          · cases h; exact trivial
        · cases h
      · cases h
    · cases h
theorem src_ok {t : TR} (h : ∀ it ∈ t.all, Src rowP it) (k : ∀ it ∈ t.all, SrcP partG it) : ∀ it ∈ t.all, okIt it ∧ (itNs it).length ≤ 1000 := fun it hi => by
  have h1 := h it hi
  have k1 := k it hi
  cases it with
  | leaf x =>
    obtain ⟨text, n, e⟩ := h1
    obtain ⟨s, hs, rfl⟩ := Option.map_eq_some_iff.mp e
    exact ⟨trivial, Nat.le_trans (shP_len hs) (by decide)⟩
  | ifi l ps a b =>
    have h1 : ps.length ≤ 4 := h1
    refine ⟨⟨h1, fun p hp => ?_⟩, ?_⟩
    · obtain ⟨text, e⟩ := k1 p hp
      exact partG_ok e
    · have := Rdr.fm_len partNs 2 ps (fun p _ => by cases p <;> simp [partNs])
      show (ps.flatMap partNs).length ≤ 1000
      omega
section
variable {P : Program} {w : World} {K : PySem.W.Frag} {mg : Str → Option Value} {base : Heap}
/-- a def of the module as a value -/
theorem pf_of {k j : Nat} {x : Str} {ps : List Str} {sp sp' : Sp} (F : FnX P w K mg base CX0 k x ps [] sp) (hk : k ≤ j) (hs : ∀ vs H Q E, sp' vs H Q E → sp vs H Q E) : ∃ f, mg x = some (.ref f) ∧ PfOk P w K mg base j f ps sp' := by
  obtain ⟨f, fd, dvs, h1, h2, h3, h4, h5⟩ := F.ex
  cases h4
  exact ⟨f, h1, fd, h2, h3, (h5.mono hk).imp hs⟩
theorem pf_row (T : Tx P w K mg) : ∃ f, mg "page_row" = some (.ref f) ∧ PfOk P w K mg base 10 f ["text", "line"] (spRowL K PgRow.ds rowP) :=
  pf_of (ok_page_row (base := base) T) (by decide) fun vs H Q E ⟨t, n, e, ⟨h1, h2⟩, h3⟩ => ⟨t, n, e, h1, h2, h3⟩
theorem pf_part (T : Tx P w K mg) : ∃ f, mg "page_part" = some (.ref f) ∧ PfOk P w K mg base 10 f ["text"] (spPartL K pds partG) :=
  pf_of (ok_page_part (base := base) T) (by decide) fun vs H Q E h => h
theorem fldset_go {ta tv : TE} {f : Str} {s : TS} {D : Ends} {σ : L2.St} {H : Hp} (h : tv σ H fun v H1 => sFld K ta (tC v) f { nx := s D, rt := D.rt, bk := D.bk, ct := D.ct } σ H1) : tSeq (sFld K ta tv f) s D σ H := h
def pgN : List Str := ["self", "kind", "rules", "text", "__class__"]
def pgF (kind text : Str) (l t : Addr) (rv : V) (r : Addr) : List (Str × V) := [("part", .str (Str.ofString "pages")), ("kind", .str kind), ("text", .str text), ("own_lines", .ref l), ("own_tables", .ref t), ("rules", rv), ("rows", .ref r)]
abbrev xMany (n : Nat) (most : Int) (z : Str) : HO := .xd [("most", .int most), ("many", .int (n : Nat)), ("what", .str z)]
def spPage (K : PySem.W.Frag) : Sp := fun vs H Q E => ∃ (x dx : Addr) (kv rv : V) (text : Str), vs = [.ref x, kv, rv, .str text] ∧ H x = some (.ins (cD K) dx []) ∧ KindV H kv ∧ text.length ≤ 100000 ∧ (∀ t ∈ linesOf text, t.length ≤ 1000 ∧ PyData.strOk t = true) ∧
  (kindOk kinds4 kv = false → ∀ d H', SameX x H H' → H' d = some (.xd [("kind", kv)]) → E (.ref (He.ga K "BadKind")) (some d) H') ∧
  (∀ k, kv = .str k → k ∈ kinds4 → (40 < (linesOf text).length → ∀ d H', SameX x H H' → H' d = some (xMany (linesOf text).length 40 (Str.ofString "lines")) → E (.ref (He.ga K "TooMany")) (some d) H') ∧
    ((linesOf text).length ≤ 40 → (∀ n, Rd rowP partG (.blk false) (linesOf text) 0 0 (.err n) → ∀ d H', SameX x H H' → H' d = some (.xd [("line", .int (n : Nat))]) → E (.ref (He.ga K "BadLine")) (some d) H') ∧
      (∀ t wd ls n i, Rd rowP partG (.blk false) (linesOf text) 0 0 (.ok t wd ls n i) →
        (7 < i → ∀ d H', SameX x H H' → H' d = some (xMany i 7 (Str.ofString "ifs")) → E (.ref (He.ga K "TooMany")) (some d) H') ∧
        (i ≤ 7 → wrongs k t = [] → ∀ l tb r H', H l = none → H' x = some (.ins (cD K) dx (pgF k text l tb rv r)) → H' l = some (.lst ((linesOf text).map V.str)) → SameX x H H' → Q .non H') ∧
        (i ≤ 7 → ∀ n, n ∈ wrongs k t → (∀ j ∈ wrongs k t, n ≤ j) → ∀ d H', SameX x H H' → H' d = some (.xd [("line", .int (n : Nat))]) → E (.ref (He.ga K "Refused")) (some d) H'))))
theorem ok_page (T : Tx P w K mg) : MkX P w K mg base (L2.CX P w) 97 "PageCode" (cD K) ["self", "kind", "rules", "text"] [] (spPage K) := by
  obtain ⟨f0, fd0, fI, cc, c, S, M, F0⟩ := T.sup_PageCode
  obtain ⟨b0, G⟩ := ok_ct (base := base) T F0
  obtain ⟨fr, hfr, pfr⟩ := pf_row (base := base) T
  obtain ⟨fp, hfp, pfp⟩ := pf_part (base := base) T
  have F_read_rows := ok_read_rows (base := base) (fa := PgRow.ds) (fb := pds) (rowF := rowP) (partF := partG) T
  have F_need_page_limits := ok_need (base := base) T
  have Sn := S.sc
  have fin := SupX.sup_ok (sp := spPage K) S (G.mono (show 3 ≤ 96 by decide)) b0 (fun vs H Q E h => by obtain ⟨x, dx, kv, rv, text, rfl, _⟩ := h; rfl)
  suffices hb : _ by
    obtain ⟨doc, pm, ctv, R1, R2⟩ := fin hb
    exact ⟨fI, _, [], T.g_PageCode, M, R2, .nil, R1⟩
  clear fin
  intro A outer s H vs Q E hr h
  obtain ⟨x, dx, kv, rv, text, rfl, hx, hkv, htl, hts, h0, h1⟩ := h
  refine ⟨x, dx, [], _, _, rfl, hx, (by exact (pa_cons pe_str (pa_cons (pv 1) (pa_cons (pe_gref T.g_PAGE_KINDS) (pa_cons (pv 3) (pa_cons pe_int pa_nil)))))), (by exact (pss_cons (ps_fld (pv 0) (pv 2) rfl) (pss_cons (ps_fld (pv 0) (pe_callX F_read_rows (hr.mono (by decide)) (passes_call (takes_of rfl rfl rfl rfl) (fun _ _ _ _ h => h)) (pa_cons (pe_fld (pv 0) rfl) (pa_cons (pe_gref hfr) (pa_cons (pe_gref hfp) (pa_cons pe_int pa_nil))))) rfl) (pss_one (ps_expr (pe_callX F_need_page_limits (hr.mono (by decide)) (passes_call (takes_of rfl rfl rfl rfl) (fun _ _ _ _ h => h)) (pa_cons (pe_fld (pv 0) rfl) (pa_cons (pv 1) pa_nil)))))))), ?_⟩
  refine cons_go (c_go (cons_go (var_go rfl (cons_go (c_go (cons_go (var_go rfl (cons_go (c_go (nil_go ?_))))))))))
  refine ⟨x, dx, He.ga K "PAGE_KINDS", "pages", text, kv, kinds4, 40, rfl, hx, T.t_PAGE_KINDS _, hkv, htl, (fun e d hd => h0 e d _ (Same.new hd).x upd_same), (fun k ek hk hgt d H' hd hd2 sx => (h1 k ek hk).1 (by omega) d H' sx hd2), (fun k ek hk hle l tb H2 hl htb hx2 hl2 sx2 => ?_)⟩
  subst ek
  have hle2 : (linesOf text).length ≤ 40 := by omega
  obtain ⟨k1, k2⟩ := (h1 k rfl hk).2 hle2
  have hlx : l ≠ x := fun e => by rw [e, hx] at hl; cases hl
  refine ⟨_, rfl, _, rfl, x, cD K, dx, _, rfl, hx2, T.cl_PageCode, T.na_PageCode_rules, (by show 5 < 1000; decide), ?_⟩
  have hx3 : upd H2 x (.ins (cD K) dx (putF "rules" rv (ctF "pages" k text l tb))) x = some (.ins (cD K) dx (putF "rules" rv (ctF "pages" k text l tb))) := upd_same
  have sx3 : SameX x H (upd H2 x (.ins (cD K) dx (putF "rules" rv (ctF "pages" k text l tb)))) := fun b o hb ho => by rw [upd_ne hb]; exact sx2 b o hb ho
  have hl3 : upd H2 x (.ins (cD K) dx (putF "rules" rv (ctF "pages" k text l tb))) l = some (.lst ((linesOf text).map V.str)) := by rw [upd_ne hlx]; exact hl2
  generalize upd H2 x (.ins (cD K) dx (putF "rules" rv (ctF "pages" k text l tb))) = H3 at hx3 sx3 hl3 ⊢
  refine fldset_go (call_go (cons_go (ev_fld (ev_var (i := 0) rfl) hx3 T.cl_PageCode T.na_PageCode_own_lines rfl _ fun H4 s4 => cons_go (c_go (cons_go (c_go (cons_go (c_go (nil_go ?_)))))))))
  have sx4 : ∀ {H5 : Hp}, Same H4 H5 → SameX x H H5 := fun s5 => sx3.tr (s4.tr s5).x
  refine ⟨l, fr, fp, linesOf text, 7, rfl, s4 _ _ hl3, pfr, pfp, hle2, hts, (fun n hn d H5 s5 hd => k1 n hn d H5 (sx4 s5) hd), fun t wd ls n i hrd => ⟨fun hgt d H5 s5 hd => (k2 t wd ls n i hrd).1 hgt d H5 (sx4 s5) hd, fun hi q xs H5 s5 hq hxs => ?_⟩⟩
  obtain ⟨j1, j2, j3⟩ := k2 t wd ls n i hrd
  have gd := Rd.good hrd _ _ _ _ _ rfl
  have sr := src_ok (Rd.src hrd _ _ _ _ _ rfl) (Rd.srcP hrd _ _ _ _ _ rfl)
  have hsz : t.sz ≤ 40 := by have h9 : t.sz + ls.length ≤ (linesOf text).length + 0 := gd.1; omega
  have hif : t.ifs ≤ 7 := by have := gd.2; omega
  have hx5 := (s4.tr s5) _ _ hx3
  refine ⟨_, rfl, x, cD K, dx, _, rfl, hx5, T.cl_PageCode, T.na_PageCode_rows, (by show 6 < 1000; decide), ?_⟩
  have hqx : q ≠ x := fun e => by rw [e, hx5] at hq; cases hq
  have tl6 : TupLe H5 (upd H5 x (.ins (cD K) dx (putF "rows" (.ref q) (putF "rules" rv (ctF "pages" k text l tb))))) := TupLe.mut hx5 fun xs z => by cases z
  have hx6 : upd H5 x (.ins (cD K) dx (putF "rows" (.ref q) (putF "rules" rv (ctF "pages" k text l tb)))) x = some (.ins (cD K) dx (pgF k text l tb rv q)) := upd_same
  have sx6 : SameX x H (upd H5 x (.ins (cD K) dx (putF "rows" (.ref q) (putF "rules" rv (ctF "pages" k text l tb))))) := fun b o hb ho => by rw [upd_ne hb]; exact sx4 s5 b o hb ho
  have hq6 : upd H5 x (.ins (cD K) dx (putF "rows" (.ref q) (putF "rules" rv (ctF "pages" k text l tb)))) q = some (.tup xs) := by rw [upd_ne hqx]; exact hq
  have hl6 : upd H5 x (.ins (cD K) dx (putF "rows" (.ref q) (putF "rules" rv (ctF "pages" k text l tb)))) l = some (.lst ((linesOf text).map V.str)) := by rw [upd_ne hlx]; exact (s4.tr s5) _ _ hl3
  have hd6 := hxs.up tl6
  clear tl6
  generalize upd H5 x (.ins (cD K) dx (putF "rows" (.ref q) (putF "rules" rv (ctF "pages" k text l tb)))) = H6 at hx6 sx6 hq6 hl6 hd6 ⊢
  refine call_go (cons_go (ev_fld (ev_var (i := 0) rfl) hx6 T.cl_PageCode T.na_PageCode_rows rfl _ fun H7 s7 => cons_go (var_go rfl (nil_go ⟨k, q, xs, t, rfl, ⟨.inl (.inl (s7 _ _ hq6)), hd6.up s7.tl, by have := dep_sz t; omega, by omega⟩, hif, sr, ?_, ?_⟩))))
  · exact fun e H8 s8 => j2 hi e l tb q H8 hl ((s7.tr s8) _ _ hx6) ((s7.tr s8) _ _ hl6) (sx6.tr (s7.tr s8).x)
  · exact fun m hm hmin d H8 s8 hd => j3 hi m hm hmin d H8 (sx6.tr (s7.tr s8).x) hd
end
end
end K03


set_option Elab.async false
set_option linter.all false
set_option maxRecDepth 100000
set_option maxHeartbeats 4000000
namespace L2
open PySem PySem.Spec PyProof.Rows
/-- for .. in range(m, n) -/
theorem for_rng2 {ta : TA} {m n : Nat} {g : TG} {tb : TS} {D : Ends} {σ : St} {H : Hp} (Pv : Nat → St → Hp → Prop) (he : EvA ta σ H [.int (m : Nat), .int (n : Nat)]) (hm : m ≤ n) (hn : n ≤ 1000000) (h0 : ∀ H1, Same H H1 → Pv m σ H1)
    (hs : ∀ i σ H, i < n → m ≤ i → Pv i σ H → g (.int (i : Nat)) σ H fun σ2 H2 => tb { D with nx := Pv (i + 1), ct := Pv (i + 1), bk := D.nx } σ2 H2) (hd : ∀ σ H, Pv n σ H → D.nx σ H) : tFor (iRng2 ta) g tb D σ H :=
  he _ fun H1 s1 => ⟨_, _, rfl, by omega, for_range (lo := (m : Nat)) (n := ((n : Int) - (m : Int)).toNat) (fun i σ H => Pv (m + i) σ H) (h0 H1 s1) (fun i σ H hi p => by
    rw [show ((m : Nat) : Int) + (i : Int) = ((m + i : Nat) : Int) by omega]
    exact hs (m + i) σ H (by omega) (by omega) p) (fun σ H p => hd σ H (by rw [show m + ((n : Int) - (m : Int)).toNat = n by omega] at p; exact p))⟩
end L2
namespace Pgr
open PySem
def wd0 (t : Str) : Str := (Txt.split t " ").getD 0 ""
/-- where the else and the end of an if are, from the line k on -/
def lbGo : List Str → Nat → Nat → Nat → Nat × Nat
  | [], k, _, o => (o, k + 1)
  | t :: r, k, d, o => if wd0 t = "if" then lbGo r (k + 1) (d + 1) o
    else if wd0 t = "else" ∧ d = 0 then lbGo r (k + 1) d (k + 1)
    else if wd0 t = "end" then (if d = 0 then (o, k + 1) else lbGo r (k + 1) (d - 1) o)
    else lbGo r (k + 1) d o
end Pgr
namespace K03
open PySem PySem.Spec PyProof.Rows L2 Rdr LmX LamX NdefX Pgr Tld
section
variable {P : Program} {w : World} {K : PySem.W.Frag} {mg : Str → Option Value} {base : Heap}
def spLB : Sp := fun vs H Q _ => ∃ (a : Addr) (ls : List Str) (m : Nat), vs = [.ref a, .int (m : Nat)] ∧ H a = some (.lst (ls.map V.str)) ∧ ls.length ≤ 1000 ∧ m ≤ ls.length ∧ (∀ t ∈ ls, t.length ≤ 1000) ∧
  ∀ q H', Same H H' → H q = none → H' q = some (.tup [.int ((lbGo (ls.drop m) m 0 0).1 : Nat), .int ((lbGo (ls.drop m) m 0 0).2 : Nat)]) → Q (.ref q) H'
theorem ok_l_block (T : Tx P w K mg) : FnX P w K mg base CX0 1 "_law_block" ["_law_lines_here", "_law_at"] [] spLB := by
  refine T.d_l_block.ok0 sc_l_block (fun _ _ _ _ _ _ us hl => match us, hl with | [_, _], _ => rfl) (fun vs H Q E h => ?_) (fun f cdv A outer s H vs Q E hr h => have hu := hu_of hr; ⟨_, (by exact (pss_cons (ps_asg (pe_tup (pa_cons pe_int (pa_cons pe_int pa_nil))) (pg_tup rfl (pgs_cons (pg_name (i := 2) sc_l_block.nd rfl (Or.inl rfl)) (pgs_cons (pg_name (i := 3) sc_l_block.nd rfl (Or.inl rfl)) pgs_nil))))
      (pss_cons (ps_for PassesOwn.never rfl (pi_range2 rfl T.b_range (pa_cons (pv 1) (pa_cons (pe_callB call_len_seq (by rfl) T.b_len (by decide +kernel) (pa_cons (pv 0) pa_nil)) pa_nil))) (pg_name (i := 4) sc_l_block.nd rfl (Or.inl rfl))
        (pss_cons (ps_set (i := 5) sc_l_block.nd rfl (Or.inl rfl) (pe_ix ix_list (pe_split (pe_ix ix_list (pv 0) (pv 4) (fun _ _ => rfl)) pe_str) pe_int (fun _ _ => rfl)))
      (pss_one (ps_if (pt_cmpR op_eq (pv 5) pe_str (nomark _)) (pss_one (ps_set (i := 2) sc_l_block.nd rfl (Or.inl rfl) (pe_op op_add (pv 2) pe_int))) (pss_one (ps_if (PW.pt (pw_and (pt_cmpR op_eq (pv 5) pe_str (nomark _)) (pw_and1 (pt_cmpR op_eq (pv 2) pe_int (nomark _))))) (pss_one (ps_set (i := 3) sc_l_block.nd rfl (Or.inl rfl) (pe_op op_add (pv 4) pe_int))) (pss_one (ps_if (pt_cmpR op_eq (pv 5) pe_str (nomark _)) (pss_cons (ps_if (pt_cmpR op_eq (pv 2) pe_int (nomark _)) (pss_one (ps_ret (pe_tup (pa_cons (pv 3) (pa_cons (pe_op op_add (pv 4) pe_int) pa_nil))))) pss_nil)
      (pss_one (ps_set (i := 2) sc_l_block.nd rfl (Or.inl rfl) (pe_op op_sub (pv 2) pe_int)))) pss_nil))))))))
      (pss_one (ps_ret (pe_tup (pa_cons (pv 3) (pa_cons (pe_op op_add (pe_callB call_len_seq (by rfl) T.b_len (by decide +kernel) (pa_cons (pv 0) pa_nil)) pe_int) pa_nil)))))))), ?_⟩)
  · obtain ⟨a, ls, m, rfl, _⟩ := h
    rfl
  obtain ⟨a, ls, m, rfl, ha, hn, hm, hlen, h0⟩ := h
  have q9 : sizeLine = 16777216 := sizeLine_eq
  refine asg_go (tup_go (cons_go (c_go (cons_go (c_go (nil_go ⟨szL rfl, fun q0 hq0 => ⟨q0, _, rfl, .inl (.inl upd_same), rfl, _, _, rfl, _, _, rfl, rfl, ?_⟩⟩))))))
  have sq0 : Same H (upd H q0 (.tup [.int 0, .int 0])) := Same.new hq0
  generalize upd H q0 (.tup [.int 0, .int 0]) = H00 at sq0 ⊢
  have LN : ∀ {H1 : Hp} {u2 u3 u4 u5 : Option V}, Same H H1 → EvE (tCB (fun xs H Q => ∃ p ys, xs = [V.ref p] ∧ (SqL K H p ys ∨ SqT K H p ys) ∧ Q (.int (ys.length : Nat)) H) (tCons (tVar 0) tNil)) [some (.ref a), some (.int (m : Nat)), u2, u3, u4, u5] H1 (.int (ls.length : Nat)) := fun {H1 u2 u3 u4 u5} s => by
    have := ev_len (K := K) (σ := [some (.ref a), some (.int (m : Nat)), u2, u3, u4, u5]) (ev_cons (ev_var (i := 0) rfl) fun _ _ => ev_nil) (.inl (.inl (.inl (s _ _ ha))))
    rw [List.length_map] at this
    exact this
  refine nx_for (for_rng2 (m := m) (n := ls.length) (fun i σ H' => Same H H' ∧ ∃ (d o : Nat) (u4 u5 : Option V), σ = [some (.ref a), some (.int (m : Nat)), some (.int (d : Nat)), some (.int (o : Nat)), u4, u5] ∧ lbGo (ls.drop m) m 0 0 = lbGo (ls.drop i) i d o)
    (ev_cons (ev_var rfl) fun _ s => ev_cons (LN (sq0.tr s)) fun _ _ => ev_nil) hm (by omega) (fun H1 s1 => ⟨sq0.tr s1, 0, 0, none, none, rfl, rfl⟩) ?_ ?_)
  · rintro i σ H1 hi hmi ⟨s1, d, o, u4, u5, rfl, hgo⟩
    have hd := List.drop_eq_getElem_cons hi
    have htl := hlen _ (List.getElem_mem hi)
    have hti : ls[i]? = some ls[i] := List.getElem?_eq_getElem hi
    generalize ls[i] = t at hd htl hti
    rw [hd] at hgo
    have hnw : Txt.split t " " ≠ [] := fun e => by
      have h := fact_split t " "
      rw [e] at h
      exact absurd h.1 (by decide)
    refine nm (set_te (op_go (do_split (z := t) (ev_ixL (ev_var (i := 0) rfl) (fun _ _ => ev_var (i := 4) rfl) (.inl (.inl (s1 _ _ ha))) (atI_nat (j := i) (by rw [List.getElem?_map, hti]; rfl))) (by decide +kernel) (by omega) (fun H2 q s2 _ hq => c_go ⟨q, _, 0, .str (wd0 t), rfl, rfl, .inl (.inl hq), at_word (i := 0) (List.length_pos_iff.mpr hnw), ?_⟩))))
    have s12 := s1.tr s2
    let S : L2.St := [some (.ref a), some (.int (m : Nat)), some (.int (d : Nat)), some (.int (o : Nat)), some (.int (i : Nat)), some (.str (wd0 t))]
    have hstep : lbGo (t :: ls.drop (i + 1)) i d o = if wd0 t = "if" then lbGo (ls.drop (i + 1)) (i + 1) (d + 1) o
      else if wd0 t = "else" ∧ d = 0 then lbGo (ls.drop (i + 1)) (i + 1) d (i + 1)
      else if wd0 t = "end" then (if d = 0 then (o, i + 1) else lbGo (ls.drop (i + 1)) (i + 1) (d - 1) o)
      else lbGo (ls.drop (i + 1)) (i + 1) d o := rfl
    rw [hstep] at hgo
    have V5 : ∀ {H}, EvE (tVar 5) S H (.str (wd0 t)) := ev_var rfl
    refine do_if (σ := S) (eq_str V5 fun _ _ => ev_C) (fun g H3 s3 => ?_) (fun g H3 s3 => ?_)
    · rw [if_pos (of_decide_eq_true g)] at hgo
      exact ev_op (σ := S) (v := .int ((d + 1 : Nat) : Int)) (ev_var (i := 2) rfl) (fun _ _ => ev_C) (fun _ _ Q q => ⟨_, _, rfl, rfl, q⟩) _ fun H4 s4 => ⟨(s12.tr s3).tr s4, d + 1, o, _, _, rfl, hgo⟩
    rw [if_neg (of_decide_eq_false g)] at hgo
    have s13 := s12.tr s3
    refine do_if (σ := S) (b1 := decide (wd0 t = "else") && decide (d = 0)) (ev_and (eq_str V5 fun _ _ => ev_C) fun _ H4 _ => eq_nat (y := 0) (ev_var (i := 2) rfl) fun _ _ => ev_C) (fun g2 H4 s4 => ?_) (fun g2 H4 s4 => ?_)
    · rw [Bool.and_eq_true] at g2
      rw [if_pos ⟨of_decide_eq_true g2.1, of_decide_eq_true g2.2⟩] at hgo
      exact ev_op (σ := S) (v := .int ((i + 1 : Nat) : Int)) (ev_var (i := 4) rfl) (fun _ _ => ev_C) (fun _ _ Q q => ⟨_, _, rfl, rfl, q⟩) _ fun H5 s5 => ⟨(s13.tr s4).tr s5, d, i + 1, _, _, rfl, hgo⟩
    rw [if_neg (fun ⟨k1, k2⟩ => by rw [decide_eq_true k1, decide_eq_true k2] at g2; cases g2)] at hgo
    have s14 := s13.tr s4
    refine do_if (σ := S) (eq_str V5 fun _ _ => ev_C) (fun g3 H5 s5 => ?_) (fun g3 H5 s5 => ?_)
    · rw [if_pos (of_decide_eq_true g3)] at hgo
      have s15 := s14.tr s5
      refine seq_if (σ := S) (eq_nat (y := 0) (ev_var (i := 2) rfl) fun _ _ => ev_C) (fun g4 H6 s6 => ?_) (fun g4 H6 s6 => ?_)
      · rw [if_pos (of_decide_eq_true g4)] at hgo
        refine ret_go (tup_go (cons_go (var_go rfl (cons_go (ev_op (σ := S) (v := .int ((i + 1 : Nat) : Int)) (ev_var (i := 4) rfl) (fun _ _ => ev_C) (fun _ _ Q q => ⟨_, _, rfl, rfl, q⟩) _ fun H7 s7 => nil_go ⟨szL rfl, fun q hq => h0 q _ (((s15.tr s6).tr s7).tr (Same.new hq)) (none_of ((s15.tr s6).tr s7) hq) (by rw [hgo]; exact upd_same)⟩)))))
      · have g4 := of_decide_eq_false g4
        rw [if_neg g4] at hgo
        refine ev_op (σ := S) (v := .int ((d - 1 : Nat) : Int)) (ev_var (i := 2) rfl) (fun _ _ => ev_C) (fun H' _ Q q => ⟨_, _, rfl, rfl, by show Q (.int (((d : Nat) : Int) - 1)) H'; rw [show ((d : Nat) : Int) - 1 = ((d - 1 : Nat) : Int) by omega]; exact q⟩) _ fun H7 s7 => ⟨(s15.tr s6).tr s7, d - 1, o, _, _, rfl, hgo⟩
    · rw [if_neg (of_decide_eq_false g3)] at hgo
      exact ⟨s14.tr s5, d, o, _, _, rfl, hgo⟩
  · rintro σ H1 ⟨s1, d, o, u4, u5, rfl, hgo⟩
    rw [List.drop_length] at hgo
    refine ret_go (tup_go (cons_go (var_go rfl (cons_go (ev_op (v := .int ((ls.length + 1 : Nat) : Int)) (LN s1) (fun _ _ => ev_C) (fun _ _ Q q => ⟨_, _, rfl, rfl, q⟩) _ fun H7 s7 => nil_go ⟨szL rfl, fun q hq => h0 q _ ((s1.tr s7).tr (Same.new hq)) (none_of (s1.tr s7) hq) (by rw [hgo]; exact upd_same)⟩)))))
end
end K03


set_option Elab.async false
set_option linter.all false
set_option maxRecDepth 100000
set_option maxHeartbeats 4000000
/-! trees of lines: their lines are read as their rows -/
namespace Rdr
open PySem
inductive LT
  | nil
  | leaf (t : Str) (r : LT)
  | if1 (t : Str) (a r : LT)
  | if2 (t : Str) (a b r : LT)
def elseS : Str := Str.ofString "else"
def endS : Str := Str.ofString "end"
def LT.lines : LT → List Str
  | .nil => []
  | .leaf t r => t :: r.lines
  | .if1 t a r => t :: (a.lines ++ endS :: r.lines)
  | .if2 t a b r => t :: (a.lines ++ elseS :: (b.lines ++ endS :: r.lines))
def LT.ifs : LT → Nat
  | .nil => 0
  | .leaf _ r => r.ifs
  | .if1 _ a r => 1 + a.ifs + r.ifs
  | .if2 _ a b r => 1 + a.ifs + b.ifs + r.ifs
section
variable {α β : Type} (rowF : Str → Nat → Option α) (partF : Str → Option β) (dflt : α)
def LT.good : LT → Prop
  | .nil => True
  | .leaf t r => t ∉ enders ∧ ¬ isIf t ∧ (∀ n, (rowF t n).isSome = true) ∧ r.good
  | .if1 t a r => t ∉ enders ∧ isIf t ∧ (∃ ps, goodPs partF (cut3 t) ps) ∧ a.good ∧ r.good
  | .if2 t a b r => t ∉ enders ∧ isIf t ∧ (∃ ps, goodPs partF (cut3 t) ps) ∧ a.good ∧ b.good ∧ r.good
def psOf (t : Str) : List β := (partsOf partF (cut3 t)).filterMap id
def LT.rt : LT → Nat → RT α β
  | .nil, _ => .nil
  | .leaf t r, n => .leaf ((rowF t (n + 1)).getD dflt) (r.rt (n + 1))
  | .if1 t a r, n => .ifr (n + 1) (psOf partF t) (a.rt (n + 1)) .nil (r.rt (n + 1 + a.lines.length + 1))
  | .if2 t a b r, n => .ifr (n + 1) (psOf partF t) (a.rt (n + 1)) (b.rt (n + 1 + a.lines.length + 1)) (r.rt (n + 1 + a.lines.length + 1 + b.lines.length + 1))
end
variable {α β : Type} {rowF : Str → Nat → Option α} {partF : Str → Option β} {dflt : α}
theorem good_ps {t : Str} (h : ∃ ps, goodPs partF (cut3 t) ps) : goodPs partF (cut3 t) (psOf partF t) := by
  obtain ⟨ps, h⟩ := h
  have e : psOf partF t = ps := by
    unfold psOf
    rw [h.1, List.filterMap_map]
    have : ∀ l : List β, l.filterMap (id ∘ some) = l := fun l => by
      induction l with
      | nil => rfl
      | cons x r ih => rw [List.filterMap_cons]; show x :: _ = _; rw [ih]
    exact this ps
  rw [e]
  exact h
theorem pre_id (R : Res α β) : R.pre (fun t => t) = R := by cases R <;> rfl
theorem rd_tree : ∀ (t : LT) (b : Bool) (rest : List Str) (n i : Nat) (R : Res α β), t.good rowF partF → Rd rowF partF (.blk b) rest (n + t.lines.length) (i + t.ifs) R → Rd rowF partF (.blk b) (t.lines ++ rest) n i (R.pre (t.rt rowF partF dflt n).app)
  | .nil, b, rest, n, i, R, _, h => by
    have e : R.pre (LT.nil.rt rowF partF dflt n).app = R := pre_id R
    rw [e]
    exact h
  | .leaf t r, b, rest, n, i, R, ⟨g1, g2, g3, g4⟩, h => by
    obtain ⟨x, hx⟩ := Option.isSome_iff_exists.mp (g3 (n + 1))
    have ih := rd_tree r b rest (n + 1) i R g4 (by rw [show n + 1 + r.lines.length = n + (r.lines.length + 1) by omega]; exact h)
    have := Rd.leaf g1 g2 hx ih
    rw [pre_pre] at this
    have e : (fun u => RT.leaf x ((r.rt rowF partF dflt (n + 1)).app u)) = ((LT.leaf t r).rt rowF partF dflt n).app := by
      funext u
      show _ = RT.leaf ((rowF t (n + 1)).getD dflt) _
      rw [hx]
      rfl
    rw [← e]
    exact this
  | .if1 t a r, b, rest, n, i, R, ⟨g1, g2, g3, g4, g5⟩, h => by
    have hend : endS ∈ enders := by decide +kernel
    have ha := rd_tree a true (endS :: (r.lines ++ rest)) (n + 1) (i + 1) (.ok .nil endS (r.lines ++ rest) (n + 1 + a.lines.length + 1) (i + 1 + a.ifs)) g4 (.fin hend)
    have hc : Rd rowF partF (.cond (cut3 t)) (a.lines ++ endS :: (r.lines ++ rest)) (n + 1) i (.ok (.ifr (n + 1) (psOf partF t) ((a.rt rowF partF dflt (n + 1)).app .nil) .nil .nil) "" (r.lines ++ rest) (n + 1 + a.lines.length + 1) (i + 1 + a.ifs)) := .one (good_ps g3) ha
    rw [RT.app_nil] at hc
    have hr := rd_tree r b rest (n + 1 + a.lines.length + 1) (i + 1 + a.ifs) R g5 (by
      rw [show n + 1 + a.lines.length + 1 + r.lines.length = n + (LT.if1 t a r).lines.length from by
        show _ = n + ((a.lines ++ endS :: r.lines).length + 1)
        rw [List.length_append, List.length_cons]; omega, show i + 1 + a.ifs + r.ifs = i + (LT.if1 t a r).ifs from by show _ = i + (1 + a.ifs + r.ifs); omega]
      exact h)
    have := Rd.ifr g1 g2 hc hr
    rw [pre_pre] at this
    have el : (LT.if1 t a r).lines ++ rest = t :: (a.lines ++ endS :: (r.lines ++ rest)) := by
      show t :: (a.lines ++ endS :: r.lines) ++ rest = _
      rw [List.cons_append, List.append_assoc, List.cons_append]
    rw [el]
    exact this
  | .if2 t a c r, b, rest, n, i, R, ⟨g1, g2, g3, g4, g5, g6⟩, h => by
    have hend : endS ∈ enders := by decide +kernel
    have hels : elseS ∈ enders := by decide +kernel
    have ha := rd_tree a true (elseS :: (c.lines ++ endS :: (r.lines ++ rest))) (n + 1) (i + 1) (.ok .nil elseS (c.lines ++ endS :: (r.lines ++ rest)) (n + 1 + a.lines.length + 1) (i + 1 + a.ifs)) g4 (.fin hels)
    have hb := rd_tree c true (endS :: (r.lines ++ rest)) (n + 1 + a.lines.length + 1) (i + 1 + a.ifs) (.ok .nil endS (r.lines ++ rest) (n + 1 + a.lines.length + 1 + c.lines.length + 1) (i + 1 + a.ifs + c.ifs)) g5 (.fin hend)
    have hc : Rd rowF partF (.cond (cut3 t)) (a.lines ++ elseS :: (c.lines ++ endS :: (r.lines ++ rest))) (n + 1) i (.ok (.ifr (n + 1) (psOf partF t) ((a.rt rowF partF dflt (n + 1)).app .nil) ((c.rt rowF partF dflt (n + 1 + a.lines.length + 1)).app .nil) .nil) "" (r.lines ++ rest) (n + 1 + a.lines.length + 1 + c.lines.length + 1) (i + 1 + a.ifs + c.ifs)) := .two (good_ps g3) ha hb
    rw [RT.app_nil, RT.app_nil] at hc
    have hr := rd_tree r b rest (n + 1 + a.lines.length + 1 + c.lines.length + 1) (i + 1 + a.ifs + c.ifs) R g6 (by
      rw [show n + 1 + a.lines.length + 1 + c.lines.length + 1 + r.lines.length = n + (LT.if2 t a c r).lines.length from by
        show _ = n + ((a.lines ++ elseS :: (c.lines ++ endS :: r.lines)).length + 1)
        rw [List.length_append, List.length_cons, List.length_append, List.length_cons]; omega, show i + 1 + a.ifs + c.ifs + r.ifs = i + (LT.if2 t a c r).ifs from by show _ = i + (1 + a.ifs + c.ifs + r.ifs); omega]
      exact h)
    have := Rd.ifr g1 g2 hc hr
    rw [pre_pre] at this
    have el : (LT.if2 t a c r).lines ++ rest = t :: (a.lines ++ elseS :: (c.lines ++ endS :: (r.lines ++ rest))) := by
      show t :: (a.lines ++ elseS :: (c.lines ++ endS :: r.lines)) ++ rest = _
      simp [List.append_assoc]
    rw [el]
    exact this
/-- the whole code -/
theorem rd_whole {t : LT} (h : t.good rowF partF) : Rd rowF partF (.blk false) t.lines 0 0 (.ok (t.rt rowF partF dflt 0) "" [] t.lines.length t.ifs) := by
  have := rd_tree (dflt := dflt) t false [] 0 0 (.ok .nil "" [] (0 + t.lines.length) (0 + t.ifs)) h .eof
  rw [List.append_nil, Nat.zero_add, Nat.zero_add] at this
  have e : (Res.ok .nil "" [] t.lines.length t.ifs : Res α β).pre (t.rt rowF partF dflt 0).app = .ok (t.rt rowF partF dflt 0) "" [] t.lines.length t.ifs := by
    show Res.ok ((t.rt rowF partF dflt 0).app .nil) "" [] t.lines.length t.ifs = _
    rw [RT.app_nil]
  rw [← e]
  exact this
end Rdr


set_option Elab.async false
set_option linter.all false
set_option maxRecDepth 100000
set_option maxHeartbeats 4000000
/-! the law's reckonings on the lines of a tree -/
namespace Pgr
open PySem Rdr
/-- the first words tell what a line is -/
def wdOk : LT → Prop
  | .nil => True
  | .leaf t r => wd0 t ≠ "if" ∧ wd0 t ≠ "else" ∧ wd0 t ≠ "end" ∧ wdOk r
  | .if1 t a r => wd0 t = "if" ∧ wdOk a ∧ wdOk r
  | .if2 t a b r => wd0 t = "if" ∧ wdOk a ∧ wdOk b ∧ wdOk r
theorem wd_else : wd0 elseS = "else" := by decide +kernel
theorem wd_end : wd0 endS = "end" := by decide +kernel
theorem ei : ("else" : Str) ≠ "if" := by decide +kernel
theorem ni : ("end" : Str) ≠ "if" := by decide +kernel
theorem ne : ("end" : Str) ≠ "else" := by decide +kernel
theorem lb_if {t : Str} {r : List Str} {k d o : Nat} (h : wd0 t = "if") : lbGo (t :: r) k d o = lbGo r (k + 1) (d + 1) o := if_pos h
theorem lb_other {t : Str} {r : List Str} {k d o : Nat} (h1 : wd0 t ≠ "if") (h2 : wd0 t ≠ "else") (h3 : wd0 t ≠ "end") : lbGo (t :: r) k d o = lbGo r (k + 1) d o := by
  show (if _ then _ else if _ then _ else if _ then _ else _) = _
  rw [if_neg h1, if_neg (fun h => h2 h.1), if_neg h3]
theorem lb_else0 {r : List Str} {k o : Nat} : lbGo (elseS :: r) k 0 o = lbGo r (k + 1) 0 (k + 1) := by
  show (if _ then _ else if _ then _ else _) = _
  rw [if_neg (by rw [wd_else]; exact ei), if_pos ⟨wd_else, rfl⟩]
theorem lb_elseS {r : List Str} {k d o : Nat} : lbGo (elseS :: r) k (d + 1) o = lbGo r (k + 1) (d + 1) o := by
  show (if _ then _ else if _ then _ else if _ then _ else _) = _
  rw [if_neg (by rw [wd_else]; exact ei), if_neg (fun h => by cases h.2), if_neg (by rw [wd_else]; exact fun z => ne z.symm)]
theorem lb_end0 {r : List Str} {k o : Nat} : lbGo (endS :: r) k 0 o = (o, k + 1) := by
  show (if _ then _ else if _ then _ else if _ then (if _ then _ else _) else _) = _
  rw [if_neg (by rw [wd_end]; exact ni), if_neg (fun h => by rw [wd_end] at h; exact ne h.1), if_pos wd_end, if_pos rfl]
theorem lb_endS {r : List Str} {k d o : Nat} : lbGo (endS :: r) k (d + 1) o = lbGo r (k + 1) d o := by
  show (if _ then _ else if _ then _ else if _ then (if _ then _ else _) else _) = _
  rw [if_neg (by rw [wd_end]; exact ni), if_neg (fun h => by rw [wd_end] at h; exact ne h.1), if_pos wd_end, if_neg (by omega)]
  rfl
theorem lb_tree : ∀ (t : LT) (rest : List Str) (k d o : Nat), wdOk t → lbGo (t.lines ++ rest) k d o = lbGo rest (k + t.lines.length) d o
  | .nil, rest, k, d, o, _ => rfl
  | .leaf t r, rest, k, d, o, ⟨h1, h2, h3, h4⟩ => by
    show lbGo (t :: (r.lines ++ rest)) k d o = lbGo rest (k + (r.lines.length + 1)) d o
    rw [lb_other h1 h2 h3, lb_tree r rest _ d o h4, show k + 1 + r.lines.length = k + (r.lines.length + 1) by omega]
  | .if1 t a r, rest, k, d, o, ⟨h1, h2, h3⟩ => by
    have el : (LT.if1 t a r).lines ++ rest = t :: (a.lines ++ endS :: (r.lines ++ rest)) := by
      show t :: (a.lines ++ endS :: r.lines) ++ rest = _
      simp [List.append_assoc]
    have en : (LT.if1 t a r).lines.length = a.lines.length + (r.lines.length + 1) + 1 := by
      show (a.lines ++ endS :: r.lines).length + 1 = _
      rw [List.length_append, List.length_cons]
    rw [el, lb_if h1, lb_tree a _ _ _ _ h2, lb_endS, lb_tree r _ _ _ _ h3, en]
    congr 1
    omega
  | .if2 t a b r, rest, k, d, o, ⟨h1, h2, h3, h4⟩ => by
    have el : (LT.if2 t a b r).lines ++ rest = t :: (a.lines ++ elseS :: (b.lines ++ endS :: (r.lines ++ rest))) := by
      show t :: (a.lines ++ elseS :: (b.lines ++ endS :: r.lines)) ++ rest = _
      simp [List.append_assoc]
    have en : (LT.if2 t a b r).lines.length = a.lines.length + (b.lines.length + (r.lines.length + 1) + 1) + 1 := by
      show (a.lines ++ elseS :: (b.lines ++ endS :: r.lines)).length + 1 = _
      rw [List.length_append, List.length_cons, List.length_append, List.length_cons]
    rw [el, lb_if h1, lb_tree a _ _ _ _ h2, lb_elseS, lb_tree b _ _ _ _ h3, lb_endS, lb_tree r _ _ _ _ h4, en]
    congr 1
    omega
/-- behind an if: where its blocks end -/
theorem lb_one {a : LT} {rest : List Str} {k : Nat} (h : wdOk a) : lbGo (a.lines ++ endS :: rest) k 0 0 = (0, k + a.lines.length + 1) := by
  rw [lb_tree a _ _ _ _ h, lb_end0]
theorem lb_two {a b : LT} {rest : List Str} {k : Nat} (h1 : wdOk a) (h2 : wdOk b) : lbGo (a.lines ++ elseS :: (b.lines ++ endS :: rest)) k 0 0 = (k + a.lines.length + 1, k + a.lines.length + 1 + b.lines.length + 1) := by
  rw [lb_tree a _ _ _ _ h1, lb_else0, lb_tree b _ _ _ _ h2, lb_end0]
end Pgr


set_option Elab.async false
set_option linter.all false
set_option maxRecDepth 100000
set_option maxHeartbeats 4000000
/-! the ways: the law's and the code's -/
namespace Pgr
open PySem Rdr Tld
theorem row_line {text : Str} {l : Nat} {r : PgRow} (h : rowP text l = some r) : itL (.leaf r) = l := by
  obtain ⟨s, _, rfl⟩ := Option.map_eq_some_iff.mp h
  rfl
abbrev IW := Wy PgRow Part
def conv (y : IW) : List Nat := y.1.map itL ++ (if y.2 then [0] else [])
def ended (w : List Nat) : Bool := decide (w.getLast? = some 0)
def stepL (ws tails : List (List Nat)) : List (List Nat) := ws.filter ended ++ (ws.filter fun w => !ended w).flatMap fun w => tails.map (w ++ ·)
def lwF : LT → Nat → List (List Nat) → List (List Nat)
  | .nil, _, ws => ws
  | .leaf t r, n, ws => lwF r (n + 1) (stepL ws (if t ∈ ends2 then [[n + 1, 0]] else [[n + 1]]))
  | .if1 t a r, n, ws => lwF r (n + 1 + a.lines.length + 1) (stepL ws ((lwF a (n + 1) [[]]).map ((n + 1) :: ·) ++ [[n + 1]]))
  | .if2 t a b r, n, ws => lwF r (n + 1 + a.lines.length + 1 + b.lines.length + 1) (stepL ws ((lwF a (n + 1) [[]]).map ((n + 1) :: ·) ++ (lwF b (n + 1 + a.lines.length + 1) [[]]).map ((n + 1) :: ·)))
/-- the same ways, in whatever order -/
def WR (ws' : List (List Nat)) (ws : List IW) : Prop := (∀ w, w ∈ ws' ↔ ∃ y ∈ ws, conv y = w) ∧ ∀ y ∈ ws, ∀ it ∈ y.1, 0 < itL it
theorem ended_conv {y : IW} (h : ∀ it ∈ y.1, 0 < itL it) : ended (conv y) = y.2 := by
  unfold ended conv
  cases y.2 with
  | true => rw [if_pos rfl, List.getLast?_append]; rfl
  | false =>
    rw [if_neg (by decide), List.append_nil, List.getLast?_map]
    refine decide_eq_false fun e => ?_
    obtain ⟨it, hi, e2⟩ := Option.map_eq_some_iff.mp e
    have := h it (List.mem_of_getLast? hi)
    omega
theorem conv_app {y z : IW} (h : y.2 = false) : conv (y.1 ++ z.1, z.2) = conv y ++ conv z := by
  have e : (if y.2 = true then [0] else []) = ([] : List Nat) := by rw [h]; rfl
  show (y.1 ++ z.1).map itL ++ (if z.2 = true then [0] else []) = (y.1.map itL ++ (if y.2 = true then [0] else [])) ++ (z.1.map itL ++ (if z.2 = true then [0] else []))
  rw [e, List.append_nil, List.map_append, List.append_assoc]
theorem wr_step {ws' tails' : List (List Nat)} {ws tails : List IW} (h : WR ws' ws) (k : WR tails' tails) : WR (stepL ws' tails') (ws.flatMap fun y => if y.2 then [(y.1, true)] else tails.map fun z => (y.1 ++ z.1, z.2)) := by
  refine ⟨fun w => ⟨fun hw => ?_, fun hw => ?_⟩, fun y hy it hi => ?_⟩
  · unfold stepL at hw
    rcases List.mem_append.mp hw with hw | hw
    · obtain ⟨h1, h2⟩ := List.mem_filter.mp hw
      obtain ⟨y, hy, rfl⟩ := (h.1 w).mp h1
      rw [ended_conv (h.2 y hy)] at h2
      exact ⟨y, List.mem_flatMap.mpr ⟨y, hy, by rw [if_pos h2, List.mem_singleton]; exact Prod.ext rfl h2⟩, rfl⟩
    · obtain ⟨w1, h1, h2⟩ := List.mem_flatMap.mp hw
      obtain ⟨h3, h4⟩ := List.mem_filter.mp h1
      obtain ⟨y, hy, rfl⟩ := (h.1 w1).mp h3
      rw [ended_conv (h.2 y hy)] at h4
      have h4 : y.2 = false := by simpa using h4
      obtain ⟨w2, h5, rfl⟩ := List.mem_map.mp h2
      obtain ⟨z, hz, rfl⟩ := (k.1 w2).mp h5
      exact ⟨(y.1 ++ z.1, z.2), List.mem_flatMap.mpr ⟨y, hy, by rw [if_neg (by rw [h4]; decide)]; exact List.mem_map.mpr ⟨z, hz, rfl⟩⟩, conv_app h4⟩
  · obtain ⟨x, hx, rfl⟩ := hw
    obtain ⟨y, hy, hx⟩ := List.mem_flatMap.mp hx
    unfold stepL
    cases e : y.2 with
    | true =>
      rw [if_pos e, List.mem_singleton] at hx
      subst hx
      refine List.mem_append.mpr (.inl (List.mem_filter.mpr ⟨(h.1 _).mpr ⟨y, hy, ?_⟩, ?_⟩))
      · unfold conv; rw [e]
      · rw [ended_conv (y := (y.1, true)) (h.2 y hy)]
    | false =>
      rw [if_neg (by rw [e]; decide)] at hx
      obtain ⟨z, hz, rfl⟩ := List.mem_map.mp hx
      rw [conv_app e]
      refine List.mem_append.mpr (.inr (List.mem_flatMap.mpr ⟨conv y, List.mem_filter.mpr ⟨(h.1 _).mpr ⟨y, hy, rfl⟩, by rw [ended_conv (h.2 y hy), e]; rfl⟩, List.mem_map.mpr ⟨conv z, (k.1 _).mpr ⟨z, hz, rfl⟩, rfl⟩⟩))
  · obtain ⟨u, hu, hy⟩ := List.mem_flatMap.mp hy
    split at hy
    · rw [List.mem_singleton] at hy; subst hy; exact h.2 u hu it hi
    · obtain ⟨z, hz, rfl⟩ := List.mem_map.mp hy
      rcases List.mem_append.mp hi with hi | hi
      · exact h.2 u hu it hi
      · exact k.2 z hz it hi
theorem wr_one : WR [[]] [([], false)] := ⟨fun w => by simp [conv], fun y hy it hi => by rw [List.mem_singleton] at hy; subst hy; cases hi⟩
theorem wr_app {a' b' : List (List Nat)} {a b : List IW} (h : WR a' a) (k : WR b' b) : WR (a' ++ b') (a ++ b) := ⟨fun w => by
  rw [List.mem_append, h.1, k.1]
  constructor
  · rintro (⟨y, hy, e⟩ | ⟨y, hy, e⟩)
    · exact ⟨y, List.mem_append.mpr (.inl hy), e⟩
    · exact ⟨y, List.mem_append.mpr (.inr hy), e⟩
  · rintro ⟨y, hy, e⟩
    rcases List.mem_append.mp hy with hy | hy
    · exact .inl ⟨y, hy, e⟩
    · exact .inr ⟨y, hy, e⟩, fun y hy => (List.mem_append.mp hy).elim (h.2 y) (k.2 y)⟩
theorem wr_cons {a' : List (List Nat)} {a : List IW} {it : IT} {n : Nat} (h : WR a' a) (e : itL it = n) (hn : 0 < n) : WR (a'.map (n :: ·)) (a.map fun z => (it :: z.1, z.2)) := ⟨fun w => by
  rw [List.mem_map]
  constructor
  · rintro ⟨w1, h1, rfl⟩
    obtain ⟨y, hy, rfl⟩ := (h.1 w1).mp h1
    exact ⟨(it :: y.1, y.2), List.mem_map.mpr ⟨y, hy, rfl⟩, by unfold conv; rw [List.map_cons, e]; rfl⟩
  · rintro ⟨x, hx, rfl⟩
    obtain ⟨y, hy, rfl⟩ := List.mem_map.mp hx
    exact ⟨conv y, (h.1 _).mpr ⟨y, hy, rfl⟩, by unfold conv; rw [List.map_cons, e]; rfl⟩, fun x hx i hi => by
  obtain ⟨y, hy, rfl⟩ := List.mem_map.mp hx
  rcases List.mem_cons.mp hi with e2 | hi
  · rw [e2, e]; exact hn
  · exact h.2 y hy i hi⟩
/-- the ends among the lines -/
def finOk (kind : Str) : LT → Prop
  | .nil => True
  | .leaf t r => (∀ n x, rowP t n = some x → K03.finF PgRow.ds ends2 x = decide (t ∈ ends2)) ∧ finOk kind r
  | .if1 _ a r => finOk kind a ∧ finOk kind r
  | .if2 _ a b r => finOk kind a ∧ finOk kind b ∧ finOk kind r
theorem ways_same {kind : Str} {dflt : PgRow} : ∀ (t : LT) (n : Nat) (ws' : List (List Nat)) (ws : List IW), t.good rowP partG → finOk kind t → WR ws' ws → WR (lwF t n ws') ((t.rt rowP partG dflt n).waysF (K03.finF PgRow.ds ends2) ws)
  | .nil, n, ws', ws, _, _, h => h
  | .leaf t r, n, ws', ws, ⟨_, _, g3, g4⟩, ⟨f1, f2⟩, h => by
    obtain ⟨x, hx⟩ := Option.isSome_iff_exists.mp (g3 (n + 1))
    have hl := row_line hx
    have hf := f1 _ _ hx
    refine ways_same (dflt := dflt) r (n + 1) _ _ g4 f2 ?_
    rw [hx, Option.getD_some]
    refine wr_step (tails := [([.leaf x], K03.finF PgRow.ds ends2 x)]) h ?_
    rw [hf]
    refine ⟨fun w => ?_, fun y hy it hi => ?_⟩
    · by_cases g : t ∈ ends2
      · rw [if_pos g, decide_eq_true g]
        have ec : conv ([.leaf x], true) = [n + 1, 0] := by show [itL (.leaf x)] ++ [0] = _; rw [hl]; rfl
        rw [List.mem_singleton]
        exact ⟨fun e => ⟨_, List.mem_singleton.mpr rfl, by rw [ec, e]⟩, fun ⟨y, hy, e⟩ => by rw [List.mem_singleton] at hy; subst hy; rw [← e, ec]⟩
      · rw [if_neg g, decide_eq_false g]
        have ec : conv ([.leaf x], false) = [n + 1] := by show [itL (.leaf x)] ++ [] = _; rw [hl]; rfl
        rw [List.mem_singleton]
        exact ⟨fun e => ⟨_, List.mem_singleton.mpr rfl, by rw [ec, e]⟩, fun ⟨y, hy, e⟩ => by rw [List.mem_singleton] at hy; subst hy; rw [← e, ec]⟩
    · rw [List.mem_singleton] at hy
      subst hy
      rw [List.mem_singleton] at hi
      subst hi
      omega
  | .if1 t a r, n, ws', ws, ⟨_, _, _, g4, g5⟩, ⟨f1, f2⟩, h => by
    refine ways_same (dflt := dflt) r _ _ _ g5 f2 ?_
    have ha := ways_same (dflt := dflt) a (n + 1) _ _ g4 f1 wr_one
    have hs := wr_step h (wr_app (wr_cons (it := .ifi (n + 1) (psOf partG t) (a.rt rowP partG dflt (n + 1)) .nil) ha rfl (Nat.succ_pos n)) (wr_cons (it := .ifi (n + 1) (psOf partG t) (a.rt rowP partG dflt (n + 1)) .nil) wr_one rfl (Nat.succ_pos n)))
    have e : (fun y : IW => if y.2 then [(y.1, true)] else (((a.rt rowP partG dflt (n + 1)).waysF (K03.finF PgRow.ds ends2) [([], false)]).map (fun z : IW => (It.ifi (n + 1) (psOf partG t) (a.rt rowP partG dflt (n + 1)) .nil :: z.1, z.2)) ++ [([], false)].map (fun z : IW => (It.ifi (n + 1) (psOf partG t) (a.rt rowP partG dflt (n + 1)) .nil :: z.1, z.2))).map fun z : IW => (y.1 ++ z.1, z.2)) =
        fun y : IW => if y.2 then [(y.1, true)] else ((a.rt rowP partG dflt (n + 1)).waysF (K03.finF PgRow.ds ends2) [([], false)] ++ [([], false)]).map fun z : IW => (y.1 ++ It.ifi (n + 1) (psOf partG t) (a.rt rowP partG dflt (n + 1)) .nil :: z.1, z.2) := by
      funext y
      split
      · rfl
      · rw [← List.map_append, List.map_map]; rfl
    rw [e] at hs
    exact hs
  | .if2 t a b r, n, ws', ws, ⟨_, _, _, g4, g5, g6⟩, ⟨f1, f2, f3⟩, h => by
    refine ways_same (dflt := dflt) r _ _ _ g6 f3 ?_
    have ha := ways_same (dflt := dflt) a (n + 1) _ _ g4 f1 wr_one
    have hb := ways_same (dflt := dflt) b (n + 1 + a.lines.length + 1) _ _ g5 f2 wr_one
    generalize hit : It.ifi (n + 1) (psOf partG t) (a.rt rowP partG dflt (n + 1)) (b.rt rowP partG dflt (n + 1 + a.lines.length + 1)) = it
    have hl : itL it = n + 1 := by rw [← hit]; rfl
    have hs := wr_step h (wr_app (wr_cons ha hl (Nat.succ_pos n)) (wr_cons hb hl (Nat.succ_pos n)))
    have e : (fun y : IW => if y.2 then [(y.1, true)] else (((a.rt rowP partG dflt (n + 1)).waysF (K03.finF PgRow.ds ends2) [([], false)]).map (fun z : IW => (it :: z.1, z.2)) ++ ((b.rt rowP partG dflt (n + 1 + a.lines.length + 1)).waysF (K03.finF PgRow.ds ends2) [([], false)]).map (fun z : IW => (it :: z.1, z.2))).map fun z : IW => (y.1 ++ z.1, z.2)) =
        fun y : IW => if y.2 then [(y.1, true)] else ((a.rt rowP partG dflt (n + 1)).waysF (K03.finF PgRow.ds ends2) [([], false)] ++ (b.rt rowP partG dflt (n + 1 + a.lines.length + 1)).waysF (K03.finF PgRow.ds ends2) [([], false)]).map fun z : IW => (y.1 ++ it :: z.1, z.2) := by
      funext y
      split
      · rfl
      · rw [← List.map_append, List.map_map]; rfl
    rw [e] at hs
    subst hit
    exact hs
end Pgr


set_option Elab.async false
set_option linter.all false
set_option maxRecDepth 100000
set_option maxHeartbeats 4000000
/-! the faults of a way: the law's and the code's -/
namespace Pgr
open PySem Rdr Tld
def char0 (t : Str) : Str := match t.cps.toList with
  | [] => Str.ofString ""
  | c :: _ => ⟨#[c]⟩
def abc4 : List Str := ["a = ", "b = ", "c = "]
def isReg (t : Str) : Bool := decide (L2.cutS t none (some 4) ∈ abc4)
def lreg (t : Str) : Option Str := if isReg t then some (char0 t) else none
def ldiv (t : Str) : Bool := !(Builtin.Str.occurrences t (Str.ofString " // ") 0 t.length 1).isEmpty
def onceWs : List Str := ["take", "clear", "pack", "own.at =", "own.len =", "lay", "slots ="]
def lonce (t : Str) : Str := (onceWs.find? fun w => decide (L2.cutS t none (some (w.length : Nat)) = w)).getD ""
def lask (t : Str) : Bool := decide (t = "if there is empty")
def dv2 : Str := Str.ofString "//"
def late4 : List Str := ["own.at =", "own.len =", "lay", "slots ="]
def late3 : List Str := ["own.at =", "own.len =", "slots ="]
def la1 (t : Str) (seen : List Str) : Bool := isReg t && decide (3 < ctr (char0 t) (seen ++ [char0 t]))
def la2 (t : Str) (dn : List Str) : Bool := ldiv t && decide (2 < (dn ++ [dv2]).count dv2)
def dnA (t : Str) (dn : List Str) : List Str := if ldiv t then dn ++ [dv2] else dn
def la3 (t : Str) (dn : List Str) : Bool := !decide (lonce t = "") && decide (lonce t ∈ dn)
def la4 (t : Str) (dn : List Str) : Bool := decide (lonce t = "pack") && late4.any fun z => decide (z ∈ dn)
def la5 (t : Str) (dn : List Str) : Bool := (decide (lonce t = "take") || lask t) && late3.any fun z => decide (z ∈ dn)
def lf1 (l : Nat) (t : Str) (seen dn : List Str) : List Nat := ifL (la1 t seen) l ++ (ifL (la2 t dn) l ++ (ifL (la3 t (dnA t dn)) l ++ (ifL (la4 t (dnA t dn)) l ++ ifL (la5 t (dnA t dn)) l)))
def lfGo (tx : Nat → Str) : List Nat → List Str → List Str → List Nat
  | [], _, _ => []
  | l :: r, seen, dn => lf1 l (tx l) seen dn ++ lfGo tx r (if isReg (tx l) then seen ++ [char0 (tx l)] else seen) (dnA (tx l) dn ++ [lonce (tx l)])
def onceM : Option Str → Str
  | none => ""
  | some z => if z = "at" then "own.at =" else if z = "len" then "own.len =" else if z = "slots" then "slots =" else z
def onceO : List (Option Str) := none :: onces.map some
theorem what_mem (it : IT) : what it ∈ onceO := by
  unfold what
  split
  · exact List.mem_cons_of_mem _ (List.mem_map_of_mem (by assumption))
  · exact List.mem_cons_self ..
/-- what a row is, told by its text -/
structure ItOk (it : IT) (t : Str) : Prop where
  st : stKey it = lreg t
  dv : isDiv it = ldiv t
  wh : onceM (what it) = lonce t
  ak : asks it = lask t
structure Rel (dn : List Str) (dv : Nat) (done : List (Option Str)) : Prop where
  c : dn.count dv2 = dv
  f : dn.filter (fun z => !decide (z = dv2)) = done.map onceM
  o : ∀ o ∈ done, o ∈ onceO
theorem once_inj : ∀ a ∈ onceO, ∀ b ∈ onceO, onceM a = onceM b → a = b := by decide +kernel
theorem once_dv : ∀ a ∈ onceO, ¬ onceM a = dv2 := by decide +kernel
theorem once_emp : ∀ a ∈ onceO, (!decide (onceM a = "")) = a.isSome := by decide +kernel
theorem once_pack : ∀ a ∈ onceO, decide (onceM a = "pack") = decide (a = some (Str.ofString "pack")) := by decide +kernel
theorem once_take : ∀ a ∈ onceO, decide (onceM a = "take") = decide (a = some (Str.ofString "take")) := by decide +kernel
theorem Rel.mem {dn : List Str} {dv : Nat} {done : List (Option Str)} (h : Rel dn dv done) {a : Option Str} (ha : a ∈ onceO) : decide (onceM a ∈ dn) = decide (a ∈ done) := by
  refine decide_eq_decide.mpr ?_
  have e : onceM a ∈ dn ↔ onceM a ∈ dn.filter (fun z => !decide (z = dv2)) := by
    rw [List.mem_filter]
    exact ⟨fun g => ⟨g, by rw [decide_eq_false (once_dv a ha)]; rfl⟩, fun g => g.1⟩
  rw [e, h.f, List.mem_map]
  exact ⟨fun ⟨b, hb, e⟩ => by rw [once_inj a ha b (h.o b hb) e.symm]; exact hb, fun g => ⟨a, g, rfl⟩⟩
theorem Rel.late {dn : List Str} {dv : Nat} {done : List (Option Str)} (h : Rel dn dv done) : (late4.any fun z => decide (z ∈ dn)) = lateA done ∧ (late3.any fun z => decide (z ∈ dn)) = lateB done := by
  have e1 : decide (Str.ofString "own.at =" ∈ dn) = decide (some (Str.ofString "at") ∈ done) := h.mem (a := some (Str.ofString "at")) (by decide +kernel)
  have e2 : decide (Str.ofString "own.len =" ∈ dn) = decide (some (Str.ofString "len") ∈ done) := h.mem (a := some (Str.ofString "len")) (by decide +kernel)
  have e3 : decide (Str.ofString "lay" ∈ dn) = decide (some (Str.ofString "lay") ∈ done) := h.mem (a := some (Str.ofString "lay")) (by decide +kernel)
  have e4 : decide (Str.ofString "slots =" ∈ dn) = decide (some (Str.ofString "slots") ∈ done) := h.mem (a := some (Str.ofString "slots")) (by decide +kernel)
  constructor
  · unfold late4 lateA anyDone
    simp only [List.any_cons, List.any_nil, List.map_cons, List.map_nil, e1, e2, e3, e4, id]
  · unfold late3 lateB anyDone
    simp only [List.any_cons, List.any_nil, List.map_cons, List.map_nil, e1, e2, e4, id]
theorem ctr_snoc (g y : Str) (st : List Str) : ctr g (st ++ [y]) = ctr g st + if y = g then 1 else 0 := by
  unfold ctr
  rw [List.countP_append, List.countP_cons, List.countP_nil, Nat.zero_add]
  simp
theorem rel_dv {dn : List Str} {dv : Nat} {done : List (Option Str)} (h : Rel dn dv done) (t : Str) : Rel (dnA t dn) (if ldiv t then dv + 1 else dv) done := by
  unfold dnA
  cases ldiv t with
  | false => exact h
  | true =>
    refine ⟨?_, ?_, h.o⟩
    · show (dn ++ [dv2]).count dv2 = dv + 1
      rw [List.count_append, h.c, List.count_singleton_self]
    · show (dn ++ [dv2]).filter _ = _
      rw [List.filter_append, h.f, List.filter_cons, if_neg (by simp), List.filter_nil, List.append_nil]
theorem rel_word {dn : List Str} {dv : Nat} {done : List (Option Str)} (h : Rel dn dv done) {a : Option Str} (ha : a ∈ onceO) : Rel (dn ++ [onceM a]) dv (done ++ [a]) := by
  have n := once_dv a ha
  refine ⟨?_, ?_, fun o ho => ?_⟩
  · rw [List.count_append, h.c, List.count_singleton, if_neg (by simpa using n), Nat.add_zero]
  · rw [List.filter_append, h.f, List.filter_cons, if_pos (by rw [decide_eq_false n]; rfl), List.filter_nil, List.map_append]
    rfl
  · rcases List.mem_append.mp ho with ho | ho
    · exact h.o o ho
    · rw [List.mem_singleton.mp ho]; exact ha
theorem lf_eq {tx : Nat → Str} : ∀ (w : List IT) (seen dn : List Str) (dv : Nat) (done : List (Option Str)), (∀ it ∈ w, ItOk it (tx (itL it))) → Rel dn dv done → lfGo tx (w.map itL) seen dn = wrGo w seen dv done
  | [], _, _, _, _, _, _ => rfl
  | it :: r, seen, dn, dv, done, h, hr => by
    have ho := h it (List.mem_cons_self ..)
    have hw := what_mem it
    have hr2 := rel_dv hr (tx (itL it))
    have e1 : la1 (tx (itL it)) seen = wa1 it seen := by
      unfold la1 wa1
      rw [ho.st]
      unfold lreg
      cases isReg (tx (itL it)) with
      | false => rfl
      | true =>
        show (true && _) = decide _
        rw [Bool.true_and, ctr_snoc, if_pos rfl]
    have e2 : la2 (tx (itL it)) dn = wa2 it dv := by
      unfold la2 wa2
      rw [ho.dv, List.count_append, hr.c, List.count_singleton_self]
    have e3 : la3 (tx (itL it)) (dnA (tx (itL it)) dn) = wa3 it done := by
      unfold la3 wa3
      rw [← ho.wh, once_emp _ hw, hr2.mem hw]
    have e4 : la4 (tx (itL it)) (dnA (tx (itL it)) dn) = wa4 it done := by
      unfold la4 wa4
      rw [← ho.wh, once_pack _ hw, hr2.late.1]
      rfl
    have e5 : la5 (tx (itL it)) (dnA (tx (itL it)) dn) = wa5 it done := by
      unfold la5 wa5
      rw [← ho.wh, once_take _ hw, hr2.late.2, ho.ak]
      rfl
    have e6 : (if isReg (tx (itL it)) then seen ++ [char0 (tx (itL it))] else seen) = seen ++ (stKey it).toList := by
      rw [ho.st]
      unfold lreg
      cases isReg (tx (itL it)) with
      | false => exact (List.append_nil _).symm
      | true => rfl
    rw [List.map_cons]
    show lf1 _ _ seen dn ++ lfGo tx (r.map itL) _ _ = wr1 it seen dv done ++ wrGo r _ _ _
    rw [e6, lf_eq r (seen ++ (stKey it).toList) (dnA (tx (itL it)) dn ++ [lonce (tx (itL it))]) (if isDiv it then dv + 1 else dv) (done ++ [what it]) (fun j hj => h j (List.mem_cons_of_mem _ hj)) (by rw [← ho.wh, ho.dv]; exact rel_word hr2 hw)]
    unfold lf1 wr1
    rw [e1, e2, e3, e4, e5]
theorem faults_same {tx : Nat → Str} {w : List IT} (h : ∀ it ∈ w, ItOk it (tx (itL it))) : lfGo tx (w.map itL) [] [] = wayWrong w := lf_eq w [] [] 0 [] h ⟨rfl, rfl, fun o ho => by cases ho⟩
end Pgr


set_option Elab.async false
set_option linter.all false
set_option maxRecDepth 100000
set_option maxHeartbeats 4000000
/-! all that is wrong: the law's and the code's -/
namespace Pgr
open PySem Rdr Tld
def lstr (kind t : Str) : Bool :=
  if ("take" : Str) ∈ Txt.split t " " ∨ ("there" : Str) ∈ Txt.split t " " ∨ t = "slots = slots + 1" then !decide (kind = "put")
  else if t = "slots = slots - 1" then !decide (kind = "strike")
  else if t ∈ (["clear own", "a = room own.len"] : List Str) then !decide (kind ∈ (["strike", "set"] : List Str))
  else if ((Txt.split t " ").any fun w => decide (w ∈ (["no", "lay", "len"] : List Str))) = true then !decide (kind ∈ (["put", "set"] : List Str))
  else decide (kind = "pack") && (Txt.split t " ").any fun w => decide (L2.cutS w none (some 3) = "own")
def strL (kind : Str) : List Str → Nat → List Nat
  | [], _ => []
  | t :: r, k => ifL (lstr kind t) (k + 1) ++ strL kind r (k + 1)
theorem strL_app (kind : Str) : ∀ (a b : List Str) (k : Nat), strL kind (a ++ b) k = strL kind a k ++ strL kind b (k + a.length)
  | [], b, k => rfl
  | t :: r, b, k => by
    show ifL _ _ ++ strL kind (r ++ b) (k + 1) = (ifL _ _ ++ strL kind r (k + 1)) ++ strL kind b (k + (r.length + 1))
    rw [strL_app kind r b (k + 1), List.append_assoc, show k + 1 + r.length = k + (r.length + 1) by omega]
def strF (kind : Str) (it : IT) : Option Nat := if kind ∈ pkinds it then none else some (itL it)
theorem strF_eq {kind : Str} {it : IT} {b : Bool} (h : b = !decide (kind ∈ pkinds it)) : (strF kind it).toList = ifL b (itL it) := by
  subst h
  unfold strF ifL
  by_cases g : kind ∈ pkinds it
  · rw [if_pos g, decide_eq_true g]; rfl
  · rw [if_neg g, decide_eq_false g]; rfl
/-- the strange lines of a tree are its strange rows -/
def strOkT (kind : Str) : LT → Prop
  | .nil => True
  | .leaf t r => (∀ n x, rowP t n = some x → lstr kind t = !decide (kind ∈ pkinds (.leaf x))) ∧ strOkT kind r
  | .if1 t a r => (∀ n u v, lstr kind t = !decide (kind ∈ pkinds (.ifi n (psOf partG t) u v))) ∧ strOkT kind a ∧ strOkT kind r
  | .if2 t a b r => (∀ n u v, lstr kind t = !decide (kind ∈ pkinds (.ifi n (psOf partG t) u v))) ∧ strOkT kind a ∧ strOkT kind b ∧ strOkT kind r
theorem fm_cons {α β : Type} (f : α → Option β) (x : α) (l : List α) : (x :: l).filterMap f = (f x).toList ++ l.filterMap f := by
  rw [List.filterMap_cons]; cases f x <;> rfl
theorem str_same {kind : Str} {dflt : PgRow} (he : lstr kind elseS = false) (hn : lstr kind endS = false) : ∀ (t : LT) (n : Nat), t.good rowP partG → strOkT kind t → strL kind t.lines n = (t.rt rowP partG dflt n).all.filterMap (strF kind)
  | .nil, n, _, _ => rfl
  | .leaf t r, n, ⟨_, _, g3, g4⟩, ⟨s1, s2⟩ => by
    obtain ⟨x, hx⟩ := Option.isSome_iff_exists.mp (g3 (n + 1))
    have hl := row_line hx
    show ifL (lstr kind t) (n + 1) ++ strL kind r.lines (n + 1) = (It.leaf ((rowP t (n + 1)).getD dflt) :: (r.rt rowP partG dflt (n + 1)).all).filterMap (strF kind)
    rw [hx, Option.getD_some, fm_cons, strF_eq (s1 _ _ hx), hl, str_same he hn r (n + 1) g4 s2]
  | .if1 t a r, n, ⟨_, _, _, g4, g5⟩, ⟨s1, s2, s3⟩ => by
    show ifL (lstr kind t) (n + 1) ++ strL kind (a.lines ++ endS :: r.lines) (n + 1) = (It.ifi (n + 1) (psOf partG t) (a.rt rowP partG dflt (n + 1)) .nil :: (((a.rt rowP partG dflt (n + 1)).all ++ []) ++ (r.rt rowP partG dflt (n + 1 + a.lines.length + 1)).all)).filterMap (strF kind)
    rw [fm_cons, strF_eq (s1 (n + 1) (a.rt rowP partG dflt (n + 1)) .nil), strL_app, List.append_nil, List.filterMap_append, str_same he hn a (n + 1) g4 s2]
    show _ ++ (_ ++ (ifL (lstr kind endS) _ ++ strL kind r.lines _)) = _
    rw [hn, str_same he hn r _ g5 s3]
    rfl
  | .if2 t a b r, n, ⟨_, _, _, g4, g5, g6⟩, ⟨s1, s2, s3, s4⟩ => by
    show ifL (lstr kind t) (n + 1) ++ strL kind (a.lines ++ elseS :: (b.lines ++ endS :: r.lines)) (n + 1) = (It.ifi (n + 1) (psOf partG t) (a.rt rowP partG dflt (n + 1)) (b.rt rowP partG dflt (n + 1 + a.lines.length + 1)) :: (((a.rt rowP partG dflt (n + 1)).all ++ (b.rt rowP partG dflt (n + 1 + a.lines.length + 1)).all) ++ (r.rt rowP partG dflt (n + 1 + a.lines.length + 1 + b.lines.length + 1)).all)).filterMap (strF kind)
    rw [fm_cons, strF_eq (s1 (n + 1) (a.rt rowP partG dflt (n + 1)) (b.rt rowP partG dflt (n + 1 + a.lines.length + 1))), strL_app, List.filterMap_append, List.filterMap_append, str_same he hn a (n + 1) g4 s2]
    show _ ++ (_ ++ (ifL (lstr kind elseS) _ ++ strL kind (b.lines ++ endS :: r.lines) _)) = _
    rw [he, strL_app, str_same he hn b _ g5 s3]
    show _ ++ (_ ++ ([] ++ (_ ++ (ifL (lstr kind endS) _ ++ strL kind r.lines _)))) = _
    rw [hn, str_same he hn r _ g6 s4, List.append_assoc]
    rfl
def pos (w : List Nat) : List Nat := w.filter fun l => decide (0 < l)
theorem pos_conv {y : IW} (h : ∀ it ∈ y.1, 0 < itL it) : pos (conv y) = y.1.map itL := by
  unfold pos conv
  rw [List.filter_append]
  have e1 : (y.1.map itL).filter (fun l => decide (0 < l)) = y.1.map itL := List.filter_eq_self.mpr fun l hl => by
    obtain ⟨it, hi, rfl⟩ := List.mem_map.mp hl
    exact decide_eq_true (h it hi)
  have e2 : (if y.2 = true then [0] else ([] : List Nat)).filter (fun l => decide (0 < l)) = [] := by cases y.2 <;> rfl
  rw [e1, e2, List.append_nil]
def lawWrong (kind : Str) (tx : Nat → Str) (t : LT) : List Nat := strL kind t.lines 0 ++ (lwF t 0 [[]]).flatMap fun w => lfGo tx (pos w) [] []
theorem all_same {kind : Str} {dflt : PgRow} {tx : Nat → Str} {t : LT} (g : t.good rowP partG) (h1 : lstr kind elseS = false) (h2 : lstr kind endS = false) (hs : strOkT kind t) (he : finOk kind t)
    (hi : ∀ it ∈ (t.rt rowP partG dflt 0).all, ItOk it (tx (itL it))) (x : Nat) : x ∈ lawWrong kind tx t ↔ x ∈ wrongs kind (t.rt rowP partG dflt 0) := by
  have hw := ways_same (dflt := dflt) t 0 _ _ g he wr_one
  have hm : ∀ y ∈ (t.rt rowP partG dflt 0).ways (K03.finF PgRow.ds ends2), ∀ it ∈ y.1, ItOk it (tx (itL it)) := fun y hy it hit => by
    rcases ways_mem (K03.finF PgRow.ds ends2) _ [([], false)] y hy it hit with h | ⟨z, hz, h⟩
    · exact hi it h
    · rw [List.mem_singleton] at hz; subst hz; cases h
  unfold lawWrong wrongs
  rw [str_same (dflt := dflt) h1 h2 t 0 g hs, List.mem_append, List.mem_append, List.mem_flatMap, List.mem_flatMap]
  refine or_congr Iff.rfl ⟨?_, ?_⟩
  · rintro ⟨w, k1, k2⟩
    obtain ⟨y, hy, rfl⟩ := (hw.1 w).mp k1
    rw [pos_conv (hw.2 y hy), faults_same (hm y hy)] at k2
    exact ⟨y, hy, k2⟩
  · rintro ⟨y, hy, k2⟩
    refine ⟨conv y, (hw.1 _).mpr ⟨y, hy, rfl⟩, ?_⟩
    rw [pos_conv (hw.2 y hy), faults_same (hm y hy)]
    exact k2
end Pgr


set_option Elab.async false
set_option linter.all false
set_option maxRecDepth 100000
set_option maxHeartbeats 4000000
/-! the law's lines, one by one -/
namespace Pgr
open PySem Rdr Tld
instance (t : Str) : Decidable (isIf t) := inferInstanceAs (Decidable (L2.cutS t none (some 3) = Str.ofString "if "))
def poolA : List Str := ["a = low // 2", "a = holes", "b = low - edge", "c = size // 6", "a = a + 1", "low = low + holes"]
def poolB : List Str := ["holes = 0", "pack", "pack", "quit", "low = size"]
def poolP1 : List Str := ["take empty", "take next", "slots = slots + 1", "own.at = low", "own.len = len", "lay low", "no"]
def poolP2 : List Str := ["a = room len", "clear own", "b = low - len", "holes = holes - len - slots"]
def poolP3 : List Str := ["c = own.len + unit"]
def poolS1 : List Str := ["clear own", "own.at = low", "own.len = len", "lay own.at", "a = room own.len"]
def poolS2 : List Str := ["take next", "no", "c = len + own.len - head", "low = own.at - slots"]
def poolK : List Str := ["clear own", "slots = slots - 1", "own.at = low", "b = own.len", "b = len", "a = room own.len"]
def poolE : List Str := ["b = slots + slot - unit + 3", "c = head + edge"]
def poolQ : List Str := ["lay 0", "b = own.at"]
/-- the law's pool of a kind -/
def leafs (kind : Str) : List Str :=
  (((((poolA ++ poolB) ++ (if kind = "put" then (poolP1 ++ poolP2) ++ poolP3 else [])) ++ (if kind = "set" then poolS1 ++ poolS2 else [])) ++ (if kind = "strike" then poolK else [])) ++ poolE) ++ (if kind = "pack" then poolQ else [])
def lnB (t : Str) : Bool := decide (t.length ≤ 60) && PyData.strOk t && (Txt.split t " ").all PyData.strOk
def leafB (kind t : Str) : Bool := decide (t ∉ enders) && (!decide (isIf t) && (decide (wd0 t ≠ "if" ∧ wd0 t ≠ "else" ∧ wd0 t ≠ "end") && (lnB t &&
  (match shP t with
    | none => false
    | some s => decide (K03.finF PgRow.ds ends2 ⟨0, s⟩ = decide (t ∈ ends2)) && (decide (stKey (.leaf ⟨0, s⟩) = lreg t) && (decide (isDiv (.leaf ⟨0, s⟩) = ldiv t) && (decide (onceM (what (.leaf ⟨0, s⟩)) = lonce t) && (decide (asks (.leaf ⟨0, s⟩) = lask t) && decide (lstr kind t = !decide (kind ∈ pkinds (.leaf ⟨0, s⟩)))))))))))
def tests : List Str := ["if low < 9", "if not edge is low", "if there is empty", "if own is last", "if low < size and holes < 3"]
def testB (kind t : Str) : Bool := decide (t ∉ enders) && (decide (isIf t) && (decide (wd0 t = "if") && (lnB t && ((partsOf partG (cut3 t)).all (·.isSome) && (decide ((partsOf partG (cut3 t)).length ≤ 4) &&
  (decide (lreg t = none) && (decide (ldiv t = false) && (decide (lonce t = "") && (decide (((psOf partG t).map part0).any (fun z => decide (z = "empty")) = lask t) && decide (lstr kind t = !decide (kind ∈ pkinds (.ifi 0 (psOf partG t) .nil .nil))))))))))))
theorem tests_ok : ∀ kind ∈ kinds4, ∀ t ∈ tests, testB kind t = true := by decide +kernel
theorem leafs_ok : ∀ kind ∈ kinds4, ∀ t ∈ leafs kind, leafB kind t = true := by decide +kernel
theorem ends_ok : ∀ kind ∈ kinds4, lstr kind elseS = false ∧ lstr kind endS = false := by decide +kernel
theorem ends_ln : lnB elseS = true ∧ lnB endS = true := by decide +kernel
end Pgr


set_option Elab.async false
set_option linter.all false
set_option maxRecDepth 100000
set_option maxHeartbeats 4000000
/-! the law's trees: all that is asked of their lines -/
namespace Pgr
open PySem Rdr Tld
def LawT (kind : Str) : LT → Prop
  | .nil => True
  | .leaf t r => t ∈ leafs kind ∧ LawT kind r
  | .if1 t a r => t ∈ tests ∧ LawT kind a ∧ LawT kind r
  | .if2 t a b r => t ∈ tests ∧ LawT kind a ∧ LawT kind b ∧ LawT kind r
structure Lf (kind t : Str) (s : Sh) : Prop where
  ne : t ∉ enders
  ni : ¬ isIf t
  wd : wd0 t ≠ "if" ∧ wd0 t ≠ "else" ∧ wd0 t ≠ "end"
  ln : lnB t = true
  row : shP t = some s
  fin : K03.finF PgRow.ds ends2 ⟨0, s⟩ = decide (t ∈ ends2)
  st : stKey (.leaf ⟨0, s⟩) = lreg t
  dv : isDiv (.leaf ⟨0, s⟩) = ldiv t
  wh : onceM (what (.leaf ⟨0, s⟩)) = lonce t
  ak : asks (.leaf ⟨0, s⟩) = lask t
  sr : lstr kind t = !decide (kind ∈ pkinds (.leaf ⟨0, s⟩))
theorem leaf_ok {kind t : Str} (hk : kind ∈ kinds4) (ht : t ∈ leafs kind) : ∃ s, Lf kind t s := by
  have h := leafs_ok kind hk t ht
  unfold leafB at h
  simp only [Bool.and_eq_true] at h
  obtain ⟨h1, h2, h3, h4, h5⟩ := h
  cases hr : shP t with
  | none => rw [hr] at h5; cases h5
  | some s =>
    rw [hr] at h5
    dsimp only at h5
    simp only [Bool.and_eq_true] at h5
    obtain ⟨g1, g2, g3, g4, g5, g6⟩ := h5
    exact ⟨s, of_decide_eq_true h1, (by simpa using h2), of_decide_eq_true h3, h4, hr, of_decide_eq_true g1, of_decide_eq_true g2, of_decide_eq_true g3, of_decide_eq_true g4, of_decide_eq_true g5, of_decide_eq_true g6⟩
structure Te (kind t : Str) : Prop where
  ne : t ∉ enders
  isif : isIf t
  wd : wd0 t = "if"
  ln : lnB t = true
  ps : ∃ ps, goodPs partG (cut3 t) ps
  rg : lreg t = none
  dv : ldiv t = false
  wh : lonce t = ""
  ak : ((psOf partG t).map part0).any (fun z => decide (z = "empty")) = lask t
  sr : lstr kind t = !decide (kind ∈ pkinds (.ifi 0 (psOf partG t) .nil .nil))
theorem all_some {β : Type} : ∀ {l : List (Option β)}, l.all (·.isSome) = true → l = (l.filterMap id).map some
  | [], _ => rfl
  | none :: r, h => by cases h
  | some x :: r, h => by
    rw [List.all_cons, Bool.and_eq_true] at h
    have := all_some h.2
    rw [List.filterMap_cons]
    show some x :: r = some x :: (r.filterMap id).map some
    rw [← this]
theorem test_ok {kind t : Str} (hk : kind ∈ kinds4) (ht : t ∈ tests) : Te kind t := by
  have h := tests_ok kind hk t ht
  unfold testB at h
  simp only [Bool.and_eq_true] at h
  obtain ⟨h1, h2, h3, h4, h5, h6, h7, h8, h9, ha, hb⟩ := h
  refine ⟨of_decide_eq_true h1, of_decide_eq_true h2, of_decide_eq_true h3, h4, ⟨(partsOf partG (cut3 t)).filterMap id, all_some h5, ?_⟩, of_decide_eq_true h7, of_decide_eq_true h8, of_decide_eq_true h9, of_decide_eq_true ha, of_decide_eq_true hb⟩
  have h6 := of_decide_eq_true h6
  have e := congrArg List.length (all_some h5)
  rw [List.length_map] at e
  omega
theorem re_st (n : Nat) (s : Sh) : stKey (.leaf ⟨n, s⟩) = stKey (.leaf ⟨0, s⟩) := by cases s <;> rfl
theorem re_dv (n : Nat) (s : Sh) : isDiv (.leaf ⟨n, s⟩) = isDiv (.leaf ⟨0, s⟩) := by
  cases s with
  | set g t d => cases d <;> rfl
  | _ => rfl
theorem re_wh (n : Nat) (s : Sh) : what (.leaf ⟨n, s⟩) = what (.leaf ⟨0, s⟩) := by cases s <;> rfl
theorem re_pk (n : Nat) (s : Sh) : pkinds (.leaf ⟨n, s⟩) = pkinds (.leaf ⟨0, s⟩) := by
  cases s with
  | lone e => cases e <;> rfl
  | _ => rfl
theorem re_fin (n : Nat) (s : Sh) : K03.finF PgRow.ds ends2 ⟨n, s⟩ = K03.finF PgRow.ds ends2 ⟨0, s⟩ := rfl
theorem Lf.item {kind t : Str} {s : Sh} (h : Lf kind t s) (n : Nat) : ItOk (.leaf ⟨n, s⟩) t :=
  ⟨by rw [re_st, h.st], by rw [re_dv, h.dv], by rw [re_wh, h.wh], h.ak⟩
theorem if_what (n : Nat) (ps : List Part) (a b : TR) : what (.ifi n ps a b) = none := if_neg (show ¬ ("if" : Str) ∈ onces by decide +kernel)
theorem Te.item {kind t : Str} (h : Te kind t) (n : Nat) (a b : TR) : ItOk (.ifi n (psOf partG t) a b) t :=
  ⟨by rw [h.rg]; rfl, by rw [h.dv]; rfl, by rw [if_what, h.wh]; rfl, h.ak⟩
theorem Te.str {kind t : Str} (h : Te kind t) (n : Nat) (a b : TR) : lstr kind t = !decide (kind ∈ pkinds (.ifi n (psOf partG t) a b)) := h.sr
theorem Lf.rowN {kind t : Str} {s : Sh} (h : Lf kind t s) (n : Nat) : rowP t n = some ⟨n, s⟩ := by
  unfold rowP; rw [h.row]; rfl
section
variable {kind : Str} (hk : kind ∈ kinds4)
include hk
theorem lawt_good : ∀ t : LT, LawT kind t → t.good rowP partG
  | .nil, _ => trivial
  | .leaf t r, ⟨h1, h2⟩ => by
    obtain ⟨x, h⟩ := leaf_ok hk h1
    exact ⟨h.ne, h.ni, fun n => by rw [h.rowN]; rfl, lawt_good r h2⟩
  | .if1 t a r, ⟨h1, h2, h3⟩ => ⟨(test_ok hk h1).ne, (test_ok hk h1).isif, (test_ok hk h1).ps, lawt_good a h2, lawt_good r h3⟩
  | .if2 t a b r, ⟨h1, h2, h3, h4⟩ => ⟨(test_ok hk h1).ne, (test_ok hk h1).isif, (test_ok hk h1).ps, lawt_good a h2, lawt_good b h3, lawt_good r h4⟩
theorem lawt_wd : ∀ t : LT, LawT kind t → wdOk t
  | .nil, _ => trivial
  | .leaf t r, ⟨h1, h2⟩ => by
    obtain ⟨x, h⟩ := leaf_ok hk h1
    exact ⟨h.wd.1, h.wd.2.1, h.wd.2.2, lawt_wd r h2⟩
  | .if1 t a r, ⟨h1, h2, h3⟩ => ⟨(test_ok hk h1).wd, lawt_wd a h2, lawt_wd r h3⟩
  | .if2 t a b r, ⟨h1, h2, h3, h4⟩ => ⟨(test_ok hk h1).wd, lawt_wd a h2, lawt_wd b h3, lawt_wd r h4⟩
theorem lawt_fin : ∀ t : LT, LawT kind t → finOk kind t
  | .nil, _ => trivial
  | .leaf t r, ⟨h1, h2⟩ => by
    obtain ⟨x, h⟩ := leaf_ok hk h1
    refine ⟨fun n y hy => ?_, lawt_fin r h2⟩
    rw [h.rowN] at hy
    cases hy
    rw [re_fin, h.fin]
  | .if1 t a r, ⟨h1, h2, h3⟩ => ⟨lawt_fin a h2, lawt_fin r h3⟩
  | .if2 t a b r, ⟨h1, h2, h3, h4⟩ => ⟨lawt_fin a h2, lawt_fin b h3, lawt_fin r h4⟩
theorem lawt_str : ∀ t : LT, LawT kind t → strOkT kind t
  | .nil, _ => trivial
  | .leaf t r, ⟨h1, h2⟩ => by
    obtain ⟨s, h⟩ := leaf_ok hk h1
    refine ⟨fun n y hy => ?_, lawt_str r h2⟩
    rw [h.rowN] at hy
    cases hy
    rw [re_pk, h.sr]
  | .if1 t a r, ⟨h1, h2, h3⟩ => ⟨(test_ok hk h1).str, lawt_str a h2, lawt_str r h3⟩
  | .if2 t a b r, ⟨h1, h2, h3, h4⟩ => ⟨(test_ok hk h1).str, lawt_str a h2, lawt_str b h3, lawt_str r h4⟩
/-- each line is one of the law's -/
theorem lawt_lines : ∀ t : LT, LawT kind t → ∀ z ∈ t.lines, z ∈ leafs kind ∨ z ∈ tests ∨ z = elseS ∨ z = endS
  | .nil, _, z, hz => by cases hz
  | .leaf t r, ⟨h1, h2⟩, z, hz => by
    rcases List.mem_cons.mp hz with e | hz
    · exact .inl (e ▸ h1)
    · exact lawt_lines r h2 z hz
  | .if1 t a r, ⟨h1, h2, h3⟩, z, hz => by
    rcases List.mem_cons.mp hz with e | hz
    · exact .inr (.inl (e ▸ h1))
    rcases List.mem_append.mp hz with hz | hz
    · exact lawt_lines a h2 z hz
    rcases List.mem_cons.mp hz with e | hz
    · exact .inr (.inr (.inr e))
    · exact lawt_lines r h3 z hz
  | .if2 t a b r, ⟨h1, h2, h3, h4⟩, z, hz => by
    rcases List.mem_cons.mp hz with e | hz
    · exact .inr (.inl (e ▸ h1))
    rcases List.mem_append.mp hz with hz | hz
    · exact lawt_lines a h2 z hz
    rcases List.mem_cons.mp hz with e | hz
    · exact .inr (.inr (.inl e))
    rcases List.mem_append.mp hz with hz | hz
    · exact lawt_lines b h3 z hz
    rcases List.mem_cons.mp hz with e | hz
    · exact .inr (.inr (.inr e))
    · exact lawt_lines r h4 z hz
/-- the text at a line, counted from 1 -/
abbrev txOf (ls : List Str) (n : Nat) : Str := ls.getD (n - 1) ""
theorem lawt_all {dflt : PgRow} {tx : Nat → Str} : ∀ (t : LT) (k : Nat), LawT kind t → (∀ i z, t.lines[i]? = some z → tx (k + i + 1) = z) → ∀ it ∈ (t.rt rowP partG dflt k).all, ItOk it (tx (itL it))
  | .nil, k, _, _, it, hi => by cases hi
  | .leaf t r, k, ⟨h1, h2⟩, hx, it, hi => by
    obtain ⟨x, h⟩ := leaf_ok hk h1
    rcases List.mem_cons.mp (show it ∈ It.leaf ((rowP t (k + 1)).getD dflt) :: (r.rt rowP partG dflt (k + 1)).all from hi) with e | hi
    · rw [e, h.rowN, Option.getD_some]
      show ItOk _ (tx (k + 0 + 1))
      rw [hx 0 t rfl]
      exact h.item (k + 1)
    · exact lawt_all r (k + 1) h2 (fun i z hz => by rw [← hx (i + 1) z hz]; congr 1; omega) it hi
  | .if1 t a r, k, ⟨h1, h2, h3⟩, hx, it, hi => by
    have h := test_ok hk h1
    rcases List.mem_cons.mp (show it ∈ It.ifi (k + 1) (psOf partG t) (a.rt rowP partG dflt (k + 1)) .nil :: (((a.rt rowP partG dflt (k + 1)).all ++ []) ++ (r.rt rowP partG dflt (k + 1 + a.lines.length + 1)).all) from hi) with e | hi
    · rw [e]
      show ItOk _ (tx (k + 1))
      rw [hx 0 t rfl]
      exact h.item (k + 1) _ _
    rw [List.append_nil] at hi
    rcases List.mem_append.mp hi with hi | hi
    · exact lawt_all a (k + 1) h2 (fun i z hz => by
        rw [← hx (i + 1) z (by show (a.lines ++ endS :: r.lines)[i]? = _; rw [List.getElem?_append_left (by rw [List.getElem?_eq_some_iff] at hz; exact hz.1)]; exact hz)]
        congr 1; omega) it hi
    · exact lawt_all r (k + 1 + a.lines.length + 1) h3 (fun i z hz => by
        rw [← hx (a.lines.length + 1 + i + 1) z (by
          show (a.lines ++ endS :: r.lines)[a.lines.length + 1 + i]? = _
          rw [List.getElem?_append_right (by omega), show a.lines.length + 1 + i - a.lines.length = i + 1 by omega, List.getElem?_cons_succ]; exact hz)]
        congr 1; omega) it hi
  | .if2 t a b r, k, ⟨h1, h2, h3, h4⟩, hx, it, hi => by
    have h := test_ok hk h1
    rcases List.mem_cons.mp (show it ∈ It.ifi (k + 1) (psOf partG t) (a.rt rowP partG dflt (k + 1)) (b.rt rowP partG dflt (k + 1 + a.lines.length + 1)) :: (((a.rt rowP partG dflt (k + 1)).all ++ (b.rt rowP partG dflt (k + 1 + a.lines.length + 1)).all) ++ (r.rt rowP partG dflt (k + 1 + a.lines.length + 1 + b.lines.length + 1)).all) from hi) with e | hi
    · rw [e]
      show ItOk _ (tx (k + 1))
      rw [hx 0 t rfl]
      exact h.item (k + 1) _ _
    rcases List.mem_append.mp hi with hi | hi
    · rcases List.mem_append.mp hi with hi | hi
      · exact lawt_all a (k + 1) h2 (fun i z hz => by
          rw [← hx (i + 1) z (by show (a.lines ++ elseS :: (b.lines ++ endS :: r.lines))[i]? = _; rw [List.getElem?_append_left (by rw [List.getElem?_eq_some_iff] at hz; exact hz.1)]; exact hz)]
          congr 1; omega) it hi
      · exact lawt_all b (k + 1 + a.lines.length + 1) h3 (fun i z hz => by
          rw [← hx (a.lines.length + 1 + i + 1) z (by
            show (a.lines ++ elseS :: (b.lines ++ endS :: r.lines))[a.lines.length + 1 + i]? = _
            rw [List.getElem?_append_right (by omega), show a.lines.length + 1 + i - a.lines.length = i + 1 by omega, List.getElem?_cons_succ, List.getElem?_append_left (by rw [List.getElem?_eq_some_iff] at hz; exact hz.1)]; exact hz)]
          congr 1; omega) it hi
    · exact lawt_all r (k + 1 + a.lines.length + 1 + b.lines.length + 1) h4 (fun i z hz => by
        rw [← hx (a.lines.length + 1 + (b.lines.length + 1 + i) + 1) z (by
          show (a.lines ++ elseS :: (b.lines ++ endS :: r.lines))[a.lines.length + 1 + (b.lines.length + 1 + i)]? = _
          rw [List.getElem?_append_right (by omega), show a.lines.length + 1 + (b.lines.length + 1 + i) - a.lines.length = (b.lines.length + 1 + i) + 1 by omega, List.getElem?_cons_succ, List.getElem?_append_right (by omega), show b.lines.length + 1 + i - b.lines.length = i + 1 by omega, List.getElem?_cons_succ]; exact hz)]
        congr 1; omega) it hi
theorem lawt_same {dflt : PgRow} {t : LT} (h : LawT kind t) (x : Nat) : x ∈ lawWrong kind (txOf t.lines) t ↔ x ∈ wrongs kind (t.rt rowP partG dflt 0) :=
  all_same (lawt_good hk t h) (ends_ok kind hk).1 (ends_ok kind hk).2 (lawt_str hk t h) (lawt_fin hk t h) (lawt_all hk t 0 h fun i z hz => by
    show t.lines.getD (0 + i + 1 - 1) "" = z
    rw [show 0 + i + 1 - 1 = i by omega, List.getD_eq_getElem?_getD, hz]; rfl) x
end
theorem lawt_ln {kind : Str} (hk : kind ∈ kinds4) {t : LT} (h : LawT kind t) : ∀ z ∈ t.lines, lnB z = true := fun z hz => by
  rcases lawt_lines hk t h z hz with h | h | h | h
  · obtain ⟨x, h⟩ := leaf_ok hk h
    exact h.ln
  · exact (test_ok hk h).ln
  · rw [h]; exact ends_ln.1
  · rw [h]; exact ends_ln.2
end Pgr


set_option Elab.async false
set_option linter.all false
set_option maxRecDepth 100000
set_option maxHeartbeats 4000000
/-! trees put together; bounds of the law's ways -/
namespace Rdr
open PySem
def LT.app : LT → LT → LT
  | .nil, u => u
  | .leaf t r, u => .leaf t (r.app u)
  | .if1 t a r, u => .if1 t a (r.app u)
  | .if2 t a b r, u => .if2 t a b (r.app u)
theorem lapp_lines : ∀ t u : LT, (t.app u).lines = t.lines ++ u.lines
  | .nil, u => rfl
  | .leaf t r, u => by show t :: (r.app u).lines = _; rw [lapp_lines r u]; rfl
  | .if1 t a r, u => by show t :: (a.lines ++ endS :: (r.app u).lines) = t :: (a.lines ++ endS :: r.lines) ++ u.lines; rw [lapp_lines r u]; simp
  | .if2 t a b r, u => by show t :: (a.lines ++ elseS :: (b.lines ++ endS :: (r.app u).lines)) = t :: (a.lines ++ elseS :: (b.lines ++ endS :: r.lines)) ++ u.lines; rw [lapp_lines r u]; simp
theorem lapp_ifs : ∀ t u : LT, (t.app u).ifs = t.ifs + u.ifs
  | .nil, u => by show u.ifs = 0 + u.ifs; omega
  | .leaf t r, u => lapp_ifs r u
  | .if1 t a r, u => by show 1 + a.ifs + (r.app u).ifs = 1 + a.ifs + r.ifs + u.ifs; rw [lapp_ifs r u]; omega
  | .if2 t a b r, u => by show 1 + a.ifs + b.ifs + (r.app u).ifs = 1 + a.ifs + b.ifs + r.ifs + u.ifs; rw [lapp_ifs r u]; omega
def LT.dep : LT → Nat
  | .nil => 0
  | .leaf _ r => r.dep
  | .if1 _ a r => max (a.dep + 1) r.dep
  | .if2 _ a b r => max (max (a.dep + 1) (b.dep + 1)) r.dep
theorem lapp_dep : ∀ t u : LT, (t.app u).dep = max t.dep u.dep
  | .nil, u => by show u.dep = max 0 u.dep; omega
  | .leaf t r, u => lapp_dep r u
  | .if1 t a r, u => by show max (a.dep + 1) (r.app u).dep = max (max (a.dep + 1) r.dep) u.dep; rw [lapp_dep r u]; omega
  | .if2 t a b r, u => by show max (max (a.dep + 1) (b.dep + 1)) (r.app u).dep = max (max (max (a.dep + 1) (b.dep + 1)) r.dep) u.dep; rw [lapp_dep r u]; omega
end Rdr
namespace Pgr
open PySem Rdr Tld
theorem app_law {kind : Str} : ∀ {t u : LT}, LawT kind t → LawT kind u → LawT kind (t.app u)
  | .nil, u, _, h => h
  | .leaf t r, u, ⟨h1, h2⟩, h => ⟨h1, app_law h2 h⟩
  | .if1 t a r, u, ⟨h1, h2, h3⟩, h => ⟨h1, h2, app_law h3 h⟩
  | .if2 t a b r, u, ⟨h1, h2, h3, h4⟩, h => ⟨h1, h2, h3, app_law h4 h⟩
theorem fl2 (p : List Nat → Bool) : ∀ ws : List (List Nat), (ws.filter p).length + (ws.filter fun w => !p w).length = ws.length
  | [] => rfl
  | w :: r => by
    have ih := fl2 p r
    rw [List.filter_cons, List.filter_cons]
    cases p w <;> simp <;> omega
theorem step_len {ws tails : List (List Nat)} (h : 1 ≤ tails.length) : (stepL ws tails).length ≤ ws.length * tails.length := by
  unfold stepL
  have h1 := fl2 ended ws
  have h2 := fm_len (fun w : List Nat => tails.map (w ++ ·)) tails.length (ws.filter fun w => !ended w) (fun x _ => by rw [List.length_map]; exact Nat.le_refl _)
  rw [List.length_append]
  have h3 : (ws.filter ended).length ≤ (ws.filter ended).length * tails.length := Nat.le_mul_of_pos_right _ h
  rw [← h1, Nat.add_mul]
  omega
theorem step_ne {ws tails : List (List Nat)} (h : ws ≠ []) (k : tails ≠ []) : stepL ws tails ≠ [] := by
  obtain ⟨w, r, rfl⟩ := List.exists_cons_of_ne_nil h
  obtain ⟨t, s, rfl⟩ := List.exists_cons_of_ne_nil k
  intro e
  unfold stepL at e
  have e := List.append_eq_nil_iff.mp e
  cases g : ended w with
  | true =>
    have := e.1
    rw [List.filter_cons, if_pos g] at this
    cases this
  | false =>
    have := e.2
    rw [List.filter_cons, if_pos (by rw [g]; rfl), List.flatMap_cons] at this
    cases (List.append_eq_nil_iff.mp this).1
theorem step_mem {ws tails : List (List Nat)} {w : List Nat} (h : w ∈ stepL ws tails) : w ∈ ws ∨ ∃ u ∈ ws, ∃ t ∈ tails, w = u ++ t := by
  unfold stepL at h
  rcases List.mem_append.mp h with h | h
  · exact .inl (List.mem_filter.mp h).1
  · obtain ⟨u, h1, h2⟩ := List.mem_flatMap.mp h
    obtain ⟨t, h3, rfl⟩ := List.mem_map.mp h2
    exact .inr ⟨u, (List.mem_filter.mp h1).1, t, h3, rfl⟩
theorem lwF_ne : ∀ (t : LT) (n : Nat) (ws : List (List Nat)), ws ≠ [] → lwF t n ws ≠ []
  | .nil, _, _, h => h
  | .leaf t r, n, ws, h => lwF_ne r _ _ (step_ne h (by split <;> simp))
  | .if1 t a r, n, ws, h => lwF_ne r _ _ (step_ne h (by simp))
  | .if2 t a b r, n, ws, h => lwF_ne r _ _ (step_ne h (by have := lwF_ne a (n + 1) [[]] (by simp); simp [this]))
theorem lwF_len : ∀ (t : LT) (n : Nat) (ws : List (List Nat)), (lwF t n ws).length ≤ ws.length * 2 ^ t.ifs
  | .nil, _, ws => by show ws.length ≤ ws.length * 1; omega
  | .leaf t r, n, ws => by
    have h := lwF_len r (n + 1) (stepL ws (if t ∈ ends2 then [[n + 1, 0]] else [[n + 1]]))
    have h2 : (stepL ws (if t ∈ ends2 then [[n + 1, 0]] else [[n + 1]])).length ≤ ws.length * 1 := by
      have := step_len (ws := ws) (tails := if t ∈ ends2 then [[n + 1, 0]] else [[n + 1]]) (by split <;> exact Nat.le_refl _)
      have e : (if t ∈ ends2 then [[n + 1, 0]] else [[n + 1]]).length = 1 := by split <;> rfl
      rw [e] at this
      exact this
    exact Nat.le_trans h (Nat.mul_le_mul_right _ (by omega))
  | .if1 t a r, n, ws => by
    have h := lwF_len r (n + 1 + a.lines.length + 1) (stepL ws ((lwF a (n + 1) [[]]).map ((n + 1) :: ·) ++ [[n + 1]]))
    have ha := lwF_len a (n + 1) [[]]
    have h2 := step_len (ws := ws) (tails := (lwF a (n + 1) [[]]).map ((n + 1) :: ·) ++ [[n + 1]]) (by simp)
    rw [List.length_append, List.length_map, List.length_singleton] at h2
    rw [List.length_singleton, Nat.one_mul] at ha
    have h0 : 1 ≤ 2 ^ a.ifs := Nat.one_le_two_pow
    have h3 : (lwF a (n + 1) [[]]).length + 1 ≤ 2 * 2 ^ a.ifs := by omega
    show _ ≤ ws.length * 2 ^ (1 + a.ifs + r.ifs)
    rw [Nat.pow_add, Nat.pow_add, show 2 ^ 1 = 2 from rfl, ← Nat.mul_assoc]
    exact Nat.le_trans h (Nat.mul_le_mul_right _ (Nat.le_trans h2 (Nat.mul_le_mul_left _ h3)))
  | .if2 t a b r, n, ws => by
    have h := lwF_len r (n + 1 + a.lines.length + 1 + b.lines.length + 1) (stepL ws ((lwF a (n + 1) [[]]).map ((n + 1) :: ·) ++ (lwF b (n + 1 + a.lines.length + 1) [[]]).map ((n + 1) :: ·)))
    have ha := lwF_len a (n + 1) [[]]
    have hb := lwF_len b (n + 1 + a.lines.length + 1) [[]]
    have hn : 1 ≤ (lwF a (n + 1) [[]]).length := List.length_pos_iff.mpr (lwF_ne a _ _ (by simp))
    have h2 := step_len (ws := ws) (tails := (lwF a (n + 1) [[]]).map ((n + 1) :: ·) ++ (lwF b (n + 1 + a.lines.length + 1) [[]]).map ((n + 1) :: ·)) (by simp; omega)
    rw [List.length_append, List.length_map, List.length_map] at h2
    rw [List.length_singleton, Nat.one_mul] at ha hb
    have h0 : 1 ≤ 2 ^ a.ifs := Nat.one_le_two_pow
    have h1 : 1 ≤ 2 ^ b.ifs := Nat.one_le_two_pow
    have h4 : 2 ^ a.ifs ≤ 2 ^ a.ifs * 2 ^ b.ifs := Nat.le_mul_of_pos_right _ h1
    have h5 : 2 ^ b.ifs ≤ 2 ^ a.ifs * 2 ^ b.ifs := Nat.le_mul_of_pos_left _ h0
    have h3 : (lwF a (n + 1) [[]]).length + (lwF b (n + 1 + a.lines.length + 1) [[]]).length ≤ 2 * (2 ^ a.ifs * 2 ^ b.ifs) := by omega
    show _ ≤ ws.length * 2 ^ (1 + a.ifs + b.ifs + r.ifs)
    rw [Nat.pow_add, Nat.pow_add, Nat.pow_add, show 2 ^ 1 = 2 from rfl, Nat.mul_assoc 2, ← Nat.mul_assoc ws.length]
    exact Nat.le_trans h (Nat.mul_le_mul_right _ (Nat.le_trans h2 (Nat.mul_le_mul_left _ h3)))
/-- a test of all ways: kept where lines and ends have it -/
theorem lwF_all (p : List Nat → Prop) (q : List Nat → Prop) : ∀ (t : LT) (n B : Nat) (ws : List (List Nat)), (∀ u v, p u → q v → p (u ++ v)) → q [] → (∀ k v, k ≤ B → q v → q (k :: v)) → (∀ u v, q u → q v → q (u ++ v)) → q [0] → n + t.lines.length ≤ B → (∀ w ∈ ws, p w) → ∀ w ∈ lwF t n ws, p w
  | .nil, n, B, ws, _, _, _, _, _, _, hw, w, h => hw w h
  | .leaf t r, n, B, ws, h1, h2, h3, h4, h5, hb, hw, w, h => by
    have hb : n + (r.lines.length + 1) ≤ B := hb
    refine lwF_all p q r (n + 1) B _ h1 h2 h3 h4 h5 (by omega) (fun w hw' => ?_) w h
    rcases step_mem hw' with hw' | ⟨u, hu, v, hv, rfl⟩
    · exact hw _ hw'
    · refine h1 _ _ (hw u hu) ?_
      split at hv <;> rw [List.mem_singleton] at hv <;> subst hv
      · exact h3 _ _ (by omega) h5
      · exact h3 _ _ (by omega) h2
  | .if1 t a r, n, B, ws, h1, h2, h3, h4, h5, hb, hw, w, h => by
    have hb : n + ((a.lines ++ endS :: r.lines).length + 1) ≤ B := hb
    rw [List.length_append, List.length_cons] at hb
    refine lwF_all p q r _ B _ h1 h2 h3 h4 h5 (by omega) (fun w hw' => ?_) w h
    rcases step_mem hw' with hw' | ⟨u, hu, v, hv, rfl⟩
    · exact hw _ hw'
    · refine h1 _ _ (hw u hu) ?_
      rcases List.mem_append.mp hv with hv | hv
      · obtain ⟨x, hx, rfl⟩ := List.mem_map.mp hv
        exact h3 _ _ (by omega) (lwF_all q q a (n + 1) B [[]] h4 h2 h3 h4 h5 (by omega) (fun w hw => by rw [List.mem_singleton] at hw; subst hw; exact h2) x hx)
      · rw [List.mem_singleton] at hv; subst hv
        exact h3 _ _ (by omega) h2
  | .if2 t a b r, n, B, ws, h1, h2, h3, h4, h5, hb, hw, w, h => by
    have hb : n + ((a.lines ++ elseS :: (b.lines ++ endS :: r.lines)).length + 1) ≤ B := hb
    rw [List.length_append, List.length_cons, List.length_append, List.length_cons] at hb
    refine lwF_all p q r _ B _ h1 h2 h3 h4 h5 (by omega) (fun w hw' => ?_) w h
    rcases step_mem hw' with hw' | ⟨u, hu, v, hv, rfl⟩
    · exact hw _ hw'
    · refine h1 _ _ (hw u hu) ?_
      rcases List.mem_append.mp hv with hv | hv
      · obtain ⟨x, hx, rfl⟩ := List.mem_map.mp hv
        exact h3 _ _ (by omega) (lwF_all q q a (n + 1) B [[]] h4 h2 h3 h4 h5 (by omega) (fun w hw => by rw [List.mem_singleton] at hw; subst hw; exact h2) x hx)
      · obtain ⟨x, hx, rfl⟩ := List.mem_map.mp hv
        exact h3 _ _ (by omega) (lwF_all q q b (n + 1 + a.lines.length + 1) B [[]] h4 h2 h3 h4 h5 (by omega) (fun w hw => by rw [List.mem_singleton] at hw; subst hw; exact h2) x hx)
/-- no way tells a line that is not there -/
theorem lwF_le {t : LT} {n B : Nat} {ws : List (List Nat)} (hb : n + t.lines.length ≤ B) (h : ∀ w ∈ ws, ∀ l ∈ w, l ≤ B) : ∀ w ∈ lwF t n ws, ∀ l ∈ w, l ≤ B :=
  lwF_all (fun w => ∀ l ∈ w, l ≤ B) (fun w => ∀ l ∈ w, l ≤ B) t n B ws (fun u v h k l hl => (List.mem_append.mp hl).elim (h l) (k l)) (fun l hl => by cases hl) (fun k v hk h l hl => (List.mem_cons.mp hl).elim (fun e => e ▸ hk) (h l)) (fun u v h k l hl => (List.mem_append.mp hl).elim (h l) (k l)) (fun l hl => by rw [List.mem_singleton] at hl; omega) hb h
theorem step_wl {ws tails : List (List Nat)} {M N : Nat} (h : ∀ w ∈ ws, w.length ≤ M) (k : ∀ w ∈ tails, w.length ≤ N) : ∀ w ∈ stepL ws tails, w.length ≤ M + N := fun w hw => by
  rcases step_mem hw with hw | ⟨u, hu, v, hv, rfl⟩
  · have := h w hw; omega
  · have := h u hu
    have := k v hv
    rw [List.length_append]
    omega
theorem one_wl {M : Nat} : ∀ w ∈ ([[]] : List (List Nat)), w.length ≤ M := fun w hw => by rw [List.mem_singleton] at hw; subst hw; exact Nat.zero_le _
theorem map_wl {ws : List (List Nat)} {M n : Nat} (h : ∀ w ∈ ws, w.length ≤ M) : ∀ w ∈ ws.map (n :: ·), w.length ≤ M + 1 := fun w hw => by
  obtain ⟨x, hx, rfl⟩ := List.mem_map.mp hw
  have := h x hx
  rw [List.length_cons]
  omega
theorem app_wl {ws us : List (List Nat)} {M : Nat} (h : ∀ w ∈ ws, w.length ≤ M) (k : ∀ w ∈ us, w.length ≤ M) : ∀ w ∈ ws ++ us, w.length ≤ M := fun w hw => (List.mem_append.mp hw).elim (h w) (k w)
theorem lwF_wl : ∀ (t : LT) (n M : Nat) (ws : List (List Nat)), (∀ w ∈ ws, w.length ≤ M) → ∀ w ∈ lwF t n ws, w.length ≤ M + 2 * t.lines.length
  | .nil, n, M, ws, h, w, hw => by have := h w hw; show w.length ≤ M + 2 * 0; omega
  | .leaf t r, n, M, ws, h, w, hw => by
    have := lwF_wl r (n + 1) (M + 2) _ (step_wl h (fun w hw => by split at hw <;> rw [List.mem_singleton] at hw <;> subst hw <;> simp)) w hw
    show w.length ≤ M + 2 * (r.lines.length + 1)
    omega
  | .if1 t a r, n, M, ws, h, w, hw => by
    have := lwF_wl r (n + 1 + a.lines.length + 1) (M + (0 + 2 * a.lines.length + 1)) _ (step_wl h (app_wl (map_wl (lwF_wl a (n + 1) 0 [[]] one_wl)) (fun w hw => by rw [List.mem_singleton] at hw; subst hw; simp))) w hw
    show w.length ≤ M + 2 * ((a.lines ++ endS :: r.lines).length + 1)
    rw [List.length_append, List.length_cons]
    omega
  | .if2 t a b r, n, M, ws, h, w, hw => by
    have ha := lwF_wl a (n + 1) 0 [[]] one_wl
    have hb := lwF_wl b (n + 1 + a.lines.length + 1) 0 [[]] one_wl
    have := lwF_wl r (n + 1 + a.lines.length + 1 + b.lines.length + 1) (M + (2 * a.lines.length + 2 * b.lines.length + 1)) _ (step_wl h (app_wl (fun w hw => by
      have := map_wl ha w hw; omega) (fun w hw => by have := map_wl hb w hw; omega))) w hw
    show w.length ≤ M + 2 * ((a.lines ++ elseS :: (b.lines ++ endS :: r.lines)).length + 1)
    rw [List.length_append, List.length_cons, List.length_append, List.length_cons]
    omega
end Pgr


set_option Elab.async false
set_option linter.all false
set_option maxRecDepth 100000
set_option maxHeartbeats 4000000
/-! xs.count(z), xs a list of texts -/
namespace L2
open PySem PySem.Spec PyProof.Rows
def eqz (k : Str) (v : Value) : Bool := match v with
  | .str n _ => n == k
  | _ => false
def rCntS (K : PySem.W.Frag) : V → List V → Hp → VK → Prop := fun x xs H Q => ∃ (p : Addr) (ns : List Str) (k : Str), x = .ref p ∧ xs = [.str k] ∧ SqL K H p (ns.map V.str) ∧ Q (.int (ns.count k : Nat)) H
theorem cntv_strs {A : Around} {s : Shared} {k : Str} {t : Tok} : ∀ {ns : List Str} {us : List Value}, Vals (ns.map V.str) us → us.countP (eqz k) = ns.count k ∧ ∀ y ∈ us, SeqAt.EqAt A s y (.str k t) (eqz k y)
  | [], us, h => by
    cases h
    exact ⟨rfl, fun y hy => by cases hy⟩
  | n :: r, us, h => by
    cases h with
    | cons h1 h2 =>
      obtain ⟨u, rfl⟩ := h1
      obtain ⟨i1, i2⟩ := cntv_strs (A := A) (s := s) (k := k) (t := t) h2
      refine ⟨by rw [List.countP_cons, List.count_cons, i1] <;> rfl, fun y hy => ?_⟩
      rcases List.mem_cons.mp hy with e | e
      · rw [e]
        exact SeqAt.EqAt.str_str n _ k t
      · exact i2 y e
theorem mt_lcountS {X : Cx} : MtR X "list.count" (rCntS X.K) := by
  intro pins s σ H x xs v us Q I rx rxs h
  obtain ⟨p, ns, k, rfl, rfl, hs, q⟩ := h
  cases rx
  obtain ⟨u, rfl, ru⟩ := rxs.one
  obtain ⟨t, rfl⟩ := ru
  obtain ⟨its, rv, ⟨⟨cls, dd, data, sl⟩, n, ho, hc, hdn, hd⟩, hlen⟩ := I.list hs
  simp only at hc hd
  subst hc hd
  refine call_meets PySem.F.slot_list_count ⟨_, ho, rfl⟩ PySem.F.entry_list_count (PySem.F.args_list_count_2 _ _)
    (SeqAt.list_countAt p its.toArray n dd sl (.str k t) (eqz k)) ⟨ho, fun y hy => (cntv_strs rv).2 y (by simpa using hy), ?_⟩
  have ec : its.toArray.toList.countP (eqz k) = ns.count k := (cntv_strs (A := X.A) (s := s) (t := t) rv).1
  refine ⟨.int (ns.count k : Nat), H, I.tok _, ⟨s.toks, ?_⟩, q⟩
  show Value.int ((its.toArray.toList.countP (eqz k) : Nat) : Int) s.toks = Value.int ((ns.count k : Nat) : Int) s.toks
  rw [ec]
end L2


set_option Elab.async false
set_option linter.all false
set_option maxRecDepth 100000
set_option maxHeartbeats 4000000
/-! lists of written texts put together -/
namespace L2
open PySem PySem.Spec PyProof.Rows
def tStrs : List Str → TA
  | [] => tNil
  | m :: r => tCons (tC (.str m)) (tStrs r)
theorem ev_strs {σ : St} : ∀ (M : List Str) (H : Hp), EvA (tStrs M) σ H (M.map V.str)
  | [], _ => ev_nil
  | m :: r, H => ev_cons ev_C fun H1 _ => ev_strs r H1
section
variable {σ : St} {H : Hp} {i : Nat} {p : Addr} {L M : List Str} {D : Ends} {ta : TA}
theorem cat_go {te : TE} {Q : VK} (hv : EvE te σ H (.ref p)) (hp : H p = some (.lst (L.map V.str))) (ha : ∀ H, EvA ta σ H (M.map V.str)) (hn : L.length ≤ 100000) (k : ∀ q H', Same H H' → H q = none → H' q = some (.lst ((L ++ M).map V.str)) → Q (.ref q) H') (hl : Nat.ble (M.map V.str).length 1000 = true := by rfl) :
    tOp rCat te (tLst ta) σ H Q := by
  have q9 : sizeLine = 16777216 := sizeLine_eq
  have hm : M.length ≤ 1000 := by rw [List.length_map] at hl; exact Nat.le_of_ble_eq_true hl
  refine op_go (hv _ fun H1 s1 => mk_lst (ha H1) (fun H2 T s2 _ hT => ⟨p, T, _, _, rfl, rfl, s2 _ _ (s1 _ _ hp), hT, by rw [List.length_map, List.length_map]; omega, fun q hq => k q _ ((s1.tr s2).tr (Same.new hq)) (none_of (s1.tr s2) hq) (by rw [upd_same, List.map_append])⟩) hl)
theorem cat_set {s : TS} (hv : σ[i]? = some (some (.ref p))) (hp : H p = some (.lst (L.map V.str))) (ha : ∀ H, EvA ta σ H (M.map V.str)) (hn : L.length ≤ 100000) (k : ∀ q H', Same H H' → H q = none → H' q = some (.lst ((L ++ M).map V.str)) → s D (σ.set i (some (.ref q))) H') (hl : Nat.ble (M.map V.str).length 1000 = true := by rfl) :
    tSeq (tAsg (tOp rCat (tVar i) (tLst ta)) (gName i)) s D σ H := set_te (cat_go (ev_var hv) hp ha hn k hl)
theorem cat_set0 (hv : σ[i]? = some (some (.ref p))) (hp : H p = some (.lst (L.map V.str))) (ha : ∀ H, EvA ta σ H (M.map V.str)) (hn : L.length ≤ 100000) (k : ∀ q H', Same H H' → H q = none → H' q = some (.lst ((L ++ M).map V.str)) → D.nx (σ.set i (some (.ref q))) H') (hl : Nat.ble (M.map V.str).length 1000 = true := by rfl) :
    tAsg (tOp rCat (tVar i) (tLst ta)) (gName i) D σ H := asg_go0 (cat_go (ev_var hv) hp ha hn k hl)
end
end L2


set_option Elab.async false
set_option linter.all false
set_option maxRecDepth 100000
set_option maxHeartbeats 4000000
namespace K03
open PySem PySem.Spec PyProof.Rows L2 Rdr Tld Pgr LmX LamX NdefX
section
variable {P : Program} {w : World} {K : PySem.W.Frag} {mg : Str → Option Value} {base : Heap}
def spPool : Sp := fun vs H Q _ => ∃ (kind : Str), vs = [.str kind] ∧ kind ∈ kinds4 ∧ ∀ q H', Same H H' → H q = none → H' q = some (.lst ((leafs kind).map V.str)) → Q (.ref q) H'
theorem ok_l_pool (T : Tx P w K mg) : FnX P w K mg base CX0 1 "_law_pool" ["_law_kind"] [] spPool := by
  refine T.d_l_pool.ok0 sc_l_pool (fun _ _ _ _ _ _ us hl => match us, hl with | [_], _ => rfl) (fun vs H Q E h => ?_) (fun f cdv A outer s H vs Q E hr h => have hu := hu_of hr; ⟨_, (by exact (pss_cons (ps_set (i := 1) sc_l_pool.nd rfl (Or.inl rfl) (pe_lst (pa_cons pe_str (pa_cons pe_str (pa_cons pe_str (pa_cons pe_str (pa_cons pe_str (pa_cons pe_str pa_nil))))))))
      (pss_cons (ps_set (i := 1) sc_l_pool.nd rfl (Or.inl rfl) (pe_op op_cat (pv 1) (pe_lst (pa_cons pe_str (pa_cons pe_str (pa_cons pe_str (pa_cons pe_str (pa_cons pe_str pa_nil))))))))
      (pss_cons (ps_if (pt_cmpR op_eq (pv 0) pe_str (nomark _)) (pss_cons (ps_set (i := 1) sc_l_pool.nd rfl (Or.inl rfl) (pe_op op_cat (pv 1) (pe_lst (pa_cons pe_str (pa_cons pe_str (pa_cons pe_str (pa_cons pe_str (pa_cons pe_str (pa_cons pe_str (pa_cons pe_str pa_nil))))))))))
      (pss_cons (ps_set (i := 1) sc_l_pool.nd rfl (Or.inl rfl) (pe_op op_cat (pv 1) (pe_lst (pa_cons pe_str (pa_cons pe_str (pa_cons pe_str (pa_cons pe_str pa_nil)))))))
      (pss_one (ps_set (i := 1) sc_l_pool.nd rfl (Or.inl rfl) (pe_op op_cat (pv 1) (pe_lst (pa_cons pe_str pa_nil))))))) pss_nil)
      (pss_cons (ps_if (pt_cmpR op_eq (pv 0) pe_str (nomark _)) (pss_cons (ps_set (i := 1) sc_l_pool.nd rfl (Or.inl rfl) (pe_op op_cat (pv 1) (pe_lst (pa_cons pe_str (pa_cons pe_str (pa_cons pe_str (pa_cons pe_str (pa_cons pe_str pa_nil))))))))
      (pss_one (ps_set (i := 1) sc_l_pool.nd rfl (Or.inl rfl) (pe_op op_cat (pv 1) (pe_lst (pa_cons pe_str (pa_cons pe_str (pa_cons pe_str (pa_cons pe_str pa_nil))))))))) pss_nil)
      (pss_cons (ps_if (pt_cmpR op_eq (pv 0) pe_str (nomark _)) (pss_one (ps_set (i := 1) sc_l_pool.nd rfl (Or.inl rfl) (pe_op op_cat (pv 1) (pe_lst (pa_cons pe_str (pa_cons pe_str (pa_cons pe_str (pa_cons pe_str (pa_cons pe_str (pa_cons pe_str pa_nil)))))))))) pss_nil)
      (pss_cons (ps_set (i := 1) sc_l_pool.nd rfl (Or.inl rfl) (pe_op op_cat (pv 1) (pe_lst (pa_cons pe_str (pa_cons pe_str pa_nil)))))
      (pss_one (ps_ret (pe_op op_cat (pv 1) (pe_op op_rep (pe_lst (pa_cons pe_str (pa_cons pe_str pa_nil))) (pe_callTy call_int1 (by rfl) T.b_int (by decide +kernel) (pa_cons (pe_cmpR op_eq (pv 0) pe_str (nomark _)) pa_nil))))))))))))), ?_⟩)
  · obtain ⟨kind, rfl, _⟩ := h
    rfl
  obtain ⟨kind, rfl, hk, h0⟩ := h
  have q9 : sizeLine = 16777216 := sizeLine_eq
  let S : Addr → L2.St := fun p => [some (.str kind), some (.ref p)]
  have hln : ∀ (l : List Str), l.length ≤ 60 → l.length ≤ 100000 := fun l h => by omega
  refine set_lst (vs := poolA.map V.str) (ev_strs poolA _) fun H1 p1 s1 hp10 hp1 => ?_
  refine cat_set (σ := S p1) (M := poolB) rfl hp1 (ev_strs poolB) (by decide) fun p2 H2 s2 hp20 hp2 => ?_
  have s02 := s1.tr s2
  have n20 := none_of s1 hp20
  generalize hA : poolA ++ poolB = LA at hp2
  have lA : LA.length ≤ 11 := by rw [← hA]; decide
  refine seq_of (fun z H' => ∃ p, z = S p ∧ Same H H' ∧ H p = none ∧ H' p = some (.lst ((LA ++ if kind = "put" then (poolP1 ++ poolP2) ++ poolP3 else []).map V.str))) (fun N KN => ?_) ?_
  · refine do_if (σ := S p2) (eq_str (ev_var rfl) fun _ _ => ev_C) (fun g H3 s3 => ?_) (fun g H3 s3 => ?_)
    · rw [if_pos (of_decide_eq_true g)] at KN
      refine cat_set (σ := S p2) (M := poolP1) rfl (s3 _ _ hp2) (ev_strs poolP1) (by omega) fun p4 H4 s4 hp40 hp4 => ?_
      refine cat_set (σ := S p4) (M := poolP2) rfl hp4 (ev_strs poolP2) (by rw [List.length_append, show poolP1.length = 7 from rfl]; omega) fun p5 H5 s5 hp50 hp5 => ?_
      refine cat_set0 (σ := S p5) (M := poolP3) rfl hp5 (ev_strs poolP3) (by rw [List.length_append, List.length_append, show poolP1.length = 7 from rfl, show poolP2.length = 4 from rfl]; omega) fun p6 H6 s6 hp60 hp6 => ?_
      rw [List.append_assoc, List.append_assoc, ← List.append_assoc poolP1] at hp6
      exact KN _ _ ⟨p6, rfl, s02.tr (s3.tr (s4.tr (s5.tr s6))), none_of (s02.tr (s3.tr (s4.tr s5))) hp60, hp6⟩
    · rw [if_neg (of_decide_eq_false g), List.append_nil] at KN
      exact KN _ _ ⟨p2, rfl, s02.tr s3, n20, s3 _ _ hp2⟩
  rintro _ H3 ⟨p3, rfl, s3, hp30, hp3⟩
  generalize hB : (LA ++ if kind = "put" then (poolP1 ++ poolP2) ++ poolP3 else []) = LB at hp3
  have lB : LB.length ≤ 24 := by
    rw [← hB, List.length_append]
    split
    · rw [show ((poolP1 ++ poolP2) ++ poolP3).length = 12 from rfl]; omega
    · rw [List.length_nil]; omega
  refine seq_of (fun z H' => ∃ p, z = S p ∧ Same H H' ∧ H p = none ∧ H' p = some (.lst ((LB ++ if kind = "set" then poolS1 ++ poolS2 else []).map V.str))) (fun N KN => ?_) ?_
  · refine do_if (σ := S p3) (eq_str (ev_var rfl) fun _ _ => ev_C) (fun g H4 s4 => ?_) (fun g H4 s4 => ?_)
    · rw [if_pos (of_decide_eq_true g)] at KN
      refine cat_set (σ := S p3) (M := poolS1) rfl (s4 _ _ hp3) (ev_strs poolS1) (by omega) fun p5 H5 s5 hp50 hp5 => ?_
      refine cat_set0 (σ := S p5) (M := poolS2) rfl hp5 (ev_strs poolS2) (by rw [List.length_append, show poolS1.length = 5 from rfl]; omega) fun p6 H6 s6 hp60 hp6 => ?_
      rw [List.append_assoc] at hp6
      exact KN _ _ ⟨p6, rfl, s3.tr (s4.tr (s5.tr s6)), none_of (s3.tr (s4.tr s5)) hp60, hp6⟩
    · rw [if_neg (of_decide_eq_false g), List.append_nil] at KN
      exact KN _ _ ⟨p3, rfl, s3.tr s4, hp30, s4 _ _ hp3⟩
  rintro _ H4 ⟨p4, rfl, s4, hp40, hp4⟩
  generalize hC : (LB ++ if kind = "set" then poolS1 ++ poolS2 else []) = LC at hp4
  have lC : LC.length ≤ 40 := by
    rw [← hC, List.length_append]
    split
    · rw [show (poolS1 ++ poolS2).length = 9 from rfl]; omega
    · rw [List.length_nil]; omega
  refine seq_of (fun z H' => ∃ p, z = S p ∧ Same H H' ∧ H p = none ∧ H' p = some (.lst ((LC ++ if kind = "strike" then poolK else []).map V.str))) (fun N KN => ?_) ?_
  · refine do_if (σ := S p4) (eq_str (ev_var rfl) fun _ _ => ev_C) (fun g H5 s5 => ?_) (fun g H5 s5 => ?_)
    · rw [if_pos (of_decide_eq_true g)] at KN
      refine cat_set0 (σ := S p4) (M := poolK) rfl (s5 _ _ hp4) (ev_strs poolK) (by omega) fun p6 H6 s6 hp60 hp6 => ?_
      exact KN _ _ ⟨p6, rfl, s4.tr (s5.tr s6), none_of (s4.tr s5) hp60, hp6⟩
    · rw [if_neg (of_decide_eq_false g), List.append_nil] at KN
      exact KN _ _ ⟨p4, rfl, s4.tr s5, hp40, s5 _ _ hp4⟩
  rintro _ H5 ⟨p5, rfl, s5, hp50, hp5⟩
  generalize hD : (LC ++ if kind = "strike" then poolK else []) = LD at hp5
  have lD : LD.length ≤ 50 := by
    rw [← hD, List.length_append]
    split
    · rw [show poolK.length = 6 from rfl]; omega
    · rw [List.length_nil]; omega
  refine cat_set (σ := S p5) (M := poolE) rfl hp5 (ev_strs poolE) (by omega) fun p6 H6 s6 hp60 hp6 => ?_
  have s06 := s5.tr s6
  have eL : leafs kind = (LD ++ poolE) ++ if kind = "pack" then poolQ else [] := by
    unfold leafs
    rw [hA, hB, hC, hD]
  rw [eL] at h0
  refine ret_go (op_go (var_go rfl (op_go (mk_lst (vs := poolQ.map V.str) (ev_strs poolQ _) fun H7 q7 s7 hq70 hq7 => ?_))))
  have key : ∀ (k : Int), k = (if kind = "pack" then 1 else 0) → ∀ H8, Same H7 H8 → rRep (.ref q7) (.int k) H8 fun y H9 => rCat (.ref p6) y H9 Q := by
    intro k ek H8 s8
    have k0 : 0 ≤ k ∧ k ≤ 1 := by rw [ek]; split <;> exact ⟨by decide, by decide⟩
    have hm : (List.replicate k.toNat (poolQ.map V.str)).flatten = ((if kind = "pack" then poolQ else []).map V.str) := by
      rw [ek]
      by_cases g : kind = "pack"
      · rw [if_pos g, if_pos g]; rfl
      · rw [if_neg g, if_neg g]; rfl
    refine ⟨q7, k, poolQ.map V.str, rfl, rfl, s8 _ _ hq7, by omega, by omega, ?_, fun p hp => ?_⟩
    · rw [show (poolQ.map V.str).length = 2 from rfl]
      have : k.toNat ≤ 1 := by omega
      omega
    · rw [hm]
      have s9 : Same H8 (upd H8 p (.lst ((if kind = "pack" then poolQ else []).map V.str))) := Same.new hp
      have i9 : upd H8 p (.lst ((if kind = "pack" then poolQ else []).map V.str)) p = some (.lst ((if kind = "pack" then poolQ else []).map V.str)) := upd_same
      generalize upd H8 p (.lst ((if kind = "pack" then poolQ else []).map V.str)) = H9 at s9 i9 ⊢
      have s69 := s7.tr (s8.tr s9)
      refine ⟨p6, p, _, _, rfl, rfl, s69 _ _ hp6, i9, ?_, fun q hq => h0 q _ ((s06.tr s69).tr (Same.new hq)) (none_of (s06.tr s69) hq) (by rw [upd_same, List.map_append (l₁ := LD ++ poolE)])⟩
      rw [List.length_map, List.length_map, List.length_append, show poolE.length = 2 from rfl]
      have : (if kind = "pack" then poolQ else []).length ≤ 2 := by split <;> decide
      omega
  have eb := ev_eq (σ := S p6) (H := H7) (a := tVar 0) (b := tC (.str "pack")) (ev_var rfl) (fun _ _ => ev_C) rfl
  rw [dcS] at eb
  refine cb_go (cons_go (eb _ fun H8 s8 => nil_go (.inr ⟨_, rfl, key _ ?_ H8 s8⟩)))
  by_cases g : kind = "pack"
  · rw [decide_eq_true g, if_pos rfl, if_pos g]
  · rw [decide_eq_false g, if_neg (by decide), if_neg g]
end
end K03



set_option Elab.async false
set_option linter.all false
set_option maxRecDepth 100000
set_option maxHeartbeats 4000000
/-! comprehensions whose entries stand in a relation to a heap (lists of new lists) -/
namespace L2
open PySem PySem.Spec PyProof.Rows
theorem slL_at {X : Cx} {K : PySem.W.Frag} (h : X.K = K := by rfl) : SlR X (rSlL K) := by subst h; exact sl_list
theorem eqD_at {X : Cx} {K : PySem.W.Frag} (hu : X.A.units + 64 < cLine) (h : X.K = K := by rfl) : OpR X (compareOp .Eq) (rEqD K) := by subst h; exact op_eqD hu
theorem neD_at {X : Cx} {K : PySem.W.Frag} (hu : X.A.units + 64 < cLine) (h : X.K = K := by rfl) : OpR X (compareOp .NotEq) (rNeD K) := by subst h; exact op_neD hu
/-- two lists, entry by entry -/
inductive Al {γ : Type} (R : V → γ → Prop) : List V → List γ → Prop
  | nil : Al R [] []
  | cons {v : V} {vs : List V} {d : γ} {ds : List γ} : R v d → Al R vs ds → Al R (v :: vs) (d :: ds)
section
variable {γ : Type} {R S : V → γ → Prop}
theorem Al.len : ∀ {vs : List V} {ds : List γ}, Al R vs ds → vs.length = ds.length
  | _, _, .nil => rfl
  | _, _, .cons _ hs => by rw [List.length_cons, List.length_cons, hs.len]
theorem Al.up (h : ∀ v d, R v d → S v d) : ∀ {vs : List V} {ds : List γ}, Al R vs ds → Al S vs ds
  | _, _, .nil => .nil
  | _, _, .cons a hs => .cons (h _ _ a) (hs.up h)
theorem Al.at : ∀ {vs : List V} {ds : List γ}, Al R vs ds → ∀ {i : Nat} {v : V}, vs[i]? = some v → ∃ d, ds[i]? = some d ∧ R v d
  | _, _, .cons h hs, 0, v, e => by cases e; exact ⟨_, rfl, h⟩
  | _, _, .cons h hs, i + 1, v, e => hs.at (i := i) e
theorem Al.app : ∀ {vs ws : List V} {ds es : List γ}, Al R vs ds → Al R ws es → Al R (vs ++ ws) (ds ++ es)
  | _, _, _, _, .nil, k => k
  | _, _, _, _, .cons h hs, k => .cons h (hs.app k)
theorem Al.snoc {vs : List V} {ds : List γ} {v : V} {d : γ} (h : Al R vs ds) (k : R v d) : Al R (vs ++ [v]) (ds ++ [d]) := h.app (.cons k .nil)
end
/-- the heap without one object -/
def er (H : Hp) (D : Addr) : Hp := fun b => if b = D then none else H b
theorem er_le {H : Hp} {D : Addr} : Same (er H D) H := fun b o h => by
  unfold er at h
  split at h
  · cases h
  · exact h
theorem er_up {H H' : Hp} {D : Addr} (s : Same H H') : Same (er H D) (er H' D) := fun b o h => by
  unfold er at h ⊢
  split at h
  · cases h
  · rename_i g
    rw [if_neg g]
    exact s _ _ h
theorem er_mut {H : Hp} {D : Addr} {o : HO} : er (upd H D o) D = er H D := by
  funext b
  unfold er
  split
  · rfl
  · rename_i g
    rw [upd_ne g]
theorem er_old {H0 H : Hp} {D : Addr} (h : H0 D = none) (s : Same H0 H) : Same H0 (er H D) := fun b o hb => by
  unfold er
  rw [if_neg (fun e => by rw [e, h] at hb; cases hb)]
  exact s _ _ hb
theorem er_new {H : Hp} {D q : Addr} {o : HO} (hD : H D ≠ none) (hq : H q = none) : er (upd H q o) D q = some o := by
  unfold er
  rw [if_neg (fun e => by rw [e] at hq; exact hD hq)]
  exact upd_same
section
variable {γ : Type} {K : PySem.W.Frag} {tl te : TE} {g : TG} {tt : TT} {vs : List Nat} {σ : St} {H : Hp} {a : Addr} {xs : List V}
def LcStepR (R : Hp → V → γ → Prop) (g : TG) (tt : TT) (te : TE) (vs : List Nat) (σ : St) (v : V) (D : Addr) (H : Hp) (o : Option γ) : Prop :=
  ∃ σ2, (∀ R : St → Hp → Prop, R σ2 H → g v (wipe σ vs) H R) ∧ wipe σ2 vs = wipe σ vs ∧ (match o with | none => EvT tt σ2 H false | some d => EvT tt σ2 H true ∧ ∀ H2, Same H H2 → ∀ Q : VK, (∀ y H3, Same H2 H3 → R (er H3 D) y d → Q y H3) → te σ2 H2 Q)
theorem fmg_take {os : List (Option γ)} {i : Nat} {o : Option γ} (h : os[i]? = some o) : (os.take (i + 1)).filterMap id = (os.take i).filterMap id ++ (match o with | none => [] | some d => [d]) := by
  rw [tk1 h, List.filterMap_append]
  cases o <;> rfl
theorem lc_rl (R : Hp → V → γ → Prop) (mono : ∀ H H' v d, Same H H' → R H v d → R H' v d) (os : List (Option γ)) (he : EvE tl σ H (.ref a)) (hs : SqL K H a xs) (hl : os.length = xs.length) (hn : os.length ≤ 1000000)
    (step : ∀ (i : Nat) (v : V) (o : Option γ) (D : Addr) (H' : Hp), xs[i]? = some v → os[i]? = some o → Same H H' → H D = none → H' D ≠ none → LcStepR R g tt te vs σ v D H' o) {Q : VK}
    (k : ∀ q ys H', Same H H' → H q = none → H' q = some (.lst ys) → Al (R H') ys (os.filterMap id) → Q (.ref q) H') : tLc (iList K tl) g tt te vs σ H Q :=
  he _ fun H1 s1 => ⟨a, rfl, ⟨xs, s1.sql hs⟩, fun D hD => by
    have q9 : sizeLine = 16777216 := sizeLine_eq
    have hD0 := none_of s1 hD
    refine lc_list (xs := xs) (fun i H' => Same H1 H' ∧ ∃ ac, H' D = some (.lst ac) ∧ Al (R (er H' D)) ac ((os.take i).filterMap id)) ⟨Same.new hD, [], upd_same, .nil⟩ (fun i H' _ h => (s1.tr h.1).sql hs) ?_ (fun H2 h => ?_)
    · rintro i v H2 hv ⟨s2, acc, hacc, hd⟩
      have hi : i < os.length := by
        by_cases z : i < os.length
        · exact z
        · rw [List.getElem?_eq_none (by omega)] at hv; cases hv
      have ho : os[i]? = some os[i] := List.getElem?_eq_getElem hi
      obtain ⟨σ2, h1, h2, h3⟩ := step i v _ D H2 hv ho (s1.tr s2) hD0 (by rw [hacc]; exact fun e => by cases e)
      generalize os[i] = o at ho h3
      refine h1 _ ⟨h2, ?_⟩
      cases o with
      | none =>
        refine h3 _ fun H3 s3 => ?_
        rw [if_neg (by decide)]
        refine ⟨s2.tr s3, acc, s3 _ _ hacc, ?_⟩
        rw [fmg_take ho, List.append_nil]
        exact hd.up fun v d h => mono _ _ _ _ (er_up s3) h
      | some d =>
        refine h3.1 _ fun H3 s3 => ?_
        rw [if_pos rfl]
        refine h3.2 H3 s3 _ fun y H4 s4 hy => ?_
        have s24 := s3.tr s4
        have hl : acc.length ≤ os.length := by
          rw [hd.len]
          exact Nat.le_trans (List.length_filterMap_le _ _) (by rw [List.length_take]; omega)
        refine ⟨acc, s24 _ _ hacc, by omega, (s2.tr s24).mut hD, _, upd_same, ?_⟩
        rw [fmg_take ho, er_mut]
        exact (hd.up fun v d h => mono _ _ _ _ (er_up s24) h).snoc hy
    · obtain ⟨s2, acc, hacc, hd⟩ := h
      rw [← hl, List.take_length] at hd
      exact k D acc H2 (s1.tr s2) hD0 hacc (hd.up fun v d h => mono _ _ _ _ er_le h)⟩
/-- an if, then the rest -/
theorem nx_ifs {t : TT} {s u r : TS} {D : Ends} {z : St} (h : tIfS t s u { nx := r D, rt := D.rt, bk := D.bk, ct := D.ct } z H) : tSeq (tIfS t s u) r D z H := h
end
/-! lists of line numbers -/
def nl (w : List Nat) : List V := w.map fun n => V.int (n : Nat)
def LsI (H : Hp) (v : V) (w : List Nat) : Prop := ∃ r, v = .ref r ∧ H r = some (.lst (nl w))
theorem LsI.up (H H' : Hp) (v : V) (w : List Nat) (s : Same H H') : LsI H v w → LsI H' v w := fun ⟨r, e, h⟩ => ⟨r, e, s _ _ h⟩
def WsAt (H : Hp) (p : Addr) (ws : List (List Nat)) : Prop := ∃ vs, H p = some (.lst vs) ∧ Al (LsI H) vs ws
theorem WsAt.up {H H' : Hp} {p : Addr} {ws : List (List Nat)} (h : WsAt H p ws) (s : Same H H') : WsAt H' p ws := by
  obtain ⟨vs, h1, h2⟩ := h
  exact ⟨vs, s _ _ h1, h2.up fun v d h => LsI.up _ _ _ _ s h⟩
def niD (w : List Nat) : List PyData := w.map fun n => PyData.int (n : Nat)
theorem dp_ni {K : PySem.W.Frag} {H : Hp} : ∀ w : List Nat, DpAll K H (nl w) (niD w)
  | [] => .nil
  | n :: r => .cons (.int _) (dp_ni r)
theorem cl_ni : ∀ w : List Nat, PyData.canLayAll0 (niD w) = true
  | [] => rfl
  | n :: r => by
    show (PyData.canLay0 (.int (n : Nat)) && PyData.canLayAll0 (niD r)) = true
    rw [cl_ni r]
    rfl
theorem dep_ni : ∀ w : List Nat, PyData.depthAll (niD w) = 0
  | [] => rfl
  | n :: r => by
    show max (PyData.depth (.int (n : Nat))) (PyData.depthAll (niD r)) = 0
    rw [dep_ni r]
    rfl
theorem sh_ni (w : List Nat) : SeqAt.shaped (.list (niD w)) = true := by
  show (PyData.canLayAll0 (niD w) && decide (PyData.depthAll (niD w) + 1 ≤ 64)) = true
  rw [cl_ni, dep_ni]
  rfl
theorem eqv_ni : ∀ a b : List Nat, PyData.eqvAll (niD a) (niD b) = decide (a = b)
  | [], [] => by simp [niD, PyData.eqvAll]
  | x :: xs, [] => by simp [niD, PyData.eqvAll]
  | [], y :: ys => by simp [niD, PyData.eqvAll]
  | x :: xs, y :: ys => by
    have ih := eqv_ni xs ys
    unfold niD at ih ⊢
    simp only [List.map_cons, PyData.eqvAll, PyData.eqv]
    rw [ih]
    by_cases e : x = y
    · subst e; simp
    · have : ((x : Int) == (y : Int)) = false := by simp; omega
      rw [this, Bool.false_and]
      simp [e]
end L2


set_option Elab.async false
set_option linter.all false
set_option maxRecDepth 100000
set_option maxHeartbeats 4000000
namespace L2
open PySem PySem.Spec PyProof.Rows
/-- all but two objects stays -/
def Fr (d l : Addr) (H H' : Hp) : Prop := ∀ b o, b ≠ d → b ≠ l → H b = some o → H' b = some o
theorem Fr.tr {d l : Addr} {H H1 H2 : Hp} (a : Fr d l H H1) (b : Fr d l H1 H2) : Fr d l H H2 := fun c o h1 h2 h => b c o h1 h2 (a c o h1 h2 h)
theorem Same.fr {d l : Addr} {H H1 : Hp} (a : Same H H1) : Fr d l H H1 := fun c o _ _ h => a c o h
theorem SameX.fr {d l : Addr} {H H1 : Hp} (a : SameX d H H1) : Fr d l H H1 := fun c o h _ hb => a c o h hb
theorem Fr.mut {d l q : Addr} {H H1 : Hp} {o : HO} (a : Fr d l H H1) (h : H q = none) : Fr d l H (upd H1 q o) := fun c u h1 h2 hb => by
  rw [upd_ne (fun e => by rw [e, h] at hb; cases hb)]; exact a c u h1 h2 hb
theorem Fr.put {d l : Addr} {H H1 : Hp} {o : HO} (a : Fr d l H H1) : Fr d l H (upd H1 l o) := fun c u h1 h2 hb => by
  rw [upd_ne h2]; exact a c u h1 h2 hb
theorem app_fin {H : Hp} {R : Hp → Prop} {p : Addr} {v : V} {z : Str} {xs : List Str} (e : v = .str z) (hp : H p = some (.lst (xs.map V.str))) (hl : xs.length ≤ 10000) (h : R (upd H p (.lst ((xs ++ [z]).map V.str)))) : rAppend (.ref p) [v] H (fun _ H' => R H') := by
  have q9 : sizeLine = 16777216 := sizeLine_eq
  refine ⟨p, _, v, rfl, rfl, hp, by rw [List.length_map]; omega, ?_⟩
  rw [e]
  rw [List.map_append] at h
  exact h
end L2
namespace K03
open PySem PySem.Spec PyProof.Rows L2 Rdr LmX LamX NdefX Pgr Tld
theorem str_len_app (x y : Str) : (x ++ y).length = x.length + y.length := Str.length_append x y
def dB : Nat → Nat
  | 0 => 20
  | 1 => 200
  | _ => 2500
def lB : Nat → Nat
  | 0 => 3
  | 1 => 30
  | _ => 400
/-- a turn's lines, draws -/
def tB : Nat → Nat
  | 0 => 1
  | 1 => 9
  | _ => 63
def dT : Nat → Nat
  | 0 => 5
  | 1 => 50
  | _ => 410
/-- the bag, what is left, what is found -/
structure LA (H0 H : Hp) (d c lf p : Addr) (m : Nat) (L : List V) (xs : List Str) : Prop where
  fr : Fr d lf H0 H
  bag : Bag H d c m
  hl : H lf = some (.lst L)
  hp : H p = some (.lst (xs.map V.str))
  p0 : H0 p = none
  cl : c ≠ lf
  cp : c ≠ p
  lp : lf ≠ p
section
variable {H0 H H' : Hp} {d c lf p : Addr} {m : Nat} {L : List V} {xs : List Str}
theorem LA.dl (h : LA H0 H d c lf p m L xs) : lf ≠ d := bag_ne h.bag h.hl
theorem LA.dp (h : LA H0 H d c lf p m L xs) : p ≠ d := bag_ne h.bag h.hp
theorem LA.draw (h : LA H0 H d c lf p m L xs) (s : SameX d H H') (b : Bag H' d c (m + 1)) : LA H0 H' d c lf p (m + 1) L xs := ⟨h.fr.tr s.fr, b, s _ _ h.dl h.hl, s _ _ h.dp h.hp, h.p0, h.cl, h.cp, h.lp⟩
theorem LA.up (h : LA H0 H d c lf p m L xs) (s : Same H H') : LA H0 H' d c lf p m L xs := ⟨h.fr.tr s.fr, h.bag.up s, s _ _ h.hl, s _ _ h.hp, h.p0, h.cl, h.cp, h.lp⟩
theorem bag_upd {q : Addr} {o : HO} (h : Bag H d c m) (h1 : q ≠ d) (h2 : c ≠ q) : Bag (upd H q o) d c m := by
  obtain ⟨cs, a, dg, cnt, fo, g1, g2, g3⟩ := h
  exact ⟨cs, a, dg, cnt, fo, by rw [upd_ne (Ne.symm h1)]; exact g1, by rw [upd_ne h2]; exact g2, g3⟩
theorem LA.put (h : LA H0 H d c lf p m L xs) (ys : List Str) : LA H0 (upd H p (.lst (ys.map V.str))) d c lf p m L ys := ⟨h.fr.mut h.p0, bag_upd h.bag h.dp h.cp, by rw [upd_ne h.lp]; exact h.hl, upd_same, h.p0, h.cl, h.cp, h.lp⟩
theorem LA.setL (h : LA H0 H d c lf p m L xs) (L' : List V) : LA H0 (upd H lf (.lst L')) d c lf p m L' xs := ⟨h.fr.put, bag_upd h.bag h.dl h.cl, upd_same, by rw [upd_ne (Ne.symm h.lp)]; exact h.hp, h.p0, h.cl, h.cp, h.lp⟩
theorem LA.draw_go {σ : L2.St} {Q : VK} {i lim : Nat} (h : LA H0 H d c lf p m L xs) (hi : σ[i]? = some (some (.ref d))) (hn : m < 2 ^ 30) (h0 : 0 < lim) (h1 : lim ≤ 1000) (k : ∀ (r : Nat) H', r < lim → LA H0 H' d c lf p (m + 1) L xs → Q (.int (r : Nat)) H') :
    tCall spDraw [] E0 (tCons (tVar i) (tCons (tC (.int (lim : Nat))) tNil)) σ H Q := K03.draw_go hi h.bag hn h0 h1 fun r H' hr s b => k r H' hr (h.draw s b)
theorem LA.pick_go {K : PySem.W.Frag} {σ : L2.St} {Q : VK} {ta : TA} {vs : List V} {i lim : Nat} (h : LA H0 H d c lf p m L xs) (ha : EvA ta σ H vs) (hi : σ[i]? = some (some (.ref d))) (hn : m < 2 ^ 30) (hl : lim = vs.length) (h0 : 0 < lim) (k : ∀ (r : Nat) v H', vs[r]? = some v → LA H0 H' d c lf p (m + 1) L xs → Q v H') (h1 : Nat.ble vs.length 1000 = true := by rfl) :
    tOp (rIxL K) (tLst ta) (tCall spDraw [] E0 (tCons (tVar i) (tCons (tC (.int (lim : Nat))) tNil))) σ H Q := K03.pick_go ha hi h.bag hn hl h0 (fun r v H' hv s b => k r v H' hv (h.draw s b)) h1
end
theorem strs_at {xs : List Str} {r : Nat} {v : V} (h : (xs.map V.str)[r]? = some v) : ∃ z ∈ xs, v = .str z := by
  rw [List.getElem?_map] at h
  obtain ⟨z, hz, rfl⟩ := Option.map_eq_some_iff.mp h
  exact ⟨z, List.mem_of_getElem? hz, rfl⟩
section
variable {P : Program} {w : World} {K : PySem.W.Frag} {mg : Str → Option Value} {base : Heap}
def spLines (k : Nat) : Sp := fun vs H Q _ => ∃ (d c lf : Addr) (n e : Nat) (kind : Str) (L : List V), vs = [.ref d, .str kind, .int ((2 - e : Nat) : Int), .ref lf] ∧ e ≤ 2 ∧ e < k ∧ Bag H d c n ∧ n + 5000 * e < 2 ^ 20 ∧ kind ∈ kinds4 ∧ H lf = some (.lst L) ∧ L.length ≤ 9 ∧ c ≠ lf ∧
  ∀ (q : Addr) (t : LT) H' m L', LA H H' d c lf q m L' t.lines → m ≤ n + dB e → t.ifs + L'.length = L.length → t.dep ≤ e → t.lines.length ≤ lB e → LawT kind t → Q (.ref q) H'
def tests5 : List Str := ["low < 9", "not edge is low", "there is empty", "own is last", "low < size and holes < 3"]
theorem lit_if : ∀ z ∈ tests5, Str.ofString "if " ++ z ∈ tests := by decide +kernel
/-- found + [text] + lines(..) -/
theorem cat_rec {k e m u : Nat} {te : TE} {σ : L2.St} {H0 H : Hp} {d c lf p : Addr} {L : List V} {xs : List Str} {kind : Str} {R : VK} (Pz : Str → Prop) (v0 : σ[0]? = some (some (.ref d))) (v1 : σ[1]? = some (some (.str kind))) (v2 : σ[2]? = some (some (.int ((2 - (e + 1) : Nat) : Int)))) (v3 : σ[3]? = some (some (.ref lf))) (v4 : σ[4]? = some (some (.ref p)))
    (h : LA H0 H d c lf p m L xs) (hz : ∀ R : VK, (∀ z H' m', Pz z → LA H0 H' d c lf p m' L xs → Fr d lf H H' → m' ≤ m + u → R (.str z) H') → te σ H R) (he : e + 1 ≤ 2) (hek : e < k) (hm : m + u + 5000 * e < 2 ^ 20) (hk : kind ∈ kinds4) (hL : L.length ≤ 9) (hx : xs.length ≤ 1000)
    (kk : ∀ q H' z t m' L', Pz z → LA H0 H' d c lf q m' L' (xs ++ z :: t.lines) → Fr d lf H H' → H q = none → m' ≤ m + u + dB e → t.ifs + L'.length = L.length → t.dep ≤ e → t.lines.length ≤ lB e → LawT kind t → R (.ref q) H') :
    tOp rCat (tOp rCat (tVar 4) (tLst (tCons te tNil))) (tCall (spLines k) [] E0 (tCons (tVar 0) (tCons (tVar 1) (tCons (tOp (rI0 fun i j => .int (i + j)) (tVar 2) (tC (.int 1))) (tCons (tVar 3) tNil))))) σ H R := by
  have q9 : sizeLine = 16777216 := sizeLine_eq
  refine op_go (op_go (var_go v4 (lst_go (cons_go (hz _ fun z H1 m1 hz1 h1 f1 hm1 => nil_go ⟨szL rfl, fun l1 hl1 => ⟨p, l1, _, [.str z], rfl, rfl, Same.new hl1 _ _ h1.hp, upd_same, by rw [List.length_map]; simp; omega, fun x hx0 => ?_⟩⟩)))))
  have s2 : Same H1 (upd (upd H1 l1 (.lst [.str z])) x (.lst (xs.map V.str ++ [.str z]))) := (Same.new hl1).tr (Same.new hx0)
  have hxx : upd (upd H1 l1 (.lst [.str z])) x (.lst (xs.map V.str ++ [.str z])) x = some (.lst ((xs ++ [z]).map V.str)) := by rw [upd_same, List.map_append]; rfl
  have hx00 : H1 x = none := none_of (Same.new hl1) hx0
  generalize upd (upd H1 l1 (.lst [.str z])) x (.lst (xs.map V.str ++ [.str z])) = H2 at s2 hxx ⊢
  have h2 := h1.up s2
  refine call_go (cons_go (var_go v0 (cons_go (var_go v1 (cons_go (op_go (var_go v2 (c_go ⟨_, _, rfl, rfl, cons_go (var_go v3 (nil_go ⟨d, c, lf, m1, e, kind, L, ?_, by omega, hek, h2.bag, by omega, hk, h2.hl, hL, h.cl, fun q t H3 m3 L3 g hm3 hif hdp hln hlt => ?_⟩))⟩))))))))
  · show [V.ref d, .str kind, .int (((2 - (e + 1) : Nat) : Int) + 1), .ref lf] = [V.ref d, .str kind, .int ((2 - e : Nat) : Int), .ref lf]
    rw [show ((2 - (e + 1) : Nat) : Int) + 1 = ((2 - e : Nat) : Int) by omega]
  have hxd : x ≠ d := bag_ne h2.bag hxx
  have hxl : x ≠ lf := fun e => by rw [e] at hx00; rw [h1.hl] at hx00; cases hx00
  have hx3 := g.fr _ _ hxd hxl hxx
  refine ⟨x, q, _, _, rfl, rfl, hx3, g.hp, ?_, fun y hy => ?_⟩
  · have : lB e ≤ 400 := by unfold lB; split <;> decide
    rw [List.length_map, List.length_map, List.length_append, List.length_singleton]; omega
  have s3 : Same H3 (upd H3 y (.lst ((xs ++ [z]).map V.str ++ t.lines.map V.str))) := Same.new hy
  have hyy : upd H3 y (.lst ((xs ++ [z]).map V.str ++ t.lines.map V.str)) y = some (.lst ((xs ++ z :: t.lines).map V.str)) := by rw [upd_same, ← List.map_append, List.append_assoc]; rfl
  have g3 := g.up s3
  have nn : ∀ {G : Hp}, Fr d lf G H3 → G y = none := fun {G} fr => by
    cases q : G y with
    | none => rfl
    | some o =>
      by_cases e1 : y = d
      · obtain ⟨kv, hd⟩ := bag_d g.bag
        rw [e1, hd] at hy; cases hy
      · by_cases e2 : y = lf
        · rw [e2, g.hl] at hy; cases hy
        · rw [fr y o e1 e2 q] at hy; cases hy
  refine kk y _ z t m3 L3 hz1 ⟨h2.fr.tr g3.fr, g3.bag, g3.hl, hyy, nn (h2.fr.tr g.fr), h.cl, ?_, ?_⟩ (f1.tr (s2.fr.tr g3.fr)) (nn (f1.tr (s2.fr.tr g.fr))) (by omega) hif hdp hln hlt
  · intro e
    obtain ⟨l, hc⟩ := bag_c g.bag
    rw [e, hy] at hc; cases hc
  · intro e
    rw [← e, g.hl] at hy; cases hy
theorem tests5_len : ∀ z ∈ tests5, z.length ≤ 60 := by decide +kernel
theorem leafs_len {kind : Str} : 1 ≤ (leafs kind).length ∧ (leafs kind).length ≤ 100 := by
  unfold leafs
  simp only [List.length_append]
  have h1 : (if kind = "put" then (poolP1 ++ poolP2) ++ poolP3 else []).length ≤ 12 := by split <;> decide
  have h2 : (if kind = "set" then poolS1 ++ poolS2 else []).length ≤ 9 := by split <;> decide
  have h3 : (if kind = "strike" then poolK else []).length ≤ 6 := by split <;> decide
  have h4 : (if kind = "pack" then poolQ else []).length ≤ 2 := by split <;> decide
  have h5 : poolA.length = 6 := rfl
  have h6 : poolB.length = 5 := rfl
  have h7 : poolE.length = 2 := rfl
  omega
theorem ok_lines_s (T : Tx P w K mg) {k j : Nat} (hj : 1 ≤ j) (F_l_lines : FnX P w K mg base CX0 j "_law_lines" ["_law_bag_here", "_law_kind", "_law_deep", "_law_left"] [] (spLines k)) : FnX P w K mg base CX0 (j + 1) "_law_lines" ["_law_bag_here", "_law_kind", "_law_deep", "_law_left"] [] (spLines (k + 1)) := by
  have F_l_draw := ok_draw (w := w) (base := base) T
  have F_l_pool := ok_l_pool (base := base) T
  refine T.d_l_lines.ok0 sc_l_lines (fun _ _ _ _ _ _ us hl => match us, hl with | [_, _, _, _], _ => rfl) (fun vs H Q E h => ?_) (fun f cdv A outer s H vs Q E hr h => have hu := hu_of hr; ⟨_, (by exact (pss_cons (ps_par (i := 4) (j := 5) (by rfl) sc_l_lines.nd rfl rfl (by decide) rfl rfl (pa_cons (pe_lst pa_nil) (pa_cons (pe_callX F_l_pool (hr.mono (by first | decide | omega)) pass0 (pa_cons (pv 1) pa_nil)) pa_nil)) (by rfl))
      (pss_cons (ps_for PassesOwn.never rfl (pi_range1 rfl T.b_range (pa_cons (pe_callX F_l_draw (hr.mono (by first | decide | omega)) pass0 (pa_cons (pv 0) (pa_cons (pe_ifExp (pt_cmpR op_eq (pv 2) pe_int (nomark _)) pe_int pe_int) pa_nil))) pa_nil)) (pg_name (i := 6) sc_l_lines.nd rfl (Or.inl rfl))
        (pss_one (ps_if (PW.pt (pw_and (pt_cmpR op_eq (pe_callX F_l_draw (hr.mono (by first | decide | omega)) pass0 (pa_cons (pv 0) (pa_cons pe_int pa_nil))) pe_int (nomark _)) (pw_and (pt_cmpR op_lt (pv 2) pe_int (nomark _)) (pw_and1 (pt_cmpR (op_neNil hu) (pv 3) (pe_lst pa_nil) (nomark _)))))) (pss_cons (ps_expr (pe_bm0 PySem.F.plainAttrs_list PySem.F.slot_list_pop PySem.F.type_list_pop mt_pop (pv 3)))
      (pss_cons (ps_set (i := 7) sc_l_lines.nd rfl (Or.inl rfl) (pe_lst (pa_cons pe_str (pa_cons pe_str (pa_cons pe_str (pa_cons pe_str (pa_cons pe_str pa_nil)))))))
      (pss_cons (ps_set (i := 4) sc_l_lines.nd rfl (Or.inl rfl) (pe_op op_cat (pe_op op_cat (pv 4) (pe_lst (pa_cons (pe_op op_add_str pe_str (pe_ix ix_list (pv 7) (pe_callX F_l_draw (hr.mono (by first | decide | omega)) pass0 (pa_cons (pv 0) (pa_cons pe_int pa_nil))) (fun _ _ => rfl))) pa_nil))) (pe_callX F_l_lines (hr.mono (by first | decide | omega)) pass0 (pa_cons (pv 0) (pa_cons (pv 1) (pa_cons (pe_op op_add (pv 2) pe_int) (pa_cons (pv 3) pa_nil)))))))
      (pss_cons (ps_if (pt_cmpR op_eq (pe_callX F_l_draw (hr.mono (by first | decide | omega)) pass0 (pa_cons (pv 0) (pa_cons pe_int pa_nil))) pe_int (nomark _)) (pss_one (ps_set (i := 4) sc_l_lines.nd rfl (Or.inl rfl) (pe_op op_cat (pe_op op_cat (pv 4) (pe_lst (pa_cons pe_str pa_nil))) (pe_callX F_l_lines (hr.mono (by first | decide | omega)) pass0 (pa_cons (pv 0) (pa_cons (pv 1) (pa_cons (pe_op op_add (pv 2) pe_int) (pa_cons (pv 3) pa_nil)))))))) pss_nil)
      (pss_one (ps_expr (pe_bm PySem.F.plainAttrs_list PySem.F.slot_list_append PySem.F.type_list_append mt_append (pv 4) (pa_cons pe_str pa_nil)))))))) (pss_one (ps_expr (pe_bm PySem.F.plainAttrs_list PySem.F.slot_list_append PySem.F.type_list_append mt_append (pv 4) (pa_cons (pe_ix ix_list (pv 5) (pe_callX F_l_draw (hr.mono (by first | decide | omega)) pass0 (pa_cons (pv 0) (pa_cons (pe_callB call_len_seq (by rfl) T.b_len (by decide +kernel) (pa_cons (pv 5) pa_nil)) pa_nil))) (fun _ _ => rfl)) pa_nil)))))))
      (pss_one (ps_ret (pv 4)))))), ?_⟩)
  · obtain ⟨d, c, lf, n, e, kind, L, rfl, _⟩ := h
    rfl
  obtain ⟨d, c, lf, n, e, kind, L, rfl, he2, hek, hb, hn, hk, hlf, hL, hcl, h0⟩ := h
  have q9 : sizeLine = 16777216 := sizeLine_eq
  have hdT : dT e ≤ 410 := by unfold dT; split <;> decide
  have htB : tB e ≤ 63 := by unfold tB; split <;> decide
  have hdB : 1 + 6 * dT e ≤ 3000 := by omega
  have hll := leafs_len (kind := kind)
  refine par_go (cons_go (mk_lst (vs := []) ev_nil (fun H1 p s1 hp0 hp => cons_go (call_go (cons_go (var_go rfl (nil_go ⟨kind, rfl, hk, fun pq H2 s2 hq0 hq => nil_go ⟨_, _, rfl, ?_⟩⟩)))))))
  have s02 := s1.tr s2
  have la1 : LA H H2 d c lf p n L LT.nil.lines := ⟨s02.fr, hb.up s02, s02 _ _ hlf, s2 _ _ hp, hp0, hcl, (fun e => by obtain ⟨l, hc⟩ := bag_c hb; rw [e, hp0] at hc; cases hc), fun e => by rw [← e, hlf] at hp0; cases hp0⟩
  have hqH : H pq = none := none_of s1 hq0
  have hql : pq ≠ lf := fun e => by rw [e, hlf] at hqH; cases hqH
  have hpq : p ≠ pq := fun e => by rw [← e, hp] at hq0; cases hq0
  obtain ⟨tn, htn⟩ : ∃ tn : Nat, tn = if 2 - e = 0 then 7 else 4 := ⟨_, rfl⟩
  have htn7 : 0 < tn ∧ tn ≤ 7 := by rw [htn]; split <;> decide
  let S : Addr → Option V → Option V → L2.St := fun p u6 u7 => [some (.ref d), some (.str kind), some (.int ((2 - e : Nat) : Int)), some (.ref lf), some (.ref p), some (.ref pq), u6, u7]
  have TE : EvE (tIf (tTest (tOp rEq (tVar 2) (tC (.int 0)))) (tC (.int 7)) (tC (.int 4))) (S p none none) H2 (.int (tn : Nat)) := ev_if (eq_nat (y := 0) (ev_var (i := 2) rfl) fun _ _ => ev_C) (fun g _ _ => by rw [htn, if_pos (of_decide_eq_true g)]; exact ev_C) (fun g _ _ => by rw [htn, if_neg (of_decide_eq_false g)]; exact ev_C)
  refine nx_for (call_go (cons_go (var_go rfl (cons_go (TE _ fun H3 s3 => nil_go ⟨d, c, n, (tn : Nat), rfl, (la1.up s3).bag, by omega, by omega, by omega, fun r H4 r0 r1 sx hb4 => ?_⟩)))))
  obtain ⟨rr, rfl⟩ := Int.eq_ofNat_of_zero_le r0
  have la4 := (la1.up s3).draw sx hb4
  have hq4 : H4 pq = some (.lst ((leafs kind).map V.str)) := sx _ _ (bag_ne (la1.up s3).bag (s3 _ _ hq)) (s3 _ _ hq)
  have hrr : rr < tn := by omega
  refine nil_go ⟨(rr : Nat), rfl, by omega, by omega, for_range (lo := 0) (n := rr) (fun i σ H' => ∃ (p : Addr) (t : LT) (m : Nat) (L' : List V) (u6 u7 : Option V), σ = S p u6 u7 ∧ LA H H' d c lf p m L' t.lines ∧ H' pq = some (.lst ((leafs kind).map V.str)) ∧ p ≠ pq ∧ LawT kind t ∧ t.ifs + L'.length = L.length ∧ t.dep ≤ e ∧ t.lines.length ≤ i * tB e ∧ m ≤ n + 1 + i * dT e)
    ⟨p, .nil, n + 1, L, none, none, rfl, la4, hq4, hpq, trivial, Nat.zero_add _, Nat.zero_le _, Nat.zero_le _, by omega⟩ ?_ ?_⟩
  · rintro i σ H5 hi ⟨p5, t, m, L5, u6, u7, rfl, la, hq5, hpq5, hlt, hif, hdp, hln, hm⟩
    have sm : (i + 1) * tB e = i * tB e + tB e := Nat.succ_mul ..
    have sd : (i + 1) * dT e = i * dT e + dT e := Nat.succ_mul ..
    have im : i * tB e ≤ 6 * 63 := Nat.mul_le_mul (by omega) htB
    have id : i * dT e ≤ 6 * 410 := Nat.mul_le_mul (by omega) hdT
    have hd5 : 5 ≤ dT e := by unfold dT; split <;> decide
    have ht1 : 1 ≤ tB e := by unfold tB; split <;> decide
    have hlen : t.lines.length ≤ 378 := by omega
    have leafGo : ∀ (D : Ends) (u6 u7 : Option V) (H7 : Hp) (m7 : Nat), LA H H7 d c lf p5 m7 L5 t.lines → H7 pq = some (.lst ((leafs kind).map V.str)) → m7 ≤ m + 3 → (∀ σ' H', (∃ (p : Addr) (t : LT) (m : Nat) (L' : List V) (u6 u7 : Option V), σ' = S p u6 u7 ∧ LA H H' d c lf p m L' t.lines ∧ H' pq = some (.lst ((leafs kind).map V.str)) ∧ p ≠ pq ∧ LawT kind t ∧ t.ifs + L'.length = L.length ∧ t.dep ≤ e ∧ t.lines.length ≤ (i + 1) * tB e ∧ m ≤ n + 1 + (i + 1) * dT e) → D.nx σ' H') →
        tDrop (tBM K "list" rAppend (tVar 4) (tCons (tOp (rIxL K) (tVar 5) (tCall spDraw [] E0 (tCons (tVar 0) (tCons (tCB (fun xs H Q => ∃ p ys, xs = [V.ref p] ∧ (SqL K H p ys ∨ SqT K H p ys) ∧ Q (V.int (ys.length : Nat)) H) (tCons (tVar 5) tNil)) tNil)))) tNil)) D (S p5 u6 u7) H7 := by
      intro D u6 u7 H7 m7 la7 hq7 hm7 hD
      have LEN : EvE (tCB (fun xs H Q => ∃ p ys, xs = [V.ref p] ∧ (SqL K H p ys ∨ SqT K H p ys) ∧ Q (V.int (ys.length : Nat)) H) (tCons (tVar 5) tNil)) (S p5 u6 u7) H7 (.int ((leafs kind).length : Nat)) := by
        have := ev_len (K := K) (σ := S p5 u6 u7) (ev_cons (ev_var (i := 5) rfl) fun _ _ => ev_nil) (.inl (.inl (.inl hq7)))
        rw [List.length_map] at this
        exact this
      refine drop_go0 ⟨_, rfl, .inl ⟨rfl, ⟨_, .inl (.inl la7.hp)⟩⟩, cons_go (op_go (var_go rfl (call_go (cons_go (var_go rfl (cons_go (LEN _ fun H8 s8 => nil_go ⟨d, c, m7, ((leafs kind).length : Nat), rfl, (la7.up s8).bag, by omega, by omega, by omega, fun r H9 r0 r1 sx hb9 => ?_⟩)))))))⟩
      obtain ⟨r9, rfl⟩ := Int.eq_ofNat_of_zero_le r0
      have la9 := (la7.up s8).draw sx hb9
      have hq9 : H9 pq = some (.lst ((leafs kind).map V.str)) := sx _ _ (bag_ne (la7.up s8).bag (s8 _ _ hq7)) (s8 _ _ hq7)
      have hr9 : r9 < (leafs kind).length := by omega
      have hat : (leafs kind)[r9]? = some (leafs kind)[r9] := List.getElem?_eq_getElem hr9
      have hmem := List.mem_of_getElem? hat
      generalize (leafs kind)[r9] = z at hat hmem
      refine ⟨pq, _, (r9 : Nat), .str z, rfl, rfl, .inl (.inl hq9), atI_nat (by rw [List.getElem?_map, hat]; rfl), nil_go (app_fin (R := fun H' => D.nx (S p5 u6 u7) H') rfl la9.hp (by omega) (hD _ _ ⟨p5, t.app (.leaf z .nil), m7 + 1, L5, u6, u7, rfl, ?_, by rw [upd_ne (Ne.symm hpq5)]; exact hq9, hpq5, app_law hlt ⟨hmem, trivial⟩, by rw [lapp_ifs]; exact hif, by rw [lapp_dep]; exact Nat.max_le.mpr ⟨hdp, Nat.zero_le _⟩, ?_, by omega⟩))⟩
      · rw [lapp_lines]
        exact la9.put _
      · rw [lapp_lines, List.length_append]
        show _ + 1 ≤ _
        omega
    refine nm (draw_go (lim := 5) rfl la.bag (by omega) (by decide) (by decide) fun r1 H6 hr1 sx6 hb6 => c_go ⟨rfl, _, rfl, ?_⟩)
    have la6 := la.draw sx6 hb6
    have hq6 : H6 pq = some (.lst ((leafs kind).map V.str)) := sx6 _ _ (bag_ne la.bag hq5) hq5
    refine iteB (fun g => ?_) (fun g => iteF (leafGo _ _ _ _ _ la6 hq6 (by omega) fun σ' H' h => h))
    refine (ev_and (σ := S p5 (some (.int (0 + (i : Int)))) u7) (b1 := decide (((2 - e : Nat) : Int) < 2)) (b2 := !L5.isEmpty) (ev_test (ev_lt (ev_var (i := 2) rfl) fun _ _ => ev_C)) fun _ H7 s7 => ne_nilL (ev_var (i := 3) rfl) (.inl (.inl (s7 _ _ la6.hl)))) _ fun H7 s7 => iteB (fun g2 => ?_) (fun g2 => leafGo _ _ _ _ _ (la6.up s7) (s7 _ _ hq6) (by omega) fun σ' H' h => h)
    simp only [Bool.and_eq_true, decide_eq_true_eq] at g2
    obtain ⟨g1, g2⟩ := g2
    obtain ⟨e1, rfl⟩ : ∃ e1, e = e1 + 1 := ⟨e - 1, by omega⟩
    have hLne : L5 ≠ [] := fun e => by rw [e] at g2; cases g2
    have la7 := la6.up s7
    have hq7 := s7 _ _ hq6
    obtain ⟨y, hy⟩ : ∃ y, L5[L5.length - 1]? = some y := ⟨_, List.getElem?_eq_getElem (by have := List.length_pos_iff.mpr hLne; omega)⟩
    have hbd : 3 + 2 * lB e1 ≤ tB (e1 + 1) ∧ 4 + 2 * dB e1 ≤ dT (e1 + 1) := by
      have hc : e1 = 0 ∨ e1 = 1 := by omega
      rcases hc with rfl | rfl <;> decide
    refine do_drop ⟨_, rfl, .inl ⟨rfl, ⟨_, .inl (.inl la7.hl)⟩⟩, lf, L5, y, rfl, rfl, la7.hl, hy, ?_⟩
    have hL6 : L5.dropLast.length + 1 = L5.length := by rw [List.length_dropLast]; have := List.length_pos_iff.mpr hLne; omega
    have la8 := la7.setL L5.dropLast
    have hq8 : upd H7 lf (.lst L5.dropLast) pq = some (.lst ((leafs kind).map V.str)) := by rw [upd_ne hql]; exact hq7
    generalize upd H7 lf (.lst L5.dropLast) = H8 at la8 hq8 ⊢
    generalize L5.dropLast = L6 at hL6 la8
    refine set_lst (vs := tests5.map V.str) (ev_strs tests5 _) fun H9 qt s9 hqt0 hqt => ?_
    have la9 := la8.up s9
    have hq9 := s9 _ _ hq8
    have l3 : (Str.ofString "if ").length = 3 := by decide +kernel
    refine set_te (cat_rec (σ := S p5 (some (.int (0 + (i : Int)))) (some (.ref qt))) (e := e1) (u := 1) (fun z => ∃ y ∈ tests5, z = Str.ofString "if " ++ y) rfl rfl rfl rfl rfl la9 (fun R kR => op_go (c_go (pickv_go (j := 7) (lim := 5) rfl hqt rfl la9.bag (by omega) rfl (by decide) (by decide) fun r4 v4 Ha hv4 sx b => ?_))) he2 (by omega) (by omega) hk (by omega) (by omega) fun q1 H10 z t1 m10 L7 hz la10 f10 n10 hm10 hif1 hdp1 hln1 hlt1 => ?_)
    · obtain ⟨y, hy5, rfl⟩ := strs_at hv4
      have := tests5_len y hy5
      exact ⟨_, _, rfl, rfl, by omega, kR _ _ _ ⟨y, hy5, rfl⟩ (la9.draw sx b) sx.fr (Nat.le_refl _)⟩
    have hzt : z ∈ tests := by
      obtain ⟨y, hy5, rfl⟩ := hz
      exact lit_if y hy5
    have hq10 := f10 _ _ (bag_ne la9.bag hq9) hql hq9
    have hqq1 : q1 ≠ pq := fun e => by rw [e, hq9] at n10; cases n10
    have fin : ∀ (D : Ends) (σ' : L2.St) (H11 : Hp) (q : Addr) (m11 : Nat) (L7 : List V) (ys : List Str), σ'[4]? = some (some (.ref q)) → ys.length ≤ 2000 → q ≠ pq → H11 pq = some (.lst ((leafs kind).map V.str)) → (∀ H', LA H H' d c lf q m11 L7 (ys ++ [endS]) → H' pq = some (.lst ((leafs kind).map V.str)) → D.nx σ' H') → LA H H11 d c lf q m11 L7 ys → tDrop (tBM K "list" rAppend (tVar 4) (tCons (tC (.str (Str.ofString "end"))) tNil)) D σ' H11 := fun D σ' H11 q m11 L7 ys h4 hl9 hqn hqp hD la11 =>
      ⟨_, h4, .inl ⟨rfl, ⟨_, .inl (.inl la11.hp)⟩⟩, cons_go (c_go (nil_go (app_fin rfl la11.hp (by omega) (hD _ (la11.put _) (by rw [upd_ne (Ne.symm hqn)]; exact hqp)))))⟩
    let S2 : Addr → L2.St := fun q => S q (some (.int (0 + (i : Int)))) (some (.ref qt))
    refine draw_go (σ := S2 q1) (lim := 2) rfl la10.bag (by omega) (by decide) (by decide) fun r5 H11 hr5 sx11 hb11 => c_go ⟨rfl, _, rfl, ?_⟩
    have la11 := la10.draw sx11 hb11
    have hq11 : H11 pq = some (.lst ((leafs kind).map V.str)) := sx11 _ _ (bag_ne la10.bag hq10) hq10
    refine iteB (fun g => ?_) (fun g => ?_)
    · refine cat_rec (σ := S2 q1) (e := e1) (u := 0) (fun z => z = elseS) rfl rfl rfl rfl rfl la11 (fun R kR => c_go (kR elseS H11 _ rfl la11 (Same.rf _).fr (Nat.le_refl _))) he2 (by omega) (by omega) hk (by omega) (by rw [List.length_append, List.length_cons]; omega) fun q2 H12 z2 t2 m12 L8 hz2 la12 f12 n12 hm12 hif2 hdp2 hln2 hlt2 => ?_
      subst hz2
      have hq12 := f12 _ _ (bag_ne la11.bag hq11) hql hq11
      have hqq2 : q2 ≠ pq := fun e => by rw [e, hq11] at n12; cases n12
      have el : (LT.if2 z t1 t2 .nil).lines = z :: (t1.lines ++ elseS :: (t2.lines ++ [endS])) := rfl
      refine fin _ (S2 q2) H12 q2 m12 L8 _ rfl (by simp; omega) hqq2 hq12 (fun H' la' hq' => ?_) la12
      refine ⟨q2, t.app (.if2 z t1 t2 .nil), m12, L8, _, _, rfl, ?_, hq', hqq2, app_law hlt ⟨hzt, hlt1, hlt2, trivial⟩, ?_, ?_, ?_, ?_⟩
      · rw [lapp_lines, el]
        have e9 : t.lines ++ z :: t1.lines ++ elseS :: t2.lines ++ [endS] = t.lines ++ z :: (t1.lines ++ elseS :: (t2.lines ++ [endS])) := by simp
        rw [← e9]
        exact la'
      · rw [lapp_ifs]
        show t.ifs + (1 + t1.ifs + t2.ifs + 0) + L8.length = L.length
        omega
      · rw [lapp_dep]
        show max t.dep (max (max (t1.dep + 1) (t2.dep + 1)) 0) ≤ e1 + 1
        omega
      · rw [lapp_lines, el, List.length_append, List.length_cons, List.length_append, List.length_cons, List.length_append, List.length_singleton]
        omega
      · omega
    · have el : (LT.if1 z t1 .nil).lines = z :: (t1.lines ++ [endS]) := rfl
      refine fin _ (S2 q1) H11 q1 _ L7 _ rfl (by simp; omega) hqq1 hq11 (fun H' la' hq' => ?_) la11
      refine ⟨q1, t.app (.if1 z t1 .nil), m10 + 1, L7, _, _, rfl, ?_, hq', hqq1, app_law hlt ⟨hzt, hlt1, trivial⟩, ?_, ?_, ?_, ?_⟩
      · rw [lapp_lines, el]
        have e9 : t.lines ++ z :: t1.lines ++ [endS] = t.lines ++ z :: (t1.lines ++ [endS]) := by simp
        rw [← e9]
        exact la'
      · rw [lapp_ifs]
        show t.ifs + (1 + t1.ifs + 0) + L7.length = L.length
        omega
      · rw [lapp_dep]
        show max t.dep (max (t1.dep + 1) 0) ≤ e1 + 1
        omega
      · rw [lapp_lines, el, List.length_append, List.length_cons, List.length_append, List.length_singleton]
        omega
      · omega
  · rintro σ H5 ⟨p5, t, m, L5, u6, u7, rfl, la, hq5, hpq5, hlt, hif, hdp, hln, hm⟩
    refine ret_go (var_go rfl (h0 p5 t H5 m L5 la ?_ hif hdp ?_ hlt))
    · refine Nat.le_trans hm ?_
      have : rr * dT e + 1 ≤ dB e := by
        have hc : e = 0 ∨ e = 1 ∨ e = 2 := by omega
        rcases hc with rfl | rfl | rfl
        · have : tn = 4 := htn
          show rr * 5 + 1 ≤ 20; omega
        · have : tn = 4 := htn
          show rr * 50 + 1 ≤ 200; omega
        · have : tn = 7 := htn
          show rr * 410 + 1 ≤ 2500; omega
      omega
    · refine Nat.le_trans hln ?_
      have hc : e = 0 ∨ e = 1 ∨ e = 2 := by omega
      rcases hc with rfl | rfl | rfl
      · have : tn = 4 := htn
        show rr * 1 ≤ 3; omega
      · have : tn = 4 := htn
        show rr * 9 ≤ 30; omega
      · have : tn = 7 := htn
        show rr * 63 ≤ 400; omega
theorem ok_l_lines (T : Tx P w K mg) : ∀ k, FnX P w K mg base CX0 (k + 2) "_law_lines" ["_law_bag_here", "_law_kind", "_law_deep", "_law_left"] [] (spLines k)
  | 0 => T.d_l_lines.ok0 (k := 1) sc_l_lines (fun _ _ _ _ _ _ us hl => match us, hl with | [_, _, _, _], _ => rfl) (fun vs H Q E h => by obtain ⟨d, c, lf, n, e, kind, L, rfl, _, h, _⟩ := h; omega) (fun f cdv A outer s H vs Q E hr h => by obtain ⟨d, c, lf, n, e, kind, L, rfl, _, h, _⟩ := h; omega)
  | k + 1 => ok_lines_s T (by omega) (ok_l_lines T k)
end
end K03


set_option Elab.async false
set_option linter.all false
set_option maxRecDepth 100000
set_option maxHeartbeats 4000000
namespace L2
open PySem PySem.Spec PyProof.Rows
theorem in_lst {K : PySem.W.Frag} {z : L2.St} {H : Hp} {ta : TA} {ns : List Str} (ha : ∀ H, EvA ta z H (ns.map V.str)) (hl : Nat.ble (ns.map V.str).length 1000 = true := by rfl) : ∀ H1, Same H H1 → ∀ Q : VK, (∀ H2 q, Same H1 H2 → SqL K H2 q (ns.map V.str) ∨ SqT K H2 q (ns.map V.str) → Q (.ref q) H2) → tLst ta z H1 Q :=
  fun H1 _ Q k => mk_lst (ha H1) (fun H2 T s2 _ hT => k H2 T s2 (.inl (.inl (.inl hT)))) hl
theorem cut_m1 (w : List Nat) : cutV (nl w) (some (-1)) none = nl (w.drop (w.length - 1)) := by
  have e : HT.sIx (nl w).length 0 (some (-1)) = w.length - 1 := by
    show (if (-1 : Int) < 0 then ((-1 : Int) + ((nl w).length : Int)).toNat else min (-1 : Int).toNat (nl w).length) = _
    rw [if_pos (by decide)]
    unfold nl
    rw [List.length_map]
    omega
  unfold cutV
  rw [e, HT.sIx_none]
  unfold nl
  rw [List.length_map, ← List.map_drop, ← List.map_take, List.take_of_length_le (by rw [List.length_drop]; omega)]
theorem ended_eq (w : List Nat) : decide (w.drop (w.length - 1) = [0]) = Pgr.ended w := by
  unfold Pgr.ended
  refine decide_eq_decide.mpr ?_
  rcases List.eq_nil_or_concat w with rfl | ⟨L, b, rfl⟩
  · simp
  · have e : (L.concat b).drop ((L.concat b).length - 1) = [b] := by simp
    rw [e]
    simp
section
variable {K : PySem.W.Frag} {σ : St} {H : Hp} {i : Nat} {r : Addr} {w : List Nat}
theorem end_core {f : R2} {Q : VK} (hv : σ[i]? = some (some (.ref r))) (hr : H r = some (.lst (nl w))) (k : ∀ p T H', Same H H' → H' p = some (.lst (nl (w.drop (w.length - 1)))) → H' T = some (.lst (nl [0])) → f (.ref p) (.ref T) H' Q) :
    tOp f (tSl (rSlL K) (tVar i) (L2.tPart (tUn (rU fun i => .int (-i)) (tC (.int 1)))) tNoPart) (tLst (tCons (tC (.int 0)) tNil)) σ H Q := by
  refine ⟨_, hv, 1, rfl, -1, rfl, r, _, rfl, .inl (.inl hr), fun p hp => ?_⟩
  have s1 : Same H (upd H p (.lst (cutV (nl w) (some (-1)) none))) := Same.new hp
  have h1 : upd H p (.lst (cutV (nl w) (some (-1)) none)) p = some (.lst (nl (w.drop (w.length - 1)))) := by
    rw [upd_same, cut_m1]
  generalize upd H p (.lst (cutV (nl w) (some (-1)) none)) = H1 at s1 h1 ⊢
  exact mk_lst (Q := fun y H2 => f (.ref p) y H2 Q) (vs := nl [0]) (ev_cons ev_C fun _ _ => ev_nil) (fun H2 T s2 _ hT => k p T H2 (s1.tr s2) (s2 _ _ h1) hT)
theorem eqv_niL (a b : List Nat) : PyData.eqv (.list (niD a)) (.list (niD b)) = decide (a = b) := eqv_ni a b
theorem ev_end (hv : σ[i]? = some (some (.ref r))) (hr : H r = some (.lst (nl w))) : EvT (tTest (tOp (rEqD K) (tSl (rSlL K) (tVar i) (L2.tPart (tUn (rU fun i => .int (-i)) (tC (.int 1)))) tNoPart) (tLst (tCons (tC (.int 0)) tNil)))) σ H (Pgr.ended w) :=
  ev_test fun Q k => end_core hv hr fun p T H' s hp hT => ⟨_, _, .lst (.inl (.inl hp)) (dp_ni _), .lst (.inl (.inl hT)) (dp_ni _), sh_ni _, sh_ni _, by rw [eqv_niL, ended_eq]; exact k H' s⟩
theorem ev_endN (hv : σ[i]? = some (some (.ref r))) (hr : H r = some (.lst (nl w))) : EvT (tTest (tOp (rNeD K) (tSl (rSlL K) (tVar i) (L2.tPart (tUn (rU fun i => .int (-i)) (tC (.int 1)))) tNoPart) (tLst (tCons (tC (.int 0)) tNil)))) σ H (!Pgr.ended w) :=
  ev_test fun Q k => end_core hv hr fun p T H' s hp hT => ⟨_, _, .lst (.inl (.inl hp)) (dp_ni _), .lst (.inl (.inl hT)) (dp_ni _), sh_ni _, sh_ni _, by rw [eqv_niL, ended_eq]; exact k H' s⟩
end
theorem fm_filter (f : List Nat → Bool) : ∀ ws : List (List Nat), (ws.map fun w => if f w then some w else none).filterMap id = ws.filter f
  | [] => rfl
  | w :: r => by
    have ih := fm_filter f r
    rw [List.map_cons, List.filterMap_cons, List.filter_cons]
    cases f w with
    | true => exact congrArg (w :: ·) ih
    | false => exact ih
/-- [way for way in found if ..] -/
theorem wsF_go {K : PySem.W.Frag} {σ : St} {H : Hp} {p : Addr} {ws : List (List Nat)} {i j : Nat} {f : List Nat → Bool} {tt : TT} {Q : VK} (hv : σ[j]? = some (some (.ref p))) (hw : WsAt H p ws) (hn : ws.length ≤ 1000) (hwp : ∀ v, wipe ((wipe σ [i]).set i (some v)) [i] = wipe σ [i]) (hi : ∀ v, ((wipe σ [i]).set i (some v))[i]? = some (some v))
    (ht : ∀ H' r w, Same H H' → H' r = some (.lst (nl w)) → EvT tt ((wipe σ [i]).set i (some (.ref r))) H' (f w)) (k : ∀ q H', Same H H' → H q = none → WsAt H' q (ws.filter f) → Q (.ref q) H') : tLc (iList K (tVar j)) (gName i) tt (tVar i) [i] σ H Q := by
  obtain ⟨vs, h1, h2⟩ := hw
  refine lc_rl LsI LsI.up (ws.map fun w => if f w then some w else none) (ev_var hv) (.inl (.inl h1)) (by rw [List.length_map]; exact h2.len.symm) (by rw [List.length_map]; omega) (fun n v o D H' hvn hon s hD hD' => ?_) (fun q ys H' s hq0 hq hal => k q H' s hq0 ⟨ys, hq, by rw [fm_filter] at hal; exact hal⟩)
  obtain ⟨w, hw, r, rfl, hr⟩ := h2.at hvn
  rw [List.getElem?_map, hw] at hon
  cases hon
  refine ⟨(wipe σ [i]).set i (some (.ref r)), fun R k => k, hwp _, ?_⟩
  have ht' := ht H' r w s (s _ _ hr)
  dsimp only
  cases e : f w with
  | true =>
    rw [e] at ht'
    rw [if_pos rfl]
    exact ⟨ht', fun H2 s2 Q q => ⟨_, hi _, q _ H2 (Same.rf _) (LsI.up _ _ _ _ (er_old hD (s.tr s2)) ⟨r, rfl, hr⟩)⟩⟩
  | false =>
    rw [e] at ht'
    rw [if_neg (by decide)]
    exact ht'
theorem Same.ne_none {H H' : Hp} {D : Addr} (s : Same H H') (h : H D ≠ none) : H' D ≠ none := fun e => h (none_of s e)
theorem fm_cat (w : List Nat) : ∀ ts : List (List Nat), (ts.map fun u => some (w ++ u)).filterMap id = ts.map (w ++ ·)
  | [] => rfl
  | u :: r => by
    rw [List.map_cons, List.filterMap_cons, List.map_cons, ← fm_cat w r]
    rfl
theorem nl_app (a b : List Nat) : nl a ++ nl b = nl (a ++ b) := by unfold nl; rw [List.map_append]
theorem nl_len (a : List Nat) : (nl a).length = a.length := List.length_map _
end L2
namespace K03
open PySem PySem.Spec PyProof.Rows L2 Rdr LmX LamX NdefX Pgr Tld
section
variable {P : Program} {w : World} {K : PySem.W.Frag} {mg : Str → Option Value} {base : Heap}
def spWs (k : Nat) : Sp := fun vs H Q _ => ∃ (a : Addr) (kind : Str) (pre post : List Str) (t : LT), vs = [.ref a, .int ((pre.length + 1 : Nat) : Int), .int ((pre.length + t.lines.length + 1 : Nat) : Int)] ∧ H a = some (.lst ((pre ++ (t.lines ++ post)).map V.str)) ∧ kind ∈ kinds4 ∧ LawT kind t ∧ t.dep < k ∧ t.ifs ≤ 9 ∧ (pre ++ (t.lines ++ post)).length ≤ 1000 ∧ (∀ z ∈ pre ++ (t.lines ++ post), z.length ≤ 1000) ∧
  ∀ p H', Same H H' → WsAt H' p (lwF t pre.length [[]]) → Q (.ref p) H'
/-- the slots of _law_ways -/
abbrev wS (a f l p ln : V) (u5 u6 u7 u8 u9 u10 u11 u12 : Option V) : L2.St := [some a, some f, some l, some p, some ln, u6, u7, u8, u9, u10, u11, u12]
theorem ways_rest {D : Ends} {H1 : Hp} {ws tails : List (List Nat)} {p q6 : Addr} {en : Nat} {a f l ln : V} {u5 u8 u9 u10 u11 u12 : Option V} (hw : WsAt H1 p ws) (ht : WsAt H1 q6 tails) (hn : ws.length ≤ 1000) (hn2 : ws.length * tails.length ≤ 1000000) (hn3 : tails.length ≤ 1000) (hl : ∀ w ∈ ws, w.length ≤ 3000) (hlt : ∀ w ∈ tails, w.length ≤ 3000)
    (hD : ∀ p' H' v10 v11 v12, Same H1 H' → WsAt H' p' (stepL ws tails) → D.nx (wS a f l (.ref p') (.int ((en + 1 : Nat) : Int)) u5 (some (.ref q6)) (some (.int (en : Nat))) u8 u9 v10 v11 v12) H') :
    (tSeq (tAsg (tLc (iList K (tVar 3)) (gName 9) (tTest (tOp (rEqD K) (tSl (rSlL K) (tVar 9) (L2.tPart (tUn (rU fun i => .int (-i)) (tC (.int 1)))) tNoPart) (tLst (tCons (tC (.int 0)) tNil)))) (tVar 9) [9]) (gName 10))
      (tSeq (tFor (iList K (tLc (iList K (tVar 3)) (gName 9) (tTest (tOp (rNeD K) (tSl (rSlL K) (tVar 9) (L2.tPart (tUn (rU fun i => .int (-i)) (tC (.int 1)))) tNoPart) (tLst (tCons (tC (.int 0)) tNil)))) (tVar 9) [9])) (gName 9) (tAsg (tOp rCat (tVar 10) (tLc (iList K (tVar 5)) (gName 11) tYes (tOp rCat (tVar 9) (tVar 11)) [11])) (gName 10)))
        (tAsg (tTup (tCons (tVar 10) (tCons (tOp (rI0 fun i j => .int (i + j)) (tVar 6) (tC (.int 1))) tNil))) (gTup K 2 (gCons (gName 3) (gCons (gName 4) gNil)))))) D (wS a f l (.ref p) ln u5 (some (.ref q6)) (some (.int (en : Nat))) u8 u9 u10 u11 u12) H1 := by
  have q9 : sizeLine = 16777216 := sizeLine_eq
  refine set_te (wsF_go (f := ended) (i := 9) rfl hw hn (fun _ => rfl) (fun _ => rfl) (fun H' r w s hr => ev_end rfl hr) (fun qL H2 s2 hL0 hL => ?_))
  refine nx_for (for_te2 (K := K) (fun q ys H3 => Same H2 H3 ∧ H3 q = some (.lst ys) ∧ Al (LsI H3) ys (ws.filter fun w => !ended w))
    (fun q ys H3 i σ H' => Same H3 H' ∧ ∃ (pL : Addr) (v10 v12 : Option V), σ = wS a f l (.ref p) ln u5 (some (.ref q6)) (some (.int (en : Nat))) u8 u9 v10 (some (.ref pL)) v12 ∧ WsAt H' pL (ws.filter ended ++ ((ws.filter fun w => !ended w).take i).flatMap fun w => tails.map (w ++ ·)))
    (fun R hR => wsF_go (f := fun w => !ended w) (i := 9) rfl (hw.up s2) hn (fun _ => rfl) (fun _ => rfl) (fun H' r w s hr => ev_endN rfl hr) (fun q H3 s3 hq0 hq => by obtain ⟨ys, h1, h2⟩ := hq; exact hR q ys H3 ⟨s3, h1, h2⟩))
    (fun q ys H3 h => .inl (.inl h.2.1)) (fun q ys H3 h => ⟨Same.rf _, qL, _, _, rfl, by rw [List.take_zero, List.flatMap_nil, List.append_nil]; exact hL.up h.1⟩)
    (fun q ys H3 i σ H' h _ k => .inl (.inl (k.1 _ _ h.2.1))) ?_ ?_)
  · rintro q ys H3 ⟨s3, hq, hal⟩ i v σ H4 hv ⟨s4, pL, v10, v12, rfl, hpL⟩
    obtain ⟨w, hwi, r, rfl, hr⟩ := hal.at hv
    have hwm : w ∈ ws := (List.mem_filter.mp (List.mem_of_getElem? hwi)).1
    have hw3 := hl w hwm
    have s24 := s3.tr s4
    obtain ⟨vt, h1, h2⟩ := ht.up (s2.tr s24)
    obtain ⟨vl, h3, h4⟩ := hpL
    refine nm (asg_go0 (op_go (var_go rfl (lc_rl LsI LsI.up (tails.map fun u => some (w ++ u)) (ev_var (i := 5) rfl) (.inl (.inl h1)) (by rw [List.length_map]; exact h2.len.symm) (by rw [List.length_map]; omega) (fun n x o D H' hvn hon s hD0 hD' => ?_) (fun qn yn H5 s5 hqn0 hqn haln => ?_)))))
    · obtain ⟨u, hu, ru, rfl, hru⟩ := h2.at hvn
      rw [List.getElem?_map, hu] at hon
      cases hon
      have hu3 := hlt u (List.mem_of_getElem? hu)
      refine ⟨wS a f l (.ref p) ln u5 (some (.ref q6)) (some (.int (en : Nat))) u8 u9 (some (.ref r)) (some (.ref pL)) (some (.ref ru)), fun R k => k, rfl, ev_yes, fun H6 s6 Q6 k6 => op_go (var_go rfl (var_go rfl ⟨r, ru, nl w, nl u, rfl, rfl, (s4.tr (s.tr s6)) _ _ hr, (s.tr s6) _ _ hru, by rw [nl_len, nl_len]; omega, fun p9 hp9 => k6 _ _ (Same.new hp9) ⟨p9, rfl, ?_⟩⟩))⟩
      rw [er_new (s6.ne_none hD') hp9, nl_app]
    · rw [fm_cat] at haln
      have hlenL : vl.length + yn.length ≤ sizeLine := by
        have e1 := h4.len
        have e2 := haln.len
        rw [List.length_append] at e1
        rw [List.length_map] at e2
        have e3 := fm_len (fun w : List Nat => tails.map (w ++ ·)) tails.length ((ws.filter fun w => !ended w).take i) (fun x _ => by rw [List.length_map]; exact Nat.le_refl _)
        have e4 : (ws.filter ended).length ≤ ws.length := List.length_filter_le _ _
        have e5 : ((ws.filter fun w => !ended w).take i).length ≤ ws.length := by
          rw [List.length_take]
          have := List.length_filter_le (fun w => !ended w) ws
          omega
        have e6 := Nat.mul_le_mul_right tails.length e5
        omega
      refine ⟨pL, qn, vl, yn, rfl, rfl, s5 _ _ h3, hqn, hlenL, fun pn hpn => ⟨s4.tr (s5.tr (Same.new hpn)), pn, _, _, rfl, ⟨_, upd_same, ?_⟩⟩⟩
      rw [tk1 hwi, List.flatMap_append, ← List.append_assoc, List.flatMap_cons, List.flatMap_nil, List.append_nil]
      exact (h4.up fun v d h => LsI.up _ _ _ _ (s5.tr (Same.new hpn)) h).app (haln.up fun v d h => LsI.up _ _ _ _ (Same.new hpn) h)
  · rintro q ys H3 σ H4 ⟨s3, hq, hal⟩ ⟨s4, pL, v10, v12, rfl, hpL⟩
    rw [hal.len, List.take_length] at hpL
    refine asg_go0 (tup_go (cons_go (var_go rfl (cons_go (op_go (var_go rfl (c_go ⟨_, _, rfl, rfl, nil_go ⟨szL rfl, fun q0 hq0 => ⟨q0, _, rfl, .inl (.inl upd_same), rfl, _, _, rfl, _, _, rfl, rfl, ?_⟩⟩⟩)))))))
    exact hD pL _ _ _ _ ((s2.tr (s3.tr s4)).tr (Same.new hq0)) (hpL.up (Same.new hq0))
theorem fm_cons (n : Nat) : ∀ ts : List (List Nat), (ts.map fun u => some (n :: u)).filterMap id = ts.map (n :: ·)
  | [] => rfl
  | u :: r => by
    rw [List.map_cons, List.filterMap_cons, List.map_cons, ← fm_cons n r]
    rfl
/-- [[line] + way for way in ..] -/
theorem wsC_go {σ : L2.St} {H : Hp} {i j n : Nat} {tl : TE} {ws0 : List (List Nat)} {Q : VK} (hj : ∀ v, ((wipe σ [i]).set i (some v))[j]? = some (some (.int (n : Nat)))) (hwp : ∀ v, wipe ((wipe σ [i]).set i (some v)) [i] = wipe σ [i]) (hi : ∀ v, ((wipe σ [i]).set i (some v))[i]? = some (some v))
    (he : ∀ R : VK, (∀ pa H1, Same H H1 → WsAt H1 pa ws0 → R (.ref pa) H1) → tl σ H R) (hn : ws0.length ≤ 1000) (hl : ∀ w ∈ ws0, w.length ≤ 3000) (k : ∀ q H', Same H H' → WsAt H' q (ws0.map (n :: ·)) → Q (.ref q) H') : tLc (iList K tl) (gName i) tYes (tOp rCat (tLst (tCons (tVar j) tNil)) (tVar i)) [i] σ H Q := by
  have q9 : sizeLine = 16777216 := sizeLine_eq
  refine lc_of (fun pa xs H1 => Same H H1 ∧ H1 pa = some (.lst xs) ∧ Al (LsI H1) xs ws0) (fun R hR => he R fun pa H1 s1 hw => by obtain ⟨xs, h1, h2⟩ := hw; exact hR pa xs H1 ⟨s1, h1, h2⟩) fun pa xs H1 ⟨s1, h1, h2⟩ => ?_
  refine lc_rl LsI LsI.up (ws0.map fun u => some (n :: u)) ev_C (.inl (.inl h1)) (by rw [List.length_map]; exact h2.len.symm) (by rw [List.length_map]; omega) (fun m v o D H' hvn hon s hD hD' => ?_) (fun q ys H' s hq0 hq hal => k q H' (s1.tr s) ⟨ys, hq, by rw [fm_cons] at hal; exact hal⟩)
  obtain ⟨u, hu, ru, rfl, hru⟩ := h2.at hvn
  rw [List.getElem?_map, hu] at hon
  cases hon
  have hu3 := hl u (List.mem_of_getElem? hu)
  refine ⟨(wipe σ [i]).set i (some (.ref ru)), fun R k => k, hwp _, ev_yes, fun H6 s6 Q6 k6 => op_go (lst_go (cons_go (var_go (hj _) (nil_go ⟨szL rfl, fun p1 hp1 => var_go (hi _) ⟨p1, ru, [.int (n : Nat)], nl u, rfl, rfl, upd_same, Same.new hp1 _ _ ((s.tr s6) _ _ hru), by rw [nl_len]; simp; omega, fun p9 hp9 => k6 _ _ ((Same.new hp1).tr (Same.new hp9)) ⟨p9, rfl, ?_⟩⟩⟩))))⟩
  rw [er_new ((Same.new hp1).ne_none (s6.ne_none hD')) hp9]
  rfl
theorem ways_body {k : Nat} {D : Ends} {H1 : Hp} {a : Addr} {LS pr pre2 post1 post2 : List Str} {tt kind : Str} {a1 b1 : LT} {other en bg : Nat} {f l p : V} {u5 u6 u7 u8 u9 u10 u11 u12 : Option V}
    (ha : H1 a = some (.lst (LS.map V.str))) (hn : LS.length ≤ 1000) (hzl : ∀ z ∈ LS, z.length ≤ 1000) (hk : kind ∈ kinds4)
    (e1 : LS = (pr ++ [tt]) ++ (a1.lines ++ post1)) (e2 : LS = pre2 ++ (b1.lines ++ post2)) (hb : lbGo (LS.drop (pr.length + 1)) (pr.length + 1) 0 0 = (other, en)) (hbg : bg = if 0 < other then other else en)
    (h1 : bg = (pr ++ [tt]).length + a1.lines.length + 1) (h2 : bg + (if 0 < other then 1 else 0) = pre2.length + 1) (h3 : en = pre2.length + b1.lines.length + 1)
    (la : LawT kind a1) (lb : LawT kind b1) (da : a1.dep < k) (db : b1.dep < k) (ia : a1.ifs ≤ 8) (ib : b1.ifs ≤ 8)
    (hD : ∀ q6 H' v8 v9 v10, Same H1 H' → WsAt H' q6 ((lwF a1 (pr.length + 1) [[]]).map ((pr.length + 1) :: ·) ++ (lwF b1 pre2.length [[]]).map ((pr.length + 1) :: ·)) → D.nx (wS (.ref a) f l p (.int ((pr.length + 1 : Nat) : Int)) u5 (some (.ref q6)) (some (.int (en : Nat))) v8 v9 v10 u11 u12) H') :
    (tSeq (tAsg (tCall spLB [] E0 (tCons (tVar 0) (tCons (tVar 4) tNil))) (gTup K 2 (gCons (gName 7) (gCons (gName 6) gNil))))
      (tSeq (tAsg (tIf (tTest (tOp (rI0 fun i j => .bl (decide (j < i))) (tVar 7) (tC (.int 0)))) (tVar 7) (tVar 6)) (gName 8))
      (tSeq (tAsg (tLc (iList K (tCall (spWs k) [] E0 (tCons (tVar 0) (tCons (tOp (rI0 fun i j => .int (i + j)) (tVar 4) (tC (.int 1))) (tCons (tVar 8) tNil))))) (gName 9) tYes (tOp rCat (tLst (tCons (tVar 4) tNil)) (tVar 9)) [9]) (gName 5))
      (tAsg (tOp rCat (tVar 5) (tLc (iList K (tCall (spWs k) [] E0 (tCons (tVar 0) (tCons (tOp (rI0 fun i j => .int (i + j)) (tVar 8) (tCB (fun xs H Q => (∃ i, xs = [V.int i] ∧ Q (V.int i) H) ∨ ∃ k, xs = [V.bl k] ∧ Q (V.int (if k = true then 1 else 0)) H) (tCons (tOp (rI0 fun i j => .bl (decide (j < i))) (tVar 7) (tC (.int 0))) tNil))) (tCons (tVar 6) tNil))))) (gName 9) tYes (tOp rCat (tLst (tCons (tVar 4) tNil)) (tVar 9)) [9])) (gName 5))))) D (wS (.ref a) f l p (.int ((pr.length + 1 : Nat) : Int)) u5 u6 u7 u8 u9 u10 u11 u12) H1 := by
  have q9 : sizeLine = 16777216 := sizeLine_eq
  have hpl : pr.length + 1 ≤ LS.length := by rw [e1]; simp
  have wl : ∀ (t : LT) (n : Nat), t.lines.length ≤ 1000 → t.ifs ≤ 8 → (lwF t n [[]]).length ≤ 256 ∧ ∀ w ∈ lwF t n [[]], w.length ≤ 3000 := fun t n h1 h2 => by
    have h3 := lwF_len t n [[]]
    rw [List.length_singleton, Nat.one_mul] at h3
    have h4 : 2 ^ t.ifs ≤ 2 ^ 8 := Nat.pow_le_pow_right (by decide) h2
    exact ⟨Nat.le_trans h3 h4, fun w hw => by have := lwF_wl t n 0 [[]] one_wl w hw; omega⟩
  have al1 : a1.lines.length ≤ 1000 := by rw [e1] at hn; simp at hn; omega
  have bl1 : b1.lines.length ≤ 1000 := by rw [e2] at hn; simp at hn; omega
  have wa := wl a1 (pr.length + 1) al1 ia
  have wb := wl b1 pre2.length bl1 ib
  have gt : ∀ {H' : Hp} {v6 v9 v10 : Option V}, EvE (tOp (rI0 fun i j => .bl (decide (j < i))) (tVar 7) (tC (.int 0))) (wS (.ref a) f l p (.int ((pr.length + 1 : Nat) : Int)) u5 v6 (some (.int (en : Nat))) (some (.int (other : Nat))) v9 v10 u11 u12) H' (.bl (decide (0 < other))) := fun {H' v6 v9 v10} => by
    have : EvE (tOp (rI0 fun i j => .bl (decide (j < i))) (tVar 7) (tC (.int 0))) (wS (.ref a) f l p (.int ((pr.length + 1 : Nat) : Int)) u5 v6 (some (.int (en : Nat))) (some (.int (other : Nat))) v9 v10 u11 u12) H' (.bl (decide ((0 : Int) < (other : Int)))) := ev_op (ev_var rfl) (fun _ _ => ev_C) fun _ _ Q q => ⟨_, _, rfl, rfl, q⟩
    rw [show decide ((0 : Int) < (other : Int)) = decide (0 < other) from decide_eq_decide.mpr (by omega)] at this
    exact this
  refine asg_go (call_go (cons_go (var_go rfl (cons_go (var_go rfl (nil_go ⟨a, LS, pr.length + 1, rfl, ha, hn, hpl, hzl, fun q H2 s2 hq0 hq => ⟨q, _, rfl, .inl (.inl hq), rfl, _, _, rfl, _, _, rfl, rfl, ?_⟩⟩))))))
  rw [hb]
  let S : Option V → Option V → Option V → L2.St := fun v6 v9 v10 => wS (.ref a) f l p (.int ((pr.length + 1 : Nat) : Int)) u5 v6 (some (.int (en : Nat))) (some (.int (other : Nat))) v9 v10 u11 u12
  refine do_set (x := .int (bg : Nat)) (σ := S u6 u9 u10) (ev_if (ev_test gt) (fun g _ _ => ?_) (fun g _ _ => ?_)) fun H3 s3 => ?_
  · rw [hbg, if_pos (of_decide_eq_true g)]; exact ev_var rfl
  · rw [hbg, if_neg (of_decide_eq_false g)]; exact ev_var rfl
  have s13 := s2.tr s3
  refine set_te (wsC_go (σ := S u6 (some (.int (bg : Nat))) u10) (i := 9) (n := pr.length + 1) (ws0 := lwF a1 (pr.length + 1) [[]]) (fun _ => rfl) (fun _ => rfl) (fun _ => rfl) (fun R hR => call_go (cons_go (var_go rfl (cons_go (op_go (var_go rfl (c_go ⟨_, _, rfl, rfl, cons_go (var_go rfl (nil_go ⟨a, kind, pr ++ [tt], post1, a1, ?_, by rw [← e1]; exact s13 _ _ ha, hk, la, da, by omega, by rw [← e1]; exact hn, by rw [← e1]; exact hzl, fun pa H4 s4 hpa => hR pa H4 s4 (by rw [List.length_append, List.length_singleton] at hpa; exact hpa)⟩))⟩))))))) (Nat.le_trans wa.1 (by decide)) wa.2 fun q1 H4 s4 hq1 => ?_)
  · rw [← h1]
    simp
  have s14 := s13.tr s4
  refine asg_go0 (op_go (var_go (v := .ref q1) rfl (wsC_go (σ := S (some (.ref q1)) (some (.int (bg : Nat))) u10) (i := 9) (n := pr.length + 1) (ws0 := lwF b1 pre2.length [[]]) (fun _ => rfl) (fun _ => rfl) (fun _ => rfl) (fun R hR => call_go (cons_go (var_go rfl (cons_go (op_go (var_go rfl (cb_go (cons_go (gt _ fun H5 s5 => nil_go (.inr ⟨_, rfl, ⟨_, _, rfl, rfl, cons_go (var_go rfl (nil_go ⟨a, kind, pre2, post2, b1, ?_, by rw [← e2]; exact (s14.tr s5) _ _ ha, hk, lb, db, by omega, by rw [← e2]; exact hn, by rw [← e2]; exact hzl, fun pa H6 s6 hpa => hR pa H6 (s5.tr s6) hpa⟩))⟩⟩)))))))))) (Nat.le_trans wb.1 (by decide)) wb.2 fun q2 H5 s5 hq2 => ?_)))
  · rw [← h2, ← h3]
    by_cases g : 0 < other
    · simp [g]
    · simp [g]
  obtain ⟨v1, g1, g2⟩ := hq1
  obtain ⟨v2, g3, g4⟩ := hq2
  refine ⟨q1, q2, v1, v2, rfl, rfl, s5 _ _ g1, g3, ?_, fun q6 hq6 => ?_⟩
  · have e1 := g2.len
    have e2 := g4.len
    rw [List.length_map] at e1 e2
    omega
  · exact hD q6 _ _ _ _ ((s14.tr s5).tr (Same.new hq6)) ⟨_, upd_same, (g2.up fun v d h => LsI.up _ _ _ _ (s5.tr (Same.new hq6)) h).app (g4.up fun v d h => LsI.up _ _ _ _ (Same.new hq6) h)⟩
theorem ways_tx {H1 : Hp} {a : Addr} {LS : List Str} {tx : Str} {n : Nat} {f l p : V} {u5 u6 u7 u8 u9 u10 u11 u12 : Option V} (ha : H1 a = some (.lst (LS.map V.str))) (hx : LS[n]? = some tx) :
    EvE (tOp (rIxL K) (tVar 0) (tOp (rI0 fun i j => .int (i - j)) (tVar 4) (tC (.int 1)))) (wS (.ref a) f l p (.int ((n + 1 : Nat) : Int)) u5 u6 u7 u8 u9 u10 u11 u12) H1 (.str tx) :=
  ev_ixL (n := (n : Nat)) (ev_var rfl) (fun _ _ => ev_op (v := .int (n : Nat)) (ev_var rfl) (fun _ _ => ev_C) fun H' _ Q q => ⟨_, _, rfl, rfl, by show Q (.int (((n + 1 : Nat) : Int) - 1)) H'; rw [show ((n + 1 : Nat) : Int) - 1 = ((n : Nat) : Int) by omega]; exact q⟩) (.inl (.inl ha)) (atI_nat (by rw [List.getElem?_map, hx]; rfl))
theorem ends_mem (tx : Str) : tx ∈ (["quit", "no"] : List Str) ↔ tx ∈ ends2 := by
  unfold ends2
  simp only [List.mem_cons, List.not_mem_nil, or_false]
  exact or_comm
theorem ways_start {s : TS} {D : Ends} {H1 : Hp} {a : Addr} {LS : List Str} {tx : Str} {n : Nat} {f l p : V} {u5 u6 u7 u8 u9 u10 u11 u12 : Option V} (ha : H1 a = some (.lst (LS.map V.str))) (hx : LS[n]? = some tx)
    (h : ∀ q6 H', Same H1 H' → WsAt H' q6 (if tx ∈ ends2 then [[n + 1, 0]] else [[n + 1]]) → s D (wS (.ref a) f l p (.int ((n + 1 : Nat) : Int)) (some (.bl (decide (tx ∈ ends2)))) (some (.ref q6)) (some (.int ((n + 1 : Nat) : Int))) u8 u9 u10 u11 u12) H') :
    (tSeq (tPar 5 6 (tCons (tIf (tTest (tOp (rIn K false) (tOp (rIxL K) (tVar 0) (tOp (rI0 fun i j => .int (i - j)) (tVar 4) (tC (.int 1)))) (tLst (tCons (tC (.str (Str.ofString "quit"))) (tCons (tC (.str (Str.ofString "no"))) tNil))))) (tLst (tCons (tLst (tCons (tVar 4) (tCons (tC (.int 0)) tNil))) tNil)) (tLst (tCons (tLst (tCons (tVar 4) tNil)) tNil))) (tCons (tVar 4) tNil))) s) D (wS (.ref a) f l p (.int ((n + 1 : Nat) : Int)) u5 u6 u7 u8 u9 u10 u11 u12) H1 := by
  have em : decide (tx ∈ (["quit", "no"] : List Str)) = decide (tx ∈ ends2) := decide_eq_decide.mpr (ends_mem tx)
  refine par_go (cons_go ((ev_test (ev_in (ns := ["quit", "no"]) (ways_tx (u5 := u5) (u6 := u6) (u7 := u7) (u8 := u8) (u9 := u9) (u10 := u10) (u11 := u11) (u12 := u12) (f := f) (l := l) (p := p) ha hx) (in_lst (ns := ["quit", "no"]) fun _ => ev_cons ev_C fun _ _ => ev_cons ev_C fun _ _ => ev_nil))) _ fun H3 s3 => ?_))
  rw [em]
  by_cases g : tx ∈ ends2
  · rw [decide_eq_true g] at h ⊢
    rw [if_pos g] at h
    refine iteT (lst_go (cons_go (lst_go (cons_go (var_go rfl (cons_go (c_go (nil_go ⟨szL rfl, fun p1 hp1 => nil_go ⟨szL rfl, fun p2 hp2 => cons_go (var_go rfl (nil_go ⟨_, _, rfl, ?_⟩))⟩⟩))))))))
    exact h p2 _ ((s3.tr (Same.new hp1)).tr (Same.new hp2)) ⟨_, upd_same, .cons ⟨p1, rfl, Same.new hp2 _ _ upd_same⟩ .nil⟩
  · rw [decide_eq_false g] at h ⊢
    rw [if_neg g] at h
    refine iteF (lst_go (cons_go (lst_go (cons_go (var_go rfl (nil_go ⟨szL rfl, fun p1 hp1 => nil_go ⟨szL rfl, fun p2 hp2 => cons_go (var_go rfl (nil_go ⟨_, _, rfl, ?_⟩))⟩⟩))))))
    exact h p2 _ ((s3.tr (Same.new hp1)).tr (Same.new hp2)) ⟨_, upd_same, .cons ⟨p1, rfl, Same.new hp2 _ _ upd_same⟩ .nil⟩
theorem ways_if {H1 : Hp} {a : Addr} {LS : List Str} {tx : Str} {n : Nat} {f l p : V} {u5 u6 u7 u8 u9 u10 u11 u12 : Option V} (ha : H1 a = some (.lst (LS.map V.str))) (hx : LS[n]? = some tx) (hl : tx.length ≤ 1000) :
    EvT (tTest (tOp rEq (tSl rSlS (tOp (rIxL K) (tVar 0) (tOp (rI0 fun i j => .int (i - j)) (tVar 4) (tC (.int 1)))) tNoPart (L2.tPart (tC (.int 3)))) (tC (.str (Str.ofString "if "))))) (wS (.ref a) f l p (.int ((n + 1 : Nat) : Int)) u5 u6 u7 u8 u9 u10 u11 u12) H1 (decide (isIf tx)) :=
  eq_str (ev_cutA (ways_tx ha hx) (by have q9 : sizeLine = 16777216 := sizeLine_eq; omega)) fun _ _ => ev_C
theorem ok_ways_s (T : Tx P w K mg) {k j : Nat} (hj : 1 ≤ j) (F_l_ways : FnX P w K mg base CX0 j "_law_ways" ["_law_lines_here", "_law_first", "_law_last"] [] (spWs k)) : FnX P w K mg base CX0 (j + 1) "_law_ways" ["_law_lines_here", "_law_first", "_law_last"] [] (spWs (k + 1)) := by
  have F_l_block := ok_l_block (base := base) T
  refine T.d_l_ways.ok0 sc_l_ways (fun _ _ _ _ _ _ us hl => match us, hl with | [_, _, _], _ => rfl) (fun vs H Q E h => ?_) (fun f cdv A outer s H vs Q E hr h => have hu := hu_of hr; ⟨_, (by exact (pss_cons (ps_asg (pe_tup (pa_cons (pe_lst (pa_cons (pe_lst pa_nil) pa_nil)) (pa_cons (pv 1) pa_nil))) (pg_tup rfl (pgs_cons (pg_name (i := 3) sc_l_ways.nd rfl (Or.inl rfl)) (pgs_cons (pg_name (i := 4) sc_l_ways.nd rfl (Or.inr rfl)) pgs_nil))))
      (pss_cons (ps_while PassesOwn.never (pt_cmpR op_lt (pv 4) (pv 2) (nomark _)) (pss_cons (ps_par (i := 5) (j := 6) (by rfl) sc_l_ways.nd rfl rfl (by decide) rfl rfl (pa_cons (pe_ifExp (pt_cmpR op_in_seq (pe_ix ix_list (pv 0) (pe_op op_sub (pv 4) pe_int) (fun _ _ => rfl)) (pe_lst (pa_cons pe_str (pa_cons pe_str pa_nil))) (by rfl)) (pe_lst (pa_cons (pe_lst (pa_cons (pv 4) (pa_cons pe_int pa_nil))) pa_nil)) (pe_lst (pa_cons (pe_lst (pa_cons (pv 4) pa_nil)) pa_nil))) (pa_cons (pv 4) pa_nil)) (by rfl))
      (pss_cons (ps_if (pt_cmpR op_eq (pe_slice sl_str (pe_ix ix_list (pv 0) (pe_op op_sub (pv 4) pe_int) (fun _ _ => rfl)) po_none (po_some pe_int)) pe_str (nomark _)) (pss_cons (ps_asg (pe_callX F_l_block (hr.mono (by first | decide | omega)) pass0 (pa_cons (pv 0) (pa_cons (pv 4) pa_nil))) (pg_tup rfl (pgs_cons (pg_name (i := 7) sc_l_ways.nd rfl (Or.inl rfl)) (pgs_cons (pg_name (i := 6) sc_l_ways.nd rfl (Or.inl rfl)) pgs_nil))))
      (pss_cons (ps_set (i := 8) sc_l_ways.nd rfl (Or.inl rfl) (pe_ifExp (pt_cmpR op_gt (pv 7) pe_int (nomark _)) (pv 7) (pv 6)))
      (pss_cons (ps_setLc (i := 5) (own := [("_law_way", 9)]) (g := (gName 9)) (tt := tYes) (by rfl) sc_l_ways.nd rfl rfl (sw_true rfl rfl rfl (by decide +kernel)) (pi_list (pe_callX F_l_ways (hr.mono (by first | decide | omega)) pass0 (pa_cons (pv 0) (pa_cons (pe_op op_add (pv 4) pe_int) (pa_cons (pv 8) pa_nil))))) (blkOk_by (own := [("_law_way", 9)]) (N := ["_law_lines_here", "_law_first", "_law_last", "_law_found", "_law_line", "_law_tails", "_law_end", "_law_other", "_law_begin", "_law_way", "_law_longer", "_law_tail"]) (sc := defScope s_l_ways) (by decide +kernel)) (fun _ _ _ _ _ => (pg_name (i := 9) sc_l_ways.nd rfl (Or.inl rfl))) (fun _ _ _ _ _ => pts_nil) (fun _ _ _ _ _ => (pe_op op_cat (pe_lst (pa_cons (pv 4) pa_nil)) (pv 9))))
      (pss_one (ps_set (i := 5) sc_l_ways.nd rfl (Or.inl rfl) (pe_op op_cat (pv 5) (pe_lc (own := [("_law_way", 9)]) (g := (gName 9)) (tt := tYes) (by rfl) sc_l_ways.nd (pi_list (pe_callX F_l_ways (hr.mono (by first | decide | omega)) pass0 (pa_cons (pv 0) (pa_cons (pe_op op_add (pv 8) (pe_callTy call_int1 (by rfl) T.b_int (by decide +kernel) (pa_cons (pe_cmpR op_gt (pv 7) pe_int (nomark _)) pa_nil))) (pa_cons (pv 6) pa_nil))))) (blkOk_by (own := [("_law_way", 9)]) (N := ["_law_lines_here", "_law_first", "_law_last", "_law_found", "_law_line", "_law_tails", "_law_end", "_law_other", "_law_begin", "_law_way", "_law_longer", "_law_tail"]) (sc := defScope s_l_ways) (by decide +kernel)) (fun _ _ _ _ _ => (pg_name (i := 9) sc_l_ways.nd rfl (Or.inl rfl))) (fun _ _ _ _ _ => pts_nil) (fun _ _ _ _ _ => (pe_op op_cat (pe_lst (pa_cons (pv 4) pa_nil)) (pv 9)))))))))) pss_nil)
      (pss_cons (ps_setLc (i := 10) (own := [("_law_way", 9)]) (g := (gName 9))  (by rfl) sc_l_ways.nd rfl rfl (sw_true rfl rfl rfl (by decide +kernel)) (pi_list (pv 3)) (blkOk_by (own := [("_law_way", 9)]) (N := ["_law_lines_here", "_law_first", "_law_last", "_law_found", "_law_line", "_law_tails", "_law_end", "_law_other", "_law_begin", "_law_way", "_law_longer", "_law_tail"]) (sc := defScope s_l_ways) (by decide +kernel)) (fun _ _ _ _ _ => (pg_name (i := 9) sc_l_ways.nd rfl (Or.inl rfl))) (fun _ _ _ _ _ => (pts_one (pt_cmpR (eqD_at (K := K) hr.units) (pe_slice (slL_at (K := K)) (pv 9) (po_some (pe_un un_neg pe_int)) po_none) (pe_lst (pa_cons pe_int pa_nil)) (nomark _)))) (fun _ _ _ _ _ => (pv 9)))
      (pss_cons (ps_for PassesOwn.never rfl (pi_list (pe_lc (own := [("_law_way", 9)]) (g := (gName 9))  (by rfl) sc_l_ways.nd (pi_list (pv 3)) (blkOk_by (own := [("_law_way", 9)]) (N := ["_law_lines_here", "_law_first", "_law_last", "_law_found", "_law_line", "_law_tails", "_law_end", "_law_other", "_law_begin", "_law_way", "_law_longer", "_law_tail"]) (sc := defScope s_l_ways) (by decide +kernel)) (fun _ _ _ _ _ => (pg_name (i := 9) sc_l_ways.nd rfl (Or.inl rfl))) (fun _ _ _ _ _ => (pts_one (pt_cmpR (neD_at (K := K) hr.units) (pe_slice (slL_at (K := K)) (pv 9) (po_some (pe_un un_neg pe_int)) po_none) (pe_lst (pa_cons pe_int pa_nil)) (nomark _)))) (fun _ _ _ _ _ => (pv 9)))) (pg_name (i := 9) sc_l_ways.nd rfl (Or.inr rfl))
        (pss_one (ps_set (i := 10) sc_l_ways.nd rfl (Or.inl rfl) (pe_op op_cat (pv 10) (pe_lc (own := [("_law_tail", 11)]) (g := (gName 11)) (tt := tYes) (by rfl) sc_l_ways.nd (pi_list (pv 5)) (blkOk_by (own := [("_law_tail", 11)]) (N := ["_law_lines_here", "_law_first", "_law_last", "_law_found", "_law_line", "_law_tails", "_law_end", "_law_other", "_law_begin", "_law_way", "_law_longer", "_law_tail"]) (sc := defScope s_l_ways) (by decide +kernel)) (fun _ _ _ _ _ => (pg_name (i := 11) sc_l_ways.nd rfl (Or.inl rfl))) (fun _ _ _ _ _ => pts_nil) (fun _ _ _ _ _ => (pe_op op_cat (pv 9) (pv 11))))))))
      (pss_one (ps_asg (pe_tup (pa_cons (pv 10) (pa_cons (pe_op op_add (pv 6) pe_int) pa_nil))) (pg_tup rfl (pgs_cons (pg_name (i := 3) sc_l_ways.nd rfl (Or.inl rfl)) (pgs_cons (pg_name (i := 4) sc_l_ways.nd rfl (Or.inr rfl)) pgs_nil))))))))))
      (pss_one (ps_ret (pv 3)))))), ?_⟩)
  · obtain ⟨a, kind, pre, post, t, rfl, _⟩ := h
    rfl
  obtain ⟨a, kind, pre, post, t, rfl, ha, hk, hlt, hdk, hif, hn, hzl, h0⟩ := h
  have q9 : sizeLine = 16777216 := sizeLine_eq
  refine asg_go (tup_go (cons_go (lst_go (cons_go (lst_go (nil_go ⟨szL rfl, fun e1 he1 => nil_go ⟨szL rfl, fun f1 hf1 => cons_go (var_go rfl (nil_go ⟨szL rfl, fun q0 hq0 => ⟨q0, _, rfl, .inl (.inl upd_same), rfl, _, _, rfl, _, _, rfl, rfl, ?_⟩⟩))⟩⟩))))))
  have sq1 : Same H (upd H e1 (.lst [])) := Same.new he1
  have sq2 := sq1.tr (Same.new (o := .lst [.ref e1]) hf1)
  have sq3 := sq2.tr (Same.new (o := .tup [.ref f1, .int ((pre.length + 1 : Nat) : Int)]) hq0)
  have hw0 : WsAt (upd (upd (upd H e1 (.lst [])) f1 (.lst [.ref e1])) q0 (.tup [.ref f1, .int ((pre.length + 1 : Nat) : Int)])) f1 [[]] := WsAt.up ⟨_, upd_same, .cons ⟨e1, rfl, Same.new hf1 _ _ upd_same⟩ .nil⟩ (Same.new hq0)
  generalize upd (upd (upd H e1 (.lst [])) f1 (.lst [.ref e1])) q0 (.tup [.ref f1, .int ((pre.length + 1 : Nat) : Int)]) = H0 at sq3 hw0 ⊢
  generalize hLS : pre ++ (t.lines ++ post) = LS at ha hn hzl
  refine nx_whl (do_whl (fun m σ H' => Same H H' ∧ ∃ (p : Addr) (pr : List Str) (r : LT) (ws : List (List Nat)) (u5 u6 u7 u8 u9 u10 u11 u12 : Option V), σ = wS (.ref a) (.int ((pre.length + 1 : Nat) : Int)) (.int ((pre.length + t.lines.length + 1 : Nat) : Int)) (.ref p) (.int ((pr.length + 1 : Nat) : Int)) u5 u6 u7 u8 u9 u10 u11 u12 ∧ WsAt H' p ws ∧ lwF t pre.length [[]] = lwF r pr.length ws ∧
    LS = pr ++ (r.lines ++ post) ∧ pr.length + r.lines.length = pre.length + t.lines.length ∧ LawT kind r ∧ r.dep < k + 1 ∧ r.ifs ≤ 9 ∧ ws.length * 2 ^ r.ifs ≤ 512 ∧ (∀ w ∈ ws, w.length ≤ 2 * pr.length) ∧ m = r.lines.length) (m0 := t.lines.length)
    ⟨sq3, f1, pre, t, [[]], none, none, none, none, none, none, none, none, rfl, hw0, rfl, hLS.symm, rfl, hlt, hdk, hif, by
      have : 2 ^ t.ifs ≤ 2 ^ 9 := Nat.pow_le_pow_right (by decide) hif
      rw [List.length_singleton, Nat.one_mul]; exact this, fun w hw => by rw [List.mem_singleton] at hw; subst hw; exact Nat.zero_le _, rfl⟩ ?_)
  rintro m σ H1 ⟨s1, p, pr, r, ws, u5, u6, u7, u8, u9, u10, u11, u12, rfl, hw, hfw, hLr, hlen, hlr, hdr, hir, hwn, hwl, rfl⟩
  refine ⟨decide (pr.length + 1 < pre.length + t.lines.length + 1), ?_, fun g H2 s2 => ?_, fun g H2 s2 => ?_⟩
  · have := ev_test (ev_lt (a := tVar 4) (b := tVar 2) (σ := wS (.ref a) (.int ((pre.length + 1 : Nat) : Int)) (.int ((pre.length + t.lines.length + 1 : Nat) : Int)) (.ref p) (.int ((pr.length + 1 : Nat) : Int)) u5 u6 u7 u8 u9 u10 u11 u12) (H := H1) (ev_var rfl) (fun _ _ => ev_var rfl))
    rw [show decide (((pr.length + 1 : Nat) : Int) < ((pre.length + t.lines.length + 1 : Nat) : Int)) = decide (pr.length + 1 < pre.length + t.lines.length + 1) from decide_eq_decide.mpr (by omega)] at this
    exact this
  · have g := of_decide_eq_true g
    have hw2 := hw.up s2
    have ha2 := s2 _ _ (s1 _ _ ha)
    have s02 := s1.tr s2
    have pn0 : ∀ x : Nat, 1 ≤ 2 ^ x := fun x => Nat.one_le_two_pow
    rcases r with _ | ⟨tx, r⟩ | ⟨tx, a1, r⟩ | ⟨tx, a1, b1, r⟩
    · have : pr.length + 0 = pre.length + t.lines.length := hlen
      omega
    · have hlen : pr.length + (r.lines.length + 1) = pre.length + t.lines.length := hlen
      have hLr : LS = pr ++ (tx :: (r.lines ++ post)) := hLr
      have hx : LS[pr.length]? = some tx := by rw [hLr, List.getElem?_append_right (Nat.le_refl _), Nat.sub_self]; rfl
      obtain ⟨hl1, hl2⟩ := hlr
      obtain ⟨x, hlf⟩ := leaf_ok hk hl1
      have hwn : ws.length * 2 ^ r.ifs ≤ 512 := hwn
      have hws : ws.length ≤ 512 := Nat.le_trans (Nat.le_mul_of_pos_right _ (pn0 r.ifs)) hwn
      have tl1 : (if tx ∈ ends2 then [[pr.length + 1, 0]] else [[pr.length + 1]]).length = 1 := by split <;> rfl
      have tl2 : ∀ w ∈ (if tx ∈ ends2 then [[pr.length + 1, 0]] else [[pr.length + 1]]), w.length ≤ 2 := fun w hw => by split at hw <;> rw [List.mem_singleton] at hw <;> subst hw <;> simp
      have hpl : pr.length ≤ 1000 := by rw [hLr] at hn; simp at hn; omega
      refine ways_start ha2 hx fun q6 H3 s3 ht => ?_
      refine seq_if (ways_if (s3 _ _ ha2) hx (hzl _ (List.mem_of_getElem? hx))) (fun g => absurd (of_decide_eq_true g) hlf.ni) (fun _ H4 s4 => ?_)
      refine ways_rest (hw2.up (s3.tr s4)) (ht.up s4) (by omega) (by rw [tl1]; omega) (by rw [tl1]; decide) (fun w hw => by have := hwl w hw; omega) (fun w hw => by have := tl2 w hw; omega) (fun p' H5 v10 v11 v12 s5 hw5 => ?_)
      refine ⟨r.lines.length, Nat.lt_succ_self _, s02.tr (s3.tr (s4.tr s5)), p', pr ++ [tx], r, _, some (.bl (decide (tx ∈ ends2))), some (.ref q6), some (.int ((pr.length + 1 : Nat) : Int)), u8, u9, v10, v11, v12, ?_, hw5, ?_, ?_, ?_, hl2, hdr, hir, ?_, ?_, rfl⟩
      · rw [show (pr ++ [tx]).length = pr.length + 1 by simp]
      · rw [hfw, show (pr ++ [tx]).length = pr.length + 1 by simp]; rfl
      · rw [hLr, List.append_assoc]; rfl
      · rw [show (pr ++ [tx]).length = pr.length + 1 by simp]; omega
      · have h8 := step_len (ws := ws) (tails := if tx ∈ ends2 then [[pr.length + 1, 0]] else [[pr.length + 1]]) (by rw [tl1]; exact Nat.le_refl _)
        rw [tl1, Nat.mul_one] at h8
        exact Nat.le_trans (Nat.mul_le_mul_right _ h8) hwn
      · intro w hw
        have := step_wl hwl tl2 w hw
        rw [show (pr ++ [tx]).length = pr.length + 1 by simp]; omega
    · have hlen : pr.length + ((a1.lines ++ endS :: r.lines).length + 1) = pre.length + t.lines.length := hlen
      rw [List.length_append, List.length_cons] at hlen
      have hLr : LS = pr ++ (tx :: (a1.lines ++ (endS :: (r.lines ++ post)))) := by rw [hLr]; show pr ++ ((tx :: (a1.lines ++ endS :: r.lines)) ++ post) = _; simp
      have hx : LS[pr.length]? = some tx := by rw [hLr, List.getElem?_append_right (Nat.le_refl _), Nat.sub_self]; rfl
      obtain ⟨hl1, hl2, hl3⟩ := hlr
      have hlf := test_ok (kind := kind) hk hl1
      have hdr : max (a1.dep + 1) r.dep < k + 1 := hdr
      have hir : 1 + a1.ifs + r.ifs ≤ 9 := hir
      have hwn : ws.length * 2 ^ (1 + a1.ifs + r.ifs) ≤ 512 := hwn
      have hws : ws.length ≤ 512 := Nat.le_trans (Nat.le_mul_of_pos_right _ (pn0 _)) hwn
      have hpl : pr.length + a1.lines.length + 2 ≤ 1000 := by rw [hLr] at hn; simp at hn; omega
      have hdp : LS.drop (pr.length + 1) = a1.lines ++ (endS :: (r.lines ++ post)) := by rw [hLr, ← List.drop_drop, List.drop_left]; rfl
      have e1 : LS = (pr ++ [tx]) ++ (a1.lines ++ (endS :: (r.lines ++ post))) := by rw [hLr]; simp
      have e2 : LS = (pr ++ tx :: a1.lines) ++ (LT.nil.lines ++ (endS :: (r.lines ++ post))) := by rw [hLr]; show _ = _ ++ ([] ++ _); simp
      refine ways_start ha2 hx fun q6 H3 s3 ht => ?_
      refine seq_if (ways_if (s3 _ _ ha2) hx (hzl _ (List.mem_of_getElem? hx))) (fun _ H4 s4 => ?_) (fun g => absurd hlf.isif (of_decide_eq_false g))
      refine ways_body (a1 := a1) (b1 := .nil) (pre2 := pr ++ tx :: a1.lines) (other := 0) (en := pr.length + 1 + a1.lines.length + 1) ((s3.tr s4) _ _ ha2) hn hzl hk e1 e2 (by rw [hdp]; exact lb_one (lawt_wd hk a1 hl2)) rfl (by simp) (by simp; omega) (by simp [LT.lines]; omega) hl2 trivial (by omega) (by show 0 < k; omega) (by omega) (by show 0 ≤ 8; omega) fun q6' H5 v8 v9 v10 s5 ht5 => ?_
      have tl0 : 1 ≤ ((lwF a1 (pr.length + 1) [[]]).map ((pr.length + 1) :: ·) ++ [[pr.length + 1]]).length := by simp
      have tl1 : ((lwF a1 (pr.length + 1) [[]]).map ((pr.length + 1) :: ·) ++ [[pr.length + 1]]).length ≤ 2 ^ (1 + a1.ifs) := by
        have h3 := lwF_len a1 (pr.length + 1) [[]]
        rw [List.length_singleton, Nat.one_mul] at h3
        rw [List.length_append, List.length_map, List.length_singleton, Nat.pow_add]
        have := pn0 a1.ifs
        omega
      have tl2 : ∀ w ∈ (lwF a1 (pr.length + 1) [[]]).map ((pr.length + 1) :: ·) ++ [[pr.length + 1]], w.length ≤ 0 + 2 * a1.lines.length + 1 := app_wl (map_wl (lwF_wl a1 (pr.length + 1) 0 [[]] one_wl)) (fun w hw => by rw [List.mem_singleton] at hw; subst hw; simp)
      have tl3 : 2 ^ (1 + a1.ifs) ≤ 2 ^ 9 := Nat.pow_le_pow_right (by decide) (by omega)
      have tl4 := Nat.mul_le_mul hws (Nat.le_trans tl1 tl3)
      replace ht5 : WsAt H5 q6' ((lwF a1 (pr.length + 1) [[]]).map ((pr.length + 1) :: ·) ++ [[pr.length + 1]]) := ht5
      generalize htl : (lwF a1 (pr.length + 1) [[]]).map ((pr.length + 1) :: ·) ++ [[pr.length + 1]] = tails at ht5 tl0 tl1 tl2 tl4
      refine ways_rest (hw2.up (s3.tr (s4.tr s5))) ht5 (by omega) (by omega) (by omega) (fun w hw => by have := hwl w hw; omega) (fun w hw => by have := tl2 w hw; omega) (fun p' H6 v10 v11 v12 s6 hw6 => ?_)
      have epr : (pr ++ tx :: (a1.lines ++ [endS])).length = pr.length + 1 + a1.lines.length + 1 := by simp; omega
      refine ⟨r.lines.length, by show r.lines.length < (a1.lines ++ endS :: r.lines).length + 1; rw [List.length_append, List.length_cons]; omega, s02.tr (s3.tr (s4.tr (s5.tr s6))), p', pr ++ tx :: (a1.lines ++ [endS]), r, _, some (.bl (decide (tx ∈ ends2))), some (.ref q6'), some (.int ((pr.length + 1 + a1.lines.length + 1 : Nat) : Int)), v8, v9, v10, v11, v12, ?_, hw6, ?_, ?_, ?_, hl3, by omega, by omega, ?_, ?_, rfl⟩
      · rw [epr]
      · rw [hfw, epr, ← htl]; rfl
      · rw [hLr]; simp
      · rw [epr]; omega
      · have h8 := step_len (ws := ws) (tails := tails) tl0
        have h9 := Nat.mul_le_mul_right (2 ^ r.ifs) (Nat.le_trans h8 (Nat.mul_le_mul_left _ tl1))
        rw [Nat.mul_assoc, ← Nat.pow_add] at h9
        exact Nat.le_trans h9 hwn
      · intro w hw
        have := step_wl hwl tl2 w hw
        rw [epr]; omega
    · have hlen : pr.length + ((a1.lines ++ elseS :: (b1.lines ++ endS :: r.lines)).length + 1) = pre.length + t.lines.length := hlen
      rw [List.length_append, List.length_cons, List.length_append, List.length_cons] at hlen
      have hLr : LS = pr ++ (tx :: (a1.lines ++ (elseS :: (b1.lines ++ (endS :: (r.lines ++ post)))))) := by rw [hLr]; show pr ++ ((tx :: (a1.lines ++ elseS :: (b1.lines ++ endS :: r.lines))) ++ post) = _; simp
      have hx : LS[pr.length]? = some tx := by rw [hLr, List.getElem?_append_right (Nat.le_refl _), Nat.sub_self]; rfl
      obtain ⟨hl1, hl2, hl3, hl4⟩ := hlr
      have hlf := test_ok (kind := kind) hk hl1
      have hdr : max (max (a1.dep + 1) (b1.dep + 1)) r.dep < k + 1 := hdr
      have hir : 1 + a1.ifs + b1.ifs + r.ifs ≤ 9 := hir
      have hwn : ws.length * 2 ^ (1 + a1.ifs + b1.ifs + r.ifs) ≤ 512 := hwn
      have hws : ws.length ≤ 512 := Nat.le_trans (Nat.le_mul_of_pos_right _ (pn0 _)) hwn
      have hpl : pr.length + a1.lines.length + b1.lines.length + 3 ≤ 1000 := by rw [hLr] at hn; simp at hn; omega
      have hdp : LS.drop (pr.length + 1) = a1.lines ++ (elseS :: (b1.lines ++ (endS :: (r.lines ++ post)))) := by rw [hLr, ← List.drop_drop, List.drop_left]; rfl
      have e1 : LS = (pr ++ [tx]) ++ (a1.lines ++ (elseS :: (b1.lines ++ (endS :: (r.lines ++ post))))) := by rw [hLr]; simp
      have e2 : LS = (pr ++ tx :: (a1.lines ++ [elseS])) ++ (b1.lines ++ (endS :: (r.lines ++ post))) := by rw [hLr]; simp
      have epr2 : (pr ++ tx :: (a1.lines ++ [elseS])).length = pr.length + 1 + a1.lines.length + 1 := by simp; omega
      refine ways_start ha2 hx fun q6 H3 s3 ht => ?_
      refine seq_if (ways_if (s3 _ _ ha2) hx (hzl _ (List.mem_of_getElem? hx))) (fun _ H4 s4 => ?_) (fun g => absurd hlf.isif (of_decide_eq_false g))
      refine ways_body (a1 := a1) (b1 := b1) (pre2 := pr ++ tx :: (a1.lines ++ [elseS])) (other := pr.length + 1 + a1.lines.length + 1) (en := pr.length + 1 + a1.lines.length + 1 + b1.lines.length + 1) (bg := pr.length + 1 + a1.lines.length + 1) ((s3.tr s4) _ _ ha2) hn hzl hk e1 e2 (by rw [hdp]; exact lb_two (lawt_wd hk a1 hl2) (lawt_wd hk b1 hl3)) (by rw [if_pos (Nat.succ_pos _)]) (by simp) (by rw [if_pos (Nat.succ_pos _), epr2]) (by rw [epr2]) hl2 hl3 (by omega) (by omega) (by omega) (by omega) fun q6' H5 v8 v9 v10 s5 ht5 => ?_
      rw [epr2] at ht5
      have tl0 : 1 ≤ ((lwF a1 (pr.length + 1) [[]]).map ((pr.length + 1) :: ·) ++ (lwF b1 (pr.length + 1 + a1.lines.length + 1) [[]]).map ((pr.length + 1) :: ·)).length := by
        have := List.length_pos_iff.mpr (lwF_ne a1 (pr.length + 1) [[]] (by simp))
        rw [List.length_append, List.length_map]; omega
      have tl1 : ((lwF a1 (pr.length + 1) [[]]).map ((pr.length + 1) :: ·) ++ (lwF b1 (pr.length + 1 + a1.lines.length + 1) [[]]).map ((pr.length + 1) :: ·)).length ≤ 2 ^ (1 + a1.ifs + b1.ifs) := by
        have h3 := lwF_len a1 (pr.length + 1) [[]]
        have h4 := lwF_len b1 (pr.length + 1 + a1.lines.length + 1) [[]]
        rw [List.length_singleton, Nat.one_mul] at h3 h4
        rw [List.length_append, List.length_map, List.length_map, Nat.pow_add, Nat.pow_add]
        have h5 : 2 ^ a1.ifs ≤ 2 ^ a1.ifs * 2 ^ b1.ifs := Nat.le_mul_of_pos_right _ (pn0 _)
        have h6 : 2 ^ b1.ifs ≤ 2 ^ a1.ifs * 2 ^ b1.ifs := Nat.le_mul_of_pos_left _ (pn0 _)
        rw [show 2 ^ 1 = 2 from rfl, Nat.mul_assoc]
        omega
      have tl2 : ∀ w ∈ (lwF a1 (pr.length + 1) [[]]).map ((pr.length + 1) :: ·) ++ (lwF b1 (pr.length + 1 + a1.lines.length + 1) [[]]).map ((pr.length + 1) :: ·), w.length ≤ 2 * a1.lines.length + 2 * b1.lines.length + 1 := app_wl (fun w hw => by have := map_wl (lwF_wl a1 (pr.length + 1) 0 [[]] one_wl) w hw; omega) (fun w hw => by have := map_wl (lwF_wl b1 (pr.length + 1 + a1.lines.length + 1) 0 [[]] one_wl) w hw; omega)
      have tl3 : 2 ^ (1 + a1.ifs + b1.ifs) ≤ 2 ^ 9 := Nat.pow_le_pow_right (by decide) (by omega)
      have tl4 := Nat.mul_le_mul hws (Nat.le_trans tl1 tl3)
      generalize htl : (lwF a1 (pr.length + 1) [[]]).map ((pr.length + 1) :: ·) ++ (lwF b1 (pr.length + 1 + a1.lines.length + 1) [[]]).map ((pr.length + 1) :: ·) = tails at ht5 tl0 tl1 tl2 tl4
      refine ways_rest (hw2.up (s3.tr (s4.tr s5))) ht5 (by omega) (by omega) (by omega) (fun w hw => by have := hwl w hw; omega) (fun w hw => by have := tl2 w hw; omega) (fun p' H6 v10 v11 v12 s6 hw6 => ?_)
      have epr : (pr ++ tx :: (a1.lines ++ elseS :: (b1.lines ++ [endS]))).length = pr.length + 1 + a1.lines.length + 1 + b1.lines.length + 1 := by simp; omega
      refine ⟨r.lines.length, by show r.lines.length < (a1.lines ++ elseS :: (b1.lines ++ endS :: r.lines)).length + 1; rw [List.length_append, List.length_cons, List.length_append, List.length_cons]; omega, s02.tr (s3.tr (s4.tr (s5.tr s6))), p', pr ++ tx :: (a1.lines ++ elseS :: (b1.lines ++ [endS])), r, _, some (.bl (decide (tx ∈ ends2))), some (.ref q6'), some (.int ((pr.length + 1 + a1.lines.length + 1 + b1.lines.length + 1 : Nat) : Int)), v8, v9, v10, v11, v12, ?_, hw6, ?_, ?_, ?_, hl4, by omega, by omega, ?_, ?_, rfl⟩
      · rw [epr]
      · rw [hfw, epr, ← htl]; rfl
      · rw [hLr]; simp
      · rw [epr]; omega
      · have h8 := step_len (ws := ws) (tails := tails) tl0
        have h9 := Nat.mul_le_mul_right (2 ^ r.ifs) (Nat.le_trans h8 (Nat.mul_le_mul_left _ tl1))
        rw [Nat.mul_assoc, ← Nat.pow_add] at h9
        exact Nat.le_trans h9 hwn
      · intro w hw
        have := step_wl hwl tl2 w hw
        rw [epr]; omega
  · have g := of_decide_eq_false g
    have hr0 : r = .nil := by
      have : r.lines.length = 0 := by omega
      cases r <;> first | rfl | (simp [LT.lines] at this)
    subst hr0
    exact ret_go (var_go rfl (h0 p H2 (s1.tr s2) (by rw [hfw]; exact hw.up s2)))
theorem ok_l_ways (T : Tx P w K mg) : ∀ k, FnX P w K mg base CX0 (k + 2) "_law_ways" ["_law_lines_here", "_law_first", "_law_last"] [] (spWs k)
  | 0 => T.d_l_ways.ok0 (k := 1) sc_l_ways (fun _ _ _ _ _ _ us hl => match us, hl with | [_, _, _], _ => rfl) (fun vs H Q E h => by obtain ⟨a, kind, pre, post, t, rfl, _, _, _, h, _⟩ := h; omega) (fun f cdv A outer s H vs Q E hr h => by obtain ⟨a, kind, pre, post, t, rfl, _, _, _, h, _⟩ := h; omega)
  | k + 1 => ok_ways_s T (by omega) (ok_l_ways T k)
end
end K03


set_option Elab.async false
set_option linter.all false
set_option maxRecDepth 100000
set_option maxHeartbeats 4000000
namespace K03
open PySem PySem.Spec PyProof.Rows L2 Rdr Tld Pgr LmX LamX NdefX
section
variable {P : Program} {w : World} {K : PySem.W.Frag} {mg : Str → Option Value} {base : Heap}
theorem fm_pos : ∀ w : List Nat, (w.map fun n => if 0 < n then some (PyData.int (n : Nat)) else none).filterMap id = ((pos w).map fun n : Nat => (n : Int)).map PyData.int
  | [] => rfl
  | n :: r => by
    have ih := fm_pos r
    rw [List.map_cons, List.filterMap_cons]
    unfold pos at ih ⊢
    rw [List.filter_cons]
    by_cases h : 0 < n
    · rw [if_pos h, if_pos (decide_eq_true h), List.map_cons, List.map_cons, ← ih]
      rfl
    · rw [if_neg h, if_neg (by simpa using h), ← ih]
      rfl
theorem nx_ret {te : TE} {D : Ends} {σ : L2.St} {H : Hp} {r : VK} {b c : L2.St → Hp → Prop} (h : te σ H D.rt) : Ends.nx { nx := tRet te D, rt := r, bk := b, ct := c } σ H := h
def spOnce : Sp := fun vs H Q _ => ∃ (t : Str), vs = [.str t] ∧ t.length ≤ 1000 ∧ ∀ H', Same H H' → Q (.str (lonce t)) H'
theorem ok_l_once (T : Tx P w K mg) : FnX P w K mg base CX0 1 "_law_once" ["_law_line"] [] spOnce := by
  refine T.d_l_once.ok0 sc_l_once (fun _ _ _ _ _ _ us hl => match us, hl with | [_], _ => rfl) (fun vs H Q E h => ?_) (fun f cdv A outer s H vs Q E hr h => have hu := hu_of hr; ⟨_, (by exact (pss_cons (ps_for PassesOwn.never rfl (pi_list (pe_lst (pa_cons pe_str (pa_cons pe_str (pa_cons pe_str (pa_cons pe_str (pa_cons pe_str (pa_cons pe_str (pa_cons pe_str pa_nil))))))))) (pg_name (i := 1) sc_l_once.nd rfl (Or.inl rfl))
        (pss_one (ps_if (pt_cmpR op_eq (pe_slice sl_str (pv 0) po_none (po_some (pe_callB call_len_str (by rfl) T.b_len (by decide +kernel) (pa_cons (pv 1) pa_nil)))) (pv 1) (nomark _)) (pss_one (ps_ret (pv 1))) pss_nil)))
      (pss_one (ps_ret pe_str)))), ?_⟩)
  · obtain ⟨t, rfl, _⟩ := h
    rfl
  obtain ⟨t, rfl, htl, h0⟩ := h
  have q9 : sizeLine = 16777216 := sizeLine_eq
  let p : Str → Bool := fun w => decide (L2.cutS t none (some (w.length : Nat)) = w)
  refine nx_for (for_te2 (K := K) (fun q ys H1 => Same H H1 ∧ H1 q = some (.lst ys) ∧ ys = onceWs.map V.str) (fun q ys H1 i σ H' => Same H1 H' ∧ (∃ u, σ = [some (.str t), u]) ∧ onceWs.find? p = (onceWs.drop i).find? p)
    (fun R hR => mk_lst (ev_strs onceWs _) fun H1 T s1 _ hT => hR T _ H1 ⟨s1, hT, rfl⟩) (fun q ys H1 h => .inl (.inl h.2.1)) (fun q ys H1 h => ⟨Same.rf _, ⟨none, rfl⟩, rfl⟩) (fun q ys H1 i σ H' h _ k => .inl (.inl (k.1 _ _ h.2.1))) ?_ ?_)
  · rintro q ys H1 ⟨s1, hq, rfl⟩ i v σ H2 hv ⟨s2, ⟨u, rfl⟩, hf⟩
    rw [List.getElem?_map] at hv
    obtain ⟨wd, hw, rfl⟩ := Option.map_eq_some_iff.mp hv
    rw [drop_at hw] at hf
    have hwl : wd.length ≤ 100 := by
      have hh : ∀ z ∈ onceWs, z.length ≤ 100 := by decide +kernel
      exact hh wd (List.mem_of_getElem? hw)
    let S : L2.St := [some (.str t), some (.str wd)]
    have cut : EvE (tSl rSlS (tVar 0) tNoPart (L2.tPart (tCB (fun xs H Q => ∃ z, xs = [V.str z] ∧ z.length ≤ sizeLine ∧ Q (V.int (z.length : Nat)) H) (tCons (tVar 1) tNil)))) S H2 (.str (L2.cutS t none (some (wd.length : Nat)))) :=
      fun Q k => ⟨_, rfl, _, rfl, wd, rfl, by omega, _, rfl, t, rfl, by omega, k H2 (Same.rf _)⟩
    refine nm (do_if (σ := S) (eq_str cut fun _ _ => ev_var rfl) (fun g H3 s3 => ?_) (fun g H3 s3 => ?_))
    · refine ret_go (var_go rfl ?_)
      have e : lonce t = wd := by
        unfold lonce
        rw [show (onceWs.find? fun w => decide (L2.cutS t none (some (w.length : Nat)) = w)) = onceWs.find? p from rfl, hf, List.find?_cons_of_pos (show p wd = true from g)]
        rfl
      have := h0 H3 (s1.tr (s2.tr s3))
      rw [e] at this
      exact this
    · refine ⟨s2.tr s3, ⟨_, rfl⟩, ?_⟩
      rw [hf, List.find?_cons_of_neg (by rw [show p wd = false from g]; decide)]
  · rintro q ys H1 σ H2 ⟨s1, hq, rfl⟩ ⟨s2, ⟨u, rfl⟩, hf⟩
    rw [List.length_map, List.drop_length] at hf
    refine nx_ret (c_go ?_)
    have e : lonce t = "" := by
      unfold lonce
      rw [show (onceWs.find? fun w => decide (L2.cutS t none (some (w.length : Nat)) = w)) = onceWs.find? p from rfl, hf]
      rfl
    have := h0 H2 (s1.tr s2)
    rw [e] at this
    exact this
/-- [word for word in words if ..] != [] -/
theorem any_neE {H : Hp} {q : Addr} {ws : List Str} {tt : TT} {f : Str → Bool} {o0 o1 : Option V} (h2 : SqL K H q (ws.map V.str)) (hn : ws.length ≤ 100000)
    (ht : ∀ H' z, z ∈ ws → Same H H' → EvT tt [o0, o1, some (.ref q), some (.str z)] H' (f z)) : EvE (tOp (rNil K not) (tLc (iList K (tVar 2)) (gName 3) tt (tVar 3) (List.map (fun x => x.snd) [(Str.ofString "_law_word", 3)])) (tLst tNil)) [o0, o1, some (.ref q), none] H (.bl (ws.any f)) := by
  intro Q k
  refine op_go (lc_dq (ws.map fun z => if f z then some (PyData.str z) else none) (ev_var rfl) h2 (by rw [List.length_map, List.length_map]) (by rw [List.length_map]; omega) ?_ ?_)
  · intro i u o H1 hu ho s1
    rw [List.getElem?_map] at hu ho
    obtain ⟨z, hz, rfl⟩ := Option.map_eq_some_iff.mp hu
    rw [hz] at ho
    cases ho
    have h := ht H1 z (List.mem_of_getElem? hz) s1
    refine ⟨[o0, o1, some (.ref q), some (.str z)], fun R k => k, rfl, ?_⟩
    dsimp only
    cases e : f z with
    | true => rw [e] at h; rw [if_pos rfl]; exact ⟨h, fun H2 s2 => (ev_var (v := .str z) rfl).d fun _ _ => .str _⟩
    | false => rw [e] at h; rw [if_neg (by decide)]; exact h
  · intro lq ys H1 s1 _ hlq hys
    refine mk_lst (Q := fun y H2 => rNil K not (.ref lq) y H2 Q) (vs := []) ev_nil fun H2 T s2 _ hT => ⟨lq, T, ys, rfl, rfl, .inl (.inl (s2 _ _ hlq)), .inl (.inl hT), ?_⟩
    have e : (!ys.isEmpty) = ws.any f := by
      have hl := hys.len
      have e2 : (ws.map fun z => if f z then some (PyData.str z) else none).filterMap id = (ws.filter f).map PyData.str := by
        clear hys hl ht hn h2 k
        induction ws with
        | nil => rfl
        | cons x r ih =>
          rw [List.map_cons, List.filterMap_cons, List.filter_cons]
          cases f x with
          | true => exact congrArg (PyData.str x :: ·) ih
          | false => exact ih
      rw [e2, List.length_map] at hl
      cases h : ws.any f with
      | true =>
        obtain ⟨z, hz, hz2⟩ := List.any_eq_true.mp h
        have : 0 < (ws.filter f).length := List.length_pos_of_mem (List.mem_filter.mpr ⟨hz, hz2⟩)
        cases ys with
        | nil => simp at hl; omega
        | cons _ _ => rfl
      | false =>
        have : ws.filter f = [] := List.filter_eq_nil_iff.mpr fun z hz => by
          have := List.any_eq_false.mp h z hz
          exact this
        rw [this] at hl
        cases ys with
        | nil => rfl
        | cons _ _ => simp at hl
    rw [e]
    exact k H2 (s1.tr s2)
def spStrange : Sp := fun vs H Q _ => ∃ (kind t : Str), vs = [.str kind, .str t] ∧ t.length ≤ 1000 ∧ ∀ H', Same H H' → Q (.bl (lstr kind t)) H'
theorem ok_l_strange (T : Tx P w K mg) : FnX P w K mg base CX0 1 "_law_strange" ["_law_kind", "_law_text"] [] spStrange := by
  refine T.d_l_strange.ok0 sc_l_strange (fun _ _ _ _ _ _ us hl => match us, hl with | [_, _], _ => rfl) (fun vs H Q E h => ?_) (fun f cdv A outer s H vs Q E hr h => have hu := hu_of hr; ⟨_, (by exact (pss_cons (ps_set (i := 2) sc_l_strange.nd rfl (Or.inl rfl) (pe_split (pv 1) pe_str))
      (pss_cons (ps_if (PW.pt (pw_or (pt_cmpR op_in_seq pe_str (pv 2) (by rfl)) (pw_or (pt_cmpR op_in_seq pe_str (pv 2) (by rfl)) (pw_or1 (pt_cmpR op_eq (pv 1) pe_str (nomark _)))))) (pss_one (ps_ret (pe_cmpR op_ne (pv 0) pe_str (nomark _)))) pss_nil)
      (pss_cons (ps_if (pt_cmpR op_eq (pv 1) pe_str (nomark _)) (pss_one (ps_ret (pe_cmpR op_ne (pv 0) pe_str (nomark _)))) pss_nil)
      (pss_cons (ps_if (pt_cmpR op_in_seq (pv 1) (pe_lst (pa_cons pe_str (pa_cons pe_str pa_nil))) (by rfl)) (pss_one (ps_ret (pe_cmpR op_notIn_seq (pv 0) (pe_lst (pa_cons pe_str (pa_cons pe_str pa_nil))) (by rfl)))) pss_nil)
      (pss_cons (ps_if (pt_cmpR (op_neNil hu) (pe_lc (own := [("_law_word", 3)]) (g := (gName 3))  (by rfl) sc_l_strange.nd (pi_list (pv 2)) (blkOk_by (own := [("_law_word", 3)]) (N := ["_law_kind", "_law_text", "_law_words", "_law_word"]) (sc := defScope s_l_strange) (by decide +kernel)) (fun _ _ _ _ _ => (pg_name (i := 3) sc_l_strange.nd rfl (Or.inl rfl))) (fun _ _ _ _ _ => (pts_one (pt_cmpR (inS_at (K := K)) (pv 3) (pe_lst (pa_cons pe_str (pa_cons pe_str (pa_cons pe_str pa_nil)))) (by rfl)))) (fun _ _ _ _ _ => (pv 3))) (pe_lst pa_nil) (nomark _)) (pss_one (ps_ret (pe_cmpR op_notIn_seq (pv 0) (pe_lst (pa_cons pe_str (pa_cons pe_str pa_nil))) (by rfl)))) pss_nil)
      (pss_one (ps_ret (pe_and (pe_cmpR op_eq (pv 0) pe_str (nomark _)) (pe_one (pe_cmpR (op_neNil hu) (pe_lc (own := [("_law_word", 3)]) (g := (gName 3))  (by rfl) sc_l_strange.nd (pi_list (pv 2)) (blkOk_by (own := [("_law_word", 3)]) (N := ["_law_kind", "_law_text", "_law_words", "_law_word"]) (sc := defScope s_l_strange) (by decide +kernel)) (fun _ _ _ _ _ => (pg_name (i := 3) sc_l_strange.nd rfl (Or.inl rfl))) (fun _ _ _ _ _ => (pts_one (pt_cmpR op_eq (pe_slice sl_str (pv 3) po_none (po_some pe_int)) pe_str (nomark _)))) (fun _ _ _ _ _ => (pv 3))) (pe_lst pa_nil) (nomark _)))))))))))), ?_⟩)
  · obtain ⟨kind, t, rfl, _⟩ := h
    rfl
  obtain ⟨kind, t, rfl, htl, h0⟩ := h
  have q9 : sizeLine = 16777216 := sizeLine_eq
  have fin : ∀ (b : Bool) H', lstr kind t = b → Same H H' → Q (.bl b) H' := fun b H' e s => by rw [← e]; exact h0 H' s
  refine set_te (do_split (ev_var rfl) (by decide +kernel) (by omega) (fun H1 q s1 _ hq => ?_))
  have eL : lstr kind t = (if ("take" : Str) ∈ Txt.split t " " ∨ ("there" : Str) ∈ Txt.split t " " ∨ t = "slots = slots + 1" then !decide (kind = "put")
  else if t = "slots = slots - 1" then !decide (kind = "strike")
  else if t ∈ (["clear own", "a = room own.len"] : List Str) then !decide (kind ∈ (["strike", "set"] : List Str))
  else if ((Txt.split t " ").any fun w => decide (w ∈ (["no", "lay", "len"] : List Str))) = true then !decide (kind ∈ (["put", "set"] : List Str))
  else decide (kind = "pack") && (Txt.split t " ").any fun w => decide (L2.cutS w none (some 3) = "own")) := rfl
  have hwn : (Txt.split t " ").length ≤ 1001 := by have := split_count t (y := " ") (by decide +kernel); omega
  have hwl : ∀ z ∈ Txt.split t " ", z.length ≤ 1000 := fun z hz => Nat.le_trans (split_len _ _ z hz) htl
  generalize Txt.split t " " = ws at hq eL hwn hwl
  let S : L2.St := [some (.str kind), some (.str t), some (.ref q), none]
  have inW : ∀ {H' : Hp} (z : Str), Same H1 H' → EvT (tTest (tOp (rIn K false) (tC (.str z)) (tVar 2))) S H' (decide (z ∈ ws)) := fun z s => ev_test (ev_inS ev_C (fun _ _ => ev_var rfl) (.inl (.inl (s _ _ hq))))
  have kd : ∀ {H' : Hp} (z : Str), EvE (tOp rNe (tVar 0) (tC (.str z))) S H' (.bl (!decide (kind = z))) := fun {H'} z => by
    have := ev_ne (σ := S) (H := H') (ev_var (i := 0) (v := .str kind) rfl) (fun _ _ => ev_C (v := .str z)) rfl
    rw [dcS] at this
    exact this
  have kn : ∀ {H' : Hp} (y z : Str), EvE (tOp (rIn K true) (tVar 0) (tLst (tCons (tC (.str y)) (tCons (tC (.str z)) tNil)))) S H' (.bl (!decide (kind ∈ [y, z]))) := fun y z => ev_notin (ev_var rfl) (in_lst (ns := [y, z]) fun _ => ev_cons ev_C fun _ _ => ev_cons ev_C fun _ _ => ev_nil)
  refine seq_if (σ := S) (ev_or (inW "take" (Same.rf _)) fun _ H2 s2 => ev_or (inW "there" s2) fun _ H3 s3 => eq_str (ev_var rfl) fun _ _ => ev_C) (fun g H2 s2 => ?_) (fun g H2 s2 => ?_)
  · rw [Bool.or_eq_true, Bool.or_eq_true] at g
    rw [if_pos (g.imp of_decide_eq_true fun g => g.imp of_decide_eq_true of_decide_eq_true)] at eL
    exact ret_go (kd "put" _ fun H3 s3 => fin _ H3 eL ((s1.tr s2).tr s3))
  rw [Bool.or_eq_false_iff, Bool.or_eq_false_iff] at g
  rw [if_neg (fun z => z.elim (of_decide_eq_false g.1) fun z => z.elim (of_decide_eq_false g.2.1) (of_decide_eq_false g.2.2))] at eL
  refine seq_if (σ := S) (eq_str (ev_var rfl) fun _ _ => ev_C) (fun g H3 s3 => ?_) (fun g H3 s3 => ?_)
  · rw [if_pos (of_decide_eq_true g)] at eL
    exact ret_go (kd "strike" _ fun H4 s4 => fin _ H4 eL ((s1.tr (s2.tr s3)).tr s4))
  rw [if_neg (of_decide_eq_false g)] at eL
  refine seq_if (σ := S) (ev_test (ev_in (ns := ["clear own", "a = room own.len"]) (ev_var rfl) (in_lst (ns := ["clear own", "a = room own.len"]) fun _ => ev_cons ev_C fun _ _ => ev_cons ev_C fun _ _ => ev_nil))) (fun g H4 s4 => ?_) (fun g H4 s4 => ?_)
  · rw [if_pos (of_decide_eq_true g)] at eL
    exact ret_go (kn "strike" "set" _ fun H5 s5 => fin _ H5 eL ((s1.tr (s2.tr (s3.tr s4))).tr s5))
  rw [if_neg (of_decide_eq_false g)] at eL
  have s04 := s1.tr (s2.tr (s3.tr s4))
  have hq4 := (s2.tr (s3.tr s4)) _ _ hq
  have t5 : EvT (tTest (tOp (rNil K not) (tLc (iList K (tVar 2)) (gName 3) (tTest (tOp (rIn K false) (tVar 3) (tLst (tCons (tC (V.str "no")) (tCons (tC (V.str "lay")) (tCons (tC (V.str "len")) tNil)))))) (tVar 3) (List.map (fun x => x.snd) [(Str.ofString "_law_word", 3)])) (tLst tNil))) S H4 (ws.any fun w => decide (w ∈ (["no", "lay", "len"] : List Str))) :=
    ev_test (any_neE (K := K) (f := fun w => decide (w ∈ (["no", "lay", "len"] : List Str))) (.inl (.inl hq4)) (by omega) fun H' z hz s => ev_test (ev_in (ns := ["no", "lay", "len"]) (ev_var rfl) (in_lst (ns := ["no", "lay", "len"]) fun _ => ev_cons ev_C fun _ _ => ev_cons ev_C fun _ _ => ev_cons ev_C fun _ _ => ev_nil)))
  refine seq_if (σ := S) t5 (fun g H5 s5 => ?_) (fun g H5 s5 => ?_)
  · rw [if_pos g] at eL
    exact ret_go (kn "put" "set" _ fun H6 s6 => fin _ H6 eL ((s04.tr s5).tr s6))
  rw [if_neg (by rw [g]; decide)] at eL
  have e0 : EvE (tOp rEq (tVar 0) (tC (.str "pack"))) S H5 (.bl (decide (kind = "pack"))) := by
    have := ev_eq (σ := S) (H := H5) (ev_var (i := 0) (v := .str kind) rfl) (fun _ _ => ev_C (v := .str "pack")) rfl
    rw [dcS] at this
    exact this
  refine ret_go (ev_andV e0 (fun _ H6 s6 => any_neE (K := K) (f := fun w => decide (L2.cutS w none (some 3) = "own")) (.inl (.inl ((s5.tr s6) _ _ hq4))) (by omega) (fun H' z hz s => eq_str (ev_cutA (ev_var rfl) (by have := hwl z hz; omega)) fun _ _ => ev_C)) _ fun H7 s7 => fin _ H7 eL ((s04.tr s5).tr s7))
end
end K03


set_option Elab.async false
set_option linter.all false
set_option maxRecDepth 100000
set_option maxHeartbeats 4000000
namespace K03
open PySem PySem.Spec PyProof.Rows L2 Rdr Tld Pgr LmX LamX NdefX
section
variable {P : Program} {w : World} {K : PySem.W.Frag} {mg : Str → Option Value} {base : Heap}
theorem char_at {t : Str} (h : isReg t = true) : ∃ c, atI t.cps.toList 0 = some c ∧ char0 t = ⟨#[c]⟩ := by
  have h := of_decide_eq_true h
  unfold char0
  cases e : t.cps.toList with
  | nil =>
    have e2 : t = Str.ofString "" := by
      cases t with
      | mk c =>
        have : c = #[] := Array.toList_eq_nil_iff.mp e
        subst this
        rfl
    subst e2
    exact absurd h (by decide +kernel)
  | cons c r => exact ⟨c, atI_nat (j := 0) rfl, rfl⟩
theorem rep_go {σ : L2.St} {H : Hp} {fa : Addr} {F : List Nat} {l : Nat} {b : Bool} {tb : TE} {Q : VK} (h2 : σ[2]? = some (some (.ref fa))) (h5 : σ[5]? = some (some (.int (l : Nat)))) (hf : H fa = some (.lst (nl F))) (hb : ∀ H1, Same H H1 → EvE tb σ H1 (.bl b)) (hl : F.length ≤ 100000)
    (k : ∀ q H', Same H H' → H q = none → H' q = some (.lst (nl (F ++ ifL b l))) → Q (.ref q) H') :
    tOp rCat (tVar 2) (tOp rRep (tLst (tCons (tVar 5) tNil)) (tCB (fun xs H Q => (∃ i, xs = [V.int i] ∧ Q (V.int i) H) ∨ ∃ k, xs = [V.bl k] ∧ Q (V.int (if k = true then 1 else 0)) H) (tCons tb tNil))) σ H Q := by
  have q9 : sizeLine = 16777216 := sizeLine_eq
  refine op_go (var_go h2 (op_go (mk_lst (vs := [.int (l : Nat)]) (ev_cons (ev_var h5) fun _ _ => ev_nil) fun H1 q1 s1 _ hq1 => cb_go (cons_go (hb H1 s1 _ fun H2 s2 => nil_go (.inr ⟨b, rfl, ?_⟩))))))
  have ek : (List.replicate (if b = true then (1 : Int) else 0).toNat [V.int (l : Nat)]).flatten = nl (ifL b l) := by cases b <;> rfl
  refine ⟨q1, _, [.int (l : Nat)], rfl, rfl, s2 _ _ hq1, by cases b <;> decide, by cases b <;> decide, by cases b <;> simp <;> omega, fun p hp => ?_⟩
  rw [ek]
  have s3 : Same H2 (upd H2 p (.lst (nl (ifL b l)))) := Same.new hp
  have i3 : upd H2 p (.lst (nl (ifL b l))) p = some (.lst (nl (ifL b l))) := upd_same
  generalize upd H2 p (.lst (nl (ifL b l))) = H3 at s3 i3 ⊢
  have s03 := s1.tr (s2.tr s3)
  refine ⟨fa, p, _, _, rfl, rfl, s03 _ _ hf, i3, ?_, fun q hq => k q _ (s03.tr (Same.new hq)) (none_of s03 hq) (by rw [upd_same, nl_app])⟩
  rw [nl_len, nl_len]
  have := ifL_len b l
  omega
structure FF (H : Hp) (fa sa da : Addr) (H' : Hp) (F : List Nat) (S D : List Str) : Prop where
  hs : Same H H'
  hf : H' fa = some (.lst (nl F))
  hS : H' sa = some (.lst (S.map V.str))
  hd : H' da = some (.lst (D.map V.str))
  fd : fa ≠ da
  sf : sa ≠ fa
  sd : sa ≠ da
  f0 : H fa = none
  d0 : H da = none
section
variable {H H' H2 : Hp} {fa sa da : Addr} {F : List Nat} {S D : List Str}
theorem FF.up (h : FF H fa sa da H' F S D) (s : Same H' H2) : FF H fa sa da H2 F S D := ⟨h.hs.tr s, s _ _ h.hf, s _ _ h.hS, s _ _ h.hd, h.fd, h.sf, h.sd, h.f0, h.d0⟩
theorem FF.appF (h : FF H fa sa da H' F S D) (n : Nat) : FF H fa sa da (upd H' fa (.lst (nl F ++ [.int (n : Nat)]))) (F ++ [n]) S D :=
  ⟨h.hs.mut h.f0, (by rw [upd_same, ← nl_app]; rfl), (by rw [upd_ne h.sf]; exact h.hS), (by rw [upd_ne (Ne.symm h.fd)]; exact h.hd), h.fd, h.sf, h.sd, h.f0, h.d0⟩
theorem FF.appD (h : FF H fa sa da H' F S D) (z : Str) : FF H fa sa da (upd H' da (.lst (D.map V.str ++ [.str z]))) F S (D ++ [z]) :=
  ⟨h.hs.mut h.d0, (by rw [upd_ne h.fd]; exact h.hf), (by rw [upd_ne h.sd]; exact h.hS), (by rw [upd_same, List.map_append]; rfl), h.fd, h.sf, h.sd, h.f0, h.d0⟩
theorem FF.newF (h : FF H fa sa da H' F S D) {q : Addr} {G : List Nat} (s : Same H' H2) (h0 : H' q = none) (hq : H2 q = some (.lst (nl G))) : FF H q sa da H2 G S D :=
  ⟨h.hs.tr s, hq, s _ _ h.hS, s _ _ h.hd, (fun e => by rw [e, h.hd] at h0; cases h0), (fun e => by rw [← e, h.hS] at h0; cases h0), h.sd, none_of h.hs h0, h.d0⟩
theorem FF.newS (h : FF H fa sa da H' F S D) {q : Addr} {G : List Str} (s : Same H' H2) (h0 : H' q = none) (hq : H2 q = some (.lst (G.map V.str))) : FF H fa q da H2 F G D :=
  ⟨h.hs.tr s, s _ _ h.hf, hq, s _ _ h.hd, h.fd, (fun e => by rw [e, h.hf] at h0; cases h0), (fun e => by rw [e, h.hd] at h0; cases h0), h.f0, h.d0⟩
end
theorem lf_len1 (l : Nat) (t : Str) (S D : List Str) : (lf1 l t S D).length ≤ 5 := by
  have k1 := ifL_len (la1 t S) l
  have k2 := ifL_len (la2 t D) l
  have k3 := ifL_len (la3 t (dnA t D)) l
  have k4 := ifL_len (la4 t (dnA t D)) l
  have k5 := ifL_len (la5 t (dnA t D)) l
  unfold lf1
  rw [List.length_append, List.length_append, List.length_append, List.length_append]
  omega
theorem lfg_len (tx : Nat → Str) : ∀ (w : List Nat) (S D : List Str), (lfGo tx w S D).length ≤ 5 * w.length
  | [], _, _ => Nat.le_refl _
  | l :: r, S, D => by
    have h1 := lf_len1 l (tx l) S D
    have h2 := lfg_len tx r (if isReg (tx l) then S ++ [char0 (tx l)] else S) (dnA (tx l) D ++ [lonce (tx l)])
    show (lf1 l (tx l) S D ++ lfGo tx r _ _).length ≤ _
    rw [List.length_append, List.length_cons]
    omega
/-- late = [each for each in [..] if each in done] -/
theorem late_go {a b f s e6 e7 e8 e9 : Option V} {lv : Option V} {H : Hp} {da : Addr} {D : List Str} {ks : List Str} {ta : TA} {r : TS} {DD : Ends} (hd : H da = some (.lst (D.map V.str))) (ha : ∀ H, EvA ta [a, b, f, s, some (.ref da), lv, e6, e7, e8, e9, none] H (ks.map V.str)) (hk : Nat.ble (ks.map V.str).length 1000 = true) {u10 : Option V}
    (ha2 : ∀ H, EvA ta [a, b, f, s, some (.ref da), lv, e6, e7, e8, e9, u10] H (ks.map V.str))
    (k : ∀ q H', Same H H' → (∀ H2, Same H' H2 → EvT (tTest (tOp (rNil K not) (tVar 9) (tLst tNil))) [a, b, f, s, some (.ref da), lv, e6, e7, e8, some (.ref q), u10] H2 (ks.any fun z => decide (z ∈ D))) → r DD [a, b, f, s, some (.ref da), lv, e6, e7, e8, some (.ref q), u10] H') :
    tSeq (tAsg (tLc (iList K (tLst ta)) (gName 10) (tTest (tOp (rIn K false) (tVar 10) (tVar 4))) (tVar 10) (List.map (fun x => x.snd) [(Str.ofString "_law_each", 10)])) (gName 9)) r DD [a, b, f, s, some (.ref da), lv, e6, e7, e8, e9, u10] H := by
  have hkl : ks.length ≤ 1000 := by rw [List.length_map] at hk; exact Nat.le_of_ble_eq_true hk
  refine set_te (lc_of (fun pa xs H1 => Same H H1 ∧ H1 pa = some (.lst xs) ∧ xs = ks.map V.str) (fun R hR => mk_lst (ha2 H) (fun H1 T s1 _ hT => hR T _ H1 ⟨s1, hT, rfl⟩) hk) ?_)
  rintro pa _ H1 ⟨s1, hpa, rfl⟩
  refine lc_dq (ks.map fun z => if z ∈ D then some (PyData.str z) else none) ev_C (.inl (.inl hpa)) (by rw [List.length_map, List.length_map]) (by rw [List.length_map]; omega) ?_ ?_
  · intro i u o H2 hu ho s2
    rw [List.getElem?_map] at hu ho
    obtain ⟨z, hz, rfl⟩ := Option.map_eq_some_iff.mp hu
    rw [hz] at ho
    cases ho
    have ht : EvT (tTest (tOp (rIn K false) (tVar 10) (tVar 4))) [a, b, f, s, some (.ref da), lv, e6, e7, e8, e9, some (.str z)] H2 (decide (z ∈ D)) := ev_test (ev_inS (ev_var rfl) (fun _ _ => ev_var rfl) (.inl (.inl ((s1.tr s2) _ _ hd))))
    refine ⟨[a, b, f, s, some (.ref da), lv, e6, e7, e8, e9, some (.str z)], fun R k => k, rfl, ?_⟩
    dsimp only
    by_cases g : z ∈ D
    · rw [decide_eq_true g] at ht
      rw [if_pos g]
      exact ⟨ht, fun H3 s3 => (ev_var (v := .str z) rfl).d fun _ _ => .str _⟩
    · rw [decide_eq_false g] at ht
      rw [if_neg g]
      exact ht
  · intro q ys H2 s2 _ hq hys
    rw [fm_fl] at hys
    have ey := dq_strs hys
    subst ey
    refine k q H2 (s1.tr s2) fun H3 s3 => ?_
    have e : (!((ks.filter fun z => decide (z ∈ D)).map V.str).isEmpty) = ks.any fun z => decide (z ∈ D) := by
      rw [List.isEmpty_map]
      clear hk hkl ha ha2 k hpa hys hq
      induction ks with
      | nil => rfl
      | cons x r ih =>
        rw [List.filter_cons, List.any_cons]
        cases decide (x ∈ D) with
        | true => rfl
        | false => exact ih
    rw [← e]
    exact ne_nilL (ev_var (i := 9) rfl) (.inl (.inl (s3 _ _ hq)))
def spLFs : Sp := fun vs H Q _ => ∃ (a b : Addr) (ls : List Str) (way : List Nat), vs = [.ref a, .ref b] ∧ H a = some (.lst (ls.map V.str)) ∧ H b = some (.lst (nl way)) ∧ (∀ t ∈ ls, t.length ≤ 1000) ∧ (∀ l ∈ way, l ≤ ls.length) ∧ way.length ≤ 3000 ∧
  ∀ q H', Same H H' → H q = none → H' q = some (.lst (nl (lfGo (txOf ls) (pos way) [] []))) → Q (.ref q) H'
theorem ok_l_faults (T : Tx P w K mg) : FnX P w K mg base CX0 2 "_law_faults" ["_law_lines_here", "_law_told"] [] spLFs := by
  have F_l_once := ok_l_once (base := base) T
  refine T.d_l_faults.ok0 sc_l_faults (fun _ _ _ _ _ _ us hl => match us, hl with | [_, _], _ => rfl) (fun vs H Q E h => ?_) (fun f cdv A outer s H vs Q E hr h => have hu := hu_of hr; ⟨_, (by exact (pss_cons (ps_asg (pe_tup (pa_cons (pe_lst pa_nil) (pa_cons (pe_lst pa_nil) (pa_cons (pe_lst pa_nil) pa_nil)))) (pg_tup rfl (pgs_cons (pg_name (i := 2) sc_l_faults.nd rfl (Or.inl rfl)) (pgs_cons (pg_name (i := 3) sc_l_faults.nd rfl (Or.inl rfl)) (pgs_cons (pg_name (i := 4) sc_l_faults.nd rfl (Or.inr rfl)) pgs_nil)))))
      (pss_cons (ps_for PassesOwn.never rfl (pi_list (pe_lc (own := [("_law_line", 5)]) (g := (gName 5))  (by rfl) sc_l_faults.nd (pi_list (pv 1)) (blkOk_by (own := [("_law_line", 5)]) (N := ["_law_lines_here", "_law_told", "_law_found", "_law_seen", "_law_done", "_law_line", "_law_text", "_law_name", "_law_word", "_law_late", "_law_each"]) (sc := defScope s_l_faults) (by decide +kernel)) (fun _ _ _ _ _ => (pg_name (i := 5) sc_l_faults.nd rfl (Or.inl rfl))) (fun _ _ _ _ _ => (pts_one (pt_cmpR op_gt (pv 5) pe_int (nomark _)))) (fun _ _ _ _ _ => (pv 5)))) (pg_name (i := 5) sc_l_faults.nd rfl (Or.inl rfl))
        (pss_cons (ps_set (i := 6) sc_l_faults.nd rfl (Or.inr rfl) (pe_ix ix_list (pv 0) (pe_op op_sub (pv 5) pe_int) (fun _ _ => rfl)))
      (pss_cons (ps_if (pt_cmpR op_in_seq (pe_slice sl_str (pv 6) po_none (po_some pe_int)) (pe_lst (pa_cons pe_str (pa_cons pe_str (pa_cons pe_str pa_nil)))) (by rfl)) (pss_cons (ps_set (i := 3) sc_l_faults.nd rfl (Or.inl rfl) (pe_op op_cat (pv 3) (pe_lst (pa_cons (pe_ix ix_str (pv 6) pe_int (fun _ _ => rfl)) pa_nil))))
      (pss_one (ps_set (i := 2) sc_l_faults.nd rfl (Or.inl rfl) (pe_op op_cat (pv 2) (pe_op op_rep (pe_lst (pa_cons (pv 5) pa_nil)) (pe_callTy call_int1 (by rfl) T.b_int (by decide +kernel) (pa_cons (pe_cmpR op_gt (pe_callB call_len_seq (by rfl) T.b_len (by decide +kernel) (pa_cons (pe_lc (own := [("_law_name", 7)]) (g := (gName 7))  (by rfl) sc_l_faults.nd (pi_list (pv 3)) (blkOk_by (own := [("_law_name", 7)]) (N := ["_law_lines_here", "_law_told", "_law_found", "_law_seen", "_law_done", "_law_line", "_law_text", "_law_name", "_law_word", "_law_late", "_law_each"]) (sc := defScope s_l_faults) (by decide +kernel)) (fun _ _ _ _ _ => (pg_name (i := 7) sc_l_faults.nd rfl (Or.inl rfl))) (fun _ _ _ _ _ => (pts_one (pt_cmpR op_eq (pv 7) (pe_ix ix_str (pv 6) pe_int (fun _ _ => rfl)) (nomark _)))) (fun _ _ _ _ _ => (pv 7))) pa_nil)) pe_int (nomark _)) pa_nil))))))) pss_nil)
      (pss_cons (ps_if (pt_cmpR op_in_str pe_str (pv 6) (by rfl)) (pss_cons (ps_expr (pe_bm PySem.F.plainAttrs_list PySem.F.slot_list_append PySem.F.type_list_append mt_append (pv 4) (pa_cons pe_str pa_nil)))
      (pss_one (ps_set (i := 2) sc_l_faults.nd rfl (Or.inl rfl) (pe_op op_cat (pv 2) (pe_op op_rep (pe_lst (pa_cons (pv 5) pa_nil)) (pe_callTy call_int1 (by rfl) T.b_int (by decide +kernel) (pa_cons (pe_cmpR op_gt (pe_bm PySem.F.plainAttrs_list PySem.F.slot_list_count PySem.F.type_list_count mt_lcountS (pv 4) (pa_cons pe_str pa_nil)) pe_int (nomark _)) pa_nil))))))) pss_nil)
      (pss_cons (ps_set (i := 8) sc_l_faults.nd rfl (Or.inl rfl) (pe_callX F_l_once (hr.mono (by first | decide | omega)) pass0 (pa_cons (pv 6) pa_nil)))
      (pss_cons (ps_if (PW.pt (pw_and (pt_cmpR op_ne (pv 8) pe_str (nomark _)) (pw_and1 (pt_cmpR op_in_seq (pv 8) (pv 4) (by rfl))))) (pss_one (ps_expr (pe_bm PySem.F.plainAttrs_list PySem.F.slot_list_append PySem.F.type_list_append mt_append (pv 2) (pa_cons (pv 5) pa_nil)))) pss_nil)
      (pss_cons (ps_setLc (i := 9) (own := [("_law_each", 10)]) (g := (gName 10))  (by rfl) sc_l_faults.nd rfl rfl (sw_true rfl rfl rfl (by decide +kernel)) (pi_list (pe_lst (pa_cons pe_str (pa_cons pe_str (pa_cons pe_str (pa_cons pe_str pa_nil)))))) (blkOk_by (own := [("_law_each", 10)]) (N := ["_law_lines_here", "_law_told", "_law_found", "_law_seen", "_law_done", "_law_line", "_law_text", "_law_name", "_law_word", "_law_late", "_law_each"]) (sc := defScope s_l_faults) (by decide +kernel)) (fun _ _ _ _ _ => (pg_name (i := 10) sc_l_faults.nd rfl (Or.inl rfl))) (fun _ _ _ _ _ => (pts_one (pt_cmpR (inS_at (K := K)) (pv 10) (pv 4) (by rfl)))) (fun _ _ _ _ _ => (pv 10)))
      (pss_cons (ps_if (PW.pt (pw_and (pt_cmpR op_eq (pv 8) pe_str (nomark _)) (pw_and1 (pt_cmpR (op_neNil hu) (pv 9) (pe_lst pa_nil) (nomark _))))) (pss_one (ps_expr (pe_bm PySem.F.plainAttrs_list PySem.F.slot_list_append PySem.F.type_list_append mt_append (pv 2) (pa_cons (pv 5) pa_nil)))) pss_nil)
      (pss_cons (ps_setLc (i := 9) (own := [("_law_each", 10)]) (g := (gName 10))  (by rfl) sc_l_faults.nd rfl rfl (sw_true rfl rfl rfl (by decide +kernel)) (pi_list (pe_lst (pa_cons pe_str (pa_cons pe_str (pa_cons pe_str pa_nil))))) (blkOk_by (own := [("_law_each", 10)]) (N := ["_law_lines_here", "_law_told", "_law_found", "_law_seen", "_law_done", "_law_line", "_law_text", "_law_name", "_law_word", "_law_late", "_law_each"]) (sc := defScope s_l_faults) (by decide +kernel)) (fun _ _ _ _ _ => (pg_name (i := 10) sc_l_faults.nd rfl (Or.inl rfl))) (fun _ _ _ _ _ => (pts_one (pt_cmpR (inS_at (K := K)) (pv 10) (pv 4) (by rfl)))) (fun _ _ _ _ _ => (pv 10)))
      (pss_cons (ps_if (PW.pt (pw_and (PW.pt (pw_or (pt_cmpR op_eq (pv 8) pe_str (nomark _)) (pw_or1 (pt_cmpR op_eq (pv 6) pe_str (nomark _))))) (pw_and1 (pt_cmpR (op_neNil hu) (pv 9) (pe_lst pa_nil) (nomark _))))) (pss_one (ps_expr (pe_bm PySem.F.plainAttrs_list PySem.F.slot_list_append PySem.F.type_list_append mt_append (pv 2) (pa_cons (pv 5) pa_nil)))) pss_nil)
      (pss_one (ps_expr (pe_bm PySem.F.plainAttrs_list PySem.F.slot_list_append PySem.F.type_list_append mt_append (pv 4) (pa_cons (pv 8) pa_nil))))))))))))))
      (pss_one (ps_ret (pv 2)))))), ?_⟩)
  · obtain ⟨a, b, ls, way, rfl, _⟩ := h
    rfl
  obtain ⟨a, b, ls, way, rfl, ha, hb, hok, hle, hwl, h0⟩ := h
  have q9 : sizeLine = 16777216 := sizeLine_eq
  refine asg_go (tup_go (cons_go (lst_go (nil_go ⟨szL rfl, fun f1 hf1 => cons_go (lst_go (nil_go ⟨szL rfl, fun s1 hs1 => cons_go (lst_go (nil_go ⟨szL rfl, fun d1 hd1 => nil_go ⟨szL rfl, fun q0 hq0 => ⟨q0, _, rfl, .inl (.inl upd_same), rfl, _, _, rfl, _, _, rfl, _, _, rfl, rfl, ?_⟩⟩⟩))⟩))⟩))))
  have i0 : FF H f1 s1 d1 (upd (upd (upd (upd H f1 (.lst [])) s1 (.lst [])) d1 (.lst [])) q0 (.tup [.ref f1, .ref s1, .ref d1])) [] [] [] := by
    have t1 : Same H (upd H f1 (.lst [])) := Same.new hf1
    have i1 : upd H f1 (.lst []) f1 = some (.lst []) := upd_same
    generalize upd H f1 (.lst []) = H1 at t1 i1 hs1 hd1 hq0 ⊢
    have t2 : Same H1 (upd H1 s1 (.lst [])) := Same.new hs1
    have i2 : upd H1 s1 (.lst []) s1 = some (.lst []) := upd_same
    generalize upd H1 s1 (.lst []) = H2 at t2 i2 hd1 hq0 ⊢
    have t3 : Same H2 (upd H2 d1 (.lst [])) := Same.new hd1
    have i3 : upd H2 d1 (.lst []) d1 = some (.lst []) := upd_same
    generalize upd H2 d1 (.lst []) = H3 at t3 i3 hq0 ⊢
    have t4 : Same H3 (upd H3 q0 (.tup [.ref f1, .ref s1, .ref d1])) := Same.new hq0
    exact ⟨t1.tr (t2.tr (t3.tr t4)), t4 _ _ (t3 _ _ (t2 _ _ i1)), t4 _ _ (t3 _ _ i2), t4 _ _ i3, (fun e => by rw [← e, t2 _ _ i1] at hd1; cases hd1), (fun e => by rw [e, i1] at hs1; cases hs1), (fun e => by rw [← e, i2] at hd1; cases hd1), hf1, none_of (t1.tr t2) hd1⟩
  generalize upd (upd (upd (upd H f1 (.lst [])) s1 (.lst [])) d1 (.lst [])) q0 (.tup [.ref f1, .ref s1, .ref d1]) = H2 at i0 ⊢
  have s02 := i0.hs
  let ps := pos way
  have hpl : ps.length ≤ 3000 := Nat.le_trans (List.length_filter_le _ _) hwl
  have hWl : (lfGo (txOf ls) ps [] []).length ≤ 15000 := by have := lfg_len (txOf ls) ps [] []; omega
  let Y : Addr → Addr → Addr → Option V → Option V → Option V → Option V → Option V → Option V → L2.St := fun fa sa da u5 u6 u7 u8 u9 u10 => [some (.ref a), some (.ref b), some (.ref fa), some (.ref sa), some (.ref da), u5, u6, u7, u8, u9, u10]
  refine nx_for (for_te2 (K := K) (fun q ys H3 => Same H2 H3 ∧ H2 q = none ∧ H3 q = some (.lst ys) ∧ ys = nl ps)
    (fun q ys H3 i σ H' => H' q = some (.lst (nl ps)) ∧ ∃ (fa sa da : Addr) (F : List Nat) (S D : List Str) (u5 u6 u7 u8 u9 u10 : Option V), σ = Y fa sa da u5 u6 u7 u8 u9 u10 ∧ FF H fa sa da H' F S D ∧ fa ≠ q ∧ da ≠ q ∧ S.length ≤ i ∧ D.length ≤ 2 * i ∧ lfGo (txOf ls) ps [] [] = F ++ lfGo (txOf ls) (ps.drop i) S D)
    (fun R hR => lc_dq (way.map fun n => if 0 < n then some (PyData.int (n : Nat)) else none) (ev_var rfl) (.inl (.inl (s02 _ _ hb))) (by rw [List.length_map]; exact (List.length_map _).symm) (by rw [List.length_map]; omega) (fun j u o H5 hu ho s5 => ?_) (fun q ys H5 s5 hq0 hq hys => hR q ys H5 ⟨s5, hq0, hq, ?_⟩))
    (fun q ys H3 h => .inl (.inl h.2.2.1)) (fun q ys H3 ⟨s3, hq0, hq, e⟩ => ⟨e ▸ hq, f1, s1, d1, [], [], [], none, none, none, none, none, none, rfl, i0.up s3, (fun e => by rw [← e, i0.hf] at hq0; cases hq0), (fun e => by rw [← e, i0.hd] at hq0; cases hq0), Nat.le_refl _, Nat.le_refl _, rfl⟩)
    (fun q ys H3 i σ H' h _ k => .inl (.inl (h.2.2.2 ▸ k.1))) ?_ ?_)
  · unfold nl at hu
    rw [List.getElem?_map] at hu
    obtain ⟨n, hn, rfl⟩ := Option.map_eq_some_iff.mp hu
    rw [List.getElem?_map, hn] at ho
    cases ho
    refine ⟨Y f1 s1 d1 (some (.int (n : Nat))) none none none none none, fun R k => k, rfl, ?_⟩
    have ht : EvT (tTest (tOp (rI0 fun i j => V.bl (decide (j < i))) (tVar 5) (tC (.int 0)))) (Y f1 s1 d1 (some (.int (n : Nat))) none none none none none) H5 (decide ((0 : Int) < (n : Int))) := ev_test (ev_op (v := .bl _) (ev_var rfl) (fun _ _ => ev_C) fun _ _ Q q => ⟨_, _, rfl, rfl, q⟩)
    rw [show decide ((0 : Int) < (n : Int)) = decide (0 < n) from decide_eq_decide.mpr (by omega)] at ht
    dsimp only
    by_cases g : 0 < n
    · rw [if_pos g]
      exact ⟨ht.eq (decide_eq_true g), fun H6 s6 => (ev_var (i := 5) rfl).d fun _ _ => .int _⟩
    · rw [if_neg g]
      exact ht.eq (decide_eq_false g)
  · rw [fm_pos] at hys
    rw [dq_ints hys, List.map_map]
    rfl
  · rintro q ys H3 ⟨s3, hq0, hq, rfl⟩ i v σ H4 hv ⟨hq4, fa, sa, da, F, S, D, u5, u6, u7, u8, u9, u10, rfl, ff, hfq, hdq, hSl, hDl, hgo⟩
    unfold nl at hv
    rw [List.getElem?_map] at hv
    obtain ⟨l, hl, rfl⟩ := Option.map_eq_some_iff.mp hv
    have hil : i < ps.length := (List.getElem?_eq_some_iff.mp hl).1
    have hlm := List.mem_filter.mp (List.mem_of_getElem? hl)
    have l0 : 0 < l := of_decide_eq_true hlm.2
    have l1 : l ≤ ls.length := hle l hlm.1
    rw [drop_at hl] at hgo
    have hlt : ls[l - 1]? = some (txOf ls l) := by
      show _ = some (ls.getD (l - 1) "")
      rw [List.getD_eq_getElem?_getD, List.getElem?_eq_getElem (show l - 1 < ls.length by omega)]
      rfl
    have htl := hok _ (List.mem_of_getElem? hlt)
    have hgo2 : lfGo (txOf ls) (l :: ps.drop (i + 1)) S D = lf1 l (txOf ls l) S D ++ lfGo (txOf ls) (ps.drop (i + 1)) (if isReg (txOf ls l) then S ++ [char0 (txOf ls l)] else S) (dnA (txOf ls l) D ++ [lonce (txOf ls l)]) := rfl
    rw [hgo2] at hgo
    generalize htx : txOf ls l = tx at hlt htl hgo
    have hgo3 := hgo
    unfold lf1 at hgo3
    simp only [List.append_assoc] at hgo3
    have bd : ∀ {x y : List Nat}, lfGo (txOf ls) ps [] [] = x ++ y → x.length ≤ 100000 := fun {x y} e => by
      have := congrArg List.length e
      rw [List.length_append] at this
      omega
    have L0 : ∀ {H5 : Hp} {u6 : Option V}, Same H H5 → EvE (tOp (rIxL K) (tVar 0) (tOp (rI0 fun i j => V.int (i - j)) (tVar 5) (tC (.int 1)))) (Y fa sa da (some (.int (l : Nat))) u6 u7 u8 u9 u10) H5 (.str tx) := fun s => by
      refine ev_ixL (n := ((l - 1 : Nat) : Int)) (ev_var rfl) (fun _ _ => ev_op (v := .int ((l - 1 : Nat) : Int)) (ev_var rfl) (fun _ _ => ev_C) fun _ _ Q q => ⟨_, _, rfl, rfl, ?_⟩) (.inl (.inl (s _ _ ha))) (atI_nat (by rw [List.getElem?_map, hlt]; rfl))
      dsimp only
      rw [show ((l : Nat) : Int) - 1 = ((l - 1 : Nat) : Int) by omega]
      exact q
    refine nm (set_te (L0 (u6 := u6) ff.hs _ fun H5 s5 => ?_))
    have ff5 := ff.up s5
    have hq5 := s5 _ _ hq4
    let Z : Addr → Addr → Option V → Option V → Option V → L2.St := fun fa sa u8 u9 u10 => Y fa sa da (some (.int (l : Nat))) (some (.str tx)) u7 u8 u9 u10
    have V6 : ∀ {fa sa : Addr} {u8 u9 u10 : Option V} {H6 : Hp}, EvE (tVar 6) (Z fa sa u8 u9 u10) H6 (.str tx) := ev_var rfl
    -- registers
    refine seq_of (fun z H' => ∃ fa' sa', z = Z fa' sa' u8 u9 u10 ∧ FF H fa' sa' da H' (F ++ ifL (la1 tx S) l) (if isReg tx then S ++ [char0 tx] else S) D ∧ fa' ≠ q ∧ H' q = some (.lst (nl ps))) (fun N KN => ?_) ?_
    · refine do_if (σ := Z fa sa u8 u9 u10) (b1 := isReg tx) (ev_test (ev_in (ns := abc4) (ev_cutA V6 (by omega)) (in_lst (ns := abc4) fun _ => ev_cons ev_C fun _ _ => ev_cons ev_C fun _ _ => ev_cons ev_C fun _ _ => ev_nil))) (fun g H6 s6 => ?_) (fun g H6 s6 => ?_)
      · obtain ⟨c, hc, hc2⟩ := char_at g
        have ff6 := ff5.up s6
        have C0 : ∀ {fa sa : Addr} {x7 u8 u9 u10 : Option V} {H7 : Hp}, EvE (tOp rIxS (tVar 6) (tC (.int 0))) (Y fa sa da (some (.int (l : Nat))) (some (.str tx)) x7 u8 u9 u10) H7 (.str (char0 tx)) := fun {fa sa x7 u8 u9 u10 H7} => ev_op (x := .str tx) (y := .int 0) (ev_var rfl) (fun _ _ => ev_C) fun H8 _ Q k => ⟨tx, 0, c, rfl, rfl, by omega, hc, by rw [hc2] at k; exact k⟩
        refine set_te (cat_go (L := S) (M := [char0 tx]) (ev_var (i := 3) rfl) ff6.hS (fun H7 => ev_cons C0 fun _ _ => ev_nil) (by omega) fun q7 H7 s7 hq70 hq7 => ?_)
        have ff7 := ff6.newS s7 hq70 hq7
        have cE : ∀ H8, Same H7 H8 → EvE (tOp (rI0 fun i j => V.bl (decide (j < i))) (tCB (fun xs H Q => ∃ p ys, xs = [V.ref p] ∧ (SqL K H p ys ∨ SqT K H p ys) ∧ Q (V.int (ys.length : Nat)) H) (tCons (tLc (iList K (tVar 3)) (gName 7) (tTest (tOp rEq (tVar 7) (tOp rIxS (tVar 6) (tC (.int 0))))) (tVar 7) (List.map (fun x => x.snd) [(Str.ofString "_law_name", 7)])) tNil)) (tC (.int 3))) (Z fa q7 u8 u9 u10) H8 (.bl (la1 tx S)) := by
          intro H8 s8 Q k
          refine op_go (cb_go (cons_go (lc_dq ((S ++ [char0 tx]).map fun z => if z = char0 tx then some (PyData.str z) else none) (ev_var rfl) (.inl (.inl (s8 _ _ hq7))) (by rw [List.length_map, List.length_map]) (by rw [List.length_map, List.length_append, List.length_singleton]; omega) ?_ ?_)))
          · intro j u o H9 hu ho s9
            rw [List.getElem?_map] at hu ho
            obtain ⟨z, hz, rfl⟩ := Option.map_eq_some_iff.mp hu
            rw [hz] at ho
            cases ho
            have ht : EvT (tTest (tOp rEq (tVar 7) (tOp rIxS (tVar 6) (tC (.int 0))))) (Y fa q7 da (some (.int (l : Nat))) (some (.str tx)) (some (.str z)) u8 u9 u10) H9 (decide (z = char0 tx)) := eq_str (ev_var rfl) fun _ _ => C0
            refine ⟨Y fa q7 da (some (.int (l : Nat))) (some (.str tx)) (some (.str z)) u8 u9 u10, fun R k => k, rfl, ?_⟩
            dsimp only
            by_cases gz : z = char0 tx
            · rw [decide_eq_true gz] at ht
              rw [if_pos gz]
              exact ⟨ht, fun Ha sa => (ev_var (v := .str z) rfl).d fun _ _ => .str _⟩
            · rw [decide_eq_false gz] at ht
              rw [if_neg gz]
              exact ht
          · intro q9 ys H9 s9 _ hq9 hys
            refine nil_go ⟨q9, ys, rfl, .inl (.inl (.inl hq9)), c_go ⟨_, _, rfl, rfl, ?_⟩⟩
            have hl9 : ys.length = ctr (char0 tx) (S ++ [char0 tx]) := by
              rw [hys.len]
              unfold ctr
              generalize S ++ [char0 tx] = w
              clear hys
              induction w with
              | nil => rfl
              | cons x r ih =>
                rw [List.map_cons, List.filterMap_cons, List.countP_cons]
                by_cases gx : x = char0 tx
                · rw [if_pos gx]
                  show (List.filterMap id _).length + 1 = _
                  rw [ih]
                  simp [gx]
                · rw [if_neg gx]
                  show (List.filterMap id _).length = _
                  rw [ih]
                  simp [gx]
            have e : decide ((3 : Int) < (ys.length : Nat)) = la1 tx S := by
              unfold la1
              rw [g, Bool.true_and, hl9]
              exact decide_eq_decide.mpr (by omega)
            dsimp only
            rw [e]
            exact k H9 s9
        refine asg_go0 (rep_go (σ := Z fa q7 u8 u9 u10) rfl rfl ff7.hf cE (bd hgo) fun q8 H8 s8 hq80 hq8 => ?_)
        rw [if_pos g] at KN
        exact KN _ _ ⟨q8, q7, rfl, ff7.newF s8 hq80 hq8, (fun e => by rw [e, (s6.tr s7) _ _ hq5] at hq80; cases hq80), s8 _ _ ((s6.tr s7) _ _ hq5)⟩
      · rw [if_neg (by rw [g]; decide)] at KN
        refine KN _ _ ⟨fa, sa, rfl, ?_, hfq, s6 _ _ hq5⟩
        have e : la1 tx S = false := by unfold la1; rw [g]; rfl
        rw [e]
        show FF H fa sa da H6 (F ++ []) S D
        rw [List.append_nil]
        exact ff5.up s6
    rintro _ H6 ⟨fa6, sa6, rfl, ff6, hfq6, hq6⟩
    rw [← List.append_assoc] at hgo3
    generalize hF6 : F ++ ifL (la1 tx S) l = F6 at hgo3 ff6
    generalize hS6 : (if isReg tx then S ++ [char0 tx] else S) = S6 at hgo3 ff6
    -- divisions
    refine seq_of (fun z H' => ∃ fa', z = Z fa' sa6 u8 u9 u10 ∧ FF H fa' sa6 da H' (F6 ++ ifL (la2 tx D) l) S6 (dnA tx D) ∧ fa' ≠ q ∧ H' q = some (.lst (nl ps))) (fun N KN => ?_) ?_
    · have td : EvT (tTest (tOp (fun x y H Q => ∃ i j, x = V.str i ∧ y = V.str j ∧ Q (V.bl !(Builtin.Str.occurrences j i 0 j.length 1).isEmpty) H) (tC (.str " // ")) (tVar 6))) (Z fa6 sa6 u8 u9 u10) H6 (ldiv tx) := ev_test (ev_op ev_C (fun _ _ => V6) fun _ _ Q q => ⟨_, _, rfl, rfl, q⟩)
      refine do_if (σ := Z fa6 sa6 u8 u9 u10) td (fun g H7 s7 => ?_) (fun g H7 s7 => ?_)
      · have ff7 := ff6.up s7
        have eD : dnA tx D = D ++ [dv2] := by unfold dnA; rw [g]; rfl
        rw [eD] at KN
        refine do_drop ⟨_, rfl, .inl ⟨rfl, ⟨_, .inl (.inl ff7.hd)⟩⟩, cons_go (c_go (nil_go ⟨da, D.map V.str, _, rfl, rfl, ff7.hd, by rw [List.length_map]; omega, ?_⟩))⟩
        have ff8 := ff7.appD dv2
        have hq8 : upd H7 da (.lst (D.map V.str ++ [.str dv2])) q = some (.lst (nl ps)) := by rw [upd_ne (Ne.symm hdq)]; exact s7 _ _ hq6
        show tAsg _ _ _ _ (upd H7 da (.lst (D.map V.str ++ [.str dv2])))
        generalize upd H7 da (.lst (D.map V.str ++ [.str dv2])) = H8 at ff8 hq8 ⊢
        refine asg_go0 (rep_go (σ := Z fa6 sa6 u8 u9 u10) (b := la2 tx D) rfl rfl ff8.hf (fun H9 s9 => ?_) (bd hgo3) fun q9 H9 s9 hq90 hq9 => ?_)
        · intro Q k
          refine op_go ⟨_, rfl, .inl ⟨rfl, ⟨_, .inl (.inl (s9 _ _ ff8.hd))⟩⟩, cons_go (c_go (nil_go ⟨da, D ++ [dv2], dv2, rfl, rfl, .inl (.inl (s9 _ _ ff8.hd)), c_go ⟨_, _, rfl, rfl, ?_⟩⟩))⟩
          have e : decide ((2 : Int) < ((D ++ [dv2]).count dv2 : Nat)) = la2 tx D := by
            unfold la2
            rw [g, Bool.true_and]
            exact decide_eq_decide.mpr (by omega)
          dsimp only
          rw [e]
          exact k H9 (Same.rf _)
        · exact KN _ _ ⟨q9, rfl, ff8.newF s9 hq90 hq9, (fun e => by rw [e, hq8] at hq90; cases hq90), s9 _ _ hq8⟩
      · have eD : dnA tx D = D := by unfold dnA; rw [g]; rfl
        rw [eD] at KN
        refine KN _ _ ⟨fa6, rfl, ?_, hfq6, s7 _ _ hq6⟩
        have e : la2 tx D = false := by unfold la2; rw [g]; rfl
        rw [e]
        show FF H fa6 sa6 da H7 (F6 ++ []) S6 D
        rw [List.append_nil]
        exact ff6.up s7
    rintro _ H7 ⟨fa7, rfl, ff7, hfq7, hq7⟩
    rw [← List.append_assoc] at hgo3
    generalize hF7 : F6 ++ ifL (la2 tx D) l = F7 at hgo3 ff7
    have hDn : (dnA tx D).length ≤ 2 * i + 1 := by
      unfold dnA
      split
      · rw [List.length_append, List.length_singleton]; omega
      · omega
    generalize hD7 : dnA tx D = D7 at hgo3 ff7 hDn
    -- the word
    refine set_te (call_go (cons_go (var_go rfl (nil_go ⟨tx, rfl, htl, fun H8 s8 => ?_⟩))))
    have ff8 := ff7.up s8
    have hq8 := s8 _ _ hq7
    let w8 : Option V := some (.str (lonce tx))
    have V8 : ∀ {u9 u10 : Option V} {H9 : Hp}, EvE (tVar 8) (Z fa7 sa6 w8 u9 u10) H9 (.str (lonce tx)) := ev_var rfl
    have ap : ∀ {t : TT} {DD : Ends} {u9 u10 : Option V} {H9 : Hp} {G : List Nat} {b : Bool}, FF H fa7 sa6 da H9 G S6 D7 → H9 q = some (.lst (nl ps)) → G.length ≤ 100000 → EvT t (Z fa7 sa6 w8 u9 u10) H9 b → (∀ Ha, FF H fa7 sa6 da Ha (G ++ ifL b l) S6 D7 → Ha q = some (.lst (nl ps)) → DD.nx (Z fa7 sa6 w8 u9 u10) Ha) →
        tIfS t (tDrop (tBM K "list" rAppend (tVar 2) (tCons (tVar 5) tNil))) tNext DD (Z fa7 sa6 w8 u9 u10) H9 := by
      intro t DD u9 u10 H9 G b f9 q9' hG ht k
      refine do_if ht (fun g Ha sa => ?_) (fun g Ha sa => ?_)
      · have fa' := f9.up sa
        refine drop_go0 ⟨_, rfl, .inl ⟨rfl, ⟨_, .inl (.inl fa'.hf)⟩⟩, cons_go (var_go rfl (nil_go ⟨fa7, nl G, _, rfl, rfl, fa'.hf, by rw [nl_len]; omega, k _ ?_ (by rw [upd_ne (Ne.symm hfq7)]; exact sa _ _ q9')⟩))⟩
        rw [g]
        exact fa'.appF l
      · refine k Ha ?_ (sa _ _ q9')
        rw [g]
        show FF H fa7 sa6 da Ha (G ++ []) S6 D7
        rw [List.append_nil]
        exact f9.up sa
    refine nx_ifq (ap (b := la3 tx D7) (u9 := u9) (u10 := u10) ff8 hq8 (bd hgo3) (ev_and (ne_str V8 fun _ _ => ev_C) fun _ H9 s9 => ev_test (ev_inS V8 (fun _ _ => ev_var rfl) (.inl (.inl ((ff8.up s9).hd))))) fun H9 ff9 hq9 => ?_)
    rw [← List.append_assoc] at hgo3
    generalize hF9 : F7 ++ ifL (la3 tx D7) l = F9 at hgo3 ff9
    refine nx_seq (late_go (ks := late4) ff9.hd (fun _ => ev_cons ev_C fun _ _ => ev_cons ev_C fun _ _ => ev_cons ev_C fun _ _ => ev_cons ev_C fun _ _ => ev_nil) rfl (fun _ => ev_cons ev_C fun _ _ => ev_cons ev_C fun _ _ => ev_cons ev_C fun _ _ => ev_cons ev_C fun _ _ => ev_nil) fun lq Ha sa' htA => ?_)
    have ffa := ff9.up sa'
    have hqa := sa' _ _ hq9
    refine nx_ifq (ap (b := la4 tx D7) (u9 := some (.ref lq)) (u10 := u10) ffa hqa (bd hgo3) (ev_and (eq_str V8 fun _ _ => ev_C) fun _ Hb sb => htA Hb sb) fun Hb ffb hqb => ?_)
    rw [← List.append_assoc] at hgo3
    generalize hFb : F9 ++ ifL (la4 tx D7) l = Fb at hgo3 ffb
    refine nx_seq (late_go (ks := late3) ffb.hd (fun _ => ev_cons ev_C fun _ _ => ev_cons ev_C fun _ _ => ev_cons ev_C fun _ _ => ev_nil) rfl (fun _ => ev_cons ev_C fun _ _ => ev_cons ev_C fun _ _ => ev_cons ev_C fun _ _ => ev_nil) fun lq2 Hc sc' htC => ?_)
    have ffc := ffb.up sc'
    have hqc := sc' _ _ hqb
    refine nx_ifq (ap (b := la5 tx D7) (u9 := some (.ref lq2)) (u10 := u10) ffc hqc (bd hgo3) (ev_and (ev_or (eq_str V8 fun _ _ => ev_C) fun _ Hd sd => eq_str V6 fun _ _ => ev_C) fun _ Hd sd => htC Hd sd) fun Hd ffd hqd => ?_)
    rw [← List.append_assoc] at hgo3
    generalize hFd : Fb ++ ifL (la5 tx D7) l = Fd at hgo3 ffd
    refine nx_drop ⟨_, rfl, .inl ⟨rfl, ⟨_, .inl (.inl ffd.hd)⟩⟩, cons_go (var_go rfl (nil_go ⟨da, D7.map V.str, _, rfl, rfl, ffd.hd, by rw [List.length_map]; omega, ?_⟩))⟩
    refine ⟨by rw [upd_ne (Ne.symm hdq)]; exact hqd, fa7, sa6, da, Fd, S6, D7 ++ [lonce tx], _, _, _, _, _, _, rfl, ffd.appD (lonce tx), hfq7, hdq, ?_, ?_, hgo3⟩
    · rw [← hS6]
      split
      · rw [List.length_append, List.length_singleton]; omega
      · omega
    · rw [List.length_append, List.length_singleton]
      omega
  · rintro q ys H3 σ H4 ⟨s3, hq0, hq, rfl⟩ ⟨hq4, fa, sa, da, F, S, D, u5, u6, u7, u8, u9, u10, rfl, ff, hfq, hdq, hSl, hDl, hgo⟩
    rw [show (nl ps).length = ps.length from nl_len _, List.drop_length] at hgo
    have hgo : lfGo (txOf ls) ps [] [] = F ++ [] := hgo
    rw [List.append_nil] at hgo
    refine nx_ret (var_go rfl (h0 fa H4 ff.hs ff.f0 ?_))
    rw [show lfGo (txOf ls) (pos way) [] [] = F from hgo]
    exact ff.hf
end
end K03


set_option Elab.async false
set_option linter.all false
set_option maxRecDepth 100000
set_option maxHeartbeats 4000000
/-! lines joined and split again -/
namespace L2
open PySem PySem.Spec PyProof.Rows
theorem join_at {X : Cx} {K : PySem.W.Frag} {o e : Expr} {to te : TE} {apos pos : Pos} (ho : PE X o to) (he : PE X e te) (h : X.K = K := by rfl) (hs : starEach [e] X.env = [(false, eval e X.env)] := by rfl) (hbase : attributeBase o "join" X.env (eval o X.env) = eval o X.env := by rfl) (hline : (apos.endLine == pos.line) = true := by rfl) :
    PE X (.Call (.Attribute o "join" apos) [e] [] pos) (tM1 (fun x xs H Q => ∃ a p, ∃ ys : List Str, x = .str a ∧ xs = [.ref p] ∧ (SqL K H p (ys.map V.str) ∨ SqT K H p (ys.map V.str)) ∧
      (ys.map (·.length)).sum + ys.length * a.length ≤ 16777216 ∧ Q (.str (Txt.join a ys)) H) to te) := by
  subst h
  exact pe_join ho he hs hbase hline
def nlF (z : Str) : Bool := z.cps.all fun c => decide (c ≠ 10)
theorem nlF_tl {z : Str} (h : nlF z = true) : 10 ∉ TL.tl z := fun m => by
  unfold nlF at h
  rw [Array.all_eq_true'] at h
  exact of_decide_eq_true (h 10 (Array.mem_toList_iff.mp m)) rfl
theorem split_empty : Txt.split (Str.ofString "") K03.nlS = [Str.ofString ""] := by decide +kernel
theorem join_split {ls : List Str} (hne : ls ≠ []) (hn : ∀ z ∈ ls, nlF z = true) : Txt.split (Txt.join K03.nlS ls) K03.nlS = ls :=
  TL.split_join (s := 10) (S := []) (by decide +kernel) (by decide +kernel) hne (fun p hp => nlF_tl (hn p hp))
theorem lines_join {ls : List Str} (hn : ∀ z ∈ ls, nlF z = true) (h0 : ls ≠ [Str.ofString ""]) : K03.linesOf (Txt.join K03.nlS ls) = ls := by
  by_cases hne : ls = []
  · subst hne
    decide +kernel
  · have h1 := join_split hne hn
    unfold K03.linesOf
    rw [if_neg fun e => ?_]
    · exact h1
    · rw [e, split_empty] at h1
      exact h0 h1.symm
theorem joinL_len {s : List Nat} {B : Nat} : ∀ {ps : List (List Nat)}, (∀ p ∈ ps, p.length ≤ B) → (TL.joinL s ps).length ≤ ps.length * (B + s.length)
  | [], _ => by simp [TL.joinL]
  | [p], h => by
    have := h p (List.mem_singleton_self _)
    show p.length ≤ 1 * (B + s.length)
    omega
  | p :: q :: r, h => by
    have h1 := h p (List.mem_cons_self ..)
    have h2 := joinL_len (s := s) (ps := q :: r) (fun x hx => h x (List.mem_cons_of_mem _ hx))
    show (p ++ (s ++ TL.joinL s (q :: r))).length ≤ (r.length + 1 + 1) * (B + s.length)
    rw [List.length_append, List.length_append, Nat.add_mul]
    have h3 : (q :: r).length * (B + s.length) = (r.length + 1) * (B + s.length) := rfl
    omega
theorem join_len {ls : List Str} {B : Nat} (h : ∀ z ∈ ls, z.length ≤ B) : (Txt.join K03.nlS ls).length ≤ ls.length * (B + 1) := by
  rw [TL.len_tl, TL.join_eq, TL.tl_join]
  have h1 := joinL_len (s := TL.tl K03.nlS) (B := B) (ps := ls.map TL.tl) (fun p hp => by
    obtain ⟨z, hz, rfl⟩ := List.mem_map.mp hp
    rw [← TL.len_tl]
    exact h z hz)
  have : (TL.tl K03.nlS).length = 1 := by decide +kernel
  rw [this, List.length_map] at h1
  exact h1
theorem sum_le {B : Nat} : ∀ {ls : List Str}, (∀ z ∈ ls, z.length ≤ B) → (ls.map (fun x => x.length)).sum ≤ ls.length * B
  | [], _ => by simp
  | z :: r, h => by
    have h1 := h z (List.mem_cons_self ..)
    have h2 := sum_le (ls := r) (fun x hx => h x (List.mem_cons_of_mem _ hx))
    rw [List.map_cons, List.sum_cons, List.length_cons, Nat.add_mul]
    omega
end L2


set_option Elab.async false
set_option linter.all false
set_option maxRecDepth 100000
set_option maxHeartbeats 4000000
/-! a class whose __init__ has defaults, called in a try's body -/
namespace L2
open PySem PySem.Spec PyProof.Rows
section
variable {X : Cx} {CX : CXT} {k : Nat} {C : Addr} {ps : List Str} {sp : Sp} {E : St → XK} {x : Str}
def tMakeSd (C : Addr) (sp : Sp) (ds : List V) (E : St → XK) (t : TA) : TE := fun σ H Q => t σ H fun vs H1 => ∀ x dx, H1 x = none → H1 dx = none → dx ≠ x → sp (V.ref x :: (vs ++ ds)) (upd (upd H1 dx (.own x)) x (.ins C dx [])) (fun v H2 => v = .non ∧ Q (.ref x) H2) (E σ)
theorem pe_makeXSd {ds : List V} {p pos : Pos} {e : Expr} {es : List Expr} {t : TA} (F : MkX X.prog X.w X.K X.mg X.base CX k x C ps ds sp) (hr : Room (k + 1) X.A) (hx : ∀ z, PassesAt CX X z (E z)) (ha : PA X (e :: es) t) (hg : Gl X x := by rfl) (hdb : (x == ("__debug__" : Str)) = false := by decide)
    (he : starEach (e :: es) X.env = (false, eval e X.env) :: starEach es X.env := by rfl) (hpl : (backTo pos (starEach es X.env)).any (·.1) = false := by rfl) : PE X (.Call (.Name x p) (e :: es) [] pos) (tMakeSd C sp ds E t) := by
  obtain ⟨f, fd, dvs, hm, M, b, vd, G⟩ := F.ex
  refine ⟨fun pins s z H Q I h => wpAny_Call_Name_kw (ld_glob I hg hm ?_ hdb)⟩
  refine PySem.W.callWith_K (h₀ := X.base) I.ok.mod.kin M.kp (thn (ha.run pos pins s z H _ I h) fun us s1 hh => ?_) he hpl
  obtain ⟨vs, H1, I1, r, q⟩ := hh
  refine ⟨I1.kIn, ?_⟩
  have q2 := q (s1.heap.objs.size + 1) s1.heap.objs.size (I1.hok.fresh (Nat.le_succ _)) (I1.hok.fresh (Nat.le_refl _)) (Nat.ne_of_lt (Nat.lt_succ_self _))
  have J := Inv.made (C := C) I1
  have r2 : Vals (V.ref (s1.heap.objs.size + 1) :: (vs ++ ds)) (Value.ref (s1.heap.objs.size + 1) :: (us ++ dvs)) := .cons rfl (r.append vd)
  have hl : (Value.ref (s1.heap.objs.size + 1) :: (us ++ dvs)).length = ps.length := by
    have e1 := r2.length
    rw [G.len _ _ _ _ q2] at e1
    exact e1.symm
  have b2 := b _ (Value.ref (s1.heap.objs.size + 1) :: us) J.kIn hl
  refine wpAny_call (make_map (f := f) I1.kIn M.makes M.init (beq_iff_eq.mp M.fn) (codeAny_mono (G.run _ X.stack _ _ ⟨Value.ref (s1.heap.objs.size + 1) :: us, []⟩ (Value.ref (s1.heap.objs.size + 1) :: (us ++ dvs)) _ _ (E z) (hr.make C us []) (J.env0.make C us []) b2 r2 q2) fun r9 s9 h9 => ?_))
  cases r9 with
  | error e9 => exact hx z pins _ _ e9 s9 J h9
  | ok fl =>
    cases fl with
    | ret u =>
      obtain ⟨v, H', I3, rv, ev, q3⟩ := J.after h9
      subst ev
      exact ⟨rv, V.ref (s1.heap.objs.size + 1), H', I3, rfl, q3⟩
    | next => exact False.elim h9
    | brk => exact False.elim h9
    | cont => exact False.elim h9
end
end L2


set_option Elab.async false
set_option linter.all false
set_option maxRecDepth 100000
set_option maxHeartbeats 4000000
namespace K03
open PySem PySem.Spec PyProof.Rows L2 Rdr Tld Pgr LmX LamX NdefX
section
variable {P : Program} {w : World} {K : PySem.W.Frag} {mg : Str → Option Value} {base : Heap}
theorem leafs_nl : ∀ kind ∈ kinds4, ∀ t ∈ leafs kind, L2.nlF t = true ∧ t ≠ Str.ofString "" := by decide +kernel
theorem tests_nl : ∀ t ∈ tests, L2.nlF t = true ∧ t ≠ Str.ofString "" := by decide +kernel
theorem ends_nl : (L2.nlF elseS = true ∧ elseS ≠ Str.ofString "") ∧ (L2.nlF endS = true ∧ endS ≠ Str.ofString "") := by decide +kernel
theorem lawt_nl {kind : Str} (hk : kind ∈ kinds4) {t : LT} (h : LawT kind t) : ∀ z ∈ t.lines, L2.nlF z = true ∧ z ≠ Str.ofString "" := fun z hz => by
  rcases lawt_lines hk t h z hz with h | h | h | h
  · exact leafs_nl kind hk z h
  · exact tests_nl z h
  · rw [h]; exact ends_nl.1
  · rw [h]; exact ends_nl.2
theorem lawt_join {kind : Str} (hk : kind ∈ kinds4) {t : LT} (h : LawT kind t) : linesOf (Txt.join nlS t.lines) = t.lines :=
  L2.lines_join (fun z hz => (lawt_nl hk h z hz).1) (fun e => (lawt_nl hk h (Str.ofString "") (by rw [e]; exact List.mem_cons_self ..)).2 rfl)
theorem lnb {z : Str} (h : lnB z = true) : z.length ≤ 60 ∧ PyData.strOk z = true := by
  unfold lnB at h
  rw [Bool.and_eq_true, Bool.and_eq_true] at h
  exact ⟨of_decide_eq_true h.1.1, h.1.2⟩
theorem exists_min : ∀ (l : List Nat), l ≠ [] → ∃ n ∈ l, ∀ j ∈ l, n ≤ j
  | [], h => absurd rfl h
  | [a], _ => ⟨a, List.mem_cons_self .., fun j hj => by rw [List.mem_singleton] at hj; omega⟩
  | a :: b :: r, _ => by
    obtain ⟨n, hn, h⟩ := exists_min (b :: r) (by simp)
    by_cases g : a ≤ n
    · exact ⟨a, List.mem_cons_self .., fun j hj => by
        rcases List.mem_cons.mp hj with e | hj
        · omega
        · have := h j hj; omega⟩
    · exact ⟨n, List.mem_cons_of_mem _ hn, fun j hj => by
        rcases List.mem_cons.mp hj with e | hj
        · omega
        · exact h j hj⟩
def strO (kind : Str) : List Str → Nat → List (Option PyData)
  | [], _ => []
  | t :: r, k => (if lstr kind t = true then some (PyData.int ((k + 1 : Nat) : Int)) else none) :: strO kind r (k + 1)
theorem strO_len (kind : Str) : ∀ (ls : List Str) (k : Nat), (strO kind ls k).length = ls.length
  | [], _ => rfl
  | t :: r, k => congrArg Nat.succ (strO_len kind r (k + 1))
theorem strO_at (kind : Str) : ∀ (ls : List Str) (k i : Nat) (o : Option PyData), (strO kind ls k)[i]? = some o → ∃ t, ls[i]? = some t ∧ o = if lstr kind t = true then some (PyData.int ((k + i + 1 : Nat) : Int)) else none
  | [], _, i, o, h => by cases h
  | t :: r, k, 0, o, h => by cases h; exact ⟨t, rfl, rfl⟩
  | t :: r, k, i + 1, o, h => by
    obtain ⟨t2, h1, h2⟩ := strO_at kind r (k + 1) i o h
    exact ⟨t2, h1, by rw [h2, show k + 1 + i + 1 = k + (i + 1) + 1 by omega]⟩
theorem strO_fm (kind : Str) : ∀ (ls : List Str) (k : Nat), (strO kind ls k).filterMap id = ((strL kind ls k).map fun n : Nat => (n : Int)).map PyData.int
  | [], _ => rfl
  | t :: r, k => by
    have ih := strO_fm kind r (k + 1)
    show List.filterMap id (_ :: _) = ((ifL (lstr kind t) (k + 1) ++ strL kind r (k + 1)).map _).map _
    rw [List.filterMap_cons, ih]
    cases lstr kind t <;> rfl
theorem strL_len (kind : Str) : ∀ (ls : List Str) (k : Nat), (strL kind ls k).length ≤ ls.length
  | [], _ => Nat.le_refl _
  | t :: r, k => by
    have h1 := ifL_len (lstr kind t) (k + 1)
    have h2 := strL_len kind r (k + 1)
    show (ifL _ _ ++ strL kind r (k + 1)).length ≤ r.length + 1
    rw [List.length_append]
    omega
theorem lcr1_dq {te : TE} {g : TG} {tt : TT} {vs : List Nat} {σ : L2.St} {H : Hp} {ta : TA} {n : Nat} (os : List (Option PyData)) (he : EvA ta σ H [.int (n : Nat)]) (hn : n ≤ 1000000) (hl : os.length = n)
    (step : ∀ (i : Nat) (o : Option PyData) (H' : Hp), os[i]? = some o → Same H H' → LcStep K g tt te vs σ (.int (i : Nat)) H' o) {Q : VK} (k : ∀ q ys H', Same H H' → H q = none → H' q = some (.lst ys) → DqAll K H' ys (os.filterMap id) → Q (.ref q) H') : tLc (iRng1 ta) g tt te vs σ H Q :=
  he _ fun H1 s1 => ⟨(n : Nat), rfl, by omega, by omega, fun D hD => by
    refine lc_range (lo := 0) (fun i H' => Same H1 H' ∧ ∃ ac, H' D = some (.lst ac) ∧ DqAll K H' ac ((os.take i).filterMap id)) ⟨Same.new hD, [], upd_same, .nil⟩ ?_ (fun H2 h => ?_)
    · rintro i H2 hi ⟨s2, acc, hacc, hd⟩
      have ho : os[i]? = some os[i] := List.getElem?_eq_getElem (by omega)
      have := lc_stepOk (by omega) ho hD s2 (step i _ H2 ho (s1.tr s2)) hacc hd
      rw [show (0 : Int) + (i : Int) = ((i : Nat) : Int) by omega]
      exact this
    · obtain ⟨s2, acc, hacc, hd⟩ := h
      rw [show ((n : Nat) : Int).toNat = os.length by omega, List.take_length] at hd
      exact k D acc H2 (s1.tr s2) (none_of s1 hD) hacc hd⟩
def spLaw (K : PySem.W.Frag) : Sp := fun vs H Q E => ∃ (a : Addr) (xs : List Int), vs = [.ref a] ∧ SqL K H a (xs.map V.int) ∧ ∀ H', Q (.bl true) H'
theorem ok_law (T : Tx P w K mg) {f : Addr} {fd : FuncData} (F : FunD K "law" "law" (defArgs s_law) (defBody s_law) (defScope s_law) [] [] f fd) : FnOk P w K mg base CX0 140 f fd ["_law_script"] (spLaw K) := by
  have F_l_bag := ok_bag (w := w) (base := base) T
  have F_l_draw := ok_draw (w := w) (base := base) T
  have F_l_lines := ok_l_lines (base := base) T 3
  have F_l_ways := ok_l_ways (base := base) T 3
  have F_l_strange := ok_l_strange (base := base) T
  have F_l_faults := ok_l_faults (base := base) T
  have F_PageRules := ok_rules3 (base := base) T
  have F_PageCode := ok_page (base := base) T
  refine L2.FunD.ok0 F sc_law (fun vs H Q E h => ?_) (fun cdv A outer s H vs Q E hr h => have hu := hu_of hr; ⟨_, (by exact (pss_cons (ps_set (i := 1) sc_law.nd rfl (Or.inl rfl) (pe_callX F_l_bag (hr.mono (by first | decide | omega)) pass0 (pa_cons (pv 0) pa_nil)))
      (pss_cons (ps_for PassesOwn.never rfl (pi_range1 rfl T.b_range (pa_cons pe_int pa_nil)) (pg_name (i := 2) sc_law.nd rfl (Or.inl rfl))
        (pss_cons (ps_set (i := 3) sc_law.nd rfl (Or.inr rfl) (pe_ix ix_list (pe_lst (pa_cons pe_str (pa_cons pe_str (pa_cons pe_str (pa_cons pe_str pa_nil))))) (pe_callX F_l_draw (hr.mono (by first | decide | omega)) pass0 (pa_cons (pv 1) (pa_cons pe_int pa_nil))) (fun _ _ => rfl)))
      (pss_cons (ps_set (i := 4) sc_law.nd rfl (Or.inr rfl) (pe_callX F_l_lines (hr.mono (by first | decide | omega)) pass0 (pa_cons (pv 1) (pa_cons (pv 3) (pa_cons pe_int (pa_cons (pe_lst (pa_cons pe_int (pa_cons pe_int (pa_cons pe_int (pa_cons pe_int pa_nil))))) pa_nil))))))
      (pss_cons (ps_set (i := 4) sc_law.nd rfl (Or.inr rfl) (pe_ifExp (pt_cmpR op_le (pe_callB call_len_seq (by rfl) T.b_len (by decide +kernel) (pa_cons (pv 4) pa_nil)) pe_int (nomark _)) (pv 4) (pe_lst (pa_cons pe_str pa_nil))))
      (pss_cons (ps_setLc (i := 5) (own := [("_law_k", 6)]) (g := (gName 6))  (by rfl) sc_law.nd rfl rfl (sw_true rfl rfl rfl (by decide +kernel)) (pi_range1 rfl T.b_range (pa_cons (pe_callB call_len_seq (by rfl) T.b_len (by decide +kernel) (pa_cons (pv 4) pa_nil)) pa_nil)) (blkOk_by (own := [("_law_k", 6)]) (N := ["_law_script", "_law_bag_here", "_law_turn", "_law_kind", "_law_lines_here", "_law_faults_here", "_law_k", "_law_told", "_law_due", "_law_found", "e"]) (sc := defScope s_law) (by decide +kernel)) (fun _ _ _ _ _ => (pg_name (i := 6) sc_law.nd rfl (Or.inl rfl))) (fun _ _ _ _ _ => (pts_one (pt_val (pe_callX F_l_strange (hr.mono (by first | decide | omega)) pass0 (pa_cons (pv 3) (pa_cons (pe_ix (ixL_at (K := K)) (pv 4) (pv 6) (fun _ _ => rfl)) pa_nil)))))) (fun _ _ _ _ _ => (pe_op op_add (pv 6) pe_int)))
      (pss_cons (ps_for PassesOwn.never rfl (pi_list (pe_callX F_l_ways (hr.mono (by first | decide | omega)) pass0 (pa_cons (pv 4) (pa_cons pe_int (pa_cons (pe_op op_add (pe_callB call_len_seq (by rfl) T.b_len (by decide +kernel) (pa_cons (pv 4) pa_nil)) pe_int) pa_nil))))) (pg_name (i := 7) sc_law.nd rfl (Or.inl rfl))
        (pss_one (ps_set (i := 5) sc_law.nd rfl (Or.inl rfl) (pe_op op_cat (pv 5) (pe_callX F_l_faults (hr.mono (by first | decide | omega)) pass0 (pa_cons (pv 4) (pa_cons (pv 7) pa_nil)))))))
      (pss_cons (ps_par (i := 8) (j := 9) (by rfl) sc_law.nd rfl rfl (by decide) rfl rfl (pa_cons (pe_ifExp (pt_cmpR (op_neNil hu) (pv 5) (pe_lst pa_nil) (nomark _)) (pe_callB (cr_min rfl) (by rfl) T.b_min (by decide +kernel) (pa_cons (pv 5) pa_nil)) pe_int) (pa_cons pe_int pa_nil)) (by rfl))
      (pss_cons (ps_try_cls (l := [⟨.ref (He.ga K "Refused"), some 10, _⟩]) (Wout := fun _ _ _ _ => False) rfl rfl sc_law.nd LamX.takes0 (fun W pn xe tk _ => (pss_one (ps_expr (pe_makeXS F_PageCode (hr.mono (by first | decide | omega)) (fun z => passAt tk z) (pa_cons (pv 3) (pa_cons (pe_makeXSd F_PageRules (hr.mono (by first | decide | omega)) (fun z => passAt tk z) (pa_cons pe_int (pa_cons pe_int (pa_cons pe_int pa_nil)))) (pa_cons (join_at (K := K) pe_str (pv 4)) pa_nil)))))))
        (.named (i := 10) ⟨rfl, by decide, .inl T.g_Refused⟩ rfl rfl rfl (fun a9 oe cls d pn hz hf => (pss_one (ps_set (i := 9) sc_law.nd rfl (Or.inl rfl) (pe_errFld T.e_Refused (by decide) hz hf (pv 10)))))
        .nil))
      (pss_one (ps_if (pt_cmpR op_ne (pv 9) (pv 8) (nomark _)) (pss_one (ps_ret pe_bl)) pss_nil))))))))))
      (pss_one (ps_ret pe_bl))))), ?_⟩)
  · obtain ⟨a, xs, rfl, _⟩ := h
    rfl
  obtain ⟨a, xs, rfl, ha, hQ⟩ := h
  have q9 : sizeLine = 16777216 := sizeLine_eq
  refine set_te ⟨_, rfl, a, xs, rfl, ha, fun d c1 H1 hd s1 hb1 => ?_⟩
  refine nx_for ⟨8, rfl, by decide, by decide, for_range (lo := 0) (n := 8) (fun i σ H' => ∃ (o2 o3 o4 o5 o6 o7 o8 o9 o10 : Option V), σ = [some (.ref a), some (.ref d), o2, o3, o4, o5, o6, o7, o8, o9, o10] ∧ Bag H' d c1 (3000 * i)) ⟨none, none, none, none, none, none, none, none, none, rfl, hb1⟩ ?_ ?_⟩
  · rintro i σ H2 hi ⟨o2, o3, o4, o5, o6, o7, o8, o9, o10, rfl, hb2⟩
    refine nm (set_te (pick_go (xs := kinds4.map V.str) (lim := 4) (ev_cons ev_C fun _ _ => ev_cons ev_C fun _ _ => ev_cons ev_C fun _ _ => ev_cons ev_C fun _ _ => ev_nil) rfl hb2 (by omega) rfl (by decide) (fun r1 v1 H3 hv1 sx3 hb3 => ?_)))
    obtain ⟨kind, hk, rfl⟩ := strs_at hv1
    refine set_te (call_go (cons_go (var_go rfl (cons_go (var_go rfl (cons_go (c_go (cons_go (mk_lst (vs := [.int 1, .int 2, .int 3, .int 4]) (ev_cons ev_C fun _ _ => ev_cons ev_C fun _ _ => ev_cons ev_C fun _ _ => ev_cons ev_C fun _ _ => ev_nil) (fun H4 lf s4 hlf0 hlf => nil_go ⟨d, c1, lf, _, 2, kind, _, rfl, by decide, by decide, hb3.up s4, by omega, hk, hlf, by decide, (fun e => by obtain ⟨l, hc⟩ := bag_c hb3; rw [e, hlf0] at hc; cases hc), fun q t H5 m L' la hm hif hdp hln hlt => ?_⟩))))))))))
    have hb5 := la.bag
    have hq5 := la.hp
    have hif5 : t.ifs ≤ 4 := by
      have : t.ifs + L'.length = 4 := hif
      omega
    have hl9 : t.lines.length ≤ 400 := hln
    have hm9 : m ≤ 3000 * i + 1 + 2500 := hm
    clear hln hm hif la
    have LN : ∀ {σ : L2.St} {H : Hp} {q : Addr} {ls : List Str}, σ[4]? = some (some (.ref q)) → H q = some (.lst (ls.map V.str)) → EvE (tCB (fun xs H Q => ∃ p ys, xs = [V.ref p] ∧ (SqL K H p ys ∨ SqT K H p ys) ∧ Q (.int (ys.length : Nat)) H) (tCons (tVar 4) tNil)) σ H (.int (ls.length : Nat)) := fun h4 hq => by
      have := ev_len (K := K) (ev_cons (ev_var h4) fun _ _ => ev_nil) (.inl (.inl (.inl hq)))
      rw [List.length_map] at this
      exact this
    refine set_ifV (b := decide ((t.lines.length : Int) ≤ 40)) (ev_test (ev_op (LN rfl hq5) (fun _ _ => ev_C) fun _ _ Q q => ⟨_, _, rfl, rfl, q⟩)) (fun v H' => ∃ (q2 : Addr) (t2 : LT), v = .ref q2 ∧ Same H5 H' ∧ H' q2 = some (.lst (t2.lines.map V.str)) ∧ LawT kind t2 ∧ t2.lines.length ≤ 40 ∧ t2.dep ≤ 2 ∧ t2.ifs ≤ 4) (fun g H6 s6 Q' k' => ?_) (fun g H6 s6 Q' k' => ?_) ?_
    · have g := of_decide_eq_true g
      exact var_go rfl (k' _ _ ⟨q, t, rfl, s6, s6 _ _ hq5, hlt, by omega, hdp, hif5⟩)
    · have hqu : Str.ofString "quit" ∈ leafs kind := by
        have key : ∀ kind ∈ kinds4, Str.ofString "quit" ∈ leafs kind := by decide +kernel
        exact key kind hk
      exact mk_lst (vs := [.str (Str.ofString "quit")]) (ev_cons ev_C fun _ _ => ev_nil) (fun H7 q2 s7 _ h7 => k' _ _ ⟨q2, .leaf (Str.ofString "quit") .nil, rfl, s6.tr s7, h7, ⟨hqu, trivial⟩, by decide, Nat.zero_le _, Nat.zero_le _⟩)
    rintro _ H6 ⟨q2, t2, rfl, s6, hq2, hlt2, hln2, hdp2, hif2⟩
    have hb6 := hb5.up s6
    clear hb5 hq5 hlt hdp hif5 hl9
    have hok2 := fun z hz => lnb (lawt_ln hk hlt2 z hz)
    have hzl2 : ∀ z ∈ t2.lines, z.length ≤ 60 := fun z hz => (hok2 z hz).1
    refine set_te (lcr1_dq (K := K) (strO kind t2.lines 0) (n := t2.lines.length) (ev_cons (LN rfl hq2) fun _ _ => ev_nil) (by omega) (strO_len _ _ _) (fun j o H7 hj s7 => ?_) (fun p5 ys H7 s7 hp50 hp5 hys => ?_))
    · obtain ⟨z, hz, rfl⟩ := strO_at _ _ _ _ _ hj
      have hz6 := hzl2 z (List.mem_of_getElem? hz)
      have ht : EvT (L2.tB (tCall spStrange [] E0 (tCons (tVar 3) (tCons (tOp (rIxL K) (tVar 4) (tVar 6)) tNil)))) [some (.ref a), some (.ref d), some (.int (0 + (i : Int))), some (.str kind), some (.ref q2), o5, some (.int (j : Nat)), o7, o8, o9, o10] H7 (lstr kind z) := ev_tB fun Q k => call_go (cons_go (var_go rfl (cons_go (ev_ixL (ev_var rfl) (fun _ _ => ev_var rfl) (.inl (.inl (s7 _ _ hq2))) (atI_nat (by rw [List.getElem?_map, hz]; rfl)) _ fun H8 s8 => nil_go ⟨kind, z, rfl, by omega, fun H9 s9 => k H9 (s8.tr s9)⟩))))
      refine ⟨[some (.ref a), some (.ref d), some (.int (0 + (i : Int))), some (.str kind), some (.ref q2), o5, some (.int (j : Nat)), o7, o8, o9, o10], fun R k => k, rfl, ?_⟩
      cases e : lstr kind z with
      | true =>
        rw [e] at ht
        rw [if_pos rfl]
        refine ⟨ht, fun H8 s8 => EvE.d (v := .int ((0 + j + 1 : Nat) : Int)) (ev_op (ev_var (i := 6) rfl) (fun _ _ => ev_C) fun _ _ Q q => ⟨_, _, rfl, rfl, ?_⟩) fun _ _ => .int _⟩
        dsimp only
        rw [show ((j : Nat) : Int) + 1 = ((0 + j + 1 : Nat) : Int) by omega]
        exact q
      | false =>
        rw [e] at ht
        rw [if_neg (by decide)]
        exact ht
    rw [strO_fm] at hys
    have eys : ys = nl (strL kind t2.lines 0) := by rw [dq_ints hys, List.map_map]; rfl
    subst eys
    have hlo : (strL kind t2.lines 0).length ≤ 40 := Nat.le_trans (strL_len _ _ _) hln2
    have hwn : (lwF t2 0 [[]]).length ≤ 16 := by
      have h3 := lwF_len t2 0 [[]]
      rw [List.length_singleton, Nat.one_mul] at h3
      exact Nat.le_trans h3 (Nat.le_trans (Nat.pow_le_pow_right (by decide) hif2) (by decide))
    have hwl : ∀ w ∈ lwF t2 0 [[]], w.length ≤ 80 := fun w hw => by have := lwF_wl t2 0 0 [[]] one_wl w hw; omega
    have hwe : ∀ w ∈ lwF t2 0 [[]], ∀ l ∈ w, l ≤ t2.lines.length := lwF_le (by omega) (fun w hw l hl => by rw [List.mem_singleton] at hw; subst hw; cases hl)
    have hq27 := s7 _ _ hq2
    let fl : List Nat → List Nat := fun w => lfGo (txOf t2.lines) (pos w) [] []
    have hfl : ∀ w ∈ lwF t2 0 [[]], (fl w).length ≤ 400 := fun w hw => by
      have h1 := lfg_len (txOf t2.lines) (pos w) [] []
      have h2 : (pos w).length ≤ w.length := List.length_filter_le _ _
      have h3 := hwl w hw
      show (lfGo (txOf t2.lines) (pos w) [] []).length ≤ 400
      omega
    refine nx_for (for_te2 (K := K) (fun q ys H8 => Same H7 H8 ∧ H8 q = some (.lst ys) ∧ Al (LsI H8) ys (lwF t2 0 [[]]))
      (fun q ys H8 j σ H' => Same H8 H' ∧ ∃ (p : Addr) (u7 : Option V), σ = [some (.ref a), some (.ref d), some (.int (0 + (i : Int))), some (.str kind), some (.ref q2), some (.ref p), o6, u7, o8, o9, o10] ∧ H' p = some (.lst (nl (strL kind t2.lines 0 ++ ((lwF t2 0 [[]]).take j).flatMap fl))))
      (fun R hR => call_go ((ev_cons (vs := [.int ((0 + 1 : Nat) : Int), .int ((0 + t2.lines.length + 1 : Nat) : Int)]) (ev_var (i := 4) rfl) fun _ sa => ev_cons ev_C fun _ sb => ev_cons (ev_op (LN rfl ((sa.tr sb) _ _ hq27)) (fun _ _ => ev_C) fun H' _ Q q => ⟨_, _, rfl, rfl, by
        show Q (.int ((t2.lines.length : Int) + 1)) H'
        rw [show ((t2.lines.length : Nat) : Int) + 1 = ((0 + t2.lines.length + 1 : Nat) : Int) by omega]
        exact q⟩) fun _ _ => ev_nil) _ fun H8 s8 => ⟨q2, kind, [], [], t2, rfl, by rw [List.nil_append, List.append_nil]; exact s8 _ _ hq27, hk, hlt2, by omega, by omega, by rw [List.nil_append, List.append_nil]; omega, by rw [List.nil_append, List.append_nil]; exact fun z hz => Nat.le_trans (hzl2 z hz) (by decide), fun p H9 s9 hp => by obtain ⟨ys, h1, h2⟩ := hp; exact hR p ys H9 ⟨s8.tr s9, h1, h2⟩⟩))
      (fun q ys H8 h => .inl (.inl h.2.1)) (fun q ys H8 h => ⟨Same.rf _, p5, _, rfl, by rw [List.take_zero, List.flatMap_nil, List.append_nil]; exact h.1 _ _ hp5⟩)
      (fun q ys H8 j σ H' h _ k => .inl (.inl (k.1 _ _ h.2.1))) ?_ ?_)
    · rintro q ys H8 ⟨s8, hq8, hal⟩ j v σ H9 hv ⟨s9, p, u7, rfl, hp9⟩
      obtain ⟨wy, hwj, r, rfl, hr⟩ := hal.at hv
      have hwm := List.mem_of_getElem? hwj
      refine nm (asg_go0 (op_go (var_go rfl (call_go (cons_go (var_go rfl (cons_go (var_go rfl (nil_go ⟨q2, r, t2.lines, wy, rfl, (s8.tr s9) _ _ hq27, s9 _ _ hr, fun z hz => Nat.le_trans (hzl2 z hz) (by decide), hwe wy hwm, by have := hwl wy hwm; omega, fun q9 H10 s10 hq90 hq9 => ⟨p, q9, _, _, rfl, rfl, s10 _ _ hp9, hq9, ?_, fun p9 hp90 => ⟨s9.tr (s10.tr (Same.new hp90)), p9, _, rfl, ?_⟩⟩⟩)))))))))
      · rw [nl_len, nl_len, List.length_append]
        have h1 := fm_len fl 400 ((lwF t2 0 [[]]).take j) (fun x hx => hfl x (List.mem_of_mem_take hx))
        have h2 : ((lwF t2 0 [[]]).take j).length ≤ 16 := by rw [List.length_take]; omega
        have h3 := hfl wy hwm
        have h4 : (lfGo (txOf t2.lines) (pos wy) [] []).length ≤ 400 := h3
        omega
      · rw [upd_same, nl_app, tk1 hwj, List.flatMap_append, List.flatMap_cons, List.flatMap_nil, List.append_nil, List.append_assoc]
    · rintro q ys H8 σ H9 ⟨s8, hq8, hal⟩ ⟨s9, p, u7, rfl, hp9⟩
      rw [hal.len, List.take_length] at hp9
      replace hp9 : H9 p = some (.lst (nl (lawWrong kind (txOf t2.lines) t2))) := hp9
      have s79 := s8.tr s9
      have hb9 := (hb6.up s7).up s79
      have hq29 := s79 _ _ hq27
      have same := lawt_same (dflt := ⟨0, .lone .no⟩) hk hlt2
      generalize hW : lawWrong kind (txOf t2.lines) t2 = W at hp9 same
      obtain ⟨n0, hn0, hn1⟩ : ∃ n0 : Nat, (W = [] → n0 = 0) ∧ (W ≠ [] → n0 ∈ W ∧ ∀ j ∈ W, n0 ≤ j) := by
        by_cases e : W = []
        · exact ⟨0, fun _ => rfl, fun z => absurd e z⟩
        · obtain ⟨n, h1, h2⟩ := exists_min W e
          exact ⟨n, fun z => absurd z e, fun _ => ⟨h1, h2⟩⟩
      have due : EvE (tIf (tTest (tOp (rNil K not) (tVar 5) (tLst tNil))) (tCB (rMin K) (tCons (tVar 5) tNil)) (tC (.int 0))) [some (.ref a), some (.ref d), some (.int (0 + (i : Int))), some (.str kind), some (.ref q2), some (.ref p), o6, u7, o8, o9, o10] H9 (.int (n0 : Nat)) := by
        refine ev_if (ne_nilL (ev_var (i := 5) rfl) (.inl (.inl hp9))) (fun g Ha sa => ?_) (fun g Ha sa => ?_)
        · have hne : W ≠ [] := fun e => by rw [e] at g; cases g
          obtain ⟨hm, hmin⟩ := hn1 hne
          refine fun Q' k' => cb_go (cons_go (var_go rfl (nil_go ⟨p, W.map fun j : Nat => (j : Int), rfl, .inl (.inl (by rw [sa _ _ hp9, List.map_map]; rfl)), by rw [List.length_map]; exact List.length_pos_iff.mpr hne, fun m0 hm0 hmin0 => ?_⟩)))
          obtain ⟨j, hj, rfl⟩ := List.mem_map.mp hm0
          have e1 := hmin j hj
          have e2 := hmin0 _ (List.mem_map.mpr ⟨n0, hm, rfl⟩)
          have e3 : j = n0 := by omega
          rw [e3]
          exact k' _ (Same.rf _)
        · have hnil : W = [] := by
            cases W with
            | nil => rfl
            | cons x r => cases g
          rw [hn0 hnil]
          exact ev_C
      refine par_go (cons_go (due _ fun Ha sa => cons_go (c_go (nil_go ⟨_, _, rfl, ?_⟩))))
      have hba := hb9.up sa
      have hq2a := sa _ _ hq29
      have fin : ∀ (D : Ends) (n : Nat) (u10 : Option V) (H' : Hp), n = n0 → D.nx [some (.ref a), some (.ref d), some (.int (0 + (i : Int))), some (.str kind), some (.ref q2), some (.ref p), o6, u7, some (.int (n0 : Nat)), some (.int (n : Nat)), u10] H' → (∀ H'', Same H' H'' → D.nx [some (.ref a), some (.ref d), some (.int (0 + (i : Int))), some (.str kind), some (.ref q2), some (.ref p), o6, u7, some (.int (n0 : Nat)), some (.int (n : Nat)), u10] H'') →
          tIfS (tTest (tOp rNe (tVar 9) (tVar 8))) (tRet (tC (.bl false))) tNext D [some (.ref a), some (.ref d), some (.int (0 + (i : Int))), some (.str kind), some (.ref q2), some (.ref p), o6, u7, some (.int (n0 : Nat)), some (.int (n : Nat)), u10] H' := by
        intro D n u10 H' e _ hD
        refine do_if (ne_same (v := .int (n0 : Nat)) (ev_var (by rw [e]; rfl)) (fun _ _ => ev_var rfl) rfl) (fun g => by cases g) (fun _ H'' s'' => hD H'' s'')
      have hjl := join_len (B := 60) hzl2
      have hsum := sum_le (B := 60) hzl2
      have hnl1 : (Str.ofString "\n").length = 1 := by decide +kernel
      refine ⟨_, rfl, fun x1 dx1 hx1 hdx1 hne1 => ?_⟩
      have sR : Same Ha (upd (upd Ha dx1 (.own x1)) x1 (.ins (cPR K) dx1 [])) := fun b o hb => by rw [upd_ne (ne_of_none hb hx1), upd_ne (ne_of_none hb hdx1)]; exact hb
      have hR1 : upd (upd Ha dx1 (.own x1)) x1 (.ins (cPR K) dx1 []) x1 = some (.ins (cPR K) dx1 []) := upd_same
      generalize upd (upd Ha dx1 (.own x1)) x1 (.ins (cPR K) dx1 []) = HR at sR hR1 ⊢
      refine ⟨x1, dx1, .int 8, .int 4, .int 1, .non, rfl, hR1, .inl rfl, .inl rfl, .inl rfl, .inl rfl, (fun z hz => by cases hz), fun _ Hb sxb hxb => ⟨rfl, ?_⟩⟩
      have sab : Same Ha Hb := fun b o hb => sxb _ _ (ne_of_none hb hx1) (sR _ _ hb)
      have hq2b := sab _ _ hq2a
      refine ⟨⟨_, rfl⟩, _, rfl, _, q2, t2.lines, rfl, rfl, .inl (.inl (.inl hq2b)), by rw [hnl1]; omega, fun x dx hx hdx hne => ?_⟩
      have sX : Same Hb (upd (upd Hb dx (.own x)) x (.ins (cD K) dx [])) := fun b o hb => by rw [upd_ne (ne_of_none hb hx), upd_ne (ne_of_none hb hdx)]; exact hb
      have hXx : upd (upd Hb dx (.own x)) x (.ins (cD K) dx []) x = some (.ins (cD K) dx []) := upd_same
      generalize upd (upd Hb dx (.own x)) x (.ins (cD K) dx []) = HX at sX hXx ⊢
      have hlj := lawt_join hk hlt2
      have hlj' : linesOf (Txt.join (Str.ofString "\n") t2.lines) = t2.lines := hlj
      have fw : ∀ {H' : Hp} {b : Addr} {o : HO}, SameX x HX H' → Ha b = some o → H' b = some o := fun sx hb => sx _ _ (ne_of_none (sab _ _ hb) hx) (sX _ _ (sab _ _ hb))
      have bagX : ∀ {H' : Hp}, SameX x HX H' → Bag H' d c1 m := fun sx => by
        obtain ⟨cs, a1, a2, a3, a4, g1, g2, g3⟩ := hba
        exact ⟨cs, a1, a2, a3, a4, fw sx g1, fw sx g2, g3⟩
      have done : ∀ {H' : Hp} (n : Nat) (u10 : Option V), SameX x HX H' → ∀ H'', Same H' H'' → ∃ (v2 v3 v4 v5 v6 v7 v8 v9 v10 : Option V), [some (V.ref a), some (.ref d), some (.int (0 + (i : Int))), some (.str kind), some (.ref q2), some (.ref p), o6, u7, some (.int (n0 : Nat)), some (.int (n : Nat)), u10] = [some (.ref a), some (.ref d), v2, v3, v4, v5, v6, v7, v8, v9, v10] ∧ Bag H'' d c1 (3000 * (i + 1)) := fun n u10 sx H'' s => ⟨_, _, _, _, _, _, _, _, _, rfl, ((bagX sx).up s).mono (by omega)⟩
      have hrd0 := rd_whole (dflt := ⟨0, .lone .no⟩) (lawt_good hk t2 hlt2)
      refine ⟨x, dx, .str kind, .ref x1, _, rfl, hXx, .inl rfl, Nat.le_trans hjl (by omega), by rw [hlj']; exact fun z hz => ⟨Nat.le_trans (hzl2 z hz) (by decide), (hok2 z hz).2⟩, (fun e => by rw [show kindOk kinds4 (.str kind) = decide (kind ∈ kinds4) from rfl, decide_eq_true hk] at e; cases e), fun k ek hk4 => ?_⟩
      cases ek
      rw [hlj']
      refine ⟨fun h40 => absurd h40 (by omega), fun _ => ⟨fun n hrd => (by cases Rd.det hrd0 hrd), fun t wd ls n9 i9 hrd => ?_⟩⟩
      cases Rd.det hrd0 hrd
      refine ⟨fun h7 => absurd h7 (by omega), fun _ hw0 l9 tb9 r9 H' hl9 hx9 hll9 sx => ?_, fun _ n hn hmin dd H' sx hdd => ?_⟩
      · have hW0 : W = [] := List.eq_nil_iff_forall_not_mem.mpr fun j hj => by
          have := (same j).mp hj
          rw [hw0] at this
          cases this
        refine ⟨rfl, ?_⟩
        exact fin _ 0 _ H' (hn0 hW0).symm (done 0 _ sx H' (Same.rf _)) (done 0 _ sx)
      · refine ⟨true, T.x_Refused_Refused, fun _ aa haa => ?_, (fun z => by cases z)⟩
        refine ⟨_, rfl, rfl, rfl, dd, _, _, rfl, hdd, rfl, ?_⟩
        have hnW := (same n).mpr hn
        have e : n = n0 := by
          have h1 := hn1 (fun z => by rw [z] at hnW; cases hnW)
          have h2 := h1.2 n hnW
          have h3 := hmin n0 ((same n0).mp h1.1)
          omega
        exact fin _ n _ H' e (done n _ sx H' (Same.rf _)) (done n _ sx)
  · rintro σ H2 ⟨o2, o3, o4, o5, o6, o7, o8, o9, o10, rfl, hb2⟩
    exact hQ H2
end
end K03


set_option Elab.async false
set_option linter.all false
set_option maxRecDepth 100000
set_option maxHeartbeats 0
namespace K03
open PySem PySem.Spec PyProof.Rows L2 He HeE K03.HdX
theorem facts {w : World} {h : Heap} {mg : Str → Option Value} {f : Addr} (hfa : mg ("law" : Str) = some (.ref f)) (G : h.Ns mainGlobals mg) (Y : hk.says w h) :
    ∃ K : PySem.W.Frag, K.In h ∧ LamX.LawAtS PySem.Challenge.rw_heldplaces_k03_whole_page_limits_by_ways w K CX0 140 63 "_law_script" mg f h := by
  obtain ⟨K, X, c⟩ := Y
  obtain ⟨fd, F⟩ := c.fn h_law (by simp [fn, fn0, fn1])
  have e := hfa.symm.trans (glo_ok X G (c.fa (.glo "law") (by simp [fa, fa0, fa1, fa2, fa3])))
  cases e
  have b := FunD.bindsA (ps := ["_law_script"]) F fun _ _ _ _ _ _ us hl => match us, hl with | [_], _ => rfl
  have T := tx X G c
  exact ⟨K, X, fd, [], spLaw K, (fun p hp => by cases hp), (fun p hp => by cases hp), (fun p hp => by cases hp), fun s u => b s [u] rfl, fun H a ns hl _ ht hs => ⟨a, ns, rfl, hs, fun _ => rfl⟩, fun base hK hN hT => ok_law T F⟩
end K03
open PySem PySem.W PySem.Calls PyProof.Rows
theorem PySem.Challenge.cw_heldplaces_k03_whole_page_limits_by_ways_holds : PySem.Challenge.rw_heldplaces_k03_whole_page_limits_by_ways.Holds := by
  w_on; o_law
  refine HandSHeadRun.head_any (r := OpenLaw.row PySem.Challenge.rw_heldplaces_k03_whole_page_limits_by_ways) (q := view (OpenLaw.row PySem.Challenge.rw_heldplaces_k03_whole_page_limits_by_ways).prog [53]) (H := K03.HdX.hk) (ob := K03.HdX.ob) (M := 40000) (loose := K03.HdX.names) (d := HandSHeadRun.topDef (OpenLaw.row PySem.Challenge.rw_heldplaces_k03_whole_page_limits_by_ways).prog 53) (kwd := []) K03.HdX.ob_eq
    (by kernel_rfl) (fun s => by kernel_rfl) (fun w => K03.HdX.run w) (by kernel_rfl) (by kernel_rfl) (by kernel_rfl) (by rfl) (by first | assumption | decide +kernel) (by decide +kernel) ⟨rfl, rfl, rfl, rfl, rfl, by decide +kernel⟩ ?hw ?hc
  case hw => w_witness2
  case hc =>
    refine LamX.walk_ofTsE (l := PySem.Challenge.rw_heldplaces_k03_whole_page_limits_by_ways) (n := 63) (k := 140) (x := "_law_script") (CX := fun _ => L2.CX0) rfl (by decide) (by kernel_rfl) ⟨rfl, by decide, by decide⟩ ?F (fun _ _ _ _ _ z => z)
    intro w mg fa h Y G hmg0
    have hmg : mg ("law" : PySem.Str) = some (.ref fa) := by
      have e : (HandSHeadRun.topDef (OpenLaw.row PySem.Challenge.rw_heldplaces_k03_whole_page_limits_by_ways).prog 53).name = ("law" : PySem.Str) := by kernel_rfl
      rw [← e]
      exact hmg0
    exact K03.facts hmg G Y
#print axioms PySem.Challenge.cw_heldplaces_k03_whole_page_limits_by_ways_holds

