import PyProof.Rows.All
import Wide.All
import OpenK.AllK
import Wide.FinOn
import PyProof.EqAt
import PyProof.EqKinds
import PyProof.TupleCall
import KE.KExcSuper
import HandS.ForMost
import HandS.ForExc
import HandS.ExcInit
import HandS.TryMany
import KE.KExcIs
import KE.KIsAll
import KE.KTryMore
import HandS.NoneIn
import HandS.Style
import HandS.Flow
import HandS.StrMore
import HandS.IsInst
import HandS.Lambda
import HandS.More
import HandS.Wide
import HandS.Head0
import HandS.Head1
import HandS.Head2
import HandS.HeadEnd
import HandS.HeadHook1
import HandS.HeadHook2
import HandS.HeadHook3
import HandS.HeadHook4
import HandS.HeadWalk
import PyProof.InstNe
import HandS.HotCalls
import HandS.Nested
import KE.KSuper
import HandS.Star
import HandS.DictComp
import HandS.Deep
import PyProof.P3In
import Wide.Once
import HandS.ReplaceLit
import HandS.Sort
import HandS.Iter
import PyProof.NeKinds
import HandS.Keys
import KE.KStateDown
import Lean
import HandS.Text
import HandS.Walk
import PySem.Challenge.RW_heldplaces_k17_id_lines_read
set_option Elab.async false
set_option linter.all false
set_option maxRecDepth 100000
set_option maxHeartbeats 4000000
/-! Errors of the program: class X(HeldError): def __init__(self, f, ..): super().__init__('..'); self.f = f; .. -/
namespace PySem
namespace ErrX
open PySem.W PySem.Calls PyProof.Rows PySem.HandSPX
/-! ### the text of __init__ -/
structure FldP where
  f : Str
  a : Pos
  b : Pos
  c : Pos
  d : Pos
def setSt (q : FldP) : Stmt := .Assign [.Attribute (.Name "self" q.a) q.f q.b] (.Name q.f q.c) q.d
def supSt (msg : Str) (j : Nat) (p0 p1 p2 p3 p4 p5 : Pos) : Stmt := .Expr (.Call (.Attribute (.Call (.Name "super" p0) [] [] p1) "__init__" p2) [.Constant (.str msg) j p3] [] p4) p5
def supEv (env : Env) (pl : Sem Bool) (msg : Str) (j : Nat) (p0 p1 p2 p3 p4 : Pos) : Prop := eval (.Call (.Attribute (.Call (.Name "super" p0) [] [] p1) "__init__" p2) [.Constant (.str msg) j p3] [] p4) env = (do
      let ov ← attributeBase (.Call (.Name "super" p0) [] [] p1) "__init__" env (eval (.Call (.Name "super" p0) [] [] p1) env)
      standAt p2.atName
      let (f, first) ← holding [ov] (getMethod ov "__init__" pl)
      callWith p4 f first (backTo p4 (starEach [.Constant (.str msg) j p3] env)) [])
def iScope (fs : List Str) : Scope := { kind := .function, names := (PySem.Str.ofString "self", .local) :: (fs.map fun f => (f, .local)) ++ [(PySem.Str.ofString "__class__", .free), (PySem.Str.ofString "super", .globalImplicit)], isGenerator := false, isCoroutine := false, more := [] }
/-- what the written part says of an error's class at C, its fields fs -/
structure ErrTxt (prog : Program) (K : Frag) (fs : List Str) (C : Addr) : Prop where
  cls : ∃ nm q N bs bm sn sub ab col dd k0 k1 k2 k3 k5, K.lookup C = some (excClassObj nm q C N bs bm true sn sub ab col dd k0 k1 k2 k3 k5 "ValueError.__new__") ∧ refsVE bm = true
  sa : findIn K (.ref C) "__setattr__" = some (some (.builtin "object.__setattr__"))
  ga : findIn K (.ref C) "__getattribute__" = some (some (.builtin "BaseException.__getattribute__"))
  gg : findIn K (.ref C) "__getattr__" = some none
  noN : ∀ f ∈ fs, findIn K (.ref C) f = some none
  kC : keepIn K (.ref C) = true
  exC : subIn K (.ref C) (.type "BaseException") = some true
  veC : subIn K (.ref C) (.type "ValueError") = some true
  tyC : typeIn K (.ref C) = some (.type "type")
  hdC : hasDictIn K C = true
  own : mroIn K C (.ref C) = some true
  sup : ks_superIn K C C "__init__" = some (some (.builtin "ValueError.__init__"))
  opq : nsIn K cStatics "thirdparty.any" = some none
  gsup : nsIn K mainGlobals "super" = some none
  topN : (prog.main.scope.names.lookup ("super" : Str)).isSome = false
  kinds : (fs.all fun f => (iScope fs).names.lookup f == some .local && !(f == ("self" : Str))) = true
  dbg : ∀ f ∈ fs, (f == ("__debug__" : Str)) = false
  outs : ("__class__" : Str) ∉ fs ∧ ("super" : Str) ∉ fs
  nd : fs.Nodup
  len : fs.length ≤ 900
  init : ∃ (fI cc cda : Addr) (oc : Value) (od : Option Addr) (qual : Str) (params : Arguments) (body : List Stmt) (kV doc pm : Value) (an : Option Addr) (ct : Value) (osl : Array (Option Value)) (ccl : Value) (cdd : Option Addr) (vs : Array Value) (ccs : Array (Option Value)) (file : Str) (tf : Tok) (cl : Value) (cld : Option Addr) (csl : Array (Option Value)),
    findIn K (.ref C) "__init__" = some (some (.ref fI)) ∧ typeIn K (.ref fI) = some (.type "function") ∧
    K.lookup fI = some ⟨oc, od, .func (ksFn "__init__" qual params body (iScope fs) .none kV doc pm an (.ref cda) ct cc), osl⟩ ∧ codeIn K (.ref cda) qual = true ∧
    K.lookup cda = some ⟨ccl, cdd, .fields vs, ccs⟩ ∧ vs[2]? = some (.str file tf) ∧ ((prog.main.file : Str) == file) = true ∧ K.lookup cc = some ⟨cl, cld, .cell (some (.ref C)), csl⟩ ∧
    (∃ ar, (params.posonlyargs ++ params.args).head? = some ar ∧ ar.arg = "self") ∧
    (∃ msg j p0 p1 p2 p3 p4 p5 ps, body = supSt msg j p0 p1 p2 p3 p4 p5 :: (ps : List FldP).map setSt ∧ ps.map (·.f) = fs ∧ ∀ env, ∃ pl, supEv env pl msg j p0 p1 p2 p3 p4) ∧
    (∀ (self : Value) (us : List Value), us.length = fs.length → bindArgs (ksFn "__init__" qual params body (iScope fs) .none kV doc pm an (.ref cda) ct cc) ⟨self :: us, []⟩ = pure ((("self" : Str), self) :: fs.zip us))
/-- the attributes, the last one set first -/
def mOf : List (Str × Value) → Str → Option Value
  | [], _ => none
  | (f, v) :: r, y => if y = f then some v else mOf r y
/-- an exception of the class at C: its dict, its message's tuple -/
abbrev eO (C t1 : Addr) (d : Option Addr) : Obj := { cls := .ref C, dict := d, data := .fields #[.ref t1, .none, .none, .none, .bool false, .none] }
/-- how the dict lies: none if no field is set -/
def DictOk (h h' : Heap) (e : Addr) : List (Str × Value) → Option Addr → Prop
  | [], d => d = none
  | q :: r, d => ∃ dx, d = some dx ∧ h.objs.size ≤ dx ∧ dx ≠ e ∧ h'.Ns1 dx (mOf (q :: r))
structure ErrEnd (h h' : Heap) (e C : Addr) (fvs : List (Str × Value)) : Prop where
  keep : ∀ b o, b ≠ e → h.get? b = some o → h'.get? b = some o
  obj : ∃ t1 d, h'.get? e = some (eO C t1 d) ∧ DictOk h h' e fvs d
theorem within_mOf : ∀ l : List (Str × Value), Within (mOf l) (l.map (·.1))
  | [] => fun y hy => absurd rfl hy
  | (f, v) :: r => fun y hy => by
    by_cases e : y = f
    · subst e; exact List.mem_cons_self
    · have z : mOf ((f, v) :: r) y = mOf r y := if_neg e
      rw [z] at hy
      exact List.mem_cons_of_mem _ (within_mOf r y hy)
section
variable {prog : Program} {w : World} {A : Around} {E : Value → Shared → Prop} {R : Result → Shared → Prop} {s : Shared} {K : Frag} {mg : Str → Option Value} {C : Addr} {fs : List Str}
theorem one_size (v : Value) : [v].length ≤ sizeLine := by
  rw [sizeLine_eq]
  exact (by decide : 1 ≤ 16777216)
/-- self.f = f for the fields of ps, one after the other -/
theorem sets (T : ErrTxt prog K fs C) {env : Env} {e : Addr} {m : Str → Option Value} (hk : env.scope.kind = .function) (hself : env.kindOf "self" = some .local) (h₀ : Heap) (Q : Flow → Shared → Prop) :
    ∀ (ps : List FldP) (us : List Value) (done : List (Str × Value)) (s : Shared), ps.length = us.length → (∀ p ∈ ps, p.f ∈ fs ∧ env.kindOf p.f = some .local) → (∀ q ∈ (ps.map (·.f)).zip us, m q.1 = some q.2) → done.length + ps.length ≤ 900 → m "self" = some (.ref e) → s.heap.Ns env.locals m → env.locals ≠ e →
      (∀ b o, b ≠ e → h₀.get? b = some o → s.heap.get? b = some o) → K.In h₀ → K.lookup e = none → h₀.objs.size ≤ s.heap.objs.size →
      (∃ t1 d, s.heap.get? e = some (eO C t1 d) ∧ DictOk h₀ s.heap e done d ∧ ∀ dx, d = some dx → dx ≠ env.locals) →
      (∀ s', s'.os = s.os → s'.gens = s.gens → s'.drawn = s.drawn → ErrEnd h₀ s'.heap e C (((ps.map (·.f)).zip us).reverse ++ done) → Q .next s') →
      wpAny (model prog w) A (execs (ps.map setSt) env) Q E s
  | [], us, done, s, hl, _, _, _, _, _, _, k, _, _, _, ⟨t1, d, he, hd, _⟩, hq => by
    cases us with
    | nil => exact wpAny_execs_nil (hq s rfl rfl rfl ⟨k, t1, d, he, hd⟩)
    | cons => cases hl
  | p :: ps, us, done, s, hl, hp, hm, hz, hs, hn, hL, k, KX, hKe, hsz, ⟨t1, d, he, hd, hdL⟩, hq => by
    cases us with
    | nil => cases hl
    | cons u us =>
      obtain ⟨nm, q, N, bs, bm, sn, sub, ab, col, dd, k0, k1, k2, k3, k5, hC, hbm⟩ := T.cls
      have hcl : clsIn K C = some { name := nm, bases := bs, mro := .ref C :: bm, ns := N, qualname := q, hasDict := true, slotNames := sn, subclasses := sub, abstract := ab, collection := col, hasDel := false } := by unfold clsIn; rw [hC] <;> rfl
      have X1 : K.In s.heap := fun a o z => k a o (fun y => by rw [y, hKe] at z; cases z) (KX a o z)
      obtain ⟨pf, pl⟩ := hp p List.mem_cons_self
      have hu : m p.f = some u := hm (p.f, u) (by simp)
      have next : ∀ s', s'.os = s.os → s'.gens = s.gens → s'.drawn = s.drawn → s'.heap.Ns env.locals m → (∀ b o, b ≠ e → h₀.get? b = some o → s'.heap.get? b = some o) → h₀.objs.size ≤ s'.heap.objs.size → (∃ t1 d, s'.heap.get? e = some (eO C t1 d) ∧ DictOk h₀ s'.heap e ((p.f, u) :: done) d ∧ ∀ dx, d = some dx → dx ≠ env.locals) → wpAny (model prog w) A (execs (ps.map setSt) env) Q E s' := fun s' e1 e2 e3 hn' k' hsz' hd' => by
        refine sets T hk hself h₀ Q ps us ((p.f, u) :: done) s' (by simpa using hl) (fun z hz => hp z (List.mem_cons_of_mem _ hz)) (fun z hz => hm z (by simp at hz ⊢; exact .inr hz)) (by simp at hz ⊢; omega) hs hn' hL k' KX hKe hsz' hd' fun s2 f1 f2 f3 hE => hq s2 (f1.trans e1) (f2.trans e2) (f3.trans e3) ?_
        have z : ((p :: ps).map (·.f)).zip (u :: us) = (p.f, u) :: (ps.map (·.f)).zip us := rfl
        rw [z, List.reverse_cons, List.append_assoc]
        exact hE
      show wpAny _ _ (execs (setSt p :: ps.map setSt) env) _ _ _
      have hnd : (p.f == ("__debug__" : Str)) = false := T.dbg _ pf
      refine wpAny_execs_cons (plainObj_wpAny_Assign_Attribute (wpAny_Name (wpAny_loadName_local hk pl hn hu (wpAny_Name (wpAny_loadName_local hk hself hn hs ?_) (by decide))) hnd))
      obtain ⟨hp0, g0, d0, tk0, os0⟩ := s
      cases done with
      | nil =>
        obtain rfl : d = none := hd
        refine set_plain X1 (ox := eO C t1 none) (od := none) ⟨he, rfl, rfl, trivial⟩ T.sa ?_
        refine exc_osa X1 he hcl (show refsVE (.ref C :: bm) = true from hbm) rfl (T.noN _ pf) (fun h' tk' dx kk hdn hde hobj hns => ?_)
        have nL : dx ≠ env.locals := fun z => absurd (hn.lt) (by rw [← z]; exact Nat.not_lt.mpr hdn)
        refine next ⟨h', g0, d0, tk', os0⟩ rfl rfl rfl ?_ (fun b o hb ho => kk b o hb (k b o hb ho)) ?_ ⟨t1, some dx, hobj, ⟨dx, rfl, Nat.le_trans hsz hdn, hde, ?_⟩, fun z hz => by cases hz; exact nL⟩
        · obtain ⟨oL, es, ep, hoL, r⟩ := hn
          exact ⟨oL, es, ep, kk _ _ hL hoL, r⟩
        · obtain ⟨_, _, _, zz, _⟩ := hns
          exact Nat.le_of_lt (Nat.lt_of_le_of_lt (Nat.le_trans hsz hdn) (Heap.lt_size zz))
        · exact hns
      | cons q0 r0 =>
        obtain ⟨dx, rfl, hdn, hde, hns⟩ := hd
        have nL := hdL dx rfl
        obtain ⟨oD, esD, epD, hoD, hdD⟩ := id hns
        refine set_plain X1 (ox := eO C t1 (some dx)) (od := some oD) ⟨he, rfl, rfl, hoD⟩ T.sa ?_
        refine OEX.osa_old X1 he hns (within_mOf (q0 :: r0)) (by simp at hz ⊢; omega) hcl (show refsVE (.ref C :: bm) = true from hbm) rfl (T.noN _ pf) (fun h' tk' kk hns' => ?_)
        refine next ⟨h', g0, d0, tk', os0⟩ rfl rfl rfl ?_ (fun b o hb ho => ?_) ?_ ⟨t1, some dx, kk _ _ (Ne.symm hde) he, ⟨dx, rfl, hdn, hde, hns'⟩, fun z hz => by cases hz; exact nL⟩
        · obtain ⟨oL, es, ep, hoL, r⟩ := hn
          exact ⟨oL, es, ep, kk _ _ (Ne.symm nL) hoL, r⟩
        · exact kk b o (fun z => absurd (Heap.lt_size ho) (by rw [z]; exact Nat.not_lt.mpr hdn)) (k b o hb ho)
        · have z1 := Heap.lt_size (kk _ _ (Ne.symm hde) he)
          obtain ⟨_, _, _, zz, _⟩ := hns'
          exact Nat.le_of_lt (Nat.lt_of_le_of_lt hdn (Heap.lt_size zz))

theorem lookup_zip {x : Str} {u : Value} : ∀ {fs : List Str} {us : List Value}, fs.Nodup → (x, u) ∈ fs.zip us → (fs.zip us).reverse.lookup x = some u := fun {fs us} nd h => by
  have key : ∀ (l : List (Str × Value)), (l.map (·.1)).Nodup → (x, u) ∈ l → l.lookup x = some u := by
    intro l
    induction l with
    | nil => intro _ z; cases z
    | cons p r ih =>
      intro n z
      obtain ⟨f, v⟩ := p
      have n1 := List.nodup_cons.mp n
      rcases List.mem_cons.mp z with e | e
      · cases e
        simp [List.lookup]
      · have ne : x ≠ f := fun q => n1.1 (List.mem_map.mpr ⟨_, e, q⟩)
        have ne2 : (x == f) = false := by simpa using ne
        simp only [List.lookup, ne2]
        exact ih n1.2 e
  refine key _ ?_ (List.mem_reverse.mpr h)
  rw [List.map_reverse]
  have sub : ((fs.zip us).map (·.1)).Sublist fs := by
    clear h key
    induction fs generalizing us with
    | nil => simp
    | cons f r ih =>
      cases us with
      | nil => simp
      | cons v vs => simp only [List.zip_cons_cons, List.map_cons]; exact (ih (List.nodup_cons.mp nd).2).cons_cons f
  have q := nd.sublist sub
  exact List.pairwise_reverse.mpr (q.imp fun h => Ne.symm h)
theorem call_mw {h : Heap} {g : Array GenState} {d : Drawn} {t : Nat} {os : OsState} {u e t0 N : Addr} {nm q : Str} {bs bm : List Value} {hdct : Bool} {sn : List Str} {sub : List Value} {ab : Bool} {col : Option Bool} {dd : Option Addr} {k0 k1 k2 k3 k5 : Option Value} {rest : List Value} {Q : Value → Shared → Prop}
    (he : h.get? e = some (excO C t0)) (hu : h.get? u = some (kxs_mw "ValueError.__init__" e)) (hC : h.get? C = some (excClassObj nm q C N bs bm hdct sn sub ab col dd k0 k1 k2 k3 k5 "ValueError.__new__")) (hrest : rest.length ≤ sizeLine)
    (hq : ∀ h' t1, (∀ b o, b ≠ e → h.get? b = some o → h'.get? b = some o) → h'.get? e = some (excO C t1) → Q .none ⟨h', g, d, t, os⟩) :
    wpAny (model prog w) A (call (.ref u) rest) Q E ⟨h, g, d, t, os⟩ := by
  refine wpAny_call (codeAny_of_tree ?_)
  show wpAny _ A.in1 (callAny (.ref u) ⟨rest, []⟩) _ _ _
  simp only [callAny]
  refine wpAny_bind (wpAny_load hu ?_)
  simp only [kxs_mw, show (Value.type "method-wrapper" == Value.type "method" || Value.type "method-wrapper" == Value.type "builtin_function_or_method" || Value.type "method-wrapper" == Value.type "method-wrapper") = true by decide, if_true]
  refine KFB.if_so (by decide) ?_
  refine wpAny_bind (check_bound_init F.excBase_ValueError.toExcCallFacts hC he rfl ?_)
  refine wpAny_bind (wpAny_pure (wpAny_pure ?_))
  refine ⟨plainId_quiet F.excBase_ValueError.init.plain _, codeAny_builtin F.excBase_ValueError.initEntry ?_⟩
  exact exc_init_tree (cls := .ref C) (t0 := t0) (dv := none) (c2 := .none) (c3 := .none) (b4 := .bool false) he hrest fun h' k a b => hq h' _ k a
theorem err_init (T : ErrTxt prog K fs C) {e t0 fI : Addr} {us : List Value} (hI : findIn K (.ref C) "__init__" = some (some (.ref fI))) (hl : us.length = fs.length) (X : K.In s.heap) (hg : s.heap.Ns mainGlobals mg) (hb : ∃ mb, s.heap.Ns builtinsNs mb ∧ ∀ x : Str, x ≠ "__name__" → mb x = bootBuiltins x)
    (hlim : s.heap.NoLimit) (hx : s.heap.get? e = some (excO C t0)) (hnx : K.lookup e = none) (hroom : A.depth < recursionLimit)
    (hq : ∀ s', s'.os = s.os → s'.gens = s.gens → s'.drawn = s.drawn → ErrEnd s.heap s'.heap e C (fs.zip us).reverse → R (.ok (.ret .none)) s') :
    codeAny (model prog w) A (.call (.ref fI) ⟨.ref e :: us, []⟩) R s := by
  obtain ⟨fI', cc, cda, oc, od, qual, params, body, kV, doc, pm, an, ct, osl, ccl, cdd, vs, ccs, file, tf, cl, cld, csl, i1, i2, ho, hcd, hcode, hvs, hfile, hcell, ⟨ar, har, hara⟩, ⟨msg, j, p0, p1, p2, p3, p4, p5, ps, rfl, hps, hev⟩, hbind⟩ := T.init
  rw [hI] at i1
  cases i1
  obtain ⟨nm, q, N, bs, bm, sn, sub, ab, col, dd, k0, k1, k2, k3, k5, hC, hbm⟩ := T.cls
  have hcl : clsIn K C = some { name := nm, bases := bs, mro := .ref C :: bm, ns := N, qualname := q, hasDict := true, slotNames := sn, subclasses := sub, abstract := ab, collection := col, hasDel := false } := by unfold clsIn; rw [hC] <;> rfl
  obtain ⟨mb, hmb, hmbv⟩ := hb
  have kin : ∀ f ∈ fs, (iScope fs).names.lookup f = some .local := fun f hf => by
    have z := List.all_eq_true.mp T.kinds f hf
    simp only [Bool.and_eq_true, beq_iff_eq] at z
    exact z.1
  have nself : ∀ f ∈ fs, f ≠ "self" := fun f hf => by
    have z := List.all_eq_true.mp T.kinds f hf
    simp only [Bool.and_eq_true, Bool.not_eq_true', beq_eq_false_iff_ne] at z
    exact z.2
  have hcellN : ∀ y ∈ (iScope fs).names, y.2 ≠ .cell := fun y hy => by
    rcases List.mem_append.mp (show y ∈ ((PySem.Str.ofString "self", NameKind.local) :: fs.map fun f => (f, NameKind.local)) ++ [(PySem.Str.ofString "__class__", NameKind.free), (PySem.Str.ofString "super", NameKind.globalImplicit)] from hy) with z | z
    · rcases List.mem_cons.mp z with z | z
      · rw [z]; decide
      · obtain ⟨f, _, rfl⟩ := List.mem_map.mp z
        exact fun q => nomatch (show NameKind.local = NameKind.cell from q)
    · rcases List.mem_cons.mp z with z | z
      · rw [z]; decide
      · rcases List.mem_cons.mp z with z | z
        · rw [z]; decide
        · cases z
  have look : ∀ x : Str, x ≠ "self" → x ∉ fs → (iScope fs).names.lookup x = ([(PySem.Str.ofString "__class__", NameKind.free), (PySem.Str.ofString "super", NameKind.globalImplicit)] : List (Str × NameKind)).lookup x := fun x h1 h2 => by
    show ((PySem.Str.ofString "self", NameKind.local) :: ((fs.map fun f => (f, NameKind.local)) ++ [(PySem.Str.ofString "__class__", NameKind.free), (PySem.Str.ofString "super", NameKind.globalImplicit)])).lookup x = _
    have e1 : (x == (PySem.Str.ofString "self")) = false := by simpa using h1
    rw [List.lookup_cons, e1]
    show ((fs.map fun f => (f, NameKind.local)) ++ _).lookup x = _
    have key : ∀ (l : List Str) (r : List (Str × NameKind)), x ∉ l → ((l.map fun f => (f, NameKind.local)) ++ r).lookup x = r.lookup x := by
      intro l r
      induction l with
      | nil => intro _; rfl
      | cons a l ih =>
        intro hn
        have e2 : (x == a) = false := by simpa using (fun z => hn (by rw [z]; exact List.mem_cons_self))
        show ((a, NameKind.local) :: ((l.map fun f => (f, NameKind.local)) ++ r)).lookup x = _
        rw [List.lookup_cons, e2]
        exact ih fun z => hn (List.mem_cons_of_mem _ z)
    exact key fs _ h2
  have cls_in := T.outs.1
  have sup_in := T.outs.2
  have hks : (iScope fs).names.lookup ("super" : Str) = some .globalImplicit := by rw [look _ (by decide) sup_in]; rfl
  have hkc : (iScope fs).names.lookup ("__class__" : Str) = some .free := by rw [look _ (by decide) cls_in]; rfl
  refine ks_codeAny_call_defAt (fd := ksFn "__init__" qual params (supSt msg j p0 p1 p2 p3 p4 p5 :: ps.map setSt) (iScope fs) .none kV doc pm an (.ref cda) ct cc) (body := supSt msg j p0 p1 p2 p3 p4 p5 :: ps.map setSt) (binds := (("self" : Str), .ref e) :: fs.zip us) hroom (X _ _ ho) rfl hlim (codeRec_of X hcd) rfl (BindsTo.of_eq (hbind _ _ hl)) hcellN (fun y hy => ?_) (fun h1 hns hk => ?_) rfl rfl rfl
  · rcases List.mem_cons.mp hy with z | z
    · rw [z]; rfl
    · exact kin _ (List.of_mem_zip z).1
  have X1 : K.In h1 := X.keeps hk
  have hx1 := hk _ _ hx
  have hself : (((("self" : Str), Value.ref e) :: fs.zip us).reverse).lookup ("self" : Str) = some (.ref e) := by
    rw [List.reverse_cons]
    have key : ∀ (l : List (Str × Value)), (∀ p ∈ l, p.1 ≠ "self") → (l ++ [(("self" : Str), Value.ref e)]).lookup ("self" : Str) = some (.ref e) := by
      intro l
      induction l with
      | nil => intro _; rfl
      | cons p r ih =>
        intro hp
        have e1 : ((PySem.Str.ofString "self") == p.1) = false := by simpa using Ne.symm (hp p List.mem_cons_self)
        show (p :: (r ++ _)).lookup _ = _
        obtain ⟨p1, p2⟩ := p
        rw [List.lookup_cons, e1]
        exact ih fun z hz => hp z (List.mem_cons_of_mem _ hz)
    exact key _ fun p hp => nself _ (List.of_mem_zip (List.mem_reverse.mp hp)).1
  obtain ⟨pl, hev⟩ := hev (callEnv (ksFn "__init__" qual params (supSt msg j p0 p1 p2 p3 p4 p5 :: ps.map setSt) (iScope fs) .none kV doc pm an (.ref cda) ct cc) s.heap.objs.size fI)
  refine ks_wpAt_execs_cons (ks_wpAt_Expr_any (ks_wpAt_MethodCall (pl := pl) ?_ hev))
  refine ks_wpAt_super_base (env := callEnv (ksFn "__init__" qual params (supSt msg j p0 p1 p2 p3 p4 p5 :: ps.map setSt) (iScope fs) .none kV doc pm an (.ref cda) ct cc) s.heap.objs.size fI) hks hkc (by decide) rfl (X1 _ _ ho) rfl har rfl (X1 _ _ hcode) rfl hvs hfile T.topN ?_
  refine ks_loadName_global rfl hks (loadGlobal_builtin (hg.keeps hk) (mg_none_of X hg T.gsup) (hmb.keeps hk) ((hmbv _ (by decide +kernel)).trans (by first | boot_by_name | rfl | kernel_rfl)) ⟨rfl, ?_⟩)
  refine wpAny_loadName_free rfl hkc rfl ⟨_, X1 _ _ hcell, rfl⟩ ?_
  rw [hara]
  refine wpAny_loadName_local (v := .ref e) rfl rfl hns hself ?_
  refine ks_wpAny_isType_cls (X1 _ _ hC) rfl ⟨rfl, ?_⟩
  refine ks_wpAny_call_super (X1 _ _ hC) rfl hx1 rfl (fun c z => by cases z) (looks_mroIn X1 T.own) (fun h2 hso k2 => ?_)
  have X2 : K.In h2 := X1.keeps k2
  have hx2 := k2 _ _ hx1
  have J2 : InstAt h2 e (excO C t0) C none := ⟨hx2, rfl, rfl, trivial⟩
  have hsup := T.sup
  unfold ks_superIn at hsup
  rw [hcl] at hsup
  refine kxs_getMethod kxs_ValueError hso (looks_opaque X2 T.opq) (l₀ := .ref C :: bm) ((looks_clsIn X2 hcl).andThen .now) rfl X2 hsup (J2.type.andThen (looks_subIn X2 T.veC)) (ks_ne X2 J2 hcl) (by decide) ?_
  refine kxs_callWith (i := "ValueError.__init__") (x := e) rfl ?_
  refine evalArgs_plain (spliced_cons (Constant_str (k := j) (pos := p3) (spliced_nil ⟨?_, ?_⟩)))
  · show (h2.push (kxs_mw "ValueError.__init__" e)).get? h2.objs.size = some _
    exact Heap.get?_push_size h2 rfl
  · have hx3 : (h2.push (kxs_mw "ValueError.__init__" e)).get? e = some (excO C t0) := Heap.get?_push_of_some _ hx2
    refine call_mw hx3 (Heap.get?_push_size h2 rfl) (Heap.get?_push_of_some _ (X2 _ _ hC)) (one_size _) (fun h4 t1 k4 hx4 => ?_)
    show wpAt _ _ _ (execs (ps.map setSt) _) _ _ _
    refine wpAt_of_wpAny ?_
    have keep4 : ∀ b o, b ≠ e → s.heap.get? b = some o → h4.get? b = some o := fun b o hb ho => k4 b o hb (Heap.get?_push_of_some _ (k2 b o (hk b o ho)))
    have ltL := hns.lt
    have hLe : s.heap.objs.size ≠ e := Nat.ne_of_gt (Heap.lt_size hx)
    have hn4 : h4.Ns s.heap.objs.size fun x => List.lookup x ((("self" : Str), Value.ref e) :: fs.zip us).reverse := by
      obtain ⟨oL, es, ep, hoL, r⟩ := hns
      exact ⟨oL, es, ep, k4 _ _ hLe (Heap.get?_push_of_some _ (k2 _ _ hoL)), r⟩
    refine sets (us := us) (done := []) T rfl rfl s.heap _ ps _ (by rw [← hps, List.length_map] at hl; exact hl.symm) (fun p hp => ?_) (fun z hz => ?_) ?_ hself hn4 hLe keep4 X hnx (Nat.le_of_lt hn4.lt) ⟨t1, none, hx4, rfl, fun dx z => nomatch z⟩ (fun s' e1 e2 e3 hE => ?_)
    · have pin : p.f ∈ fs := by rw [← hps]; exact List.mem_map_of_mem hp
      exact ⟨pin, kin _ pin⟩
    · rw [hps] at hz
      show List.lookup z.1 ((("self" : Str), Value.ref e) :: fs.zip us).reverse = some z.2
      rw [List.reverse_cons]
      have q1 := lookup_zip T.nd hz
      have app : ∀ (l r : List (Str × Value)) (v : Value), l.lookup z.1 = some v → (l ++ r).lookup z.1 = some v := by
        intro l r v
        induction l with
        | nil => intro q; cases q
        | cons a l ih =>
          obtain ⟨a1, a2⟩ := a
          intro q
          show ((a1, a2) :: (l ++ r)).lookup z.1 = some v
          rw [List.lookup_cons] at q ⊢
          cases qq : (z.1 == a1) with
          | true => rw [qq] at q; exact q
          | false => rw [qq] at q; exact ih q
      exact app _ _ _ q1
    · have z := T.len
      rw [← hps, List.length_map] at z
      simpa using z
    · rw [hps, List.append_nil] at hE
      exact hq s' e1 e2 e3 hE

/-- a made error -/
structure Made (h h' : Heap) (e C : Addr) (fvs : List (Str × Value)) : Prop where
  keep : ∀ b o, h.get? b = some o → h'.get? b = some o
  new : h.objs.size ≤ e
  obj : ∃ t1 d, h'.get? e = some (eO C t1 d) ∧ DictOk h h' e fvs d
theorem err_made (T : ErrTxt prog K fs C) {us : List Value} (hl : us.length = fs.length) (X : K.In s.heap) (hg : s.heap.Ns mainGlobals mg) (hb : ∃ mb, s.heap.Ns builtinsNs mb ∧ ∀ x : Str, x ≠ "__name__" → mb x = bootBuiltins x)
    (hlim : s.heap.NoLimit) (hroom : A.depth + 1 < recursionLimit) (hq : ∀ s' e, s'.os = s.os → s'.gens = s.gens → s'.drawn = s.drawn → Made s.heap s'.heap e C (fs.zip us).reverse → R (.ok (.ret (.ref e))) s') :
    codeAny (model prog w) A (.call (.ref C) ⟨us, []⟩) R s := by
  obtain ⟨nm, q, N, bs, bm, sn, sub, ab, col, dd, k0, k1, k2, k3, k5, hC, hbm⟩ := T.cls
  obtain ⟨fI, cc, cda, oc, od, qual, params, body, kV, doc, pm, an, ct, osl, ccl, cdd, vs, ccs, file, tf, cl, cld, csl, i1, i2, _⟩ := T.init
  obtain ⟨hp, g, dr, tk, os⟩ := s
  have k : ∀ b o, hp.get? b = some o → ((hp.push (kdv_tup us)).push (excO C hp.objs.size)).get? b = some o := fun b o e => Heap.get?_push_of_some _ (Heap.get?_push_of_some _ e)
  have hget : ((hp.push (kdv_tup us)).push (excO C hp.objs.size)).get? (hp.objs.size + 1) = some (excO C hp.objs.size) := by heap_get
  have hnx : K.lookup (hp.objs.size + 1) = none := by
    cases e : K.lookup (hp.objs.size + 1) with
    | none => rfl
    | some o =>
      have z : hp.get? (hp.objs.size + 1) = some o := X _ _ e
      exact absurd (Nat.lt_of_succ_lt (Heap.lt_size z)) (Nat.lt_irrefl _)
  have usz : us.length ≤ sizeLine := by have := T.len; rw [hl, sizeLine_eq]; omega
  refine call_own F.excBase_ValueError (fun X => refsVE_contains X bm hbm) (X _ _ hC) (looks_findIn X i1) (fun self => bind_fn X self i2) usz ?_
  refine err_init (s := ⟨(hp.push (kdv_tup us)).push (excO C hp.objs.size), g, dr, tk, os⟩) T i1 hl (X.keeps k) (hg.keeps k) (by obtain ⟨mb, h1, h2⟩ := hb; exact ⟨mb, h1.keeps k, h2⟩) (hlim.keeps k) hget hnx ?_ fun s' e1 e2 e3 hE => ?_
  · show A.depth + 1 < recursionLimit
    exact hroom
  · obtain ⟨k', t1, d, hobj, hd⟩ := hE
    have old : ∀ b o, hp.get? b = some o → s'.heap.get? b = some o := fun b o e => k' b o (Nat.ne_of_lt (Nat.lt_succ_of_lt (Heap.lt_size e))) (k b o e)
    refine ⟨rfl, hq s' (hp.objs.size + 1) e1 e2 e3 ⟨old, Nat.le_succ _, t1, d, hobj, ?_⟩⟩
    cases z : (fs.zip us).reverse with
    | nil => rw [z] at hd; exact hd
    | cons a r =>
      rw [z] at hd
      obtain ⟨dx, rfl, h1, h2, h3⟩ := hd
      refine ⟨dx, rfl, Nat.le_trans ?_ h1, h2, h3⟩
      show hp.objs.size ≤ ((hp.push (kdv_tup us)).push (excO C hp.objs.size)).objs.size
      rw [Heap.size_push, Heap.size_push]
      omega
end
end ErrX
end PySem

namespace L2
open PySem PySem.Spec PyProof.Rows
theorem relO_mOf {vs : List V} {us : List Value} (r : Vals vs us) : ∀ (fs : List Str) (g : Str), RelO (((fs.zip vs).reverse).lookup g) (ErrX.mOf (fs.zip us).reverse g) := by
  have key : ∀ (l : List (Str × V)) (m : List (Str × Value)), Paired (fun (p : Str × V) (q : Str × Value) => p.1 = q.1 ∧ RelV p.2 q.2) l m → ∀ g, RelO (l.lookup g) (ErrX.mOf m g) := by
    intro l m h
    induction h with
    | nil => intro g; trivial
    | cons a _ ih =>
      rename_i p q l m _
      obtain ⟨p1, p2⟩ := p
      obtain ⟨q1, q2⟩ := q
      obtain ⟨e, rv⟩ := a
      dsimp only at e rv
      subst e
      intro g
      rw [lookup_put]
      show RelO _ (if g = p1 then some q2 else ErrX.mOf m g)
      by_cases h : g = p1
      · rw [if_pos h, if_pos h]; exact rv
      · rw [if_neg h, if_neg h]; exact ih g
  intro fs g
  refine key _ _ ?_ g
  have zp : ∀ (fs : List Str) {vs : List V} {us : List Value}, Vals vs us → Paired (fun (p : Str × V) (q : Str × Value) => p.1 = q.1 ∧ RelV p.2 q.2) (fs.zip vs) (fs.zip us) := by
    intro fs
    induction fs with
    | nil => intro vs us _; exact .nil
    | cons f r ih =>
      intro vs us rr
      cases rr with
      | nil => exact .nil
      | cons a b => exact .cons ⟨rfl, a⟩ (ih b)
  have app : ∀ {l1 l2 : List (Str × V)} {m1 m2 : List (Str × Value)}, Paired (fun (p : Str × V) (q : Str × Value) => p.1 = q.1 ∧ RelV p.2 q.2) l1 m1 → Paired (fun (p : Str × V) (q : Str × Value) => p.1 = q.1 ∧ RelV p.2 q.2) l2 m2 → Paired (fun (p : Str × V) (q : Str × Value) => p.1 = q.1 ∧ RelV p.2 q.2) (l1 ++ l2) (m1 ++ m2) := by
    intro l1 l2 m1 m2 h1 h2
    induction h1 with
    | nil => exact h2
    | cons a _ ih => exact .cons a ih
  have rev : ∀ {l : List (Str × V)} {m : List (Str × Value)}, Paired (fun (p : Str × V) (q : Str × Value) => p.1 = q.1 ∧ RelV p.2 q.2) l m → Paired (fun (p : Str × V) (q : Str × Value) => p.1 = q.1 ∧ RelV p.2 q.2) l.reverse m.reverse := by
    intro l m h
    induction h with
    | nil => exact .nil
    | cons a _ ih => rw [List.reverse_cons, List.reverse_cons]; exact app ih (.cons a .nil)
  exact rev (zp fs r)
section
variable {X : Cx} {C : Addr} {fs : List Str} {x : Str}
/-- X(e, ..): an error with its fields (its dict d; none where it has none) -/
def tMkErr (C : Addr) (fs : List Str) (ta : TA) : St → Hp → XK → Prop := fun σ H Q => ta σ H fun vs H1 => vs.length = fs.length ∧
  (fs = [] → Q (.ref C) none H1) ∧ (fs ≠ [] → ∀ d, H1 d = none → Q (.ref C) (some d) (upd H1 d (.xd (fs.zip vs).reverse)))
theorem mk_err {pins : List (Addr × Obj)} {s1 : Shared} {σ : St} {H1 : Hp} {Q : XK} {us : List Value} {vs : List V} {k : Nat} (T : ErrX.ErrTxt X.prog X.K fs C) (hr : Room k X.A) (I1 : Inv X pins σ H1 s1) (r1 : Vals vs us) (hl : vs.length = fs.length)
    (q0 : fs = [] → Q (.ref C) none H1) (q1 : fs ≠ [] → ∀ d, H1 d = none → Q (.ref C) (some d) (upd H1 d (.xd (fs.zip vs).reverse))) : wpAny (model X.prog X.w) X.A (call (.ref C) us) (MkP X pins σ Q) X.xe s1 := by
  have hlim := I1.nolimit
  have hul : us.length = fs.length := by rw [← r1.length]; exact hl
  obtain ⟨hp, g, dr, tk, os⟩ := s1
  refine wpAny_call (ErrX.err_made T hul I1.kIn (I1.ok.mod.glob.keeps I1.bk) (by obtain ⟨mb, h1, h2⟩ := I1.ok.mod.blt; exact ⟨mb, h1.keeps I1.bk, h2⟩) hlim (by have := hr.dp; omega) fun s' e e1 e2 e3 M => ?_)
  obtain ⟨h', g', dr', tk', os'⟩ := s'
  obtain rfl : os' = os := e1
  obtain rfl : g' = g := e2
  obtain rfl : dr' = dr := e3
  show MkP X pins σ Q (.ref e) ⟨h', g', dr', tk', os'⟩
  obtain ⟨t1, d, hoe, hd⟩ := M.obj
  obtain ⟨G', g1, g2⟩ := restrict h' fun b => decide (b ≠ e)
  have gk : ∀ b, b ≠ e → G'.get? b = h'.get? b := fun b hb => g1 b (decide_eq_true hb)
  have ge : G'.get? e = none := g2 e (by simp)
  have old : ∀ b o, hp.get? b = some o → G'.get? b = some o := fun b o q => (gk b (Nat.ne_of_lt (Nat.lt_of_lt_of_le (Heap.lt_size q) M.new))).trans (M.keep b o q)
  have back : ∀ b o, G'.get? b = some o → h'.get? b = some o := fun b o q => by
    by_cases hb : b = e
    · rw [hb, ge] at q; cases q
    · exact (gk b hb).symm.trans q
  cases z : (fs.zip us).reverse with
  | nil =>
    rw [z] at hd
    obtain rfl : d = none := hd
    have fe : fs = [] := by
      cases fs with
      | nil => rfl
      | cons a r =>
        cases us with
        | nil => simp at hul
        | cons u us => simp at z
    have J : Inv X pins σ H1 ⟨G', g', dr', tk', os'⟩ := I1.kept (t' := tk') old
    exact ⟨e, _, _, ⟨G', g', dr', tk', os'⟩, _, .ref C, none, rfl, J, back, ge, hoe, ⟨rfl, rfl⟩, rfl, rfl, I1.hok.fresh M.new, rfl, I1.bare, raises_own T.exC T.tyC, q0 fe⟩
  | cons a r =>
    rw [z] at hd
    obtain ⟨dx, rfl, dbig, dne, hns⟩ := hd
    have fe : fs ≠ [] := fun q => by subst q; simp at z
    have ob : ObjOk X.prog X.w (upd H1 dx (.xd (fs.zip vs).reverse)) G' dx (.xd (fs.zip vs).reverse) :=
      ⟨_, hns.at (fun o q => (gk dx dne).trans q), fun f => by rw [← z]; exact relO_mOf r1 fs f⟩
    have J : Inv X pins σ (upd H1 dx (.xd (fs.zip vs).reverse)) ⟨G', g', dr', tk', os'⟩ := I1.laid (t' := tk') old dbig ob
    refine ⟨e, _, _, ⟨G', g', dr', tk', os'⟩, _, .ref C, some dx, rfl, J, back, ge, hoe, ⟨rfl, rfl⟩, rfl, rfl, ?_, rfl, I1.bare, raises_own T.exC T.tyC, q1 fe dx (I1.hok.fresh dbig)⟩
    rw [upd_ne (Ne.symm dne)]
    exact I1.hok.fresh M.new
theorem pmk_err {a : Expr} {as : List Expr} {ta : TA} {p pos : Pos} {k : Nat} (T : ErrX.ErrTxt X.prog X.K fs C) (hm : X.mg x = some (.ref C)) (hr : Room k X.A) (ha : PA X (a :: as) ta) (hg : Gl X x := by rfl) (hdb : (x == ("__debug__" : Str)) = false := by decide)
    (he : starEach (a :: as) X.env = (false, eval a X.env) :: starEach as X.env := by rfl) (hpl : (backTo pos (starEach as X.env)).any (·.1) = false := by rfl) :
    PMk X (.Call (.Name x p) (a :: as) [] pos) (tMkErr C fs ta) := by
  intro pins s σ H Q I h
  refine wpAny_Call_Name_kw (ld_glob I hg hm ?_ hdb)
  refine PySem.W.callWith_K (h₀ := X.base) I.ok.mod.kin T.kC (thn (ha.run pos pins s σ H _ I h) fun us s1 hh => ?_) he hpl
  obtain ⟨vs, H1, I1, r1, hl, q0, q1⟩ := hh
  exact ⟨I1.kIn, mk_err T hr I1 r1 hl q0 q1⟩
end
end L2


set_option Elab.async false
set_option linter.all false
set_option maxRecDepth 100000
set_option maxHeartbeats 4000000
/-! try with several except clauses, with and without a name; an error's fields and isinstance in a suite -/
namespace L2
open PySem PySem.Spec PyProof.Rows
/-- an except clause: its class, the slot of its name (if any), its suite -/
structure Cl where
  c : Value
  slot : Option Nat
  ts : Addr → Value → Option Addr → TS
/-- where a suite ends: its name goes -/
def dropAt (o : Option Nat) (D : Ends) : Ends := match o with
  | none => D
  | some i => { nx := fun z => D.nx (z.set i none), rt := D.rt, bk := fun z => D.bk (z.set i none), ct := fun z => D.ct (z.set i none) }
def putAt (o : Option Nat) (a : Addr) (z : St) : St := match o with
  | none => z
  | some i => z.set i (some (.ref a))
def wCl (K : PySem.W.Frag) (Wout : WX) (D : Ends) : List Cl → WX
  | [] => Wout
  | k :: r => fun cls d z H => ∃ b, PySem.W.exmOne K cls k.c = some b ∧ (b = true → ∀ a, H a = none → k.ts a cls d (dropAt k.slot D) (putAt k.slot a z) H) ∧ (b = false → wCl K Wout D r cls d z H)
inductive ClsOk (X : Cx) : List ExceptHandler → List Cl → Prop
  | nil : ClsOk X [] []
  | bare {x : Str} {k : Cl} {b0 : Stmt} {su : List Stmt} {np p : Pos} {hds : List ExceptHandler} {l : List Cl} (hc : Names X x k.c) (hk : k.slot = none)
      (hsu : ∀ (a : Addr) (oe : Obj) (cls : Value) (d : Option Addr) (pn : List (Addr × Obj)), Zc cls d oe → (∃ vs, oe.data = .fields vs) → PSs (X.suite a ((a, oe) :: pn)) (b0 :: su) (k.ts a cls d)) (r : ClsOk X hds l) :
      ClsOk X (.ExceptHandler (some (.Name x np)) none (b0 :: su) p :: hds) (k :: l)
  | named {x n : Str} {i : Nat} {k : Cl} {b0 : Stmt} {su : List Stmt} {np p : Pos} {hds : List ExceptHandler} {l : List Cl} (hc : Names X x k.c) (hk : k.slot = some i) (hi : X.N[i]? = some n) (hln : X.env.kindOf n = some .local)
      (hsu : ∀ (a : Addr) (oe : Obj) (cls : Value) (d : Option Addr) (pn : List (Addr × Obj)), Zc cls d oe → (∃ vs, oe.data = .fields vs) → PSs (X.suite a ((a, oe) :: pn)) (b0 :: su) (k.ts a cls d)) (r : ClsOk X hds l) :
      ClsOk X (.ExceptHandler (some (.Name x np)) (some n) (b0 :: su) p :: hds) (k :: l)
section
variable {X : Cx}
/-- the clauses, looked at one after the other, with the exception at a in the air -/
theorem clauses_go {B : Heap} {a : Addr} {pins : List (Addr × Obj)} {D : Ends} {sI s' : Shared} {h3 : Heap} {z : St} {H : Hp} {cls : Value} {d : Option Addr} {Wout : WX} (hs : X.stack = X.env :: X.outer) (hf : X.env.frame = some X.env.locals) (hN : X.N.Nodup) (tk : Takes X Wout) (ok : X.Ok)
    (J : Inv X pins z H sI) (nb : ∀ b o, sI.heap.get? b = some o → b ∉ frs X.stack → B.get? b = some o) (up : sI.heap.UpToSlots h3) (fl : HandSPX.FlyingZ B (X.env :: X.outer) a (Zc cls d) h3) (na : H a = none) (os : s'.os = sI.os) (ag : AllBare s'.gens) :
    ∀ {hds : List ExceptHandler} {l : List Cl}, ClsOk X hds l → wCl X.K Wout D l cls d z H → wpAny (model X.prog X.w) X.A (handleBy (.ref a) X.env hds) (SP X pins D) X.xe { s' with heap := h3 } := by
  have J3 : Inv X pins z H { s' with heap := h3 } := J.landed (s' := { s' with heap := h3 }) nb fl.1 up os ag
  obtain ⟨oe, vs, he, hz, hd⟩ := fl.there
  have nfr : a ∉ frs (X.env :: X.outer) := fun hm => by
    obtain ⟨_, o', e', hnf⟩ := fl.2.2.1.mem hm
    rw [he] at e'
    cases e'
    exact hnf _ hd
  have nL : a ≠ X.env.locals := fun q => nfr (List.mem_filterMap.mpr ⟨X.env, List.mem_cons_self, by rw [hf, q]⟩)
  have nF : a ∉ X.fs := fun hm => by
    obtain ⟨e, h1, q⟩ := List.mem_filterMap.mp hm
    exact nfr (List.mem_filterMap.mpr ⟨e, List.mem_cons_of_mem _ h1, q⟩)
  have S3 := J3.suite he hd na nL nF
  have LT : PySem.W.Looks (model X.prog X.w) h3 (typeOf (.ref a)) cls := fun A Q E s k q => wpAny_typeOf_ref (k _ _ he) (by rw [hz.1]; exact q)
  have test : ∀ {x : Str} {c : Value} {np : Pos}, Names X x c → ∀ {Q : Value → Shared → Prop} {E : Value → Shared → Prop}, Q c { s' with heap := h3 } → wpAny (model X.prog X.w) (X.A.mark (some (.ref a))) (eval (.Name x np) X.env) Q E { s' with heap := h3 } := by
    intro x c np hc Q E q
    obtain ⟨hg, hdb, hm | ⟨hm, hv, hn⟩⟩ := hc
    · exact ld_glob (X := X.suite a ((a, oe) :: (X.pn ++ pins))) S3 hg hm q hdb
    · exact ld_blt (X := X.suite a ((a, oe) :: (X.pn ++ pins))) S3 hg hm hv q hn hdb
  intro hds l hk
  induction hk with
  | nil =>
    intro w
    refine wpAny_handleBy_nil ?_
    obtain ⟨k1, k2, k3, oe', vs', T, oT, ts', he', hz', hd', h1, hr⟩ := id fl
    unfold PySem.passOn
    refine wpAny_bind (wpAny_field he' hd' h1 ?_)
    rw [if_neg (show ¬ ((Value.ref T == Value.none) = true) from by simp)]
    have out : wpAny (model X.prog X.w) X.A (setFlight (.ref a) X.env.frame) (fun _ s4 => wpAny (model X.prog X.w) X.A (throw (.ref a) : Sem Flow) (SP X pins D) X.xe s4) X.xe { s' with heap := h3 } := by
      rw [hf]
      exact HandSPX.setFlight_upZ fl fun h4 hh4 up4 => wpAny_throw (tk _ _ ⟨a, B, sI, pins, z, H, cls, d, rfl, J, nb, up.trans up4, .inr (.inr (by rw [hs]; exact hh4)), na, os, ag, w⟩)
    first
      | exact wpAny_bind (wpAny_pure (wpAny_bind out))
      | exact wpAny_bind out
  | @bare x k b0 su np p hds2 l2 hc hk hsu r ih =>
    intro w
    obtain ⟨b, hb1, hyes, hno⟩ := w
    refine wpAny_handleBy_cons (codeAny_handlers_test ?_) (by intro q; cases q)
    refine test hc ((PySem.W.exm_one (M := model X.prog X.w) J3.kIn LT hb1).here ?_)
    cases b with
    | false => exact ih (hno rfl)
    | true =>
      refine codeAny_handlers_suite (HandSPX.lands_againZ fl fun h4 fl4 up4 => ?_)
      have J4 : Inv X pins z H { s' with heap := h4 } := J.landed (s' := { s' with heap := h4 }) nb fl4.1 (up.trans up4) os ag
      obtain ⟨oe4, vs4, he4, hz4, hd4⟩ := fl4.there
      have go := hyes rfl a na
      rw [hk] at go
      refine wpAny_mono ((hsu a oe4 cls d (X.pn ++ pins) hz4 ⟨_, hd4⟩).run [] _ _ H _ (J4.suite he4 hd4 na nL nF) go) (fun f s6 hsp => ?_) (fun _ _ q => False.elim q)
      cases f with
      | ret u =>
        obtain ⟨v6, z6, H6, S6, r6, q6⟩ := hsp
        exact ⟨_, _, _, S6.unsuite ok, r6, q6⟩
      | next | brk | cont =>
        obtain ⟨z6, H6, S6, q6⟩ := hsp
        exact ⟨_, _, S6.unsuite ok, q6⟩
  | @named x n i k b0 su np p hds2 l2 hc hk hi hln hsu r ih =>
    intro w
    obtain ⟨b, hb1, hyes, hno⟩ := w
    refine wpAny_handleBy_cons (codeAny_handlers_test ?_) (by intro q; cases q)
    refine test hc ((PySem.W.exm_one (M := model X.prog X.w) J3.kIn LT hb1).here ?_)
    cases b with
    | false => exact ih (hno rfl)
    | true =>
      refine codeAny_handlers_suite_as (HandSPX.lands_againZ fl fun h4 fl4 up4 => ?_)
      have J4 : Inv X pins z H { s' with heap := h4 } := J.landed (s' := { s' with heap := h4 }) nb fl4.1 (up.trans up4) os ag
      obtain ⟨oe4, vs4, he4, hz4, hd4⟩ := fl4.there
      have go := hyes rfl a na
      rw [hk] at go
      refine store_ok (X := X.suite a ((a, oe4) :: (X.pn ++ pins))) (v := .ref a) (J4.suite he4 hd4 na nL nF) hN hi (.inl hln) rfl (fun s5 S5 => ?_) (.inr hln)
      refine wpAny_mono ((hsu a oe4 cls d (X.pn ++ pins) hz4 ⟨_, hd4⟩).run [] s5 _ H _ S5 go) (fun f s6 hsp => ?_) (fun _ _ q => False.elim q)
      have gone : ∀ {z6 : St} {H6 : Hp} {Q : Shared → Prop}, Inv (X.suite a ((a, oe4) :: (X.pn ++ pins))) [] z6 H6 s6 → (∀ s7, Inv X pins (z6.set i none) H6 s7 → Q s7) →
          wpAny (model X.prog X.w) X.A (do bindName X.env n .none; unbindBehindTheSuite X.env n p) (fun _ s7 => Q s7) X.xe s6 := fun S6 hq => gone_ok (S6.unsuite ok) hN hi hln hq
      cases f with
      | ret u =>
        obtain ⟨v6, z6, H6, S6, r6, q6⟩ := hsp
        exact gone S6 fun s7 J7 => ⟨_, _, _, J7, r6, q6⟩
      | next | brk | cont =>
        obtain ⟨z6, H6, S6, q6⟩ := hsp
        exact gone S6 fun s7 J7 => ⟨_, _, J7, q6⟩
/-- try: body / except .. (as ..): .. -/
theorem ps_try_cls {body : List Stmt} {h0 : ExceptHandler} {hds : List ExceptHandler} {l : List Cl} {pos : Pos} {tb : WX → TS} {Wout : WX} (hs : X.stack = X.env :: X.outer) (hf : X.env.frame = some X.env.locals) (hN : X.N.Nodup) (tk : Takes X Wout)
    (hb : ∀ (W : WX) (pn : List (Addr × Obj)) (xe : Value → Shared → Prop), Takes (X.tr pn xe) W → PassesOwn (model X.prog X.w) X.A X.env xe → PSs (X.tr pn xe) body (tb W))
    (hh : ClsOk X (h0 :: hds) l) : PS X (.Try body (h0 :: hds) [] [] pos) (fun D z H => tb (wCl X.K Wout D l) D z H) := by
  refine ⟨fun pins s z H D I h => ?_⟩
  have ok := I.ok
  have hfr : X.A.frames = some (X.env :: X.outer) := by rw [ok.frames, hs]
  refine wpAny_Try_except (wpAny_mono ((hb (wCl X.K Wout D l) (X.pn ++ pins) (fun e s1 => wpAny (model X.prog X.w) X.A (noteFrame e X.env) (fun _ s2 => wpAny (model X.prog X.w) X.A (setFlight e none) (fun _ s3 =>
    wpAny (model X.prog X.w) X.A (handleBy e X.env (h0 :: hds)) (SP X pins D) X.xe s3) X.xe s2) X.xe s1) (fun u s' xx => ?_) PassesOwn.looking).run [] s z H D (I.toTry _) h) (fun f s1 hsp => ?_) (fun e s1 he => he))
  · obtain ⟨a, B, sI, pins', z', H', cls, d, rfl, J', nb, up, sky, na, os, ag, w⟩ := xx
    show wpAny (model X.prog X.w) X.A (noteFrame (.ref a) X.env) _ _ _
    exact Sky.land Zc.steady hfr hf (by rw [← hs]; exact sky) fun h3 fl3 up3 => clauses_go hs hf hN tk ok (J'.ofTry ok) nb (up.trans up3) fl3 na os ag hh w
  · cases f with
    | next =>
      obtain ⟨z', H', J', q⟩ := hsp
      exact wpAny_execs_nil ⟨z', H', J'.ofTry ok, q⟩
    | brk | cont =>
      obtain ⟨z', H', J', q⟩ := hsp
      exact ⟨z', H', J'.ofTry ok, q⟩
    | ret u =>
      obtain ⟨v, z', H', J', r, q⟩ := hsp
      exact ⟨v, z', H', J'.ofTry ok, r, q⟩

/-- e.f, e the error that the suite holds at a (class cls, dict d) -/
def tErrFld (C a : Addr) (cls : Value) (d : Option Addr) (f : Str) (te : TE) : TE := fun z H Q => te z H fun x H1 => x = .ref a ∧ cls = .ref C ∧ ∃ (dd : Addr) (fvs : List (Str × V)) (v : V), d = some dd ∧ H1 dd = some (.xd fvs) ∧ fvs.lookup f = some v ∧ Q v H1
theorem pe_errFld {fs : List Str} {C a : Addr} {oe : Obj} {cls : Value} {d : Option Addr} {pn : List (Addr × Obj)} {e : Expr} {te : TE} {f : Str} {pos : Pos} (T : ErrX.ErrTxt X.prog X.K fs C) (hm : f ∈ fs) (hz : Zc cls d oe) (hf : ∃ vs, oe.data = .fields vs) (he : PE (X.suite a ((a, oe) :: pn)) e te)
    (hb : attributeBase e f X.env (eval e X.env) = eval e X.env := by rfl) : PE (X.suite a ((a, oe) :: pn)) (.Attribute e f pos) (tErrFld C a cls d f te) := by
  refine ⟨fun pins s z H Q I h => attr_of hb (thn (he.run pins s z H _ I h) fun u s1 hh => ?_)⟩
  obtain ⟨x, H1, I1, rx, ex, ec, dd, fvs, v, ed, ea, el, q⟩ := hh
  subst ex ec ed
  obtain rfl : u = Value.ref a := rx
  obtain ⟨ha, _⟩ := I1.pin (a, oe) (List.mem_append_left _ List.mem_cons_self)
  obtain ⟨vs, hd⟩ := hf
  have hx : ObjOk X.prog X.w H1 s1.heap dd (.xd fvs) := I1.hok dd _ ea
  obtain ⟨mA, hns, hr⟩ := hx
  obtain ⟨od, ho, hl⟩ := lookIn_ns hns
  obtain ⟨u, hu, ru⟩ := RelO.some_of (v := v) (o := mA f) (by rw [← el]; exact hr f)
  have J : PySem.W.InstAt s1.heap a oe C (some od) := ⟨ha, hz.1, by unfold PySem.W.notCls; rw [hd] <;> rfl, by rw [hz.2]; exact ho⟩
  exact HandSPX.exc_get I1.kIn J T.ga T.gg T.exC (PySem.W.findObj_own T.hdC (T.noN _ hm) rfl (by rw [hl, hu])) (handed_of ru) ⟨v, H1, I1.tok _, ru, q⟩
/-- what the class at D must say, so that isinstance asks its instances rightly -/
structure ErrK (K : PySem.W.Frag) (D : Addr) : Prop where
  hcl : (PySem.W.clsIn K D).isSome = true
  hga : PySem.W.findIn K (.ref D) "__getattribute__" = some (some (.builtin "BaseException.__getattribute__"))
  hgt : PySem.W.findIn K (.ref D) "__getattr__" = some none
  hsub : PySem.W.subIn K (.ref D) (.type "BaseException") = some true
  ha : PySem.W.findIn K (.ref D) "__class__" = some (some (.builtin "object.__class__"))
  hn : PySem.W.specialIn K (.builtin "object.__class__") "__get__" = some (some (.builtin "getset_descriptor.__get__"))
  htk : PySem.W.takesIn K (.builtin "object.__class__") = some true
  hm : PySem.W.mroIn K D (.type "object") = some true
/-- isinstance(e, c), e the error that the suite holds -/
def rIsErr (K : PySem.W.Frag) (a : Addr) (cls : Value) (d : Option Addr) : List V → Hp → VK → Prop := fun xs H Q => ∃ (D : Addr) (c : V) (cv : Value) (b : Bool), cls = .ref D ∧ ErrK K D ∧ xs = [.ref a, c] ∧ (∀ u, RelV c u → u = cv) ∧ PySem.W.kitOne K (.ref D) cv = some b ∧
  (d = none ∨ ∃ dd fvs, d = some dd ∧ H dd = some (.xd fvs)) ∧ Q (.bl b) H
theorem call_isErr {a : Addr} {oe : Obj} {cls : Value} {d : Option Addr} {pn : List (Addr × Obj)} (hz : Zc cls d oe) (hf : ∃ vs, oe.data = .fields vs) : CallR (X.suite a ((a, oe) :: pn)) (.builtin "isinstance") (rIsErr X.K a cls d) := by
  intro pins s z H xs us Q I r h
  obtain ⟨D, c, cv, b, rfl, T, rfl, hcv, e, hd, q⟩ := h
  cases r with
  | cons rx rr =>
    cases rr with
    | cons rt rr =>
      cases rr
      cases rx
      have ec := hcv _ rt
      subst ec
      obtain ⟨hget, _⟩ := I.pin (a, oe) (List.mem_append.mpr (.inl List.mem_cons_self))
      obtain ⟨vs, hv⟩ := hf
      have nc : PySem.W.notCls oe = true := by unfold PySem.W.notCls; rw [hv] <;> rfl
      have J : ∃ od, PySem.W.InstAt s.heap a oe D od := by
        rcases hd with rfl | ⟨dd, fvs, rfl, hx⟩
        · exact ⟨none, hget, hz.1, nc, by rw [hz.2]; trivial⟩
        · have hx' : ObjOk X.prog X.w H s.heap dd (.xd fvs) := I.hok dd _ hx
          obtain ⟨mA, ⟨od, es, ep, ho, _⟩, hr⟩ := hx'
          exact ⟨some od, hget, hz.1, nc, by rw [hz.2]; exact ho⟩
      obtain ⟨od, J⟩ := J
      exact PySem.W.kia_one (PySem.W.kitx_exc T.hcl T.hga T.hgt T.hsub T.ha T.hn T.htk T.hm) I.kIn J e (fun z => nomatch z) fun tk => ⟨.bl b, H, I.kept (t' := tk) fun _ _ z => z, rfl, q⟩
end
end L2


set_option Elab.async false
set_option linter.all false
set_option maxRecDepth 100000
set_option maxHeartbeats 4000000
/-! dicts whose keys are None, ints and texts -/
namespace L2
open PySem PySem.Spec PyProof.Rows
def nV : Option Key → V
  | none => .non
  | some k => kV k
def dNok (P : Program) (w : World) (a : Addr) (kvs : List (Option Key × V)) (h : Heap) : Prop := kvs.length ≤ sizeLine ∧ (a == sysModules) = false ∧ ∃ vs, KV kvs vs ∧ h.DictOf (noneKind P w) a vs
def dN (P : Program) (w : World) (a : Addr) (kvs : List (Option Key × V)) : HO := .ext (dNok P w a kvs)
theorem nV_is {P : Program} {w : World} {k : Option Key} {u : Value} (r : RelV (nV k) u) : (noneKind P w).is k u = true := by
  cases k with
  | none => cases r; rfl
  | some k => exact kV_is (P := P) (w := w) r
section
variable {P : Program} {w : World} {H : Hp} {h h' : Heap} {a : Addr} {kvs : List (Option Key × V)}
theorem dN_ok (z : dNok P w a kvs h) : ObjOk P w H h a (dN P w a kvs) := by
  refine ⟨z, ?_, fun h1 h2 z k => ?_⟩
  · obtain ⟨_, _, vs, _, o, es, ep, e, _⟩ := z
    exact ⟨o, e⟩
  · obtain ⟨z1, z2, vs, r, o, es, ep, e, c⟩ := z
    exact ⟨z1, z2, vs, r, o, es, ep, k _ e, c⟩
theorem dN_at (ok : HOk P w H h) (e : H a = some (dN P w a kvs)) : dNok P w a kvs h := by
  have x : ObjOk P w H h a (.ext (dNok P w a kvs)) := ok a _ e
  exact x.1
theorem dictOf_nil (x : h.DictOf (mixKind P w) a []) : h.DictOf (noneKind P w) a [] := by
  obtain ⟨o, es, ep, h1, h2, h3, h4, h5, h6⟩ := x
  have e0 : es = #[] := by
    cases hs : es with
    | mk l =>
      cases l with
      | nil => rfl
      | cons q r => subst hs; exact nomatch h5
  subst e0
  exact ⟨o, #[], ep, h1, h2, h3, fun e he => absurd he (by simp), .nil, List.nodup_nil⟩
end
theorem carriesN_of {P : Program} {w : World} : ∀ {kvs : List (Option Key × V)} {ws : List (Value × Value)}, VV (kvs.map fun kv => (nV kv.1, kv.2)) ws → ∃ rs, Carries (noneKind P w) ws rs ∧ KV kvs rs
  | [], _, r => by rw [List.map_nil] at r; cases r; exact ⟨[], True.intro, .nil⟩
  | p :: kvs, _, r => by
    rw [List.map_cons] at r
    cases r with
    | @cons a b as bs h t =>
      obtain ⟨rs, c, q⟩ := carriesN_of (P := P) (w := w) t
      obtain ⟨b1, b2⟩ := b
      exact ⟨(p.1, b2) :: rs, ⟨nV_is h.1, rfl, c⟩, .cons ⟨rfl, h.2⟩ q⟩
def mergeN (kvs more : List (Option Key × V)) : List (Option Key × V) := more.foldl (fun acc kv => putK acc kv.1 kv.2) kvs
theorem KV.mergeN : ∀ {more : List (Option Key × V)} {rs : List (Option Key × Value)} {kvs : List (Option Key × V)} {vs : List (Option Key × Value)}, KV more rs → KV kvs vs → KV (mergeN kvs more) (merged vs rs) := by
  intro more rs kvs vs h
  induction h generalizing kvs vs with
  | nil => intro r; exact r
  | @cons a b as bs hab _ ih =>
    intro r
    obtain ⟨a1, a2⟩ := a
    obtain ⟨b1, b2⟩ := b
    obtain ⟨e, rv⟩ := hab
    dsimp only at e rv
    subst e
    exact ih (r.put a1 rv)
theorem length_mergeN : ∀ (more kvs : List (Option Key × V)), (mergeN kvs more).length ≤ kvs.length + more.length
  | [], kvs => Nat.le_refl _
  | p :: more, kvs => by
    have h1 := length_mergeN more (putK kvs p.1 p.2)
    have h2 := length_putK kvs p.1 p.2
    show (mergeN (putK kvs p.1 p.2) more).length ≤ _
    rw [List.length_cons]
    omega
/-- {k: v, ..}, None among the keys -/
def tDispN (P : Program) (w : World) (trs : List (TE × TE)) : TE := fun z H Q => ∀ p, H p = none → tPairs trs z (upd H p (.dK [])) fun ps H2 => H2 p = some (.dK []) ∧ ∃ kvs : List (Option Key × V), ps = kvs.map (fun kv => (nV kv.1, kv.2)) ∧ kvs.length ≤ 15 ∧ Q (.ref p) (upd H2 p (dN P w p (mergeN [] kvs)))
theorem pe_dispN {X : Cx} {pos : Pos} {keys : List (Option Expr)} {values : List Expr} {trs : List (TE × TE)} (h : PPs X pos keys values trs) (hall : keys.all (·.isSome) = true) (hl : keys.length = values.length) (h0 : keys ≠ [])
    (h15 : keys.length ≤ 15) : PE X (.Dict keys values pos) (tDispN X.prog X.w trs) := by
  refine ⟨fun pins s z H Q I q => ?_⟩
  have hn := I.hok.fresh (Nat.le_refl s.heap.objs.size)
  have I1 := I.laid (a := s.heap.objs.size) (o := .dK []) (h' := s.heap.push { cls := .type "dict", data := .dict #[] }) (t' := s.toks) (fun _ _ q => Heap.get?_push_of_some _ q) (Nat.le_refl _) (dk_empty s.heap I.big)
  refine wpAny_Dict_walk (knd := noneKind X.prog X.w) hall hl h0 h15 (thn (h.run pins _ z _ _ I1 (q _ hn)) fun ws s2 ⟨ps, H2, I2, rel, e, kvs, ep, lk, q2⟩ => ?_)
  subst ep
  obtain ⟨rs, c, rk⟩ := carriesN_of (P := X.prog) (w := X.w) rel
  obtain ⟨zz, hd, vs0, r0, dd⟩ := dk_of I2.hok e
  cases r0
  refine ⟨rs, c, dictOf_nil dd, fun h' dd' hs => ⟨.ref s.heap.objs.size, _, ?_, rfl, q2⟩⟩
  have hz : (mergeN [] kvs).length ≤ sizeLine := by
    have h1 := length_mergeN kvs []
    rw [List.length_nil] at h1
    rw [sizeLine_eq]; omega
  have he : ∃ q, h'.get? s.heap.objs.size = some q := let ⟨q, _, _, hq, _⟩ := dd'; ⟨q, hq⟩
  exact d_write I2 (by rw [e]; exact True.intro) hs he (dN_ok ⟨hz, hd, _, rk.mergeN .nil, dd'⟩)
section
variable {X : Cx} {o e f : Expr} {apos cpos : Pos} {td ty tx : TE}
/-- d.get(k, x) -/
def tDGet2N (P : Program) (w : World) (td ty tx : TE) : TE := fun z H Q => td z H fun x H1 => ∃ a kvs, x = .ref a ∧ H1 a = some (dN P w a kvs) ∧ ty z H1 fun y H2 => tx z H2 fun v H3 => ∃ kvs' k, H3 a = some (dN P w a kvs') ∧ y = nV k ∧ Q ((valV kvs' k).getD v) H3
theorem pe_dget2N (ho : PE X o td) (he : PE X e ty) (hx : PE X f tx) (m : M2 X o "get" apos e f cpos) : PE X (.Call (.Attribute o "get" apos) [e, f] [] cpos) (tDGet2N X.prog X.w td ty tx) := by
  refine ⟨fun pins s z H Q I h => ?_⟩
  refine wpAny_Call_method m.base m.few m.line PySem.F.plainAttrs_dict PySem.F.slot_dict_get PySem.F.type_dict_get (thn (ho.run pins s z H _ I h) fun u s1 ⟨x, H1, I1, rx, a, kvs, ex, d, q1⟩ => ?_)
  subst ex
  obtain rfl : u = Value.ref a := rx
  obtain ⟨_, hd, vs, rel, dd⟩ := dN_at I1.hok d
  refine ⟨dd.typeIs, fun b q => ?_, ?_⟩
  · cases q
    obtain ⟨ob, _, _, h1, h2, _⟩ := dd
    exact ⟨ob, h1, h2.2.1⟩
  rw [m.trees]
  refine Calls.callWith_builtin rfl (Calls.evalArgs_plain (Calls.spliced_cons (thn (he.run pins s1 z H1 _ I1 q1) fun iv s2 ⟨y, H2, I2, ry, q2⟩ =>
    Calls.spliced_cons (thn (hx.run pins s2 z H2 _ I2 q2) fun fv s3 ⟨zv, H3, I3, rz, kvs', k, e3, ey, q3⟩ => Calls.spliced_nil ?_))))
  subst ey
  obtain ⟨_, hd', vs', rel', dd'⟩ := dN_at I3.hok e3
  exact call_meetsIn PySem.F.slot_dict_get dd'.typeIs PySem.F.entry_dict_get (PySem.F.args_dict_get_3 _ _ _) (meets_dict_get_default (noneKind X.prog X.w) a (nV_is ry) hd' fv) ⟨_, dd'.mapOf, ⟨_, H3, I3.tok _, (rel'.val k).getD rz, q3⟩⟩
/-- d[k] = v -/
def sDPutN (P : Program) (w : World) (td ty tv : TE) : TS := fun D z H => tv z H fun v H1 => td z H1 fun x H2 => ty z H2 fun y H3 => ∃ a kvs k, x = .ref a ∧ H3 a = some (dN P w a kvs) ∧ y = nV k ∧ kvs.length < sizeLine ∧ D.nx z (upd H3 a (dN P w a (putK kvs k v)))
theorem ps_dputN {i value : Expr} {pos pos' : Pos} {tv : TE} (ho : PE X o td) (hi : PE X i ty) (hv : PE X value tv) (hs : swapsWith value (some (.Subscript o i pos')) pos.line X.env = pure false) :
    PS X (.Assign [.Subscript o i pos'] value pos) (sDPutN X.prog X.w td ty tv) := by
  refine ⟨fun pins s z H D I h => ?_⟩
  refine wpAny_Assign_Subscript (thn (hv.run pins s z H _ I h) fun r s1 ⟨v, H1, I1, rv, q1⟩ => thn (ho.run pins s1 z H1 _ I1 q1) fun u s2 ⟨x, H2, I2, rx, q2⟩ => thn (hi.run pins s2 z H2 _ I2 q2) fun iv s3 ⟨y, H3, I3, ry, a, kvs, k, ex, e, ey, l, q3⟩ => ?_) hs
  subst ex ey
  obtain rfl : u = Value.ref a := rx
  obtain ⟨zz, hd, vs, rel, dd⟩ := dN_at I3.hok e
  have hz : vs.length ≤ sizeLine := by rw [← rel.length]; exact zz
  have hl : (putK kvs k v).length ≤ sizeLine := by have := length_putK kvs k v; omega
  refine wpAny_setItem_pairs (hsz := hz) (nV_is ry) dd fun h' dd' hs => ⟨z, _, ?_, q3⟩
  have he : ∃ q, h'.get? a = some q := let ⟨q, _, _, hq, _⟩ := dd'; ⟨q, hq⟩
  exact d_write I3 (by rw [e]; exact True.intro) hs he (dN_ok ⟨hl, hd, _, rel.put k rv, dd'⟩)
end
end L2


set_option Elab.async false
set_option linter.all false
set_option maxRecDepth 100000
set_option maxHeartbeats 4000000
/-! calls by names; small words -/
namespace L2
open PySem PySem.Spec PyProof.Rows
/-- the module's name x is a def that keeps sp (its last parameters filled by the defaults ds) -/
structure FnX (P : Program) (w : World) (K : PySem.W.Frag) (mg : Str → Option Value) (base : Heap) (CX : CXT) (k : Nat) (x : Str) (ps : List Str) (ds : List V) (sp : Sp) : Prop where
  ex : ∃ f fd dvs, mg x = some (.ref f) ∧ PySem.W.keepIn K (.ref f) = true ∧ Binds K fd ps dvs ∧ Vals ds dvs ∧ FnOk P w K mg base CX k f fd ps sp
/-- the class at C has the method m, which keeps sp -/
structure MeX (P : Program) (w : World) (K : PySem.W.Frag) (mg : Str → Option Value) (base : Heap) (CX : CXT) (k : Nat) (C : Addr) (m : Str) (ps : List Str) (ds : List V) (sp : Sp) : Prop where
  ex : ∃ f fd dvs, Cls K C ∧ Meth K C m f ∧ Binds K fd ps dvs ∧ Vals ds dvs ∧ FnOk P w K mg base CX k f fd ps sp
/-- the module's name x is the class at C, whose __init__ keeps sp -/
structure MkX (P : Program) (w : World) (K : PySem.W.Frag) (mg : Str → Option Value) (base : Heap) (CX : CXT) (k : Nat) (x : Str) (C : Addr) (ps : List Str) (ds : List V) (sp : Sp) : Prop where
  ex : ∃ f fd dvs, mg x = some (.ref C) ∧ Mk K C f ∧ Binds K fd ps dvs ∧ Vals ds dvs ∧ FnOk P w K mg base CX k f fd ps sp
section
variable {X : Cx} {CX : CXT} {k : Nat} {C : Addr} {ps : List Str} {sp : Sp} {ds : List V} {E : XK} {x m : Str} {p pos apos : Pos} {e o : Expr} {es : List Expr} {ta : TE} {t : TA}
theorem pe_callX (F : FnX X.prog X.w X.K X.mg X.base CX k x ps ds sp) (hr : Room k X.A) (hx : Passes CX X E) (ha : PA X (e :: es) t) (hg : Gl X x := by rfl) (hdb : (x == ("__debug__" : Str)) = false := by decide)
    (he : starEach (e :: es) X.env = (false, eval e X.env) :: starEach es X.env := by rfl) (hpl : (backTo pos (starEach es X.env)).any (·.1) = false := by rfl) : PE X (.Call (.Name x p) (e :: es) [] pos) (tCall sp ds E t) := by
  obtain ⟨f, fd, dvs, hm, kp, b, vd, G⟩ := F.ex
  exact pe_call G hr hg hm kp b vd hx ha hdb he hpl
theorem pe_callX0 (F : FnX X.prog X.w X.K X.mg X.base CX k x ps ds sp) (hr : Room k X.A) (hx : Passes CX X E) (hg : Gl X x := by rfl) (hdb : (x == ("__debug__" : Str)) = false := by decide) : PE X (.Call (.Name x p) [] [] pos) (tCall sp ds E tNil) := by
  obtain ⟨f, fd, dvs, hm, kp, b, vd, G⟩ := F.ex
  exact pe_call0 G hr hg hm kp b vd hx hdb
theorem pe_methX {pl : Sem Bool} (F : MeX X.prog X.w X.K X.mg X.base CX k C m ps ds sp) (hr : Room k X.A) (hx : Passes CX X E) (ho : PE X o ta) (ha : PA X (e :: es) t)
    (hst : starEach (e :: es) X.env = (false, eval e X.env) :: starEach es X.env := by rfl) (hpl : (backTo pos (starEach es X.env)).any (·.1) = false := by rfl)
    (ht : eval (.Call (.Attribute o m apos) (e :: es) [] pos) X.env = (do
      let ov ← eval o X.env
      standAt apos.atName
      let (f, first) ← holding [ov] (getMethod ov m pl)
      callWith pos f first (backTo pos (starEach (e :: es) X.env)) (backToKw pos (keywordEach [] X.env))) := by rfl) :
    PE X (.Call (.Attribute o m apos) (e :: es) [] pos) (tMeth C m sp ds E ta t) := by
  obtain ⟨f, fd, dvs, c, mm, b, vd, G⟩ := F.ex
  exact pe_meth ho c mm G hr b vd hx ha hst hpl ht
theorem pe_methX0 {pl : Sem Bool} (F : MeX X.prog X.w X.K X.mg X.base CX k C m ps ds sp) (hr : Room k X.A) (hx : Passes CX X E) (ho : PE X o ta)
    (ht : eval (.Call (.Attribute o m apos) [] [] pos) X.env = (do
      let ov ← eval o X.env
      standAt apos.atName
      let (f, first) ← holding [ov] (getMethod ov m pl)
      callWith pos f first (backTo pos (starEach [] X.env)) (backToKw pos (keywordEach [] X.env))) := by rfl) :
    PE X (.Call (.Attribute o m apos) [] [] pos) (tMeth C m sp ds E ta tNil) := by
  obtain ⟨f, fd, dvs, c, mm, b, vd, G⟩ := F.ex
  exact pe_meth0 ho c mm G hr b vd hx ht
theorem pe_makeX (F : MkX X.prog X.w X.K X.mg X.base CX k x C ps ds sp) (hr : Room (k + 1) X.A) (hx : Passes CX X E) (ha : PA X (e :: es) t) (hg : Gl X x := by rfl) (hdb : (x == ("__debug__" : Str)) = false := by decide)
    (he : starEach (e :: es) X.env = (false, eval e X.env) :: starEach es X.env := by rfl) (hpl : (backTo pos (starEach es X.env)).any (·.1) = false := by rfl) : PE X (.Call (.Name x p) (e :: es) [] pos) (tMake C sp ds E t) := by
  obtain ⟨f, fd, dvs, hm, M, b, vd, G⟩ := F.ex
  exact pe_make M G hr hg hm b vd hx ha hdb he hpl
/-- a constant of the module that is an int, a text, an object -/
theorem pe_gint {i : Int} (h : ∃ t, X.mg x = some (.int i t)) (hg : Gl X x := by rfl) (hdb : (x == ("__debug__" : Str)) = false := by decide) : PE X (.Name x pos) (tC (.int i)) := by
  obtain ⟨t, h⟩ := h
  exact pe_glob hg h ⟨t, rfl⟩ hdb
theorem pe_gstr {z : Str} (h : ∃ t, X.mg x = some (.str z t)) (hg : Gl X x := by rfl) (hdb : (x == ("__debug__" : Str)) = false := by decide) : PE X (.Name x pos) (tC (.str z)) := by
  obtain ⟨t, h⟩ := h
  exact pe_glob hg h ⟨t, rfl⟩ hdb
theorem pe_gref {a : Addr} (h : X.mg x = some (.ref a)) (hg : Gl X x := by rfl) (hdb : (x == ("__debug__" : Str)) = false := by decide) : PE X (.Name x pos) (tC (.ref a)) := pe_glob hg h rfl hdb
/-- what is raised in a callee goes on out of this def -/
theorem passOut {E : XK} {P : Program} {w : World} {K : PySem.W.Frag} {mg : Str → Option Value} {base : Heap} {N : List Str} {qual : Str} {scope : Scope} {f : Addr} {cd : Value} {A : Around} {outer : List Env} {s : Shared} {H : Hp} :
    Passes (L2.CX P w) (cxOf (L2.CX P w) P w K mg base N qual scope f cd A outer s H E) E := passes_call (takes_of rfl rfl rfl rfl) (fun _ _ _ _ h => h)
/-- a def that raises nothing, where some may be raised -/
theorem FnX.out {P : Program} {w : World} {K : PySem.W.Frag} {mg : Str → Option Value} {base : Heap} (F : FnX P w K mg base CX0 k x ps ds sp) : FnX P w K mg base (L2.CX P w) k x ps ds sp := by
  obtain ⟨f, fd, dvs, hm, kp, b, vd, G⟩ := F.ex
  refine ⟨f, fd, dvs, hm, kp, b, vd, G.len, fun A outer s H args us vs Q E hr he hb hv hs => codeAny_mono (G.run A outer s H args us vs Q E hr he hb hv hs) fun r s' h => ?_⟩
  cases r with
  | error e => exact (show False from h).elim
  | ok fl => cases fl <;> exact h
theorem FnX.mono {P : Program} {w : World} {K : PySem.W.Frag} {mg : Str → Option Value} {base : Heap} {j : Nat} (F : FnX P w K mg base CX j x ps ds sp) (h : j ≤ k) : FnX P w K mg base CX k x ps ds sp := by
  obtain ⟨f, fd, dvs, hm, kp, b, vd, G⟩ := F.ex
  exact ⟨f, fd, dvs, hm, kp, b, vd, G.mono h⟩
end
/-- a def of the text, at the module's name x, without defaults -/
abbrev DefX (K : PySem.W.Frag) (mg : Str → Option Value) (x : Str) (st : Stmt) : Prop := ∃ f fd, mg x = some (.ref f) ∧ FunD K x x (defArgs st) (defBody st) (defScope st) [] [] f fd
section
variable {P : Program} {w : World} {K : PySem.W.Frag} {mg : Str → Option Value} {base : Heap} {x : Str} {st : Stmt} {N ps : List Str} {k : Nat} {sp : Sp}
theorem DefX.ok0 (F : DefX K mg x st) (S : FnScope N ps (defScope st)) (hb : ∀ (kV doc pm : Value) (an : Option Addr) (cdv ct : Value) (us : List Value), us.length = ps.length → bindArgs (PySem.W.fnOf x x (defArgs st) (defBody st) (defScope st) .none kV doc pm an cdv ct) ⟨us, []⟩ = pure (ps.zip us))
    (len : ∀ vs H Q E, sp vs H Q E → vs.length = ps.length)
    (hbody : ∀ (f : Addr) (cdv : Value) (A : Around) (outer : List Env) (s : Shared) (H : Hp) (vs : List V) (Q : VK) (E : XK), Room k (A.deeper (envOfC x (defScope st) s.heap.objs.size f cdv)) → sp vs H Q E →
      ∃ t, PSs (cxOf CX0 P w K mg base N x (defScope st) f cdv A outer s H E).nox (defBody st) t ∧ t { nx := fun _ H' => Q .non H', rt := Q } (start N vs) H) : FnX P w K mg base CX0 (k + 1) x ps [] sp := by
  obtain ⟨f, fd, hm, F⟩ := F
  refine ⟨f, fd, [], hm, F.kp, F.bindsN hb, .nil, F.ok S len fun cdv A outer s H vs Q E hr h => ?_⟩
  obtain ⟨t, h1, h2⟩ := hbody f cdv A outer s H vs Q E hr h
  exact ⟨t, h1.nox, h2⟩
theorem DefX.okX (F : DefX K mg x st) (S : FnScope N ps (defScope st)) (hb : ∀ (kV doc pm : Value) (an : Option Addr) (cdv ct : Value) (us : List Value), us.length = ps.length → bindArgs (PySem.W.fnOf x x (defArgs st) (defBody st) (defScope st) .none kV doc pm an cdv ct) ⟨us, []⟩ = pure (ps.zip us))
    (len : ∀ vs H Q E, sp vs H Q E → vs.length = ps.length)
    (hbody : ∀ (f : Addr) (cdv : Value) (A : Around) (outer : List Env) (s : Shared) (H : Hp) (vs : List V) (Q : VK) (E : XK), Room k (A.deeper (envOfC x (defScope st) s.heap.objs.size f cdv)) → sp vs H Q E →
      ∃ t, PSs (cxOf (L2.CX P w) P w K mg base N x (defScope st) f cdv A outer s H E) (defBody st) t ∧ t { nx := fun _ H' => Q .non H', rt := Q } (start N vs) H) : FnX P w K mg base (L2.CX P w) (k + 1) x ps [] sp := by
  obtain ⟨f, fd, hm, F⟩ := F
  exact ⟨f, fd, [], hm, F.kp, F.bindsN hb, .nil, F.ok S len fun cdv A outer s H vs Q E hr h => hbody f cdv A outer s H vs Q E hr h⟩
end
/-- a method of the text: class at C, its method m (statement st, qualified name q) -/
structure MetX (K : PySem.W.Frag) (C : Addr) (m q : Str) (st : Stmt) (f : Addr) (fd : FuncData) : Prop where
  c : Cls K C
  me : Meth K C m f
  fn : FunD K m q (defArgs st) (defBody st) (defScope st) [] [] f fd
section
variable {P : Program} {w : World} {K : PySem.W.Frag} {mg : Str → Option Value} {base : Heap} {C : Addr} {m q : Str} {st : Stmt} {N ps : List Str} {k : Nat} {sp : Sp}
theorem MetX.okX (F : ∃ f fd, MetX K C m q st f fd) (S : FnScope N ps (defScope st)) (hb : ∀ (kV doc pm : Value) (an : Option Addr) (cdv ct : Value) (us : List Value), us.length = ps.length → bindArgs (PySem.W.fnOf m q (defArgs st) (defBody st) (defScope st) .none kV doc pm an cdv ct) ⟨us, []⟩ = pure (ps.zip us))
    (len : ∀ vs H Q E, sp vs H Q E → vs.length = ps.length)
    (hbody : ∀ (f : Addr) (cdv : Value) (A : Around) (outer : List Env) (s : Shared) (H : Hp) (vs : List V) (Q : VK) (E : XK), Room k (A.deeper (envOfC q (defScope st) s.heap.objs.size f cdv)) → sp vs H Q E →
      ∃ t, PSs (cxOf (L2.CX P w) P w K mg base N q (defScope st) f cdv A outer s H E) (defBody st) t ∧ t { nx := fun _ H' => Q .non H', rt := Q } (start N vs) H) : MeX P w K mg base (L2.CX P w) (k + 1) C m ps [] sp := by
  obtain ⟨f, fd, F⟩ := F
  exact ⟨f, fd, [], F.c, F.me, F.fn.bindsN hb, .nil, F.fn.ok S len fun cdv A outer s H vs Q E hr h => hbody f cdv A outer s H vs Q E hr h⟩
end
/-- for i, x in enumerate(list) -/
theorem for_enum {K : PySem.W.Frag} {a : Addr} {xs : List V} {g : TG} {tb : TS} {D : Ends} {z : St} {H : Hp} (Pv : Nat → St → Hp → Prop) (h0 : Pv 0 z H) (hl : ∀ i z H, i ≤ xs.length → Pv i z H → SqL K H a xs)
    (hs : ∀ i x z H, xs[i]? = some x → Pv i z H → ∀ T, H T = none → g (.ref T) z (upd H T (.tup [.int (i : Nat), x])) fun z2 H2 => tb { D with nx := Pv (i + 1), ct := Pv (i + 1), bk := D.nx } z2 H2) (hd : ∀ z H, Pv xs.length z H → D.nx z H) :
    ∃ W : Nat → Nat → St → Hp → Prop, (∃ m, W 0 m z H) ∧ ∀ i m z H, W i m z H →
      ((Ite K a).stop i H ∧ D.nx z H) ∨ ((Ite K a).go i H ∧ ∃ N : St → Hp → Prop, (∀ z' H', N z' H' → ∃ m', m' < m ∧ W (i + 1) m' z' H') ∧ ∀ x H', (Ite K a).yld i H x H' → g x z H' fun z2 H2 => tb { D with nx := N, ct := N, bk := D.nx } z2 H2) := by
  refine ⟨fun i m z H => m = xs.length - i ∧ i ≤ xs.length ∧ Pv i z H, ⟨xs.length, by simp, Nat.zero_le _, h0⟩, ?_⟩
  rintro i m z H ⟨rfl, hi, p⟩
  have q := hl i z H hi p
  by_cases hlt : i < xs.length
  · refine .inr ⟨⟨xs, xs[i], q, by simp [hlt]⟩, Pv (i + 1), fun z' H' p' => ⟨xs.length - (i + 1), by omega, rfl, hlt, p'⟩, fun v H' y => ?_⟩
    obtain ⟨T, x, rfl, hT, rfl, hx⟩ := y
    exact hs i x z _ (hx xs q) p T hT
  · have e : i = xs.length := by omega
    subst e
    exact .inl ⟨⟨xs, q, Nat.le_refl _⟩, hd z H p⟩
/-- tuples stay -/
def TupLe (H H' : Hp) : Prop := ∀ b xs, H b = some (.tup xs) → H' b = some (.tup xs)
theorem TupLe.refl (H : Hp) : TupLe H H := fun _ _ h => h
theorem TupLe.trans {H H1 H2 : Hp} (a : TupLe H H1) (b : TupLe H1 H2) : TupLe H H2 := fun c xs h => b c xs (a c xs h)
theorem TupLe.new {H : Hp} {p : Addr} {o : HO} (h : H p = none) : TupLe H (upd H p o) := fun b xs e => by rw [upd_ne (ne_of_none e h)]; exact e
theorem TupLe.mut {H : Hp} {p : Addr} {o u : HO} (h : H p = some u) (hu : ∀ xs, u ≠ .tup xs) : TupLe H (upd H p o) := fun b xs e => by
  rw [upd_ne (fun z => by subst z; rw [h] at e; exact hu xs (Option.some.inj e))]; exact e
theorem Same.new {H : Hp} {p : Addr} {o : HO} (h : H p = none) : Same H (upd H p o) := fun b u e => by rw [upd_ne (ne_of_none e h)]; exact e
/-- an object that H did not know has changed -/
theorem Same.mut {H H' : Hp} {p : Addr} {o : HO} (e : Same H H') (h : H p = none) : Same H (upd H' p o) := fun b u q => by rw [upd_ne (ne_of_none q h)]; exact e b u q
theorem Same.seqT {K : PySem.W.Frag} {H H' : Hp} {a : Addr} {xs : List V} (e : Same H H') (h : SqT K H a xs) : SqT K H' a xs := by
  rcases h with (h | ⟨o, h⟩) | h
  · exact .inl (.inl (e _ _ h))
  · exact .inl (.inr ⟨o, e _ _ h⟩)
  · exact .inr h
theorem Same.tups {H H' : Hp} (e : Same H H') : TupLe H H' := fun b xs h => e b _ h
theorem inV_str (z : Str) (ns : List Str) : inV (.str z) (ns.map V.str) = decide (z ∈ ns) := by
  unfold inV
  induction ns with
  | nil => rfl
  | cons n r ih =>
    rw [List.map_cons, List.any_cons, ih]
    show ((n == z) || decide (z ∈ r)) = decide (z ∈ n :: r)
    by_cases e : z = n
    · subst e
      simp
    · have e2 : (n == z) = false := by simpa using fun q => e q.symm
      rw [e2, Bool.false_or]
      simp [List.mem_cons, e]
theorem flat_strs (ns : List Str) : (ns.map V.str).all flatV = true := by
  rw [List.all_eq_true]
  intro v hv
  obtain ⟨n, _, rfl⟩ := List.mem_map.mp hv
  rfl
theorem iteB {b : Bool} {A B : Prop} (ht : b = true → A) (hf : b = false → B) : if b = true then A else B := by
  cases b with
  | true => rw [if_pos rfl]; exact ht rfl
  | false => rw [if_neg Bool.false_ne_true]; exact hf rfl
end L2


set_option Elab.async false
set_option linter.all false
set_option maxRecDepth 100000
set_option maxHeartbeats 4000000
/-! == and != of an instance whose class has its own __eq__ (and no __ne__) -/
namespace PySem.W
open PySem PySem.Spec PySem.Calls PyProof.Rows
section
variable {prog : Program} {w : World} {A : Around} {E : Value → Shared → Prop} {s : Shared} {h₀ : Heap} {L : Addr} {m : Str → Option Value} {K : Frag} {x C f : Addr} {ox : Obj} {od : Option Obj} {b tb : Value}
theorem ne_entry {Q : Fin → Shared → Prop} (X : K.In s.heap) (I : InstAt s.heap x ox C od) (hs : findIn K (.ref C) "__eq__" = some (some (.ref f))) (hf : isFn K (.ref f) = true) (hu : A.units < cLine)
    (hcall : wpAny (model prog w) A (call (.ref f) [.ref x, b]) (fun v s' => ∃ c, v = .bool c ∧ Q (.done (.ret (.bool (!c)))) s') E s) :
    wpAny (model prog w) A (Builtin.«object.__ne__» ⟨[.ref x, b], []⟩) Q E s := by
  obtain ⟨hp, g, d, t, os⟩ := s
  unfold Builtin.«object.__ne__»
  repeat (first
    | with_reducible refine wpAny_cRoomFor hu ?_
    | (refine wpAny_bind (m := callSpecialIfBound? (.ref x) (Str.ofString "__eq__") [b])
        (ifBound_K X I hs hf (wpAny_mono hcall (fun r s' hr => by
          obtain ⟨c, rfl, hq⟩ := hr
          repeat (first | exact hq | exact wpAny_pure hq | exact wpAny_truthy_bool hq | (refine wpAny_bind (m := truthy (.bool _)) (wpAny_truthy_bool ?_)) | wp_step)) fun _ _ e => e)))
    | wp_step)
theorem ne_try {Q : Option Value → Shared → Prop} (X : K.In s.heap) (I : InstAt s.heap x ox C od) (hne : findIn K (.ref C) "__ne__" = some (some (.builtin "object.__ne__"))) (hobj : mroIn K C (.type "object") = some true)
    (hs : findIn K (.ref C) "__eq__" = some (some (.ref f))) (hf : isFn K (.ref f) = true) (hu : A.units + 1 < cLine)
    (hcall : wpAny (model prog w) A.in1 (call (.ref f) [.ref x, b]) (fun v s' => ∃ c, v = .bool c ∧ Q (some (.bool (!c))) s') E s) :
    wpAny (model prog w) A (tryCompare (.ref x) "__ne__" b) Q E s := by
  have go : ∀ {R : Value → Shared → Prop}, (∀ c s', Q (some (.bool (!c))) s' → R (.bool (!c)) s') → wpAny (model prog w) A (call (.builtin "object.__ne__") [.ref x, b]) R E s := fun {R} hR => by
    have sub : Looks (model prog w) s.heap (isInstance (.ref x) (.type "object")) true := I.type.andThen (looks_mroIn X hobj)
    refine wpAny_call (codeAny_call_builtin F.cmp_object.ne.plain F.cmpEntry_ne ?_)
    refine @check_slot (model prog w) _ _ s "object.__ne__" "object" "__ne__" (.ref x) [b] [] _ F.cmpKind_ne F.cmpSplit_ne sub (F.cmpArgs_ne _ _) ?_
    exact ne_entry (A := A.in1) X I hs hf hu (wpAny_mono hcall (fun v s' hv => by obtain ⟨c, rfl, hq⟩ := hv; exact ⟨c, rfl, hR c s' hq⟩) fun _ _ e => e)
  unfold tryCompare
  refine wpAny_bind ?_
  simp only [callSpecialIfBound?, bindSpecialIfBound?]
  refine wpAny_holding (wpAny_bind (wpAny_bind (wpAny_bind (I.type.here ((looks_findIn X hne).here ?_)))))
  refine wpAny_bind (wpAny_askSetting (wpAny_ite ?_))
  have bd := F.cmp_object.ne.bind (.ref x)
  have fin : ∀ {Q2 : Option Value → Shared → Prop}, (∀ c s', Q (some (.bool (!c))) s' → Q2 (some (.bool (!c))) s') → wpAny (model prog w) A (call (.builtin "object.__ne__") ([.ref x] ++ [b]) >>= fun v => pure (some v)) Q2 E s :=
    fun h2 => wpAny_bind (go fun c s' hq => wpAny_pure (h2 c s' hq))
  split
  · rw [bd]
    exact wpAny_bind (wpAny_pure (wpAny_pure (fin fun c s' hq => wpAny_pure hq)))
  · refine wpAny_tryCatch ?_
    rw [bd]
    exact wpAny_bind (wpAny_pure (wpAny_pure (fin fun c s' hq => wpAny_pure hq)))
theorem ne_K {Q : Value → Shared → Prop} (hu : A.units + 1 < cLine) (F : Fr h₀ L s.heap m) (X₀ : K.In h₀) (I : InstAt s.heap x ox C od) (hb : Looks (model prog w) s.heap (typeOf b) tb) (hn : notFirst K C tb = true)
    (hne : findIn K (.ref C) "__ne__" = some (some (.builtin "object.__ne__"))) (hobj : mroIn K C (.type "object") = some true) (hs : findIn K (.ref C) "__eq__" = some (some (.ref f))) (hf : isFn K (.ref f) = true)
    (h : wpAny (model prog w) A.in1 (call (.ref f) [.ref x, b]) (fun v s' => ∃ c, v = .bool c ∧ Q (.bool (!c)) s') E s) : wpAny (model prog w) A (richCompare .NotEq (.ref x) b) Q E s := by
  have X := X₀.keeps F.keep
  have one : wpAny (model prog w) A (tryCompare (.ref x) "__ne__" b) (fun r s' => ∃ v, r = some v ∧ Q v s') E s := ne_try X I hne hobj hs hf hu (wpAny_mono h (fun v s' hv => by obtain ⟨c, e, q⟩ := hv; exact ⟨c, e, _, rfl, q⟩) fun _ _ e => e)
  unfold richCompare
  simp only [oneThing_ref]
  refine wpAny_holding (wpAny_bind (wpAny_cRoomFor (Nat.lt_of_succ_lt hu) ?_))
  refine wpAny_bind (I.type.here (wpAny_bind (hb.here ?_)))
  have last : wpAny (model prog w) A (tryCompare (.ref x) (cmpInfo .NotEq).2.1 b) (fun r s' => ∃ v, r = some v ∧ Q v s') E s := one
  split
  · rename_i q
    have e : subIn K tb (.ref C) = some false := by
      rcases Bool.or_eq_true_iff.mp hn with e | e
      · rw [beq_iff_eq.mp e] at q; simp at q
      · exact beq_iff_eq.mp e
    refine wpAny_bind ((looks_subIn X e).here ?_)
    simp only [Bool.false_eq_true, if_false]
    refine wpAny_bind (wpAny_mono last (fun r s' z => ?_) fun _ _ e => e)
    obtain ⟨v, rfl, hq⟩ := z
    exact wpAny_pure hq
  · refine wpAny_bind (wpAny_pure ?_)
    simp only [Bool.false_eq_true, if_false]
    refine wpAny_bind (wpAny_mono last (fun r s' z => ?_) fun _ _ e => e)
    obtain ⟨v, rfl, hq⟩ := z
    exact wpAny_pure hq
end
end PySem.W
namespace L2
open PySem PySem.Spec PyProof.Rows
section
variable {X : Cx} {CX : CXT} {k : Nat} {C : Addr} {ps : List Str} {sp : Sp} {E : XK}
/-- what stands on the right of such a comparison: its type comes not first -/
structure RightOk (X : Cx) (C : Addr) (H : Hp) (y : V) : Prop where
  ty : ∀ (pins : List (Addr × Obj)) (z : L2.St) (s : Shared) (u : Value), Inv X pins z H s → RelV y u → ∃ tb, PySem.W.Looks (model X.prog X.w) s.heap (typeOf u) tb ∧ PySem.W.notFirst X.K C tb = true
theorem right_ins {H : Hp} {b dy : Addr} {gs : List (Str × V)} (h : H b = some (.ins C dy gs)) : RightOk X C H (.ref b) := ⟨fun pins z s u I r => by
  cases r
  obtain ⟨mB, J', _⟩ := ins_get I.hok h
  obtain ⟨od', J', _⟩ := J'.look
  exact ⟨.ref C, J'.type, by simp [PySem.W.notFirst]⟩⟩
theorem right_str {H : Hp} {t : Str} (h : PySem.W.notFirst X.K C (.type "str") = true) : RightOk X C H (.str t) := ⟨fun pins z s u I r => by
  obtain ⟨tk, rfl⟩ := r
  exact ⟨.type "str", PySem.W.Looks.of_pure rfl, h⟩⟩
/-- a == b, a != b (neg), a an instance of the class at C -/
def rCmpO (X : Cx) (C : Addr) (sp : Sp) (E : XK) (neg : Bool) : R2 := fun x y H Q => ∃ a dx fs, x = .ref a ∧ H a = some (.ins C dx fs) ∧ RightOk X C H y ∧ sp [x, y] H (fun v H' => ∃ c, v = .bl c ∧ Q (.bl (if neg then !c else c)) H') E
theorem op_eqO (F : MeX X.prog X.w X.K X.mg X.base CX k C "__eq__" ps [] sp) (hr : Room k X.A) (hx : Passes CX X E) : OpR X (compareOp .Eq) (rCmpO X C sp E false) := by
  intro pins s z H x y v u Q I rx ry h
  obtain ⟨a, dx, fs, rfl, ha, R, q⟩ := h
  obtain ⟨f, fd, dvs, c, mm, b, vd, G⟩ := F.ex
  cases vd
  cases rx
  obtain ⟨tb, lk, nf⟩ := R.ty pins z s u I ry
  obtain ⟨mA, J, _⟩ := ins_get I.hok ha
  obtain ⟨od, J, _⟩ := J.look
  obtain ⟨m, hF⟩ := I.fr
  show wpAny (model X.prog X.w) X.A (richCompare .Eq (.ref a) u) (EP X pins z Q) X.xe s
  refine PySem.W.cmp_K (op := .Eq) (tb := tb) hr.units0 hF I.ok.mod.kin J lk nf mm.at_ mm.fn ?_
  refine wpAny_mono (run_fn (us := [.ref a, u]) (vs := [.ref a, y]) G hr b .nil hx I (.cons rfl (.cons ry .nil)) q) (fun v s' hv => ?_) fun _ _ x => x
  obtain ⟨v', H', I', rv, c, rfl, q⟩ := hv
  cases rv
  exact ⟨.bl c, H', I', rfl, q⟩
theorem op_neO (F : MeX X.prog X.w X.K X.mg X.base CX k C "__eq__" ps [] sp) (hr : Room (k + 1) X.A) (hx : Passes CX X E) (hne : PySem.W.findIn X.K (.ref C) "__ne__" = some (some (.builtin "object.__ne__"))) (hobj : PySem.W.mroIn X.K C (.type "object") = some true) :
    OpR X (compareOp .NotEq) (rCmpO X C sp E true) := by
  intro pins s z H x y v u Q I rx ry h
  obtain ⟨a, dx, fs, rfl, ha, R, q⟩ := h
  obtain ⟨f, fd, dvs, c, mm, b, vd, G⟩ := F.ex
  cases vd
  cases rx
  obtain ⟨tb, lk, nf⟩ := R.ty pins z s u I ry
  obtain ⟨mA, J, _⟩ := ins_get I.hok ha
  obtain ⟨od, J, _⟩ := J.look
  obtain ⟨m, hF⟩ := I.fr
  show wpAny (model X.prog X.w) X.A (richCompare .NotEq (.ref a) u) (EP X pins z Q) X.xe s
  refine PySem.W.ne_K (tb := tb) (hu_of hr) hF I.ok.mod.kin J lk nf hne hobj mm.at_ mm.fn ?_
  have e := I.env0
  have r2 : Vals [V.ref a, y] [Value.ref a, u] := .cons rfl (.cons ry .nil)
  have hl := G.len _ _ _ _ q
  refine wpAny_call (codeAny_mono (G.run X.A.in1 X.stack s H ⟨[.ref a, u], []⟩ [.ref a, u] [.ref a, y] _ E hr.in1 e.in1 (by
    have := b s [.ref a, u] I.kIn (by simpa using hl)
    simpa using this) r2 q) fun r s' hq => ?_)
  cases r with
  | error e => exact hx pins z H s e s' I hq
  | ok fl =>
    cases fl with
    | ret w =>
      obtain ⟨zz, H', I', rz, c, rfl, q⟩ := I.after hq
      cases rz
      exact ⟨c, rfl, .bl (!c), H', I', rfl, q⟩
    | next => exact False.elim hq
    | brk => exact False.elim hq
    | cont => exact False.elim hq
end
end L2


set_option Elab.async false
set_option linter.all false
set_option maxRecDepth 100000
set_option maxHeartbeats 4000000
namespace L2
open PySem PySem.Spec PyProof.Rows
section
variable {X : Cx}
/-- repr(True), repr(False) -/
theorem call_repr_bl : CallR X (.builtin "repr") (fun xs H Q => ∃ b : Bool, xs = [.bl b] ∧ Q (.str (if b then Str.ofString "True" else Str.ofString "False")) H) := by
  intro pins s z H xs us Q I r h
  obtain ⟨b, rfl, q⟩ := h
  obtain ⟨u, rfl, e⟩ := vals1 r
  obtain rfl : u = Value.bool b := e
  exact PySem.P.repr_of_bool ⟨.str _, H, I.tok _, ⟨_, rfl⟩, q⟩
/-- s * n -/
theorem op_rep_str : OpR X (binaryOp .Mult) (fun x y H Q => ∃ (a : Str) (n : Int), x = .str a ∧ y = .int n ∧ 2 ≤ n ∧ n ≤ 10000 ∧ 0 < a.length ∧ a.length ≤ 1000 ∧ (⟨(List.replicate n.toNat a.cps).foldl (· ++ ·) #[]⟩ : Str).length ≤ sizeLine ∧ Q (.str ⟨(List.replicate n.toNat a.cps).foldl (· ++ ·) #[]⟩) H) := by
  intro pins s z H x y v u Q I rx ry h
  obtain ⟨a, n, rfl, rfl, h1, h2, h3, h4, h5, q⟩ := h
  obtain ⟨t, rfl⟩ := rx
  obtain ⟨t', rfl⟩ := ry
  have e1 : (n == 1 || a.length == 0) = false := by
    have : ¬ n = 1 := by omega
    have : ¬ a.length = 0 := by omega
    simp_all
  have hm : a.length * n.toNat ≤ 1000 * 10000 := Nat.mul_le_mul h4 (by omega)
  refine PySem.P.mul_str ?_ (fun _ _ => ?_) (fun _ _ => ?_) ?_
  · rw [decide_eq_false (by omega), decide_eq_false (by omega)]; rfl
  · have : (2 ^ 63 - 1) / n ≥ 1000 := by
      have : (1000 : Int) * n ≤ 2 ^ 63 - 1 := by omega
      exact (Int.le_ediv_iff_mul_le (by omega)).mpr this
    omega
  · show decide (_ > sizeLine) = false
    have q9 : sizeLine = 16777216 := sizeLine_eq
    exact decide_eq_false (by omega)
  · rw [if_neg (by omega), if_neg (by rw [e1]; exact Bool.false_ne_true)]
    exact ⟨h5, .str _, H, I.tok _, ⟨_, rfl⟩, q⟩
/-- nothing leaves -/
theorem passF {P : Program} {w : World} {X : Cx} (h1 : X.prog = P := by rfl) (h2 : X.w = w := by rfl) : Passes (L2.CX P w) X (fun _ _ _ => False) := by
  subst h1 h2
  exact passes_call LamX.takes0 (fun _ _ _ _ h => h)
theorem takes_len {W : WX} (tk : Takes X W) : Takes X (fun cls d z H => z.length = X.N.length → W cls d z H) := fun u s' xx => by
  obtain ⟨a, B, sI, pins', z', H', cls, d, e, J', nb, up, sky, na, os, ag, w⟩ := xx
  exact tk u s' ⟨a, B, sI, pins', z', H', cls, d, e, J', nb, up, sky, na, os, ag, w J'.len⟩
end
theorem FunD.ok0 {P : Program} {w : World} {K : PySem.W.Frag} {mg : Str → Option Value} {base : Heap} {x q : Str} {st : Stmt} {N ps : List Str} {k : Nat} {sp : Sp} {f : Addr} {fd : FuncData} (F : FunD K x q (defArgs st) (defBody st) (defScope st) [] [] f fd) (S : FnScope N ps (defScope st))
    (len : ∀ vs H Q E, sp vs H Q E → vs.length = ps.length)
    (hbody : ∀ (cdv : Value) (A : Around) (outer : List Env) (s : Shared) (H : Hp) (vs : List V) (Q : VK) (E : XK), Room k (A.deeper (envOfC q (defScope st) s.heap.objs.size f cdv)) → sp vs H Q E →
      ∃ t, PSs (cxOf CX0 P w K mg base N q (defScope st) f cdv A outer s H E).nox (defBody st) t ∧ t { nx := fun _ H' => Q .non H', rt := Q } (start N vs) H) : FnOk P w K mg base CX0 (k + 1) f fd ps sp :=
  F.ok S len fun cdv A outer s H vs Q E hr h => by
    obtain ⟨t, h1, h2⟩ := hbody cdv A outer s H vs Q E hr h
    exact ⟨t, h1.nox, h2⟩
end L2


set_option Elab.async false
set_option linter.all false
set_option maxRecDepth 100000
set_option maxHeartbeats 4000000
namespace L2
open PySem PySem.Spec PyProof.Rows
section
variable {X : Cx} {C : Addr} {x : Str}
/-- X(): an error without fields -/
theorem pmk_err0 {p pos : Pos} {k : Nat} (T : ErrX.ErrTxt X.prog X.K [] C) (hm : X.mg x = some (.ref C)) (hr : Room k X.A) (hg : Gl X x := by rfl) (hdb : (x == ("__debug__" : Str)) = false := by decide) : PMk X (.Call (.Name x p) [] [] pos) (tMkErr C [] tNil) := by
  intro pins s z H Q I h
  obtain ⟨hl, q0, q1⟩ := h
  refine wpAny_Call_Name_kw (ld_glob I hg hm ?_ hdb)
  exact PySem.W.callWith_K0 I.kIn T.kC (mk_err (us := []) T hr I .nil hl q0 q1)
/-- isinstance(e, c), e an error that is pinned -/
theorem call_isErrP {a : Addr} {oe : Obj} {cls : Value} {d : Option Addr} (hp : (a, oe) ∈ X.pn) (hz : Zc cls d oe) (hf : ∃ vs, oe.data = .fields vs) : CallR X (.builtin "isinstance") (rIsErr X.K a cls d) := by
  intro pins s z H xs us Q I r h
  obtain ⟨D, c, cv, b, rfl, T, rfl, hcv, e, hd, q⟩ := h
  cases r with
  | cons rx rr =>
    cases rr with
    | cons rt rr =>
      cases rr
      cases rx
      have ec := hcv _ rt
      subst ec
      obtain ⟨hget, _⟩ := I.pin (a, oe) (List.mem_append.mpr (.inl hp))
      obtain ⟨vs, hv⟩ := hf
      have nc : PySem.W.notCls oe = true := by unfold PySem.W.notCls; rw [hv] <;> rfl
      have J : ∃ od, PySem.W.InstAt s.heap a oe D od := by
        rcases hd with rfl | ⟨dd, fvs, rfl, hx⟩
        · exact ⟨none, hget, hz.1, nc, by rw [hz.2]; trivial⟩
        · have hx' : ObjOk X.prog X.w H s.heap dd (.xd fvs) := I.hok dd _ hx
          obtain ⟨mA, ⟨od, es, ep, ho, _⟩, hr⟩ := hx'
          exact ⟨some od, hget, hz.1, nc, by rw [hz.2]; exact ho⟩
      obtain ⟨od, J⟩ := J
      exact PySem.W.kia_one (PySem.W.kitx_exc T.hcl T.hga T.hgt T.hsub T.ha T.hn T.htk T.hm) I.kIn J e (fun z => nomatch z) fun tk => ⟨.bl b, H, I.kept (t' := tk) fun _ _ z => z, rfl, q⟩
/-- a def that may raise, called in a try's body -/
theorem pe_callXS {CX : CXT} {k : Nat} {ps : List Str} {sp : Sp} {E : L2.St → XK} {p pos : Pos} {e : Expr} {es : List Expr} {t : TA} (F : FnX X.prog X.w X.K X.mg X.base CX k x ps [] sp) (hr : Room k X.A) (hx : ∀ z, PassesAt CX X z (E z)) (ha : PA X (e :: es) t) (hg : Gl X x := by rfl) (hdb : (x == ("__debug__" : Str)) = false := by decide)
    (he : starEach (e :: es) X.env = (false, eval e X.env) :: starEach es X.env := by rfl) (hpl : (backTo pos (starEach es X.env)).any (·.1) = false := by rfl) : PE X (.Call (.Name x p) (e :: es) [] pos) (tCallS sp E t) := by
  obtain ⟨f, fd, dvs, hm, kp, b, vd, G⟩ := F.ex
  cases vd
  exact pe_callS G hr hg hm kp b hx ha hdb he hpl
/-- a def that got the pinned error: its body's walk, entered with the pin -/
theorem run_pin {N ps : List Str} {st : Stmt} {f : Addr} {fd : FuncData} {k : Nat} {p : Addr × Obj} {pins : List (Addr × Obj)} {z : L2.St} {H : Hp} {s : Shared} {us : List Value} {vs : List V} {Q : VK} {y : Str}
    (F : FunD X.K y y (defArgs st) (defBody st) (defScope st) [] [] f fd) (S : FnScope N ps (defScope st)) (hl : vs.length = ps.length) (hb : Binds X.K fd ps []) (hr : L2H.RoomH (k + 1) X.A) (hp : p ∈ X.pn) (I : Inv X pins z H s) (r : Vals vs us)
    (hbody : ∀ (cdv : Value), L2H.RoomH k (X.A.deeper (envOfC y (defScope st) s.heap.objs.size f cdv)) →
      ∃ t, PSs (L2H.cxH CX0 X.prog X.w X.K X.mg X.base N y (defScope st) f cdv X.A X.stack s H E0 p) (defBody st) t ∧ t { nx := fun _ H' => Q .non H', rt := Q } (start N vs) H) :
    wpAny (model X.prog X.w) X.A (call (.ref f) us) (EP X pins z Q) X.xe s := by
  obtain ⟨oc, od, dV, kV, doc, pm, an, cdv, ct, osl, rfl, lk, hcd, _, _⟩ := F.ex
  have b := hb s us I.kIn (by rw [List.append_nil, ← r.length]; exact hl)
  rw [List.append_nil] at b
  have P1 := I.pin p (List.mem_append_left _ hp)
  have hpin : L2H.PinOk X.stack H s p := ⟨P1.1, P1.2.1, fun hm => by
    rcases List.mem_cons.mp (I.stkSub p.1 hm) with e | e
    · exact P1.2.2.1 e
    · exact P1.2.2.2.1 e, P1.2.2.2.2⟩
  have e0 := I.env0
  have KX : X.K.In s.heap := e0.mod.kin.keeps fun _ _ e => (e0.bs _ _ e).1
  have lim : s.heap.NoLimit := e0.mod.nolimit.keeps fun _ _ e => (e0.bs _ _ e).1
  have hk2 : ∀ q ∈ ps.zip us, (defScope st).names.lookup q.1 = some .local ∨ ((defScope st).names.lookup q.1 = some .cell ∧ ((cellsFrom (s.heap.objs.size + 1) (defScope st).names []).lookup q.1).isSome = true) := by
    rintro ⟨n, v⟩ hq
    rcases S.par n (List.of_mem_zip hq).1 with e | e
    · exact .inl e
    · exact .inr ⟨e, PySem.W.cellsFrom_some _ _ _ (.inl e)⟩
  have rc : codeAny (model X.prog X.w) X.A (.call (.ref f) ⟨us, []⟩) (CR CX0 X.stack X.prog X.w H s Q E0) s := by
    refine codeAny_call_function hr.depth (KX _ _ lk) rfl S.co S.gen rfl (PySem.W.codeRec_of KX hcd) (b _ _ _ _ (wpAny_newFunctionEnv_cells S.kind hk2 fun env he s1 x => ?_))
    subst he
    refine ⟨lim.keeps x.toInCall.keep, codeAny_func ?_⟩
    obtain ⟨t, ht, hq⟩ := hbody cdv (hr.deeper _)
    have J := L2H.inv_startH (CX := CX0) (E := E0) (f := f) (cd := cdv) S hpin e0 hl r x
    refine wpAny_mono (ht.run [] s1 (start N vs) H _ J hq) (fun fl s' hs => ?_) fun e s' hs => hs
    cases fl with
    | ret u =>
      obtain ⟨v, z', H', J', rv, q⟩ := hs
      exact ⟨v, H', J'.os, J'.bare, J'.base, J'.hok, rv, q⟩
    | next =>
      obtain ⟨z', H', J', q⟩ := hs
      exact ⟨V.non, H', J'.os, J'.bare, J'.base, J'.hok, rfl, q⟩
    | brk =>
      obtain ⟨_, _, _, q⟩ := hs
      exact q.elim
    | cont =>
      obtain ⟨_, _, _, q⟩ := hs
      exact q.elim
  refine wpAny_call (codeAny_mono rc fun r s' hq => ?_)
  cases r with
  | error e => exact (show False from hq).elim
  | ok fl =>
    cases fl with
    | ret u => exact I.after hq
    | next => exact False.elim hq
    | brk => exact False.elim hq
    | cont => exact False.elim hq
end
end L2


set_option Elab.async false
set_option linter.all false
set_option maxRecDepth 100000
set_option maxHeartbeats 4000000
/-! class X(Y): def __init__(self, ..): super().__init__(..) first, then the rest -/
namespace SupX
open PySem PySem.Spec PyProof.Rows L2 NdefX PySem.Calls PySem.HandSPX
def supCall (args : List Expr) (p0 p1 p2 p4 p5 : Pos) : Stmt := .Expr (.Call (.Attribute (.Call (.Name "super" p0) [] [] p1) "__init__" p2) args [] p4) p5
/-- what is known of the class at C, its __init__ at fI (function F), the __init__ above it at f0 -/
structure SupT (prog : Program) (K : PySem.W.Frag) (C fI f0 : Addr) (F : NF) (N ps : List Str) (e : Expr) (es : List Expr) (rest : List Stmt) : Prop where
  fn : ∃ (oc : Value) (od : Option Addr) (osl : Array (Option Value)) (doc pm ctv : Value), K.lookup fI = some ⟨oc, od, .func (F.fd doc pm ctv), osl⟩
  cd : PySem.W.codeIn K (.ref F.c) F.qual = true
  file : ∃ (ccl : Value) (cdd : Option Addr) (vs : Array Value) (ccs : Array (Option Value)) (f : Str) (tf : Tok), K.lookup F.c = some ⟨ccl, cdd, .fields vs, ccs⟩ ∧ vs[2]? = some (.str f tf) ∧ ((prog.main.file : Str) == f) = true
  cell : ∃ (cc : Addr) (cl : Value) (cld : Option Addr) (csl : Array (Option Value)), F.cl = [(("__class__" : Str), cc)] ∧ K.lookup cc = some ⟨cl, cld, .cell (some (.ref C)), csl⟩
  cls : ∃ cdD, PySem.W.clsIn K C = some cdD
  own : PySem.W.mroIn K C (.ref C) = some true
  sup : PySem.W.ks_superIn K C C "__init__" = some (some (.ref f0))
  fun0 : PySem.W.typeIn K (.ref f0) = some (.type "function")
  fn0 : PySem.W.fnIn K f0 = true
  opq : PySem.W.nsIn K cStatics "thirdparty.any" = some none
  gsup : PySem.W.nsIn K mainGlobals "super" = some none
  topN : (prog.main.scope.names.lookup ("super" : Str)).isSome = false
  sc : NScope N ps ["__class__"] F.scope
  ksup : F.scope.names.lookup ("super" : Str) = some .globalImplicit
  self : ps[0]? = some ("self" : Str) ∧ ∃ ar, (F.params.posonlyargs ++ F.params.args).head? = some ar ∧ ar.arg = "self"
  body : ∃ p0 p1 p2 p4 p5, F.body = supCall (e :: es) p0 p1 p2 p4 p5 :: rest ∧ ∀ env, (∃ pl, eval (.Call (.Attribute (.Call (.Name "super" p0) [] [] p1) "__init__" p2) (e :: es) [] p4) env = (do
      let ov ← attributeBase (.Call (.Name "super" p0) [] [] p1) "__init__" env (eval (.Call (.Name "super" p0) [] [] p1) env)
      standAt p2.atName
      let (f, first) ← holding [ov] (getMethod ov "__init__" pl)
      callWith p4 f first (backTo p4 (starEach (e :: es) env)) [])) ∧ starEach (e :: es) env = (false, eval e env) :: starEach es env ∧ (backTo p4 (starEach es env)).any (·.1) = false
  bind : ∀ (doc pm ctv : Value) (us : List Value), us.length = ps.length → bindArgs (F.fd doc pm ctv) ⟨us, []⟩ = pure (ps.zip us)
section
variable {P : Program} {w : World} {K : PySem.W.Frag} {mg : Str → Option Value} {base : Heap} {C fI f0 : Addr} {F : NF} {N ps ps0 : List Str} {e : Expr} {es : List Expr} {rest : List Stmt} {k : Nat} {fd0 : FuncData} {sp sp0 : Sp}
theorem sup_run {oc doc pm ctv : Value} {od : Option Addr} {osl : Array (Option Value)} (T : SupT P K C fI f0 F N ps e es rest) (lk : K.lookup fI = some ⟨oc, od, .func (F.fd doc pm ctv), osl⟩) (G : FnOk P w K mg base (L2.CX P w) k f0 fd0 ps0 sp0) (b0 : L2.Binds K fd0 ps0 [])
    {A : Around} {outer : List Env} {s : Shared} {H : Hp} {args : Args} {us : List Value} {vs : List V} {Q : VK} {E : XK} (hr : Room (k + 1) A) (e0 : Env0 P w K mg base A outer s H) (hb : BindsTo s (F.fd doc pm ctv) args (ps.zip us)) (r : Vals vs us) (hl : vs.length = ps.length)
    (hbody : ∃ x dx fs ta t, vs[0]? = some (.ref x) ∧ H x = some (.ins C dx fs) ∧ PA (ncx (L2.CX P w) P w K mg base N F fI A outer s H E) (e :: es) ta ∧ PSs (ncx (L2.CX P w) P w K mg base N F fI A outer s H E) rest t ∧
      ta (startF N vs [some (.ref C)]) H fun ys H1 => sp0 (.ref x :: ys) H1 (fun _ H2 => t { nx := fun _ H' => Q .non H', rt := Q } (startF N vs [some (.ref C)]) H2) E) :
    codeAny (model P w) A (.call (.ref fI) args) (CR (L2.CX P w) outer P w H s Q E) s := by
  obtain ⟨x, dx, fs, ta, t, hv0, hx, ha, ht, hq⟩ := hbody
  obtain ⟨ccl, cdd, vs2, ccs, fl, tfl, hcode, hvs, hfile⟩ := T.file
  obtain ⟨cc, cl, cld, csl, hcl, hcell⟩ := T.cell
  obtain ⟨cdD, hC⟩ := T.cls
  obtain ⟨hs0, ar, har, hara⟩ := T.self
  obtain ⟨p0, p1, p2, p4, p5, hbd, hev⟩ := T.body
  have S := T.sc
  have KX : K.In s.heap := e0.mod.kin.keeps fun _ _ q => (e0.bs _ _ q).1
  have lim : s.heap.NoLimit := e0.mod.nolimit.keeps fun _ _ q => (e0.bs _ _ q).1
  refine ks_codeAny_call_defAt (fd := F.fd doc pm ctv) (body := F.body) (binds := ps.zip us) hr.depth (KX _ _ lk) rfl lim (PySem.W.codeRec_of KX T.cd) rfl hb S.nocell (fun y hy => S.par _ (List.of_mem_zip hy).1) (fun h1 hns kp => ?_) S.co S.gen S.kind
  have CA : CellsAt F.cl ["__class__"] [some (.ref C)] s.heap H := by
    have hcH : H cc = none := (e0.bs cc _ (e0.mod.kin _ _ hcell)).2
    have hic : s.heap.IsCell cc (some (.ref C)) := ⟨_, KX _ _ hcell, rfl⟩
    rw [hcl]
    have look : ∀ y c, ([(("__class__" : Str), cc)] : List (Str × Addr)).lookup y = some c → y = ("__class__" : Str) ∧ c = cc := fun y c q => by
      have q2 := PySem.mem_of_lookup q
      have q3 := List.mem_singleton.mp q2
      injection q3 with q4 q5
      exact ⟨q4, q5⟩
    refine ⟨rfl, fun y c q => ?_, fun y z c q1 q2 => ?_, fun i y q => ?_⟩
    · obtain ⟨_, rfl⟩ := look y c q
      exact ⟨hcH, _, hic⟩
    · rw [(look y c q1).1, (look z c q2).1]
    · cases i with
      | zero =>
        cases q
        exact ⟨cc, rfl, fun v hv => by cases hv; exact ⟨_, rfl, hic⟩⟩
      | succ j => simp at q
  have I : Inv (ncx (L2.CX P w) P w K mg base N F fI A outer s H E) [] (startF N vs [some (.ref C)]) H { s with heap := h1, toks := s.toks + (ps.zip us).length } := inv_startN S hr.hd e0 hl r CA hns kp
  obtain ⟨⟨pl, hevl⟩, hst, hpl⟩ := hev (envF F fI s.heap.objs.size)
  rw [hbd]
  have hint : interactive (callEnv (F.fd doc pm ctv) s.heap.objs.size fI) = false := by
    show (F.scope.kind == .module && _) = false
    rw [S.kind]
    rfl
  refine ks_wpAt_execs_cons (ks_wpAt_Expr_any (ks_wpAt_MethodCall (pl := pl) ?_ hevl) hint)
  have X1 : K.In h1 := KX.keeps kp
  obtain ⟨oD, hD1, hD2⟩ : ∃ oD, K.lookup C = some oD ∧ oD.data = .cls cdD := by
    unfold PySem.W.clsIn at hC
    split at hC
    · rename_i c d cd' sl ho
      cases hC
      exact ⟨_, ho, rfl⟩
    · cases hC
  obtain ⟨mA, J, _⟩ := ins_get I.hok hx
  obtain ⟨odx, J, _⟩ := J.look
  have hkc : F.scope.names.lookup ("__class__" : Str) = some .free := S.frk _ List.mem_cons_self
  obtain ⟨u0, hu0, ru0⟩ := r.get hv0
  obtain rfl : u0 = Value.ref x := ru0
  have ndP : ps.Nodup := by
    have q := S.nd.sublist (List.take_sublist (ps.length + 1) N)
    have q2 : N.take (ps.length + 1) = ps ++ [("__class__" : Str)] := S.pre
    rw [q2] at q
    exact (List.nodup_append.mp q).1
  have hself : (ps.zip us).reverse.lookup ("self" : Str) = some (.ref x) := zip_look ndP hs0 hu0
  obtain ⟨mb, hmb, hmbv⟩ := e0.mod.blt
  have kb : ∀ b o, base.get? b = some o → h1.get? b = some o := fun b o q => kp _ _ (e0.bs b o q).1
  refine ks_wpAt_super_base (env := callEnv (F.fd doc pm ctv) s.heap.objs.size fI) T.ksup hkc (by decide) rfl (X1 _ _ lk) rfl har rfl (X1 _ _ hcode) rfl hvs hfile T.topN ?_
  refine PySem.W.ks_loadName_global S.kind T.ksup (loadGlobal_builtin (e0.mod.glob.keeps kb) (PySem.W.mg_none_of (e0.mod.kin) e0.mod.glob T.gsup) (hmb.keeps kb) ((hmbv _ (by decide +kernel)).trans (by first | boot_by_name | rfl | kernel_rfl)) ⟨rfl, ?_⟩)
  refine wpAny_loadName_free S.kind hkc (by show F.cl.lookup _ = _; rw [hcl]; rfl) ⟨_, X1 _ _ hcell, rfl⟩ ?_
  rw [hara]
  refine wpAny_loadName_local S.kind (S.par _ (List.mem_of_getElem? hs0)) hns hself ?_
  refine ks_wpAny_isType_cls (X1 _ _ hD1) hD2 ⟨rfl, ?_⟩
  refine ks_wpAny_call_super (X1 _ _ hD1) hD2 J.at_ J.cls (fun c z => by cases z) (PySem.W.looks_mroIn X1 T.own) (fun h2 hso k2 => ?_)
  have X2 : K.In h2 := X1.keeps k2
  have I2 := I.kept (t' := s.toks + (ps.zip us).length) k2
  obtain ⟨mA2, J2, _⟩ := ins_get I2.hok hx
  obtain ⟨odx2, J2, _⟩ := J2.look
  have hsup := T.sup
  unfold PySem.W.ks_superIn at hsup
  rw [hC] at hsup
  obtain ⟨of, hof, hofc⟩ : ∃ of, h2.get? f0 = some of ∧ of.cls = .type "function" := by
    have ht' : (K.lookup f0).map (·.cls) = some (.type "function") := T.fun0
    cases z : K.lookup f0 with
    | none => rw [z] at ht'; cases ht'
    | some of => rw [z] at ht'; exact ⟨of, X2 _ _ z, Option.some.inj ht'⟩
  refine ks_wpAny_getMethod_super hso (PySem.W.looks_opaque X2 T.opq) (l₀ := cdD.mro) ((PySem.W.looks_clsIn X2 hC).andThen .now) rfl X2 hsup hof hofc (PySem.W.ks_ne X2 J2 hC) (by decide) ?_
  have k3 : ∀ b o, h2.get? b = some o → (h2.push (PySem.W.methodObj (.ref f0) (.ref x))).get? b = some o := fun b o q => Heap.get?_push_of_some _ q
  have I3 := I2.kept (t' := s.toks + (ps.zip us).length + 1) k3
  have hmo : (h2.push (PySem.W.methodObj (.ref f0) (.ref x))).get? h2.objs.size = some (PySem.W.methodObj (.ref f0) (.ref x)) := Heap.get?_push_size _ rfl
  have hqn : H h2.objs.size = none := I2.hok.fresh (Nat.le_refl _)
  have I4 : Inv (ncx (L2.CX P w) P w K mg base N F fI A outer s H E) [(h2.objs.size, PySem.W.methodObj (.ref f0) (.ref x))] (startF N vs [some (.ref C)]) H { s with heap := h2.push (PySem.W.methodObj (.ref f0) (.ref x)), toks := s.toks + (ps.zip us).length + 1 } :=
    ⟨I3.ok, I3.os, I3.bare, I3.base, I3.loc, I3.cell, I3.free, I3.freeC, fun p hp => by
      have ep : p = (h2.objs.size, PySem.W.methodObj (.ref f0) (.ref x)) := by simpa using (show p ∈ ([] : List (Addr × Obj)) ++ [(h2.objs.size, PySem.W.methodObj (.ref f0) (.ref x))] from hp)
      subst ep
      exact ⟨hmo, hqn, fun z => by have q := I2.lt; rw [← z] at q; exact Nat.lt_irrefl _ q, fun z => I2.nofs (Nat.le_refl _) z, fun v z => by cases z⟩, I3.hok, I3.len⟩
  have go := ha.run p4 _ _ _ _ _ I4 hq
  rw [show starEach (e :: es) (ncx (L2.CX P w) P w K mg base N F fI A outer s H E).env = (false, eval e (envF F fI s.heap.objs.size)) :: starEach es (envF F fI s.heap.objs.size) from hst] at go
  show wpAny _ _ (callWith p4 (.ref h2.objs.size) [] (backTo p4 (starEach (e :: es) (envF F fI s.heap.objs.size))) []) _ _ _
  rw [hst]
  refine PySem.W.callWith_of (P := PySem.W.MethP K h2.objs.size f0 (.ref x)) (by show ((false || (backTo p4 (starEach es (envF F fI s.heap.objs.size))).any (·.1)) || false) = false; rw [hpl]; rfl) (PySem.W.keeps_M T.fn0) (evalArgs_plain (wpAny_mono go (fun us1 s1 hh => ?_) fun _ _ q => q))
  obtain ⟨vs1, H1, I5, r1, q1⟩ := hh
  have hm5 := (I5.pin (h2.objs.size, PySem.W.methodObj (.ref f0) (.ref x)) (by simp [ncx])).1
  refine ⟨⟨hm5, I5.kIn⟩, ?_⟩
  have hl0 : (Value.ref x :: us1).length = ps0.length := by
    have q := G.len _ _ _ _ q1
    have q2 := r1.length
    simp at q ⊢
    omega
  have b := b0 s1 (.ref x :: us1) I5.kIn (by rw [List.append_nil]; exact hl0)
  rw [List.append_nil] at b
  refine wpAny_call (ks_codeAny_call_bound hm5 (codeAny_mono (G.run (A.deeper (envF F fI s.heap.objs.size)) (envF F fI s.heap.objs.size :: outer) s1 H1 ⟨.ref x :: us1, []⟩ (.ref x :: us1) (.ref x :: vs1) _ E (hr.deeper _) I5.env0 b (.cons rfl r1) q1) fun r9 s9 h9 => ?_))
  have pass : Passes (L2.CX P w) (ncx (L2.CX P w) P w K mg base N F fI A outer s H E) E := passes_call (takes_of rfl rfl rfl rfl) (fun _ _ _ _ h => h)
  cases r9 with
  | error e9 => exact pass _ _ _ _ _ _ I5 h9
  | ok fl9 =>
    cases fl9 with
    | ret u9 =>
      obtain ⟨v9, H9, I9, rv9, q9⟩ := I5.after h9
      have I10 : Inv (ncx (L2.CX P w) P w K mg base N F fI A outer s H E) [] (startF N vs [some (.ref C)]) H9 s9 := ⟨I9.ok, I9.os, I9.bare, I9.base, I9.loc, I9.cell, I9.free, I9.freeC, (fun p hp => by cases (show p ∈ ([] : List (Addr × Obj)) ++ [] from hp)), I9.hok, I9.len⟩
      refine wpAt_of_wpAny (wpAny_mono (ht.run [] s9 _ H9 _ I10 q9) (fun f2 s2 hs2 => ?_) fun _ _ q => q)
      cases f2 with
      | ret u =>
        obtain ⟨v, z', H', J', rv, q⟩ := hs2
        exact ⟨v, H', J'.os, J'.bare, J'.base, J'.hok, rv, q⟩
      | next =>
        obtain ⟨z', H', J', q⟩ := hs2
        exact ⟨V.non, H', J'.os, J'.bare, J'.base, J'.hok, rfl, q⟩
      | brk =>
        obtain ⟨_, _, _, q⟩ := hs2
        exact q.elim
      | cont =>
        obtain ⟨_, _, _, q⟩ := hs2
        exact q.elim
    | next => exact h9.elim
    | brk => exact h9.elim
    | cont => exact h9.elim
/-- THE RULE for such an __init__ -/
theorem sup_ok (T : SupT P K C fI f0 F N ps e es rest) (G : FnOk P w K mg base (L2.CX P w) k f0 fd0 ps0 sp0) (b0 : L2.Binds K fd0 ps0 []) (len : ∀ vs H Q E, sp vs H Q E → vs.length = ps.length)
    (hbody : ∀ (A : Around) (outer : List Env) (s : Shared) (H : Hp) (vs : List V) (Q : VK) (E : XK), Room k (A.deeper (envF F fI s.heap.objs.size)) → sp vs H Q E →
      ∃ x dx fs ta t, vs[0]? = some (.ref x) ∧ H x = some (.ins C dx fs) ∧ PA (ncx (L2.CX P w) P w K mg base N F fI A outer s H E) (e :: es) ta ∧ PSs (ncx (L2.CX P w) P w K mg base N F fI A outer s H E) rest t ∧
      ta (startF N vs [some (.ref C)]) H fun ys H1 => sp0 (.ref x :: ys) H1 (fun _ H2 => t { nx := fun _ H' => Q .non H', rt := Q } (startF N vs [some (.ref C)]) H2) E) :
    ∃ doc pm ctv, FnOk P w K mg base (L2.CX P w) (k + 1) fI (F.fd doc pm ctv) ps sp ∧ L2.Binds K (F.fd doc pm ctv) ps [] := by
  obtain ⟨oc, od, osl, doc, pm, ctv, lk⟩ := T.fn
  refine ⟨doc, pm, ctv, ⟨len, fun A outer s H args us vs Q E hr e0 hb r hs => ?_⟩, ?_⟩
  · exact sup_run T lk G b0 hr e0 hb r (len _ _ _ _ hs) (hbody A outer s H vs Q E (hr.deeper _) hs)
  · exact .all (T.bind doc pm ctv)
end
end SupX


set_option Elab.async false
set_option linter.all false
set_option maxRecDepth 100000
set_option maxHeartbeats 4000000
/-! readings that make new objects alone: their value is known, the heap grows -/
namespace L2
open PySem PySem.Spec PyProof.Rows
def EvE (t : TE) (σ : St) (H : Hp) (v : V) : Prop := ∀ Q : VK, (∀ H', Same H H' → Q v H') → t σ H Q
def EvT (t : TT) (σ : St) (H : Hp) (b : Bool) : Prop := ∀ R : Bool → Hp → Prop, (∀ H', Same H H' → R b H') → t σ H R
def EvA (t : TA) (σ : St) (H : Hp) (vs : List V) : Prop := ∀ Q : List V → Hp → Prop, (∀ H', Same H H' → Q vs H') → t σ H Q
theorem Same.rf (H : Hp) : Same H H := fun _ _ h => h
theorem Same.tr {H H1 H2 : Hp} (a : Same H H1) (b : Same H1 H2) : Same H H2 := fun c o h => b c o (a c o h)
theorem Same.sql {K : PySem.W.Frag} {H H' : Hp} {a : Addr} {xs : List V} (e : Same H H') (h : SqL K H a xs) : SqL K H' a xs := by
  rcases h with (h | ⟨o, h⟩) | h
  · exact .inl (.inl (e _ _ h))
  · exact .inl (.inr ⟨o, e _ _ h⟩)
  · exact .inr h
section
variable {K : PySem.W.Frag} {σ : St} {H : Hp} {v x y : V} {a b c : TE} {t u : TT} {i : Nat} {p q : Addr} {xs vs : List V} {b1 b2 : Bool}
theorem ev_C : EvE (tC v) σ H v := fun Q h => h H (Same.rf H)
theorem ev_var (h : σ[i]? = some (some v)) : EvE (tVar i) σ H v := fun Q k => ⟨v, h, k H (Same.rf H)⟩
theorem ev_op {r : R2} (ha : EvE a σ H x) (hb : ∀ H1, Same H H1 → EvE b σ H1 y) (hr : ∀ H2, Same H H2 → ∀ Q : VK, Q v H2 → r x y H2 Q) : EvE (tOp r a b) σ H v :=
  fun Q k => ha _ fun H1 s1 => hb H1 s1 _ fun H2 s2 => hr H2 (s1.tr s2) Q (k H2 (s1.tr s2))
theorem ev_ixL {n : Int} (ha : EvE a σ H (.ref p)) (hb : ∀ H1, Same H H1 → EvE b σ H1 (.int n)) (hp : SqL K H p xs) (hi : atI xs n = some v) : EvE (tOp (rIxL K) a b) σ H v :=
  ev_op ha hb fun H2 s2 Q q => ⟨p, xs, n, v, rfl, rfl, s2.sql hp, hi, q⟩
theorem ev_ixT {n : Int} (ha : EvE a σ H (.ref p)) (hb : ∀ H1, Same H H1 → EvE b σ H1 (.int n)) (hp : SqT K H p xs) (hi : atI xs n = some v) : EvE (tOp (rIxT K) a b) σ H v :=
  ev_op ha hb fun H2 s2 Q q => ⟨p, xs, n, v, rfl, rfl, s2.seqT hp, hi, q⟩
theorem ev_eq (ha : EvE a σ H x) (hb : ∀ H1, Same H H1 → EvE b σ H1 y) (hs : scal x y = true) : EvE (tOp rEq a b) σ H (.bl (decide (x = y))) :=
  ev_op ha hb fun H2 s2 Q q => ⟨hs, q⟩
theorem ev_ne (ha : EvE a σ H x) (hb : ∀ H1, Same H H1 → EvE b σ H1 y) (hs : scal x y = true) : EvE (tOp rNe a b) σ H (.bl !(decide (x = y))) :=
  ev_op ha hb fun H2 s2 Q q => ⟨hs, q⟩
theorem ev_in {z : Str} {ns : List Str} (ha : EvE a σ H (.str z)) (hb : ∀ H1, Same H H1 → ∀ Q : VK, (∀ H2 q, Same H1 H2 → SqL K H2 q (ns.map V.str) ∨ SqT K H2 q (ns.map V.str) → Q (.ref q) H2) → b σ H1 Q) : EvE (tOp (rIn K false) a b) σ H (.bl (decide (z ∈ ns))) :=
  fun Q k => ha _ fun H1 s1 => hb H1 s1 _ fun H2 q s2 hq => ⟨q, _, rfl, hq, rfl, flat_strs ns, by rw [inV_str]; exact k H2 (s1.tr s2)⟩
theorem ev_notin {z : Str} {ns : List Str} (ha : EvE a σ H (.str z)) (hb : ∀ H1, Same H H1 → ∀ Q : VK, (∀ H2 q, Same H1 H2 → SqL K H2 q (ns.map V.str) ∨ SqT K H2 q (ns.map V.str) → Q (.ref q) H2) → b σ H1 Q) : EvE (tOp (rIn K true) a b) σ H (.bl (!decide (z ∈ ns))) :=
  fun Q k => ha _ fun H1 s1 => hb H1 s1 _ fun H2 q s2 hq => ⟨q, _, rfl, hq, rfl, flat_strs ns, by rw [inV_str]; exact k H2 (s1.tr s2)⟩
theorem ev_isN {r : R2} (ha : EvE a σ H x) (hr : ∀ H2 Q, Q (.bl b1) H2 → r x .non H2 Q) : EvE (tOp r a (tC .non)) σ H (.bl b1) := ev_op ha (fun _ _ => ev_C) fun H2 _ Q q => hr H2 Q q
theorem ev_test (ha : EvE a σ H (.bl b1)) : EvT (tTest a) σ H b1 := fun R k => ha _ fun H1 s1 => ⟨b1, rfl, k H1 s1⟩
theorem ev_tB (ha : EvE a σ H (.bl b1)) : EvT (tB a) σ H b1 := fun R k => ha _ fun H1 s1 => ⟨b1, rfl, k H1 s1⟩
theorem ev_and (ht : EvT t σ H b1) (hu : b1 = true → ∀ H1, Same H H1 → EvT u σ H1 b2) : EvT (tAnd t u) σ H (b1 && b2) := by
  intro R k
  refine ht _ fun H1 s1 => ?_
  cases b1 with
  | true => exact iteT (hu rfl H1 s1 _ fun H2 s2 => k H2 (s1.tr s2))
  | false => exact iteF (k H1 s1)
theorem ev_or (ht : EvT t σ H b1) (hu : b1 = false → ∀ H1, Same H H1 → EvT u σ H1 b2) : EvT (tOr t u) σ H (b1 || b2) := by
  intro R k
  refine ht _ fun H1 s1 => ?_
  cases b1 with
  | true => exact iteT (k H1 s1)
  | false => exact iteF (hu rfl H1 s1 _ fun H2 s2 => k H2 (s1.tr s2))
theorem ev_not (ht : EvT t σ H b1) : EvT (tNot t) σ H (!b1) := fun R k => ht _ fun H1 s1 => k H1 s1
theorem ev_nil : EvA tNil σ H [] := fun Q k => k H (Same.rf H)
theorem ev_cons {ts : TA} (ha : EvE a σ H x) (hs : ∀ H1, Same H H1 → EvA ts σ H1 vs) : EvA (tCons a ts) σ H (x :: vs) :=
  fun Q k => ha _ fun H1 s1 => hs H1 s1 _ fun H2 s2 => k H2 (s1.tr s2)
theorem ev_len {ta : TA} (ha : EvA ta σ H [.ref p]) (hp : SqL K H p xs ∨ SqT K H p xs) : EvE (tCB (fun xs H Q => ∃ p ys, xs = [V.ref p] ∧ (SqL K H p ys ∨ SqT K H p ys) ∧ Q (.int (ys.length : Nat)) H) ta) σ H (.int (xs.length : Nat)) :=
  fun Q k => ha _ fun H1 s1 => ⟨p, xs, rfl, hp.imp s1.sql s1.seqT, k H1 s1⟩
theorem ev_fld {C dx : Addr} {fs : List (Str × V)} {f : Str} (ha : EvE a σ H (.ref p)) (hx : H p = some (.ins C dx fs)) (hc : Cls K C) (hn : NoAttr K C f) (hl : fs.lookup f = some v) : EvE (tFld K a f) σ H v :=
  fun Q k => ha _ fun H1 s1 => ⟨p, C, dx, fs, v, rfl, s1 _ _ hx, hc, hn, hl, k H1 s1⟩
theorem ev_if (ht : EvT t σ H b1) (h1 : b1 = true → ∀ H1, Same H H1 → EvE a σ H1 v) (h2 : b1 = false → ∀ H1, Same H H1 → EvE b σ H1 v) : EvE (tIf t a b) σ H v := by
  intro Q k
  refine ht _ fun H1 s1 => ?_
  cases b1 with
  | true => exact iteT (h1 rfl H1 s1 _ fun H2 s2 => k H2 (s1.tr s2))
  | false => exact iteF (h2 rfl H1 s1 _ fun H2 s2 => k H2 (s1.tr s2))
theorem ev_andV (ha : EvE a σ H (.bl b1)) (hb : b1 = true → ∀ H1, Same H H1 → EvE b σ H1 (.bl b2)) : EvE (tAndV a b) σ H (.bl (b1 && b2)) := by
  intro Q k
  refine ha _ fun H1 s1 => ⟨b1, rfl, ?_⟩
  cases b1 with
  | true => exact iteT (hb rfl H1 s1 _ fun H2 s2 => k H2 (s1.tr s2))
  | false => exact iteF (k H1 s1)
theorem szL {n : Nat} (h : Nat.ble n 1000 = true) : n ≤ sizeLine := by
  have q : sizeLine = 16777216 := sizeLine_eq
  have := Nat.le_of_ble_eq_true h
  omega
/-- a tuple or list that is made anew -/
theorem mk_tup {ta : TA} (ha : EvA ta σ H vs) {Q : VK} (k : ∀ H' T, Same H H' → H T = none → H' T = some (.tup vs) → Q (.ref T) H') (hl : Nat.ble vs.length 1000 = true := by rfl) : tTup ta σ H Q :=
  ha _ fun H1 s1 => ⟨szL hl, fun T hT => k _ T (s1.tr (Same.new hT)) (by cases e : H T with | none => rfl | some o => rw [s1 _ _ e] at hT; cases hT) upd_same⟩
theorem mk_lst {ta : TA} (ha : EvA ta σ H vs) {Q : VK} (k : ∀ H' T, Same H H' → H T = none → H' T = some (.lst vs) → Q (.ref T) H') (hl : Nat.ble vs.length 1000 = true := by rfl) : tLst ta σ H Q :=
  ha _ fun H1 s1 => ⟨szL hl, fun T hT => k _ T (s1.tr (Same.new hT)) (by cases e : H T with | none => rfl | some o => rw [s1 _ _ e] at hT; cases hT) upd_same⟩
/-- the names of a tuple display, of a tuple at the top -/
theorem in_tup {ta : TA} {ns : List Str} (ha : ∀ H, EvA ta σ H (ns.map V.str)) (hl : Nat.ble (ns.map V.str).length 1000 = true := by rfl) : ∀ H1, Same H H1 → ∀ Q : VK, (∀ H2 q, Same H1 H2 → SqL K H2 q (ns.map V.str) ∨ SqT K H2 q (ns.map V.str) → Q (.ref q) H2) → tTup ta σ H1 Q :=
  fun H1 _ Q k => mk_tup (ha H1) (fun H2 T s2 _ hT => k H2 T s2 (.inr (.inl (.inl hT)))) hl
theorem in_top {ns : List Str} (h : ∀ H, SqT K H q (ns.map V.str)) : ∀ H1, Same H H1 → ∀ Q : VK, (∀ H2 q, Same H1 H2 → SqL K H2 q (ns.map V.str) ∨ SqT K H2 q (ns.map V.str) → Q (.ref q) H2) → (tC (.ref q)) σ H1 Q :=
  fun H1 _ Q k => k H1 q (Same.rf _) (.inr (h H1))
theorem seq_if {s r : TS} {D : Ends} (hc : EvT t σ H b1) (h1 : b1 = true → ∀ H1, Same H H1 → s { nx := r D, rt := D.rt, bk := D.bk, ct := D.ct } σ H1) (h2 : b1 = false → ∀ H1, Same H H1 → r D σ H1) : tSeq (tIfS t s tNext) r D σ H := by
  refine hc _ fun H1 s1 => ?_
  cases b1 with
  | true => exact iteT (h1 rfl H1 s1)
  | false => exact iteF (h2 rfl H1 s1)
theorem do_if {s r : TS} {D : Ends} (hc : EvT t σ H b1) (h1 : b1 = true → ∀ H1, Same H H1 → s D σ H1) (h2 : b1 = false → ∀ H1, Same H H1 → r D σ H1) : tIfS t s r D σ H := by
  refine hc _ fun H1 s1 => ?_
  cases b1 with
  | true => exact iteT (h1 rfl H1 s1)
  | false => exact iteF (h2 rfl H1 s1)
theorem do_set {s : TS} {D : Ends} (ha : EvE a σ H x) (k : ∀ H1, Same H H1 → s D (σ.set i (some x)) H1) : tSeq (tAsg a (gName i)) s D σ H := ha _ fun H1 s1 => k H1 s1
end
theorem dcS {x y : Str} : decide (V.str x = V.str y) = decide (x = y) := by
  by_cases e : x = y
  · rw [e]; simp
  · rw [decide_eq_false e, decide_eq_false (fun k => e (V.str.inj k))]
theorem dcI {x y : Int} : decide (V.int x = V.int y) = decide (x = y) := by
  by_cases e : x = y
  · rw [e]; simp
  · rw [decide_eq_false e, decide_eq_false (fun k => e (V.int.inj k))]
theorem dcN {x y : Nat} : decide (V.int (x : Int) = V.int (y : Int)) = decide (x = y) := by
  rw [dcI]
  by_cases e : x = y
  · rw [e]; simp
  · rw [decide_eq_false e, decide_eq_false (by omega)]
theorem eq_str {a b : TE} {σ : St} {H : Hp} {x y : Str} (ha : EvE a σ H (.str x)) (hb : ∀ H1, Same H H1 → EvE b σ H1 (.str y)) : EvT (tTest (tOp rEq a b)) σ H (decide (x = y)) := by
  rw [← dcS]
  exact ev_test (ev_eq ha hb rfl)
theorem ne_str {a b : TE} {σ : St} {H : Hp} {x y : Str} (ha : EvE a σ H (.str x)) (hb : ∀ H1, Same H H1 → EvE b σ H1 (.str y)) : EvT (tTest (tOp rNe a b)) σ H (!decide (x = y)) := by
  rw [← dcS]
  exact ev_test (ev_ne ha hb rfl)
theorem eq_nat {a b : TE} {σ : St} {H : Hp} {x y : Nat} (ha : EvE a σ H (.int (x : Int))) (hb : ∀ H1, Same H H1 → EvE b σ H1 (.int (y : Int))) : EvT (tTest (tOp rEq a b)) σ H (decide (x = y)) := by
  rw [← dcN]
  exact ev_test (ev_eq ha hb rfl)
theorem at_word {ws : List Str} {i : Nat} (h : i < ws.length) : atI (ws.map V.str) (i : Int) = some (.str (ws.getD i "")) := by
  refine atI_nat ?_
  rw [List.getElem?_map, List.getD_eq_getElem?_getD, List.getElem?_eq_getElem h]
  rfl
/-- words[i] -/
theorem ev_word {K : PySem.W.Frag} {a : TE} {σ : St} {H : Hp} {p : Addr} {ws : List Str} {i : Nat} (ha : EvE a σ H (.ref p)) (hp : SqL K H p (ws.map V.str)) (h : i < ws.length) : EvE (tOp (rIxL K) a (tC (.int (i : Int)))) σ H (.str (ws.getD i "")) :=
  ev_ixL ha (fun _ _ => ev_C) hp (at_word h)
end L2


set_option Elab.async false
set_option linter.all false
set_option maxRecDepth 100000
set_option maxHeartbeats 4000000
namespace L2
open PySem PySem.Spec PyProof.Rows
theorem dpStrs {K : PySem.W.Frag} {H : Hp} : ∀ cs : List Str, DpAll K H (cs.map V.str) (cs.map PyData.str)
  | [] => .nil
  | c :: r => .cons (.str c) (dpStrs r)
theorem cl_strs : ∀ cs : List Str, PyData.canLayAll0 (cs.map PyData.str) = cs.all PyData.strOk
  | [] => rfl
  | c :: r => by
    show (PyData.canLay0 (.str c) && PyData.canLayAll0 (r.map PyData.str)) = (PyData.strOk c && r.all PyData.strOk)
    rw [cl_strs r]
    rfl
theorem dp_strs : ∀ cs : List Str, PyData.depthAll (cs.map PyData.str) = 0
  | [] => rfl
  | c :: r => by
    show max (PyData.depth (.str c)) (PyData.depthAll (r.map PyData.str)) = 0
    rw [dp_strs r]
    rfl
theorem shaped_strs {cs : List Str} (h : cs.all PyData.strOk = true) : SeqAt.shaped (.list (cs.map PyData.str)) = true := by
  show (PyData.canLayAll0 (cs.map PyData.str) && decide (PyData.depthAll (cs.map PyData.str) + 1 ≤ 64)) = true
  rw [cl_strs, dp_strs, h]
  rfl
theorem eqv_all : ∀ a b : List Str, PyData.eqvAll (a.map PyData.str) (b.map PyData.str) = decide (a = b)
  | [], [] => by simp [PyData.eqvAll]
  | x :: xs, [] => by simp [PyData.eqvAll]
  | [], y :: ys => by simp [PyData.eqvAll]
  | x :: xs, y :: ys => by
    simp only [List.map_cons, PyData.eqvAll, PyData.eqv]
    rw [eqv_all xs ys]
    by_cases e : x = y
    · subst e; simp
    · have : (x == y) = false := by simpa using e
      rw [this, Bool.false_and]
      simp [e]
theorem eqv_strs (a b : List Str) : PyData.eqv (.list (a.map PyData.str)) (.list (b.map PyData.str)) = decide (a = b) := by
  show PyData.eqvAll _ _ = _
  exact eqv_all a b
/-- x in a tuple, both deep -/
def rInT (K : PySem.W.Frag) : R2 := fun x y H Q => ∃ d ds, Dp K H x d ∧ Dp K H y (.tuple ds) ∧ SeqAt.shaped d = true ∧ SeqAt.shaped (.tuple ds) = true ∧ Q (.bl (ds.any fun z => PyData.eqv z d)) H
theorem op_inT {X : Cx} (hu : X.A.units + 65 < cLine) : OpR X (compareOp .In) (rInT X.K) := by
  intro pins s σ H x y v u Q I rx ry h
  obtain ⟨d, ds, hd, he, sd, se, q⟩ := h
  obtain ⟨as, r1⟩ := Dp.reads I d x v hd rx
  obtain ⟨bs, r2⟩ := Dp.reads I (.tuple ds) y u he ry
  exact SeqAt.in_tuple_reads r2 r1 (SeqAt.canLay_of_shaped se) (SeqAt.canLay_of_shaped sd) (room_in_shaped sd hu) ⟨.bl _, H, I, rfl, q⟩
section
variable {K : PySem.W.Frag} {σ : St} {H : Hp} {a b c : TE} {p q : Addr} {ws zs z2 : List Str}
/-- a list of texts == a list display of texts -/
theorem ev_eqL (ha : EvE a σ H (.ref p)) (hp : SqL K H p (ws.map V.str)) (ho : ws.all PyData.strOk = true) {tb : TA} (hb : ∀ H, EvA tb σ H (zs.map V.str)) (hz : zs.all PyData.strOk = true) (hl : Nat.ble (zs.map V.str).length 1000 = true := by rfl) : EvT (tTest (tOp (rEqD K) a (tLst tb))) σ H (decide (ws = zs)) := by
  refine ev_test fun Q k => ha _ fun H1 s1 => mk_lst (hb H1) (fun H2 T s2 _ hT => ?_) hl
  refine ⟨_, _, .lst ((s1.tr s2).sql hp) (dpStrs ws), .lst (.inl (.inl hT)) (dpStrs zs), shaped_strs ho, shaped_strs hz, ?_⟩
  rw [eqv_strs]
  exact k _ (s1.tr s2)
/-- a list of texts in a tuple display of two lists of texts -/
theorem ev_inL2 (ha : EvE a σ H (.ref p)) (hp : SqL K H p (ws.map V.str)) (ho : ws.all PyData.strOk = true) {t1 t2 : TA} (h1 : ∀ H, EvA t1 σ H (zs.map V.str)) (h2 : ∀ H, EvA t2 σ H (z2.map V.str)) (o1 : zs.all PyData.strOk = true) (o2 : z2.all PyData.strOk = true)
    (l1 : Nat.ble (zs.map V.str).length 1000 = true := by rfl) (l2 : Nat.ble (z2.map V.str).length 1000 = true := by rfl) : EvT (tTest (tOp (rInT K) a (tTup (tCons (tLst t1) (tCons (tLst t2) tNil))))) σ H (decide (ws = zs) || decide (ws = z2)) := by
  refine ev_test fun Q k => ha _ fun H1 s1 => ?_
  dsimp only [tTup, tCons, tNil]
  refine mk_lst (h1 H1) (fun H2 A s2 _ hA => ?_) l1
  refine mk_lst (h2 H2) (fun H3 B s3 _ hB => ?_) l2
  refine ⟨szL rfl, fun T hT => ?_⟩
  have s4 : Same H3 (upd H3 T (.tup [.ref A, .ref B])) := Same.new hT
  refine ⟨_, _, .lst ((((s1.tr s2).tr s3).tr s4).sql hp) (dpStrs ws), .tup (.inl (.inl upd_same)) (.cons (.lst (.inl (.inl (s4 _ _ (s3 _ _ hA)))) (dpStrs zs)) (.cons (.lst (.inl (.inl (s4 _ _ hB))) (dpStrs z2)) .nil)), shaped_strs ho, ?_, ?_⟩
  · show (PyData.canLayAll0 [.list (zs.map PyData.str), .list (z2.map PyData.str)] && decide (PyData.depthAll [.list (zs.map PyData.str), .list (z2.map PyData.str)] + 1 ≤ 64)) = true
    have e1 : PyData.canLayAll0 [.list (zs.map PyData.str), .list (z2.map PyData.str)] = (PyData.canLayAll0 (zs.map PyData.str) && (PyData.canLayAll0 (z2.map PyData.str) && true)) := rfl
    have e2 : PyData.depthAll [.list (zs.map PyData.str), .list (z2.map PyData.str)] = max (PyData.depthAll (zs.map PyData.str) + 1) (max (PyData.depthAll (z2.map PyData.str) + 1) 0) := rfl
    rw [e1, e2, cl_strs, cl_strs, dp_strs, dp_strs, o1, o2]
    rfl
  · simp only [List.any_cons, List.any_nil, Bool.or_false]
    rw [eqv_strs, eqv_strs]
    have f1 : decide (zs = ws) = decide (ws = zs) := by simp [eq_comm]
    have f2 : decide (z2 = ws) = decide (ws = z2) := by simp [eq_comm]
    rw [f1, f2]
    exact k _ (((s1.tr s2).tr s3).tr s4)
end
end L2
namespace L2
open PySem PySem.Spec PyProof.Rows
theorem Room.u65 {k : Nat} {A : Around} (h : Room k A) : A.units + 65 < cLine := by have := h.un; omega
theorem Room.u1 {k : Nat} {A : Around} (h : Room k A) : A.units + 1 < cLine := by have := h.un; omega
end L2
namespace L2
open PySem PySem.Spec PyProof.Rows
section
variable {K : PySem.W.Frag} {te : TE} {g : TG} {tb : TS} {D : Ends} {σ : St} {H : Hp}
/-- for .. in a tuple, a list: the sequence is known, then by an invariant -/
theorem for_in_tup (h : te σ H fun x H1 => ∃ (a : Addr) (xs : List V) (Pv : Nat → St → Hp → Prop), x = V.ref a ∧ SqT K H1 a xs ∧ Pv 0 σ H1 ∧ (∀ i σ H, i ≤ xs.length → Pv i σ H → SqT K H a xs) ∧
    (∀ i x σ H, xs[i]? = some x → Pv i σ H → g x σ H fun σ2 H2 => tb { nx := Pv (i + 1), rt := D.rt, bk := D.nx, ct := Pv (i + 1) } σ2 H2) ∧ (∀ σ H, Pv xs.length σ H → D.nx σ H))
    (mono : ∀ Q Q' : VK, (∀ v H1, Q v H1 → Q' v H1) → te σ H Q → te σ H Q') : tFor (iTup K te) g tb D σ H :=
  mono _ _ (fun v H1 ⟨a, xs, Pv, e, hs, h0, h1, h2, h3⟩ => ⟨a, e, ⟨xs, hs⟩, for_tup Pv h0 h1 h2 h3⟩) h
theorem for_in_list (h : te σ H fun x H1 => ∃ (a : Addr) (xs : List V) (Pv : Nat → St → Hp → Prop), x = V.ref a ∧ SqL K H1 a xs ∧ Pv 0 σ H1 ∧ (∀ i σ H, i ≤ xs.length → Pv i σ H → SqL K H a xs) ∧
    (∀ i x σ H, xs[i]? = some x → Pv i σ H → g x σ H fun σ2 H2 => tb { nx := Pv (i + 1), rt := D.rt, bk := D.nx, ct := Pv (i + 1) } σ2 H2) ∧ (∀ σ H, Pv xs.length σ H → D.nx σ H))
    (mono : ∀ Q Q' : VK, (∀ v H1, Q v H1 → Q' v H1) → te σ H Q → te σ H Q') : tFor (iList K te) g tb D σ H :=
  mono _ _ (fun v H1 ⟨a, xs, Pv, e, hs, h0, h1, h2, h3⟩ => ⟨a, e, ⟨xs, hs⟩, for_list Pv h0 h1 h2 h3⟩) h
end
/-- for .. in a list whose expression is known -/
theorem for_lst {K : PySem.W.Frag} {te : TE} {g : TG} {tb : TS} {D : Ends} {σ : St} {H : Hp} {a : Addr} {xs : List V} (Pv : Nat → St → Hp → Prop) (he : EvE te σ H (.ref a)) (hs : SqL K H a xs) (h0 : ∀ H1, Same H H1 → Pv 0 σ H1) (h1 : ∀ i σ H, i ≤ xs.length → Pv i σ H → SqL K H a xs)
    (h2 : ∀ i x σ H, xs[i]? = some x → Pv i σ H → g x σ H fun σ2 H2 => tb { nx := Pv (i + 1), rt := D.rt, bk := D.nx, ct := Pv (i + 1) } σ2 H2) (h3 : ∀ σ H, Pv xs.length σ H → D.nx σ H) : tFor (iList K te) g tb D σ H :=
  he _ fun H1 s1 => ⟨a, rfl, ⟨xs, s1.sql hs⟩, for_list Pv (h0 H1 s1) h1 h2 h3⟩
theorem for_tp {K : PySem.W.Frag} {te : TE} {g : TG} {tb : TS} {D : Ends} {σ : St} {H : Hp} {a : Addr} {xs : List V} (Pv : Nat → St → Hp → Prop) (he : EvE te σ H (.ref a)) (hs : SqT K H a xs) (h0 : ∀ H1, Same H H1 → Pv 0 σ H1) (h1 : ∀ i σ H, i ≤ xs.length → Pv i σ H → SqT K H a xs)
    (h2 : ∀ i x σ H, xs[i]? = some x → Pv i σ H → g x σ H fun σ2 H2 => tb { nx := Pv (i + 1), rt := D.rt, bk := D.nx, ct := Pv (i + 1) } σ2 H2) (h3 : ∀ σ H, Pv xs.length σ H → D.nx σ H) : tFor (iTup K te) g tb D σ H :=
  he _ fun H1 s1 => ⟨a, rfl, ⟨xs, s1.seqT hs⟩, for_tup Pv (h0 H1 s1) h1 h2 h3⟩
/-- for .. in a tuple display -/
theorem for_disp {K : PySem.W.Frag} {ta : TA} {g : TG} {tb : TS} {D : Ends} {σ : St} {H : Hp} {xs : List V} (Pv : Nat → St → Hp → Prop) (ha : EvA ta σ H xs) (h0 : ∀ H1, Same H H1 → Pv 0 σ H1) (hm : ∀ i σ H1, Pv i σ H1 → Same H H1)
    (h2 : ∀ i x σ H, xs[i]? = some x → Pv i σ H → ∀ a, SqT K H a xs → g x σ H fun σ2 H2 => tb { nx := fun σ H => Pv (i + 1) σ H ∧ SqT K H a xs, rt := D.rt, bk := D.nx, ct := fun σ H => Pv (i + 1) σ H ∧ SqT K H a xs } σ2 H2) (h3 : ∀ σ H, Pv xs.length σ H → D.nx σ H) (hl : Nat.ble xs.length 1000 = true := by rfl) : tFor (iTup K (tTup ta)) g tb D σ H := by
  refine ha _ fun H1 s1 => ⟨szL hl, fun a hT => ⟨a, rfl, ⟨xs, .inl (.inl upd_same)⟩, ?_⟩⟩
  exact for_tup (fun i σ H => Pv i σ H ∧ SqT K H a xs) ⟨h0 _ (s1.tr (Same.new hT)), .inl (.inl upd_same)⟩ (fun i σ H _ k => k.2) (fun i x σ H hx k => h2 i x σ H hx k.1 a k.2) (fun σ H k => h3 σ H k.1)
end L2
namespace L2
open PySem PySem.Spec PyProof.Rows
section
variable {K : PySem.W.Frag} {σ : St} {H : Hp} {v : V} {a b : TE} {p C dx : Addr} {fs : List (Str × V)} {m : Str} {sp : Sp} {E : XK}
theorem ev_meth0 (ha : EvE a σ H (.ref p)) (hx : H p = some (.ins C dx fs)) (hl : fs.lookup m = none) (hs : ∀ H1 Q, Same H H1 → (∀ H', Same H1 H' → Q v H') → sp [.ref p] H1 Q E) : EvE (tMeth C m sp [] E a tNil) σ H v :=
  fun Q k => ha _ fun H1 s1 => ⟨p, dx, fs, rfl, s1 _ _ hx, hl, hs H1 Q s1 fun H' s2 => k H' (s1.tr s2)⟩
theorem ev_lt {i j : Int} (ha : EvE a σ H (.int i)) (hb : ∀ H1, Same H H1 → EvE b σ H1 (.int j)) : EvE (tOp (fun x y H Q => ∃ i j, x = V.int i ∧ y = V.int j ∧ Q (.bl (decide (i < j))) H) a b) σ H (.bl (decide (i < j))) :=
  ev_op ha hb fun H2 s2 Q q => ⟨i, j, rfl, rfl, q⟩
/-- text.split(" ") -/
theorem do_split {z y : Str} (ha : EvE a σ H (.str z)) (hy : (y.length == 0) = false) (hz : z.length + 2 ≤ sizeLine) {Q : VK} (k : ∀ H' q, Same H H' → H q = none → H' q = some (.lst ((Txt.split z y).map V.str)) → Q (.ref q) H') :
    tM1 (fun x xs H Q => ∃ a b, x = V.str a ∧ xs = [V.str b] ∧ (b.length == 0) = false ∧ a.length + 2 ≤ sizeLine ∧ rNewStrs (Txt.split a b) H Q) a (tC (.str y)) σ H Q :=
  ha _ fun H1 s1 => ⟨⟨z, rfl⟩, z, y, rfl, rfl, hy, hz, fun q hq => k _ q (s1.tr (Same.new hq)) (by cases e : H q with | none => rfl | some o => rw [s1 _ _ e] at hq; cases hq) upd_same⟩
theorem do_drop {s : TS} {D : Ends} {te : TE} (h : te σ H fun _ H1 => s D σ H1) : tSeq (tDrop te) s D σ H := h
theorem do_whl {c : TT} {tb : TS} {D : Ends} (W : Nat → St → Hp → Prop) {m0 : Nat} (h0 : W m0 σ H) (hs : ∀ m σ H, W m σ H → ∃ b, EvT c σ H b ∧ (b = true → ∀ H1, Same H H1 → tb { nx := fun σ' H' => ∃ m', m' < m ∧ W m' σ' H', rt := D.rt, bk := D.nx, ct := fun σ' H' => ∃ m', m' < m ∧ W m' σ' H' } σ H1) ∧ (b = false → ∀ H1, Same H H1 → D.nx σ H1)) : tWhile c tb D σ H := by
  refine ⟨W, ⟨m0, h0⟩, fun m σ H hw => ?_⟩
  obtain ⟨b, hc, h1, h2⟩ := hs m σ H hw
  refine hc _ fun H1 s1 => ?_
  cases b with
  | true => exact iteT ⟨_, fun _ _ h => h, h1 rfl H1 s1⟩
  | false => exact iteF (h2 rfl H1 s1)
theorem none_of {H H1 : Hp} {q : Addr} (s : Same H H1) (h : H1 q = none) : H q = none := by
  cases e : H q with
  | none => rfl
  | some o => rw [s _ _ e] at h; cases h
/-- all but the object at x stays -/
def SameX (x : Addr) (H H' : Hp) : Prop := ∀ b o, b ≠ x → H b = some o → H' b = some o
theorem Same.x {x : Addr} {H H' : Hp} (s : Same H H') : SameX x H H' := fun b o _ h => s b o h
theorem SameX.tr {x : Addr} {H H1 H2 : Hp} (a : SameX x H H1) (b : SameX x H1 H2) : SameX x H H2 := fun c o n h => b c o n (a c o n h)
theorem SameX.upd {x : Addr} {H H' : Hp} {o : HO} (a : SameX x H H') : SameX x H (upd H' x o) := fun c u n h => by rw [upd_ne n]; exact a c u n h
theorem SameX.mut {x p : Addr} {H H' : Hp} {o : HO} (a : SameX x H H') (h : H p = none) : SameX x H (L2.upd H' p o) := fun c u n q => by rw [upd_ne (ne_of_none q h)]; exact a c u n q
end
end L2
namespace L2
open PySem PySem.Spec PyProof.Rows
theorem set_lst {ta : TA} {s : TS} {D : Ends} {σ : St} {H : Hp} {vs : List V} {i : Nat} (ha : EvA ta σ H vs) (k : ∀ H' T, Same H H' → H T = none → H' T = some (.lst vs) → s D (σ.set i (some (.ref T))) H') (hl : Nat.ble vs.length 1000 = true := by rfl) : tSeq (tAsg (tLst ta) (gName i)) s D σ H :=
  ha _ fun H1 s1 => ⟨szL hl, fun T hT => k _ T (s1.tr (Same.new hT)) (none_of s1 hT) upd_same⟩
theorem set_tup {ta : TA} {s : TS} {D : Ends} {σ : St} {H : Hp} {vs : List V} {i : Nat} (ha : EvA ta σ H vs) (k : ∀ H' T, Same H H' → H T = none → H' T = some (.tup vs) → s D (σ.set i (some (.ref T))) H') (hl : Nat.ble vs.length 1000 = true := by rfl) : tSeq (tAsg (tTup ta) (gName i)) s D σ H :=
  ha _ fun H1 s1 => ⟨szL hl, fun T hT => k _ T (s1.tr (Same.new hT)) (none_of s1 hT) upd_same⟩
end L2
namespace L2
open PySem PySem.Spec PyProof.Rows
section
variable {σ : St} {H : Hp} {a : TE} {x : V}
theorem isN_t (ha : EvE a σ H .non) : EvT (tTest (tOp (fun x y H Q => y = V.non ∧ Q (V.bl (decide (x = V.non))) H) a (tC V.non))) σ H true := ev_test (ev_op ha (fun _ _ => ev_C) fun H2 _ Q q => ⟨rfl, q⟩)
theorem isN_f (ha : EvE a σ H x) (hx : x ≠ .non) : EvT (tTest (tOp (fun x y H Q => y = V.non ∧ Q (V.bl (decide (x = V.non))) H) a (tC V.non))) σ H false := ev_test (ev_op ha (fun _ _ => ev_C) fun H2 _ Q q => ⟨rfl, by rw [decide_eq_false hx]; exact q⟩)
end
end L2
namespace L2
theorem nm {i : Nat} {v : V} {σ : St} {H : Hp} {Q : St → Hp → Prop} (h : Q (σ.set i (some v)) H) : gName i v σ H Q := h
theorem nx_seq {t u : TS} {D : Ends} {σ : St} {H : Hp} {r : VK} {b c : St → Hp → Prop} (h : tSeq t u D σ H) : Ends.nx { nx := tSeq t u D, rt := r, bk := b, ct := c } σ H := h
end L2


set_option Elab.async false
set_option linter.all false
set_option maxRecDepth 100000
set_option maxHeartbeats 4000000
namespace L2
open PySem PySem.Spec PyProof.Rows
section
variable {X : Cx}
/-- name = {k: v for ..} on one line, the name a local -/
theorem ps_setDc {i : Nat} {y : Str} {py : Pos} {kx vx tg iter : Expr} {ifs : List Expr} {scope : Scope} {own : List (Str × Nat)} {pos spos : Pos} {wi : TI} {g : TG} {tt : TT} {tk tv : TE} (hc : X.calm = true) (hN : X.N.Nodup) (hy : X.N[i]? = some y) (hyl : X.env.scope.names.lookup y = some .local)
    (hsw : swapsWith (.DictComp kx vx [⟨tg, iter, ifs, 0⟩] scope pos) (some (.Name y py)) spos.line X.env = pure true) (hi : PI X tg iter wi) (ok : BlkOk X.N X.env.scope scope own)
    (hg : ∀ (s : Shared) (H : Hp) (C : Addr) (cl : List (Str × Addr)) (fp : List Addr), PG (X.blk s H scope (compEnvC scope cl C X.env) fp) tg g) (ht : ∀ (s : Shared) (H : Hp) (C : Addr) (cl : List (Str × Addr)) (fp : List Addr), PTs (X.blk s H scope (compEnvC scope cl C X.env) fp) ifs tt) (hk : ∀ (s : Shared) (H : Hp) (C : Addr) (cl : List (Str × Addr)) (fp : List Addr), PE (X.blk s H scope (compEnvC scope cl C X.env) fp) kx tk)
    (he : ∀ (s : Shared) (H : Hp) (C : Addr) (cl : List (Str × Addr)) (fp : List Addr), PE (X.blk s H scope (compEnvC scope cl C X.env) fp) vx tv) (hs : ∀ x, foldedSetIterable iter X.env x = pure x := by (intro _; rfl)) : PS X (.Assign [.Name y py] (.DictComp kx vx [⟨tg, iter, ifs, 0⟩] scope pos) spos) (tAsg (tDc wi g tt tk tv (own.map (·.2))) (gName i)) := by
  refine ⟨fun ps s0 z H0 D0 I0 h0 => ?_⟩
  rw [exec_Assign_Name_used _ _ _ _ hsw]; refine wpAny_bind (wpAny_standAt (wpAny_bind ?_))
  show wpAny _ X.A (do let _ ← comprehension (.DictComp kx vx [⟨tg, iter, ifs, 0⟩] scope pos) scope X.env (firstIterPos [⟨tg, iter, ifs, 0⟩] pos) newDict false (eval iter X.env) (some (assign (.Name y py) X.env))) _ _ s0
  have h1 : tDc wi g tt tk tv (own.map (·.2)) z H0 (fun x H1 => gName i x z H1 D0.nx) := h0
  refine wpAny_bind (thn (dc_core (Qf := fun _ s' => SP X ps D0 .next s') hc hN I0 hi ok hg ht hk he hs h1 fun L C s' m H' I' q hn f => ?_) fun _ s' hq => wpAny_pure (wpAny_pure hq))
  show wpAny _ _ (assign (.Name y py) X.env (.ref L)) _ _ _; refine wpAny_assign_Name (store_ok2 (v := V.ref L) I' hN hy (.inl hyl) rfl (fun s2 I2 ⟨a, sb, ha⟩ => ?_) (.inr hyl))
  obtain ⟨c0, c1, c2, c3, c4, c5⟩ := f
  have hCa : C ≠ a := by
    rcases ha with e | e
    · exact fun k => c1 (k.trans e)
    · exact fun k => c4 y a e k.symm
  exact ⟨m, hn.sameBut sb hCa, fun h3 sb3 => ⟨_, H', I2.turned (t' := s2.toks) (fun b o hb e => (sb3.2 b hb).trans e) c0 c1 c3 c4 c5, q⟩⟩
theorem swD_true {kx vx : Expr} {gs : List Comprehension} {scope : Scope} {pos py : Pos} {y : Str} {l : Nat} {env : Env} (hk : env.scope.kind = .function) (hy : env.scope.names.lookup y = some .local) (hl : (py.line == pos.line) = true)
    (ha : (scope.names.any fun (n, k) => n == y && (k == .local || k == .cell)) = false) : swapsWith (.DictComp kx vx gs scope pos) (some (.Name y py)) l env = pure true := by
  have e1 : env.blockKind = .function := by unfold Env.blockKind; rw [hk]; rfl
  have e2 : env.kindOf y = some .local := hy
  unfold swapsWith
  simp only [e1, e2, ha, Expr.pos, hl]; rfl
theorem ixT_at {X : Cx} {K : PySem.W.Frag} (h : X.K = K := by rfl) : IxR X (rIxT K) := by subst h; exact ix_tup
theorem ixL_at {X : Cx} {K : PySem.W.Frag} (h : X.K = K := by rfl) : IxR X (rIxL K) := by subst h; exact ix_list
theorem inS_at {X : Cx} {K : PySem.W.Frag} (h : X.K = K := by rfl) : OpR X (compareOp .In) (rIn K false) := by subst h; exact op_in_seq
theorem niS_at {X : Cx} {K : PySem.W.Frag} (h : X.K = K := by rfl) : OpR X (compareOp .NotIn) (rIn K true) := by subst h; exact op_notIn_seq
theorem fld_at {X : Cx} {K : PySem.W.Frag} {ta : TE} {e : Expr} {f : Str} {pos : Pos} (he : PE X (.Attribute e f pos) (tFld X.K ta f)) (h : X.K = K := by rfl) : PE X (.Attribute e f pos) (tFld K ta f) := by subst h; exact he
theorem piL_at {X : Cx} {K : PySem.W.Frag} {tg l : Expr} {tl : TE} (he : PE X l tl) (h : X.K = K := by rfl) : PI X tg l (iList K tl) := by subst h; exact pi_list he
theorem piT_at {X : Cx} {K : PySem.W.Frag} {tg l : Expr} {tl : TE} (he : PE X l tl) (h : X.K = K := by rfl) : PI X tg l (iTup K tl) := by subst h; exact pi_tup he
theorem set_ifV {t : TT} {A B : TE} {s : TS} {D : Ends} {z : St} {H : Hp} {i : Nat} {b : Bool} (ht : EvT t z H b) (R : V → Hp → Prop) (hA : b = true → ∀ H1, Same H H1 → ∀ Q : VK, (∀ v H2, R v H2 → Q v H2) → A z H1 Q) (hB : b = false → ∀ H1, Same H H1 → ∀ Q : VK, (∀ v H2, R v H2 → Q v H2) → B z H1 Q) (k : ∀ v H2, R v H2 → s D (z.set i (some v)) H2) : tSeq (tAsg (tIf t A B) (gName i)) s D z H := by
  refine ht _ fun H1 s1 => ?_
  cases b with
  | true => exact iteT (hA rfl H1 s1 _ k)
  | false => exact iteF (hB rfl H1 s1 _ k)
theorem cut1 (xs : List V) : cutV xs (some 1) none = xs.drop 1 := by
  have h : HT.sIx xs.length 0 (some 1) = min 1 xs.length := HT.sIx_nat _ _ 1
  have h2 : HT.sIx xs.length xs.length none = xs.length := rfl
  unfold cutV
  rw [h, h2]
  cases xs with
  | nil => rfl
  | cons x r =>
    have e : min 1 (x :: r).length = 1 := by simp
    rw [e]
    show r.take (r.length + 1 - 1) = r
    rw [Nat.add_sub_cancel]
    exact List.take_length
end
end L2


set_option Elab.async false
set_option linter.all false
set_option maxRecDepth 100000
set_option maxHeartbeats 4000000
namespace SupX
open PySem PySem.Spec PyProof.Rows L2 NdefX
/-- the arguments of super().__init__(..), the first statement of st's body -/
def supArgs (st : Stmt) : List Expr := match defBody st with
  | .Expr (.Call _ as _ _) _ :: _ => as
  | _ => []
def supE (st : Stmt) : Expr := match supArgs st with
  | e :: _ => e
  | [] => .Name "" ⟨0, 0, 0, 0⟩
def supEs (st : Stmt) : List Expr := (supArgs st).drop 1
def supR (st : Stmt) : List Stmt := (defBody st).drop 1
abbrev nfOf (q : Str) (st : Stmt) (cc c : Addr) : NF := ⟨"__init__", q, defArgs st, defBody st, defScope st, [("__class__", cc)], c⟩
/-- class x(y): the __init__ of x (statement st) calls that of y (statement s0) first -/
abbrev SupD (P : Program) (K : PySem.W.Frag) (x q q0 : Str) (st s0 : Stmt) (N ps : List Str) : Prop := ∃ f0 fd0 fI cc c, SupT P K (He.ga K x) fI f0 (nfOf q st cc c) N ps (supE st) (supEs st) (supR st) ∧ Mk K (He.ga K x) fI ∧ FunD K "__init__" q0 (defArgs s0) (defBody s0) (defScope s0) [] [] f0 fd0
end SupX


set_option Elab.async false
set_option linter.all false
set_option maxRecDepth 100000
set_option maxHeartbeats 4000000
/-! len(o), o[i] of an instance whose class has its own __len__, __getitem__ -/
namespace L2
open PySem PySem.Spec PyProof.Rows
section
variable {X : Cx} {CX : CXT} {k : Nat} {C : Addr} {ps : List Str} {sp : Sp} {E : XK} {m : Str}
/-- a method of C called by the machine, one step deeper -/
theorem run_in1 (F : MeX X.prog X.w X.K X.mg X.base CX k C m ps [] sp) (hr : Room (k + 1) X.A) (hx : Passes CX X E) {pins : List (Addr × Obj)} {z : St} {H : Hp} {s : Shared} {us : List Value} {vs : List V} {Q : VK} (I : Inv X pins z H s) (r : Vals vs us) (q : sp vs H Q E) :
    ∃ f, Meth X.K C m f ∧ wpAny (model X.prog X.w) X.A.in1 (call (.ref f) us) (EP X pins z Q) X.xe s := by
  obtain ⟨f, fd, dvs, c, mm, b, vd, G⟩ := F.ex
  cases vd
  refine ⟨f, mm, ?_⟩
  have hl := G.len _ _ _ _ q
  refine wpAny_call (codeAny_mono (G.run X.A.in1 X.stack s H ⟨us, []⟩ us vs Q E hr.in1 I.env0.in1 (by
    have := b s us I.kIn (by rw [List.append_nil, ← r.length]; exact hl)
    simpa using this) r q) fun r s' hq => ?_)
  cases r with
  | error e => exact hx pins z H s e s' I hq
  | ok fl =>
    cases fl with
    | ret w => exact I.after hq
    | next => exact False.elim hq
    | brk => exact False.elim hq
    | cont => exact False.elim hq
def rIxO (C : Addr) (sp : Sp) (E : XK) : R2 := fun x y H Q => ∃ a dx fs, x = .ref a ∧ H a = some (.ins C dx fs) ∧ sp [x, y] H Q E
theorem pe_ixO {a b : Expr} {ta tb : TE} {pos : Pos} (F : MeX X.prog X.w X.K X.mg X.base CX k C "__getitem__" ps [] sp) (hr : Room (k + 1) X.A) (hx : Passes CX X E) (hfn : ∀ f, PySem.W.findIn X.K (.ref C) "__getitem__" = some (some (.ref f)) → PySem.W.fnIn X.K f = true) (ha : PE X a ta) (hb : PE X b tb)
    (hs : ∀ x i, subscripted b true x i = runValue (.builtin "lifetime.subscript" ⟨[x, i], []⟩) := by (intro _ _; rfl)) : PE X (.Subscript a b pos) (tOp (rIxO C sp E) ta tb) := by
  refine ⟨fun pins s z H Q I h => ?_⟩
  refine Subscript_ (binT ha hb I h fun v u s2 x y H2 I2 rx ry q => ?_)
  obtain ⟨p, dx, fs, rfl, hp, q⟩ := q
  obtain rfl : v = Value.ref p := rx
  obtain ⟨mA, J, _⟩ := ins_get I2.hok hp
  obtain ⟨od, J, _⟩ := J.look
  obtain ⟨f, mm, go⟩ := run_in1 F hr hx I2 (us := [.ref p, u]) (vs := [.ref p, y]) (.cons rfl (.cons ry .nil)) q
  obtain ⟨mF, hF⟩ := I2.fr
  exact PySem.W.sub_K hF I2.ok.mod.kin J mm.at_ (hfn f mm.at_) mm.fn go (hs _ _)
def rLenO (C : Addr) (sp : Sp) (E : XK) : List V → Hp → VK → Prop := fun xs H Q => ∃ a dx fs, xs = [.ref a] ∧ H a = some (.ins C dx fs) ∧ sp [.ref a] H (fun v H' => ∃ n : Nat, v = .int (n : Nat) ∧ n ≤ 100000 ∧ Q (.int (n : Nat)) H') E
theorem call_lenO (F : MeX X.prog X.w X.K X.mg X.base CX k C "__len__" ps [] sp) (hr : Room (k + 1) X.A) (hx : Passes CX X E) : CallR X (.builtin "len") (rLenO C sp E) := by
  intro pins s z H xs us Q I r h
  obtain ⟨a, dx, fs, rfl, ha, q⟩ := h
  obtain ⟨u, rfl, ru⟩ := vals1 r
  obtain rfl : u = Value.ref a := ru
  obtain ⟨mA, J, _⟩ := ins_get I.hok ha
  obtain ⟨od, J, _⟩ := J.look
  obtain ⟨f, mm, go⟩ := run_in1 F hr hx I (us := [.ref a]) (vs := [.ref a]) (.cons rfl .nil) q
  obtain ⟨mF, hF⟩ := I.fr
  refine PySem.W.len_K hF I.ok.mod.kin J mm.at_ mm.fn (wpAny_mono go (fun v s' hv => ?_) fun _ _ x => x)
  obtain ⟨v2, H', I', rv, n, rfl, hn, q⟩ := hv
  obtain ⟨t, rfl⟩ := rv
  refine ⟨⟨by omega, by omega⟩, ?_⟩
  exact ⟨.int (n : Nat), H', I'.tok _, ⟨_, rfl⟩, q⟩
end
end L2


set_option Elab.async false
set_option linter.all false
set_option maxRecDepth 100000
set_option maxHeartbeats 4000000
/-! a class called in a try's body: what leaves it may hang on the slots -/
namespace L2
open PySem PySem.Spec PyProof.Rows
section
variable {X : Cx} {CX : CXT} {k : Nat} {C : Addr} {ps : List Str} {sp : Sp} {E : St → XK} {x : Str}
def tMakeS (C : Addr) (sp : Sp) (E : St → XK) (t : TA) : TE := fun σ H Q => t σ H fun vs H1 => ∀ x dx, H1 x = none → H1 dx = none → dx ≠ x → sp (V.ref x :: vs) (upd (upd H1 dx (.own x)) x (.ins C dx [])) (fun v H2 => v = .non ∧ Q (.ref x) H2) (E σ)
theorem pe_makeXS {p pos : Pos} {e : Expr} {es : List Expr} {t : TA} (F : MkX X.prog X.w X.K X.mg X.base CX k x C ps [] sp) (hr : Room (k + 1) X.A) (hx : ∀ z, PassesAt CX X z (E z)) (ha : PA X (e :: es) t) (hg : Gl X x := by rfl) (hdb : (x == ("__debug__" : Str)) = false := by decide)
    (he : starEach (e :: es) X.env = (false, eval e X.env) :: starEach es X.env := by rfl) (hpl : (backTo pos (starEach es X.env)).any (·.1) = false := by rfl) : PE X (.Call (.Name x p) (e :: es) [] pos) (tMakeS C sp E t) := by
  obtain ⟨f, fd, dvs, hm, M, b, vd, G⟩ := F.ex
  cases vd
  refine ⟨fun pins s z H Q I h => wpAny_Call_Name_kw (ld_glob I hg hm ?_ hdb)⟩
  refine PySem.W.callWith_K (h₀ := X.base) I.ok.mod.kin M.kp (thn (ha.run pos pins s z H _ I h) fun us s1 hh => ?_) he hpl
  obtain ⟨vs, H1, I1, r, q⟩ := hh
  refine ⟨I1.kIn, ?_⟩
  have q2 := q (s1.heap.objs.size + 1) s1.heap.objs.size (I1.hok.fresh (Nat.le_succ _)) (I1.hok.fresh (Nat.le_refl _)) (Nat.ne_of_lt (Nat.lt_succ_self _))
  have J := Inv.made (C := C) I1
  have r2 : Vals (V.ref (s1.heap.objs.size + 1) :: vs) (Value.ref (s1.heap.objs.size + 1) :: us) := .cons rfl r
  have hl : (Value.ref (s1.heap.objs.size + 1) :: us).length = ps.length := by
    have e1 := r2.length
    rw [G.len _ _ _ _ q2] at e1
    exact e1.symm
  have b2 := b _ (Value.ref (s1.heap.objs.size + 1) :: us) J.kIn (by rw [List.append_nil]; exact hl)
  rw [List.append_nil] at b2
  refine wpAny_call (make_map (f := f) I1.kIn M.makes M.init (beq_iff_eq.mp M.fn) (codeAny_mono (G.run _ X.stack _ _ ⟨Value.ref (s1.heap.objs.size + 1) :: us, []⟩ (Value.ref (s1.heap.objs.size + 1) :: us) _ _ (E z) (hr.make C us []) (J.env0.make C us []) b2 r2 q2) fun r9 s9 h9 => ?_))
  cases r9 with
  | error e9 => exact hx z pins _ _ e9 s9 J h9
  | ok fl =>
    cases fl with
    | ret u =>
      obtain ⟨v, H', I3, rv, ev, q3⟩ := J.after h9
      subst ev
      exact ⟨rv, V.ref (s1.heap.objs.size + 1), H', I3, rfl, q3⟩
    | next => exact False.elim h9
    | brk => exact False.elim h9
    | cont => exact False.elim h9
end
end L2


set_option Elab.async false
set_option linter.all false
set_option maxRecDepth 100000
set_option maxHeartbeats 4000000
/-! a Hook that tells defs, classes, errors with an __init__ by super(), code tables -/
namespace HeE
open PySem PySem.Spec PyProof.Rows L2 He PySem.ErrX
structure ErrD where
  x : Str
  fs : List Str
  qual : Str
  params : Arguments
  body : List Stmt
  scope : Scope
abbrev FnE : Type := Option (Str × Str × Arguments × FuncBody × Scope × Addr × Addr)
def iAd (K : PySem.W.Frag) (x : Str) : Addr := ma K (ga K x) "__init__"
def fnE (K : PySem.W.Frag) (x : Str) : FnE := match K.lookup (iAd K x) with
  | some ⟨_, _, .func fd, _⟩ => some (fd.name, fd.qualname, fd.params, fd.body, fd.scope, fd.globals, fd.builtins)
  | _ => none
def ErrD.val (d : ErrD) : FnE := some ("__init__", d.qual, d.params, .stmts d.body, d.scope, mainGlobals, builtinsNs)
def fileB (K : PySem.W.Frag) (cda : Addr) (file : Str) : Bool := match K.lookup cda with
  | some ⟨_, _, .fields vs, _⟩ => (match (vs[2]? : Option Value) with
    | some (.str f _) => (file == f)
    | _ => false)
  | _ => false
def cellB (K : PySem.W.Frag) (cc C : Addr) : Bool := match K.lookup cc with
  | some ⟨_, _, .cell (some (.ref C')), _⟩ => decide (C' = C)
  | _ => false
def initB (K : PySem.W.Frag) (C fI : Addr) (file q : Str) : Bool := match K.lookup fI with
  | some ⟨_, _, .func fd, _⟩ => (match fd.code, fd.closure, fd.defaults with
    | .ref cda, [(cn, cc)], .none => decide (cn = "__class__") && (PySem.W.codeIn K (.ref cda) q && (fileB K cda file && cellB K cc C))
    | _, _, _ => false)
  | _ => false
def clsB (K : PySem.W.Frag) (C : Addr) : Bool := match K.lookup C with
  | some ⟨.type t, _, .cls cd, sl⟩ => decide (t = "type") && (match cd.mro, sl.toList with
    | .ref C' :: bm, [_, _, _, _, some (.builtin n), _] => decide (C' = C) && (decide (n = "ValueError.__new__") && (!cd.hasDel && (cd.hasDict && PySem.HandSPX.refsVE bm)))
    | _, _ => false)
  | _ => false
def okO (a b : Option Bool) : Bool := decide (a = b)
def okV (a b : Option Value) : Bool := decide (a = b)
def errL (K : PySem.W.Frag) (file : Str) (d : ErrD) : List Bool := [
  clsB K (ga K d.x),
  eqO (PySem.W.findIn K (.ref (ga K d.x)) "__setattr__") (some (some (.builtin "object.__setattr__"))),
  eqO (PySem.W.findIn K (.ref (ga K d.x)) "__getattribute__") (some (some (.builtin "BaseException.__getattribute__"))),
  eqO (PySem.W.findIn K (.ref (ga K d.x)) "__getattr__") (some none),
  d.fs.all (fun f => eqO (PySem.W.findIn K (.ref (ga K d.x)) f) (some none)),
  PySem.W.keepIn K (.ref (ga K d.x)),
  okO (PySem.W.subIn K (.ref (ga K d.x)) (.type "BaseException")) (some true),
  okO (PySem.W.subIn K (.ref (ga K d.x)) (.type "ValueError")) (some true),
  okV (PySem.W.typeIn K (.ref (ga K d.x))) (some (.type "type")),
  PySem.W.hasDictIn K (ga K d.x),
  okO (PySem.W.mroIn K (ga K d.x) (.ref (ga K d.x))) (some true),
  eqO (PySem.W.ks_superIn K (ga K d.x) (ga K d.x) "__init__") (some (some (.builtin "ValueError.__init__"))),
  eqO (PySem.W.nsIn K cStatics "thirdparty.any") (some none),
  eqO (PySem.W.nsIn K mainGlobals "super") (some none),
  eqO (PySem.W.findIn K (.ref (ga K d.x)) "__init__") (some (some (.ref (iAd K d.x)))),
  okV (PySem.W.typeIn K (.ref (iAd K d.x))) (some (.type "function")),
  initB K (ga K d.x) (iAd K d.x) file d.qual,
  (PySem.W.clsIn K (ga K d.x)).isSome,
  eqO (PySem.W.findIn K (.ref (ga K d.x)) "__class__") (some (some (.builtin "object.__class__"))),
  eqO (PySem.W.specialIn K (.builtin "object.__class__") "__get__") (some (some (.builtin "getset_descriptor.__get__"))),
  okO (PySem.W.takesIn K (.builtin "object.__class__")) (some true),
  okO (PySem.W.mroIn K (ga K d.x) (.type "object")) (some true),
  eqO (PySem.W.nsIn K mainGlobals d.x) (some (some (.ref (ga K d.x))))]
def errB (K : PySem.W.Frag) (file : Str) (d : ErrD) : Bool := (errL K file d).all id
theorem all_at {l : List Bool} (h : l.all id = true) (i : Nat) {b : Bool} (e : l[i]? = some b := by rfl) : b = true := List.all_eq_true.mp h b (List.mem_of_getElem? e)
/-- what the text says of an error -/
structure ErrS (prog : Program) (d : ErrD) : Prop where
  topN : (prog.main.scope.names.lookup ("super" : Str)).isSome = false
  kinds : (d.fs.all fun f => (iScope d.fs).names.lookup f == some .local && !(f == ("self" : Str))) = true
  dbg : ∀ f ∈ d.fs, (f == ("__debug__" : Str)) = false
  outs : ("__class__" : Str) ∉ d.fs ∧ ("super" : Str) ∉ d.fs
  nd : d.fs.Nodup
  len : d.fs.length ≤ 900
  scope : d.scope = iScope d.fs
  head : ∃ ar, (d.params.posonlyargs ++ d.params.args).head? = some ar ∧ ar.arg = "self"
  body : ∃ msg j p0 p1 p2 p3 p4 p5 ps, d.body = supSt msg j p0 p1 p2 p3 p4 p5 :: (ps : List FldP).map setSt ∧ ps.map (·.f) = d.fs ∧ ∀ env, ∃ pl, supEv env pl msg j p0 p1 p2 p3 p4
  bind : ∀ (kV doc pm : Value) (an : Option Addr) (cda : Addr) (ct : Value) (cc : Addr) (self : Value) (us : List Value), us.length = d.fs.length → bindArgs (PySem.W.ksFn "__init__" d.qual d.params d.body (iScope d.fs) .none kV doc pm an (.ref cda) ct cc) ⟨self :: us, []⟩ = pure ((("self" : Str), self) :: d.fs.zip us)
theorem clsB_ok {K : PySem.W.Frag} {C : Addr} (h : clsB K C = true) : ∃ nm q N bs bm sn sub ab col dd k0 k1 k2 k3 k5, K.lookup C = some (excClassObj nm q C N bs bm true sn sub ab col dd k0 k1 k2 k3 k5 "ValueError.__new__") ∧ PySem.HandSPX.refsVE bm = true := by
  unfold clsB at h
  split at h
  · rename_i t dd cd sl q
    obtain ⟨h1, h2⟩ := ba h
    split at h2
    · rename_i C' bm k0 k1 k2 k3 n k5 e1 e2
      obtain ⟨a1, a⟩ := ba h2
      obtain ⟨a2, a⟩ := ba a
      obtain ⟨a3, a⟩ := ba a
      obtain ⟨a4, a5⟩ := ba a
      obtain ⟨sl⟩ := sl
      obtain ⟨n1, n2, n3, n4, n5, n6, n7, n8, n9, n10, n11⟩ := cd
      simp only at e1 e2 a3 a4
      have a1 := of_decide_eq_true a1
      have a2 := of_decide_eq_true a2
      have h1 := of_decide_eq_true h1
      have a3 : n11 = false := by simpa using a3
      subst a1 a2 h1 a3 a4 e1 e2
      exact ⟨n1, n5, n4, n2, bm, n7, n8, n9, n10, dd, k0, k1, k2, k3, k5, q, a5⟩
    · cases h2
  · cases h
theorem errTxt {prog : Program} {K : PySem.W.Frag} {d : ErrD} (h : errB K prog.main.file d = true) (e : fnE K d.x = d.val) (S : ErrS prog d) : ErrTxt prog K d.fs (ga K d.x) where
  cls := clsB_ok (all_at h 0)
  sa := eqO_ok (all_at h 1)
  ga := eqO_ok (all_at h 2)
  gg := eqO_ok (all_at h 3)
  noN := fun f hf => eqO_ok (List.all_eq_true.mp (all_at h 4) f hf)
  kC := all_at h 5
  exC := of_decide_eq_true (all_at h 6)
  veC := of_decide_eq_true (all_at h 7)
  tyC := of_decide_eq_true (all_at h 8)
  hdC := all_at h 9
  own := of_decide_eq_true (all_at h 10)
  sup := eqO_ok (all_at h 11)
  opq := eqO_ok (all_at h 12)
  gsup := eqO_ok (all_at h 13)
  topN := S.topN
  kinds := S.kinds
  dbg := S.dbg
  outs := S.outs
  nd := S.nd
  len := S.len
  init := by
    have h14 := eqO_ok (all_at h 14)
    have h15 : PySem.W.typeIn K (.ref (iAd K d.x)) = some (.type "function") := of_decide_eq_true (all_at h 15)
    have h16 : initB K (He.ga K d.x) (iAd K d.x) prog.main.file d.qual = true := all_at h 16
    unfold initB at h16
    unfold fnE ErrD.val at e
    cases q : K.lookup (iAd K d.x) with
    | none => rw [q] at h16; cases h16
    | some o =>
      obtain ⟨oc, od, dt, osl⟩ := o
      rw [q] at h16 e
      cases dt with
      | func fd =>
        obtain ⟨n1, n2, n3, n4, n5, n6, n7, n8, n9, n10, n11, n12, n13, n14, n15⟩ := fd
        have e2 : (some (n1, n2, n3, n4, n5, n6, n15) : FnE) = (some (Str.ofString "__init__", d.qual, d.params, .stmts d.body, d.scope, mainGlobals, builtinsNs) : FnE) := e
        simp only [Option.some.injEq, Prod.mk.injEq] at e2
        obtain ⟨h1, h2, h3, h4, h5, h6, h8⟩ := e2
        subst h1 h2 h3 h4 h5 h6 h8
        cases n13 with
        | ref cda =>
          cases n7 with
          | nil => cases h16
          | cons c7 r7 =>
            obtain ⟨cn, cc⟩ := c7
            cases r7 with
            | cons _ _ => cases h16
            | nil =>
              cases n8 with
              | none =>
                have h17 : (decide (cn = "__class__") && (PySem.W.codeIn K (.ref cda) d.qual && (fileB K cda prog.main.file && cellB K cc (He.ga K d.x)))) = true := h16
                obtain ⟨a1, a⟩ := ba h17
                obtain ⟨a2, a⟩ := ba a
                obtain ⟨a3, a4⟩ := ba a
                have a1 := of_decide_eq_true a1
                subst a1
                unfold fileB at a3
                unfold cellB at a4
                split at a3
                · rename_i ccl cdd vs ccs q1
                  split at a3
                  · rename_i f tf q2
                    split at a4
                    · rename_i cl cld C' csl q3
                      have a4 := of_decide_eq_true a4
                      subst a4
                      rw [S.scope] at q
                      exact ⟨iAd K d.x, cc, cda, oc, od, d.qual, d.params, d.body, n9, n10, n11, n12, n14, osl, ccl, cdd, vs, ccs, f, tf, cl, cld, csl, h14, h15, q, a2, q1, q2, a3, q3, S.head, S.body, S.bind n9 n10 n11 n12 cda n14 cc⟩
                    · cases a4
                  · cases a3
                · cases a3
              | _ => cases h16
        | _ => cases h16
      | _ => cases h16
theorem errK {prog : Program} {K : PySem.W.Frag} {d : ErrD} {file : Str} (h : errB K file d = true) : ErrK K (ga K d.x) where
  hcl := all_at h 17
  hga := eqO_ok (all_at h 2)
  hgt := eqO_ok (all_at h 3)
  hsub := of_decide_eq_true (all_at h 6)
  ha := eqO_ok (all_at h 18)
  hn := eqO_ok (all_at h 19)
  htk := of_decide_eq_true (all_at h 20)
  hm := of_decide_eq_true (all_at h 21)
theorem errG {K : PySem.W.Frag} {d : ErrD} {file : Str} {hp : Heap} {mg : Str → Option Value} (X : K.In hp) (G : hp.Ns mainGlobals mg) (h : errB K file d = true) : mg d.x = some (.ref (ga K d.x)) := PySem.W.mg_of X G (eqO_ok (all_at h 22))
/-! ### the Hook -/
abbrev AlE : Type := Bool × List FnW × List FnE
def obsE (file : Str) (fa : List Fa) (fn : List DefD) (er : List ErrD) (tf : List Defn) (ex : PySem.W.Frag → Bool) (g : Addr → Option Obj) (K : PySem.W.Frag) : AlE :=
  ((fa.all fun f => f.ok K) && ((fn.all fun d => d.ok K) && ((er.all fun d => errB K file d) && (ex K && tabsB g tf K))), fn.map (fun d => fnW K d.at_), er.map (fun d => fnE K d.x))
def valE (fn : List DefD) (er : List ErrD) : AlE := (true, fn.map DefD.val, er.map ErrD.val)
structure SaysE (file : Str) (fa : List Fa) (fn : List DefD) (er : List ErrD) (tf : List Defn) (ex : PySem.W.Frag → Bool) (h : Heap) (K : PySem.W.Frag) : Prop where
  fa : ∀ f ∈ fa, f.ok K = true
  fn : ∀ d ∈ fn, ∃ fd, FunD K d.name d.qual d.params d.body d.scope (d.dvs K) (d.kws K) (fAd K d.at_) fd
  er : ∀ d ∈ er, errB K file d = true ∧ fnE K d.x = d.val
  more : ex K = true
  hd : ∀ p ∈ tf, PySem.W.codeHdIn K (cT K p).1 (cT K p).2 = true
  out : ∀ p ∈ tf, K.lookup (cT K p).2 = none
  empty : ∀ p ∈ tf, h.get? (cT K p).2 = some { cls := .none, data := .fields #[] }
def frE (g : Addr → Option Obj) (n : Nat) : PySem.W.Frag := frT g (cStatics :: asD g n)
theorem map_at {α β : Type} {f g : α → β} : ∀ {l : List α}, l.map f = l.map g → ∀ d ∈ l, f d = g d
  | [], _, d, hd => by cases hd
  | a :: r, h, d, hd => by
    have h2 : f a :: r.map f = g a :: r.map g := h
    injection h2 with h3 h4
    rcases List.mem_cons.mp hd with e | e
    · subst e; exact h3
    · exact map_at h4 d e
theorem saysE_of {file : Str} {n : Nat} {fa : List Fa} {fn : List DefD} {er : List ErrD} {tf : List Defn} {ex : PySem.W.Frag → Bool} {h : Heap} (e : obsE file fa fn er tf ex h.get? (frE h.get? n) = valE fn er) : SaysE file fa fn er tf ex h (frE h.get? n) := by
  have e1 : ((fa.all fun f => f.ok (frE h.get? n)) && ((fn.all fun d => d.ok (frE h.get? n)) && ((er.all fun d => errB (frE h.get? n) file d) && (ex (frE h.get? n) && tabsB h.get? tf (frE h.get? n))))) = true := congrArg (fun z : AlE => z.1) e
  have e2 : fn.map (fun d => fnW (frE h.get? n) d.at_) = fn.map DefD.val := congrArg (fun z : AlE => z.2.1) e
  have e3 : er.map (fun d => fnE (frE h.get? n) d.x) = er.map ErrD.val := congrArg (fun z : AlE => z.2.2) e
  obtain ⟨a1, a⟩ := ba e1
  obtain ⟨a2, a⟩ := ba a
  obtain ⟨a3, a⟩ := ba a
  obtain ⟨a4, a5⟩ := ba a
  have key : ∀ p ∈ tf, PySem.W.codeHdIn (frE h.get? n) (cT (frE h.get? n) p).1 (cT (frE h.get? n) p).2 = true ∧ ∃ o, h.get? (cT (frE h.get? n) p).2 = some o ∧ emptyTab o = true := fun p hp => by
    obtain ⟨h3, h4⟩ := ba (List.all_eq_true.mp a5 p hp)
    refine ⟨h3, ?_⟩
    cases q : h.get? (cT (frE h.get? n) p).2 with
    | none => rw [q] at h4; cases h4
    | some o => rw [q] at h4; exact ⟨o, rfl, h4⟩
  exact ⟨fun f hf => List.all_eq_true.mp a1 f hf, fun d hd => DefD.funD (map_at e2 d hd) (List.all_eq_true.mp a2 d hd), fun d hd => ⟨List.all_eq_true.mp a3 d hd, map_at e3 d hd⟩, a4, fun p hp => (key p hp).1, fun p hp => by
    obtain ⟨_, o, q, z⟩ := key p hp
    exact frT_none q z, fun p hp => by
    obtain ⟨_, o, q, z⟩ := key p hp
    rw [q, emptyTab_eq z]⟩
def hookE (file : Str) (n : Nat) (fa : List Fa) (fn : List DefD) (er : List ErrD) (tf : List Defn) (ex : PySem.W.Frag → Bool) : PySem.W.Hook where
  α := AlE
  obs := fun s => obsE file fa fn er tf ex s.heap.get? (frE s.heap.get? n)
  val := fun _ => valE fn er
  says := fun _ h => ∃ K : PySem.W.Frag, K.In h ∧ SaysE file fa fn er tf ex h K
  of := fun _ _ e => ⟨_, frT_in, saysE_of e⟩
  keeps := fun _ _ _ ⟨K, hK, c⟩ k => ⟨K, PySem.W.Frag.In.keeps hK k, ⟨c.fa, c.fn, c.er, c.more, c.hd, c.out, fun p hp => k _ _ (c.empty p hp)⟩⟩
theorem obsE_eq {file : Str} {n : Nat} {fa : List Fa} {fn : List DefD} {er : List ErrD} {tf : List Defn} {ex : PySem.W.Frag → Bool} {g : Addr → Option Obj} {s : Shared} (h : ∀ a, g a = s.heap.get? a) : obsE file fa fn er tf ex g (frE g n) = (hookE file n fa fn er tf ex).obs s := by
  have e : g = s.heap.get? := funext h
  rw [e] <;> rfl
end HeE


set_option Elab.async false
set_option linter.all false
set_option maxRecDepth 100000
set_option maxHeartbeats 4000000
/-! the Hook of HookE, with classes whose __init__ calls that above by super(), and with tables of texts -/
namespace HeE
open PySem PySem.Spec PyProof.Rows L2 He PySem.ErrX
abbrev AlF : Type := AlE × List FnE × List (Option (List (Option (Str × Int))))
def obsF (file : Str) (fa : List Fa) (fn : List DefD) (er su : List ErrD) (ts : List (Str × List Str)) (ex : PySem.W.Frag → Bool) (g : Addr → Option Obj) (K : PySem.W.Frag) : AlF := (obsE file fa fn er [] ex g K, su.map (fun d => fnE K d.x), ts.map fun t => dicW K (ga K t.1))
def valF (fn : List DefD) (er su : List ErrD) (ts : List (Str × List Str)) (w : World) : AlF := (valE fn er, su.map ErrD.val, ts.map fun t => some (keysIn w.params t.2))
structure SaysF (file : Str) (fa : List Fa) (fn : List DefD) (er su : List ErrD) (ts : List (Str × List Str)) (ex : PySem.W.Frag → Bool) (w : World) (h : Heap) (K : PySem.W.Frag) : Prop extends SaysE file fa fn er [] ex h K where
  su : ∀ d ∈ su, fnE K d.x = d.val
  ts : ∀ t ∈ ts, ∃ es n, KDict K w (ga K t.1) es n
theorem saysF_of {file : Str} {n : Nat} {fa : List Fa} {fn : List DefD} {er su : List ErrD} {ts : List (Str × List Str)} {ex : PySem.W.Frag → Bool} {w : World} {h : Heap} (e : obsF file fa fn er su ts ex h.get? (frE h.get? n) = valF fn er su ts w) : SaysF file fa fn er su ts ex w h (frE h.get? n) := by
  have e1 : obsE file fa fn er [] ex h.get? (frE h.get? n) = valE fn er := congrArg (fun z : AlF => z.1) e
  have e2 : su.map (fun d => fnE (frE h.get? n) d.x) = su.map ErrD.val := congrArg (fun z : AlF => z.2.1) e
  have e3 : ts.map (fun t => dicW (frE h.get? n) (ga (frE h.get? n) t.1)) = ts.map fun t => some (keysIn w.params t.2) := congrArg (fun z : AlF => z.2.2) e
  exact ⟨saysE_of e1, fun d hd => map_at e2 d hd, fun t ht => dicW_ok (map_at e3 t ht)⟩
def hookF (file : Str) (n : Nat) (fa : List Fa) (fn : List DefD) (er su : List ErrD) (ts : List (Str × List Str)) (ex : PySem.W.Frag → Bool) : PySem.W.Hook where
  α := AlF
  obs := fun s => obsF file fa fn er su ts ex s.heap.get? (frE s.heap.get? n)
  val := fun w => valF fn er su ts w
  says := fun w h => ∃ K : PySem.W.Frag, K.In h ∧ SaysF file fa fn er su ts ex w h K
  of := fun _ _ e => ⟨_, frT_in, saysF_of e⟩
  keeps := fun _ _ _ ⟨K, hK, c⟩ k => ⟨K, PySem.W.Frag.In.keeps hK k, ⟨⟨c.fa, c.fn, c.er, c.more, c.hd, c.out, fun p hp => nomatch hp⟩, c.su, c.ts⟩⟩
theorem obsF_eq {file : Str} {n : Nat} {fa : List Fa} {fn : List DefD} {er su : List ErrD} {ts : List (Str × List Str)} {ex : PySem.W.Frag → Bool} {g : Addr → Option Obj} {s : Shared} (h : ∀ a, g a = s.heap.get? a) : obsF file fa fn er su ts ex g (frE g n) = (hookF file n fa fn er su ts ex).obs s := by
  have e : g = s.heap.get? := funext h
  rw [e] <;> rfl
/-! ### tables -/
def strTB (K : PySem.W.Frag) (a : Addr) (zs : List Str) : Bool := match K.lookup a with
  | some ⟨.type c, _, .seq its _, _⟩ => decide (c = "tuple") && (decide (its.size ≤ sizeLine) && relAll (zs.map V.str) its.toList)
  | _ => false
theorem strTB_ok {K : PySem.W.Frag} {a : Addr} {zs : List Str} (h : strTB K a zs = true) (H : Hp) : SqT K H a (zs.map V.str) := by
  unfold strTB at h
  cases q : K.lookup a with
  | none => rw [q] at h; cases h
  | some o =>
    obtain ⟨oc, od, dt, osl⟩ := o
    rw [q] at h
    cases oc with
    | type c =>
      cases dt with
      | seq its n =>
        obtain ⟨h1, h2⟩ := ba (show (decide (c = "tuple") && (decide (its.size ≤ sizeLine) && relAll (zs.map V.str) its.toList)) = true from h)
        obtain ⟨h3, h4⟩ := ba h2
        exact .inr ⟨_, its, n, q, congrArg Value.type (of_decide_eq_true h1), rfl, of_decide_eq_true h3, relAll_ok h4⟩
      | _ => cases h
    | _ => cases dt <;> cases h
def tvAd (K : PySem.W.Frag) (x k : Str) : Addr := match PySem.W.nsIn K (ga K x) k with
  | some (some (.ref a)) => a
  | _ => 0
/-- x[k] is the tuple of texts zs -/
def tvB (K : PySem.W.Frag) (x k : Str) (zs : List Str) : Bool := eqO (PySem.W.nsIn K (ga K x) k) (some (some (.ref (tvAd K x k)))) && strTB K (tvAd K x k) zs
theorem tvB_ok {K : PySem.W.Frag} {w : World} {x k : Str} {zs : List Str} (D : ∃ es n, KDict K w (ga K x) es n) (h : tvB K x k zs = true) : ∃ a, KDct K w (ga K x) k (.ref a) ∧ ∀ H, SqT K H a (zs.map V.str) := by
  obtain ⟨h1, h2⟩ := ba h
  obtain ⟨es, n, d⟩ := D
  exact ⟨_, ⟨es, n, _, d.at_, d.lit, eqO_ok h1, rfl⟩, strTB_ok h2⟩
/-! ### super().__init__ of an own class -/
def sinB (K : PySem.W.Frag) (C fI : Addr) (file q : Str) : Bool := match K.lookup fI with
  | some ⟨_, _, .func fd, _⟩ => (match fd.code, fd.closure, fd.defaults, fd.kwdefaults with
    | .ref cda, [(cn, cc)], .none, .none => decide (cn = "__class__") && (fd.annotations.isNone && (PySem.W.codeIn K (.ref cda) q && (fileB K cda file && cellB K cc C)))
    | _, _, _, _ => false)
  | _ => false
def supL (K : PySem.W.Frag) (file x y q : Str) : List Bool := [
  sinB K (ga K x) (iAd K x) file q,
  (PySem.W.clsIn K (ga K x)).isSome,
  okO (PySem.W.mroIn K (ga K x) (.ref (ga K x))) (some true),
  eqO (PySem.W.ks_superIn K (ga K x) (ga K x) "__init__") (some (some (.ref (iAd K y)))),
  okV (PySem.W.typeIn K (.ref (iAd K y))) (some (.type "function")),
  PySem.W.fnIn K (iAd K y),
  eqO (PySem.W.nsIn K cStatics "thirdparty.any") (some none),
  eqO (PySem.W.nsIn K mainGlobals "super") (some none)]
def supB (K : PySem.W.Frag) (file x y q : Str) : Bool := (supL K file x y q).all id
/-- what the text says of such an __init__ -/
structure SupS (prog : Program) (q : Str) (st : Stmt) (N ps : List Str) : Prop where
  topN : (prog.main.scope.names.lookup ("super" : Str)).isSome = false
  sc : NdefX.NScope N ps ["__class__"] (defScope st)
  ksup : (defScope st).names.lookup ("super" : Str) = some .globalImplicit
  self : ps[0]? = some ("self" : Str) ∧ ∃ ar, ((defArgs st).posonlyargs ++ (defArgs st).args).head? = some ar ∧ ar.arg = "self"
  body : ∃ p0 p1 p2 p4 p5, defBody st = SupX.supCall (SupX.supE st :: SupX.supEs st) p0 p1 p2 p4 p5 :: SupX.supR st ∧ ∀ env, (∃ pl, eval (.Call (.Attribute (.Call (.Name "super" p0) [] [] p1) "__init__" p2) (SupX.supE st :: SupX.supEs st) [] p4) env = (do
      let ov ← attributeBase (.Call (.Name "super" p0) [] [] p1) "__init__" env (eval (.Call (.Name "super" p0) [] [] p1) env)
      standAt p2.atName
      let (f, first) ← holding [ov] (getMethod ov "__init__" pl)
      callWith p4 f first (backTo p4 (starEach (SupX.supE st :: SupX.supEs st) env)) [])) ∧ starEach (SupX.supE st :: SupX.supEs st) env = (false, eval (SupX.supE st) env) :: starEach (SupX.supEs st) env ∧ (backTo p4 (starEach (SupX.supEs st) env)).any (·.1) = false
  bind : ∀ (cc c : Addr) (doc pm ctv : Value) (us : List Value), us.length = ps.length → bindArgs ((SupX.nfOf q st cc c).fd doc pm ctv) ⟨us, []⟩ = pure (ps.zip us)
theorem supD_of {prog : Program} {K : PySem.W.Frag} {x y q q0 : Str} {st s0 : Stmt} {N ps : List Str} {fd0 : FuncData} (h : supB K prog.main.file x y q = true) (e : fnE K x = (some ((("__init__" : String) : Str), q, defArgs st, FuncBody.stmts (defBody st), defScope st, mainGlobals, builtinsNs) : FnE)) (S : SupS prog q st N ps) (M : Mk K (ga K x) (iAd K x))
    (F0 : FunD K "__init__" q0 (defArgs s0) (defBody s0) (defScope s0) [] [] (iAd K y) fd0) : SupX.SupD prog K x q q0 st s0 N ps := by
  have h0 : sinB K (ga K x) (iAd K x) prog.main.file q = true := all_at h 0
  unfold sinB at h0
  unfold fnE at e
  cases z : K.lookup (iAd K x) with
  | none => rw [z] at h0; cases h0
  | some o =>
    obtain ⟨oc, od, dt, osl⟩ := o
    rw [z] at h0 e
    cases dt with
    | func fd =>
      obtain ⟨n1, n2, n3, n4, n5, n6, n7, n8, n9, n10, n11, n12, n13, n14, n15⟩ := fd
      have e2 : (some (n1, n2, n3, n4, n5, n6, n15) : FnE) = (some (Str.ofString "__init__", q, defArgs st, .stmts (defBody st), defScope st, mainGlobals, builtinsNs) : FnE) := e
      simp only [Option.some.injEq, Prod.mk.injEq] at e2
      obtain ⟨h1, h2, h3, h4, h5, h6, h8⟩ := e2
      subst h1 h2 h3 h4 h5 h6 h8
      cases n13 with
      | ref cda =>
        cases n7 with
        | nil => cases h0
        | cons c7 r7 =>
          obtain ⟨cn, cc⟩ := c7
          cases r7 with
          | cons _ _ => cases h0
          | nil =>
            cases n8 with
            | none =>
              cases n9 with
              | none =>
                have h17 : (decide (cn = "__class__") && (n12.isNone && (PySem.W.codeIn K (.ref cda) n2 && (fileB K cda prog.main.file && cellB K cc (ga K x))))) = true := h0
                obtain ⟨a1, a⟩ := ba h17
                obtain ⟨a5, a⟩ := ba a
                obtain ⟨a2, a⟩ := ba a
                obtain ⟨a3, a4⟩ := ba a
                have a1 := of_decide_eq_true a1
                subst a1
                cases n12 with
                | some _ => cases a5
                | none =>
                  unfold fileB at a3
                  unfold cellB at a4
                  split at a3
                  · rename_i ccl cdd vs ccs q1
                    split at a3
                    · rename_i f tf q2
                      split at a4
                      · rename_i cl cld C' csl q3
                        have a4 := of_decide_eq_true a4
                        subst a4
                        refine ⟨iAd K y, fd0, iAd K x, cc, cda, ?_, M, F0⟩
                        exact {
                          fn := ⟨oc, od, osl, n10, n11, n14, z⟩
                          cd := a2
                          file := ⟨ccl, cdd, vs, ccs, f, tf, q1, q2, a3⟩
                          cell := ⟨cc, cl, cld, csl, rfl, q3⟩
                          cls := Option.isSome_iff_exists.mp (all_at h 1)
                          own := of_decide_eq_true (all_at h 2)
                          sup := eqO_ok (all_at h 3)
                          fun0 := of_decide_eq_true (all_at h 4)
                          fn0 := all_at h 5
                          opq := eqO_ok (all_at h 6)
                          gsup := eqO_ok (all_at h 7)
                          topN := S.topN
                          sc := S.sc
                          ksup := S.ksup
                          self := S.self
                          body := S.body
                          bind := S.bind cc cda }
                      · cases a4
                    · cases a3
                  · cases a3
              | _ => cases h0
            | _ => cases h0
      | _ => cases h0
    | _ => cases h0
end HeE


set_option Elab.async false
set_option linter.all false
set_option maxRecDepth 100000
set_option maxHeartbeats 4000000
/-! attributes as targets; dicts with None among what is asked; sorted of (int, text); rules with a token out -/
namespace L2
open PySem PySem.Spec PyProof.Rows
section
variable {X : Cx} {o e f i : Expr} {apos cpos pos : Pos} {td ty tx ta : TE}
/-- e.f as a target -/
def gFld (K : PySem.W.Frag) (ta : TE) (f : Str) : TG := fun v σ H Q => ta σ H fun x H1 => ∃ a C dx fs, x = .ref a ∧ H1 a = some (.ins C dx fs) ∧ Cls K C ∧ NoAttr K C f ∧ fs.length < 1000 ∧ Q σ (upd H1 a (.ins C dx (putF f v fs)))
theorem pg_fld {f : Str} (ho : PE X o ta) : PG X (.Attribute o f pos) (gFld X.K ta f) := by
  refine ⟨fun pins s σ H v u Q I r h => ?_⟩
  rw [assign_Attribute]
  refine wpAny_bind (wpAny_holding (thn (ho.run pins s σ H _ I h) fun ov s1 ⟨x, H1, I1, r1, a, C, dx, fs, ex, ea, c, n, l, q⟩ => ?_))
  subst ex
  obtain rfl : ov = Value.ref a := r1
  refine wpAny_bind (wpAny_standAt (wpAny_bind (wpAny_holding (setattr_ok I1 ea c n l r fun s3 I3 => ?_))))
  exact wpAny_release ⟨σ, _, I3, q⟩
/-- d[k], d.get(k) -/
def tDGetN (P : Program) (w : World) (td ty : TE) : TE := fun z H Q => td z H fun x H1 => ty z H1 fun y H2 => ∃ a kvs k v, x = .ref a ∧ H2 a = some (dN P w a kvs) ∧ y = nV k ∧ valV kvs k = some v ∧ Q v H2
theorem pe_dgetN (hu : X.A.units + 1 < cLine) (ho : PE X o td) (hi : PE X i ty) (hs : NoSl i) : PE X (.Subscript o i pos) (tDGetN X.prog X.w td ty) := by
  refine ⟨fun pins s σ H Q I h => ?_⟩
  refine subD_of PySem.F.slot_dict_getitem.lookup hs (thn (ho.run pins s σ H _ I h) fun u s1 ⟨x, H1, I1, rx, q1⟩ => thn (hi.run pins s1 σ H1 _ I1 q1) fun iv s2 ⟨y, H2, I2, ry, a, kvs, k, v, ex, d, ey, l, q2⟩ => ?_)
  subst ex ey
  obtain rfl : u = Value.ref a := rx
  obtain ⟨_, hd, vs, rel, dd⟩ := dN_at I2.hok d
  obtain ⟨w', hw, rw'⟩ := RelO.some_of (v := v) (o := valueAt vs k) (by rw [← l]; exact rel.val k)
  exact ⟨dd.typeIs, wpAny_getItem_of (nV_is ry) dd.mapOf hw ⟨v, H2, I2.tok _, rw', q2⟩⟩
def tDGet1N (P : Program) (w : World) (td ty : TE) : TE := fun z H Q => td z H fun x H1 => ∃ a kvs, x = .ref a ∧ H1 a = some (dN P w a kvs) ∧ ty z H1 fun y H2 => ∃ kvs' k, H2 a = some (dN P w a kvs') ∧ y = nV k ∧ Q ((valV kvs' k).getD .non) H2
theorem pe_dget1N (ho : PE X o td) (he : PE X e ty) (m : M1 X o "get" apos e cpos) : PE X (.Call (.Attribute o "get" apos) [e] [] cpos) (tDGet1N X.prog X.w td ty) := by
  refine ⟨fun pins s z H Q I h => ?_⟩
  refine wpAny_Call_method m.base m.few m.line PySem.F.plainAttrs_dict PySem.F.slot_dict_get PySem.F.type_dict_get (thn (ho.run pins s z H _ I h) fun u s1 ⟨x, H1, I1, rx, a, kvs, ex, d, q1⟩ => ?_)
  subst ex
  obtain rfl : u = Value.ref a := rx
  obtain ⟨_, hd, vs, rel, dd⟩ := dN_at I1.hok d
  refine ⟨dd.typeIs, fun b q => ?_, ?_⟩
  · cases q
    obtain ⟨ob, _, _, h1, h2, _⟩ := dd
    exact ⟨ob, h1, h2.2.1⟩
  rw [m.trees]
  refine Calls.callWith_builtin rfl (Calls.evalArgs_plain (Calls.spliced_cons (thn (he.run pins s1 z H1 _ I1 q1) fun iv s2 ⟨y, H2, I2, ry, kvs', k, e3, ey, q3⟩ => Calls.spliced_nil ?_)))
  subst ey
  obtain ⟨_, hd', vs', rel', dd'⟩ := dN_at I2.hok e3
  have rn : RelV V.non Value.none := rfl
  exact call_meetsIn PySem.F.slot_dict_get dd'.typeIs PySem.F.entry_dict_get (PySem.F.args_dict_get_2 _ _) (meets_dict_get (noneKind X.prog X.w) a (nV_is ry) hd') ⟨_, dd'.mapOf, ⟨_, H2, I2.tok _, (rel'.val k).getD rn, q3⟩⟩
end
end L2


set_option Elab.async false
set_option linter.all false
set_option maxRecDepth 100000
set_option maxHeartbeats 4000000
/-! rules with a token out -/
namespace L2
open PySem PySem.Spec PyProof.Rows CwR
section
variable {X : Cx} {e : Expr} {te : TE} {pos : Pos}
/-- name = value -/
theorem pst_set {i : Nat} {x : Str} {pos' : Pos} (hN : X.N.Nodup) (hi : X.N[i]? = some x) (hx : Loc X.env.scope x) (he : PET X e te) (hs : swapsWith e (some (.Name x pos')) pos.line X.env = pure false := by rfl) (hf : X.fn x = true ∨ X.env.scope.names.lookup x = some .local := by first | exact .inl rfl | exact .inr rfl) :
    PST X (.Assign [.Name x pos'] e pos) (tAsg te (gName i)) := by
  intro pins s σ H D h0 I h
  refine wpAny_Assign_Name (thn (he pins s σ H _ h0 I h) fun v s1 ⟨y, H1, I1, r1, q1⟩ => ?_) hs
  exact store_ok I1 hN hi hx r1 (fun s2 I2 => ⟨_, H1, I2, q1⟩) hf
/-- name = a text, ahead of the rest: then a token is out -/
theorem pss_strT {i : Nat} {x z : Str} {j : Nat} {pos' cp : Pos} {rest : List Stmt} {u : TS} (hN : X.N.Nodup) (hi : X.N[i]? = some x) (hx : Loc X.env.scope x) (h : PSsT X rest u) (hs : swapsWith (.Constant (.str z) j cp) (some (.Name x pos')) pos.line X.env = pure false := by rfl) (hf : X.fn x = true ∨ X.env.scope.names.lookup x = some .local := by first | exact .inl rfl | exact .inr rfl) :
    PSs X (.Assign [.Name x pos'] (.Constant (.str z) j cp) pos :: rest) (tSeq (tAsg (tC (.str z)) (gName i)) u) := by
  refine ⟨fun pins s σ H D I hq => ?_⟩
  have hq' : tAsg (tC (.str z)) (gName i) { nx := u D, rt := D.rt, bk := D.bk, ct := D.ct } σ H := hq
  refine wpAny_execs_cons ?_
  refine wpAny_Assign_Name (Calls.Constant_str ?_) hs
  refine wpAny_mono (PySem.wpAny_toks_of (n := 1) (by show 1 ≤ s.toks + 1; omega) (store_ok (v := V.str z) (Q := fun _ s2 => Inv X pins (σ.set i (some (V.str z))) H s2) (I.tok _) hN hi hx ⟨_, rfl⟩ (fun s2 I2 => I2) hf)) (fun _ s2 q => ?_) fun _ _ z => z.2
  exact h pins s2 _ H D q.1 q.2 hq'
theorem pet_tup {es : List Expr} {ta : TA} {x1} (h : PAT X es ta) : PET X (.Tuple es x1 pos) (tTup ta) := by
  intro pins s σ H Q h0 I hq
  refine wpAny_Tuple_spliced (thn (h pos pins s σ H _ h0 I hq) fun us s1 ⟨xs, H1, I1, r, z, q⟩ => ⟨by rw [← r.length]; exact z, ?_⟩)
  have hf : H1 s1.heap.objs.size = none := I1.hok.fresh (Nat.le_refl _)
  refine ⟨.ref s1.heap.objs.size, upd H1 s1.heap.objs.size (.tup xs), I1.laid (t' := s1.toks) (fun b u e => Heap.get?_push_of_some _ e) (Nat.le_refl _) ?_, rfl, q _ hf⟩
  exact ⟨z, us, r, ⟨_, Heap.get?_push_size _ rfl, rfl, _, rfl⟩⟩
theorem pst_expr (he : PET X e te) (hs : swapsWith e none pos.line X.env = pure false := by rfl) : PST X (.Expr e pos) (tDrop te) := by
  intro pins s σ H D h0 I h
  exact wpAny_Expr_any (thn (he pins s σ H _ h0 I h) fun v s1 ⟨x, H1, I1, r1, q1⟩ => ⟨σ, H1, I1, q1⟩) I.quiet hs
theorem pet_bm {T name id : String} {r : V → List V → Hp → VK → Prop} {o e : Expr} {es : List Expr} {to : TE} {t : TA} {apos cpos : Pos} (pa : PlainAttrs T) (slot : Slot T name id) (hty : typeOf (.builtin id) = pure (.type "method_descriptor")) (hm : MtR X id r) (ho : PE X o to) (ha : PAT X (e :: es) t)
    (hbase : attributeBase o name X.env (eval o X.env) = eval o X.env := by rfl)
    (hfew : ((backTo cpos (starEach (e :: es) X.env)).all (fun x => !x.1) && (backToKw cpos (keywordEach [] X.env)).all (fun x => x.1.isSome)
      && decide ((e :: es).length + ([] : List Keyword).length + (if ([] : List Keyword).isEmpty then 0 else 1) < 30)) = true := by rfl)
    (hline : (apos.endLine == cpos.line) = true := by rfl) (hs : starEach (e :: es) X.env = (false, eval e X.env) :: starEach es X.env := by rfl) (hplain : (backTo cpos (starEach es X.env)).any (·.1) = false := by rfl) :
    PET X (.Call (.Attribute o name apos) (e :: es) [] cpos) (tBM X.K T r to t) := by
  intro pins s σ H Q h0 I h
  refine wpAny_Call_method_late hbase hfew hline rfl (wpAny_mono (PySem.wpAny_toks_of h0 (ho.run pins s σ H _ I h)) (fun v s1 ⟨h1, x, H1, I1, r1, ty, q1⟩ => ?_) fun _ _ z => z.2)
  obtain ⟨h3, h2⟩ := tyV_is I1 r1 ty
  refine ⟨T, id, pa, slot, hty, h3, h2, ?_⟩
  have hA := ha cpos pins s1 σ H1 _ h1 I1 q1
  rw [hs] at hA ⊢
  refine Calls.callWith_builtin (by show (false || (backTo cpos (starEach es X.env)).any (·.1)) = false; rw [hplain] <;> rfl) (Calls.evalArgs_plain ?_)
  exact thn hA fun us s2 ⟨vs, H2, I2, r2, q2⟩ => hm pins s2 σ H2 x vs v us Q I2 r1 r2 q2
end
section
variable {X : Cx} {CX : CXT} {k : Nat} {C : Addr} {ps : List Str} {sp : Sp} {E : XK} {x : Str}
/-- C(e, ..), a token out -/
theorem pet_makeX {p pos : Pos} {e : Expr} {es : List Expr} {t : TA} (F : MkX X.prog X.w X.K X.mg X.base CX k x C ps [] sp) (hr : Room (k + 1) X.A) (hx : Passes CX X E) (ha : PAT X (e :: es) t) (hg : Gl X x := by rfl) (hdb : (x == ("__debug__" : Str)) = false := by decide)
    (he : starEach (e :: es) X.env = (false, eval e X.env) :: starEach es X.env := by rfl) (hpl : (backTo pos (starEach es X.env)).any (·.1) = false := by rfl) : PET X (.Call (.Name x p) (e :: es) [] pos) (tMake C sp [] E t) := by
  obtain ⟨f, fd, dvs, hm, M, b, vd, G⟩ := F.ex
  cases vd
  intro pins s z H Q h0 I h
  refine wpAny_Call_Name_kw (ld_glob I hg hm ?_ hdb)
  refine PySem.W.callWith_K (h₀ := X.base) I.ok.mod.kin M.kp (thn (ha pos pins s z H _ h0 I h) fun us s1 hh => ?_) he hpl
  obtain ⟨vs, H1, I1, r, q⟩ := hh
  refine ⟨I1.kIn, ?_⟩
  have q2 := q (s1.heap.objs.size + 1) s1.heap.objs.size (I1.hok.fresh (Nat.le_succ _)) (I1.hok.fresh (Nat.le_refl _)) (Nat.ne_of_lt (Nat.lt_succ_self _))
  have J := Inv.made (C := C) I1
  have r2 : Vals (V.ref (s1.heap.objs.size + 1) :: vs) (Value.ref (s1.heap.objs.size + 1) :: us) := .cons rfl r
  have q3 := q2
  rw [List.append_nil] at q3
  have hl : (Value.ref (s1.heap.objs.size + 1) :: us).length = ps.length := by
    have e1 := r2.length
    rw [G.len _ _ _ _ q3] at e1
    exact e1.symm
  have b2 := b _ (Value.ref (s1.heap.objs.size + 1) :: us) J.kIn (by rw [List.append_nil]; exact hl)
  rw [List.append_nil] at b2
  refine wpAny_call (make_map (f := f) I1.kIn M.makes M.init (beq_iff_eq.mp M.fn) (codeAny_mono (G.run _ X.stack _ _ ⟨Value.ref (s1.heap.objs.size + 1) :: us, []⟩ (Value.ref (s1.heap.objs.size + 1) :: us) _ _ E (hr.make C us []) (J.env0.make C us []) b2 r2 q3) fun r9 s9 h9 => ?_))
  cases r9 with
  | error e9 => exact hx pins _ _ _ e9 s9 J h9
  | ok fl =>
    cases fl with
    | ret u =>
      obtain ⟨v, H', I3, rv, ev, q3⟩ := J.after h9
      subst ev
      exact ⟨rv, V.ref (s1.heap.objs.size + 1), H', I3, rfl, q3⟩
    | next => exact False.elim h9
    | brk => exact False.elim h9
    | cont => exact False.elim h9
end
section
variable {X : Cx} {tg iter : Expr} {body : List Stmt} {wi : TI} {g : TG} {tb : TS} {pos : Pos}
/-- an iterable that leaves a token out -/
def PI1 (X : Cx) (tg iter : Expr) (wi : TI) : Prop := ∀ (pins : List (Addr × Obj)) (s : Shared) (σ : St) (H : Hp) (R : It → Hp → Prop), Inv X pins σ H s → wi σ H R →
    wpAny (model X.prog X.w) X.A (eval iter X.env) (fun v s1 => 1 ≤ s1.toks ∧ wpAny (model X.prog X.w) X.A (pyIter v) (PIE X pins σ tg R) X.xe s1) X.xe s
theorem pi1_range {n : Int} {j : Nat} {cp p pos : Pos} (hg : Gl X "range") (hm : X.mg "range" = none) (hs : starEach [.Constant (.int n) j cp] X.env = [(false, eval (.Constant (.int n) j cp) X.env)] := by rfl) : PI1 X tg (.Call (.Name "range" p) [.Constant (.int n) j cp] [] pos) (iRng1 (tCons (tC (.int n)) tNil)) := by
  intro pins s σ H R I h
  obtain ⟨m, e, q1, q2, q⟩ := h
  cases e
  refine Call_ (ld_blt I hg hm boot_range (PyProof.Rows.callWith_type1 ?_ hs rfl))
  rw [hs]
  refine Calls.spliced_cons (wpAny_Constant_int (k := j) (pos := cp) (Calls.spliced_nil ?_))
  exact wpAny_mono (PySem.wpAny_toks_of (n := 1) (s := { s with toks := s.toks + 1 }) (by show 1 ≤ s.toks + 1; omega) (call_range_1 (range_it (I.tok _) (by omega) (by omega) q1 q2 (by simpa using q)))) (fun _ _ q => q) fun _ _ z => z.2
/-- for, a token out in the body -/
theorem forT_core {pins : List (Addr × Obj)} {s : Shared} {σ : St} {D : Ends} (hp : PassesOwn (model X.prog X.w) X.A X.env X.xe) (hc : X.calm = true) (hg : PG X tg g) (hb : PSsT X body tb) (hs : ∀ x, foldedSetIterable iter X.env x = pure x)
    (hi : wpAny (model X.prog X.w) X.A (eval iter X.env) (fun v s1 => 1 ≤ s1.toks ∧ wpAny (model X.prog X.w) X.A (pyIter v) (PIE X pins σ tg fun J H1 => ∃ W : Nat → Nat → St → Hp → Prop, (∃ m, W 0 m σ H1) ∧ ∀ i m σ H, W i m σ H → (J.stop i H ∧ D.nx σ H) ∨ (J.go i H ∧ ∃ N : St → Hp → Prop, (∀ σ' H', N σ' H' → ∃ m', m' < m ∧ W (i + 1) m' σ' H') ∧ ∀ x H', J.yld i H x H' → g x σ H' fun σ2 H2 => tb { nx := N, rt := D.rt, bk := D.nx, ct := N } σ2 H2)) X.xe s1) X.xe s) :
    wpAny (model X.prog X.w) X.A (exec (.For tg iter body [] pos) X.env) (fun f s' => SP X pins D f s') X.xe s := by
  refine wpAny_For (thn hi fun v s1 h1 => wpAny_mono (PySem.wpAny_toks_of h1.1 h1.2) (fun itv s2 h2 => ?_) fun _ _ z => z.2) hs
  obtain ⟨t2, it, fp, tn, J, H2, e, I2, T, st2, f2, W, ⟨m0, w0⟩, turn⟩ := h2
  subst e
  have stat : ∀ {H' : Hp}, (∀ b ∈ fp, H' b = none) → ∀ b ∈ fp, FpOk X pins H' b := fun hn b hb => ⟨hn b hb, (f2 b hb).2⟩
  refine codeAny_forLoop_any (fun n s' => 1 ≤ s'.toks ∧ ∃ i σ' H', Inv X pins σ' H' s' ∧ tn i s'.heap ∧ (∀ b ∈ fp, H' b = none) ∧ W i n σ' H') ?_ m0 ⟨t2, 0, σ, H2, I2, st2, fun b hb => (f2 b hb).1, w0⟩
  rintro n s3 ⟨t3, i, σ3, H3, I3, st3, fr3, w3⟩
  rcases turn i n σ3 H3 w3 with ⟨stop, qn⟩ | ⟨go, N, hN, step⟩
  · refine wpAny_passesOwn hp (thn (T.done X rfl rfl rfl hc i pins s3 σ3 H3 X.xe I3 (stat fr3) st3 stop) fun r s4 ⟨hr, I4⟩ => ?_)
    subst hr
    exact wpAny_execs_nil ⟨σ3, H3, I4, qn⟩
  · refine wpAny_passesOwn hp (wpAny_mono (PySem.wpAny_toks_of t3 (T.item X rfl rfl rfl hc i pins s3 σ3 H3 X.xe I3 (stat fr3) st3 go)) (fun r s4 ⟨t4, u, hr, h4⟩ => ?_) fun _ _ z => z.2)
    subst hr
    refine wpAny_passesOwn hp (wpAny_mono (PySem.wpAny_toks_of t4 h4) (fun _ s5 ⟨t5, x, H5, I5, r5, y5, st5, fr5⟩ => ?_) fun _ _ z => z.2)
    have I5' := I5.pinned (stat fr5) (T.obj _ _ st5)
    refine wpAny_passesOwn hp (wpAny_mono (PySem.wpAny_toks_of t5 (hg.run _ s5 σ3 H5 x u _ I5' r5 (step x H5 y5))) (fun _ s6 ⟨t6, σ6, H6, I6, q6⟩ => ?_) fun _ _ z => z.2)
    refine wpAny_passesOwn hp (wpAny_mono (PySem.wpAny_toks_of t6 (hb _ s6 σ6 H6 _ t6 I6 q6)) (fun f s7 ⟨t7, q7⟩ => ?_) fun _ _ z => z.2)
    have again : ∀ {σ7 : St} {H7 : Hp}, Inv X (pins ++ pinsAt fp s5.heap) σ7 H7 s7 → N σ7 H7 → ∃ m, m < n ∧ 1 ≤ s7.toks ∧ ∃ i σ' H', Inv X pins σ' H' s7 ∧ tn i s7.heap ∧ (∀ b ∈ fp, H' b = none) ∧ W i m σ' H' := fun {σ7 H7} I7 n7 => by
      obtain ⟨m', hm, w7⟩ := hN σ7 H7 n7
      refine ⟨m', hm, t7, i + 1, σ7, H7, I7.unpinned, T.keep _ _ _ st5 fun b hb o e => (I7.pin (b, o) (List.mem_append_right _ (List.mem_append_right _ (mem_pinsAt hb e)))).1, fun b hb => ?_, w7⟩
      obtain ⟨o, e, d⟩ := T.obj _ _ st5 b hb
      exact (I7.pin (b, o) (List.mem_append_right _ (List.mem_append_right _ (mem_pinsAt hb e)))).2.1
    cases f with
    | next => obtain ⟨σ7, H7, I7, n7⟩ := q7; exact again I7 n7
    | cont => obtain ⟨σ7, H7, I7, n7⟩ := q7; exact again I7 n7
    | brk => obtain ⟨σ7, H7, I7, q7⟩ := q7; exact ⟨σ7, H7, I7.unpinned, q7⟩
    | ret v => obtain ⟨x7, σ7, H7, I7, r7, q7⟩ := q7; exact ⟨x7, σ7, H7, I7.unpinned, r7, q7⟩
theorem ps_for1 (hp : PassesOwn (model X.prog X.w) X.A X.env X.xe) (hc : X.calm = true) (hi : PI1 X tg iter wi) (hg : PG X tg g) (hb : PSsT X body tb) (hs : ∀ x, foldedSetIterable iter X.env x = pure x := by intro _; rfl) : PS X (.For tg iter body [] pos) (tFor wi g tb) :=
  ⟨fun pins s σ H D I h => forT_core hp hc hg hb hs (hi pins s σ H _ I h)⟩
theorem pst_forT (hp : PassesOwn (model X.prog X.w) X.A X.env X.xe) (hc : X.calm = true) (hi : PI X tg iter wi) (hg : PG X tg g) (hb : PSsT X body tb) (hs : ∀ x, foldedSetIterable iter X.env x = pure x := by intro _; rfl) : PST X (.For tg iter body [] pos) (tFor wi g tb) :=
  fun pins s σ H D h0 I h => forT_core hp hc hg hb hs (PySem.wpAny_mono (PySem.wpAny_toks_of h0 (hi.run pins s σ H _ I h)) (fun _ _ q => q) fun _ _ z => z.2)
end
end L2


set_option Elab.async false
set_option linter.all false
set_option maxRecDepth 100000
set_option maxHeartbeats 4000000
/-! a list == [], a list != [], whatever lies in it -/
namespace L2
open PySem PySem.Spec PyProof.Rows
def rNil (K : PySem.W.Frag) (f : Bool → Bool) : R2 := fun x y H Q => ∃ a b xs, x = .ref a ∧ y = .ref b ∧ SqL K H a xs ∧ SqL K H b [] ∧ Q (.bl (f xs.isEmpty)) H
theorem op_eqNil {X : Cx} (hu : X.A.units + 1 < cLine) : OpR X (compareOp .Eq) (rNil X.K id) := by
  intro pins s σ H x y v u Q I rx ry h
  obtain ⟨a, b, xs, rfl, rfl, hx, hy, q⟩ := h
  cases rx
  cases ry
  obtain ⟨its, r, ht, hz⟩ := I.list hx
  obtain ⟨its2, r2, ht2, hz2⟩ := I.list hy
  have e1 := r.length
  have e2 := r2.length
  have hnil : its2 = [] := List.length_eq_zero_iff.mp (by simpa using e2.symm)
  subst hnil
  cases xs with
  | nil =>
    have : its = [] := List.length_eq_zero_iff.mp (by simpa using e1.symm)
    subst this
    exact SeqAt.eq_listAt (e := fun _ => true) ht.isList ht2.isList rfl (by omega) (fun j h1 _ => absurd h1 (Nat.not_lt_zero _)) ⟨.bl true, H, I, rfl, q⟩
  | cons c cs =>
    refine SeqAt.eq_list_lengthsAt ht.isList ht2.isList ?_ (by omega) ⟨.bl false, H, I, rfl, q⟩
    rw [List.length_cons] at e1
    simp only [List.size_toArray, List.length_nil, bne_iff_ne, ne_eq]
    omega
theorem op_neNil {X : Cx} (hu : X.A.units + 1 < cLine) : OpR X (compareOp .NotEq) (rNil X.K not) := by
  intro pins s σ H x y v u Q I rx ry h
  obtain ⟨a, b, xs, rfl, rfl, hx, hy, q⟩ := h
  cases rx
  cases ry
  obtain ⟨its, r, ht, hz⟩ := I.list hx
  obtain ⟨its2, r2, ht2, hz2⟩ := I.list hy
  have e1 := r.length
  have e2 := r2.length
  have hnil : its2 = [] := List.length_eq_zero_iff.mp (by simpa using e2.symm)
  subst hnil
  cases xs with
  | nil =>
    have : its = [] := List.length_eq_zero_iff.mp (by simpa using e1.symm)
    subst this
    exact SeqAt.RcNeAt.lists (e := fun _ => true) ht.isList ht2.isList rfl (by omega) (fun j h1 _ => absurd h1 (Nat.not_lt_zero _)) _ _ _ _ ⟨.bl false, H, I, rfl, q⟩
  | cons c cs =>
    refine SeqAt.RcNeAt.lists_lengths ht.isList ht2.isList ?_ (by omega) _ _ _ _ ⟨.bl true, H, I, rfl, q⟩
    rw [List.length_cons] at e1
    simp only [List.size_toArray, List.length_nil, bne_iff_ne, ne_eq]
    omega
end L2


set_option Elab.async false
set_option linter.all false
set_option maxRecDepth 100000
set_option maxHeartbeats 4000000
/-! lambdas with parameters that capture names, kept in fields, called from afar -/
namespace LmX
open PySem PySem.Spec PyProof.Rows L2 LamX NdefX
/-- the object at f is a lambda: F its words, b its body -/
def FnL (f : Addr) (F : NF) (b : Expr) : HO := .ext fun h => ∃ (pm ctv : Value), h.get? f = some (PySem.W.kla_obj "<lambda>" F.qual F.params b F.scope F.cl pm F.c ctv)
theorem fnL_at {P : Program} {w : World} {H : Hp} {h : Heap} {f : Addr} {F : NF} {b : Expr} (hok : HOk P w H h) (e : H f = some (FnL f F b)) : ∃ (pm ctv : Value), h.get? f = some (PySem.W.kla_obj "<lambda>" F.qual F.params b F.scope F.cl pm F.c ctv) := by
  obtain ⟨z, _, _⟩ := hok f _ e
  exact z
section
variable {X : Cx} {pins : List (Addr × Obj)} {σ : L2.St} {H : Hp} {s : Shared}
/-- the lambda is made: its code object is new, or found in the table; the function is known from now on -/
theorem lam_make3 {T : List (Addr × Str)} {c P : Addr} {params : Arguments} {body : Expr} {scope : Scope} {pos : Pos} {E : Value → Shared → Prop} {Q : Value → Shared → Prop} (I : Inv X pins σ H s) (TB : TabB X.base X.mg c P) (hcode : X.env.code = .ref c)
    (hm : (P, X.env.qual ++ "<lambda>") ∈ T) (hu : ∀ p ∈ T, p.1 = P → p.2 = X.env.qual ++ "<lambda>") (hT : Tabs T H) (hdef : defaultsOf params X.env = ([], [])) (hfree : ∀ y ∈ scope.names, y.2 = .free → ∃ c, X.env.cells.lookup y.1 = some c)
    (h : ∀ (f c' : Addr) (H1 : Hp) (s' : Shared), Inv X pins σ H1 s' → ExtN H H1 → Tabs T H1 → H f = none →
      H1 f = some (FnL f ⟨"<lambda>", X.env.qual ++ "<lambda>", params, [], scope, cloFrom X.env.cells scope.names [], c'⟩ body) → H1 c' = some (CodeO c' (X.env.qual ++ "<lambda>")) → Q (.ref f) s') :
    wpAny (model X.prog X.w) X.A (eval (.Lambda params body scope pos) X.env) Q E s := by
  obtain ⟨ps, hP, ht, ha⟩ := hT _ hm
  refine PySem.W.kla_eval hdef ?_
  have bP : s.heap.BuiltinsAt X.mg P := TB.bm.keeps I.bk
  have hP' : s.heap.get? P = some { cls := .none, data := .fields ps } := I.hok P _ hP
  -- the function is known from now on
  have fin : ∀ (f c' : Addr) (pm ctv : Value) (H1 : Hp) (s' : Shared), Inv X pins σ H1 s' → ExtN H H1 → Tabs T H1 → s.heap.objs.size ≤ f →
      s'.heap.get? f = some (PySem.W.kla_obj "<lambda>" (X.env.qual ++ "<lambda>") params body scope (cloFrom X.env.cells scope.names []) pm c' ctv) → H1 f = none → H1 c' = some (CodeO c' (X.env.qual ++ "<lambda>")) → Q (.ref f) s' := by
    intro f c' pm ctv H1 s' I1 eN T1 hf ho n1 hc
    have I2 := I1.take (h' := s'.heap) (t' := s'.toks) (it := f) (o := FnL f ⟨"<lambda>", X.env.qual ++ "<lambda>", params, [], scope, cloFrom X.env.cells scope.names [], c'⟩ body) (fun b ob _ e => e) (I.fpOk hf n1)
      ⟨⟨pm, ctv, ho⟩, ⟨_, ho⟩, fun h1 h2 ⟨p, t, z⟩ st => ⟨p, t, st _ z⟩⟩
    have up : ∀ b o, H1 b = some o → upd H1 f (FnL f ⟨"<lambda>", X.env.qual ++ "<lambda>", params, [], scope, cloFrom X.env.cells scope.names [], c'⟩ body) b = some o := fun b o e => by
      rw [upd_ne (ne_of_none e n1)]; exact e
    exact h f c' _ s' I2 (eN.trans (ExtN.of up)) (T1.ext up) (I.hok.fresh hf) upd_same (up _ _ hc)
  cases hc : codeAmong pos ps.toList with
  | none =>
    refine PySem.W.kla_makeFunction (mg := X.mg) (c := c) (P := P) (ps := ps) (closure_ok hfree) I.ok.glob (I.mod.glob.keeps I.bk) hcode (TB.code.keeps I.bk) hP' ht hc TB.gP bP fun c' ctv h' tk hx hge hlt hrec htb => ?_
    obtain ⟨c2, oc, vs, t, e2, hoc, hd, hv⟩ := hrec
    cases e2
    have hsz : s.heap.objs.size ≤ h'.objs.size := Nat.le_trans hge (Nat.le_of_lt hlt)
    have nC : H c' = none := I.hok.fresh hge
    have I1 := inv_table (t' := tk) (more := #[rawInt pos.line, rawInt pos.col, .ref c']) (h' := h'.push (PySem.W.kla_obj "<lambda>" (X.env.qual ++ "<lambda>") params body scope (cloFrom X.env.cells scope.names []) ((X.mg "__name__").getD .none) c' ctv)) I hP
      (fun b o hb e => Heap.get?_push_of_some _ (hx b o hb e)) (Heap.get?_push_of_some _ htb) hge ⟨oc, vs, t, Heap.get?_push_of_some _ hoc, hd, hv⟩
    have hE : ExtN H (upd (upd H P (.tbl (ps ++ #[rawInt pos.line, rawInt pos.col, .ref c']))) c' (CodeO c' (X.env.qual ++ "<lambda>"))) := fun b o e n => by
      rw [upd_ne (ne_of_none e nC), upd_ne (fun z => n ps (Option.some.inj (e.symm.trans (by rw [z]; exact hP))))]
      exact e
    have eL : (ps ++ #[rawInt pos.line, rawInt pos.col, .ref c']).toList = ps.toList ++ [rawInt pos.line, rawInt pos.col, .ref c'] := by simp
    refine fin h'.objs.size c' ((X.mg "__name__").getD .none) ctv _ _ I1 hE (fun p hp => ?_) hsz (Heap.get?_push_size _ rfl) ?_ upd_same
    · by_cases hb : p.1 = P
      · rw [hu p hp hb, hb]
        refine ⟨_, by rw [upd_ne (ne_of_none hP nC), upd_same], by rw [eL]; exact PySem.TriplesOk_snoc _ _ _ _ ht, fun p' cv hcv => ?_⟩
        rw [eL] at hcv
        rcases among_app _ ht hcv with z | z
        · obtain ⟨c0, e1, e2⟩ := ha p' cv z
          exact ⟨c0, e1, hE _ _ e2 codeO_ne⟩
        · exact ⟨c', z, upd_same⟩
      · obtain ⟨ps', a1, a2, a3⟩ := hT p hp
        refine ⟨ps', by rw [upd_ne (ne_of_none a1 nC), upd_ne hb]; exact a1, a2, fun p' cv hcv => ?_⟩
        obtain ⟨c0, e1, e2⟩ := a3 p' cv hcv
        exact ⟨c0, e1, hE _ _ e2 codeO_ne⟩
    · have n1 : h'.objs.size ≠ c' := Nat.ne_of_gt hlt
      have n2 : h'.objs.size ≠ P := Nat.ne_of_gt (Nat.lt_of_lt_of_le (Heap.lt_size hP') hsz)
      rw [upd_ne n1, upd_ne n2]
      exact I.hok.fresh hsz
  | some cv =>
    obtain ⟨c', e, hco⟩ := ha pos cv hc
    subst e
    refine PySem.W.kla_makeFunctionHit (mg := X.mg) (c := c) (P := P) (ps := ps) (closure_ok hfree) I.ok.glob (I.mod.glob.keeps I.bk) hcode (TB.code.keeps I.bk) hP' ht hc bP fun ctv h' tk hx hsz => ?_
    have I1 : Inv X pins σ H { s with heap := h'.push (PySem.W.kla_obj "<lambda>" (X.env.qual ++ "<lambda>") params body scope (cloFrom X.env.cells scope.names []) ((X.mg "__name__").getD .none) c' ctv), toks := tk } := I.kept fun b o e => Heap.get?_push_of_some _ (hx b o e)
    exact fin h'.objs.size c' ((X.mg "__name__").getD .none) ctv H _ I1 (ExtN.refl H) hT hsz (Heap.get?_push_size _ rfl) (I.hok.fresh hsz) hco
end
/-- the reading of a lambda -/
def tLm (T : List (Addr × Str)) (mk : Addr → NF) (b : Expr) : TE := fun σ H Q => Tabs T H ∧ ∀ (f c' : Addr) (H1 : Hp), ExtN H H1 → Tabs T H1 → H f = none → H1 f = some (FnL f (mk c') b) → H1 c' = some (CodeO c' (mk c').qual) → Q (.ref f) H1
theorem pe_lam {X : Cx} {T : List (Addr × Str)} {c P : Addr} {params : Arguments} {body : Expr} {scope : Scope} {pos : Pos} (TB : TabB X.base X.mg c P) (hcode : X.env.code = .ref c) (hm : (P, X.env.qual ++ "<lambda>") ∈ T) (hu : ∀ p ∈ T, p.1 = P → p.2 = X.env.qual ++ "<lambda>")
    (hfree : ∀ y ∈ scope.names, y.2 = .free → X.env.scope.names.lookup y.1 = some .cell ∨ X.env.scope.names.lookup y.1 = some .free) (hdef : defaultsOf params X.env = ([], []) := by rfl) :
    PE X (.Lambda params body scope pos) (tLm T (fun c' => ⟨"<lambda>", X.env.qual ++ "<lambda>", params, [], scope, cloFrom X.env.cells scope.names [], c'⟩) body) := by
  refine ⟨fun pins s σ H Q I h => ?_⟩
  obtain ⟨hT, h⟩ := h
  have hfr : ∀ y ∈ scope.names, y.2 = .free → ∃ c, X.env.cells.lookup y.1 = some c := fun y hy e => (hfree y hy e).elim (fun z => I.ok.has _ (.inl z)) fun z => I.ok.has _ (.inr z)
  exact lam_make3 I TB hcode hm hu hT hdef hfr fun f c' H1 s' I1 eN T1 f0 f1 c1 => ⟨.ref f, H1, I1, rfl, h f c' H1 eN T1 f0 f1 c1⟩
/-- what a base tells of the captured cells, in every state over it -/
def BCell (base : Heap) (cl : List (Str × Addr)) (fr : List Str) (ws : List (Option V)) : Prop := ∀ (h : Heap) (H : Hp), (∀ b o, base.get? b = some o → h.get? b = some o ∧ H b = none) → CellsAt cl fr ws h H
/-- the promise of a lambda F at f, from wherever it is called -/
structure LOk (P : Program) (w : World) (K : PySem.W.Frag) (mg : Str → Option Value) (base : Heap) (k : Nat) (f : Addr) (F : NF) (b : Expr) (ps : List Str) (sp : Sp) : Prop where
  len : ∀ vs H Q E, sp vs H Q E → vs.length = ps.length
  run : ∀ (A : Around) (outer : List Env) (s : Shared) (H : Hp) (us : List Value) (vs : List V) (Q : VK) (E : XK), Room k A → Env0 P w K mg base A outer s H → H f = some (FnL f F b) → H F.c = some (CodeO F.c F.qual) →
    Vals vs us → sp vs H Q E → codeAny (model P w) A (.call (.ref f) ⟨us, []⟩) (CR C8.CX0 outer P w H s Q E) s
section
variable {P : Program} {w : World} {K : PySem.W.Frag} {mg : Str → Option Value} {base : Heap} {N ps fr : List Str} {F : NF} {b : Expr} {f : Addr} {k j : Nat} {sp : Sp} {ws : List (Option V)}
theorem LOk.mono (o : LOk P w K mg base j f F b ps sp) (h : j ≤ k) : LOk P w K mg base k f F b ps sp := ⟨o.len, fun A outer s H us vs Q E hr => o.run A outer s H us vs Q E (hr.mono h)⟩
/-- THE RULE: a lambda by its body -/
theorem lok_of (S : NScope N ps fr F.scope) (hb : ∀ (pm ctv : Value) (us : List Value), us.length = ps.length → bindArgs (PySem.W.kla_fn "<lambda>" F.qual F.params b F.scope F.cl pm (.ref F.c) ctv) ⟨us, []⟩ = pure (ps.zip us)) (len : ∀ vs H Q E, sp vs H Q E → vs.length = ps.length)
    (C : BCell base F.cl fr ws)
    (hbody : ∀ (A : Around) (outer : List Env) (s : Shared) (H : Hp) (vs : List V) (Q : VK) (E : XK), Room k (A.deeper (envF F f s.heap.objs.size)) → sp vs H Q E → ∃ t, PE (ncx C8.CX0 P w K mg base N F f A outer s H E) b t ∧ t (startF N vs ws) H Q) :
    LOk P w K mg base (k + 1) f F b ps sp := by
  refine ⟨len, fun A outer s H us vs Q E hr e0 hf hc r hsp => ?_⟩
  have hl := len _ _ _ _ hsp
  have lim : s.heap.NoLimit := e0.mod.nolimit.keeps fun b o e => (e0.bs b o e).1
  obtain ⟨pm, ctv, ho⟩ := fnL_at e0.hok hf
  refine PySem.W.kla_callFunE hr.depth ho rfl S.co S.gen rfl (codeO_at e0.hok hc) ?_
  show wpAny _ _ (bindArgs (PySem.W.kla_fn "<lambda>" F.qual F.params b F.scope F.cl pm (.ref F.c) ctv) ⟨us, []⟩) _ _ _
  rw [hb pm ctv us (by rw [← r.length]; exact hl)]
  refine wpAny_pure (wpAny_newFunctionEnv S.nocell (fun ⟨n, _⟩ hy => S.par n (List.of_mem_zip hy).1) (fun h₁ hns hsb => ⟨lim.fresh _ hsb, ?_⟩) S.kind)
  show codeAny _ _ (.expr b (envF F f s.heap.objs.size)) _ _
  have kp : ∀ b o, s.heap.get? b = some o → h₁.get? b = some o := fun b o e => hsb.extBut b o (Nat.ne_of_lt (Heap.lt_size e)) (Heap.get?_push_of_some _ e)
  obtain ⟨t, ht, hq⟩ := hbody A outer s H vs Q E (hr.deeper _) hsp
  have I : Inv (ncx C8.CX0 P w K mg base N F f A outer s H E) [] (startF N vs ws) H { s with heap := h₁, toks := s.toks + (ps.zip us).length } := inv_startN S hr.hd e0 hl r (C s.heap H e0.bs) hns kp
  refine PySem.W.kla_codeExpr (wpAny_mono (ht.run [] _ (startF N vs ws) H Q I hq) (fun v s' hs => ?_) fun e s' hs => hs)
  obtain ⟨w', H', J, rv, q⟩ := hs
  exact ⟨w', H', J.os, J.bare, J.base, J.hok, rv, q⟩
end
end LmX


set_option Elab.async false
set_option linter.all false
set_option maxRecDepth 100000
set_option maxHeartbeats 4000000
/-! a base with one cell more; calls under it; a call of a lambda in a field -/
namespace LmX
open PySem PySem.Spec PyProof.Rows L2 LamX NdefX
def deadO : Obj := { cls := .none, data := .freed }
/-- the base, and the object o at a -/
def addO (base : Heap) (a : Nat) (o : Obj) : Heap := ⟨(base.objs.toList ++ (List.replicate (a - base.objs.size) deadO ++ [o])).toArray, base.life⟩
theorem addO_size {base : Heap} {a : Nat} {o : Obj} (h : base.objs.size ≤ a) : (addO base a o).objs.size = a + 1 := by
  show (base.objs.toList ++ (List.replicate (a - base.objs.size) deadO ++ [o])).toArray.size = a + 1
  simp only [List.size_toArray, List.length_append, List.length_replicate, List.length_cons, List.length_nil, Array.length_toList]
  omega
theorem addO_get {base : Heap} {a b : Nat} {o u : Obj} (h : base.objs.size ≤ a) (e : (addO base a o).get? b = some u) : base.get? b = some u ∨ (b = a ∧ u = o) := by
  unfold Heap.get? at e ⊢
  have e0 : (addO base a o).objs[b]? = (base.objs.toList ++ (List.replicate (a - base.objs.size) deadO ++ [o]))[b]? := by
    show (base.objs.toList ++ (List.replicate (a - base.objs.size) deadO ++ [o])).toArray[b]? = _
    rw [List.getElem?_toArray]
  rw [e0] at e
  by_cases h1 : b < base.objs.size
  · rw [List.getElem?_append_left (by rw [Array.length_toList]; exact h1), Array.getElem?_toList] at e
    exact .inl e
  · rw [List.getElem?_append_right (by rw [Array.length_toList]; omega), Array.length_toList] at e
    by_cases h2 : b < a
    · rw [List.getElem?_append_left (by rw [List.length_replicate]; omega), List.getElem?_replicate, if_pos (by omega)] at e
      cases e
    · rw [List.getElem?_append_right (by rw [List.length_replicate]; omega), List.length_replicate] at e
      by_cases h3 : b = a
      · subst h3
        rw [Nat.sub_self] at e
        obtain ⟨oc, od, dt, sl⟩ := o
        cases dt <;> first
          | (cases e; exact .inr ⟨rfl, rfl⟩)
          | cases e
      · have : b - base.objs.size - (a - base.objs.size) = (b - a - 1) + 1 := by omega
        rw [this] at e
        cases e
theorem addO_keep {base : Heap} {a b : Nat} {o u : Obj} (e : base.get? b = some u) : (addO base a o).get? b = some u := by
  have h1 := Heap.lt_size e
  unfold Heap.get? at e ⊢
  have e0 : (addO base a o).objs[b]? = base.objs[b]? := by
    show (base.objs.toList ++ (List.replicate (a - base.objs.size) deadO ++ [o])).toArray[b]? = _
    rw [List.getElem?_toArray, List.getElem?_append_left (by rw [Array.length_toList]; exact h1), Array.getElem?_toList]
  rw [e0]
  exact e
theorem addO_at {base : Heap} {a : Nat} {o : Obj} (h : base.objs.size ≤ a) (hf : o.data ≠ .freed) : (addO base a o).get? a = some o := by
  unfold Heap.get?
  have e0 : (addO base a o).objs[a]? = some o := by
    show (base.objs.toList ++ (List.replicate (a - base.objs.size) deadO ++ [o])).toArray[a]? = _
    rw [List.getElem?_toArray, List.getElem?_append_right (by rw [Array.length_toList]; omega), Array.length_toList, List.getElem?_append_right (by rw [List.length_replicate]; omega), List.length_replicate, Nat.sub_self]
    rfl
  rw [e0]
  obtain ⟨oc, od, dt, sl⟩ := o
  cases dt <;> first | rfl | exact absurd rfl hf
section
variable {X : Cx} {pins : List (Addr × Obj)} {σ : L2.St} {H : Hp} {s : Shared}
/-- the frame's own cell of the name y, in the base from now on -/
theorem base_cell {y : Str} {a : Addr} {i : Nat} {v : V} (I : Inv X pins σ H s) (hy : X.fn y = true) (hk : X.env.scope.names.lookup y = some .cell) (hi : X.N[i]? = some y) (hv : σ[i]? = some (some v)) :
    ∃ (a : Addr) (base' : Heap) (u : Value), X.env.cells.lookup y = some a ∧ RelV v u ∧ Mod X.K X.mg base' ∧ Env0 X.prog X.w X.K X.mg base' X.A X.stack s H ∧ ∀ (h : Heap) (H' : Hp), (∀ b o, base'.get? b = some o → h.get? b = some o ∧ H' b = none) → h.IsCell a (some u) ∧ H' a = none := by
  obtain ⟨m, hn, hl⟩ := I.loc
  obtain ⟨u, ru, lk⟩ := hl i y v hi hv (.inr (.inl hk))
  rcases lk with ⟨z, _⟩ | ⟨_, a, ha, hc⟩
  · have z' : X.env.scope.names.lookup y = some .local := z
    rw [hk] at z'; cases z'
  obtain ⟨o, ho, hd⟩ := id hc
  have hab := I.ok.cab y a hy ha
  have hba : X.base.objs.size ≤ a := Nat.le_trans I.ok.bsz hab
  have hnf : ∀ z : Prop, o.data = .freed → z := fun z e => by rw [hd] at e; cases e
  have kp : ∀ b u, X.base.get? b = some u → (addO X.base a o).get? b = some u := fun b u e => addO_keep e
  have at_ : (addO X.base a o).get? a = some o := by
    refine addO_at hba ?_
    intro e
    rw [hd] at e; cases e
  have e0 := I.env0
  refine ⟨a, addO X.base a o, u, ha, ru, ?_, ?_, fun h H' hb => ?_⟩
  · have M := I.ok.mod
    obtain ⟨mb, b1, b2⟩ := M.blt
    exact ⟨PySem.W.Frag.In.keeps M.kin kp, M.glob.keeps kp, ⟨mb, b1.keeps kp, b2⟩, M.nolimit.keeps kp⟩
  · have M := I.ok.mod
    obtain ⟨mb, b1, b2⟩ := M.blt
    refine ⟨e0.frames, ⟨PySem.W.Frag.In.keeps M.kin kp, M.glob.keeps kp, ⟨mb, b1.keeps kp, b2⟩, M.nolimit.keeps kp⟩, fun b q e => ?_, ?_, ?_, e0.frf, e0.hok, e0.bare⟩
    · rcases addO_get hba e with e | ⟨e1, e2⟩
      · exact e0.bs b q e
      · subst e1 e2
        exact ⟨ho, I.freeC y _ ha⟩
    · rw [addO_size hba]
      exact Heap.lt_size ho
    · -- the frames that run are none of it
      have key : ∀ l : List Env, s.heap.FunFrames X.base l → (∀ e ∈ l, ∀ L, e.frame = some L → L ≠ a) → s.heap.FunFrames (addO X.base a o) l := by
        intro l
        induction l with
        | nil => intro _ _; trivial
        | cons e r ih =>
          intro hf hne
          obtain ⟨h1, ⟨L, oL, h2, h3, h4, h5⟩, h6⟩ := hf
          refine ⟨h1, ⟨L, oL, h2, ?_, h4, h5⟩, ih h6 fun e' he => hne e' (List.mem_cons_of_mem _ he)⟩
          cases g : (addO X.base a o).get? L with
          | none => rfl
          | some q =>
            rcases addO_get hba g with z | ⟨z, _⟩
            · rw [h3] at z; cases z
            · exact absurd z (hne e (List.mem_cons_self ..) L h2)
      refine key _ e0.funs ?_
      have outer : ∀ e ∈ X.outer, ∀ L, e.frame = some L → L ≠ a := by
        have : ∀ l : List Env, X.s_0.heap.FunFrames X.base l → ∀ e ∈ l, ∀ L, e.frame = some L → L ≠ a := by
          intro l
          induction l with
          | nil => intro _ e he; cases he
          | cons e r ih =>
            intro hf e' he L hL
            obtain ⟨_, ⟨L', oL, h2, _, h4, _⟩, h6⟩ := hf
            rcases List.mem_cons.mp he with z | z
            · subst z
              rw [h2] at hL
              cases hL
              intro z
              have := Heap.lt_size h4
              rw [z] at this
              exact Nat.lt_irrefl _ (Nat.lt_of_lt_of_le this hab)
            · exact ih h6 e' z L hL
        exact this X.outer I.ok.funs
      have own : X.env.locals ≠ a := by
        obtain ⟨ob, es, ep, g1, g2, _⟩ := hn
        intro z
        rw [z, ho] at g1
        cases g1
        rw [hd] at g2; cases g2
      rcases I.ok.stk with z | ⟨z, z2⟩
      · rw [z]; exact outer
      · rw [z]
        intro e he L hL
        rcases List.mem_cons.mp he with q | q
        · subst q
          rw [z2] at hL
          cases hL
          exact own
        · exact outer e q L hL
  · obtain ⟨h1, h2⟩ := hb a o at_
    exact ⟨⟨o, h1, hd⟩, h2⟩
end
end LmX


set_option Elab.async false
set_option linter.all false
set_option maxRecDepth 100000
set_option maxHeartbeats 4000000
/-! a def called under a base with a cell more; a lambda in a field called -/
namespace LmX
open PySem PySem.Spec PyProof.Rows L2 LamX NdefX
/-- the lambda's scope captures y alone -/
def oneB (sc : Scope) (y : Str) : Bool := (sc.names.all fun z => !decide (z.2 = .free) || decide (z.1 = y)) && decide ((y, NameKind.free) ∈ sc.names)
theorem bcell_of {base' : Heap} {cells : List (Str × Addr)} {sc : Scope} {y : Str} {a : Addr} {u : Value} {v : V} (h1 : oneB sc y = true) (ha : cells.lookup y = some a) (ru : RelV v u)
    (hb : ∀ (h : Heap) (H' : Hp), (∀ b o, base'.get? b = some o → h.get? b = some o ∧ H' b = none) → h.IsCell a (some u) ∧ H' a = none) : BCell base' (cloFrom cells sc.names []) [y] [some v] := by
  unfold oneB at h1
  simp only [Bool.and_eq_true, Bool.or_eq_true, Bool.not_eq_true', decide_eq_true_eq, decide_eq_false_iff_not, List.all_eq_true] at h1
  obtain ⟨g1, g2⟩ := h1
  have hfree : ∀ z ∈ sc.names, z.2 = .free → ∃ c, cells.lookup z.1 = some c := fun z hz e => by
    rcases g1 z hz with q | q
    · exact absurd e q
    · rw [q]; exact ⟨a, ha⟩
  have only : ∀ {z c}, (cloFrom cells sc.names []).lookup z = some c → z = y ∧ c = a := fun {z c} e => by
    rcases cloFrom_mem (PySem.mem_of_lookup e) with hm | ⟨h1, h2⟩
    · cases hm
    · rcases g1 _ h1 with q | q
      · exact absurd rfl q
      · have q : z = y := q
        refine ⟨q, ?_⟩
        have := clo_cm hfree e
        rw [q, ha] at this
        exact (Option.some.inj this).symm
  intro h H' hh
  obtain ⟨c1, c2⟩ := hb h H' hh
  refine ⟨rfl, fun z c e => ?_, fun z1 z2 c e1 e2 => by rw [(only e1).1, (only e2).1], fun i z e => ?_⟩
  · rw [(only e).2]
    exact ⟨c2, _, c1⟩
  · match i, e with
    | 0, e =>
      cases e
      exact ⟨a, clo_has hfree g2 ha, fun v' e' => by cases e'; exact ⟨u, ru, c1⟩⟩
/-- x(..), where the callee may learn what the cell of the i-th name holds -/
def tCallB (K : PySem.W.Frag) (mg : Str → Option Value) (cells : List (Str × Addr)) (scs : List Scope) (y : Str) (i : Nat) (sp : Heap → Sp) (ds : List V) (E : XK) (t : TA) : TE := fun σ H Q => t σ H fun vs H1 => ∃ v, σ[i]? = some (some v) ∧
  ∀ base', Mod K mg base' → (∀ sc ∈ scs, BCell base' (cloFrom cells sc.names []) [y] [some v]) → sp base' (vs ++ ds) H1 Q E
section
variable {X : Cx} {CX : CXT} {k i : Nat} {ps : List Str} {sp : Heap → Sp} {ds : List V} {E : XK} {x y : Str} {p pos apos : Pos} {e o : Expr} {es : List Expr} {t : TA} {scs : List Scope}
theorem pe_callB (F : ∀ base', Mod X.K X.mg base' → FnX X.prog X.w X.K X.mg base' CX k x ps ds (sp base')) (hr : Room k X.A) (hx : Passes CX X E) (ha : PA X (e :: es) t) (hy : X.fn y = true) (hk : X.env.scope.names.lookup y = some .cell) (hi : X.N[i]? = some y) (hs : (scs.all fun sc => oneB sc y) = true)
    (hg : Gl X x := by rfl) (hdb : (x == ("__debug__" : Str)) = false := by decide)
    (he : starEach (e :: es) X.env = (false, eval e X.env) :: starEach es X.env := by rfl) (hpl : (backTo pos (starEach es X.env)).any (·.1) = false := by rfl) : PE X (.Call (.Name x p) (e :: es) [] pos) (tCallB X.K X.mg X.env.cells scs y i sp ds E t) := by
  refine ⟨fun pins s σ H Q I h => ?_⟩
  obtain ⟨f, fd, dvs, hm, kp, _, _, _⟩ := (F X.base I.ok.mod).ex
  refine wpAny_Call_Name_kw (ld_glob I hg hm ?_ hdb)
  refine PySem.W.callWith_K (h₀ := X.base) I.ok.mod.kin kp (thn (ha.run pos pins s σ H _ I h) fun us s1 ⟨vs, H1, I1, r, v, hv, q⟩ => ⟨I1.kIn, ?_⟩) he hpl
  obtain ⟨a, base', u, c1, c2, c3, c4, c5⟩ := base_cell (a := 0) I1 hy hk hi hv
  obtain ⟨f', fd', dvs', hm', kp', hb, vd, G⟩ := (F base' c3).ex
  obtain rfl : f = f' := by
    rw [hm] at hm'
    cases hm'
    rfl
  have h := q base' c3 fun sc hsc => bcell_of (List.all_eq_true.mp hs sc hsc) c1 c2 c5
  have r2 : Vals (vs ++ ds) (us ++ dvs') := r.append vd
  have hl : (us ++ dvs').length = ps.length := by rw [← r2.length]; exact G.len _ _ _ _ h
  show wpAny _ _ (call (.ref f) us) _ _ _
  refine wpAny_call (codeAny_mono (G.run X.A X.stack s1 H1 ⟨us, []⟩ (us ++ dvs') (vs ++ ds) Q E hr c4 (hb s1 us I1.kIn hl) r2 h) fun r s' hq => ?_)
  cases r with
  | error e => exact hx pins σ H1 s1 e s' I1 hq
  | ok fl =>
    cases fl with
    | ret u => exact I1.after hq
    | next => exact False.elim hq
    | brk => exact False.elim hq
    | cont => exact False.elim hq
/-- o.m(..), m a field that holds a lambda -/
def tCallL (P : Program) (w : World) (K : PySem.W.Frag) (mg : Str → Option Value) (base : Heap) (j : Nat) (m : Str) (to : TE) (t : TA) : TE := fun σ H Q => to σ H fun x H1 => ∃ a C dx fs f F b, x = .ref a ∧ H1 a = some (.ins C dx fs) ∧ Cls K C ∧ NoAttr K C m ∧ fs.lookup m = some (.ref f) ∧ H1 f = some (FnL f F b) ∧
  t σ H1 fun vs H2 => H2 f = some (FnL f F b) ∧ H2 F.c = some (CodeO F.c F.qual) ∧ ∃ ps sp, LOk P w K mg base j f F b ps sp ∧ sp vs H2 Q C8.E0
theorem fnAtL {pins : List (Addr × Obj)} {σ : L2.St} {H : Hp} {s : Shared} {f : Addr} {F : NF} {b : Expr} (I : Inv X pins σ H s) (e : H f = some (FnL f F b)) : PySem.W.FnAt f s.heap := by
  obtain ⟨pm, ctv, ho⟩ := fnL_at I.hok e
  exact ⟨_, _, _, _, ho⟩
theorem pe_callL {pl : Sem Bool} {m : Str} {to : TE} {j : Nat} (ho : PE X o to) (ha : PA X (e :: es) t) (hr : Room j X.A)
    (hst : starEach (e :: es) X.env = (false, eval e X.env) :: starEach es X.env := by rfl) (hpl : (backTo pos (starEach es X.env)).any (·.1) = false := by rfl)
    (ht : eval (.Call (.Attribute o m apos) (e :: es) [] pos) X.env = (do
      let ov ← eval o X.env
      standAt apos.atName
      let (f, first) ← holding [ov] (getMethod ov m pl)
      callWith pos f first (backTo pos (starEach (e :: es) X.env)) (backToKw pos (keywordEach [] X.env))) := by rfl) :
    PE X (.Call (.Attribute o m apos) (e :: es) [] pos) (tCallL X.prog X.w X.K X.mg X.base j m to t) := by
  refine ⟨fun pins s σ H Q I h => ?_⟩
  refine PySem.W.methodCall_KW (pl := pl) (thn (ho.run pins s σ H _ I h) fun u s1 ⟨x, H1, I1, rx, a, C, dx, fs, f, F, b, ex, ea, c, n, l, hf1, q⟩ => ?_) ht
  subst ex
  obtain rfl : u = Value.ref a := rx
  obtain ⟨mA, O, _⟩ := ins_get I1.hok ea
  obtain ⟨od, J, _⟩ := O.look
  refine PySem.W.method_usual (r := none) I1.kIn J (PySem.W.plainGet_of (c.get m)).1 (PySem.W.plainGet_of (c.get m)).2 n rfl ?_
  refine getattr_ok I1 ea c n l fun u' s2 I2 ru => ?_
  obtain rfl : u' = Value.ref f := ru
  refine PySem.W.callWith_F (first := []) (fnAtL I2 hf1) (thn (ha.run pos pins s2 σ H1 _ I2 q) fun us s3 ⟨vs, H2, I3, r, hf2, hc2, ps, sp, G, hsp⟩ => ⟨fnAtL I3 hf2, ?_⟩) hst hpl
  show wpAny _ _ (call (.ref f) us) _ _ _
  refine wpAny_call (codeAny_mono (G.run X.A X.stack s3 H2 us vs Q C8.E0 hr I3.env0 hf2 hc2 r hsp) fun r s' hq => ?_)
  cases r with
  | error e => exact (show False from hq).elim
  | ok fl =>
    cases fl with
    | ret u => exact I3.after hq
    | next => exact False.elim hq
    | brk => exact False.elim hq
    | cont => exact False.elim hq
theorem callL_at {P : Program} {w : World} {K : PySem.W.Frag} {mg : Str → Option Value} {base : Heap} {pl : Sem Bool} {m : Str} {to : TE} {j : Nat} (ho : PE X o to) (ha : PA X (e :: es) t) (hr : Room j X.A)
    (h1 : X.prog = P := by rfl) (h2 : X.w = w := by rfl) (h3 : X.K = K := by rfl) (h4 : X.mg = mg := by rfl) (h5 : X.base = base := by rfl)
    (hst : starEach (e :: es) X.env = (false, eval e X.env) :: starEach es X.env := by rfl) (hpl : (backTo pos (starEach es X.env)).any (·.1) = false := by rfl)
    (ht : eval (.Call (.Attribute o m apos) (e :: es) [] pos) X.env = (do
      let ov ← eval o X.env
      standAt apos.atName
      let (f, first) ← holding [ov] (getMethod ov m pl)
      callWith pos f first (backTo pos (starEach (e :: es) X.env)) (backToKw pos (keywordEach [] X.env))) := by rfl) :
    PE X (.Call (.Attribute o m apos) (e :: es) [] pos) (tCallL P w K mg base j m to t) := by
  subst h1 h2 h3 h4 h5
  exact pe_callL ho ha hr hst hpl ht
end
end LmX


set_option Elab.async false
set_option linter.all false
set_option maxRecDepth 100000
set_option maxHeartbeats 4000000
/-! a def that captures names and has cells of its own -/
namespace BothX
open PySem PySem.Spec PyProof.Rows L2 NdefX
theorem cells_app : ∀ (names : List (Str × NameKind)) (n : Nat) (acc : List (Str × Addr)), cellsFrom n names acc = cellsFrom n names [] ++ acc
  | [], _, _ => rfl
  | (x, k) :: r, n, acc => by
    unfold cellsFrom
    by_cases h : (k == NameKind.cell) = true
    · rw [if_pos h, if_pos h, cells_app r _ ((x, n) :: acc), cells_app r _ [(x, n)], List.append_assoc]
      rfl
    · rw [if_neg h, if_neg h]
      exact cells_app r _ acc
section
variable {M : Model} {A : Around} {E : Value → Shared → Prop} {s₀ s : Shared} {m cm : Str → Option Value} {env : Env} {cs : List (Str × Addr)}
theorem stLB {n : Str} {v : Value} {Q : Unit → Shared → Prop} (x : InCallC s₀ env.locals m cs cm s) (hk : env.scope.kind = .function) (hl : env.kindOf n = some .local)
    (h : ∀ s', InCallC s₀ env.locals (fun y => if y = n then some v else m y) cs cm s' → Q () s') : wpAny M A (storeName env n v) Q E s := by
  refine wpAny_storeName_local hl x.toInCall.ns (fun h' hn' hs' => h _ ⟨⟨?_, hn', fun b o e => ?_, x.toInCall.fresh⟩, fun k c hc => ?_, x.apart, x.above⟩) (by rw [hk]; rfl)
  · obtain ⟨h₁, tk, rfl⟩ := x.toInCall.same
    exact ⟨h', _, rfl⟩
  · exact hs'.extBut b o (Nat.ne_of_lt (Nat.lt_of_lt_of_le (Heap.lt_size e) x.toInCall.fresh)) (x.toInCall.keep b o e)
  · exact (x.cell k c hc).sameBut hs' (Nat.ne_of_gt (x.above k c (mem_of_lookup hc)))
theorem stCB {n : Str} {c : Addr} {v : Value} {Q : Unit → Shared → Prop} (x : InCallC s₀ env.locals m cs cm s) (hk : env.scope.kind = .function) (hl : env.kindOf n = some .cell)
    (hc : env.cells.lookup n = some c) (hcs : cs.lookup n = some c)
    (h : ∀ s', InCallC s₀ env.locals m cs (fun y => if y = n then some v else cm y) s' → Q () s') : wpAny M A (storeName env n v) Q E s := by
  have hLc := x.above n c (mem_of_lookup hcs)
  refine wpAny_storeName_cell hk hl hc (x.cell n c hcs) fun h' hc' hs' => h _ ⟨⟨?_, x.toInCall.ns.sameBut hs' (Nat.ne_of_lt hLc), fun b o e => ?_, x.toInCall.fresh⟩, fun k c' hk' => ?_, x.apart, x.above⟩
  · obtain ⟨h₁, tk, rfl⟩ := x.toInCall.same
    exact ⟨h', _, rfl⟩
  · exact hs'.extBut b o (Nat.ne_of_lt (Nat.lt_trans (Nat.lt_of_lt_of_le (Heap.lt_size e) x.toInCall.fresh) hLc)) (x.toInCall.keep b o e)
  · by_cases hkn : k = n
    · subst hkn
      rw [hcs] at hk'; cases hk'
      simpa using hc'
    · rw [if_neg hkn]
      exact (x.cell k c' hk').sameBut hs' fun e => hkn (name_of_addr x.apart (mem_of_lookup hk') (e ▸ mem_of_lookup hcs))
theorem bindParamsB (f : Str × Value → PUnit → Sem (ForInStep PUnit)) (hf : ∀ n v u, f (n, v) u = (do storeName env n v; pure (.yield ⟨⟩))) (hk : env.scope.kind = .function) :
    ∀ (binds : List (Str × Value)) (m cm : Str → Option Value) (s : Shared) (Q : PUnit → Shared → Prop), InCallC s₀ env.locals m cs cm s →
      (∀ x ∈ binds, env.kindOf x.1 = some .local ∨ (env.kindOf x.1 = some .cell ∧ ∃ c, env.cells.lookup x.1 = some c ∧ cs.lookup x.1 = some c)) →
      (∀ s', InCallC s₀ env.locals (bindL env.kindOf binds m) cs (bindC env.kindOf binds cm) s' → Q ⟨⟩ s') → wpAny M A (forIn binds ⟨⟩ f) Q E s
  | [], m, cm, s, Q, x, _, h => by rw [List.forIn_nil]; exact wpAny_pure (h s x)
  | (n, v) :: r, m, cm, s, Q, x, hkind, h => by
    rw [List.forIn_cons, hf]
    have hr : ∀ y ∈ r, env.kindOf y.1 = some .local ∨ (env.kindOf y.1 = some .cell ∧ ∃ c, env.cells.lookup y.1 = some c ∧ cs.lookup y.1 = some c) := fun y hy => hkind y (List.mem_cons_of_mem _ hy)
    rcases hkind (n, v) List.mem_cons_self with hl | ⟨hl, c, hc, hcs⟩
    · refine wpAny_bind (wpAny_bind (stLB x hk hl fun s' x' => wpAny_pure (bindParamsB f hf hk r _ _ s' Q x' hr fun s'' x'' => h s'' ?_)))
      unfold bindL bindC; rw [if_pos hl, if_pos hl]; exact x''
    · have hnl : ¬ env.kindOf n = some .local := by rw [hl]; decide
      refine wpAny_bind (wpAny_bind (stCB x hk hl hc hcs fun s' x' => wpAny_pure (bindParamsB f hf hk r _ _ s' Q x' hr fun s'' x'' => h s'' ?_)))
      unfold bindL bindC; rw [if_neg hnl, if_neg hnl]; exact x''
end
section
variable {M : Model} {A : Around} {E : Value → Shared → Prop} {s : Shared}
theorem newEnvB {scope : Scope} {globals : Addr} {closure : List (Str × Addr)} {binds : List (Str × Value)} {qual : Str} {func : Option Addr} {code : Value} {builtins : Addr} {Q : Env → Shared → Prop}
    (hk : scope.kind = .function)
    (hkind : ∀ x ∈ binds, scope.names.lookup x.1 = some .local ∨ (scope.names.lookup x.1 = some .cell ∧ ∃ c, (cellsFrom (s.heap.objs.size + 1) scope.names []).lookup x.1 = some c))
    (hQ : ∀ env, env = newEnv scope s.heap.objs.size globals (cellsFrom (s.heap.objs.size + 1) scope.names [] ++ closure) qual func code none builtins →
      ∀ s', InCallC s env.locals (bindL env.kindOf binds fun _ => none) (cellsFrom (s.heap.objs.size + 1) scope.names []) (bindC env.kindOf binds fun _ => none) s' → Q env s') :
    wpAny M A (newFunctionEnv scope globals closure binds qual func code none builtins) Q E s := by
  simp only [newFunctionEnv, Option.isSome_none, Bool.false_eq_true, if_false]
  refine wpAny_bind (wpAny_alloc ?_)
  refine wpAny_bind (wpAny_layCells _ (fun name kind cells => by cases hkc : kind == NameKind.cell <;> simp [hkc]) _ _ _ _ ?_)
  have ok := cellsFrom_ok scope.names (s.heap.push { cls := .type "frame", data := .dict #[] }) (s.heap.objs.size + 1) [] ⟨fun _ _ hm => (nomatch hm), List.Pairwise.nil⟩ (by rw [Heap.size_push]; exact Nat.le_refl _)
  rw [Heap.size_push] at ok
  rw [show ({ s with heap := s.heap.push { cls := .type "frame", data := .dict #[] } } : Shared).heap.objs.size = s.heap.objs.size + 1 from Heap.size_push ..]
  rw [cells_app scope.names (s.heap.objs.size + 1) closure]
  refine wpAny_bind (bindParamsB (s₀ := s) (env := newEnv scope s.heap.objs.size globals (cellsFrom (s.heap.objs.size + 1) scope.names [] ++ closure) qual func code none builtins) (cs := cellsFrom (s.heap.objs.size + 1) scope.names [])
    _ (fun _ _ _ => rfl) hk binds (fun _ => none) (fun _ => none) _ _
    ⟨⟨⟨_, _, rfl⟩, (Heap.Ns.new s.heap (.type "frame")).keeps (pushCells_keeps _ _), fun b o e => pushCells_keeps _ _ b o (Heap.get?_push_of_some _ e), Nat.le_refl _⟩,
      fun n c hc => (ok.empty n c (mem_of_lookup hc)).1, ok.apart, fun n c hm => (ok.empty n c hm).2⟩
    (fun x hx => (hkind x hx).imp id fun ⟨h1, c, h2⟩ => ⟨h1, c, by
      show (cellsFrom (s.heap.objs.size + 1) scope.names [] ++ closure).lookup x.1 = some c
      rw [List.lookup_append, h2]; rfl, h2⟩) fun s' x => wpAny_pure (hQ _ rfl s' x))
end
/-- its names: the parameters, then the captured ones, then its locals; some may be cells of its own -/
structure BScope (N ps fr : List Str) (sc : Scope) : Prop where
  kind : sc.kind = .function
  co : sc.isCoroutine = false
  gen : sc.isGenerator = false
  nd : N.Nodup
  pre : N.take (ps.length + fr.length) = ps ++ fr
  par : ∀ x ∈ ps, sc.names.lookup x = some .local ∨ sc.names.lookup x = some .cell
  free : ∀ y ∈ sc.names, y.2 = .free → y.1 ∈ fr
  frk : ∀ x ∈ fr, sc.names.lookup x = some .free
def bscB (N ps fr : List Str) (sc : Scope) : Bool :=
  decide (sc.kind = .function) && !sc.isCoroutine && !sc.isGenerator && decide N.Nodup && decide (N.take (ps.length + fr.length) = ps ++ fr) && ps.all (fun x => decide (sc.names.lookup x = some .local) || decide (sc.names.lookup x = some .cell)) && sc.names.all (fun y => !decide (y.2 = .free) || decide (y.1 ∈ fr)) && fr.all (fun x => decide (sc.names.lookup x = some .free))
theorem bscope_by {N ps fr : List Str} {sc : Scope} (h : bscB N ps fr sc = true) : BScope N ps fr sc := by
  unfold bscB at h
  simp only [Bool.and_eq_true, Bool.not_eq_true', decide_eq_true_eq, List.all_eq_true, Bool.or_eq_true, decide_eq_false_iff_not] at h
  obtain ⟨⟨⟨⟨⟨⟨⟨h1, h2⟩, h3⟩, h4⟩, h5⟩, h6⟩, h8⟩, h9⟩ := h
  exact ⟨h1, h2, h3, h4, h5, h6, fun y hy e => (h8 y hy).elim (fun z => absurd e z) id, h9⟩
abbrev envB (F : NF) (f L : Addr) : Env := PySem.W.envX F.qual F.scope L f (.ref F.c) (cellsFrom (L + 1) F.scope.names [] ++ F.cl)
/-- the context of its body, at its entry -/
def bcx (CX : CXT) (P : Program) (w : World) (K : PySem.W.Frag) (mg : Str → Option Value) (base : Heap) (N : List Str) (F : NF) (f : Addr) (A : Around) (outer : List Env) (s : Shared) (H : Hp) (E : XK) : Cx where
  prog := P
  w := w
  K := K
  mg := mg
  base := base
  A := A.deeper (envB F f s.heap.objs.size)
  N := N
  s_0 := s
  H_0 := H
  env := envB F f s.heap.objs.size
  outer := outer
  stack := envB F f s.heap.objs.size :: outer
  ex := []
  calm := true
  fn := fun x => decide (F.scope.names.lookup x = some .cell)
  pn := []
  xe := fun e s' => wpAny (model P w) (A.deeper (envB F f s.heap.objs.size)) (leaving (envB F f s.heap.objs.size) e) (fun _ s'' => CX outer H s E e s'') (fun e' s'' => CX outer H s E e' s'') s'
theorem no_own {sc : Scope} {n : Nat} {x : Str} {c : Addr} (h : (cellsFrom n sc.names []).lookup x = some c) (hu : ∀ y ∈ sc.names, sc.names.lookup y.1 = some y.2) : sc.names.lookup x = some .cell := by
  have key : ∀ (names : List (Str × NameKind)) (n : Nat) (acc : List (Str × Addr)), (x, c) ∈ cellsFrom n names acc → (x, c) ∈ acc ∨ (x, NameKind.cell) ∈ names := by
    intro names
    induction names with
    | nil => intro n acc h; exact .inl h
    | cons y r ih =>
      obtain ⟨z, k⟩ := y
      intro n acc h
      unfold cellsFrom at h
      by_cases hk : (k == NameKind.cell) = true
      · rw [if_pos hk] at h
        rcases ih _ _ h with q | q
        · rcases List.mem_cons.mp q with q | q
          · have e1 : x = z := (Prod.mk.inj q).1
            refine .inr (List.mem_cons.mpr (.inl ?_))
            rw [e1, beq_iff_eq.mp hk]
          · exact .inl q
        · exact .inr (List.mem_cons_of_mem _ q)
      · rw [if_neg hk] at h
        rcases ih _ _ h with q | q
        · exact .inl q
        · exact .inr (List.mem_cons_of_mem _ q)
  rcases key _ _ _ (PySem.mem_of_lookup h) with q | q
  · cases q
  · exact hu _ q
section
variable {CX : CXT} {P : Program} {w : World} {K : PySem.W.Frag} {mg : Str → Option Value} {base : Heap} {N ps fr : List Str} {F : NF} {f : Addr} {A : Around} {outer : List Env} {s s1 : Shared} {H : Hp} {E : XK} {us : List Value} {vs : List V} {ws : List (Option V)}
theorem inv_startB (S : BScope N ps fr F.scope) (hu : ∀ y ∈ F.scope.names, F.scope.names.lookup y.1 = some y.2) (hcl : ∀ y c, F.cl.lookup y = some c → y ∈ fr) (hd : A.handled = none) (e0 : Env0 P w K mg base A outer s H) (hl : vs.length = ps.length) (r : Vals vs us) (C : CellsAt F.cl fr ws s.heap H)
    (x : InCallC s s.heap.objs.size (bindL (envB F f s.heap.objs.size).kindOf (ps.zip us) fun _ => none) (cellsFrom (s.heap.objs.size + 1) F.scope.names []) (bindC (envB F f s.heap.objs.size).kindOf (ps.zip us) fun _ => none) s1) :
    Inv (bcx CX P w K mg base N F f A outer s H E) [] (startF N vs ws) H s1 := by
  have hpl : ps.length + fr.length ≤ N.length := by
    have q := congrArg List.length S.pre
    rw [List.length_take, List.length_append] at q
    omega
  obtain ⟨h1, tk, rfl, kp⟩ := x.done
  have noA : ∀ b : Addr, b ∉ (bcx CX P w K mg base N F f A outer s H E).ex := fun b z => absurd (show b ∈ ([] : List Addr) from z) (by simp)
  have cellK : ∀ {c : Addr} {v : Option Value}, s.heap.IsCell c v → h1.IsCell c v := fun {c v} ⟨o, ho, hd⟩ => ⟨o, kp _ _ ho, hd⟩
  -- a cell: an own one, or a captured one
  have two : ∀ {y c}, (envB F f s.heap.objs.size).cells.lookup y = some c → (cellsFrom (s.heap.objs.size + 1) F.scope.names []).lookup y = some c ∨ ((cellsFrom (s.heap.objs.size + 1) F.scope.names []).lookup y = none ∧ F.cl.lookup y = some c) := fun {y c} h => by
    have h' : (cellsFrom (s.heap.objs.size + 1) F.scope.names [] ++ F.cl).lookup y = some c := h
    rw [List.lookup_append] at h'
    cases e : (cellsFrom (s.heap.objs.size + 1) F.scope.names []).lookup y with
    | none => rw [e] at h'; exact .inr ⟨rfl, h'⟩
    | some q => rw [e] at h'; exact .inl h'
  have old : ∀ {y c}, F.cl.lookup y = some c → c < s.heap.objs.size := fun {y c} h => by
    obtain ⟨_, v, z⟩ := C.all y c h
    exact z.lt
  have new : ∀ {y c}, (cellsFrom (s.heap.objs.size + 1) F.scope.names []).lookup y = some c → s.heap.objs.size < c := fun {y c} h => x.above y c (PySem.mem_of_lookup h)
  have ownL : ∀ {y c}, (cellsFrom (s.heap.objs.size + 1) F.scope.names []).lookup y = some c → (envB F f s.heap.objs.size).cells.lookup y = some c := fun {y c} h => by
    show (cellsFrom (s.heap.objs.size + 1) F.scope.names [] ++ F.cl).lookup y = some c
    rw [List.lookup_append, h]; rfl
  have frL : ∀ {y c}, y ∈ fr → F.cl.lookup y = some c → (envB F f s.heap.objs.size).cells.lookup y = some c := fun {y c} hy h => by
    show (cellsFrom (s.heap.objs.size + 1) F.scope.names [] ++ F.cl).lookup y = some c
    have e : (cellsFrom (s.heap.objs.size + 1) F.scope.names []).lookup y = none := by
      cases e : (cellsFrom (s.heap.objs.size + 1) F.scope.names []).lookup y with
      | none => rfl
      | some q =>
        have h1 := no_own e hu
        rw [S.frk y hy] at h1; cases h1
    rw [List.lookup_append, e]; exact h
  refine ⟨⟨e0.mod, S.kind, rfl, rfl, Nat.le_refl _, fun y z c e1 e2 => ?_, fun y hy => ?_, fun y c hy hc => ?_, fun _ => hd, Around.frames_deeper e0.frames, .inr ⟨rfl, rfl⟩, fun b z => absurd z (noA b), e0.bs, e0.bsz, fun b _ _ => noA b,
      fun b z => absurd z (noA b), e0.funs, e0.frf⟩,
    rfl, e0.bare, Un.kept kp, ⟨_, x.toInCall.ns, fun i y v e1 e2 e3 => ?_⟩, fun y c e => ?_, e0.hok.fresh (Nat.le_refl _), fun y c e => ?_, fun q hq => absurd (show q ∈ ([] : List (Addr × Obj)) ++ [] from hq) (by simp), e0.hok.kept kp, ?_⟩
  · rcases two e1 with a | ⟨_, a⟩ <;> rcases two e2 with b | ⟨_, b⟩
    · exact name_of_addr x.apart (PySem.mem_of_lookup a) (PySem.mem_of_lookup b)
    · exact absurd (Nat.lt_trans (old b) (new a)) (Nat.lt_irrefl _)
    · exact absurd (Nat.lt_trans (old a) (new b)) (Nat.lt_irrefl _)
    · exact C.inj y z c a b
  · have hy : F.scope.names.lookup y = some .cell ∨ F.scope.names.lookup y = some .free := hy
    rcases hy with hy | hy
    · obtain ⟨c, hc⟩ := cell_has (n := s.heap.objs.size + 1) hy
      exact ⟨c, ownL hc⟩
    · have hyf := S.free _ (PySem.mem_of_lookup hy) rfl
      obtain ⟨i, hi⟩ := List.mem_iff_getElem?.mp hyf
      obtain ⟨c, hc, _⟩ := C.has i y hi
      exact ⟨c, frL hyf hc⟩
  · have hy : decide (F.scope.names.lookup y = some .cell) = true := hy
    have hy := of_decide_eq_true hy
    rcases two hc with a | ⟨a, b⟩
    · exact Nat.le_of_lt (new a)
    · have h1 := S.frk y (hcl y c b)
      rw [hy] at h1; cases h1
  · have e1 : N[i]? = some y := e1
    have clen := C.len
    unfold startF at e2
    by_cases h1 : i < ps.length
    · have hq : (ps ++ fr)[i]? = some y := by
        rw [← S.pre, List.getElem?_take_of_lt (by omega)]
        exact e1
      rw [List.getElem?_append_left h1] at hq
      rw [List.getElem?_append_left (by rw [List.length_map]; omega), List.getElem?_map] at e2
      have ha : vs[i]? = some v := by
        cases e : vs[i]? with
        | none => rw [e] at e2; cases e2
        | some a => rw [e] at e2; cases e2; rfl
      obtain ⟨u, hu', rv⟩ := r.get ha
      have ndP : ps.Nodup := by
        have q := S.nd.sublist (List.take_sublist (ps.length + fr.length) N)
        rw [S.pre] at q
        exact (List.nodup_append.mp q).1
      refine ⟨u, rv, ?_⟩
      rcases S.par y (List.mem_of_getElem? hq) with k | k
      · exact .inl ⟨k, bindL_get ndP hq hu' k⟩
      · obtain ⟨c, e⟩ := cell_has (n := s.heap.objs.size + 1) k
        refine .inr ⟨.inl k, c, ownL e, ?_⟩
        have q := x.cell y c e
        rw [bindC_get ndP hq hu' (by show F.scope.names.lookup y ≠ _; rw [k]; decide)] at q
        exact q
    · rw [List.getElem?_append_right (by rw [List.length_map]; omega), List.length_map] at e2
      by_cases h2 : i < ps.length + fr.length
      · have hq : (ps ++ fr)[i]? = some y := by
          rw [← S.pre, List.getElem?_take_of_lt (by omega)]
          exact e1
        rw [List.getElem?_append_right (by omega)] at hq
        rw [List.getElem?_append_left (by omega), hl] at e2
        obtain ⟨c, hc, hv⟩ := C.has (i - ps.length) y hq
        obtain ⟨u, ru, hu'⟩ := hv v e2
        exact ⟨u, ru, .inr ⟨.inr (S.frk y (List.mem_of_getElem? hq)), c, frL (List.mem_of_getElem? hq) hc, cellK hu'⟩⟩
      · rw [List.getElem?_append_right (by omega), List.getElem?_replicate] at e2
        split at e2 <;> cases e2
  · rcases two e with a | ⟨_, a⟩
    · exact ⟨_, x.cell y c a⟩
    · obtain ⟨v, z⟩ := (C.all y c a).2
      exact ⟨v, cellK z⟩
  · rcases two e with a | ⟨_, a⟩
    · exact e0.hok.fresh (Nat.le_of_lt (new a))
    · exact (C.all y c a).1
  · have clen := C.len
    unfold startF
    show _ = N.length
    rw [List.length_append, List.length_append, List.length_map, List.length_replicate]
    omega
end
end BothX


set_option Elab.async false
set_option linter.all false
set_option maxRecDepth 100000
set_option maxHeartbeats 4000000
/-! the same, where __init__ has cells of its own (lambdas capture its names) -/
namespace SupB
open PySem PySem.Spec PyProof.Rows L2 NdefX PySem.Calls PySem.HandSPX SupX BothX
/-- what is known of the class at C, its __init__ at fI (function F), the __init__ above it at f0 -/
structure SupT (prog : Program) (K : PySem.W.Frag) (C fI f0 : Addr) (F : NF) (N ps : List Str) (e : Expr) (es : List Expr) (rest : List Stmt) : Prop where
  fn : ∃ (oc : Value) (od : Option Addr) (osl : Array (Option Value)) (doc pm ctv : Value), K.lookup fI = some ⟨oc, od, .func (F.fd doc pm ctv), osl⟩
  cd : PySem.W.codeIn K (.ref F.c) F.qual = true
  file : ∃ (ccl : Value) (cdd : Option Addr) (vs : Array Value) (ccs : Array (Option Value)) (f : Str) (tf : Tok), K.lookup F.c = some ⟨ccl, cdd, .fields vs, ccs⟩ ∧ vs[2]? = some (.str f tf) ∧ ((prog.main.file : Str) == f) = true
  cell : ∃ (cc : Addr) (cl : Value) (cld : Option Addr) (csl : Array (Option Value)), F.cl = [(("__class__" : Str), cc)] ∧ K.lookup cc = some ⟨cl, cld, .cell (some (.ref C)), csl⟩
  cls : ∃ cdD, PySem.W.clsIn K C = some cdD
  own : PySem.W.mroIn K C (.ref C) = some true
  sup : PySem.W.ks_superIn K C C "__init__" = some (some (.ref f0))
  fun0 : PySem.W.typeIn K (.ref f0) = some (.type "function")
  fn0 : PySem.W.fnIn K f0 = true
  opq : PySem.W.nsIn K cStatics "thirdparty.any" = some none
  gsup : PySem.W.nsIn K mainGlobals "super" = some none
  topN : (prog.main.scope.names.lookup ("super" : Str)).isSome = false
  sc : BScope N ps ["__class__"] F.scope
  uq : ∀ y ∈ F.scope.names, F.scope.names.lookup y.1 = some y.2
  selfL : F.scope.names.lookup ("self" : Str) = some .local
  ksup : F.scope.names.lookup ("super" : Str) = some .globalImplicit
  self : ps[0]? = some ("self" : Str) ∧ ∃ ar, (F.params.posonlyargs ++ F.params.args).head? = some ar ∧ ar.arg = "self"
  body : ∃ p0 p1 p2 p4 p5, F.body = supCall (e :: es) p0 p1 p2 p4 p5 :: rest ∧ ∀ env, (∃ pl, eval (.Call (.Attribute (.Call (.Name "super" p0) [] [] p1) "__init__" p2) (e :: es) [] p4) env = (do
      let ov ← attributeBase (.Call (.Name "super" p0) [] [] p1) "__init__" env (eval (.Call (.Name "super" p0) [] [] p1) env)
      standAt p2.atName
      let (f, first) ← holding [ov] (getMethod ov "__init__" pl)
      callWith p4 f first (backTo p4 (starEach (e :: es) env)) [])) ∧ starEach (e :: es) env = (false, eval e env) :: starEach es env ∧ (backTo p4 (starEach es env)).any (·.1) = false
  bind : ∀ (doc pm ctv : Value) (us : List Value), us.length = ps.length → bindArgs (F.fd doc pm ctv) ⟨us, []⟩ = pure (ps.zip us)
section
variable {P : Program} {w : World} {K : PySem.W.Frag} {mg : Str → Option Value} {base : Heap} {C fI f0 : Addr} {F : NF} {N ps ps0 : List Str} {e : Expr} {es : List Expr} {rest : List Stmt} {k : Nat} {fd0 : FuncData} {sp sp0 : Sp}
theorem sup_run {oc doc pm ctv : Value} {od : Option Addr} {osl : Array (Option Value)} (T : SupT P K C fI f0 F N ps e es rest) (lk : K.lookup fI = some ⟨oc, od, .func (F.fd doc pm ctv), osl⟩) (G : FnOk P w K mg base (L2.CX P w) k f0 fd0 ps0 sp0) (b0 : L2.Binds K fd0 ps0 [])
    {A : Around} {outer : List Env} {s : Shared} {H : Hp} {args : Args} {us : List Value} {vs : List V} {Q : VK} {E : XK} (hr : Room (k + 1) A) (e0 : Env0 P w K mg base A outer s H) (hb : BindsTo s (F.fd doc pm ctv) args (ps.zip us)) (r : Vals vs us) (hl : vs.length = ps.length)
    (hbody : ∃ x dx fs ta t, vs[0]? = some (.ref x) ∧ H x = some (.ins C dx fs) ∧ PA (bcx (L2.CX P w) P w K mg base N F fI A outer s H E) (e :: es) ta ∧ PSs (bcx (L2.CX P w) P w K mg base N F fI A outer s H E) rest t ∧
      ta (startF N vs [some (.ref C)]) H fun ys H1 => sp0 (.ref x :: ys) H1 (fun _ H2 => t { nx := fun _ H' => Q .non H', rt := Q } (startF N vs [some (.ref C)]) H2) E) :
    codeAny (model P w) A (.call (.ref fI) args) (CR (L2.CX P w) outer P w H s Q E) s := by
  obtain ⟨x, dx, fs, ta, t, hv0, hx, ha, ht, hq⟩ := hbody
  obtain ⟨ccl, cdd, vs2, ccs, fl, tfl, hcode, hvs, hfile⟩ := T.file
  obtain ⟨cc, cl, cld, csl, hcl, hcell⟩ := T.cell
  obtain ⟨cdD, hC⟩ := T.cls
  obtain ⟨hs0, ar, har, hara⟩ := T.self
  obtain ⟨p0, p1, p2, p4, p5, hbd, hev⟩ := T.body
  have S := T.sc
  have KX : K.In s.heap := e0.mod.kin.keeps fun _ _ q => (e0.bs _ _ q).1
  have lim : s.heap.NoLimit := e0.mod.nolimit.keeps fun _ _ q => (e0.bs _ _ q).1
  refine codeAny_call_function hr.depth (KX _ _ lk) rfl S.co S.gen rfl (PySem.W.codeRec_of KX T.cd) (hb _ _ _ _ (newEnvB S.kind (fun ⟨n, _⟩ hy => (S.par n (List.of_mem_zip hy).1).imp id fun q => ⟨q, cell_has q⟩) (fun env he s9 x9 => ?_)))
  subst he
  refine ⟨lim.keeps x9.toInCall.keep, ks_codeAny_funcAt ?_⟩
  show PySem.wpAt _ _ (.func F.body (envB F fI s.heap.objs.size)) (execs F.body (envB F fI s.heap.objs.size)) _ _ _
  have CA : CellsAt F.cl ["__class__"] [some (.ref C)] s.heap H := by
    have hcH : H cc = none := (e0.bs cc _ (e0.mod.kin _ _ hcell)).2
    have hic : s.heap.IsCell cc (some (.ref C)) := ⟨_, KX _ _ hcell, rfl⟩
    rw [hcl]
    have look : ∀ y c, ([(("__class__" : Str), cc)] : List (Str × Addr)).lookup y = some c → y = ("__class__" : Str) ∧ c = cc := fun y c q => by
      have q2 := PySem.mem_of_lookup q
      have q3 := List.mem_singleton.mp q2
      injection q3 with q4 q5
      exact ⟨q4, q5⟩
    refine ⟨rfl, fun y c q => ?_, fun y z c q1 q2 => ?_, fun i y q => ?_⟩
    · obtain ⟨_, rfl⟩ := look y c q
      exact ⟨hcH, _, hic⟩
    · rw [(look y c q1).1, (look z c q2).1]
    · cases i with
      | zero =>
        cases q
        exact ⟨cc, rfl, fun v hv => by cases hv; exact ⟨_, rfl, hic⟩⟩
      | succ j => simp at q
  have I : Inv (bcx (L2.CX P w) P w K mg base N F fI A outer s H E) [] (startF N vs [some (.ref C)]) H s9 := inv_startB S T.uq (fun y c q => by
    rw [hcl] at q
    have q2 := List.mem_singleton.mp (PySem.mem_of_lookup q)
    rw [(Prod.mk.inj q2).1]
    exact List.mem_cons_self ..) hr.hd e0 hl r CA x9
  have hns := x9.toInCall.ns
  obtain ⟨h1, tk9, rfl, kp⟩ := x9.done
  obtain ⟨⟨pl, hevl⟩, hst, hpl⟩ := hev (envB F fI s.heap.objs.size)
  rw [hbd]
  have hint : interactive (envB F fI s.heap.objs.size) = false := by
    show (F.scope.kind == .module && _) = false
    rw [S.kind]
    rfl
  refine ks_wpAt_execs_cons (ks_wpAt_Expr_any (ks_wpAt_MethodCall (pl := pl) ?_ hevl) hint)
  have X1 : K.In h1 := KX.keeps kp
  obtain ⟨oD, hD1, hD2⟩ : ∃ oD, K.lookup C = some oD ∧ oD.data = .cls cdD := by
    unfold PySem.W.clsIn at hC
    split at hC
    · rename_i c d cd' sl ho
      cases hC
      exact ⟨_, ho, rfl⟩
    · cases hC
  obtain ⟨mA, J, _⟩ := ins_get I.hok hx
  obtain ⟨odx, J, _⟩ := J.look
  have hkc : F.scope.names.lookup ("__class__" : Str) = some .free := S.frk _ List.mem_cons_self
  obtain ⟨u0, hu0, ru0⟩ := r.get hv0
  obtain rfl : u0 = Value.ref x := ru0
  have ndP : ps.Nodup := by
    have q := S.nd.sublist (List.take_sublist (ps.length + 1) N)
    have q2 : N.take (ps.length + 1) = ps ++ [("__class__" : Str)] := S.pre
    rw [q2] at q
    exact (List.nodup_append.mp q).1
  have hself : bindL (envB F fI s.heap.objs.size).kindOf (ps.zip us) (fun _ => none) ("self" : Str) = some (.ref x) := bindL_get ndP hs0 hu0 T.selfL
  obtain ⟨mb, hmb, hmbv⟩ := e0.mod.blt
  have kb : ∀ b o, base.get? b = some o → h1.get? b = some o := fun b o q => kp _ _ (e0.bs b o q).1
  refine ks_wpAt_super_base (env := envB F fI s.heap.objs.size) T.ksup hkc (by decide) rfl (X1 _ _ lk) rfl har rfl (X1 _ _ hcode) rfl hvs hfile T.topN ?_
  refine PySem.W.ks_loadName_global S.kind T.ksup (loadGlobal_builtin (e0.mod.glob.keeps kb) (PySem.W.mg_none_of (e0.mod.kin) e0.mod.glob T.gsup) (hmb.keeps kb) ((hmbv _ (by decide +kernel)).trans (by first | boot_by_name | rfl | kernel_rfl)) ⟨rfl, ?_⟩)
  refine wpAny_loadName_free S.kind hkc (by
    show (cellsFrom (s.heap.objs.size + 1) F.scope.names [] ++ F.cl).lookup ("__class__" : Str) = some cc
    have e : (cellsFrom (s.heap.objs.size + 1) F.scope.names []).lookup ("__class__" : Str) = none := by
      cases e : (cellsFrom (s.heap.objs.size + 1) F.scope.names []).lookup ("__class__" : Str) with
      | none => rfl
      | some q =>
        have h1 := no_own e T.uq
        rw [hkc] at h1; cases h1
    rw [List.lookup_append, e, hcl]; rfl) ⟨_, X1 _ _ hcell, rfl⟩ ?_
  rw [hara]
  refine wpAny_loadName_local S.kind T.selfL hns hself ?_
  refine ks_wpAny_isType_cls (X1 _ _ hD1) hD2 ⟨rfl, ?_⟩
  refine ks_wpAny_call_super (X1 _ _ hD1) hD2 J.at_ J.cls (fun c z => by cases z) (PySem.W.looks_mroIn X1 T.own) (fun h2 hso k2 => ?_)
  have X2 : K.In h2 := X1.keeps k2
  have I2 := I.kept (t' := tk9) k2
  obtain ⟨mA2, J2, _⟩ := ins_get I2.hok hx
  obtain ⟨odx2, J2, _⟩ := J2.look
  have hsup := T.sup
  unfold PySem.W.ks_superIn at hsup
  rw [hC] at hsup
  obtain ⟨of, hof, hofc⟩ : ∃ of, h2.get? f0 = some of ∧ of.cls = .type "function" := by
    have ht' : (K.lookup f0).map (·.cls) = some (.type "function") := T.fun0
    cases z : K.lookup f0 with
    | none => rw [z] at ht'; cases ht'
    | some of => rw [z] at ht'; exact ⟨of, X2 _ _ z, Option.some.inj ht'⟩
  refine ks_wpAny_getMethod_super hso (PySem.W.looks_opaque X2 T.opq) (l₀ := cdD.mro) ((PySem.W.looks_clsIn X2 hC).andThen .now) rfl X2 hsup hof hofc (PySem.W.ks_ne X2 J2 hC) (by decide) ?_
  have k3 : ∀ b o, h2.get? b = some o → (h2.push (PySem.W.methodObj (.ref f0) (.ref x))).get? b = some o := fun b o q => Heap.get?_push_of_some _ q
  have I3 := I2.kept (t' := tk9 + 1) k3
  have hmo : (h2.push (PySem.W.methodObj (.ref f0) (.ref x))).get? h2.objs.size = some (PySem.W.methodObj (.ref f0) (.ref x)) := Heap.get?_push_size _ rfl
  have hqn : H h2.objs.size = none := I2.hok.fresh (Nat.le_refl _)
  have I4 : Inv (bcx (L2.CX P w) P w K mg base N F fI A outer s H E) [(h2.objs.size, PySem.W.methodObj (.ref f0) (.ref x))] (startF N vs [some (.ref C)]) H { s with heap := h2.push (PySem.W.methodObj (.ref f0) (.ref x)), toks := tk9 + 1 } :=
    ⟨I3.ok, I3.os, I3.bare, I3.base, I3.loc, I3.cell, I3.free, I3.freeC, fun p hp => by
      have ep : p = (h2.objs.size, PySem.W.methodObj (.ref f0) (.ref x)) := by simpa using (show p ∈ ([] : List (Addr × Obj)) ++ [(h2.objs.size, PySem.W.methodObj (.ref f0) (.ref x))] from hp)
      subst ep
      exact ⟨hmo, hqn, fun z => by have q := I2.lt; rw [← z] at q; exact Nat.lt_irrefl _ q, fun z => I2.nofs (Nat.le_refl _) z, fun v z => by cases z⟩, I3.hok, I3.len⟩
  have go := ha.run p4 _ _ _ _ _ I4 hq
  rw [show starEach (e :: es) (bcx (L2.CX P w) P w K mg base N F fI A outer s H E).env = (false, eval e (envB F fI s.heap.objs.size)) :: starEach es (envB F fI s.heap.objs.size) from hst] at go
  show wpAny _ _ (callWith p4 (.ref h2.objs.size) [] (backTo p4 (starEach (e :: es) (envB F fI s.heap.objs.size))) []) _ _ _
  rw [hst]
  refine PySem.W.callWith_of (P := PySem.W.MethP K h2.objs.size f0 (.ref x)) (by show ((false || (backTo p4 (starEach es (envB F fI s.heap.objs.size))).any (·.1)) || false) = false; rw [hpl]; rfl) (PySem.W.keeps_M T.fn0) (evalArgs_plain (wpAny_mono go (fun us1 s1 hh => ?_) fun _ _ q => q))
  obtain ⟨vs1, H1, I5, r1, q1⟩ := hh
  have hm5 := (I5.pin (h2.objs.size, PySem.W.methodObj (.ref f0) (.ref x)) (by simp [bcx])).1
  refine ⟨⟨hm5, I5.kIn⟩, ?_⟩
  have hl0 : (Value.ref x :: us1).length = ps0.length := by
    have q := G.len _ _ _ _ q1
    have q2 := r1.length
    simp at q ⊢
    omega
  have b := b0 s1 (.ref x :: us1) I5.kIn (by rw [List.append_nil]; exact hl0)
  rw [List.append_nil] at b
  refine wpAny_call (ks_codeAny_call_bound hm5 (codeAny_mono (G.run (A.deeper (envB F fI s.heap.objs.size)) (envB F fI s.heap.objs.size :: outer) s1 H1 ⟨.ref x :: us1, []⟩ (.ref x :: us1) (.ref x :: vs1) _ E (hr.deeper _) I5.env0 b (.cons rfl r1) q1) fun r9 s9 h9 => ?_))
  have pass : Passes (L2.CX P w) (bcx (L2.CX P w) P w K mg base N F fI A outer s H E) E := passes_call (takes_of rfl rfl rfl rfl) (fun _ _ _ _ h => h)
  cases r9 with
  | error e9 => exact pass _ _ _ _ _ _ I5 h9
  | ok fl9 =>
    cases fl9 with
    | ret u9 =>
      obtain ⟨v9, H9, I9, rv9, q9⟩ := I5.after h9
      have I10 : Inv (bcx (L2.CX P w) P w K mg base N F fI A outer s H E) [] (startF N vs [some (.ref C)]) H9 s9 := ⟨I9.ok, I9.os, I9.bare, I9.base, I9.loc, I9.cell, I9.free, I9.freeC, (fun p hp => by cases (show p ∈ ([] : List (Addr × Obj)) ++ [] from hp)), I9.hok, I9.len⟩
      refine wpAt_of_wpAny (wpAny_mono (ht.run [] s9 _ H9 _ I10 q9) (fun f2 s2 hs2 => ?_) fun _ _ q => q)
      cases f2 with
      | ret u =>
        obtain ⟨v, z', H', J', rv, q⟩ := hs2
        exact ⟨v, H', J'.os, J'.bare, J'.base, J'.hok, rv, q⟩
      | next =>
        obtain ⟨z', H', J', q⟩ := hs2
        exact ⟨V.non, H', J'.os, J'.bare, J'.base, J'.hok, rfl, q⟩
      | brk =>
        obtain ⟨_, _, _, q⟩ := hs2
        exact q.elim
      | cont =>
        obtain ⟨_, _, _, q⟩ := hs2
        exact q.elim
    | next => exact h9.elim
    | brk => exact h9.elim
    | cont => exact h9.elim
/-- THE RULE for such an __init__ -/
theorem sup_ok (T : SupT P K C fI f0 F N ps e es rest) (G : FnOk P w K mg base (L2.CX P w) k f0 fd0 ps0 sp0) (b0 : L2.Binds K fd0 ps0 []) (len : ∀ vs H Q E, sp vs H Q E → vs.length = ps.length)
    (hbody : ∀ (A : Around) (outer : List Env) (s : Shared) (H : Hp) (vs : List V) (Q : VK) (E : XK), Room k (A.deeper (envB F fI s.heap.objs.size)) → sp vs H Q E →
      ∃ x dx fs ta t, vs[0]? = some (.ref x) ∧ H x = some (.ins C dx fs) ∧ PA (bcx (L2.CX P w) P w K mg base N F fI A outer s H E) (e :: es) ta ∧ PSs (bcx (L2.CX P w) P w K mg base N F fI A outer s H E) rest t ∧
      ta (startF N vs [some (.ref C)]) H fun ys H1 => sp0 (.ref x :: ys) H1 (fun _ H2 => t { nx := fun _ H' => Q .non H', rt := Q } (startF N vs [some (.ref C)]) H2) E) :
    ∃ doc pm ctv, FnOk P w K mg base (L2.CX P w) (k + 1) fI (F.fd doc pm ctv) ps sp ∧ L2.Binds K (F.fd doc pm ctv) ps [] := by
  obtain ⟨oc, od, osl, doc, pm, ctv, lk⟩ := T.fn
  refine ⟨doc, pm, ctv, ⟨len, fun A outer s H args us vs Q E hr e0 hb r hs => ?_⟩, ?_⟩
  · exact sup_run T lk G b0 hr e0 hb r (len _ _ _ _ hs) (hbody A outer s H vs Q E (hr.deeper _) hs)
  · exact .all (T.bind doc pm ctv)
end
end SupB


set_option Elab.async false
set_option linter.all false
set_option maxRecDepth 100000
set_option maxHeartbeats 4000000
namespace SupB
open PySem PySem.Spec PyProof.Rows L2 NdefX SupX
/-- class x(y): the __init__ of x (statement st), which has cells of its own, calls that of y (statement s0) first; its code object at c keeps the table at Pt -/
abbrev SupD (P : Program) (K : PySem.W.Frag) (x q q0 : Str) (st s0 : Stmt) (N ps : List Str) : Prop := ∃ f0 fd0 fI cc c, SupB.SupT P K (He.ga K x) fI f0 (nfOf q st cc c) N ps (supE st) (supEs st) (supR st) ∧ Mk K (He.ga K x) fI ∧ FunD K "__init__" q0 (defArgs s0) (defBody s0) (defScope s0) [] [] f0 fd0
end SupB


set_option Elab.async false
set_option linter.all false
set_option maxRecDepth 100000
set_option maxHeartbeats 4000000
/-! the Hook of HookF with code tables (lambdas), with what is no key of a table, with an __init__ that has cells of its own -/
namespace HeE
open PySem PySem.Spec PyProof.Rows L2 He PySem.ErrX
def obsG (file : Str) (fa : List Fa) (fn : List DefD) (er su : List ErrD) (ts : List (Str × List Str)) (tf : List Defn) (ex : PySem.W.Frag → Bool) (g : Addr → Option Obj) (K : PySem.W.Frag) : AlF := (obsE file fa fn er tf ex g K, su.map (fun d => fnE K d.x), ts.map fun t => dicW K (ga K t.1))
structure SaysG (file : Str) (fa : List Fa) (fn : List DefD) (er su : List ErrD) (ts : List (Str × List Str)) (tf : List Defn) (ex : PySem.W.Frag → Bool) (w : World) (h : Heap) (K : PySem.W.Frag) : Prop extends SaysE file fa fn er tf ex h K where
  su : ∀ d ∈ su, fnE K d.x = d.val
  ts : ∀ t ∈ ts, dicW K (ga K t.1) = some (keysIn w.params t.2)
theorem saysG_of {file : Str} {n : Nat} {fa : List Fa} {fn : List DefD} {er su : List ErrD} {ts : List (Str × List Str)} {tf : List Defn} {ex : PySem.W.Frag → Bool} {w : World} {h : Heap} (e : obsG file fa fn er su ts tf ex h.get? (frE h.get? n) = valF fn er su ts w) : SaysG file fa fn er su ts tf ex w h (frE h.get? n) := by
  have e1 : obsE file fa fn er tf ex h.get? (frE h.get? n) = valE fn er := congrArg (fun z : AlF => z.1) e
  have e2 : su.map (fun d => fnE (frE h.get? n) d.x) = su.map ErrD.val := congrArg (fun z : AlF => z.2.1) e
  have e3 : ts.map (fun t => dicW (frE h.get? n) (ga (frE h.get? n) t.1)) = ts.map fun t => some (keysIn w.params t.2) := congrArg (fun z : AlF => z.2.2) e
  exact ⟨saysE_of e1, fun d hd => map_at e2 d hd, fun t ht => map_at e3 t ht⟩
def hookG (file : Str) (n : Nat) (fa : List Fa) (fn : List DefD) (er su : List ErrD) (ts : List (Str × List Str)) (tf : List Defn) (ex : PySem.W.Frag → Bool) : PySem.W.Hook where
  α := AlF
  obs := fun s => obsG file fa fn er su ts tf ex s.heap.get? (frE s.heap.get? n)
  val := fun w => valF fn er su ts w
  says := fun w h => ∃ K : PySem.W.Frag, K.In h ∧ SaysG file fa fn er su ts tf ex w h K
  of := fun _ _ e => ⟨_, frT_in, saysG_of e⟩
  keeps := fun _ _ _ ⟨K, hK, c⟩ k => ⟨K, PySem.W.Frag.In.keeps hK k, ⟨⟨c.fa, c.fn, c.er, c.more, c.hd, c.out, fun p hp => k _ _ (c.empty p hp)⟩, c.su, c.ts⟩⟩
theorem obsG_eq {file : Str} {n : Nat} {fa : List Fa} {fn : List DefD} {er su : List ErrD} {ts : List (Str × List Str)} {tf : List Defn} {ex : PySem.W.Frag → Bool} {g : Addr → Option Obj} {s : Shared} (h : ∀ a, g a = s.heap.get? a) : obsG file fa fn er su ts tf ex g (frE g n) = (hookG file n fa fn er su ts tf ex).obs s := by
  have e : g = s.heap.get? := funext h
  rw [e] <;> rfl
/-! ### what is no key of a table -/
theorem find_no {z : Str} : ∀ {l : List DictEntry} {P : Params} {ks : List Str}, l.map keyOf = keysIn P ks → z ∉ ks → l.find? (·.key.isStr z) = none ∧ l.any (·.refKey) = false
  | [], _, _, _, _ => ⟨rfl, rfl⟩
  | e :: r, P, [], h, _ => by cases h
  | e :: r, P, k :: ks, h, hz => by
    have h1 : keyOf e :: r.map keyOf = some (k, PyData.keyHash P k) :: keysIn P ks := h
    injection h1 with h2 h3
    obtain ⟨g1, g2⟩ := find_no h3 (fun m => hz (List.mem_cons_of_mem _ m))
    unfold keyOf at h2
    split at h2
    · rename_i x t q
      obtain ⟨h5, h6⟩ := Prod.mk.inj (Option.some.inj h2)
      have n1 : e.key.isStr z = false := by
        rw [q]
        have hne : x ≠ z := fun e => hz (by rw [← e, h5]; exact List.mem_cons_self ..)
        cases y : (Value.str x t).isStr z with
        | false => rfl
        | true => exact absurd (by simpa [Value.isStr] using y) hne
      have n2 : e.refKey = false := by
        unfold DictEntry.refKey
        rw [q]
      exact ⟨by rw [List.find?_cons, n1]; exact g1, by rw [List.any_cons, n2, g2]; rfl⟩
    · cases h2
theorem kn_ok {K : PySem.W.Frag} {w : World} {a : Addr} {ks : List Str} (h : dicW K a = some (keysIn w.params ks)) : ∀ z : Str, z ∉ ks → PySem.W.nsIn K a z = some none := by
  intro z hz
  unfold dicW at h
  split at h
  · rename_i c es n sl q
    split at h
    · obtain ⟨h1, h2⟩ := find_no (Option.some.inj h) hz
      unfold PySem.W.nsIn
      rw [q]
      dsimp only
      rw [h1]
      dsimp only
      rw [h2]
      rfl
    · cases h
  · cases h
/-- x[k] is the text z -/
def svB (K : PySem.W.Frag) (x k z : Str) : Bool := match PySem.W.nsIn K (ga K x) k with
  | some (some (.str y _)) => decide (y = z)
  | _ => false
theorem svB_ok {K : PySem.W.Frag} {w : World} {x k z : Str} (D : ∃ es n, KDict K w (ga K x) es n) (h : svB K x k z = true) : KDct K w (ga K x) k (.str z) := by
  unfold svB at h
  obtain ⟨es, n, d⟩ := D
  split at h
  · rename_i y t q
    have h := of_decide_eq_true h
    subst h
    exact ⟨es, n, _, d.at_, d.lit, q, _, rfl⟩
  · cases h
/-! ### super().__init__ there -/
structure SupSB (prog : Program) (q : Str) (st : Stmt) (N ps : List Str) : Prop where
  topN : (prog.main.scope.names.lookup ("super" : Str)).isSome = false
  sc : BothX.BScope N ps ["__class__"] (defScope st)
  uq : ∀ y ∈ (defScope st).names, (defScope st).names.lookup y.1 = some y.2
  selfL : (defScope st).names.lookup ("self" : Str) = some .local
  ksup : (defScope st).names.lookup ("super" : Str) = some .globalImplicit
  self : ps[0]? = some ("self" : Str) ∧ ∃ ar, ((defArgs st).posonlyargs ++ (defArgs st).args).head? = some ar ∧ ar.arg = "self"
  body : ∃ p0 p1 p2 p4 p5, defBody st = SupX.supCall (SupX.supE st :: SupX.supEs st) p0 p1 p2 p4 p5 :: SupX.supR st ∧ ∀ env, (∃ pl, eval (.Call (.Attribute (.Call (.Name "super" p0) [] [] p1) "__init__" p2) (SupX.supE st :: SupX.supEs st) [] p4) env = (do
      let ov ← attributeBase (.Call (.Name "super" p0) [] [] p1) "__init__" env (eval (.Call (.Name "super" p0) [] [] p1) env)
      standAt p2.atName
      let (f, first) ← holding [ov] (getMethod ov "__init__" pl)
      callWith p4 f first (backTo p4 (starEach (SupX.supE st :: SupX.supEs st) env)) [])) ∧ starEach (SupX.supE st :: SupX.supEs st) env = (false, eval (SupX.supE st) env) :: starEach (SupX.supEs st) env ∧ (backTo p4 (starEach (SupX.supEs st) env)).any (·.1) = false
  bind : ∀ (cc c : Addr) (doc pm ctv : Value) (us : List Value), us.length = ps.length → bindArgs ((SupX.nfOf q st cc c).fd doc pm ctv) ⟨us, []⟩ = pure (ps.zip us)
theorem supDB_of {prog : Program} {K : PySem.W.Frag} {x y q q0 : Str} {st s0 : Stmt} {N ps : List Str} {fd0 : FuncData} (h : supB K prog.main.file x y q = true) (e : fnE K x = (some ((("__init__" : String) : Str), q, defArgs st, FuncBody.stmts (defBody st), defScope st, mainGlobals, builtinsNs) : FnE)) (S : SupSB prog q st N ps) (M : Mk K (ga K x) (iAd K x))
    (F0 : FunD K "__init__" q0 (defArgs s0) (defBody s0) (defScope s0) [] [] (iAd K y) fd0) : ∃ f0 fd0 cc, SupB.SupT prog K (ga K x) (iAd K x) f0 (SupX.nfOf q st cc (cT K (x, some "__init__")).1) N ps (SupX.supE st) (SupX.supEs st) (SupX.supR st) ∧ Mk K (ga K x) (iAd K x) ∧ FunD K "__init__" q0 (defArgs s0) (defBody s0) (defScope s0) [] [] f0 fd0 := by
  have h0 : sinB K (ga K x) (iAd K x) prog.main.file q = true := all_at h 0
  unfold sinB at h0
  unfold fnE at e
  cases z : K.lookup (iAd K x) with
  | none => rw [z] at h0; cases h0
  | some o =>
    obtain ⟨oc, od, dt, osl⟩ := o
    rw [z] at h0 e
    cases dt with
    | func fd =>
      obtain ⟨n1, n2, n3, n4, n5, n6, n7, n8, n9, n10, n11, n12, n13, n14, n15⟩ := fd
      have e2 : (some (n1, n2, n3, n4, n5, n6, n15) : FnE) = (some (Str.ofString "__init__", q, defArgs st, .stmts (defBody st), defScope st, mainGlobals, builtinsNs) : FnE) := e
      simp only [Option.some.injEq, Prod.mk.injEq] at e2
      obtain ⟨h1, h2, h3, h4, h5, h6, h8⟩ := e2
      subst h1 h2 h3 h4 h5 h6 h8
      cases n13 with
      | ref cda =>
        cases n7 with
        | nil => cases h0
        | cons c7 r7 =>
          obtain ⟨cn, cc⟩ := c7
          cases r7 with
          | cons _ _ => cases h0
          | nil =>
            cases n8 with
            | none =>
              cases n9 with
              | none =>
                have h17 : (decide (cn = "__class__") && (n12.isNone && (PySem.W.codeIn K (.ref cda) n2 && (fileB K cda prog.main.file && cellB K cc (ga K x))))) = true := h0
                obtain ⟨a1, a⟩ := ba h17
                obtain ⟨a5, a⟩ := ba a
                obtain ⟨a2, a⟩ := ba a
                obtain ⟨a3, a4⟩ := ba a
                have a1 := of_decide_eq_true a1
                subst a1
                cases n12 with
                | some _ => cases a5
                | none =>
                  have ecd : (cT K (x, some "__init__")).1 = cda := codeOf_eq z rfl
                  unfold fileB at a3
                  unfold cellB at a4
                  split at a3
                  · rename_i ccl cdd vs ccs q1
                    split at a3
                    · rename_i f tf q2
                      split at a4
                      · rename_i cl cld C' csl q3
                        have a4 := of_decide_eq_true a4
                        subst a4
                        refine ⟨iAd K y, fd0, cc, ?_, M, F0⟩
                        rw [ecd]
                        exact {
                          fn := ⟨oc, od, osl, n10, n11, n14, z⟩
                          cd := a2
                          file := ⟨ccl, cdd, vs, ccs, f, tf, q1, q2, a3⟩
                          cell := ⟨cc, cl, cld, csl, rfl, q3⟩
                          cls := Option.isSome_iff_exists.mp (all_at h 1)
                          own := of_decide_eq_true (all_at h 2)
                          sup := eqO_ok (all_at h 3)
                          fun0 := of_decide_eq_true (all_at h 4)
                          fn0 := all_at h 5
                          opq := eqO_ok (all_at h 6)
                          gsup := eqO_ok (all_at h 7)
                          topN := S.topN
                          sc := S.sc
                          uq := S.uq
                          selfL := S.selfL
                          ksup := S.ksup
                          self := S.self
                          body := S.body
                          bind := S.bind cc cda }
                      · cases a4
                    · cases a3
                  · cases a3
              | _ => cases h0
            | _ => cases h0
      | _ => cases h0
    | _ => cases h0
end HeE


set_option Elab.async false
set_option linter.all false
set_option maxRecDepth 100000
set_option maxHeartbeats 4000000
namespace K17
open PySem PySem.Spec PyProof.Rows L2
def top (i : Nat) : Stmt := PySem.Challenge.pw_heldplaces_k17_id_lines_read.main.body.getD i (.Pass ⟨0, 0, 0, 0⟩)
abbrev s_BadKind_init : Stmt := inClass (top 2) 0
abbrev s_BadLine_init : Stmt := inClass (top 3) 0
abbrev s_Refused_init : Stmt := inClass (top 4) 0
abbrev s_TooMany_init : Stmt := inClass (top 5) 0
abbrev s_told_number : Stmt := top 10
theorem sc_told_number : FnScope ["word"] ["word"] (defScope s_told_number) := ⟨rfl, rfl, rfl, by decide +kernel, rfl, by decide +kernel, by decide +kernel⟩
abbrev s_told_atom : Stmt := top 11
theorem sc_told_atom : FnScope ["word", "names", "number"] ["word", "names"] (defScope s_told_atom) := ⟨rfl, rfl, rfl, by decide +kernel, rfl, by decide +kernel, by decide +kernel⟩
abbrev s_told_sum : Stmt := top 12
theorem sc_told_sum : FnScope ["words", "names", "found", "seen", "place", "word", "atom"] ["words", "names"] (defScope s_told_sum) := ⟨rfl, rfl, rfl, by decide +kernel, rfl, by decide +kernel, by decide +kernel⟩
abbrev s_told_part : Stmt := top 13
theorem sc_told_part : FnScope ["text", "names", "others", "wanted", "told", "words", "one", "other"] ["text", "names", "others"] (defScope s_told_part) := ⟨rfl, rfl, rfl, by decide +kernel, rfl, by decide +kernel, by decide +kernel⟩
abbrev s_Reader_init : Stmt := inClass (top 14) 0
theorem sc_Reader_init : FnScope ["self", "lines", "row_of", "part_of"] ["self", "lines", "row_of", "part_of"] (defScope s_Reader_init) := ⟨rfl, rfl, rfl, by decide +kernel, rfl, by decide +kernel, by decide +kernel⟩
abbrev s_Reader_read_block : Stmt := inClass (top 14) 1
theorem sc_Reader_read_block : FnScope ["self", "is_inner", "rows", "text"] ["self", "is_inner"] (defScope s_Reader_read_block) := ⟨rfl, rfl, rfl, by decide +kernel, rfl, by decide +kernel, by decide +kernel⟩
abbrev s_Reader_read_if : Stmt := inClass (top 14) 2
theorem sc_Reader_read_if : FnScope ["self", "text", "line", "parts", "part", "rows", "word", "others"] ["self", "text"] (defScope s_Reader_read_if) := ⟨rfl, rfl, rfl, by decide +kernel, rfl, by decide +kernel, by decide +kernel⟩
abbrev s_read_rows : Stmt := top 15
theorem sc_read_rows : FnScope ["lines", "row_of", "part_of", "most_ifs", "reader", "rows", "word"] ["lines", "row_of", "part_of", "most_ifs"] (defScope s_read_rows) := ⟨rfl, rfl, rfl, by decide +kernel, rfl, by decide +kernel, by decide +kernel⟩
abbrev s_all_rows : Stmt := top 16
theorem sc_all_rows : FnScope ["rows", "found", "row"] ["rows"] (defScope s_all_rows) := ⟨rfl, rfl, rfl, by decide +kernel, rfl, by decide +kernel, by decide +kernel⟩
abbrev s_all_ways : Stmt := top 17
theorem sc_all_ways : FnScope ["rows", "ends", "found", "row", "later", "way", "has_ended", "block", "more", "ended"] ["rows", "ends"] (defScope s_all_ways) := ⟨rfl, rfl, rfl, by decide +kernel, rfl, by decide +kernel, by decide +kernel⟩
abbrev s_CodeText_init : Stmt := inClass (top 18) 0
theorem sc_CodeText_init : FnScope ["self", "part", "kind", "kinds", "text", "most_lines"] ["self", "part", "kind", "kinds", "text", "most_lines"] (defScope s_CodeText_init) := ⟨rfl, rfl, rfl, by decide +kernel, rfl, by decide +kernel, by decide +kernel⟩
abbrev s_CodeText_same : Stmt := inClass (top 18) 1
theorem sc_CodeText_same : FnScope ["self"] ["self"] (defScope s_CodeText_same) := ⟨rfl, rfl, rfl, by decide +kernel, rfl, by decide +kernel, by decide +kernel⟩
abbrev s_CodeText_len : Stmt := inClass (top 18) 2
theorem sc_CodeText_len : FnScope ["self"] ["self"] (defScope s_CodeText_len) := ⟨rfl, rfl, rfl, by decide +kernel, rfl, by decide +kernel, by decide +kernel⟩
abbrev s_CodeText_iter : Stmt := inClass (top 18) 3
theorem sc_CodeText_iter : FnScope ["self"] ["self"] (defScope s_CodeText_iter) := ⟨rfl, rfl, rfl, by decide +kernel, rfl, by decide +kernel, by decide +kernel⟩
abbrev s_CodeText_getitem : Stmt := inClass (top 18) 4
theorem sc_CodeText_getitem : FnScope ["self", "k"] ["self", "k"] (defScope s_CodeText_getitem) := ⟨rfl, rfl, rfl, by decide +kernel, rfl, by decide +kernel, by decide +kernel⟩
abbrev s_CodeText_eq : Stmt := inClass (top 18) 5
theorem sc_CodeText_eq : FnScope ["self", "other"] ["self", "other"] (defScope s_CodeText_eq) := ⟨rfl, rfl, rfl, by decide +kernel, rfl, by decide +kernel, by decide +kernel⟩
abbrev s_factors_of : Stmt := top 23
theorem sc_factors_of : FnScope ["rows", "found", "row", "line", "factor"] ["rows"] (defScope s_factors_of) := ⟨rfl, rfl, rfl, by decide +kernel, rfl, by decide +kernel, by decide +kernel⟩
abbrev s_go_together : Stmt := top 24
theorem sc_go_together : FnScope ["one", "other"] ["one", "other"] (defScope s_go_together) := ⟨rfl, rfl, rfl, by decide +kernel, rfl, by decide +kernel, by decide +kernel⟩
abbrev s_odd_factors : Stmt := top 25
theorem sc_odd_factors : FnScope ["rows", "found", "ahead", "line", "factor", "other"] ["rows"] (defScope s_odd_factors) := ⟨rfl, rfl, rfl, by decide +kernel, rfl, by decide +kernel, by decide +kernel⟩
abbrev s_names_stamp : Stmt := top 26
theorem sc_names_stamp : FnScope ["told", "factor", "name"] ["told"] (defScope s_names_stamp) := ⟨rfl, rfl, rfl, by decide +kernel, rfl, by decide +kernel, by decide +kernel⟩
abbrev s_asks_place : Stmt := top 27
theorem sc_asks_place : FnScope ["row", "part"] ["row"] (defScope s_asks_place) := ⟨rfl, rfl, rfl, by decide +kernel, rfl, by decide +kernel, by decide +kernel⟩
abbrev s_late_places : Stmt := top 28
theorem sc_late_places : FnScope ["told", "found", "is_asked", "row"] ["told"] (defScope s_late_places) := ⟨rfl, rfl, rfl, by decide +kernel, rfl, by decide +kernel, by decide +kernel⟩
abbrev s_need_limits : Stmt := top 29
theorem sc_need_limits : FnScope ["kind", "rows", "wrong", "told", "has_ended", "signs", "row", "settings", "line"] ["kind", "rows"] (defScope s_need_limits) := ⟨rfl, rfl, rfl, by decide +kernel, rfl, by decide +kernel, by decide +kernel⟩
abbrev s_power_of : Stmt := top 38
theorem sc_power_of : FnScope ["bits", "found", "turn"] ["bits"] (defScope s_power_of) := ⟨rfl, rfl, rfl, by decide +kernel, rfl, by decide +kernel, by decide +kernel⟩
abbrev s_factor_of : Stmt := top 39
theorem sc_factor_of : FnScope ["sign", "word", "number", "is_ones", "bits"] ["sign", "word"] (defScope s_factor_of) := ⟨rfl, rfl, rfl, by decide +kernel, rfl, by decide +kernel, by decide +kernel⟩
abbrev s_row_of : Stmt := top 40
theorem sc_row_of : FnScope ["kind", "text", "line", "words", "deed", "factor", "told", "found", "fits"] ["kind", "text", "line"] (defScope s_row_of) := ⟨rfl, rfl, rfl, by decide +kernel, rfl, by decide +kernel, by decide +kernel⟩
abbrev s_stamp_row : Stmt := top 41
theorem sc_stamp_row : FnScope ["words", "line", "number", "factor"] ["words", "line"] (defScope s_stamp_row) := ⟨rfl, rfl, rfl, by decide +kernel, rfl, by decide +kernel, by decide +kernel⟩
abbrev s_part_of : Stmt := top 42
theorem sc_part_of : FnScope ["kind", "text", "part"] ["kind", "text"] (defScope s_part_of) := ⟨rfl, rfl, rfl, by decide +kernel, rfl, by decide +kernel, by decide +kernel⟩
abbrev s_IdCode_init : Stmt := inClass (top 47) 0
abbrev s_l_bag : Stmt := top 49
theorem sc_l_bag : FnScope ["_law_script", "_law_fold", "_law_cell"] ["_law_script"] (defScope s_l_bag) := ⟨rfl, rfl, rfl, by decide +kernel, rfl, by decide +kernel, by decide +kernel⟩
abbrev s_l_draw : Stmt := top 50
theorem sc_l_draw : FnScope ["_law_bag_here", "_law_limit", "_law_cell", "_law_digit", "_law_base", "_law_found"] ["_law_bag_here", "_law_limit"] (defScope s_l_draw) := ⟨rfl, rfl, rfl, by decide +kernel, rfl, by decide +kernel, by decide +kernel⟩
abbrev s_l_names : Stmt := top 51
theorem sc_l_names : FnScope ["_law_kind", "_law_found"] ["_law_kind"] (defScope s_l_names) := ⟨rfl, rfl, rfl, by decide +kernel, rfl, by decide +kernel, by decide +kernel⟩
abbrev s_l_number : Stmt := top 52
theorem sc_l_number : FnScope ["_law_word", "_law_plain", "_law_sign"] ["_law_word"] (defScope s_l_number) := ⟨rfl, rfl, rfl, by decide +kernel, rfl, by decide +kernel, by decide +kernel⟩
abbrev s_l_is_sum : Stmt := top 53
theorem sc_l_is_sum : FnScope ["_law_kind", "_law_words", "_law_names_here", "_law_seen", "_law_word"] ["_law_kind", "_law_words"] (defScope s_l_is_sum) := ⟨rfl, rfl, rfl, by decide +kernel, rfl, by decide +kernel, by decide +kernel⟩
abbrev s_l_is_power : Stmt := top 54
theorem sc_l_is_power : FnScope ["_law_number_here", "_law_found", "_law_k"] ["_law_number_here"] (defScope s_l_is_power) := ⟨rfl, rfl, rfl, by decide +kernel, rfl, by decide +kernel, by decide +kernel⟩
abbrev s_l_is_factor : Stmt := top 55
theorem sc_l_is_factor : FnScope ["_law_sign", "_law_word", "_law_number_here"] ["_law_sign", "_law_word"] (defScope s_l_is_factor) := ⟨rfl, rfl, rfl, by decide +kernel, rfl, by decide +kernel, by decide +kernel⟩
abbrev s_l_is_part : Stmt := top 56
theorem sc_l_is_part : FnScope ["_law_kind", "_law_words", "_law_rest", "_law_one", "_law_two", "_law_names_here", "_law_word"] ["_law_kind", "_law_words"] (defScope s_l_is_part) := ⟨rfl, rfl, rfl, by decide +kernel, rfl, by decide +kernel, by decide +kernel⟩
abbrev s_l_is_line : Stmt := top 57
theorem sc_l_is_line : FnScope ["_law_kind", "_law_text", "_law_words", "_law_parts", "_law_part", "_law_goals"] ["_law_kind", "_law_text"] (defScope s_l_is_line) := ⟨rfl, rfl, rfl, by decide +kernel, rfl, by decide +kernel, by decide +kernel⟩
abbrev s_l_drawn_number : Stmt := top 58
theorem sc_l_drawn_number : FnScope ["_law_bag_here", "_law_far", "_law_pool"] ["_law_bag_here"] (defScope s_l_drawn_number) := ⟨rfl, rfl, rfl, by decide +kernel, rfl, by decide +kernel, by decide +kernel⟩
abbrev s_l_drawn_line : Stmt := top 59
theorem sc_l_drawn_line : FnScope ["_law_bag_here", "_law_names_here", "_law_one", "_law_two", "_law_told_here", "_law_goal", "_law_sign", "_law_part", "_law_pool", "_law_small"] ["_law_bag_here"] (defScope s_l_drawn_line) := ⟨rfl, rfl, rfl, by decide +kernel, rfl, by decide +kernel, by decide +kernel⟩
abbrev s_l_spoiled : Stmt := top 60
theorem sc_l_spoiled : FnScope ["_law_bag_here", "_law_text", "_law_words", "_law_at", "_law_odd", "_law_late", "_law_amid", "_law_after"] ["_law_bag_here", "_law_text"] (defScope s_l_spoiled) := ⟨rfl, rfl, rfl, by decide +kernel, rfl, by decide +kernel, by decide +kernel⟩
abbrev s_l_told : Stmt := top 61
theorem sc_l_told : FnScope ["_law_kind", "_law_lines", "e"] ["_law_kind", "_law_lines"] (defScope s_l_told) := ⟨rfl, rfl, rfl, by decide +kernel, rfl, by decide +kernel, by decide +kernel⟩
abbrev s_law : Stmt := top 62
theorem sc_law : FnScope ["_law_script", "_law_bag_here", "_law_kind", "_law_turn", "_law_text", "_law_ahead", "_law_opens", "_law_good", "_law_told_here", "_law_test", "_law_rows", "_law_lines"] ["_law_script"] (defScope s_law) := ⟨rfl, rfl, rfl, by decide +kernel, rfl, by decide +kernel, by decide +kernel⟩
abbrev P0 : Program := PySem.Challenge.pw_heldplaces_k17_id_lines_read
/-- what the top has left -/
structure Tx (P : Program) (w : World) (K : PySem.W.Frag) (mg : Str → Option Value) : Prop where
  d_told_number : DefX K mg "told_number" s_told_number
  d_told_atom : DefX K mg "told_atom" s_told_atom
  d_told_sum : DefX K mg "told_sum" s_told_sum
  d_told_part : DefX K mg "told_part" s_told_part
  mk_Reader : ∃ f fd, mg "Reader" = some (.ref (He.ga K "Reader")) ∧ Mk K (He.ga K "Reader") f ∧ FunD K "__init__" "Reader.__init__" (defArgs s_Reader_init) (defBody s_Reader_init) (defScope s_Reader_init) [] [] f fd
  m_Reader_read_block : ∃ f fd, MetX K (He.ga K "Reader") "read_block" "Reader.read_block" s_Reader_read_block f fd
  m_Reader_read_if : ∃ f fd, MetX K (He.ga K "Reader") "read_if" "Reader.read_if" s_Reader_read_if f fd
  d_read_rows : DefX K mg "read_rows" s_read_rows
  d_all_rows : DefX K mg "all_rows" s_all_rows
  d_all_ways : DefX K mg "all_ways" s_all_ways
  mk_CodeText : ∃ f fd, mg "CodeText" = some (.ref (He.ga K "CodeText")) ∧ Mk K (He.ga K "CodeText") f ∧ FunD K "__init__" "CodeText.__init__" (defArgs s_CodeText_init) (defBody s_CodeText_init) (defScope s_CodeText_init) [] [] f fd
  m_CodeText_same : ∃ f fd, MetX K (He.ga K "CodeText") "same" "CodeText.same" s_CodeText_same f fd
  m_CodeText_len : ∃ f fd, MetX K (He.ga K "CodeText") "__len__" "CodeText.__len__" s_CodeText_len f fd
  m_CodeText_iter : ∃ f fd, MetX K (He.ga K "CodeText") "__iter__" "CodeText.__iter__" s_CodeText_iter f fd
  m_CodeText_getitem : ∃ f fd, MetX K (He.ga K "CodeText") "__getitem__" "CodeText.__getitem__" s_CodeText_getitem f fd
  m_CodeText_eq : ∃ f fd, MetX K (He.ga K "CodeText") "__eq__" "CodeText.__eq__" s_CodeText_eq f fd
  d_factors_of : DefX K mg "factors_of" s_factors_of
  d_go_together : DefX K mg "go_together" s_go_together
  d_odd_factors : DefX K mg "odd_factors" s_odd_factors
  d_names_stamp : DefX K mg "names_stamp" s_names_stamp
  d_asks_place : DefX K mg "asks_place" s_asks_place
  d_late_places : DefX K mg "late_places" s_late_places
  d_need_limits : DefX K mg "need_limits" s_need_limits
  d_power_of : DefX K mg "power_of" s_power_of
  d_factor_of : DefX K mg "factor_of" s_factor_of
  d_row_of : DefX K mg "row_of" s_row_of
  d_stamp_row : DefX K mg "stamp_row" s_stamp_row
  d_part_of : DefX K mg "part_of" s_part_of
  d_l_bag : DefX K mg "_law_bag" s_l_bag
  d_l_draw : DefX K mg "_law_draw" s_l_draw
  d_l_names : DefX K mg "_law_names" s_l_names
  d_l_number : DefX K mg "_law_number" s_l_number
  d_l_is_sum : DefX K mg "_law_is_sum" s_l_is_sum
  d_l_is_power : DefX K mg "_law_is_power" s_l_is_power
  d_l_is_factor : DefX K mg "_law_is_factor" s_l_is_factor
  d_l_is_part : DefX K mg "_law_is_part" s_l_is_part
  d_l_is_line : DefX K mg "_law_is_line" s_l_is_line
  d_l_drawn_number : DefX K mg "_law_drawn_number" s_l_drawn_number
  d_l_drawn_line : DefX K mg "_law_drawn_line" s_l_drawn_line
  d_l_spoiled : DefX K mg "_law_spoiled" s_l_spoiled
  d_l_told : DefX K mg "_law_told" s_l_told
  d_law : DefX K mg "law" s_law
  sup_IdCode : SupB.SupD P K "IdCode" "IdCode.__init__" "CodeText.__init__" s_IdCode_init s_CodeText_init ["self", "kind", "text", "__class__", "row", "part"] ["self", "kind", "text"]
  m_IdCode_same : ∃ f fd, MetX K (He.ga K "IdCode") "same" "CodeText.same" s_CodeText_same f fd
  m_IdCode_len : ∃ f fd, MetX K (He.ga K "IdCode") "__len__" "CodeText.__len__" s_CodeText_len f fd
  m_IdCode_iter : ∃ f fd, MetX K (He.ga K "IdCode") "__iter__" "CodeText.__iter__" s_CodeText_iter f fd
  m_IdCode_getitem : ∃ f fd, MetX K (He.ga K "IdCode") "__getitem__" "CodeText.__getitem__" s_CodeText_getitem f fd
  m_IdCode_eq : ∃ f fd, MetX K (He.ga K "IdCode") "__eq__" "CodeText.__eq__" s_CodeText_eq f fd
  ne_CodeText : PySem.W.findIn K (.ref (He.ga K "CodeText")) "__ne__" = some (some (.builtin "object.__ne__"))
  cm_CodeText : PySem.W.mroIn K (He.ga K "CodeText") (.type "object") = some true
  ca_CodeText : PySem.W.findIn K (.ref (He.ga K "CodeText")) "__class__" = some (some (.builtin "object.__class__"))
  ne_IdCode : PySem.W.findIn K (.ref (He.ga K "IdCode")) "__ne__" = some (some (.builtin "object.__ne__"))
  cm_IdCode : PySem.W.mroIn K (He.ga K "IdCode") (.type "object") = some true
  ca_IdCode : PySem.W.findIn K (.ref (He.ga K "IdCode")) "__class__" = some (some (.builtin "object.__class__"))
  kc_IdCode : PySem.W.kitOne K (.ref (He.ga K "IdCode")) (.ref (He.ga K "CodeText")) = some true
  cn_obj : PySem.W.specialIn K (.builtin "object.__class__") "__get__" = some (some (.builtin "getset_descriptor.__get__"))
  ct_obj : PySem.W.takesIn K (.builtin "object.__class__") = some true
  x_BadKind_BadKind : PySem.W.exmOne K (.ref (He.ga K "BadKind")) (.ref (He.ga K "BadKind")) = some true
  x_BadKind_BadLine : PySem.W.exmOne K (.ref (He.ga K "BadKind")) (.ref (He.ga K "BadLine")) = some false
  x_BadKind_Refused : PySem.W.exmOne K (.ref (He.ga K "BadKind")) (.ref (He.ga K "Refused")) = some false
  x_BadKind_TooMany : PySem.W.exmOne K (.ref (He.ga K "BadKind")) (.ref (He.ga K "TooMany")) = some false
  x_BadLine_BadKind : PySem.W.exmOne K (.ref (He.ga K "BadLine")) (.ref (He.ga K "BadKind")) = some false
  x_BadLine_BadLine : PySem.W.exmOne K (.ref (He.ga K "BadLine")) (.ref (He.ga K "BadLine")) = some true
  x_BadLine_Refused : PySem.W.exmOne K (.ref (He.ga K "BadLine")) (.ref (He.ga K "Refused")) = some false
  x_BadLine_TooMany : PySem.W.exmOne K (.ref (He.ga K "BadLine")) (.ref (He.ga K "TooMany")) = some false
  x_Refused_BadKind : PySem.W.exmOne K (.ref (He.ga K "Refused")) (.ref (He.ga K "BadKind")) = some false
  x_Refused_BadLine : PySem.W.exmOne K (.ref (He.ga K "Refused")) (.ref (He.ga K "BadLine")) = some false
  x_Refused_Refused : PySem.W.exmOne K (.ref (He.ga K "Refused")) (.ref (He.ga K "Refused")) = some true
  x_Refused_TooMany : PySem.W.exmOne K (.ref (He.ga K "Refused")) (.ref (He.ga K "TooMany")) = some false
  x_TooMany_BadKind : PySem.W.exmOne K (.ref (He.ga K "TooMany")) (.ref (He.ga K "BadKind")) = some false
  x_TooMany_BadLine : PySem.W.exmOne K (.ref (He.ga K "TooMany")) (.ref (He.ga K "BadLine")) = some false
  x_TooMany_Refused : PySem.W.exmOne K (.ref (He.ga K "TooMany")) (.ref (He.ga K "Refused")) = some false
  x_TooMany_TooMany : PySem.W.exmOne K (.ref (He.ga K "TooMany")) (.ref (He.ga K "TooMany")) = some true
  cl_Reader : Cls K (He.ga K "Reader")
  g_Reader : mg "Reader" = some (.ref (He.ga K "Reader"))
  na_Reader_ifs : NoAttr K (He.ga K "Reader") "ifs"
  na_Reader_line : NoAttr K (He.ga K "Reader") "line"
  na_Reader_own_lines : NoAttr K (He.ga K "Reader") "own_lines"
  na_Reader_part_of : NoAttr K (He.ga K "Reader") "part_of"
  na_Reader_row_of : NoAttr K (He.ga K "Reader") "row_of"
  cl_CodeText : Cls K (He.ga K "CodeText")
  g_CodeText : mg "CodeText" = some (.ref (He.ga K "CodeText"))
  na_CodeText_kind : NoAttr K (He.ga K "CodeText") "kind"
  na_CodeText_own_lines : NoAttr K (He.ga K "CodeText") "own_lines"
  na_CodeText_own_tables : NoAttr K (He.ga K "CodeText") "own_tables"
  na_CodeText_part : NoAttr K (He.ga K "CodeText") "part"
  na_CodeText_text : NoAttr K (He.ga K "CodeText") "text"
  cl_IdCode : Cls K (He.ga K "IdCode")
  g_IdCode : mg "IdCode" = some (.ref (He.ga K "IdCode"))
  na_IdCode_kind : NoAttr K (He.ga K "IdCode") "kind"
  na_IdCode_own_lines : NoAttr K (He.ga K "IdCode") "own_lines"
  na_IdCode_own_tables : NoAttr K (He.ga K "IdCode") "own_tables"
  na_IdCode_part : NoAttr K (He.ga K "IdCode") "part"
  na_IdCode_rows : NoAttr K (He.ga K "IdCode") "rows"
  na_IdCode_text : NoAttr K (He.ga K "IdCode") "text"
  g_HeldError : mg "HeldError" = some (.ref (He.ga K "HeldError"))
  e_BadKind : ErrX.ErrTxt P K ["kind"] (He.ga K "BadKind")
  g_BadKind : mg "BadKind" = some (.ref (He.ga K "BadKind"))
  k_BadKind : ErrK K (He.ga K "BadKind")
  e_BadLine : ErrX.ErrTxt P K ["line"] (He.ga K "BadLine")
  g_BadLine : mg "BadLine" = some (.ref (He.ga K "BadLine"))
  k_BadLine : ErrK K (He.ga K "BadLine")
  e_Refused : ErrX.ErrTxt P K ["line"] (He.ga K "Refused")
  g_Refused : mg "Refused" = some (.ref (He.ga K "Refused"))
  k_Refused : ErrK K (He.ga K "Refused")
  e_TooMany : ErrX.ErrTxt P K ["what", "many", "most"] (He.ga K "TooMany")
  g_TooMany : mg "TooMany" = some (.ref (He.ga K "TooMany"))
  k_TooMany : ErrK K (He.ga K "TooMany")
  b_TypeError : mg "TypeError" = none
  b_ValueError : mg "ValueError" = none
  b_all : mg "all" = none
  b_any : mg "any" = none
  b_enumerate : mg "enumerate" = none
  b_int : mg "int" = none
  b_isinstance : mg "isinstance" = none
  b_len : mg "len" = none
  b_list : mg "list" = none
  b_min : mg "min" = none
  b_range : mg "range" = none
  b_str : mg "str" = none
  b_tuple : mg "tuple" = none
  c_MOST_FIGURES : ∃ t, mg "MOST_FIGURES" = some (.int 30 t)
  c_MOST_TERMS : ∃ t, mg "MOST_TERMS" = some (.int 4 t)
  c_MOST_PARTS : ∃ t, mg "MOST_PARTS" = some (.int 4 t)
  g_ENDINGS_idlimits : mg "ENDINGS_idlimits" = some (.ref (He.ga K "ENDINGS_idlimits"))
  t_ENDINGS_idlimits : ∀ H, SqT K H (He.ga K "ENDINGS_idlimits") [.str "quit", .str "accept", .str "refuse"]
  c_MOST_SIGNS : ∃ t, mg "MOST_SIGNS" = some (.int 5 t)
  c_MOST_SETTINGS : ∃ t, mg "MOST_SETTINGS" = some (.int 3 t)
  g_NAMES : mg "NAMES" = some (.ref (He.ga K "NAMES"))
  kd_NAMES : ∃ es n, KDict K w (He.ga K "NAMES") es n
  kn_NAMES : ∀ z : Str, z ∉ (["give", "free", "look"] : List Str) → PySem.W.nsIn K (He.ga K "NAMES") z = some none
  k_NAMES_give : ∃ a, KDct K w (He.ga K "NAMES") "give" (.ref a) ∧ ∀ H, SqT K H a [.str "page", .str "slot", .str "stamp", .str "word", .str "a", .str "b", .str "c"]
  k_NAMES_free : ∃ a, KDct K w (He.ga K "NAMES") "free" (.ref a) ∧ ∀ H, SqT K H a [.str "page", .str "slot", .str "stamp", .str "a", .str "b", .str "c"]
  k_NAMES_look : ∃ a, KDct K w (He.ga K "NAMES") "look" (.ref a) ∧ ∀ H, SqT K H a [.str "word", .str "page", .str "slot", .str "stamp", .str "a", .str "b", .str "c"]
  g_GOALS : mg "GOALS" = some (.ref (He.ga K "GOALS"))
  kd_GOALS : ∃ es n, KDict K w (He.ga K "GOALS") es n
  kn_GOALS : ∀ z : Str, z ∉ (["give", "free", "look"] : List Str) → PySem.W.nsIn K (He.ga K "GOALS") z = some none
  k_GOALS_give : ∃ a, KDct K w (He.ga K "GOALS") "give" (.ref a) ∧ ∀ H, SqT K H a [.str "word", .str "a", .str "b", .str "c"]
  k_GOALS_free : ∃ a, KDct K w (He.ga K "GOALS") "free" (.ref a) ∧ ∀ H, SqT K H a [.str "a", .str "b", .str "c"]
  k_GOALS_look : ∃ a, KDct K w (He.ga K "GOALS") "look" (.ref a) ∧ ∀ H, SqT K H a [.str "page", .str "slot", .str "a", .str "b", .str "c"]
  g_ENDINGS_idreader : mg "ENDINGS_idreader" = some (.ref (He.ga K "ENDINGS_idreader"))
  kd_ENDINGS_idreader : ∃ es n, KDict K w (He.ga K "ENDINGS_idreader") es n
  kn_ENDINGS_idreader : ∀ z : Str, z ∉ (["give", "free", "look"] : List Str) → PySem.W.nsIn K (He.ga K "ENDINGS_idreader") z = some none
  k_ENDINGS_idreader_give : ∃ a, KDct K w (He.ga K "ENDINGS_idreader") "give" (.ref a) ∧ ∀ H, SqT K H a [.str "quit"]
  k_ENDINGS_idreader_free : ∃ a, KDct K w (He.ga K "ENDINGS_idreader") "free" (.ref a) ∧ ∀ H, SqT K H a [.str "quit", .str "retire"]
  k_ENDINGS_idreader_look : ∃ a, KDct K w (He.ga K "ENDINGS_idreader") "look" (.ref a) ∧ ∀ H, SqT K H a [.str "accept", .str "refuse"]
  g_DEEDS : mg "DEEDS" = some (.ref (He.ga K "DEEDS"))
  kd_DEEDS : ∃ es n, KDict K w (He.ga K "DEEDS") es n
  kn_DEEDS : ∀ z : Str, z ∉ (["*", "<<", "//", ">>", "mod", "&"] : List Str) → PySem.W.nsIn K (He.ga K "DEEDS") z = some none
  k_DEEDS_x2a : KDct K w (He.ga K "DEEDS") "*" (.str "times")
  k_DEEDS_x3cx3c : KDct K w (He.ga K "DEEDS") "<<" (.str "times")
  k_DEEDS_x2fx2f : KDct K w (He.ga K "DEEDS") "//" (.str "over")
  k_DEEDS_x3ex3e : KDct K w (He.ga K "DEEDS") ">>" (.str "over")
  k_DEEDS_mod : KDct K w (He.ga K "DEEDS") "mod" (.str "rest")
  k_DEEDS_x26 : KDct K w (He.ga K "DEEDS") "&" (.str "rest")
  g_ASKED : mg "ASKED" = some (.ref (He.ga K "ASKED"))
  t_ASKED : ∀ H, SqT K H (He.ga K "ASKED") [.str "page", .str "slot", .str "stamp"]
  c_MOST_BITS : ∃ t, mg "MOST_BITS" = some (.int 90 t)
  c_MOST_STEP : ∃ t, mg "MOST_STEP" = some (.int 12 t)
  g_KINDS : mg "KINDS" = some (.ref (He.ga K "KINDS"))
  t_KINDS : ∀ H, SqT K H (He.ga K "KINDS") [.str "give", .str "free", .str "look"]
  c_MOST_LINES : ∃ t, mg "MOST_LINES" = some (.int 30 t)
  c_MOST_IFS : ∃ t, mg "MOST_IFS" = some (.int 5 t)
end K17


set_option Elab.async false
set_option linter.all false
set_option maxRecDepth 100000
set_option maxHeartbeats 0
namespace K17.HdX
open PySem PySem.Spec PyProof.Rows L2 He HeE
def h_told_number : He.DefD := ⟨("told_number", none), "told_number", "told_number", defArgs s_told_number, defBody s_told_number, defScope s_told_number, [], []⟩
def h_told_atom : He.DefD := ⟨("told_atom", none), "told_atom", "told_atom", defArgs s_told_atom, defBody s_told_atom, defScope s_told_atom, [], []⟩
def h_told_sum : He.DefD := ⟨("told_sum", none), "told_sum", "told_sum", defArgs s_told_sum, defBody s_told_sum, defScope s_told_sum, [], []⟩
def h_told_part : He.DefD := ⟨("told_part", none), "told_part", "told_part", defArgs s_told_part, defBody s_told_part, defScope s_told_part, [], []⟩
def h_Reader_init : He.DefD := ⟨("Reader", some "__init__"), "__init__", "Reader.__init__", defArgs s_Reader_init, defBody s_Reader_init, defScope s_Reader_init, [], []⟩
def h_Reader_read_block : He.DefD := ⟨("Reader", some "read_block"), "read_block", "Reader.read_block", defArgs s_Reader_read_block, defBody s_Reader_read_block, defScope s_Reader_read_block, [], []⟩
def h_Reader_read_if : He.DefD := ⟨("Reader", some "read_if"), "read_if", "Reader.read_if", defArgs s_Reader_read_if, defBody s_Reader_read_if, defScope s_Reader_read_if, [], []⟩
def h_read_rows : He.DefD := ⟨("read_rows", none), "read_rows", "read_rows", defArgs s_read_rows, defBody s_read_rows, defScope s_read_rows, [], []⟩
def h_all_rows : He.DefD := ⟨("all_rows", none), "all_rows", "all_rows", defArgs s_all_rows, defBody s_all_rows, defScope s_all_rows, [], []⟩
def h_all_ways : He.DefD := ⟨("all_ways", none), "all_ways", "all_ways", defArgs s_all_ways, defBody s_all_ways, defScope s_all_ways, [], []⟩
def h_CodeText_init : He.DefD := ⟨("CodeText", some "__init__"), "__init__", "CodeText.__init__", defArgs s_CodeText_init, defBody s_CodeText_init, defScope s_CodeText_init, [], []⟩
def h_CodeText_same : He.DefD := ⟨("CodeText", some "same"), "same", "CodeText.same", defArgs s_CodeText_same, defBody s_CodeText_same, defScope s_CodeText_same, [], []⟩
def h_CodeText_len : He.DefD := ⟨("CodeText", some "__len__"), "__len__", "CodeText.__len__", defArgs s_CodeText_len, defBody s_CodeText_len, defScope s_CodeText_len, [], []⟩
def h_CodeText_iter : He.DefD := ⟨("CodeText", some "__iter__"), "__iter__", "CodeText.__iter__", defArgs s_CodeText_iter, defBody s_CodeText_iter, defScope s_CodeText_iter, [], []⟩
def h_CodeText_getitem : He.DefD := ⟨("CodeText", some "__getitem__"), "__getitem__", "CodeText.__getitem__", defArgs s_CodeText_getitem, defBody s_CodeText_getitem, defScope s_CodeText_getitem, [], []⟩
def h_CodeText_eq : He.DefD := ⟨("CodeText", some "__eq__"), "__eq__", "CodeText.__eq__", defArgs s_CodeText_eq, defBody s_CodeText_eq, defScope s_CodeText_eq, [], []⟩
def h_factors_of : He.DefD := ⟨("factors_of", none), "factors_of", "factors_of", defArgs s_factors_of, defBody s_factors_of, defScope s_factors_of, [], []⟩
def h_go_together : He.DefD := ⟨("go_together", none), "go_together", "go_together", defArgs s_go_together, defBody s_go_together, defScope s_go_together, [], []⟩
def h_odd_factors : He.DefD := ⟨("odd_factors", none), "odd_factors", "odd_factors", defArgs s_odd_factors, defBody s_odd_factors, defScope s_odd_factors, [], []⟩
def h_names_stamp : He.DefD := ⟨("names_stamp", none), "names_stamp", "names_stamp", defArgs s_names_stamp, defBody s_names_stamp, defScope s_names_stamp, [], []⟩
def h_asks_place : He.DefD := ⟨("asks_place", none), "asks_place", "asks_place", defArgs s_asks_place, defBody s_asks_place, defScope s_asks_place, [], []⟩
def h_late_places : He.DefD := ⟨("late_places", none), "late_places", "late_places", defArgs s_late_places, defBody s_late_places, defScope s_late_places, [], []⟩
def h_need_limits : He.DefD := ⟨("need_limits", none), "need_limits", "need_limits", defArgs s_need_limits, defBody s_need_limits, defScope s_need_limits, [], []⟩
def h_power_of : He.DefD := ⟨("power_of", none), "power_of", "power_of", defArgs s_power_of, defBody s_power_of, defScope s_power_of, [], []⟩
def h_factor_of : He.DefD := ⟨("factor_of", none), "factor_of", "factor_of", defArgs s_factor_of, defBody s_factor_of, defScope s_factor_of, [], []⟩
def h_row_of : He.DefD := ⟨("row_of", none), "row_of", "row_of", defArgs s_row_of, defBody s_row_of, defScope s_row_of, [], []⟩
def h_stamp_row : He.DefD := ⟨("stamp_row", none), "stamp_row", "stamp_row", defArgs s_stamp_row, defBody s_stamp_row, defScope s_stamp_row, [], []⟩
def h_part_of : He.DefD := ⟨("part_of", none), "part_of", "part_of", defArgs s_part_of, defBody s_part_of, defScope s_part_of, [], []⟩
def h_l_bag : He.DefD := ⟨("_law_bag", none), "_law_bag", "_law_bag", defArgs s_l_bag, defBody s_l_bag, defScope s_l_bag, [], []⟩
def h_l_draw : He.DefD := ⟨("_law_draw", none), "_law_draw", "_law_draw", defArgs s_l_draw, defBody s_l_draw, defScope s_l_draw, [], []⟩
def h_l_names : He.DefD := ⟨("_law_names", none), "_law_names", "_law_names", defArgs s_l_names, defBody s_l_names, defScope s_l_names, [], []⟩
def h_l_number : He.DefD := ⟨("_law_number", none), "_law_number", "_law_number", defArgs s_l_number, defBody s_l_number, defScope s_l_number, [], []⟩
def h_l_is_sum : He.DefD := ⟨("_law_is_sum", none), "_law_is_sum", "_law_is_sum", defArgs s_l_is_sum, defBody s_l_is_sum, defScope s_l_is_sum, [], []⟩
def h_l_is_power : He.DefD := ⟨("_law_is_power", none), "_law_is_power", "_law_is_power", defArgs s_l_is_power, defBody s_l_is_power, defScope s_l_is_power, [], []⟩
def h_l_is_factor : He.DefD := ⟨("_law_is_factor", none), "_law_is_factor", "_law_is_factor", defArgs s_l_is_factor, defBody s_l_is_factor, defScope s_l_is_factor, [], []⟩
def h_l_is_part : He.DefD := ⟨("_law_is_part", none), "_law_is_part", "_law_is_part", defArgs s_l_is_part, defBody s_l_is_part, defScope s_l_is_part, [], []⟩
def h_l_is_line : He.DefD := ⟨("_law_is_line", none), "_law_is_line", "_law_is_line", defArgs s_l_is_line, defBody s_l_is_line, defScope s_l_is_line, [], []⟩
def h_l_drawn_number : He.DefD := ⟨("_law_drawn_number", none), "_law_drawn_number", "_law_drawn_number", defArgs s_l_drawn_number, defBody s_l_drawn_number, defScope s_l_drawn_number, [], []⟩
def h_l_drawn_line : He.DefD := ⟨("_law_drawn_line", none), "_law_drawn_line", "_law_drawn_line", defArgs s_l_drawn_line, defBody s_l_drawn_line, defScope s_l_drawn_line, [], []⟩
def h_l_spoiled : He.DefD := ⟨("_law_spoiled", none), "_law_spoiled", "_law_spoiled", defArgs s_l_spoiled, defBody s_l_spoiled, defScope s_l_spoiled, [], []⟩
def h_l_told : He.DefD := ⟨("_law_told", none), "_law_told", "_law_told", defArgs s_l_told, defBody s_l_told, defScope s_l_told, [], []⟩
def h_law : He.DefD := ⟨("law", none), "law", "law", defArgs s_law, defBody s_law, defScope s_law, [], []⟩
def h_IdCode_same : He.DefD := ⟨("IdCode", some "same"), "same", "CodeText.same", defArgs s_CodeText_same, defBody s_CodeText_same, defScope s_CodeText_same, [], []⟩
def h_IdCode_len : He.DefD := ⟨("IdCode", some "__len__"), "__len__", "CodeText.__len__", defArgs s_CodeText_len, defBody s_CodeText_len, defScope s_CodeText_len, [], []⟩
def h_IdCode_iter : He.DefD := ⟨("IdCode", some "__iter__"), "__iter__", "CodeText.__iter__", defArgs s_CodeText_iter, defBody s_CodeText_iter, defScope s_CodeText_iter, [], []⟩
def h_IdCode_getitem : He.DefD := ⟨("IdCode", some "__getitem__"), "__getitem__", "CodeText.__getitem__", defArgs s_CodeText_getitem, defBody s_CodeText_getitem, defScope s_CodeText_getitem, [], []⟩
def h_IdCode_eq : He.DefD := ⟨("IdCode", some "__eq__"), "__eq__", "CodeText.__eq__", defArgs s_CodeText_eq, defBody s_CodeText_eq, defScope s_CodeText_eq, [], []⟩
def fn0 : List He.DefD := [h_told_number, h_told_atom, h_told_sum, h_told_part, h_Reader_init, h_Reader_read_block, h_Reader_read_if, h_read_rows, h_all_rows, h_all_ways, h_CodeText_init, h_CodeText_same, h_CodeText_len, h_CodeText_iter, h_CodeText_getitem, h_CodeText_eq, h_factors_of, h_go_together, h_odd_factors, h_names_stamp, h_asks_place, h_late_places, h_need_limits, h_power_of, h_factor_of]
def fn1 : List He.DefD := [h_row_of, h_stamp_row, h_part_of, h_l_bag, h_l_draw, h_l_names, h_l_number, h_l_is_sum, h_l_is_power, h_l_is_factor, h_l_is_part, h_l_is_line, h_l_drawn_number, h_l_drawn_line, h_l_spoiled, h_l_told, h_law, h_IdCode_same, h_IdCode_len, h_IdCode_iter, h_IdCode_getitem, h_IdCode_eq]
abbrev fn : List He.DefD := fn0 ++ fn1
def fa0 : List He.Fa := [.glo "told_number", .glo "told_atom", .glo "told_sum", .glo "told_part", .glo "Reader", .mkr "Reader", .cls "Reader", .meth "Reader" "read_block", .meth "Reader" "read_if", .glo "read_rows", .glo "all_rows", .glo "all_ways", .glo "CodeText", .mkr "CodeText", .cls "CodeText", .meth "CodeText" "same", .meth "CodeText" "__len__", .meth "CodeText" "__iter__", .meth "CodeText" "__getitem__", .meth "CodeText" "__eq__", .glo "factors_of", .glo "go_together", .glo "odd_factors", .glo "names_stamp", .glo "asks_place"]
def fa1 : List He.Fa := [.glo "late_places", .glo "need_limits", .glo "power_of", .glo "factor_of", .glo "row_of", .glo "stamp_row", .glo "part_of", .glo "_law_bag", .glo "_law_draw", .glo "_law_names", .glo "_law_number", .glo "_law_is_sum", .glo "_law_is_power", .glo "_law_is_factor", .glo "_law_is_part", .glo "_law_is_line", .glo "_law_drawn_number", .glo "_law_drawn_line", .glo "_law_spoiled", .glo "_law_told", .glo "law", .cls "IdCode", .meth "IdCode" "same", .meth "IdCode" "__len__", .meth "IdCode" "__iter__"]
def fa2 : List He.Fa := [.meth "IdCode" "__getitem__", .meth "IdCode" "__eq__", .mkr "IdCode", .noat "Reader" "ifs", .noat "Reader" "line", .noat "Reader" "own_lines", .noat "Reader" "part_of", .noat "Reader" "row_of", .noat "CodeText" "kind", .noat "CodeText" "own_lines", .noat "CodeText" "own_tables", .noat "CodeText" "part", .noat "CodeText" "text", .glo "IdCode", .noat "IdCode" "kind", .noat "IdCode" "own_lines", .noat "IdCode" "own_tables", .noat "IdCode" "part", .noat "IdCode" "rows", .noat "IdCode" "text", .glo "HeldError", .free "TypeError", .free "ValueError", .free "all", .free "any"]
def fa3 : List He.Fa := [.free "enumerate", .free "int", .free "isinstance", .free "len", .free "list", .free "min", .free "range", .free "str", .free "tuple", .int "MOST_FIGURES" 30, .int "MOST_TERMS" 4, .int "MOST_PARTS" 4, .glo "ENDINGS_idlimits", .int "MOST_SIGNS" 5, .int "MOST_SETTINGS" 3, .glo "NAMES", .glo "GOALS", .glo "ENDINGS_idreader", .glo "DEEDS", .glo "ASKED", .int "MOST_BITS" 90, .int "MOST_STEP" 12, .glo "KINDS", .int "MOST_LINES" 30, .int "MOST_IFS" 5]
abbrev fa : List He.Fa := fa0 ++ fa1 ++ fa2 ++ fa3
def e_BadKind : ErrD := ⟨"BadKind", ["kind"], "BadKind.__init__", defArgs s_BadKind_init, defBody s_BadKind_init, defScope s_BadKind_init⟩
def e_BadLine : ErrD := ⟨"BadLine", ["line"], "BadLine.__init__", defArgs s_BadLine_init, defBody s_BadLine_init, defScope s_BadLine_init⟩
def e_Refused : ErrD := ⟨"Refused", ["line"], "Refused.__init__", defArgs s_Refused_init, defBody s_Refused_init, defScope s_Refused_init⟩
def e_TooMany : ErrD := ⟨"TooMany", ["what", "many", "most"], "TooMany.__init__", defArgs s_TooMany_init, defBody s_TooMany_init, defScope s_TooMany_init⟩
def er : List ErrD := [e_BadKind, e_BadLine, e_Refused, e_TooMany]
def u_IdCode : ErrD := ⟨"IdCode", [], "IdCode.__init__", defArgs s_IdCode_init, defBody s_IdCode_init, defScope s_IdCode_init⟩
theorem s_u_IdCode : SupSB P0 "IdCode.__init__" s_IdCode_init ["self", "kind", "text", "__class__", "row", "part"] ["self", "kind", "text"] := ⟨rfl, BothX.bscope_by (by decide +kernel), by decide +kernel, rfl, rfl, ⟨rfl, _, rfl, rfl⟩, ⟨_, _, _, _, _, rfl, fun env => ⟨⟨_, rfl⟩, rfl, rfl⟩⟩, fun cc c doc pm ctv us hl => match us, hl with | [_, _, _], _ => rfl⟩
def su : List ErrD := [u_IdCode]
def tabs : List (Str × List Str) := [("NAMES", ["give", "free", "look"]), ("GOALS", ["give", "free", "look"]), ("ENDINGS_idreader", ["give", "free", "look"]), ("DEEDS", ["*", "<<", "//", ">>", "mod", "&"])]
def tf : List Defn := [("IdCode", some "__init__")]
def file : Str := P0.main.file
def exL (K : PySem.W.Frag) : List Bool := [
  supB K file "IdCode" "CodeText" "IdCode.__init__",
  eqO (PySem.W.findIn K (.ref (He.ga K "CodeText")) "__ne__") (some (some (.builtin "object.__ne__"))),
  HeE.okO (PySem.W.mroIn K (He.ga K "CodeText") (.type "object")) (some true),
  eqO (PySem.W.findIn K (.ref (He.ga K "CodeText")) "__class__") (some (some (.builtin "object.__class__"))),
  eqO (PySem.W.findIn K (.ref (He.ga K "IdCode")) "__ne__") (some (some (.builtin "object.__ne__"))),
  HeE.okO (PySem.W.mroIn K (He.ga K "IdCode") (.type "object")) (some true),
  eqO (PySem.W.findIn K (.ref (He.ga K "IdCode")) "__class__") (some (some (.builtin "object.__class__"))),
  HeE.okO (PySem.W.kitOne K (.ref (He.ga K "IdCode")) (.ref (He.ga K "CodeText"))) (some true),
  eqO (PySem.W.specialIn K (.builtin "object.__class__") "__get__") (some (some (.builtin "getset_descriptor.__get__"))),
  HeE.okO (PySem.W.takesIn K (.builtin "object.__class__")) (some true),
  HeE.okO (PySem.W.exmOne K (.ref (He.ga K "BadKind")) (.ref (He.ga K "BadKind"))) (some true),
  HeE.okO (PySem.W.exmOne K (.ref (He.ga K "BadKind")) (.ref (He.ga K "BadLine"))) (some false),
  HeE.okO (PySem.W.exmOne K (.ref (He.ga K "BadKind")) (.ref (He.ga K "Refused"))) (some false),
  HeE.okO (PySem.W.exmOne K (.ref (He.ga K "BadKind")) (.ref (He.ga K "TooMany"))) (some false),
  HeE.okO (PySem.W.exmOne K (.ref (He.ga K "BadLine")) (.ref (He.ga K "BadKind"))) (some false),
  HeE.okO (PySem.W.exmOne K (.ref (He.ga K "BadLine")) (.ref (He.ga K "BadLine"))) (some true),
  HeE.okO (PySem.W.exmOne K (.ref (He.ga K "BadLine")) (.ref (He.ga K "Refused"))) (some false),
  HeE.okO (PySem.W.exmOne K (.ref (He.ga K "BadLine")) (.ref (He.ga K "TooMany"))) (some false),
  HeE.okO (PySem.W.exmOne K (.ref (He.ga K "Refused")) (.ref (He.ga K "BadKind"))) (some false),
  HeE.okO (PySem.W.exmOne K (.ref (He.ga K "Refused")) (.ref (He.ga K "BadLine"))) (some false),
  HeE.okO (PySem.W.exmOne K (.ref (He.ga K "Refused")) (.ref (He.ga K "Refused"))) (some true),
  HeE.okO (PySem.W.exmOne K (.ref (He.ga K "Refused")) (.ref (He.ga K "TooMany"))) (some false),
  HeE.okO (PySem.W.exmOne K (.ref (He.ga K "TooMany")) (.ref (He.ga K "BadKind"))) (some false),
  HeE.okO (PySem.W.exmOne K (.ref (He.ga K "TooMany")) (.ref (He.ga K "BadLine"))) (some false),
  HeE.okO (PySem.W.exmOne K (.ref (He.ga K "TooMany")) (.ref (He.ga K "Refused"))) (some false),
  HeE.okO (PySem.W.exmOne K (.ref (He.ga K "TooMany")) (.ref (He.ga K "TooMany"))) (some true),
  tupB K "ENDINGS_idlimits" [.str "quit", .str "accept", .str "refuse"],
  tvB K "NAMES" "give" ["page", "slot", "stamp", "word", "a", "b", "c"],
  tvB K "NAMES" "free" ["page", "slot", "stamp", "a", "b", "c"],
  tvB K "NAMES" "look" ["word", "page", "slot", "stamp", "a", "b", "c"],
  tvB K "GOALS" "give" ["word", "a", "b", "c"],
  tvB K "GOALS" "free" ["a", "b", "c"],
  tvB K "GOALS" "look" ["page", "slot", "a", "b", "c"],
  tvB K "ENDINGS_idreader" "give" ["quit"],
  tvB K "ENDINGS_idreader" "free" ["quit", "retire"],
  tvB K "ENDINGS_idreader" "look" ["accept", "refuse"],
  svB K "DEEDS" "*" "times",
  svB K "DEEDS" "<<" "times",
  svB K "DEEDS" "//" "over",
  svB K "DEEDS" ">>" "over",
  svB K "DEEDS" "mod" "rest",
  svB K "DEEDS" "&" "rest",
  tupB K "ASKED" [.str "page", .str "slot", .str "stamp"],
  tupB K "KINDS" [.str "give", .str "free", .str "look"]]
def ex (K : PySem.W.Frag) : Bool := (exL K).all id
theorem s_e_BadKind : ErrS P0 e_BadKind := ⟨rfl, by decide +kernel, by decide +kernel, by decide +kernel, by decide +kernel, by decide, rfl, ⟨_, rfl, rfl⟩, ⟨_, _, _, _, _, _, _, _, [⟨"kind", _, _, _, _⟩], rfl, rfl, fun env => ⟨_, rfl⟩⟩, fun kV doc pm an cda ct cc self us hl => match us, hl with | [_], _ => rfl⟩
theorem s_e_BadLine : ErrS P0 e_BadLine := ⟨rfl, by decide +kernel, by decide +kernel, by decide +kernel, by decide +kernel, by decide, rfl, ⟨_, rfl, rfl⟩, ⟨_, _, _, _, _, _, _, _, [⟨"line", _, _, _, _⟩], rfl, rfl, fun env => ⟨_, rfl⟩⟩, fun kV doc pm an cda ct cc self us hl => match us, hl with | [_], _ => rfl⟩
theorem s_e_Refused : ErrS P0 e_Refused := ⟨rfl, by decide +kernel, by decide +kernel, by decide +kernel, by decide +kernel, by decide, rfl, ⟨_, rfl, rfl⟩, ⟨_, _, _, _, _, _, _, _, [⟨"line", _, _, _, _⟩], rfl, rfl, fun env => ⟨_, rfl⟩⟩, fun kV doc pm an cda ct cc self us hl => match us, hl with | [_], _ => rfl⟩
theorem s_e_TooMany : ErrS P0 e_TooMany := ⟨rfl, by decide +kernel, by decide +kernel, by decide +kernel, by decide +kernel, by decide, rfl, ⟨_, rfl, rfl⟩, ⟨_, _, _, _, _, _, _, _, [⟨"what", _, _, _, _⟩, ⟨"many", _, _, _, _⟩, ⟨"most", _, _, _, _⟩], rfl, rfl, fun env => ⟨_, rfl⟩⟩, fun kV doc pm an cda ct cc self us hl => match us, hl with | [_, _, _], _ => rfl⟩
abbrev R : PySem.W.OpenRow := PySem.W.OpenLaw.row PySem.Challenge.rw_heldplaces_k17_id_lines_read
abbrev hk : PySem.W.Hook := hookG file 5 fa fn er su tabs tf ex
def ob (s : PySem.W.SharedT) : AlF := obsG file fa fn er su tabs tf ex (HandSHeadRun.getT s) (HeE.frE (HandSHeadRun.getT s) 5)
theorem ob_eq (s : PySem.W.SharedT) : ob s = hk.obs s.abs := obsG_eq (HandSHeadRun.getT_eq s)
def names0 : List PySem.Str := ["HeldError", "BadKind", "BadLine", "Refused", "TooMany", "MOST_FIGURES", "MOST_TERMS", "MOST_PARTS", "told_number", "told_atom", "told_sum", "told_part", "Reader", "read_rows", "all_rows", "all_ways", "CodeText", "ENDINGS_idlimits", "MOST_SIGNS", "MOST_SETTINGS", "factors_of", "go_together", "odd_factors", "names_stamp", "asks_place"]
def names1 : List PySem.Str := ["late_places", "need_limits", "NAMES", "GOALS", "ENDINGS_idreader", "DEEDS", "ASKED", "MOST_BITS", "MOST_STEP", "power_of", "factor_of", "row_of", "stamp_row", "part_of", "KINDS", "MOST_LINES", "MOST_IFS", "IdCode", "_law_bag", "_law_draw", "_law_names", "_law_number", "_law_is_sum", "_law_is_power", "_law_is_factor"]
def names2 : List PySem.Str := ["_law_is_part", "_law_is_line", "_law_drawn_number", "_law_drawn_line", "_law_spoiled", "_law_told"]
abbrev names : List PySem.Str := names0 ++ names1 ++ names2
theorem tx {w : World} {h : Heap} {K : PySem.W.Frag} {mg : Str → Option Value} (X : K.In h) (G : h.Ns mainGlobals mg) (c : SaysG file fa fn er su tabs tf ex w h K) : Tx P0 w K mg where
  d_told_number := by
    obtain ⟨fd, F⟩ := c.fn h_told_number (by simp [fn, fn0, fn1])
    exact ⟨_, fd, glo_ok X G (c.fa (.glo "told_number") (by simp [fa, fa0, fa1, fa2, fa3])), F⟩
  d_told_atom := by
    obtain ⟨fd, F⟩ := c.fn h_told_atom (by simp [fn, fn0, fn1])
    exact ⟨_, fd, glo_ok X G (c.fa (.glo "told_atom") (by simp [fa, fa0, fa1, fa2, fa3])), F⟩
  d_told_sum := by
    obtain ⟨fd, F⟩ := c.fn h_told_sum (by simp [fn, fn0, fn1])
    exact ⟨_, fd, glo_ok X G (c.fa (.glo "told_sum") (by simp [fa, fa0, fa1, fa2, fa3])), F⟩
  d_told_part := by
    obtain ⟨fd, F⟩ := c.fn h_told_part (by simp [fn, fn0, fn1])
    exact ⟨_, fd, glo_ok X G (c.fa (.glo "told_part") (by simp [fa, fa0, fa1, fa2, fa3])), F⟩
  mk_Reader := by
    obtain ⟨fd, F⟩ := c.fn h_Reader_init (by simp [fn, fn0, fn1])
    exact ⟨_, fd, glo_ok X G (c.fa (.glo "Reader") (by simp [fa, fa0, fa1, fa2, fa3])), mkr_ok (c.fa (.mkr "Reader") (by simp [fa, fa0, fa1, fa2, fa3])), F⟩
  m_Reader_read_block := by
    obtain ⟨fd, F⟩ := c.fn h_Reader_read_block (by simp [fn, fn0, fn1])
    exact ⟨_, fd, cls_ok (c.fa (.cls "Reader") (by simp [fa, fa0, fa1, fa2, fa3])), meth_ok (c.fa (.meth "Reader" "read_block") (by simp [fa, fa0, fa1, fa2, fa3])), F⟩
  m_Reader_read_if := by
    obtain ⟨fd, F⟩ := c.fn h_Reader_read_if (by simp [fn, fn0, fn1])
    exact ⟨_, fd, cls_ok (c.fa (.cls "Reader") (by simp [fa, fa0, fa1, fa2, fa3])), meth_ok (c.fa (.meth "Reader" "read_if") (by simp [fa, fa0, fa1, fa2, fa3])), F⟩
  d_read_rows := by
    obtain ⟨fd, F⟩ := c.fn h_read_rows (by simp [fn, fn0, fn1])
    exact ⟨_, fd, glo_ok X G (c.fa (.glo "read_rows") (by simp [fa, fa0, fa1, fa2, fa3])), F⟩
  d_all_rows := by
    obtain ⟨fd, F⟩ := c.fn h_all_rows (by simp [fn, fn0, fn1])
    exact ⟨_, fd, glo_ok X G (c.fa (.glo "all_rows") (by simp [fa, fa0, fa1, fa2, fa3])), F⟩
  d_all_ways := by
    obtain ⟨fd, F⟩ := c.fn h_all_ways (by simp [fn, fn0, fn1])
    exact ⟨_, fd, glo_ok X G (c.fa (.glo "all_ways") (by simp [fa, fa0, fa1, fa2, fa3])), F⟩
  mk_CodeText := by
    obtain ⟨fd, F⟩ := c.fn h_CodeText_init (by simp [fn, fn0, fn1])
    exact ⟨_, fd, glo_ok X G (c.fa (.glo "CodeText") (by simp [fa, fa0, fa1, fa2, fa3])), mkr_ok (c.fa (.mkr "CodeText") (by simp [fa, fa0, fa1, fa2, fa3])), F⟩
  m_CodeText_same := by
    obtain ⟨fd, F⟩ := c.fn h_CodeText_same (by simp [fn, fn0, fn1])
    exact ⟨_, fd, cls_ok (c.fa (.cls "CodeText") (by simp [fa, fa0, fa1, fa2, fa3])), meth_ok (c.fa (.meth "CodeText" "same") (by simp [fa, fa0, fa1, fa2, fa3])), F⟩
  m_CodeText_len := by
    obtain ⟨fd, F⟩ := c.fn h_CodeText_len (by simp [fn, fn0, fn1])
    exact ⟨_, fd, cls_ok (c.fa (.cls "CodeText") (by simp [fa, fa0, fa1, fa2, fa3])), meth_ok (c.fa (.meth "CodeText" "__len__") (by simp [fa, fa0, fa1, fa2, fa3])), F⟩
  m_CodeText_iter := by
    obtain ⟨fd, F⟩ := c.fn h_CodeText_iter (by simp [fn, fn0, fn1])
    exact ⟨_, fd, cls_ok (c.fa (.cls "CodeText") (by simp [fa, fa0, fa1, fa2, fa3])), meth_ok (c.fa (.meth "CodeText" "__iter__") (by simp [fa, fa0, fa1, fa2, fa3])), F⟩
  m_CodeText_getitem := by
    obtain ⟨fd, F⟩ := c.fn h_CodeText_getitem (by simp [fn, fn0, fn1])
    exact ⟨_, fd, cls_ok (c.fa (.cls "CodeText") (by simp [fa, fa0, fa1, fa2, fa3])), meth_ok (c.fa (.meth "CodeText" "__getitem__") (by simp [fa, fa0, fa1, fa2, fa3])), F⟩
  m_CodeText_eq := by
    obtain ⟨fd, F⟩ := c.fn h_CodeText_eq (by simp [fn, fn0, fn1])
    exact ⟨_, fd, cls_ok (c.fa (.cls "CodeText") (by simp [fa, fa0, fa1, fa2, fa3])), meth_ok (c.fa (.meth "CodeText" "__eq__") (by simp [fa, fa0, fa1, fa2, fa3])), F⟩
  d_factors_of := by
    obtain ⟨fd, F⟩ := c.fn h_factors_of (by simp [fn, fn0, fn1])
    exact ⟨_, fd, glo_ok X G (c.fa (.glo "factors_of") (by simp [fa, fa0, fa1, fa2, fa3])), F⟩
  d_go_together := by
    obtain ⟨fd, F⟩ := c.fn h_go_together (by simp [fn, fn0, fn1])
    exact ⟨_, fd, glo_ok X G (c.fa (.glo "go_together") (by simp [fa, fa0, fa1, fa2, fa3])), F⟩
  d_odd_factors := by
    obtain ⟨fd, F⟩ := c.fn h_odd_factors (by simp [fn, fn0, fn1])
    exact ⟨_, fd, glo_ok X G (c.fa (.glo "odd_factors") (by simp [fa, fa0, fa1, fa2, fa3])), F⟩
  d_names_stamp := by
    obtain ⟨fd, F⟩ := c.fn h_names_stamp (by simp [fn, fn0, fn1])
    exact ⟨_, fd, glo_ok X G (c.fa (.glo "names_stamp") (by simp [fa, fa0, fa1, fa2, fa3])), F⟩
  d_asks_place := by
    obtain ⟨fd, F⟩ := c.fn h_asks_place (by simp [fn, fn0, fn1])
    exact ⟨_, fd, glo_ok X G (c.fa (.glo "asks_place") (by simp [fa, fa0, fa1, fa2, fa3])), F⟩
  d_late_places := by
    obtain ⟨fd, F⟩ := c.fn h_late_places (by simp [fn, fn0, fn1])
    exact ⟨_, fd, glo_ok X G (c.fa (.glo "late_places") (by simp [fa, fa0, fa1, fa2, fa3])), F⟩
  d_need_limits := by
    obtain ⟨fd, F⟩ := c.fn h_need_limits (by simp [fn, fn0, fn1])
    exact ⟨_, fd, glo_ok X G (c.fa (.glo "need_limits") (by simp [fa, fa0, fa1, fa2, fa3])), F⟩
  d_power_of := by
    obtain ⟨fd, F⟩ := c.fn h_power_of (by simp [fn, fn0, fn1])
    exact ⟨_, fd, glo_ok X G (c.fa (.glo "power_of") (by simp [fa, fa0, fa1, fa2, fa3])), F⟩
  d_factor_of := by
    obtain ⟨fd, F⟩ := c.fn h_factor_of (by simp [fn, fn0, fn1])
    exact ⟨_, fd, glo_ok X G (c.fa (.glo "factor_of") (by simp [fa, fa0, fa1, fa2, fa3])), F⟩
  d_row_of := by
    obtain ⟨fd, F⟩ := c.fn h_row_of (by simp [fn, fn0, fn1])
    exact ⟨_, fd, glo_ok X G (c.fa (.glo "row_of") (by simp [fa, fa0, fa1, fa2, fa3])), F⟩
  d_stamp_row := by
    obtain ⟨fd, F⟩ := c.fn h_stamp_row (by simp [fn, fn0, fn1])
    exact ⟨_, fd, glo_ok X G (c.fa (.glo "stamp_row") (by simp [fa, fa0, fa1, fa2, fa3])), F⟩
  d_part_of := by
    obtain ⟨fd, F⟩ := c.fn h_part_of (by simp [fn, fn0, fn1])
    exact ⟨_, fd, glo_ok X G (c.fa (.glo "part_of") (by simp [fa, fa0, fa1, fa2, fa3])), F⟩
  d_l_bag := by
    obtain ⟨fd, F⟩ := c.fn h_l_bag (by simp [fn, fn0, fn1])
    exact ⟨_, fd, glo_ok X G (c.fa (.glo "_law_bag") (by simp [fa, fa0, fa1, fa2, fa3])), F⟩
  d_l_draw := by
    obtain ⟨fd, F⟩ := c.fn h_l_draw (by simp [fn, fn0, fn1])
    exact ⟨_, fd, glo_ok X G (c.fa (.glo "_law_draw") (by simp [fa, fa0, fa1, fa2, fa3])), F⟩
  d_l_names := by
    obtain ⟨fd, F⟩ := c.fn h_l_names (by simp [fn, fn0, fn1])
    exact ⟨_, fd, glo_ok X G (c.fa (.glo "_law_names") (by simp [fa, fa0, fa1, fa2, fa3])), F⟩
  d_l_number := by
    obtain ⟨fd, F⟩ := c.fn h_l_number (by simp [fn, fn0, fn1])
    exact ⟨_, fd, glo_ok X G (c.fa (.glo "_law_number") (by simp [fa, fa0, fa1, fa2, fa3])), F⟩
  d_l_is_sum := by
    obtain ⟨fd, F⟩ := c.fn h_l_is_sum (by simp [fn, fn0, fn1])
    exact ⟨_, fd, glo_ok X G (c.fa (.glo "_law_is_sum") (by simp [fa, fa0, fa1, fa2, fa3])), F⟩
  d_l_is_power := by
    obtain ⟨fd, F⟩ := c.fn h_l_is_power (by simp [fn, fn0, fn1])
    exact ⟨_, fd, glo_ok X G (c.fa (.glo "_law_is_power") (by simp [fa, fa0, fa1, fa2, fa3])), F⟩
  d_l_is_factor := by
    obtain ⟨fd, F⟩ := c.fn h_l_is_factor (by simp [fn, fn0, fn1])
    exact ⟨_, fd, glo_ok X G (c.fa (.glo "_law_is_factor") (by simp [fa, fa0, fa1, fa2, fa3])), F⟩
  d_l_is_part := by
    obtain ⟨fd, F⟩ := c.fn h_l_is_part (by simp [fn, fn0, fn1])
    exact ⟨_, fd, glo_ok X G (c.fa (.glo "_law_is_part") (by simp [fa, fa0, fa1, fa2, fa3])), F⟩
  d_l_is_line := by
    obtain ⟨fd, F⟩ := c.fn h_l_is_line (by simp [fn, fn0, fn1])
    exact ⟨_, fd, glo_ok X G (c.fa (.glo "_law_is_line") (by simp [fa, fa0, fa1, fa2, fa3])), F⟩
  d_l_drawn_number := by
    obtain ⟨fd, F⟩ := c.fn h_l_drawn_number (by simp [fn, fn0, fn1])
    exact ⟨_, fd, glo_ok X G (c.fa (.glo "_law_drawn_number") (by simp [fa, fa0, fa1, fa2, fa3])), F⟩
  d_l_drawn_line := by
    obtain ⟨fd, F⟩ := c.fn h_l_drawn_line (by simp [fn, fn0, fn1])
    exact ⟨_, fd, glo_ok X G (c.fa (.glo "_law_drawn_line") (by simp [fa, fa0, fa1, fa2, fa3])), F⟩
  d_l_spoiled := by
    obtain ⟨fd, F⟩ := c.fn h_l_spoiled (by simp [fn, fn0, fn1])
    exact ⟨_, fd, glo_ok X G (c.fa (.glo "_law_spoiled") (by simp [fa, fa0, fa1, fa2, fa3])), F⟩
  d_l_told := by
    obtain ⟨fd, F⟩ := c.fn h_l_told (by simp [fn, fn0, fn1])
    exact ⟨_, fd, glo_ok X G (c.fa (.glo "_law_told") (by simp [fa, fa0, fa1, fa2, fa3])), F⟩
  d_law := by
    obtain ⟨fd, F⟩ := c.fn h_law (by simp [fn, fn0, fn1])
    exact ⟨_, fd, glo_ok X G (c.fa (.glo "law") (by simp [fa, fa0, fa1, fa2, fa3])), F⟩
  m_IdCode_same := by
    obtain ⟨fd, F⟩ := c.fn h_IdCode_same (by simp [fn, fn0, fn1])
    exact ⟨_, fd, cls_ok (c.fa (.cls "IdCode") (by simp [fa, fa0, fa1, fa2, fa3])), meth_ok (c.fa (.meth "IdCode" "same") (by simp [fa, fa0, fa1, fa2, fa3])), F⟩
  m_IdCode_len := by
    obtain ⟨fd, F⟩ := c.fn h_IdCode_len (by simp [fn, fn0, fn1])
    exact ⟨_, fd, cls_ok (c.fa (.cls "IdCode") (by simp [fa, fa0, fa1, fa2, fa3])), meth_ok (c.fa (.meth "IdCode" "__len__") (by simp [fa, fa0, fa1, fa2, fa3])), F⟩
  m_IdCode_iter := by
    obtain ⟨fd, F⟩ := c.fn h_IdCode_iter (by simp [fn, fn0, fn1])
    exact ⟨_, fd, cls_ok (c.fa (.cls "IdCode") (by simp [fa, fa0, fa1, fa2, fa3])), meth_ok (c.fa (.meth "IdCode" "__iter__") (by simp [fa, fa0, fa1, fa2, fa3])), F⟩
  m_IdCode_getitem := by
    obtain ⟨fd, F⟩ := c.fn h_IdCode_getitem (by simp [fn, fn0, fn1])
    exact ⟨_, fd, cls_ok (c.fa (.cls "IdCode") (by simp [fa, fa0, fa1, fa2, fa3])), meth_ok (c.fa (.meth "IdCode" "__getitem__") (by simp [fa, fa0, fa1, fa2, fa3])), F⟩
  m_IdCode_eq := by
    obtain ⟨fd, F⟩ := c.fn h_IdCode_eq (by simp [fn, fn0, fn1])
    exact ⟨_, fd, cls_ok (c.fa (.cls "IdCode") (by simp [fa, fa0, fa1, fa2, fa3])), meth_ok (c.fa (.meth "IdCode" "__eq__") (by simp [fa, fa0, fa1, fa2, fa3])), F⟩
  sup_IdCode := by
    obtain ⟨fd0, F0⟩ := c.fn h_CodeText_init (by simp [fn, fn0, fn1])
    obtain ⟨f0, fd1, cc, h⟩ := supDB_of (prog := P0) (y := "CodeText") (q0 := "CodeText.__init__") (s0 := s_CodeText_init) (HeE.all_at c.more 0) (c.su u_IdCode (by simp [su])) s_u_IdCode (mkr_ok (c.fa (.mkr "IdCode") (by simp [fa, fa0, fa1, fa2, fa3]))) F0
    exact ⟨f0, fd1, _, cc, _, h⟩
  ne_CodeText := eqO_ok (HeE.all_at c.more 1)
  cm_CodeText := of_decide_eq_true (HeE.all_at c.more 2)
  ca_CodeText := eqO_ok (HeE.all_at c.more 3)
  ne_IdCode := eqO_ok (HeE.all_at c.more 4)
  cm_IdCode := of_decide_eq_true (HeE.all_at c.more 5)
  ca_IdCode := eqO_ok (HeE.all_at c.more 6)
  kc_IdCode := of_decide_eq_true (HeE.all_at c.more 7)
  cn_obj := eqO_ok (HeE.all_at c.more 8)
  ct_obj := of_decide_eq_true (HeE.all_at c.more 9)
  x_BadKind_BadKind := of_decide_eq_true (HeE.all_at c.more 10)
  x_BadKind_BadLine := of_decide_eq_true (HeE.all_at c.more 11)
  x_BadKind_Refused := of_decide_eq_true (HeE.all_at c.more 12)
  x_BadKind_TooMany := of_decide_eq_true (HeE.all_at c.more 13)
  x_BadLine_BadKind := of_decide_eq_true (HeE.all_at c.more 14)
  x_BadLine_BadLine := of_decide_eq_true (HeE.all_at c.more 15)
  x_BadLine_Refused := of_decide_eq_true (HeE.all_at c.more 16)
  x_BadLine_TooMany := of_decide_eq_true (HeE.all_at c.more 17)
  x_Refused_BadKind := of_decide_eq_true (HeE.all_at c.more 18)
  x_Refused_BadLine := of_decide_eq_true (HeE.all_at c.more 19)
  x_Refused_Refused := of_decide_eq_true (HeE.all_at c.more 20)
  x_Refused_TooMany := of_decide_eq_true (HeE.all_at c.more 21)
  x_TooMany_BadKind := of_decide_eq_true (HeE.all_at c.more 22)
  x_TooMany_BadLine := of_decide_eq_true (HeE.all_at c.more 23)
  x_TooMany_Refused := of_decide_eq_true (HeE.all_at c.more 24)
  x_TooMany_TooMany := of_decide_eq_true (HeE.all_at c.more 25)
  cl_Reader := cls_ok (c.fa (.cls "Reader") (by simp [fa, fa0, fa1, fa2, fa3]))
  g_Reader := glo_ok X G (c.fa (.glo "Reader") (by simp [fa, fa0, fa1, fa2, fa3]))
  na_Reader_ifs := noat_ok (c.fa (.noat "Reader" "ifs") (by simp [fa, fa0, fa1, fa2, fa3]))
  na_Reader_line := noat_ok (c.fa (.noat "Reader" "line") (by simp [fa, fa0, fa1, fa2, fa3]))
  na_Reader_own_lines := noat_ok (c.fa (.noat "Reader" "own_lines") (by simp [fa, fa0, fa1, fa2, fa3]))
  na_Reader_part_of := noat_ok (c.fa (.noat "Reader" "part_of") (by simp [fa, fa0, fa1, fa2, fa3]))
  na_Reader_row_of := noat_ok (c.fa (.noat "Reader" "row_of") (by simp [fa, fa0, fa1, fa2, fa3]))
  cl_CodeText := cls_ok (c.fa (.cls "CodeText") (by simp [fa, fa0, fa1, fa2, fa3]))
  g_CodeText := glo_ok X G (c.fa (.glo "CodeText") (by simp [fa, fa0, fa1, fa2, fa3]))
  na_CodeText_kind := noat_ok (c.fa (.noat "CodeText" "kind") (by simp [fa, fa0, fa1, fa2, fa3]))
  na_CodeText_own_lines := noat_ok (c.fa (.noat "CodeText" "own_lines") (by simp [fa, fa0, fa1, fa2, fa3]))
  na_CodeText_own_tables := noat_ok (c.fa (.noat "CodeText" "own_tables") (by simp [fa, fa0, fa1, fa2, fa3]))
  na_CodeText_part := noat_ok (c.fa (.noat "CodeText" "part") (by simp [fa, fa0, fa1, fa2, fa3]))
  na_CodeText_text := noat_ok (c.fa (.noat "CodeText" "text") (by simp [fa, fa0, fa1, fa2, fa3]))
  cl_IdCode := cls_ok (c.fa (.cls "IdCode") (by simp [fa, fa0, fa1, fa2, fa3]))
  g_IdCode := glo_ok X G (c.fa (.glo "IdCode") (by simp [fa, fa0, fa1, fa2, fa3]))
  na_IdCode_kind := noat_ok (c.fa (.noat "IdCode" "kind") (by simp [fa, fa0, fa1, fa2, fa3]))
  na_IdCode_own_lines := noat_ok (c.fa (.noat "IdCode" "own_lines") (by simp [fa, fa0, fa1, fa2, fa3]))
  na_IdCode_own_tables := noat_ok (c.fa (.noat "IdCode" "own_tables") (by simp [fa, fa0, fa1, fa2, fa3]))
  na_IdCode_part := noat_ok (c.fa (.noat "IdCode" "part") (by simp [fa, fa0, fa1, fa2, fa3]))
  na_IdCode_rows := noat_ok (c.fa (.noat "IdCode" "rows") (by simp [fa, fa0, fa1, fa2, fa3]))
  na_IdCode_text := noat_ok (c.fa (.noat "IdCode" "text") (by simp [fa, fa0, fa1, fa2, fa3]))
  g_HeldError := glo_ok X G (c.fa (.glo "HeldError") (by simp [fa, fa0, fa1, fa2, fa3]))
  e_BadKind := errTxt (c.er e_BadKind (by simp [er])).1 (c.er e_BadKind (by simp [er])).2 s_e_BadKind
  g_BadKind := errG X G (c.er e_BadKind (by simp [er])).1
  k_BadKind := errK (prog := P0) (c.er e_BadKind (by simp [er])).1
  e_BadLine := errTxt (c.er e_BadLine (by simp [er])).1 (c.er e_BadLine (by simp [er])).2 s_e_BadLine
  g_BadLine := errG X G (c.er e_BadLine (by simp [er])).1
  k_BadLine := errK (prog := P0) (c.er e_BadLine (by simp [er])).1
  e_Refused := errTxt (c.er e_Refused (by simp [er])).1 (c.er e_Refused (by simp [er])).2 s_e_Refused
  g_Refused := errG X G (c.er e_Refused (by simp [er])).1
  k_Refused := errK (prog := P0) (c.er e_Refused (by simp [er])).1
  e_TooMany := errTxt (c.er e_TooMany (by simp [er])).1 (c.er e_TooMany (by simp [er])).2 s_e_TooMany
  g_TooMany := errG X G (c.er e_TooMany (by simp [er])).1
  k_TooMany := errK (prog := P0) (c.er e_TooMany (by simp [er])).1
  b_TypeError := free_ok X G (c.fa (.free "TypeError") (by simp [fa, fa0, fa1, fa2, fa3]))
  b_ValueError := free_ok X G (c.fa (.free "ValueError") (by simp [fa, fa0, fa1, fa2, fa3]))
  b_all := free_ok X G (c.fa (.free "all") (by simp [fa, fa0, fa1, fa2, fa3]))
  b_any := free_ok X G (c.fa (.free "any") (by simp [fa, fa0, fa1, fa2, fa3]))
  b_enumerate := free_ok X G (c.fa (.free "enumerate") (by simp [fa, fa0, fa1, fa2, fa3]))
  b_int := free_ok X G (c.fa (.free "int") (by simp [fa, fa0, fa1, fa2, fa3]))
  b_isinstance := free_ok X G (c.fa (.free "isinstance") (by simp [fa, fa0, fa1, fa2, fa3]))
  b_len := free_ok X G (c.fa (.free "len") (by simp [fa, fa0, fa1, fa2, fa3]))
  b_list := free_ok X G (c.fa (.free "list") (by simp [fa, fa0, fa1, fa2, fa3]))
  b_min := free_ok X G (c.fa (.free "min") (by simp [fa, fa0, fa1, fa2, fa3]))
  b_range := free_ok X G (c.fa (.free "range") (by simp [fa, fa0, fa1, fa2, fa3]))
  b_str := free_ok X G (c.fa (.free "str") (by simp [fa, fa0, fa1, fa2, fa3]))
  b_tuple := free_ok X G (c.fa (.free "tuple") (by simp [fa, fa0, fa1, fa2, fa3]))
  c_MOST_FIGURES := int_ok X G (c.fa (.int "MOST_FIGURES" 30) (by simp [fa, fa0, fa1, fa2, fa3]))
  c_MOST_TERMS := int_ok X G (c.fa (.int "MOST_TERMS" 4) (by simp [fa, fa0, fa1, fa2, fa3]))
  c_MOST_PARTS := int_ok X G (c.fa (.int "MOST_PARTS" 4) (by simp [fa, fa0, fa1, fa2, fa3]))
  g_ENDINGS_idlimits := glo_ok X G (c.fa (.glo "ENDINGS_idlimits") (by simp [fa, fa0, fa1, fa2, fa3]))
  t_ENDINGS_idlimits := tupB_ok (vs := [.str "quit", .str "accept", .str "refuse"]) (HeE.all_at c.more 26)
  c_MOST_SIGNS := int_ok X G (c.fa (.int "MOST_SIGNS" 5) (by simp [fa, fa0, fa1, fa2, fa3]))
  c_MOST_SETTINGS := int_ok X G (c.fa (.int "MOST_SETTINGS" 3) (by simp [fa, fa0, fa1, fa2, fa3]))
  g_NAMES := glo_ok X G (c.fa (.glo "NAMES") (by simp [fa, fa0, fa1, fa2, fa3]))
  kd_NAMES := dicW_ok (c.ts ("NAMES", ["give", "free", "look"]) (by simp [tabs]))
  kn_NAMES := kn_ok (c.ts ("NAMES", ["give", "free", "look"]) (by simp [tabs]))
  k_NAMES_give := tvB_ok (zs := ["page", "slot", "stamp", "word", "a", "b", "c"]) (dicW_ok (c.ts ("NAMES", ["give", "free", "look"]) (by simp [tabs]))) (HeE.all_at c.more 27)
  k_NAMES_free := tvB_ok (zs := ["page", "slot", "stamp", "a", "b", "c"]) (dicW_ok (c.ts ("NAMES", ["give", "free", "look"]) (by simp [tabs]))) (HeE.all_at c.more 28)
  k_NAMES_look := tvB_ok (zs := ["word", "page", "slot", "stamp", "a", "b", "c"]) (dicW_ok (c.ts ("NAMES", ["give", "free", "look"]) (by simp [tabs]))) (HeE.all_at c.more 29)
  g_GOALS := glo_ok X G (c.fa (.glo "GOALS") (by simp [fa, fa0, fa1, fa2, fa3]))
  kd_GOALS := dicW_ok (c.ts ("GOALS", ["give", "free", "look"]) (by simp [tabs]))
  kn_GOALS := kn_ok (c.ts ("GOALS", ["give", "free", "look"]) (by simp [tabs]))
  k_GOALS_give := tvB_ok (zs := ["word", "a", "b", "c"]) (dicW_ok (c.ts ("GOALS", ["give", "free", "look"]) (by simp [tabs]))) (HeE.all_at c.more 30)
  k_GOALS_free := tvB_ok (zs := ["a", "b", "c"]) (dicW_ok (c.ts ("GOALS", ["give", "free", "look"]) (by simp [tabs]))) (HeE.all_at c.more 31)
  k_GOALS_look := tvB_ok (zs := ["page", "slot", "a", "b", "c"]) (dicW_ok (c.ts ("GOALS", ["give", "free", "look"]) (by simp [tabs]))) (HeE.all_at c.more 32)
  g_ENDINGS_idreader := glo_ok X G (c.fa (.glo "ENDINGS_idreader") (by simp [fa, fa0, fa1, fa2, fa3]))
  kd_ENDINGS_idreader := dicW_ok (c.ts ("ENDINGS_idreader", ["give", "free", "look"]) (by simp [tabs]))
  kn_ENDINGS_idreader := kn_ok (c.ts ("ENDINGS_idreader", ["give", "free", "look"]) (by simp [tabs]))
  k_ENDINGS_idreader_give := tvB_ok (zs := ["quit"]) (dicW_ok (c.ts ("ENDINGS_idreader", ["give", "free", "look"]) (by simp [tabs]))) (HeE.all_at c.more 33)
  k_ENDINGS_idreader_free := tvB_ok (zs := ["quit", "retire"]) (dicW_ok (c.ts ("ENDINGS_idreader", ["give", "free", "look"]) (by simp [tabs]))) (HeE.all_at c.more 34)
  k_ENDINGS_idreader_look := tvB_ok (zs := ["accept", "refuse"]) (dicW_ok (c.ts ("ENDINGS_idreader", ["give", "free", "look"]) (by simp [tabs]))) (HeE.all_at c.more 35)
  g_DEEDS := glo_ok X G (c.fa (.glo "DEEDS") (by simp [fa, fa0, fa1, fa2, fa3]))
  kd_DEEDS := dicW_ok (c.ts ("DEEDS", ["*", "<<", "//", ">>", "mod", "&"]) (by simp [tabs]))
  kn_DEEDS := kn_ok (c.ts ("DEEDS", ["*", "<<", "//", ">>", "mod", "&"]) (by simp [tabs]))
  k_DEEDS_x2a := svB_ok (dicW_ok (c.ts ("DEEDS", ["*", "<<", "//", ">>", "mod", "&"]) (by simp [tabs]))) (HeE.all_at c.more 36)
  k_DEEDS_x3cx3c := svB_ok (dicW_ok (c.ts ("DEEDS", ["*", "<<", "//", ">>", "mod", "&"]) (by simp [tabs]))) (HeE.all_at c.more 37)
  k_DEEDS_x2fx2f := svB_ok (dicW_ok (c.ts ("DEEDS", ["*", "<<", "//", ">>", "mod", "&"]) (by simp [tabs]))) (HeE.all_at c.more 38)
  k_DEEDS_x3ex3e := svB_ok (dicW_ok (c.ts ("DEEDS", ["*", "<<", "//", ">>", "mod", "&"]) (by simp [tabs]))) (HeE.all_at c.more 39)
  k_DEEDS_mod := svB_ok (dicW_ok (c.ts ("DEEDS", ["*", "<<", "//", ">>", "mod", "&"]) (by simp [tabs]))) (HeE.all_at c.more 40)
  k_DEEDS_x26 := svB_ok (dicW_ok (c.ts ("DEEDS", ["*", "<<", "//", ">>", "mod", "&"]) (by simp [tabs]))) (HeE.all_at c.more 41)
  g_ASKED := glo_ok X G (c.fa (.glo "ASKED") (by simp [fa, fa0, fa1, fa2, fa3]))
  t_ASKED := tupB_ok (vs := [.str "page", .str "slot", .str "stamp"]) (HeE.all_at c.more 42)
  c_MOST_BITS := int_ok X G (c.fa (.int "MOST_BITS" 90) (by simp [fa, fa0, fa1, fa2, fa3]))
  c_MOST_STEP := int_ok X G (c.fa (.int "MOST_STEP" 12) (by simp [fa, fa0, fa1, fa2, fa3]))
  g_KINDS := glo_ok X G (c.fa (.glo "KINDS") (by simp [fa, fa0, fa1, fa2, fa3]))
  t_KINDS := tupB_ok (vs := [.str "give", .str "free", .str "look"]) (HeE.all_at c.more 43)
  c_MOST_LINES := int_ok X G (c.fa (.int "MOST_LINES" 30) (by simp [fa, fa0, fa1, fa2, fa3]))
  c_MOST_IFS := int_ok X G (c.fa (.int "MOST_IFS" 5) (by simp [fa, fa0, fa1, fa2, fa3]))
def runP (w : World) : Prop := HandSHeadRun.RunEq R (PySem.W.view R.prog [62]) hk ob 40000 names w
theorem run_f (w : World) : runP (w.withFollow "special-get-raises" false) := by
  intro os
  kernel_rfl
theorem run_t (w : World) : runP (w.withFollow "special-get-raises" true) := by
  intro os
  kernel_rfl
theorem run (w : World) : runP w := PySem.W.byRow2 "special-get-raises" (P := runP) run_f run_t w
end K17.HdX


set_option Elab.async false
set_option linter.all false
set_option maxRecDepth 100000
set_option maxHeartbeats 4000000
/-! words of a text, a word ahead of a text -/
namespace L2
open PySem PySem.Spec PyProof.Rows
def spW : Str := Str.ofString " "
theorem tl_spW : TL.tl spW = [32] := by decide +kernel
theorem spl_free : ∀ (l acc : List Nat), 32 ∉ acc → ∀ p ∈ TL.spl [32] 0 acc l, 32 ∉ p
  | [], acc, h, p, hp => by
    rw [TL.spl_nil, List.mem_singleton] at hp
    rw [hp]; exact h
  | c :: r, acc, h, p, hp => by
    cases e : TL.pre [32] (c :: r) with
    | true =>
      rw [TL.spl_hit e] at hp
      rcases List.mem_cons.mp hp with q | q
      · rw [q]; exact h
      · exact spl_free r [] (by simp) p q
    | false =>
      rw [TL.spl_miss e] at hp
      have hc : c ≠ 32 := fun z => by
        rw [z] at e
        exact absurd (TL.pre_self [32] r) (by rw [show [32] ++ r = 32 :: r from rfl, e]; decide)
      exact spl_free r (acc ++ [c]) (fun z => by
        rcases List.mem_append.mp z with z | z
        · exact h z
        · rw [List.mem_singleton] at z; exact hc z.symm) p hp
theorem w_spl (t : Str) : (Txt.split t spW).map TL.tl = TL.spl [32] 0 [] (TL.tl t) := by
  have := TL.split_spl t spW (by rw [tl_spW]; simp) (TL.kind_ok (by decide +kernel))
  rw [tl_spW] at this
  exact this
theorem w_free (t : Str) : ∀ z ∈ Txt.split t spW, 32 ∉ TL.tl z := fun z hz =>
  spl_free _ [] (by simp) _ (by rw [← w_spl]; exact List.mem_map_of_mem hz)
theorem w_join (t : Str) : Txt.join spW (Txt.split t spW) = t := (TL.join_eq _ _).trans (StrLaws.join_split t spW)
theorem w_back {ws : List Str} (hne : ws ≠ []) (h : ∀ z ∈ ws, 32 ∉ TL.tl z) : Txt.split (Txt.join spW ws) spW = ws := TL.split_join (s := 32) (S := []) tl_spW (by decide +kernel) hne h
theorem w_ne (t : Str) : Txt.split t spW ≠ [] := fun e => by
  have := w_spl t
  rw [e] at this
  cases h : TL.tl t with
  | nil => rw [h, TL.spl_nil] at this; cases this
  | cons c r =>
    rw [h] at this
    have e9 : ∀ (l acc : List Nat), TL.spl [32] 0 acc l ≠ [] := fun l => by
      induction l with
      | nil => intro acc e; rw [TL.spl_nil] at e; cases e
      | cons c r ih =>
        intro acc
        cases g : TL.pre [32] (c :: r) with
        | true => rw [TL.spl_hit g]; simp
        | false => rw [TL.spl_miss g]; exact ih _
    exact e9 _ _ this.symm
theorem w_cons {u r : Str} (hu : 32 ∉ TL.tl u) : Txt.split (u ++ spW ++ r) spW = u :: Txt.split r spW := by
  refine TL.map_tl_inj ?_
  rw [w_spl, List.map_cons, w_spl, TL.tl_append, TL.tl_append, tl_spW, List.append_assoc]
  exact TL.spl_part1 (acc := []) hu
theorem j_cons (a b : Str) (r : List Str) : Txt.join spW (a :: b :: r) = a ++ spW ++ Txt.join spW (b :: r) := by
  refine TL.ext_tl ?_
  rw [TL.tl_append, TL.tl_append, TL.join_eq, TL.join_eq, TL.tl_join, TL.tl_join]
  show TL.tl a ++ (TL.tl spW ++ _) = _
  rw [List.append_assoc]
  rfl
theorem tl_cutA (t : Str) (n : Nat) : TL.tl (cutS t none (some (n : Int))) = (TL.tl t).take n := by
  have h : HT.sIx t.length t.length (some (n : Int)) = min n t.length := HT.sIx_nat _ _ n
  unfold cutS
  rw [TL.tl_mk, HT.sIx_none, h, List.drop_zero, Nat.sub_zero]
  show List.take (min n t.length) (TL.tl t) = _
  rw [TL.len_tl, List.take_eq_take_iff]
  omega
theorem tl_cutB (t : Str) (n : Nat) : TL.tl (cutS t (some (n : Int)) none) = (TL.tl t).drop n := by
  have h : HT.sIx t.length 0 (some (n : Int)) = min n t.length := HT.sIx_nat _ _ n
  unfold cutS
  rw [TL.tl_mk, HT.sIx_none, h]
  show List.take (t.length - min n t.length) (List.drop (min n t.length) (TL.tl t)) = _
  rw [TL.len_tl]
  by_cases g : n ≤ (TL.tl t).length
  · rw [Nat.min_eq_left g, List.take_of_length_le (by rw [List.length_drop]; omega)]
  · rw [Nat.min_eq_right (by omega), List.drop_length, List.drop_eq_nil_of_le (by omega)]
    simp
theorem cut_split (t : Str) (n : Nat) : t = cutS t none (some (n : Int)) ++ cutS t (some (n : Int)) none := TL.ext_tl (by rw [TL.tl_append, tl_cutA, tl_cutB, List.take_append_drop])
theorem cut_appA {u r : Str} {n : Nat} (h : (TL.tl u).length = n) : cutS (u ++ r) none (some (n : Int)) = u := TL.ext_tl (by rw [tl_cutA, TL.tl_append, ← h, List.take_left])
theorem cut_appB {u r : Str} {n : Nat} (h : (TL.tl u).length = n) : cutS (u ++ r) (some (n : Int)) none = r := TL.ext_tl (by rw [tl_cutB, TL.tl_append, ← h, List.drop_left])
/-- a word and a space ahead of a text -/
theorem w_pre {t u : Str} {n : Nat} (hu : 32 ∉ TL.tl u) (hn : (TL.tl (u ++ spW)).length = n) : cutS t none (some (n : Int)) = u ++ spW ↔ ∃ w r, Txt.split t spW = u :: w :: r := by
  constructor
  · intro h
    have e := cut_split t n
    rw [h] at e
    have h2 := w_cons (r := cutS t (some (n : Int)) none) hu
    rw [← e] at h2
    obtain ⟨w, r, hw⟩ := List.exists_cons_of_ne_nil (w_ne (cutS t (some (n : Int)) none))
    exact ⟨w, r, by rw [h2, hw]⟩
  · rintro ⟨w, r, h⟩
    have e := w_join t
    rw [h, j_cons] at e
    rw [← e]
    exact cut_appA hn
theorem w_post {t u w : Str} {r : List Str} {n : Nat} (hn : (TL.tl (u ++ spW)).length = n) (h : Txt.split t spW = u :: w :: r) : cutS t (some (n : Int)) none = Txt.join spW (w :: r) ∧ Txt.split (cutS t (some (n : Int)) none) spW = w :: r := by
  have e := w_join t
  rw [h, j_cons] at e
  have e2 : cutS t (some (n : Int)) none = Txt.join spW (w :: r) := by rw [← e]; exact cut_appB hn
  refine ⟨e2, ?_⟩
  rw [e2]
  exact w_back (by simp) fun z hz => w_free t z (by rw [h]; exact List.mem_cons_of_mem _ hz)
end L2


set_option Elab.async false
set_option linter.all false
set_option maxRecDepth 100000
set_option maxHeartbeats 4000000
/-! xs[j::2] of a list -/
namespace L2
open PySem PySem.Spec PyProof.Rows
def ev2 {α : Type} : List α → List α
  | [] => []
  | [a] => [a]
  | a :: _ :: r => a :: ev2 r
def pk2 {α : Type} (l : List α) (j : Nat) : List α := (List.range ((l.length - j + 1) / 2)).filterMap fun k => l[j + 2 * k]?
theorem pk2_0 {α : Type} : ∀ l : List α, pk2 l 0 = ev2 l
  | [] => by simp [pk2, ev2]
  | [a] => by simp [pk2, ev2]
  | a :: b :: r => by
    have ih := pk2_0 r
    unfold pk2 at ih ⊢
    have e : ((a :: b :: r).length - 0 + 1) / 2 = (r.length - 0 + 1) / 2 + 1 := by simp; omega
    rw [e, List.range_succ_eq_map, List.filterMap_cons, List.filterMap_map]
    show a :: _ = a :: ev2 r
    rw [← ih]
    congr 1
theorem pk2_drop {α : Type} : ∀ (j : Nat) (l : List α), pk2 l j = ev2 (l.drop j)
  | 0, l => pk2_0 l
  | j + 1, [] => by
    unfold pk2
    simp [ev2]
  | j + 1, a :: r => by
    have ih := pk2_drop j r
    rw [List.drop_succ_cons, ← ih]
    unfold pk2
    have e : ((a :: r).length - (j + 1) + 1) / 2 = (r.length - j + 1) / 2 := by simp
    rw [e]
    congr 1
    funext k
    rw [show j + 1 + 2 * k = (j + 2 * k) + 1 by omega, List.getElem?_cons_succ]
theorem slicePick_two (its : List Value) (j : Nat) : slicePick its.toArray (some (j : Int)) none (some 2) = (ev2 (its.drop j)).toArray := by
  rw [← pk2_drop]
  unfold slicePick pk2
  congr 1
  have h1 : (sliceBounds (some (j : Int)) none (some 2) its.toArray.size).1 = ((min j its.length : Nat) : Int) := by
    simp only [sliceBounds, Option.getD_some, show (2 : Int) > 0 by decide, if_true, List.size_toArray]
    rw [if_neg (by omega)]
    omega
  have h2 : (sliceBounds (some (j : Int)) none (some 2) its.toArray.size).2.1 = ((its.length : Nat) : Int) := by
    simp [sliceBounds]
  have h3 : (sliceBounds (some (j : Int)) none (some 2) its.toArray.size).2.2 = 2 := rfl
  rw [h1, h2, h3]
  unfold sliceRange
  rw [if_pos (show (2 : Int) > 0 by decide), List.filterMap_map]
  by_cases g : j < its.length
  · rw [Nat.min_eq_left (Nat.le_of_lt g), if_pos (by omega)]
    have e : ((((its.length : Nat) : Int) - ((j : Nat) : Int) + 2 - 1) / 2).toNat = (its.length - j + 1) / 2 := by omega
    rw [e]
    congr 1
    funext k
    have e2 : (((j : Nat) : Int) + 2 * (k : Int)).toNat = j + 2 * k := by omega
    simp only [Function.comp]
    rw [e2]
    simp
  · rw [Nat.min_eq_right (by omega), if_neg (by omega)]
    have e : (its.length - j + 1) / 2 = 0 := by omega
    rw [e]
    rfl
theorem Vals.ev2 : ∀ {xs : List V} {us : List Value}, Vals xs us → Vals (ev2 xs) (L2.ev2 us)
  | _, _, .nil => .nil
  | _, _, .cons a .nil => .cons a .nil
  | _, _, .cons a (.cons _ h) => .cons a (Vals.ev2 h)
theorem ev2_len {α : Type} : ∀ l : List α, (ev2 l).length ≤ l.length
  | [] => Nat.le_refl _
  | [a] => Nat.le_refl _
  | a :: b :: r => by
    have := ev2_len r
    show (ev2 r).length + 1 ≤ r.length + 1 + 1
    omega
theorem ev2_map {α β : Type} (f : α → β) : ∀ l : List α, ev2 (l.map f) = (ev2 l).map f
  | [] => rfl
  | [a] => rfl
  | a :: b :: r => by
    show f a :: ev2 (r.map f) = f a :: (ev2 r).map f
    rw [ev2_map f r]
section
variable {X : Cx} {e lo st : Expr} {te : TE} {tl ts : TO} {p2 pos : Pos}
def tSl2 (K : PySem.W.Frag) (te : TE) (tl ts : TO) : TE := fun σ H Q => te σ H fun x H1 => tl σ H1 fun l H2 => ts σ H2 fun st H3 => ∃ (a : Addr) (xs : List V) (j : Nat), x = .ref a ∧ l = some (j : Int) ∧ st = some 2 ∧ SqL K H3 a xs ∧ ∀ p, H3 p = none → Q (.ref p) (upd H3 p (.lst (ev2 (xs.drop j))))
theorem pe_slice2 (he : PE X e te) (hl : PO X (some lo) tl) (hs : PO X (some st) ts) : PE X (.Subscript e (.Slice (some lo) none (some st) p2) pos) (tSl2 X.K te tl ts) := by
  refine ⟨fun pins s σ H Q I h => ?_⟩
  refine Subscript_ (thn (he.run pins s σ H _ I h) fun v s1 ⟨x, H1, I1, r1, q1⟩ => ?_)
  refine wpAny_Slice (thn (hl.run pins s1 σ H1 _ I1 q1) fun vl s2 ⟨l, H2, I2, pl, q2⟩ => ?_)
  rw [evalPart_none]
  refine wpAny_pure ?_
  refine thn (hs.run pins s2 σ H2 _ I2 q2) fun vs s3 ⟨u, H3, I3, ps, q3⟩ => ?_
  have I4 : Inv X pins σ H3 { s3 with heap := s3.heap.push { cls := .type "slice", data := .fields #[vl, .none, vs] } } := I3.kept (t' := s3.toks) fun b ob q => Heap.get?_push_of_some _ q
  obtain ⟨a, xs, j, rfl, rfl, rfl, hx, q⟩ := q3
  cases r1
  obtain ⟨its, r, ht, hz⟩ := I4.list hx
  have hlen := r.length
  show wpAny (model X.prog X.w) X.A (subscriptTail e (.Slice (some lo) none (some st) p2) (.ref a) (.ref s3.heap.objs.size)) (EP X pins σ Q) X.xe { s3 with heap := s3.heap.push { cls := .type "slice", data := .fields #[vl, .none, vs] } }
  refine tail_any (ops := [.ref a, .ref s3.heap.objs.size]) ht.isList.typeIs slot_list_getitem.lookup ?_ (by with_unfolding_all rfl)
  refine wpAny_getItem_list_slice ht.isList (Heap.IsSliceOf.new ..) pl .none ps (by simp) ?_ (by rw [List.size_toArray] <;> omega)
  rw [slicePick_two]
  refine ⟨.ref _, _, I4.laid (t' := s3.toks) (o := .lst (ev2 (xs.drop j))) (fun b ob q => Heap.get?_push_of_some _ q) (Nat.le_refl _) ?_, rfl, q _ (I4.hok.fresh (Nat.le_refl _))⟩
  exact ⟨Nat.le_trans (ev2_len _) (Nat.le_trans (by rw [List.length_drop]; omega) hz), _, 0, (r.drop j).ev2, Heap.get?_push_size _ rfl⟩
end
end L2


set_option Elab.async false
set_option linter.all false
set_option maxRecDepth 100000
set_option maxHeartbeats 4000000
/-! ### numbers, atoms and sums of texts: the plain functions -/
namespace Tld
open PySem L2
def isDig (c : Nat) : Bool := decide (48 ≤ c) && decide (c ≤ 57)
def numOk (cs : List Nat) : Bool := !cs.isEmpty && cs.all isDig && decide (cs.length ≤ 30) && !(decide (1 < cs.length) && (cs.head? == some 48))
/-- the number that a word writes -/
def tNum (w : Str) : Option Int := if numOk w.cps.toList = true then some ((NumText.digitsVal w.cps.toList : Nat) : Int) else none
def oI : Option Int → V
  | none => .non
  | some n => .int n
theorem uni_dig : ∀ c < 128, Unicode.isDigit c = isDig c := by decide +kernel
theorem len_tl (w : Str) : w.cps.toList.length = w.length := Array.length_toList
theorem asc_dig {w : Str} (h : Txt.isascii w = true) : Txt.isdigit w = (!w.cps.toList.isEmpty && w.cps.toList.all isDig) := by
  have h1 : ∀ c ∈ w.cps.toList, c < 128 := fun c hc => by
    have z : w.cps.all (· < 128) = true := h
    rw [← Array.all_toList] at z
    exact of_decide_eq_true (List.all_eq_true.mp z c hc)
  show (decide (w.length > 0) && w.cps.all Unicode.isDigit) = _
  rw [← Array.all_toList]
  have e1 : w.cps.toList.all Unicode.isDigit = w.cps.toList.all isDig := by
    rw [Bool.eq_iff_iff, List.all_eq_true, List.all_eq_true]
    exact ⟨fun z c hc => by rw [← uni_dig c (h1 c hc)]; exact z c hc, fun z c hc => by rw [uni_dig c (h1 c hc)]; exact z c hc⟩
  rw [e1]
  congr 1
  have e2 := len_tl w
  cases e : w.cps.toList with
  | nil => rw [e] at e2; rw [← e2]; rfl
  | cons a r => rw [e] at e2; rw [← e2]; rfl
theorem not_asc {w : Str} (h : Txt.isascii w = false) : numOk w.cps.toList = false := by
  cases z : numOk w.cps.toList with
  | false => rfl
  | true =>
    unfold numOk at z
    rw [Bool.and_eq_true, Bool.and_eq_true, Bool.and_eq_true] at z
    have q : w.cps.all (· < 128) = true := by
      rw [← Array.all_toList, List.all_eq_true]
      intro c hc
      have d := List.all_eq_true.mp z.1.1.2 c hc
      unfold isDig at d
      rw [Bool.and_eq_true, decide_eq_true_eq, decide_eq_true_eq] at d
      exact decide_eq_true (by omega)
    have h' : w.cps.all (· < 128) = false := h
    rw [q] at h'
    cases h'
theorem num_int {w : Str} (h : numOk w.cps.toList = true) : intText? w = some ((NumText.digitsVal w.cps.toList : Nat) : Int) := by
  unfold numOk at h
  rw [Bool.and_eq_true, Bool.and_eq_true, Bool.and_eq_true] at h
  refine intText_digits (fun c hc => ?_) (fun z => ?_) ?_
  · have d := List.all_eq_true.mp h.1.1.2 c hc
    unfold isDig at d
    rw [Bool.and_eq_true, decide_eq_true_eq, decide_eq_true_eq] at d
    exact d
  · rw [z] at h
    exact nomatch h.1.1.1
  · have z := of_decide_eq_true h.1.2
    rw [len_tl] at z
    omega
def oS : Option Str → V
  | none => .non
  | some z => .str z
def tAtom (ns : List Str) (z : Str) : Option (Int × Option Str) := if z ∈ ns then some (1, some z) else (tNum z).map fun n => (n, none)
end Tld
namespace K17
open PySem PySem.Spec PyProof.Rows L2 Tld
section
variable {P : Program} {w : World} {K : PySem.W.Frag} {mg : Str → Option Value} {base : Heap}
def spNum : Sp := fun vs H Q _ => ∃ z : Str, vs = [.str z] ∧ z.length ≤ 1000000 ∧ Q (oI (tNum z)) H
theorem ok_told_number (T : Tx P w K mg) : FnX P w K mg base CX0 1 "told_number" ["word"] [] spNum := by
  refine T.d_told_number.ok0 sc_told_number (fun _ _ _ _ _ _ us hl => match us, hl with | [_], _ => rfl) (fun vs H Q E h => ?_) (fun f cdv A outer s H vs Q E hr h => ⟨_, (by exact (pss_cons (ps_if (PW.pt (pw_or (pt_not (pt_val (pe_m0 PySem.F.slot_str_isascii PySem.F.type_str_isascii mt_isascii (pv 0)))) (pw_or (pt_not (pt_val (pe_m0 PySem.F.slot_str_isdigit PySem.F.type_str_isdigit mt_isdigit (pv 0)))) (pw_or (pt_cmpR op_gt (pe_callB call_len_str (by rfl) T.b_len (by decide +kernel) (pa_cons (pv 0) pa_nil)) (pe_gint T.c_MOST_FIGURES) (nomark _)) (pw_or1 (PW.pt (pw_and (pt_cmpR op_gt (pe_callB call_len_str (by rfl) T.b_len (by decide +kernel) (pa_cons (pv 0) pa_nil)) pe_int (nomark _)) (pw_and1 (pt_cmpR op_eq (pe_ix ix_str (pv 0) pe_int (fun _ _ => rfl)) pe_str (nomark _)))))))))) (pss_one (ps_ret pe_non)) pss_nil)
      (pss_one (ps_ret (pe_callTy call_int_str (by rfl) T.b_int (by decide +kernel) (pa_cons (pv 0) pa_nil)))))), ?_⟩)
  · obtain ⟨z, rfl, _⟩ := h
    rfl
  obtain ⟨z, rfl, hl, hQ⟩ := h
  have hsz : z.length ≤ sizeLine := Nat.le_trans hl (by decide)
  refine ⟨_, rfl, ⟨_, rfl⟩, _, rfl, rfl, trivial, _, rfl, ?_⟩
  refine iteB (fun h1 => ?_) (fun h1 => ?_)
  · have h1' : Txt.isascii z = false := by cases q : Txt.isascii z <;> rw [q] at h1 <;> first | rfl | cases h1
    have e : tNum z = none := if_neg (by rw [not_asc h1']; decide)
    rw [e] at hQ
    exact iteT hQ
  have a1 : Txt.isascii z = true := by cases q : Txt.isascii z <;> rw [q] at h1 <;> first | rfl | cases h1
  refine ⟨_, rfl, ⟨_, rfl⟩, _, rfl, rfl, trivial, _, rfl, ?_⟩
  have ed := asc_dig a1
  refine iteB (fun h2 => ?_) (fun h2 => ?_)
  · have h2' : (!z.cps.toList.isEmpty && z.cps.toList.all isDig) = false := by rw [← ed]; cases q : Txt.isdigit z <;> rw [q] at h2 <;> first | rfl | cases h2
    have e : tNum z = none := if_neg (by unfold numOk; rw [h2', Bool.false_and, Bool.false_and]; exact Bool.false_ne_true)
    rw [e] at hQ
    exact iteT hQ
  have a2 : (!z.cps.toList.isEmpty && z.cps.toList.all isDig) = true := by rw [← ed]; cases q : Txt.isdigit z <;> rw [q] at h2 <;> first | rfl | cases h2
  refine ⟨_, rfl, _, rfl, hsz, _, _, rfl, rfl, _, rfl, ?_⟩
  have el := len_tl z
  refine iteB (fun h3 => ?_) (fun h3 => ?_)
  · have h3' := of_decide_eq_true h3
    have e : tNum z = none := if_neg (by unfold numOk; rw [a2, decide_eq_false (show ¬ z.cps.toList.length ≤ 30 by omega), Bool.and_false, Bool.false_and]; exact Bool.false_ne_true)
    rw [e] at hQ
    exact iteT hQ
  have h3' := of_decide_eq_false h3
  refine ⟨_, rfl, _, rfl, hsz, _, _, rfl, rfl, _, rfl, ?_⟩
  have a3 : decide (z.cps.toList.length ≤ 30) = true := decide_eq_true (by omega)
  refine iteB (fun h4 => ?_) (fun h4 => ?_)
  · have h4' := of_decide_eq_true h4
    obtain ⟨c, r, ec⟩ : ∃ c r, z.cps.toList = c :: r := by
      cases q : z.cps.toList with
      | nil => rw [q] at el; simp at el; omega
      | cons c r => exact ⟨c, r, rfl⟩
    refine ⟨_, rfl, _, _, c, rfl, rfl, hsz, ?_, rfl, _, rfl, ?_⟩
    · rw [ec]
      exact atI_nat (j := 0) rfl
    refine iteB (fun h5 => ?_) (fun h5 => ?_)
    · have h5' : c = 48 := by
        have q := of_decide_eq_true h5
        have q2 : (⟨#[c]⟩ : Str) = Str.ofString "0" := V.str.inj q
        have q3 := congrArg (fun y : Str => y.cps.toList) q2
        have q4 : ([c] : List Nat) = [48] := q3
        exact List.head_eq_of_cons_eq q4
      have e : tNum z = none := if_neg (by unfold numOk; rw [a2, a3, ec, h5', decide_eq_true (show 1 < (48 :: r).length by rw [← h5', ← ec]; omega)]; exact Bool.false_ne_true)
      rw [e] at hQ
      exact hQ
    · have h5' : c ≠ 48 := fun q => by
        have q2 := of_decide_eq_false h5
        exact q2 (by rw [q]; rfl)
      have ok : numOk z.cps.toList = true := by
        unfold numOk
        rw [a2, a3, ec]
        have q : (([c] ++ r).head? == some 48) = false := by
          show (some c == some 48) = false
          simpa using h5'
        rw [show (c :: r).head? = ([c] ++ r).head? from rfl, q, Bool.and_false]
        rfl
      have e : tNum z = some _ := if_pos ok
      rw [e] at hQ
      exact ⟨_, rfl, _, _, rfl, num_int ok, by omega, hQ⟩
  · have h4' := of_decide_eq_false h4
    have ok : numOk z.cps.toList = true := by
      unfold numOk
      rw [a2, a3, decide_eq_false (show ¬ 1 < z.cps.toList.length by omega)]
      rfl
    have e : tNum z = some _ := if_pos ok
    rw [e] at hQ
    exact iteF ⟨_, rfl, _, _, rfl, num_int ok, by omega, hQ⟩

def spAtom (K : PySem.W.Frag) : Sp := fun vs H Q _ => ∃ (z : Str) (b : Addr) (ns : List Str), vs = [.str z, .ref b] ∧ SqT K H b (ns.map V.str) ∧ z.length ≤ 1000000 ∧
  (tAtom ns z = none → Q .non H) ∧ ∀ n o p, tAtom ns z = some (n, o) → H p = none → Q (.ref p) (upd H p (.tup [.int n, oS o]))
theorem ok_told_atom (T : Tx P w K mg) : FnX P w K mg base CX0 2 "told_atom" ["word", "names"] [] (spAtom K) := by
  have F_told_number := ok_told_number (P := P) (w := w) (base := base) T
  refine T.d_told_atom.ok0 sc_told_atom (fun _ _ _ _ _ _ us hl => match us, hl with | [_, _], _ => rfl) (fun vs H Q E h => ?_) (fun f cdv A outer s H vs Q E hr h => ⟨_, (by exact (pss_cons (ps_if (pt_cmpR op_in_seq (pv 0) (pv 1) (by rfl)) (pss_one (ps_ret (pe_tup (pa_cons pe_int (pa_cons (pv 0) pa_nil))))) pss_nil)
      (pss_cons (ps_set (i := 2) sc_told_atom.nd rfl (Or.inl rfl) (pe_callX F_told_number (hr.mono (by first | decide | omega)) pass0 (pa_cons (pv 0) pa_nil)))
      (pss_one (ps_ret (pe_ifExp (pt_cmpR op_isN (pv 2) pe_non (nomark _)) pe_non (pe_tup (pa_cons (pv 2) (pa_cons pe_non pa_nil))))))))), ?_⟩)
  · obtain ⟨z, b, ns, rfl, _⟩ := h
    rfl
  obtain ⟨z, b, ns, rfl, hb, hl, h0, h1⟩ := h
  refine ⟨_, rfl, _, rfl, _, _, rfl, .inr hb, rfl, flat_strs ns, _, rfl, ?_⟩
  rw [inV_str]
  refine iteB (fun c => ?_) (fun c => ?_)
  · have c' := of_decide_eq_true c
    refine ⟨_, rfl, (by show 2 ≤ sizeLine; decide), fun p hp => h1 1 (some z) p (if_pos c') hp⟩
  have c' := of_decide_eq_false c
  refine ⟨_, rfl, z, rfl, hl, ?_⟩
  have ea : tAtom ns z = (tNum z).map fun n => (n, none) := if_neg c'
  refine ⟨_, rfl, rfl, _, rfl, ?_⟩
  cases e : tNum z with
  | none =>
    rw [e] at ea
    exact iteT (h0 ea)
  | some n =>
    rw [e] at ea
    refine iteF ?_
    exact ⟨_, rfl, (by show 2 ≤ sizeLine; decide), fun p hp => h1 n none p ea hp⟩
end
end K17


set_option Elab.async false
set_option linter.all false
set_option maxRecDepth 100000
set_option maxHeartbeats 4000000
namespace Tld
open PySem L2
def inSeen (seen : List Str) : Option Str → Bool
  | none => false
  | some x => decide (x ∈ seen)
/-- the rest of a sum's words, from the place i on; all: the words -/
def tGo (ns all : List Str) : Nat → List Str → List (Int × Option Str) → List Str → Option (List (Int × Option Str))
  | _, [], found, _ => some found
  | i, z :: r, found, seen =>
    if i % 2 = 1 then (if z ∈ ([Str.ofString "+", Str.ofString "-"] : List Str) then tGo ns all (i + 1) r found seen else none)
    else match tAtom ns z with
      | none => none
      | some (n, o) => if inSeen seen o = true then none else
          tGo ns all (i + 1) r (found ++ [(if 0 < i ∧ all[i - 1]? = some (Str.ofString "-") then -n else n, o)]) (match o with | none => seen | some x => x :: seen)
def tSum (ns ws : List Str) : Option (List (Int × Option Str)) := if ws.length % 2 = 0 ∨ 7 < ws.length then none else tGo ns ws 0 ws [] []
/-- what stands for an atom -/
def AtR (H : Hp) (v : V) (q : Int × Option Str) : Prop := ∃ p, v = .ref p ∧ H p = some (.tup [.int q.1, oS q.2])
theorem AtR.up {H H' : Hp} {v : V} {q : Int × Option Str} (e : TupLe H H') (h : AtR H v q) : AtR H' v q := by
  obtain ⟨p, h1, h2⟩ := h
  exact ⟨p, h1, e _ _ h2⟩
abbrev AtsR (H : Hp) (vs : List V) (qs : List (Int × Option Str)) : Prop := Paired (AtR H) vs qs
theorem AtsR.up {H H' : Hp} (e : TupLe H H') : ∀ {vs : List V} {qs : List (Int × Option Str)}, AtsR H vs qs → AtsR H' vs qs
  | _, _, .nil => .nil
  | _, _, .cons a b => .cons (a.up e) (AtsR.up e b)
theorem AtsR.snoc {H : Hp} {v : V} {q : Int × Option Str} (h : AtR H v q) : ∀ {vs : List V} {qs : List (Int × Option Str)}, AtsR H vs qs → AtsR H (vs ++ [v]) (qs ++ [q])
  | _, _, .nil => .cons h .nil
  | _, _, .cons a b => .cons a (AtsR.snoc h b)
/-- the dict of the names that are seen -/
structure SeenOk (kvs : List (Option Key × V)) (seen : List Str) : Prop where
  nn : valV kvs none = some (.bl false)
  yes : ∀ x, x ∈ seen → valV kvs (some (Sum.inr x)) = some (.bl true)
  no : ∀ x, x ∉ seen → valV kvs (some (Sum.inr x)) = none
theorem seen_start : SeenOk [(none, .bl false)] [] := ⟨rfl, fun _ h => absurd h (by simp), fun _ _ => rfl⟩
theorem SeenOk.put {kvs : List (Option Key × V)} {seen : List Str} (h : SeenOk kvs seen) (o : Option Str) :
    SeenOk (putK kvs (o.map Sum.inr) (.bl (!decide (oS o = .non)))) (match o with | none => seen | some x => x :: seen) := by
  cases o with
  | none =>
    refine ⟨by rw [valV_put]; rfl, fun x hx => ?_, fun x hx => ?_⟩
    · rw [valV_put, if_neg (by intro z; cases z)]; exact h.yes x hx
    · rw [valV_put, if_neg (by intro z; cases z)]; exact h.no x hx
  | some y =>
    have e : (!decide (oS (some y) = .non)) = true := rfl
    rw [e]
    refine ⟨by rw [valV_put, if_neg (by intro z; cases z)]; exact h.nn, fun x hx => ?_, fun x hx => ?_⟩
    · rw [valV_put]
      by_cases q : x = y
      · subst q; exact if_pos rfl
      · rw [if_neg (by intro z; injection z with z; injection z with z; exact q z)]
        exact h.yes x (by rcases List.mem_cons.mp hx with z | z; exact absurd z q; exact z)
    · rw [valV_put, if_neg (by intro z; injection z with z; injection z with z; exact hx (by rw [z]; exact List.mem_cons_self))]
      exact h.no x fun z => hx (List.mem_cons_of_mem _ z)
theorem SeenOk.get {kvs : List (Option Key × V)} {seen : List Str} (h : SeenOk kvs seen) (o : Option Str) : (valV kvs (o.map Sum.inr)).getD (.bl false) = .bl (inSeen seen o) := by
  cases o with
  | none => exact congrArg (fun z : Option V => z.getD (.bl false)) h.nn
  | some x =>
    show (valV kvs (some (Sum.inr x))).getD _ = .bl (decide (x ∈ seen))
    by_cases q : x ∈ seen
    · rw [h.yes x q, decide_eq_true q]; rfl
    · rw [h.no x q, decide_eq_false q]; rfl
theorem nV_oS (o : Option Str) : oS o = nV (o.map Sum.inr) := by cases o <;> rfl
end Tld
namespace K17
open PySem PySem.Spec PyProof.Rows L2 Tld
section
variable {P : Program} {w : World} {K : PySem.W.Frag} {mg : Str → Option Value} {base : Heap}
def spSum (K : PySem.W.Frag) : Sp := fun vs H Q _ => ∃ (a b : Addr) (ws ns : List Str), vs = [.ref a, .ref b] ∧ SqL K H a (ws.map V.str) ∧ SqT K H b (ns.map V.str) ∧ (∀ z ∈ ws, z.length ≤ 1000000) ∧
  (tSum ns ws = none → ∀ H', Same H H' → Q .non H') ∧ ∀ qs vs p H', tSum ns ws = some qs → Same H H' → H' p = some (.tup vs) → AtsR H' vs qs → H p = none → Q (.ref p) H'
theorem ok_told_sum (T : Tx P w K mg) : FnX P w K mg base CX0 3 "told_sum" ["words", "names"] [] (spSum K) := by
  have F_told_atom := ok_told_atom (P := P) (w := w) (base := base) T
  refine T.d_told_sum.ok0 sc_told_sum (fun _ _ _ _ _ _ us hl => match us, hl with | [_, _], _ => rfl) (fun vs H Q E h => ?_) (fun f cdv A outer s H vs Q E hr h => ⟨_, (by exact (pss_cons (ps_if (PW.pt (pw_or (pt_cmpR op_eq (pe_op op_mod (pe_callB call_len_seq (by rfl) T.b_len (by decide +kernel) (pa_cons (pv 0) pa_nil)) pe_int) pe_int (nomark _)) (pw_or1 (pt_cmpR op_gt (pe_callB call_len_seq (by rfl) T.b_len (by decide +kernel) (pa_cons (pv 0) pa_nil)) (pe_op op_sub (pe_op op_mul pe_int (pe_gint T.c_MOST_TERMS)) pe_int) (nomark _))))) (pss_one (ps_ret pe_non)) pss_nil)
      (pss_cons (ps_par (i := 2) (j := 3) (by rfl) sc_told_sum.nd rfl rfl (by decide) rfl rfl (pa_cons (pe_lst pa_nil) (pa_cons (pe_dispN (pps_cons pe_non pe_bl pps_nil) (by rfl) (by rfl) (fun z => by cases z) (by decide)) pa_nil)) (by rfl))
      (pss_cons (ps_for PassesOwn.never rfl (pi_enum rfl T.b_enumerate (pa_cons (pv 0) pa_nil)) (pg_tup rfl (pgs_cons (pg_name (i := 4) sc_told_sum.nd rfl (Or.inl rfl)) (pgs_cons (pg_name (i := 5) sc_told_sum.nd rfl (Or.inl rfl)) pgs_nil)))
        (pss_cons (ps_if (pt_cmpR op_eq (pe_op op_mod (pv 4) pe_int) pe_int (nomark _)) (pss_cons (ps_if (pt_cmpR op_notIn_seq (pv 5) (pe_tup (pa_cons pe_str (pa_cons pe_str pa_nil))) (by rfl)) (pss_one (ps_ret pe_non)) pss_nil)
      (pss_one ps_continue)) pss_nil)
      (pss_cons (ps_set (i := 6) sc_told_sum.nd rfl (Or.inl rfl) (pe_callX F_told_atom (hr.mono (by first | decide | omega)) pass0 (pa_cons (pv 5) (pa_cons (pv 1) pa_nil))))
      (pss_cons (ps_if (PW.pt (pw_or (pt_cmpR op_isN (pv 6) pe_non (nomark _)) (pw_or1 (pt_val (pe_dget2N (pv 3) (pe_ix ix_tup (pv 6) pe_int (fun _ _ => rfl)) pe_bl ⟨rfl, rfl, rfl, rfl⟩))))) (pss_one (ps_ret pe_non)) pss_nil)
      (pss_cons (ps_dputN (pv 3) (pe_ix ix_tup (pv 6) pe_int (fun _ _ => rfl)) (pe_cmpR op_notN (pe_ix ix_tup (pv 6) pe_int (fun _ _ => rfl)) pe_non (nomark _)) rfl)
      (pss_one (ps_expr (pe_bm PySem.F.plainAttrs_list PySem.F.slot_list_append PySem.F.type_list_append mt_append (pv 2) (pa_cons (pe_ifExp (PW.pt (pw_and (pt_cmpR op_gt (pv 4) pe_int (nomark _)) (pw_and1 (pt_cmpR op_eq (pe_ix ix_list (pv 0) (pe_op op_sub (pv 4) pe_int) (fun _ _ => rfl)) pe_str (nomark _))))) (pe_tup (pa_cons (pe_un un_neg (pe_ix ix_tup (pv 6) pe_int (fun _ _ => rfl))) (pa_cons (pe_ix ix_tup (pv 6) pe_int (fun _ _ => rfl)) pa_nil))) (pv 6)) pa_nil)))))))))
      (pss_one (ps_ret (pe_callTy call_tuple_of (by rfl) T.b_tuple (by decide +kernel) (pa_cons (pv 2) pa_nil)))))))), ?_⟩)
  · obtain ⟨a, b, ws, ns, rfl, _⟩ := h
    rfl
  obtain ⟨a, b, ws, ns, rfl, ha, hb, hl, h0, h1⟩ := h
  have lw : (ws.map V.str).length = ws.length := List.length_map ..
  refine ⟨_, rfl, _, _, rfl, .inl ha, _, _, rfl, rfl, (by show (0 : Int) < 2; decide), rfl, _, rfl, ?_⟩
  rw [lw]
  refine iteB (fun c => ?_) (fun c => ?_)
  · have c' : ws.length % 2 = 0 := by have z := V.int.inj (of_decide_eq_true c); omega
    exact iteT (h0 (if_pos (.inl c')) H (Same.refl H))
  have c1 : ¬ ws.length % 2 = 0 := fun z => of_decide_eq_false c (congrArg V.int (show ((ws.length : Int) % 2) = 0 by omega))
  refine ⟨_, rfl, _, _, rfl, .inl ha, _, _, rfl, rfl, .inl ⟨by decide, by decide⟩, _, _, rfl, rfl, _, _, rfl, rfl, _, rfl, ?_⟩
  rw [lw]
  refine iteB (fun c => ?_) (fun c => ?_)
  · have c' := of_decide_eq_true c
    exact h0 (if_pos (.inr (by omega))) H (Same.refl H)
  have c2 : ¬ 7 < ws.length := fun z => of_decide_eq_false c (by omega)
  have es : tSum ns ws = tGo ns ws 0 ws [] [] := if_neg (by omega)
  refine ⟨(by show 0 ≤ sizeLine; decide), fun fl hfl sd hsd => ⟨upd_same, [(none, .bl false)], rfl, (by decide), _, _, rfl, ?_⟩⟩
  have sdne : fl ≠ sd := ne_of_none (H := upd H fl (.lst [])) upd_same hsd
  have hsd0 : H sd = none := by rw [upd_ne (Ne.symm sdne)] at hsd; exact hsd
  rw [upd_upd]
  have S0 : Same H (upd (upd H fl (.lst [])) sd (dN P w sd [(none, .bl false)])) := ((Same.refl H).mut hfl).mut hsd0
  refine ⟨_, rfl, a, _, rfl, S0.seq ha, for_enum (xs := ws.map V.str) (fun i σ H' => ∃ (v4 v5 v6 : Option V) (fvs : List V) (kvs : List (Option Key × V)) (found : List (Int × Option Str)) (seen : List Str),
      σ = [some (.ref a), some (.ref b), some (.ref fl), some (.ref sd), v4, v5, v6] ∧ Same H H' ∧ H' fl = some (.lst fvs) ∧ H' sd = some (dN P w sd kvs) ∧ AtsR H' fvs found ∧ SeenOk kvs seen ∧ kvs.length ≤ i + 1 ∧ fvs.length ≤ i ∧ tGo ns ws i (ws.drop i) found seen = tSum ns ws)
    ⟨none, none, none, [], _, [], [], rfl, S0, ?_, upd_same, .nil, seen_start, Nat.le_refl _, Nat.le_refl _, es.symm⟩ (fun i σ H' _ h => ?_) ?_ ?_⟩
  · rw [upd_ne sdne]; exact upd_same
  · obtain ⟨_, _, _, _, _, _, _, _, S, _⟩ := h
    exact S.seq ha
  · rintro i x σ H' hx ⟨v4, v5, v6, fvs, kvs, found, seen, rfl, S, hf, hs, hA, hS, lk, lf, eG⟩ Tp hTp
    obtain ⟨z, hz, rfl⟩ : ∃ z, ws[i]? = some z ∧ x = .str z := by
      rw [List.getElem?_map] at hx
      cases e : ws[i]? with
      | none => rw [e] at hx; cases hx
      | some z => rw [e] at hx; exact ⟨z, rfl, (Option.some.inj hx).symm⟩
    have hi : i < ws.length := (List.getElem?_eq_some_iff.mp hz).1
    have ed : ws.drop i = z :: ws.drop (i + 1) := by
      rw [List.drop_eq_getElem_cons hi]
      congr 1
      exact (List.getElem?_eq_some_iff.mp hz).2
    rw [ed] at eG
    have S1 : Same H (upd H' Tp (.tup [.int (i : Nat), .str z])) := S.trans (Same.new hTp)
    have hf1 : upd H' Tp (.tup [.int (i : Nat), .str z]) fl = some (.lst fvs) := by rw [upd_ne (ne_of_none hf hTp)]; exact hf
    have hs1 : upd H' Tp (.tup [.int (i : Nat), .str z]) sd = some (dN P w sd kvs) := by rw [upd_ne (ne_of_none hs hTp)]; exact hs
    have hA1 : AtsR (upd H' Tp (.tup [.int (i : Nat), .str z])) fvs found := hA.up (TupLe.new hTp)
    refine ⟨Tp, _, rfl, SqT.of upd_same, rfl, _, _, rfl, _, _, rfl, rfl, ?_⟩
    generalize upd H' Tp (.tup [.int (i : Nat), .str z]) = H1 at *
    refine ⟨_, rfl, _, _, rfl, rfl, (by show (0 : Int) < 2; decide), rfl, _, rfl, ?_⟩
    refine iteB (fun c => ?_) (fun c => ?_)
    · have c' : i % 2 = 1 := by have q := V.int.inj (of_decide_eq_true c); omega
      unfold tGo at eG
      rw [if_pos c'] at eG
      refine ⟨_, rfl, (by show 2 ≤ sizeLine; decide), fun pq hpq => ⟨pq, _, rfl, .inr (SqT.of upd_same), rfl, rfl, _, rfl, ?_⟩⟩
      have e1 : inV (.str z) [V.str (Str.ofString "+"), V.str (Str.ofString "-")] = decide (z ∈ ([Str.ofString "+", Str.ofString "-"] : List Str)) := inV_str z [Str.ofString "+", Str.ofString "-"]
      show if (!inV (.str z) [V.str (Str.ofString "+"), V.str (Str.ofString "-")]) = true then _ else _
      rw [e1]
      have S2 : Same H (upd H1 pq (.tup [.str (Str.ofString "+"), .str (Str.ofString "-")])) := S1.trans (Same.new hpq)
      refine iteB (fun d => ?_) (fun d => ?_)
      · rw [if_neg (fun q => by rw [decide_eq_true q] at d; cases d)] at eG
        exact h0 eG.symm _ S2
      · have d' : z ∈ ([Str.ofString "+", Str.ofString "-"] : List Str) := by
          cases q : decide (z ∈ ([Str.ofString "+", Str.ofString "-"] : List Str)) with
          | true => exact of_decide_eq_true q
          | false => rw [q] at d; cases d
        rw [if_pos d'] at eG
        exact ⟨_, _, _, fvs, kvs, found, seen, rfl, S2, by rw [upd_ne (ne_of_none hf1 hpq)]; exact hf1, by rw [upd_ne (ne_of_none hs1 hpq)]; exact hs1, hA1.up (TupLe.new hpq), hS, by omega, by omega, eG⟩
    · have c' : ¬ i % 2 = 1 := fun q => of_decide_eq_false c (congrArg V.int (show ((i : Int) % 2) = 1 by omega))
      unfold tGo at eG
      rw [if_neg c'] at eG
      refine ⟨_, rfl, _, rfl, z, b, ns, rfl, S1.seqT hb, hl z (List.mem_of_getElem? hz), fun e => ?_, fun n o p e hp => ?_⟩
      · rw [e] at eG
        exact ⟨_, rfl, rfl, _, rfl, iteT (iteT (h0 eG.symm _ S1))⟩
      · rw [e] at eG
        dsimp only at eG
        have S2 : Same H (upd H1 p (.tup [.int n, oS o])) := S1.trans (Same.new hp)
        have hf2 : upd H1 p (.tup [.int n, oS o]) fl = some (.lst fvs) := by rw [upd_ne (ne_of_none hf1 hp)]; exact hf1
        have hs2 : upd H1 p (.tup [.int n, oS o]) sd = some (dN P w sd kvs) := by rw [upd_ne (ne_of_none hs1 hp)]; exact hs1
        have hp2 : upd H1 p (.tup [.int n, oS o]) p = some (.tup [.int n, oS o]) := upd_same
        have hA2 : AtsR (upd H1 p (.tup [.int n, oS o])) fvs found := hA1.up (TupLe.new hp)
        generalize upd H1 p (.tup [.int n, oS o]) = H2 at *
        refine ⟨_, rfl, rfl, _, rfl, iteF ?_⟩
        refine ⟨_, rfl, sd, kvs, rfl, hs2, _, rfl, p, _, _, _, rfl, rfl, SqT.of hp2, atI_nat (j := 1) rfl, kvs, o.map Sum.inr, hs2, nV_oS o, _, hS.get o, ?_⟩
        refine iteB (fun d => ?_) (fun d => ?_)
        · rw [if_pos d] at eG
          exact h0 eG.symm _ S2
        rw [if_neg (by rw [d]; exact Bool.false_ne_true)] at eG
        refine ⟨_, rfl, p, _, _, _, rfl, rfl, SqT.of hp2, atI_nat (j := 1) rfl, rfl, _, rfl, _, rfl, p, _, _, _, rfl, rfl, SqT.of hp2, atI_nat (j := 1) rfl, sd, kvs, o.map Sum.inr, rfl, hs2, nV_oS o, small1000 (by omega), ?_⟩
        have hS3 := hS.put o
        have S3 : Same H (upd H2 sd (dN P w sd (putK kvs (o.map Sum.inr) (.bl (!decide (oS o = .non)))))) := S2.mut hsd0
        have TL : TupLe H2 (upd H2 sd (dN P w sd (putK kvs (o.map Sum.inr) (.bl (!decide (oS o = .non)))))) := TupLe.mut hs2 (fun xs q => nomatch (show HO.ext _ = HO.tup xs from q))
        have hf3 : upd H2 sd (dN P w sd (putK kvs (o.map Sum.inr) (.bl (!decide (oS o = .non))))) fl = some (.lst fvs) := by rw [upd_ne sdne]; exact hf2
        have hs3 : upd H2 sd (dN P w sd (putK kvs (o.map Sum.inr) (.bl (!decide (oS o = .non))))) sd = some (dN P w sd (putK kvs (o.map Sum.inr) (.bl (!decide (oS o = .non))))) := upd_same
        have lk3 : (putK kvs (o.map Sum.inr) (.bl (!decide (oS o = .non)))).length ≤ i + 1 + 1 := by have q := length_putK kvs (o.map Sum.inr) (.bl (!decide (oS o = .non))); omega
        have hp3 := TL _ _ hp2
        have hA3 := hA2.up TL
        generalize putK kvs (o.map Sum.inr) (.bl (!decide (oS o = .non))) = kvs3 at *
        have put : ∀ (v : V) (H4 : Hp) (m : Int), AtR H4 v (m, o) → Same H H4 → H4 fl = some (.lst fvs) → H4 sd = some (dN P w sd kvs3) → AtsR H4 fvs found → m = (if 0 < i ∧ ws[i - 1]? = some (Str.ofString "-") then -n else n) →
            ∃ l xs y, V.ref fl = .ref l ∧ [v] = [y] ∧ H4 l = some (.lst xs) ∧ xs.length < sizeLine ∧ ∃ (v4 v5 v6 : Option V) (fvs : List V) (kvs : List (Option Key × V)) (found : List (Int × Option Str)) (seen : List Str),
              [some (V.ref a), some (.ref b), some (.ref fl), some (.ref sd), some (.int (i : Int)), some (.str z), some (.ref p)] = [some (.ref a), some (.ref b), some (.ref fl), some (.ref sd), v4, v5, v6] ∧ Same H (upd H4 l (.lst (xs ++ [y]))) ∧ (upd H4 l (.lst (xs ++ [y]))) fl = some (.lst fvs) ∧ (upd H4 l (.lst (xs ++ [y]))) sd = some (dN P w sd kvs) ∧ AtsR (upd H4 l (.lst (xs ++ [y]))) fvs found ∧ SeenOk kvs seen ∧ kvs.length ≤ i + 1 + 1 ∧ fvs.length ≤ i + 1 ∧ tGo ns ws (i + 1) (ws.drop (i + 1)) found seen = tSum ns ws := by
          intro v H4 m hv S4 hf4 hs4 hA4 em
          have TL4 : TupLe H4 (upd H4 fl (.lst (fvs ++ [v]))) := TupLe.mut hf4 (fun xs q => nomatch q)
          refine ⟨fl, fvs, v, rfl, rfl, hf4, small1000 (by omega), _, _, _, fvs ++ [v], kvs3, _, _, rfl, S4.mut hfl, upd_same, by rw [upd_ne (Ne.symm sdne)]; exact hs4, (AtsR.snoc (hv.up TL4) (hA4.up TL4)), hS3, lk3, by simp; omega, ?_⟩
          rw [em]
          exact eG
        refine ⟨_, rfl, .inl ⟨rfl, _, SqL.of hf3⟩, ?_⟩
        have neg : 0 < i → ws[i - 1]? = some (Str.ofString "-") → ∀ (pn : Addr), (upd H2 sd (dN P w sd kvs3)) pn = none → _ := fun g1 g2 pn hpn => put (.ref pn) (upd (upd H2 sd (dN P w sd kvs3)) pn (.tup [.int (-n), oS o])) (-n) ⟨pn, rfl, upd_same⟩ (S3.trans (Same.new hpn)) (by rw [upd_ne (ne_of_none hf3 hpn)]; exact hf3) (by rw [upd_ne (ne_of_none hs3 hpn)]; exact hs3) (hA3.up (TupLe.new hpn)) (if_pos ⟨g1, g2⟩).symm
        have pos : ¬ (0 < i ∧ ws[i - 1]? = some (Str.ofString "-")) → _ := fun g => put (.ref p) (upd H2 sd (dN P w sd kvs3)) n ⟨p, rfl, hp3⟩ S3 hf3 hs3 hA3 (if_neg g).symm
        refine ⟨_, rfl, _, _, rfl, rfl, _, rfl, ?_⟩
        refine iteB (fun g => ?_) (fun g => ?_)
        · have g' : 0 < i := by have q := of_decide_eq_true g; omega
          obtain ⟨y, hy⟩ : ∃ y, ws[i - 1]? = some y := ⟨ws[i - 1], List.getElem?_eq_getElem (by omega)⟩
          have hyx : (ws.map V.str)[i - 1]? = some (.str y) := by rw [List.getElem?_map, hy]; rfl
          refine ⟨_, rfl, _, rfl, _, _, rfl, rfl, a, _, _, .str y, rfl, rfl, S3.seq ha, ?_, rfl, _, rfl, ?_⟩
          · have q : ((i : Int) - 1) = ((i - 1 : Nat) : Int) := by omega
            show atI (ws.map V.str) ((i : Int) - 1) = _
            rw [q]
            exact atI_nat hyx
          refine iteB (fun k => ?_) (fun k => ?_)
          · have k' : y = Str.ofString "-" := V.str.inj (of_decide_eq_true k)
            rw [k'] at hy
            refine ⟨_, rfl, p, _, _, _, rfl, rfl, SqT.of hp3, atI_nat (j := 0) rfl, _, rfl, _, rfl, p, _, _, _, rfl, rfl, SqT.of hp3, atI_nat (j := 1) rfl, (by show 2 ≤ sizeLine; decide), fun pn hpn => neg g' hy pn hpn⟩
          · refine ⟨_, rfl, pos fun q => ?_⟩
            rw [hy] at q
            exact of_decide_eq_false k (congrArg V.str (Option.some.inj q.2))
        · refine iteF ⟨_, rfl, pos fun q => ?_⟩
          exact of_decide_eq_false g (by omega)
  · rintro σ H' ⟨v4, v5, v6, fvs, kvs, found, seen, rfl, S, hf, hs, hA, hS, lk, lf, eG⟩
    rw [lw, List.drop_length] at eG
    refine ⟨_, rfl, fl, _, rfl, .inl ⟨SqL.of hf, fun p hp => ?_⟩⟩
    exact h1 found fvs p _ eG.symm (S.trans (Same.new hp)) upd_same (hA.up (TupLe.new hp)) (S.free hp)
end
end K17


set_option Elab.async false
set_option linter.all false
set_option maxRecDepth 100000
set_option maxHeartbeats 4000000
/-! general words for readings -/
namespace L2
open PySem PySem.Spec PyProof.Rows
section
variable {K : PySem.W.Frag} {a r1 te ta tb : TE} {r : TA} {g : TG} {s tbd : TS} {D : Ends} {z σ : St} {H H1 : Hp} {Q : VK} {i j : Nat} {v x : V}
theorem cons_go {Q : List V → Hp → Prop} (h : a z H fun x H1 => r z H1 fun xs H2 => Q (x :: xs) H2) : tCons a r z H Q := h
theorem call_go {sp : Sp} {ds : List V} {E : XK} {t : TA} (h : t z H fun vs H1 => sp (vs ++ ds) H1 Q E) : tCall sp ds E t z H Q := h
theorem c_go (h : Q v H) : tC v z H Q := h
theorem lst_go {t : TA} (h : t z H fun xs H1 => xs.length ≤ sizeLine ∧ ∀ p, H1 p = none → Q (.ref p) (upd H1 p (.lst xs))) : tLst t z H Q := h
theorem tup_go {t : TA} (h : t z H fun xs H1 => xs.length ≤ sizeLine ∧ ∀ p, H1 p = none → Q (.ref p) (upd H1 p (.tup xs))) : tTup t z H Q := h
theorem nil_go {Q : List V → Hp → Prop} (h : Q [] H) : tNil z H Q := h
theorem var_go (hv : z[i]? = some (some v)) (h : Q v H) : tVar i z H Q := ⟨v, hv, h⟩
theorem set_te (h : te z H fun v H1 => s D (z.set i (some v)) H1) : tSeq (tAsg te (gName i)) s D z H := h
theorem asg_go (h : te z H fun x H1 => g x z H1 (s D)) : tSeq (tAsg te g) s D z H := h
theorem asg_go0 (h : te z H fun x H1 => g x z H1 D.nx) : tAsg te g D z H := h
theorem par_go {ta : TA} (h : ta z H fun vs H1 => ∃ v u, vs = [v, u] ∧ s D ((z.set i (some v)).set j (some u)) H1) : tSeq (tPar i j ta) s D z H := h
theorem nx_for {wi : TI} {r : TS} (h : tFor wi g tbd { nx := r D, rt := D.rt, bk := D.bk, ct := D.ct } z H) : tSeq (tFor wi g tbd) r D z H := h
theorem nx_whl {c : TT} {r : TS} (h : tWhile c tbd { nx := r D, rt := D.rt, bk := D.bk, ct := D.ct } z H) : tSeq (tWhile c tbd) r D z H := h
theorem ret_go (h : te z H D.rt) : tRet te D z H := h
theorem drop_go0 (h : te z H fun _ H1 => D.nx z H1) : tDrop te D z H := h
theorem cb_go {r : List V → Hp → VK → Prop} {ta : TA} (h : ta z H fun vs H1 => r vs H1 Q) : tCB r ta z H Q := h
theorem op_go {r : R2} (h : ta z H fun x H1 => tb z H1 fun y H2 => r x y H2 Q) : tOp r ta tb z H Q := h
theorem seq_ifQ {t : TT} {a r : TS} (R : St → Hp → Prop) (hc : (∀ z1 H1, R z1 H1 → r D z1 H1) → t z H fun b H1 => if b = true then a { nx := r D, rt := D.rt, bk := D.bk, ct := D.ct } z H1 else r D z H1) (hR : ∀ z1 H1, R z1 H1 → r D z1 H1) : tSeq (tIfS t a tNext) r D z H := hc hR
theorem for_te {Pre : Addr → Hp → Prop} {xs : List V} (Pv : Addr → Hp → Nat → St → Hp → Prop) (h : ∀ Q : VK, (∀ a H1, Pre a H1 → Q (.ref a) H1) → te σ H Q) (hs : ∀ a H1, Pre a H1 → SqL K H1 a xs) (h0 : ∀ a H1, Pre a H1 → Pv a H1 0 σ H1) (h1 : ∀ a H1 i σ H, Pre a H1 → i ≤ xs.length → Pv a H1 i σ H → SqL K H a xs)
    (h2 : ∀ a H1, Pre a H1 → ∀ i x σ H, xs[i]? = some x → Pv a H1 i σ H → g x σ H fun σ2 H2 => tbd { nx := Pv a H1 (i + 1), rt := D.rt, bk := D.nx, ct := Pv a H1 (i + 1) } σ2 H2) (h3 : ∀ a H1 σ H, Pre a H1 → Pv a H1 xs.length σ H → D.nx σ H) : tFor (iList K te) g tbd D σ H :=
  h _ fun a H1 p => ⟨a, rfl, ⟨xs, hs a H1 p⟩, for_list (Pv a H1) (h0 a H1 p) (fun i σ H hi q => h1 a H1 i σ H p hi q) (h2 a H1 p) (fun σ H q => h3 a H1 σ H p q)⟩
theorem for_te2 (Pre : Addr → List V → Hp → Prop) (Pv : Addr → List V → Hp → Nat → St → Hp → Prop) (h : ∀ Q : VK, (∀ a xs H1, Pre a xs H1 → Q (.ref a) H1) → te σ H Q) (hs : ∀ a xs H1, Pre a xs H1 → SqL K H1 a xs) (h0 : ∀ a xs H1, Pre a xs H1 → Pv a xs H1 0 σ H1) (h1 : ∀ a xs H1 i σ H, Pre a xs H1 → i ≤ xs.length → Pv a xs H1 i σ H → SqL K H a xs)
    (h2 : ∀ a xs H1, Pre a xs H1 → ∀ i x σ H, xs[i]? = some x → Pv a xs H1 i σ H → g x σ H fun σ2 H2 => tbd { nx := Pv a xs H1 (i + 1), rt := D.rt, bk := D.nx, ct := Pv a xs H1 (i + 1) } σ2 H2) (h3 : ∀ a xs H1 σ H, Pre a xs H1 → Pv a xs H1 xs.length σ H → D.nx σ H) : tFor (iList K te) g tbd D σ H :=
  h _ fun a xs H1 p => ⟨a, rfl, ⟨xs, hs a xs H1 p⟩, for_list (Pv a xs H1) (h0 a xs H1 p) (fun i σ H hi q => h1 a xs H1 i σ H p hi q) (h2 a xs H1 p) (fun σ H q => h3 a xs H1 σ H p q)⟩
theorem ne_same (ha : EvE ta σ H v) (hb : ∀ H1, Same H H1 → EvE tb σ H1 v) (hs : scal v v = true) : EvT (tTest (tOp rNe ta tb)) σ H false := by
  have := ev_test (ev_ne ha hb hs)
  rw [decide_eq_true rfl] at this
  exact this
theorem ne_nilL {q : Addr} {xs : List V} (he : EvE te σ H (.ref q)) (hq : SqL K H q xs) : EvT (tTest (tOp (rNil K not) te (tLst tNil))) σ H (!xs.isEmpty) :=
  ev_test fun Q k => he _ fun H1 s1 => mk_lst (vs := []) ev_nil (fun H2 T s2 _ hT => ⟨_, _, xs, rfl, rfl, (s1.tr s2).sql hq, .inl (.inl hT), k _ (s1.tr s2)⟩)
theorem ev_dget {d : Addr} {kvs : List (Key × V)} {y : Str} (ha : EvE ta σ H (.ref d)) (hb : ∀ H1, Same H H1 → EvE tb σ H1 (.str y)) (hd : H d = some (.dK kvs)) (hv : valV kvs (.inr y) = some v) : EvE (tDGet ta tb) σ H v :=
  fun Q k => ha _ fun H1 s1 => hb H1 s1 _ fun H2 s2 => ⟨d, v, rfl, .inl ⟨kvs, .inr y, .inl ((s1.tr s2) _ _ hd), rfl, hv.symm⟩, k H2 (s1.tr s2)⟩
theorem ev_din {d : Addr} {kvs : List (Key × V)} {y : Str} (ha : EvE ta σ H (.str y)) (hb : ∀ H1, Same H H1 → EvE tb σ H1 (.ref d)) (hd : H d = some (.dK kvs)) : EvE (tDIn ta tb) σ H (.bl (valV kvs (.inr y)).isSome) :=
  fun Q k => ha _ fun H1 s1 => hb H1 s1 _ fun H2 s2 => ⟨d, _, rfl, .inl ⟨kvs, .inr y, .inl ((s1.tr s2) _ _ hd), rfl, rfl⟩, k H2 (s1.tr s2)⟩
/-- text[:n], text[n:] -/
theorem ev_cutA {y : Str} {n : Int} (ha : EvE ta σ H (.str y)) (hl : y.length ≤ sizeLine) : EvE (tSl rSlS ta tNoPart (tPart (tC (.int n)))) σ H (.str (cutS y none (some n))) := fun Q k => ha _ fun H1 s1 => ⟨n, rfl, y, rfl, hl, k H1 s1⟩
theorem ev_cutB {y : Str} {n : Int} (ha : EvE ta σ H (.str y)) (hl : y.length ≤ sizeLine) : EvE (tSl rSlS ta (tPart (tC (.int n))) tNoPart) σ H (.str (cutS y (some n) none)) := fun Q k => ha _ fun H1 s1 => ⟨n, rfl, y, rfl, hl, k H1 s1⟩
theorem isNv {b : Bool} (h : EvE ta σ H v) (hb : decide (v = .non) = b) : EvE (tOp (fun x y H Q => y = V.non ∧ Q (V.bl (decide (x = V.non))) H) ta (tC V.non)) σ H (.bl b) := ev_isN h fun H2 Q q => ⟨rfl, by rw [hb]; exact q⟩
theorem notNv {b : Bool} (h : EvE ta σ H v) (hb : (!decide (v = .non)) = b) : EvE (tOp (fun x y H Q => y = V.non ∧ Q (V.bl !decide (x = V.non)) H) ta (tC V.non)) σ H (.bl b) := ev_isN h fun H2 Q q => ⟨rfl, by rw [hb]; exact q⟩
end
theorem same_upd {H H1 : Hp} {a : Addr} {o : HO} (s : Same H1 H) (h : H1 a = none) : Same H1 (upd H a o) := fun b u hb => by
  rw [upd_ne (ne_of_none hb h)]; exact s b u hb
theorem drop_at {α : Type} {xs : List α} {i : Nat} {x : α} (h : xs[i]? = some x) : xs.drop i = x :: xs.drop (i + 1) := by
  obtain ⟨hi, e⟩ := List.getElem?_eq_some_iff.mp h
  rw [List.drop_eq_getElem_cons hi, e]
theorem tk1 {α : Type} {l : List α} {i : Nat} {x : α} (h : l[i]? = some x) : l.take (i + 1) = l.take i ++ [x] := by
  rw [List.take_succ, h]; rfl
theorem at0 (v : V) (us : List V) : atI (v :: us) 0 = some v := atI_nat (j := 0) rfl
theorem lst_ne {H : Hp} {q x : Addr} {o : HO} (h : H q = none) (k : H x = some o) : q ≠ x := fun e => by rw [e, k] at h; cases h
-- data
theorem SqL.up {K : PySem.W.Frag} {H H' : Hp} {a : Addr} {xs : List V} (h : SqL K H a xs) (e : Same H H') : SqL K H' a xs := e.sql h
mutual
theorem Dp.up {K : PySem.W.Frag} {H H' : Hp} (e : Same H H') : ∀ {v : V} {d : PyData}, Dp K H v d → Dp K H' v d
  | _, _, .int i => .int i
  | _, _, .str x => .str x
  | _, _, .bl b => .bl b
  | _, _, .non => .non
  | _, _, .lst h hs => .lst (e.sql h) (DpAll.up e hs)
  | _, _, .tup h hs => .tup (e.seqT h) (DpAll.up e hs)
theorem DpAll.up {K : PySem.W.Frag} {H H' : Hp} (e : Same H H') : ∀ {vs : List V} {ds : List PyData}, DpAll K H vs ds → DpAll K H' vs ds
  | _, _, .nil => .nil
  | _, _, .cons h hs => .cons (Dp.up e h) (DpAll.up e hs)
end
-- data of tuples, texts, numbers, truth values, None: nothing of it ever changes
mutual
inductive Dq (K : PySem.W.Frag) (H : Hp) : V → PyData → Prop
  | non : Dq K H .non .none
  | bl (b : Bool) : Dq K H (.bl b) (.bool b)
  | int (i : Int) : Dq K H (.int i) (.int i)
  | str (x : Str) : Dq K H (.str x) (.str x)
  | tup {p : Addr} {xs : List V} {ds : List PyData} : (H p = some (.tup xs) ∨ ∀ H', SqT K H' p xs) → DqAll K H xs ds → Dq K H (.ref p) (.tuple ds)
inductive DqAll (K : PySem.W.Frag) (H : Hp) : List V → List PyData → Prop
  | nil : DqAll K H [] []
  | cons {v : V} {vs : List V} {d : PyData} {ds : List PyData} : Dq K H v d → DqAll K H vs ds → DqAll K H (v :: vs) (d :: ds)
end
section
variable {K : PySem.W.Frag} {H H' : Hp}
mutual
theorem Dq.up (e : TupLe H H') : ∀ {v : V} {d : PyData}, Dq K H v d → Dq K H' v d
  | _, _, .int i => .int i
  | _, _, .str x => .str x
  | _, _, .bl b => .bl b
  | _, _, .non => .non
  | _, _, .tup h hs => .tup (h.imp (e _ _) id) (DqAll.up e hs)
theorem DqAll.up (e : TupLe H H') : ∀ {vs : List V} {ds : List PyData}, DqAll K H vs ds → DqAll K H' vs ds
  | _, _, .nil => .nil
  | _, _, .cons h hs => .cons (Dq.up e h) (DqAll.up e hs)
end
mutual
theorem Dq.dp : ∀ {v : V} {d : PyData}, Dq K H v d → Dp K H v d
  | _, _, .int i => .int i
  | _, _, .str x => .str x
  | _, _, .bl b => .bl b
  | _, _, .non => .non
  | _, _, .tup h hs => .tup (h.elim (fun h => .inl (.inl h)) (fun h => h H)) (DqAll.dp hs)
theorem DqAll.dp : ∀ {vs : List V} {ds : List PyData}, DqAll K H vs ds → DpAll K H vs ds
  | _, _, .nil => .nil
  | _, _, .cons h hs => .cons (Dq.dp h) (DqAll.dp hs)
end
theorem Same.tl (s : Same H H') : TupLe H H' := fun b xs h => s b _ h
/-- a tuple taken apart -/
theorem Dq.tuple {v : V} {ds : List PyData} (h : Dq K H v (.tuple ds)) : ∃ p xs, v = .ref p ∧ SqT K H p xs ∧ DqAll K H xs ds := by
  cases h with
  | tup h hs => exact ⟨_, _, rfl, h.elim (fun h => .inl (.inl h)) (fun h => h H), hs⟩
theorem DqAll.len : ∀ {vs : List V} {ds : List PyData}, DqAll K H vs ds → vs.length = ds.length
  | _, _, .nil => rfl
  | _, _, .cons _ hs => by rw [List.length_cons, List.length_cons, DqAll.len hs]
theorem DqAll.at : ∀ {vs : List V} {ds : List PyData}, DqAll K H vs ds → ∀ {i : Nat} {v : V}, vs[i]? = some v → ∃ d, ds[i]? = some d ∧ Dq K H v d
  | _, _, .cons h hs, 0, v, e => by cases e; exact ⟨_, rfl, h⟩
  | _, _, .cons h hs, i + 1, v, e => DqAll.at hs (i := i) e
theorem DqAll.get : ∀ {vs : List V} {ds : List PyData}, DqAll K H vs ds → ∀ {i : Nat} {d : PyData}, ds[i]? = some d → ∃ v, vs[i]? = some v ∧ Dq K H v d
  | _, _, .cons h hs, 0, v, e => by cases e; exact ⟨_, rfl, h⟩
  | _, _, .cons h hs, i + 1, v, e => DqAll.get hs (i := i) e
theorem DqAll.app : ∀ {vs ws : List V} {ds es : List PyData}, DqAll K H vs ds → DqAll K H ws es → DqAll K H (vs ++ ws) (ds ++ es)
  | _, _, _, _, .nil, k => k
  | _, _, _, _, .cons h hs, k => .cons h (DqAll.app hs k)
theorem DqAll.snoc {vs : List V} {ds : List PyData} {v : V} {d : PyData} (h : DqAll K H vs ds) (k : Dq K H v d) : DqAll K H (vs ++ [v]) (ds ++ [d]) := h.app (.cons k .nil)
theorem DqAll.drop : ∀ {vs : List V} {ds : List PyData} (i : Nat), DqAll K H vs ds → DqAll K H (vs.drop i) (ds.drop i)
  | _, _, 0, h => h
  | _, _, i + 1, .nil => .nil
  | _, _, i + 1, .cons _ hs => DqAll.drop i hs
theorem DqAll.take : ∀ {vs : List V} {ds : List PyData} (i : Nat), DqAll K H vs ds → DqAll K H (vs.take i) (ds.take i)
  | _, _, 0, h => .nil
  | _, _, i + 1, .nil => .nil
  | _, _, i + 1, .cons h hs => .cons h (DqAll.take i hs)
end
end L2


set_option Elab.async false
set_option linter.all false
set_option maxRecDepth 100000
set_option maxHeartbeats 4000000
namespace Tld
open PySem L2
abbrev At := Int × Option Str
inductive Part
  | lent (w : Bool)
  | same (a b : At) (w : Bool)
  | less (a b : At) (s w : Bool)
def oD : Option Str → PyData
  | none => .none
  | some z => .str z
def atD (a : At) : PyData := .tuple [.int a.1, oD a.2]
def Part.toD : Part → PyData
  | .lent w => .tuple [.str "lent", .bool w]
  | .same a b w => .tuple [.str "same", .tuple [atD a], .tuple [atD b], .bool w]
  | .less a b s w => .tuple [.str "less", .tuple [atD a], .tuple [atD b], .bool s, .bool w]
def wantP (text : Str) : Bool := decide (cutS text none (some 4) ≠ "not ")
def toldP (text : Str) : Str := if wantP text then text else cutS text (some 4) none
/-- a part of a test; lk: «lent» is one -/
def tPart (ns : List Str) (lk : Bool) (text : Str) : Option Part :=
  if lk = true ∧ toldP text = "lent" then some (.lent (wantP text))
  else match Txt.split (toldP text) " " with
    | [x, y, z] => if y ∈ (["<", "<=", "is"] : List Str) ∧ x ≠ z then
        (match tAtom ns x, tAtom ns z with
          | some a, some b => if y = "is" then some (.same a b (wantP text)) else some (.less a b (decide (y = "<")) (wantP text))
          | _, _ => none) else none
    | _ => none
end Tld
namespace K17
open PySem PySem.Spec PyProof.Rows L2 Tld
section
variable {P : Program} {w : World} {K : PySem.W.Frag} {mg : Str → Option Value} {base : Heap}
/-- the dict of the parts that compare nothing -/
def OthR (H : Hp) (a : Addr) (lk : Bool) : Prop := if lk then ∃ p, H a = some (.dK [(.inr "lent", .ref p)]) ∧ H p = some (.tup [.str "lent"]) else H a = some (.dK [])
/-- what stands for an atom, or None -/
def AtV (H : Hp) (v : V) : Option At → Prop
  | none => v = .non
  | some a => ∃ p, v = .ref p ∧ H p = some (.tup [.int a.1, oS a.2])
theorem AtV.up {H H' : Hp} (s : Same H H') {v : V} : ∀ {o : Option At}, AtV H v o → AtV H' v o
  | none, h => h
  | some a, ⟨p, e, h⟩ => ⟨p, e, s _ _ h⟩
theorem AtV.isn {H : Hp} {v : V} : ∀ {o : Option At}, AtV H v o → decide (v = .non) = o.isNone
  | none, h => by rw [show v = .non from h]; rfl
  | some a, ⟨p, e, h⟩ => by rw [e]; exact decide_eq_false fun z => by cases z
theorem oS_dq {K : PySem.W.Frag} {H : Hp} : ∀ o : Option Str, Dq K H (oS o) (oD o)
  | none => .non
  | some z => .str z
theorem AtV.dq {K : PySem.W.Frag} {H : Hp} {v : V} {a : At} (h : AtV H v (some a)) : Dq K H v (atD a) := by
  obtain ⟨p, e, hp⟩ := h
  rw [e]
  exact .tup (.inl hp) (.cons (.int _) (.cons (oS_dq _) .nil))
theorem at_go {σ : L2.St} {H : Hp} {te tn : TE} {z : Str} {na : Addr} {ns : List Str} {Q : VK} (he : EvE te σ H (.str z)) (hn : ∀ H1, Same H H1 → EvE tn σ H1 (.ref na)) (hna : SqT K H na (ns.map V.str)) (hl : z.length ≤ 1000000) (k : ∀ v H', Same H H' → AtV H' v (tAtom ns z) → Q v H') : tCall (spAtom K) [] E0 (tCons te (tCons tn tNil)) σ H Q :=
  call_go (cons_go (he _ fun H1 s1 => cons_go (hn H1 s1 _ fun H2 s2 => nil_go ⟨z, na, ns, rfl, (s1.tr s2).seqT hna, hl, fun e => k .non H2 (s1.tr s2) (by rw [e]; rfl), fun n o p e hp => k (.ref p) _ ((s1.tr s2).tr (Same.new hp)) (by rw [e]; exact ⟨p, rfl, upd_same⟩)⟩)))
theorem oth_in {σ : L2.St} {H : Hp} {i j : Nat} {oa : Addr} {lk : Bool} {z : Str} (hi : σ[i]? = some (some (.str z))) (hj : σ[j]? = some (some (.ref oa))) (ho : OthR H oa lk) : EvT (tB (tDIn (tVar i) (tVar j))) σ H (lk && decide (z = "lent")) := by
  cases lk with
  | false => exact ev_tB (b1 := false) (ev_din (kvs := []) (ev_var hi) (fun _ _ => ev_var hj) ho)
  | true =>
    obtain ⟨p, h1, h2⟩ := ho
    have e : (valV [((.inr "lent" : Key), V.ref p)] (.inr z)).isSome = decide (z = "lent") := by
      unfold valV
      by_cases h : z = "lent"
      · subst h; simp
      · have h' : ¬ ((.inr "lent" : Key) = .inr z) := fun k => h (Sum.inr.inj k).symm
        simp [h, Ne.symm h]
    have := ev_tB (ev_din (ev_var hi) (fun _ _ => ev_var hj) h1)
    rw [e] at this
    exact this
theorem OthR.up {H H' : Hp} {oa : Addr} {lk : Bool} (s : Same H H') (h : OthR H oa lk) : OthR H' oa lk := by
  cases lk with
  | false => exact s _ _ (show H oa = _ from h)
  | true =>
    obtain ⟨p, h1, h2⟩ := h
    exact ⟨p, s _ _ h1, s _ _ h2⟩
def spPart (K : PySem.W.Frag) : Sp := fun vs H Q _ => ∃ (text : Str) (na oa : Addr) (ns : List Str) (lk : Bool), vs = [.str text, .ref na, .ref oa] ∧ text.length ≤ 1000 ∧ SqT K H na (ns.map V.str) ∧ OthR H oa lk ∧
  (tPart ns lk text = none → ∀ H', Same H H' → Q .non H') ∧ ∀ p v H', tPart ns lk text = some p → Same H H' → Dq K H' v p.toD → Q v H'
theorem split_len (x y : Str) : ∀ z ∈ Txt.split x y, z.length ≤ x.length := fun z hz => by
  have e := StrLaws.join_split x y
  have key : ∀ (l : List (List Nat)) (z : List Nat), z ∈ l → z.length ≤ (TL.joinL (TL.tl y) l).length := by
    intro l
    induction l with
    | nil => intro z hz; cases hz
    | cons a r ih =>
      intro z hz
      cases r with
      | nil =>
        rcases List.mem_cons.mp hz with q | q
        · subst q; exact Nat.le_refl _
        · cases q
      | cons b r =>
        show z.length ≤ (a ++ (TL.tl y ++ TL.joinL (TL.tl y) (b :: r))).length
        rw [List.length_append, List.length_append]
        rcases List.mem_cons.mp hz with q | q
        · subst q; omega
        · have := ih z q; omega
  have q := key _ _ (List.mem_map_of_mem (f := TL.tl) hz)
  rw [← TL.tl_join, e] at q
  rw [TL.len_tl, TL.len_tl]
  exact q
theorem ok_told_part (T : Tx P w K mg) : FnX P w K mg base CX0 3 "told_part" ["text", "names", "others"] [] (spPart K) := by
  have F_told_atom := ok_told_atom (P := P) (w := w) (base := base) T
  refine T.d_told_part.ok0 sc_told_part (fun _ _ _ _ _ _ us hl => match us, hl with | [_, _, _], _ => rfl) (fun vs H Q E h => ?_) (fun f cdv A outer s H vs Q E hr h => have hu := hu_of hr; ⟨_, (by exact (pss_cons (ps_set (i := 3) sc_told_part.nd rfl (Or.inl rfl) (pe_cmpR op_ne (pe_slice sl_str (pv 0) po_none (po_some pe_int)) pe_str (nomark _)))
      (pss_cons (ps_set (i := 4) sc_told_part.nd rfl (Or.inl rfl) (pe_ifExp (pt_val (pv 3)) (pv 0) (pe_slice sl_str (pv 0) (po_some pe_int) po_none)))
      (pss_cons (ps_if (pt_cmp (pc_din hu (pv 4) (pv 2))) (pss_one (ps_ret (pe_tup (StX.pa_star (pe_dget hu (pv 2) (pv 4) (fun _ _ => rfl)) (pa_cons (pv 3) pa_nil))))) pss_nil)
      (pss_cons (ps_set (i := 5) sc_told_part.nd rfl (Or.inl rfl) (pe_split (pv 4) pe_str))
      (pss_cons (ps_if (PW.pt (pw_or (pt_cmpR op_ne (pe_callB call_len_seq (by rfl) T.b_len (by decide +kernel) (pa_cons (pv 5) pa_nil)) pe_int (nomark _)) (pw_or (pt_cmpR op_notIn_seq (pe_ix ix_list (pv 5) pe_int (fun _ _ => rfl)) (pe_tup (pa_cons pe_str (pa_cons pe_str (pa_cons pe_str pa_nil)))) (by rfl)) (pw_or1 (pt_cmpR op_eq (pe_ix ix_list (pv 5) pe_int (fun _ _ => rfl)) (pe_ix ix_list (pv 5) pe_int (fun _ _ => rfl)) (nomark _)))))) (pss_one (ps_ret pe_non)) pss_nil)
      (pss_cons (ps_par (i := 6) (j := 7) (by rfl) sc_told_part.nd rfl rfl (by decide) rfl rfl (pa_cons (pe_callX F_told_atom (hr.mono (by first | decide | omega)) pass0 (pa_cons (pe_ix ix_list (pv 5) pe_int (fun _ _ => rfl)) (pa_cons (pv 1) pa_nil))) (pa_cons (pe_callX F_told_atom (hr.mono (by first | decide | omega)) pass0 (pa_cons (pe_ix ix_list (pv 5) pe_int (fun _ _ => rfl)) (pa_cons (pv 1) pa_nil))) pa_nil)) (by rfl))
      (pss_cons (ps_if (PW.pt (pw_or (pt_cmpR op_isN (pv 6) pe_non (nomark _)) (pw_or1 (pt_cmpR op_isN (pv 7) pe_non (nomark _))))) (pss_one (ps_ret pe_non)) pss_nil)
      (pss_cons (ps_if (pt_cmpR op_eq (pe_ix ix_list (pv 5) pe_int (fun _ _ => rfl)) pe_str (nomark _)) (pss_one (ps_ret (pe_tup (pa_cons pe_str (pa_cons (pe_tup (pa_cons (pv 6) pa_nil)) (pa_cons (pe_tup (pa_cons (pv 7) pa_nil)) (pa_cons (pv 3) pa_nil))))))) pss_nil)
      (pss_one (ps_ret (pe_tup (pa_cons pe_str (pa_cons (pe_tup (pa_cons (pv 6) pa_nil)) (pa_cons (pe_tup (pa_cons (pv 7) pa_nil)) (pa_cons (pe_cmpR op_eq (pe_ix ix_list (pv 5) pe_int (fun _ _ => rfl)) pe_str (nomark _)) (pa_cons (pv 3) pa_nil))))))))))))))))), ?_⟩)
  · obtain ⟨text, na, oa, ns, lk, rfl, _⟩ := h
    rfl
  obtain ⟨text, na, oa, ns, lk, rfl, htl, hna, hoa, h0, h1⟩ := h
  have q9 : sizeLine = 16777216 := sizeLine_eq
  have hsz : text.length ≤ sizeLine := by omega
  have htd : (toldP text).length ≤ text.length := by
    unfold toldP
    split
    · exact Nat.le_refl _
    · exact cutS_length _ _ _
  have hnz : ((" " : Str).length == 0) = false := by decide +kernel
  refine do_set (x := .bl (wantP text)) ?_ (fun H1 s1 => ?_)
  · have e : (!(decide (V.str (cutS text none (some 4)) = V.str "not "))) = wantP text := by
      unfold wantP
      rw [dcS]
      by_cases h : cutS text none (some 4) = "not " <;> simp [h]
    rw [← e]
    exact ev_ne (ev_cutA (ev_var rfl) hsz) (fun _ _ => ev_C) rfl
  refine do_set (x := .str (toldP text)) (ev_if (b1 := wantP text) (ev_tB (ev_var rfl)) (fun g H2 s2 => ?_) (fun g H2 s2 => ?_)) (fun H2 s2 => ?_)
  · rw [show toldP text = text from if_pos g]; exact ev_var rfl
  · rw [show toldP text = cutS text (some 4) none from if_neg (by rw [g]; decide)]; exact ev_cutB (ev_var rfl) hsz
  have s02 := s1.tr s2
  have hoa2 := hoa.up s02
  refine seq_if (b1 := lk && decide (toldP text = "lent")) (oth_in rfl rfl hoa2) (fun g H3 s3 => ?_) (fun g H3 s3 => ?_)
  · rw [Bool.and_eq_true] at g
    obtain ⟨g1, g2⟩ := g
    have g2 := of_decide_eq_true g2
    subst g1
    obtain ⟨p, hp1, hp2⟩ := hoa2.up s3
    have eP : tPart ns true text = some (.lent (wantP text)) := if_pos ⟨rfl, g2⟩
    refine ret_go (tup_go ?_)
    refine ev_dget (y := toldP text) (v := .ref p) (ev_var rfl) (fun _ _ => ev_var rfl) hp1 (by rw [g2]; rfl) _ fun H4 s4 => ⟨p, [.str "lent"], rfl, .inl (.inl (.inl (s4 _ _ hp2))), cons_go ⟨_, rfl, nil_go ⟨szL rfl, fun q hq => ?_⟩⟩⟩
    exact h1 (.lent (wantP text)) _ _ eP ((s02.tr (s3.tr s4)).tr (Same.new hq)) (.tup (.inl upd_same) (.cons (.str _) (.cons (.bl _) .nil)))
  have eP : tPart ns lk text = match Txt.split (toldP text) " " with
    | [x, y, z] => if y ∈ (["<", "<=", "is"] : List Str) ∧ x ≠ z then
        (match tAtom ns x, tAtom ns z with
          | some a, some b => if y = "is" then some (.same a b (wantP text)) else some (.less a b (decide (y = "<")) (wantP text))
          | _, _ => none) else none
    | _ => none := if_neg fun ⟨k1, k2⟩ => by rw [k1, k2] at g; simp at g
  refine set_te (do_split (ev_var rfl) hnz (by omega) (fun H4 q s4 _ hq => ?_))
  have hlw : ∀ x ∈ Txt.split (toldP text) " ", x.length ≤ 1000000 := fun x hx => Nat.le_trans (split_len _ _ x hx) (by omega)
  generalize Txt.split (toldP text) " " = ws at hq eP hlw
  have s04 := s02.tr (s3.tr s4)
  let S5 : L2.St := [some (.str text), some (.ref na), some (.ref oa), some (.bl (wantP text)), some (.str (toldP text)), some (.ref q), none, none]
  have wd : ∀ {H' : Hp} {i : Nat}, Same H4 H' → i < ws.length → EvE (tOp (rIxL K) (tVar 5) (tC (.int (i : Int)))) S5 H' (.str (ws.getD i "")) := fun s h => ev_word (ev_var rfl) (.inl (.inl (s _ _ hq))) h
  refine seq_if (σ := S5) (b1 := !decide (ws.length = 3) || (!decide (ws.getD 1 "" ∈ (["<", "<=", "is"] : List Str)) || decide (ws.getD 0 "" = ws.getD 2 ""))) (ev_or ?_ (fun g5 H5 s5 => ?_)) (fun g5 H5 s5 => ?_) (fun g5 H5 s5 => ?_)
  · have := ev_test (ev_ne (ev_len (K := K) (σ := S5) (ev_cons (ev_var (i := 5) rfl) fun _ _ => ev_nil) (.inl (.inl (.inl hq)))) (fun _ _ => ev_C (v := .int ((3 : Nat) : Int))) rfl)
    rw [dcN, List.length_map] at this
    exact this
  · have h3 : ws.length = 3 := by simpa using g5
    refine ev_or (ev_test (ev_notin (wd (i := 1) s5 (by omega)) (in_tup (ns := ["<", "<=", "is"]) fun _ => ev_cons ev_C fun _ _ => ev_cons ev_C fun _ _ => ev_cons ev_C fun _ _ => ev_nil))) (fun _ H6 s6 => eq_str (wd (i := 0) (s5.tr s6) (by omega)) fun H7 s7 => wd (i := 2) ((s5.tr s6).tr s7) (by omega))
  · refine h0 ?_ _ (s04.tr s5)
    rw [eP]
    match ws, g5 with
    | [], _ => rfl
    | [_], _ => rfl
    | [_, _], _ => rfl
    | [x, y, z], g5 =>
      refine if_neg fun ⟨k1, k2⟩ => ?_
      have g5' : (!decide (y ∈ (["<", "<=", "is"] : List Str)) || decide (x = z)) = true := g5
      rw [decide_eq_true k1, decide_eq_false k2] at g5'
      cases g5'
    | _ :: _ :: _ :: _ :: _, _ => rfl
  obtain ⟨x, y, z, rfl⟩ : ∃ x y z, ws = [x, y, z] := by
    match ws, g5 with
    | [], g5 => cases g5
    | [_], g5 => cases g5
    | [_, _], g5 => cases g5
    | [x, y, z], g5 => exact ⟨x, y, z, rfl⟩
    | _ :: _ :: _ :: _ :: r, g5 => rw [decide_eq_false (show ¬ (_ :: _ :: _ :: _ :: r).length = 3 by simp)] at g5; cases g5
  have g6 : (!decide (y ∈ (["<", "<=", "is"] : List Str)) || decide (x = z)) = false := g5
  rw [Bool.or_eq_false_iff] at g6
  have gy : y ∈ (["<", "<=", "is"] : List Str) := by
    cases e : decide (y ∈ (["<", "<=", "is"] : List Str)) with
    | true => exact of_decide_eq_true e
    | false => rw [e] at g6; cases g6.1
  have gx : x ≠ z := of_decide_eq_false g6.2
  replace eP : tPart ns lk text = (match tAtom ns x, tAtom ns z with
          | some a, some b => if y = "is" then some (Part.same a b (wantP text)) else some (.less a b (decide (y = "<")) (wantP text))
          | _, _ => none) := eP.trans (if_pos ⟨gy, gx⟩)
  have s05 := s04.tr s5
  refine par_go (cons_go (at_go (wd (i := 0) s5 (show 0 < 3 by decide)) (fun _ _ => ev_var rfl) (s05.seqT hna) (hlw x (by simp)) (fun v6 H6 s6 hv6 => cons_go (at_go (wd (i := 2) (s5.tr s6) (show 2 < 3 by decide)) (fun _ _ => ev_var rfl) ((s05.tr s6).seqT hna) (hlw z (by simp)) (fun v7 H7 s7 hv7 => nil_go ⟨_, _, rfl, ?_⟩)))))
  have hv6' : AtV _ v6 (tAtom ns x) := hv6.up s7
  replace hv7 : AtV _ v7 (tAtom ns z) := hv7
  have s07 := (s05.tr s6).tr s7
  let S7 : L2.St := [some (.str text), some (.ref na), some (.ref oa), some (.bl (wantP text)), some (.str (toldP text)), some (.ref q), some v6, some v7]
  refine seq_if (σ := S7) (ev_or (ev_test (isNv (ev_var rfl) hv6'.isn)) fun _ H8 s8 => ev_test (isNv (ev_var rfl) hv7.isn)) (fun g8 H8 s8 => ?_) (fun g8 H8 s8 => ?_)
  · refine h0 ?_ _ (s07.tr s8)
    rw [eP]
    cases e1 : tAtom ns x with
    | none => rfl
    | some a =>
      cases e2 : tAtom ns z with
      | none => rfl
      | some b => rw [e1, e2] at g8; cases g8
  cases e1 : tAtom ns x with
  | none => rw [e1] at g8; cases g8
  | some a =>
    cases e2 : tAtom ns z with
    | none => rw [e1, e2] at g8; cases g8
    | some b =>
      rw [e1, e2] at eP
      rw [e1] at hv6'
      rw [e2] at hv7
      have d6 : ∀ {H' : Hp}, TupLe H7 H' → Dq K H' v6 (atD a) := fun s => (AtV.dq (K := K) hv6').up s
      have d7 : ∀ {H' : Hp}, TupLe H7 H' → Dq K H' v7 (atD b) := fun s => (AtV.dq (K := K) hv7).up s
      have s47 := (s5.tr s6).tr s7
      refine seq_if (σ := S7) (b1 := decide (y = "is")) (eq_str (wd (i := 1) (s47.tr s8) (show 1 < 3 by decide)) fun _ _ => ev_C) (fun g9 H9 s9 => ?_) (fun g9 H9 s9 => ?_)
      · refine ret_go (tup_go (cons_go (c_go (cons_go (tup_go (cons_go ⟨_, rfl, nil_go ⟨szL rfl, fun p1 hp1 => cons_go (tup_go (cons_go ⟨_, rfl, nil_go ⟨szL rfl, fun p2 hp2 => cons_go ⟨_, rfl, nil_go ⟨szL rfl, fun p3 hp3 => ?_⟩⟩⟩⟩))⟩⟩))))))
        have t1 : Same H9 (upd H9 p1 (.tup [v6])) := Same.new hp1
        have i1 : upd H9 p1 (.tup [v6]) p1 = some (.tup [v6]) := upd_same
        generalize upd H9 p1 (.tup [v6]) = Ha at t1 i1 hp2 hp3 ⊢
        have t2 : Same Ha (upd Ha p2 (.tup [v7])) := Same.new hp2
        have i2 : upd Ha p2 (.tup [v7]) p2 = some (.tup [v7]) := upd_same
        generalize upd Ha p2 (.tup [v7]) = Hb at t2 i2 hp3 ⊢
        have t3 : Same Hb (upd Hb p3 (.tup [.str "same", .ref p1, .ref p2, .bl (wantP text)])) := Same.new hp3
        have t79 := (((s8.tr s9).tr t1).tr t2).tr t3
        replace eP := eP.trans (if_pos (of_decide_eq_true g9))
        exact h1 _ _ _ eP (s07.tr t79) (.tup (.inl upd_same) (.cons (.str _) (.cons (.tup (.inl ((t2.tr t3) _ _ i1)) (.cons (d6 t79.tl) .nil)) (.cons (.tup (.inl (t3 _ _ i2)) (.cons (d7 t79.tl) .nil)) (.cons (.bl _) .nil)))))
      · refine ret_go (tup_go (cons_go (c_go (cons_go (tup_go (cons_go ⟨_, rfl, nil_go ⟨szL rfl, fun p1 hp1 => cons_go (tup_go (cons_go ⟨_, rfl, nil_go ⟨szL rfl, fun p2 hp2 => ?_⟩⟩))⟩⟩))))))
        have t1 : Same H9 (upd H9 p1 (.tup [v6])) := Same.new hp1
        have i1 : upd H9 p1 (.tup [v6]) p1 = some (.tup [v6]) := upd_same
        generalize upd H9 p1 (.tup [v6]) = Ha at t1 i1 hp2 ⊢
        have t2 : Same Ha (upd Ha p2 (.tup [v7])) := Same.new hp2
        have i2 : upd Ha p2 (.tup [v7]) p2 = some (.tup [v7]) := upd_same
        generalize upd Ha p2 (.tup [v7]) = Hb at t2 i2 ⊢
        have t48 := (s47.tr s8).tr s9
        have eb : decide (V.str y = V.str "<") = decide (y = "<") := dcS
        refine cons_go (ev_eq (wd (i := 1) ((t48.tr t1).tr t2) (show 1 < 3 by decide)) (fun _ _ => ev_C (v := .str "<")) rfl _ fun Hc t3 => cons_go ⟨_, rfl, nil_go ⟨szL rfl, fun p3 hp3 => ?_⟩⟩)
        have t4 : Same Hc (upd Hc p3 (.tup [.str "less", .ref p1, .ref p2, .bl (decide (V.str y = V.str "<")), .bl (wantP text)])) := Same.new hp3
        have t79 := ((((s8.tr s9).tr t1).tr t2).tr t3).tr t4
        replace eP := eP.trans (if_neg (of_decide_eq_false g9))
        refine h1 _ _ _ eP (s07.tr t79) (.tup (.inl upd_same) (.cons (.str _) (.cons (.tup (.inl (((t2.tr t3).tr t4) _ _ i1)) (.cons (d6 t79.tl) .nil)) (.cons (.tup (.inl ((t3.tr t4) _ _ i2)) (.cons (d7 t79.tl) .nil)) (.cons ?_ (.cons (.bl _) .nil))))))
        show Dq K _ (.bl (decide (V.str y = V.str "<"))) (.bool (decide (y = "<")))
        rw [eb]
        exact .bl _
end
end K17


set_option Elab.async false
set_option linter.all false
set_option maxRecDepth 100000
set_option maxHeartbeats 4000000
/-! the reader of the codes with ifs: rows as read, the reading as a relation; None in a tuple of tuples -/
namespace Rdr
open PySem
/-- rows: what a row tells, an if with its line, its parts and its blocks -/
inductive RT (α β : Type)
  | nil
  | leaf (x : α) (rest : RT α β)
  | ifr (line : Nat) (ps : List β) (a b rest : RT α β)
variable {α β : Type}
def RT.app : RT α β → RT α β → RT α β
  | .nil, t => t
  | .leaf x r, t => .leaf x (r.app t)
  | .ifr l ps a b r, t => .ifr l ps a b (r.app t)
theorem RT.app_nil : ∀ s : RT α β, s.app .nil = s
  | .nil => rfl
  | .leaf x r => by show RT.leaf x (r.app .nil) = _; rw [RT.app_nil r]
  | .ifr l ps a b r => by show RT.ifr l ps a b (r.app .nil) = _; rw [RT.app_nil r]
theorem RT.app_assoc : ∀ s t u : RT α β, (s.app t).app u = s.app (t.app u)
  | .nil, _, _ => rfl
  | .leaf x r, t, u => by show RT.leaf x _ = RT.leaf x _; rw [RT.app_assoc r t u]
  | .ifr l ps a b r, t, u => by show RT.ifr l ps a b _ = RT.ifr l ps a b _; rw [RT.app_assoc r t u]
section
variable (fa : α → List PyData) (fb : β → List PyData)
def ifD (l : Nat) (ps a b : List PyData) : PyData := .tuple [.str "if", .int (l : Nat), .tuple ps, .tuple a, .tuple b]
def RT.toL : RT α β → List PyData
  | .nil => []
  | .leaf x r => .tuple (fa x) :: r.toL
  | .ifr l ps a b r => ifD l (ps.map fun p => .tuple (fb p)) a.toL b.toL :: r.toL
theorem RT.toL_app : ∀ s t : RT α β, (s.app t).toL fa fb = s.toL fa fb ++ t.toL fa fb
  | .nil, _ => rfl
  | .leaf x r, t => by show PyData.tuple (fa x) :: (r.app t).toL fa fb = _; rw [RT.toL_app r t]; rfl
  | .ifr l ps a b r, t => by show ifD _ _ _ _ :: (r.app t).toL fa fb = _; rw [RT.toL_app r t]; rfl
end
inductive Res (α β : Type)
  | err (k : Nat)
  | ok (t : RT α β) (word : Str) (ls : List Str) (n ifs : Nat)
def Res.pre (f : RT α β → RT α β) : Res α β → Res α β
  | .err k => .err k
  | .ok t w ls n i => .ok (f t) w ls n i
theorem pre_pre (R : Res α β) (f g : RT α β → RT α β) : (R.pre f).pre g = R.pre (fun t => g (f t)) := by cases R <;> rfl
inductive Md
  | blk (inner : Bool)
  | cond (text : Str)
def enders : List Str := ["else", "end"]
def isIf (t : Str) : Prop := L2.cutS t none (some 3) = "if "
def cut3 (t : Str) : Str := L2.cutS t (some 3) none
def andS : Str := Str.ofString " and "
def partsOf (partF : Str → Option β) (text : Str) : List (Option β) := (Txt.split text andS).map partF
/-- the parts of a test, all that can be told, at most four -/
def goodPs (partF : Str → Option β) (text : Str) (ps : List β) : Prop := partsOf partF text = ps.map some ∧ ps.length ≤ 4
def badPs (partF : Str → Option β) (text : Str) : Prop := 4 < (partsOf partF text).length ∨ none ∈ partsOf partF text
section
variable (rowF : Str → Nat → Option α) (partF : Str → Option β)
inductive Rd : Md → List Str → Nat → Nat → Res α β → Prop
  | eof {n i} : Rd (.blk false) [] n i (.ok .nil "" [] n i)
  | eofI {n i} : Rd (.blk true) [] n i (.err (n + 1))
  | fin {t r n i} : t ∈ enders → Rd (.blk true) (t :: r) n i (.ok .nil t r (n + 1) i)
  | finO {t r n i} : t ∈ enders → Rd (.blk false) (t :: r) n i (.err (n + 1))
  | bad {b t r n i} : t ∉ enders → ¬ isIf t → rowF t (n + 1) = none → Rd (.blk b) (t :: r) n i (.err (n + 1))
  | leaf {b t r n i x R} : t ∉ enders → ¬ isIf t → rowF t (n + 1) = some x → Rd (.blk b) r (n + 1) i R → Rd (.blk b) (t :: r) n i (R.pre (.leaf x))
  | ifE {b t r n i k} : t ∉ enders → isIf t → Rd (.cond (cut3 t)) r (n + 1) i (.err k) → Rd (.blk b) (t :: r) n i (.err k)
  | ifr {b t r n i l ps x y r2 n2 i2 R} : t ∉ enders → isIf t → Rd (.cond (cut3 t)) r (n + 1) i (.ok (.ifr l ps x y .nil) "" r2 n2 i2) → Rd (.blk b) r2 n2 i2 R → Rd (.blk b) (t :: r) n i (R.pre (.ifr l ps x y))
  | badC {text r n i} : badPs partF text → Rd (.cond text) r n i (.err n)
  | aE {text r n i ps k} : goodPs partF text ps → Rd (.blk true) r n (i + 1) (.err k) → Rd (.cond text) r n i (.err k)
  | one {text r n i ps x r2 n2 i2} : goodPs partF text ps → Rd (.blk true) r n (i + 1) (.ok x "end" r2 n2 i2) → Rd (.cond text) r n i (.ok (.ifr n ps x .nil .nil) "" r2 n2 i2)
  | bE {text r n i ps x r2 n2 i2 k} : goodPs partF text ps → Rd (.blk true) r n (i + 1) (.ok x "else" r2 n2 i2) → Rd (.blk true) r2 n2 i2 (.err k) → Rd (.cond text) r n i (.err k)
  | two {text r n i ps x r2 n2 i2 y r3 n3 i3} : goodPs partF text ps → Rd (.blk true) r n (i + 1) (.ok x "else" r2 n2 i2) → Rd (.blk true) r2 n2 i2 (.ok y "end" r3 n3 i3) → Rd (.cond text) r n i (.ok (.ifr n ps x y .nil) "" r3 n3 i3)
  | elsE {text r n i ps x r2 n2 i2 y r3 n3 i3} : goodPs partF text ps → Rd (.blk true) r n (i + 1) (.ok x "else" r2 n2 i2) → Rd (.blk true) r2 n2 i2 (.ok y "else" r3 n3 i3) → Rd (.cond text) r n i (.err n3)
end
variable {rowF : Str → Nat → Option α} {partF : Str → Option β}
theorem drop1 {r ls : List Str} {t : Str} {j : Nat} (h : r = ls.drop j) (h2 : j ≤ ls.length) : r = (t :: ls).drop (j + 1) ∧ j + 1 ≤ (t :: ls).length := ⟨by rw [List.drop_succ_cons]; exact h, by rw [List.length_cons]; omega⟩
/-- what is left are the lines from the number on -/
theorem Rd.adv {md : Md} {ls : List Str} {n i : Nat} {R : Res α β} (h : Rd rowF partF md ls n i R) : ∀ t w ls' n' i', R = .ok t w ls' n' i' → ∃ j, j ≤ ls.length ∧ ls' = ls.drop j ∧ n' = n + j ∧ i ≤ i' := by
  induction h with
  | eof => rintro t w ls' n' i' ⟨⟩; exact ⟨0, by simp, rfl, rfl, Nat.le_refl _⟩
  | fin _ => rintro t w ls' n' i' ⟨⟩; exact ⟨1, by simp, rfl, rfl, Nat.le_refl _⟩
  | eofI => intro t w ls' n' i' e; cases e
  | finO _ => intro t w ls' n' i' e; cases e
  | bad => intro t w ls' n' i' e; cases e
  | ifE => intro t w ls' n' i' e; cases e
  | badC => intro t w ls' n' i' e; cases e
  | aE => intro t w ls' n' i' e; cases e
  | bE => intro t w ls' n' i' e; cases e
  | elsE => intro t w ls' n' i' e; cases e
  | @leaf b t r n i x R _ _ _ _ ih =>
    intro t' w ls' n' i' e
    cases R with
    | err k => cases e
    | ok u w2 l m i2 =>
      cases e
      obtain ⟨j, h1, h2, h3, h4⟩ := ih u w ls' n' i' rfl
      exact ⟨j + 1, (drop1 (t := t) h2 h1).2, (drop1 (t := t) h2 h1).1, by omega, h4⟩
  | @ifr b t r n i l ps x y r2 n2 i2 R _ _ _ _ ih1 ih2 =>
    intro t' w ls' n' i' e
    cases R with
    | err k => cases e
    | ok u w2 l m i2 =>
      cases e
      obtain ⟨j1, h4, h5, h6, h7⟩ := ih1 _ _ r2 n2 _ rfl
      obtain ⟨j, h1, h2, h3, h8⟩ := ih2 u w ls' n' i' rfl
      subst h5 h6
      rw [List.length_drop] at h1
      rw [List.drop_drop] at h2
      have q : j1 + j ≤ r.length := by omega
      exact ⟨j1 + j + 1, (drop1 (t := t) h2 q).2, (drop1 (t := t) h2 q).1, by omega, Nat.le_trans h7 h8⟩
  | one _ _ ih =>
    rintro t w ls' n' i' ⟨⟩
    obtain ⟨j, h1, h2, h3, h4⟩ := ih _ _ _ _ _ rfl
    exact ⟨j, h1, h2, h3, by omega⟩
  | two _ _ _ ih1 ih2 =>
    rintro t w ls' n' i' ⟨⟩
    obtain ⟨j1, h4, h5, h6, h7⟩ := ih1 _ _ _ _ _ rfl
    obtain ⟨j, h1, h2, h3, h8⟩ := ih2 _ _ _ _ _ rfl
    subst h5 h6
    rw [List.length_drop] at h1
    rw [List.drop_drop] at h2
    exact ⟨j1 + j, by omega, h2, by omega, by omega⟩
/-- an inner block ends with else or end -/
theorem Rd.word {md : Md} {ls : List Str} {n i : Nat} {R : Res α β} (h : Rd rowF partF md ls n i R) : md = .blk true → ∀ t w ls' n' i', R = .ok t w ls' n' i' → w ∈ enders := by
  induction h with
  | fin h => rintro _ t w ls' n' i' ⟨⟩; exact h
  | eof => rintro ⟨⟩
  | eofI => intro _ t w ls' n' i' e; cases e
  | finO _ => rintro ⟨⟩
  | bad => intro _ t w ls' n' i' e; cases e
  | ifE => intro _ t w ls' n' i' e; cases e
  | badC => rintro ⟨⟩
  | aE => rintro ⟨⟩
  | bE => rintro ⟨⟩
  | elsE => rintro ⟨⟩
  | one => rintro ⟨⟩
  | two => rintro ⟨⟩
  | @leaf b t r n i x R _ _ _ _ ih =>
    intro e t' w ls' n' i' q
    cases R with
    | err k => cases q
    | ok u w2 l m i2 => cases q; exact ih e _ _ _ _ _ rfl
  | @ifr b t r n i l ps x y r2 n2 i2 R _ _ _ _ ih1 ih2 =>
    intro e t' w ls' n' i' q
    cases R with
    | err k => cases q
    | ok u w2 l m i2 => cases q; exact ih2 e _ _ _ _ _ rfl
end Rdr
namespace L2
open PySem PySem.Spec PyProof.Rows
/-- the items are tuples or None -/
def tupOrN (K : PySem.W.Frag) (H : Hp) (v : V) : Prop := v = .non ∨ ∃ q ys, v = .ref q ∧ SqT K H q ys
/-- None in a tuple of such -/
def rNoneInT (K : PySem.W.Frag) : R2 := fun x y H Q => ∃ p xs, x = .non ∧ y = .ref p ∧ SqT K H p xs ∧ (∀ v ∈ xs, tupOrN K H v) ∧ Q (.bl (xs.any fun v => decide (v = .non))) H
def isNonU : Value → Bool
  | .none => true
  | _ => false
theorem op_noneInT {X : Cx} (hu : X.A.units + 64 < cLine) : OpR X (compareOp .In) (rNoneInT X.K) := by
  intro pins s σ H x y v u Q I rx ry h
  obtain ⟨p, xs, rfl, rfl, hq, hs, q⟩ := h
  cases ry
  cases rx
  obtain ⟨its, r, pl, hz⟩ := I.tuple hq
  have key : ∀ {xs : List V} {us : List Value}, Vals xs us → (∀ v ∈ xs, tupOrN X.K H v) → (us.any isNonU = xs.any fun v => decide (v = .non)) ∧ ∀ w ∈ us, SeqAt.EqAt X.A.in1 s w .none (isNonU w) := by
    intro xs us r
    induction r with
    | nil => intro _; exact ⟨rfl, fun w hw => by cases hw⟩
    | @cons y u ys us r t ih =>
      intro hs
      obtain ⟨h1, h2⟩ := ih fun v hv => hs v (List.mem_cons_of_mem _ hv)
      rcases hs y (List.mem_cons_self ..) with e | ⟨q, zs, e, hz⟩
      · subst e
        cases r
        refine ⟨by rw [List.any_cons, List.any_cons, h1]; rfl, fun w hw => ?_⟩
        rcases List.mem_cons.mp hw with e | hw
        · subst e; exact SeqAt.EqAt.same _
        · exact h2 w hw
      · subst e
        cases r
        obtain ⟨its2, r2, pl2, hz2⟩ := I.tuple hz
        refine ⟨by rw [List.any_cons, List.any_cons, h1]; rfl, fun w hw => ?_⟩
        rcases List.mem_cons.mp hw with e | hw
        · subst e
          exact SeqAt.EqAt.tuple_none pl2 (show X.A.units + 1 < cLine by omega)
        · exact h2 w hw
  obtain ⟨k1, k2⟩ := key r hs
  refine SeqAt.in_tupleAt isNonU pl (fun w hw => k2 w (by simpa using hw)) ⟨.bl _, H, I, rfl, ?_⟩
  rw [show its.toArray.any isNonU = its.any isNonU by simp, k1]
  exact q
theorem noneInT_at {X : Cx} {K : PySem.W.Frag} (hu : X.A.units + 64 < cLine) (h : X.K = K := by rfl) : OpR X (compareOp .In) (rNoneInT K) := by subst h; exact op_noneInT hu
theorem paS_at {X : Cx} {K : PySem.W.Frag} {e : Expr} {es : List Expr} {te : TE} {t : TA} {p : Pos} (he : PE X e te) (hr : PA X es t) (hs : starEach (.Starred e p :: es) X.env = (true, eval e X.env) :: starEach es X.env := by rfl) (h : X.K = K := by rfl) : PA X (.Starred e p :: es) (StX.tStar K te t) := by
  subst h
  exact StX.pa_star he hr hs
end L2


set_option Elab.async false
set_option linter.all false
set_option maxRecDepth 100000
set_option maxHeartbeats 4000000
namespace K17
open PySem PySem.Spec PyProof.Rows L2 Rdr LmX LamX NdefX
section
variable {P : Program} {w : World} {K : PySem.W.Frag} {mg : Str → Option Value} {base : Heap}
/-- a lambda that keeps sp lies at f -/
def LamAt (P : Program) (w : World) (K : PySem.W.Frag) (mg : Str → Option Value) (base : Heap) (j : Nat) (ps : List Str) (sp : Sp) (f : Addr) (H : Hp) : Prop :=
  ∃ F b, H f = some (FnL f F b) ∧ H F.c = some (CodeO F.c F.qual) ∧ LOk P w K mg base j f F b ps sp
theorem LamAt.up {j : Nat} {ps : List Str} {sp : Sp} {f : Addr} {H H' : Hp} (h : LamAt P w K mg base j ps sp f H) (s : Same H H') : LamAt P w K mg base j ps sp f H' := by
  obtain ⟨F, b, h1, h2, h3⟩ := h
  exact ⟨F, b, s _ _ h1, s _ _ h2, h3⟩
theorem fnL_ins {f : Addr} {F : NF} {b : Expr} {C dx : Addr} {fs : List (Str × V)} : FnL f F b ≠ .ins C dx fs := fun e => by unfold FnL at e; cases e
theorem codeO_ins {c : Addr} {q : Str} {C dx : Addr} {fs : List (Str × V)} : CodeO c q ≠ .ins C dx fs := fun e => by unfold CodeO at e; cases e
theorem LamAt.upx {j : Nat} {ps : List Str} {sp : Sp} {f x : Addr} {H H' : Hp} {C dx : Addr} {fs : List (Str × V)} (h : LamAt P w K mg base j ps sp f H) (hx : H x = some (.ins C dx fs)) (s : SameX x H H') : LamAt P w K mg base j ps sp f H' := by
  obtain ⟨F, b, h1, h2, h3⟩ := h
  exact ⟨F, b, s _ _ (fun e => by rw [e, hx] at h1; exact fnL_ins (Option.some.inj h1).symm) h1, s _ _ (fun e => by rw [e, hx] at h2; exact codeO_ins (Option.some.inj h2).symm) h2, h3⟩
variable {α β : Type}
/-- what the lambda of the rows keeps -/
def spRowL (K : PySem.W.Frag) (fa : α → List PyData) (rowF : Str → Nat → Option α) : Sp := fun vs H Q E => ∃ (t : Str) (n : Nat), vs = [.str t, .int (n : Nat)] ∧ t.length ≤ 1000 ∧
  (rowF t n = none → ∀ H', Same H H' → Q .non H') ∧ ∀ a v H', rowF t n = some a → Same H H' → Dq K H' v (.tuple (fa a)) → Q v H'
def spPartL (K : PySem.W.Frag) (fb : β → List PyData) (partF : Str → Option β) : Sp := fun vs H Q E => ∃ (t : Str), vs = [.str t] ∧ t.length ≤ 1000 ∧
  (partF t = none → ∀ H', Same H H' → Q .non H') ∧ ∀ a v H', partF t = some a → Same H H' → Dq K H' v (.tuple (fb a)) → Q v H'
def rdF (l f g : Addr) (n i : Nat) : List (Str × V) := [("own_lines", .ref l), ("row_of", .ref f), ("part_of", .ref g), ("line", .int (n : Nat)), ("ifs", .int (i : Nat))]
abbrev cR (K : PySem.W.Frag) : Addr := He.ga K "Reader"
/-- a reader of the lines ts at line n, i ifs met -/
structure RdAt (P : Program) (w : World) (K : PySem.W.Frag) (mg : Str → Option Value) (base : Heap) (fa : α → List PyData) (fb : β → List PyData) (rowF : Str → Nat → Option α) (partF : Str → Option β) (H : Hp) (x dx l f g : Addr) (ts : List Str) (n i : Nat) : Prop where
  i : H x = some (.ins (cR K) dx (rdF l f g n i))
  l : H l = some (.lst (ts.map V.str))
  f : LamAt P w K mg base 10 ["text", "line"] (spRowL K fa rowF) f H
  g : LamAt P w K mg base 10 ["text"] (spPartL K fb partF) g H
  le : n ≤ ts.length
variable {fa : α → List PyData} {fb : β → List PyData} {rowF : Str → Nat → Option α} {partF : Str → Option β}
theorem RdAt.up {H H' : Hp} {x dx l f g : Addr} {ts : List Str} {n i : Nat} (r : RdAt P w K mg base fa fb rowF partF H x dx l f g ts n i) (s : Same H H') : RdAt P w K mg base fa fb rowF partF H' x dx l f g ts n i := ⟨s _ _ r.i, s _ _ r.l, r.f.up s, r.g.up s, r.le⟩
theorem RdAt.lx {H : Hp} {x dx l f g : Addr} {ts : List Str} {n i : Nat} (r : RdAt P w K mg base fa fb rowF partF H x dx l f g ts n i) : l ≠ x := fun e => by
  have h := r.l
  rw [e, r.i] at h
  cases h
theorem RdAt.to {H H' : Hp} {x dx l f g : Addr} {ts : List Str} {n i m j : Nat} (r : RdAt P w K mg base fa fb rowF partF H x dx l f g ts n i) (s : SameX x H H') (h : H' x = some (.ins (cR K) dx (rdF l f g m j))) (le : m ≤ ts.length) : RdAt P w K mg base fa fb rowF partF H' x dx l f g ts m j :=
  ⟨h, s _ _ r.lx r.l, r.f.upx r.i s, r.g.upx r.i s, le⟩
theorem RdAt.tl {H H' : Hp} {x dx l f g : Addr} {ts : List Str} {n i : Nat} (r : RdAt P w K mg base fa fb rowF partF H x dx l f g ts n i) (s : SameX x H H') : TupLe H H' := fun b xs h => s b _ (fun e => by rw [e, r.i] at h; cases h) h
def TsOk (ts : List Str) : Prop := ts.length ≤ 1000 ∧ ∀ t ∈ ts, t.length ≤ 1000
/-- Reader(lines, row_of, part_of) -/
def spRI (K : PySem.W.Frag) : Sp := fun vs H Q E => ∃ (x dx l f g : Addr), vs = [.ref x, .ref l, .ref f, .ref g] ∧ H x = some (.ins (cR K) dx []) ∧
  (∀ H', H' x = some (.ins (cR K) dx (rdF l f g 0 0)) → SameX x H H' → Q .non H')
theorem ok_rinit (T : Tx P w K mg) : MkX P w K mg base CX0 1 "Reader" (cR K) ["self", "lines", "row_of", "part_of"] [] (spRI K) := by
  obtain ⟨f, fd, hm, M, F⟩ := T.mk_Reader
  refine ⟨f, fd, [], hm, M, F.bindsN (fun _ _ _ _ _ _ us hl => match us, hl with | [_, _, _, _], _ => rfl), .nil, F.ok0 sc_Reader_init (fun vs H Q E h => ?_) (fun cdv A outer s H vs Q E hr h => ⟨_, (by exact (pss_cons (ps_fld (pv 0) (pv 1) rfl)
      (pss_cons (ps_fld (pv 0) (pv 2) rfl)
      (pss_cons (ps_fld (pv 0) (pv 3) rfl)
      (pss_cons (ps_fld (pv 0) pe_int rfl)
      (pss_one (ps_fld (pv 0) pe_int rfl))))))), ?_⟩)⟩
  · obtain ⟨x, dx, l, f, g, rfl, _⟩ := h
    rfl
  obtain ⟨x, dx, l, f, g, rfl, hx, h0⟩ := h
  refine ⟨_, rfl, _, rfl, x, cR K, dx, [], rfl, hx, T.cl_Reader, T.na_Reader_own_lines, (by show 0 < 1000; decide), ?_⟩
  refine ⟨_, rfl, _, rfl, x, cR K, dx, _, rfl, upd_same, T.cl_Reader, T.na_Reader_row_of, (by show 1 < 1000; decide), ?_⟩
  rw [upd_upd]
  refine ⟨_, rfl, _, rfl, x, cR K, dx, _, rfl, upd_same, T.cl_Reader, T.na_Reader_part_of, (by show 2 < 1000; decide), ?_⟩
  rw [upd_upd]
  refine ⟨_, rfl, x, cR K, dx, _, rfl, upd_same, T.cl_Reader, T.na_Reader_line, (by show 3 < 1000; decide), ?_⟩
  rw [upd_upd]
  refine ⟨_, rfl, x, cR K, dx, _, rfl, upd_same, T.cl_Reader, T.na_Reader_ifs, (by show 4 < 1000; decide), ?_⟩
  rw [upd_upd]
  exact h0 _ upd_same (fun b o hb ho => by rw [upd_ne hb]; exact ho)
end
end K17


set_option Elab.async false
set_option linter.all false
set_option maxRecDepth 100000
set_option maxHeartbeats 4000000
namespace K17
open PySem PySem.Spec PyProof.Rows L2 Rdr LmX LamX NdefX
theorem drop_via {s : TS} {D : Ends} {te : TE} {σ : L2.St} {H : Hp} (R : Hp → Prop) (h : ∀ Q : VK, (∀ v H1, R H1 → Q v H1) → te σ H Q) (hk : ∀ H1, R H1 → s D σ H1) : tSeq (tDrop te) s D σ H := h _ fun v H1 r => hk H1 r
abbrev ErrAt (K : PySem.W.Frag) (x : Addr) (H : Hp) (E : XK) (k : Nat) : Prop := ∀ d H', SameX x H H' → H' d = some (.xd [("line", .int (k : Nat))]) → E (.ref (He.ga K "BadLine")) (some d) H'
theorem ev_m1 {σ : L2.St} {H : Hp} {n : Int} : EvE (tUn (rU fun i => .int (-i)) (tC (.int n))) σ H (.int (-n)) := fun Q k => ⟨n, rfl, k H (Same.rf H)⟩
theorem atI_last {α : Type} (xs : List α) (y : α) : atI (xs ++ [y]) (-1) = some y := by
  unfold atI ixN
  rw [List.length_append]
  have e : ((xs.length + [y].length : Nat) : Int) = (xs.length : Int) + 1 := by simp
  rw [if_neg (by decide), if_pos (by simp; omega)]
  simp
  rw [show (-1 + ((xs.length : Int) + 1)).toNat = xs.length by omega]
  simp
section
variable {P : Program} {w : World} {K : PySem.W.Frag} {mg : Str → Option Value} {base : Heap} {α β : Type} {fa : α → List PyData} {fb : β → List PyData} {rowF : Str → Nat → Option α} {partF : Str → Option β}
def spBlk (P : Program) (w : World) (K : PySem.W.Frag) (mg : Str → Option Value) (base : Heap) (fa : α → List PyData) (fb : β → List PyData) (rowF : Str → Nat → Option α) (partF : Str → Option β) (m : Nat) : Sp := fun vs H Q E =>
  ∃ (x dx l f g : Addr) (ts : List Str) (n i : Nat) (inner : Bool), vs = [.ref x, .bl inner] ∧ RdAt P w K mg base fa fb rowF partF H x dx l f g ts n i ∧ TsOk ts ∧ ts.length - n < m ∧
  (∀ k, Rd rowF partF (.blk inner) (ts.drop n) n i (.err k) → ErrAt K x H E k) ∧
  (∀ t wd ls n' i', Rd rowF partF (.blk inner) (ts.drop n) n i (.ok t wd ls n' i') → ∀ q a xs H', SameX x H H' → RdAt P w K mg base fa fb rowF partF H' x dx l f g ts n' i' → H' q = some (.tup [.ref a, .str wd]) → H' a = some (.tup xs) → DqAll K H' xs (t.toL fa fb) → Q (.ref q) H')
def spIf (P : Program) (w : World) (K : PySem.W.Frag) (mg : Str → Option Value) (base : Heap) (fa : α → List PyData) (fb : β → List PyData) (rowF : Str → Nat → Option α) (partF : Str → Option β) (m : Nat) : Sp := fun vs H Q E =>
  ∃ (x dx l f g : Addr) (ts : List Str) (n i : Nat) (text : Str), vs = [.ref x, .str text] ∧ RdAt P w K mg base fa fb rowF partF H x dx l f g ts n i ∧ TsOk ts ∧ text.length ≤ 1000 ∧ ts.length - n < m ∧
  (∀ k, Rd rowF partF (.cond text) (ts.drop n) n i (.err k) → ErrAt K x H E k) ∧
  (∀ l0 ps a b ls n' i', Rd rowF partF (.cond text) (ts.drop n) n i (.ok (.ifr l0 ps a b .nil) "" ls n' i') → ∀ v H', SameX x H H' → RdAt P w K mg base fa fb rowF partF H' x dx l f g ts n' i' →
    Dq K H' v (ifD l0 (ps.map fun p => .tuple (fb p)) (a.toL fa fb) (b.toL fa fb)) → Q v H')
theorem fnL_lst {f : Addr} {F : NF} {b : Expr} {xs : List V} : FnL f F b ≠ .lst xs := fun e => by unfold FnL at e; cases e
theorem codeO_lst {c : Addr} {q : Str} {xs : List V} : CodeO c q ≠ .lst xs := fun e => by unfold CodeO at e; cases e
theorem LamAt.updL {j : Nat} {ps : List Str} {sp : Sp} {f p : Addr} {H : Hp} {xs : List V} {o : HO} (h : LamAt P w K mg base j ps sp f H) (hp : H p = some (.lst xs)) : LamAt P w K mg base j ps sp f (upd H p o) := by
  obtain ⟨F, b, h1, h2, h3⟩ := h
  exact ⟨F, b, by rw [upd_ne (fun e => by rw [e, hp] at h1; exact fnL_lst (Option.some.inj h1).symm)]; exact h1, by rw [upd_ne (fun e => by rw [e, hp] at h2; exact codeO_lst (Option.some.inj h2).symm)]; exact h2, h3⟩
theorem RdAt.updL {H : Hp} {x dx l f g p : Addr} {ts : List Str} {n i : Nat} {xs : List V} {o : HO} (r : RdAt P w K mg base fa fb rowF partF H x dx l f g ts n i) (hp : H p = some (.lst xs)) (hl : p ≠ l) : RdAt P w K mg base fa fb rowF partF (upd H p o) x dx l f g ts n i :=
  ⟨by rw [upd_ne (fun e => by have := r.i; rw [e, hp] at this; cases this)]; exact r.i, by rw [upd_ne (Ne.symm hl)]; exact r.l, r.f.updL hp, r.g.updL hp, r.le⟩
theorem do_inc (T : Tx P w K mg) {s : TS} {D : Ends} {σ : L2.St} {H : Hp} {x dx l f g : Addr} {ts : List Str} {n i : Nat} (hv : σ[0]? = some (some (.ref x))) (r : RdAt P w K mg base fa fb rowF partF H x dx l f g ts n i) (k : s D σ (upd H x (.ins (cR K) dx (rdF l f g (n + 1) i)))) : tSeq (sFldAug K (tVar 0) (tC (.int 1)) rAdd "line") s D σ H :=
  ⟨_, hv, x, cR K, dx, _, _, rfl, r.i, T.cl_Reader, T.na_Reader_line, rfl, _, _, rfl, rfl, dx, _, r.i, (by show 5 < 1000; decide), k⟩
theorem ok_block (T : Tx P w K mg) {m j : Nat} (hj : 10 ≤ j) (F_Reader_read_if : MeX P w K mg base (L2.CX P w) j (cR K) "read_if" ["self", "text"] [] (spIf P w K mg base fa fb rowF partF m)) :
    MeX P w K mg base (L2.CX P w) (j + 1) (cR K) "read_block" ["self", "is_inner"] [] (spBlk P w K mg base fa fb rowF partF (m + 1)) := by
  refine MetX.okX T.m_Reader_read_block sc_Reader_read_block (fun _ _ _ _ _ _ us hl => match us, hl with | [_, _], _ => rfl) (fun vs H Q E h => ?_) (fun f cdv A outer s H vs Q E hr h => ⟨_, (by exact (pss_cons (ps_set (i := 2) sc_Reader_read_block.nd rfl (Or.inl rfl) (pe_lst pa_nil))
      (pss_cons (ps_while (passes_of rfl) (pt_cmpR op_lt (pe_fld (pv 0) rfl) (pe_callB call_len_seq (by rfl) T.b_len (by decide +kernel) (pa_cons (pe_fld (pv 0) rfl) pa_nil)) (nomark _)) (pss_cons (ps_set (i := 3) sc_Reader_read_block.nd rfl (Or.inl rfl) (pe_ix ix_list (pe_fld (pv 0) rfl) (pe_fld (pv 0) rfl) (fun _ _ => rfl)))
      (pss_cons (ps_fldaug (pv 0) pe_int in_add)
      (pss_cons (ps_if (pt_cmpR op_in_seq (pv 3) (pe_tup (pa_cons pe_str (pa_cons pe_str pa_nil))) (by rfl)) (pss_cons (ps_if (pt_not (pt_val (pv 1))) (pss_one (ps_raise rfl (takes_of rfl rfl rfl rfl) (pmk_err T.e_BadLine T.g_BadLine hr (pa_cons (pe_fld (pv 0) rfl) pa_nil)))) pss_nil)
      (pss_one (ps_ret (pe_tup (pa_cons (pe_callTy call_tuple_of (by rfl) T.b_tuple (by decide +kernel) (pa_cons (pv 2) pa_nil)) (pa_cons (pv 3) pa_nil)))))) pss_nil)
      (pss_cons (ps_expr (pe_bm PySem.F.plainAttrs_list PySem.F.slot_list_append PySem.F.type_list_append mt_append (pv 2) (pa_cons (pe_ifExp (pt_cmpR op_eq (pe_slice sl_str (pv 3) po_none (po_some pe_int)) pe_str (nomark _)) (pe_methX F_Reader_read_if (hr.mono (by first | decide | omega)) passOut (pv 0) (pa_cons (pe_slice sl_str (pv 3) (po_some pe_int) po_none) pa_nil)) (LmX.callL_at (P := P) (w := w) (K := K) (mg := mg) (base := base) (j := 10) (pv 0) (pa_cons (pv 3) (pa_cons (pe_fld (pv 0) rfl) pa_nil)) (hr.mono (by first | decide | omega)))) pa_nil)))
      (pss_one (ps_if (pt_cmpR op_isN (pe_ix ix_list (pv 2) (pe_un un_neg pe_int) (fun _ _ => rfl)) pe_non (nomark _)) (pss_one (ps_raise rfl (takes_of rfl rfl rfl rfl) (pmk_err T.e_BadLine T.g_BadLine hr (pa_cons (pe_fld (pv 0) rfl) pa_nil)))) pss_nil)))))))
      (pss_cons (ps_if (pt_val (pv 1)) (pss_one (ps_raise rfl (takes_of rfl rfl rfl rfl) (pmk_err T.e_BadLine T.g_BadLine hr (pa_cons (pe_op op_add (pe_fld (pv 0) rfl) pe_int) pa_nil)))) pss_nil)
      (pss_one (ps_ret (pe_tup (pa_cons (pe_callTy call_tuple_of (by rfl) T.b_tuple (by decide +kernel) (pa_cons (pv 2) pa_nil)) (pa_cons pe_str pa_nil))))))))), ?_⟩)
  · obtain ⟨x, dx, l, f, g, ts, n, i, inner, rfl, _⟩ := h
    rfl
  obtain ⟨x, dx, l, f, g, ts, n, i, inner, rfl, r, hts, hm, h0, h1⟩ := h
  refine set_lst (vs := []) ev_nil (fun H1 la s1 hla hl => ?_)
  have hlx : la ≠ x := fun z => by rw [z, r.i] at hla; cases hla
  have hll : la ≠ l := fun z => by rw [z, r.l] at hla; cases hla
  have q9 : sizeLine = 16777216 := sizeLine_eq
  refine do_whl (fun k σ H' => ∃ n' i' xs ww done, σ = [some (.ref x), some (.bl inner), some (.ref la), ww] ∧ k = ts.length - n' ∧ SameX x H H' ∧ RdAt P w K mg base fa fb rowF partF H' x dx l f g ts n' i' ∧ n ≤ n' ∧ H' la = some (.lst xs) ∧ xs.length ≤ n' ∧ DqAll K H' xs (RT.toL fa fb done) ∧
    ∀ R, Rd rowF partF (.blk inner) (ts.drop n') n' i' R → Rd rowF partF (.blk inner) (ts.drop n) n i (R.pre done.app)) (m0 := ts.length - n) ⟨n, i, [], none, .nil, rfl, rfl, s1.x, r.up s1, Nat.le_refl _, hl, Nat.zero_le _, .nil, fun R h => by cases R <;> exact h⟩ ?_
  rintro k σ H2 ⟨n', i', xs, ww, done, rfl, rfl, sx, r2, hn, hl2, hxl, hdq, hR⟩
  have V0 : ∀ {u H}, EvE (tVar 0) [some (.ref x), some (.bl inner), some (.ref la), u] H (.ref x) := ev_var rfl
  have FL : ∀ {u H}, RdAt P w K mg base fa fb rowF partF H x dx l f g ts n' i' → EvE (tFld K (tVar 0) "own_lines") [some (.ref x), some (.bl inner), some (.ref la), u] H (.ref l) := fun r => ev_fld V0 r.i T.cl_Reader T.na_Reader_own_lines rfl
  have FN : ∀ {u H m i}, RdAt P w K mg base fa fb rowF partF H x dx l f g ts m i → EvE (tFld K (tVar 0) "line") [some (.ref x), some (.bl inner), some (.ref la), u] H (.int (m : Nat)) := fun r => ev_fld V0 r.i T.cl_Reader T.na_Reader_line rfl
  refine ⟨decide (n' < ts.length), ?_, fun gg H3 s3 => ?_, fun gg H3 s3 => ?_⟩
  · have := ev_test (σ := [some (.ref x), some (.bl inner), some (.ref la), ww]) (ev_lt (FN r2) fun H3 s3 => ev_len (K := K) (ev_cons (FL (r2.up s3)) fun _ _ => ev_nil) (.inl (s3.sql (.inl (.inl r2.l)))))
    rw [List.length_map, show decide ((n' : Int) < (ts.length : Int)) = decide (n' < ts.length) from by by_cases h : n' < ts.length <;> simp [h]] at this
    exact this
  · have hlt : n' < ts.length := of_decide_eq_true gg
    have r3 := r2.up s3
    have e : ts.drop n' = ts[n'] :: ts.drop (n' + 1) := List.drop_eq_getElem_cons hlt
    have htm : ts[n'] ∈ ts := List.getElem_mem hlt
    generalize ht : ts[n'] = t at e htm
    have htl := hts.2 t htm
    rw [e] at hR
    refine do_set (x := .str t) (ev_ixL (FL r3) (fun H4 s4 => FN (r3.up s4)) (.inl (.inl r3.l)) ?_) (fun H4 s4 => ?_)
    · refine atI_nat ?_
      rw [List.getElem?_map, List.getElem?_eq_getElem hlt, ht]
      rfl
    have r4 := r3.up s4
    refine do_inc T rfl r4 ?_
    have sx47 : SameX x H4 (upd H4 x (.ins (cR K) dx (rdF l f g (n' + 1) i'))) := (Same.rf H4).x.upd
    have r7 := r4.to sx47 upd_same hlt
    generalize upd H4 x (.ins (cR K) dx (rdF l f g (n' + 1) i')) = H7 at sx47 r7 ⊢
    have s24 := s3.tr s4
    have sx7 : SameX x H H7 := (sx.tr s24.x).tr sx47
    have hl7 : H7 la = some (.lst xs) := sx47 _ _ hlx (s24 _ _ hl2)
    have hd7 : DqAll K H7 xs (RT.toL fa fb done) := hdq.up fun b u h => r4.tl sx47 b u (s24 _ _ h)
    let S : L2.St := [some (.ref x), some (.bl inner), some (.ref la), some (.str t)]
    have V3 : ∀ {H}, EvE (tVar 3) S H (.str t) := ev_var rfl
    refine seq_if (σ := S) (ev_test (ev_in (ns := enders) V3 (in_tup (ns := enders) fun _ => ev_cons ev_C fun _ _ => ev_cons ev_C fun _ _ => ev_nil))) (fun g1 H8 s8 => ?_) (fun g1 H8 s8 => ?_)
    · have g1 := of_decide_eq_true g1
      have r8 := r7.up s8
      refine seq_if (σ := S) (ev_not (ev_tB (ev_var (i := 1) rfl))) (fun g2 H9 s9 => ?_) (fun g2 H9 s9 => ?_)
      · have g2 : inner = false := by simpa using g2
        subst g2
        have r9 := r8.up s9
        refine FN r9 _ fun Ha sa => ⟨rfl, (fun z => absurd z (by simp)), fun _ d hd => ?_⟩
        exact h0 _ (hR (.err (n' + 1)) (.finO g1)) d _ ((((sx7.tr s8.x).tr s9.x).tr sa.x).tr (Same.new hd).x) upd_same
      · have g2 : inner = true := by simpa using g2
        subst g2
        have r9 := r8.up s9
        have s79 := s8.tr s9
        refine ret_go (tup_go (cons_go ⟨_, rfl, la, xs, rfl, .inl ⟨.inl (.inl (s79 _ _ hl7)), fun q hq => cons_go (var_go rfl (nil_go ⟨szL rfl, fun q2 hq2 => ?_⟩))⟩⟩))
        have t1 : Same H9 (upd H9 q (.tup xs)) := Same.new hq
        have i1 : upd H9 q (.tup xs) q = some (.tup xs) := upd_same
        generalize upd H9 q (.tup xs) = Ha at t1 i1 hq2 ⊢
        have t2 : Same Ha (upd Ha q2 (.tup [.ref q, .str t])) := Same.new hq2
        have t7 := (s79.tr t1).tr t2
        refine h1 (done.app .nil) t (ts.drop (n' + 1)) (n' + 1) i' (hR (.ok .nil t _ (n' + 1) i') (.fin g1)) q2 q xs _ (sx7.tr t7.x) (r7.up t7) upd_same (t2 _ _ i1) ?_
        rw [RT.app_nil]
        exact hd7.up t7.tl
    · have g1 := of_decide_eq_false g1
      refine drop_via (σ := S) (fun H1 => ∃ y n2 i2, SameX x H H1 ∧ H1 la = some (.lst (xs ++ [y])) ∧ RdAt P w K mg base fa fb rowF partF H1 x dx l f g ts n2 i2 ∧ n' + 1 ≤ n2 ∧ DqAll K H1 xs (RT.toL fa fb done) ∧
        ((y = .non ∧ n2 = n' + 1 ∧ Rd rowF partF (.blk inner) (t :: ts.drop (n' + 1)) n' i' (.err (n' + 1))) ∨ ∃ t1 d, Dq K H1 y (.tuple d) ∧ RT.toL fa fb t1 = [.tuple d] ∧ ∀ R, Rd rowF partF (.blk inner) (ts.drop n2) n2 i2 R → Rd rowF partF (.blk inner) (t :: ts.drop (n' + 1)) n' i' (R.pre t1.app))) (fun Q hQ => ?_) (fun H9 hy => ?_)
      · have hl8 := s8 _ _ hl7
        have r8 := r7.up s8
        have app : ∀ (y : V) (H9 : Hp) (n2 i2 : Nat), SameX x H8 H9 → RdAt P w K mg base fa fb rowF partF H9 x dx l f g ts n2 i2 → n' + 1 ≤ n2 →
            ((y = .non ∧ n2 = n' + 1 ∧ Rd rowF partF (.blk inner) (t :: ts.drop (n' + 1)) n' i' (.err (n' + 1))) ∨ ∃ t1 d, Dq K H9 y (.tuple d) ∧ RT.toL fa fb t1 = [.tuple d] ∧ ∀ R, Rd rowF partF (.blk inner) (ts.drop n2) n2 i2 R → Rd rowF partF (.blk inner) (t :: ts.drop (n' + 1)) n' i' (R.pre t1.app)) → rAppend (.ref la) [y] H9 Q := by
          intro y H9 n2 i2 s9 r9 hn2 hy
          have hl9 := s9 _ _ hlx hl8
          have tl : TupLe H9 (upd H9 la (.lst (xs ++ [y]))) := TupLe.mut hl9 fun xs z => by cases z
          refine ⟨la, xs, y, rfl, rfl, hl9, by have := hts.1; omega, hQ _ _ ⟨y, n2, i2, ?_, upd_same, ?_, hn2, ?_, ?_⟩⟩
          · intro b o hb ho
            rw [upd_ne (ne_of_none ho hla)]
            exact s9 _ _ hb (s8 _ _ (sx7 _ _ hb ho))
          · exact r9.updL hl9 hll
          · exact (hd7.up fun b u h => r8.tl s9 b u (s8 _ _ h)).up tl
          · rcases hy with hy | ⟨t1, d, h4, h5, h6⟩
            · exact .inl hy
            · exact .inr ⟨t1, d, h4.up tl, h5, h6⟩
        refine ⟨_, rfl, .inl ⟨rfl, ⟨_, .inl (.inl hl8)⟩⟩, cons_go ?_⟩
        refine ev_test (ev_eq (ev_cutA V3 (by omega)) (fun _ _ => ev_C) rfl) _ fun H9 s9 => ?_
        rw [dcS]
        have r9 := r8.up s9
        refine iteB (fun g2 => ?_) (fun g2 => ?_)
        · have g2 := of_decide_eq_true g2
          refine ⟨_, rfl, x, dx, _, rfl, r9.i, rfl, cons_go (ev_cutB V3 (by omega) _ fun Ha sa => nil_go ?_)⟩
          have ra := r9.up sa
          have s8a := s9.tr sa
          refine ⟨x, dx, l, f, g, ts, n' + 1, i', cut3 t, rfl, ra, hts, Nat.le_trans (cutS_length _ _ _) htl, by omega, (fun k hk d Hb sb hd => ?_), (fun l0 ps a b ls n2 i2 hrd y Hb sb rb hy => nil_go ?_)⟩
          · exact h0 _ (hR (.err k) (.ifE g1 g2 hk)) d Hb ((sx7.tr (s8.tr s8a).x).tr sb) hd
          · obtain ⟨j9, hj1, hj2, hj3, _⟩ := Rd.adv hrd _ _ _ _ _ rfl
            refine app y Hb n2 i2 (s8a.x.tr sb) rb (by omega) (.inr ⟨.ifr l0 ps a b .nil, _, hy, rfl, fun R hRR => .ifr g1 g2 hrd ?_⟩)
            rw [List.drop_drop] at hj2
            rw [hj2, show n' + 1 + j9 = n2 by omega]
            exact hRR
        · have g2 := of_decide_eq_false g2
          obtain ⟨F, b, hF, hC, ok⟩ := r9.f
          refine ⟨_, rfl, x, cR K, dx, _, f, F, b, rfl, r9.i, T.cl_Reader, T.na_Reader_row_of, rfl, hF, cons_go (var_go rfl (cons_go (FN r9 _ fun Ha sa => nil_go ⟨sa _ _ hF, sa _ _ hC, _, _, ok, ?_⟩)))⟩
          have s8a := s9.tr sa
          have ra := r9.up sa
          refine ⟨t, n' + 1, rfl, htl, (fun e9 Hb sb => nil_go ?_), (fun a y Hb e9 sb hy => nil_go ?_)⟩
          · exact app .non Hb (n' + 1) i' (s8a.tr sb).x (ra.up sb) (Nat.le_refl _) (.inl ⟨rfl, rfl, .bad g1 g2 e9⟩)
          · exact app y Hb (n' + 1) i' (s8a.tr sb).x (ra.up sb) (Nat.le_refl _) (.inr ⟨.leaf a .nil, _, hy, rfl, fun R hRR => .leaf g1 g2 e9 hRR⟩)
      · obtain ⟨y, n2, i2, sx9, hl9, r9, hn2, hd9, hy⟩ := hy
        refine do_if (σ := S) (b1 := decide (y = .non)) (ev_test (isNv (ev_ixL (ev_var rfl) (fun _ _ => ev_m1) (.inl (.inl hl9)) (atI_last xs y)) rfl)) (fun g2 Ha sa => ?_) (fun g2 Ha sa => ?_)
        · have g2 := of_decide_eq_true g2
          subst g2
          rcases hy with ⟨_, e2, hy⟩ | ⟨t1, d, h4, _⟩
          · subst e2
            have ra := r9.up sa
            refine FN ra _ fun Hb sb => ⟨rfl, (fun z => absurd z (by simp)), fun _ d hd => ?_⟩
            exact h0 _ (hR (.err (n' + 1)) hy) d _ (((sx9.tr sa.x).tr sb.x).tr (Same.new hd).x) upd_same
          · cases h4
        · have g2 := of_decide_eq_false g2
          rcases hy with ⟨e2, _⟩ | ⟨t1, d, h4, h5, h6⟩
          · exact absurd e2 g2
          refine ⟨ts.length - n2, by have := r9.le; omega, n2, i2, xs ++ [y], _, done.app t1, rfl, rfl, sx9.tr sa.x, r9.up sa, by omega, sa _ _ hl9, by simp; omega, ?_, fun R hRR => ?_⟩
          · rw [RT.toL_app, h5]
            exact (hd9.up sa.tl).snoc (h4.up sa.tl)
          · have h9 := hR _ (h6 R hRR)
            rw [pre_pre] at h9
            have e9 : (fun t2 => done.app (t1.app t2)) = (done.app t1).app := by
              funext u
              rw [RT.app_assoc]
            rw [e9] at h9
            exact h9
  · have hge : ¬ n' < ts.length := of_decide_eq_false gg
    have e : ts.drop n' = [] := List.drop_eq_nil_of_le (by omega)
    rw [e] at hR
    have r3 := r2.up s3
    have s23 := s3
    refine nx_seq (seq_if (b1 := inner) (ev_tB (ev_var (i := 1) rfl)) (fun g1 H4 s4 => ?_) (fun g1 H4 s4 => ?_))
    · subst g1
      have r4 := r3.up s4
      refine ev_op (v := .int ((n' + 1 : Nat) : Int)) (FN r4) (fun _ _ => ev_C) (fun H5 _ Q q => ⟨_, _, rfl, rfl, q⟩) _ fun Ha sa => ⟨rfl, (fun z => absurd z (by simp)), fun _ d hd => ?_⟩
      exact h0 _ (hR (.err (n' + 1)) .eofI) d _ (((((sx.tr s3.x).tr s4.x).tr sa.x)).tr (Same.new hd).x) upd_same
    · subst g1
      have s34 := s3.tr s4
      refine ret_go (tup_go (cons_go ⟨_, rfl, la, xs, rfl, .inl ⟨.inl (.inl (s34 _ _ hl2)), fun q hq => cons_go (c_go (nil_go ⟨szL rfl, fun q2 hq2 => ?_⟩))⟩⟩))
      have t1 : Same H4 (upd H4 q (.tup xs)) := Same.new hq
      have i1 : upd H4 q (.tup xs) q = some (.tup xs) := upd_same
      generalize upd H4 q (.tup xs) = Ha at t1 i1 hq2 ⊢
      have t2 : Same Ha (upd Ha q2 (.tup [.ref q, .str ""])) := Same.new hq2
      have t7 := (s34.tr t1).tr t2
      refine h1 (done.app .nil) "" [] n' i' (hR (.ok .nil "" [] n' i') .eof) q2 q xs _ (sx.tr t7.x) (r2.up t7) upd_same (t2 _ _ i1) ?_
      rw [RT.app_nil]
      exact hdq.up t7.tl
end
end K17


set_option Elab.async false
set_option linter.all false
set_option maxRecDepth 100000
set_option maxHeartbeats 4000000
namespace K17
open PySem PySem.Spec PyProof.Rows L2 Rdr LmX LamX NdefX
def POk {β : Type} (K : PySem.W.Frag) (H : Hp) (fb : β → List PyData) (v : V) : Option β → Prop
  | none => v = .non
  | some b => Dq K H v (.tuple (fb b))
inductive PAll {β : Type} (K : PySem.W.Frag) (H : Hp) (fb : β → List PyData) : List V → List (Option β) → Prop
  | nil : PAll K H fb [] []
  | cons {v : V} {vs : List V} {o : Option β} {os : List (Option β)} : POk K H fb v o → PAll K H fb vs os → PAll K H fb (v :: vs) (o :: os)
theorem split_cnt (x y : Str) (hy : 1 ≤ y.length) : (Txt.split x y).length ≤ x.length + 1 := by
  have e := StrLaws.join_split x y
  have key : ∀ (l : List (List Nat)), l.length ≤ (TL.joinL (TL.tl y) l).length + 1 := by
    intro l
    induction l with
    | nil => exact Nat.zero_le _
    | cons a r ih =>
      cases r with
      | nil => exact Nat.le_add_left 1 _
      | cons b r =>
        show (b :: r).length + 1 ≤ (a ++ (TL.tl y ++ TL.joinL (TL.tl y) (b :: r))).length + 1
        rw [List.length_append, List.length_append]
        have : 1 ≤ (TL.tl y).length := by rw [← TL.len_tl]; exact hy
        omega
  have q := key ((Txt.split x y).map TL.tl)
  rw [← TL.tl_join, e, List.length_map, ← TL.len_tl] at q
  exact q
section
variable {K : PySem.W.Frag} {H H' : Hp} {β : Type} {fb : β → List PyData}
theorem POk.up (s : TupLe H H') {v : V} : ∀ {o : Option β}, POk K H fb v o → POk K H' fb v o
  | none, h => h
  | some b, h => Dq.up s h
theorem PAll.up (s : TupLe H H') : ∀ {vs : List V} {os : List (Option β)}, PAll K H fb vs os → PAll K H' fb vs os
  | _, _, .nil => .nil
  | _, _, .cons h hs => .cons (h.up s) (PAll.up s hs)
theorem PAll.snoc : ∀ {vs : List V} {os : List (Option β)} {v : V} {o : Option β}, PAll K H fb vs os → POk K H fb v o → PAll K H fb (vs ++ [v]) (os ++ [o])
  | _, _, _, _, .nil, h => .cons h .nil
  | _, _, _, _, .cons h hs, k => .cons h (PAll.snoc hs k)
theorem PAll.len : ∀ {vs : List V} {os : List (Option β)}, PAll K H fb vs os → vs.length = os.length
  | _, _, .nil => rfl
  | _, _, .cons _ hs => by rw [List.length_cons, List.length_cons, PAll.len hs]
theorem PAll.tup : ∀ {vs : List V} {os : List (Option β)}, PAll K H fb vs os → ∀ v ∈ vs, tupOrN K H v
  | _, _, .nil => fun v h => by cases h
  | _, _, .cons (o := o) h hs => fun v hv => by
    rcases List.mem_cons.mp hv with e | hv
    · subst e
      match o, h with
      | none, h => exact .inl h
      | some b, h =>
        obtain ⟨p, xs, e, hp, _⟩ := Dq.tuple h
        exact .inr ⟨p, xs, e, hp⟩
    · exact PAll.tup hs v hv
theorem PAll.anyN : ∀ {vs : List V} {os : List (Option β)}, PAll K H fb vs os → (vs.any fun v => decide (v = .non)) = os.any (·.isNone)
  | _, _, .nil => rfl
  | _, _, .cons (o := o) h hs => by
    rw [List.any_cons, List.any_cons, PAll.anyN hs]
    match o, h with
    | none, h => rw [show _ = V.non from h]; rfl
    | some b, h =>
      obtain ⟨p, xs, e, _⟩ := Dq.tuple h
      rw [e]
      rfl
theorem PAll.dq : ∀ {vs : List V} {ps : List β}, PAll K H fb vs (ps.map some) → DqAll K H vs (ps.map fun p => .tuple (fb p))
  | _, [], .nil => .nil
  | _, p :: ps, .cons h hs => .cons h (PAll.dq hs)
end
theorem all_some {β : Type} : ∀ {os : List (Option β)}, os.any (·.isNone) = false → ∃ ps : List β, os = ps.map some
  | [], _ => ⟨[], rfl⟩
  | o :: os, h => by
    rw [List.any_cons, Bool.or_eq_false_iff] at h
    obtain ⟨ps, e⟩ := all_some h.2
    cases o with
    | none => cases h.1
    | some b => exact ⟨b :: ps, by rw [e]; rfl⟩
theorem wipe8 {a b c d e f g h : Option V} : wipe [a, b, c, d, e, f, g, h] [4] = [a, b, c, d, none, f, g, h] := rfl
section
variable {P : Program} {w : World} {K : PySem.W.Frag} {mg : Str → Option Value} {base : Heap} {α β : Type} {fa : α → List PyData} {fb : β → List PyData} {rowF : Str → Nat → Option α} {partF : Str → Option β}
theorem do_incI (T : Tx P w K mg) {s : TS} {D : Ends} {σ : L2.St} {H : Hp} {x dx l f g : Addr} {ts : List Str} {n i : Nat} (hv : σ[0]? = some (some (.ref x))) (r : RdAt P w K mg base fa fb rowF partF H x dx l f g ts n i) (k : s D σ (upd H x (.ins (cR K) dx (rdF l f g n (i + 1))))) : tSeq (sFldAug K (tVar 0) (tC (.int 1)) rAdd "ifs") s D σ H :=
  ⟨_, hv, x, cR K, dx, _, _, rfl, r.i, T.cl_Reader, T.na_Reader_ifs, rfl, _, _, rfl, rfl, dx, _, r.i, (by show 5 < 1000; decide), k⟩
theorem ok_readif (T : Tx P w K mg) {m j : Nat} (hj : 10 ≤ j) (F_Reader_read_block : MeX P w K mg base (L2.CX P w) j (cR K) "read_block" ["self", "is_inner"] [] (spBlk P w K mg base fa fb rowF partF m)) :
    MeX P w K mg base (L2.CX P w) (j + 1) (cR K) "read_if" ["self", "text"] [] (spIf P w K mg base fa fb rowF partF m) := by
  refine MetX.okX T.m_Reader_read_if sc_Reader_read_if (fun _ _ _ _ _ _ us hl => match us, hl with | [_, _], _ => rfl) (fun vs H Q E h => ?_) (fun f cdv A outer s H vs Q E hr h => ⟨_, (by exact (pss_cons (ps_par (i := 2) (j := 3) (by rfl) sc_Reader_read_if.nd rfl rfl (by decide) rfl rfl (pa_cons (pe_fld (pv 0) rfl) (pa_cons (pe_callTy call_tuple_of (by rfl) T.b_tuple (by decide +kernel) (pa_cons (pe_lc (own := [("part", 4)]) (g := (gName 4)) (tt := tYes) (by rfl) sc_Reader_read_if.nd (pi_list (pe_split (pv 1) pe_str)) (blkOk_by (own := [("part", 4)]) (N := ["self", "text", "line", "parts", "part", "rows", "word", "others"]) (sc := defScope s_Reader_read_if) (by decide +kernel)) (fun _ _ _ _ _ => (pg_name (i := 4) sc_Reader_read_if.nd rfl (Or.inl rfl))) (fun _ _ _ _ _ => pts_nil) (fun _ _ _ _ _ => (LmX.callL_at (P := P) (w := w) (K := K) (mg := mg) (base := base) (j := 10) (pv 0) (pa_cons (pv 4) pa_nil) (hr.mono (by first | decide | omega))))) pa_nil)) pa_nil)) (by rfl))
      (pss_cons (ps_if (PW.pt (pw_or (pt_cmpR op_gt (pe_callB call_len_seq (by rfl) T.b_len (by decide +kernel) (pa_cons (pv 3) pa_nil)) (pe_gint T.c_MOST_PARTS) (nomark _)) (pw_or1 (pt_cmpR (op_noneInT hr.units) pe_non (pv 3) (by rfl))))) (pss_one (ps_raise rfl (takes_of rfl rfl rfl rfl) (pmk_err T.e_BadLine T.g_BadLine hr (pa_cons (pv 2) pa_nil)))) pss_nil)
      (pss_cons (ps_fldaug (pv 0) pe_int in_add)
      (pss_cons (ps_asg (pe_methX F_Reader_read_block (hr.mono (by first | decide | omega)) passOut (pv 0) (pa_cons pe_bl pa_nil)) (pg_tup rfl (pgs_cons (pg_name (i := 5) sc_Reader_read_if.nd rfl (Or.inl rfl)) (pgs_cons (pg_name (i := 6) sc_Reader_read_if.nd rfl (Or.inl rfl)) pgs_nil))))
      (pss_cons (ps_set (i := 7) sc_Reader_read_if.nd rfl (Or.inl rfl) (pe_tup pa_nil))
      (pss_cons (ps_if (pt_cmpR op_eq (pv 6) pe_str (nomark _)) (pss_cons (ps_asg (pe_methX F_Reader_read_block (hr.mono (by first | decide | omega)) passOut (pv 0) (pa_cons pe_bl pa_nil)) (pg_tup rfl (pgs_cons (pg_name (i := 7) sc_Reader_read_if.nd rfl (Or.inl rfl)) (pgs_cons (pg_name (i := 6) sc_Reader_read_if.nd rfl (Or.inl rfl)) pgs_nil))))
      (pss_one (ps_if (pt_cmpR op_eq (pv 6) pe_str (nomark _)) (pss_one (ps_raise rfl (takes_of rfl rfl rfl rfl) (pmk_err T.e_BadLine T.g_BadLine hr (pa_cons (pe_fld (pv 0) rfl) pa_nil)))) pss_nil))) pss_nil)
      (pss_one (ps_ret (pe_tup (pa_cons pe_str (pa_cons (pv 2) (pa_cons (pv 3) (pa_cons (pv 5) (pa_cons (pv 7) pa_nil))))))))))))))), ?_⟩)
  · obtain ⟨x, dx, l, f, g, ts, n, i, text, rfl, _⟩ := h
    rfl
  obtain ⟨x, dx, l, f, g, ts, n, i, text, rfl, r, hts, htl, hm, h0, h1⟩ := h
  have q9 : sizeLine = 16777216 := sizeLine_eq
  let S0 : L2.St := [some (.ref x), some (.str text), none, none, none, none, none, none]
  refine par_go (cons_go (ev_fld (σ := S0) (ev_var rfl) r.i T.cl_Reader T.na_Reader_line rfl _ fun H1 s1 => cons_go (cb_go (cons_go ?_))))
  have r1 := r.up s1
  refine do_split (z := text) (ev_var rfl) (by decide +kernel) (by omega) (fun H2 wa s2 _ hwa => ⟨wa, rfl, ⟨_, .inl (.inl hwa)⟩, fun D hD => ?_⟩)
  have s02 := s1.tr s2
  have r2 := r.up s02
  have hlw : ∀ z ∈ Txt.split text andS, z.length ≤ 1000 := fun z hz => Nat.le_trans (split_len _ _ z hz) htl
  have hln : (Txt.split text andS).length ≤ 1001 := Nat.le_trans (split_cnt text andS (by decide +kernel)) (by omega)
  replace hwa : H2 wa = some (.lst ((Txt.split text andS).map V.str)) := hwa
  generalize hws : Txt.split text andS = ws at hlw hwa hln
  have eps : partsOf partF text = ws.map partF := by unfold partsOf; rw [hws]
  have hDw : D ≠ wa := fun z => by rw [z, hwa] at hD; cases hD
  refine lc_list (xs := ws.map V.str) (fun k H' => Same H2 H' ∧ ∃ vs, H' D = some (.lst vs) ∧ PAll K H' fb vs ((ws.take k).map partF)) ⟨Same.new hD, [], upd_same, .nil⟩ (fun k H' _ h => .inl (.inl (h.1 _ _ hwa))) ?_ (fun H3 h => ?_)
  · rintro k v H3 hk ⟨s3, vs, hd, hv⟩
    rw [List.getElem?_map] at hk
    cases hz : ws[k]? with
    | none => rw [hz] at hk; cases hk
    | some z =>
      rw [hz] at hk
      cases hk
      have hzl := hlw z (List.mem_of_getElem? hz)
      have r3 := r2.up s3
      obtain ⟨F, b, hF, hC, ok⟩ := r3.g
      refine ⟨rfl, ?_⟩
      dsimp only [tYes]
      rw [if_pos rfl]
      have fin : ∀ v H4, Same H3 H4 → POk K H4 fb v (partF z) → ∃ acc, H4 D = some (.lst acc) ∧ acc.length < sizeLine ∧ (Same H2 (upd H4 D (.lst (acc ++ [v]))) ∧ ∃ vs, upd H4 D (.lst (acc ++ [v])) D = some (.lst vs) ∧ PAll K (upd H4 D (.lst (acc ++ [v]))) fb vs ((ws.take (k + 1)).map partF)) := by
        intro v H4 s4 hv4
        have hl := hv.len
        rw [List.length_map, List.length_take] at hl
        have tl : TupLe H4 (upd H4 D (.lst (vs ++ [v]))) := TupLe.mut (s4 _ _ hd) fun xs z => by cases z
        refine ⟨vs, s4 _ _ hd, by omega, (s3.tr s4).mut hD, _, upd_same, ?_⟩
        rw [tk1 hz, List.map_append]
        exact ((hv.up s4.tl).up tl).snoc (hv4.up tl)
      refine ⟨_, rfl, x, cR K, dx, _, g, F, b, rfl, r3.i, T.cl_Reader, T.na_Reader_part_of, rfl, hF, cons_go ⟨_, rfl, nil_go ⟨hF, hC, _, _, ok, z, rfl, hzl, (fun e H4 s4 => ?_), (fun a v H4 e s4 hv => ?_)⟩⟩⟩
      · exact fin .non H4 s4 (by rw [e]; rfl)
      · exact fin v H4 s4 (by rw [e]; exact hv)
  · obtain ⟨s3, vs, hd, hv⟩ := h
    rw [List.take_of_length_le (by simp), ← eps] at hv
    have hvl := hv.len
    rw [eps, List.length_map] at hvl
    refine nil_go ⟨D, vs, rfl, .inl ⟨.inl (.inl hd), fun pa hpa => nil_go ⟨_, _, rfl, ?_⟩⟩⟩
    have t1 : Same H3 (upd H3 pa (.tup vs)) := Same.new hpa
    have i1 : upd H3 pa (.tup vs) pa = some (.tup vs) := upd_same
    generalize upd H3 pa (.tup vs) = H4 at t1 i1 ⊢
    have s24 := s3.tr t1
    have s04 := s02.tr s24
    have r4 := r2.up s24
    have hv4 := hv.up t1.tl
    let S : L2.St := [some (.ref x), some (.str text), some (.int (n : Nat)), some (.ref pa), none, none, none, none]
    refine seq_if (σ := S) (b1 := decide (4 < (partsOf partF text).length) || (partsOf partF text).any (·.isNone)) (ev_or ?_ (fun _ H5 s5 => ?_)) (fun g1 H5 s5 => ?_) (fun g1 H5 s5 => ?_)
    · have := ev_test (σ := S) (ev_op (r := fun x y H Q => ∃ i j, x = V.int i ∧ y = V.int j ∧ Q (.bl (decide (i > j))) H) (v := .bl (decide ((vs.length : Int) > 4))) (ev_len (K := K) (ev_cons (ev_var (i := 3) rfl) fun _ _ => ev_nil) (.inr (.inl (.inl i1)))) (fun _ _ => ev_C) (fun H5 _ Q q => ⟨_, _, rfl, rfl, q⟩))
      rw [hvl, show decide ((ws.length : Int) > 4) = decide (4 < (partsOf partF text).length) from by
        rw [eps, List.length_map]
        exact decide_eq_decide.mpr (by omega)] at this
      exact this
    · refine ev_test (ev_op (ev_C (v := .non)) (fun _ _ => ev_var rfl) (fun H6 s6 Q q => ⟨pa, vs, rfl, rfl, .inl (.inl (s6 _ _ (s5 _ _ i1))), ((hv4.up s5.tl).up s6.tl).tup, ?_⟩))
      rw [hv4.anyN]
      exact q
    · refine ⟨_, rfl, rfl, (fun z => absurd z (by simp)), fun _ d hd => ?_⟩
      refine h0 n (.badC ?_) d _ ((s04.tr s5).tr (Same.new hd)).x upd_same
      rw [Bool.or_eq_true] at g1
      rcases g1 with g | g
      · exact .inl (of_decide_eq_true g)
      · refine .inr ?_
        obtain ⟨o, ho, hn⟩ := List.any_eq_true.mp g
        cases o with
        | none => exact ho
        | some b => cases hn
    rw [Bool.or_eq_false_iff] at g1
    obtain ⟨ps, eps2⟩ := all_some g1.2
    have gp : goodPs partF text ps := ⟨eps2, by
      have := of_decide_eq_false g1.1
      rw [eps2, List.length_map] at this
      omega⟩
    rw [eps2] at hv4
    have dps := hv4.dq
    have r5 := r4.up s5
    refine do_incI T rfl r5 ?_
    have sx56 : SameX x H5 (upd H5 x (.ins (cR K) dx (rdF l f g n (i + 1)))) := (Same.rf H5).x.upd
    have r6 := r5.to sx56 upd_same r5.le
    have i6 : upd H5 x (.ins (cR K) dx (rdF l f g n (i + 1))) pa = some (.tup vs) := r5.tl sx56 _ _ (s5 _ _ i1)
    have d6 := (dps.up s5.tl).up (r5.tl sx56)
    generalize upd H5 x (.ins (cR K) dx (rdF l f g n (i + 1))) = H6 at sx56 r6 i6 d6 ⊢
    have sx6 : SameX x H H6 := (s04.tr s5).x.tr sx56
    refine asg_go ⟨_, rfl, x, dx, _, rfl, r6.i, rfl, cons_go (c_go (nil_go ⟨x, dx, l, f, g, ts, n, i + 1, true, rfl, r6, hts, hm, (fun k hk d H7 s7 hd => h0 _ (.aE gp hk) d H7 (sx6.tr s7) hd), (fun t1 wd ls n2 i2 hrd q a xs H7 s7 r7 hq ha hxs => ?_)⟩))⟩
    have i7 := r6.tl s7 _ _ i6
    have d7 := d6.up (r6.tl s7)
    have sx7 := sx6.tr s7
    refine ⟨q, _, rfl, .inl (.inl hq), rfl, _, _, rfl, _, _, rfl, rfl, set_te (tup_go (nil_go ⟨szL rfl, fun e0 he0 => ?_⟩))⟩
    have t2 : Same H7 (upd H7 e0 (.tup [])) := Same.new he0
    have ie : upd H7 e0 (.tup []) e0 = some (.tup []) := upd_same
    generalize upd H7 e0 (.tup []) = H8 at t2 ie ⊢
    have i8 := t2 _ _ i7
    have d8 := d7.up t2.tl
    have r8 := r7.up t2
    have sx8 := sx7.tr t2.x
    have ha8 := t2 _ _ ha
    have dx8 := hxs.up t2.tl
    obtain ⟨j9, hj1, hj2, hj3, _⟩ := Rd.adv hrd _ _ _ _ _ rfl
    rw [List.drop_drop] at hj2
    have els : ls = ts.drop n2 := by rw [hj2, hj3]
    subst els
    have hwd := Rd.word hrd rfl _ _ _ _ _ rfl
    let S8 : L2.St := [some (.ref x), some (.str text), some (.int (n : Nat)), some (.ref pa), none, some (.ref a), some (.str wd), some (.ref e0)]
    have out : ∀ (H9 : Hp) (b : Addr) (ys : List V) (t2 : RT α β) (n3 i3 : Nat) (wd2 : Str), SameX x H H9 → RdAt P w K mg base fa fb rowF partF H9 x dx l f g ts n3 i3 → DqAll K H9 vs (ps.map fun p => .tuple (fb p)) → H9 pa = some (.tup vs) → H9 a = some (.tup xs) → DqAll K H9 xs (t1.toL fa fb) → H9 b = some (.tup ys) → DqAll K H9 ys (t2.toL fa fb) →
        Rd rowF partF (.cond text) (ts.drop n) n i (.ok (.ifr n ps t1 t2 .nil) "" (ts.drop n3) n3 i3) →
        tTup (tCons (tC (.str "if")) (tCons (tVar 2) (tCons (tVar 3) (tCons (tVar 5) (tCons (tVar 7) tNil))))) [some (.ref x), some (.str text), some (.int (n : Nat)), some (.ref pa), none, some (.ref a), some (.str wd2), some (.ref b)] H9 Q := by
      intro H9 b ys t2 n3 i3 wd2 sx9 r9 d9 i9 ha9 hx9 hb9 hy9 hrd9
      refine tup_go (cons_go (c_go (cons_go (var_go rfl (cons_go (var_go rfl (cons_go (var_go rfl (cons_go (var_go rfl (nil_go ⟨szL rfl, fun z hz => ?_⟩)))))))))))
      have t9 : Same H9 (upd H9 z (.tup [.str "if", .int (n : Nat), .ref pa, .ref a, .ref b])) := Same.new hz
      exact h1 _ _ _ _ _ _ _ hrd9 _ _ (sx9.tr t9.x) (r9.up t9) (.tup (.inl upd_same) (.cons (.str _) (.cons (.int _) (.cons (.tup (.inl (t9 _ _ i9)) (d9.up t9.tl)) (.cons (.tup (.inl (t9 _ _ ha9)) (hx9.up t9.tl)) (.cons (.tup (.inl (t9 _ _ hb9)) (hy9.up t9.tl)) .nil))))))
    refine seq_if (σ := S8) (eq_str (x := wd) (ev_var (i := 6) rfl) fun _ _ => ev_C) (fun g2 H9 s9 => ?_) (fun g2 H9 s9 => ?_)
    · have g2 := of_decide_eq_true g2
      subst g2
      have r9 := r8.up s9
      have sx9 := sx8.tr s9.x
      refine asg_go ⟨_, rfl, x, dx, _, rfl, r9.i, rfl, cons_go (c_go (nil_go ⟨x, dx, l, f, g, ts, n2, i2, true, rfl, r9, hts, by omega, (fun k hk d Ha sa hd => h0 _ (.bE gp hrd hk) d Ha (sx9.tr sa) hd), (fun t2 wd2 ls n3 i3 hrd2 q2 b ys Ha sa ra hq2 hb hys => ?_)⟩))⟩
      have ia := r9.tl sa _ _ (s9 _ _ i8)
      have da := (d8.up s9.tl).up (r9.tl sa)
      have hxa := (dx8.up s9.tl).up (r9.tl sa)
      have haa := r9.tl sa _ _ (s9 _ _ ha8)
      have sxa := sx9.tr sa
      obtain ⟨j8, hk1, hk2, hk3, _⟩ := Rd.adv hrd2 _ _ _ _ _ rfl
      rw [List.drop_drop] at hk2
      have els : ls = ts.drop n3 := by rw [hk2, hk3]
      subst els
      have hwd2 := Rd.word hrd2 rfl _ _ _ _ _ rfl
      refine ⟨q2, _, rfl, .inl (.inl hq2), rfl, _, _, rfl, _, _, rfl, rfl, ?_⟩
      let S9 : L2.St := [some (.ref x), some (.str text), some (.int (n : Nat)), some (.ref pa), none, some (.ref a), some (.str wd2), some (.ref b)]
      refine do_if (σ := S9) (eq_str (x := wd2) (ev_var (i := 6) rfl) fun _ _ => ev_C) (fun g3 Hb sb => ?_) (fun g3 Hb sb => ?_)
      · have g3 := of_decide_eq_true g3
        subst g3
        have rb := ra.up sb
        refine ev_fld (σ := S9) (ev_var rfl) rb.i T.cl_Reader T.na_Reader_line rfl _ fun Hc sc => ⟨rfl, (fun z => absurd z (by simp)), fun _ d hd => ?_⟩
        exact h0 _ (.elsE gp hrd hrd2) d _ (((sxa.tr sb.x).tr sc.x).tr (Same.new hd).x) upd_same
      · have g3 := of_decide_eq_false g3
        have ew : wd2 = "end" := by
          rcases List.mem_cons.mp hwd2 with e | e
          · exact absurd e g3
          · exact List.mem_singleton.mp e
        subst ew
        exact out Hb b ys t2 n3 i3 _ (sxa.tr sb.x) (ra.up sb) (da.up sb.tl) (sb _ _ ia) (sb _ _ haa) (hxa.up sb.tl) (sb _ _ hb) (hys.up sb.tl) (.two gp hrd hrd2)
    · have g2 := of_decide_eq_false g2
      have ew : wd = "end" := by
        rcases List.mem_cons.mp hwd with e | e
        · exact absurd e g2
        · exact List.mem_singleton.mp e
      subst ew
      exact ret_go (out H9 e0 [] .nil n2 i2 _ (sx8.tr s9.x) (r8.up s9) (d8.up s9.tl) (s9 _ _ i8) (s9 _ _ ha8) (dx8.up s9.tl) (s9 _ _ ie) .nil (.one gp hrd))
end
end K17


set_option Elab.async false
set_option linter.all false
set_option maxRecDepth 100000
set_option maxHeartbeats 4000000
namespace K17
open PySem PySem.Spec PyProof.Rows L2 Rdr LmX LamX NdefX
section
variable {P : Program} {w : World} {K : PySem.W.Frag} {mg : Str → Option Value} {base : Heap} {α β : Type} {fa : α → List PyData} {fb : β → List PyData} {rowF : Str → Nat → Option α} {partF : Str → Option β}
theorem ok_reader (T : Tx P w K mg) : ∀ m, MeX P w K mg base (L2.CX P w) (2 * m + 12) (cR K) "read_block" ["self", "is_inner"] [] (spBlk P w K mg base fa fb rowF partF m)
  | 0 => MetX.okX (k := 11) T.m_Reader_read_block sc_Reader_read_block (fun _ _ _ _ _ _ us hl => match us, hl with | [_, _], _ => rfl) (fun vs H Q E h => by obtain ⟨x, dx, l, f, g, ts, n, i, inner, rfl, _, _, h, _⟩ := h; omega) (fun f cdv A outer s H vs Q E hr h => by obtain ⟨x, dx, l, f, g, ts, n, i, inner, rfl, _, _, h, _⟩ := h; omega)
  | m + 1 => ok_block T (by omega) (ok_readif T (by omega) (ok_reader T m))
/-- read_rows(lines, row_of, part_of, most_ifs) -/
def spRR (P : Program) (w : World) (K : PySem.W.Frag) (mg : Str → Option Value) (fa : α → List PyData) (fb : β → List PyData) (rowF : Str → Nat → Option α) (partF : Str → Option β) (base : Heap) : Sp := fun vs H Q E =>
  ∃ (l f g : Addr) (ts : List Str) (most : Nat), vs = [.ref l, .ref f, .ref g, .int (most : Nat)] ∧ H l = some (.lst (ts.map V.str)) ∧ LamAt P w K mg base 10 ["text", "line"] (spRowL K fa rowF) f H ∧ LamAt P w K mg base 10 ["text"] (spPartL K fb partF) g H ∧ ts.length ≤ 40 ∧ (∀ t ∈ ts, t.length ≤ 1000) ∧
  (∀ k, Rd rowF partF (.blk false) ts 0 0 (.err k) → ∀ d H', Same H H' → H' d = some (.xd [("line", .int (k : Nat))]) → E (.ref (He.ga K "BadLine")) (some d) H') ∧
  (∀ t wd ls n i, Rd rowF partF (.blk false) ts 0 0 (.ok t wd ls n i) →
    (most < i → ∀ d H', Same H H' → H' d = some (.xd [("most", .int (most : Nat)), ("many", .int (i : Nat)), ("what", .str "ifs")]) → E (.ref (He.ga K "TooMany")) (some d) H') ∧
    (i ≤ most → ∀ q xs H', Same H H' → H' q = some (.tup xs) → DqAll K H' xs (t.toL fa fb) → Q (.ref q) H'))
theorem ok_read_rows (T : Tx P w K mg) : FnX P w K mg base (L2.CX P w) 95 "read_rows" ["lines", "row_of", "part_of", "most_ifs"] [] (spRR P w K mg fa fb rowF partF base) := by
  have F_Reader := ok_rinit (base := base) T
  have F_Reader_read_block := ok_reader (base := base) (fa := fa) (fb := fb) (rowF := rowF) (partF := partF) T 41
  refine DefX.okX T.d_read_rows sc_read_rows (fun _ _ _ _ _ _ us hl => match us, hl with | [_, _, _, _], _ => rfl) (fun vs H Q E h => ?_) (fun f cdv A outer s H vs Q E hr h => ⟨_, (by exact (pss_cons (ps_set (i := 4) sc_read_rows.nd rfl (Or.inl rfl) (pe_makeX F_Reader (hr.mono (by first | decide | omega)) pass0 (pa_cons (pv 0) (pa_cons (pv 1) (pa_cons (pv 2) pa_nil)))))
      (pss_cons (ps_asg (pe_methX F_Reader_read_block (hr.mono (by first | decide | omega)) passOut (pv 4) (pa_cons pe_bl pa_nil)) (pg_tup rfl (pgs_cons (pg_name (i := 5) sc_read_rows.nd rfl (Or.inl rfl)) (pgs_cons (pg_name (i := 6) sc_read_rows.nd rfl (Or.inl rfl)) pgs_nil))))
      (pss_cons (ps_if (pt_cmpR op_gt (pe_fld (pv 4) rfl) (pv 3) (nomark _)) (pss_one (ps_raise rfl (takes_of rfl rfl rfl rfl) (pmk_err T.e_TooMany T.g_TooMany hr (pa_cons pe_str (pa_cons (pe_fld (pv 4) rfl) (pa_cons (pv 3) pa_nil)))))) pss_nil)
      (pss_one (ps_ret (pv 5))))))), ?_⟩)
  · obtain ⟨l, f, g, ts, most, rfl, _⟩ := h
    rfl
  obtain ⟨l, f, g, ts, most, rfl, hl, hf, hg, hts, htl, h0, h1⟩ := h
  refine set_te (cons_go (var_go rfl (cons_go (var_go rfl (cons_go (var_go rfl (nil_go fun x dx hx hdx hne => ?_)))))))
  have sR : Same H (upd (upd H dx (.own x)) x (.ins (cR K) dx [])) := fun b o hb => by rw [upd_ne (ne_of_none hb hx), upd_ne (ne_of_none hb hdx)]; exact hb
  generalize hHR : upd (upd H dx (.own x)) x (.ins (cR K) dx []) = HR at sR ⊢
  have hRx : HR x = some (.ins (cR K) dx []) := by rw [← hHR]; exact upd_same
  refine ⟨x, dx, l, f, g, rfl, hRx, fun H2 hx2 sx2 => ⟨rfl, ?_⟩⟩
  have s2 : Same H H2 := fun b o hb => sx2 _ _ (ne_of_none hb hx) (sR _ _ hb)
  have r2 : RdAt P w K mg base fa fb rowF partF H2 x dx l f g ts 0 0 := ⟨hx2, s2 _ _ hl, hf.up s2, hg.up s2, Nat.zero_le _⟩
  have sm : ∀ {H3 : Hp}, SameX x H2 H3 → Same H H3 := fun s3 b o hb => s3 _ _ (ne_of_none hb hx) (s2 _ _ hb)
  refine asg_go ⟨_, rfl, x, dx, _, rfl, hx2, rfl, cons_go (c_go (nil_go ⟨x, dx, l, f, g, ts, 0, 0, false, rfl, r2, ⟨by omega, htl⟩, by omega, (fun k hk d H3 s3 hd => h0 k hk d H3 (sm s3) hd), (fun t wd ls n i hrd q a xs H3 s3 r3 hq ha hxs => ?_)⟩))⟩
  obtain ⟨k1, k2⟩ := h1 t wd ls n i hrd
  have s03 := sm s3
  refine ⟨q, _, rfl, .inl (.inl hq), rfl, _, _, rfl, _, _, rfl, rfl, ?_⟩
  let S : L2.St := [some (.ref l), some (.ref f), some (.ref g), some (.int (most : Nat)), some (.ref x), some (.ref a), some (.str wd)]
  have FI : ∀ {H4}, RdAt P w K mg base fa fb rowF partF H4 x dx l f g ts n i → EvE (tFld K (tVar 4) "ifs") S H4 (.int (i : Nat)) := fun r => ev_fld (ev_var rfl) r.i T.cl_Reader T.na_Reader_ifs rfl
  refine seq_if (σ := S) (b1 := decide (most < i)) ?_ (fun g1 H4 s4 => ?_) (fun g1 H4 s4 => ?_)
  · have := ev_test (σ := S) (ev_op (r := fun x y H Q => ∃ i j, x = V.int i ∧ y = V.int j ∧ Q (.bl (decide (i > j))) H) (v := .bl (decide ((i : Int) > (most : Int)))) (FI r3) (fun _ _ => ev_var (i := 3) rfl) (fun H5 _ Q q => ⟨_, _, rfl, rfl, q⟩))
    rw [show decide ((i : Int) > (most : Int)) = decide (most < i) from decide_eq_decide.mpr (by omega)] at this
    exact this
  · have g1 := of_decide_eq_true g1
    have r4 := r3.up s4
    refine cons_go (c_go (cons_go (FI r4 _ fun H5 s5 => cons_go (var_go rfl (nil_go ⟨rfl, (fun z => absurd z (by simp)), fun _ d hd => ?_⟩)))))
    exact k1 g1 d _ (((s03.tr s4).tr s5).tr (Same.new hd)) upd_same
  · have g1 := of_decide_eq_false g1
    exact ⟨_, rfl, k2 (by omega) a xs H4 (s03.tr s4) (s4 _ _ ha) (hxs.up s4.tl)⟩
end
end K17


set_option Elab.async false
set_option linter.all false
set_option maxRecDepth 100000
set_option maxHeartbeats 4000000
/-! all rows of a code, the ways through it -/
namespace Rdr
open PySem
inductive It (α β : Type)
  | leaf (x : α)
  | ifi (l : Nat) (ps : List β) (a b : RT α β)
variable {α β : Type}
def It.toD (fa : α → List PyData) (fb : β → List PyData) : It α β → PyData
  | .leaf x => .tuple (fa x)
  | .ifi l ps a b => ifD l (ps.map fun p => .tuple (fb p)) (a.toL fa fb) (b.toL fa fb)
def RT.all : RT α β → List (It α β)
  | .nil => []
  | .leaf x r => .leaf x :: r.all
  | .ifr l ps a b r => .ifi l ps a b :: ((a.all ++ b.all) ++ r.all)
abbrev Wy (α β : Type) := List (It α β) × Bool
def RT.waysF (fin : α → Bool) : RT α β → List (Wy α β) → List (Wy α β)
  | .nil, ws => ws
  | .leaf x r, ws => r.waysF fin (ws.flatMap fun y => if y.2 then [(y.1, true)] else [(y.1 ++ [.leaf x], fin x)])
  | .ifr l ps a b r, ws => r.waysF fin (ws.flatMap fun y => if y.2 then [(y.1, true)] else (a.waysF fin [([], false)] ++ b.waysF fin [([], false)]).map fun z => (y.1 ++ .ifi l ps a b :: z.1, z.2))
def RT.ways (fin : α → Bool) (t : RT α β) : List (Wy α β) := t.waysF fin [([], false)]
def RT.dep : RT α β → Nat
  | .nil => 0
  | .leaf _ r => r.dep
  | .ifr _ _ a b r => max (max a.dep b.dep + 1) r.dep
def RT.sz : RT α β → Nat
  | .nil => 0
  | .leaf _ r => 1 + r.sz
  | .ifr _ _ a b r => 1 + a.sz + b.sz + r.sz
def RT.ifs : RT α β → Nat
  | .nil => 0
  | .leaf _ r => r.ifs
  | .ifr _ _ a b r => 1 + a.ifs + b.ifs + r.ifs
theorem dep_sz : ∀ t : RT α β, t.dep ≤ t.sz
  | .nil => Nat.le_refl _
  | .leaf _ r => by have := dep_sz r; show r.dep ≤ 1 + r.sz; omega
  | .ifr _ _ a b r => by have := dep_sz r; have := dep_sz b; have := dep_sz a; show max (max a.dep b.dep + 1) r.dep ≤ 1 + a.sz + b.sz + r.sz; omega
theorem all_len : ∀ t : RT α β, t.all.length = t.sz
  | .nil => rfl
  | .leaf _ r => by show r.all.length + 1 = 1 + r.sz; rw [all_len r]; omega
  | .ifr _ _ a b r => by
    show ((a.all ++ b.all) ++ r.all).length + 1 = 1 + a.sz + b.sz + r.sz
    rw [List.length_append, List.length_append, all_len a, all_len b, all_len r]; omega
theorem fm_len {α β : Type} (f : α → List β) (c : Nat) : ∀ l : List α, (∀ x ∈ l, (f x).length ≤ c) → (l.flatMap f).length ≤ l.length * c
  | [], _ => by simp
  | x :: r, h => by
    have h1 := h x (List.mem_cons_self ..)
    have h2 := fm_len f c r (fun y hy => h y (List.mem_cons_of_mem _ hy))
    rw [List.flatMap_cons, List.length_append, List.length_cons, Nat.add_mul]
    omega
theorem waysF_len (fin : α → Bool) : ∀ (t : RT α β) (ws : List (Wy α β)), (t.waysF fin ws).length ≤ ws.length * 2 ^ t.ifs
  | .nil, ws => by show ws.length ≤ ws.length * 1; omega
  | .leaf x r, ws => by
    have h := waysF_len fin r (ws.flatMap fun y => if y.2 then [(y.1, true)] else [(y.1 ++ [.leaf x], fin x)])
    have h2 : (ws.flatMap fun y : Wy α β => if y.2 then [(y.1, true)] else [(y.1 ++ [.leaf x], fin x)]).length ≤ ws.length * 1 := fm_len _ 1 ws (fun y _ => by split <;> exact Nat.le_refl _)
    have h3 := Nat.mul_le_mul_right (2 ^ r.ifs) h2
    show (r.waysF fin _).length ≤ ws.length * 2 ^ r.ifs
    rw [Nat.mul_one] at h3
    exact Nat.le_trans h h3
  | .ifr l ps a b r, ws => by
    have ha := waysF_len fin a [([], false)]
    have hb := waysF_len fin b [([], false)]
    rw [List.length_singleton, Nat.one_mul] at ha hb
    have h := waysF_len fin r (ws.flatMap fun y => if y.2 then [(y.1, true)] else (a.waysF fin [([], false)] ++ b.waysF fin [([], false)]).map fun z => (y.1 ++ .ifi l ps a b :: z.1, z.2))
    have q : 1 ≤ 2 ^ (a.ifs + b.ifs) := Nat.one_le_pow _ _ (by decide)
    have h2 : (ws.flatMap fun y : Wy α β => if y.2 then [(y.1, true)] else (a.waysF fin [([], false)] ++ b.waysF fin [([], false)]).map fun z => (y.1 ++ .ifi l ps a b :: z.1, z.2)).length ≤ ws.length * (2 * 2 ^ (a.ifs + b.ifs)) := fm_len _ _ ws (fun y _ => by
      split
      · show 1 ≤ _; omega
      · rw [List.length_map, List.length_append]
        have e1 : 2 ^ a.ifs ≤ 2 ^ (a.ifs + b.ifs) := Nat.pow_le_pow_right (by decide) (by omega)
        have e2 : 2 ^ b.ifs ≤ 2 ^ (a.ifs + b.ifs) := Nat.pow_le_pow_right (by decide) (by omega)
        omega)
    have h3 := Nat.mul_le_mul_right (2 ^ r.ifs) h2
    show (r.waysF fin _).length ≤ ws.length * 2 ^ (1 + a.ifs + b.ifs + r.ifs)
    have e : ws.length * 2 ^ (1 + a.ifs + b.ifs + r.ifs) = ws.length * (2 * 2 ^ (a.ifs + b.ifs)) * 2 ^ r.ifs := by
      rw [show 1 + a.ifs + b.ifs + r.ifs = 1 + (a.ifs + b.ifs) + r.ifs by omega, Nat.pow_add, Nat.pow_add 2 1, Nat.pow_one]
      simp only [Nat.mul_assoc]
    rw [e]
    exact Nat.le_trans h h3
theorem waysF_met (fin : α → Bool) : ∀ (t : RT α β) (ws : List (Wy α β)) (n : Nat), (∀ x ∈ ws, x.1.length ≤ n) → ∀ x ∈ t.waysF fin ws, x.1.length ≤ n + t.sz
  | .nil, ws, n, h => fun x hx => h x hx
  | .leaf y r, ws, n, h => fun x hx => by
    have := waysF_met fin r _ (n + 1) (fun x hx => by
      rw [List.mem_flatMap] at hx
      obtain ⟨z, hz, hx⟩ := hx
      have hzn := h z hz
      split at hx
      · rw [List.mem_singleton] at hx; rw [hx]; show z.1.length ≤ _; omega
      · rw [List.mem_singleton] at hx; rw [hx, List.length_append]; show z.1.length + 1 ≤ _; omega) x hx
    show _ ≤ n + (1 + r.sz)
    omega
  | .ifr l ps a b r, ws, n, h => fun x hx => by
    have ha := waysF_met fin a [([], false)] 0 (fun x hx => by rw [List.mem_singleton] at hx; rw [hx]; exact Nat.le_refl _)
    have hb := waysF_met fin b [([], false)] 0 (fun x hx => by rw [List.mem_singleton] at hx; rw [hx]; exact Nat.le_refl _)
    have := waysF_met fin r _ (n + 1 + a.sz + b.sz) (fun x hx => by
      rw [List.mem_flatMap] at hx
      obtain ⟨z, hz, hx⟩ := hx
      have hzn := h z hz
      split at hx
      · rw [List.mem_singleton] at hx; rw [hx]; show z.1.length ≤ _; omega
      · rw [List.mem_map] at hx
        obtain ⟨u, hu, rfl⟩ := hx
        show (z.1 ++ _).length ≤ _
        rw [List.length_append, List.length_cons]
        rcases List.mem_append.mp hu with hu | hu
        · have := ha u hu; omega
        · have := hb u hu; omega) x hx
    show _ ≤ n + (1 + a.sz + b.sz + r.sz)
    omega
theorem ifs_sz : ∀ t : RT α β, t.ifs ≤ t.sz
  | .nil => Nat.le_refl _
  | .leaf _ r => by have := ifs_sz r; show r.ifs ≤ 1 + r.sz; omega
  | .ifr _ _ a b r => by have := ifs_sz r; have := ifs_sz b; have := ifs_sz a; show 1 + a.ifs + b.ifs + r.ifs ≤ 1 + a.sz + b.sz + r.sz; omega
/-- the rows read are as many as the lines at most, the ifs are counted -/
theorem app_ifs : ∀ s t : RT α β, (s.app t).ifs = s.ifs + t.ifs
  | .nil, t => by show t.ifs = 0 + t.ifs; omega
  | .leaf _ r, t => app_ifs r t
  | .ifr _ _ a b r, t => by show 1 + a.ifs + b.ifs + (r.app t).ifs = 1 + a.ifs + b.ifs + r.ifs + t.ifs; rw [app_ifs r t]; omega
variable {rowF : Str → Nat → Option α} {partF : Str → Option β}
theorem Rd.good {md : Md} {ls : List Str} {n i : Nat} {R : Res α β} (h : Rd rowF partF md ls n i R) : ∀ t w ls' n' i', R = .ok t w ls' n' i' → t.sz + ls'.length ≤ ls.length + (match md with | .cond _ => 1 | _ => 0) ∧ i' = i + t.ifs := by
  induction h with
  | eof => rintro t w ls' n' i' ⟨⟩; exact ⟨Nat.le_refl _, rfl⟩
  | @fin t r n i _ => rintro t2 w ls' n' i' ⟨⟩; exact ⟨by show 0 + r.length ≤ r.length + 1 + 0; omega, rfl⟩
  | eofI => intro t w ls' n' i' e; cases e
  | finO _ => intro t w ls' n' i' e; cases e
  | bad => intro t w ls' n' i' e; cases e
  | ifE => intro t w ls' n' i' e; cases e
  | badC => intro t w ls' n' i' e; cases e
  | aE => intro t w ls' n' i' e; cases e
  | bE => intro t w ls' n' i' e; cases e
  | elsE => intro t w ls' n' i' e; cases e
  | @leaf b t r n i x R _ _ _ _ ih =>
    intro t' w ls' n' i' e
    cases R with
    | err k => cases e
    | ok u w2 l m i2 =>
      cases e
      obtain ⟨h1, h2⟩ := ih _ _ _ _ _ rfl
      exact ⟨by show 1 + u.sz + _ ≤ r.length + 1 + 0; simp at h1; omega, h2⟩
  | @ifr b t r n i l ps x y r2 n2 i2 R _ _ _ _ ih1 ih2 =>
    intro t' w ls' n' i' e
    cases R with
    | err k => cases e
    | ok u w2 l2 m i3 =>
      cases e
      obtain ⟨h1, h2⟩ := ih1 _ _ _ _ _ rfl
      obtain ⟨h3, h4⟩ := ih2 _ _ _ _ _ rfl
      have h1 : 1 + x.sz + y.sz + 0 + r2.length ≤ r.length + 1 := h1
      have h2 : i2 = i + (1 + x.ifs + y.ifs + 0) := h2
      have h3 : u.sz + ls'.length ≤ r2.length + 0 := h3
      exact ⟨by show 1 + x.sz + y.sz + u.sz + ls'.length ≤ r.length + 1 + 0; omega, by show i' = i + (1 + x.ifs + y.ifs + u.ifs); omega⟩
  | @one text r n i ps x r2 n2 i2 _ _ ih =>
    rintro t w ls' n' i' ⟨⟩
    obtain ⟨h1, h2⟩ := ih _ _ _ _ _ rfl
    exact ⟨by show 1 + x.sz + 0 + 0 + _ ≤ _ + 1; simp at h1; omega, by show _ = i + (1 + x.ifs + 0 + 0); omega⟩
  | @two text r n i ps x r2 n2 i2 y r3 n3 i3 _ _ _ ih1 ih2 =>
    rintro t w ls' n' i' ⟨⟩
    obtain ⟨h1, h2⟩ := ih1 _ _ _ _ _ rfl
    obtain ⟨h3, h4⟩ := ih2 _ _ _ _ _ rfl
    exact ⟨by show 1 + x.sz + y.sz + 0 + _ ≤ _ + 1; simp at h1 h3; omega, by show _ = i + (1 + x.ifs + y.ifs + 0); omega⟩
end Rdr
namespace Rdr
open PySem
variable {α β : Type}
def RT.its : RT α β → List (It α β)
  | .nil => []
  | .leaf x r => .leaf x :: r.its
  | .ifr l ps a b r => .ifi l ps a b :: r.its
def It.all : It α β → List (It α β)
  | .leaf x => [.leaf x]
  | .ifi l ps a b => .ifi l ps a b :: (a.all ++ b.all)
def It.stepW (fin : α → Bool) : It α β → Wy α β → List (Wy α β)
  | .leaf x, y => if y.2 then [(y.1, true)] else [(y.1 ++ [.leaf x], fin x)]
  | .ifi l ps a b, y => if y.2 then [(y.1, true)] else (a.ways fin ++ b.ways fin).map fun z => (y.1 ++ .ifi l ps a b :: z.1, z.2)
def It.sz : It α β → Nat
  | .leaf _ => 1
  | .ifi _ _ a b => 1 + a.sz + b.sz
def It.dep : It α β → Nat
  | .leaf _ => 0
  | .ifi _ _ a b => max a.dep b.dep + 1
def It.ifs : It α β → Nat
  | .leaf _ => 0
  | .ifi _ _ a b => 1 + a.ifs + b.ifs
theorem toL_its (fa : α → List PyData) (fb : β → List PyData) : ∀ t : RT α β, t.toL fa fb = t.its.map (It.toD fa fb)
  | .nil => rfl
  | .leaf x r => by show _ :: _ = _ :: _; rw [toL_its fa fb r]; rfl
  | .ifr l ps a b r => by show _ :: _ = _ :: _; rw [toL_its fa fb r]; rfl
theorem all_its : ∀ t : RT α β, t.all = t.its.flatMap It.all
  | .nil => rfl
  | .leaf x r => by show _ :: _ = _; rw [all_its r]; rfl
  | .ifr l ps a b r => by show _ :: _ = _; rw [all_its r]; rfl
theorem waysF_its (fin : α → Bool) : ∀ (t : RT α β) (ws : List (Wy α β)), t.waysF fin ws = t.its.foldl (fun ws it => ws.flatMap (it.stepW fin)) ws
  | .nil, _ => rfl
  | .leaf x r, ws => waysF_its fin r _
  | .ifr l ps a b r, ws => waysF_its fin r _
theorem its_sz : ∀ (t : RT α β) (it : It α β), it ∈ t.its → it.sz ≤ t.sz ∧ it.dep ≤ t.dep ∧ it.ifs ≤ t.ifs
  | .nil, _, h => by cases h
  | .leaf x r, it, h => by
    rcases List.mem_cons.mp h with e | h
    · subst e; exact ⟨by show 1 ≤ 1 + r.sz; omega, Nat.zero_le _, Nat.zero_le _⟩
    · obtain ⟨h1, h2, h3⟩ := its_sz r it h
      exact ⟨by show _ ≤ 1 + r.sz; omega, h2, h3⟩
  | .ifr l ps a b r, it, h => by
    rcases List.mem_cons.mp h with e | h
    · subst e; exact ⟨by show 1 + a.sz + b.sz ≤ 1 + a.sz + b.sz + r.sz; omega, by show _ ≤ max (max a.dep b.dep + 1) r.dep; exact Nat.le_max_left _ _, by show 1 + a.ifs + b.ifs ≤ 1 + a.ifs + b.ifs + r.ifs; omega⟩
    · obtain ⟨h1, h2, h3⟩ := its_sz r it h
      exact ⟨by show _ ≤ 1 + a.sz + b.sz + r.sz; omega, by show _ ≤ max (max a.dep b.dep + 1) r.dep; omega, by show _ ≤ 1 + a.ifs + b.ifs + r.ifs; omega⟩
theorem take_fm_le {γ δ : Type} (f : γ → List δ) (l : List γ) (i : Nat) : ((l.take i).flatMap f).length ≤ (l.flatMap f).length := by
  have h : l.flatMap f = (l.take i).flatMap f ++ (l.drop i).flatMap f := by rw [← List.flatMap_append, List.take_append_drop]
  rw [h, List.length_append]
  omega
theorem take_fm {γ δ : Type} (f : γ → List δ) {l : List γ} {i : Nat} {x : γ} (h : l[i]? = some x) : (l.take (i + 1)).flatMap f = (l.take i).flatMap f ++ f x := by
  rw [List.take_succ, h, List.flatMap_append]
  simp
theorem take_mp {γ δ : Type} (f : γ → δ) {l : List γ} {i : Nat} {x : γ} (h : l[i]? = some x) : (l.take (i + 1)).map f = (l.take i).map f ++ [f x] := by
  rw [List.take_succ, h, List.map_append]
  simp
end Rdr
namespace Rdr
open PySem
variable {α β : Type}
def RT.ofL : List (It α β) → RT α β
  | [] => .nil
  | .leaf x :: r => .leaf x (RT.ofL r)
  | .ifi l ps a b :: r => .ifr l ps a b (RT.ofL r)
theorem its_ofL : ∀ l : List (It α β), (RT.ofL l).its = l
  | [] => rfl
  | .leaf x :: r => congrArg _ (its_ofL r)
  | .ifi l ps a b :: r => congrArg _ (its_ofL r)
theorem ofL_its : ∀ t : RT α β, RT.ofL t.its = t
  | .nil => rfl
  | .leaf x r => congrArg _ (ofL_its r)
  | .ifr l ps a b r => congrArg _ (ofL_its r)
theorem ofL_take : ∀ (l : List (It α β)) (i : Nat), (RT.ofL (l.take i)).ifs ≤ (RT.ofL l).ifs ∧ (RT.ofL (l.take i)).sz ≤ (RT.ofL l).sz
  | l, 0 => ⟨Nat.zero_le _, Nat.zero_le _⟩
  | [], i + 1 => ⟨Nat.zero_le _, Nat.zero_le _⟩
  | .leaf x :: r, i + 1 => by
    obtain ⟨h1, h2⟩ := ofL_take r i
    exact ⟨h1, by show 1 + _ ≤ 1 + _; omega⟩
  | .ifi l ps a b :: r, i + 1 => by
    obtain ⟨h1, h2⟩ := ofL_take r i
    exact ⟨by show 1 + a.ifs + b.ifs + _ ≤ 1 + a.ifs + b.ifs + _; omega, by show 1 + a.sz + b.sz + _ ≤ 1 + a.sz + b.sz + _; omega⟩
theorem take_ways (fin : α → Bool) (t : RT α β) (i : Nat) (hi : t.ifs ≤ 9) (hs : t.sz ≤ 1000) : ((t.its.take i).foldl (fun ws it => ws.flatMap (it.stepW fin)) [([], false)]).length ≤ 512 ∧ ∀ x ∈ (t.its.take i).foldl (fun ws it => ws.flatMap (it.stepW fin)) ([([], false)] : List (Wy α β)), x.1.length ≤ 1000 := by
  have e := waysF_its fin (RT.ofL (t.its.take i)) [([], false)]
  rw [its_ofL] at e
  obtain ⟨h1, h2⟩ := ofL_take t.its i
  rw [ofL_its] at h1 h2
  rw [← e]
  refine ⟨?_, fun x hx => ?_⟩
  · have h3 := waysF_len fin (RT.ofL (t.its.take i)) [([], false)]
    rw [List.length_singleton, Nat.one_mul] at h3
    exact Nat.le_trans h3 (Nat.le_trans (Nat.pow_le_pow_right (by decide) (Nat.le_trans h1 hi)) (by decide))
  · have := waysF_met fin (RT.ofL (t.its.take i)) [([], false)] 0 (fun x hx => by rw [List.mem_singleton] at hx; rw [hx]; exact Nat.le_refl _) x hx
    omega
end Rdr
namespace L2
open PySem PySem.Spec PyProof.Rows
/-- for .. in a tuple display, while something else changes -/
theorem for_dispX {K : PySem.W.Frag} {ta : TA} {g : TG} {tb : TS} {D : Ends} {σ : St} {H : Hp} {xs : List V} (Pv : Addr → Nat → St → Hp → Prop) (ha : EvA ta σ H xs) (h0 : ∀ a H1 H2, Same H H1 → H1 a = none → Same H1 H2 → H2 a = some (.tup xs) → Pv a 0 σ H2) (hs : ∀ a i σ H, Pv a i σ H → SqT K H a xs)
    (h2 : ∀ a i x σ H, xs[i]? = some x → Pv a i σ H → g x σ H fun σ2 H2 => tb { nx := Pv a (i + 1), rt := D.rt, bk := D.nx, ct := Pv a (i + 1) } σ2 H2) (h3 : ∀ a σ H, Pv a xs.length σ H → D.nx σ H) (hl : Nat.ble xs.length 1000 = true := by rfl) : tFor (iTup K (tTup ta)) g tb D σ H := by
  refine ha _ fun H1 s1 => ⟨szL hl, fun a hT => ⟨a, rfl, ⟨xs, .inl (.inl upd_same)⟩, ?_⟩⟩
  exact for_tup (Pv a) (h0 a H1 _ s1 hT (Same.new hT) upd_same) (fun i σ H _ k => hs a i σ H k) (fun i x σ H hx k => h2 a i x σ H hx k) (fun σ H k => h3 a σ H k)
end L2
namespace Rdr
variable {α β : Type}
/-- a way's rows are rows of the code -/
theorem ways_mem (fin : α → Bool) : ∀ (t : RT α β) (ws : List (Wy α β)), ∀ x ∈ t.waysF fin ws, ∀ it ∈ x.1, it ∈ t.all ∨ ∃ y ∈ ws, it ∈ y.1
  | .nil, ws, x, hx, it, hi => .inr ⟨x, hx, hi⟩
  | .leaf y r, ws, x, hx, it, hi => by
    rcases ways_mem fin r _ x hx it hi with h | ⟨z, hz, h⟩
    · exact .inl (List.mem_cons_of_mem _ h)
    · rw [List.mem_flatMap] at hz
      obtain ⟨u, hu, hz⟩ := hz
      split at hz
      · rw [List.mem_singleton] at hz; subst hz; exact .inr ⟨u, hu, h⟩
      · rw [List.mem_singleton] at hz
        subst hz
        rcases List.mem_append.mp h with h | h
        · exact .inr ⟨u, hu, h⟩
        · exact .inl (by rw [List.mem_singleton.mp h]; exact List.mem_cons_self ..)
  | .ifr l ps a b r, ws, x, hx, it, hi => by
    have sub : ∀ j, j ∈ a.all ∨ j ∈ b.all ∨ j ∈ r.all → j ∈ (RT.ifr l ps a b r).all := fun j h => by
      show j ∈ It.ifi l ps a b :: ((a.all ++ b.all) ++ r.all)
      simp only [List.mem_cons, List.mem_append]
      rcases h with h | h | h
      · exact .inr (.inl (.inl h))
      · exact .inr (.inl (.inr h))
      · exact .inr (.inr h)
    rcases ways_mem fin r _ x hx it hi with h | ⟨z, hz, h⟩
    · exact .inl (sub _ (.inr (.inr h)))
    · rw [List.mem_flatMap] at hz
      obtain ⟨u, hu, hz⟩ := hz
      split at hz
      · rw [List.mem_singleton] at hz; subst hz; exact .inr ⟨u, hu, h⟩
      · rw [List.mem_map] at hz
        obtain ⟨v, hv, rfl⟩ := hz
        rcases List.mem_append.mp h with h | h
        · exact .inr ⟨u, hu, h⟩
        · rcases List.mem_cons.mp h with h | h
          · subst h; exact .inl (List.mem_cons_self ..)
          · rcases List.mem_append.mp hv with hv | hv
            · rcases ways_mem fin a _ v hv it h with h | ⟨y, hy, h⟩
              · exact .inl (sub _ (.inl h))
              · rw [List.mem_singleton] at hy; subst hy; cases h
            · rcases ways_mem fin b _ v hv it h with h | ⟨y, hy, h⟩
              · exact .inl (sub _ (.inr (.inl h)))
              · rw [List.mem_singleton] at hy; subst hy; cases h
end Rdr
namespace Rdr
variable {α β : Type} {rowF : PySem.Str → Nat → Option α} {partF : PySem.Str → Option β}
/-- where the rows come from -/
def Src (rowF : PySem.Str → Nat → Option α) (it : It α β) : Prop := match it with
  | .leaf x => ∃ text n, rowF text n = some x
  | .ifi _ ps _ _ => ps.length ≤ 4
theorem Rd.src {md : Md} {ls : List PySem.Str} {n i : Nat} {R : Res α β} (h : Rd rowF partF md ls n i R) : ∀ t w ls' n' i', R = .ok t w ls' n' i' → ∀ it ∈ t.all, Src rowF it := by
  induction h with
  | eof => rintro t w ls' n' i' ⟨⟩ it h; cases h
  | fin _ => rintro t w ls' n' i' ⟨⟩ it h; cases h
  | eofI => intro t w ls' n' i' e; cases e
  | finO _ => intro t w ls' n' i' e; cases e
  | bad => intro t w ls' n' i' e; cases e
  | ifE => intro t w ls' n' i' e; cases e
  | badC => intro t w ls' n' i' e; cases e
  | aE => intro t w ls' n' i' e; cases e
  | bE => intro t w ls' n' i' e; cases e
  | elsE => intro t w ls' n' i' e; cases e
  | @leaf b t r n i x R _ _ hx _ ih =>
    intro t' w ls' n' i' e it hit
    cases R with
    | err k => cases e
    | ok u w2 l m i2 =>
      cases e
      rcases List.mem_cons.mp hit with e | hit
      · subst e; exact ⟨_, _, hx⟩
      · exact ih _ _ _ _ _ rfl it hit
  | @ifr b t r n i l ps x y r2 n2 i2 R _ _ _ _ ih1 ih2 =>
    intro t' w ls' n' i' e it hit
    cases R with
    | err k => cases e
    | ok u w2 l2 m i3 =>
      cases e
      have h1 := ih1 _ _ _ _ _ rfl
      have hit' : it ∈ It.ifi l ps x y :: ((x.all ++ y.all) ++ u.all) := hit
      rw [List.mem_cons, List.mem_append] at hit'
      rcases hit' with e | hit' | hit'
      · exact h1 it (by show it ∈ It.ifi l ps x y :: ((x.all ++ y.all) ++ []); rw [e]; exact List.mem_cons_self ..)
      · exact h1 it (by show it ∈ It.ifi l ps x y :: ((x.all ++ y.all) ++ []); rw [List.append_nil]; exact List.mem_cons_of_mem _ hit')
      · exact ih2 _ _ _ _ _ rfl it hit'
  | @one text r n i ps x r2 n2 i2 hg _ ih =>
    rintro t w ls' n' i' ⟨⟩ it hit
    have hit' : it ∈ It.ifi n ps x .nil :: ((x.all ++ []) ++ []) := hit
    rw [List.append_nil, List.append_nil, List.mem_cons] at hit'
    rcases hit' with e | hit'
    · subst e; exact hg.2
    · exact ih _ _ _ _ _ rfl it hit'
  | @two text r n i ps x r2 n2 i2 y r3 n3 i3 hg _ _ ih1 ih2 =>
    rintro t w ls' n' i' ⟨⟩ it hit
    have hit' : it ∈ It.ifi n ps x y :: ((x.all ++ y.all) ++ []) := hit
    rw [List.append_nil, List.mem_cons, List.mem_append] at hit'
    rcases hit' with e | hit' | hit'
    · subst e; exact hg.2
    · exact ih1 _ _ _ _ _ rfl it hit'
    · exact ih2 _ _ _ _ _ rfl it hit'
end Rdr


set_option Elab.async false
set_option linter.all false
set_option maxRecDepth 100000
set_option maxHeartbeats 4000000
namespace K17
open PySem PySem.Spec PyProof.Rows L2 Rdr LmX LamX NdefX
/-- what a row tells begins with a word, not with «if» -/
def Wrd {α : Type} (fa : α → List PyData) : Prop := ∀ x, ∃ z r, fa x = .str z :: r ∧ z ≠ "if"
section
variable {P : Program} {w : World} {K : PySem.W.Frag} {mg : Str → Option Value} {base : Heap} {α β : Type} {fa : α → List PyData} {fb : β → List PyData}
def spAll (K : PySem.W.Frag) (fa : α → List PyData) (fb : β → List PyData) (d : Nat) : Sp := fun vs H Q E => ∃ (p : Addr) (xs : List V) (t : RT α β), vs = [.ref p] ∧ SqT K H p xs ∧ DqAll K H xs (t.toL fa fb) ∧ t.dep < d ∧ t.sz ≤ 1000 ∧
  ∀ q ys H', Same H H' → H q = none → H' q = some (.lst ys) → DqAll K H' ys (t.all.map (It.toD fa fb)) → Q (.ref q) H'
theorem Same.ofX {x : Addr} {H H1 H2 : Hp} (s : Same H H1) (h : H x = none) (sx : SameX x H1 H2) : Same H H2 := fun b o hb => sx b o (ne_of_none hb h) (s b o hb)
theorem ok_all (T : Tx P w K mg) (hw : Wrd fa) {d j : Nat} (F_all_rows : FnX P w K mg base CX0 j "all_rows" ["rows"] [] (spAll K fa fb d)) : FnX P w K mg base CX0 (j + 1) "all_rows" ["rows"] [] (spAll K fa fb (d + 1)) := by
  refine T.d_all_rows.ok0 sc_all_rows (fun _ _ _ _ _ _ us hl => match us, hl with | [_], _ => rfl) (fun vs H Q E h => ?_) (fun f cdv A outer s H vs Q E hr h => have hu := hu_of hr; ⟨_, (by exact (pss_cons (ps_set (i := 1) sc_all_rows.nd rfl (Or.inl rfl) (pe_lst pa_nil))
      (pss_cons (ps_for PassesOwn.never rfl (pi_tup (pv 0)) (pg_name (i := 2) sc_all_rows.nd rfl (Or.inl rfl))
        (pss_cons (ps_expr (pe_bm PySem.F.plainAttrs_list PySem.F.slot_list_append PySem.F.type_list_append mt_append (pv 1) (pa_cons (pv 2) pa_nil)))
      (pss_one (ps_if (pt_cmpR op_eq (pe_ix ix_tup (pv 2) pe_int (fun _ _ => rfl)) pe_str (nomark _)) (pss_one (ps_expr (pe_bm PySem.F.plainAttrs_list PySem.F.slot_list_extend PySem.F.type_list_extend mt_extend (pv 1) (pa_cons (pe_lst (StX.pa_star (pe_callX F_all_rows (hr.mono (by first | decide | omega)) pass0 (pa_cons (pe_ix ix_tup (pv 2) pe_int (fun _ _ => rfl)) pa_nil)) (StX.pa_star (pe_callX F_all_rows (hr.mono (by first | decide | omega)) pass0 (pa_cons (pe_ix ix_tup (pv 2) pe_int (fun _ _ => rfl)) pa_nil)) pa_nil))) pa_nil)))) pss_nil))))
      (pss_one (ps_ret (pv 1)))))), ?_⟩)
  · obtain ⟨p, xs, t, rfl, _⟩ := h
    rfl
  obtain ⟨p, xs, t, rfl, hp, hx, hd, hsz, h0⟩ := h
  have q9 : sizeLine = 16777216 := sizeLine_eq
  refine set_lst (vs := []) ev_nil (fun H1 la s1 hla hl => ?_)
  have hl9 : (t.its.flatMap It.all).length ≤ 1000 := by rw [← all_its, all_len]; exact hsz
  have hxl := hx.len
  rw [toL_its, List.length_map] at hxl
  refine for_tp (K := K) (a := p) (xs := xs) (fun i σ H' => Same H H' ∧ ∃ ys u, σ = [some (.ref p), some (.ref la), u] ∧ H' la = some (.lst ys) ∧ DqAll K H' ys (((t.its.take i).flatMap It.all).map (It.toD fa fb))) (ev_var rfl) (s1.seqT hp) (fun H2 s2 => ⟨s1.tr s2, [], none, rfl, s2 _ _ hl, .nil⟩) (fun i σ H' _ k => k.1.seqT hp) ?_ ?_
  · rintro i v σ H2 hv ⟨s2, ys, u, rfl, hl2, hy⟩
    obtain ⟨dd, hdd, hvd⟩ := DqAll.at hx hv
    rw [toL_its, List.getElem?_map] at hdd
    obtain ⟨it, hit, rfl⟩ := Option.map_eq_some_iff.mp hdd
    obtain ⟨g1, g2, g3⟩ := its_sz t it (List.mem_of_getElem? hit)
    have hv2 := hvd.up s2.tl
    have hyl := hy.len
    rw [List.length_map] at hyl
    have hle := take_fm_le It.all t.its i
    have hnx := take_fm It.all hit
    refine nm (do_drop ⟨_, rfl, .inl ⟨rfl, ⟨_, .inl (.inl hl2)⟩⟩, _, rfl, la, ys, v, rfl, rfl, hl2, by omega, ?_⟩)
    have t3 : TupLe H2 (upd H2 la (.lst (ys ++ [v]))) := TupLe.mut hl2 fun xs z => by cases z
    have hla2 : H la = none := hla
    have s3 : Same H (upd H2 la (.lst (ys ++ [v]))) := s2.mut hla
    have hl3 : upd H2 la (.lst (ys ++ [v])) la = some (.lst (ys ++ [v])) := upd_same
    generalize upd H2 la (.lst (ys ++ [v])) = H3 at t3 s3 hl3 ⊢
    have hv3 := hv2.up t3
    have hy3 := (hy.up t3).snoc hv3
    let S : L2.St := [some (.ref p), some (.ref la), some v]
    cases it with
    | leaf x =>
      obtain ⟨z, r, ez, hz⟩ := hw x
      obtain ⟨va, us, rfl, hva, hus⟩ := Dq.tuple (show Dq K H3 v (.tuple (fa x)) from hv3)
      rw [ez] at hus
      cases hus with
      | cons hz1 hz2 =>
        cases hz1
        refine do_if (σ := S) (b1 := decide (z = "if")) (eq_str (ev_ixT (ev_var (i := 2) rfl) (fun _ _ => ev_C) hva (at0 _ _)) fun _ _ => ev_C) (fun g H4 s4 => absurd (of_decide_eq_true g) hz) (fun g H4 s4 => ?_)
        refine ⟨s3.tr s4, _, _, rfl, s4 _ _ hl3, ?_⟩
        rw [hnx, List.map_append]
        exact hy3.up s4.tl
    | ifi l ps a b =>
      obtain ⟨va, us, rfl, hva, hus⟩ := Dq.tuple (show Dq K H3 v (ifD l (ps.map fun p => .tuple (fb p)) (a.toL fa fb) (b.toL fa fb)) from hv3)
      cases hus with
      | cons h1 hus => cases hus with
      | cons h2 hus => cases hus with
      | cons h3 hus => cases hus with
      | cons h4 hus => cases hus with
      | cons h5 hus =>
      cases hus
      cases h1
      obtain ⟨pa, xa, rfl, hpa, hxa⟩ := Dq.tuple h4
      obtain ⟨pb, xb, rfl, hpb, hxb⟩ := Dq.tuple h5
      have e1 : 1 + a.sz + b.sz ≤ t.sz := g1
      have e2 : max a.dep b.dep + 1 ≤ t.dep := g2
      refine do_if (σ := S) (b1 := decide (("if" : Str) = "if")) (eq_str (ev_ixT (ev_var (i := 2) rfl) (fun _ _ => ev_C) hva rfl) fun _ _ => ev_C) (fun g H4 s4 => ?_) (fun g H4 s4 => by simp at g)
      have hl4 := s4 _ _ hl3
      refine ⟨_, rfl, .inl ⟨rfl, ⟨_, .inl (.inl hl4)⟩⟩, cons_go (lst_go ?_)⟩
      refine call_go (cons_go (ev_ixT (σ := S) (ev_var rfl) (fun _ _ => ev_C) (s4.seqT hva) (v := .ref pa) rfl _ fun H5 s5 => nil_go ⟨pa, xa, a, rfl, (s4.tr s5).seqT hpa, hxa.up (s4.tr s5).tl, by omega, by omega, fun qa ya H6 s6 _ hqa hya => ⟨qa, ya, rfl, .inr (.inl (.inl hqa)), ?_⟩⟩))
      have s46 := (s4.tr s5).tr s6
      refine call_go (cons_go (ev_ixT (σ := S) (ev_var rfl) (fun _ _ => ev_C) (s46.seqT hva) (v := .ref pb) rfl _ fun H7 s7 => nil_go ⟨pb, xb, b, rfl, (s46.tr s7).seqT hpb, hxb.up (s46.tr s7).tl, by omega, by omega, fun qb yb H8 s8 _ hqb hyb => ⟨qb, yb, rfl, .inr (.inl (.inl hqb)), ?_⟩⟩))
      have la1 := hya.len
      have lb1 := hyb.len
      rw [List.length_map, all_len] at la1 lb1
      have s78 := s7.tr s8
      refine nil_go ⟨by simp; omega, fun q hq => ?_⟩
      have hl8 := (s46.tr s78) _ _ hl3
      have hne : la ≠ q := fun e => by rw [← e, hl8] at hq; cases hq
      have t8 : Same H8 (upd H8 q (.lst (ya ++ (yb ++ [])))) := Same.new hq
      have iq : upd H8 q (.lst (ya ++ (yb ++ []))) q = some (.lst (ya ++ (yb ++ []))) := upd_same
      generalize upd H8 q (.lst (ya ++ (yb ++ []))) = H9 at t8 iq ⊢
      have s39 := (s46.tr s78).tr t8
      have hl9' := s39 _ _ hl3
      have t9 : TupLe H9 (upd H9 la (.lst ((ys ++ [.ref va]) ++ (ya ++ (yb ++ []))))) := TupLe.mut hl9' fun xs z => by cases z
      refine nil_go ⟨la, q, ys ++ [.ref va], ya ++ (yb ++ []), rfl, rfl, hl9', iq, by simp; omega, (s3.tr s39).mut hla, _, _, rfl, upd_same, ?_⟩
      generalize upd H9 la (.lst ((ys ++ [.ref va]) ++ (ya ++ (yb ++ [])))) = Hz at t9 ⊢
      rw [hnx, List.map_append, List.append_nil, List.append_assoc]
      show DqAll K Hz (ys ++ (V.ref va :: (ya ++ yb))) (_ ++ (It.toD fa fb (.ifi l ps a b) :: (a.all ++ b.all).map (It.toD fa fb)))
      rw [List.map_append]
      exact ((hy.up t3).up (s39.tl.trans t9)).app (.cons (hv3.up (s39.tl.trans t9)) ((hya.up ((s78.tr t8).tl.trans t9)).app (hyb.up (t8.tl.trans t9))))
  · rintro σ H2 ⟨s2, ys, u, rfl, hl2, hy⟩
    rw [hxl, List.take_length, ← all_its] at hy
    exact ⟨_, rfl, h0 la ys H2 s2 hla hl2 hy⟩
theorem ok_all_rows (T : Tx P w K mg) (hw : Wrd fa) : ∀ d, FnX P w K mg base CX0 (d + 1) "all_rows" ["rows"] [] (spAll K fa fb d)
  | 0 => T.d_all_rows.ok0 (k := 0) sc_all_rows (fun _ _ _ _ _ _ us hl => match us, hl with | [_], _ => rfl) (fun vs H Q E h => by obtain ⟨p, xs, t, rfl, _, _, h, _⟩ := h; omega) (fun f cdv A outer s H vs Q E hr h => by obtain ⟨p, xs, t, rfl, _, _, h, _⟩ := h; omega)
  | d + 1 => ok_all T hw (ok_all_rows T hw d)
end
end K17


set_option Elab.async false
set_option linter.all false
set_option maxRecDepth 100000
set_option maxHeartbeats 4000000
namespace K17
open PySem PySem.Spec PyProof.Rows L2 Rdr LmX LamX NdefX
section
variable {α β : Type}
/-- ways in the heap, their lists at addresses of F -/
def RepW (K : PySem.W.Frag) (fa : α → List PyData) (fb : β → List PyData) (F : Addr → Prop) (H : Hp) : List (Wy α β) → List V → Prop
  | [], ys => ys = []
  | x :: xs, ys => ∃ a b ms zs, ys = .ref a :: zs ∧ H a = some (.tup [.ref b, .bl x.2]) ∧ F b ∧ H b = some (.lst ms) ∧ DqAll K H ms (x.1.map (It.toD fa fb)) ∧ RepW K fa fb F H xs zs
variable {K : PySem.W.Frag} {fa : α → List PyData} {fb : β → List PyData}
theorem RepW.up {F F' : Addr → Prop} {H H' : Hp} (hf : ∀ b, F b → F' b) (s : TupLe H H') (hl : ∀ b vs, F b → H b = some (.lst vs) → H' b = some (.lst vs)) : ∀ (ws : List (Wy α β)) (ys : List V), RepW K fa fb F H ws ys → RepW K fa fb F' H' ws ys
  | [], _, h => h
  | x :: xs, _, ⟨a, b, ms, zs, e, ha, fb, hb, hm, h⟩ => ⟨a, b, ms, zs, e, s _ _ ha, hf _ fb, hl _ _ fb hb, hm.up s, up hf s hl xs zs h⟩
theorem RepW.app {F : Addr → Prop} {H : Hp} : ∀ (v w : List (Wy α β)) (xs ys : List V), RepW K fa fb F H v xs → RepW K fa fb F H w ys → RepW K fa fb F H (v ++ w) (xs ++ ys)
  | [], w, xs, ys, h, k => by cases (show xs = [] from h); exact k
  | x :: v, w, _, ys, ⟨a, b, ms, zs, e, ha, fb, hb, hm, h⟩, k => by subst e; exact ⟨a, b, ms, zs ++ ys, rfl, ha, fb, hb, hm, app v w zs ys h k⟩
theorem RepW.at {F : Addr → Prop} {H : Hp} : ∀ (ws : List (Wy α β)) (ys : List V), RepW K fa fb F H ws ys → ys.length = ws.length ∧ ∀ (i : Nat) (y : V), ys[i]? = some y → ∃ (x : Wy α β) (a b : Addr) (ms : List V), ws[i]? = some x ∧ y = V.ref a ∧ H a = some (.tup [.ref b, .bl x.2]) ∧ F b ∧ H b = some (.lst ms) ∧ DqAll K H ms (x.1.map (It.toD fa fb))
  | [], ys, h => by cases (show ys = [] from h); exact ⟨rfl, fun i y e => by simp at e⟩
  | x :: xs, _, ⟨a, b, ms, zs, e, ha, fb, hb, hm, h⟩ => by
    subst e
    obtain ⟨h1, h2⟩ := RepW.at xs zs h
    refine ⟨by simp [h1], fun i y e => ?_⟩
    cases i with
    | zero => exact ⟨x, a, b, ms, rfl, (by simpa using e.symm), ha, fb, hb, hm⟩
    | succ i => exact h2 i y (by simpa using e)
end
def finF {α : Type} (fa : α → List PyData) (ends : List Str) (x : α) : Bool := match fa x with
  | .str z :: _ => decide (z ∈ ends)
  | _ => false
section
variable {P : Program} {w : World} {K : PySem.W.Frag} {mg : Str → Option Value} {base : Heap} {α β : Type} {fa : α → List PyData} {fb : β → List PyData}
abbrev Nn (H : Hp) : Addr → Prop := fun a => H a = none
def spWays (K : PySem.W.Frag) (fa : α → List PyData) (fb : β → List PyData) (d : Nat) : Sp := fun vs H Q E => ∃ (p ea : Addr) (xs : List V) (t : RT α β) (ends : List Str), vs = [.ref p, .ref ea] ∧ SqT K H p xs ∧ DqAll K H xs (t.toL fa fb) ∧ t.dep < d ∧ t.sz ≤ 1000 ∧ t.ifs ≤ 9 ∧ SqT K H ea (ends.map V.str) ∧
  ∀ q ys H', Same H H' → H q = none → H' q = some (.lst ys) → RepW K fa fb (Nn H) H' (t.ways (finF fa ends)) ys → Q (.ref q) H'
/-- later.extend([([*way, row, *more], ended) for more, ended in all_ways(block, ends)]) -/
theorem ext_go {d : Nat} {E : XK} {D : Ends} {H : Hp} {p ea fl la wb pb : Addr} {row : V} {u6 u8 u9 : Option V} {ms zs xb : List V} {m : List (It α β)} {it : It α β} {t : RT α β} {ends : List Str}
    (hm : H wb = some (.lst ms)) (hmd : DqAll K H ms (m.map (It.toD fa fb))) (hml : m.length ≤ 1000) (hrow : Dq K H row (it.toD fa fb)) (hpb : SqT K H pb xb) (hxb : DqAll K H xb (t.toL fa fb)) (hd : t.dep < d) (hs : t.sz ≤ 1000) (hi : t.ifs ≤ 9) (hea : SqT K H ea (ends.map V.str)) (hla : H la = some (.lst zs)) (hzl : zs.length ≤ 1000000)
    (k : ∀ H' new, SameX la H H' → H' la = some (.lst (zs ++ new)) → RepW K fa fb (fun b => H b = none) H' ((t.ways (finF fa ends)).map fun z => (m ++ it :: z.1, z.2)) new → D.nx [some (.ref p), some (.ref ea), some (.ref fl), some row, some (.ref la), some (.ref wb), u6, some (.ref pb), u8, u9] H') :
    tDrop (tBM K "list" rExtend (tVar 4) (tCons (tLc (iList K (tCall (spWays K fa fb d) [] E (tCons (tVar 7) (tCons (tVar 1) tNil)))) (gTup K 2 (gCons (gName 8) (gCons (gName 9) gNil))) tYes (tTup (tCons (tLst (StX.tStar K (tVar 5) (tCons (tVar 3) (StX.tStar K (tVar 8) tNil)))) (tCons (tVar 9) tNil))) [8, 9]) tNil)) D [some (.ref p), some (.ref ea), some (.ref fl), some row, some (.ref la), some (.ref wb), u6, some (.ref pb), u8, u9] H := by
  have q9 : sizeLine = 16777216 := sizeLine_eq
  refine ⟨_, rfl, .inl ⟨rfl, ⟨_, .inl (.inl hla)⟩⟩, cons_go ?_⟩
  refine call_go (sp := spWays K fa fb d) (t := tCons (tVar 7) (tCons (tVar 1) tNil)) (cons_go ⟨_, rfl, cons_go ⟨_, rfl, nil_go ⟨pb, ea, xb, t, ends, rfl, hpb, hxb, hd, hs, hi, hea, fun q ys H1 s1 hq hq1 hys => ?_⟩⟩⟩)
  refine ⟨q, rfl, ⟨_, .inl (.inl hq1)⟩, fun Dl hD => ?_⟩
  obtain ⟨wl, wat⟩ := RepW.at _ _ hys
  have hcnt : (t.ways (finF fa ends)).length ≤ 512 := by
    have h1 := waysF_len (finF fa ends) t [([], false)]
    rw [List.length_singleton, Nat.one_mul] at h1
    exact Nat.le_trans h1 (Nat.le_trans (Nat.pow_le_pow_right (by decide) hi) (by decide))
  have hmet : ∀ x ∈ t.ways (finF fa ends), x.1.length ≤ 1000 := fun x hx => by
    have := waysF_met (finF fa ends) t [([], false)] 0 (fun x hx => by rw [List.mem_singleton] at hx; rw [hx]; exact Nat.le_refl _) x hx
    omega
  have hDq : Dl ≠ q := fun z => by rw [z, hq1] at hD; cases hD
  have hDla : Dl ≠ la := fun z => by rw [z, s1 _ _ hla] at hD; cases hD
  have hD0 : H Dl = none := none_of s1 hD
  let G : Wy α β → Wy α β := fun z => (m ++ it :: z.1, z.2)
  refine lc_list (xs := ys) (fun i H' => Same H1 H' ∧ ∃ acc, H' Dl = some (.lst acc) ∧ RepW K fa fb (fun b => H b = none ∧ b ≠ Dl) H' (((t.ways (finF fa ends)).take i).map G) acc) ⟨Same.new hD, [], upd_same, rfl⟩ (fun i H' _ h => .inl (.inl (h.1 _ _ hq1))) ?_ (fun H2 h => ?_)
  · rintro i x H2 hx ⟨s2, acc, hacc, hW⟩
    obtain ⟨y, wa, wc, wm, hyi, rfl, hwa, hwn, hwc, hwm⟩ := wat i x hx
    have s12 := s1.tr s2
    refine ⟨wa, _, rfl, .inl (.inl (s2 _ _ hwa)), rfl, _, _, rfl, _, _, rfl, rfl, rfl, ?_⟩
    dsimp only [tYes]
    rw [if_pos rfl]
    refine tup_go (cons_go (lst_go ⟨_, rfl, wb, ms, rfl, .inr (.inl (.inl (s12 _ _ hm))), cons_go ⟨_, rfl, _, rfl, wc, wm, rfl, .inr (.inl (.inl (s2 _ _ hwc))), nil_go ⟨?_, fun lp hlp => cons_go ⟨_, rfl, nil_go ⟨szL rfl, fun op hop => ?_⟩⟩⟩⟩⟩))
    · have h1 := hmd.len
      have h2 := hwm.len
      have h3 := hmet y (List.mem_of_getElem? hyi)
      rw [List.length_map] at h1 h2
      simp
      omega
    · have hDl2 : lp ≠ Dl := fun e => by rw [e, hacc] at hlp; cases hlp
      have sA : Same H2 (upd H2 lp (.lst (ms ++ (row :: (wm ++ []))))) := Same.new hlp
      have iA : upd H2 lp (.lst (ms ++ (row :: (wm ++ [])))) lp = some (.lst (ms ++ (row :: (wm ++ [])))) := upd_same
      generalize upd H2 lp (.lst (ms ++ (row :: (wm ++ [])))) = HA at sA iA hop ⊢
      have sB : Same HA (upd HA op (.tup [.ref lp, .bl y.2])) := Same.new hop
      have iB : upd HA op (.tup [.ref lp, .bl y.2]) op = some (.tup [.ref lp, .bl y.2]) := upd_same
      generalize upd HA op (.tup [.ref lp, .bl y.2]) = HB at sB iB ⊢
      have sAB := sA.tr sB
      have haB := sAB _ _ hacc
      have hal : acc.length ≤ 512 := by
        have := (RepW.at _ _ hW).1
        rw [List.length_map, List.length_take] at this
        omega
      have tC : TupLe HB (upd HB Dl (.lst (acc ++ [.ref op]))) := TupLe.mut haB fun xs z => by cases z
      have hopD : op ≠ Dl := fun e => by rw [e, haB] at iB; cases iB
      refine ⟨acc, haB, by omega, (s2.tr sAB).mut hD, _, upd_same, ?_⟩
      rw [take_mp G hyi]
      refine RepW.app _ _ _ _ (RepW.up (fun _ h => h) (sAB.tl.trans tC) (fun c vs h hc => by rw [upd_ne h.2]; exact sAB _ _ hc) _ _ hW) ?_
      refine ⟨op, lp, _, [], rfl, by rw [upd_ne hopD]; exact iB, ⟨none_of (s12) hlp, hDl2⟩, by rw [upd_ne hDl2]; exact sB _ _ iA, ?_, rfl⟩
      show DqAll K _ _ ((m ++ it :: y.1).map (It.toD fa fb))
      rw [List.append_nil, List.map_append]
      have tl : TupLe H2 (upd HB Dl (.lst (acc ++ [.ref op]))) := sAB.tl.trans tC
      exact (hmd.up (s12.tl.trans tl)).app (.cons (hrow.up (s12.tl.trans tl)) (hwm.up (s2.tl.trans tl)))
  · obtain ⟨s2, acc, hacc, hW⟩ := h
    rw [wl, List.take_length] at hW
    have s12 := s1.tr s2
    have hla2 := s12 _ _ hla
    have hal := (RepW.at _ _ hW).1
    rw [List.length_map] at hal
    refine nil_go ⟨la, Dl, zs, acc, rfl, rfl, hla2, hacc, by omega, k _ acc (fun b o hb ho => by rw [upd_ne hb]; exact s12 _ _ ho) upd_same ?_⟩
    have tC : TupLe H2 (upd H2 la (.lst (zs ++ acc))) := TupLe.mut hla2 fun xs z => by cases z
    exact RepW.up (fun b h => h.1) tC (fun c vs h hc => by rw [upd_ne (fun e => by have := h.1; rw [e, hla] at this; cases this)]; exact hc) _ _ hW
end
end K17


set_option Elab.async false
set_option linter.all false
set_option maxRecDepth 100000
set_option maxHeartbeats 4000000
namespace K17
open PySem PySem.Spec PyProof.Rows L2 Rdr LmX LamX NdefX
section
variable {P : Program} {w : World} {K : PySem.W.Frag} {mg : Str → Option Value} {base : Heap} {α β : Type} {fa : α → List PyData} {fb : β → List PyData}
theorem seqT_x {x a : Addr} {H H' : Hp} {xs zs : List V} (s : SameX x H H') (hx : H x = some (.lst zs)) (h : SqT K H a xs) : SqT K H' a xs := by
  rcases h with (h | ⟨o, h⟩) | h
  · exact .inl (.inl (s _ _ (fun e => by rw [e, hx] at h; cases h) h))
  · exact .inl (.inr ⟨o, s _ _ (fun e => by rw [e, hx] at h; cases h) h⟩)
  · exact .inr h
theorem ok_ways (T : Tx P w K mg) (hw : Wrd fa) {d j : Nat} (F_all_ways : FnX P w K mg base CX0 j "all_ways" ["rows", "ends"] [] (spWays K fa fb d)) : FnX P w K mg base CX0 (j + 1) "all_ways" ["rows", "ends"] [] (spWays K fa fb (d + 1)) := by
  refine T.d_all_ways.ok0 sc_all_ways (fun _ _ _ _ _ _ us hl => match us, hl with | [_, _], _ => rfl) (fun vs H Q E h => ?_) (fun f cdv A outer s H vs Q E hr h => have hu := hu_of hr; ⟨_, (by exact (pss_cons (ps_set (i := 2) sc_all_ways.nd rfl (Or.inl rfl) (pe_lst (pa_cons (pe_tup (pa_cons (pe_lst pa_nil) (pa_cons pe_bl pa_nil))) pa_nil)))
      (pss_cons (ps_for PassesOwn.never rfl (pi_tup (pv 0)) (pg_name (i := 3) sc_all_ways.nd rfl (Or.inr rfl))
        (pss_cons (ps_set (i := 4) sc_all_ways.nd rfl (Or.inl rfl) (pe_lst pa_nil))
      (pss_cons (ps_for PassesOwn.never rfl (pi_list (pv 2)) (pg_tup rfl (pgs_cons (pg_name (i := 5) sc_all_ways.nd rfl (Or.inr rfl)) (pgs_cons (pg_name (i := 6) sc_all_ways.nd rfl (Or.inl rfl)) pgs_nil)))
        (pss_one (ps_if (pt_val (pv 6)) (pss_one (ps_expr (pe_bm PySem.F.plainAttrs_list PySem.F.slot_list_append PySem.F.type_list_append mt_append (pv 4) (pa_cons (pe_tup (pa_cons (pv 5) (pa_cons pe_bl pa_nil))) pa_nil)))) (pss_one (ps_if (pt_cmpR op_eq (pe_ix ix_tup (pv 3) pe_int (fun _ _ => rfl)) pe_str (nomark _)) (pss_one (ps_for PassesOwn.never rfl (pi_tup (pe_tup (pa_cons (pe_ix ix_tup (pv 3) pe_int (fun _ _ => rfl)) (pa_cons (pe_ix ix_tup (pv 3) pe_int (fun _ _ => rfl)) pa_nil)))) (pg_name (i := 7) sc_all_ways.nd rfl (Or.inl rfl))
        (pss_one (ps_expr (pe_bm PySem.F.plainAttrs_list PySem.F.slot_list_extend PySem.F.type_list_extend mt_extend (pv 4) (pa_cons (pe_lc (own := [("more", 8), ("ended", 9)]) (g := (gTup K 2 (gCons (gName 8) (gCons (gName 9) gNil)))) (tt := tYes) (by rfl) sc_all_ways.nd (pi_list (pe_callX F_all_ways (hr.mono (by first | decide | omega)) pass0 (pa_cons (pv 7) (pa_cons (pv 1) pa_nil)))) (blkOk_by (own := [("more", 8), ("ended", 9)]) (N := ["rows", "ends", "found", "row", "later", "way", "has_ended", "block", "more", "ended"]) (sc := defScope s_all_ways) (by decide +kernel)) (fun _ _ _ _ _ => (pg_tup rfl (pgs_cons (pg_name (i := 8) sc_all_ways.nd rfl (Or.inl rfl)) (pgs_cons (pg_name (i := 9) sc_all_ways.nd rfl (Or.inl rfl)) pgs_nil)))) (fun _ _ _ _ _ => pts_nil) (fun _ _ _ _ _ => (pe_tup (pa_cons (pe_lst (paS_at (K := K) (pv 5) (pa_cons (pv 3) (paS_at (K := K) (pv 8) pa_nil)))) (pa_cons (pv 9) pa_nil))))) pa_nil)))))) (pss_one (ps_expr (pe_bm PySem.F.plainAttrs_list PySem.F.slot_list_append PySem.F.type_list_append mt_append (pv 4) (pa_cons (pe_tup (pa_cons (pe_lst (StX.pa_star (pv 5) (pa_cons (pv 3) pa_nil))) (pa_cons (pe_cmpR op_in_seq (pe_ix ix_tup (pv 3) pe_int (fun _ _ => rfl)) (pv 1) (by rfl)) pa_nil))) pa_nil)))))))))
      (pss_one (ps_set (i := 2) sc_all_ways.nd rfl (Or.inl rfl) (pv 4))))))
      (pss_one (ps_ret (pv 2)))))), ?_⟩)
  · obtain ⟨p, ea, xs, t, ends, rfl, _⟩ := h
    rfl
  obtain ⟨p, ea, xs, t, ends, rfl, hp, hx, hd, hsz, hif, hea, h0⟩ := h
  have q9 : sizeLine = 16777216 := sizeLine_eq
  have hxl := hx.len
  rw [toL_its, List.length_map] at hxl
  let fin := finF fa ends
  let stp : List (Wy α β) → It α β → List (Wy α β) := fun ws it => ws.flatMap (it.stepW fin)
  refine set_te (lst_go (cons_go (tup_go (cons_go (lst_go (nil_go ⟨szL rfl, fun e he => cons_go (c_go (nil_go ⟨szL rfl, fun tp htp => nil_go ⟨szL rfl, fun fl hfl => ?_⟩⟩))⟩))))))
  have s1 : Same H (upd H e (.lst [])) := Same.new he
  have i1 : upd H e (.lst []) e = some (.lst []) := upd_same
  generalize upd H e (.lst []) = H1 at s1 i1 htp hfl ⊢
  have s2 : Same H1 (upd H1 tp (.tup [.ref e, .bl false])) := Same.new htp
  have i2 : upd H1 tp (.tup [.ref e, .bl false]) tp = some (.tup [.ref e, .bl false]) := upd_same
  generalize upd H1 tp (.tup [.ref e, .bl false]) = H2 at s2 i2 hfl ⊢
  have s3 : Same H2 (upd H2 fl (.lst [.ref tp])) := Same.new hfl
  have i3 : upd H2 fl (.lst [.ref tp]) fl = some (.lst [.ref tp]) := upd_same
  generalize upd H2 fl (.lst [.ref tp]) = H3 at s3 i3 ⊢
  have s03 := (s1.tr s2).tr s3
  refine for_tp (K := K) (a := p) (xs := xs) (fun i σ H' => Same H H' ∧ ∃ fl ys u3 u4 u5 u6 u7, σ = [some (.ref p), some (.ref ea), some (.ref fl), u3, u4, u5, u6, u7, none, none] ∧ H fl = none ∧ H' fl = some (.lst ys) ∧ RepW K fa fb (Nn H) H' ((t.its.take i).foldl stp [([], false)]) ys) (ev_var rfl) (s03.seqT hp)
    (fun H4 s4 => ⟨s03.tr s4, fl, [.ref tp], none, none, none, none, none, rfl, none_of (s1.tr s2) hfl, s4 _ _ i3, tp, e, [], [], rfl, (s3.tr s4) _ _ i2, he, ((s2.tr s3).tr s4) _ _ i1, .nil, rfl⟩) (fun i σ H' _ k => k.1.seqT hp) ?_ ?_
  · rintro i v σ H4 hv ⟨s4, fl, ys, u3, u4, u5, u6, u7, rfl, hfl0, hfl4, hW⟩
    obtain ⟨dd, hdd, hvd⟩ := DqAll.at hx hv
    rw [toL_its, List.getElem?_map] at hdd
    obtain ⟨it, hit, rfl⟩ := Option.map_eq_some_iff.mp hdd
    obtain ⟨g1, g2, g3⟩ := its_sz t it (List.mem_of_getElem? hit)
    generalize hws : (t.its.take i).foldl stp [([], false)] = ws at hW
    have hnx : (t.its.take (i + 1)).foldl stp [([], false)] = ws.flatMap (it.stepW fin) := by
      rw [tk1 hit, List.foldl_append, hws]; rfl
    have hcnt : (ws.flatMap (it.stepW fin)).length ≤ 512 := by
      rw [← hnx]
      exact (take_ways fin t (i + 1) hif hsz).1
    have hmet : ∀ x ∈ ws, x.1.length ≤ 1000 := by
      rw [← hws]
      exact (take_ways fin t i hif hsz).2
    obtain ⟨wl, wat⟩ := RepW.at _ _ hW
    refine nm (set_lst (vs := []) ev_nil (fun H5 la s5 hla hl => ?_))
    have hla0 : H la = none := none_of s4 hla
    have hlf : la ≠ fl := fun z => by rw [z, hfl4] at hla; cases hla
    have hv5 := (hvd.up s4.tl).up s5.tl
    have hfl5 : H5 fl = some (.lst ys) := s5 _ _ hfl4
    refine nx_for (for_lst (K := K) (a := fl) (xs := ys) (fun j σ H' => Same H H' ∧ SameX la H5 H' ∧ ∃ zs u5 u6 u7, σ = [some (.ref p), some (.ref ea), some (.ref fl), some v, some (.ref la), u5, u6, u7, none, none] ∧ H' la = some (.lst zs) ∧ RepW K fa fb (fun b => H b = none ∧ b ≠ la) H' ((ws.take j).flatMap (it.stepW fin)) zs)
      (ev_var rfl) (.inl (.inl hfl5)) (fun H6 s6 => ⟨(s4.tr s5).tr s6, s6.x, [], _, _, _, rfl, s6 _ _ hl, rfl⟩) (fun j σ H' _ k => .inl (.inl (k.2.1 _ _ (Ne.symm hlf) hfl5))) ?_ ?_)
    · rintro k y σ H6 hy ⟨s6, sx6, zs, u5, u6, u7, rfl, hl6, hW6⟩
      obtain ⟨x, wa, wb, ms, hxk, rfl, hwa, hwn, hwb, hwm⟩ := wat k y hy
      have hwa5 := s5 _ _ hwa
      have hwb5 := s5 _ _ hwb
      have hwal : wa ≠ la := fun z => by rw [z] at hwa; rw [hwa] at hla; cases hla
      have hwbl : wb ≠ la := fun z => by rw [z] at hwb; rw [hwb] at hla; cases hla
      have tl56 : TupLe H5 H6 := fun b us h => sx6 _ _ (fun z => by rw [z, hl] at h; cases h) h
      have hwa6 := sx6 _ _ hwal hwa5
      have hwb6 := sx6 _ _ hwbl hwb5
      have hwm6 := (hwm.up s5.tl).up tl56
      have hv6 := hv5.up tl56
      have hzl := (RepW.at _ _ hW6).1
      have hzl2 : zs.length ≤ 512 := by
        have := take_fm_le (it.stepW fin) ws k
        omega
      have hnk := take_fm (it.stepW fin) hxk
      obtain ⟨m, eb⟩ := x
      let S : L2.St := [some (.ref p), some (.ref ea), some (.ref fl), some v, some (.ref la), some (.ref wb), some (.bl eb), u7, none, none]
      refine ⟨wa, _, rfl, .inl (.inl hwa6), rfl, _, _, rfl, _, _, rfl, rfl, ?_⟩
      -- one more entry
      have one : ∀ (H7 : Hp) (q ob : Addr) (mm : List V) (r : Wy α β), Same H6 H7 → H7 q = some (.tup [.ref ob, .bl r.2]) → (H ob = none ∧ ob ≠ la) → H7 ob = some (.lst mm) → DqAll K H7 mm (r.1.map (It.toD fa fb)) → it.stepW fin (m, eb) = [r] →
          rAppend (.ref la) [.ref q] H7 (fun x H1 => Same H H1 ∧ SameX la H5 H1 ∧ ∃ zs u5 u6 u7, S = [some (.ref p), some (.ref ea), some (.ref fl), some v, some (.ref la), u5, u6, u7, none, none] ∧ H1 la = some (.lst zs) ∧ RepW K fa fb (fun b => H b = none ∧ b ≠ la) H1 ((ws.take (k + 1)).flatMap (it.stepW fin)) zs) := by
        intro H7 q ob mm r s7 hq hob hmm hmd er
        have hl7 := s7 _ _ hl6
        have tC : TupLe H7 (upd H7 la (.lst (zs ++ [.ref q]))) := TupLe.mut hl7 fun xs z => by cases z
        have hql : q ≠ la := fun z => by rw [z, hl7] at hq; cases hq
        refine ⟨la, zs, .ref q, rfl, rfl, hl7, by omega, (s6.tr s7).mut hla0, fun b o hb ho => by rw [upd_ne hb]; exact s7 _ _ (sx6 _ _ hb ho), _, _, _, _, rfl, upd_same, ?_⟩
        rw [hnk, er]
        refine RepW.app _ _ _ _ (RepW.up (fun _ h => h) (s7.tl.trans tC) (fun c vs h hc => by rw [upd_ne h.2]; exact s7 _ _ hc) _ _ hW6) ?_
        exact ⟨q, ob, mm, [], rfl, by rw [upd_ne hql]; exact hq, hob, by rw [upd_ne hob.2]; exact hmm, hmd.up tC, rfl⟩
      refine do_if (σ := S) (ev_tB (ev_var (i := 6) rfl)) (fun ge H7 s7 => ?_) (fun ge H7 s7 => ?_)
      · subst ge
        refine ⟨_, rfl, .inl ⟨rfl, ⟨_, .inl (.inl (s7 _ _ hl6))⟩⟩, cons_go (tup_go (cons_go (var_go rfl (cons_go (c_go (nil_go ⟨szL rfl, fun q hq => nil_go ?_⟩))))))⟩
        have s8 := s7.tr (Same.new (o := .tup [.ref wb, .bl true]) hq)
        exact one _ q wb ms (m, true) s8 upd_same ⟨hwn, hwbl⟩ (s8 _ _ hwb6) (hwm6.up s8.tl) (by cases it <;> rfl)
      · subst ge
        have hv7 := hv6.up s7.tl
        have hl7 := s7 _ _ hl6
        have hwb7 := s7 _ _ hwb6
        have hwm7 := hwm6.up s7.tl
        have hml := hmet _ (List.mem_of_getElem? hxk)
        cases it with
        | leaf x =>
          obtain ⟨z, r, ez, hz⟩ := hw x
          have hv7' : Dq K H7 v (.tuple (fa x)) := hv7
          obtain ⟨va, us, rfl, hva, hus⟩ := Dq.tuple hv7'
          rw [ez] at hus
          cases hus with
          | cons hz1 hz2 =>
          cases hz1
          have I0 : ∀ {H8}, Same H7 H8 → EvE (tOp (rIxT K) (tVar 3) (tC (.int 0))) S H8 (.str z) := fun s8 => ev_ixT (ev_var rfl) (fun _ _ => ev_C) (s8.seqT hva) (at0 _ _)
          refine do_if (σ := S) (b1 := decide (z = "if")) (eq_str (I0 (Same.rf _)) fun _ _ => ev_C) (fun g H8 s8 => absurd (of_decide_eq_true g) hz) (fun g H8 s8 => ?_)
          refine ⟨_, rfl, .inl ⟨rfl, ⟨_, .inl (.inl (s8 _ _ hl7))⟩⟩, cons_go (tup_go (cons_go (lst_go ⟨_, rfl, wb, ms, rfl, .inr (.inl (.inl (s8 _ _ hwb7))), cons_go (var_go rfl (nil_go ⟨?_, fun lp hlp => ?_⟩))⟩)))⟩
          · have h1 := hwm.len
            rw [List.length_map] at h1
            have h2 : m.length ≤ 1000 := hml
            simp
            omega
          · have s9 : Same H8 (upd H8 lp (.lst (ms ++ [.ref va]))) := Same.new hlp
            have i9 : upd H8 lp (.lst (ms ++ [.ref va])) lp = some (.lst (ms ++ [.ref va])) := upd_same
            have hll : lp ≠ la := fun e => by rw [e, s8 _ _ hl7] at hlp; cases hlp
            have hlpn : H lp = none := none_of ((s6.tr s7).tr s8) hlp
            generalize upd H8 lp (.lst (ms ++ [.ref va])) = H9 at s9 i9 ⊢
            have s79 := s8.tr s9
            refine cons_go (ev_in (I0 s79) (fun Ha sa Q k => ⟨_, rfl, k Ha ea (Same.rf _) (.inr (((s6.tr s7).tr s79).tr sa |>.seqT hea))⟩) _ fun Ha sa => nil_go ⟨szL rfl, fun q hq => nil_go ?_⟩)
            have sb := sa.tr (Same.new (o := .tup [.ref lp, .bl (decide (z ∈ ends))]) hq)
            refine one _ q lp _ (m ++ [.leaf x], decide (z ∈ ends)) (s7.tr (s79.tr sb)) upd_same ⟨hlpn, hll⟩ (sb _ _ i9) ?_ ?_
            · rw [List.map_append]
              exact ((hwm7.up (s79.tr sb).tl)).app (.cons (hv7.up (s79.tr sb).tl) .nil)
            · show (if false = true then [(m, true)] else [(m ++ [.leaf x], fin x)]) = _
              rw [if_neg (by decide), show fin x = decide (z ∈ ends) from by show finF fa ends x = _; unfold finF; rw [ez]]
        | ifi l ps a b =>
          have hv7' : Dq K H7 v (ifD l (ps.map fun p => .tuple (fb p)) (a.toL fa fb) (b.toL fa fb)) := hv7
          obtain ⟨va, us, rfl, hva, hus⟩ := Dq.tuple hv7'
          cases hus with
          | cons h1 hus => cases hus with
          | cons h2 hus => cases hus with
          | cons h3 hus => cases hus with
          | cons h4 hus => cases hus with
          | cons h5 hus =>
          cases hus
          cases h1
          obtain ⟨pa, xa, rfl, hpa, hxa⟩ := Dq.tuple h4
          obtain ⟨pb, xb, rfl, hpb, hxb⟩ := Dq.tuple h5
          have e1 : 1 + a.sz + b.sz ≤ t.sz := g1
          have e2 : max a.dep b.dep + 1 ≤ t.dep := g2
          have e3 : 1 + a.ifs + b.ifs ≤ t.ifs := g3
          refine do_if (σ := S) (b1 := decide (("if" : Str) = "if")) (eq_str (ev_ixT (ev_var (i := 3) rfl) (fun _ _ => ev_C) hva rfl) fun _ _ => ev_C) (fun g H8 s8 => ?_) (fun g H8 s8 => by simp at g)
          have hr8 := hv7.up s8.tl
          have eW : ∀ fin' : α → Bool, It.stepW fin' (.ifi l ps a b) (m, false) = (a.ways fin').map (fun z => (m ++ .ifi l ps a b :: z.1, z.2)) ++ (b.ways fin').map (fun z => (m ++ .ifi l ps a b :: z.1, z.2)) := fun fin' => by
            show (if false = true then [(m, true)] else (a.ways fin' ++ b.ways fin').map fun z => (m ++ .ifi l ps a b :: z.1, z.2)) = _
            rw [if_neg (by decide), List.map_append]
          have hwl2 : H wb = none := hwn
          have wlen : ∀ t2 : RT α β, t2.ifs ≤ 9 → (t2.ways fin).length ≤ 512 := fun t2 h => by
            have h1 := waysF_len fin t2 [([], false)]
            rw [List.length_singleton, Nat.one_mul] at h1
            exact Nat.le_trans h1 (Nat.le_trans (Nat.pow_le_pow_right (by decide) h) (by decide))
          have s68 := s7.tr s8
          refine for_dispX (K := K) (xs := [.ref pa, .ref pb]) (fun tq i σ H' => SameX la H8 H' ∧ H' tq = some (.tup [.ref pa, .ref pb]) ∧ ∃ new u7, σ = [some (.ref p), some (.ref ea), some (.ref fl), some (.ref va), some (.ref la), some (.ref wb), some (.bl false), u7, none, none] ∧ H' la = some (.lst (zs ++ new)) ∧
            RepW K fa fb (fun b => H b = none ∧ b ≠ la) H' ((([a, b] : List (RT α β)).take i).flatMap fun t2 => (t2.ways fin).map fun z => (m ++ .ifi l ps a b :: z.1, z.2)) new) (ev_cons (ev_ixT (ev_var rfl) (fun _ _ => ev_C) (s8.seqT hva) rfl) fun H9 s9 => ev_cons (ev_ixT (ev_var rfl) (fun _ _ => ev_C) ((s8.tr s9).seqT hva) rfl) fun _ _ => ev_nil)
            (fun tq H9 Ha s9 hq sa ha => ⟨(s9.tr sa).x, ha, [], u7, rfl, by rw [List.append_nil]; exact (s9.tr sa) _ _ (s8 _ _ hl7), rfl⟩) (fun tq i σ H' k => .inl (.inl k.2.1)) ?_ ?_
          · rintro tq i x σ H9 hx ⟨sx9, htq, new, u7, rfl, hl9, hW9⟩
            have hnl := (RepW.at _ _ hW9).1
            have tl89 : TupLe H8 H9 := fun c us h => sx9 _ _ (fun z => by rw [z, s8 _ _ hl7] at h; cases h) h
            have key : ∀ (t2 : RT α β) (pp : Addr), ([a, b] : List (RT α β))[i]? = some t2 → ∀ H' nw, SameX la H9 H' → H' la = some (.lst ((zs ++ new) ++ nw)) → RepW K fa fb (fun b => H9 b = none) H' ((t2.ways fin).map fun z => (m ++ .ifi l ps a b :: z.1, z.2)) nw →
                SameX la H8 H' ∧ H' tq = some (.tup [.ref pa, .ref pb]) ∧ ∃ new u7, ([some (.ref p), some (.ref ea), some (.ref fl), some (.ref va), some (.ref la), some (.ref wb), some (.bl false), some (.ref pp), none, none] : L2.St) = [some (.ref p), some (.ref ea), some (.ref fl), some (.ref va), some (.ref la), some (.ref wb), some (.bl false), u7, none, none] ∧ H' la = some (.lst (zs ++ new)) ∧
                RepW K fa fb (fun b => H b = none ∧ b ≠ la) H' ((([a, b] : List (RT α β)).take (i + 1)).flatMap fun t2 => (t2.ways fin).map fun z => (m ++ .ifi l ps a b :: z.1, z.2)) new := by
              intro t2 pp ht2 H' nw sx' hl' hW'
              have tl' : TupLe H9 H' := fun c us h => sx' _ _ (fun z => by rw [z, hl9] at h; cases h) h
              refine ⟨sx9.tr sx', tl' _ _ htq, new ++ nw, _, rfl, by rw [hl', List.append_assoc], ?_⟩
              rw [take_fm _ ht2]
              refine RepW.app _ _ _ _ (RepW.up (fun _ h => h) tl' (fun c vs h hc => sx' _ _ h.2 hc) _ _ hW9) (RepW.up (fun c h => ⟨?_, fun e => by rw [e, hl9] at h; cases h⟩) (TupLe.refl _) (fun _ _ _ h => h) _ _ hW')
              cases e9 : H c with
              | none => rfl
              | some o =>
                by_cases hc : c = la
                · rw [hc, hla0] at e9; cases e9
                · have := sx9 c o hc (s8 _ _ (s7 _ _ (s6 _ _ e9)))
                  rw [h] at this; cases this
            have wlen2 : ∀ t2, ([a, b] : List (RT α β))[i]? = some t2 → (zs ++ new).length ≤ 1000000 := fun t2 ht2 => by
              have h1 := take_fm_le (fun t2 : RT α β => (t2.ways fin).map fun z => (m ++ It.ifi l ps a b :: z.1, z.2)) [a, b] i
              have h2 := wlen a (by omega)
              have h3 := wlen b (by omega)
              simp only [List.flatMap_cons, List.flatMap_nil, List.length_append, List.length_map, List.length_nil] at h1
              rw [List.length_append]
              omega
            have hwb9 := sx9 _ _ hwbl (s8 _ _ hwb7)
            have hwm9 := (hwm7.up s8.tl).up tl89
            have hv9 := hr8.up tl89
            have hl8 := s8 _ _ hl7
            have hea9 : SqT K H9 ea (ends.map V.str) := seqT_x sx9 hl8 ((s6.tr s68).seqT hea)
            have hpa9 : SqT K H9 pa xa := seqT_x sx9 hl8 (s8.seqT hpa)
            have hpb9 : SqT K H9 pb xb := seqT_x sx9 hl8 (s8.seqT hpb)
            match i, hx, key, wlen2 with
            | 0, hx, key, wlen2 =>
              cases hx
              exact nm (ext_go (it := .ifi l ps a b) (m := m) hwb9 hwm9 hml hv9 hpa9 ((hxa.up s8.tl).up tl89) (by omega) (by omega) (by omega) hea9 hl9 (wlen2 a rfl) (key a pa rfl))
            | 1, hx, key, wlen2 =>
              cases hx
              exact nm (ext_go (it := .ifi l ps a b) (m := m) hwb9 hwm9 hml hv9 hpb9 ((hxb.up s8.tl).up tl89) (by omega) (by omega) (by omega) hea9 hl9 (wlen2 b rfl) (key b pb rfl))
            | i + 2, hx, _, _ => cases hx
          · rintro tq σ H9 ⟨sx9, htq, new, u7, rfl, hl9, hW9⟩
            have hl8 := s8 _ _ hl7
            refine ⟨Same.ofX (s6.tr s68) hla0 sx9, (sx6.tr s68.x).tr sx9, zs ++ new, _, _, _, rfl, hl9, ?_⟩
            have e9 : (([a, b] : List (RT α β)).take ([V.ref pa, V.ref pb] : List V).length).flatMap (fun t2 => (t2.ways fin).map fun z => (m ++ It.ifi l ps a b :: z.1, z.2)) = It.stepW fin (.ifi l ps a b) (m, false) := by
              rw [eW]
              show (List.map _ _ ++ (List.map _ _ ++ [])) = _
              rw [List.append_nil]
            rw [e9] at hW9
            rw [hnk]
            exact RepW.app _ _ _ _ (RepW.up (fun _ h => h) (s68.tl.trans (fun c us h => sx9 _ _ (fun z => by rw [z, hl8] at h; cases h) h)) (fun c vs h hc => sx9 _ _ h.2 (s68 _ _ hc)) _ _ hW6) hW9
    · rintro σ H6 ⟨s6, sx6, zs, u5, u6, u7, rfl, hl6, hW6⟩
      rw [wl, List.take_length] at hW6
      refine ⟨_, rfl, s6, la, zs, _, _, _, _, _, rfl, hla0, hl6, ?_⟩
      rw [hnx]
      exact RepW.up (fun b h => h.1) (TupLe.refl _) (fun _ _ _ h => h) _ _ hW6
  · rintro σ H4 ⟨s4, fl, ys, u3, u4, u5, u6, u7, rfl, hfl0, hfl4, hW⟩
    rw [hxl, List.take_length] at hW
    exact ⟨_, rfl, h0 fl ys H4 s4 hfl0 hfl4 (by unfold RT.ways; rw [waysF_its]; exact hW)⟩
theorem ok_all_ways (T : Tx P w K mg) (hw : Wrd fa) : ∀ d, FnX P w K mg base CX0 (d + 1) "all_ways" ["rows", "ends"] [] (spWays K fa fb d)
  | 0 => T.d_all_ways.ok0 (k := 0) sc_all_ways (fun _ _ _ _ _ _ us hl => match us, hl with | [_, _], _ => rfl) (fun vs H Q E h => by obtain ⟨p, ea, xs, t, ends, rfl, _, _, h, _⟩ := h; omega) (fun f cdv A outer s H vs Q E hr h => by obtain ⟨p, ea, xs, t, ends, rfl, _, _, h, _⟩ := h; omega)
  | d + 1 => ok_ways T hw (ok_all_ways T hw d)
end
end K17


set_option Elab.async false
set_option linter.all false
set_option maxRecDepth 100000
set_option maxHeartbeats 4000000
namespace K17
open PySem PySem.Spec PyProof.Rows L2
section
variable {P : Program} {w : World} {K : PySem.W.Frag} {mg : Str → Option Value} {base : Heap}
abbrev cD (K : PySem.W.Frag) : Addr := He.ga K "IdCode"
def nlS : Str := Str.ofString "\n"
/-- a code's lines -/
def linesOf (z : Str) : List Str := if z = Str.ofString "" then [] else Txt.split z nlS
/-- a value in the place of a kind: flat, or a list -/
def KindV (H : Hp) (v : V) : Prop := flatV v = true ∨ ∃ p xs, v = .ref p ∧ H p = some (.lst xs)
def kindOk (ks : List Str) : V → Bool
  | .str z => decide (z ∈ ks)
  | _ => false
def ctF (part kind text : Str) (l t : Addr) : List (Str × V) := [("part", .str part), ("kind", .str kind), ("text", .str text), ("own_lines", .ref l), ("own_tables", .ref t)]
/-- CodeText.__init__, its instance of the class IdCode -/
def spCT (K : PySem.W.Frag) : Sp := fun vs H Q E => ∃ (x dx kp : Addr) (part text : Str) (kv : V) (ks : List Str) (most : Int), vs = [.ref x, .str part, kv, .ref kp, .str text, .int most] ∧ H x = some (.ins (cD K) dx []) ∧ SqT K H kp (ks.map V.str) ∧ KindV H kv ∧ text.length ≤ 100000 ∧
  (kindOk ks kv = false → ∀ d, H d = none → E (.ref (He.ga K "BadKind")) (some d) (upd H d (.xd [("kind", kv)]))) ∧
  (∀ k, kv = .str k → k ∈ ks → ((linesOf text).length : Int) > most → ∀ d H', H d = none → H' d = some (.xd [("most", .int most), ("many", .int ((linesOf text).length : Nat)), ("what", .str (Str.ofString "lines"))]) → (∀ b o, b ≠ x → H b = some o → H' b = some o) → E (.ref (He.ga K "TooMany")) (some d) H') ∧
  (∀ k, kv = .str k → k ∈ ks → ((linesOf text).length : Int) ≤ most → ∀ l t H', H l = none → H t = none → H' x = some (.ins (cD K) dx (ctF part k text l t)) → H' l = some (.lst ((linesOf text).map V.str)) → (∀ b o, b ≠ x → H b = some o → H' b = some o) → Q .non H')
theorem ok_ct (T : Tx P w K mg) {f : Addr} {fd : FuncData} (F : FunD K "__init__" "CodeText.__init__" (defArgs s_CodeText_init) (defBody s_CodeText_init) (defScope s_CodeText_init) [] [] f fd) : L2.Binds K fd ["self", "part", "kind", "kinds", "text", "most_lines"] [] ∧ FnOk P w K mg base (L2.CX P w) 3 f fd ["self", "part", "kind", "kinds", "text", "most_lines"] (spCT K) := by
  refine ⟨F.bindsN (fun _ _ _ _ _ _ us hl => match us, hl with | [_, _, _, _, _, _], _ => rfl), F.ok sc_CodeText_init (fun vs H Q E h => ?_) (fun cdv A outer s H vs Q E hr h => ⟨_, (by exact (pss_cons (ps_if (PW.pt (pw_or (pt_not (pt_val (pe_callB call_isi (by rfl) T.b_isinstance (by decide +kernel) (pa_cons (pv 2) (pa_cons (pe_bltn (v := .ty "str") (by rfl) T.b_str (by decide +kernel) rfl) pa_nil))))) (pw_or1 (pt_cmpR op_notIn_seq (pv 2) (pv 3) (by rfl))))) (pss_one (ps_raise rfl (takes_of rfl rfl rfl rfl) (pmk_err T.e_BadKind T.g_BadKind hr (pa_cons (pv 2) pa_nil)))) pss_nil)
      (pss_cons (ps_fld (pv 0) (pv 1) rfl)
      (pss_cons (ps_fld (pv 0) (pv 2) rfl)
      (pss_cons (ps_fld (pv 0) (pv 4) rfl)
      (pss_cons (ps_fld (pv 0) (pe_ifExp (pt_cmpR op_ne (pv 4) pe_str (nomark _)) (pe_split (pv 4) pe_str) (pe_lst pa_nil)) rfl)
      (pss_cons (ps_if (pt_cmpR op_gt (pe_callB call_len_seq (by rfl) T.b_len (by decide +kernel) (pa_cons (pe_fld (pv 0) rfl) pa_nil)) (pv 5) (nomark _)) (pss_one (ps_raise rfl (takes_of rfl rfl rfl rfl) (pmk_err T.e_TooMany T.g_TooMany hr (pa_cons pe_str (pa_cons (pe_callB call_len_seq (by rfl) T.b_len (by decide +kernel) (pa_cons (pe_fld (pv 0) rfl) pa_nil)) (pa_cons (pv 5) pa_nil)))))) pss_nil)
      (pss_one (ps_fld (pv 0) pe_dnewK rfl))))))))), ?_⟩)⟩
  · obtain ⟨x, dx, kp, part, text, kv, ks, most, rfl, _⟩ := h
    rfl
  obtain ⟨x, dx, kp, part, text, kv, ks, most, rfl, hx, hks, hkv, htl, h0, h1, h2⟩ := h
  have bad : kindOk ks kv = false → tMkErr (He.ga K "BadKind") ["kind"] (tCons (tVar 2) tNil) (start ["self", "part", "kind", "kinds", "text", "most_lines"] [.ref x, .str part, kv, .ref kp, .str text, .int most]) H (fun cls d H' => E cls d H') :=
    fun e => ⟨_, rfl, rfl, (fun z => absurd z (by simp)), fun _ d hd => h0 e d hd⟩
  obtain ⟨t, b1, ty, k1, hb⟩ : ∃ (t : Value) (b1 : Bool), TyX K H kv t ∧ PySem.W.kitOne K t (.type "str") = some b1 ∧ (if b1 = true then ∃ k, kv = .str k else kindOk ks kv = false) := by
    rcases hkv with hf | ⟨p, xs, rfl, hp⟩
    · cases kv with
      | int i => exact ⟨_, false, .base (.int i), kit_ty (by decide +kernel), rfl⟩
      | bl i => exact ⟨_, false, .base (.bl i), kit_ty (by decide +kernel), rfl⟩
      | str i => exact ⟨_, true, .base (.str i), kit_ty (by decide +kernel), ⟨i, rfl⟩⟩
      | non => exact ⟨_, false, .base .non, kit_ty (by decide +kernel), rfl⟩
      | byt _ => cases hf
      | flt _ => cases hf
      | ref _ => cases hf
      | ty _ => cases hf
    · exact ⟨_, false, .base (.lst hp), kit_ty (by decide +kernel), rfl⟩
  refine ⟨_, rfl, _, _, t, .type "str", b1, rfl, .ty _, ty, k1, _, rfl, ?_⟩
  cases b1 with
  | false => exact iteT (iteT (bad hb))
  | true =>
    obtain ⟨k, rfl⟩ := hb
    refine iteF ?_
    refine ⟨_, rfl, _, rfl, kp, _, rfl, .inr hks, rfl, flat_strs ks, _, rfl, ?_⟩
    rw [inV_str]
    refine iteB (fun g => bad (by simpa [kindOk] using g)) (fun g => ?_)
    have hk : k ∈ ks := by simpa using g
    refine ⟨_, rfl, _, rfl, x, cD K, dx, _, rfl, hx, T.cl_IdCode, T.na_IdCode_part, (by show 0 < 1000; decide), ?_⟩
    refine ⟨_, rfl, _, rfl, x, cD K, dx, _, rfl, upd_same, T.cl_IdCode, T.na_IdCode_kind, (by show 1 < 1000; decide), ?_⟩
    refine ⟨_, rfl, _, rfl, x, cD K, dx, _, rfl, upd_same, T.cl_IdCode, T.na_IdCode_text, (by show 2 < 1000; decide), ?_⟩
    rw [upd_upd, upd_upd]
    refine ⟨_, rfl, rfl, _, rfl, ?_⟩
    refine iteB (fun g1 => ?_) (fun g1 => ?_)
    · have e1 : linesOf text = Txt.split text nlS := by
        unfold linesOf
        rw [if_neg (fun z => by subst z; exact absurd g1 (by decide +kernel))]
      refine ⟨_, rfl, ⟨_, rfl⟩, text, nlS, rfl, rfl, by decide +kernel, (by have q9 : sizeLine = 16777216 := sizeLine_eq; omega), fun l hl => ?_⟩
      have hlx : l ≠ x := fun z => by subst z; rw [upd_same] at hl; cases hl
      have hl0 : H l = none := by rw [upd_ne hlx] at hl; exact hl
      refine ⟨_, rfl, x, cD K, dx, _, rfl, Same.new hl _ _ upd_same, T.cl_IdCode, T.na_IdCode_own_lines, (by show 3 < 1000; decide), ?_⟩
      refine ⟨_, rfl, x, cD K, dx, _, _, rfl, upd_same, T.cl_IdCode, T.na_IdCode_own_lines, rfl, l, (linesOf text).map V.str, rfl, .inl (SqL.of ?_), _, rfl, _, _, rfl, rfl, _, rfl, ?_⟩
      · (rw [upd_ne hlx, upd_same, e1]; try rfl)
      have hLl : ∀ o, upd (upd (upd H x o) l (.lst ((Txt.split text nlS).map V.str))) x (.ins (cD K) dx [("part", .str part), ("kind", .str k), ("text", .str text), ("own_lines", .ref l)]) l = some (.lst ((linesOf text).map V.str)) := fun o => by (rw [upd_ne hlx, upd_same, e1]; try rfl)
      have hSB : ∀ o, ∀ b u, b ≠ x → H b = some u → upd (upd (upd H x o) l (.lst ((Txt.split text nlS).map V.str))) x (.ins (cD K) dx [("part", .str part), ("kind", .str k), ("text", .str text), ("own_lines", .ref l)]) b = some u := fun o b u hbx hb => by rw [upd_ne hbx, upd_ne (ne_of_none hb hl0), upd_ne hbx]; exact hb
      rw [List.length_map]
      refine iteB (fun g2 => ?_) (fun g2 => ?_)
      · refine ⟨_, rfl, x, cD K, dx, _, _, rfl, upd_same, T.cl_IdCode, T.na_IdCode_own_lines, rfl, l, (linesOf text).map V.str, rfl, .inl (SqL.of ?_), _, rfl, rfl, (fun z => absurd z (by simp)), fun _ d hd => ?_⟩
        · (rw [upd_ne hlx, upd_same, e1]; try rfl)
        have hdx : d ≠ x := fun z => by subst z; rw [upd_same] at hd; cases hd
        have hd0 : H d = none := by
          cases q : H d with
          | none => rfl
          | some o => have q2 := hSB (.ins (cD K) dx [("part", .str part), ("kind", .str k), ("text", .str text)]) d o hdx q; exact absurd (hd.symm.trans q2) (by simp)
        exact h1 k rfl hk (of_decide_eq_true g2) d _ hd0 (by rw [upd_same]; show some (HO.xd [("most", .int most), ("many", .int (((linesOf text).map V.str).length : Nat)), ("what", .str (Str.ofString "lines"))]) = _; rw [List.length_map]) (fun b o hbx hb => by rw [upd_ne (ne_of_none hb hd0)]; exact hSB (.ins (cD K) dx [("part", .str part), ("kind", .str k), ("text", .str text)]) b o hbx hb)
      · refine fun t ht => ?_
        have htx : t ≠ x := fun z => by subst z; rw [upd_same] at ht; cases ht
        have ht0 : H t = none := by
          cases q : H t with
          | none => rfl
          | some o => have q2 := hSB (.ins (cD K) dx [("part", .str part), ("kind", .str k), ("text", .str text)]) t o htx q; exact absurd (ht.symm.trans q2) (by simp)
        have hlt : l ≠ t := fun z => by subst z; exact absurd (ht.symm.trans (hLl (.ins (cD K) dx [("part", .str part), ("kind", .str k), ("text", .str text)]))) (by simp)
        refine ⟨_, rfl, x, cD K, dx, _, rfl, Same.new ht _ _ upd_same, T.cl_IdCode, T.na_IdCode_own_tables, (by show 4 < 1000; decide), ?_⟩
        refine h2 k rfl hk (by have := of_decide_eq_false g2; omega) l t _ hl0 ht0 upd_same ?_ (fun b o hbx hb => ?_)
        · rw [upd_ne hlx, upd_ne hlt]; exact hLl (.ins (cD K) dx [("part", .str part), ("kind", .str k), ("text", .str text)])
        · rw [upd_ne hbx, upd_ne (ne_of_none hb ht0)]; exact hSB (.ins (cD K) dx [("part", .str part), ("kind", .str k), ("text", .str text)]) b o hbx hb
    · have e1 : linesOf text = [] := by
        unfold linesOf
        rw [if_pos (Classical.byContradiction fun z => by
          have q : (!decide (V.str text = V.str (Str.ofString ""))) = true := by rw [decide_eq_false (fun y => z (V.str.inj y))]; rfl
          rw [q] at g1
          cases g1)]
      refine ⟨(by show 0 ≤ sizeLine; decide), fun l hl => ?_⟩
      have hlx : l ≠ x := fun z => by subst z; rw [upd_same] at hl; cases hl
      have hl0 : H l = none := by rw [upd_ne hlx] at hl; exact hl
      refine ⟨_, rfl, x, cD K, dx, _, rfl, Same.new hl _ _ upd_same, T.cl_IdCode, T.na_IdCode_own_lines, (by show 3 < 1000; decide), ?_⟩
      refine ⟨_, rfl, x, cD K, dx, _, _, rfl, upd_same, T.cl_IdCode, T.na_IdCode_own_lines, rfl, l, (linesOf text).map V.str, rfl, .inl (SqL.of ?_), _, rfl, _, _, rfl, rfl, _, rfl, ?_⟩
      · (rw [upd_ne hlx, upd_same, e1]; try rfl)
      have hLl : ∀ o, upd (upd (upd H x o) l (.lst [])) x (.ins (cD K) dx [("part", .str part), ("kind", .str k), ("text", .str text), ("own_lines", .ref l)]) l = some (.lst ((linesOf text).map V.str)) := fun o => by (rw [upd_ne hlx, upd_same, e1]; try rfl)
      have hSB : ∀ o, ∀ b u, b ≠ x → H b = some u → upd (upd (upd H x o) l (.lst [])) x (.ins (cD K) dx [("part", .str part), ("kind", .str k), ("text", .str text), ("own_lines", .ref l)]) b = some u := fun o b u hbx hb => by rw [upd_ne hbx, upd_ne (ne_of_none hb hl0), upd_ne hbx]; exact hb
      rw [List.length_map]
      refine iteB (fun g2 => ?_) (fun g2 => ?_)
      · refine ⟨_, rfl, x, cD K, dx, _, _, rfl, upd_same, T.cl_IdCode, T.na_IdCode_own_lines, rfl, l, (linesOf text).map V.str, rfl, .inl (SqL.of ?_), _, rfl, rfl, (fun z => absurd z (by simp)), fun _ d hd => ?_⟩
        · (rw [upd_ne hlx, upd_same, e1]; try rfl)
        have hdx : d ≠ x := fun z => by subst z; rw [upd_same] at hd; cases hd
        have hd0 : H d = none := by
          cases q : H d with
          | none => rfl
          | some o => have q2 := hSB (.ins (cD K) dx [("part", .str part), ("kind", .str k), ("text", .str text)]) d o hdx q; exact absurd (hd.symm.trans q2) (by simp)
        exact h1 k rfl hk (of_decide_eq_true g2) d _ hd0 (by rw [upd_same]; show some (HO.xd [("most", .int most), ("many", .int (((linesOf text).map V.str).length : Nat)), ("what", .str (Str.ofString "lines"))]) = _; rw [List.length_map]) (fun b o hbx hb => by rw [upd_ne (ne_of_none hb hd0)]; exact hSB (.ins (cD K) dx [("part", .str part), ("kind", .str k), ("text", .str text)]) b o hbx hb)
      · refine fun t ht => ?_
        have htx : t ≠ x := fun z => by subst z; rw [upd_same] at ht; cases ht
        have ht0 : H t = none := by
          cases q : H t with
          | none => rfl
          | some o => have q2 := hSB (.ins (cD K) dx [("part", .str part), ("kind", .str k), ("text", .str text)]) t o htx q; exact absurd (ht.symm.trans q2) (by simp)
        have hlt : l ≠ t := fun z => by subst z; exact absurd (ht.symm.trans (hLl (.ins (cD K) dx [("part", .str part), ("kind", .str k), ("text", .str text)]))) (by simp)
        refine ⟨_, rfl, x, cD K, dx, _, rfl, Same.new ht _ _ upd_same, T.cl_IdCode, T.na_IdCode_own_tables, (by show 4 < 1000; decide), ?_⟩
        refine h2 k rfl hk (by have := of_decide_eq_false g2; omega) l t _ hl0 ht0 upd_same ?_ (fun b o hbx hb => ?_)
        · rw [upd_ne hlx, upd_ne hlt]; exact hLl (.ins (cD K) dx [("part", .str part), ("kind", .str k), ("text", .str text)])
        · rw [upd_ne hbx, upd_ne (ne_of_none hb ht0)]; exact hSB (.ins (cD K) dx [("part", .str part), ("kind", .str k), ("text", .str text)]) b o hbx hb
end
end K17


set_option Elab.async false
set_option linter.all false
set_option maxRecDepth 100000
set_option maxHeartbeats 4000000
/-! comprehensions over lists and tuples that give data; in-place times -/
namespace L2
open PySem PySem.Spec PyProof.Rows
/-- found *= 2 -/
theorem ip_mul2 {X : Cx} : PIp X .Mult (fun x y H Q => ∃ i, x = .int i ∧ y = .int 2 ∧ Q (.int (i * 2)) H) := by
  intro pins s σ H x y v u Q I r1 r2 h
  obtain ⟨i, e1, e2, q⟩ := h
  subst e1; subst e2
  obtain ⟨t, rfl⟩ := r1
  obtain ⟨t', rfl⟩ := r2
  exact imul_int ⟨.int _, H, I.tok _, ⟨_, rfl⟩, q⟩ (IntMulOk.of_right (by decide))
/-- an expression that gives data -/
def EvD (K : PySem.W.Frag) (te : TE) (σ : St) (H : Hp) (d : PyData) : Prop := ∀ Q : VK, (∀ y H', Same H H' → Dq K H' y d → Q y H') → te σ H Q
theorem EvE.d {K : PySem.W.Frag} {te : TE} {σ : St} {H : Hp} {v : V} {d : PyData} (h : EvE te σ H v) (k : ∀ H', Same H H' → Dq K H' v d) : EvD K te σ H d := fun Q q => h Q fun H' s => q v H' s (k H' s)
section
variable {K : PySem.W.Frag} {tl te : TE} {g : TG} {tt : TT} {vs : List Nat} {σ : St} {H : Hp} {a : Addr} {xs : List V}
/-- what one entry does: left out, or told as data -/
def LcStep (K : PySem.W.Frag) (g : TG) (tt : TT) (te : TE) (vs : List Nat) (σ : St) (v : V) (H : Hp) (o : Option PyData) : Prop :=
  ∃ σ2, (∀ R : St → Hp → Prop, R σ2 H → g v (wipe σ vs) H R) ∧ wipe σ2 vs = wipe σ vs ∧ (match o with | none => EvT tt σ2 H false | some d => EvT tt σ2 H true ∧ ∀ H2, Same H H2 → EvD K te σ2 H2 d)
theorem fm_take {os : List (Option PyData)} {i : Nat} {o : Option PyData} (h : os[i]? = some o) : (os.take (i + 1)).filterMap id = (os.take i).filterMap id ++ (match o with | none => [] | some d => [d]) := by
  rw [tk1 h, List.filterMap_append]
  cases o <;> rfl
theorem lc_stepOk {D : Addr} {os : List (Option PyData)} {v : V} {o : Option PyData} {i : Nat} {H1 H2 : Hp} (hn : os.length ≤ 1000000) (ho : os[i]? = some o) (hD : H1 D = none) (s : Same H1 H2) (st : LcStep K g tt te vs σ v H2 o) {acc : List V} (hacc : H2 D = some (.lst acc)) (hd : DqAll K H2 acc ((os.take i).filterMap id)) :
    g v (wipe σ vs) H2 fun σ2 H2 => wipe σ2 vs = wipe σ vs ∧ tt σ2 H2 fun b H3 => if b = true then te σ2 H3 fun y H4 => ∃ acc, H4 D = some (.lst acc) ∧ acc.length < sizeLine ∧ (Same H1 (upd H4 D (.lst (acc ++ [y]))) ∧ ∃ ac, upd H4 D (.lst (acc ++ [y])) D = some (.lst ac) ∧ DqAll K (upd H4 D (.lst (acc ++ [y]))) ac ((os.take (i + 1)).filterMap id))
      else (Same H1 H3 ∧ ∃ ac, H3 D = some (.lst ac) ∧ DqAll K H3 ac ((os.take (i + 1)).filterMap id)) := by
  obtain ⟨σ2, h1, h2, h3⟩ := st
  have q9 : sizeLine = 16777216 := sizeLine_eq
  refine h1 _ ⟨h2, ?_⟩
  cases o with
  | none =>
    refine h3 _ fun H3 s3 => ?_
    rw [if_neg (by decide)]
    refine ⟨s.tr s3, acc, s3 _ _ hacc, ?_⟩
    rw [fm_take ho, List.append_nil]
    exact hd.up s3.tl
  | some d =>
    refine h3.1 _ fun H3 s3 => ?_
    rw [if_pos rfl]
    refine h3.2 H3 s3 _ fun y H4 s4 hy => ?_
    have s24 := s3.tr s4
    have hl : acc.length ≤ os.length := by
      rw [hd.len]
      exact Nat.le_trans (List.length_filterMap_le _ _) (by rw [List.length_take]; omega)
    have tC : TupLe H4 (upd H4 D (.lst (acc ++ [y]))) := TupLe.mut (s24 _ _ hacc) fun xs z => by cases z
    refine ⟨acc, s24 _ _ hacc, by omega, (s.tr s24).mut hD, _, upd_same, ?_⟩
    rw [fm_take ho]
    exact ((hd.up s24.tl).up tC).snoc (hy.up tC)
theorem lc_dq (os : List (Option PyData)) (he : EvE tl σ H (.ref a)) (hs : SqL K H a xs) (hl : os.length = xs.length) (hn : os.length ≤ 1000000)
    (step : ∀ (i : Nat) (v : V) (o : Option PyData) (H' : Hp), xs[i]? = some v → os[i]? = some o → Same H H' → LcStep K g tt te vs σ v H' o) {Q : VK} (k : ∀ q ys H', Same H H' → H q = none → H' q = some (.lst ys) → DqAll K H' ys (os.filterMap id) → Q (.ref q) H') : tLc (iList K tl) g tt te vs σ H Q :=
  he _ fun H1 s1 => ⟨a, rfl, ⟨xs, s1.sql hs⟩, fun D hD => by
    refine lc_list (xs := xs) (fun i H' => Same H1 H' ∧ ∃ ac, H' D = some (.lst ac) ∧ DqAll K H' ac ((os.take i).filterMap id)) ⟨Same.new hD, [], upd_same, .nil⟩ (fun i H' _ h => (s1.tr h.1).sql hs) ?_ (fun H2 h => ?_)
    · rintro i v H2 hv ⟨s2, acc, hacc, hd⟩
      have hi : i < os.length := by
        by_cases z : i < os.length
        · exact z
        · rw [List.getElem?_eq_none (by omega)] at hv; cases hv
      have ho : os[i]? = some os[i] := List.getElem?_eq_getElem hi
      exact lc_stepOk hn ho hD s2 (step i v _ H2 hv ho (s1.tr s2)) hacc hd
    · obtain ⟨s2, acc, hacc, hd⟩ := h
      rw [← hl, List.take_length] at hd
      exact k D acc H2 (s1.tr s2) (none_of s1 hD) hacc hd⟩
theorem lct_dq (os : List (Option PyData)) (he : EvE tl σ H (.ref a)) (hs : SqT K H a xs) (hl : os.length = xs.length) (hn : os.length ≤ 1000000)
    (step : ∀ (i : Nat) (v : V) (o : Option PyData) (H' : Hp), xs[i]? = some v → os[i]? = some o → Same H H' → LcStep K g tt te vs σ v H' o) {Q : VK} (k : ∀ q ys H', Same H H' → H q = none → H' q = some (.lst ys) → DqAll K H' ys (os.filterMap id) → Q (.ref q) H') : tLc (iTup K tl) g tt te vs σ H Q :=
  he _ fun H1 s1 => ⟨a, rfl, ⟨xs, s1.seqT hs⟩, fun D hD => by
    refine lc_tup (xs := xs) (fun i H' => Same H1 H' ∧ ∃ ac, H' D = some (.lst ac) ∧ DqAll K H' ac ((os.take i).filterMap id)) ⟨Same.new hD, [], upd_same, .nil⟩ (fun i H' _ h => (s1.tr h.1).seqT hs) ?_ (fun H2 h => ?_)
    · rintro i v H2 hv ⟨s2, acc, hacc, hd⟩
      have hi : i < os.length := by
        by_cases z : i < os.length
        · exact z
        · rw [List.getElem?_eq_none (by omega)] at hv; cases hv
      have ho : os[i]? = some os[i] := List.getElem?_eq_getElem hi
      exact lc_stepOk hn ho hD s2 (step i v _ H2 hv ho (s1.tr s2)) hacc hd
    · obtain ⟨s2, acc, hacc, hd⟩ := h
      rw [← hl, List.take_length] at hd
      exact k D acc H2 (s1.tr s2) (none_of s1 hD) hacc hd⟩
theorem lcr_dq {ta : TA} {lo hi : Int} (os : List (Option PyData)) (he : EvA ta σ H [.int lo, .int hi]) (hb : -(2 ^ 62) ≤ lo ∧ lo < 2 ^ 62 ∧ -(2 ^ 62) ≤ hi ∧ hi < 2 ^ 62) (hl : os.length = (hi - lo).toNat) (hn : os.length ≤ 1000000)
    (step : ∀ (i : Nat) (o : Option PyData) (H' : Hp), os[i]? = some o → Same H H' → LcStep K g tt te vs σ (.int (lo + i)) H' o) {Q : VK} (k : ∀ q ys H', Same H H' → H q = none → H' q = some (.lst ys) → DqAll K H' ys (os.filterMap id) → Q (.ref q) H') : tLc (iRng2 ta) g tt te vs σ H Q :=
  he _ fun H1 s1 => ⟨lo, hi, rfl, hb, fun D hD => by
    refine lc_range (fun i H' => Same H1 H' ∧ ∃ ac, H' D = some (.lst ac) ∧ DqAll K H' ac ((os.take i).filterMap id)) ⟨Same.new hD, [], upd_same, .nil⟩ ?_ (fun H2 h => ?_)
    · rintro i H2 hi ⟨s2, acc, hacc, hd⟩
      have ho : os[i]? = some os[i] := List.getElem?_eq_getElem (by omega)
      exact lc_stepOk hn ho hD s2 (step i _ H2 ho (s1.tr s2)) hacc hd
    · obtain ⟨s2, acc, hacc, hd⟩ := h
      rw [← hl, List.take_length] at hd
      exact k D acc H2 (s1.tr s2) (none_of s1 hD) hacc hd⟩
theorem lc_of (Good : Addr → List V → Hp → Prop) {Q : VK} (he : ∀ R : VK, (∀ pa xs H1, Good pa xs H1 → R (.ref pa) H1) → tl σ H R) (h : ∀ pa xs H1, Good pa xs H1 → tLc (iList K (tC (.ref pa))) g tt te vs σ H1 Q) : tLc (iList K tl) g tt te vs σ H Q := he _ fun pa xs H1 k => h pa xs H1 k
theorem lct_of (Good : Addr → List V → Hp → Prop) {Q : VK} (he : ∀ R : VK, (∀ pa xs H1, Good pa xs H1 → R (.ref pa) H1) → tl σ H R) (h : ∀ pa xs H1, Good pa xs H1 → tLc (iTup K (tC (.ref pa))) g tt te vs σ H1 Q) : tLc (iTup K tl) g tt te vs σ H Q := he _ fun pa xs H1 k => h pa xs H1 k
end
theorem ev_orV {a b : TE} {σ : L2.St} {H : Hp} {b1 b2 : Bool} (ha : EvE a σ H (.bl b1)) (hb : b1 = false → ∀ H1, Same H H1 → EvE b σ H1 (.bl b2)) : EvE (tOrV a b) σ H (.bl (b1 || b2)) := by
  intro Q k
  refine ha _ fun H1 s1 => ⟨b1, rfl, ?_⟩
  cases b1 with
  | true => exact iteT (k H1 s1)
  | false => exact iteF (hb rfl H1 s1 _ fun H2 s2 => k H2 (s1.tr s2))
theorem ev_chain {tb : TE} {σ : St} {H : Hp} {a n c : Int} (h : ∀ H1, Same H H1 → EvE tb σ H1 (.int n)) : EvE (tChain (rI0 fun i j => .bl (decide (i ≤ j))) (rI0 fun i j => .bl (decide (i ≤ j))) (tC (.int a)) tb (tC (.int c))) σ H (.bl (decide (a ≤ n) && decide (n ≤ c))) := fun Q k => h H (Same.rf H) _ fun H1 s1 => ⟨_, _, rfl, rfl, _, rfl, iteB (fun g => ⟨_, _, rfl, rfl, by rw [g, Bool.true_and] at k; exact k H1 s1⟩) fun g => by rw [g, Bool.false_and] at k; exact k H1 s1⟩
theorem ev_yes {σ : St} {H : Hp} : EvT tYes σ H true := fun R k => k H (Same.rf H)
theorem dq_bools {K : PySem.W.Frag} {H : Hp} : ∀ {vs : List V} {bs : List Bool}, DqAll K H vs (bs.map PyData.bool) → vs = bs.map V.bl
  | _, [], h => by cases h; rfl
  | _, b :: bs, h => by
    cases h with
    | cons h1 h2 => cases h1; rw [dq_bools h2]; rfl
theorem dq_ints {K : PySem.W.Frag} {H : Hp} : ∀ {vs : List V} {ns : List Int}, DqAll K H vs (ns.map PyData.int) → vs = ns.map V.int
  | _, [], h => by cases h; rfl
  | _, b :: bs, h => by
    cases h with
    | cons h1 h2 => cases h1; rw [dq_ints h2]; rfl
theorem fm_some {γ : Type} (f : γ → PyData) (l : List γ) : (l.map fun x => some (f x)).filterMap id = l.map f := by
  induction l with
  | nil => rfl
  | cons x r ih => rw [List.map_cons, List.filterMap_cons, ih]; rfl
end L2


set_option Elab.async false
set_option linter.all false
set_option maxRecDepth 100000
set_option maxHeartbeats 4000000
namespace L2
open PySem PySem.Spec PyProof.Rows
section
variable {K : PySem.W.Frag} {σ : St} {H : Hp} {tv : TE} {v : V} {ds : List PyData} {i : Nat}
theorem dq_at {d : PyData} (hd : Dq K H v (.tuple ds)) (hi : ds[i]? = some d) : ∃ va us u, v = .ref va ∧ SqT K H va us ∧ us[i]? = some u ∧ Dq K H u d := by
  obtain ⟨va, us, e, h1, h2⟩ := Dq.tuple hd
  obtain ⟨u, h3, h4⟩ := h2.get hi
  exact ⟨va, us, u, e, h1, h3, h4⟩
theorem ev_rowV {u : V} {d : PyData} (he : EvE tv σ H v) (hd : Dq K H v (.tuple ds)) (hi : ds[i]? = some d) (hu : ∀ {H u'}, Dq K H u' d → u' = u) : EvE (tOp (rIxT K) tv (tC (.int (i : Int)))) σ H u := by
  obtain ⟨va, us, u', e, h1, h3, h4⟩ := dq_at hd hi
  subst e
  rw [← hu h4]
  exact ev_ixT he (fun _ _ => ev_C) h1 (atI_nat h3)
theorem ev_rowS {z : Str} (i : Nat) (he : EvE tv σ H v) (hd : Dq K H v (.tuple ds)) (hi : ds[i]? = some (.str z)) : EvE (tOp (rIxT K) tv (tC (.int (i : Int)))) σ H (.str z) := ev_rowV he hd hi fun h => by cases h; rfl
theorem ev_rowI {z : Int} (i : Nat) (he : EvE tv σ H v) (hd : Dq K H v (.tuple ds)) (hi : ds[i]? = some (.int z)) : EvE (tOp (rIxT K) tv (tC (.int (i : Int)))) σ H (.int z) := ev_rowV he hd hi fun h => by cases h; rfl
theorem ev_rowD {d : PyData} (i : Nat) (he : EvE tv σ H v) (hd : Dq K H v (.tuple ds)) (hi : ds[i]? = some d) : EvD K (tOp (rIxT K) tv (tC (.int (i : Int)))) σ H d := by
  obtain ⟨va, us, u', e, h1, h3, h4⟩ := dq_at hd hi
  subst e
  exact (ev_ixT he (fun _ _ => ev_C) h1 (atI_nat h3)).d fun H' s => h4.up s.tl
theorem atI_m1 {α : Type} {us : List α} {u : α} (h : us.getLast? = some u) : atI us (-1) = some u := by
  obtain ⟨hne, rfl⟩ := List.getLast?_eq_some_iff.mp h
  exact K17.atI_last _ _
theorem ev_lastD {d : PyData} (he : EvE tv σ H v) (hd : Dq K H v (.tuple ds)) (hi : ds.getLast? = some d) : EvD K (tOp (rIxT K) tv (tUn (rU fun i => .int (-i)) (tC (.int 1)))) σ H d := by
  rw [List.getLast?_eq_getElem?] at hi
  obtain ⟨va, us, e, h1, h2⟩ := Dq.tuple hd
  obtain ⟨u, h3, h4⟩ := h2.get hi
  subst e
  rw [← h2.len, ← List.getLast?_eq_getElem?] at h3
  exact (ev_ixT he (fun _ _ => K17.ev_m1) h1 (atI_m1 h3)).d fun H' s => h4.up s.tl
end
end L2
namespace Idr
open PySem Rdr Tld
inductive En
  | quit
  | retire
  | accept
  | refuse
def En.z : En → Str
  | .quit => "quit"
  | .retire => "retire"
  | .accept => "accept"
  | .refuse => "refuse"
inductive IdRow
  | fin (e : En) (l : Nat)
  | set (l : Nat) (goal : Str) (told : List At) (deed : Option Str) (fac : Option Int)
  | stamp (l : Nat) (how : Str) (num : Int)
def oI : Option Int → PyData
  | none => .none
  | some i => .int i
def IdRow.ds : IdRow → List PyData
  | .fin e l => [.str e.z, .int (l : Nat)]
  | .set l g t d f => [.str "set", .int (l : Nat), .str g, .tuple (t.map atD), oD d, oI f]
  | .stamp l h n => [.str "stamp", .int (l : Nat), .str h, .int n]
def pds : Part → List PyData
  | .lent w => [.str "lent", .bool w]
  | .same a b w => [.str "same", .tuple [atD a], .tuple [atD b], .bool w]
  | .less a b s w => [.str "less", .tuple [atD a], .tuple [atD b], .bool s, .bool w]
theorem toD_pds (p : Part) : p.toD = .tuple (pds p) := by cases p <;> rfl
abbrev IT := It IdRow Part
abbrev TR := RT IdRow Part
def itDs : IT → List PyData
  | .leaf x => x.ds
  | .ifi l ps a b => [.str "if", .int (l : Nat), .tuple (ps.map fun p => .tuple (pds p)), .tuple (a.toL IdRow.ds pds), .tuple (b.toL IdRow.ds pds)]
theorem toD_it (it : IT) : it.toD IdRow.ds pds = .tuple (itDs it) := by cases it <;> rfl
def it0 : IT → Str
  | .leaf (.fin e _) => e.z
  | .leaf (.set ..) => "set"
  | .leaf (.stamp ..) => "stamp"
  | .ifi .. => "if"
theorem itDs_0 (it : IT) : (itDs it)[0]? = some (.str (it0 it)) := by
  cases it with
  | leaf x => cases x <;> rfl
  | ifi l ps a b => rfl
def itL : IT → Nat
  | .leaf (.fin _ l) => l
  | .leaf (.set l ..) => l
  | .leaf (.stamp l ..) => l
  | .ifi l .. => l
theorem itDs_1 (it : IT) : (itDs it)[1]? = some (.int (itL it : Nat)) := by
  cases it with
  | leaf x => cases x <;> rfl
  | ifi l ps a b => rfl
theorem wrd_id : K17.Wrd IdRow.ds := fun x => by
  cases x with
  | fin e l => exact ⟨e.z, _, rfl, by cases e <;> decide +kernel⟩
  | set => exact ⟨_, _, rfl, by decide +kernel⟩
  | stamp => exact ⟨_, _, rfl, by decide +kernel⟩
/-- the factor of a row: None, if it could have one and has none -/
def itF : IT → Option (Nat × Option Int)
  | .leaf (.set l _ _ _ f) => some (l, f)
  | .leaf (.stamp l h n) => if h = "rest" then some (l, some n) else none
  | _ => none
def facs (t : TR) : List (Nat × Int) := (t.all.filterMap itF).filterMap fun p => p.2.map fun f => (p.1, f)
def together (a b : Int) : Bool := decide (a % b = 0) || decide (b % a = 0)
def oddGo : List (Nat × Int) → List Int → List Nat
  | [], _ => []
  | (l, f) :: r, ahead => (if ahead.all (together f) then [] else [l]) ++ oddGo r (ahead ++ [f])
def odd (t : TR) : List Nat := oddGo (facs t) []
def nst (told : List At) : Bool := told.any fun a => decide (a.2 = some "stamp")
def partAsk : Part → Bool
  | .lent _ => true
  | .same a b _ => nst [a, b]
  | .less a b _ _ => nst [a, b]
def asks : IT → Bool
  | .leaf (.fin e _) => decide (e.z = "accept")
  | .leaf (.set _ _ t _ _) => nst t
  | .leaf (.stamp ..) => false
  | .ifi _ ps _ _ => ps.any partAsk
def lateGo : List IT → Bool → List Nat
  | [], _ => []
  | it :: r, b => (match it with
      | .leaf (.set l g _ _ _) => if b && decide (g ∈ (["page", "slot"] : List Str)) then [l] else []
      | _ => []) ++ lateGo r (b || asks it)
def sgn : IT → Option Nat
  | .leaf (.set l _ _ _ (some _)) => some l
  | _ => none
def stg : IT → Option Nat
  | .leaf (.stamp l _ _) => some l
  | _ => none
def wayWrong (kind : Str) (w : List IT) : List Nat := ((w.filterMap sgn).drop 5).take 1 ++ ((w.filterMap stg).drop 3).take 1 ++ (if kind = "look" then lateGo w false else [])
def ends3 : List Str := ["quit", "accept", "refuse"]
def wrongs (kind : Str) (t : TR) : List Nat := odd t ++ (t.ways (K17.finF IdRow.ds ends3)).flatMap fun w => wayWrong kind w.1
end Idr


set_option Elab.async false
set_option linter.all false
set_option maxRecDepth 100000
set_option maxHeartbeats 4000000
namespace K17
open PySem PySem.Spec PyProof.Rows L2 Rdr LmX LamX NdefX Idr Tld
section
variable {P : Program} {w : World} {K : PySem.W.Frag} {mg : Str → Option Value} {base : Heap}
/-- the rows of a code of an id -/
structure RowsAt (K : PySem.W.Frag) (H : Hp) (p : Addr) (xs : List V) (t : TR) : Prop where
  s : SqT K H p xs
  d : DqAll K H xs (t.toL IdRow.ds pds)
  dep : t.dep < 41
  sz : t.sz ≤ 1000
theorem RowsAt.up {H H' : Hp} {p : Addr} {xs : List V} {t : TR} (r : RowsAt K H p xs t) (s : Same H H') : RowsAt K H' p xs t := ⟨s.seqT r.s, r.d.up s.tl, r.dep, r.sz⟩
def facD (p : Nat × Int) : PyData := .tuple [.int (p.1 : Nat), .int p.2]
def preD (p : Nat × Option Int) : PyData := .tuple [.int (p.1 : Nat), oI p.2]
def spFac (K : PySem.W.Frag) : Sp := fun vs H Q _ => ∃ (p : Addr) (xs : List V) (t : TR), vs = [.ref p] ∧ RowsAt K H p xs t ∧ ∀ q ys H', Same H H' → H q = none → H' q = some (.lst ys) → DqAll K H' ys ((facs t).map facD) → Q (.ref q) H'
theorem dq_map {γ : Type} {f : γ → PyData} {H : Hp} {xs : List V} {l : List γ} (h : DqAll K H xs (l.map f)) : xs.length = l.length ∧ ∀ (i : Nat) (v : V), xs[i]? = some v → ∃ x, l[i]? = some x ∧ Dq K H v (f x) := by
  refine ⟨by have := h.len; rw [List.length_map] at this; exact this, fun i v hv => ?_⟩
  obtain ⟨d, h1, h2⟩ := h.at hv
  rw [List.getElem?_map] at h1
  obtain ⟨x, h3, rfl⟩ := Option.map_eq_some_iff.mp h1
  exact ⟨x, h3, h2⟩
theorem en_ne (e : En) : e.z ≠ "set" ∧ e.z ≠ "stamp" := by cases e <;> exact ⟨by decide +kernel, by decide +kernel⟩
theorem _root_.L2.EvT.eq {t : TT} {σ : L2.St} {H : Hp} {b c : Bool} (h : EvT t σ H b) (e : b = c) : EvT t σ H c := e ▸ h
theorem ok_factors_of (T : Tx P w K mg) : FnX P w K mg base CX0 43 "factors_of" ["rows"] [] (spFac K) := by
  have F_all_rows := ok_all_rows (base := base) (fb := pds) T wrd_id 41
  refine T.d_factors_of.ok0 sc_factors_of (fun _ _ _ _ _ _ us hl => match us, hl with | [_], _ => rfl) (fun vs H Q E h => ?_) (fun f cdv A outer s H vs Q E hr h => have hu := hu_of hr; ⟨_, (by exact (pss_cons (ps_setLc (i := 1) (own := [("row", 2)]) (g := (gName 2))  (by rfl) sc_factors_of.nd rfl rfl (sw_true rfl rfl rfl (by decide +kernel)) (pi_list (pe_callX F_all_rows (hr.mono (by first | decide | omega)) pass0 (pa_cons (pv 0) pa_nil))) (blkOk_by (own := [("row", 2)]) (N := ["rows", "found", "row", "line", "factor"]) (sc := defScope s_factors_of) (by decide +kernel)) (fun _ _ _ _ _ => (pg_name (i := 2) sc_factors_of.nd rfl (Or.inl rfl))) (fun _ _ _ _ _ => (pts_one (PW.pt (pw_or (pt_cmpR op_eq (pe_ix (ixT_at (K := K)) (pv 2) pe_int (fun _ _ => rfl)) pe_str (nomark _)) (pw_or1 (PW.pt (pw_and (pt_cmpR op_eq (pe_ix (ixT_at (K := K)) (pv 2) pe_int (fun _ _ => rfl)) pe_str (nomark _)) (pw_and1 (pt_cmpR op_eq (pe_ix (ixT_at (K := K)) (pv 2) pe_int (fun _ _ => rfl)) pe_str (nomark _)))))))))) (fun _ _ _ _ _ => (pe_tup (pa_cons (pe_ix (ixT_at (K := K)) (pv 2) pe_int (fun _ _ => rfl)) (pa_cons (pe_ix (ixT_at (K := K)) (pv 2) (pe_un un_neg pe_int) (fun _ _ => rfl)) pa_nil)))))
      (pss_one (ps_ret (pe_lc (own := [("line", 3), ("factor", 4)]) (g := (gTup K 2 (gCons (gName 3) (gCons (gName 4) gNil))))  (by rfl) sc_factors_of.nd (pi_list (pv 1)) (blkOk_by (own := [("line", 3), ("factor", 4)]) (N := ["rows", "found", "row", "line", "factor"]) (sc := defScope s_factors_of) (by decide +kernel)) (fun _ _ _ _ _ => (pg_tup rfl (pgs_cons (pg_name (i := 3) sc_factors_of.nd rfl (Or.inl rfl)) (pgs_cons (pg_name (i := 4) sc_factors_of.nd rfl (Or.inl rfl)) pgs_nil)))) (fun _ _ _ _ _ => (pts_one (pt_cmpR op_notN (pv 4) pe_non (nomark _)))) (fun _ _ _ _ _ => (pe_tup (pa_cons (pv 3) (pa_cons (pv 4) pa_nil))))))))), ?_⟩)
  · obtain ⟨p, xs, t, rfl, _⟩ := h
    rfl
  obtain ⟨p, xs, t, rfl, r, h0⟩ := h
  have hal : t.all.length ≤ 1000 := by rw [all_len]; exact r.sz
  refine set_te ?_
  refine lc_of (fun q ys H1 => Same H H1 ∧ H1 q = some (.lst ys) ∧ DqAll K H1 ys (t.all.map (It.toD IdRow.ds pds))) (fun R hR => call_go (cons_go (var_go rfl (nil_go ⟨p, xs, t, rfl, r.s, r.d, r.dep, r.sz, fun q ys H1 s1 _ hq hys => hR q ys H1 ⟨s1, hq, hys⟩⟩)))) ?_
  rintro q ys H1 ⟨s1, hq, hys⟩
  obtain ⟨hyl, hya⟩ := dq_map hys
  refine lc_dq (t.all.map fun it => (itF it).map preD) ev_C (.inl (.inl hq)) (by rw [List.length_map]; exact hyl.symm) (by rw [List.length_map]; omega) ?_ ?_
  · intro i v o H2 hv ho s2
    obtain ⟨it, hit, hvd⟩ := hya i v hv
    rw [List.getElem?_map, hit] at ho
    cases ho
    rw [toD_it] at hvd
    have hd := hvd.up s2.tl
    refine ⟨[some (.ref p), none, some v, none, none], fun R k => k, rfl, ?_⟩
    dsimp only
    have V2 : ∀ {H}, EvE (tVar 2) [some (.ref p), none, some v, none, none] H v := ev_var rfl
    have t0 : ∀ (z : Str) {H3 : Hp}, Same H2 H3 → EvT (tTest (tOp rEq (tOp (rIxT K) (tVar 2) (tC (.int 0))) (tC (.str z)))) [some (.ref p), none, some v, none, none] H3 (decide (it0 it = z)) := fun z H3 s3 => eq_str (ev_rowS 0 V2 (hd.up s3.tl) (itDs_0 it)) fun _ _ => ev_C
    have noS : it0 it ≠ "set" → it0 it ≠ "stamp" → EvT (tOr (tTest (tOp rEq (tOp (rIxT K) (tVar 2) (tC (.int 0))) (tC (.str "set")))) (tAnd (tTest (tOp rEq (tOp (rIxT K) (tVar 2) (tC (.int 0))) (tC (.str "stamp")))) (tTest (tOp rEq (tOp (rIxT K) (tVar 2) (tC (.int 2))) (tC (.str "rest")))))) [some (.ref p), none, some v, none, none] H2 false := fun g1 g2 =>
      (ev_or (t0 "set" (Same.rf _)) fun _ H3 s3 => ev_and (b2 := false) (t0 "stamp" s3) fun g => absurd (of_decide_eq_true g) g2).eq (by rw [decide_eq_false g1, Bool.and_false]; rfl)
    cases it with
    | leaf x =>
      cases x with
      | fin e l => exact noS (en_ne e).1 (en_ne e).2
      | set l gl tl dd ff =>
        refine ⟨(ev_or (b2 := true) (t0 "set" (Same.rf _)) fun g => absurd g (by rw [decide_eq_true (show it0 _ = ("set" : Str) from rfl)]; decide)).eq (by rw [decide_eq_true (show it0 _ = ("set" : Str) from rfl)]; rfl), fun H3 s3 Q hQ => ?_⟩
        refine tup_go (cons_go (ev_rowI 1 V2 (hd.up s3.tl) (itDs_1 _) _ fun H4 s4 => cons_go (ev_lastD (d := oI ff) V2 ((hd.up s3.tl).up s4.tl) rfl _ fun y H5 s5 hy => nil_go ⟨szL rfl, fun q hq => ?_⟩)))
        have s6 : Same H5 (upd H5 q (.tup [.int (l : Nat), y])) := Same.new hq
        exact hQ _ _ ((s4.tr s5).tr s6) (.tup (.inl upd_same) (.cons (.int _) (.cons (hy.up s6.tl) .nil)))
      | stamp l h n =>
        have hn : it0 (.leaf (.stamp l h n)) = ("stamp" : Str) := rfl
        have ht : EvT (tOr (tTest (tOp rEq (tOp (rIxT K) (tVar 2) (tC (.int 0))) (tC (.str "set")))) (tAnd (tTest (tOp rEq (tOp (rIxT K) (tVar 2) (tC (.int 0))) (tC (.str "stamp")))) (tTest (tOp rEq (tOp (rIxT K) (tVar 2) (tC (.int 2))) (tC (.str "rest")))))) [some (.ref p), none, some v, none, none] H2 (decide (h = "rest")) :=
          (ev_or (t0 "set" (Same.rf _)) fun _ H3 s3 => ev_and (t0 "stamp" s3) fun _ H4 s4 => eq_str (x := h) (ev_rowS 2 V2 ((hd.up s3.tl).up s4.tl) rfl) fun _ _ => ev_C).eq (by
            rw [decide_eq_true hn, Bool.true_and, decide_eq_false (show ¬ (it0 (.leaf (.stamp l h n)) = ("set" : Str)) by rw [hn]; decide +kernel)]; rfl)
        by_cases eh : h = "rest"
        · rw [decide_eq_true eh] at ht
          rw [show itF (.leaf (.stamp l h n)) = some (l, some n) from if_pos eh]
          refine ⟨ht, fun H3 s3 Q hQ => ?_⟩
          refine tup_go (cons_go (ev_rowI 1 V2 (hd.up s3.tl) (itDs_1 _) _ fun H4 s4 => cons_go (ev_lastD (d := .int n) V2 ((hd.up s3.tl).up s4.tl) rfl _ fun y H5 s5 hy => nil_go ⟨szL rfl, fun q hq => ?_⟩)))
          have s6 : Same H5 (upd H5 q (.tup [.int (l : Nat), y])) := Same.new hq
          exact hQ _ _ ((s4.tr s5).tr s6) (.tup (.inl upd_same) (.cons (.int _) (.cons (hy.up s6.tl) .nil)))
        · rw [decide_eq_false eh] at ht
          rw [show itF (.leaf (.stamp l h n)) = none from if_neg eh]
          exact ht
    | ifi l ps a b => exact noS (by show ¬ (("if" : Str) = "set"); decide +kernel) (by show ¬ (("if" : Str) = "stamp"); decide +kernel)
  · intro q2 y2 H2 s2 _ hq2 hy2
    have e1 : (t.all.map fun it => (itF it).map preD).filterMap id = (t.all.filterMap itF).map preD := by
      generalize t.all = l
      induction l with
      | nil => rfl
      | cons x r ih =>
        rw [List.map_cons, List.filterMap_cons, List.filterMap_cons, ih]
        cases itF x <;> rfl
    rw [e1] at hy2
    have hln : (t.all.filterMap itF).length ≤ 1000 := Nat.le_trans (List.length_filterMap_le _ _) hal
    have s02 := s1.tr s2
    unfold facs at h0
    generalize t.all.filterMap itF = pre at hy2 hln h0
    obtain ⟨hzl, hza⟩ := dq_map hy2
    refine lc_dq (pre.map fun p => p.2.map fun f => facD (p.1, f)) (ev_var rfl) (.inl (.inl hq2)) (by rw [List.length_map]; exact hzl.symm) (by rw [List.length_map]; omega) ?_ ?_
    · intro i v o H3 hv ho s3
      obtain ⟨pr, hit, hvd⟩ := hza i v hv
      rw [List.getElem?_map, hit] at ho
      cases ho
      have hd := hvd.up s3.tl
      obtain ⟨va, us, rfl, hva, hus⟩ := Dq.tuple (show Dq K H3 v (.tuple [.int (pr.1 : Nat), oI pr.2]) from hd)
      cases hus with
      | cons h1 hus => cases hus with
      | @cons v2 _ _ _ h2 hus =>
      cases hus
      cases h1
      refine ⟨[some (.ref p), some (.ref q2), none, some (.int (pr.1 : Nat)), some v2], fun R k => ⟨va, _, rfl, hva, rfl, _, _, rfl, _, _, rfl, rfl, k⟩, rfl, ?_⟩
      dsimp only
      have V4 : ∀ {H}, EvE (tVar 4) [some (.ref p), some (.ref q2), none, some (.int (pr.1 : Nat)), some v2] H v2 := ev_var rfl
      obtain ⟨l, f⟩ := pr
      cases f with
      | none =>
        cases h2
        exact ev_test (notNv V4 rfl)
      | some f =>
        cases h2
        refine ⟨ev_test (notNv V4 rfl), fun H4 s4 Q hQ => tup_go (cons_go (var_go rfl (cons_go (var_go rfl (nil_go ⟨szL rfl, fun q hq => ?_⟩)))))⟩
        exact hQ _ _ (Same.new hq) (.tup (.inl upd_same) (.cons (.int _) (.cons (.int _) .nil)))
    · intro q3 y3 H3 s3 hq30 hq3 hy3
      refine h0 q3 y3 H3 (s02.tr s3) (none_of s02 hq30) hq3 ?_
      have e2 : (pre.map fun p => p.2.map fun f => facD (p.1, f)).filterMap id = (pre.filterMap fun p => p.2.map fun f => (p.1, f)).map facD := by
        generalize pre = l
        induction l with
        | nil => rfl
        | cons x r ih =>
          rw [List.map_cons, List.filterMap_cons, List.filterMap_cons, ih]
          obtain ⟨l, f⟩ := x
          cases f <;> rfl
      rw [e2] at hy3
      exact hy3
end
end K17


set_option Elab.async false
set_option linter.all false
set_option maxRecDepth 100000
set_option maxHeartbeats 4000000
namespace K17
open PySem PySem.Spec PyProof.Rows L2 Rdr LmX LamX NdefX Idr Tld
section
variable {P : Program} {w : World} {K : PySem.W.Frag} {mg : Str → Option Value} {base : Heap}
def spTog : Sp := fun vs H Q _ => ∃ (a b : Int), vs = [.int a, .int b] ∧ 0 < a ∧ 0 < b ∧ ∀ H', Same H H' → Q (.bl (together a b)) H'
theorem ok_go_together (T : Tx P w K mg) : FnX P w K mg base CX0 1 "go_together" ["one", "other"] [] spTog := by
  refine T.d_go_together.ok0 sc_go_together (fun _ _ _ _ _ _ us hl => match us, hl with | [_, _], _ => rfl) (fun vs H Q E h => ?_) (fun f cdv A outer s H vs Q E hr h => have hu := hu_of hr; ⟨_, (by exact (pss_one (ps_ret (pe_or (pe_cmpR op_eq (pe_op op_mod (pv 0) (pv 1)) pe_int (nomark _)) (pe_one (pe_cmpR op_eq (pe_op op_mod (pv 1) (pv 0)) pe_int (nomark _))))))), ?_⟩)
  · obtain ⟨a, b, rfl, _⟩ := h
    rfl
  obtain ⟨a, b, rfl, ha, hb, h0⟩ := h
  have M : ∀ {H1 : Hp} {i j : Nat} {x y : Int}, (start ["one", "other"] [.int a, .int b])[i]? = some (some (.int x)) → (start ["one", "other"] [.int a, .int b])[j]? = some (some (.int y)) → 0 < y → EvE (tOp rEq (tOp (rI (fun x j => 0 < j) fun i j => .int (i % j)) (tVar i) (tVar j)) (tC (.int 0))) (start ["one", "other"] [.int a, .int b]) H1 (.bl (decide (x % y = 0))) := fun {H1 i j x y} h1 h2 h3 => by
    have := ev_eq (ev_op (r := rI (fun x j => 0 < j) fun i j => .int (i % j)) (v := .int (x % y)) (ev_var (H := H1) h1) (fun _ _ => ev_var h2) fun H2 _ Q q => ⟨x, y, rfl, rfl, h3, q⟩) (fun _ _ => ev_C (v := .int 0)) rfl
    rw [dcI] at this
    exact this
  exact ret_go (ev_orV (M (i := 0) (j := 1) rfl rfl hb) (fun _ H1 _ => M (i := 1) (j := 0) rfl rfl ha) _ fun H' s => h0 H' s)
def spOdd (K : PySem.W.Frag) : Sp := fun vs H Q _ => ∃ (p : Addr) (xs : List V) (t : TR), vs = [.ref p] ∧ RowsAt K H p xs t ∧ (∀ q ∈ facs t, 0 < q.2) ∧ ∀ q H', Same H H' → H q = none → H' q = some (.lst ((odd t).map fun l => V.int (l : Nat))) → Q (.ref q) H'
theorem ok_odd_factors (T : Tx P w K mg) : FnX P w K mg base CX0 44 "odd_factors" ["rows"] [] (spOdd K) := by
  have F_factors_of := ok_factors_of (base := base) T
  have F_go_together := ok_go_together (base := base) T
  refine T.d_odd_factors.ok0 sc_odd_factors (fun _ _ _ _ _ _ us hl => match us, hl with | [_], _ => rfl) (fun vs H Q E h => ?_) (fun f cdv A outer s H vs Q E hr h => have hu := hu_of hr; ⟨_, (by exact (pss_cons (ps_par (i := 1) (j := 2) (by rfl) sc_odd_factors.nd rfl rfl (by decide) rfl rfl (pa_cons (pe_lst pa_nil) (pa_cons (pe_lst pa_nil) pa_nil)) (by rfl))
      (pss_cons (ps_for PassesOwn.never rfl (pi_list (pe_callX F_factors_of (hr.mono (by first | decide | omega)) pass0 (pa_cons (pv 0) pa_nil))) (pg_tup rfl (pgs_cons (pg_name (i := 3) sc_odd_factors.nd rfl (Or.inl rfl)) (pgs_cons (pg_name (i := 4) sc_odd_factors.nd rfl (Or.inr rfl)) pgs_nil)))
        (pss_cons (ps_if (pt_not (pt_val (pe_callB (cr_all rfl) (by rfl) T.b_all (by decide +kernel) (pa_cons (pe_lc (own := [("other", 5)]) (g := (gName 5)) (tt := tYes) (by rfl) sc_odd_factors.nd (pi_list (pv 2)) (blkOk_by (own := [("other", 5)]) (N := ["rows", "found", "ahead", "line", "factor", "other"]) (sc := defScope s_odd_factors) (by decide +kernel)) (fun _ _ _ _ _ => (pg_name (i := 5) sc_odd_factors.nd rfl (Or.inl rfl))) (fun _ _ _ _ _ => pts_nil) (fun _ _ _ _ _ => (pe_callX F_go_together (hr.mono (by first | decide | omega)) pass0 (pa_cons (pv 4) (pa_cons (pv 5) pa_nil))))) pa_nil)))) (pss_one (ps_expr (pe_bm PySem.F.plainAttrs_list PySem.F.slot_list_append PySem.F.type_list_append mt_append (pv 1) (pa_cons (pv 3) pa_nil)))) pss_nil)
      (pss_one (ps_expr (pe_bm PySem.F.plainAttrs_list PySem.F.slot_list_append PySem.F.type_list_append mt_append (pv 2) (pa_cons (pv 4) pa_nil))))))
      (pss_one (ps_ret (pv 1)))))), ?_⟩)
  · obtain ⟨p, xs, t, rfl, _⟩ := h
    rfl
  obtain ⟨p, xs, t, rfl, r, hpos, h0⟩ := h
  have q9 : sizeLine = 16777216 := sizeLine_eq
  refine par_go (cons_go (lst_go (nil_go ⟨szL rfl, fun f1 hf1 => cons_go (lst_go (nil_go ⟨szL rfl, fun f2 hf2 => nil_go ⟨_, _, rfl, ?_⟩⟩))⟩)))
  have s1 : Same H (upd H f1 (.lst [])) := Same.new hf1
  have i1 : upd H f1 (.lst []) f1 = some (.lst []) := upd_same
  generalize upd H f1 (.lst []) = H1 at s1 i1 hf2 ⊢
  have s2 : Same H1 (upd H1 f2 (.lst [])) := Same.new hf2
  have i2 : upd H1 f2 (.lst []) f2 = some (.lst []) := upd_same
  have ne12 : f1 ≠ f2 := fun e => by rw [← e, i1] at hf2; cases hf2
  have hf20 : H f2 = none := none_of s1 hf2
  generalize upd H1 f2 (.lst []) = H2 at s2 i2 ⊢
  have s02 := s1.tr s2
  have hfl : (facs t).length ≤ 1000 := by
    unfold facs
    have h1 : t.all.length ≤ 1000 := by rw [all_len]; exact r.sz
    exact Nat.le_trans (List.length_filterMap_le _ _) (Nat.le_trans (List.length_filterMap_le _ _) h1)
  refine for_te2 (K := K) (fun q ys H3 => Same H2 H3 ∧ H3 q = some (.lst ys) ∧ DqAll K H3 ys ((facs t).map facD) ∧ H2 q = none)
    (fun q ys H3 i σ H' => Same H H' ∧ H' q = some (.lst ys) ∧ TupLe H3 H' ∧ ∃ (fo : List Nat) (ah : List Int) (u3 u4 : Option V), σ = [some (.ref p), some (.ref f1), some (.ref f2), u3, u4, none] ∧ H' f1 = some (.lst (fo.map fun l => V.int (l : Nat))) ∧ H' f2 = some (.lst (ah.map V.int)) ∧ fo.length ≤ i ∧ ah.length = i ∧ (∀ a ∈ ah, 0 < a) ∧ oddGo (facs t) [] = fo ++ oddGo ((facs t).drop i) ah)
    (fun R hR => call_go (cons_go (var_go rfl (nil_go ⟨p, xs, t, rfl, r.up s02, fun q ys H3 s3 hq0 hq hys => hR q ys H3 ⟨s3, hq, hys, hq0⟩⟩)))) (fun q ys H3 h => .inl (.inl h.2.1)) (fun q ys H3 ⟨s3, hq, hys, hq0⟩ => ⟨s02.tr s3, hq, TupLe.refl _, [], [], none, none, rfl, s3 _ _ (s2 _ _ i1), s3 _ _ i2, Nat.le_refl _, rfl, (fun a h => by cases h), rfl⟩) (fun q ys H3 i σ H' _ _ h => .inl (.inl h.2.1)) ?_ ?_
  · rintro q ys H3 ⟨s3, hq, hys, hq0⟩ i v σ H4 hv ⟨s4, hq4, tl4, fo, ah, u3, u4, rfl, hf1', hf2', hfo, hah, hpa, hgo⟩
    obtain ⟨hyl, hya⟩ := dq_map hys
    obtain ⟨⟨l, fc⟩, hlf, hd⟩ := hya i v hv
    have hil : i < (facs t).length := by
      by_cases z : i < (facs t).length
      · exact z
      · rw [List.getElem?_eq_none (by omega)] at hlf; cases hlf
    have hfp : 0 < fc := hpos _ (List.mem_of_getElem? hlf)
    obtain ⟨pa, ws, rfl, hpa2, hws⟩ := Dq.tuple (show Dq K H4 v (.tuple [.int (l : Nat), .int fc]) from hd.up tl4)
    cases hws with
    | cons h1 hws => cases hws with
    | cons h2 hws =>
    cases hws
    cases h1
    cases h2
    have hqf1 : q ≠ f1 := fun e => by rw [e, s2 _ _ i1] at hq0; cases hq0
    have hqf2 : q ≠ f2 := fun e => by rw [e, i2] at hq0; cases hq0
    let S : L2.St := [some (.ref p), some (.ref f1), some (.ref f2), some (.int (l : Nat)), some (.int fc), none]
    refine ⟨pa, _, rfl, hpa2, rfl, _, _, rfl, _, _, rfl, rfl, ?_⟩
    have hT : ∀ {H5}, Same H4 H5 → EvT (tNot (tB (tCB (rAll K) (tCons (tLc (iList K (tVar 2)) (gName 5) tYes (tCall spTog [] E0 (tCons (tVar 4) (tCons (tVar 5) tNil))) [5]) tNil)))) S H5 (!(ah.all (together fc))) := fun {H5} s5 => ev_not (ev_tB (fun Q k => cb_go (cons_go (lc_dq ((ah.map fun o => PyData.bool (together fc o)).map some) (ev_var rfl) (.inl (.inl (s5 _ _ hf2'))) (by simp) (by simp; omega) (fun j u o H6 hu ho s6 => by
        rw [List.getElem?_map] at hu
        obtain ⟨ob, hob, rfl⟩ := Option.map_eq_some_iff.mp hu
        rw [List.getElem?_map, List.getElem?_map, hob] at ho
        cases ho
        refine ⟨[some (.ref p), some (.ref f1), some (.ref f2), some (.int (l : Nat)), some (.int fc), some (.int ob)], fun R k => k, rfl, ev_yes, fun H7 s7 Q hQ => ?_⟩
        exact call_go (cons_go (var_go rfl (cons_go (var_go rfl (nil_go ⟨fc, ob, rfl, hfp, hpa _ (List.mem_of_getElem? hob), fun H' s => hQ _ _ s (.bl _)⟩))))))
      (fun q' y' H6 s6 _ hq' hy' => by
        have e := fm_some (fun o => PyData.bool (together fc o)) ah
        have hy2 : DqAll K H6 y' ((ah.map fun o => together fc o).map PyData.bool) := by
          rw [List.map_map] at hy' ⊢
          exact e ▸ hy'
        have ey := dq_bools hy2
        subst ey
        refine nil_go ⟨q', _, rfl, .inl (.inl hq'), ?_⟩
        rw [List.all_map]
        exact k H6 s6)))))
    have hdr := drop_at hlf
    rw [hdr] at hgo
    have hne : oddGo ((l, fc) :: (facs t).drop (i + 1)) ah = (if ah.all (together fc) then [] else [l]) ++ oddGo ((facs t).drop (i + 1)) (ah ++ [fc]) := rfl
    rw [hne, ← List.append_assoc] at hgo
    -- ahead.append(factor)
    have last : ∀ (H5 : Hp) (fo2 : List Nat), Same H H5 → H5 q = some (.lst ys) → TupLe H3 H5 → H5 f1 = some (.lst (fo2.map fun l => V.int (l : Nat))) → H5 f2 = some (.lst (ah.map V.int)) → fo2.length ≤ i + 1 → fo ++ (if ah.all (together fc) then [] else [l]) = fo2 →
        rAppend (.ref f2) [.int fc] H5 (fun x H' => Same H H' ∧ H' q = some (.lst ys) ∧ TupLe H3 H' ∧ ∃ (fo : List Nat) (ah : List Int) (u3 u4 : Option V), S = [some (.ref p), some (.ref f1), some (.ref f2), u3, u4, none] ∧ H' f1 = some (.lst (fo.map fun l => V.int (l : Nat))) ∧ H' f2 = some (.lst (ah.map V.int)) ∧ fo.length ≤ i + 1 ∧ ah.length = i + 1 ∧ (∀ a ∈ ah, 0 < a) ∧ oddGo (facs t) [] = fo ++ oddGo ((facs t).drop (i + 1)) ah) := by
      intro H5 fo2 s5 hq5 tl5 h15 h25 hl5 e5
      rw [e5] at hgo
      refine ⟨f2, _, _, rfl, rfl, h25, by simp; omega, s5.mut hf20, by rw [upd_ne hqf2]; exact hq5, tl5.trans (TupLe.mut h25 fun xs z => by cases z), fo2, ah ++ [fc], _, _, rfl, by rw [upd_ne ne12]; exact h15, by rw [upd_same, List.map_append]; rfl, hl5, by simp [hah], fun a h => ?_, hgo⟩
      rcases List.mem_append.mp h with h | h
      · exact hpa a h
      · rw [List.mem_singleton.mp h]; exact hfp
    refine seq_if (σ := S) (hT (Same.rf _)) (fun g H5 s5 => ?_) (fun g H5 s5 => ?_)
    · have g : ah.all (together fc) = false := by simpa using g
      refine ⟨_, rfl, .inl ⟨rfl, ⟨_, .inl (.inl (s5 _ _ hf1'))⟩⟩, cons_go (var_go rfl (nil_go ⟨f1, _, _, rfl, rfl, s5 _ _ hf1', by simp; omega, ?_⟩))⟩
      have tl : TupLe H5 (upd H5 f1 (.lst ((fo.map fun l => V.int (l : Nat)) ++ [.int (l : Nat)]))) := TupLe.mut (s5 _ _ hf1') fun xs z => by cases z
      have s6 : Same H (upd H5 f1 (.lst ((fo.map fun l => V.int (l : Nat)) ++ [.int (l : Nat)]))) := (s4.tr s5).mut hf1
      have hq6 : upd H5 f1 (.lst ((fo.map fun l => V.int (l : Nat)) ++ [.int (l : Nat)])) q = some (.lst ys) := by rw [upd_ne hqf1]; exact s5 _ _ hq4
      have h16 : upd H5 f1 (.lst ((fo.map fun l => V.int (l : Nat)) ++ [.int (l : Nat)])) f1 = some (.lst ((fo ++ [l]).map fun l => V.int (l : Nat))) := by rw [upd_same, List.map_append]; rfl
      have h26 : upd H5 f1 (.lst ((fo.map fun l => V.int (l : Nat)) ++ [.int (l : Nat)])) f2 = some (.lst (ah.map V.int)) := by rw [upd_ne (Ne.symm ne12)]; exact s5 _ _ hf2'
      generalize upd H5 f1 (.lst ((fo.map fun l => V.int (l : Nat)) ++ [.int (l : Nat)])) = H6 at tl s6 hq6 h16 h26 ⊢
      refine ⟨_, rfl, .inl ⟨rfl, ⟨_, .inl (.inl h26)⟩⟩, cons_go (var_go rfl (nil_go (last H6 (fo ++ [l]) s6 hq6 ((tl4.trans s5.tl).trans tl) h16 h26 (by simp; omega) ?_)))⟩
      rw [g]
      rfl
    · have g : ah.all (together fc) = true := by simpa using g
      refine ⟨_, rfl, .inl ⟨rfl, ⟨_, .inl (.inl (s5 _ _ hf2'))⟩⟩, cons_go (var_go rfl (nil_go (last H5 fo (s4.tr s5) (s5 _ _ hq4) (tl4.trans s5.tl) (s5 _ _ hf1') (s5 _ _ hf2') (by omega) ?_)))⟩
      rw [g]
      exact List.append_nil _
  · rintro q ys H3 σ H4 ⟨s3, hq, hys, hq0⟩ ⟨s4, hq4, tl4, fo, ah, u3, u4, rfl, hf1', hf2', hfo, hah, hpa, hgo⟩
    have hyl := hys.len
    rw [List.length_map] at hyl
    rw [hyl, List.drop_length, show oddGo [] ah = [] from rfl, List.append_nil] at hgo
    exact ⟨_, rfl, h0 f1 H4 s4 hf1 (by unfold odd; rw [hgo]; exact hf1')⟩
def spNst (K : PySem.W.Frag) : Sp := fun vs H Q _ => ∃ (v : V) (told : List At), vs = [v] ∧ Dq K H v (.tuple (told.map atD)) ∧ told.length ≤ 1000 ∧ ∀ H', Same H H' → Q (.bl (nst told)) H'
theorem ok_names_stamp (T : Tx P w K mg) : FnX P w K mg base CX0 1 "names_stamp" ["told"] [] (spNst K) := by
  refine T.d_names_stamp.ok0 sc_names_stamp (fun _ _ _ _ _ _ us hl => match us, hl with | [_], _ => rfl) (fun vs H Q E h => ?_) (fun f cdv A outer s H vs Q E hr h => have hu := hu_of hr; ⟨_, (by exact (pss_one (ps_ret (pe_callB (cr_any rfl) (by rfl) T.b_any (by decide +kernel) (pa_cons (pe_lc (own := [("factor", 1), ("name", 2)]) (g := (gTup K 2 (gCons (gName 1) (gCons (gName 2) gNil)))) (tt := tYes) (by rfl) sc_names_stamp.nd (pi_tup (pv 0)) (blkOk_by (own := [("factor", 1), ("name", 2)]) (N := ["told", "factor", "name"]) (sc := defScope s_names_stamp) (by decide +kernel)) (fun _ _ _ _ _ => (pg_tup rfl (pgs_cons (pg_name (i := 1) sc_names_stamp.nd rfl (Or.inl rfl)) (pgs_cons (pg_name (i := 2) sc_names_stamp.nd rfl (Or.inl rfl)) pgs_nil)))) (fun _ _ _ _ _ => pts_nil) (fun _ _ _ _ _ => (pe_cmpR op_eq (pv 2) pe_str (nomark _)))) pa_nil))))), ?_⟩)
  · obtain ⟨v, told, rfl, _⟩ := h
    rfl
  obtain ⟨v, told, rfl, hv, hl, h0⟩ := h
  obtain ⟨va, us, rfl, hva, hus⟩ := Dq.tuple hv
  obtain ⟨hul, hua⟩ := dq_map hus
  refine ret_go (cb_go (cons_go ?_))
  refine lct_dq ((told.map fun a : At => PyData.bool (decide (a.2 = some (Str.ofString "stamp")))).map some) (ev_var rfl) hva (by simp [hul]) (by simp; omega) ?_ ?_
  · intro i v o H2 hv2 ho s2
    obtain ⟨a, ha, hd⟩ := hua i v hv2
    rw [List.getElem?_map, List.getElem?_map, ha] at ho
    cases ho
    obtain ⟨n, z⟩ := a
    obtain ⟨pa, ws, rfl, hpa, hws⟩ := Dq.tuple (show Dq K H2 v (.tuple [.int n, oD z]) from hd.up s2.tl)
    cases hws with
    | cons h1 hws => cases hws with
    | @cons v2 _ _ _ h2 hws =>
    cases hws
    cases h1
    refine ⟨[some (.ref va), some (.int n), some v2], fun R k => ⟨pa, _, rfl, hpa, rfl, _, _, rfl, _, _, rfl, rfl, k⟩, rfl, ev_yes, fun H3 s3 => ?_⟩
    cases z with
    | none =>
      cases h2
      exact (ev_eq (ev_var rfl) (fun _ _ => ev_C (v := .str "stamp")) rfl).d fun H' s => by
        rw [show decide (V.non = V.str "stamp") = false from decide_eq_false fun z => by cases z]
        exact .bl _
    | some z =>
      cases h2
      exact (ev_eq (ev_var rfl) (fun _ _ => ev_C (v := .str "stamp")) rfl).d fun H' s => by
        rw [dcS, show decide (z = "stamp") = decide (some z = some ("stamp" : Str)) from decide_eq_decide.mpr ⟨fun h => by rw [h], fun h => Option.some.inj h⟩]
        exact .bl _
  · intro q ys H1 s1 _ hq hy
    rw [List.map_map] at hy
    have e := fm_some (fun a : At => PyData.bool (decide (a.2 = some (Str.ofString "stamp")))) told
    have hy2 : DqAll K H1 ys ((told.map fun a : At => decide (a.2 = some (Str.ofString "stamp"))).map PyData.bool) := by
      rw [List.map_map]
      exact e ▸ hy
    have ey := dq_bools hy2
    subst ey
    refine nil_go ⟨q, _, rfl, .inl (.inl hq), ?_⟩
    rw [List.any_map]
    exact h0 H1 s1
end
end K17


set_option Elab.async false
set_option linter.all false
set_option maxRecDepth 100000
set_option maxHeartbeats 4000000
namespace K17
open PySem PySem.Spec PyProof.Rows L2 Rdr LmX LamX NdefX Idr Tld
section
variable {P : Program} {w : World} {K : PySem.W.Frag} {mg : Str → Option Value} {base : Heap}
def okIt : IT → Prop
  | .leaf (.set _ _ t _ _) => t.length ≤ 1000
  | .ifi _ ps _ _ => ps.length ≤ 4
  | _ => True
def spAsk (K : PySem.W.Frag) : Sp := fun vs H Q _ => ∃ (v : V) (it : IT), vs = [v] ∧ Dq K H v (.tuple (itDs it)) ∧ okIt it ∧ ∀ H', Same H H' → Q (.bl (asks it)) H'
theorem ok_asks_place (T : Tx P w K mg) : FnX P w K mg base CX0 2 "asks_place" ["row"] [] (spAsk K) := by
  have F_names_stamp := ok_names_stamp (base := base) T
  refine T.d_asks_place.ok0 sc_asks_place (fun _ _ _ _ _ _ us hl => match us, hl with | [_], _ => rfl) (fun vs H Q E h => ?_) (fun f cdv A outer s H vs Q E hr h => have hu := hu_of hr; ⟨_, (by exact (pss_cons (ps_if (pt_cmpR op_eq (pe_ix ix_tup (pv 0) pe_int (fun _ _ => rfl)) pe_str (nomark _)) (pss_one (ps_ret (pe_callB (cr_any rfl) (by rfl) T.b_any (by decide +kernel) (pa_cons (pe_lc (own := [("part", 1)]) (g := (gName 1)) (tt := tYes) (by rfl) sc_asks_place.nd (pi_tup (pe_ix ix_tup (pv 0) pe_int (fun _ _ => rfl))) (blkOk_by (own := [("part", 1)]) (N := ["row", "part"]) (sc := defScope s_asks_place) (by decide +kernel)) (fun _ _ _ _ _ => (pg_name (i := 1) sc_asks_place.nd rfl (Or.inl rfl))) (fun _ _ _ _ _ => pts_nil) (fun _ _ _ _ _ => (pe_or (pe_cmpR op_eq (pe_ix (ixT_at (K := K)) (pv 1) pe_int (fun _ _ => rfl)) pe_str (nomark _)) (pe_one (pe_callX F_names_stamp (hr.mono (by first | decide | omega)) pass0 (pa_cons (pe_tup (paS_at (K := K) (pe_ix (ixT_at (K := K)) (pv 1) pe_int (fun _ _ => rfl)) (paS_at (K := K) (pe_ix (ixT_at (K := K)) (pv 1) pe_int (fun _ _ => rfl)) pa_nil))) pa_nil)))))) pa_nil)))) pss_nil)
      (pss_one (ps_ret (pe_or (pe_cmpR op_eq (pe_ix ix_tup (pv 0) pe_int (fun _ _ => rfl)) pe_str (nomark _)) (pe_one (pe_and (pe_cmpR op_eq (pe_ix ix_tup (pv 0) pe_int (fun _ _ => rfl)) pe_str (nomark _)) (pe_one (pe_callX F_names_stamp (hr.mono (by first | decide | omega)) pass0 (pa_cons (pe_ix ix_tup (pv 0) pe_int (fun _ _ => rfl)) pa_nil)))))))))), ?_⟩)
  · obtain ⟨v, it, rfl, _⟩ := h
    rfl
  obtain ⟨v, it, rfl, hv, hok, h0⟩ := h
  let S : L2.St := [some v, none]
  have V0 : ∀ {H}, EvE (tVar 0) S H v := ev_var rfl
  have t0 : ∀ (z : Str) {H3 : Hp}, Same H H3 → EvT (tTest (tOp rEq (tOp (rIxT K) (tVar 0) (tC (.int 0))) (tC (.str z)))) S H3 (decide (it0 it = z)) := fun z H3 s3 => eq_str (ev_rowS 0 V0 (hv.up s3.tl) (itDs_0 it)) fun _ _ => ev_C
  have e0 : ∀ (z : Str) {H3 : Hp}, Same H H3 → EvE (tOp rEq (tOp (rIxT K) (tVar 0) (tC (.int 0))) (tC (.str z))) S H3 (.bl (decide (it0 it = z))) := fun z H3 s3 => by
    have := ev_eq (ev_rowS 0 V0 (hv.up s3.tl) (itDs_0 it)) (fun _ _ => ev_C (v := .str z)) rfl
    rw [dcS] at this
    exact this
  refine seq_if (σ := S) (t0 "if" (Same.rf _)) (fun g H1 s1 => ?_) (fun g H1 s1 => ?_)
  · have g := of_decide_eq_true g
    cases it with
    | leaf x => obtain ⟨z, r, e, hz⟩ := wrd_id x; exact absurd (by cases x <;> simp [IdRow.ds, it0] at e g <;> (first | (rw [← e.1]; exact g) | exact (e.1 ▸ g))) hz
    | ifi l ps a b =>
      obtain ⟨va, us, u, rfl, hva, hu2, hd⟩ := dq_at (i := 2) hv rfl
      obtain ⟨pa, ws, rfl, hpa, hws⟩ := Dq.tuple hd
      obtain ⟨hwl, hwa⟩ := dq_map hws
      have hpl : ps.length ≤ 4 := hok
      refine ret_go (cb_go (cons_go ?_))
      refine lct_dq ((ps.map fun p => PyData.bool (partAsk p)).map some) (ev_ixT V0 (fun _ _ => ev_C) (s1.seqT hva) (atI_nat hu2)) (s1.seqT hpa) (by simp [hwl]) (by simp; omega) ?_ ?_
      · intro i v o H2 hv2 ho s2
        obtain ⟨p, hp, hd2⟩ := hwa i v hv2
        rw [List.getElem?_map, List.getElem?_map, hp] at ho
        cases ho
        have hd3 := hd2.up (s1.tr s2).tl
        refine ⟨[some (.ref va), some v], fun R k => k, rfl, ev_yes, fun H3 s3 => ?_⟩
        have hd4 := hd3.up s3.tl
        have V1 : ∀ {H}, EvE (tVar 1) [some (.ref va), some v] H v := ev_var rfl
        have nsc : ∀ (ta tb : List At) (ds : List PyData), Dq K H3 v (.tuple ds) → ds[1]? = some (.tuple (ta.map atD)) → ds[2]? = some (.tuple (tb.map atD)) → ta.length + tb.length ≤ 1000 → ∀ H4, Same H3 H4 →
            EvE (tCall (spNst K) [] E0 (tCons (tTup (StX.tStar K (tOp (rIxT K) (tVar 1) (tC (.int 1))) (StX.tStar K (tOp (rIxT K) (tVar 1) (tC (.int 2))) tNil))) tNil)) [some (.ref va), some v] H4 (.bl (nst (ta ++ tb))) := by
          intro ta tb ds hds g1 g2 hl H4 s4 Q k
          obtain ⟨vp, us1, u1, rfl, hvp, hu1, hd5⟩ := dq_at (i := 1) hds g1
          obtain ⟨vp2, us2, u2, e2, hvp2, hu2', hd6⟩ := dq_at (i := 2) hds g2
          cases e2
          obtain ⟨p1, x1, rfl, hp1, hx1⟩ := Dq.tuple hd5
          obtain ⟨p2, x2, rfl, hp2, hx2⟩ := Dq.tuple hd6
          have l1 := hx1.len
          have l2 := hx2.len
          rw [List.length_map] at l1 l2
          refine call_go (cons_go (tup_go ?_))
          refine ev_ixT (σ := [some (.ref va), some (.ref vp)]) (ev_var rfl) (fun _ _ => ev_C) (s4.seqT hvp) (atI_nat hu1) _ fun H5 s5 => ⟨p1, x1, rfl, .inl ((s4.tr s5).seqT hp1), ?_⟩
          refine ev_ixT (σ := [some (.ref va), some (.ref vp)]) (ev_var rfl) (fun _ _ => ev_C) ((s4.tr s5).seqT hvp2) (atI_nat hu2') _ fun H6 s6 => ⟨p2, x2, rfl, .inl (((s4.tr s5).tr s6).seqT hp2), ?_⟩
          have s36 := (s4.tr s5).tr s6
          refine nil_go ⟨by have q9 : sizeLine = 16777216 := sizeLine_eq; simp; omega, fun q hq => nil_go ⟨.ref q, ta ++ tb, rfl, .tup (.inl upd_same) ?_, by rw [List.length_append]; exact hl, fun H' s' => k H' (((s5.tr s6).tr (Same.new hq)).tr s')⟩⟩
          rw [List.map_append, List.append_nil]
          have tl := (Same.new (o := .tup (x1 ++ (x2 ++ []))) hq).tl
          rw [List.append_nil] at tl
          exact ((hx1.up s36.tl).up tl).app ((hx2.up s36.tl).up tl)
        have l0 : ∀ (z : Str) (r : List PyData), Dq K H3 v (.tuple (.str z :: r)) → EvE (tOp rEq (tOp (rIxT K) (tVar 1) (tC (.int 0))) (tC (.str "lent"))) [some (.ref va), some v] H3 (.bl (decide (z = "lent"))) := fun z r h => by
          have := ev_eq (ev_rowS 0 V1 h rfl) (fun _ _ => ev_C (v := .str "lent")) rfl
          rw [dcS] at this
          exact this
        cases p with
        | lent w => exact (ev_orV (b2 := true) (l0 "lent" _ hd4) (fun g => absurd g (by simp))).d fun _ _ => by rw [Bool.or_true]; exact .bl _
        | same a b w => exact (ev_orV (l0 "same" _ hd4) (fun _ H4 s4 => nsc [a] [b] _ hd4 rfl rfl (by show 2 ≤ 1000; decide) H4 s4)).d fun _ _ => by rw [decide_eq_false (by decide +kernel : ¬ (("same" : Str) = "lent"))]; exact .bl _
        | less a b s w => exact (ev_orV (l0 "less" _ hd4) (fun _ H4 s4 => nsc [a] [b] _ hd4 rfl rfl (by show 2 ≤ 1000; decide) H4 s4)).d fun _ _ => by rw [decide_eq_false (by decide +kernel : ¬ (("less" : Str) = "lent"))]; exact .bl _
      · intro q ys H2 s2 _ hq hy
        have e := fm_some (fun p => PyData.bool (partAsk p)) ps
        have hy2 : DqAll K H2 ys ((ps.map partAsk).map PyData.bool) := by
          rw [List.map_map] at hy ⊢
          exact e ▸ hy
        have ey := dq_bools hy2
        subst ey
        refine nil_go ⟨q, _, rfl, .inl (.inl hq), ?_⟩
        rw [List.any_map]
        exact h0 H2 (s1.tr s2)
  · have g := of_decide_eq_false g
    have fin : ∀ b, asks it = b → ∀ H', Same H1 H' → Q (.bl b) H' := fun b e H' s => by rw [← e]; exact h0 H' (s1.tr s)
    cases it with
    | ifi l ps a b => exact absurd rfl g
    | leaf x =>
      cases x with
      | fin e l => exact ret_go (ev_orV (e0 "accept" s1) (fun _ H2 s2 => ev_andV (b2 := false) (e0 "set" (s1.tr s2)) fun g2 => absurd (of_decide_eq_true g2) (en_ne e).1) _ (fin _ (by rw [Bool.and_false, Bool.or_false]; rfl)))
      | set l gl tl dd ff =>
        refine ret_go (ev_orV (e0 "accept" s1) (fun _ H2 s2 => ev_andV (b2 := nst tl) (e0 "set" (s1.tr s2)) fun _ H3 s3 Q k => ?_) _ (fin _ ?_))
        · obtain ⟨va, us, u, rfl, hva, hu2, hd⟩ := dq_at (i := 3) hv rfl
          have s13 := (s1.tr s2).tr s3
          exact call_go (cons_go (ev_ixT (σ := S) (ev_var rfl) (fun _ _ => ev_C) (s13.seqT hva) (atI_nat hu2) _ fun H4 s4 => nil_go ⟨u, tl, rfl, hd.up (s13.tr s4).tl, hok, fun H' s' => k H' (s4.tr s')⟩))
        · show nst tl = (decide (("set" : Str) = "accept") || decide (("set" : Str) = "set") && nst tl)
          rw [decide_eq_false (by decide +kernel : ¬ (("set" : Str) = "accept")), decide_eq_true (rfl : ("set" : Str) = "set")]
          rfl
      | stamp l h n => exact ret_go (ev_orV (e0 "accept" s1) (fun _ H2 s2 => ev_andV (b2 := false) (e0 "set" (s1.tr s2)) fun g2 => absurd (of_decide_eq_true g2) (by show ¬ (("stamp" : Str) = "set"); decide +kernel)) _ (fin _ (by
          rw [Bool.and_false, Bool.or_false, decide_eq_false (show ¬ (it0 (.leaf (.stamp l h n)) = ("accept" : Str)) by show ¬ (("stamp" : Str) = "accept"); decide +kernel)]
          rfl)))
def spLate (K : PySem.W.Frag) : Sp := fun vs H Q _ => ∃ (q : Addr) (ys : List V) (w : List IT), vs = [.ref q] ∧ H q = some (.lst ys) ∧ DqAll K H ys (w.map (It.toD IdRow.ds pds)) ∧ (∀ it ∈ w, okIt it) ∧ w.length ≤ 1000 ∧ ∀ f H', Same H H' → H f = none → H' f = some (.lst ((lateGo w false).map fun l => V.int (l : Nat))) → Q (.ref f) H'
def late1 (it : IT) (b : Bool) : List Nat := match it with
  | .leaf (.set l g _ _ _) => if b && decide (g ∈ (["page", "slot"] : List Str)) then [l] else []
  | _ => []
theorem ok_late_places (T : Tx P w K mg) : FnX P w K mg base CX0 3 "late_places" ["told"] [] (spLate K) := by
  have F_asks_place := ok_asks_place (base := base) T
  refine T.d_late_places.ok0 sc_late_places (fun _ _ _ _ _ _ us hl => match us, hl with | [_], _ => rfl) (fun vs H Q E h => ?_) (fun f cdv A outer s H vs Q E hr h => have hu := hu_of hr; ⟨_, (by exact (pss_cons (ps_par (i := 1) (j := 2) (by rfl) sc_late_places.nd rfl rfl (by decide) rfl rfl (pa_cons (pe_lst pa_nil) (pa_cons pe_bl pa_nil)) (by rfl))
      (pss_cons (ps_for PassesOwn.never rfl (pi_list (pv 0)) (pg_name (i := 3) sc_late_places.nd rfl (Or.inl rfl))
        (pss_cons (ps_if (PW.pt (pw_and (pt_val (pv 2)) (pw_and (pt_cmpR op_eq (pe_ix ix_tup (pv 3) pe_int (fun _ _ => rfl)) pe_str (nomark _)) (pw_and1 (pt_cmpR op_in_seq (pe_ix ix_tup (pv 3) pe_int (fun _ _ => rfl)) (pe_tup (pa_cons pe_str (pa_cons pe_str pa_nil))) (by rfl)))))) (pss_one (ps_expr (pe_bm PySem.F.plainAttrs_list PySem.F.slot_list_append PySem.F.type_list_append mt_append (pv 1) (pa_cons (pe_ix ix_tup (pv 3) pe_int (fun _ _ => rfl)) pa_nil)))) pss_nil)
      (pss_one (ps_set (i := 2) sc_late_places.nd rfl (Or.inl rfl) (pe_or (pv 2) (pe_one (pe_callX F_asks_place (hr.mono (by first | decide | omega)) pass0 (pa_cons (pv 3) pa_nil))))))))
      (pss_one (ps_ret (pv 1)))))), ?_⟩)
  · obtain ⟨q, ys, w, rfl, _⟩ := h
    rfl
  obtain ⟨q, ys, w, rfl, hq, hy, hok, hwl, h0⟩ := h
  have q9 : sizeLine = 16777216 := sizeLine_eq
  obtain ⟨hyl, hya⟩ := dq_map hy
  refine par_go (cons_go (lst_go (nil_go ⟨szL rfl, fun f1 hf1 => cons_go (c_go (nil_go ⟨_, _, rfl, ?_⟩))⟩)))
  have s1 : Same H (upd H f1 (.lst [])) := Same.new hf1
  have i1 : upd H f1 (.lst []) f1 = some (.lst []) := upd_same
  generalize upd H f1 (.lst []) = H1 at s1 i1 ⊢
  have hqf : q ≠ f1 := fun e => by rw [← e, hq] at hf1; cases hf1
  refine nx_for (for_lst (K := K) (a := q) (xs := ys) (fun i σ H' => Same H H' ∧ ∃ (fo : List Nat) (b : Bool) (u3 : Option V), σ = [some (.ref q), some (.ref f1), some (.bl b), u3] ∧ H' f1 = some (.lst (fo.map fun l => V.int (l : Nat))) ∧ fo.length ≤ i ∧ lateGo w false = fo ++ lateGo (w.drop i) b)
    (ev_var rfl) (.inl (.inl (s1 _ _ hq))) (fun H2 s2 => ⟨s1.tr s2, [], false, none, rfl, s2 _ _ i1, Nat.le_refl _, rfl⟩) (fun i σ H' _ h => .inl (.inl (h.1 _ _ hq))) ?_ ?_)
  · rintro i v σ H2 hv ⟨s2, fo, b, u3, rfl, hf2, hfo, hgo⟩
    obtain ⟨it, hit, hd⟩ := hya i v hv
    have hil : i < w.length := by
      by_cases z : i < w.length
      · exact z
      · rw [List.getElem?_eq_none (by omega)] at hit; cases hit
    rw [toD_it] at hd
    have hd2 := hd.up s2.tl
    have hoi := hok it (List.mem_of_getElem? hit)
    rw [drop_at hit, show lateGo (it :: w.drop (i + 1)) b = late1 it b ++ lateGo (w.drop (i + 1)) (b || asks it) from rfl, ← List.append_assoc] at hgo
    let S : L2.St := [some (.ref q), some (.ref f1), some (.bl b), some v]
    have V3 : ∀ {H}, EvE (tVar 3) S H v := ev_var rfl
    refine nm ?_
    -- is_asked = is_asked or asks_place(row)
    have last : ∀ (D : Ends) (H5 : Hp) (fo2 : List Nat), (∀ σ H', (Same H H' ∧ ∃ (fo : List Nat) (b : Bool) (u3 : Option V), σ = [some (.ref q), some (.ref f1), some (.bl b), u3] ∧ H' f1 = some (.lst (fo.map fun l => V.int (l : Nat))) ∧ fo.length ≤ i + 1 ∧ lateGo w false = fo ++ lateGo (w.drop (i + 1)) b) → D.nx σ H') →
        Same H H5 → H5 f1 = some (.lst (fo2.map fun l => V.int (l : Nat))) → fo2.length ≤ i + 1 → fo ++ late1 it b = fo2 → tAsg (tOrV (tVar 2) (tCall (spAsk K) [] E0 (tCons (tVar 3) tNil))) (gName 2) D S H5 := by
      intro D H5 fo2 hD s5 hf5 hl5 e5
      rw [e5] at hgo
      refine ev_orV (σ := S) (b1 := b) (b2 := asks it) (ev_var rfl) (fun _ H6 s6 Q k => call_go (cons_go (var_go rfl (nil_go ⟨v, it, rfl, hd.up (s5.tr s6).tl, hoi, fun H' s' => k H' s'⟩)))) _ fun H6 s6 => ?_
      exact hD _ _ ⟨s5.tr s6, fo2, _, _, rfl, s6 _ _ hf5, hl5, hgo⟩
    have e0 : ∀ (z : Str) {H3 : Hp}, Same H2 H3 → EvT (tTest (tOp rEq (tOp (rIxT K) (tVar 3) (tC (.int 0))) (tC (.str z)))) S H3 (decide (it0 it = z)) := fun z H3 s3 => eq_str (ev_rowS 0 V3 (hd2.up s3.tl) (itDs_0 it)) fun _ _ => ev_C
    have hT : EvT (tAnd (tB (tVar 2)) (tAnd (tTest (tOp rEq (tOp (rIxT K) (tVar 3) (tC (.int 0))) (tC (.str "set")))) (tTest (tOp (rIn K false) (tOp (rIxT K) (tVar 3) (tC (.int 2))) (tTup (tCons (tC (.str "page")) (tCons (tC (.str "slot")) tNil))))))) S H2 (!(late1 it b).isEmpty) := by
      cases it with
      | ifi l ps a c => exact (ev_and (b2 := false) (ev_tB (ev_var rfl)) fun _ H3 s3 => (ev_and (b2 := false) (e0 "set" s3) fun g => absurd (of_decide_eq_true g) (by show ¬ (("if" : Str) = "set"); decide +kernel)).eq (Bool.and_false _)).eq (by rw [Bool.and_false]; rfl)
      | leaf x =>
        cases x with
        | fin e l => exact (ev_and (b2 := false) (ev_tB (ev_var rfl)) fun _ H3 s3 => (ev_and (b2 := false) (e0 "set" s3) fun g => absurd (of_decide_eq_true g) (en_ne e).1).eq (Bool.and_false _)).eq (by rw [Bool.and_false]; rfl)
        | stamp l h n => exact (ev_and (b2 := false) (ev_tB (ev_var rfl)) fun _ H3 s3 => (ev_and (b2 := false) (e0 "set" s3) fun g => absurd (of_decide_eq_true g) (by show ¬ (("stamp" : Str) = "set"); decide +kernel)).eq (Bool.and_false _)).eq (by rw [Bool.and_false]; rfl)
        | set l gl tl dd ff =>
          refine (ev_and (ev_tB (ev_var rfl)) fun _ H3 s3 => ev_and (e0 "set" s3) fun _ H4 s4 => ev_test (ev_in (z := gl) (ns := ["page", "slot"]) (ev_rowS 2 V3 ((hd2.up s3.tl).up s4.tl) rfl) (in_tup (ns := ["page", "slot"]) fun _ => ev_cons ev_C fun _ _ => ev_cons ev_C fun _ _ => ev_nil))).eq ?_
          show (b && (decide (("set" : Str) = "set") && _)) = _
          rw [decide_eq_true (rfl : ("set" : Str) = "set"), Bool.true_and]
          show _ = !(if b && decide (gl ∈ (["page", "slot"] : List Str)) then [l] else []).isEmpty
          cases b && decide (gl ∈ (["page", "slot"] : List Str)) <;> rfl
    refine seq_if (σ := S) hT (fun g H3 s3 => ?_) (fun g H3 s3 => ?_)
    · have e1 : late1 it b = [itL it] := by
        cases it with
        | ifi l ps a c => cases g
        | leaf x =>
          cases x with
          | fin e l => cases g
          | stamp l h n => cases g
          | set l gl tl dd ff =>
            have g2 : (!(if b && decide (gl ∈ (["page", "slot"] : List Str)) then [l] else []).isEmpty) = true := g
            show (if b && decide (gl ∈ (["page", "slot"] : List Str)) then [l] else []) = [l]
            cases e9 : b && decide (gl ∈ (["page", "slot"] : List Str)) with
            | true => rfl
            | false => rw [e9] at g2; cases g2
      refine ⟨_, rfl, .inl ⟨rfl, ⟨_, .inl (.inl (s3 _ _ hf2))⟩⟩, cons_go (ev_rowI 1 V3 (hd2.up s3.tl) (itDs_1 it) _ fun H4 s4 => nil_go ⟨f1, _, _, rfl, rfl, (s3.tr s4) _ _ hf2, by simp; omega, ?_⟩)⟩
      exact last _ _ (fo ++ [itL it]) (fun _ _ h => h) ((s2.tr (s3.tr s4)).mut hf1) (by rw [upd_same, List.map_append]; rfl) (by simp; omega) (by rw [e1])
    · have e1 : late1 it b = [] := by
        have g2 : (late1 it b).isEmpty = true := by simpa using g
        exact List.isEmpty_iff.mp g2
      exact last _ _ fo (fun _ _ h => h) (s2.tr s3) (s3 _ _ hf2) (by omega) (by rw [e1, List.append_nil])
  · rintro σ H2 ⟨s2, fo, b, u3, rfl, hf2, hfo, hgo⟩
    rw [hyl, List.drop_length, show lateGo [] b = [] from rfl, List.append_nil] at hgo
    exact ⟨_, rfl, h0 f1 H2 s2 hf1 (by rw [hgo]; exact hf2)⟩
end
end K17


set_option Elab.async false
set_option linter.all false
set_option maxRecDepth 100000
set_option maxHeartbeats 4000000
namespace L2
open PySem PySem.Spec PyProof.Rows
theorem cut_one (xs : List V) (n : Nat) : cutV xs (some (n : Int)) (some ((n : Int) + 1)) = (xs.drop n).take 1 := by
  have h : HT.sIx xs.length 0 (some (n : Int)) = min n xs.length := HT.sIx_nat _ _ n
  have h2 : HT.sIx xs.length xs.length (some ((n : Int) + 1)) = min (n + 1) xs.length := HT.sIx_nat _ _ (n + 1)
  unfold cutV
  rw [h, h2]
  by_cases hn : n < xs.length
  · rw [Nat.min_eq_left (Nat.le_of_lt hn), Nat.min_eq_left hn, show n.succ - n = 1 by omega]
  · rw [Nat.min_eq_right (by omega), Nat.min_eq_right (by omega), List.drop_length, List.drop_eq_nil_of_le (by omega)]
    simp
/-- what an expression gives, its list -/
theorem dq_fm {γ : Type} {f : γ → Option Nat} {K : PySem.W.Frag} {H : Hp} {ys : List V} {w : List γ} (h : DqAll K H ys ((w.map fun it => (f it).map fun l => PyData.int (l : Nat)).filterMap id)) : ys = (w.filterMap f).map fun l => V.int (l : Nat) := by
  have e : (w.map fun it => (f it).map fun l => PyData.int (l : Nat)).filterMap id = ((w.filterMap f).map fun l : Nat => (l : Int)).map PyData.int := by
    clear h
    induction w with
    | nil => rfl
    | cons x r ih =>
      have ih' := ih
      rw [List.map_cons, List.filterMap_cons, List.filterMap_cons]
      cases f x with
      | none => exact ih'
      | some y => exact congrArg (PyData.int (y : Nat) :: ·) ih'
  rw [e] at h
  rw [dq_ints h, List.map_map]
  rfl
end L2
namespace K17
open PySem PySem.Spec PyProof.Rows L2 Rdr LmX LamX NdefX Idr Tld
theorem late_len (w : List IT) : ∀ b : Bool, (lateGo w b).length ≤ w.length := by
  induction w with
  | nil => intro b; exact Nat.le_refl _
  | cons x r ih =>
    intro b
    have h1 := ih (b || asks x)
    have h2 : (late1 x b).length ≤ 1 := by
      cases x with
      | ifi l ps a c => exact Nat.zero_le _
      | leaf x =>
        cases x with
        | fin e l => exact Nat.zero_le _
        | stamp l h n => exact Nat.zero_le _
        | set l g tl dd ff =>
          show (if b && decide (g ∈ (["page", "slot"] : List Str)) then [l] else []).length ≤ 1
          split <;> simp
    show (late1 x b ++ lateGo r (b || asks x)).length ≤ r.length + 1
    rw [List.length_append]
    omega
theorem wrong_len (kind : Str) (t : TR) (hsz : t.sz ≤ 1000) (hif : t.ifs ≤ 9) (i : Nat) : (odd t ++ ((t.ways (finF IdRow.ds ends3)).take i).flatMap fun w : Wy IdRow Part => wayWrong kind w.1).length ≤ 600000 := by
  have hcnt : (t.ways (K17.finF IdRow.ds ends3)).length ≤ 512 := by
    have h1 := waysF_len (K17.finF IdRow.ds ends3) t [([], false)]
    rw [List.length_singleton, Nat.one_mul] at h1
    exact Nat.le_trans h1 (Nat.le_trans (Nat.pow_le_pow_right (by decide) hif) (by decide))
  have hww : ∀ y ∈ t.ways (K17.finF IdRow.ds ends3), (wayWrong kind y.1).length ≤ 1002 := fun y hy => by
    have h1 := waysF_met (K17.finF IdRow.ds ends3) t [([], false)] 0 (fun x hx => by rw [List.mem_singleton] at hx; rw [hx]; exact Nat.le_refl _) y hy
    have h2 := late_len y.1 false
    have h3 := hsz
    unfold wayWrong
    rw [List.length_append, List.length_append, List.length_take, List.length_take]
    split
    · omega
    · simp only [List.length_nil]; omega
  have hodd : (odd t).length ≤ 1000 := by
    have h1 : ∀ (l : List (Nat × Int)) (ah : List Int), (oddGo l ah).length ≤ l.length := fun l => by
      induction l with
      | nil => intro ah; exact Nat.le_refl _
      | cons x r ih =>
        intro ah
        obtain ⟨a, b⟩ := x
        have := ih (ah ++ [b])
        show ((if ah.all (together b) then [] else [a]) ++ oddGo r (ah ++ [b])).length ≤ r.length + 1
        rw [List.length_append]
        split <;> simp <;> omega
    have h2 : (facs t).length ≤ 1000 := by
      unfold facs
      have h1 : t.all.length ≤ 1000 := by rw [all_len]; exact hsz
      exact Nat.le_trans (List.length_filterMap_le _ _) (Nat.le_trans (List.length_filterMap_le _ _) h1)
    exact Nat.le_trans (h1 _ _) h2
  have hsum : (((t.ways (K17.finF IdRow.ds ends3)).take i).flatMap fun w : Wy IdRow Part => wayWrong kind w.1).length ≤ 512 * 1002 := by
    have h1 := Rdr.fm_len (fun w : Wy IdRow Part => wayWrong kind w.1) 1002 ((t.ways (K17.finF IdRow.ds ends3)).take i) (fun y hy => hww y (List.mem_of_mem_take hy))
    have h2 : ((t.ways (K17.finF IdRow.ds ends3)).take i).length ≤ 512 := by rw [List.length_take]; omega
    exact Nat.le_trans h1 (Nat.mul_le_mul_right 1002 h2)
  rw [List.length_append]
  omega
theorem nx_if {c : TT} {a b : TS} {D : Ends} {z : L2.St} {H : Hp} {r : VK} {k l : L2.St → Hp → Prop} (h : tIfS c a b D z H) : Ends.nx { nx := tIfS c a b D, rt := r, bk := k, ct := l } z H := h
section
variable {P : Program} {w : World} {K : PySem.W.Frag} {mg : Str → Option Value} {base : Heap}
def spNeed (K : PySem.W.Frag) : Sp := fun vs H Q E => ∃ (kind : Str) (p : Addr) (xs : List V) (t : TR), vs = [.str kind, .ref p] ∧ RowsAt K H p xs t ∧ t.ifs ≤ 9 ∧ (∀ q ∈ facs t, 0 < q.2) ∧ (∀ it ∈ t.all, okIt it) ∧
  (wrongs kind t = [] → ∀ H', Same H H' → Q .non H') ∧ (∀ n ∈ wrongs kind t, (∀ j ∈ wrongs kind t, n ≤ j) → ∀ d H', Same H H' → H' d = some (.xd [("line", .int (n : Nat))]) → E (.ref (He.ga K "Refused")) (some d) H')
theorem ok_need (T : Tx P w K mg) : FnX P w K mg base (L2.CX P w) 45 "need_limits" ["kind", "rows"] [] (spNeed K) := by
  have F_odd_factors := ok_odd_factors (base := base) T
  have F_all_ways := ok_all_ways (base := base) (fb := pds) T wrd_id 41
  have F_late_places := ok_late_places (base := base) T
  refine DefX.okX T.d_need_limits sc_need_limits (fun _ _ _ _ _ _ us hl => match us, hl with | [_, _], _ => rfl) (fun vs H Q E h => ?_) (fun f cdv A outer s H vs Q E hr h => ⟨_, (by exact (pss_cons (ps_set (i := 2) sc_need_limits.nd rfl (Or.inl rfl) (pe_callX F_odd_factors (hr.mono (by first | decide | omega)) pass0 (pa_cons (pv 1) pa_nil)))
      (pss_cons (ps_for (passes_of rfl) rfl (pi_list (pe_callX F_all_ways (hr.mono (by first | decide | omega)) pass0 (pa_cons (pv 1) (pa_cons (pe_gref T.g_ENDINGS_idlimits) pa_nil)))) (pg_tup rfl (pgs_cons (pg_name (i := 3) sc_need_limits.nd rfl (Or.inl rfl)) (pgs_cons (pg_name (i := 4) sc_need_limits.nd rfl (Or.inl rfl)) pgs_nil)))
        (pss_cons (ps_setLc (i := 5) (own := [("row", 6)]) (g := (gName 6))  (by rfl) sc_need_limits.nd rfl rfl (sw_true rfl rfl rfl (by decide +kernel)) (pi_list (pv 3)) (blkOk_by (own := [("row", 6)]) (N := ["kind", "rows", "wrong", "told", "has_ended", "signs", "row", "settings", "line"]) (sc := defScope s_need_limits) (by decide +kernel)) (fun _ _ _ _ _ => (pg_name (i := 6) sc_need_limits.nd rfl (Or.inl rfl))) (fun _ _ _ _ _ => (pts_one (PW.pt (pw_and (pt_cmpR op_eq (pe_ix (ixT_at (K := K)) (pv 6) pe_int (fun _ _ => rfl)) pe_str (nomark _)) (pw_and1 (pt_cmpR op_notN (pe_ix (ixT_at (K := K)) (pv 6) pe_int (fun _ _ => rfl)) pe_non (nomark _))))))) (fun _ _ _ _ _ => (pe_ix (ixT_at (K := K)) (pv 6) pe_int (fun _ _ => rfl))))
      (pss_cons (ps_setLc (i := 7) (own := [("row", 6)]) (g := (gName 6))  (by rfl) sc_need_limits.nd rfl rfl (sw_true rfl rfl rfl (by decide +kernel)) (pi_list (pv 3)) (blkOk_by (own := [("row", 6)]) (N := ["kind", "rows", "wrong", "told", "has_ended", "signs", "row", "settings", "line"]) (sc := defScope s_need_limits) (by decide +kernel)) (fun _ _ _ _ _ => (pg_name (i := 6) sc_need_limits.nd rfl (Or.inl rfl))) (fun _ _ _ _ _ => (pts_one (pt_cmpR op_eq (pe_ix (ixT_at (K := K)) (pv 6) pe_int (fun _ _ => rfl)) pe_str (nomark _)))) (fun _ _ _ _ _ => (pe_ix (ixT_at (K := K)) (pv 6) pe_int (fun _ _ => rfl))))
      (pss_cons (ps_expr (pe_bm PySem.F.plainAttrs_list PySem.F.slot_list_extend PySem.F.type_list_extend mt_extend (pv 2) (pa_cons (pe_lst (StX.pa_star (pe_slice sl_list (pv 5) (po_some (pe_gint T.c_MOST_SIGNS)) (po_some (pe_op op_add (pe_gint T.c_MOST_SIGNS) pe_int))) (StX.pa_star (pe_slice sl_list (pv 7) (po_some (pe_gint T.c_MOST_SETTINGS)) (po_some (pe_op op_add (pe_gint T.c_MOST_SETTINGS) pe_int))) pa_nil))) pa_nil)))
      (pss_one (ps_expr (pe_bm PySem.F.plainAttrs_list PySem.F.slot_list_extend PySem.F.type_list_extend mt_extend (pv 2) (pa_cons (pe_ifExp (pt_cmpR op_eq (pv 0) pe_str (nomark _)) (pe_callX F_late_places (hr.mono (by first | decide | omega)) pass0 (pa_cons (pv 3) pa_nil)) (pe_lst pa_nil)) pa_nil))))))))
      (pss_one (ps_if (pt_cmpR op_gt (pe_callB call_len_seq (by rfl) T.b_len (by decide +kernel) (pa_cons (pv 2) pa_nil)) pe_int (nomark _)) (pss_one (ps_raise rfl (takes_of rfl rfl rfl rfl) (pmk_err T.e_Refused T.g_Refused hr (pa_cons (pe_callB (cr_min rfl) (by rfl) T.b_min (by decide +kernel) (pa_cons (pe_lc (own := [("line", 8)]) (g := (gName 8)) (tt := tYes) (by rfl) sc_need_limits.nd (pi_list (pv 2)) (blkOk_by (own := [("line", 8)]) (N := ["kind", "rows", "wrong", "told", "has_ended", "signs", "row", "settings", "line"]) (sc := defScope s_need_limits) (by decide +kernel)) (fun _ _ _ _ _ => (pg_name (i := 8) sc_need_limits.nd rfl (Or.inl rfl))) (fun _ _ _ _ _ => pts_nil) (fun _ _ _ _ _ => (pe_callTy call_int1 (by rfl) T.b_int (by decide +kernel) (pa_cons (pv 8) pa_nil)))) pa_nil)) pa_nil)))) pss_nil))))), ?_⟩)
  · obtain ⟨kind, p, xs, t, rfl, _⟩ := h
    rfl
  obtain ⟨kind, p, xs, t, rfl, r, hif, hpos, hok, h0, h1⟩ := h
  have q9 : sizeLine = 16777216 := sizeLine_eq
  refine set_te (call_go (cons_go (var_go rfl (nil_go ⟨p, xs, t, rfl, r, hpos, fun wr H1 s1 hwr hw1 => ?_⟩))))
  have r1 := r.up s1
  let fin := finF IdRow.ds ends3
  refine for_te2 (K := K) (fun q ys H3 => Same H1 H3 ∧ H3 q = some (.lst ys) ∧ RepW K IdRow.ds pds (fun b => H1 b = none) H3 (t.ways fin) ys ∧ H1 q = none)
    (fun q ys H3 i σ H' => Same H H' ∧ SameX wr H3 H' ∧ ∃ (u3 u4 u5 u7 : Option V), σ = [some (.str kind), some (.ref p), some (.ref wr), u3, u4, u5, none, u7, none] ∧ H' wr = some (.lst ((odd t ++ ((t.ways fin).take i).flatMap fun w => wayWrong kind w.1).map fun l => V.int (l : Nat))))
    (fun R hR => call_go (cons_go (var_go rfl (cons_go (c_go (nil_go ⟨p, _, xs, t, ends3, rfl, r1.s, r1.d, r1.dep, r1.sz, hif, T.t_ENDINGS_idlimits _, fun q ys H3 s3 hq0 hq hW => hR q ys H3 ⟨s3, hq, hW, hq0⟩⟩))))))
    (fun q ys H3 h => .inl (.inl h.2.1)) (fun q ys H3 ⟨s3, hq, hW, hq0⟩ => ⟨s1.tr s3, (Same.rf _).x, none, none, none, none, rfl, by rw [List.take_zero, List.flatMap_nil, List.append_nil]; exact s3 _ _ hw1⟩)
    (fun q ys H3 i σ H' h _ k => .inl (.inl (k.2.1 _ _ (fun e => by have := h.2.2.2; rw [e, hw1] at this; cases this) h.2.1))) ?_ ?_
  · rintro q ys H3 ⟨s3, hq, hW, hq0⟩ i v σ H4 hv ⟨s4, sx4, u3, u4, u5, u7, rfl, hw4⟩
    obtain ⟨hWl, hWa⟩ := RepW.at _ _ hW
    obtain ⟨wy, wa, wb, ms, hwy, rfl, hwa, hwb0, hwb, hms⟩ := hWa i v hv
    have hwbr : wb ≠ wr := fun e => by have h9 : H1 wb = none := hwb0; rw [e, hw1] at h9; cases h9
    have tl34 : TupLe H3 H4 := fun b us h => sx4 _ _ (fun z => by rw [z, s3 _ _ hw1] at h; cases h) h
    have hwa4 := tl34 _ _ hwa
    have hwb4 := sx4 _ _ hwbr hwb
    have hms4 := hms.up tl34
    obtain ⟨w, eb⟩ := wy
    have hwm : w.length ≤ 1000 := by
      have := waysF_met fin t [([], false)] 0 (fun x hx => by rw [List.mem_singleton] at hx; rw [hx]; exact Nat.le_refl _) _ (List.mem_of_getElem? hwy)
      have hz := r.sz
      have h9 : w.length ≤ 0 + t.sz := this
      omega
    have hokw : ∀ it ∈ w, okIt it := fun it hi => by
      rcases ways_mem fin t _ _ (List.mem_of_getElem? hwy) it hi with h | ⟨y, hy, h⟩
      · exact hok it h
      · rw [List.mem_singleton] at hy; subst hy; cases h
    replace hms4 : DqAll K H4 ms (w.map (It.toD IdRow.ds pds)) := hms4
    obtain ⟨hml, hma⟩ := dq_map hms4
    refine ⟨wa, _, rfl, .inl (.inl hwa4), rfl, _, _, rfl, _, _, rfl, rfl, ?_⟩
    let S : Option V → Option V → L2.St := fun u5 u7 => [some (.str kind), some (.ref p), some (.ref wr), some (.ref wb), some (.bl eb), u5, none, u7, none]
    let Z : V → Option V → Option V → L2.St := fun v u5 u7 => [some (.str kind), some (.ref p), some (.ref wr), some (.ref wb), some (.bl eb), u5, some v, u7, none]
    have row0 : ∀ (v : V) (it : IT) (u5 u7 : Option V) (z : Str) {H5 : Hp}, Dq K H5 v (.tuple (itDs it)) → EvT (tTest (tOp rEq (tOp (rIxT K) (tVar 6) (tC (.int 0))) (tC (.str z)))) (Z v u5 u7) H5 (decide (it0 it = z)) := fun v it u5 u7 z H5 h => eq_str (ev_rowS 0 (ev_var rfl) h (itDs_0 it)) fun _ _ => ev_C
    refine set_te (lc_dq (w.map fun it => (sgn it).map fun l => PyData.int (l : Nat)) (ev_var rfl) (.inl (.inl hwb4)) (by rw [List.length_map]; exact hml.symm) (by rw [List.length_map]; omega) ?_ ?_)
    · intro j u o H5 hu ho s5
      obtain ⟨it, hit, hd⟩ := hma j u hu
      rw [List.getElem?_map, hit] at ho
      cases ho
      rw [toD_it] at hd
      have hd5 := hd.up s5.tl
      refine ⟨Z u u5 u7, fun R k => k, rfl, ?_⟩
      dsimp only
      have no : it0 it ≠ "set" → EvT (tAnd (tTest (tOp rEq (tOp (rIxT K) (tVar 6) (tC (.int 0))) (tC (.str "set")))) (tTest (tOp (fun x y H Q => y = V.non ∧ Q (V.bl !decide (x = V.non)) H) (tOp (rIxT K) (tVar 6) (tC (.int 5))) (tC .non)))) (Z u u5 u7) H5 false := fun g => (ev_and (b2 := false) (row0 u it u5 u7 "set" hd5) fun g2 => absurd (of_decide_eq_true g2) g).eq (Bool.and_false _)
      cases it with
      | ifi l ps a c => exact no (by show ¬ (("if" : Str) = "set"); decide +kernel)
      | leaf x =>
        cases x with
        | fin e l => exact no (en_ne e).1
        | stamp l h n => exact no (by show ¬ (("stamp" : Str) = "set"); decide +kernel)
        | set l gl tl dd ff =>
          obtain ⟨va, us, uf, e9, hva, huf, hdf⟩ := dq_at (i := 5) hd5 rfl
          subst e9
          have h5 : ∀ {H6}, Same H5 H6 → EvE (tOp (rIxT K) (tVar 6) (tC (.int 5))) (Z (.ref va) u5 u7) H6 uf := fun s6 => ev_ixT (ev_var rfl) (fun _ _ => ev_C) (s6.seqT hva) (atI_nat huf)
          cases ff with
          | none =>
            cases hdf
            exact (ev_and (b2 := false) (row0 _ _ u5 u7 "set" hd5) fun _ H6 s6 => ev_test (notNv (h5 s6) rfl)).eq (Bool.and_false _)
          | some ff =>
            cases hdf
            refine ⟨(ev_and (b2 := true) (row0 _ _ u5 u7 "set" hd5) fun _ H6 s6 => ev_test (notNv (h5 s6) rfl)).eq (by rw [Bool.and_true]; exact decide_eq_true rfl), fun H6 s6 => (ev_rowI 1 (ev_var rfl) (hd5.up s6.tl) (itDs_1 _)).d fun _ _ => .int _⟩
    intro sq sy H5 s5 hsq0 hsq hsy
    have esy := dq_fm hsy
    subst esy
    have hwb5 := s5 _ _ hwb4
    refine set_te (lc_dq (σ := S (some (.ref sq)) u7) (w.map fun it => (stg it).map fun l => PyData.int (l : Nat)) (ev_var rfl) (.inl (.inl hwb5)) (by rw [List.length_map]; exact hml.symm) (by rw [List.length_map]; omega) ?_ ?_)
    · intro j u o H6 hu ho s6
      obtain ⟨it, hit, hd⟩ := hma j u hu
      rw [List.getElem?_map, hit] at ho
      cases ho
      rw [toD_it] at hd
      have hd5 := hd.up (s5.tr s6).tl
      refine ⟨Z u (some (.ref sq)) u7, fun R k => k, rfl, ?_⟩
      dsimp only
      have no : it0 it ≠ "stamp" → EvT (tTest (tOp rEq (tOp (rIxT K) (tVar 6) (tC (.int 0))) (tC (.str "stamp")))) (Z u (some (.ref sq)) u7) H6 false := fun g => (row0 u it _ _ "stamp" hd5).eq (decide_eq_false g)
      cases it with
      | ifi l ps a c => exact no (by show ¬ (("if" : Str) = "stamp"); decide +kernel)
      | leaf x =>
        cases x with
        | fin e l => exact no (en_ne e).2
        | set l gl tl dd ff => exact no (by show ¬ (("set" : Str) = "stamp"); decide +kernel)
        | stamp l h n => exact ⟨(row0 u _ _ _ "stamp" hd5).eq (decide_eq_true rfl), fun H7 s7 => (ev_rowI 1 (ev_var rfl) (hd5.up s7.tl) (itDs_1 _)).d fun _ _ => .int _⟩
    intro tq ty H6 s6 htq0 htq hty
    have ety := dq_fm hty
    subst ety
    have s46 := s5.tr s6
    have hsq6 := s6 _ _ hsq
    have hw6 := s46 _ _ hw4
    let S6 : L2.St := [some (.str kind), some (.ref p), some (.ref wr), some (.ref wb), some (.bl eb), some (.ref sq), none, some (.ref tq), none]
    have hol0 := wrong_len kind t r.sz hif i
    generalize hold : (odd t ++ ((t.ways fin).take i).flatMap fun w : Wy IdRow Part => wayWrong kind w.1) = old at hw4 hw6
    have hol : old.length ≤ 600000 := by rw [← hold]; exact hol0
    let mI : List Nat → List V := fun l => l.map fun l => V.int (l : Nat)
    have c5 : cutV (mI (w.filterMap sgn)) (some 5) (some (5 + 1)) = mI (((w.filterMap sgn).drop 5).take 1) := by
      rw [show cutV (mI (w.filterMap sgn)) (some 5) (some (5 + 1)) = _ from cut_one _ 5]
      simp only [mI, List.map_drop, List.map_take]
    have c3 : cutV (mI (w.filterMap stg)) (some 3) (some (3 + 1)) = mI (((w.filterMap stg).drop 3).take 1) := by
      rw [show cutV (mI (w.filterMap stg)) (some 3) (some (3 + 1)) = _ from cut_one _ 3]
      simp only [mI, List.map_drop, List.map_take]
    generalize hA : ((w.filterMap sgn).drop 5).take 1 = LA at c5
    generalize hB : ((w.filterMap stg).drop 3).take 1 = LB at c3
    have hAl : LA.length ≤ 1 := by rw [← hA, List.length_take]; omega
    have hBl : LB.length ≤ 1 := by rw [← hB, List.length_take]; omega
    refine do_drop ⟨_, rfl, .inl ⟨rfl, ⟨_, .inl (.inl hw6)⟩⟩, cons_go (lst_go ?_)⟩
    refine ⟨_, rfl, _, rfl, _, _, rfl, rfl, _, rfl, sq, mI (w.filterMap sgn), rfl, .inl (.inl hsq6), fun p1 hp1 => ?_⟩
    rw [c5]
    have t1 : Same H6 (upd H6 p1 (.lst (mI LA))) := Same.new hp1
    have j1 : upd H6 p1 (.lst (mI LA)) p1 = some (.lst (mI LA)) := upd_same
    generalize upd H6 p1 (.lst (mI LA)) = H7 at t1 j1 ⊢
    refine ⟨p1, _, rfl, .inr (.inl (.inl j1)), ?_⟩
    refine ⟨_, rfl, _, rfl, _, _, rfl, rfl, _, rfl, tq, mI (w.filterMap stg), rfl, .inl (.inl (t1 _ _ htq)), fun p2 hp2 => ?_⟩
    rw [c3]
    have t2 : Same H7 (upd H7 p2 (.lst (mI LB))) := Same.new hp2
    have j2 : upd H7 p2 (.lst (mI LB)) p2 = some (.lst (mI LB)) := upd_same
    generalize upd H7 p2 (.lst (mI LB)) = H8 at t2 j2 ⊢
    refine ⟨p2, _, rfl, .inr (.inl (.inl j2)), nil_go ⟨by simp [mI]; omega, fun p3 hp3 => ?_⟩⟩
    have t3 : Same H8 (upd H8 p3 (.lst (mI LA ++ (mI LB ++ [])))) := Same.new hp3
    have j3 : upd H8 p3 (.lst (mI LA ++ (mI LB ++ []))) p3 = some (.lst (mI LA ++ (mI LB ++ []))) := upd_same
    generalize upd H8 p3 (.lst (mI LA ++ (mI LB ++ []))) = H9 at t3 j3 ⊢
    have s69 := (t1.tr t2).tr t3
    have s49 := s46.tr s69
    have hw9 := s69 _ _ hw6
    refine nil_go ⟨wr, p3, _, _, rfl, rfl, hw9, j3, by simp [mI]; omega, ?_⟩
    have eold : (old.map fun l => V.int (l : Nat)) ++ (mI LA ++ (mI LB ++ [])) = mI (old ++ LA ++ LB) := by simp [mI]
    rw [eold]
    have sH : Same H (upd H9 wr (.lst (mI (old ++ LA ++ LB)))) := (s4.tr s49).mut hwr
    have sxa : SameX wr H3 (upd H9 wr (.lst (mI (old ++ LA ++ LB)))) := (sx4.tr s49.x).upd
    have hwa9 : upd H9 wr (.lst (mI (old ++ LA ++ LB))) wr = some (.lst (mI (old ++ LA ++ LB))) := upd_same
    generalize upd H9 wr (.lst (mI (old ++ LA ++ LB))) = Ha at sH sxa hwa9 ⊢
    have tl3a : TupLe H3 Ha := fun b us h => sxa _ _ (fun z => by rw [z, s3 _ _ hw1] at h; cases h) h
    have hwba := sxa _ _ hwbr hwb
    have hmsa : DqAll K Ha ms (w.map (It.toD IdRow.ds pds)) := hms.up tl3a
    have hnx := take_fm (fun w : Wy IdRow Part => wayWrong kind w.1) hwy
    have fin2 : ∀ (Hb : Hp) (q : Addr) (LC : List Nat), Same Ha Hb → Hb q = some (.lst (mI LC)) → LC.length ≤ 1000 → LC = (if kind = "look" then lateGo w false else []) → q ≠ wr →
        rExtend (.ref wr) [.ref q] Hb (fun x H' => Same H H' ∧ SameX wr H3 H' ∧ ∃ (u3 u4 u5 u7 : Option V), S6 = [some (.str kind), some (.ref p), some (.ref wr), u3, u4, u5, none, u7, none] ∧ H' wr = some (.lst ((odd t ++ ((t.ways fin).take (i + 1)).flatMap fun w => wayWrong kind w.1).map fun l => V.int (l : Nat)))) := by
      intro Hb q LC sb hqb hLC eLC hqw
      refine ⟨wr, q, _, _, rfl, rfl, sb _ _ hwa9, hqb, by simp [mI]; omega, (sH.tr sb).mut hwr, (sxa.tr sb.x).upd, _, _, _, _, rfl, ?_⟩
      rw [upd_same, hnx, ← List.append_assoc, hold]
      show some (HO.lst (mI (old ++ LA ++ LB) ++ mI LC)) = some (HO.lst (mI (old ++ wayWrong kind w)))
      have e9 : wayWrong kind w = LA ++ LB ++ LC := by unfold wayWrong; rw [hA, hB, eLC]
      rw [e9]
      simp [mI]
    refine ⟨_, rfl, .inl ⟨rfl, ⟨_, .inl (.inl hwa9)⟩⟩, cons_go ?_⟩
    refine eq_str (σ := S6) (x := kind) (ev_var rfl) (fun _ _ => ev_C) _ fun Hb sb => iteB (fun g => ?_) (fun g => ?_)
    · have g := of_decide_eq_true g
      refine call_go (cons_go (var_go rfl (nil_go ⟨wb, ms, w, rfl, sb _ _ hwba, hmsa.up sb.tl, hokw, hwm, fun fq Hc sc hf0 hfq => nil_go (fin2 Hc fq (lateGo w false) (sb.tr sc) hfq (Nat.le_trans (late_len w false) hwm) (by rw [if_pos g]) (fun e => by rw [e, sb _ _ hwa9] at hf0; cases hf0))⟩)))
    · have g := of_decide_eq_false g
      refine lst_go (nil_go ⟨szL rfl, fun fq hfq => nil_go (fin2 _ fq [] (sb.tr (Same.new hfq)) upd_same (Nat.zero_le _) (by rw [if_neg g]) (fun e => by rw [e, sb _ _ hwa9] at hfq; cases hfq))⟩)
  · rintro q ys H3 σ H4 ⟨s3, hq, hW, hq0⟩ ⟨s4, sx4, u3, u4, u5, u7, rfl, hw4⟩
    obtain ⟨hWl, hWa⟩ := RepW.at _ _ hW
    rw [hWl, List.take_length, show (odd t ++ (t.ways fin).flatMap fun w : Wy IdRow Part => wayWrong kind w.1) = wrongs kind t from rfl] at hw4
    have hbl : (wrongs kind t).length ≤ 700000 := by
      have := wrong_len kind t r.sz hif (t.ways fin).length
      rw [List.take_length] at this
      exact Nat.le_trans this (by decide)
    generalize wrongs kind t = bad at h0 h1 hw4 hbl
    let S : L2.St := [some (.str kind), some (.ref p), some (.ref wr), u3, u4, u5, none, u7, none]
    refine nx_if (do_if (σ := S) (b1 := decide (0 < bad.length)) ?_ (fun g H5 s5 => ?_) (fun g H5 s5 => ?_))
    · have := ev_test (σ := S) (ev_op (r := fun x y H Q => ∃ i j, x = V.int i ∧ y = V.int j ∧ Q (.bl (decide (i > j))) H) (v := .bl (decide (((bad.map fun l => V.int (l : Nat)).length : Int) > 0))) (ev_len (K := K) (ev_cons (ev_var (i := 2) rfl) fun _ _ => ev_nil) (.inl (.inl (.inl hw4)))) (fun _ _ => ev_C) (fun H5 _ Q q => ⟨_, _, rfl, rfl, q⟩))
      rw [List.length_map, show decide ((bad.length : Int) > 0) = decide (0 < bad.length) from decide_eq_decide.mpr (by omega)] at this
      exact this
    · have g := of_decide_eq_true g
      refine cons_go (cb_go (cons_go ?_))
      refine lc_dq ((bad.map fun l => PyData.int (l : Nat)).map some) (ev_var rfl) (.inl (.inl (s5 _ _ hw4))) (by simp) (by simp; omega) ?_ ?_
      · intro j v o H6 hv ho s6
        rw [List.getElem?_map] at hv
        obtain ⟨n, hn, rfl⟩ := Option.map_eq_some_iff.mp hv
        rw [List.getElem?_map, List.getElem?_map, hn] at ho
        cases ho
        exact ⟨[some (.str kind), some (.ref p), some (.ref wr), u3, u4, u5, none, u7, some (.int (n : Nat))], fun R k => k, rfl, ev_yes, fun H7 s7 Q hQ => ⟨_, rfl, .inl ⟨_, rfl, hQ _ _ (Same.rf _) (.int _)⟩⟩⟩
      · intro lq ly H6 s6 _ hlq hly
        have e := fm_some (fun l : Nat => PyData.int (l : Nat)) bad
        have hy2 : DqAll K H6 ly ((bad.map fun l : Nat => (l : Int)).map PyData.int) := by
          rw [List.map_map] at hly ⊢
          exact e ▸ hly
        have ey := dq_ints hy2
        subst ey
        refine nil_go ⟨lq, _, rfl, .inl (.inl hlq), by rw [List.length_map]; exact g, fun mn hmn hmin => nil_go ⟨rfl, (fun z => absurd z (by simp)), fun _ d hd => ?_⟩⟩
        obtain ⟨n, hn, rfl⟩ := List.mem_map.mp hmn
        exact h1 n hn (fun j hj => by have := hmin j (List.mem_map.mpr ⟨j, hj, rfl⟩); omega) d _ ((((s4.tr s5).tr s6)).tr (Same.new hd)) upd_same
    · have g := of_decide_eq_false g
      exact h0 (List.eq_nil_of_length_eq_zero (by omega)) H5 (s4.tr s5)
end
end K17


set_option Elab.async false
set_option linter.all false
set_option maxRecDepth 100000
set_option maxHeartbeats 4000000
namespace Idr
open PySem
def isOnes (n : Int) : Bool := ((List.range 90).map fun b => decide ((2 : Int) ^ (b + 1) - 1 = n)).any id
def facOf (sign word : Str) : Option Int := match Tld.tNum word with
  | none => none
  | some n => if sign ∈ (["*", "//", "mod"] : List Str) then (if 2 ≤ n then some n else none)
    else if sign = "&" then (if isOnes n then some (n + 1) else none)
    else if 1 ≤ n ∧ n ≤ 90 then some ((2 : Int) ^ n.toNat) else none
theorem pow_pos2 (k : Nat) : (1 : Int) ≤ 2 ^ k := by
  induction k with
  | zero => decide
  | succ k ih => rw [Int.pow_succ]; omega
theorem ones_pos {n : Int} (h : isOnes n = true) : 1 ≤ n := by
  unfold isOnes at h
  rw [List.any_map] at h
  obtain ⟨b, _, hb⟩ := List.any_eq_true.mp h
  have hb := of_decide_eq_true hb
  have := pow_pos2 b
  rw [Int.pow_succ] at hb
  omega
theorem facOf_pos {s z : Str} {f : Int} (h : facOf s z = some f) : 0 < f := by
  unfold facOf at h
  split at h
  · cases h
  · split at h
    · split at h
      · cases h; omega
      · cases h
    · split at h
      · split at h
        · rename_i g
          cases h
          have := ones_pos g
          omega
        · cases h
      · split at h
        · cases h
          have := pow_pos2 (Int.toNat ‹_›)
          omega
        · cases h
end Idr
namespace K17
open PySem PySem.Spec PyProof.Rows L2 Rdr LmX LamX NdefX Idr Tld
section
variable {P : Program} {w : World} {K : PySem.W.Frag} {mg : Str → Option Value} {base : Heap}
def spPow : Sp := fun vs H Q _ => ∃ (n : Nat), vs = [.int (n : Nat)] ∧ n ≤ 1000 ∧ ∀ H', Same H H' → Q (.int ((2 : Int) ^ n)) H'
theorem ok_power_of (T : Tx P w K mg) : FnX P w K mg base CX0 1 "power_of" ["bits"] [] spPow := by
  refine T.d_power_of.ok0 sc_power_of (fun _ _ _ _ _ _ us hl => match us, hl with | [_], _ => rfl) (fun vs H Q E h => ?_) (fun f cdv A outer s H vs Q E hr h => have hu := hu_of hr; ⟨_, (by exact (pss_cons (ps_set (i := 1) sc_power_of.nd rfl (Or.inl rfl) pe_int)
      (pss_cons (ps_for PassesOwn.never rfl (pi_range1 rfl T.b_range (pa_cons (pv 0) pa_nil)) (pg_name (i := 2) sc_power_of.nd rfl (Or.inl rfl))
        (pss_one (ps_aug (i := 1) sc_power_of.nd rfl (Or.inl rfl) pe_int ip_mul2)))
      (pss_one (ps_ret (pv 1)))))), ?_⟩)
  · obtain ⟨n, rfl, _⟩ := h
    rfl
  obtain ⟨n, rfl, hn, h0⟩ := h
  refine do_set (x := .int 1) ev_C (fun H1 s1 => nx_for ⟨_, rfl, _, rfl, by omega, by omega, for_range (lo := 0) (n := ((n : Nat) : Int).toNat) (fun i σ H' => Same H H' ∧ ∃ u, σ = [some (.int (n : Nat)), some (.int ((2 : Int) ^ i)), u]) ⟨s1, none, rfl⟩ ?_ ?_⟩)
  · rintro i σ H2 hi ⟨s2, u, rfl⟩
    refine nm ⟨_, rfl, _, rfl, rfl, s2, some (.int (0 + (i : Int))), ?_⟩
    rw [Int.pow_succ]
    rfl
  · rintro σ H2 ⟨s2, u, rfl⟩
    rw [Int.toNat_natCast]
    exact ⟨_, rfl, h0 H2 s2⟩
def spFacOf : Sp := fun vs H Q _ => ∃ (s z : Str), vs = [.str s, .str z] ∧ z.length ≤ 1000000 ∧ ∀ H', Same H H' → Q (Tld.oI (facOf s z)) H'
theorem ok_factor_of (T : Tx P w K mg) : FnX P w K mg base CX0 2 "factor_of" ["sign", "word"] [] spFacOf := by
  have F_told_number := ok_told_number (P := P) (w := w) (base := base) T
  have F_power_of := ok_power_of (base := base) T
  refine T.d_factor_of.ok0 sc_factor_of (fun _ _ _ _ _ _ us hl => match us, hl with | [_, _], _ => rfl) (fun vs H Q E h => ?_) (fun f cdv A outer s H vs Q E hr h => have hu := hu_of hr; ⟨_, (by exact (pss_cons (ps_set (i := 2) sc_factor_of.nd rfl (Or.inr rfl) (pe_callX F_told_number (hr.mono (by first | decide | omega)) pass0 (pa_cons (pv 1) pa_nil)))
      (pss_cons (ps_if (pt_cmpR op_isN (pv 2) pe_non (nomark _)) (pss_one (ps_ret pe_non)) pss_nil)
      (pss_cons (ps_if (pt_cmpR op_in_seq (pv 0) (pe_tup (pa_cons pe_str (pa_cons pe_str (pa_cons pe_str pa_nil)))) (by rfl)) (pss_one (ps_ret (pe_ifExp (pt_cmpR op_ge (pv 2) pe_int (nomark _)) (pv 2) pe_non))) pss_nil)
      (pss_cons (ps_if (pt_cmpR op_eq (pv 0) pe_str (nomark _)) (pss_cons (ps_set (i := 3) sc_factor_of.nd rfl (Or.inl rfl) (pe_callB (cr_any rfl) (by rfl) T.b_any (by decide +kernel) (pa_cons (pe_lc (own := [("bits", 4)]) (g := (gName 4)) (tt := tYes) (by rfl) sc_factor_of.nd (pi_range2 rfl T.b_range (pa_cons pe_int (pa_cons (pe_op op_add (pe_gint T.c_MOST_BITS) pe_int) pa_nil))) (blkOk_by (own := [("bits", 4)]) (N := ["sign", "word", "number", "is_ones", "bits"]) (sc := defScope s_factor_of) (by decide +kernel)) (fun _ _ _ _ _ => (pg_name (i := 4) sc_factor_of.nd rfl (Or.inl rfl))) (fun _ _ _ _ _ => pts_nil) (fun _ _ _ _ _ => (pe_cmpR op_eq (pe_op op_sub (pe_callX F_power_of (hr.mono (by first | decide | omega)) pass0 (pa_cons (pv 4) pa_nil)) pe_int) (pv 2) (nomark _)))) pa_nil)))
      (pss_one (ps_ret (pe_ifExp (pt_val (pv 3)) (pe_op op_add (pv 2) pe_int) pe_non)))) pss_nil)
      (pss_one (ps_ret (pe_ifExp (pt_chain op_le op_le pe_int (pv 2) (pe_gint T.c_MOST_BITS)) (pe_callX F_power_of (hr.mono (by first | decide | omega)) pass0 (pa_cons (pv 2) pa_nil)) pe_non)))))))), ?_⟩)
  · obtain ⟨z, y, rfl, _⟩ := h
    rfl
  obtain ⟨sg, z, rfl, hzl, h0⟩ := h
  have fin : ∀ (r : Option Int) (H' : Hp), facOf sg z = r → Same H H' → Q (Tld.oI r) H' := fun r H' e s => by rw [← e]; exact h0 H' s
  refine set_te (call_go (cons_go (var_go rfl (nil_go ⟨z, rfl, hzl, ?_⟩))))
  cases en : Tld.tNum z with
  | none =>
    refine seq_if (b1 := true) (isN_t (ev_var rfl)) (fun _ H1 s1 => ret_go (c_go (fin none H1 (by unfold facOf; rw [en]) s1))) (fun g => by cases g)
  | some n =>
    have ef : facOf sg z = (if sg ∈ (["*", "//", "mod"] : List Str) then (if 2 ≤ n then some n else none) else if sg = "&" then (if isOnes n then some (n + 1) else none) else if 1 ≤ n ∧ n ≤ 90 then some ((2 : Int) ^ n.toNat) else none) := by unfold facOf; rw [en]
    let S : L2.St := [some (.str sg), some (.str z), some (.int n), none, none]
    refine seq_if (σ := S) (b1 := false) (isN_f (ev_var rfl) (fun z => by cases z)) (fun g => by cases g) (fun _ H1 s1 => ?_)
    refine seq_if (σ := S) (ev_test (ev_in (ns := ["*", "//", "mod"]) (ev_var rfl) (in_tup (ns := ["*", "//", "mod"]) fun _ => ev_cons ev_C fun _ _ => ev_cons ev_C fun _ _ => ev_cons ev_C fun _ _ => ev_nil))) (fun g H2 s2 => ?_) (fun g H2 s2 => ?_)
    · rw [if_pos (of_decide_eq_true g)] at ef
      refine ret_go ⟨_, rfl, _, _, rfl, rfl, _, rfl, iteB (fun g2 => ?_) (fun g2 => ?_)⟩
      · exact var_go rfl (fin (some n) H2 (by rw [ef, if_pos (of_decide_eq_true g2)]) (s1.tr s2))
      · exact c_go (fin none H2 (by rw [ef, if_neg (of_decide_eq_false g2)]) (s1.tr s2))
    · rw [if_neg (of_decide_eq_false g)] at ef
      refine seq_if (σ := S) (eq_str (x := sg) (ev_var rfl) fun _ _ => ev_C) (fun g2 H3 s3 => ?_) (fun g2 H3 s3 => ?_)
      · rw [if_pos (of_decide_eq_true g2)] at ef
        have s03 := (s1.tr s2).tr s3
        refine set_te (cb_go (cons_go ?_))
        refine lcr_dq (K := K) (lo := 1) (hi := 90 + 1) (((List.range 90).map fun b => PyData.bool (decide ((2 : Int) ^ (b + 1) - 1 = n))).map some) (ev_cons ev_C fun _ _ => ev_cons (ev_op ev_C (fun _ _ => ev_C) fun _ _ Q q => ⟨_, _, rfl, rfl, q⟩) fun _ _ => ev_nil) (by decide) (by rw [List.length_map, List.length_map, List.length_range]; rfl) (by rw [List.length_map, List.length_map, List.length_range]; decide) ?_ ?_
        · intro i o H4 ho s4
          rw [List.getElem?_map, List.getElem?_map] at ho
          have hi : i < 90 := by
            by_cases z : i < 90
            · exact z
            · rw [List.getElem?_eq_none (by rw [List.length_range]; omega)] at ho; cases ho
          rw [List.getElem?_range hi] at ho
          cases ho
          refine ⟨[some (.str sg), some (.str z), some (.int n), none, some (.int (1 + (i : Int)))], fun R k => k, rfl, ev_yes, fun H5 s5 => ?_⟩
          refine EvE.d (v := .bl (decide ((2 : Int) ^ (i + 1) - 1 = n))) ?_ fun _ _ => .bl _
          have e1 : (1 + (i : Int)) = ((i + 1 : Nat) : Int) := by omega
          have := ev_eq (σ := [some (.str sg), some (.str z), some (.int n), none, some (.int (1 + (i : Int)))]) (H := H5) (ev_op (r := rI0 fun i j => .int (i - j)) (a := tCall spPow [] E0 (tCons (tVar 4) tNil)) (b := tC (.int 1)) (v := .int ((2 : Int) ^ (i + 1) - 1)) (x := .int ((2 : Int) ^ (i + 1))) (fun Q k => call_go (cons_go (var_go rfl (nil_go ⟨i + 1, by rw [e1]; rfl, by omega, fun H' s' => k H' s'⟩)))) (fun _ _ => ev_C) fun _ _ Q q => ⟨_, _, rfl, rfl, q⟩) (fun _ _ => ev_var (i := 2) rfl) rfl
          rw [dcI] at this
          exact this
        · intro q ys H4 s4 _ hq hy
          have e := fm_some (fun b : Nat => PyData.bool (decide ((2 : Int) ^ (b + 1) - 1 = n))) (List.range 90)
          have hy2 : DqAll K H4 ys (((List.range 90).map fun b => decide ((2 : Int) ^ (b + 1) - 1 = n)).map PyData.bool) := by
            rw [List.map_map] at hy ⊢
            exact e ▸ hy
          have ey := dq_bools hy2
          subst ey
          refine nil_go ⟨q, _, rfl, .inl (.inl hq), ?_⟩
          show tRet _ _ [some (.str sg), some (.str z), some (.int n), some (.bl (isOnes n)), none] H4
          refine ret_go ⟨_, rfl, _, rfl, iteB (fun g3 => ?_) (fun g3 => ?_)⟩
          · exact ev_op (σ := [some (.str sg), some (.str z), some (.int n), some (.bl (isOnes n)), none]) (v := .int (n + 1)) (ev_var (i := 2) rfl) (fun _ _ => ev_C) (fun _ _ Q q => ⟨_, _, rfl, rfl, q⟩) _ fun H5 s5 => fin (some (n + 1)) H5 (by rw [ef, if_pos g3]) ((s03.tr s4).tr s5)
          · exact c_go (fin none H4 (by rw [ef, if_neg (by rw [g3]; decide)]) (s03.tr s4))
      · rw [if_neg (of_decide_eq_false g2)] at ef
        have s03 := (s1.tr s2).tr s3
        have hc : EvT (tTest (tChain (rI0 fun i j => .bl (decide (i ≤ j))) (rI0 fun i j => .bl (decide (i ≤ j))) (tC (.int 1)) (tVar 2) (tC (.int 90)))) S H3 (decide (1 ≤ n) && decide (n ≤ 90)) := ev_test (ev_chain fun _ _ => ev_var rfl)
        refine ret_go (hc _ fun H4 s4 => iteB (fun g3 => ?_) (fun g3 => ?_))
        · rw [Bool.and_eq_true] at g3
          have g1 := of_decide_eq_true g3.1
          have g2 := of_decide_eq_true g3.2
          refine call_go (cons_go (var_go rfl (nil_go ⟨n.toNat, ?_, by omega, fun H' s' => fin (some ((2 : Int) ^ n.toNat)) H' (by rw [ef, if_pos ⟨g1, g2⟩]) ((s03.tr s4).tr s')⟩)))
          rw [Int.toNat_of_nonneg (by omega)]
          rfl
        · exact c_go (fin none H4 (by rw [ef, if_neg (fun ⟨g1, g2⟩ => by rw [decide_eq_true g1, decide_eq_true g2] at g3; cases g3)]) (s03.tr s4))
end
end K17


set_option Elab.async false
set_option linter.all false
set_option maxRecDepth 100000
set_option maxHeartbeats 4000000
namespace Idr
open PySem
def stampOf (ws : List Str) (l : Nat) : Option IdRow :=
  if ws.length = 1 then (Tld.tNum (ws.getLastD "")).map (.stamp l "be")
  else if ws.length ≠ 3 ∨ ws.getD 0 "" ≠ "stamp" then none
  else if ws.getD 1 "" = "+" then (match Tld.tNum (ws.getLastD "") with
    | none => none
    | some n => if 1 ≤ n ∧ n ≤ 12 then some (.stamp l "more" n) else none)
  else if ws.getD 1 "" ∈ (["mod", "&"] : List Str) then (facOf (ws.getD 1 "") (ws.getD 2 "")).map (.stamp l "rest") else none
end Idr
namespace K17
open PySem PySem.Spec PyProof.Rows L2 Rdr LmX LamX NdefX Idr Tld
section
variable {P : Program} {w : World} {K : PySem.W.Frag} {mg : Str → Option Value} {base : Heap}
theorem last_map {ws : List Str} (h : ws ≠ []) : (ws.map V.str).getLast? = some (.str (ws.getLastD "")) := by
  rw [List.getLast?_map, List.getLast?_eq_some_getLast h]
  cases ws with
  | nil => exact absurd rfl h
  | cons x r => rw [List.getLastD_cons, Option.map_some, List.getLast_eq_getLastD]
theorem ev_lastW {σ : L2.St} {H : Hp} {te : TE} {a : Addr} {ws : List Str} (he : EvE te σ H (.ref a)) (hs : SqL K H a (ws.map V.str)) (h : ws ≠ []) : EvE (tOp (rIxL K) te (tUn (rU fun i => .int (-i)) (tC (.int 1)))) σ H (.str (ws.getLastD "")) := ev_ixL he (fun _ _ => ev_m1) hs (atI_m1 (last_map h))
theorem getLastD_mem {ws : List Str} (h : ws ≠ []) : ws.getLastD "" ∈ ws := by
  cases ws with
  | nil => exact absurd rfl h
  | cons x r =>
    have e : (x :: r).getLastD "" = (x :: r).getLast h := by rw [List.getLastD_cons, List.getLast_eq_getLastD]
    rw [e]
    exact List.getLast_mem h
theorem getD_mem {ws : List Str} {i : Nat} (h : i < ws.length) : ws.getD i "" ∈ ws := by
  rw [List.getD_eq_getElem?_getD, List.getElem?_eq_getElem h]
  exact List.getElem_mem h
def spStamp (K : PySem.W.Frag) : Sp := fun vs H Q _ => ∃ (a : Addr) (ws : List Str) (l : Nat), vs = [.ref a, .int (l : Nat)] ∧ SqL K H a (ws.map V.str) ∧ ws ≠ [] ∧ (∀ z ∈ ws, z.length ≤ 1000000) ∧
  (stampOf ws l = none → ∀ H', Same H H' → Q .non H') ∧ ∀ r v H', stampOf ws l = some r → Same H H' → Dq K H' v (.tuple r.ds) → Q v H'
theorem ok_stamp_row (T : Tx P w K mg) : FnX P w K mg base CX0 3 "stamp_row" ["words", "line"] [] (spStamp K) := by
  have F_told_number := ok_told_number (P := P) (w := w) (base := base) T
  have F_factor_of := ok_factor_of (base := base) T
  refine T.d_stamp_row.ok0 sc_stamp_row (fun _ _ _ _ _ _ us hl => match us, hl with | [_, _], _ => rfl) (fun vs H Q E h => ?_) (fun f cdv A outer s H vs Q E hr h => have hu := hu_of hr; ⟨_, (by exact (pss_cons (ps_set (i := 2) sc_stamp_row.nd rfl (Or.inl rfl) (pe_callX F_told_number (hr.mono (by first | decide | omega)) pass0 (pa_cons (pe_ix ix_list (pv 0) (pe_un un_neg pe_int) (fun _ _ => rfl)) pa_nil)))
      (pss_cons (ps_if (pt_cmpR op_eq (pe_callB call_len_seq (by rfl) T.b_len (by decide +kernel) (pa_cons (pv 0) pa_nil)) pe_int (nomark _)) (pss_one (ps_ret (pe_ifExp (pt_cmpR op_notN (pv 2) pe_non (nomark _)) (pe_tup (pa_cons pe_str (pa_cons (pv 1) (pa_cons pe_str (pa_cons (pv 2) pa_nil))))) pe_non))) pss_nil)
      (pss_cons (ps_if (PW.pt (pw_or (pt_cmpR op_ne (pe_callB call_len_seq (by rfl) T.b_len (by decide +kernel) (pa_cons (pv 0) pa_nil)) pe_int (nomark _)) (pw_or1 (pt_cmpR op_ne (pe_ix ix_list (pv 0) pe_int (fun _ _ => rfl)) pe_str (nomark _))))) (pss_one (ps_ret pe_non)) pss_nil)
      (pss_cons (ps_if (pt_cmpR op_eq (pe_ix ix_list (pv 0) pe_int (fun _ _ => rfl)) pe_str (nomark _)) (pss_one (ps_ret (pe_ifExp (PW.pt (pw_and (pt_cmpR op_notN (pv 2) pe_non (nomark _)) (pw_and1 (pt_chain op_le op_le pe_int (pv 2) (pe_gint T.c_MOST_STEP))))) (pe_tup (pa_cons pe_str (pa_cons (pv 1) (pa_cons pe_str (pa_cons (pv 2) pa_nil))))) pe_non))) pss_nil)
      (pss_cons (ps_set (i := 3) sc_stamp_row.nd rfl (Or.inl rfl) (pe_ifExp (pt_cmpR op_in_seq (pe_ix ix_list (pv 0) pe_int (fun _ _ => rfl)) (pe_tup (pa_cons pe_str (pa_cons pe_str pa_nil))) (by rfl)) (pe_callX F_factor_of (hr.mono (by first | decide | omega)) pass0 (pa_cons (pe_ix ix_list (pv 0) pe_int (fun _ _ => rfl)) (pa_cons (pe_ix ix_list (pv 0) pe_int (fun _ _ => rfl)) pa_nil))) pe_non))
      (pss_one (ps_ret (pe_ifExp (pt_cmpR op_notN (pv 3) pe_non (nomark _)) (pe_tup (pa_cons pe_str (pa_cons (pv 1) (pa_cons pe_str (pa_cons (pv 3) pa_nil))))) pe_non))))))))), ?_⟩)
  · obtain ⟨a, ws, l, rfl, _⟩ := h
    rfl
  obtain ⟨a, ws, l, rfl, hs, hne, hwl, h0, h1⟩ := h
  have mk : ∀ (how : Str) (n : Int) (σ : L2.St) (tn : TE) {H2 : Hp}, Same H H2 → σ[1]? = some (some (.int (l : Nat))) → EvE tn σ H2 (.int n) → stampOf ws l = some (.stamp l how n) → tTup (tCons (tC (.str "stamp")) (tCons (tVar 1) (tCons (tC (.str how)) (tCons tn tNil)))) σ H2 Q := fun how n σ tn H2 s2 hv hn e =>
    tup_go (cons_go (c_go (cons_go (var_go hv (cons_go (c_go (cons_go (hn _ fun H3 s3 => nil_go ⟨szL rfl, fun q hq => h1 _ _ _ e ((s2.tr s3).tr (Same.new hq)) (.tup (.inl upd_same) (.cons (.str _) (.cons (.int _) (.cons (.str _) (.cons (.int _) .nil)))))⟩))))))))
  refine set_te (call_go (cons_go (ev_lastW (ev_var rfl) hs hne _ fun H1 s1 => nil_go ⟨_, rfl, hwl _ (getLastD_mem hne), ?_⟩)))
  generalize ev : Tld.tNum (ws.getLastD "") = on
  let S : L2.St := [some (.ref a), some (.int (l : Nat)), some (Tld.oI on), none]
  have n2 : ∀ {H2}, EvE (tVar 2) S H2 (Tld.oI on) := ev_var rfl
  have W : ∀ {H2 : Hp} {i : Nat}, Same H H2 → i < ws.length → EvE (tOp (rIxL K) (tVar 0) (tC (.int (i : Int)))) S H2 (.str (ws.getD i "")) := fun s h => ev_word (ev_var rfl) (s.sql hs) h
  have LN : ∀ {H2 : Hp} (k : Nat), Same H H2 → EvE (tCB (fun xs H Q => ∃ p ys, xs = [V.ref p] ∧ (SqL K H p ys ∨ SqT K H p ys) ∧ Q (.int (ys.length : Nat)) H) (tCons (tVar 0) tNil)) S H2 (.int (ws.length : Nat)) := fun k s => by
    have := ev_len (K := K) (σ := S) (ev_cons (ev_var (i := 0) rfl) fun _ _ => ev_nil) (.inl (s.sql hs))
    rw [List.length_map] at this
    exact this
  refine seq_if (σ := S) (eq_nat (y := 1) (LN 1 s1) fun _ _ => ev_C) (fun g H2 s2 => ?_) (fun g H2 s2 => ?_)
  · have g := of_decide_eq_true g
    have e : stampOf ws l = on.map (.stamp l "be") := by unfold stampOf; rw [if_pos g, ev]
    have s02 := s1.tr s2
    cases on with
    | none => exact ret_go (ev_test (notNv n2 rfl) _ fun H3 s3 => iteF (c_go (h0 e H3 (s02.tr s3))))
    | some n => exact ret_go (ev_test (notNv n2 rfl) _ fun H3 s3 => iteT (mk "be" n S (tVar 2) (s02.tr s3) rfl n2 e))
  have g := of_decide_eq_false g
  have e1 : stampOf ws l = if ws.length ≠ 3 ∨ ws.getD 0 "" ≠ "stamp" then none
      else if ws.getD 1 "" = "+" then (match on with
        | none => none
        | some n => if 1 ≤ n ∧ n ≤ 12 then some (.stamp l "more" n) else none)
      else if ws.getD 1 "" ∈ (["mod", "&"] : List Str) then (facOf (ws.getD 1 "") (ws.getD 2 "")).map (.stamp l "rest") else none := by unfold stampOf; rw [if_neg g, ev]
  have s02 := s1.tr s2
  refine seq_if (σ := S) (b1 := !decide (ws.length = 3) || !decide (ws.getD 0 "" = "stamp")) (ev_or (b2 := !decide (ws.getD 0 "" = "stamp")) ?_ (fun g2 H3 s3 => ?_)) (fun g2 H3 s3 => ?_) (fun g2 H3 s3 => ?_)
  · have := ev_test (ev_ne (LN 3 s02) (fun _ _ => ev_C (v := .int ((3 : Nat) : Int))) rfl)
    rw [dcN] at this
    exact this
  · have h3 : ws.length = 3 := by simpa using g2
    exact ne_str (W (i := 0) (s02.tr s3) (by omega)) fun _ _ => ev_C
  · refine ret_go (c_go (h0 ?_ H3 (s02.tr s3)))
    rw [e1, if_pos]
    rw [Bool.or_eq_true] at g2
    rcases g2 with g2 | g2
    · exact .inl (by simpa using g2)
    · exact .inr (by simpa using g2)
  rw [Bool.or_eq_false_iff] at g2
  have h3 : ws.length = 3 := by simpa using g2.1
  have h4 : ws.getD 0 "" = "stamp" := by simpa using g2.2
  rw [if_neg (fun z => z.elim (fun z => z h3) (fun z => z h4))] at e1
  have s03 := s02.tr s3
  refine seq_if (σ := S) (eq_str (W (i := 1) s03 (by omega)) fun _ _ => ev_C) (fun g3 H4 s4 => ?_) (fun g3 H4 s4 => ?_)
  · rw [if_pos (of_decide_eq_true g3)] at e1
    have s04 := s03.tr s4
    cases on with
    | none => exact ret_go ((ev_and (b2 := false) (ev_test (notNv n2 rfl)) fun z => by cases z) _ fun H5 s5 => iteF (c_go (h0 e1 H5 (s04.tr s5))))
    | some n =>
      refine ret_go ((ev_and (ev_test (notNv n2 rfl)) fun _ H5 s5 => ev_test (ev_chain (a := 1) (c := 12) fun _ _ => n2)) _ fun H5 s5 => iteB (fun g5 => ?_) (fun g5 => ?_))
      · have g6 : (decide (1 ≤ n) && decide (n ≤ 12)) = true := g5
        rw [Bool.and_eq_true] at g6
        exact mk "more" n S (tVar 2) (s04.tr s5) rfl n2 (e1.trans (if_pos ⟨of_decide_eq_true g6.1, of_decide_eq_true g6.2⟩))
      · have g6 : (decide (1 ≤ n) && decide (n ≤ 12)) = false := g5
        exact c_go (h0 (e1.trans (if_neg fun ⟨k1, k2⟩ => by rw [decide_eq_true k1, decide_eq_true k2] at g6; cases g6)) H5 (s04.tr s5))
  rw [if_neg (of_decide_eq_false g3)] at e1
  have s04 := s03.tr s4
  refine set_te ((ev_test (ev_in (ns := ["mod", "&"]) (W (i := 1) s04 (by omega)) (in_tup (ns := ["mod", "&"]) fun _ => ev_cons ev_C fun _ _ => ev_cons ev_C fun _ _ => ev_nil))) _ fun H5 s5 => iteB (fun g5 => ?_) (fun g5 => ?_))
  · have s05 := s04.tr s5
    rw [if_pos (of_decide_eq_true g5)] at e1
    refine call_go (cons_go (W (i := 1) s05 (by omega) _ fun H6 s6 => cons_go (W (i := 2) (s05.tr s6) (by omega) _ fun H7 s7 => nil_go ⟨_, _, rfl, hwl _ (getD_mem (by omega)), fun H8 s8 => ?_⟩)))
    have s08 := ((s05.tr s6).tr s7).tr s8
    generalize facOf (ws.getD 1 "") (ws.getD 2 "") = fo at e1
    cases fo with
    | none => exact ret_go (ev_test (notNv (v := .non) (ev_var (i := 3) rfl) rfl) _ fun H9 s9 => iteF (c_go (h0 e1 H9 (s08.tr s9))))
    | some n => exact ret_go (ev_test (notNv (v := .int n) (ev_var (i := 3) rfl) rfl) _ fun H9 s9 => iteT (mk "rest" n _ (tVar 3) (s08.tr s9) rfl (ev_var rfl) e1))
  · rw [if_neg (of_decide_eq_false g5)] at e1
    exact c_go (ret_go (ev_test (notNv (v := .non) (ev_var (i := 3) rfl) rfl) _ fun H9 s9 => iteF (c_go (h0 e1 H9 ((s04.tr s5).tr s9)))))
end
end K17


set_option Elab.async false
set_option linter.all false
set_option maxRecDepth 100000
set_option maxHeartbeats 4000000
namespace L2
open PySem PySem.Spec PyProof.Rows
theorem par3_go {i j l : Nat} {ta : TA} {s : TS} {D : Ends} {z : St} {H : Hp} (h : ta z H fun vs H1 => ∃ u v w, vs = [u, v, w] ∧ s D (((z.set i (some u)).set j (some v)).set l (some w)) H1) : tSeq (tPar3 i j l ta) s D z H := h
theorem set_via {te : TE} {s : TS} {D : Ends} {z : St} {H : Hp} {i : Nat} (R : V → Hp → Prop) (h : ∀ Q : VK, (∀ v H1, R v H1 → Q v H1) → te z H Q) (k : ∀ v H1, R v H1 → s D (z.set i (some v)) H1) : tSeq (tAsg te (gName i)) s D z H := h _ k
theorem cut_from (xs : List V) (n : Nat) : cutV xs (some (n : Int)) none = xs.drop n := by
  have h : HT.sIx xs.length 0 (some (n : Int)) = min n xs.length := HT.sIx_nat _ _ n
  have h2 : HT.sIx xs.length xs.length none = xs.length := rfl
  unfold cutV
  rw [h, h2]
  by_cases hn : n < xs.length
  · rw [Nat.min_eq_left (Nat.le_of_lt hn), List.take_of_length_le (by rw [List.length_drop]; exact Nat.le_refl _)]
  · rw [Nat.min_eq_right (by omega), List.drop_length, List.drop_eq_nil_of_le (by omega)]
    simp
theorem cut_mid (xs : List V) (h : 2 ≤ xs.length) : cutV xs (some 2) (some (-2)) = (xs.drop 2).take (xs.length - 4) := by
  have h1 : HT.sIx xs.length 0 (some 2) = min 2 xs.length := HT.sIx_nat _ _ 2
  have h2 : HT.sIx xs.length xs.length (some (-2)) = xs.length - 2 := by
    show (if (-2 : Int) < 0 then ((-2 : Int) + (xs.length : Int)).toNat else min (-2 : Int).toNat xs.length) = _
    rw [if_pos (by decide)]
    omega
  unfold cutV
  rw [h1, h2, Nat.min_eq_left h, show xs.length - 2 - 2 = xs.length - 4 by omega]
theorem atI_m2 {α : Type} {us : List α} (h : 2 ≤ us.length) : atI us (-2) = us[us.length - 2]? := by
  unfold atI ixN
  rw [if_neg (by decide), if_pos (by omega), show (-2 + (us.length : Int)).toNat = us.length - 2 by omega]
  rfl
end L2
namespace Idr
open PySem
def kinds3 : List Str := ["give", "free", "look"]
def namesOf (k : Str) : List Str := if k = "give" then ["page", "slot", "stamp", "word", "a", "b", "c"] else if k = "free" then ["page", "slot", "stamp", "a", "b", "c"] else ["word", "page", "slot", "stamp", "a", "b", "c"]
def goalsOf (k : Str) : List Str := if k = "give" then ["word", "a", "b", "c"] else if k = "free" then ["a", "b", "c"] else ["page", "slot", "a", "b", "c"]
def endsOf (k : Str) : List En := if k = "give" then [.quit] else if k = "free" then [.quit, .retire] else [.accept, .refuse]
def deedW (s : Str) : Option Str := if s = "*" ∨ s = "<<" then some "times" else if s = "//" ∨ s = ">>" then some "over" else if s = "mod" ∨ s = "&" then some "rest" else none
def last2 (ws : List Str) : Str := ws.getD (ws.length - 2) ""
def rowI (kind text : Str) (l : Nat) : Option IdRow :=
  let ws := Txt.split text " "
  if ws.length = 1 then ((endsOf kind).find? fun e => decide (e.z = text)).map (.fin · l)
  else if ws.length < 3 ∨ ws.getD 1 "" ≠ "=" then none
  else if ws.getD 0 "" = "stamp" ∧ kind ≠ "look" then stampOf (ws.drop 2) l
  else match deedW (last2 ws) with
    | none => if ws.getD 0 "" ∈ goalsOf kind then (Tld.tSum (namesOf kind) (ws.drop 2)).map fun t => .set l (ws.getD 0 "") t none none else none
    | some d => if ws.getD 0 "" ∈ goalsOf kind then (match Tld.tSum (namesOf kind) ((ws.drop 2).take (ws.length - 4)), facOf (last2 ws) (ws.getLastD "") with
      | some t, some f => some (.set l (ws.getD 0 "") t (some d) (some f))
      | _, _ => none) else none
end Idr
namespace K17
open PySem PySem.Spec PyProof.Rows L2 Rdr LmX LamX NdefX Idr Tld
section
variable {P : Program} {w : World} {K : PySem.W.Frag} {mg : Str → Option Value} {base : Heap}
theorem kd3 (T : Tx P w K mg) {k : Str} (h : k ∈ kinds3) : (∃ a, KDct K w (He.ga K "NAMES") k (.ref a) ∧ ∀ H, SqT K H a ((namesOf k).map V.str)) ∧ (∃ a, KDct K w (He.ga K "GOALS") k (.ref a) ∧ ∀ H, SqT K H a ((goalsOf k).map V.str)) ∧ ∃ a, KDct K w (He.ga K "ENDINGS_idreader") k (.ref a) ∧ ∀ H, SqT K H a (((endsOf k).map En.z).map V.str) := by
  simp only [kinds3, List.mem_cons, List.not_mem_nil, or_false] at h
  rcases h with rfl | rfl | rfl
  · exact ⟨T.k_NAMES_give, T.k_GOALS_give, T.k_ENDINGS_idreader_give⟩
  · exact ⟨T.k_NAMES_free, T.k_GOALS_free, T.k_ENDINGS_idreader_free⟩
  · exact ⟨T.k_NAMES_look, T.k_GOALS_look, T.k_ENDINGS_idreader_look⟩
theorem deed_in (T : Tx P w K mg) (s : Str) : ∃ r, PySem.W.nsIn K (He.ga K "DEEDS") s = some r ∧ r.isSome = (deedW s).isSome ∧ ∀ d, deedW s = some d → KDct K w (He.ga K "DEEDS") s (.str d) := by
  have key : ∀ d, deedW s = some d → KDct K w (He.ga K "DEEDS") s (.str d) := fun d h => by
    unfold deedW at h
    split at h
    · rename_i g; cases h; rcases g with rfl | rfl; exact T.k_DEEDS_x2a; exact T.k_DEEDS_x3cx3c
    · split at h
      · rename_i g; cases h; rcases g with rfl | rfl; exact T.k_DEEDS_x2fx2f; exact T.k_DEEDS_x3ex3e
      · split at h
        · rename_i g; cases h; rcases g with rfl | rfl; exact T.k_DEEDS_mod; exact T.k_DEEDS_x26
        · cases h
  cases e : deedW s with
  | none =>
    refine ⟨none, T.kn_DEEDS s fun h => ?_, rfl, fun d h => by cases h⟩
    simp only [List.mem_cons, List.not_mem_nil, or_false] at h
    rcases h with rfl | rfl | rfl | rfl | rfl | rfl <;> revert e <;> decide +kernel
  | some d =>
    obtain ⟨es, n, u, _, _, hn, _⟩ := key d e
    exact ⟨some u, hn, rfl, fun d' h => key d' (by rw [e, h])⟩
theorem ats_dq {H : Hp} : ∀ {vs : List V} {qs : List At}, AtsR H vs qs → DqAll K H vs (qs.map atD)
  | _, _, .nil => .nil
  | _, _, .cons h hs => by
    obtain ⟨p, e, hp⟩ := h
    subst e
    exact .cons (.tup (.inl hp) (.cons (.int _) (.cons (oS_dq _) .nil))) (ats_dq hs)
def spRowOf (K : PySem.W.Frag) : Sp := fun vs H Q _ => ∃ (kind text : Str) (l : Nat), vs = [.str kind, .str text, .int (l : Nat)] ∧ kind ∈ kinds3 ∧ text.length ≤ 1000 ∧
  (rowI kind text l = none → ∀ H', Same H H' → Q .non H') ∧ ∀ r v H', rowI kind text l = some r → Same H H' → Dq K H' v (.tuple r.ds) → Q v H'
theorem ok_row_of (T : Tx P w K mg) : FnX P w K mg base CX0 4 "row_of" ["kind", "text", "line"] [] (spRowOf K) := by
  have F_stamp_row := ok_stamp_row (base := base) T
  have F_factor_of := ok_factor_of (base := base) T
  have F_told_sum := ok_told_sum (P := P) (w := w) (base := base) T
  obtain ⟨es, nn, hD⟩ := T.kd_DEEDS
  refine T.d_row_of.ok0 sc_row_of (fun _ _ _ _ _ _ us hl => match us, hl with | [_, _, _], _ => rfl) (fun vs H Q E h => ?_) (fun f cdv A outer s H vs Q E hr h => have hu := hu_of hr; ⟨_, (by exact (pss_cons (ps_set (i := 3) sc_row_of.nd rfl (Or.inl rfl) (pe_split (pv 1) pe_str))
      (pss_cons (ps_if (pt_cmpR op_eq (pe_callB call_len_seq (by rfl) T.b_len (by decide +kernel) (pa_cons (pv 3) pa_nil)) pe_int (nomark _)) (pss_one (ps_ret (pe_ifExp (pt_cmpR op_in_seq (pv 1) (pe_ix ix_kdict (pe_gref T.g_ENDINGS_idreader) (pv 0) (fun _ _ => rfl)) (by rfl)) (pe_tup (pa_cons (pv 1) (pa_cons (pv 2) pa_nil))) pe_non))) pss_nil)
      (pss_cons (ps_if (PW.pt (pw_or (pt_cmpR op_lt (pe_callB call_len_seq (by rfl) T.b_len (by decide +kernel) (pa_cons (pv 3) pa_nil)) pe_int (nomark _)) (pw_or1 (pt_cmpR op_ne (pe_ix ix_list (pv 3) pe_int (fun _ _ => rfl)) pe_str (nomark _))))) (pss_one (ps_ret pe_non)) pss_nil)
      (pss_cons (ps_if (PW.pt (pw_and (pt_cmpR op_eq (pe_ix ix_list (pv 3) pe_int (fun _ _ => rfl)) pe_str (nomark _)) (pw_and1 (pt_cmpR op_ne (pv 0) pe_str (nomark _))))) (pss_one (ps_ret (pe_callX F_stamp_row (hr.mono (by first | decide | omega)) pass0 (pa_cons (pe_slice sl_list (pv 3) (po_some pe_int) po_none) (pa_cons (pv 2) pa_nil))))) pss_nil)
      (pss_cons (ps_par3 (i := 4) (j := 5) (l := 6) (by rfl) sc_row_of.nd rfl rfl rfl (by decide) (by decide) (by decide) rfl rfl rfl (pa_cons pe_non (pa_cons pe_non (pa_cons (pe_slice sl_list (pv 3) (po_some pe_int) po_none) pa_nil))) (by rfl))
      (pss_cons (ps_if (pt_cmpR (op_in_kd hD) (pe_ix ix_list (pv 3) (pe_un un_neg pe_int) (fun _ _ => rfl)) (pe_gref T.g_DEEDS) (by rfl)) (pss_one (ps_par3 (i := 4) (j := 5) (l := 6) (by rfl) sc_row_of.nd rfl rfl rfl (by decide) (by decide) (by decide) rfl rfl rfl (pa_cons (pe_ix ix_kdict (pe_gref T.g_DEEDS) (pe_ix ix_list (pv 3) (pe_un un_neg pe_int) (fun _ _ => rfl)) (fun _ _ => rfl)) (pa_cons (pe_callX F_factor_of (hr.mono (by first | decide | omega)) pass0 (pa_cons (pe_ix ix_list (pv 3) (pe_un un_neg pe_int) (fun _ _ => rfl)) (pa_cons (pe_ix ix_list (pv 3) (pe_un un_neg pe_int) (fun _ _ => rfl)) pa_nil))) (pa_cons (pe_slice sl_list (pv 3) (po_some pe_int) (po_some (pe_un un_neg pe_int))) pa_nil))) (by rfl))) pss_nil)
      (pss_cons (ps_set (i := 7) sc_row_of.nd rfl (Or.inl rfl) (pe_callX F_told_sum (hr.mono (by first | decide | omega)) pass0 (pa_cons (pv 6) (pa_cons (pe_ix ix_kdict (pe_gref T.g_NAMES) (pv 0) (fun _ _ => rfl)) pa_nil))))
      (pss_cons (ps_set (i := 8) sc_row_of.nd rfl (Or.inl rfl) (pe_and (pe_cmpR op_in_seq (pe_ix ix_list (pv 3) pe_int (fun _ _ => rfl)) (pe_ix ix_kdict (pe_gref T.g_GOALS) (pv 0) (fun _ _ => rfl)) (by rfl)) (pe_and (pe_cmpR op_notN (pv 7) pe_non (nomark _)) (pe_one (pe_or (pe_cmpR op_isN (pv 4) pe_non (nomark _)) (pe_one (pe_cmpR op_notN (pv 5) pe_non (nomark _))))))))
      (pss_one (ps_ret (pe_ifExp (pt_val (pv 8)) (pe_tup (pa_cons pe_str (pa_cons (pv 2) (pa_cons (pe_ix ix_list (pv 3) pe_int (fun _ _ => rfl)) (pa_cons (pv 7) (pa_cons (pv 4) (pa_cons (pv 5) pa_nil))))))) pe_non)))))))))))), ?_⟩)
  · obtain ⟨kind, text, l, rfl, _⟩ := h
    rfl
  obtain ⟨kind, text, l, rfl, hk, htl, h0, h1⟩ := h
  obtain ⟨⟨na, hna, hna2⟩, ⟨gl, hgl, hgl2⟩, ⟨en, hen, hen2⟩⟩ := kd3 T hk
  have q9 : sizeLine = 16777216 := sizeLine_eq
  have hnw : Txt.split text " " ≠ [] := fun e => by
    have h := fact_split text " "
    rw [e] at h
    exact absurd h.1 (by decide)
  refine set_te (do_split (ev_var rfl) (by decide +kernel) (by omega) (fun H1 wa s1 _ hwa => ?_))
  have hwl : ∀ z ∈ Txt.split text " ", z.length ≤ 1000000 := fun z hz => Nat.le_trans (split_len _ _ z hz) (by omega)
  have eR : rowI kind text l = (if (Txt.split text " ").length = 1 then ((endsOf kind).find? fun e => decide (e.z = text)).map (IdRow.fin · l)
      else if (Txt.split text " ").length < 3 ∨ (Txt.split text " ").getD 1 "" ≠ "=" then none
      else if (Txt.split text " ").getD 0 "" = "stamp" ∧ kind ≠ "look" then stampOf ((Txt.split text " ").drop 2) l
      else match deedW (last2 (Txt.split text " ")) with
        | none => if (Txt.split text " ").getD 0 "" ∈ goalsOf kind then (Tld.tSum (namesOf kind) ((Txt.split text " ").drop 2)).map fun t => IdRow.set l ((Txt.split text " ").getD 0 "") t none none else none
        | some d => if (Txt.split text " ").getD 0 "" ∈ goalsOf kind then (match Tld.tSum (namesOf kind) (((Txt.split text " ").drop 2).take ((Txt.split text " ").length - 4)), facOf (last2 (Txt.split text " ")) ((Txt.split text " ").getLastD "") with
          | some t, some f => some (IdRow.set l ((Txt.split text " ").getD 0 "") t (some d) (some f))
          | _, _ => none) else none) := rfl
  generalize Txt.split text " " = ws at hwa hnw hwl eR
  let S : L2.St := [some (.str kind), some (.str text), some (.int (l : Nat)), some (.ref wa), none, none, none, none, none]
  have W : ∀ {H2 : Hp} {i : Nat}, Same H1 H2 → i < ws.length → EvE (tOp (rIxL K) (tVar 3) (tC (.int (i : Int)))) S H2 (.str (ws.getD i "")) := fun s h => ev_word (ev_var rfl) (.inl (.inl (s _ _ hwa))) h
  have LN : ∀ {H2 : Hp}, Same H1 H2 → EvE (tCB (fun xs H Q => ∃ p ys, xs = [V.ref p] ∧ (SqL K H p ys ∨ SqT K H p ys) ∧ Q (.int (ys.length : Nat)) H) (tCons (tVar 3) tNil)) S H2 (.int (ws.length : Nat)) := fun s => by
    have := ev_len (K := K) (σ := S) (ev_cons (ev_var (i := 3) rfl) fun _ _ => ev_nil) (.inl (.inl (.inl (s _ _ hwa))))
    rw [List.length_map] at this
    exact this
  refine seq_if (σ := S) (eq_nat (y := 1) (LN (Same.rf _)) fun _ _ => ev_C) (fun g H2 s2 => ?_) (fun g H2 s2 => ?_)
  · have g := of_decide_eq_true g
    rw [if_pos g] at eR
    have s02 := s1.tr s2
    refine ret_go ((ev_test (ev_in (z := text) (ns := (endsOf kind).map En.z) (ev_var rfl) fun H3 _ Q k => ⟨.str kind, rfl, _, kind, .ref en, rfl, rfl, hen, k H3 en (Same.rf _) (.inr (hen2 _))⟩)) _ fun H3 s3 => iteB (fun g3 => ?_) (fun g3 => ?_))
    · have g3 := of_decide_eq_true g3
      obtain ⟨e, he, hez⟩ := List.mem_map.mp g3
      cases ef : (endsOf kind).find? fun e => decide (e.z = text) with
      | none =>
        have := List.find?_eq_none.mp ef e he
        simp [hez] at this
      | some e2 =>
        have hz2 : e2.z = text := by
          have := List.find?_some ef
          simpa using this
        rw [ef] at eR
        refine tup_go (cons_go (var_go rfl (cons_go (var_go rfl (nil_go ⟨szL rfl, fun q hq => h1 _ _ _ eR ((s02.tr s3).tr (Same.new hq)) (.tup (.inl upd_same) ?_)⟩)))))
        show DqAll K _ [.str text, .int (l : Nat)] [.str e2.z, .int (l : Nat)]
        rw [hz2]
        exact .cons (.str _) (.cons (.int _) .nil)
    · have g3 := of_decide_eq_false g3
      refine c_go (h0 ?_ H3 (s02.tr s3))
      rw [eR]
      cases ef : (endsOf kind).find? fun e => decide (e.z = text) with
      | none => rfl
      | some e2 =>
        have hz2 : e2.z = text := by
          have := List.find?_some ef
          simpa using this
        exact absurd (List.mem_map.mpr ⟨e2, List.mem_of_find?_eq_some ef, hz2⟩) g3
  have g := of_decide_eq_false g
  rw [if_neg g] at eR
  have s02 := s1.tr s2
  have hlt : EvT (tTest (tOp (rI0 fun i j => V.bl (decide (i < j))) (tCB (fun xs H Q => ∃ p ys, xs = [V.ref p] ∧ (SqL K H p ys ∨ SqT K H p ys) ∧ Q (.int (ys.length : Nat)) H) (tCons (tVar 3) tNil)) (tC (.int 3)))) S H2 (decide (ws.length < 3)) := by
    have := ev_test (ev_lt (LN s2) fun _ _ => ev_C (v := .int 3))
    rw [show decide ((ws.length : Int) < 3) = decide (ws.length < 3) from decide_eq_decide.mpr (by omega)] at this
    exact this
  refine seq_if (σ := S) (b1 := decide (ws.length < 3) || !decide (ws.getD 1 "" = "=")) (ev_or hlt (fun g2 H3 s3 => ne_str (W (i := 1) (s2.tr s3) (by have := of_decide_eq_false g2; omega)) fun _ _ => ev_C)) (fun g2 H3 s3 => ?_) (fun g2 H3 s3 => ?_)
  · refine ret_go (c_go (h0 ?_ H3 (s02.tr s3)))
    rw [eR, if_pos]
    rw [Bool.or_eq_true] at g2
    rcases g2 with g2 | g2
    · exact .inl (of_decide_eq_true g2)
    · exact .inr (by simpa using g2)
  rw [Bool.or_eq_false_iff] at g2
  have h3 : 3 ≤ ws.length := by have := of_decide_eq_false g2.1; omega
  have h4 : ws.getD 1 "" = "=" := by simpa using g2.2
  rw [if_neg (fun z => z.elim (fun z => by omega) (fun z => z h4))] at eR
  have s13 := s2.tr s3
  have s03 := s1.tr s13
  refine seq_if (σ := S) (b1 := decide (ws.getD 0 "" = "stamp") && !decide (kind = "look")) (ev_and (eq_str (W (i := 0) s13 (by omega)) fun _ _ => ev_C) fun _ H4 s4 => ne_str (x := kind) (ev_var rfl) fun _ _ => ev_C) (fun g3 H4 s4 => ?_) (fun g3 H4 s4 => ?_)
  · rw [Bool.and_eq_true] at g3
    have g5 : kind ≠ "look" := by simpa using g3.2
    rw [if_pos ⟨of_decide_eq_true g3.1, g5⟩] at eR
    have s14 := s13.tr s4
    refine ret_go (call_go (cons_go ⟨_, rfl, _, rfl, wa, _, rfl, .inl (.inl (s14 _ _ hwa)), fun q hq => ?_⟩))
    rw [show cutV (ws.map V.str) (some 2) none = _ from cut_from _ 2, ← List.map_drop]
    refine cons_go (var_go rfl (nil_go ⟨q, ws.drop 2, l, rfl, .inl (.inl upd_same), ?_, (fun z hz => hwl z (List.mem_of_mem_drop hz)), (fun e H' s' => h0 (eR.trans e) H' ((s1.tr s14).tr ((Same.new hq).tr s'))), fun r v H' e s' hv => h1 r v H' (eR.trans e) ((s1.tr s14).tr ((Same.new hq).tr s')) hv⟩))
    intro e
    have := congrArg List.length e
    rw [List.length_drop] at this
    simp at this
    omega
  have hns : ¬ (ws.getD 0 "" = "stamp" ∧ kind ≠ "look") := fun ⟨k1, k2⟩ => by
    rw [decide_eq_true k1, decide_eq_false k2] at g3
    cases g3
  rw [if_neg hns] at eR
  have s14 := s13.tr s4
  refine par3_go (cons_go (c_go (cons_go (c_go (cons_go ⟨_, rfl, _, rfl, wa, _, rfl, .inl (.inl (s14 _ _ hwa)), fun tq htq => ?_⟩)))))
  rw [show cutV (ws.map V.str) (some 2) none = _ from cut_from _ 2, ← List.map_drop]
  have s45 : Same H4 (upd H4 tq (.lst ((ws.drop 2).map V.str))) := Same.new htq
  have i5 : upd H4 tq (.lst ((ws.drop 2).map V.str)) tq = some (.lst ((ws.drop 2).map V.str)) := upd_same
  generalize upd H4 tq (.lst ((ws.drop 2).map V.str)) = H5 at s45 i5 ⊢
  refine nil_go ⟨_, _, _, rfl, ?_⟩
  have s15 := s14.tr s45
  let S5 : L2.St := [some (.str kind), some (.str text), some (.int (l : Nat)), some (.ref wa), some .non, some .non, some (.ref tq), none, none]
  obtain ⟨rr, hrr, hrr2, hrr3⟩ := deed_in T (last2 ws)
  have L2' : ∀ {H6 : Hp} {u4 u5 u6 : Option V}, Same H1 H6 → EvE (tOp (rIxL K) (tVar 3) (tUn (rU fun i => .int (-i)) (tC (.int 2)))) [some (.str kind), some (.str text), some (.int (l : Nat)), some (.ref wa), u4, u5, u6, none, none] H6 (.str (last2 ws)) := fun {H6 u4 u5 u6} s => ev_ixL (ev_var rfl) (fun _ _ => ev_m1) (.inl (.inl (s _ _ hwa))) (by
    have e2 : atI (ws.map V.str) (-2) = some (.str (last2 ws)) := by
      rw [atI_m2 (by rw [List.length_map]; omega), List.length_map, List.getElem?_map]
      unfold last2
      rw [List.getD_eq_getElem?_getD, List.getElem?_eq_getElem (show ws.length - 2 < ws.length by omega)]
      rfl
    exact e2)
  refine seq_ifQ (fun z1 H6 => ∃ (dd : Option Str) (fo : Option Int) (tq : Addr) (us : List Str), z1 = [some (.str kind), some (.str text), some (.int (l : Nat)), some (.ref wa), some (oS dd), some (Tld.oI fo), some (.ref tq), none, none] ∧ Same H1 H6 ∧ H6 tq = some (.lst (us.map V.str)) ∧ (∀ z ∈ us, z.length ≤ 1000000) ∧
    rowI kind text l = (if ws.getD 0 "" ∈ goalsOf kind ∧ (dd = none ∨ fo.isSome = true) then (Tld.tSum (namesOf kind) us).map fun t => IdRow.set l (ws.getD 0 "") t dd fo else none)) (fun k => ?_) ?_
  · refine ev_test (b1 := (deedW (last2 ws)).isSome) (ev_op (L2' s15) (fun _ _ => ev_C) fun H6 _ Q q => ⟨last2 ws, rr, rfl, rfl, hrr, by rw [hrr2]; exact q⟩) _ fun H6 s6 => ?_
    have s16 := s15.tr s6
    cases ed : deedW (last2 ws) with
    | none =>
      rw [ed] at eR
      refine iteF (k _ _ ⟨none, none, tq, ws.drop 2, rfl, s16, s6 _ _ i5, fun z hz => hwl z (List.mem_of_mem_drop hz), ?_⟩)
      rw [eR]
      by_cases hg : ws.getD 0 "" ∈ goalsOf kind
      · rw [if_pos hg, if_pos ⟨hg, .inl rfl⟩]
      · rw [if_neg hg, if_neg fun h => hg h.1]
    | some d =>
      rw [ed] at eR
      refine iteT ?_
      have hl4 : 4 ≤ ws.length := by
        by_cases z : 4 ≤ ws.length
        · exact z
        · have e3 : ws.length = 3 := by omega
          have e4 : last2 ws = ws.getD 1 "" := by unfold last2; rw [e3]
          rw [e4, h4] at ed
          revert ed
          unfold deedW
          rw [if_neg (by decide +kernel), if_neg (by decide +kernel), if_neg (by decide +kernel)]
          exact fun z => by cases z
      refine cons_go (ev_op (σ := S5) (v := .str d) ev_C (fun H7 s7 => L2' (s16.tr s7)) (fun H7 _ Q q => ⟨_, last2 ws, .str d, rfl, rfl, hrr3 d ed, q⟩) _ fun H7 s7 => ?_)
      have s17 := s16.tr s7
      refine cons_go (call_go (cons_go (L2' s17 _ fun H8 s8 => cons_go (ev_lastW (σ := S5) (ev_var rfl) (.inl (.inl ((s17.tr s8) _ _ hwa))) hnw _ fun H9 s9 => nil_go ⟨_, _, rfl, hwl _ (getLastD_mem hnw), fun Ha sa => ?_⟩))))
      have s1a := ((s17.tr s8).tr s9).tr sa
      refine cons_go ⟨_, rfl, _, rfl, _, rfl, _, rfl, wa, _, rfl, .inl (.inl (s1a _ _ hwa)), fun t2 ht2 => ?_⟩
      have ec : cutV (ws.map V.str) (some 2) (some (-2)) = ((ws.drop 2).take (ws.length - 4)).map V.str := by
        rw [cut_mid _ (by rw [List.length_map]; omega), List.length_map, List.map_take, List.map_drop]
      rw [show cutV (ws.map V.str) (some 2) (some (-2)) = _ from ec]
      refine nil_go ⟨_, _, _, rfl, k _ _ ⟨some d, facOf (last2 ws) (ws.getLastD ""), t2, (ws.drop 2).take (ws.length - 4), rfl, s1a.tr (Same.new ht2), upd_same, fun z hz => hwl z (List.mem_of_mem_drop (List.mem_of_mem_take hz)), ?_⟩⟩
      rw [eR]
      by_cases hg : ws.getD 0 "" ∈ goalsOf kind
      · show (if _ then _ else none) = _
        rw [if_pos hg]
        cases facOf (last2 ws) (ws.getLastD "") with
        | none =>
          rw [if_neg (fun h => h.2.elim (fun z => by cases z) (fun z => by cases z))]
          cases Tld.tSum (namesOf kind) ((ws.drop 2).take (ws.length - 4)) <;> rfl
        | some f =>
          rw [if_pos ⟨hg, .inr rfl⟩]
          cases Tld.tSum (namesOf kind) ((ws.drop 2).take (ws.length - 4)) <;> rfl
      · show (if _ then _ else none) = _
        rw [if_neg hg, if_neg fun h => hg h.1]
  · rintro z1 H6 ⟨dd, fo, tq, us, rfl, s6, hus, hul, eR2⟩
    have s16 := s1.tr s6
    refine set_via (fun v H7 => Same H6 H7 ∧ (match Tld.tSum (namesOf kind) us with | none => v = .non | some t => Dq K H7 v (.tuple (t.map atD)))) (fun R hR => call_go (cons_go (var_go rfl (cons_go ⟨_, rfl, _, kind, .ref na, rfl, rfl, hna, nil_go ⟨tq, na, us, namesOf kind, rfl, .inl (.inl hus), hna2 _, hul, (fun et H7 s7 => hR _ _ ⟨s7, by rw [et]⟩), (fun qs vs p H7 et s7 hp hat hp0 => hR _ _ ⟨s7, by rw [et]; exact .tup (.inl hp) (ats_dq hat)⟩)⟩⟩)))) ?_
    rintro v H7 ⟨s7, hv⟩
    generalize Tld.tSum (namesOf kind) us = os at hv eR2
    have s17 := s6.tr s7
    let S7 : L2.St := [some (.str kind), some (.str text), some (.int (l : Nat)), some (.ref wa), some (oS dd), some (Tld.oI fo), some (.ref tq), some v, none]
    have hvn : (!decide (v = .non)) = os.isSome := by
      cases os with
      | none => rw [show v = .non from hv]; rfl
      | some t =>
        obtain ⟨p, xs, e, _⟩ := Dq.tuple (show Dq K H7 v (.tuple (t.map atD)) from hv)
        rw [e]
        rfl
    have hdn : decide (oS dd = .non) = dd.isNone := by cases dd <;> rfl
    have hfn : (!decide (Tld.oI fo = .non)) = fo.isSome := by cases fo <;> rfl
    have ins : EvE (tOp (rIn K false) (tOp (rIxL K) (tVar 3) (tC (.int 0))) (tOp (rIxD K w) (tC (.ref (He.ga K "GOALS"))) (tVar 0))) S7 H7 (.bl (decide (ws.getD 0 "" ∈ goalsOf kind))) := ev_in (ev_word (i := 0) (ev_var rfl) (.inl (.inl (s17 _ _ hwa))) (by omega)) fun H8 _ Q k => ⟨_, rfl, _, kind, .ref gl, rfl, rfl, hgl, k H8 gl (Same.rf _) (.inr (hgl2 _))⟩
    refine set_te (ev_andV ins (fun _ H8 s8 => ev_andV (b1 := os.isSome) (notNv (ev_var rfl) hvn) fun _ H9 s9 => ev_orV (b1 := dd.isNone) (isNv (ev_var rfl) hdn) fun _ Ha sa => notNv (ev_var rfl) hfn) _ fun H8 s8 => ?_)
    have s18 := s17.tr s8
    refine ret_go ⟨_, rfl, _, rfl, iteB (fun g8 => ?_) (fun g8 => ?_)⟩
    · rw [Bool.and_eq_true, Bool.and_eq_true, Bool.or_eq_true] at g8
      obtain ⟨k1, k2, k3⟩ := g8
      cases os with
      | none => cases k2
      | some t =>
        have k3' : dd = none ∨ fo.isSome = true := k3.imp (fun h => by cases dd with | none => rfl | some _ => cases h) id
        rw [if_pos ⟨of_decide_eq_true k1, k3'⟩] at eR2
        refine tup_go (cons_go (c_go (cons_go (var_go rfl (cons_go (ev_word (i := 0) (σ := S7.set 8 (some (.bl _))) (ev_var rfl) (.inl (.inl (s18 _ _ hwa))) (by omega) _ fun H9 s9 => cons_go (var_go rfl (cons_go (var_go rfl (cons_go (var_go rfl (nil_go ⟨szL rfl, fun q hq => ?_⟩))))))))))))
        have sq := Same.new (o := .tup [.str "set", .int (l : Nat), .str (ws.getD 0 ""), v, oS dd, Tld.oI fo]) hq
        have sE := (s8.tr s9).tr sq
        refine h1 _ _ _ eR2 ((s1.tr s17).tr sE) (.tup (.inl upd_same) (.cons (.str _) (.cons (.int _) (.cons (.str _) (.cons (Dq.up sE.tl hv) (.cons (oS_dq _) (.cons ?_ .nil)))))))
        cases fo with
        | none => exact .non
        | some f => exact .int f
    · refine c_go (h0 ?_ H8 (s1.tr s18))
      rw [eR2]
      cases os with
      | none => split <;> rfl
      | some t =>
        rw [if_neg]
        rintro ⟨k1, k2⟩
        rw [decide_eq_true k1, Bool.true_and, Option.isSome_some, Bool.true_and] at g8
        rcases k2 with k2 | k2
        · rw [k2] at g8; cases g8
        · rw [k2, Bool.or_true] at g8; cases g8
end
end K17


set_option Elab.async false
set_option linter.all false
set_option maxRecDepth 100000
set_option maxHeartbeats 4000000
namespace L2
open PySem PySem.Spec PyProof.Rows
theorem pairs1_go {tv : TE} {v : V} {σ : St} {H : Hp} {Q : List (V × V) → Hp → Prop} (h : tv σ H fun y H2 => Q [(v, y)] H2) : tPairs [(tC v, tv)] σ H Q := h
theorem ev_rowE {K : PySem.W.Frag} {σ : St} {H : Hp} {tv : TE} {v : V} {ds : List PyData} {d : PyData} (i : Nat) (he : ∀ H', Same H H' → EvE tv σ H' v) (hd : Dq K H v (.tuple ds)) (hi : ds[i]? = some d) : ∃ u, Dq K H u d ∧ ∀ H', Same H H' → EvE (tOp (rIxT K) tv (tC (.int (i : Int)))) σ H' u := by
  obtain ⟨va, us, u, e, h1, h3, h4⟩ := dq_at hd hi
  subst e
  exact ⟨u, h4, fun H' s => ev_ixT (he H' s) (fun _ _ => ev_C) (s.seqT h1) (atI_nat h3)⟩
end L2
namespace Idr
open PySem Tld
def asked3 : List Str := ["page", "slot", "stamp"]
def oneNone : Part → Bool
  | .lent _ => false
  | .same a b _ => decide (a.2.isNone ≠ b.2.isNone)
  | .less a b _ _ => decide (a.2.isNone ≠ b.2.isNone)
def partI (kind text : Str) : Option Part :=
  if kind = "look" then tPart (namesOf kind) true text
  else match tPart asked3 false text with
    | none => none
    | some p => if oneNone p then some p else none
theorem no_lent {ns : List Str} {text : Str} {w : Bool} (h : tPart ns false text = some (.lent w)) : False := by
  unfold tPart at h
  rw [if_neg (fun z => by cases z.1)] at h
  split at h
  · split at h
    · split at h
      · split at h <;> cases h
      · cases h
    · cases h
  · cases h
end Idr
namespace K17
open PySem PySem.Spec PyProof.Rows L2 Rdr LmX LamX NdefX Idr Tld
section
variable {P : Program} {w : World} {K : PySem.W.Frag} {mg : Str → Option Value} {base : Heap}
def spPartOf (K : PySem.W.Frag) : Sp := fun vs H Q _ => ∃ (kind text : Str), vs = [.str kind, .str text] ∧ kind ∈ kinds3 ∧ text.length ≤ 1000 ∧
  (partI kind text = none → ∀ H', Same H H' → Q .non H') ∧ ∀ p v H', partI kind text = some p → Same H H' → Dq K H' v (.tuple (pds p)) → Q v H'
theorem ok_part_of (T : Tx P w K mg) : FnX P w K mg base CX0 4 "part_of" ["kind", "text"] [] (spPartOf K) := by
  have F_told_part := ok_told_part (P := P) (w := w) (base := base) T
  refine T.d_part_of.ok0 sc_part_of (fun _ _ _ _ _ _ us hl => match us, hl with | [_, _], _ => rfl) (fun vs H Q E h => ?_) (fun f cdv A outer s H vs Q E hr h => have hu := hu_of hr; ⟨_, (by exact (pss_cons (ps_if (pt_cmpR op_eq (pv 0) pe_str (nomark _)) (pss_one (ps_ret (pe_callX F_told_part (hr.mono (by first | decide | omega)) pass0 (pa_cons (pv 1) (pa_cons (pe_ix ix_kdict (pe_gref T.g_NAMES) (pv 0) (fun _ _ => rfl)) (pa_cons (pe_disp (pps_cons pe_str (pe_tup (pa_cons pe_str pa_nil)) pps_nil) (by rfl) (by rfl) (fun z => by cases z) (by decide)) pa_nil)))))) pss_nil)
      (pss_cons (ps_set (i := 2) sc_part_of.nd rfl (Or.inl rfl) (pe_callX F_told_part (hr.mono (by first | decide | omega)) pass0 (pa_cons (pv 1) (pa_cons (pe_gref T.g_ASKED) (pa_cons pe_dnewK pa_nil)))))
      (pss_one (ps_ret (pe_ifExp (PW.pt (pw_and (pt_cmpR op_notN (pv 2) pe_non (nomark _)) (pw_and1 (pt_cmpR op_ne (pe_cmpR op_isN (pe_ix ix_tup (pe_ix ix_tup (pe_ix ix_tup (pv 2) pe_int (fun _ _ => rfl)) pe_int (fun _ _ => rfl)) pe_int (fun _ _ => rfl)) pe_non (nomark _)) (pe_cmpR op_isN (pe_ix ix_tup (pe_ix ix_tup (pe_ix ix_tup (pv 2) pe_int (fun _ _ => rfl)) pe_int (fun _ _ => rfl)) pe_int (fun _ _ => rfl)) pe_non (nomark _)) (nomark _))))) (pv 2) pe_non)))))), ?_⟩)
  · obtain ⟨kind, text, rfl, _⟩ := h
    rfl
  obtain ⟨kind, text, rfl, hk, htl, h0, h1⟩ := h
  obtain ⟨⟨na, hna, hna2⟩, _, _⟩ := kd3 T hk
  let S : L2.St := [some (.str kind), some (.str text), none]
  refine seq_if (σ := S) (eq_str (x := kind) (ev_var rfl) fun _ _ => ev_C) (fun g H1 s1 => ?_) (fun g H1 s1 => ?_)
  · have g := of_decide_eq_true g
    have eP : partI kind text = tPart (namesOf kind) true text := if_pos g
    refine ret_go (call_go (cons_go (var_go rfl (cons_go ⟨_, rfl, _, kind, .ref na, rfl, rfl, hna, cons_go ?_⟩))))
    refine fun da hda => pairs1_go (tup_go (cons_go (c_go (nil_go ⟨szL rfl, fun q hq => ?_⟩))))
    have t1 : Same H1 (upd H1 da (.dK [])) := Same.new hda
    have i1 : upd H1 da (.dK []) da = some (.dK []) := upd_same
    generalize upd H1 da (.dK []) = H2 at t1 i1 hq ⊢
    have t2 : Same H2 (upd H2 q (.tup [.str "lent"])) := Same.new hq
    have i2 : upd H2 q (.tup [.str "lent"]) q = some (.tup [.str "lent"]) := upd_same
    generalize upd H2 q (.tup [.str "lent"]) = H3 at t2 i2 ⊢
    refine ⟨t2 _ _ i1, [((.inr "lent" : Key), .ref q)], rfl, (show 1 ≤ 15 by decide), ?_⟩
    have hdq : da ≠ q := fun e => by rw [← e, t2 _ _ i1] at i2; cases i2
    have sA : Same H1 (upd H3 da (.dK (mergeK [] [((.inr "lent" : Key), .ref q)]))) := (t1.tr t2).mut hda
    have iA : upd H3 da (.dK (mergeK [] [((.inr "lent" : Key), .ref q)])) da = some (.dK [((.inr "lent" : Key), .ref q)]) := upd_same
    have iQ : upd H3 da (.dK (mergeK [] [((.inr "lent" : Key), .ref q)])) q = some (.tup [.str "lent"]) := by rw [upd_ne (Ne.symm hdq)]; exact i2
    generalize upd H3 da (.dK (mergeK [] [((.inr "lent" : Key), .ref q)])) = H4 at sA iA iQ ⊢
    have s14 := s1.tr sA
    exact nil_go ⟨text, na, da, namesOf kind, true, rfl, htl, hna2 _, ⟨q, iA, iQ⟩, fun e H' s' => h0 (eP.trans e) H' (s14.tr s'), fun p v H' e s' hv => h1 p v H' (eP.trans e) (s14.tr s') (by rw [← toD_pds]; exact hv)⟩
  · have g := of_decide_eq_false g
    have eP : partI kind text = (match tPart asked3 false text with
      | none => none
      | some p => if oneNone p then some p else none) := if_neg g
    refine set_via (fun v H7 => Same H1 H7 ∧ (match tPart asked3 false text with | none => v = .non | some p => Dq K H7 v (.tuple (pds p)))) (fun R hR => call_go (cons_go (var_go rfl (cons_go (c_go (cons_go fun da hda => nil_go ⟨text, _, da, asked3, false, rfl, htl, T.t_ASKED _, upd_same, fun e H' s' => hR _ _ ⟨(Same.new hda).tr s', by rw [e]⟩, fun p v H' e s' hv => hR _ _ ⟨(Same.new hda).tr s', by rw [e]; show Dq K H' v (.tuple (pds p)); rw [← toD_pds]; exact hv⟩⟩)))))) ?_
    rintro v H2 ⟨s2, hv⟩
    have s02 := s1.tr s2
    let S2 : L2.St := [some (.str kind), some (.str text), some v]
    have V2 : ∀ {H}, EvE (tVar 2) S2 H v := ev_var rfl
    cases ep : tPart asked3 false text with
    | none =>
      rw [ep] at hv eP
      have hv : v = .non := hv
      subst hv
      exact ret_go ((ev_and (b2 := false) (ev_test (notNv (v := .non) (ev_var (i := 2) rfl) rfl)) fun z => by cases z) _ fun H3 s3 => iteF (c_go (h0 eP H3 (s02.tr s3))))
    | some p =>
      rw [ep] at hv eP
      have hv : Dq K H2 v (.tuple (pds p)) := hv
      have hnn : (!decide (v = .non)) = true := by
        obtain ⟨q, us, e, _⟩ := Dq.tuple hv
        rw [e]; rfl
      have key : ∀ (a b : At), (pds p)[1]? = some (.tuple [atD a]) → (pds p)[2]? = some (.tuple [atD b]) → oneNone p = decide (a.2.isNone ≠ b.2.isNone) → tIf (tAnd (tTest (tOp (fun x y H Q => y = V.non ∧ Q (V.bl !decide (x = V.non)) H) (tVar 2) (tC .non))) (tTest (tOp rNe (tOp (fun x y H Q => y = V.non ∧ Q (V.bl (decide (x = V.non))) H) (tOp (rIxT K) (tOp (rIxT K) (tOp (rIxT K) (tVar 2) (tC (.int 1))) (tC (.int 0))) (tC (.int 1))) (tC .non)) (tOp (fun x y H Q => y = V.non ∧ Q (V.bl (decide (x = V.non))) H) (tOp (rIxT K) (tOp (rIxT K) (tOp (rIxT K) (tVar 2) (tC (.int 2))) (tC (.int 0))) (tC (.int 1))) (tC .non))))) (tVar 2) (tC .non) S2 H2 Q := by
        intro a b e1 e2 e3
        have leg : ∀ (j : Nat) (a : At), (pds p)[j]? = some (.tuple [atD a]) → ∀ H', Same H2 H' → EvE (tOp (fun x y H Q => y = V.non ∧ Q (V.bl (decide (x = V.non))) H) (tOp (rIxT K) (tOp (rIxT K) (tOp (rIxT K) (tVar 2) (tC (.int (j : Int)))) (tC (.int 0))) (tC (.int 1))) (tC .non)) S2 H' (.bl a.2.isNone) := by
          intro j a ej H' s'
          obtain ⟨u1, d1, k1⟩ := ev_rowE (K := K) (σ := S2) (tv := tVar 2) j (fun _ _ => V2) hv ej
          obtain ⟨u2, d2, k2⟩ := ev_rowE (K := K) 0 k1 d1 rfl
          obtain ⟨u3, d3, k3⟩ := ev_rowE (K := K) 1 k2 (show Dq K H2 u2 (.tuple [.int a.1, oD a.2]) from d2) rfl
          refine isNv (k3 H' s') ?_
          obtain ⟨n, z⟩ := a
          cases z with
          | none => cases d3; rfl
          | some z => cases d3; rfl
        have hne : ∀ H', Same H2 H' → EvT (tTest (tOp rNe (tOp (fun x y H Q => y = V.non ∧ Q (V.bl (decide (x = V.non))) H) (tOp (rIxT K) (tOp (rIxT K) (tOp (rIxT K) (tVar 2) (tC (.int 1))) (tC (.int 0))) (tC (.int 1))) (tC .non)) (tOp (fun x y H Q => y = V.non ∧ Q (V.bl (decide (x = V.non))) H) (tOp (rIxT K) (tOp (rIxT K) (tOp (rIxT K) (tVar 2) (tC (.int 2))) (tC (.int 0))) (tC (.int 1))) (tC .non)))) S2 H' (oneNone p) := fun H' s' => by
          have := ev_test (ev_ne (leg 1 a e1 H' s') (fun H3 s3 => leg 2 b e2 H3 (s'.tr s3)) rfl)
          refine this.eq ?_
          rw [e3]
          cases a.2.isNone <;> cases b.2.isNone <;> decide
        refine (ev_and (ev_test (notNv V2 hnn)) fun _ H3 s3 => hne H3 s3) _ fun H3 s3 => iteB (fun g3 => ?_) (fun g3 => ?_)
        · have g3 : oneNone p = true := g3
          exact var_go rfl (h1 p v H3 (eP.trans (if_pos g3)) (s02.tr s3) (hv.up s3.tl))
        · have g3 : oneNone p = false := g3
          exact c_go (h0 (eP.trans (if_neg (by rw [g3]; decide))) H3 (s02.tr s3))
      cases p with
      | lent w => exact (no_lent ep).elim
      | same a b w => exact ret_go (key a b rfl rfl rfl)
      | less a b s w => exact ret_go (key a b rfl rfl rfl)
end
end K17


set_option Elab.async false
set_option linter.all false
set_option maxRecDepth 100000
set_option maxHeartbeats 4000000
namespace K17
open PySem PySem.Spec PyProof.Rows L2 Rdr LmX LamX NdefX Idr Tld
/-- the i-th lambda of the pair that the def's second statement stores -/
def lamE (st : Stmt) (i : Nat) : Option Expr := match defBody st with
  | _ :: .Assign _ (.Tuple es _ _) _ :: _ => es[i]?
  | _ => none
def lamAt (st : Stmt) (i : Nat) : Arguments × Expr × Scope := match lamE st i with
  | some (.Lambda p b sc _) => (p, b, sc)
  | _ => (defArgs st, .Tuple [] 0 { line := 0, col := 0, endLine := 0, endCol := 0 }, defScope st)
def lqual : Str := Str.ofString "IdCode.__init__.<locals>.<lambda>"
def lamF (i : Nat) (cells : List (Str × Addr)) (c' : Addr) : NF := ⟨"<lambda>", lqual, (lamAt s_IdCode_init i).1, [], (lamAt s_IdCode_init i).2.2, cloFrom cells (lamAt s_IdCode_init i).2.2.names [], c'⟩
theorem sc_l0 : NScope ["text", "line", "kind"] ["text", "line"] ["kind"] (lamAt s_IdCode_init 0).2.2 := nscope_by (by decide +kernel)
theorem sc_l1 : NScope ["text", "kind"] ["text"] ["kind"] (lamAt s_IdCode_init 1).2.2 := nscope_by (by decide +kernel)
section
variable {P : Program} {w : World} {K : PySem.W.Frag} {mg : Str → Option Value} {base : Heap}
theorem lam0 (T : Tx P w K mg) {base' : Heap} {kind : Str} (hk : kind ∈ kinds3) {cells : List (Str × Addr)} {f c' : Addr} (C : BCell base' (cloFrom cells (lamAt s_IdCode_init 0).2.2.names []) ["kind"] [some (.str kind)]) :
    LOk P w K mg base' 10 f (lamF 0 cells c') (lamAt s_IdCode_init 0).2.1 ["text", "line"] (spRowL K IdRow.ds (rowI kind)) := by
  have F_row_of := ok_row_of (base := base') T
  refine LOk.mono (j := 5) (lok_of sc_l0 (fun pm ctv us hl => match us, hl with | [_, _], _ => rfl) (fun vs H Q E h => by obtain ⟨t, n, rfl, _⟩ := h; rfl) C (fun A outer s H vs Q E hr h => ?_)) (by decide)
  obtain ⟨t, n, rfl, ht, h0, h1⟩ := h
  refine ⟨_, (pe_callX F_row_of (hr.mono (by first | decide | omega)) pass0 (pa_cons (pv 2) (pa_cons (pv 0) (pa_cons (pv 1) pa_nil)))), ?_⟩
  exact call_go (cons_go (var_go rfl (cons_go (var_go rfl (cons_go (var_go rfl (nil_go ⟨kind, t, n, rfl, hk, ht, h0, fun r v H' e s hv => h1 r v H' e s hv⟩)))))))
theorem lam1 (T : Tx P w K mg) {base' : Heap} {kind : Str} (hk : kind ∈ kinds3) {cells : List (Str × Addr)} {f c' : Addr} (C : BCell base' (cloFrom cells (lamAt s_IdCode_init 1).2.2.names []) ["kind"] [some (.str kind)]) :
    LOk P w K mg base' 10 f (lamF 1 cells c') (lamAt s_IdCode_init 1).2.1 ["text"] (spPartL K pds (partI kind)) := by
  have F_part_of := ok_part_of (base := base') T
  refine LOk.mono (j := 5) (lok_of sc_l1 (fun pm ctv us hl => match us, hl with | [_], _ => rfl) (fun vs H Q E h => by obtain ⟨t, rfl, _⟩ := h; rfl) C (fun A outer s H vs Q E hr h => ?_)) (by decide)
  obtain ⟨t, rfl, ht, h0, h1⟩ := h
  refine ⟨_, (pe_callX F_part_of (hr.mono (by first | decide | omega)) pass0 (pa_cons (pv 1) (pa_cons (pv 0) pa_nil))), ?_⟩
  exact call_go (cons_go (var_go rfl (cons_go (var_go rfl (nil_go ⟨kind, t, rfl, hk, ht, h0, fun r v H' e s hv => h1 r v H' e s hv⟩)))))
end
end K17
namespace Idr
open PySem Tld Rdr
theorem tGo_len {ns all : List Str} : ∀ {r : List Str} {i : Nat} {found qs : List (Int × Option Str)} {seen : List Str}, tGo ns all i r found seen = some qs → qs.length ≤ found.length + r.length
  | [], i, found, qs, seen, h => by
    unfold tGo at h
    cases h
    simp
  | z :: r, i, found, qs, seen, h => by
    unfold tGo at h
    split at h
    · split at h
      · have q := tGo_len h
        simp; omega
      · cases h
    · split at h
      · cases h
      · split at h
        · cases h
        · have q := tGo_len h
          simp at q ⊢
          omega
theorem tSum_len {ns ws : List Str} {qs : List (Int × Option Str)} (h : tSum ns ws = some qs) : qs.length ≤ 7 := by
  unfold tSum at h
  split at h
  · cases h
  · have q := tGo_len h
    simp at q
    omega
theorem itF_stamp (l : Nat) (h : Str) (n : Int) : itF (.leaf (.stamp l h n)) = if h = "rest" then some (l, some n) else none := rfl
theorem rowI_ok {kind text : Str} {l : Nat} {r : IdRow} (h : rowI kind text l = some r) : K17.okIt (.leaf r) ∧ ∀ p, itF (.leaf r) = some p → ∀ f, p.2 = some f → 0 < f := by
  unfold rowI at h
  dsimp only at h
  split at h
  · obtain ⟨e, _, rfl⟩ := Option.map_eq_some_iff.mp h
    exact ⟨trivial, fun p hp => by cases hp⟩
  · split at h
    · cases h
    · split at h
      · unfold stampOf at h
        split at h
        · obtain ⟨n, _, rfl⟩ := Option.map_eq_some_iff.mp h
          refine ⟨trivial, fun p hp => ?_⟩
          rw [itF_stamp, if_neg (by decide +kernel)] at hp
          cases hp
        · split at h
          · cases h
          · split at h
            · split at h
              · cases h
              · split at h
                · cases h
                  refine ⟨trivial, fun p hp => ?_⟩
                  rw [itF_stamp, if_neg (by decide +kernel)] at hp
                  cases hp
                · cases h
            · split at h
              · obtain ⟨n, hn, rfl⟩ := Option.map_eq_some_iff.mp h
                refine ⟨trivial, fun p hp f hf => ?_⟩
                rw [itF_stamp, if_pos rfl] at hp
                cases hp
                cases hf
                exact facOf_pos hn
              · cases h
      · split at h
        · split at h
          · obtain ⟨t, ht, rfl⟩ := Option.map_eq_some_iff.mp h
            have := tSum_len ht
            exact ⟨show t.length ≤ 1000 by omega, fun p hp f hf => by cases hp; cases hf⟩
          · cases h
        · split at h
          · split at h
            · rename_i ht hf2
              cases h
              have := tSum_len ht
              refine ⟨show _ ≤ 1000 by omega, fun p hp f hf => ?_⟩
              cases hp
              cases hf
              exact facOf_pos hf2
            · cases h
          · cases h
theorem src_ok {kind : Str} {t : TR} (h : ∀ it ∈ t.all, Src (rowI kind) it) : (∀ it ∈ t.all, K17.okIt it) ∧ ∀ q ∈ facs t, 0 < q.2 := by
  refine ⟨fun it hi => ?_, fun q hq => ?_⟩
  · have := h it hi
    cases it with
    | ifi l ps a b => exact this
    | leaf x =>
      obtain ⟨text, n, e⟩ := this
      exact (rowI_ok e).1
  · unfold facs at hq
    rw [List.mem_filterMap] at hq
    obtain ⟨p, hp, hq⟩ := hq
    rw [List.mem_filterMap] at hp
    obtain ⟨it, hi, hp⟩ := hp
    obtain ⟨f, hf, rfl⟩ := Option.map_eq_some_iff.mp hq
    have := h it hi
    cases it with
    | ifi l ps a b => cases hp
    | leaf x =>
      obtain ⟨text, n, e⟩ := this
      exact (rowI_ok e).2 p hp f hf
end Idr


set_option Elab.async false
set_option linter.all false
set_option maxRecDepth 100000
set_option maxHeartbeats 4000000
/-! the law's reading of a line is the program's -/
namespace Idr
open PySem Rdr Tld L2
abbrev wds (t : Str) : List Str := Txt.split t spW
def lnum (z : Str) : Int := (tNum z).getD (-1)
theorem lnum_some {z : Str} {n : Int} (h : tNum z = some n) : lnum z = n ∧ 0 ≤ n := by
  unfold lnum
  rw [h]
  refine ⟨rfl, ?_⟩
  unfold tNum at h
  split at h
  · cases h; exact Int.natCast_nonneg _
  · cases h
theorem lnum_none {z : Str} (h : tNum z = none) : lnum z = -1 := by unfold lnum; rw [h]; rfl
theorem lnum_pos (z : Str) : decide (0 ≤ lnum z) = (tNum z).isSome := by
  cases h : tNum z with
  | none => rw [lnum_none h]; rfl
  | some n => rw [(lnum_some h).1]; exact decide_eq_true (lnum_some h).2
theorem names_no : ∀ kind ∈ kinds3, ∀ z ∈ namesOf kind, tNum z = none := by decide +kernel
theorem asked_no : ∀ z ∈ asked3, tNum z = none := by decide +kernel
def pm2 : List Str := ["+", "-"]
/-- the even words of a sum -/
def sumGo (ns : List Str) : List Str → List Str → Bool
  | [], _ => true
  | z :: r, seen => if z ∈ ns ∧ z ∉ seen then sumGo ns r (seen ++ [z]) else if lnum z < 0 then false else sumGo ns r seen
def isSum (ns ws : List Str) : Bool := decide (ws.length ∈ ([1, 3, 5, 7] : List Nat)) && ((ev2 (ws.drop 1)).all (fun z => decide (z ∈ pm2)) && sumGo ns (ev2 ws) [])
theorem ev2_cons {α : Type} (p : α) : ∀ r : List α, ev2 (p :: r) = p :: ev2 (r.drop 1)
  | [] => by simp [ev2]
  | x :: r => by simp [ev2]
theorem go_eq {ns all : List Str} (hn : ∀ z ∈ ns, tNum z = none) : ∀ (r : List Str) (i : Nat) (found : List At) (s1 s2 : List Str), (∀ x, x ∈ s1 ↔ x ∈ s2) →
    (i % 2 = 0 → (tGo ns all i r found s1).isSome = ((ev2 (r.drop 1)).all (fun z => decide (z ∈ pm2)) && sumGo ns (ev2 r) s2)) ∧
    (i % 2 = 1 → (tGo ns all i r found s1).isSome = ((ev2 r).all (fun z => decide (z ∈ pm2)) && sumGo ns (ev2 (r.drop 1)) s2))
  | [], i, found, s1, s2, hs => ⟨fun _ => by unfold tGo; simp [ev2, sumGo], fun _ => by unfold tGo; simp [ev2, sumGo]⟩
  | z :: r, i, found, s1, s2, hs => by
    constructor
    · intro hi
      rw [List.drop_succ_cons, List.drop_zero, ev2_cons]
      unfold tGo sumGo
      rw [if_neg (by omega)]
      unfold tAtom
      by_cases hz : z ∈ ns
      · rw [if_pos hz]
        dsimp only
        by_cases hz2 : z ∈ s2
        · have h1 : inSeen s1 (some z) = true := decide_eq_true ((hs z).mpr hz2)
          rw [if_pos h1, if_neg (show ¬ (z ∈ ns ∧ z ∉ s2) from fun h => h.2 hz2), lnum_none (hn z hz), if_pos (by decide)]
          simp
        · have h1 : ¬ inSeen s1 (some z) = true := fun h => hz2 ((hs z).mp (of_decide_eq_true h))
          rw [if_neg h1, if_pos (show z ∈ ns ∧ z ∉ s2 from ⟨hz, hz2⟩)]
          exact (go_eq hn r (i + 1) _ _ _ (fun x => by rw [List.mem_cons, List.mem_append, List.mem_singleton, hs x]; exact Or.comm)).2 (by omega)
      · rw [if_neg hz, if_neg (show ¬ (z ∈ ns ∧ z ∉ s2) from fun h => hz h.1)]
        cases ht : tNum z with
        | none =>
          rw [lnum_none ht, if_pos (by decide)]
          simp
        | some n =>
          obtain ⟨e, h0⟩ := lnum_some ht
          rw [e, if_neg (by omega)]
          dsimp only [Option.map_some]
          rw [if_neg (show ¬ inSeen s1 none = true from fun h => by cases h)]
          exact (go_eq hn r (i + 1) _ _ _ hs).2 (by omega)
    · intro hi
      rw [List.drop_succ_cons, List.drop_zero, ev2_cons, List.all_cons]
      unfold tGo
      rw [if_pos hi]
      by_cases hz : z ∈ pm2
      · have h1 : z ∈ ([Str.ofString "+", Str.ofString "-"] : List Str) := hz
        rw [if_pos h1, decide_eq_true hz, Bool.true_and]
        exact (go_eq hn r (i + 1) _ _ _ hs).1 (by omega)
      · have h1 : z ∉ ([Str.ofString "+", Str.ofString "-"] : List Str) := hz
        rw [if_neg h1, decide_eq_false hz, Bool.false_and, Bool.false_and]
        rfl
theorem isSum_eq {ns ws : List Str} (hn : ∀ z ∈ ns, tNum z = none) : isSum ns ws = (tSum ns ws).isSome := by
  unfold isSum tSum
  by_cases h : ws.length % 2 = 0 ∨ 7 < ws.length
  · rw [if_pos h, decide_eq_false (by simp; omega), Bool.false_and]
    rfl
  · rw [if_neg h, decide_eq_true (by simp; omega), Bool.true_and]
    exact ((go_eq hn ws 0 [] [] [] (fun _ => Iff.rfl)).1 rfl).symm
def sg6 : List Str := ["*", "//", "mod", "<<", ">>", "&"]
def isPow (n : Int) : Bool := (List.range 90).any fun k => decide ((2 : Int) ^ (k + 1) = n)
def isFac (s z : Str) : Bool :=
  if s ∈ (["*", "//", "mod"] : List Str) then decide (2 ≤ lnum z) else if s = "&" then isPow (lnum z + 1) else decide (s ∈ (["<<", ">>"] : List Str)) && (decide (1 ≤ lnum z) && decide (lnum z ≤ 90))
theorem pow_eq (n : Int) : isPow (n + 1) = isOnes n := by
  unfold isPow isOnes
  rw [List.any_map, Bool.eq_iff_iff, List.any_eq_true, List.any_eq_true]
  constructor
  · rintro ⟨k, hk, h⟩
    have h := of_decide_eq_true h
    exact ⟨k, hk, decide_eq_true (by omega)⟩
  · rintro ⟨k, hk, h⟩
    have h := of_decide_eq_true h
    exact ⟨k, hk, decide_eq_true (by omega)⟩
theorem fac_eq {s z : Str} (hs : s ∈ sg6) : isFac s z = (facOf s z).isSome := by
  unfold isFac facOf
  cases h : tNum z with
  | none =>
    rw [lnum_none h]
    split
    · rfl
    · split
      · rw [pow_eq]; decide +kernel
      · simp
  | some n =>
    rw [(lnum_some h).1]
    dsimp only
    split
    · by_cases g : 2 ≤ n
      · rw [if_pos g, decide_eq_true g]; rfl
      · rw [if_neg g, decide_eq_false g]; rfl
    · rename_i h1
      split
      · rw [pow_eq]
        cases isOnes n <;> rfl
      · rename_i h2
        have h3 : s ∈ (["<<", ">>"] : List Str) := by
          unfold sg6 at hs
          simp only [List.mem_cons, List.not_mem_nil, or_false] at hs h1 ⊢
          have h2 : ¬ s = Str.ofString "&" := h2
          rcases hs with e | e | e | e | e | e
          · exact absurd (.inl e) h1
          · exact absurd (.inr (.inl e)) h1
          · exact absurd (.inr (.inr e)) h1
          · exact .inl e
          · exact .inr e
          · exact absurd e h2
        rw [decide_eq_true h3, Bool.true_and]
        by_cases g : 1 ≤ n ∧ n ≤ 90
        · rw [if_pos g, decide_eq_true g.1, decide_eq_true g.2]; rfl
        · rw [if_neg g]
          by_cases g1 : 1 ≤ n
          · rw [decide_eq_true g1, decide_eq_false (fun z => g ⟨g1, z⟩)]; rfl
          · rw [decide_eq_false g1]; rfl
end Idr


set_option Elab.async false
set_option linter.all false
set_option maxRecDepth 100000
set_option maxHeartbeats 4000000
/-! parts of tests, whole lines -/
namespace Idr
open PySem Rdr Tld L2
def notS : Str := Str.ofString "not"
def ifS : Str := Str.ofString "if"
theorem not_f : 32 ∉ TL.tl notS ∧ (TL.tl (notS ++ spW)).length = 4 ∧ notS ++ spW = Str.ofString "not " := by decide +kernel
theorem if_f : 32 ∉ TL.tl ifS ∧ (TL.tl (ifS ++ spW)).length = 3 ∧ ifS ++ spW = Str.ofString "if " := by decide +kernel
def lt3 : List Str := ["<", "<=", "is"]
def partR (kind : Str) (rest : List Str) : Bool :=
  if rest = [Str.ofString "lent"] then decide (kind = "look")
  else if rest.length ≠ 3 ∨ rest.getD 1 "" ∉ lt3 ∨ rest.getD 0 "" = rest.getD 2 "" then false
  else if kind ≠ "look" then decide (rest.getD 0 "" ∈ asked3) && decide (0 ≤ lnum (rest.getD 2 "")) || decide (rest.getD 2 "" ∈ asked3) && decide (0 ≤ lnum (rest.getD 0 ""))
  else (decide (rest.getD 0 "" ∈ namesOf kind) || decide (0 ≤ lnum (rest.getD 0 ""))) && (decide (rest.getD 2 "" ∈ namesOf kind) || decide (0 ≤ lnum (rest.getD 2 "")))
def restP (ws : List Str) : List Str := if ws.take 1 = [notS] then ws.drop 1 else ws
def isPart (kind : Str) (ws : List Str) : Bool := partR kind (restP ws)
theorem len3 {α : Type} {l : List α} (h : l.length = 3) : ∃ a b c, l = [a, b, c] := by
  match l, h with
  | [a, b, c], _ => exact ⟨a, b, c, rfl⟩
theorem atom_cases {ns : List Str} (hn : ∀ z ∈ ns, tNum z = none) (z : Str) : (z ∈ ns ∧ tAtom ns z = some (1, some z) ∧ tNum z = none) ∨ (z ∉ ns ∧ tAtom ns z = (tNum z).map fun n => (n, none)) := by
  unfold tAtom
  by_cases h : z ∈ ns
  · exact .inl ⟨h, if_pos h, hn z h⟩
  · exact .inr ⟨h, if_neg h⟩
/-- the part behind «not» -/
def tRest (ns : List Str) (rest : List Str) (w : Bool) : Option Part := match rest with
    | [x, y, z] => if y ∈ (["<", "<=", "is"] : List Str) ∧ x ≠ z then
        (match tAtom ns x, tAtom ns z with
          | some a, some b => if y = "is" then some (.same a b w) else some (.less a b (decide (y = "<")) w)
          | _, _ => none) else none
    | _ => none
theorem rest_eq (p : Str) : (Txt.split (toldP p) spW = restP (wds p) ∨ (restP (wds p) = [] ∧ Txt.split (toldP p) spW = [notS] ∧ toldP p = notS)) ∧ (∀ u : Str, 32 ∉ TL.tl u → (toldP p = u ↔ Txt.split (toldP p) spW = [u])) := by
  refine ⟨?_, fun u hu => ⟨fun e => ?_, fun e => ?_⟩⟩
  · have hp := w_pre (t := p) not_f.1 not_f.2.1
    unfold toldP wantP restP
    by_cases h : cutS p none (some 4) = Str.ofString "not "
    · have h' : cutS p none (some ((4 : Nat) : Int)) = notS ++ spW := by rw [not_f.2.2]; exact h
      obtain ⟨w, r, hw⟩ := hp.mp h'
      have hc : decide (cutS p none (some 4) ≠ Str.ofString "not ") = false := decide_eq_false (fun z => z h)
      have hw' : wds p = notS :: w :: r := hw
      rw [if_neg (by rw [hc]; decide), hw', if_pos (show List.take 1 (notS :: w :: r) = [notS] from rfl)]
      exact .inl (w_post not_f.2.1 hw).2
    · have hc : decide (cutS p none (some 4) ≠ Str.ofString "not ") = true := decide_eq_true h
      rw [if_pos hc]
      by_cases h2 : (wds p).take 1 = [notS]
      · rw [if_pos h2]
        right
        obtain ⟨a, r, hw⟩ := List.exists_cons_of_ne_nil (w_ne p)
        have hw' : wds p = a :: r := hw
        rw [hw'] at h2 ⊢
        have ha : a = notS := by simpa using h2
        subst ha
        cases r with
        | nil =>
          have e := w_join p
          rw [hw] at e
          exact ⟨rfl, hw, by rw [← e]; exact TL.ext_tl (by rw [TL.join_eq, TL.tl_join]; rfl)⟩
        | cons b r =>
          exact absurd (by have := hp.mpr ⟨b, r, hw⟩; rw [not_f.2.2] at this; exact this) h
      · rw [if_neg h2]
        exact .inl rfl
  · rw [e]
    refine TL.map_tl_inj ?_
    rw [w_spl]
    exact TL.spl_last1 (acc := []) hu
  · have h := w_join (toldP p)
    rw [e] at h
    rw [← h]
    exact TL.ext_tl (by rw [TL.join_eq, TL.tl_join]; rfl)
theorem part_as (ns : List Str) (lk : Bool) (p : Str) : (tPart ns lk p) = if lk = true ∧ restP (wds p) = [Str.ofString "lent"] then some (.lent (wantP p)) else tRest ns (restP (wds p)) (wantP p) := by
  have hl : 32 ∉ TL.tl (Str.ofString "lent") := by decide +kernel
  obtain ⟨h1, h2⟩ := rest_eq p
  have e : tPart ns lk p = if lk = true ∧ toldP p = Str.ofString "lent" then some (.lent (wantP p)) else tRest ns (Txt.split (toldP p) spW) (wantP p) := rfl
  have hle : (toldP p = Str.ofString "lent") ↔ restP (wds p) = [Str.ofString "lent"] := by
    rw [h2 _ hl]
    rcases h1 with h1 | ⟨h1, h3, h4⟩
    · rw [h1]
    · rw [h1, h3]
      have : notS ≠ Str.ofString "lent" := by decide +kernel
      simp [this]
  rw [e]
  by_cases g : lk = true ∧ restP (wds p) = [Str.ofString "lent"]
  · rw [if_pos g, if_pos ⟨g.1, hle.mpr g.2⟩]
  · rw [if_neg g, if_neg (fun z => g ⟨z.1, hle.mp z.2⟩)]
    rcases h1 with h1 | ⟨h1, h3, h4⟩
    · rw [h1]
    · rw [h1, h3]; rfl
theorem lent_rest (ns : List Str) (w : Bool) {r : List Str} (h : r.length ≠ 3) : tRest ns r w = none := by
  unfold tRest
  split
  · exact absurd rfl h
  · rfl
theorem partR_bad {kind : Str} {r : List Str} (h1 : r ≠ [Str.ofString "lent"]) (h2 : r.length ≠ 3 ∨ r.getD 1 "" ∉ lt3 ∨ r.getD 0 "" = r.getD 2 "") : partR kind r = false := by
  unfold partR
  rw [if_neg h1, if_pos h2]
theorem partR_3 {kind x y z : Str} (h : y ∈ lt3 ∧ x ≠ z) : partR kind [x, y, z] = if kind ≠ "look" then decide (x ∈ asked3) && decide (0 ≤ lnum z) || decide (z ∈ asked3) && decide (0 ≤ lnum x) else (decide (x ∈ namesOf kind) || decide (0 ≤ lnum x)) && (decide (z ∈ namesOf kind) || decide (0 ≤ lnum z)) := by
  unfold partR
  rw [if_neg (show ¬ [x, y, z] = [Str.ofString "lent"] from fun e => by cases e), if_neg (show ¬ (([x, y, z] : List Str).length ≠ 3 ∨ ([x, y, z] : List Str).getD 1 "" ∉ lt3 ∨ ([x, y, z] : List Str).getD 0 "" = ([x, y, z] : List Str).getD 2 "") from by rintro (g | g | g); exact g rfl; exact g h.1; exact h.2 g)]
  rfl
theorem tRest_3 {ns : List Str} {x y z : Str} {w : Bool} (h : y ∈ lt3 ∧ x ≠ z) : tRest ns [x, y, z] w = match tAtom ns x, tAtom ns z with
    | some a, some b => if y = "is" then some (.same a b w) else some (.less a b (decide (y = "<")) w)
    | _, _ => none := if_pos h
theorem tRest_bad {ns r : List Str} {w : Bool} (h2 : r.length ≠ 3 ∨ r.getD 1 "" ∉ lt3 ∨ r.getD 0 "" = r.getD 2 "") : tRest ns r w = none := by
  by_cases g3 : r.length = 3
  · obtain ⟨x, y, z, rfl⟩ := len3 g3
    refine if_neg fun h => ?_
    rcases h2 with g | g | g
    · exact g rfl
    · exact g h.1
    · exact h.2 g
  · exact lent_rest _ _ g3
theorem part_eq {kind : Str} (hk : kind ∈ kinds3) (p : Str) : isPart kind (wds p) = (partI kind p).isSome := by
  unfold isPart partI
  rw [part_as, part_as]
  generalize restP (wds p) = r
  generalize wantP p = w
  by_cases g : r = [Str.ofString "lent"]
  · have e1 : partR kind r = decide (kind = "look") := if_pos g
    rw [e1]
    by_cases hl : kind = "look"
    · rw [if_pos hl, if_pos (show true = true ∧ r = [Str.ofString "lent"] from ⟨rfl, g⟩), decide_eq_true hl]; rfl
    · rw [if_neg hl, if_neg (show ¬ (false = true ∧ r = [Str.ofString "lent"]) from fun z => by cases z.1), decide_eq_false hl, lent_rest _ _ (by rw [g]; decide)]; rfl
  · rw [if_neg (show ¬ (true = true ∧ r = [Str.ofString "lent"]) from fun z => g z.2), if_neg (show ¬ (false = true ∧ r = [Str.ofString "lent"]) from fun z => by cases z.1)]
    by_cases hb : r.length ≠ 3 ∨ r.getD 1 "" ∉ lt3 ∨ r.getD 0 "" = r.getD 2 ""
    · rw [partR_bad g hb, tRest_bad hb, tRest_bad hb]
      split <;> rfl
    · obtain ⟨x, y, z, rfl⟩ := len3 (Classical.byContradiction fun h => hb (.inl h))
      have gy : y ∈ lt3 ∧ x ≠ z := ⟨Classical.byContradiction fun h => hb (.inr (.inl h)), fun h => hb (.inr (.inr h))⟩
      rw [partR_3 gy, tRest_3 gy, tRest_3 gy]
      by_cases hl : kind = "look"
      · rw [if_pos hl, if_neg (show ¬ kind ≠ "look" from fun h => h hl), lnum_pos, lnum_pos]
        rcases atom_cases (names_no kind hk) x with ⟨a1, a2, a3⟩ | ⟨a1, a2⟩ <;> rcases atom_cases (names_no kind hk) z with ⟨b1, b2, b3⟩ | ⟨b1, b2⟩ <;> rw [a2, b2] <;> simp only [a1, b1, decide_true, decide_false, Bool.true_or, Bool.false_or, Bool.true_and, Bool.and_true]
        · by_cases hy : y = "is" <;> simp [hy]
        · cases tNum z with
          | none => rfl
          | some n => by_cases hy : y = "is" <;> simp [hy]
        · cases tNum x with
          | none => rfl
          | some n => by_cases hy : y = "is" <;> simp [hy]
        · cases tNum x with
          | none => rfl
          | some n =>
            cases tNum z with
            | none => rfl
            | some m => by_cases hy : y = "is" <;> simp [hy]
      · rw [if_neg hl, if_pos (show kind ≠ "look" from hl), lnum_pos, lnum_pos]
        rcases atom_cases asked_no x with ⟨a1, a2, a3⟩ | ⟨a1, a2⟩ <;> rcases atom_cases asked_no z with ⟨b1, b2, b3⟩ | ⟨b1, b2⟩ <;> rw [a2, b2] <;> simp only [a1, b1, decide_true, decide_false, Bool.true_or, Bool.false_or, Bool.true_and, Bool.and_true, Bool.false_and, Bool.or_false]
        · rw [a3, b3]
          by_cases hy : y = "is"
          · simp [hy, oneNone]
          · simp [hy, oneNone]
        · cases tNum z with
          | none => rfl
          | some n =>
            by_cases hy : y = "is"
            · simp [hy, oneNone]
            · simp [hy, oneNone]
        · cases tNum x with
          | none => rfl
          | some n =>
            by_cases hy : y = "is"
            · simp [hy, oneNone]
            · simp [hy, oneNone]
        · cases tNum x with
          | none => rfl
          | some n =>
            cases tNum z with
            | none => rfl
            | some m =>
              by_cases hy : y = "is"
              · simp [hy, oneNone]
              · simp [hy, oneNone]
end Idr


set_option Elab.async false
set_option linter.all false
set_option maxRecDepth 100000
set_option maxHeartbeats 4000000
/-! whole lines -/
namespace Idr
open PySem Rdr Tld L2
def isStamp (ws : List Str) : Bool :=
  if ws.length = 3 then decide (0 ≤ lnum (ws.getD 2 ""))
  else if ws.length ≠ 5 ∨ ws.getD 2 "" ≠ "stamp" then false
  else if ws.getD 3 "" = "+" then decide (1 ≤ lnum (ws.getD 4 "")) && decide (lnum (ws.getD 4 "") ≤ 12)
  else decide (ws.getD 3 "" ∈ (["mod", "&"] : List Str)) && isFac (ws.getD 3 "") (ws.getD 4 "")
def isSet (kind : Str) (ws : List Str) : Bool :=
  if ws.getD 0 "" ∉ goalsOf kind then false
  else if last2 ws ∈ sg6 then isSum (namesOf kind) ((ws.drop 2).take (ws.length - 4)) && isFac (last2 ws) (ws.getLastD "")
  else isSum (namesOf kind) (ws.drop 2)
def isRow (kind text : Str) : Bool :=
  if text ∈ (endsOf kind).map En.z then true
  else if (wds text).length < 3 ∨ (wds text).getD 1 "" ≠ "=" then false
  else if (wds text).getD 0 "" = "stamp" then (if kind = "look" then false else isStamp (wds text))
  else isSet kind (wds text)
def lawParts (text : Str) : List Str := Txt.split (Txt.join spW ((wds text).drop 1)) andS
def isLine (kind text : Str) : Bool :=
  if (wds text).getD 0 "" = "if" then decide ((lawParts text).length ≤ 4) && (lawParts text).all (fun p => isPart kind (wds p))
  else isRow kind text
theorem ends_one : ∀ kind ∈ kinds3, ∀ z ∈ (endsOf kind).map En.z, (wds z).length = 1 := by decide +kernel
theorem goal_look : Str.ofString "stamp" ∉ goalsOf (Str.ofString "look") := by decide +kernel
theorem deed_sg (s : Str) : (deedW s).isSome = decide (s ∈ sg6) := by
  unfold deedW sg6
  simp only [List.mem_cons, List.not_mem_nil, or_false]
  by_cases a : s = Str.ofString "*" ∨ s = Str.ofString "<<"
  · rw [if_pos a, decide_eq_true (by rcases a with a | a <;> simp [a])]; rfl
  · rw [if_neg a]
    by_cases b : s = Str.ofString "//" ∨ s = Str.ofString ">>"
    · rw [if_pos b, decide_eq_true (by rcases b with b | b <;> simp [b])]; rfl
    · rw [if_neg b]
      by_cases c : s = Str.ofString "mod" ∨ s = Str.ofString "&"
      · rw [if_pos c, decide_eq_true (by rcases c with c | c <;> simp [c])]; rfl
      · rw [if_neg c, decide_eq_false]
        · rfl
        · rintro (h | h | h | h | h | h)
          · exact a (.inl h)
          · exact b (.inl h)
          · exact c (.inl h)
          · exact a (.inr h)
          · exact b (.inr h)
          · exact c (.inr h)
theorem len5 {α : Type} {l : List α} (h : l.length = 5) : ∃ a b c d e, l = [a, b, c, d, e] := by
  match l, h with
  | [a, b, c, d, e], _ => exact ⟨a, b, c, d, e, rfl⟩
theorem mod_sg {s : Str} (h : s ∈ (["mod", "&"] : List Str)) : s ∈ sg6 := by
  simp only [List.mem_cons, List.not_mem_nil, or_false] at h
  unfold sg6
  rcases h with h | h <;> simp [h]
theorem stamp_eq {ws : List Str} {l : Nat} (h3 : 3 ≤ ws.length) : isStamp ws = (stampOf (ws.drop 2) l).isSome := by
  unfold isStamp stampOf
  by_cases h : ws.length = 3
  · obtain ⟨a, b, c, rfl⟩ := len3 h
    rw [if_pos h, if_pos (show (List.drop 2 [a, b, c]).length = 1 from rfl), Option.isSome_map]
    exact lnum_pos c
  · rw [if_neg h, if_neg (show ¬ (List.drop 2 ws).length = 1 from by rw [List.length_drop]; omega)]
    by_cases h5 : ws.length = 5
    · obtain ⟨a, b, c, d, e, rfl⟩ := len5 h5
      by_cases hc : c = Str.ofString "stamp"
      · rw [if_neg (show ¬ (([a, b, c, d, e] : List Str).length ≠ 5 ∨ ([a, b, c, d, e] : List Str).getD 2 "" ≠ "stamp") from fun z => z.elim (fun z => z rfl) (fun z => z hc)),
          if_neg (show ¬ ((List.drop 2 [a, b, c, d, e]).length ≠ 3 ∨ (List.drop 2 [a, b, c, d, e]).getD 0 "" ≠ "stamp") from fun z => z.elim (fun z => z rfl) (fun z => z hc))]
        show (if d = Str.ofString "+" then decide (1 ≤ lnum e) && decide (lnum e ≤ 12) else decide (d ∈ (["mod", "&"] : List Str)) && isFac d e) = (if d = Str.ofString "+" then (match tNum e with | none => none | some n => if 1 ≤ n ∧ n ≤ 12 then some (IdRow.stamp l "more" n) else none) else if d ∈ (["mod", "&"] : List Str) then (facOf d e).map (IdRow.stamp l "rest") else none).isSome
        by_cases hd : d = Str.ofString "+"
        · rw [if_pos hd, if_pos hd]
          cases ht : tNum e with
          | none => rw [lnum_none ht]; rfl
          | some n =>
            rw [(lnum_some ht).1]
            dsimp only
            by_cases g : 1 ≤ n ∧ n ≤ 12
            · rw [if_pos g, decide_eq_true g.1, decide_eq_true g.2]; rfl
            · rw [if_neg g]
              by_cases g1 : 1 ≤ n
              · rw [decide_eq_true g1, decide_eq_false (fun z => g ⟨g1, z⟩)]; rfl
              · rw [decide_eq_false g1]; rfl
        · rw [if_neg hd, if_neg hd]
          by_cases hm : d ∈ (["mod", "&"] : List Str)
          · rw [if_pos hm, decide_eq_true hm, Bool.true_and, Option.isSome_map]
            exact fac_eq (mod_sg hm)
          · rw [if_neg hm, decide_eq_false hm]; rfl
      · rw [if_pos (show (([a, b, c, d, e] : List Str).length ≠ 5 ∨ ([a, b, c, d, e] : List Str).getD 2 "" ≠ "stamp") from .inr hc),
          if_pos (show ((List.drop 2 [a, b, c, d, e]).length ≠ 3 ∨ (List.drop 2 [a, b, c, d, e]).getD 0 "" ≠ "stamp") from .inr hc)]
        rfl
    · rw [if_pos (show (ws.length ≠ 5 ∨ ws.getD 2 "" ≠ "stamp") from .inl h5),
        if_pos (show ((List.drop 2 ws).length ≠ 3 ∨ (List.drop 2 ws).getD 0 "" ≠ "stamp") from .inl (by rw [List.length_drop]; omega))]
      rfl
theorem set_eq {kind : Str} (hk : kind ∈ kinds3) {ws : List Str} {l : Nat} : isSet kind ws = (match deedW (last2 ws) with
    | none => if ws.getD 0 "" ∈ goalsOf kind then (tSum (namesOf kind) (ws.drop 2)).map fun t => IdRow.set l (ws.getD 0 "") t none none else none
    | some d => if ws.getD 0 "" ∈ goalsOf kind then (match tSum (namesOf kind) ((ws.drop 2).take (ws.length - 4)), facOf (last2 ws) (ws.getLastD "") with
      | some t, some f => some (IdRow.set l (ws.getD 0 "") t (some d) (some f))
      | _, _ => none) else none : Option IdRow).isSome := by
  unfold isSet
  have hd := deed_sg (last2 ws)
  by_cases hg : ws.getD 0 "" ∈ goalsOf kind
  · rw [if_neg (show ¬ ws.getD 0 "" ∉ goalsOf kind from fun z => z hg)]
    by_cases hs : last2 ws ∈ sg6
    · rw [if_pos hs, isSum_eq (names_no kind hk), fac_eq hs]
      rw [decide_eq_true hs] at hd
      obtain ⟨d, hd⟩ := Option.isSome_iff_exists.mp hd
      rw [hd]
      dsimp only
      rw [if_pos hg]
      cases tSum (namesOf kind) ((ws.drop 2).take (ws.length - 4)) with
      | none => rfl
      | some t => cases facOf (last2 ws) (ws.getLastD "") <;> rfl
    · rw [if_neg hs, isSum_eq (names_no kind hk)]
      rw [decide_eq_false hs] at hd
      have hd := Option.not_isSome_iff_eq_none.mp (by rw [hd]; decide)
      rw [hd]
      dsimp only
      rw [if_pos hg, Option.isSome_map]
  · rw [if_pos hg]
    cases deedW (last2 ws) with
    | none => dsimp only; rw [if_neg hg]; rfl
    | some d => dsimp only; rw [if_neg hg]; rfl
theorem find_ends (kind text : Str) (l : Nat) : (((endsOf kind).find? fun e => decide (e.z = text)).map (IdRow.fin · l)).isSome = decide (text ∈ (endsOf kind).map En.z) := by
  rw [Option.isSome_map, Bool.eq_iff_iff, List.find?_isSome, decide_eq_true_eq, List.mem_map]
  constructor
  · rintro ⟨e, h1, h2⟩
    exact ⟨e, h1, of_decide_eq_true h2⟩
  · rintro ⟨e, h1, h2⟩
    exact ⟨e, h1, decide_eq_true h2⟩
theorem row_eq {kind : Str} (hk : kind ∈ kinds3) (text : Str) (l : Nat) : isRow kind text = (rowI kind text l).isSome := by
  unfold isRow
  have e : rowI kind text l = (if (wds text).length = 1 then ((endsOf kind).find? fun e => decide (e.z = text)).map (IdRow.fin · l)
    else if (wds text).length < 3 ∨ (wds text).getD 1 "" ≠ "=" then none
    else if (wds text).getD 0 "" = "stamp" ∧ kind ≠ "look" then stampOf ((wds text).drop 2) l
    else match deedW (last2 (wds text)) with
    | none => if (wds text).getD 0 "" ∈ goalsOf kind then (tSum (namesOf kind) ((wds text).drop 2)).map fun t => .set l ((wds text).getD 0 "") t none none else none
    | some d => if (wds text).getD 0 "" ∈ goalsOf kind then (match tSum (namesOf kind) (((wds text).drop 2).take ((wds text).length - 4)), facOf (last2 (wds text)) ((wds text).getLastD "") with
      | some t, some f => some (.set l ((wds text).getD 0 "") t (some d) (some f))
      | _, _ => none) else none) := rfl
  rw [e]
  by_cases h1 : (wds text).length = 1
  · rw [if_pos h1, find_ends]
    by_cases he : text ∈ (endsOf kind).map En.z
    · rw [if_pos he, decide_eq_true he]
    · rw [if_neg he, decide_eq_false he, if_pos (.inl (by omega))]
  · have he : text ∉ (endsOf kind).map En.z := fun z => h1 (ends_one kind hk text z)
    rw [if_neg h1, if_neg he]
    by_cases h3 : (wds text).length < 3 ∨ (wds text).getD 1 "" ≠ "="
    · rw [if_pos h3, if_pos h3]; rfl
    · rw [if_neg h3, if_neg h3]
      by_cases hst : (wds text).getD 0 "" = "stamp"
      · rw [if_pos hst]
        by_cases hl : kind = "look"
        · rw [if_pos hl, if_neg (show ¬ ((wds text).getD 0 "" = "stamp" ∧ kind ≠ "look") from fun z => z.2 hl), ← set_eq hk]
          unfold isSet
          rw [if_pos (show (wds text).getD 0 "" ∉ goalsOf kind from by rw [hst, hl]; exact goal_look)]
        · rw [if_neg hl, if_pos (show ((wds text).getD 0 "" = "stamp" ∧ kind ≠ "look") from ⟨hst, hl⟩)]
          exact stamp_eq (by omega)
      · rw [if_neg hst, if_neg (show ¬ ((wds text).getD 0 "" = "stamp" ∧ kind ≠ "look") from fun z => hst z.1)]
        exact set_eq hk
theorem if_words {text : Str} (h : text ≠ ifS) : (wds text).getD 0 "" = "if" ↔ ∃ w r, wds text = ifS :: w :: r := by
  constructor
  · intro h0
    obtain ⟨a, r, hw⟩ := List.exists_cons_of_ne_nil (w_ne text)
    have hw' : wds text = a :: r := hw
    rw [hw'] at h0
    have ha : a = ifS := h0
    subst ha
    cases r with
    | nil =>
      have e := w_join text
      rw [hw] at e
      exact absurd (by rw [← e]; exact TL.ext_tl (by rw [TL.join_eq, TL.tl_join]; rfl)) h
    | cons w r => exact ⟨w, r, hw'⟩
  · rintro ⟨w, r, h⟩
    rw [h]
    rfl
theorem if_isIf (text : Str) : isIf text ↔ ∃ w r, wds text = ifS :: w :: r := by
  have := w_pre (t := text) if_f.1 if_f.2.1
  rw [if_f.2.2] at this
  exact this
/-- the law's reading of a line is the program's -/
theorem line_if {kind text : Str} (hk : kind ∈ kinds3) (hi : isIf text) : isLine kind text = (decide ((partsOf (partI kind) (cut3 text)).length ≤ 4) && (partsOf (partI kind) (cut3 text)).all (·.isSome)) := by
  obtain ⟨w, r, h⟩ := (if_isIf text).mp hi
  unfold isLine
  rw [if_pos (by rw [h]; rfl)]
  have e : lawParts text = Txt.split (cut3 text) andS := by
    unfold lawParts
    rw [h]
    have := (w_post if_f.2.1 h).1
    show Txt.split (Txt.join spW (w :: r)) andS = Txt.split (cutS text (some ((3 : Nat) : Int)) none) andS
    rw [this]
  rw [e]
  unfold partsOf
  rw [List.length_map, List.all_map]
  congr 2
  funext p
  exact part_eq hk p
theorem line_row {kind text : Str} (hk : kind ∈ kinds3) (hi : ¬ isIf text) (ht : text ≠ ifS) (l : Nat) : isLine kind text = (rowI kind text l).isSome := by
  unfold isLine
  rw [if_neg (fun z => hi ((if_isIf text).mpr ((if_words ht).mp z)))]
  exact row_eq hk text l
end Idr


set_option Elab.async false
set_option linter.all false
set_option maxRecDepth 100000
set_option maxHeartbeats 4000000
/-! a reading has one result -/
namespace Rdr
open PySem
variable {α β : Type} {rowF : Str → Nat → Option α} {partF : Str → Option β}
theorem good_one {text : Str} {ps qs : List β} (h : goodPs partF text ps) (k : goodPs partF text qs) : ps = qs := by
  have e := h.1.symm.trans k.1
  clear h k
  induction ps generalizing qs with
  | nil => cases qs with
    | nil => rfl
    | cons _ _ => cases e
  | cons p ps ih => cases qs with
    | nil => cases e
    | cons q qs =>
      rw [List.map_cons, List.map_cons] at e
      injection e with e1 e2
      injection e1 with e1
      rw [e1, ih e2]
theorem good_bad {text : Str} {ps : List β} (h : goodPs partF text ps) (k : badPs partF text) : False := by
  rcases k with k | k
  · rw [h.1, List.length_map] at k
    exact absurd h.2 (by omega)
  · rw [h.1] at k
    obtain ⟨p, _, e⟩ := List.mem_map.mp k
    cases e
theorem els_end : ("else" : Str) ≠ "end" := by decide +kernel
theorem Rd.det {md : Md} {ls : List Str} {n i : Nat} {R : Res α β} (h : Rd rowF partF md ls n i R) : ∀ {R'}, Rd rowF partF md ls n i R' → R = R' := by
  induction h with
  | eof => intro R' h; cases h; rfl
  | eofI => intro R' h; cases h; rfl
  | fin h1 =>
    intro R' h
    cases h with
    | fin _ => rfl
    | bad g => exact absurd h1 g
    | leaf g => exact absurd h1 g
    | ifE g => exact absurd h1 g
    | ifr g => exact absurd h1 g
  | finO h1 =>
    intro R' h
    cases h with
    | finO _ => rfl
    | bad g => exact absurd h1 g
    | leaf g => exact absurd h1 g
    | ifE g => exact absurd h1 g
    | ifr g => exact absurd h1 g
  | bad h1 h2 h3 =>
    intro R' h
    cases h with
    | fin g => exact absurd g h1
    | finO g => exact absurd g h1
    | bad => rfl
    | leaf _ _ g => rw [h3] at g; cases g
    | ifE _ g => exact absurd g h2
    | ifr _ g => exact absurd g h2
  | leaf h1 h2 h3 h4 ih =>
    intro R' h
    cases h with
    | fin g => exact absurd g h1
    | finO g => exact absurd g h1
    | bad _ _ g => rw [h3] at g; cases g
    | leaf _ _ g k =>
      rw [h3] at g
      cases g
      rw [ih k]
    | ifE _ g => exact absurd g h2
    | ifr _ g => exact absurd g h2
  | ifE h1 h2 h3 ih =>
    intro R' h
    cases h with
    | fin g => exact absurd g h1
    | finO g => exact absurd g h1
    | bad _ g => exact absurd h2 g
    | leaf _ g => exact absurd h2 g
    | ifE _ _ k => cases ih k; rfl
    | ifr _ _ k => cases ih k
  | ifr h1 h2 h3 h4 ih1 ih2 =>
    intro R' h
    cases h with
    | fin g => exact absurd g h1
    | finO g => exact absurd g h1
    | bad _ g => exact absurd h2 g
    | leaf _ g => exact absurd h2 g
    | ifE _ _ k => cases ih1 k
    | ifr _ _ k k2 =>
      cases ih1 k
      rw [ih2 k2]
  | badC h1 =>
    intro R' h
    cases h with
    | badC _ => rfl
    | aE g => exact (good_bad g h1).elim
    | one g => exact (good_bad g h1).elim
    | bE g => exact (good_bad g h1).elim
    | two g => exact (good_bad g h1).elim
    | elsE g => exact (good_bad g h1).elim
  | aE h1 h2 ih =>
    intro R' h
    cases h with
    | badC g => exact (good_bad h1 g).elim
    | aE _ k => cases ih k; rfl
    | one _ k => cases ih k
    | bE _ k => cases ih k
    | two _ k => cases ih k
    | elsE _ k => cases ih k
  | one h1 h2 ih =>
    intro R' h
    cases h with
    | badC g => exact (good_bad h1 g).elim
    | aE _ k => cases ih k
    | one g k => cases ih k; rw [good_one h1 g]
    | bE _ k =>
      have e := ih k
      injection e with _ e2
      exact absurd e2.symm els_end
    | two _ k =>
      have e := ih k
      injection e with _ e2
      exact absurd e2.symm els_end
    | elsE _ k =>
      have e := ih k
      injection e with _ e2
      exact absurd e2.symm els_end
  | bE h1 h2 h3 ih1 ih2 =>
    intro R' h
    cases h with
    | badC g => exact (good_bad h1 g).elim
    | aE _ k => cases ih1 k
    | one _ k =>
      have e := ih1 k
      injection e with _ e2
      exact absurd e2 els_end
    | bE _ k k2 => cases ih1 k; cases ih2 k2; rfl
    | two _ k k2 => cases ih1 k; cases ih2 k2
    | elsE _ k k2 => cases ih1 k; cases ih2 k2
  | two h1 h2 h3 ih1 ih2 =>
    intro R' h
    cases h with
    | badC g => exact (good_bad h1 g).elim
    | aE _ k => cases ih1 k
    | one _ k =>
      have e := ih1 k
      injection e with _ e2
      exact absurd e2 els_end
    | bE _ k k2 => cases ih1 k; cases ih2 k2
    | two g k k2 => cases ih1 k; cases ih2 k2; rw [good_one h1 g]
    | elsE _ k k2 =>
      cases ih1 k
      have e := ih2 k2
      injection e with _ e2
      exact absurd e2.symm els_end
  | elsE h1 h2 h3 ih1 ih2 =>
    intro R' h
    cases h with
    | badC g => exact (good_bad h1 g).elim
    | aE _ k => cases ih1 k
    | one _ k =>
      have e := ih1 k
      injection e with _ e2
      exact absurd e2 els_end
    | bE _ k k2 => cases ih1 k; cases ih2 k2
    | two g k k2 =>
      cases ih1 k
      have e := ih2 k2
      injection e with _ e2
      exact absurd e2 els_end
    | elsE _ k k2 => cases ih1 k; cases ih2 k2; rfl
end Rdr


set_option Elab.async false
set_option linter.all false
set_option maxRecDepth 100000
set_option maxHeartbeats 4000000
namespace K17
open PySem PySem.Spec PyProof.Rows L2 Rdr LmX LamX NdefX Idr Tld
theorem tbl_ins {ps : Array Value} {C dx : Addr} {fs : List (Str × V)} : HO.tbl ps ≠ .ins C dx fs := fun e => by cases e
theorem tabs_x {T : List (Addr × Str)} {x C dx : Addr} {fs : List (Str × V)} {H H' : Hp} (hT : Tabs T H) (hx : H x = some (.ins C dx fs)) (s : ∀ b o, b ≠ x → H b = some o → H' b = some o) : Tabs T H' := fun p hp => by
  obtain ⟨ps, h1, h2, h3⟩ := hT p hp
  refine ⟨ps, s _ _ (fun e => by rw [e, hx] at h1; cases h1) h1, h2, fun pos cv hc => ?_⟩
  obtain ⟨c, e, h⟩ := h3 pos cv hc
  exact ⟨c, e, s _ _ (fun e => by rw [e, hx] at h; exact codeO_ins (Option.some.inj h).symm) h⟩
theorem fnL_tbl {f : Addr} {F : NF} {b : Expr} : ∀ ps, FnL f F b ≠ .tbl ps := fun ps e => by unfold FnL at e; cases e
/-- all but x and the tables stay -/
def Xt (x : Addr) (H H' : Hp) : Prop := ∀ b o, b ≠ x → H b = some o → (∀ ps, o ≠ .tbl ps) → H' b = some o
theorem hfree0 : ∀ y ∈ (lamAt s_IdCode_init 0).2.2.names, y.2 = .free → (defScope s_IdCode_init).names.lookup y.1 = some .cell ∨ (defScope s_IdCode_init).names.lookup y.1 = some .free := by decide +kernel
theorem hfree1 : ∀ y ∈ (lamAt s_IdCode_init 1).2.2.names, y.2 = .free → (defScope s_IdCode_init).names.lookup y.1 = some .cell ∨ (defScope s_IdCode_init).names.lookup y.1 = some .free := by decide +kernel
theorem callB_go {K : PySem.W.Frag} {mg : Str → Option Value} {cells : List (Str × Addr)} {scs : List Scope} {y : Str} {i : Nat} {sp : Heap → Sp} {ds : List V} {E : XK} {t : TA} {σ : L2.St} {H : Hp} {Q : VK} (h : t σ H fun vs H1 => ∃ v, σ[i]? = some (some v) ∧
  ∀ base', Mod K mg base' → (∀ sc ∈ scs, BCell base' (cloFrom cells sc.names []) [y] [some v]) → sp base' (vs ++ ds) H1 Q E) : tCallB K mg cells scs y i sp ds E t σ H Q := h
theorem fldset_go {K : PySem.W.Frag} {ta tv : TE} {f : Str} {s : TS} {D : Ends} {σ : L2.St} {H : Hp} (h : tv σ H fun v H1 => sFld K ta (tC v) f { nx := s D, rt := D.rt, bk := D.bk, ct := D.ct } σ H1) : tSeq (sFld K ta tv f) s D σ H := h
abbrev idN : List Str := ["self", "kind", "text", "__class__", "row", "part"]
abbrev idF (cc c : Addr) : NF := SupX.nfOf "IdCode.__init__" s_IdCode_init cc c
theorem lq (cc c f L : Addr) : (BothX.envB (idF cc c) f L).qual ++ "<lambda>" = lqual := by kernel_rfl
/-- the reading of what follows super().__init__(..) -/
def tIdRest (P : Program) (w : World) (K : PySem.W.Frag) (mg : Str → Option Value) (Pt : Addr) (kind : Str) (cells : List (Str × Addr)) (E : XK) : TS :=
  tSeq (tPar 4 5 (tCons (tLm [(Pt, lqual)] (lamF 0 cells) (lamAt s_IdCode_init 0).2.1) (tCons (tLm [(Pt, lqual)] (lamF 1 cells) (lamAt s_IdCode_init 1).2.1) tNil)))
  (tSeq (sFld K (tVar 0) (tCallB K mg cells [(lamAt s_IdCode_init 0).2.2, (lamAt s_IdCode_init 1).2.2] "kind" 1 (spRR P w K mg IdRow.ds pds (rowI kind) (partI kind)) [] E (tCons (tFld K (tVar 0) "own_lines") (tCons (tVar 4) (tCons (tVar 5) (tCons (tC (.int 5)) tNil))))) "rows")
  (tDrop (tCall (spNeed K) [] E (tCons (tVar 1) (tCons (tFld K (tVar 0) "rows") tNil)))))
section
variable {X : Cx} {T : List (Addr × Str)} {c P : Addr} {params : Arguments} {body : Expr} {scope : Scope} {pos : Pos}
/-- a lambda whose full name is told apart -/
theorem pe_lamQ {q : Str} (hq : X.env.qual ++ "<lambda>" = q) (TB : TabB X.base X.mg c P) (hcode : X.env.code = .ref c) (hm : (P, q) ∈ T) (hu : ∀ p ∈ T, p.1 = P → p.2 = q)
    (hfree : ∀ y ∈ scope.names, y.2 = .free → X.env.scope.names.lookup y.1 = some .cell ∨ X.env.scope.names.lookup y.1 = some .free) (hdef : defaultsOf params X.env = ([], [])) :
    PE X (.Lambda params body scope pos) (tLm T (fun c' => ⟨"<lambda>", q, params, [], scope, cloFrom X.env.cells scope.names [], c'⟩) body) := by
  subst hq
  exact pe_lam TB hcode hm hu hfree hdef
end
section
variable {P : Program} {w : World} {K : PySem.W.Frag} {mg : Str → Option Value} {base : Heap}
/-- what comes of a text's reading R: the code, a bad line, a limit -/
structure IdEnds (K : PySem.W.Frag) (Pt x : Addr) (H : Hp) (R : Res IdRow Part) (Q : VK) (E : XK) : Prop where
  err : ∀ k, R = .err k → ∀ d H', Xt x H H' → Tabs [(Pt, lqual)] H' → H' d = some (.xd [("line", .int (k : Nat))]) → E (.ref (He.ga K "BadLine")) (some d) H'
  few : ∀ t wd ls n i, R = .ok t wd ls n i → i ≤ 5
  ok : ∀ t wd ls n i, R = .ok t wd ls n i → ∀ H', Xt x H H' → Tabs [(Pt, lqual)] H' → Q .non H'
  ref : ∀ t wd ls n i, R = .ok t wd ls n i → ∀ (n : Nat) d H', Xt x H H' → Tabs [(Pt, lqual)] H' → H' d = some (.xd [("line", .int (n : Nat))]) → E (.ref (He.ga K "Refused")) (some d) H'
def spId (K : PySem.W.Frag) (Pt : Addr) : Sp := fun vs H Q E => ∃ (x dx : Addr) (kind text : Str) (R : Res IdRow Part), vs = [.ref x, .str kind, .str text] ∧ H x = some (.ins (cD K) dx []) ∧ Tabs [(Pt, lqual)] H ∧ kind ∈ kinds3 ∧ text.length ≤ 100000 ∧ (linesOf text).length ≤ 30 ∧ (∀ z ∈ linesOf text, z.length ≤ 1000) ∧
  Rd (rowI kind) (partI kind) (.blk false) (linesOf text) 0 0 R ∧ IdEnds K Pt x H R Q E
theorem pss_id (T : Tx P w K mg) {cc c Pt fI : Addr} {A : Around} {outer : List Env} {s : Shared} {H : Hp} {E : XK} {kind : Str} (Sn : BothX.BScope idN ["self", "kind", "text"] ["__class__"] (defScope s_IdCode_init)) (TB : TabB base mg c Pt) (hr : Room 96 (A.deeper (BothX.envB (idF cc c) fI s.heap.objs.size))) :
    PSs (BothX.bcx (L2.CX P w) P w K mg base idN (idF cc c) fI A outer s H E) (SupX.supR s_IdCode_init) (tIdRest P w K mg Pt kind (BothX.envB (idF cc c) fI s.heap.objs.size).cells E) := by
  have F_need_limits := ok_need (base := base) T
  have F_read_rows := fun (base' : Heap) (_ : Mod K mg base') => ok_read_rows (base := base') (fa := IdRow.ds) (fb := pds) (rowF := rowI kind) (partF := partI kind) T
  have q := lq cc c fI s.heap.objs.size
  refine pss_cons ?_ (pss_cons ?_ (pss_one ?_))
  · refine ps_par (i := 4) (j := 5) (by rfl) Sn.nd rfl rfl (by decide) rfl rfl (pa_cons ?_ (pa_cons ?_ pa_nil)) (by rfl)
    · exact pe_lamQ q TB rfl (List.mem_singleton.mpr rfl) (fun p hp _ => by rw [List.mem_singleton.mp hp]) hfree0 rfl
    · exact pe_lamQ q TB rfl (List.mem_singleton.mpr rfl) (fun p hp _ => by rw [List.mem_singleton.mp hp]) hfree1 rfl
  · refine ps_fld (pv 0) (pe_callB (y := "kind") (i := 1) (scs := [(lamAt s_IdCode_init 0).2.2, (lamAt s_IdCode_init 1).2.2]) F_read_rows (hr.mono (by decide)) (passes_call (takes_of rfl rfl rfl rfl) (fun _ _ _ _ h => h)) (pa_cons (pe_fld (pv 0) rfl) (pa_cons (pv 4) (pa_cons (pv 5) (pa_cons (pe_gint T.c_MOST_IFS) pa_nil)))) (by rfl) (by rfl) (by rfl) (by decide +kernel)) rfl
  · exact ps_expr (pe_callX F_need_limits (hr.mono (by decide)) (passes_call (takes_of rfl rfl rfl rfl) (fun _ _ _ _ h => h)) (pa_cons (pv 1) (pa_cons (pe_fld (pv 0) rfl) pa_nil)))
end
end K17


set_option Elab.async false
set_option linter.all false
set_option maxRecDepth 100000
set_option maxHeartbeats 4000000
namespace K17
open PySem PySem.Spec PyProof.Rows L2 Rdr LmX LamX NdefX Idr Tld
section
variable {P : Program} {w : World} {K : PySem.W.Frag} {mg : Str → Option Value} {base : Heap}
theorem id_rest (T : Tx P w K mg) {Pt : Addr} {kind text : Str} {cells : List (Str × Addr)} {E : XK} {Q : VK} {x dx l tb : Addr} {R : Res IdRow Part} {cv : V} {H H2 : Hp} {D : Ends}
    (hx2 : H2 x = some (.ins (cD K) dx (ctF "ids" kind text l tb))) (hl2 : H2 l = some (.lst ((linesOf text).map V.str))) (sx2 : ∀ b o, b ≠ x → H b = some o → H2 b = some o) (T2 : Tabs [(Pt, lqual)] H2) (hk : kind ∈ kinds3) (hln : (linesOf text).length ≤ 30) (hlz : ∀ z ∈ linesOf text, z.length ≤ 1000)
    (hrd : Rd (rowI kind) (partI kind) (.blk false) (linesOf text) 0 0 R) (hE : IdEnds K Pt x H R Q E) (hD : ∀ σ H', Q .non H' → D.nx σ H') :
    tIdRest P w K mg Pt kind cells E D [some (.ref x), some (.str kind), some (.str text), some cv, none, none] H2 := by
  unfold tIdRest
  refine par_go (cons_go ⟨T2, fun lf lc H3 e3 T3 n3 i3 c3 => cons_go ⟨T3, fun pf pc H4 e4 T4 n4 i4 c4 => nil_go ⟨_, _, rfl, ?_⟩⟩⟩)
  have e24 := e3.trans e4
  have hx4 := e24 _ _ hx2 (fun _ => by intro e; cases e)
  have hl4 := e24 _ _ hl2 (fun _ => by intro e; cases e)
  have i34 := e4 _ _ i3 fnL_tbl
  have c34 := e4 _ _ c3 codeO_ne
  refine fldset_go (callB_go (cons_go (ev_fld (ev_var (i := 0) rfl) hx4 T.cl_IdCode T.na_IdCode_own_lines rfl _ fun H5 s5 => cons_go (var_go rfl (cons_go (var_go rfl (cons_go (c_go (nil_go ⟨_, rfl, fun base' Mo hB => ?_⟩)))))))))
  have xt5 : ∀ {H' : Hp}, Same H5 H' → Xt x H H' := fun s b o hb ho hn => s _ _ (s5 _ _ (e24 _ _ (sx2 _ _ hb ho) hn))
  refine ⟨l, lf, pf, linesOf text, 5, rfl, s5 _ _ hl4, ⟨_, _, s5 _ _ i34, s5 _ _ c34, lam0 T hk (hB _ (List.mem_cons_self ..))⟩, ⟨_, _, s5 _ _ i4, s5 _ _ c4, lam1 T hk (hB _ (List.mem_cons_of_mem _ (List.mem_cons_self ..)))⟩, by omega, hlz, (fun k hk3 d H' s' hd => hE.err k (Rd.det hrd hk3) d H' (xt5 s') (T4.ext fun b o h => s' _ _ (s5 _ _ h)) hd), (fun t wd ls n i hrd' => ?_)⟩
  have eR := Rd.det hrd hrd'
  subst eR
  have gd := Rd.good hrd _ _ _ _ _ rfl
  have sr := src_ok (Rd.src hrd _ _ _ _ _ rfl)
  have hi := hE.few _ _ _ _ _ rfl
  have hsz : t.sz ≤ 30 := by have h9 : t.sz + ls.length ≤ (linesOf text).length + 0 := gd.1; omega
  have hif : t.ifs ≤ 5 := by have := gd.2; omega
  refine ⟨fun hgt => absurd hgt (by omega), fun _ q xs H6 s6 hq hxs => ?_⟩
  have s46 := s5.tr s6
  have hx6 := s46 _ _ hx4
  refine ⟨_, rfl, x, cD K, dx, _, rfl, hx6, T.cl_IdCode, T.na_IdCode_rows, (by show 5 < 1000; decide), ?_⟩
  have hqx : q ≠ x := fun e => by rw [e, hx6] at hq; cases hq
  have s67 : ∀ {o : HO} b u, b ≠ x → H6 b = some u → upd H6 x o b = some u := fun {o} b u hb hu => by rw [upd_ne hb]; exact hu
  have tl67 : ∀ {o : HO}, TupLe H6 (upd H6 x o) := fun {o} b us h => s67 _ _ (fun e => by rw [e, hx6] at h; cases h) h
  have T6 : Tabs [(Pt, lqual)] H6 := T4.ext fun b o h => s46 _ _ h
  have hq7 := s67 (o := .ins (cD K) dx (putF "rows" (.ref q) (ctF "ids" kind text l tb))) _ _ hqx hq
  have T7 : Tabs [(Pt, lqual)] (upd H6 x (.ins (cD K) dx (putF "rows" (.ref q) (ctF "ids" kind text l tb)))) := tabs_x T6 hx6 s67
  have hd7 := hxs.up (tl67 (o := .ins (cD K) dx (putF "rows" (.ref q) (ctF "ids" kind text l tb))))
  have hx7 : upd H6 x (.ins (cD K) dx (putF "rows" (.ref q) (ctF "ids" kind text l tb))) x = some (.ins (cD K) dx (putF "rows" (.ref q) (ctF "ids" kind text l tb))) := upd_same
  have xt7 : Xt x H (upd H6 x (.ins (cD K) dx (putF "rows" (.ref q) (ctF "ids" kind text l tb)))) := fun b o hb ho hn => s67 _ _ hb (s46 _ _ (e24 _ _ (sx2 _ _ hb ho) hn))
  generalize upd H6 x (.ins (cD K) dx (putF "rows" (.ref q) (ctF "ids" kind text l tb))) = H7 at hq7 T7 hd7 hx7 xt7 ⊢
  refine call_go (cons_go (var_go rfl (cons_go (ev_fld (ev_var (i := 0) rfl) hx7 T.cl_IdCode T.na_IdCode_rows rfl _ fun H8 s8 => nil_go ⟨kind, q, xs, t, rfl, ⟨.inl (.inl (s8 _ _ hq7)), hd7.up s8.tl, by have := dep_sz t; omega, by omega⟩, by omega, sr.2, sr.1, ?_, ?_⟩))))
  · exact fun e H9 s9 => hD _ _ (hE.ok _ _ _ _ _ rfl H9 (fun b o hb ho hn => (s8.tr s9) _ _ (xt7 b o hb ho hn)) (T7.ext fun b o h => (s8.tr s9) _ _ h))
  · exact fun m hm hmin d H9 s9 hd => hE.ref _ _ _ _ _ rfl m d H9 (fun b o hb ho hn => (s8.tr s9) _ _ (xt7 b o hb ho hn)) (T7.ext fun b o h => (s8.tr s9) _ _ h) hd
theorem ok_id (T : Tx P w K mg) {f0 fI cc c Pt : Addr} {fd0 : FuncData} (S : SupB.SupT P K (He.ga K "IdCode") fI f0 (idF cc c) idN ["self", "kind", "text"] (SupX.supE s_IdCode_init) (SupX.supEs s_IdCode_init) (SupX.supR s_IdCode_init)) (M : Mk K (He.ga K "IdCode") fI)
    (F0 : FunD K "__init__" "CodeText.__init__" (defArgs s_CodeText_init) (defBody s_CodeText_init) (defScope s_CodeText_init) [] [] f0 fd0) (TB : TabB base mg c Pt) : MkX P w K mg base (L2.CX P w) 97 "IdCode" (cD K) ["self", "kind", "text"] [] (spId K Pt) := by
  obtain ⟨b0, G⟩ := ok_ct (base := base) T F0
  have fin := SupB.sup_ok (sp := spId K Pt) S (G.mono (show 3 ≤ 96 by decide)) b0 (fun vs H Q E h => by obtain ⟨x, dx, kind, text, R, rfl, _⟩ := h; rfl)
  suffices hb : _ by
    obtain ⟨doc, pm, ctv, R1, R2⟩ := fin hb
    exact ⟨fI, _, [], T.g_IdCode, M, R2, .nil, R1⟩
  clear fin
  intro A outer s H vs Q E hr h
  obtain ⟨x, dx, kind, text, R, rfl, hx, hT, hk, htl, hln, hlz, hrd, hE⟩ := h
  refine ⟨x, dx, [], _, _, rfl, hx, (by exact (pa_cons pe_str (pa_cons (pv 1) (pa_cons (pe_gref T.g_KINDS) (pa_cons (pv 2) (pa_cons (pe_gint T.c_MOST_LINES) pa_nil)))))), pss_id T (kind := kind) S.sc TB hr, ?_⟩
  refine cons_go (c_go (cons_go (var_go rfl (cons_go (c_go (cons_go (var_go rfl (cons_go (c_go (nil_go ?_))))))))))
  refine ⟨x, dx, He.ga K "KINDS", "ids", text, .str kind, kinds3, 30, rfl, hx, T.t_KINDS _, .inl rfl, htl, (fun e => by rw [show kindOk kinds3 (.str kind) = decide (kind ∈ kinds3) from rfl, decide_eq_true hk] at e; cases e), (fun k ek hk2 hgt => absurd hgt (by omega)), (fun k ek hk2 hle l tb H2 hl htb hx2 hl2 sx2 => ?_)⟩
  cases ek
  exact id_rest T hx2 hl2 sx2 (tabs_x hT hx sx2) hk hln hlz hrd hE fun _ _ h => h
end
end K17


set_option Elab.async false
set_option linter.all false
set_option maxRecDepth 100000
set_option maxHeartbeats 4000000
namespace L2
open PySem
theorem SameX.refl {x : Addr} {H : Hp} : SameX x H H := fun _ _ _ h => h
theorem SameX.trans {x : Addr} {H H1 H2 : Hp} (a : SameX x H H1) (b : SameX x H1 H2) : SameX x H H2 := a.tr b
theorem SameX.put {x : Addr} {H : Hp} {o : HO} : SameX x H (L2.upd H x o) := fun c u n h => by rw [upd_ne n]; exact h
end L2
namespace K17
open PySem PySem.Spec PyProof.Rows L2
section
variable {P : Program} {w : World} {K : PySem.W.Frag} {mg : Str → Option Value} {base : Heap}
def bagD (c : Addr) (at_ dg cnt fo : Int) : HO := .dK [(Sum.inr "cells", .ref c), (Sum.inr "at", .int at_), (Sum.inr "digits", .int dg), (Sum.inr "count", .int cnt), (Sum.inr "fold", .int fo)]
/-- the bag at d: at most n draws so far -/
def Bag (H : Hp) (d c : Addr) (n : Nat) : Prop := ∃ (cs : List Int) (at_ dg cnt fo : Int), H d = some (bagD c at_ dg cnt fo) ∧ H c = some (.lst (cs.map V.int)) ∧ 0 ≤ at_ ∧ 0 ≤ dg ∧ 0 ≤ cnt ∧ cnt ≤ n ∧ 0 ≤ fo ∧ fo < 2147483648
theorem Bag.mono {H : Hp} {d c : Addr} {n m : Nat} (h : Bag H d c n) (hm : n ≤ m) : Bag H d c m := by
  obtain ⟨cs, a, dg, cnt, fo, h1, h2, h3, h4, h5, h6, h7⟩ := h
  exact ⟨cs, a, dg, cnt, fo, h1, h2, h3, h4, h5, by omega, h7⟩
theorem Bag.up {H H' : Hp} {d c : Addr} {n : Nat} (h : Bag H d c n) (e : Same H H') : Bag H' d c n := by
  obtain ⟨cs, a, dg, cnt, fo, h1, h2, h3⟩ := h
  exact ⟨cs, a, dg, cnt, fo, e _ _ h1, e _ _ h2, h3⟩
section
variable {H : Hp} {d c : Addr} {a b m l : Int}
theorem g_cells (h : H d = some (bagD c a b m l)) : DGet H d (.str (Str.ofString "cells")) (some (.ref c)) := DGet.k (k := Sum.inr "cells") h
theorem g_at (h : H d = some (bagD c a b m l)) : DGet H d (.str (Str.ofString "at")) (some (.int a)) := DGet.k (k := Sum.inr "at") h
theorem g_dig (h : H d = some (bagD c a b m l)) : DGet H d (.str (Str.ofString "digits")) (some (.int b)) := DGet.k (k := Sum.inr "digits") h
theorem g_count (h : H d = some (bagD c a b m l)) : DGet H d (.str (Str.ofString "count")) (some (.int m)) := DGet.k (k := Sum.inr "count") h
theorem g_fold (h : H d = some (bagD c a b m l)) : DGet H d (.str (Str.ofString "fold")) (some (.int l)) := DGet.k (k := Sum.inr "fold") h
theorem p_at (x : Int) (h : H d = some (bagD c a b m l)) : DPut H d (.str (Str.ofString "at")) (.int x) (upd H d (bagD c x b m l)) := DPut.k (k := Sum.inr "at") h (by show 5 < sizeLine; decide)
theorem p_dig (x : Int) (h : H d = some (bagD c a b m l)) : DPut H d (.str (Str.ofString "digits")) (.int x) (upd H d (bagD c a x m l)) := DPut.k (k := Sum.inr "digits") h (by show 5 < sizeLine; decide)
theorem p_count (x : Int) (h : H d = some (bagD c a b m l)) : DPut H d (.str (Str.ofString "count")) (.int x) (upd H d (bagD c a b x l)) := DPut.k (k := Sum.inr "count") h (by show 5 < sizeLine; decide)
theorem p_fold (x : Int) (h : H d = some (bagD c a b m l)) : DPut H d (.str (Str.ofString "fold")) (.int x) (upd H d (bagD c a b m x)) := DPut.k (k := Sum.inr "fold") h (by show 5 < sizeLine; decide)
end
def spBag (K : PySem.W.Frag) : Sp := fun vs H Q E => ∃ (a : Addr) (xs : List Int), vs = [.ref a] ∧ SqL K H a (xs.map V.int) ∧ ∀ d c H', H d = none → Same H H' → Bag H' d c 0 → Q (.ref d) H'
theorem ok_bag (T : Tx P w K mg) : FnX P w K mg base CX0 1 "_law_bag" ["_law_script"] [] (spBag K) := by
  refine T.d_l_bag.ok0 sc_l_bag (fun _ _ _ _ _ _ us hl => match us, hl with | [_], _ => rfl) (fun vs H Q E h => ?_) (fun f cdv A outer s H vs Q E hr h => have hu := hu_of hr; ⟨_, (by exact (pss_cons (ps_set (i := 1) sc_l_bag.nd rfl (Or.inl rfl) pe_int)
      (pss_cons (ps_for PassesOwn.never rfl (pi_list (pv 0)) (pg_name (i := 2) sc_l_bag.nd rfl (Or.inl rfl))
        (pss_one (ps_set (i := 1) sc_l_bag.nd rfl (Or.inl rfl) (pe_op op_mod (pe_callTy call_int1 (by rfl) T.b_int (by decide +kernel) (pa_cons (pe_op op_add (pe_op op_mul (pv 1) pe_int) (pv 2)) pa_nil)) pe_int))))
      (pss_one (ps_ret (pe_disp (pps_cons pe_str (pe_callTy call_list_of (by rfl) T.b_list (by decide +kernel) (pa_cons (pv 0) pa_nil)) (pps_cons pe_str pe_int (pps_cons pe_str pe_int (pps_cons pe_str pe_int (pps_cons pe_str (pv 1) pps_nil))))) (by rfl) (by rfl) (fun z => by cases z) (by decide))))))), ?_⟩)
  · obtain ⟨a, xs, rfl, _⟩ := h
    rfl
  obtain ⟨a, xs, rfl, ha, hq⟩ := h
  refine ⟨_, rfl, a, rfl, ⟨_, ha⟩, for_list (xs := xs.map V.int) (fun i z H' => H' = H ∧ ∃ fo o, z = [some (.ref a), some (.int fo), o] ∧ 0 ≤ fo ∧ fo < 1000000009) ⟨rfl, 0, _, rfl, by decide, by decide⟩ (fun i z H' _ h => by rw [h.1]; exact ha) ?_ ?_⟩
  · rintro i v z H' hv ⟨rfl, fo, o, rfl, f0, f1⟩
    obtain ⟨k, h1, h2⟩ := List.mem_map.mp (List.mem_of_getElem? hv)
    subst h2
    refine ⟨_, rfl, _, _, rfl, rfl, .inl ⟨by omega, by omega⟩, _, rfl, _, _, rfl, rfl, .inl ⟨_, rfl, _, _, rfl, rfl, (by decide : (0 : Int) < 1000000009), ?_⟩⟩
    exact ⟨rfl, _, _, rfl, Int.emod_nonneg _ (by decide), Int.emod_lt_of_pos _ (by decide)⟩
  · rintro z H' ⟨rfl, fo, o, rfl, f0, f1⟩
    refine fun d hd => ⟨_, rfl, a, _, rfl, .inl ((Same.new hd).seq ha), fun l hl => ⟨_, rfl, ?_⟩⟩
    have hd2 : upd (upd H' d (.dK [])) l (.lst (xs.map V.int)) d = some (.dK []) := Same.new hl _ _ upd_same
    have hl2 : upd (upd H' d (.dK [])) l (.lst (xs.map V.int)) l = some (.lst (xs.map V.int)) := upd_same
    have S2 : Same H' (upd (upd H' d (.dK [])) l (.lst (xs.map V.int))) := (Same.new hd).trans (Same.new hl)
    refine ⟨hd2, [(Sum.inr "cells", .ref l), (Sum.inr "at", .int 0), (Sum.inr "digits", .int 0), (Sum.inr "count", .int 0), (Sum.inr "fold", .int fo)], rfl, (by show 5 ≤ 15; decide), ?_⟩
    refine hq d l _ hd (S2.mut hd) ⟨xs, 0, 0, 0, fo, upd_same, ?_, by omega, by omega, by omega, by omega, f0, by omega⟩
    rw [upd_ne (fun z => by subst z; rw [hl2] at hd2; cases hd2)]
    exact hl2
/-- a draw below lim -/
def spDraw : Sp := fun vs H Q E => ∃ (d c : Addr) (n : Nat) (lim : Int), vs = [.ref d, .int lim] ∧ Bag H d c n ∧ n < 2 ^ 40 ∧ 0 < lim ∧ lim ≤ 10 ^ 15 ∧ ∀ r H', 0 ≤ r → r < lim → SameX d H H' → Bag H' d c (n + 1) → Q (.int r) H'
theorem ok_draw (T : Tx P w K mg) : FnX P w K mg base CX0 1 "_law_draw" ["_law_bag_here", "_law_limit"] [] spDraw := by
  refine T.d_l_draw.ok0 sc_l_draw (fun _ _ _ _ _ _ us hl => match us, hl with | [_, _], _ => rfl) (fun vs H Q E h => ?_) (fun f cdv A outer s H vs Q E hr h => have hu := hu_of hr; ⟨_, (by exact (pss_cons (ps_dput hu (pv 0) pe_str (pe_op op_add (pe_dget hu (pv 0) pe_str (fun _ _ => rfl)) pe_int) rfl)
      (pss_cons (ps_if (PW.pt (pw_and (pt_cmpR op_eq (pe_dget hu (pv 0) pe_str (fun _ _ => rfl)) pe_int (nomark _)) (pw_and1 (pt_cmpR op_lt (pe_dget hu (pv 0) pe_str (fun _ _ => rfl)) (pe_callB call_len_seq (by rfl) T.b_len (by decide +kernel) (pa_cons (pe_dget hu (pv 0) pe_str (fun _ _ => rfl)) pa_nil)) (nomark _))))) (pss_cons (ps_set (i := 2) sc_l_draw.nd rfl (Or.inl rfl) (pe_ix ix_list (pe_dget hu (pv 0) pe_str (fun _ _ => rfl)) (pe_dget hu (pv 0) pe_str (fun _ _ => rfl)) (fun _ _ => rfl)))
      (pss_cons (ps_dput hu (pv 0) pe_str (pe_op op_add (pe_dget hu (pv 0) pe_str (fun _ _ => rfl)) pe_int) rfl)
      (pss_one (ps_if (pt_cmpR op_ge (pv 2) (pe_op op_pow pe_int pe_int) (nomark _)) (pss_one (ps_dput hu (pv 0) pe_str (pe_op op_sub (pv 2) (pe_op op_pow pe_int pe_int)) rfl)) (pss_one (ps_dput hu (pv 0) pe_str (pe_op op_mod (pe_callTy call_int1 (by rfl) T.b_int (by decide +kernel) (pa_cons (pe_op op_add (pe_op op_mul (pe_dget hu (pv 0) pe_str (fun _ _ => rfl)) pe_int) (pv 2)) pa_nil)) pe_int) rfl)))))) pss_nil)
      (pss_cons (ps_if (pt_cmpR op_gt (pe_dget hu (pv 0) pe_str (fun _ _ => rfl)) pe_int (nomark _)) (pss_cons (ps_set (i := 3) sc_l_draw.nd rfl (Or.inl rfl) (pe_op op_mod (pe_callTy call_int1 (by rfl) T.b_int (by decide +kernel) (pa_cons (pe_dget hu (pv 0) pe_str (fun _ _ => rfl)) pa_nil)) (pv 1)))
      (pss_cons (ps_dput hu (pv 0) pe_str (pe_op op_fdivW (pe_dget hu (pv 0) pe_str (fun _ _ => rfl)) (pv 1)) rfl)
      (pss_one (ps_ret (pv 3))))) pss_nil)
      (pss_cons (ps_set (i := 4) sc_l_draw.nd rfl (Or.inl rfl) (pe_op op_add (pe_op op_add (pe_dget hu (pv 0) pe_str (fun _ _ => rfl)) (pe_op op_mul (pe_dget hu (pv 0) pe_str (fun _ _ => rfl)) pe_int)) pe_int))
      (pss_cons (ps_set (i := 5) sc_l_draw.nd rfl (Or.inl rfl) (pe_op op_fdiv (pe_callTy call_int1 (by rfl) T.b_int (by decide +kernel) (pa_cons (pe_op op_mod (pe_op op_pow (pv 4) pe_int) pe_int) pa_nil)) pe_int))
      (pss_one (ps_ret (pe_ifExp (pt_cmpR op_lt (pv 1) (pe_op op_pow pe_int pe_int) (nomark _)) (pe_op op_mod (pv 5) (pv 1)) (pe_op op_mod (pe_callTy call_int1 (by rfl) T.b_int (by decide +kernel) (pa_cons (pe_op op_pow (pv 5) pe_int) pa_nil)) (pv 1))))))))))), ?_⟩)
  · obtain ⟨d, c, n, sp, rfl, _⟩ := h
    rfl
  obtain ⟨d, c, n, lim, rfl, ⟨cs, at0, dg0, cnt0, fo0, hd, hc, a1, a2, a3, a4, a5, a6⟩, hn, l0, l1, hq⟩ := h
  have hcd : c ≠ d := fun z => by subst z; rw [hd] at hc; cases hc
  refine ⟨_, rfl, d, _, rfl, g_count hd, _, _, rfl, rfl, _, rfl, d, _, rfl, p_count _ hd, ?_⟩
  have S1 : SameX d H (upd H d (bagD c at0 dg0 (cnt0 + 1) fo0)) := SameX.put
  have hd1 : upd H d (bagD c at0 dg0 (cnt0 + 1) fo0) d = some (bagD c at0 dg0 (cnt0 + 1) fo0) := upd_same
  have hc1 : upd H d (bagD c at0 dg0 (cnt0 + 1) fo0) c = some (.lst (cs.map V.int)) := by rw [upd_ne hcd]; exact hc
  generalize upd H d (bagD c at0 dg0 (cnt0 + 1) fo0) = H1 at *
  refine ⟨_, rfl, d, _, rfl, g_dig hd1, rfl, _, rfl, ?_⟩
  refine iteB (fun g0 => ?_) (fun _ => iteF ?_)
  · refine ⟨_, rfl, d, _, rfl, g_at hd1, _, rfl, d, _, rfl, g_cells hd1, c, _, rfl, .inl (SqL.of hc1), _, _, rfl, rfl, _, rfl, ?_⟩
    refine iteB (fun g1 => ?_) (fun _ => ?_)
    · have g1' : at0 < (cs.map V.int).length := of_decide_eq_true g1
      rw [List.length_map] at g1'
      have hj : at0.toNat < cs.length := by omega
      have ej : at0 = ((at0.toNat : Nat) : Int) := by omega
      have q := atI_nat (xs := cs.map V.int) (j := at0.toNat) (v := .int cs[at0.toNat]) (by simp [hj])
      rw [← ej] at q
      refine ⟨_, rfl, d, _, rfl, g_cells hd1, _, rfl, d, _, rfl, g_at hd1, c, _, _, _, rfl, rfl, SqL.of hc1, q, ?_⟩
      clear q
      generalize cs[at0.toNat] = cell
      refine ⟨_, rfl, d, _, rfl, g_at hd1, _, _, rfl, rfl, _, rfl, d, _, rfl, p_at _ hd1, ?_⟩
      have S2 : SameX d H (upd H1 d (bagD c (at0 + 1) dg0 (cnt0 + 1) fo0)) := S1.trans SameX.put
      have hd2 : upd H1 d (bagD c (at0 + 1) dg0 (cnt0 + 1) fo0) d = some (bagD c (at0 + 1) dg0 (cnt0 + 1) fo0) := upd_same
      have hc2 : upd H1 d (bagD c (at0 + 1) dg0 (cnt0 + 1) fo0) c = some (.lst (cs.map V.int)) := by rw [upd_ne hcd]; exact hc1
      generalize upd H1 d (bagD c (at0 + 1) dg0 (cnt0 + 1) fo0) = H2 at *
      refine ⟨_, rfl, _, _, rfl, rfl, ⟨by decide, by decide, by decide⟩, _, _, rfl, rfl, _, rfl, ?_⟩
      refine iteB (fun g2 => ?_) (fun _ => ?_)
      · refine ⟨_, rfl, _, _, rfl, rfl, ⟨by decide, by decide, by decide⟩, _, _, rfl, rfl, _, rfl, d, _, rfl, p_dig _ hd2, ?_⟩
        have b2 : 0 ≤ cell - 10 ^ (18 : Int).toNat := Int.sub_nonneg_of_le (of_decide_eq_true g2)
        have b1 : 0 ≤ at0 + 1 := by omega
        have b3 : 0 ≤ cnt0 + 1 := by omega
        have b4 : cnt0 + 1 ≤ ((n + 1 : Nat) : Int) := by omega
        have b5 := a5
        have b6 := a6
        have S9 : SameX d H (upd H2 d (bagD c (at0 + 1) (cell - 10 ^ (18 : Int).toNat) (cnt0 + 1) fo0)) := S2.trans SameX.put
        have hd9 : upd H2 d (bagD c (at0 + 1) (cell - 10 ^ (18 : Int).toNat) (cnt0 + 1) fo0) d = some (bagD c (at0 + 1) (cell - 10 ^ (18 : Int).toNat) (cnt0 + 1) fo0) := upd_same
        have hc9 : upd H2 d (bagD c (at0 + 1) (cell - 10 ^ (18 : Int).toNat) (cnt0 + 1) fo0) c = some (.lst (cs.map V.int)) := by rw [upd_ne hcd]; exact hc2
        dsimp only
        generalize upd H2 d (bagD c (at0 + 1) (cell - 10 ^ (18 : Int).toNat) (cnt0 + 1) fo0) = H9 at *
        generalize cell - 10 ^ (18 : Int).toNat = dg9 at *
        generalize at0 + 1 = at9 at *
        generalize cnt0 + 1 = cnt9 at *
        generalize fo0 = fo9 at *
        refine ⟨_, rfl, d, _, rfl, g_dig hd9, _, _, rfl, rfl, _, rfl, ?_⟩
        refine iteB (fun g => ?_) (fun g => ?_)
        · refine ⟨_, rfl, d, _, rfl, g_dig hd9, .inl ⟨_, rfl, _, rfl, _, _, rfl, rfl, l0, ?_⟩⟩
          refine ⟨_, rfl, d, _, rfl, g_dig hd9, _, rfl, _, _, rfl, rfl, wide_div (b := 60) l0 (by omega) (by decide) (by decide), _, rfl, d, _, rfl, p_dig _ hd9, _, rfl, ?_⟩
          exact hq _ _ (Int.emod_nonneg _ (by omega)) (Int.emod_lt_of_pos _ l0) (S9.trans SameX.put) ⟨cs, at9, dg9 / lim, cnt9, fo9, upd_same, (by rw [upd_ne hcd]; exact hc9), b1, Int.ediv_nonneg b2 (by omega), b3, b4, b5, b6⟩
        · refine ⟨_, rfl, d, _, rfl, g_fold hd9, _, rfl, d, _, rfl, g_count hd9, _, _, rfl, rfl, .inl ⟨by omega, by omega⟩, _, _, rfl, rfl, _, _, rfl, rfl, ?_⟩
          refine ⟨_, rfl, _, _, rfl, rfl, ⟨by decide, by decide, by show (fo9 + cnt9 * 7907 + 31).natAbs < 2 ^ 64; omega⟩, _, _, rfl, rfl, (by decide : (0 : Int) < 2305843009213693951), .inl ⟨_, rfl, _, _, rfl, rfl, ⟨by decide, by decide⟩, ?_⟩⟩
          have f0 := Int.emod_nonneg ((fo9 + cnt9 * 7907 + 31) ^ (17 : Int).toNat) (b := 2305843009213693951) (by decide)
          have f1 := Int.emod_lt_of_pos ((fo9 + cnt9 * 7907 + 31) ^ (17 : Int).toNat) (b := 2305843009213693951) (by decide)
          dsimp only
          generalize (fo9 + cnt9 * 7907 + 31) ^ (17 : Int).toNat % 2305843009213693951 = m9 at *
          refine ⟨_, rfl, _, _, rfl, rfl, ⟨by decide, by decide, by decide⟩, _, _, rfl, rfl, _, rfl, ?_⟩
          refine iteB (fun g => ?_) (fun g => ?_)
          · exact ⟨_, rfl, _, rfl, _, _, rfl, rfl, l0, hq _ _ (Int.emod_nonneg _ (by omega)) (Int.emod_lt_of_pos _ l0) S9 ⟨cs, at9, dg9, cnt9, fo9, hd9, hc9, b1, b2, b3, b4, b5, b6⟩⟩
          · exact ⟨_, rfl, _, _, rfl, rfl, ⟨by decide, by decide, by show (m9 / 128).natAbs < 2 ^ 64; omega⟩, .inl ⟨_, rfl, _, rfl, _, _, rfl, rfl, l0, hq _ _ (Int.emod_nonneg _ (by omega)) (Int.emod_lt_of_pos _ l0) S9 ⟨cs, at9, dg9, cnt9, fo9, hd9, hc9, b1, b2, b3, b4, b5, b6⟩⟩⟩
      · refine ⟨_, rfl, d, _, rfl, g_fold hd2, _, _, rfl, rfl, .inl ⟨by omega, by omega⟩, _, rfl, _, _, rfl, rfl, .inl ⟨_, rfl, _, _, rfl, rfl, (by decide : (0 : Int) < 2147483587), _, rfl, d, _, rfl, p_fold _ hd2, ?_⟩⟩
        have b5 := Int.emod_nonneg (fo0 * 69069 + cell) (b := 2147483587) (by decide)
        have b6' := Int.emod_lt_of_pos (fo0 * 69069 + cell) (b := 2147483587) (by decide)
        have b2 := a2
        have b1 : 0 ≤ at0 + 1 := by omega
        have b3 : 0 ≤ cnt0 + 1 := by omega
        have b4 : cnt0 + 1 ≤ ((n + 1 : Nat) : Int) := by omega
        have S9 : SameX d H (upd H2 d (bagD c (at0 + 1) dg0 (cnt0 + 1) ((fo0 * 69069 + cell) % 2147483587))) := S2.trans SameX.put
        have hd9 : upd H2 d (bagD c (at0 + 1) dg0 (cnt0 + 1) ((fo0 * 69069 + cell) % 2147483587)) d = some (bagD c (at0 + 1) dg0 (cnt0 + 1) ((fo0 * 69069 + cell) % 2147483587)) := upd_same
        have hc9 : upd H2 d (bagD c (at0 + 1) dg0 (cnt0 + 1) ((fo0 * 69069 + cell) % 2147483587)) c = some (.lst (cs.map V.int)) := by rw [upd_ne hcd]; exact hc2
        dsimp only
        generalize upd H2 d (bagD c (at0 + 1) dg0 (cnt0 + 1) ((fo0 * 69069 + cell) % 2147483587)) = H9 at *
        generalize (fo0 * 69069 + cell) % 2147483587 = fo9 at *
        have b6 : fo9 < 2147483648 := by omega
        generalize dg0 = dg9 at *
        generalize at0 + 1 = at9 at *
        generalize cnt0 + 1 = cnt9 at *
        refine ⟨_, rfl, d, _, rfl, g_dig hd9, _, _, rfl, rfl, _, rfl, ?_⟩
        refine iteB (fun g => ?_) (fun g => ?_)
        · refine ⟨_, rfl, d, _, rfl, g_dig hd9, .inl ⟨_, rfl, _, rfl, _, _, rfl, rfl, l0, ?_⟩⟩
          refine ⟨_, rfl, d, _, rfl, g_dig hd9, _, rfl, _, _, rfl, rfl, wide_div (b := 60) l0 (by omega) (by decide) (by decide), _, rfl, d, _, rfl, p_dig _ hd9, _, rfl, ?_⟩
          exact hq _ _ (Int.emod_nonneg _ (by omega)) (Int.emod_lt_of_pos _ l0) (S9.trans SameX.put) ⟨cs, at9, dg9 / lim, cnt9, fo9, upd_same, (by rw [upd_ne hcd]; exact hc9), b1, Int.ediv_nonneg b2 (by omega), b3, b4, b5, b6⟩
        · refine ⟨_, rfl, d, _, rfl, g_fold hd9, _, rfl, d, _, rfl, g_count hd9, _, _, rfl, rfl, .inl ⟨by omega, by omega⟩, _, _, rfl, rfl, _, _, rfl, rfl, ?_⟩
          refine ⟨_, rfl, _, _, rfl, rfl, ⟨by decide, by decide, by show (fo9 + cnt9 * 7907 + 31).natAbs < 2 ^ 64; omega⟩, _, _, rfl, rfl, (by decide : (0 : Int) < 2305843009213693951), .inl ⟨_, rfl, _, _, rfl, rfl, ⟨by decide, by decide⟩, ?_⟩⟩
          have f0 := Int.emod_nonneg ((fo9 + cnt9 * 7907 + 31) ^ (17 : Int).toNat) (b := 2305843009213693951) (by decide)
          have f1 := Int.emod_lt_of_pos ((fo9 + cnt9 * 7907 + 31) ^ (17 : Int).toNat) (b := 2305843009213693951) (by decide)
          dsimp only
          generalize (fo9 + cnt9 * 7907 + 31) ^ (17 : Int).toNat % 2305843009213693951 = m9 at *
          refine ⟨_, rfl, _, _, rfl, rfl, ⟨by decide, by decide, by decide⟩, _, _, rfl, rfl, _, rfl, ?_⟩
          refine iteB (fun g => ?_) (fun g => ?_)
          · exact ⟨_, rfl, _, rfl, _, _, rfl, rfl, l0, hq _ _ (Int.emod_nonneg _ (by omega)) (Int.emod_lt_of_pos _ l0) S9 ⟨cs, at9, dg9, cnt9, fo9, hd9, hc9, b1, b2, b3, b4, b5, b6⟩⟩
          · exact ⟨_, rfl, _, _, rfl, rfl, ⟨by decide, by decide, by show (m9 / 128).natAbs < 2 ^ 64; omega⟩, .inl ⟨_, rfl, _, rfl, _, _, rfl, rfl, l0, hq _ _ (Int.emod_nonneg _ (by omega)) (Int.emod_lt_of_pos _ l0) S9 ⟨cs, at9, dg9, cnt9, fo9, hd9, hc9, b1, b2, b3, b4, b5, b6⟩⟩⟩
    · have b1 := a1
      have b2 := a2
      have b3 : 0 ≤ cnt0 + 1 := by omega
      have b4 : cnt0 + 1 ≤ ((n + 1 : Nat) : Int) := by omega
      have b5 := a5
      have b6 := a6
      have S9 := S1
      have hd9 := hd1
      have hc9 := hc1
      generalize H1 = H9 at *
      generalize fo0 = fo9 at *
      generalize dg0 = dg9 at *
      generalize at0 = at9 at *
      generalize cnt0 + 1 = cnt9 at *
      refine ⟨_, rfl, d, _, rfl, g_dig hd9, _, _, rfl, rfl, _, rfl, ?_⟩
      refine iteB (fun g => ?_) (fun g => ?_)
      · refine ⟨_, rfl, d, _, rfl, g_dig hd9, .inl ⟨_, rfl, _, rfl, _, _, rfl, rfl, l0, ?_⟩⟩
        refine ⟨_, rfl, d, _, rfl, g_dig hd9, _, rfl, _, _, rfl, rfl, wide_div (b := 60) l0 (by omega) (by decide) (by decide), _, rfl, d, _, rfl, p_dig _ hd9, _, rfl, ?_⟩
        exact hq _ _ (Int.emod_nonneg _ (by omega)) (Int.emod_lt_of_pos _ l0) (S9.trans SameX.put) ⟨cs, at9, dg9 / lim, cnt9, fo9, upd_same, (by rw [upd_ne hcd]; exact hc9), b1, Int.ediv_nonneg b2 (by omega), b3, b4, b5, b6⟩
      · refine ⟨_, rfl, d, _, rfl, g_fold hd9, _, rfl, d, _, rfl, g_count hd9, _, _, rfl, rfl, .inl ⟨by omega, by omega⟩, _, _, rfl, rfl, _, _, rfl, rfl, ?_⟩
        refine ⟨_, rfl, _, _, rfl, rfl, ⟨by decide, by decide, by show (fo9 + cnt9 * 7907 + 31).natAbs < 2 ^ 64; omega⟩, _, _, rfl, rfl, (by decide : (0 : Int) < 2305843009213693951), .inl ⟨_, rfl, _, _, rfl, rfl, ⟨by decide, by decide⟩, ?_⟩⟩
        have f0 := Int.emod_nonneg ((fo9 + cnt9 * 7907 + 31) ^ (17 : Int).toNat) (b := 2305843009213693951) (by decide)
        have f1 := Int.emod_lt_of_pos ((fo9 + cnt9 * 7907 + 31) ^ (17 : Int).toNat) (b := 2305843009213693951) (by decide)
        dsimp only
        generalize (fo9 + cnt9 * 7907 + 31) ^ (17 : Int).toNat % 2305843009213693951 = m9 at *
        refine ⟨_, rfl, _, _, rfl, rfl, ⟨by decide, by decide, by decide⟩, _, _, rfl, rfl, _, rfl, ?_⟩
        refine iteB (fun g => ?_) (fun g => ?_)
        · exact ⟨_, rfl, _, rfl, _, _, rfl, rfl, l0, hq _ _ (Int.emod_nonneg _ (by omega)) (Int.emod_lt_of_pos _ l0) S9 ⟨cs, at9, dg9, cnt9, fo9, hd9, hc9, b1, b2, b3, b4, b5, b6⟩⟩
        · exact ⟨_, rfl, _, _, rfl, rfl, ⟨by decide, by decide, by show (m9 / 128).natAbs < 2 ^ 64; omega⟩, .inl ⟨_, rfl, _, rfl, _, _, rfl, rfl, l0, hq _ _ (Int.emod_nonneg _ (by omega)) (Int.emod_lt_of_pos _ l0) S9 ⟨cs, at9, dg9, cnt9, fo9, hd9, hc9, b1, b2, b3, b4, b5, b6⟩⟩⟩
  · have b1 := a1
    have b2 := a2
    have b3 : 0 ≤ cnt0 + 1 := by omega
    have b4 : cnt0 + 1 ≤ ((n + 1 : Nat) : Int) := by omega
    have b5 := a5
    have b6 := a6
    have S9 := S1
    have hd9 := hd1
    have hc9 := hc1
    generalize H1 = H9 at *
    generalize fo0 = fo9 at *
    generalize dg0 = dg9 at *
    generalize at0 = at9 at *
    generalize cnt0 + 1 = cnt9 at *
    refine ⟨_, rfl, d, _, rfl, g_dig hd9, _, _, rfl, rfl, _, rfl, ?_⟩
    refine iteB (fun g => ?_) (fun g => ?_)
    · refine ⟨_, rfl, d, _, rfl, g_dig hd9, .inl ⟨_, rfl, _, rfl, _, _, rfl, rfl, l0, ?_⟩⟩
      refine ⟨_, rfl, d, _, rfl, g_dig hd9, _, rfl, _, _, rfl, rfl, wide_div (b := 60) l0 (by omega) (by decide) (by decide), _, rfl, d, _, rfl, p_dig _ hd9, _, rfl, ?_⟩
      exact hq _ _ (Int.emod_nonneg _ (by omega)) (Int.emod_lt_of_pos _ l0) (S9.trans SameX.put) ⟨cs, at9, dg9 / lim, cnt9, fo9, upd_same, (by rw [upd_ne hcd]; exact hc9), b1, Int.ediv_nonneg b2 (by omega), b3, b4, b5, b6⟩
    · refine ⟨_, rfl, d, _, rfl, g_fold hd9, _, rfl, d, _, rfl, g_count hd9, _, _, rfl, rfl, .inl ⟨by omega, by omega⟩, _, _, rfl, rfl, _, _, rfl, rfl, ?_⟩
      refine ⟨_, rfl, _, _, rfl, rfl, ⟨by decide, by decide, by show (fo9 + cnt9 * 7907 + 31).natAbs < 2 ^ 64; omega⟩, _, _, rfl, rfl, (by decide : (0 : Int) < 2305843009213693951), .inl ⟨_, rfl, _, _, rfl, rfl, ⟨by decide, by decide⟩, ?_⟩⟩
      have f0 := Int.emod_nonneg ((fo9 + cnt9 * 7907 + 31) ^ (17 : Int).toNat) (b := 2305843009213693951) (by decide)
      have f1 := Int.emod_lt_of_pos ((fo9 + cnt9 * 7907 + 31) ^ (17 : Int).toNat) (b := 2305843009213693951) (by decide)
      dsimp only
      generalize (fo9 + cnt9 * 7907 + 31) ^ (17 : Int).toNat % 2305843009213693951 = m9 at *
      refine ⟨_, rfl, _, _, rfl, rfl, ⟨by decide, by decide, by decide⟩, _, _, rfl, rfl, _, rfl, ?_⟩
      refine iteB (fun g => ?_) (fun g => ?_)
      · exact ⟨_, rfl, _, rfl, _, _, rfl, rfl, l0, hq _ _ (Int.emod_nonneg _ (by omega)) (Int.emod_lt_of_pos _ l0) S9 ⟨cs, at9, dg9, cnt9, fo9, hd9, hc9, b1, b2, b3, b4, b5, b6⟩⟩
      · exact ⟨_, rfl, _, _, rfl, rfl, ⟨by decide, by decide, by show (m9 / 128).natAbs < 2 ^ 64; omega⟩, .inl ⟨_, rfl, _, rfl, _, _, rfl, rfl, l0, hq _ _ (Int.emod_nonneg _ (by omega)) (Int.emod_lt_of_pos _ l0) S9 ⟨cs, at9, dg9, cnt9, fo9, hd9, hc9, b1, b2, b3, b4, b5, b6⟩⟩⟩
end
end K17


set_option Elab.async false
set_option linter.all false
set_option maxRecDepth 100000
set_option maxHeartbeats 4000000
/-! drawing -/
namespace K17
open PySem PySem.Spec PyProof.Rows L2
section
variable {K : PySem.W.Frag}
theorem bag_d {H : Hp} {d c : Addr} {n : Nat} (h : Bag H d c n) : ∃ kv, H d = some (.dK kv) := by
  obtain ⟨cs, a, dg, cnt, fo, h1, _⟩ := h
  exact ⟨_, h1⟩
theorem bag_c {H : Hp} {d c : Addr} {n : Nat} (h : Bag H d c n) : ∃ l, H c = some (.lst l) := by
  obtain ⟨cs, a, dg, cnt, fo, _, h2, _⟩ := h
  exact ⟨_, h2⟩
theorem draw_go {σ : L2.St} {H : Hp} {Q : VK} {d c : Addr} {n i : Nat} {lim : Nat} (hi : σ[i]? = some (some (.ref d))) (hb : Bag H d c n) (hn : n < 2 ^ 30) (h0 : 0 < lim) (h1 : lim ≤ 1000) (k : ∀ (r : Nat) H', r < lim → SameX d H H' → Bag H' d c (n + 1) → Q (.int (r : Nat)) H') :
    tCall spDraw [] E0 (tCons (tVar i) (tCons (tC (.int (lim : Nat))) tNil)) σ H Q :=
  ⟨_, hi, d, c, n, (lim : Nat), rfl, hb, by omega, by omega, by omega, fun r H' r0 r1 s hb' => by
    obtain ⟨m, rfl⟩ := Int.eq_ofNat_of_zero_le r0
    exact k m H' (by omega) s hb'⟩
theorem bag_ne {H : Hp} {d c x : Addr} {n : Nat} {l : List V} (h : Bag H d c n) (hx : H x = some (.lst l)) : x ≠ d := fun e => by
  obtain ⟨kv, hd⟩ := bag_d h
  rw [e, hd] at hx
  cases hx
/-- xs[draw(bag, len)], xs a list display -/
theorem pick_go {σ : L2.St} {H : Hp} {Q : VK} {ta : TA} {xs : List V} {d c : Addr} {n i lim : Nat} (ha : EvA ta σ H xs) (hi : σ[i]? = some (some (.ref d))) (hb : Bag H d c n) (hn : n < 2 ^ 30) (hl : lim = xs.length) (h0 : 0 < lim) (k : ∀ (r : Nat) v H', xs[r]? = some v → SameX d H H' → Bag H' d c (n + 1) → Q v H') (h1 : Nat.ble xs.length 1000 = true := by rfl) :
    tOp (rIxL K) (tLst ta) (tCall spDraw [] E0 (tCons (tVar i) (tCons (tC (.int (lim : Nat))) tNil))) σ H Q := by
  refine mk_lst (Q := fun x H1 => tCall spDraw [] E0 (tCons (tVar i) (tCons (tC (.int (lim : Nat))) tNil)) σ H1 fun y H2 => rIxL K x y H2 Q) ha (fun H1 l s1 _ hl1 => ?_) h1
  refine draw_go hi (hb.up s1) hn h0 (by have := Nat.le_of_ble_eq_true h1; omega) (fun r H2 hr s2 hb2 => ?_)
  have hlt : r < xs.length := by omega
  refine ⟨l, xs, r, xs[r], rfl, rfl, .inl (.inl (s2 _ _ (bag_ne (hb.up s1) hl1) hl1)), atI_nat (by simp [hlt]), k r _ H2 (by simp [hlt]) (s1.x.tr s2) hb2⟩
/-- xs[draw(bag, len)], xs a name -/
theorem pickv_go {σ : L2.St} {H : Hp} {Q : VK} {xs : List V} {p d c : Addr} {n i j lim : Nat} (hv : σ[j]? = some (some (.ref p))) (hp : H p = some (.lst xs)) (hi : σ[i]? = some (some (.ref d))) (hb : Bag H d c n) (hn : n < 2 ^ 30) (hl : lim = xs.length) (h0 : 0 < lim) (h1 : lim ≤ 1000) (k : ∀ (r : Nat) v H', xs[r]? = some v → SameX d H H' → Bag H' d c (n + 1) → Q v H') :
    tOp (rIxL K) (tVar j) (tCall spDraw [] E0 (tCons (tVar i) (tCons (tC (.int (lim : Nat))) tNil))) σ H Q := by
  refine ⟨_, hv, draw_go hi hb hn h0 h1 (fun r H2 hr s2 hb2 => ?_)⟩
  have hlt : r < xs.length := by omega
  exact ⟨p, xs, r, xs[r], rfl, rfl, .inl (.inl (s2 _ _ (bag_ne hb hp) hp)), atI_nat (by simp [hlt]), k r _ H2 (by simp [hlt]) s2 hb2⟩
end
end K17


set_option Elab.async false
set_option linter.all false
set_option maxRecDepth 100000
set_option maxHeartbeats 4000000
namespace L2
open PySem PySem.Spec PyProof.Rows
/-- a comprehension over a text -/
theorem lcs_dq {K : PySem.W.Frag} {tl te : TE} {g : TG} {tt : TT} {vs : List Nat} {σ : St} {H : Hp} {z : Str} (os : List (Option PyData)) (he : EvE tl σ H (.str z)) (hl : os.length = z.cps.size) (hn : os.length ≤ 1000000)
    (step : ∀ (i : Nat) (c : Nat) (o : Option PyData) (H' : Hp), z.cps[i]? = some c → os[i]? = some o → Same H H' → LcStep K g tt te vs σ (.str ⟨#[c]⟩) H' o) {Q : VK} (k : ∀ q ys H', Same H H' → H q = none → H' q = some (.lst ys) → DqAll K H' ys (os.filterMap id) → Q (.ref q) H') : tLc (iStr tl) g tt te vs σ H Q :=
  he _ fun H1 s1 => ⟨z, rfl, fun D hD => by
    refine lc_it walk_str (fun i H' => Same H1 H' ∧ ∃ ac, H' D = some (.lst ac) ∧ DqAll K H' ac ((os.take i).filterMap id)) ⟨Same.new hD, [], upd_same, .nil⟩ (fun _ _ _ _ => trivial) ?_ (fun H2 h => ?_)
    · rintro i v H2 H3 hi ⟨s2, acc, hacc, hd⟩ ⟨rfl, c, hc, rfl⟩
      have hi : i < os.length := by omega
      have ho : os[i]? = some os[i] := List.getElem?_eq_getElem hi
      exact lc_stepOk hn ho hD s2 (step i c _ _ hc ho (s1.tr s2)) hacc hd
    · obtain ⟨s2, acc, hacc, hd⟩ := h
      rw [← hl, List.take_length] at hd
      exact k D acc H2 (s1.tr s2) (none_of s1 hD) hacc hd⟩
theorem fm_empty {γ : Type} (f : γ → PyData) (p : γ → Bool) (l : List γ) : ((l.map fun x => if p x then some (f x) else none).filterMap id).isEmpty = !l.any p := by
  induction l with
  | nil => rfl
  | cons x r ih =>
    rw [List.map_cons, List.filterMap_cons, List.any_cons]
    cases p x with
    | true => rfl
    | false => rw [Bool.false_or]; exact ih
theorem DqAll.empty {K : PySem.W.Frag} {H : Hp} {ys : List V} {ds : List PyData} (h : DqAll K H ys ds) : ys.isEmpty = ds.isEmpty := by cases h <;> rfl
end L2
namespace K17
open PySem PySem.Spec PyProof.Rows L2 Rdr LmX LamX NdefX Idr Tld
theorem names_split : Txt.split "page slot stamp word a b c" spW = namesOf "give" ∧ Txt.split "page slot stamp a b c" spW = namesOf "free" ∧ Txt.split "word page slot stamp a b c" spW = namesOf "look" := by decide +kernel
section
variable {P : Program} {w : World} {K : PySem.W.Frag} {mg : Str → Option Value} {base : Heap}
def spNames : Sp := fun vs H Q _ => ∃ (kind : Str), vs = [.str kind] ∧ kind ∈ kinds3 ∧ ∀ q H', Same H H' → H q = none → H' q = some (.lst ((namesOf kind).map V.str)) → Q (.ref q) H'
theorem ok_l_names (T : Tx P w K mg) : FnX P w K mg base CX0 1 "_law_names" ["_law_kind"] [] spNames := by
  refine T.d_l_names.ok0 sc_l_names (fun _ _ _ _ _ _ us hl => match us, hl with | [_], _ => rfl) (fun vs H Q E h => ?_) (fun f cdv A outer s H vs Q E hr h => have hu := hu_of hr; ⟨_, (by exact (pss_cons (ps_set (i := 1) sc_l_names.nd rfl (Or.inl rfl) (pe_disp (pps_cons pe_str pe_str (pps_cons pe_str pe_str pps_nil)) (by rfl) (by rfl) (fun z => by cases z) (by decide)))
      (pss_one (ps_ret (pe_split (pe_dget2 hu (pv 1) (pv 0) pe_str ⟨rfl, rfl, rfl, rfl⟩) pe_str))))), ?_⟩)
  · obtain ⟨kind, rfl, _⟩ := h
    rfl
  obtain ⟨kind, rfl, hk, h0⟩ := h
  have q9 : sizeLine = 16777216 := sizeLine_eq
  refine set_te fun p hp => ?_
  refine ⟨upd_same, [(Sum.inr "give", .str "page slot stamp word a b c"), (Sum.inr "free", .str "page slot stamp a b c")], rfl, by decide, ?_⟩
  have s1 : Same H (upd (upd H p (.dK [])) p (.dK (mergeK [] [(Sum.inr "give", .str "page slot stamp word a b c"), (Sum.inr "free", .str "page slot stamp a b c")]))) := fun b o hb => by rw [upd_ne (ne_of_none hb hp), upd_ne (ne_of_none hb hp)]; exact hb
  have i1 : upd (upd H p (.dK [])) p (.dK (mergeK [] [(Sum.inr "give", .str "page slot stamp word a b c"), (Sum.inr "free", .str "page slot stamp a b c")])) p = some (.dK [(Sum.inr "give", .str "page slot stamp word a b c"), (Sum.inr "free", .str "page slot stamp a b c")]) := upd_same
  generalize upd (upd H p (.dK [])) p (.dK (mergeK [] [(Sum.inr "give", .str "page slot stamp word a b c"), (Sum.inr "free", .str "page slot stamp a b c")])) = H1 at s1 i1 ⊢
  have fin : ∀ zk : Str, (valV ([(Sum.inr (Str.ofString "give"), V.str "page slot stamp word a b c"), (Sum.inr (Str.ofString "free"), V.str "page slot stamp a b c")] : List (Key × V)) (Sum.inr kind)).getD (.str "word page slot stamp a b c") = .str zk → zk.length ≤ 100 → Txt.split zk spW = namesOf kind → ∀ D : Ends, D.rt = Q → tRet (tM1 (fun x xs H Q => ∃ a b, x = V.str a ∧ xs = [V.str b] ∧ (b.length == 0) = false ∧ a.length + 2 ≤ sizeLine ∧ rNewStrs (Txt.split a b) H Q) (tDGet2 (tVar 1) (tVar 0) (tC (V.str "word page slot stamp a b c"))) (tC (V.str spW))) D [some (.str kind), some (.ref p)] H1 := by
    intro zk h1 h2 h3 D hD
    refine ret_go (do_split (z := zk) (fun Q k => ⟨_, rfl, p, rfl, .inl ⟨_, .inl i1⟩, _, rfl, _, DGet.k (k := Sum.inr kind) i1, ?_⟩) (by decide +kernel) (by omega) (fun H2 q s2 hq0 hq => ?_))
    · rw [hD]; exact h0 q H2 (s1.tr s2) (none_of s1 hq0) (by rw [← h3]; exact hq)
    · rw [h1]; exact k _ (Same.rf _)
  have hk3 := hk
  simp only [kinds3, List.mem_cons, List.not_mem_nil, or_false] at hk3
  rcases hk3 with rfl | rfl | rfl
  · exact fin _ rfl (by decide +kernel) names_split.1 _ rfl
  · exact fin _ rfl (by decide +kernel) names_split.2.1 _ rfl
  · exact fin _ rfl (by decide +kernel) names_split.2.2 _ rfl
theorem dig_in (c : Nat) : decide (c ∈ (Str.ofString "0123456789").cps.toList) = isDig c := by
  have e : (Str.ofString "0123456789").cps.toList = [48, 49, 50, 51, 52, 53, 54, 55, 56, 57] := by decide +kernel
  rw [e]
  unfold isDig
  rw [Bool.eq_iff_iff, Bool.and_eq_true, decide_eq_true_eq, decide_eq_true_eq, decide_eq_true_eq]
  simp only [List.mem_cons, List.not_mem_nil, or_false]
  omega
theorem lnum_if (z : Str) : lnum z = if numOk z.cps.toList = true then ((NumText.digitsVal z.cps.toList : Nat) : Int) else -1 := by
  unfold lnum tNum
  split <;> rfl
theorem str_nil {z : Str} (h : z.cps.toList = []) : z = Str.ofString "" := TL.ext_tl h
theorem str_zero : (Str.ofString "0").cps.toList = [48] := by decide +kernel
def spNumb : Sp := fun vs H Q _ => ∃ (z : Str), vs = [.str z] ∧ z.length ≤ 10000 ∧ ∀ H', Same H H' → Q (.int (lnum z)) H'
theorem ok_l_number (T : Tx P w K mg) : FnX P w K mg base CX0 1 "_law_number" ["_law_word"] [] spNumb := by
  refine T.d_l_number.ok0 sc_l_number (fun _ _ _ _ _ _ us hl => match us, hl with | [_], _ => rfl) (fun vs H Q E h => ?_) (fun f cdv A outer s H vs Q E hr h => have hu := hu_of hr; ⟨_, (by exact (pss_cons (ps_set (i := 1) sc_l_number.nd rfl (Or.inl rfl) (pe_and (pe_cmpR op_ne (pv 0) pe_str (nomark _)) (pe_one (pe_cmpR (op_eqNil hu) (pe_lc (own := [("_law_sign", 2)]) (g := (gName 2))  (by rfl) sc_l_number.nd (pi_str (pv 0)) (blkOk_by (own := [("_law_sign", 2)]) (N := ["_law_word", "_law_plain", "_law_sign"]) (sc := defScope s_l_number) (by decide +kernel)) (fun _ _ _ _ _ => (pg_name (i := 2) sc_l_number.nd rfl (Or.inl rfl))) (fun _ _ _ _ _ => (pts_one (pt_cmpR op_notIn_sign (pv 2) pe_str (by rfl)))) (fun _ _ _ _ _ => (pv 2))) (pe_lst pa_nil) (nomark _)))))
      (pss_one (ps_ret (pe_ifExp (PW.pt (pw_and (pt_val (pv 1)) (pw_and (pt_cmpR op_le (pe_callB call_len_str (by rfl) T.b_len (by decide +kernel) (pa_cons (pv 0) pa_nil)) pe_int (nomark _)) (pw_and1 (PW.pt (pw_or (pt_cmpR op_eq (pv 0) pe_str (nomark _)) (pw_or1 (pt_cmpR op_ne (pe_ix ix_str (pv 0) pe_int (fun _ _ => rfl)) pe_str (nomark _))))))))) (pe_callTy call_int_str (by rfl) T.b_int (by decide +kernel) (pa_cons (pv 0) pa_nil)) (pe_un un_neg pe_int)))))), ?_⟩)
  · obtain ⟨z, rfl, _⟩ := h
    rfl
  obtain ⟨z, rfl, hz, h0⟩ := h
  have q9 : sizeLine = 16777216 := sizeLine_eq
  let S : L2.St := [some (.str z), none, none]
  have C : ∀ {H : Hp}, EvE (tOp (rNil K id) (tLc (iStr (tVar 0)) (gName 2) (tTest (tOp (fun x y H Q => ∃ (c : Nat) (z : Str), x = V.str ⟨#[c]⟩ ∧ y = V.str z ∧ Q (V.bl (!decide (c ∈ z.cps.toList))) H) (tVar 2) (tC (V.str (Str.ofString "0123456789"))))) (tVar 2) [2]) (tLst tNil)) S H (.bl (!(z.cps.toList.any fun c => !isDig c))) := fun {H} R k => by
    refine op_go (lcs_dq (K := K) (z := z) (z.cps.toList.map fun c => if !isDig c then some (PyData.str ⟨#[c]⟩) else none) (ev_var rfl) (by rw [List.length_map]; exact Array.length_toList) (by rw [List.length_map, Array.length_toList]; have : z.cps.size ≤ 10000 := hz; omega) (fun i c o H' hc ho s => ?_) (fun q ys H' s _ hq hy => lst_go (nil_go ⟨szL rfl, fun e he => ⟨q, e, ys, rfl, rfl, .inl (.inl (Same.new he _ _ hq)), .inl (.inl upd_same), ?_⟩⟩)))
    · rw [List.getElem?_map, show z.cps.toList[i]? = some c from by rw [Array.getElem?_toList]; exact hc] at ho
      cases ho
      refine ⟨[some (.str z), none, some (.str ⟨#[c]⟩)], fun R k => k, rfl, ?_⟩
      have ht : EvT (tTest (tOp (fun x y H Q => ∃ (c : Nat) (z : Str), x = V.str ⟨#[c]⟩ ∧ y = V.str z ∧ Q (V.bl (!decide (c ∈ z.cps.toList))) H) (tVar 2) (tC (V.str (Str.ofString "0123456789"))))) [some (.str z), none, some (.str ⟨#[c]⟩)] H' (!isDig c) := by
        have : EvT (tTest (tOp (fun x y H Q => ∃ (c : Nat) (z : Str), x = V.str ⟨#[c]⟩ ∧ y = V.str z ∧ Q (V.bl (!decide (c ∈ z.cps.toList))) H) (tVar 2) (tC (V.str (Str.ofString "0123456789"))))) [some (.str z), none, some (.str ⟨#[c]⟩)] H' (!decide (c ∈ (Str.ofString "0123456789").cps.toList)) := ev_test (ev_op (v := .bl _) (ev_var rfl) (fun _ _ => ev_C) fun _ _ Q q => ⟨_, _, rfl, rfl, q⟩)
        rw [dig_in] at this
        exact this
      dsimp only
      cases hd : isDig c with
      | true =>
        rw [hd] at ht
        exact ht
      | false =>
        rw [hd] at ht
        exact ⟨ht, fun H2 _ => (ev_var (i := 2) rfl).d fun _ _ => .str _⟩
    · rw [show id ys.isEmpty = !(z.cps.toList.any fun c => !isDig c) from by rw [id, hy.empty, fm_empty]]
      exact k _ (s.tr (Same.new he))
  have LEN : ∀ {σ : L2.St} {H' : Hp}, σ[0]? = some (some (.str z)) → EvE (tCB (fun xs H Q => ∃ z, xs = [V.str z] ∧ z.length ≤ sizeLine ∧ Q (V.int (z.length : Nat)) H) (tCons (tVar 0) tNil)) σ H' (.int (z.length : Nat)) := fun h Q k => cb_go (cons_go (var_go h (nil_go ⟨z, rfl, by omega, k _ (Same.rf _)⟩)))
  have hlen : z.cps.toList.length = z.length := Array.length_toList
  cases hcs : z.cps.toList with
  | nil =>
    have hz0 := str_nil hcs
    refine do_set (ev_andV (b1 := false) (b2 := true) (by
      have := ev_ne (σ := S) (H := H) (a := tVar 0) (ev_var rfl) (fun _ _ => ev_C (v := V.str (Str.ofString ""))) rfl
      rw [dcS, decide_eq_true hz0] at this
      exact this) (fun g => by cases g)) fun H1 s1 => ?_
    refine ret_go (ev_if (b1 := false) (v := .int (lnum z)) (ev_and (b1 := false) (b2 := true) (ev_tB (ev_var rfl)) (fun g => by cases g)) (fun g => by cases g) (fun _ H2 s2 => ?_) _ fun H2 s2 => h0 H2 (s1.tr s2))
    rw [lnum_if, hcs, if_neg (by decide)]
    exact fun Q k => ⟨1, rfl, k _ (Same.rf _)⟩
  | cons c r =>
    have hz0 : z ≠ Str.ofString "" := fun e => by rw [e] at hcs; cases hcs
    refine do_set (ev_andV (b1 := true) (b2 := !(z.cps.toList.any fun c => !isDig c)) (by
      have := ev_ne (σ := S) (H := H) (a := tVar 0) (ev_var rfl) (fun _ _ => ev_C (v := V.str (Str.ofString ""))) rfl
      rw [dcS, decide_eq_false hz0] at this
      exact this) (fun _ _ _ => C)) fun H1 s1 => ?_
    have at0 : atI z.cps.toList 0 = some c := by rw [hcs]; exact atI_nat (j := 0) rfl
    have NE : ∀ {H' : Hp} {b : Bool}, EvT (tTest (tOp rNe (tOp rIxS (tVar 0) (tC (.int 0))) (tC (.str (Str.ofString "0"))))) [some (.str z), some (.bl b), none] H' (!decide (c = 48)) := fun {H' b} => by
      have := ne_str (σ := [some (.str z), some (.bl b), none]) (H := H') (a := tOp rIxS (tVar 0) (tC (.int 0))) (x := ⟨#[c]⟩) (y := Str.ofString "0") (ev_op (ev_var rfl) (fun _ _ => ev_C) fun _ _ Q q => ⟨z, 0, c, rfl, rfl, by omega, at0, q⟩) (fun _ _ => ev_C)
      rw [show decide ((⟨#[c]⟩ : Str) = Str.ofString "0") = decide (c = 48) from decide_eq_decide.mpr ⟨fun e => by have := congrArg (fun z : Str => z.cps.toList) e; rw [str_zero] at this; simpa using this, fun e => by rw [e]; exact TL.ext_tl (by show [48] = _; exact str_zero.symm)⟩] at this
      exact this
    have hall : (!(z.cps.toList.any fun c => !isDig c)) = z.cps.toList.all isDig := by
      rw [List.any_eq_not_all_not, Bool.not_not]
      congr 1
      funext c
      rw [Bool.not_not]
    refine ret_go (ev_if (b1 := numOk z.cps.toList) (v := .int (lnum z)) ?_ (fun g H2 s2 => ?_) (fun g H2 s2 => ?_) _ fun H2 s2 => h0 H2 (s1.tr s2))
    · have e : numOk z.cps.toList = ((true && !(z.cps.toList.any fun c => !isDig c)) && (decide ((z.length : Int) ≤ 30) && (decide (z = Str.ofString "0") || !decide (c = 48)))) := by
        rw [hall, Bool.true_and]
        unfold numOk
        rw [show decide ((z.length : Int) ≤ 30) = decide (z.cps.toList.length ≤ 30) from decide_eq_decide.mpr (by omega)]
        have e1 : (!z.cps.toList.isEmpty) = true := by rw [hcs]; rfl
        have e2 : (!(decide (1 < z.cps.toList.length) && (z.cps.toList.head? == some 48))) = (decide (z = Str.ofString "0") || !decide (c = 48)) := by
          have e3 : (z.cps.toList.head? == some 48) = decide (c = 48) := by rw [hcs]; by_cases hc : c = 48 <;> simp [hc]
          rw [e3]
          by_cases hc : c = 48
          · rw [decide_eq_true hc, Bool.and_true, Bool.not_true, Bool.or_false]
            have : decide (z = Str.ofString "0") = decide (r = []) := decide_eq_decide.mpr ⟨fun e => by rw [e, str_zero] at hcs; injection hcs with _ h; exact h.symm, fun e => TL.ext_tl (by show z.cps.toList = _; rw [hcs, e, hc]; exact str_zero.symm)⟩
            rw [this, hcs]
            cases r <;> simp
          · rw [decide_eq_false hc]; simp
        rw [e1, e2, Bool.true_and, Bool.and_assoc]
      rw [e]
      exact ev_and (ev_tB (ev_var rfl)) fun _ H2 _ => ev_and (ev_test (ev_op (LEN rfl) (fun _ _ => ev_C) fun _ _ Q q => ⟨_, _, rfl, rfl, q⟩)) fun _ H3 _ => ev_or (eq_str (ev_var rfl) fun _ _ => ev_C) fun _ H4 _ => NE
    · have hn : lnum z = ((NumText.digitsVal z.cps.toList : Nat) : Int) := by rw [lnum_if, if_pos g]
      have hle : z.length ≤ 640 := by
        unfold numOk at g
        simp only [Bool.and_eq_true] at g
        have := of_decide_eq_true g.1.2
        omega
      exact fun Q k => cb_go (cons_go (var_go rfl (nil_go ⟨z, _, rfl, by rw [hn]; exact num_int g, hle, k _ (Same.rf _)⟩)))
    · rw [lnum_if, if_neg (by rw [g]; decide)]
      exact fun Q k => ⟨1, rfl, k _ (Same.rf _)⟩
end
end K17


set_option Elab.async false
set_option linter.all false
set_option maxRecDepth 100000
set_option maxHeartbeats 4000000
namespace L2
open PySem PySem.Spec PyProof.Rows
theorem in_lst {K : PySem.W.Frag} {z : L2.St} {H : Hp} {ta : TA} {ns : List Str} (ha : ∀ H, EvA ta z H (ns.map V.str)) (hl : Nat.ble (ns.map V.str).length 1000 = true := by rfl) : ∀ H1, Same H H1 → ∀ Q : VK, (∀ H2 q, Same H1 H2 → SqL K H2 q (ns.map V.str) ∨ SqT K H2 q (ns.map V.str) → Q (.ref q) H2) → tLst ta z H1 Q :=
  fun H1 _ Q k => mk_lst (ha H1) (fun H2 T s2 _ hT => k H2 T s2 (.inl (.inl (.inl hT)))) hl
/-- for .. in range(n) -/
theorem for_rng1 {ta : TA} {n : Nat} {g : TG} {tb : TS} {D : Ends} {σ : St} {H : Hp} (Pv : Nat → St → Hp → Prop) (he : EvA ta σ H [.int (n : Nat)]) (hn : n ≤ 1000000) (h0 : ∀ H1, Same H H1 → Pv 0 σ H1)
    (hs : ∀ i σ H, i < n → Pv i σ H → g (.int (i : Nat)) σ H fun σ2 H2 => tb { D with nx := Pv (i + 1), ct := Pv (i + 1), bk := D.nx } σ2 H2) (hd : ∀ σ H, Pv n σ H → D.nx σ H) : tFor (iRng1 ta) g tb D σ H :=
  he _ fun H1 s1 => ⟨_, rfl, by omega, by omega, for_range (lo := 0) (n := ((n : Nat) : Int).toNat) Pv (h0 H1 s1) (fun i σ H hi p => by rw [Int.zero_add]; exact hs i σ H (by omega) p) (fun σ H p => hd σ H (by rw [Int.toNat_natCast] at p; exact p))⟩
theorem inV_nat (n : Nat) : ∀ ns : List Nat, inV (.int (n : Nat)) (ns.map fun k => V.int (k : Nat)) = decide (n ∈ ns)
  | [] => by simp [inV]
  | k :: r => by
    have ih := inV_nat n r
    unfold inV at ih ⊢
    rw [List.map_cons, List.any_cons, ih]
    show (((k : Int) == (n : Int)) || decide (n ∈ r)) = decide (n ∈ k :: r)
    rw [Bool.eq_iff_iff]
    simp only [Bool.or_eq_true, beq_iff_eq, decide_eq_true_eq, List.mem_cons]
    constructor
    · rintro (h | h)
      · left; omega
      · exact .inr h
    · rintro (h | h)
      · left; omega
      · exact .inr h
theorem flat_nats : ∀ ns : List Nat, (ns.map fun k => V.int (k : Nat)).all flatV = true
  | [] => rfl
  | k :: r => by rw [List.map_cons, List.all_cons, flat_nats r]; rfl
theorem ev_notinN {K : PySem.W.Frag} {σ : St} {H : Hp} {a : TE} {ta : TA} {n : Nat} {ns : List Nat} (ha : EvE a σ H (.int (n : Nat))) (hb : ∀ H, EvA ta σ H (ns.map fun k => V.int (k : Nat))) (hl : Nat.ble (ns.map fun k => V.int (k : Nat)).length 1000 = true := by rfl) : EvE (tOp (rIn K true) a (tLst ta)) σ H (.bl (!decide (n ∈ ns))) :=
  fun Q k => ha _ fun H1 s1 => mk_lst (Q := fun y H2 => rIn K true (.int (n : Nat)) y H2 Q) (hb H1) (fun H2 T s2 _ hT => ⟨T, _, rfl, .inl (.inl (.inl hT)), rfl, flat_nats ns, by rw [inV_nat]; exact k H2 (s1.tr s2)⟩) hl
theorem fm_emptyS (p : Str → Bool) (l : List Str) : ((l.map fun x => if p x then some (PyData.str x) else none).filterMap id).isEmpty = !l.any p := fm_empty _ p l
/-- [w for w in words[1::2] if ..] -/
theorem strs_map {xs : List Str} {i : Nat} {v : V} (h : (xs.map V.str)[i]? = some v) : ∃ z, xs[i]? = some z ∧ v = .str z := by
  rw [List.getElem?_map] at h
  obtain ⟨z, hz, rfl⟩ := Option.map_eq_some_iff.mp h
  exact ⟨z, hz, rfl⟩
end L2
namespace K17
open PySem PySem.Spec PyProof.Rows L2 Rdr LmX LamX NdefX Idr Tld
section
variable {P : Program} {w : World} {K : PySem.W.Frag} {mg : Str → Option Value} {base : Heap}
def spIsSum (K : PySem.W.Frag) : Sp := fun vs H Q _ => ∃ (kind : Str) (a : Addr) (ws : List Str), vs = [.str kind, .ref a] ∧ kind ∈ kinds3 ∧ SqL K H a (ws.map V.str) ∧ ws.length ≤ 10000 ∧ (∀ z ∈ ws, z.length ≤ 10000) ∧ ∀ H', Same H H' → Q (.bl (isSum (namesOf kind) ws)) H'
theorem ok_l_is_sum (T : Tx P w K mg) : FnX P w K mg base CX0 2 "_law_is_sum" ["_law_kind", "_law_words"] [] (spIsSum K) := by
  have F_l_names := ok_l_names (base := base) T
  have F_l_number := ok_l_number (base := base) T
  refine T.d_l_is_sum.ok0 sc_l_is_sum (fun _ _ _ _ _ _ us hl => match us, hl with | [_, _], _ => rfl) (fun vs H Q E h => ?_) (fun f cdv A outer s H vs Q E hr h => have hu := hu_of hr; ⟨_, (by exact (pss_cons (ps_par (i := 2) (j := 3) (by rfl) sc_l_is_sum.nd rfl rfl (by decide) rfl rfl (pa_cons (pe_callX F_l_names (hr.mono (by first | decide | omega)) pass0 (pa_cons (pv 0) pa_nil)) (pa_cons (pe_lst pa_nil) pa_nil)) (by rfl))
      (pss_cons (ps_if (PW.pt (pw_or (pt_cmpR op_notIn_seq (pe_callB call_len_seq (by rfl) T.b_len (by decide +kernel) (pa_cons (pv 1) pa_nil)) (pe_lst (pa_cons pe_int (pa_cons pe_int (pa_cons pe_int (pa_cons pe_int pa_nil))))) (by rfl)) (pw_or1 (pt_cmpR (op_neNil hu) (pe_lc (own := [("_law_word", 4)]) (g := (gName 4))  (by rfl) sc_l_is_sum.nd (pi_list (pe_slice2 (pv 1) (po_some pe_int) (po_some pe_int))) (blkOk_by (own := [("_law_word", 4)]) (N := ["_law_kind", "_law_words", "_law_names_here", "_law_seen", "_law_word"]) (sc := defScope s_l_is_sum) (by decide +kernel)) (fun _ _ _ _ _ => (pg_name (i := 4) sc_l_is_sum.nd rfl (Or.inl rfl))) (fun _ _ _ _ _ => (pts_one (pt_cmpR (niS_at (K := K)) (pv 4) (pe_lst (pa_cons pe_str (pa_cons pe_str pa_nil))) (by rfl)))) (fun _ _ _ _ _ => (pv 4))) (pe_lst pa_nil) (nomark _))))) (pss_one (ps_ret pe_bl)) pss_nil)
      (pss_cons (ps_for PassesOwn.never rfl (pi_list (pe_slice2 (pv 1) (po_some pe_int) (po_some pe_int))) (pg_name (i := 4) sc_l_is_sum.nd rfl (Or.inl rfl))
        (pss_one (ps_if (PW.pt (pw_and (pt_cmpR op_in_seq (pv 4) (pv 2) (by rfl)) (pw_and1 (pt_cmpR op_notIn_seq (pv 4) (pv 3) (by rfl))))) (pss_one (ps_expr (pe_bm PySem.F.plainAttrs_list PySem.F.slot_list_append PySem.F.type_list_append mt_append (pv 3) (pa_cons (pv 4) pa_nil)))) (pss_one (ps_if (pt_cmpR op_lt (pe_callX F_l_number (hr.mono (by first | decide | omega)) pass0 (pa_cons (pv 4) pa_nil)) pe_int (nomark _)) (pss_one (ps_ret pe_bl)) pss_nil)))))
      (pss_one (ps_ret pe_bl)))))), ?_⟩)
  · obtain ⟨kind, a, ws, rfl, _⟩ := h
    rfl
  obtain ⟨kind, a, ws, rfl, hk, ha, hwl, hzl, h0⟩ := h
  have q9 : sizeLine = 16777216 := sizeLine_eq
  refine par_go (cons_go (call_go (cons_go (var_go rfl (nil_go ⟨kind, rfl, hk, fun p1 H1 s1 hp10 hp1 => cons_go (lst_go (nil_go ⟨szL rfl, fun p2 hp2 => nil_go ⟨_, _, rfl, ?_⟩⟩))⟩)))))
  have s2 : Same H1 (upd H1 p2 (.lst [])) := Same.new hp2
  have i2 : upd H1 p2 (.lst []) p2 = some (.lst []) := upd_same
  have hp20 : H p2 = none := none_of s1 hp2
  have ne12 : p1 ≠ p2 := fun e => by rw [e] at hp1; rw [hp1] at hp2; cases hp2
  have i1 := s2 _ _ hp1
  generalize upd H1 p2 (.lst []) = H2 at s2 i2 i1 ⊢
  have s02 := s1.tr s2
  let S : Option V → L2.St := fun x4 => [some (.str kind), some (.ref a), some (.ref p1), some (.ref p2), x4]
  have LN : ∀ {H' : Hp}, Same H H' → EvE (tCB (fun xs H Q => ∃ p ys, xs = [V.ref p] ∧ (SqL K H p ys ∨ SqT K H p ys) ∧ Q (.int (ys.length : Nat)) H) (tCons (tVar 1) tNil)) (S none) H' (.int (ws.length : Nat)) := fun s => by
    have := ev_len (K := K) (σ := S none) (ev_cons (ev_var (i := 1) rfl) fun _ _ => ev_nil) (.inl (s.sql ha))
    rw [List.length_map] at this
    exact this
  have SL2 : ∀ {x4 : Option V} {j : Nat} {H' : Hp} {R : VK}, Same H H' → (∀ q H'', Same H' H'' → H' q = none → H'' q = some (.lst ((ev2 (ws.drop j)).map V.str)) → R (.ref q) H'') → tSl2 K (tVar 1) (L2.tPart (tC (.int (j : Nat)))) (L2.tPart (tC (.int 2))) (S x4) H' R := fun {x4 j H' R} s k => ⟨_, rfl, _, rfl, 2, rfl, a, _, j, rfl, rfl, rfl, s.sql ha, fun q hq => k q _ (Same.new hq) hq (by rw [upd_same, ← List.map_drop, ev2_map])⟩
  have T2 : ∀ {H' : Hp}, Same H H' → EvT (tTest (tOp (rNil K not) (tLc (iList K (tSl2 K (tVar 1) (L2.tPart (tC (.int 1))) (L2.tPart (tC (.int 2))))) (gName 4) (tTest (tOp (rIn K true) (tVar 4) (tLst (tCons (tC (.str (Str.ofString "+"))) (tCons (tC (.str (Str.ofString "-"))) tNil))))) (tVar 4) [4]) (tLst tNil))) (S none) H' ((ev2 (ws.drop 1)).any fun z => !decide (z ∈ pm2)) := fun {H'} s R k => by
    refine op_go (lc_of (fun pa xs H1 => Same H' H1 ∧ H1 pa = some (.lst xs) ∧ xs = (ev2 (ws.drop 1)).map V.str) (fun R hR => SL2 (j := 1) s fun q H'' s' _ hq => hR q _ H'' ⟨s', hq, rfl⟩) fun pa xs H1' h1 => ?_)
    obtain ⟨s1', hpa, rfl⟩ := h1
    have hl9 := Nat.le_trans (ev2_len (ws.drop 1)) (by rw [List.length_drop]; exact Nat.sub_le _ _)
    refine lc_dq ((ev2 (ws.drop 1)).map fun z => if !decide (z ∈ pm2) then some (PyData.str z) else none) ev_C (.inl (.inl hpa)) (by rw [List.length_map, List.length_map]) (by rw [List.length_map]; omega) (fun i v o H3 hv ho s3 => ?_) (fun q ys H3 s3 _ hq hy => lst_go (nil_go ⟨szL rfl, fun e he => ⟨q, e, ys, rfl, rfl, .inl (.inl (Same.new he _ _ hq)), .inl (.inl upd_same), _, rfl, ?_⟩⟩))
    · obtain ⟨z, hz, rfl⟩ := strs_map hv
      rw [List.getElem?_map, hz] at ho
      cases ho
      have ht : EvT (tTest (tOp (rIn K true) (tVar 4) (tLst (tCons (tC (.str (Str.ofString "+"))) (tCons (tC (.str (Str.ofString "-"))) tNil))))) (S (some (.str z))) H3 (!decide (z ∈ pm2)) := ev_test (ev_notin (ns := pm2) (ev_var rfl) (in_lst (ns := pm2) fun _ => ev_cons ev_C fun _ _ => ev_cons ev_C fun _ _ => ev_nil))
      refine ⟨S (some (.str z)), fun R k => k, rfl, ?_⟩
      dsimp only
      cases hd : decide (z ∈ pm2) with
      | true =>
        rw [hd] at ht
        exact ht
      | false =>
        rw [hd] at ht
        exact ⟨ht, fun H4 _ => (ev_var (i := 4) rfl).d fun _ _ => .str _⟩
    · rw [hy.empty, fm_emptyS, Bool.not_not]
      exact k _ ((s1'.tr s3).tr (Same.new he))
  have eS : isSum (namesOf kind) ws = (decide (ws.length ∈ ([1, 3, 5, 7] : List Nat)) && ((ev2 (ws.drop 1)).all (fun z => decide (z ∈ pm2)) && sumGo (namesOf kind) (ev2 ws) [])) := rfl
  have eA : (ev2 (ws.drop 1)).all (fun z => decide (z ∈ pm2)) = !((ev2 (ws.drop 1)).any fun z => !decide (z ∈ pm2)) := by
    rw [List.any_eq_not_all_not, Bool.not_not]
    congr 1
    funext c
    rw [Bool.not_not]
  refine seq_if (σ := S none) (ev_or (ev_test (ev_notinN (ns := [1, 3, 5, 7]) (LN s02) fun _ => ev_cons ev_C fun _ _ => ev_cons ev_C fun _ _ => ev_cons ev_C fun _ _ => ev_cons ev_C fun _ _ => ev_nil)) fun _ H3 s3 => T2 (s02.tr s3)) (fun g H3 s3 => ?_) (fun g H3 s3 => ?_)
  · have e : isSum (namesOf kind) ws = false := by
      rw [eS, eA]
      rw [Bool.or_eq_true] at g
      rcases g with g | g
      · rw [show decide (ws.length ∈ ([1, 3, 5, 7] : List Nat)) = false from by simpa using g, Bool.false_and]
      · rw [g]; simp
    rw [e] at h0
    exact ret_go (c_go (h0 H3 (s02.tr s3)))
  rw [Bool.or_eq_false_iff] at g
  have eR : isSum (namesOf kind) ws = sumGo (namesOf kind) (ev2 ws) [] := by
    rw [eS, eA, g.2, show decide (ws.length ∈ ([1, 3, 5, 7] : List Nat)) = true from by have := g.1; rw [Bool.not_eq_false'] at this; exact this]
    simp
  rw [eR] at h0
  have s03 := s02.tr s3
  have hel : (ev2 ws).length ≤ ws.length := ev2_len ws
  refine nx_for (for_te2 (K := K) (fun q ys H4 => Same H3 H4 ∧ H3 q = none ∧ H4 q = some (.lst ys) ∧ ys = (ev2 ws).map V.str)
    (fun q ys H4 i σ H' => Same H H' ∧ SameX p2 H4 H' ∧ ∃ (seen : List Str) (x4 : Option V), σ = S x4 ∧ H' p2 = some (.lst (seen.map V.str)) ∧ seen.length ≤ i ∧ sumGo (namesOf kind) (ev2 ws) [] = sumGo (namesOf kind) ((ev2 ws).drop i) seen)
    (fun R hR => SL2 (x4 := none) (j := 0) s03 fun q H'' s' hq0 hq => hR q _ H'' ⟨s', hq0, hq, rfl⟩)
    (fun q ys H4 h => .inl (.inl h.2.2.1)) (fun q ys H4 h => ⟨s03.tr h.1, (Same.rf _).x, [], none, rfl, h.1 _ _ (s3 _ _ i2), Nat.le_refl _, rfl⟩)
    (fun q ys H4 i σ H' h _ k => .inl (.inl (k.2.1 _ _ (fun e => by have := h.2.1; rw [e, s3 _ _ i2] at this; cases this) h.2.2.1))) ?_ ?_)
  · rintro q ys H4 ⟨s4, hq0, hq, rfl⟩ i v σ H5 hv ⟨s5, sx5, seen, x4, rfl, hse, hsl, hgo⟩
    obtain ⟨z, hz, rfl⟩ := strs_map hv
    have hzm : z ∈ ws := by
      have := List.mem_of_getElem? hz
      have key : ∀ (l : List Str) (x : Str), x ∈ ev2 l → x ∈ l := fun l => by
        have : ∀ (n : Nat) (l : List Str), l.length ≤ n → ∀ x, x ∈ ev2 l → x ∈ l := fun n => by
          induction n with
          | zero => intro l h x hx; cases l with
            | nil => simp [ev2] at hx
            | cons a r => simp at h
          | succ n ih =>
            intro l h x hx
            match l, h, hx with
            | [], _, hx => simp [ev2] at hx
            | [b], _, hx => simpa [ev2] using hx
            | b :: c :: r, h, hx =>
              rcases List.mem_cons.mp (show x ∈ b :: ev2 r from hx) with e | e
              · rw [e]; exact List.mem_cons_self ..
              · exact List.mem_cons_of_mem _ (List.mem_cons_of_mem _ (ih r (by simp at h; omega) x e))
        exact this l.length l (Nat.le_refl _)
      exact key _ _ this
    rw [drop_at hz] at hgo
    have i15 : H5 p1 = some (.lst ((namesOf kind).map V.str)) := sx5 _ _ ne12 (s4 _ _ (s3 _ _ i1))
    have hgo' : sumGo (namesOf kind) (ev2 ws) [] = if z ∈ namesOf kind ∧ z ∉ seen then sumGo (namesOf kind) ((ev2 ws).drop (i + 1)) (seen ++ [z]) else if lnum z < 0 then false else sumGo (namesOf kind) ((ev2 ws).drop (i + 1)) seen := hgo
    refine nm (do_if (σ := S (some (.str z))) (ev_and (ev_test (ev_in (ns := namesOf kind) (ev_var (i := 4) rfl) fun H1' s1' Q k => ⟨_, rfl, k H1' p1 (Same.rf _) (.inl (.inl (.inl (s1' _ _ i15))))⟩)) fun _ H6 s6 => ev_test (ev_notin (ns := seen) (ev_var (i := 4) rfl) fun H1' s1' Q k => ⟨_, rfl, k H1' p2 (Same.rf _) (.inl (.inl (.inl ((s6.tr s1') _ _ hse))))⟩)) (fun g H6 s6 => ?_) (fun g H6 s6 => ?_))
    · have g2 : z ∈ namesOf kind ∧ z ∉ seen := by simpa using g
      rw [if_pos g2] at hgo'
      have h6 := s6 _ _ hse
      refine ⟨_, rfl, .inl ⟨rfl, ⟨_, .inl (.inl h6)⟩⟩, cons_go (var_go rfl (nil_go ⟨p2, _, _, rfl, rfl, h6, by rw [List.length_map]; have := (List.getElem?_eq_some_iff.mp hz).1; omega, ?_⟩))⟩
      exact ⟨(s5.tr s6).mut hp20, (sx5.tr s6.x).tr SameX.put, seen ++ [z], _, rfl, by rw [upd_same, List.map_append]; rfl, by rw [List.length_append, List.length_singleton]; omega, hgo'⟩
    · have g2 : ¬ (z ∈ namesOf kind ∧ z ∉ seen) := by simpa using g
      rw [if_neg g2] at hgo'
      refine do_if (σ := S (some (.str z))) (ev_test (ev_op (v := .bl (decide (lnum z < 0))) (fun Q k => call_go (cons_go (var_go rfl (nil_go ⟨z, rfl, hzl z hzm, fun H' s' => k H' s'⟩)))) (fun _ _ => ev_C) fun _ _ Q q => ⟨_, _, rfl, rfl, q⟩)) (fun g3 H7 s7 => ?_) (fun g3 H7 s7 => ?_)
      · rw [if_pos (of_decide_eq_true g3)] at hgo'
        rw [hgo'] at h0
        exact ret_go (c_go (h0 H7 (s5.tr (s6.tr s7))))
      · rw [if_neg (of_decide_eq_false g3)] at hgo'
        exact ⟨s5.tr (s6.tr s7), sx5.tr (s6.tr s7).x, seen, _, rfl, (s6.tr s7) _ _ hse, by omega, hgo'⟩
  · rintro q ys H4 σ H5 ⟨s4, hq0, hq, rfl⟩ ⟨s5, sx5, seen, x4, rfl, hse, hsl, hgo⟩
    rw [List.length_map, List.drop_length, show ∀ ns, sumGo ns [] seen = true from fun _ => rfl] at hgo
    rw [hgo] at h0
    exact h0 H5 s5
def spIsPow : Sp := fun vs H Q _ => ∃ (n : Int), vs = [.int n] ∧ ∀ H', Same H H' → Q (.bl (isPow n)) H'
theorem ok_l_is_power (T : Tx P w K mg) : FnX P w K mg base CX0 1 "_law_is_power" ["_law_number_here"] [] spIsPow := by
  refine T.d_l_is_power.ok0 sc_l_is_power (fun _ _ _ _ _ _ us hl => match us, hl with | [_], _ => rfl) (fun vs H Q E h => ?_) (fun f cdv A outer s H vs Q E hr h => have hu := hu_of hr; ⟨_, (by exact (pss_cons (ps_set (i := 1) sc_l_is_power.nd rfl (Or.inl rfl) pe_int)
      (pss_cons (ps_for PassesOwn.never rfl (pi_range1 rfl T.b_range (pa_cons pe_int pa_nil)) (pg_name (i := 2) sc_l_is_power.nd rfl (Or.inl rfl))
        (pss_cons (ps_if (pt_cmpR op_eq (pv 1) (pv 0) (nomark _)) (pss_one (ps_ret pe_bl)) pss_nil)
      (pss_one (ps_set (i := 1) sc_l_is_power.nd rfl (Or.inl rfl) (pe_op op_mul (pv 1) pe_int)))))
      (pss_one (ps_ret pe_bl))))), ?_⟩)
  · obtain ⟨n, rfl, _⟩ := h
    rfl
  obtain ⟨n, rfl, h0⟩ := h
  refine set_te (c_go ?_)
  refine nx_for (for_rng1 (n := 90) (fun i σ H' => Same H H' ∧ ∃ x2, σ = [some (.int n), some (.int ((2 : Int) ^ (i + 1))), x2] ∧ ∀ k, k < i → (2 : Int) ^ (k + 1) ≠ n) (ev_cons ev_C fun _ _ => ev_nil) (by decide) (fun H1 s1 => ⟨s1, none, rfl, fun k hk => by omega⟩) ?_ ?_)
  · rintro i σ H1 hi ⟨s1, x2, rfl, hno⟩
    refine nm (seq_if (σ := [some (.int n), some (.int ((2 : Int) ^ (i + 1))), some (.int (i : Nat))]) (b1 := decide ((2 : Int) ^ (i + 1) = n)) (by
      have := ev_test (ev_eq (σ := [some (.int n), some (.int ((2 : Int) ^ (i + 1))), some (.int (i : Nat))]) (H := H1) (a := tVar 1) (b := tVar 0) (ev_var rfl) (fun _ _ => ev_var rfl) rfl)
      rw [dcI] at this
      exact this) (fun g H2 s2 => ?_) (fun g H2 s2 => ?_))
    · have e : isPow n = true := List.any_eq_true.mpr ⟨i, List.mem_range.mpr hi, g⟩
      rw [e] at h0
      exact ret_go (c_go (h0 H2 (s1.tr s2)))
    · have g := of_decide_eq_false g
      refine ⟨_, rfl, _, _, rfl, rfl, .inr (by decide), s1.tr s2, some (.int (i : Nat)), ?_, fun k hk => ?_⟩
      · rw [Int.pow_succ (2 : Int) (i + 1)]
        rfl
      · by_cases e : k = i
        · rw [e]; exact g
        · exact hno k (by omega)
  · rintro σ H1 ⟨s1, x2, rfl, hno⟩
    have e : isPow n = false := by
      unfold isPow
      rw [List.any_eq_false]
      intro k hk
      have := hno k (List.mem_range.mp hk)
      simpa using this
    rw [e] at h0
    exact h0 H1 s1
def spIsFac : Sp := fun vs H Q _ => ∃ (s z : Str), vs = [.str s, .str z] ∧ z.length ≤ 10000 ∧ ∀ H', Same H H' → Q (.bl (isFac s z)) H'
theorem ok_l_is_factor (T : Tx P w K mg) : FnX P w K mg base CX0 2 "_law_is_factor" ["_law_sign", "_law_word"] [] spIsFac := by
  have F_l_number := ok_l_number (base := base) T
  have F_l_is_power := ok_l_is_power (base := base) T
  refine T.d_l_is_factor.ok0 sc_l_is_factor (fun _ _ _ _ _ _ us hl => match us, hl with | [_, _], _ => rfl) (fun vs H Q E h => ?_) (fun f cdv A outer s H vs Q E hr h => have hu := hu_of hr; ⟨_, (by exact (pss_cons (ps_set (i := 2) sc_l_is_factor.nd rfl (Or.inl rfl) (pe_callX F_l_number (hr.mono (by first | decide | omega)) pass0 (pa_cons (pv 1) pa_nil)))
      (pss_cons (ps_if (pt_cmpR op_in_seq (pv 0) (pe_lst (pa_cons pe_str (pa_cons pe_str (pa_cons pe_str pa_nil)))) (by rfl)) (pss_one (ps_ret (pe_cmpR op_ge (pv 2) pe_int (nomark _)))) pss_nil)
      (pss_cons (ps_if (pt_cmpR op_eq (pv 0) pe_str (nomark _)) (pss_one (ps_ret (pe_callX F_l_is_power (hr.mono (by first | decide | omega)) pass0 (pa_cons (pe_op op_add (pv 2) pe_int) pa_nil)))) pss_nil)
      (pss_one (ps_ret (pe_and (pe_cmpR op_in_seq (pv 0) (pe_lst (pa_cons pe_str (pa_cons pe_str pa_nil))) (by rfl)) (pe_one (pe_chain op_le op_le pe_int (pv 2) pe_int))))))))), ?_⟩)
  · obtain ⟨s, z, rfl, _⟩ := h
    rfl
  obtain ⟨sg, z, rfl, hz, h0⟩ := h
  refine set_te (call_go (cons_go (var_go rfl (nil_go ⟨z, rfl, hz, fun H1 s1 => ?_⟩))))
  have eF : isFac sg z = if sg ∈ (["*", "//", "mod"] : List Str) then decide (2 ≤ lnum z) else if sg = "&" then isPow (lnum z + 1) else decide (sg ∈ (["<<", ">>"] : List Str)) && (decide (1 ≤ lnum z) && decide (lnum z ≤ 90)) := rfl
  let S : L2.St := [some (.str sg), some (.str z), some (.int (lnum z))]
  refine seq_if (σ := S) (ev_test (ev_in (ns := ["*", "//", "mod"]) (ev_var rfl) (in_lst (ns := ["*", "//", "mod"]) fun _ => ev_cons ev_C fun _ _ => ev_cons ev_C fun _ _ => ev_cons ev_C fun _ _ => ev_nil))) (fun g H2 s2 => ?_) (fun g H2 s2 => ?_)
  · rw [if_pos (of_decide_eq_true g)] at eF
    rw [eF] at h0
    exact ret_go (op_go (var_go rfl (c_go ⟨_, _, rfl, rfl, h0 H2 (s1.tr s2)⟩)))
  rw [if_neg (of_decide_eq_false g)] at eF
  refine seq_if (σ := S) (eq_str (ev_var rfl) fun _ _ => ev_C) (fun g2 H3 s3 => ?_) (fun g2 H3 s3 => ?_)
  · rw [if_pos (of_decide_eq_true g2)] at eF
    rw [eF] at h0
    exact ret_go (call_go (cons_go (op_go (var_go rfl (c_go ⟨_, _, rfl, rfl, nil_go ⟨_, rfl, fun H4 s4 => h0 H4 (s1.tr (s2.tr (s3.tr s4)))⟩⟩)))))
  · rw [if_neg (of_decide_eq_false g2)] at eF
    rw [eF] at h0
    refine ret_go (ev_andV (σ := S) (ev_in (ns := ["<<", ">>"]) (ev_var rfl) (in_lst (ns := ["<<", ">>"]) fun _ => ev_cons ev_C fun _ _ => ev_cons ev_C fun _ _ => ev_nil)) (fun _ H4 _ => ev_chain (n := lnum z) fun _ _ => ev_var rfl) _ fun H4 s4 => h0 H4 (s1.tr (s2.tr (s3.tr s4))))
end
end K17


set_option Elab.async false
set_option linter.all false
set_option maxRecDepth 100000
set_option maxHeartbeats 4000000
namespace L2
open PySem PySem.Spec PyProof.Rows
theorem cut_take (xs : List V) (n : Nat) : cutV xs none (some (n : Int)) = xs.take n := by
  have h2 : HT.sIx xs.length xs.length (some (n : Int)) = min n xs.length := HT.sIx_nat _ _ n
  unfold cutV
  rw [h2, HT.sIx_none, List.drop_zero, Nat.sub_zero, List.take_eq_take_iff]
  omega
section
variable {K : PySem.W.Frag} {σ : St} {H : Hp} {i : Nat} {wa : Addr} {ws : List Str} {z : Str}
/-- words[:1] == [z] -/
theorem ev_eqTake (hv : σ[i]? = some (some (.ref wa))) (hw : SqL K H wa (ws.map V.str)) (hs : ws.all PyData.strOk = true) (hz : PyData.strOk z = true) :
    EvT (tTest (tOp (rEqD K) (tSl (rSlL K) (tVar i) tNoPart (L2.tPart (tC (.int 1)))) (tLst (tCons (tC (.str z)) tNil)))) σ H (decide (ws.take 1 = [z])) := by
  refine ev_test fun Q k => ⟨_, hv, 1, rfl, wa, _, rfl, hw, fun p hp => ?_⟩
  have s1 : Same H (upd H p (.lst (cutV (ws.map V.str) none (some 1)))) := Same.new hp
  have h1 : upd H p (.lst (cutV (ws.map V.str) none (some 1))) p = some (.lst ((ws.take 1).map V.str)) := by
    rw [upd_same, show cutV (ws.map V.str) none (some 1) = _ from cut_take _ 1, List.map_take]
  generalize upd H p (.lst (cutV (ws.map V.str) none (some 1))) = H1 at s1 h1 ⊢
  refine mk_lst (Q := fun y H2 => rEqD K (.ref p) y H2 Q) (vs := [z].map V.str) (ev_cons ev_C fun _ _ => ev_nil) (fun H2 T s2 _ hT => ?_)
  refine ⟨_, _, .lst (.inl (.inl (s2 _ _ h1))) (dpStrs _), .lst (.inl (.inl hT)) (dpStrs _), shaped_strs (List.all_eq_true.mpr fun x hx => List.all_eq_true.mp hs x (List.mem_of_mem_take hx)), shaped_strs (by rw [List.all_cons, hz]; rfl), ?_⟩
  rw [eqv_strs]
  exact k _ (s1.tr s2)
/-- words[1:] -/
theorem sl_tail {Q : VK} (hv : σ[i]? = some (some (.ref wa))) (hw : SqL K H wa (ws.map V.str)) (k : ∀ q H', Same H H' → H' q = some (.lst ((ws.drop 1).map V.str)) → Q (.ref q) H') : tSl (rSlL K) (tVar i) (L2.tPart (tC (.int 1))) tNoPart σ H Q :=
  ⟨_, hv, 1, rfl, wa, _, rfl, hw, fun p hp => k p _ (Same.new hp) (by rw [upd_same, cut1, List.map_drop])⟩
end
end L2
namespace K17
open PySem PySem.Spec PyProof.Rows L2 Rdr LmX LamX NdefX Idr Tld
theorem ln3 {R : List Str} {i : Nat} (h : (!decide (R.length = 3)) = false) (hi : i < 3 := by decide) : i < R.length := by
  have : R.length = 3 := by simpa using h
  omega
theorem ev_num {σ : L2.St} {H : Hp} {te : TE} {z : Str} (he : EvE te σ H (.str z)) (hz : z.length ≤ 10000) : EvE (tCall spNumb [] E0 (tCons te tNil)) σ H (.int (lnum z)) := fun Q k => call_go (cons_go (he _ fun H1 s1 => nil_go ⟨z, rfl, hz, fun H2 s2 => k H2 (s1.tr s2)⟩))
theorem ev_ge {σ : L2.St} {H : Hp} {te : TE} {n m : Int} (he : EvE te σ H (.int n)) : EvE (tOp (rI0 fun i j => .bl (decide (j ≤ i))) te (tC (.int m))) σ H (.bl (decide (m ≤ n))) := ev_op he (fun _ _ => ev_C) fun _ _ Q q => ⟨_, _, rfl, rfl, q⟩
theorem strOk_words {t : Str} (h : PyData.strOk t = true) : ∀ z ∈ wds t, PyData.strOk z = true := fun z hz => by
  have key : ∀ (l : List (List Nat)) (z : List Nat), z ∈ l → ∀ c ∈ z, c ∈ TL.joinL [32] l := by
    intro l
    induction l with
    | nil => intro z hz; cases hz
    | cons a r ih =>
      intro z hz c hc
      cases r with
      | nil =>
        rcases List.mem_cons.mp hz with q | q
        · subst q; exact hc
        · cases q
      | cons b r =>
        show c ∈ a ++ ([32] ++ TL.joinL [32] (b :: r))
        rcases List.mem_cons.mp hz with q | q
        · subst q; exact List.mem_append.mpr (.inl hc)
        · exact List.mem_append.mpr (.inr (List.mem_append.mpr (.inr (ih z q c hc))))
  have e := w_join t
  have h9 : ∀ c ∈ TL.tl t, c < 0x110000 := by
    have h : t.cps.all (· < 0x110000) = true := h
    rw [Array.all_eq_true'] at h
    exact fun c hc => of_decide_eq_true (h c (Array.mem_toList_iff.mp hc))
  show z.cps.all (· < 0x110000) = true
  rw [Array.all_eq_true']
  intro c hc
  refine decide_eq_true (h9 c ?_)
  rw [← e, TL.join_eq, TL.tl_join, tl_spW]
  exact key _ _ (List.mem_map_of_mem hz) c (Array.mem_toList_iff.mpr hc)
section
variable {P : Program} {w : World} {K : PySem.W.Frag} {mg : Str → Option Value} {base : Heap}
def spIsPart (K : PySem.W.Frag) : Sp := fun vs H Q _ => ∃ (kind : Str) (a : Addr) (ws : List Str), vs = [.str kind, .ref a] ∧ kind ∈ kinds3 ∧ SqL K H a (ws.map V.str) ∧ (∀ z ∈ ws, z.length ≤ 10000 ∧ PyData.strOk z = true) ∧ ∀ H', Same H H' → Q (.bl (isPart kind ws)) H'
theorem ok_l_is_part (T : Tx P w K mg) : FnX P w K mg base CX0 2 "_law_is_part" ["_law_kind", "_law_words"] [] (spIsPart K) := by
  have F_l_names := ok_l_names (base := base) T
  have F_l_number := ok_l_number (base := base) T
  refine T.d_l_is_part.ok0 sc_l_is_part (fun _ _ _ _ _ _ us hl => match us, hl with | [_, _], _ => rfl) (fun vs H Q E h => ?_) (fun f cdv A outer s H vs Q E hr h => have hu := hu_of hr; ⟨_, (by exact (pss_cons (ps_set (i := 2) sc_l_is_part.nd rfl (Or.inl rfl) (pe_ifExp (pt_cmpR (op_eqD hr.units) (pe_slice sl_list (pv 1) po_none (po_some pe_int)) (pe_lst (pa_cons pe_str pa_nil)) (nomark _)) (pe_slice sl_list (pv 1) (po_some pe_int) po_none) (pv 1)))
      (pss_cons (ps_if (pt_cmpR (op_eqD hr.units) (pv 2) (pe_lst (pa_cons pe_str pa_nil)) (nomark _)) (pss_one (ps_ret (pe_cmpR op_eq (pv 0) pe_str (nomark _)))) pss_nil)
      (pss_cons (ps_if (PW.pt (pw_or (pt_cmpR op_ne (pe_callB call_len_seq (by rfl) T.b_len (by decide +kernel) (pa_cons (pv 2) pa_nil)) pe_int (nomark _)) (pw_or (pt_cmpR op_notIn_seq (pe_ix ix_list (pv 2) pe_int (fun _ _ => rfl)) (pe_lst (pa_cons pe_str (pa_cons pe_str (pa_cons pe_str pa_nil)))) (by rfl)) (pw_or1 (pt_cmpR op_eq (pe_ix ix_list (pv 2) pe_int (fun _ _ => rfl)) (pe_ix ix_list (pv 2) pe_int (fun _ _ => rfl)) (nomark _)))))) (pss_one (ps_ret pe_bl)) pss_nil)
      (pss_cons (ps_par (i := 3) (j := 4) (by rfl) sc_l_is_part.nd rfl rfl (by decide) rfl rfl (pa_cons (pe_ix ix_list (pv 2) pe_int (fun _ _ => rfl)) (pa_cons (pe_ix ix_list (pv 2) pe_int (fun _ _ => rfl)) pa_nil)) (by rfl))
      (pss_cons (ps_if (pt_cmpR op_ne (pv 0) pe_str (nomark _)) (pss_cons (ps_set (i := 5) sc_l_is_part.nd rfl (Or.inl rfl) (pe_lst (pa_cons pe_str (pa_cons pe_str (pa_cons pe_str pa_nil)))))
      (pss_one (ps_ret (pe_or (pe_and (pe_cmpR op_in_seq (pv 3) (pv 5) (by rfl)) (pe_one (pe_cmpR op_ge (pe_callX F_l_number (hr.mono (by first | decide | omega)) pass0 (pa_cons (pv 4) pa_nil)) pe_int (nomark _)))) (pe_one (pe_and (pe_cmpR op_in_seq (pv 4) (pv 5) (by rfl)) (pe_one (pe_cmpR op_ge (pe_callX F_l_number (hr.mono (by first | decide | omega)) pass0 (pa_cons (pv 3) pa_nil)) pe_int (nomark _))))))))) pss_nil)
      (pss_one (ps_ret (pe_cmpR (op_eqNil hu) (pe_lc (own := [("_law_word", 6)]) (g := (gName 6))  (by rfl) sc_l_is_part.nd (pi_list (pe_lst (pa_cons (pv 3) (pa_cons (pv 4) pa_nil)))) (blkOk_by (own := [("_law_word", 6)]) (N := ["_law_kind", "_law_words", "_law_rest", "_law_one", "_law_two", "_law_names_here", "_law_word"]) (sc := defScope s_l_is_part) (by decide +kernel)) (fun _ _ _ _ _ => (pg_name (i := 6) sc_l_is_part.nd rfl (Or.inl rfl))) (fun _ _ _ _ _ => (pts_one (PW.pt (pw_and (pt_cmpR (niS_at (K := K)) (pv 6) (pe_callX F_l_names (hr.mono (by first | decide | omega)) pass0 (pa_cons (pv 0) pa_nil)) (by rfl)) (pw_and1 (pt_cmpR op_lt (pe_callX F_l_number (hr.mono (by first | decide | omega)) pass0 (pa_cons (pv 6) pa_nil)) pe_int (nomark _))))))) (fun _ _ _ _ _ => (pv 6))) (pe_lst pa_nil) (nomark _)))))))))), ?_⟩)
  · obtain ⟨kind, a, ws, rfl, _⟩ := h
    rfl
  obtain ⟨kind, a, ws, rfl, hk, ha, hzl, h0⟩ := h
  have q9 : sizeLine = 16777216 := sizeLine_eq
  have hso : ws.all PyData.strOk = true := List.all_eq_true.mpr fun z hz => (hzl z hz).2
  have hrest : ∀ z ∈ restP ws, z.length ≤ 10000 ∧ PyData.strOk z = true := fun z hz => by
    unfold restP at hz
    split at hz
    · exact hzl z (List.mem_of_mem_drop hz)
    · exact hzl z hz
  refine set_ifV (b := decide (ws.take 1 = [notS])) (ev_eqTake rfl ha hso (by decide +kernel)) (fun v H' => ∃ q, v = .ref q ∧ Same H H' ∧ SqL K H' q ((restP ws).map V.str)) (fun g H1 s1 Q' k' => ?_) (fun g H1 s1 Q' k' => ?_) ?_
  · refine sl_tail rfl (s1.sql ha) fun q H2 s2 hq => k' _ _ ⟨q, rfl, s1.tr s2, .inl (.inl ?_)⟩
    rw [hq]
    unfold restP
    rw [if_pos (of_decide_eq_true g)]
  · refine var_go rfl (k' _ _ ⟨a, rfl, s1, ?_⟩)
    unfold restP
    rw [if_neg (of_decide_eq_false g)]
    exact s1.sql ha
  rintro _ H1 ⟨r, rfl, s1, hr1⟩
  have e0 : isPart kind ws = partR kind (restP ws) := rfl
  rw [e0] at h0
  clear e0 ha hzl hso
  generalize restP ws = R at hr1 h0 hrest
  have hso : R.all PyData.strOk = true := List.all_eq_true.mpr fun z hz => (hrest z hz).2
  let S : Option V → Option V → Option V → Option V → L2.St := fun u3 u4 u5 u6 => [some (.str kind), some (.ref a), some (.ref r), u3, u4, u5, u6]
  refine seq_if (σ := S none none none none) (ev_eqL (zs := [Str.ofString "lent"]) (ev_var (i := 2) rfl) hr1 hso (fun _ => ev_cons ev_C fun _ _ => ev_nil) (by decide +kernel)) (fun g H2 s2 => ?_) (fun g H2 s2 => ?_)
  · have e1 : partR kind R = decide (kind = "look") := if_pos (of_decide_eq_true g)
    rw [e1] at h0
    have := ev_eq (σ := S none none none none) (H := H2) (a := tVar 0) (ev_var rfl) (fun _ _ => ev_C (v := V.str (Str.ofString "look"))) rfl
    rw [dcS] at this
    exact ret_go (this _ fun H3 s3 => h0 H3 (s1.tr (s2.tr s3)))
  have g1 := of_decide_eq_false g
  have s02 := s1.tr s2
  have hr2 := s2.sql hr1
  have W : ∀ {i : Nat} {u3 u4 u5 u6 : Option V} {H' : Hp}, Same H2 H' → i < R.length → EvE (tOp (rIxL K) (tVar 2) (tC (.int (i : Int)))) (S u3 u4 u5 u6) H' (.str (R.getD i "")) := fun s hi => ev_word (ev_var rfl) (s.sql hr2) hi
  have LN : EvE (tCB (fun xs H Q => ∃ p ys, xs = [V.ref p] ∧ (SqL K H p ys ∨ SqT K H p ys) ∧ Q (.int (ys.length : Nat)) H) (tCons (tVar 2) tNil)) (S none none none none) H2 (.int (R.length : Nat)) := by
    have := ev_len (K := K) (σ := S none none none none) (ev_cons (ev_var (i := 2) rfl) fun _ _ => ev_nil) (.inl hr2)
    rw [List.length_map] at this
    exact this
  refine seq_if (σ := S none none none none) (b1 := !decide (R.length = 3) || (!decide (R.getD 1 "" ∈ lt3) || decide (R.getD 0 "" = R.getD 2 ""))) (ev_or (by
    have := ev_test (ev_ne LN (fun _ _ => ev_C (v := V.int ((3 : Nat) : Int))) rfl)
    rw [dcN] at this
    exact this) fun g3 H3 s3 => ev_or (ev_test (ev_notin (ns := lt3) (W (i := 1) s3 (ln3 g3)) (in_lst (ns := lt3) fun _ => ev_cons ev_C fun _ _ => ev_cons ev_C fun _ _ => ev_cons ev_C fun _ _ => ev_nil))) fun _ H4 s4 => eq_str (W (i := 0) (s3.tr s4) (ln3 g3)) fun H5 s5 => W (i := 2) (s3.tr (s4.tr s5)) (ln3 g3)) (fun g2 H3 s3 => ?_) (fun g2 H3 s3 => ?_)
  · have e1 : partR kind R = false := partR_bad g1 (by
      rw [Bool.or_eq_true, Bool.or_eq_true] at g2
      rcases g2 with g2 | g2 | g2
      · exact .inl (by simpa using g2)
      · exact .inr (.inl (by simpa using g2))
      · exact .inr (.inr (by simpa using g2)))
    rw [e1] at h0
    exact ret_go (c_go (h0 H3 (s02.tr s3)))
  rw [Bool.or_eq_false_iff, Bool.or_eq_false_iff] at g2
  obtain ⟨x, y, z, rfl⟩ := len3 (show R.length = 3 by simpa using g2.1)
  have gy : y ∈ lt3 ∧ x ≠ z := ⟨by simpa using g2.2.1, by simpa using g2.2.2⟩
  rw [partR_3 gy] at h0
  have hx := hrest x (by simp)
  have hz := hrest z (by simp)
  refine par_go (cons_go (W (i := 0) s3 (by show 0 < 3; decide) _ fun H4 s4 => cons_go (W (i := 2) (s3.tr s4) (by show 2 < 3; decide) _ fun H5 s5 => nil_go ⟨_, _, rfl, ?_⟩)))
  have s05 := s02.tr (s3.tr (s4.tr s5))
  clear LN W
  refine seq_if (σ := S (some (.str x)) (some (.str z)) none none) (ne_str (ev_var rfl) fun _ _ => ev_C) (fun g H6 s6 => ?_) (fun g H6 s6 => ?_)
  · have gl : kind ≠ "look" := fun e => by rw [decide_eq_true (show kind = Str.ofString "look" from e)] at g; cases g
    rw [if_pos gl] at h0
    refine set_lst (vs := asked3.map V.str) (ev_cons ev_C fun _ _ => ev_cons ev_C fun _ _ => ev_cons ev_C fun _ _ => ev_nil) (fun H7 q s7 _ hq => ?_)
    let S7 : L2.St := S (some (.str x)) (some (.str z)) (some (.ref q)) none
    have IN : ∀ {H' : Hp} {i : Nat} {u : Str}, Same H7 H' → S7[i]? = some (some (.str u)) → EvE (tOp (rIn K false) (tVar i) (tVar 5)) S7 H' (.bl (decide (u ∈ asked3))) := fun s hi => ev_in (ev_var hi) fun H1' s1' Q k => ⟨_, rfl, k H1' q (Same.rf _) (.inl (.inl (.inl ((s.tr s1') _ _ hq))))⟩
    exact ret_go (ev_orV (σ := S7) (ev_andV (IN (Same.rf _) rfl) fun _ H8 s8 => ev_ge (ev_num (ev_var rfl) hz.1)) (fun _ H8 s8 => ev_andV (IN s8 rfl) fun _ H9 s9 => ev_ge (ev_num (ev_var rfl) hx.1)) _ fun H8 s8 => h0 H8 (s05.tr (s6.tr (s7.tr s8))))
  · have gl : ¬ kind ≠ "look" := fun e => by rw [decide_eq_false (show ¬ kind = Str.ofString "look" from e)] at g; cases g
    rw [if_neg gl] at h0
    refine ret_go (op_go (lc_of (fun pa xs H1 => Same H6 H1 ∧ H1 pa = some (.lst xs) ∧ xs = [x, z].map V.str) (fun Rr hR => mk_lst (vs := [x, z].map V.str) (ev_cons (ev_var rfl) fun _ _ => ev_cons (ev_var rfl) fun _ _ => ev_nil) (fun H7 q s7 _ hq => hR q _ H7 ⟨s7, hq, rfl⟩)) fun pa xs H7 h7 => ?_))
    obtain ⟨s7, hpa, rfl⟩ := h7
    refine lc_dq ([x, z].map fun u => if !decide (u ∈ namesOf kind) && decide (lnum u < 0) then some (PyData.str u) else none) ev_C (.inl (.inl hpa)) rfl (by show 2 ≤ 1000000; decide) (fun i v o H8 hv ho s8 => ?_) (fun q ys H8 s8 _ hq hy => lst_go (nil_go ⟨szL rfl, fun e he => ⟨q, e, ys, rfl, rfl, .inl (.inl (Same.new he _ _ hq)), .inl (.inl upd_same), ?_⟩⟩))
    · obtain ⟨u, hu, rfl⟩ := strs_map hv
      rw [List.getElem?_map, hu] at ho
      cases ho
      have hul : u.length ≤ 10000 := by
        have := List.mem_of_getElem? hu
        simp only [List.mem_cons, List.not_mem_nil, or_false] at this
        rcases this with e | e
        · rw [e]; exact hx.1
        · rw [e]; exact hz.1
      have ht : EvT (tAnd (tTest (tOp (rIn K true) (tVar 6) (tCall spNames [] E0 (tCons (tVar 0) tNil)))) (tTest (tOp (rI0 fun i j => .bl (decide (i < j))) (tCall spNumb [] E0 (tCons (tVar 6) tNil)) (tC (.int 0))))) (S (some (.str x)) (some (.str z)) none (some (.str u))) H8 (!decide (u ∈ namesOf kind) && decide (lnum u < 0)) :=
        ev_and (ev_test (ev_notin (ev_var rfl) fun H1' s1' Q k => call_go (cons_go (var_go rfl (nil_go ⟨kind, rfl, hk, fun p1 H1 s1 _ hp1 => k H1 p1 s1 (.inl (.inl (.inl hp1)))⟩))))) fun _ H9 _ => ev_test (ev_op (ev_num (ev_var rfl) hul) (fun _ _ => ev_C) fun _ _ Q q => ⟨_, _, rfl, rfl, q⟩)
      refine ⟨S (some (.str x)) (some (.str z)) none (some (.str u)), fun R k => k, rfl, ?_⟩
      dsimp only
      cases hd : (!decide (u ∈ namesOf kind) && decide (lnum u < 0)) with
      | true =>
        rw [hd] at ht
        exact ⟨ht, fun H4 _ => (ev_var (i := 6) rfl).d fun _ _ => .str _⟩
      | false =>
        rw [hd] at ht
        exact ht
    · have e9 : id ys.isEmpty = ((decide (x ∈ namesOf kind) || decide (0 ≤ lnum x)) && (decide (z ∈ namesOf kind) || decide (0 ≤ lnum z))) := by
        have key : ∀ u : Str, (!decide (u ∈ namesOf kind) && decide (lnum u < 0)) = !(decide (u ∈ namesOf kind) || decide (0 ≤ lnum u)) := fun u => by
          rw [Bool.not_or]
          congr 1
          rw [← decide_not]
          exact decide_eq_decide.mpr (by omega)
        rw [id, hy.empty, fm_empty]
        simp only [List.any_cons, List.any_nil, Bool.or_false, key]
        generalize (decide (x ∈ namesOf kind) || decide (0 ≤ lnum x)) = A1
        generalize (decide (z ∈ namesOf kind) || decide (0 ≤ lnum z)) = B1
        cases A1 <;> cases B1 <;> rfl
      rw [e9]
      exact h0 _ (s05.tr (s6.tr (s7.tr (s8.tr (Same.new he)))))
end
end K17


set_option Elab.async false
set_option linter.all false
set_option maxRecDepth 100000
set_option maxHeartbeats 4000000
namespace L2
open PySem PySem.Spec PyProof.Rows
theorem joinL_len1 : ∀ {ps : List (List Nat)}, ps ≠ [] → (TL.joinL [32] ps).length + 1 = (ps.map (·.length)).sum + ps.length
  | [], h => absurd rfl h
  | [p], _ => by simp [TL.joinL]
  | p :: q :: r, _ => by
    have ih := joinL_len1 (ps := q :: r) (by simp)
    show (p ++ ([32] ++ TL.joinL [32] (q :: r))).length + 1 = _
    rw [List.length_append, List.length_append, List.map_cons, List.sum_cons, List.length_cons (a := p)]
    simp only [List.length_singleton]
    omega
/-- how long the words of a text are together -/
theorem w_sum (t : Str) : ((Txt.split t spW).map (fun x => x.length)).sum + (Txt.split t spW).length = t.length + 1 := by
  have h := joinL_len1 (ps := (Txt.split t spW).map TL.tl) (by simp [w_ne])
  rw [← tl_spW, ← TL.tl_join, ← TL.join_eq, w_join, ← TL.len_tl, List.length_map, List.map_map] at h
  have e : ((fun x : List Nat => x.length) ∘ TL.tl) = fun x : Str => x.length := funext fun x => (TL.len_tl x).symm
  rw [e] at h
  exact h.symm
theorem joinL_lenS {s : List Nat} : ∀ {ps : List (List Nat)}, ps ≠ [] → (TL.joinL s ps).length + s.length = (ps.map (·.length)).sum + ps.length * s.length
  | [], h => absurd rfl h
  | [p], _ => by simp [TL.joinL]
  | p :: q :: r, _ => by
    have ih := joinL_lenS (s := s) (ps := q :: r) (by simp)
    show (p ++ (s ++ TL.joinL s (q :: r))).length + s.length = _
    rw [List.length_append, List.length_append, List.map_cons, List.sum_cons, List.length_cons (a := p), Nat.add_mul]
    omega
/-- how many parts a split text has -/
theorem split_many {x y : Str} (hy : 1 ≤ (TL.tl y).length) : (Txt.split x y).length ≤ x.length + y.length := by
  cases hs : Txt.split x y with
  | nil => exact Nat.zero_le _
  | cons a r =>
    have e := StrLaws.join_split x y
    have h := joinL_lenS (s := TL.tl y) (ps := (Txt.split x y).map TL.tl) (by rw [hs]; simp)
    rw [← TL.tl_join, e, ← TL.len_tl, ← TL.len_tl, List.length_map, hs] at h
    have h2 : (a :: r).length ≤ (a :: r).length * y.length := Nat.le_mul_of_pos_right _ (by rw [TL.len_tl]; omega)
    omega
theorem sum_drop (l : List Nat) (n : Nat) : (l.drop n).sum ≤ l.sum := by
  induction l generalizing n with
  | nil => simp
  | cons a r ih =>
    cases n with
    | zero => exact Nat.le_refl _
    | succ n => rw [List.drop_succ_cons, List.sum_cons]; have := ih n; omega
theorem mem_joinL {s : List Nat} {c : Nat} : ∀ {ps : List (List Nat)}, c ∈ TL.joinL s ps → c ∈ s ∨ ∃ p ∈ ps, c ∈ p
  | [], h => nomatch h
  | [p], h => .inr ⟨p, List.mem_singleton_self _, h⟩
  | p :: q :: r, h => by
    rcases List.mem_append.mp (show c ∈ p ++ (s ++ TL.joinL s (q :: r)) from h) with k | k
    · exact .inr ⟨p, List.mem_cons_self .., k⟩
    · rcases List.mem_append.mp k with k | k
      · exact .inl k
      · rcases mem_joinL k with k | ⟨x, hx, k⟩
        · exact .inl k
        · exact .inr ⟨x, List.mem_cons_of_mem _ hx, k⟩
theorem mem_joinP {s : List Nat} : ∀ {l : List (List Nat)} {z : List Nat}, z ∈ l → ∀ c ∈ z, c ∈ TL.joinL s l
  | [], _, h, _, _ => nomatch h
  | [p], z, h, c, hc => by rw [List.mem_singleton] at h; subst h; exact hc
  | a :: b :: r, z, h, c, hc => by
    show c ∈ a ++ (s ++ TL.joinL s (b :: r))
    rcases List.mem_cons.mp h with q | q
    · subst q; exact List.mem_append.mpr (.inl hc)
    · exact List.mem_append.mpr (.inr (List.mem_append.mpr (.inr (mem_joinP q c hc))))
/-- a split text's parts have its signs -/
theorem split_mem {x y z : Str} (h : z ∈ Txt.split x y) {c : Nat} (hc : c ∈ TL.tl z) : c ∈ TL.tl x := by
  have e := StrLaws.join_split x y
  rw [← e, TL.tl_join]
  exact mem_joinP (List.mem_map_of_mem h) c hc
theorem join_mem {ls : List Str} {y : Str} {c : Nat} (h : c ∈ TL.tl (Txt.join y ls)) : c ∈ TL.tl y ∨ ∃ z ∈ ls, c ∈ TL.tl z := by
  rw [TL.join_eq, TL.tl_join] at h
  rcases mem_joinL h with h | ⟨p, hp, h⟩
  · exact .inl h
  · obtain ⟨z, hz, rfl⟩ := List.mem_map.mp hp
    exact .inr ⟨z, hz, h⟩
theorem so_tl {z : Str} : PyData.strOk z = true ↔ ∀ c ∈ TL.tl z, c < 0x110000 := by
  show z.cps.all (· < 0x110000) = true ↔ _
  rw [Array.all_eq_true']
  exact ⟨fun h c hc => of_decide_eq_true (h c (Array.mem_toList_iff.mp hc)), fun h c hc => decide_eq_true (h c (Array.mem_toList_iff.mpr hc))⟩
/-- {"give": [..], "free": [..], "look": [..]}[kind] -/
theorem disp3_go {σ : St} {H : Hp} {Q : VK} {a1 a2 a3 : TA} {l1 l2 l3 : List Str} {kind : Str} (h0 : σ[0]? = some (some (.str kind))) (hk : kind ∈ (["give", "free", "look"] : List Str)) (e1 : ∀ H, EvA a1 σ H (l1.map V.str)) (e2 : ∀ H, EvA a2 σ H (l2.map V.str)) (e3 : ∀ H, EvA a3 σ H (l3.map V.str))
    (n1 : Nat.ble (l1.map V.str).length 1000 = true) (n2 : Nat.ble (l2.map V.str).length 1000 = true) (n3 : Nat.ble (l3.map V.str).length 1000 = true)
    (k : ∀ q H', Same H H' → H' q = some (.lst ((if kind = "give" then l1 else if kind = "free" then l2 else l3).map V.str)) → Q (.ref q) H') :
    tDGet (tDisp [(tC (.str (Str.ofString "give")), tLst a1), (tC (.str (Str.ofString "free")), tLst a2), (tC (.str (Str.ofString "look")), tLst a3)]) (tVar 0) σ H Q := by
  intro p hp
  have sp : Same H (upd H p (.dK [])) := Same.new hp
  have ip : upd H p (.dK []) p = some (.dK []) := upd_same
  generalize upd H p (.dK []) = H0 at sp ip ⊢
  show tLst a1 σ H0 fun y1 H1 => tLst a2 σ H1 fun y2 H2 => tLst a3 σ H2 fun y3 H3 => (H3 p = some (.dK []) ∧ ∃ kvs : List (Key × V), ([(V.str (Str.ofString "give"), y1), (V.str (Str.ofString "free"), y2), (V.str (Str.ofString "look"), y3)] : List (V × V)) = kvs.map (fun kv => (kV kv.1, kv.2)) ∧ kvs.length ≤ 15 ∧ tVar 0 σ (upd H3 p (.dK (mergeK [] kvs))) fun y H2 => ∃ a v, V.ref p = .ref a ∧ DGet H2 a y (some v) ∧ Q v H2)
  refine mk_lst (e1 _) (fun H1 q1 s1 hq10 hq1 => ?_) n1
  refine mk_lst (e2 _) (fun H2 q2 s2 hq20 hq2 => ?_) n2
  refine mk_lst (e3 _) (fun H3 q3 s3 hq30 hq3 => ?_) n3
  have ip3 := s3 _ _ (s2 _ _ (s1 _ _ ip))
  refine ⟨ip3, [(Sum.inr "give", .ref q1), (Sum.inr "free", .ref q2), (Sum.inr "look", .ref q3)], rfl, by show 3 ≤ 15; decide, ?_⟩
  have s4 : Same H (upd H3 p (.dK (mergeK [] [(Sum.inr "give", .ref q1), (Sum.inr "free", .ref q2), (Sum.inr "look", .ref q3)]))) := ((sp.tr s1).tr (s2.tr s3)).mut hp
  have i4 : upd H3 p (.dK (mergeK [] [(Sum.inr "give", .ref q1), (Sum.inr "free", .ref q2), (Sum.inr "look", .ref q3)])) p = some (.dK [(Sum.inr "give", .ref q1), (Sum.inr "free", .ref q2), (Sum.inr "look", .ref q3)]) := upd_same
  have kp : ∀ {q : Addr} {l : List V}, H3 q = some (.lst l) → upd H3 p (.dK (mergeK [] [(Sum.inr "give", .ref q1), (Sum.inr "free", .ref q2), (Sum.inr "look", .ref q3)])) q = some (.lst l) := fun h => by rw [upd_ne (fun e => by rw [e, ip3] at h; cases h)]; exact h
  have k1 := kp (s3 _ _ (s2 _ _ hq1))
  have k2 := kp (s3 _ _ hq2)
  have k3 := kp hq3
  generalize upd H3 p (.dK (mergeK [] [(Sum.inr "give", .ref q1), (Sum.inr "free", .ref q2), (Sum.inr "look", .ref q3)])) = H4 at s4 i4 k1 k2 k3 ⊢
  have n12 : ¬ ("free" : Str) = "give" := by decide +kernel
  have n13 : ¬ ("look" : Str) = "give" := by decide +kernel
  have n23 : ¬ ("look" : Str) = "free" := by decide +kernel
  simp only [List.mem_cons, List.not_mem_nil, or_false] at hk
  rcases hk with rfl | rfl | rfl
  · exact ⟨_, h0, p, _, rfl, .inl ⟨_, .inr "give", .inl i4, rfl, rfl⟩, k q1 H4 s4 (by rw [if_pos rfl]; exact k1)⟩
  · exact ⟨_, h0, p, _, rfl, .inl ⟨_, .inr "free", .inl i4, rfl, rfl⟩, k q2 H4 s4 (by rw [if_neg n12, if_pos rfl]; exact k2)⟩
  · exact ⟨_, h0, p, _, rfl, .inl ⟨_, .inr "look", .inl i4, rfl, rfl⟩, k q3 H4 s4 (by rw [if_neg n13, if_neg n23]; exact k3)⟩
end L2


set_option Elab.async false
set_option linter.all false
set_option maxRecDepth 100000
set_option maxHeartbeats 4000000
namespace K17
open PySem PySem.Spec PyProof.Rows L2 Rdr LmX LamX NdefX Idr Tld
theorem ends_of {kind : Str} (hk : kind ∈ kinds3) : (if kind = "give" then (["quit"] : List Str) else if kind = "free" then ["quit", "retire"] else ["accept", "refuse"]) = (endsOf kind).map En.z := by
  simp only [kinds3, List.mem_cons, List.not_mem_nil, or_false] at hk
  rcases hk with rfl | rfl | rfl <;> decide +kernel
theorem goals_of {kind : Str} (hk : kind ∈ kinds3) : (if kind = "give" then (["word"] : List Str) else if kind = "free" then [] else ["page", "slot"]) ++ (["a", "b", "c"] : List Str) = goalsOf kind := by
  simp only [kinds3, List.mem_cons, List.not_mem_nil, or_false] at hk
  rcases hk with rfl | rfl | rfl <;> decide +kernel
theorem ev_fac {σ : L2.St} {H : Hp} {ta tb : TE} {s z : Str} (ha : EvE ta σ H (.str s)) (hb : ∀ H1, Same H H1 → EvE tb σ H1 (.str z)) (hz : z.length ≤ 10000) : EvE (tCall spIsFac [] E0 (tCons ta (tCons tb tNil))) σ H (.bl (isFac s z)) := fun Q k => call_go (cons_go (ha _ fun H1 s1 => cons_go (hb H1 s1 _ fun H2 s2 => nil_go ⟨s, z, rfl, hz, fun H3 s3 => k H3 (s1.tr (s2.tr s3))⟩)))
section
variable {P : Program} {w : World} {K : PySem.W.Frag} {mg : Str → Option Value} {base : Heap}
def spIsLine (K : PySem.W.Frag) : Sp := fun vs H Q _ => ∃ (kind text : Str), vs = [.str kind, .str text] ∧ kind ∈ kinds3 ∧ text.length ≤ 2000 ∧ PyData.strOk text = true ∧ ∀ H', Same H H' → Q (.bl (isLine kind text)) H'
theorem ok_l_is_line (T : Tx P w K mg) : FnX P w K mg base CX0 3 "_law_is_line" ["_law_kind", "_law_text"] [] (spIsLine K) := by
  have F_l_number := ok_l_number (base := base) T
  have F_l_is_part := ok_l_is_part (base := base) T
  have F_l_is_sum := ok_l_is_sum (base := base) T
  have F_l_is_factor := ok_l_is_factor (base := base) T
  refine T.d_l_is_line.ok0 sc_l_is_line (fun _ _ _ _ _ _ us hl => match us, hl with | [_, _], _ => rfl) (fun vs H Q E h => ?_) (fun f cdv A outer s H vs Q E hr h => have hu := hu_of hr; ⟨_, (by exact (pss_cons (ps_set (i := 2) sc_l_is_line.nd rfl (Or.inl rfl) (pe_split (pv 1) pe_str))
      (pss_cons (ps_if (pt_cmpR op_eq (pe_ix ix_list (pv 2) pe_int (fun _ _ => rfl)) pe_str (nomark _)) (pss_cons (ps_set (i := 3) sc_l_is_line.nd rfl (Or.inl rfl) (pe_split (pe_join pe_str (pe_slice sl_list (pv 2) (po_some pe_int) po_none)) pe_str))
      (pss_one (ps_ret (pe_and (pe_cmpR op_le (pe_callB call_len_seq (by rfl) T.b_len (by decide +kernel) (pa_cons (pv 3) pa_nil)) pe_int (nomark _)) (pe_one (pe_cmpR (op_eqNil hu) (pe_lc (own := [("_law_part", 4)]) (g := (gName 4))  (by rfl) sc_l_is_line.nd (pi_list (pv 3)) (blkOk_by (own := [("_law_part", 4)]) (N := ["_law_kind", "_law_text", "_law_words", "_law_parts", "_law_part", "_law_goals"]) (sc := defScope s_l_is_line) (by decide +kernel)) (fun _ _ _ _ _ => (pg_name (i := 4) sc_l_is_line.nd rfl (Or.inl rfl))) (fun _ _ _ _ _ => (pts_one (pt_not (pt_val (pe_callX F_l_is_part (hr.mono (by first | decide | omega)) pass0 (pa_cons (pv 0) (pa_cons (pe_split (pv 4) pe_str) pa_nil))))))) (fun _ _ _ _ _ => (pv 4))) (pe_lst pa_nil) (nomark _))))))) pss_nil)
      (pss_cons (ps_if (pt_cmpR op_in_seq (pv 1) (pe_dget hu (pe_disp (pps_cons pe_str (pe_lst (pa_cons pe_str pa_nil)) (pps_cons pe_str (pe_lst (pa_cons pe_str (pa_cons pe_str pa_nil))) (pps_cons pe_str (pe_lst (pa_cons pe_str (pa_cons pe_str pa_nil))) pps_nil))) (by rfl) (by rfl) (fun z => by cases z) (by decide)) (pv 0) (fun _ _ => rfl)) (by rfl)) (pss_one (ps_ret pe_bl)) pss_nil)
      (pss_cons (ps_if (PW.pt (pw_or (pt_cmpR op_lt (pe_callB call_len_seq (by rfl) T.b_len (by decide +kernel) (pa_cons (pv 2) pa_nil)) pe_int (nomark _)) (pw_or1 (pt_cmpR op_ne (pe_ix ix_list (pv 2) pe_int (fun _ _ => rfl)) pe_str (nomark _))))) (pss_one (ps_ret pe_bl)) pss_nil)
      (pss_cons (ps_if (pt_cmpR op_eq (pe_ix ix_list (pv 2) pe_int (fun _ _ => rfl)) pe_str (nomark _)) (pss_cons (ps_if (pt_cmpR op_eq (pv 0) pe_str (nomark _)) (pss_one (ps_ret pe_bl)) pss_nil)
      (pss_cons (ps_if (pt_cmpR op_eq (pe_callB call_len_seq (by rfl) T.b_len (by decide +kernel) (pa_cons (pv 2) pa_nil)) pe_int (nomark _)) (pss_one (ps_ret (pe_cmpR op_ge (pe_callX F_l_number (hr.mono (by first | decide | omega)) pass0 (pa_cons (pe_ix ix_list (pv 2) pe_int (fun _ _ => rfl)) pa_nil)) pe_int (nomark _)))) pss_nil)
      (pss_cons (ps_if (PW.pt (pw_or (pt_cmpR op_ne (pe_callB call_len_seq (by rfl) T.b_len (by decide +kernel) (pa_cons (pv 2) pa_nil)) pe_int (nomark _)) (pw_or1 (pt_cmpR op_ne (pe_ix ix_list (pv 2) pe_int (fun _ _ => rfl)) pe_str (nomark _))))) (pss_one (ps_ret pe_bl)) pss_nil)
      (pss_cons (ps_if (pt_cmpR op_eq (pe_ix ix_list (pv 2) pe_int (fun _ _ => rfl)) pe_str (nomark _)) (pss_one (ps_ret (pe_chain op_le op_le pe_int (pe_callX F_l_number (hr.mono (by first | decide | omega)) pass0 (pa_cons (pe_ix ix_list (pv 2) pe_int (fun _ _ => rfl)) pa_nil)) pe_int))) pss_nil)
      (pss_one (ps_ret (pe_and (pe_cmpR op_in_seq (pe_ix ix_list (pv 2) pe_int (fun _ _ => rfl)) (pe_lst (pa_cons pe_str (pa_cons pe_str pa_nil))) (by rfl)) (pe_one (pe_callX F_l_is_factor (hr.mono (by first | decide | omega)) pass0 (pa_cons (pe_ix ix_list (pv 2) pe_int (fun _ _ => rfl)) (pa_cons (pe_ix ix_list (pv 2) pe_int (fun _ _ => rfl)) pa_nil))))))))))) pss_nil)
      (pss_cons (ps_set (i := 5) sc_l_is_line.nd rfl (Or.inl rfl) (pe_op op_cat (pe_dget hu (pe_disp (pps_cons pe_str (pe_lst (pa_cons pe_str pa_nil)) (pps_cons pe_str (pe_lst pa_nil) (pps_cons pe_str (pe_lst (pa_cons pe_str (pa_cons pe_str pa_nil))) pps_nil))) (by rfl) (by rfl) (fun z => by cases z) (by decide)) (pv 0) (fun _ _ => rfl)) (pe_lst (pa_cons pe_str (pa_cons pe_str (pa_cons pe_str pa_nil))))))
      (pss_cons (ps_if (pt_cmpR op_notIn_seq (pe_ix ix_list (pv 2) pe_int (fun _ _ => rfl)) (pv 5) (by rfl)) (pss_one (ps_ret pe_bl)) pss_nil)
      (pss_cons (ps_if (pt_cmpR op_in_seq (pe_ix ix_list (pv 2) (pe_un un_neg pe_int) (fun _ _ => rfl)) (pe_lst (pa_cons pe_str (pa_cons pe_str (pa_cons pe_str (pa_cons pe_str (pa_cons pe_str (pa_cons pe_str pa_nil))))))) (by rfl)) (pss_one (ps_ret (pe_and (pe_callX F_l_is_sum (hr.mono (by first | decide | omega)) pass0 (pa_cons (pv 0) (pa_cons (pe_slice sl_list (pv 2) (po_some pe_int) (po_some (pe_un un_neg pe_int))) pa_nil))) (pe_one (pe_callX F_l_is_factor (hr.mono (by first | decide | omega)) pass0 (pa_cons (pe_ix ix_list (pv 2) (pe_un un_neg pe_int) (fun _ _ => rfl)) (pa_cons (pe_ix ix_list (pv 2) (pe_un un_neg pe_int) (fun _ _ => rfl)) pa_nil))))))) pss_nil)
      (pss_one (ps_ret (pe_callX F_l_is_sum (hr.mono (by first | decide | omega)) pass0 (pa_cons (pv 0) (pa_cons (pe_slice sl_list (pv 2) (po_some pe_int) po_none) pa_nil)))))))))))))), ?_⟩)
  · obtain ⟨kind, text, rfl, _⟩ := h
    rfl
  obtain ⟨kind, text, rfl, hk, htl, hto, h0⟩ := h
  have q9 : sizeLine = 16777216 := sizeLine_eq
  have hsum := w_sum text
  have hne := w_ne text
  have hwl : ∀ z ∈ wds text, z.length ≤ 2000 := fun z hz => Nat.le_trans (split_len _ _ z hz) htl
  have hto' := so_tl.mp hto
  refine set_te (do_split (z := text) (ev_var rfl) (by decide +kernel) (by omega) (fun H1 wa s1 _ hwa => ?_))
  replace hwa : H1 wa = some (.lst ((wds text).map V.str)) := hwa
  replace hsum : ((wds text).map (fun x => x.length)).sum + (wds text).length = text.length + 1 := hsum
  have hnl : (wds text).length ≤ 2001 := by omega
  let S : Option V → Option V → Option V → L2.St := fun u3 u4 u5 => [some (.str kind), some (.str text), some (.ref wa), u3, u4, u5]
  have W : ∀ {i : Nat} {u3 u4 u5 : Option V} {H' : Hp}, Same H1 H' → i < (wds text).length → EvE (tOp (rIxL K) (tVar 2) (tC (.int (i : Int)))) (S u3 u4 u5) H' (.str ((wds text).getD i "")) := fun s hi => ev_word (ev_var rfl) (.inl (.inl (s _ _ hwa))) hi
  have LN : ∀ {u3 u4 u5 : Option V} {H' : Hp}, Same H1 H' → EvE (tCB (fun xs H Q => ∃ p ys, xs = [V.ref p] ∧ (SqL K H p ys ∨ SqT K H p ys) ∧ Q (.int (ys.length : Nat)) H) (tCons (tVar 2) tNil)) (S u3 u4 u5) H' (.int ((wds text).length : Nat)) := fun {u3 u4 u5 H'} s => by
    have := ev_len (K := K) (σ := S u3 u4 u5) (ev_cons (ev_var (i := 2) rfl) fun _ _ => ev_nil) (.inl (.inl (.inl (s _ _ hwa))))
    rw [List.length_map] at this
    exact this
  have hlp : 0 < (wds text).length := List.length_pos_iff.mpr hne
  refine seq_if (σ := S none none none) (eq_str (W (i := 0) (Same.rf _) hlp) fun _ _ => ev_C) (fun g H2 s2 => ?_) (fun g H2 s2 => ?_)
  · have g := of_decide_eq_true g
    have e1 : isLine kind text = (decide ((lawParts text).length ≤ 4) && (lawParts text).all (fun p => isPart kind (wds p))) := if_pos g
    rw [e1] at h0
    have JN : EvE (tM1 (fun x xs H Q => ∃ a p, ∃ ys : List Str, x = V.str a ∧ xs = [V.ref p] ∧ (SqL K H p (List.map V.str ys) ∨ SqT K H p (List.map V.str ys)) ∧ (List.map (fun x => x.length) ys).sum + ys.length * a.length ≤ 16777216 ∧ Q (V.str (Txt.join a ys)) H) (tC (.str (Str.ofString " "))) (tSl (rSlL K) (tVar 2) (L2.tPart (tC (.int 1))) tNoPart)) (S none none none) H2 (.str (Txt.join spW ((wds text).drop 1))) := fun Q k =>
      ⟨⟨_, rfl⟩, sl_tail rfl (.inl (.inl (s2 _ _ hwa))) fun q H3 s3 hq => ⟨_, q, (wds text).drop 1, rfl, rfl, .inl (.inl (.inl hq)), by
        have h1 : ((wds text).drop 1 |>.map (fun x => x.length)).sum ≤ ((wds text).map (fun x => x.length)).sum := by rw [List.map_drop]; exact sum_drop _ _
        have h2 : (Str.ofString " ").length = 1 := by decide +kernel
        rw [h2, List.length_drop]
        omega, k H3 s3⟩⟩
    have hjl : (Txt.join spW ((wds text).drop 1)).length ≤ 2000 := by
      cases hw : (wds text).drop 1 with
      | nil => exact Nat.zero_le _
      | cons b r =>
        have h1 := joinL_len1 (ps := ((wds text).drop 1).map TL.tl) (by rw [hw]; simp)
        rw [← tl_spW, ← TL.tl_join, ← TL.join_eq, ← TL.len_tl, List.length_map, List.map_map, List.length_drop] at h1
        have e : ((fun x : List Nat => x.length) ∘ TL.tl) = fun x : Str => x.length := funext fun x => (TL.len_tl x).symm
        have h2 : (((wds text).drop 1).map (fun x => x.length)).sum ≤ ((wds text).map (fun x => x.length)).sum := by rw [List.map_drop]; exact sum_drop _ _
        rw [e, hw] at h1
        rw [hw] at h2
        omega
    refine set_te (do_split (z := Txt.join spW ((wds text).drop 1)) JN (by decide +kernel) (by omega) (fun H3 pa s3 _ hpa => ?_))
    replace hpa : H3 pa = some (.lst ((lawParts text).map V.str)) := hpa
    have hpl : ∀ p ∈ lawParts text, p.length ≤ 2000 ∧ PyData.strOk p = true := fun p hp => ⟨Nat.le_trans (split_len _ _ p hp) hjl, so_tl.mpr fun c hc => by
      rcases join_mem (split_mem hp hc) with h | ⟨z, hz, h⟩
      · rw [tl_spW, List.mem_singleton] at h
        omega
      · exact hto' c (split_mem (List.mem_of_mem_drop hz) h)⟩
    have hpn : (lawParts text).length ≤ 3000 := by
      have h1 := split_many (x := Txt.join spW ((wds text).drop 1)) (y := andS) (by decide +kernel)
      have h2 : andS.length = 5 := by decide +kernel
      have h3 : (lawParts text).length ≤ (Txt.join spW ((wds text).drop 1)).length + andS.length := h1
      omega
    have s03 := s1.tr (s2.tr s3)
    let S3 : Option V → L2.St := fun u4 => S (some (.ref pa)) u4 none
    have L3 : EvE (tCB (fun xs H Q => ∃ p ys, xs = [V.ref p] ∧ (SqL K H p ys ∨ SqT K H p ys) ∧ Q (.int (ys.length : Nat)) H) (tCons (tVar 3) tNil)) (S3 none) H3 (.int ((lawParts text).length : Nat)) := by
      have := ev_len (K := K) (σ := S3 none) (H := H3) (ev_cons (ev_var (i := 3) rfl) fun _ _ => ev_nil) (.inl (.inl (.inl hpa)))
      rw [List.length_map] at this
      exact this
    have PT : ∀ {H' : Hp} {p : Str}, p ∈ lawParts text → EvT (tNot (tB (tCall (spIsPart K) [] E0 (tCons (tVar 0) (tCons (tM1 (fun x xs H Q => ∃ a b, x = V.str a ∧ xs = [V.str b] ∧ (b.length == 0) = false ∧ a.length + 2 ≤ sizeLine ∧ rNewStrs (Txt.split a b) H Q) (tVar 4) (tC (.str (Str.ofString " ")))) tNil))))) (S3 (some (.str p))) H' (!isPart kind (wds p)) := fun {H' p} hp => ev_not (ev_tB fun Q k => call_go (cons_go (var_go rfl (cons_go (do_split (z := p) (ev_var rfl) (by decide +kernel) (by have := (hpl p hp).1; omega) (fun H'' q s' _ hq => nil_go ⟨kind, q, wds p, rfl, hk, .inl (.inl hq), fun z hz => ⟨Nat.le_trans (split_len _ _ z hz) (Nat.le_trans (hpl p hp).1 (by decide)), strOk_words (hpl p hp).2 z hz⟩, fun H3' s3' => k H3' (s'.tr s3')⟩))))))
    have CM : ∀ {H' : Hp}, Same H3 H' → EvE (tOp (rNil K id) (tLc (iList K (tVar 3)) (gName 4) (tNot (tB (tCall (spIsPart K) [] E0 (tCons (tVar 0) (tCons (tM1 (fun x xs H Q => ∃ a b, x = V.str a ∧ xs = [V.str b] ∧ (b.length == 0) = false ∧ a.length + 2 ≤ sizeLine ∧ rNewStrs (Txt.split a b) H Q) (tVar 4) (tC (.str (Str.ofString " ")))) tNil))))) (tVar 4) [4]) (tLst tNil)) (S3 none) H' (.bl ((lawParts text).all (fun p => isPart kind (wds p)))) := fun {H'} s' R k => by
      refine op_go (lc_dq (K := K) ((lawParts text).map fun p => if !isPart kind (wds p) then some (PyData.str p) else none) (ev_var rfl) (.inl (.inl (s' _ _ hpa))) (by rw [List.length_map, List.length_map]) (by rw [List.length_map]; omega) (fun i v o H8 hv ho s8 => ?_) (fun q ys H8 s8 _ hq hy => lst_go (nil_go ⟨szL rfl, fun e he => ⟨q, e, ys, rfl, rfl, .inl (.inl (Same.new he _ _ hq)), .inl (.inl upd_same), ?_⟩⟩)))
      · obtain ⟨p, hp, rfl⟩ := strs_map hv
        rw [List.getElem?_map, hp] at ho
        cases ho
        have ht := PT (H' := H8) (List.mem_of_getElem? hp)
        refine ⟨S3 (some (.str p)), fun R k => k, rfl, ?_⟩
        dsimp only
        cases hd : isPart kind (wds p) with
        | true =>
          rw [hd] at ht
          exact ht
        | false =>
          rw [hd] at ht
          exact ⟨ht, fun H4 _ => (ev_var (i := 4) rfl).d fun _ _ => .str _⟩
      · have e9 : id ys.isEmpty = (lawParts text).all (fun p => isPart kind (wds p)) := by
          rw [id, hy.empty, fm_empty, List.any_eq_not_all_not, Bool.not_not]
          congr 1
          funext p
          rw [Bool.not_not]
        rw [e9]
        exact k _ (s8.tr (Same.new he))
    have LE : EvE (tOp (rI0 fun i j => .bl (decide (i ≤ j))) (tCB (fun xs H Q => ∃ p ys, xs = [V.ref p] ∧ (SqL K H p ys ∨ SqT K H p ys) ∧ Q (.int (ys.length : Nat)) H) (tCons (tVar 3) tNil)) (tC (.int 4))) (S3 none) H3 (.bl (decide ((lawParts text).length ≤ 4))) := by
      have : EvE (tOp (rI0 fun i j => .bl (decide (i ≤ j))) (tCB (fun xs H Q => ∃ p ys, xs = [V.ref p] ∧ (SqL K H p ys ∨ SqT K H p ys) ∧ Q (.int (ys.length : Nat)) H) (tCons (tVar 3) tNil)) (tC (.int 4))) (S3 none) H3 (.bl (decide (((lawParts text).length : Int) ≤ 4))) := ev_op L3 (fun _ _ => ev_C) fun _ _ Q q => ⟨_, _, rfl, rfl, q⟩
      rw [show decide (((lawParts text).length : Int) ≤ 4) = decide ((lawParts text).length ≤ 4) from decide_eq_decide.mpr (by omega)] at this
      exact this
    exact ret_go (ev_andV (σ := S3 none) LE (fun _ H4 s4 => CM s4) _ fun H4 s4 => h0 H4 (s03.tr s4))
  have e1 : isLine kind text = isRow kind text := if_neg (of_decide_eq_false g)
  rw [e1] at h0
  have er : isRow kind text = (if text ∈ (endsOf kind).map En.z then true
    else if (wds text).length < 3 ∨ (wds text).getD 1 "" ≠ "=" then false
    else if (wds text).getD 0 "" = "stamp" then (if kind = "look" then false else isStamp (wds text))
    else isSet kind (wds text)) := rfl
  refine seq_if (σ := S none none none) (ev_test (ev_in (ns := (endsOf kind).map En.z) (ev_var (i := 1) rfl) fun H1' s1' Q k => disp3_go (l1 := ["quit"]) (l2 := ["quit", "retire"]) (l3 := ["accept", "refuse"]) rfl hk (fun _ => ev_cons ev_C fun _ _ => ev_nil) (fun _ => ev_cons ev_C fun _ _ => ev_cons ev_C fun _ _ => ev_nil) (fun _ => ev_cons ev_C fun _ _ => ev_cons ev_C fun _ _ => ev_nil) rfl rfl rfl fun q H' s' hq => k H' q s' (.inl (.inl (.inl (by rw [ends_of hk] at hq; exact hq))))) ) (fun g2 H3 s3 => ?_) (fun g2 H3 s3 => ?_)
  · rw [if_pos (of_decide_eq_true g2)] at er
    rw [er] at h0
    exact ret_go (c_go (h0 H3 (s1.tr (s2.tr s3))))
  rw [if_neg (of_decide_eq_false g2)] at er
  have s13 := s2.tr s3
  refine seq_if (σ := S none none none) (b1 := decide ((wds text).length < 3) || !decide ((wds text).getD 1 "" = "=")) (ev_or (by
    have := ev_test (ev_lt (b := tC (.int 3)) (LN (u3 := none) (u4 := none) (u5 := none) s13) (fun _ _ => ev_C))
    rw [show decide (((wds text).length : Int) < 3) = decide ((wds text).length < 3) from decide_eq_decide.mpr (by omega)] at this
    exact this) fun g3 H4 s4 => ne_str (W (i := 1) (s13.tr s4) (by have := of_decide_eq_false g3; omega)) fun _ _ => ev_C) (fun g3 H4 s4 => ?_) (fun g3 H4 s4 => ?_)
  · rw [if_pos (by
      rw [Bool.or_eq_true] at g3
      rcases g3 with g3 | g3
      · exact .inl (of_decide_eq_true g3)
      · exact .inr (by simpa using g3))] at er
    rw [er] at h0
    exact ret_go (c_go (h0 H4 (s1.tr (s13.tr s4))))
  rw [Bool.or_eq_false_iff] at g3
  have hl3 : 3 ≤ (wds text).length := by have := of_decide_eq_false g3.1; omega
  have hE : (wds text).getD 1 "" = "=" := by simpa using g3.2
  rw [if_neg (by rintro (h | h); omega; exact h hE)] at er
  have s14 := s13.tr s4
  have hgl : ∀ {i : Nat}, i < (wds text).length → ((wds text).getD i "").length ≤ 10000 := fun hi => Nat.le_trans (hwl _ (getD_mem hi)) (by decide)
  refine seq_if (σ := S none none none) (eq_str (W (i := 0) s14 hlp) fun _ _ => ev_C) (fun g4 H5 s5 => ?_) (fun g4 H5 s5 => ?_)
  · rw [if_pos (of_decide_eq_true g4)] at er
    have s15 := s14.tr s5
    refine seq_if (σ := S none none none) (eq_str (ev_var (i := 0) rfl) fun _ _ => ev_C) (fun g5 H6 s6 => ?_) (fun g5 H6 s6 => ?_)
    · rw [if_pos (of_decide_eq_true g5)] at er
      rw [er] at h0
      exact ret_go (c_go (h0 H6 (s1.tr (s15.tr s6))))
    rw [if_neg (of_decide_eq_false g5)] at er
    have s16 := s15.tr s6
    have es : isStamp (wds text) = (if (wds text).length = 3 then decide (0 ≤ lnum ((wds text).getD 2 ""))
      else if (wds text).length ≠ 5 ∨ (wds text).getD 2 "" ≠ "stamp" then false
      else if (wds text).getD 3 "" = "+" then decide (1 ≤ lnum ((wds text).getD 4 "")) && decide (lnum ((wds text).getD 4 "") ≤ 12)
      else decide ((wds text).getD 3 "" ∈ (["mod", "&"] : List Str)) && isFac ((wds text).getD 3 "") ((wds text).getD 4 "")) := rfl
    rw [er] at h0
    refine seq_if (σ := S none none none) (eq_nat (y := 3) (LN s16) fun _ _ => ev_C) (fun g6 H7 s7 => ?_) (fun g6 H7 s7 => ?_)
    · rw [es, if_pos (of_decide_eq_true g6)] at h0
      exact ret_go (ev_ge (σ := S none none none) (ev_num (W (i := 2) (s16.tr s7) (by omega)) (hgl (by omega))) _ fun H8 s8 => h0 H8 (s1.tr (s16.tr (s7.tr s8))))
    rw [es, if_neg (of_decide_eq_false g6)] at h0
    have s17 := s16.tr s7
    refine seq_if (σ := S none none none) (b1 := !decide ((wds text).length = 5) || !decide ((wds text).getD 2 "" = "stamp")) (ev_or (by
      have := ev_test (ev_ne (LN (u3 := none) (u4 := none) (u5 := none) s17) (fun _ _ => ev_C (v := V.int ((5 : Nat) : Int))) rfl)
      rw [dcN] at this
      exact this) fun g7 H8 s8 => ne_str (W (i := 2) (s17.tr s8) (by omega)) fun _ _ => ev_C) (fun g7 H8 s8 => ?_) (fun g7 H8 s8 => ?_)
    · rw [if_pos (by
        rw [Bool.or_eq_true] at g7
        rcases g7 with g7 | g7
        · exact .inl (by simpa using g7)
        · exact .inr (by simpa using g7))] at h0
      exact ret_go (c_go (h0 H8 (s1.tr (s17.tr s8))))
    rw [Bool.or_eq_false_iff] at g7
    have hl5 : (wds text).length = 5 := by simpa using g7.1
    have h2s : (wds text).getD 2 "" = "stamp" := by simpa using g7.2
    rw [if_neg (by rintro (h | h); exact h hl5; exact h h2s)] at h0
    have s18 := s17.tr s8
    refine seq_if (σ := S none none none) (eq_str (W (i := 3) s18 (by omega)) fun _ _ => ev_C) (fun g8 H9 s9 => ?_) (fun g8 H9 s9 => ?_)
    · rw [if_pos (of_decide_eq_true g8)] at h0
      exact ret_go (ev_chain (σ := S none none none) (fun H10 s10 => ev_num (W (i := 4) (s18.tr (s9.tr s10)) (by omega)) (hgl (by omega))) _ fun H10 s10 => h0 H10 (s1.tr (s18.tr (s9.tr s10))))
    · rw [if_neg (of_decide_eq_false g8)] at h0
      have s19 := s18.tr s9
      exact ret_go (ev_andV (σ := S none none none) (ev_in (ns := ["mod", "&"]) (W (i := 3) s19 (by omega)) (in_lst (ns := ["mod", "&"]) fun _ => ev_cons ev_C fun _ _ => ev_cons ev_C fun _ _ => ev_nil)) (fun _ H10 s10 => ev_fac (W (i := 3) (s19.tr s10) (by omega)) (fun H11 s11 => W (i := 4) (s19.tr (s10.tr s11)) (by omega)) (hgl (by omega))) _ fun H10 s10 => h0 H10 (s1.tr (s19.tr s10)))
  rw [if_neg (of_decide_eq_false g4)] at er
  rw [er] at h0
  have s15 := s14.tr s5
  have es : isSet kind (wds text) = (if (wds text).getD 0 "" ∉ goalsOf kind then false
    else if last2 (wds text) ∈ sg6 then isSum (namesOf kind) (((wds text).drop 2).take ((wds text).length - 4)) && isFac (last2 (wds text)) ((wds text).getLastD "")
    else isSum (namesOf kind) ((wds text).drop 2)) := rfl
  rw [es] at h0
  refine set_te (op_go (disp3_go (l1 := ["word"]) (l2 := []) (l3 := ["page", "slot"]) rfl hk (fun _ => ev_cons ev_C fun _ _ => ev_nil) (fun _ => ev_nil) (fun _ => ev_cons ev_C fun _ _ => ev_cons ev_C fun _ _ => ev_nil) rfl rfl rfl fun q1 H6 s6 hq1 => mk_lst (vs := (["a", "b", "c"] : List Str).map V.str) (ev_cons ev_C fun _ _ => ev_cons ev_C fun _ _ => ev_cons ev_C fun _ _ => ev_nil) (fun H7 q2 s7 _ hq2 => ⟨q1, q2, _, _, rfl, rfl, s7 _ _ hq1, hq2, by simp only [List.length_map]; split <;> (try split) <;> simp <;> omega, fun ga hga => ?_⟩)))
  rw [← List.map_append, goals_of hk]
  have s67 : Same H5 (upd H7 ga (.lst ((goalsOf kind).map V.str))) := (s6.tr s7).tr (Same.new hga)
  have hgo : upd H7 ga (.lst ((goalsOf kind).map V.str)) ga = some (.lst ((goalsOf kind).map V.str)) := upd_same
  generalize upd H7 ga (.lst ((goalsOf kind).map V.str)) = H8 at s67 hgo ⊢
  have s18 := s15.tr s67
  let G : L2.St := S none none (some (.ref ga))
  refine seq_if (σ := G) (ev_test (ev_notin (ns := goalsOf kind) (W (i := 0) s18 hlp) fun H1' s1' Q k => ⟨_, rfl, k H1' ga (Same.rf _) (.inl (.inl (.inl (s1' _ _ hgo))))⟩)) (fun g5 H9 s9 => ?_) (fun g5 H9 s9 => ?_)
  · rw [if_pos (show (wds text).getD 0 "" ∉ goalsOf kind from by simpa using g5)] at h0
    exact ret_go (c_go (h0 H9 (s1.tr (s18.tr s9))))
  rw [if_neg (show ¬ (wds text).getD 0 "" ∉ goalsOf kind from by simpa using g5)] at h0
  have s19 := s18.tr s9
  have L2' : ∀ {H6 : Hp}, Same H1 H6 → EvE (tOp (rIxL K) (tVar 2) (tUn (rU fun i => .int (-i)) (tC (.int 2)))) G H6 (.str (last2 (wds text))) := fun {H6} s => ev_ixL (ev_var rfl) (fun _ _ => fun Q k => ⟨2, rfl, k _ (Same.rf _)⟩) (.inl (.inl (s _ _ hwa))) (by
    have e2 : atI ((wds text).map V.str) (-2) = some (.str (last2 (wds text))) := by
      rw [atI_m2 (by rw [List.length_map]; omega), List.length_map, List.getElem?_map]
      unfold last2
      rw [List.getD_eq_getElem?_getD, List.getElem?_eq_getElem (show (wds text).length - 2 < (wds text).length by omega)]
      rfl
    exact e2)
  have SUM : ∀ {H6 : Hp} {te : TE} {l : List Str}, l.length ≤ 2001 → (∀ z ∈ l, z ∈ wds text) → (∀ Q : VK, (∀ q H', Same H6 H' → H' q = some (.lst (l.map V.str)) → Q (.ref q) H') → te G H6 Q) → EvE (tCall (spIsSum K) [] E0 (tCons (tVar 0) (tCons te tNil))) G H6 (.bl (isSum (namesOf kind) l)) := fun hl hm he Q k => call_go (cons_go (var_go rfl (cons_go (he _ fun q H' s hq => nil_go ⟨kind, q, _, rfl, hk, .inl (.inl hq), by omega, fun z hz => Nat.le_trans (hwl z (hm z hz)) (by decide), fun H'' s'' => k H'' (s.tr s'')⟩))))
  refine seq_if (σ := G) (ev_test (ev_in (ns := sg6) (L2' s19) (in_lst (ns := sg6) fun _ => ev_cons ev_C fun _ _ => ev_cons ev_C fun _ _ => ev_cons ev_C fun _ _ => ev_cons ev_C fun _ _ => ev_cons ev_C fun _ _ => ev_cons ev_C fun _ _ => ev_nil))) (fun g6 H10 s10 => ?_) (fun g6 H10 s10 => ?_)
  · rw [if_pos (of_decide_eq_true g6)] at h0
    have s20 := s19.tr s10
    refine ret_go (ev_andV (σ := G) (SUM (l := ((wds text).drop 2).take ((wds text).length - 4)) (by rw [List.length_take, List.length_drop]; omega) (fun z hz => List.mem_of_mem_drop (List.mem_of_mem_take hz)) fun Q k => ⟨_, rfl, 2, rfl, 2, rfl, -2, rfl, wa, _, rfl, .inl (.inl (s20 _ _ hwa)), fun p hp => k p _ (Same.new hp) (by rw [upd_same, cut_mid _ (by rw [List.length_map]; omega), List.length_map, List.map_take, List.map_drop])⟩) (fun _ H11 s11 => ev_fac (L2' (s20.tr s11)) (fun H12 s12 => ev_lastW (ev_var rfl) (.inl (.inl ((s20.tr (s11.tr s12)) _ _ hwa))) hne) (Nat.le_trans (hwl _ (getLastD_mem hne)) (by decide))) _ fun H11 s11 => h0 H11 (s1.tr (s20.tr s11)))
  · rw [if_neg (of_decide_eq_false g6)] at h0
    have s20 := s19.tr s10
    exact ret_go (SUM (l := (wds text).drop 2) (by rw [List.length_drop]; omega) (fun z hz => List.mem_of_mem_drop hz) (fun Q k => ⟨_, rfl, 2, rfl, wa, _, rfl, .inl (.inl (s20 _ _ hwa)), fun p hp => k p _ (Same.new hp) (by rw [upd_same, show cutV ((wds text).map V.str) (some 2) none = _ from cut_from _ 2, List.map_drop])⟩) _ fun H11 s11 => h0 H11 (s1.tr (s20.tr s11)))
end
end K17


set_option Elab.async false
set_option linter.all false
set_option maxRecDepth 100000
set_option maxHeartbeats 4000000
/-! lines joined and split again -/
namespace L2
open PySem PySem.Spec PyProof.Rows
theorem join_at {X : Cx} {K : PySem.W.Frag} {o e : Expr} {to te : TE} {apos pos : Pos} (ho : PE X o to) (he : PE X e te) (h : X.K = K := by rfl) (hs : starEach [e] X.env = [(false, eval e X.env)] := by rfl) (hbase : attributeBase o "join" X.env (eval o X.env) = eval o X.env := by rfl) (hline : (apos.endLine == pos.line) = true := by rfl) :
    PE X (.Call (.Attribute o "join" apos) [e] [] pos) (tM1 (fun x xs H Q => ∃ a p, ∃ ys : List Str, x = .str a ∧ xs = [.ref p] ∧ (SqL K H p (ys.map V.str) ∨ SqT K H p (ys.map V.str)) ∧
      (ys.map (·.length)).sum + ys.length * a.length ≤ 16777216 ∧ Q (.str (Txt.join a ys)) H) to te) := by
  subst h
  exact pe_join ho he hs hbase hline
def nlF (z : Str) : Bool := z.cps.all fun c => decide (c ≠ 10)
theorem nlF_tl {z : Str} (h : nlF z = true) : 10 ∉ TL.tl z := fun m => by
  unfold nlF at h
  rw [Array.all_eq_true'] at h
  exact of_decide_eq_true (h 10 (Array.mem_toList_iff.mp m)) rfl
theorem split_empty : Txt.split (Str.ofString "") K17.nlS = [Str.ofString ""] := by decide +kernel
theorem join_split {ls : List Str} (hne : ls ≠ []) (hn : ∀ z ∈ ls, nlF z = true) : Txt.split (Txt.join K17.nlS ls) K17.nlS = ls :=
  TL.split_join (s := 10) (S := []) (by decide +kernel) (by decide +kernel) hne (fun p hp => nlF_tl (hn p hp))
theorem lines_join {ls : List Str} (hn : ∀ z ∈ ls, nlF z = true) (h0 : ls ≠ [Str.ofString ""]) : K17.linesOf (Txt.join K17.nlS ls) = ls := by
  by_cases hne : ls = []
  · subst hne
    decide +kernel
  · have h1 := join_split hne hn
    unfold K17.linesOf
    rw [if_neg fun e => ?_]
    · exact h1
    · rw [e, split_empty] at h1
      exact h0 h1.symm
theorem joinL_len {s : List Nat} {B : Nat} : ∀ {ps : List (List Nat)}, (∀ p ∈ ps, p.length ≤ B) → (TL.joinL s ps).length ≤ ps.length * (B + s.length)
  | [], _ => by simp [TL.joinL]
  | [p], h => by
    have := h p (List.mem_singleton_self _)
    show p.length ≤ 1 * (B + s.length)
    omega
  | p :: q :: r, h => by
    have h1 := h p (List.mem_cons_self ..)
    have h2 := joinL_len (s := s) (ps := q :: r) (fun x hx => h x (List.mem_cons_of_mem _ hx))
    show (p ++ (s ++ TL.joinL s (q :: r))).length ≤ (r.length + 1 + 1) * (B + s.length)
    rw [List.length_append, List.length_append, Nat.add_mul]
    have h3 : (q :: r).length * (B + s.length) = (r.length + 1) * (B + s.length) := rfl
    omega
theorem join_len {ls : List Str} {B : Nat} (h : ∀ z ∈ ls, z.length ≤ B) : (Txt.join K17.nlS ls).length ≤ ls.length * (B + 1) := by
  rw [TL.len_tl, TL.join_eq, TL.tl_join]
  have h1 := joinL_len (s := TL.tl K17.nlS) (B := B) (ps := ls.map TL.tl) (fun p hp => by
    obtain ⟨z, hz, rfl⟩ := List.mem_map.mp hp
    rw [← TL.len_tl]
    exact h z hz)
  have : (TL.tl K17.nlS).length = 1 := by decide +kernel
  rw [this, List.length_map] at h1
  exact h1
theorem sum_le {B : Nat} : ∀ {ls : List Str}, (∀ z ∈ ls, z.length ≤ B) → (ls.map (fun x => x.length)).sum ≤ ls.length * B
  | [], _ => by simp
  | z :: r, h => by
    have h1 := h z (List.mem_cons_self ..)
    have h2 := sum_le (ls := r) (fun x hx => h x (List.mem_cons_of_mem _ hx))
    rw [List.map_cons, List.sum_cons, List.length_cons, Nat.add_mul]
    omega
end L2


set_option Elab.async false
set_option linter.all false
set_option maxRecDepth 100000
set_option maxHeartbeats 4000000
namespace K17
open PySem PySem.Spec PyProof.Rows L2 Rdr LmX LamX NdefX Idr Tld
/-- signs that a keyboard has -/
def Asc (z : Str) : Prop := ∀ c ∈ TL.tl z, 32 ≤ c ∧ c < 127
def ascB (z : Str) : Bool := (TL.tl z).all fun c => decide (32 ≤ c) && decide (c < 127)
theorem asc_by {z : Str} (h : ascB z = true) : Asc z := fun c hc => by
  have := List.all_eq_true.mp h c hc
  rw [Bool.and_eq_true] at this
  exact ⟨of_decide_eq_true this.1, of_decide_eq_true this.2⟩
theorem Asc.app {x y : Str} (h : Asc x) (k : Asc y) : Asc (x ++ y) := fun c hc => by
  rw [TL.tl_append] at hc
  exact (List.mem_append.mp hc).elim (h c) (k c)
theorem Asc.so {z : Str} (h : Asc z) : PyData.strOk z = true := so_tl.mpr fun c hc => by have := h c hc; omega
theorem Asc.nl {z : Str} (h : Asc z) : nlF z = true := by
  unfold nlF
  rw [Array.all_eq_true']
  exact fun c hc => decide_eq_true fun e => by have := h c (Array.mem_toList_iff.mpr hc); omega
theorem Asc.word {t z : Str} (h : Asc t) (hz : z ∈ wds t) : Asc z := fun c hc => h c (split_mem hz hc)
theorem app_len (x y : Str) : (x ++ y).length = x.length + y.length := Str.length_append x y
section
variable {K : PySem.W.Frag} {d c : Addr} {I : Hp → Prop} {σ : L2.St} {k k1 k2 L L1 L2' cnt : Nat} {te ta2 tb2 : TE} {ta : TA}
/-- a text that is drawn: at most k draws, at most L signs -/
def DS (d c : Addr) (I : Hp → Prop) (te : TE) (σ : L2.St) (k L : Nat) : Prop := ∀ (H : Hp) (n : Nat), I H → Bag H d c n → n + k ≤ 2 ^ 20 → ∀ Q : VK, (∀ z H' m, SameX d H H' → Bag H' d c m → m ≤ n + k → Asc z → z.length ≤ L → Q (.str z) H') → te σ H Q
def DA (d c : Addr) (I : Hp → Prop) (ta : TA) (σ : L2.St) (k L cnt : Nat) : Prop := ∀ (H : Hp) (n : Nat), I H → Bag H d c n → n + k ≤ 2 ^ 20 → ∀ Q : List V → Hp → Prop, (∀ (zs : List Str) H' m, zs.length = cnt → (∀ z ∈ zs, Asc z ∧ z.length ≤ L) → SameX d H H' → Bag H' d c m → m ≤ n + k → Q (zs.map V.str) H') → ta σ H Q
/-- what a drawing leaves alone -/
def Keeps (d : Addr) (I : Hp → Prop) : Prop := ∀ H H', I H → SameX d H H' → I H'
theorem ds_lit {z : Str} (h : ascB z = true) (hl : Nat.ble z.length L = true) : DS d c I (tC (.str z)) σ 0 L := fun H n _ hb _ Q q => q z H n SameX.refl hb (Nat.le_refl _) (asc_by h) (Nat.le_of_ble_eq_true hl)
theorem ds_var {i : Nat} {z : Str} (hi : σ[i]? = some (some (.str z))) (h : Asc z) (hl : z.length ≤ L) : DS d c I (tVar i) σ 0 L := fun H n _ hb _ Q q => ⟨_, hi, q z H n SameX.refl hb (Nat.le_refl _) h hl⟩
theorem ds_add (hI : Keeps d I) (ha : DS d c I ta2 σ k1 L1) (hb : DS d c I tb2 σ k2 L2') (h9 : L1 + L2' ≤ 100000 := by decide) : DS d c I (tOp (fun x y H Q => ∃ i j, x = V.str i ∧ y = V.str j ∧ i.length + j.length ≤ sizeLine ∧ Q (V.str (i ++ j)) H) ta2 tb2) σ (k1 + k2) (L1 + L2') := fun H n i hb0 hn Q q => by
  have q9 : sizeLine = 16777216 := sizeLine_eq
  refine op_go (ha H n i hb0 (by omega) _ fun x H1 m1 s1 b1 h1 a1 l1 => hb H1 m1 (hI _ _ i s1) b1 (by omega) _ fun y H2 m2 s2 b2 h2 a2 l2 => ⟨x, y, rfl, rfl, by omega, q _ H2 m2 (s1.tr s2) b2 (by omega) (a1.app a2) (by rw [app_len]; omega)⟩)
theorem ds_mono (h : DS d c I te σ k1 L1) (hk : k1 ≤ k := by decide) (hl : L1 ≤ L := by decide) : DS d c I te σ k L := fun H n i hb hn Q q => h H n i hb (by omega) Q fun z H' m s b h1 a l => q z H' m s b (by omega) a (by omega)
theorem da_nil : DA d c I tNil σ 0 L 0 := fun H n _ hb _ Q q => nil_go (q [] H n rfl (fun z h => by cases h) SameX.refl hb (Nat.le_refl _))
theorem da_cons (hI : Keeps d I) (h : DS d c I te σ k1 L) (hs : DA d c I ta σ k2 L cnt) : DA d c I (tCons te ta) σ (k1 + k2) L (cnt + 1) := fun H n i hb hn Q q =>
  cons_go (h H n i hb (by omega) _ fun z H1 m1 s1 b1 h1 a1 l1 => hs H1 m1 (hI _ _ i s1) b1 (by omega) _ fun zs H2 m2 e2 a2 s2 b2 h2 => q (z :: zs) H2 m2 (by rw [List.length_cons, e2]) (fun u hu => (List.mem_cons.mp hu).elim (fun e => e ▸ ⟨a1, l1⟩) (a2 u)) (s1.tr s2) b2 (by omega))
theorem bag_keeps {n : Nat} {H : Hp} {p : Addr} {l : List V} (hb : Bag H d c n) (hp : H p = some (.lst l)) : Keeps d (fun H => H p = some (.lst l)) := fun H1 H2 h s => s _ _ (bag_ne hb hp) h
/-- xs[draw(n)], xs a display -/
theorem ds_pick (hI : Keeps d I) (h0 : σ[0]? = some (some (.ref d))) (h : DA d c I ta σ k L cnt) (hc : 0 < cnt := by decide) (hc2 : cnt ≤ 1000 := by decide) : DS d c I (tOp (rIxL K) (tLst ta) (tCall spDraw [] E0 (tCons (tVar 0) (tCons (tC (.int (cnt : Nat))) tNil)))) σ (k + 1) L := fun H n i hb hn Q q => by
  have q9 : sizeLine = 16777216 := sizeLine_eq
  refine op_go (lst_go (h H n i hb (by omega) _ fun zs H1 m1 e1 a1 s1 b1 h1 => ⟨by rw [List.length_map, e1]; omega, fun p hp => ?_⟩))
  have s2 : Same H1 (upd H1 p (.lst (zs.map V.str))) := Same.new hp
  have i2 : upd H1 p (.lst (zs.map V.str)) p = some (.lst (zs.map V.str)) := upd_same
  generalize upd H1 p (.lst (zs.map V.str)) = H2 at s2 i2 ⊢
  have b2 := b1.up s2
  refine draw_go h0 b2 (by omega) hc hc2 fun r H3 hr s3 b3 => ?_
  have hrz : r < zs.length := by omega
  have hz := a1 zs[r] (List.getElem_mem hrz)
  exact ⟨p, _, r, .str zs[r], rfl, rfl, .inl (.inl (s3 _ _ (bag_ne b2 i2) i2)), atI_nat (by rw [List.getElem?_map, List.getElem?_eq_getElem hrz]; rfl), q _ H3 (m1 + 1) (s1.tr (s2.x.tr s3)) b3 (by omega) hz.1 hz.2⟩
/-- xs[draw(n)], xs a name -/
theorem ds_pickv {i p : Nat} {zs : List Str} (h0 : σ[0]? = some (some (.ref d))) (hi : σ[i]? = some (some (.ref p))) (hz : ∀ z ∈ zs, Asc z ∧ z.length ≤ L) (hc : 0 < zs.length) (hc2 : zs.length ≤ 1000) : DS d c (fun H => H p = some (.lst (zs.map V.str))) (tOp (rIxL K) (tVar i) (tCall spDraw [] E0 (tCons (tVar 0) (tCons (tC (.int (zs.length : Nat))) tNil)))) σ 1 L := fun H n hp hb hn Q q => by
  refine op_go (var_go hi (draw_go h0 hb (by omega) hc hc2 fun r H3 hr s3 b3 => ?_))
  have hrz : r < zs.length := by omega
  have hz := hz zs[r] (List.getElem_mem hrz)
  exact ⟨p, _, r, .str zs[r], rfl, rfl, .inl (.inl (s3 _ _ (bag_ne hb hp) hp)), atI_nat (by rw [List.getElem?_map, List.getElem?_eq_getElem hrz]; rfl), q _ H3 (n + 1) s3 b3 (by omega) hz.1 hz.2⟩
theorem set_ds {s : TS} {D : Ends} {i n : Nat} {H : Hp} (h : DS d c I te σ k L) (hi : I H) (hb : Bag H d c n) (hn : n + k ≤ 2 ^ 20) (q : ∀ z H' m, SameX d H H' → Bag H' d c m → m ≤ n + k → Asc z → z.length ≤ L → s D (σ.set i (some (.str z))) H') : tSeq (tAsg te (gName i)) s D σ H := h H n hi hb hn _ q
end
theorem asc_num (n : Nat) : Asc (Str.ofString (toString ((n : Nat) : Int))) := fun c hc => by
  rw [TL.tl_num] at hc
  have := TL.numL_digits n c hc
  omega
theorem num_len {n k : Nat} (hk : 0 < k) (h : n < 10 ^ k) : (Str.ofString (toString ((n : Nat) : Int))).length ≤ k := by
  rw [TL.len_tl, TL.tl_num]
  exact TL.numL_len hk h
section
variable {P : Program} {w : World} {K : PySem.W.Frag} {mg : Str → Option Value} {base : Heap}
def spDNum : Sp := fun vs H Q _ => ∃ (d c : Addr) (n : Nat), vs = [.ref d] ∧ Bag H d c n ∧ n + 3 ≤ 2 ^ 20 ∧ ∀ z H' m, SameX d H H' → Bag H' d c m → m ≤ n + 3 → Asc z → z.length ≤ 40 → Q (.str z) H'
theorem ds_num {d c : Addr} {I : Hp → Prop} {σ : L2.St} (h0 : σ[0]? = some (some (.ref d))) : DS d c I (tCall spDNum [] E0 (tCons (tVar 0) tNil)) σ 3 40 := fun H n _ hb hn Q q => call_go (cons_go (var_go h0 (nil_go ⟨d, c, n, rfl, hb, hn, q⟩)))
theorem ok_l_dnum (T : Tx P w K mg) : FnX P w K mg base CX0 2 "_law_drawn_number" ["_law_bag_here"] [] spDNum := by
  have F_l_draw := ok_draw (w := w) (base := base) T
  refine T.d_l_drawn_number.ok0 sc_l_drawn_number (fun _ _ _ _ _ _ us hl => match us, hl with | [_], _ => rfl) (fun vs H Q E h => ?_) (fun f cdv A outer s H vs Q E hr h => have hu := hu_of hr; ⟨_, (by exact (pss_cons (ps_set (i := 1) sc_l_drawn_number.nd rfl (Or.inl rfl) (pe_op op_pow pe_int pe_int))
      (pss_cons (ps_set (i := 2) sc_l_drawn_number.nd rfl (Or.inl rfl) (pe_lst (pa_cons pe_int (pa_cons pe_int (pa_cons pe_int (pa_cons pe_int (pa_cons pe_int (pa_cons pe_int (pa_cons pe_int (pa_cons pe_int (pa_cons pe_int (pa_cons pe_int (pa_cons (pe_op op_sub (pe_op op_mul (pv 1) pe_int) pe_int) (pa_cons (pe_op op_mul (pv 1) pe_int) pa_nil))))))))))))))
      (pss_one (ps_ret (pe_op op_add_str (pe_ix ix_list (pe_lst (pa_cons pe_str (pa_cons pe_str pa_nil))) (pe_callTy call_int1 (by rfl) T.b_int (by decide +kernel) (pa_cons (pe_cmpR op_eq (pe_callX F_l_draw (hr.mono (by first | decide | omega)) pass0 (pa_cons (pv 0) (pa_cons pe_int pa_nil))) pe_int (nomark _)) pa_nil)) (fun _ _ => rfl)) (pe_callTy call_str_int (by rfl) T.b_str (by decide +kernel) (pa_cons (pe_op op_add (pe_ix ix_list (pv 2) (pe_callX F_l_draw (hr.mono (by first | decide | omega)) pass0 (pa_cons (pv 0) (pa_cons pe_int pa_nil))) (fun _ _ => rfl)) (pe_callX F_l_draw (hr.mono (by first | decide | omega)) pass0 (pa_cons (pv 0) (pa_cons pe_int pa_nil)))) pa_nil)))))))), ?_⟩)
  · obtain ⟨d, c, n, rfl, _⟩ := h
    rfl
  obtain ⟨d, c, n, rfl, hb, hn, h0⟩ := h
  have q9 : sizeLine = 16777216 := sizeLine_eq
  refine set_te (op_go (c_go (c_go ⟨_, _, rfl, rfl, ⟨by decide, by decide, by decide⟩, ?_⟩)))
  have e1 : (10 ^ (29 : Int).toNat * 10 - 1 : Int) = ((999999999999999999999999999999 : Nat) : Int) := by decide +kernel
  have e2 : (10 ^ (29 : Int).toNat * 10 : Int) = ((1000000000000000000000000000000 : Nat) : Int) := by decide +kernel
  have cm : CMul (10 ^ (29 : Int).toNat) 10 := .inr ⟨by decide, by decide⟩
  dsimp only
  refine set_te (mk_lst (vs := [.int 0, .int 1, .int 2, .int 3, .int 12, .int 13, .int 90, .int 91, .int 4095, .int 1023, .int (10 ^ (29 : Int).toNat * 10 - 1), .int (10 ^ (29 : Int).toNat * 10)]) (ev_cons ev_C fun _ _ => ev_cons ev_C fun _ _ => ev_cons ev_C fun _ _ => ev_cons ev_C fun _ _ => ev_cons ev_C fun _ _ => ev_cons ev_C fun _ _ => ev_cons ev_C fun _ _ => ev_cons ev_C fun _ _ => ev_cons ev_C fun _ _ => ev_cons ev_C fun _ _ => ev_cons (ev_op (ev_op (ev_var rfl) (fun _ _ => ev_C) fun _ _ Q q => ⟨_, _, rfl, rfl, cm, q⟩) (fun _ _ => ev_C) fun _ _ Q q => ⟨_, _, rfl, rfl, q⟩) fun _ _ => ev_cons (ev_op (ev_var rfl) (fun _ _ => ev_C) fun _ _ Q q => ⟨_, _, rfl, rfl, cm, q⟩) fun _ _ => ev_nil) (fun H1 p s1 _ hp => ?_))
  rw [e1, e2] at hp
  replace hp : H1 p = some (.lst (List.map (fun n : Nat => V.int n) [0, 1, 2, 3, 12, 13, 90, 91, 4095, 1023, 999999999999999999999999999999, 1000000000000000000000000000000])) := hp
  generalize V.int (10 ^ (29 : Int).toNat) = far
  clear e1 e2
  generalize hL : [0, 1, 2, 3, 12, 13, 90, 91, 4095, 1023, 999999999999999999999999999999, 1000000000000000000000000000000] = pl at hp
  have hl : pl.length = 12 := by rw [← hL]; rfl
  have hm : ∀ n ∈ pl, n ≤ 10 ^ 30 := by rw [← hL]; decide +kernel
  clear hL
  refine ret_go (op_go (op_go (mk_lst (vs := [.str "", .str "0"]) (ev_cons ev_C fun _ _ => ev_cons ev_C fun _ _ => ev_nil) (fun H2 q s2 _ hq => ?_))))
  have b2 := (hb.up s1).up s2
  have hp2 := s2 _ _ hp
  refine cons_go (op_go (draw_go (lim := 12) rfl b2 (by omega) (by decide) (by decide) fun r H3 hr s3 b3 => ?_))
  have hp3 := s3 _ _ (bag_ne b2 hp2) hp2
  have hq3 := s3 _ _ (bag_ne b2 hq) hq
  refine c_go ⟨rfl, nil_go (Or.inr ⟨decide (V.int (r : Int) = V.int 0), rfl, ?_⟩)⟩
  have hz : ∃ z : Str, atI [V.str "", V.str "0"] (if decide (V.int (r : Int) = V.int 0) = true then 1 else 0) = some (.str z) ∧ Asc z ∧ z.length ≤ 1 := by
    by_cases g : V.int (r : Int) = V.int 0
    · rw [decide_eq_true g]
      exact ⟨"0", rfl, asc_by (by rfl), by decide⟩
    · rw [decide_eq_false g]
      exact ⟨"", rfl, asc_by (by rfl), by decide⟩
  obtain ⟨z, hz, az, lz⟩ := hz
  refine ⟨q, _, _, .str z, rfl, rfl, .inl (.inl hq3), hz, ?_⟩
  refine cons_go (op_go (op_go (var_go rfl (draw_go (lim := 12) rfl b3 (by omega) (by decide) (by decide) fun r2 H4 hr2 s4 b4 => ?_))))
  have hp4 := s4 _ _ (bag_ne b3 hp3) hp3
  have hr2' : r2 < pl.length := by omega
  refine ⟨p, _, r2, .int (pl[r2] : Nat), rfl, rfl, .inl (.inl hp4), atI_nat (by rw [List.getElem?_map, List.getElem?_eq_getElem hr2']; rfl), ?_⟩
  have hb9 := hm pl[r2] (List.getElem_mem hr2')
  generalize pl[r2] = v at hb9
  refine draw_go (lim := 2) rfl b4 (by omega) (by decide) (by decide) fun r3 H5 hr3 s5 b5 => ⟨_, _, rfl, rfl, nil_go ⟨_, rfl, ?_, ?_⟩⟩
  · have b31 : ((v : Int) + (r3 : Int)).natAbs < 2 ^ 1920 := Nat.lt_of_lt_of_le (m := 10 ^ 31) (by
      have h31 : (10 : Nat) ^ 31 = 10 * 10 ^ 30 := by decide
      have h30 : (10 : Nat) ^ 30 = 1000000000000000000000000000000 := by decide
      omega) (Nat.le_trans (Nat.pow_le_pow_left (by decide : 10 ≤ 2 ^ 4) 31) (by rw [← Nat.pow_mul]; exact Nat.pow_le_pow_right (by decide) (by decide)))
    by_cases g : ((v : Int) + (r3 : Int)).natAbs = 0
    · rw [g]; decide
    · exact (Nat.log2_lt g).mpr b31
  have e : ((v : Int) + (r3 : Int)) = ((v + r3 : Nat) : Int) := by omega
  have e9 : (Str.ofString (toString ((v : Int) + (r3 : Int)))) = Str.ofString (toString ((v + r3 : Nat) : Int)) := by rw [e]
  have a9 := asc_num (v + r3)
  have b31 : v + r3 < 10 ^ 31 := by
    have h31 : (10 : Nat) ^ 31 = 10 * 10 ^ 30 := by decide
    have h30 : (10 : Nat) ^ 30 = 1000000000000000000000000000000 := by decide
    omega
  have l9 := num_len (n := v + r3) (k := 31) (by decide) b31
  rw [← e9] at a9 l9
  refine ⟨_, _, rfl, rfl, ?_, h0 _ H5 _ ((s1.tr s2).x.tr (s3.tr (s4.tr s5))) b5 (by omega) (az.app a9) ?_⟩
  · omega
  · rw [app_len]; omega
end
end K17


set_option Elab.async false
set_option linter.all false
set_option maxRecDepth 100000
set_option maxHeartbeats 4000000
namespace K17
open PySem PySem.Spec PyProof.Rows L2 Rdr LmX LamX NdefX Idr Tld
section
variable {K : PySem.W.Frag} {d c : Addr} {I : Hp → Prop} {σ : L2.St} {k k1 L L1 cnt : Nat} {te : TE} {ta : TA}
theorem ds_ml (h : DS d c I te σ k L1) (hl : Nat.ble L1 L = true) : DS d c I te σ k L := ds_mono h (Nat.le_refl _) (Nat.le_of_ble_eq_true hl)
theorem set_dl {s : TS} {D : Ends} {i n : Nat} {H : Hp} (h : DA d c I ta σ k L cnt) (hi : I H) (hb : Bag H d c n) (hn : n + k ≤ 2 ^ 20) (q : ∀ p (zs : List Str) H' m, zs.length = cnt → (∀ z ∈ zs, Asc z ∧ z.length ≤ L) → H' p = some (.lst (zs.map V.str)) → SameX d H H' → Bag H' d c m → m ≤ n + k → s D (σ.set i (some (.ref p))) H') (hc2 : cnt ≤ 1000 := by decide) : tSeq (tAsg (tLst ta) (gName i)) s D σ H := by
  have q9 : sizeLine = 16777216 := sizeLine_eq
  exact set_te (lst_go (h H n hi hb (by omega) _ fun zs H1 m1 e1 a1 s1 b1 h1 => ⟨by rw [List.length_map, e1]; omega, fun p hp => q p zs _ m1 e1 a1 upd_same (s1.tr (Same.new hp).x) (b1.up (Same.new hp)) h1⟩))
theorem cat_dl {s : TS} {D : Ends} {i j n p : Nat} {ys : List Str} {H : Hp} (hj : σ[j]? = some (some (.ref p))) (hp : H p = some (.lst (ys.map V.str))) (hy : ∀ z ∈ ys, Asc z ∧ z.length ≤ L) (h : DA d c I ta σ k L cnt) (hi : I H) (hb : Bag H d c n) (hn : n + k ≤ 2 ^ 20) (q : ∀ p (zs : List Str) H' m, zs.length = ys.length + cnt → (∀ z ∈ zs, Asc z ∧ z.length ≤ L) → H' p = some (.lst (zs.map V.str)) → SameX d H H' → Bag H' d c m → m ≤ n + k → s D (σ.set i (some (.ref p))) H') (hc2 : ys.length + cnt ≤ 1000) : tSeq (tAsg (tOp rCat (tVar j) (tLst ta)) (gName i)) s D σ H := by
  have q9 : sizeLine = 16777216 := sizeLine_eq
  refine set_te (op_go (var_go hj (lst_go (h H n hi hb (by omega) _ fun zs H1 m1 e1 a1 s1 b1 h1 => ⟨by rw [List.length_map, e1]; omega, fun p2 hp2 => ?_⟩))))
  have s2 : Same H1 (upd H1 p2 (.lst (zs.map V.str))) := Same.new hp2
  have i2 : upd H1 p2 (.lst (zs.map V.str)) p2 = some (.lst (zs.map V.str)) := upd_same
  have hp1 := s1 _ _ (bag_ne hb hp) hp
  generalize upd H1 p2 (.lst (zs.map V.str)) = H2 at s2 i2 ⊢
  refine ⟨p, p2, _, _, rfl, rfl, s2 _ _ hp1, i2, by rw [List.length_map, List.length_map]; omega, fun p3 hp3 => ?_⟩
  rw [← List.map_append]
  exact q p3 (ys ++ zs) _ m1 (by rw [List.length_append]; omega) (fun z hz => (List.mem_append.mp hz).elim (hy z) (a1 z)) upd_same (s1.tr (s2.x.tr (Same.new hp3).x)) ((b1.up s2).up (Same.new hp3)) h1
end
section
variable {P : Program} {w : World} {K : PySem.W.Frag} {mg : Str → Option Value} {base : Heap}
def spDLine : Sp := fun vs H Q _ => ∃ (d c : Addr) (n : Nat), vs = [.ref d] ∧ Bag H d c n ∧ n + 40 ≤ 2 ^ 20 ∧ ∀ z H' m, SameX d H H' → Bag H' d c m → m ≤ n + 40 → Asc z → z.length ≤ 200 → Q (.str z) H'
theorem ok_l_dline (T : Tx P w K mg) : FnX P w K mg base CX0 3 "_law_drawn_line" ["_law_bag_here"] [] spDLine := by
  have F_l_draw := ok_draw (w := w) (base := base) T
  have F_l_drawn_number := ok_l_dnum (w := w) (base := base) T
  refine T.d_l_drawn_line.ok0 sc_l_drawn_line (fun _ _ _ _ _ _ us hl => match us, hl with | [_], _ => rfl) (fun vs H Q E h => ?_) (fun f cdv A outer s H vs Q E hr h => have hu := hu_of hr; ⟨_, (by exact (pss_cons (ps_set (i := 1) sc_l_drawn_line.nd rfl (Or.inl rfl) (pe_split pe_str pe_str))
      (pss_cons (ps_par (i := 2) (j := 3) (by rfl) sc_l_drawn_line.nd rfl rfl (by decide) rfl rfl (pa_cons (pe_ix ix_list (pv 1) (pe_callX F_l_draw (hr.mono (by first | decide | omega)) pass0 (pa_cons (pv 0) (pa_cons pe_int pa_nil))) (fun _ _ => rfl)) (pa_cons (pe_ix ix_list (pv 1) (pe_callX F_l_draw (hr.mono (by first | decide | omega)) pass0 (pa_cons (pv 0) (pa_cons pe_int pa_nil))) (fun _ _ => rfl)) pa_nil)) (by rfl))
      (pss_cons (ps_set (i := 4) sc_l_drawn_line.nd rfl (Or.inl rfl) (pe_ix ix_list (pe_lst (pa_cons (pv 2) (pa_cons (pe_callX F_l_drawn_number (hr.mono (by first | decide | omega)) pass0 (pa_cons (pv 0) pa_nil)) (pa_cons (pe_op op_add_str (pe_op op_add_str (pv 2) pe_str) (pv 3)) (pa_cons (pe_op op_add_str (pe_op op_add_str (pv 2) pe_str) (pv 3)) pa_nil))))) (pe_callX F_l_draw (hr.mono (by first | decide | omega)) pass0 (pa_cons (pv 0) (pa_cons pe_int pa_nil))) (fun _ _ => rfl)))
      (pss_cons (ps_set (i := 5) sc_l_drawn_line.nd rfl (Or.inl rfl) (pe_ix ix_list (pe_lst (pa_cons pe_str (pa_cons pe_str (pa_cons pe_str (pa_cons pe_str (pa_cons pe_str (pa_cons pe_str pa_nil))))))) (pe_callX F_l_draw (hr.mono (by first | decide | omega)) pass0 (pa_cons (pv 0) (pa_cons pe_int pa_nil))) (fun _ _ => rfl)))
      (pss_cons (ps_set (i := 6) sc_l_drawn_line.nd rfl (Or.inl rfl) (pe_ix ix_list (pe_lst (pa_cons pe_str (pa_cons pe_str (pa_cons pe_str (pa_cons pe_str (pa_cons pe_str (pa_cons pe_str pa_nil))))))) (pe_callX F_l_draw (hr.mono (by first | decide | omega)) pass0 (pa_cons (pv 0) (pa_cons pe_int pa_nil))) (fun _ _ => rfl)))
      (pss_cons (ps_set (i := 7) sc_l_drawn_line.nd rfl (Or.inl rfl) (pe_op op_add_str (pe_ix ix_list (pe_lst (pa_cons (pv 2) (pa_cons (pe_callX F_l_drawn_number (hr.mono (by first | decide | omega)) pass0 (pa_cons (pv 0) pa_nil)) pa_nil))) (pe_callX F_l_draw (hr.mono (by first | decide | omega)) pass0 (pa_cons (pv 0) (pa_cons pe_int pa_nil))) (fun _ _ => rfl)) (pe_ix ix_list (pe_lst (pa_cons pe_str (pa_cons pe_str (pa_cons pe_str pa_nil)))) (pe_callX F_l_draw (hr.mono (by first | decide | omega)) pass0 (pa_cons (pv 0) (pa_cons pe_int pa_nil))) (fun _ _ => rfl))))
      (pss_cons (ps_set (i := 7) sc_l_drawn_line.nd rfl (Or.inl rfl) (pe_op op_add_str (pv 7) (pe_ix ix_list (pe_lst (pa_cons (pv 3) (pa_cons (pe_callX F_l_drawn_number (hr.mono (by first | decide | omega)) pass0 (pa_cons (pv 0) pa_nil)) pa_nil))) (pe_callX F_l_draw (hr.mono (by first | decide | omega)) pass0 (pa_cons (pv 0) (pa_cons pe_int pa_nil))) (fun _ _ => rfl))))
      (pss_cons (ps_set (i := 8) sc_l_drawn_line.nd rfl (Or.inl rfl) (pe_lst (pa_cons (pe_op op_add_str (pe_op op_add_str (pv 5) pe_str) (pv 4)) (pa_cons (pe_op op_add_str (pe_op op_add_str (pe_op op_add_str (pe_op op_add_str (pe_op op_add_str (pe_op op_add_str (pv 5) pe_str) (pv 4)) pe_str) (pv 6)) pe_str) (pe_callX F_l_drawn_number (hr.mono (by first | decide | omega)) pass0 (pa_cons (pv 0) pa_nil))) pa_nil))))
      (pss_cons (ps_set (i := 9) sc_l_drawn_line.nd rfl (Or.inl rfl) (pe_callTy call_str_int (by rfl) T.b_str (by decide +kernel) (pa_cons (pe_ix ix_list (pe_lst (pa_cons pe_int (pa_cons pe_int (pa_cons pe_int (pa_cons pe_int (pa_cons pe_int pa_nil)))))) (pe_callX F_l_draw (hr.mono (by first | decide | omega)) pass0 (pa_cons (pv 0) (pa_cons pe_int pa_nil))) (fun _ _ => rfl)) pa_nil)))
      (pss_cons (ps_set (i := 8) sc_l_drawn_line.nd rfl (Or.inl rfl) (pe_op op_cat (pv 8) (pe_lst (pa_cons (pe_op op_add_str (pe_op op_add_str (pe_op op_add_str (pe_op op_add_str (pe_op op_add_str (pe_op op_add_str (pv 5) pe_str) (pv 2)) pe_str) (pv 6)) pe_str) (pv 9)) (pa_cons (pe_op op_add_str (pe_op op_add_str (pe_op op_add_str pe_str (pv 3)) pe_str) (pv 9)) pa_nil)))))
      (pss_cons (ps_set (i := 8) sc_l_drawn_line.nd rfl (Or.inl rfl) (pe_op op_cat (pv 8) (pe_lst (pa_cons (pe_op op_add_str pe_str (pe_callX F_l_drawn_number (hr.mono (by first | decide | omega)) pass0 (pa_cons (pv 0) pa_nil))) (pa_cons (pe_op op_add_str pe_str (pe_callX F_l_drawn_number (hr.mono (by first | decide | omega)) pass0 (pa_cons (pv 0) pa_nil))) pa_nil)))))
      (pss_cons (ps_set (i := 8) sc_l_drawn_line.nd rfl (Or.inl rfl) (pe_op op_cat (pv 8) (pe_lst (pa_cons (pe_op op_add_str pe_str (pv 7)) (pa_cons (pe_op op_add_str (pe_op op_add_str pe_str (pv 7)) pe_str) (pa_cons pe_str (pa_cons pe_str (pa_cons pe_str (pa_cons pe_str pa_nil)))))))))
      (pss_one (ps_ret (pe_ix ix_list (pv 8) (pe_callX F_l_draw (hr.mono (by first | decide | omega)) pass0 (pa_cons (pv 0) (pa_cons pe_int pa_nil))) (fun _ _ => rfl))))))))))))))))), ?_⟩)
  · obtain ⟨d, c, n, rfl, _⟩ := h
    rfl
  obtain ⟨d, c, n, rfl, hb, hn, h0⟩ := h
  have q9 : sizeLine = 16777216 := sizeLine_eq
  refine set_te (do_split (z := "page slot stamp word a b c") ev_C (by decide +kernel) (by rw [q9]; decide +kernel) (fun H1 p s1 _ hp => ?_))
  have hnl : (Txt.split (Str.ofString "page slot stamp word a b c") (Str.ofString " ")).length = 7 := by decide +kernel
  have hnz0 : ∀ z ∈ Txt.split (Str.ofString "page slot stamp word a b c") (Str.ofString " "), ascB z = true ∧ z.length ≤ 5 := by decide +kernel
  have hnz : ∀ z ∈ Txt.split (Str.ofString "page slot stamp word a b c") (Str.ofString " "), Asc z ∧ z.length ≤ 5 := fun z hz => ⟨asc_by (hnz0 z hz).1, (hnz0 z hz).2⟩
  clear hnz0
  generalize Txt.split (Str.ofString "page slot stamp word a b c") (Str.ofString " ") = nm at hp hnl hnz
  have hb1 := hb.up s1
  refine par_go (cons_go ?_)
  have D1 := fun (σ : L2.St) (h0 : σ[0]? = some (some (.ref d))) (h1 : σ[1]? = some (some (.ref p))) => ds_pickv (K := K) (c := c) h0 h1 hnz (by omega) (by omega)
  rw [hnl] at D1
  refine D1 _ rfl rfl H1 n hp hb1 (by omega) _ fun one H2 m2 s2 b2 h2 a1 l1 => cons_go (D1 _ rfl rfl H2 m2 (s2 _ _ (bag_ne hb1 hp) hp) b2 (by omega) _ fun two H3 m3 s3 b3 h3 a2 l2 => nil_go ⟨_, _, rfl, ?_⟩)
  clear D1
  have kT : Keeps d (fun _ => True) := fun _ _ _ _ => trivial
  have S3 : SameX d H H3 := s1.x.tr (s2.tr s3)
  refine set_ds (I := fun _ => True) (L := 40) (ds_pick kT rfl (da_cons kT (ds_ml (ds_var rfl a1 l1) rfl) (da_cons kT (ds_num rfl) (da_cons kT (ds_ml (ds_add kT (ds_add kT (ds_var rfl a1 l1) (ds_lit (L := 3) rfl rfl)) (ds_var rfl a2 l2)) rfl) (da_cons kT (ds_ml (ds_add kT (ds_add kT (ds_var rfl a1 l1) (ds_lit (L := 7) rfl rfl)) (ds_var rfl a2 l2)) rfl) da_nil))))) trivial b3 (by omega) (fun told H4 m4 s4 b4 h4 a4 l4 => ?_)
  refine set_ds (I := fun _ => True) (L := 5) (ds_pick kT rfl (da_cons kT (ds_lit rfl rfl) (da_cons kT (ds_lit rfl rfl) (da_cons kT (ds_lit rfl rfl) (da_cons kT (ds_lit rfl rfl) (da_cons kT (ds_lit rfl rfl) (da_cons kT (ds_lit rfl rfl) da_nil))))))) trivial b4 (by omega) (fun goal H5 m5 s5 b5 h5 a5 l5 => ?_)
  refine set_ds (I := fun _ => True) (L := 3) (ds_pick kT rfl (da_cons kT (ds_lit rfl rfl) (da_cons kT (ds_lit rfl rfl) (da_cons kT (ds_lit rfl rfl) (da_cons kT (ds_lit rfl rfl) (da_cons kT (ds_lit rfl rfl) (da_cons kT (ds_lit rfl rfl) da_nil))))))) trivial b5 (by omega) (fun sign H6 m6 s6 b6 h6 a6 l6 => ?_)
  refine set_ds (I := fun _ => True) (L := 44) (ds_add (L1 := 40) (L2' := 4) kT (ds_pick kT rfl (da_cons kT (ds_ml (ds_var rfl a1 l1) rfl) (da_cons kT (ds_num rfl) da_nil))) (ds_pick kT rfl (da_cons kT (ds_lit rfl rfl) (da_cons kT (ds_lit rfl rfl) (da_cons kT (ds_lit rfl rfl) da_nil))))) trivial b6 (by omega) (fun prt H7 m7 s7 b7 h7 a7 l7 => ?_)
  refine set_ds (I := fun _ => True) (L := 84) (ds_add (L1 := 44) (L2' := 40) kT (ds_var rfl a7 l7) (ds_pick kT rfl (da_cons kT (ds_ml (ds_var rfl a2 l2) rfl) (da_cons kT (ds_num rfl) da_nil)))) trivial b7 (by omega) (fun prt2 H8 m8 s8 b8 h8 a8 l8 => ?_)
  refine set_dl (I := fun _ => True) (L := 200) (da_cons kT (ds_ml (ds_add kT (ds_add kT (ds_var rfl a5 l5) (ds_lit (L := 3) rfl rfl)) (ds_var rfl a4 l4)) rfl) (da_cons kT (ds_ml (ds_add kT (ds_add kT (ds_add kT (ds_add kT (ds_add kT (ds_add kT (ds_var rfl a5 l5) (ds_lit (L := 3) rfl rfl)) (ds_var rfl a4 l4)) (ds_lit (L := 1) rfl rfl)) (ds_var rfl a6 l6)) (ds_lit (L := 1) rfl rfl)) (ds_num rfl)) rfl) da_nil)) trivial b8 (by omega) (fun q1 z1 H9 m9 e9 g9 i9 s9 b9 h9 => ?_)
  refine set_te (cons_go (op_go (mk_lst (vs := List.map (fun n : Nat => V.int n) [0, 1, 2, 12, 13]) (ev_cons ev_C fun _ _ => ev_cons ev_C fun _ _ => ev_cons ev_C fun _ _ => ev_cons ev_C fun _ _ => ev_cons ev_C fun _ _ => ev_nil) (fun H10 q2 s10 hq20 hq2 => ?_))))
  have b10 := b9.up s10
  refine draw_go (lim := 5) rfl b10 (by omega) (by decide) (by decide) fun r H11 hr s11 b11 => ?_
  have hq21 := s11 _ _ (bag_ne b10 hq2) hq2
  have hm : ∀ n ∈ [0, 1, 2, 12, 13], n < 100 := by decide
  have hl : [0, 1, 2, 12, 13].length = 5 := rfl
  generalize [0, 1, 2, 12, 13] = pl at hm hl hq2 hq21
  have hr' : r < pl.length := by omega
  refine ⟨q2, _, r, .int (pl[r] : Nat), rfl, rfl, .inl (.inl hq21), atI_nat (by rw [List.getElem?_map, List.getElem?_eq_getElem hr']; rfl), ?_⟩
  have hb9 := hm pl[r] (List.getElem_mem hr')
  generalize pl[r] = v at hb9
  refine nil_go ⟨_, rfl, ?_, ?_⟩
  · have b31 : ((v : Int)).natAbs < 2 ^ 1920 := Nat.lt_of_lt_of_le (m := 2 ^ 7) (by omega) (Nat.pow_le_pow_right (by decide) (by decide))
    by_cases g : ((v : Int)).natAbs = 0
    · rw [g]; decide
    · exact (Nat.log2_lt g).mpr b31
  have a10 := asc_num v
  have l10 := num_len (n := v) (k := 2) (by decide) hb9
  generalize Str.ofString (toString (v : Int)) = small at a10 l10
  have S11 : SameX d H9 H11 := s10.x.tr s11
  have i11 := S11 _ _ (bag_ne b9 i9) i9
  refine cat_dl (I := fun _ => True) (L := 200) rfl i11 g9 (da_cons kT (ds_ml (ds_add kT (ds_add kT (ds_add kT (ds_add kT (ds_add kT (ds_add kT (ds_var rfl a5 l5) (ds_lit (L := 3) rfl rfl)) (ds_var rfl a1 l1)) (ds_lit (L := 1) rfl rfl)) (ds_var rfl a6 l6)) (ds_lit (L := 1) rfl rfl)) (ds_var rfl a10 l10)) rfl) (da_cons kT (ds_ml (ds_add kT (ds_add kT (ds_add kT (ds_lit (L := 4) rfl rfl) (ds_var rfl a2 l2)) (ds_lit (L := 4) rfl rfl)) (ds_var rfl a10 l10)) rfl) da_nil)) trivial b11 (by omega) (fun q3 z3 H12 m12 e12 g12 i12 s12 b12 h12 => ?_) (by omega)
  refine cat_dl (I := fun _ => True) (L := 200) rfl i12 g12 (da_cons kT (ds_ml (ds_add kT (ds_lit (L := 16) rfl rfl) (ds_num rfl)) rfl) (da_cons kT (ds_ml (ds_add kT (ds_lit (L := 18) rfl rfl) (ds_num rfl)) rfl) da_nil)) trivial b12 (by omega) (fun q4 z4 H13 m13 e13 g13 i13 s13 b13 h13 => ?_) (by omega)
  refine cat_dl (I := fun _ => True) (L := 200) rfl i13 g13 (da_cons kT (ds_ml (ds_add kT (ds_lit (L := 3) rfl rfl) (ds_var rfl a8 l8)) rfl) (da_cons kT (ds_ml (ds_add kT (ds_add kT (ds_lit (L := 7) rfl rfl) (ds_var rfl a8 l8)) (ds_lit (L := 9) rfl rfl)) rfl) (da_cons kT (ds_ml (ds_lit (L := 7) rfl rfl) rfl) (da_cons kT (ds_ml (ds_lit (L := 7) rfl rfl) rfl) (da_cons kT (ds_ml (ds_lit (L := 7) rfl rfl) rfl) (da_cons kT (ds_ml (ds_lit (L := 7) rfl rfl) rfl) da_nil)))))) trivial b13 (by omega) (fun q5 z5 H14 m14 e14 g14 i14 s14 b14 h14 => ?_) (by omega)
  have e5 : z5.length = 12 := by omega
  have D5 := fun (σ : L2.St) (h0 : σ[0]? = some (some (.ref d))) (h1 : σ[8]? = some (some (.ref q5))) => ds_pickv (K := K) (c := c) h0 h1 g14 (by omega) (by omega)
  rw [e5] at D5
  exact ret_go (D5 _ rfl rfl H14 m14 i14 b14 (by omega) _ fun z H15 m15 s15 b15 h15 a15 l15 => h0 z H15 m15 (S3.tr (s4.tr (s5.tr (s6.tr (s7.tr (s8.tr (s9.tr (S11.tr (s12.tr (s13.tr (s14.tr s15))))))))))) b15 (by omega) a15 l15)
end
end K17


set_option Elab.async false
set_option linter.all false
set_option maxRecDepth 100000
set_option maxHeartbeats 4000000
namespace L2
open PySem PySem.Spec PyProof.Rows
theorem cut_nx (xs : List V) (n : Nat) : cutV xs (some ((n : Int) + 1)) (some ((n : Int) + 2)) = (xs.drop (n + 1)).take 1 := by
  have h1 : HT.sIx xs.length 0 (some ((n : Int) + 1)) = min (n + 1) xs.length := HT.sIx_nat _ _ (n + 1)
  have h2 : HT.sIx xs.length xs.length (some ((n : Int) + 2)) = min (n + 2) xs.length := HT.sIx_nat _ _ (n + 2)
  unfold cutV
  rw [h1, h2]
  by_cases g : n + 1 ≤ xs.length
  · rw [Nat.min_eq_left g, List.take_eq_take_iff, List.length_drop]
    omega
  · rw [Nat.min_eq_right (a := n + 1) (by omega), List.drop_length, List.drop_eq_nil_of_le (by omega)]
    simp
theorem sumL_take (l : List Nat) (n : Nat) : (l.take n).sum ≤ l.sum := by
  induction l generalizing n with
  | nil => simp
  | cons a r ih =>
    cases n with
    | zero => simp
    | succ n => rw [List.take_succ_cons, List.sum_cons, List.sum_cons]; have := ih n; omega
theorem join_sum (ls : List Str) : (Txt.join spW ls).length ≤ (ls.map (fun x => x.length)).sum + ls.length := by
  rw [TL.len_tl, TL.join_eq, TL.tl_join, tl_spW]
  by_cases g : ls = []
  · subst g
    exact Nat.zero_le _
  · have h := joinL_len1 (ps := ls.map TL.tl) (by simp [g])
    rw [List.map_map, List.length_map] at h
    have e : ((fun x : List Nat => x.length) ∘ TL.tl) = fun x : Str => x.length := funext fun x => (TL.len_tl x).symm
    rw [e] at h
    omega
end L2
namespace K17
open PySem PySem.Spec PyProof.Rows L2 Rdr LmX LamX NdefX Idr Tld
/-- a list of at most two words, each drawn -/
def Few (H : Hp) (p : Addr) : Prop := ∃ ls : List Str, H p = some (.lst (ls.map V.str)) ∧ ls.length ≤ 2 ∧ ∀ z ∈ ls, Asc z ∧ z.length ≤ 200
theorem Few.s {H H' : Hp} {p : Addr} (h : Few H p) (s : Same H H') : Few H' p := by
  obtain ⟨ls, h, k⟩ := h
  exact ⟨ls, s _ _ h, k⟩
theorem Few.x {H H' : Hp} {p d c : Addr} {n : Nat} (h : Few H p) (s : SameX d H H') (hb : Bag H d c n) : Few H' p := by
  obtain ⟨ls, h, k⟩ := h
  exact ⟨ls, s _ _ (bag_ne hb h) h, k⟩
section
variable {P : Program} {w : World} {K : PySem.W.Frag} {mg : Str → Option Value} {base : Heap}
def spSpoil : Sp := fun vs H Q _ => ∃ (d c : Addr) (n : Nat) (t : Str), vs = [.ref d, .str t] ∧ Bag H d c n ∧ n + 40 ≤ 2 ^ 20 ∧ Asc t ∧ t.length ≤ 200 ∧ ∀ z H' m, SameX d H H' → Bag H' d c m → m ≤ n + 40 → Asc z → z.length ≤ 1000 → Q (.str z) H'
theorem ok_l_spoil (T : Tx P w K mg) : FnX P w K mg base CX0 3 "_law_spoiled" ["_law_bag_here", "_law_text"] [] spSpoil := by
  have F_l_draw := ok_draw (w := w) (base := base) T
  refine T.d_l_spoiled.ok0 sc_l_spoiled (fun _ _ _ _ _ _ us hl => match us, hl with | [_, _], _ => rfl) (fun vs H Q E h => ?_) (fun f cdv A outer s H vs Q E hr h => have hu := hu_of hr; ⟨_, (by exact (pss_cons (ps_set (i := 2) sc_l_spoiled.nd rfl (Or.inl rfl) (pe_split (pv 1) pe_str))
      (pss_cons (ps_par (i := 3) (j := 4) (by rfl) sc_l_spoiled.nd rfl rfl (by decide) rfl rfl (pa_cons (pe_callX F_l_draw (hr.mono (by first | decide | omega)) pass0 (pa_cons (pv 0) (pa_cons (pe_callB call_len_seq (by rfl) T.b_len (by decide +kernel) (pa_cons (pv 2) pa_nil)) pa_nil))) (pa_cons (pe_ix ix_list (pe_lst (pa_cons pe_str (pa_cons pe_str (pa_cons pe_str (pa_cons pe_str (pa_cons pe_str (pa_cons pe_str pa_nil))))))) (pe_callX F_l_draw (hr.mono (by first | decide | omega)) pass0 (pa_cons (pv 0) (pa_cons pe_int pa_nil))) (fun _ _ => rfl)) pa_nil)) (by rfl))
      (pss_cons (ps_set (i := 5) sc_l_spoiled.nd rfl (Or.inl rfl) (pe_slice sl_list (pv 2) (po_some (pe_op op_add (pv 3) pe_int)) (po_some (pe_op op_add (pv 3) pe_int))))
      (pss_cons (ps_set (i := 6) sc_l_spoiled.nd rfl (Or.inl rfl) (pe_ix ix_list (pe_lst (pa_cons (pe_lst pa_nil) (pa_cons (pe_op op_rep (pe_lst (pa_cons (pe_ix ix_list (pv 2) (pv 3) (fun _ _ => rfl)) pa_nil)) pe_int) (pa_cons (pe_op op_cat (pv 5) (pe_lst (pa_cons (pe_ix ix_list (pv 2) (pv 3) (fun _ _ => rfl)) pa_nil))) (pa_cons (pe_lst (pa_cons (pv 4) (pa_cons (pe_ix ix_list (pv 2) (pv 3) (fun _ _ => rfl)) pa_nil))) (pa_cons (pe_lst (pa_cons (pv 4) pa_nil)) pa_nil)))))) (pe_callX F_l_draw (hr.mono (by first | decide | omega)) pass0 (pa_cons (pv 0) (pa_cons pe_int pa_nil))) (fun _ _ => rfl)))
      (pss_cons (ps_set (i := 7) sc_l_spoiled.nd rfl (Or.inl rfl) (pe_op op_add (pe_op op_add (pv 3) pe_int) (pe_op op_mul (pe_callB call_len_seq (by rfl) T.b_len (by decide +kernel) (pa_cons (pv 5) pa_nil)) (pe_callTy call_int1 (by rfl) T.b_int (by decide +kernel) (pa_cons (pe_cmpR (op_eqD hr.units) (pv 6) (pe_op op_cat (pv 5) (pe_lst (pa_cons (pe_ix ix_list (pv 2) (pv 3) (fun _ _ => rfl)) pa_nil))) (nomark _)) pa_nil)))))
      (pss_one (ps_ret (pe_join pe_str (pe_op op_cat (pe_op op_cat (pe_slice sl_list (pv 2) po_none (po_some (pv 3))) (pv 6)) (pe_slice sl_list (pv 2) (po_some (pv 7)) po_none))))))))))), ?_⟩)
  · obtain ⟨d, c, n, t, rfl, _⟩ := h
    rfl
  obtain ⟨d, c, n, t, rfl, hb, hn, ht, htl, h0⟩ := h
  have q9 : sizeLine = 16777216 := sizeLine_eq
  refine set_te (do_split (z := t) (ev_var rfl) (by decide +kernel) (by omega) (fun H1 wa s1 _ hwa => ?_))
  have hws := w_sum t
  have hw0 : 0 < (Txt.split t spW).length := List.length_pos_iff.mpr (w_ne t)
  have hwz : ∀ z ∈ Txt.split t spW, Asc z ∧ z.length ≤ 200 := fun z hz => ⟨ht.word hz, Nat.le_trans (split_len _ _ z hz) htl⟩
  change H1 wa = some (.lst ((Txt.split t spW).map V.str)) at hwa
  generalize Txt.split t spW = ws at hwa hws hw0 hwz
  have hb1 := hb.up s1
  have hlen : EvE (tCB (fun xs H Q => ∃ p ys, xs = [V.ref p] ∧ (SqL K H p ys ∨ SqT K H p ys) ∧ Q (.int (ys.length : Nat)) H) (tCons (tVar 2) tNil)) ((L2.start [Str.ofString "_law_bag_here", Str.ofString "_law_text", Str.ofString "_law_words", Str.ofString "_law_at", Str.ofString "_law_odd", Str.ofString "_law_late", Str.ofString "_law_amid", Str.ofString "_law_after"] [V.ref d, V.str t]).set 2 (some (V.ref wa))) H1 (.int (ws.length : Nat)) := by
    have := ev_len (K := K) (ev_cons (ev_var (σ := ((L2.start [Str.ofString "_law_bag_here", Str.ofString "_law_text", Str.ofString "_law_words", Str.ofString "_law_at", Str.ofString "_law_odd", Str.ofString "_law_late", Str.ofString "_law_amid", Str.ofString "_law_after"] [V.ref d, V.str t]).set 2 (some (V.ref wa)))) (i := 2) rfl) fun _ _ => ev_nil) (.inl (.inl (.inl hwa)))
    rw [List.length_map] at this
    exact this
  refine par_go (cons_go (call_go (cons_go (var_go rfl (cons_go (hlen _ fun H2 s2 => nil_go ⟨d, c, n, _, rfl, hb1.up s2, by omega, by omega, by omega, fun r H3 r0 r1 s3 b3 => ?_⟩))))))
  obtain ⟨a, rfl⟩ := Int.eq_ofNat_of_zero_le r0
  have ha : a < ws.length := by omega
  have kT : Keeps d (fun _ => True) := fun _ _ _ _ => trivial
  refine cons_go (ds_pick (I := fun _ => True) (L := 5) kT rfl (da_cons kT (ds_lit rfl rfl) (da_cons kT (ds_lit rfl rfl) (da_cons kT (ds_lit rfl rfl) (da_cons kT (ds_lit rfl rfl) (da_cons kT (ds_lit rfl rfl) (da_cons kT (ds_lit rfl rfl) da_nil)))))) (by decide) (by decide) H3 (n + 1) trivial b3 (by omega) _ fun odd H4 m4 s4 b4 h4 a4 l4 => nil_go ⟨_, _, rfl, ?_⟩)
  have hwa2 := s2 _ _ hwa
  have hwa4 := s4 _ _ (bag_ne b3 (s3 _ _ (bag_ne (hb1.up s2) hwa2) hwa2)) (s3 _ _ (bag_ne (hb1.up s2) hwa2) hwa2)
  have S4 : SameX d H H4 := s1.x.tr (s2.x.tr (s3.tr s4))
  clear hlen hwa hwa2 hb1 hb
  refine set_te ⟨_, rfl, _, rfl, _, _, rfl, rfl, _, rfl, _, rfl, _, _, rfl, rfl, _, rfl, wa, _, rfl, .inl (.inl hwa4), fun p5 hp5 => ?_⟩
  have s5 : Same H4 (upd H4 p5 (.lst (cutV (ws.map V.str) (some ((a : Int) + 1)) (some ((a : Int) + 2))))) := Same.new hp5
  have i5 : upd H4 p5 (.lst (cutV (ws.map V.str) (some ((a : Int) + 1)) (some ((a : Int) + 2)))) p5 = some (.lst (((ws.drop (a + 1)).take 1).map V.str)) := by
    rw [upd_same, cut_nx, List.map_take, List.map_drop]
  generalize upd H4 p5 (.lst (cutV (ws.map V.str) (some ((a : Int) + 1)) (some ((a : Int) + 2)))) = H5 at s5 i5 ⊢
  have hlt : ((ws.drop (a + 1)).take 1).length ≤ 1 := by rw [List.length_take]; omega
  have hlz : ∀ z ∈ (ws.drop (a + 1)).take 1, Asc z ∧ z.length ≤ 200 := fun z hz => hwz z (List.mem_of_mem_drop (List.mem_of_mem_take hz))
  generalize (ws.drop (a + 1)).take 1 = lt at i5 hlt hlz
  have hwa5 := s5 _ _ hwa4
  have b5 := b4.up s5
  have haz := hwz ws[a] (List.getElem_mem ha)
  have hat : atI (ws.map V.str) (a : Int) = some (.str ws[a]) := atI_nat (by rw [List.getElem?_map, List.getElem?_eq_getElem ha]; rfl)
  have AT : ∀ {σ : L2.St} {H' : Hp}, σ[2]? = some (some (.ref wa)) → σ[3]? = some (some (.int (a : Nat))) → H' wa = some (.lst (ws.map V.str)) → EvE (tOp (rIxL K) (tVar 2) (tVar 3)) σ H' (.str ws[a]) := fun h2 h3 hw => ev_op (ev_var h2) (fun _ _ => ev_var h3) fun H2 s2 Q q => ⟨wa, _, _, _, rfl, rfl, .inl (.inl (s2 _ _ hw)), hat, q⟩
  generalize ws[a] = wd at haz hat AT
  refine set_te (op_go (lst_go ?_))
  refine cons_go (mk_lst (vs := []) ev_nil (fun H6 p1 s6 _ h1 => ?_))
  have f1 : Few H6 p1 := ⟨[], h1, by decide, fun z hz => nomatch hz⟩
  refine cons_go (op_go (mk_lst (vs := [.str wd]) (ev_cons (AT rfl rfl (s6 _ _ hwa5)) fun _ _ => ev_nil) (fun H7 q2 s7 _ h2 => c_go ⟨q2, 2, _, rfl, rfl, h2, by decide, by decide, szL rfl, fun p2 hp2 => ?_⟩)))
  have s8 : Same H7 (upd H7 p2 (.lst (List.replicate (2 : Int).toNat [V.str wd]).flatten)) := Same.new hp2
  have i8 : upd H7 p2 (.lst (List.replicate (2 : Int).toNat [V.str wd]).flatten) p2 = some (.lst ([wd, wd].map V.str)) := upd_same
  generalize upd H7 p2 (.lst (List.replicate (2 : Int).toNat [V.str wd]).flatten) = H8 at s8 i8 ⊢
  have f2 : Few H8 p2 := ⟨_, i8, Nat.le_of_ble_eq_true rfl, fun z hz => by simp only [List.mem_cons, List.not_mem_nil, or_false, or_self] at hz; exact hz ▸ haz⟩
  have CAT : ∀ {σ : L2.St} {H' : Hp} {R : VK}, σ[2]? = some (some (.ref wa)) → σ[3]? = some (some (.int (a : Nat))) → σ[5]? = some (some (.ref p5)) → H' wa = some (.lst (ws.map V.str)) → H' p5 = some (.lst (lt.map V.str)) → (∀ q H'', Same H' H'' → H'' q = some (.lst ((lt ++ [wd]).map V.str)) → R (.ref q) H'') → tOp rCat (tVar 5) (tLst (tCons (tOp (rIxL K) (tVar 2) (tVar 3)) tNil)) σ H' R := fun {σ H' R} h2 h3 h5 hw hl k => by
    refine op_go (var_go h5 (mk_lst (vs := [.str wd]) (ev_cons (AT h2 h3 hw) fun _ _ => ev_nil) (fun H2 q s2 _ hq => ⟨p5, q, _, _, rfl, rfl, s2 _ _ hl, hq, by rw [List.length_map, List.length_singleton, q9]; omega, fun p hp => ?_⟩)))
    refine k p _ (s2.tr (Same.new hp)) ?_
    rw [upd_same, List.map_append]
    rfl
  have hwa8 := s8 _ _ (s7 _ _ (s6 _ _ hwa5))
  have i58 := s8 _ _ (s7 _ _ (s6 _ _ i5))
  refine cons_go (CAT rfl rfl rfl hwa8 i58 fun p3 H9 s9 i9 => ?_)
  have f3 : Few H9 p3 := ⟨_, i9, by rw [List.length_append, List.length_singleton]; omega, fun z hz => (List.mem_append.mp hz).elim (hlz z) fun h => by rw [List.mem_singleton] at h; exact h ▸ haz⟩
  refine cons_go (mk_lst (vs := [odd, wd].map V.str) (ev_cons (ev_var rfl) fun _ s => ev_cons (AT rfl rfl (s _ _ (s9 _ _ hwa8))) fun _ _ => ev_nil) (fun H10 p4 s10 _ i10 => ?_))
  have hodd : Asc odd ∧ odd.length ≤ 200 := ⟨a4, by omega⟩
  have f4 : Few H10 p4 := ⟨_, i10, Nat.le_of_ble_eq_true rfl, fun z hz => by
    simp only [List.mem_cons, List.not_mem_nil, or_false] at hz
    rcases hz with rfl | rfl
    · exact hodd
    · exact haz⟩
  refine cons_go (mk_lst (vs := [odd].map V.str) (ev_cons (ev_var rfl) fun _ _ => ev_nil) (fun H11 p6 s11 _ i11 => ?_))
  have f5 : Few H11 p6 := ⟨_, i11, Nat.le_of_ble_eq_true rfl, fun z hz => by
    simp only [List.mem_cons, List.not_mem_nil, or_false] at hz
    exact hz ▸ hodd⟩
  refine nil_go ⟨szL rfl, fun p7 hp7 => ?_⟩
  have s12 : Same H11 (upd H11 p7 (.lst [.ref p1, .ref p2, .ref p3, .ref p4, .ref p6])) := Same.new hp7
  have i12 : upd H11 p7 (.lst [.ref p1, .ref p2, .ref p3, .ref p4, .ref p6]) p7 = some (.lst ([p1, p2, p3, p4, p6].map V.ref)) := upd_same
  generalize upd H11 p7 (.lst [.ref p1, .ref p2, .ref p3, .ref p4, .ref p6]) = H12 at s12 i12 ⊢
  have fs : ∀ p ∈ [p1, p2, p3, p4, p6], Few H12 p := fun p hp => by
    simp only [List.mem_cons, List.not_mem_nil, or_false] at hp
    rcases hp with rfl | rfl | rfl | rfl | rfl
    · exact (f1.s (s7.tr s8)).s (s9.tr (s10.tr (s11.tr s12)))
    · exact f2.s (s9.tr (s10.tr (s11.tr s12)))
    · exact f3.s (s10.tr (s11.tr s12))
    · exact f4.s (s11.tr s12)
    · exact f5.s s12
  have hl5 : [p1, p2, p3, p4, p6].length = 5 := rfl
  have S12 : Same H5 H12 := s6.tr (s7.tr (s8.tr (s9.tr (s10.tr (s11.tr s12)))))
  generalize [p1, p2, p3, p4, p6] = ps at fs i12 hl5
  have b12 := b5.up S12
  refine draw_go (lim := 5) rfl b12 (by omega) (by decide) (by decide) fun r5 H13 hr5 s13 b13 => ?_
  have hr5' : r5 < ps.length := by omega
  have i13 := s13 _ _ (bag_ne b12 i12) i12
  obtain ⟨ls, hls, hll, hlsz⟩ := (fs ps[r5] (List.getElem_mem hr5')).x s13 b12
  refine ⟨p7, _, r5, .ref ps[r5], rfl, rfl, .inl (.inl i13), atI_nat (by rw [List.getElem?_map, List.getElem?_eq_getElem hr5']; rfl), ?_⟩
  generalize ps[r5] = am at hls
  have hwa13 := s13 _ _ (bag_ne b12 (S12 _ _ hwa5)) (S12 _ _ hwa5)
  have i513 := s13 _ _ (bag_ne b12 (S12 _ _ i5)) (S12 _ _ i5)
  have S13 : SameX d H H13 := S4.tr (s5.x.tr (S12.x.tr s13))
  clear fs i12 i13 f1 f2 f3 f4 f5 i8 i9 i10 i11 h1 h2 hp7 hp2 i58 hwa8
  refine set_te (op_go (op_go (var_go rfl (c_go ⟨_, _, rfl, rfl, ?_⟩))))
  have hl1 := ev_len (K := K) (ev_cons (ev_var (σ := (((((List.set (L2.start [Str.ofString "_law_bag_here", Str.ofString "_law_text", Str.ofString "_law_words", Str.ofString "_law_at", Str.ofString "_law_odd", Str.ofString "_law_late", Str.ofString "_law_amid", Str.ofString "_law_after"] [V.ref d, V.str t]) 2 (some (V.ref wa))).set 3 (some (V.int ↑a))).set 4 (some (V.str odd))).set 5 (some (V.ref p5))).set 6 (some (V.ref am)))) (i := 5) rfl) fun _ _ => ev_nil) (.inl (.inl (.inl i513)))
  rw [List.length_map] at hl1
  refine op_go (hl1 _ fun H14 s14 => cons_go (op_go (var_go rfl (CAT rfl rfl rfl (s14 _ _ hwa13) (s14 _ _ i513) fun q9' H15 s15 i15 => ?_))))
  have hls15 := s15 _ _ (s14 _ _ hls)
  have so : ∀ (l : List Str), (∀ z ∈ l, Asc z ∧ z.length ≤ 200) → l.all PyData.strOk = true := fun l h => List.all_eq_true.mpr fun z hz => (h z hz).1.so
  refine ⟨_, _, .lst (.inl (.inl hls15)) (dpStrs _), .lst (.inl (.inl i15)) (dpStrs _), shaped_strs (so _ hlsz), shaped_strs (so _ fun z hz => (List.mem_append.mp hz).elim (hlz z) fun h => by rw [List.mem_singleton] at h; exact h ▸ haz), ?_⟩
  rw [eqv_strs]
  generalize decide (ls = lt ++ [wd]) = b
  refine nil_go (.inr ⟨_, rfl, ?_⟩)
  have hm : ∃ j : Nat, ((lt.length : Nat) : Int) * (if b = true then 1 else 0) = (j : Int) ∧ CMul ((lt.length : Nat) : Int) (if b = true then 1 else 0) := by
    cases b
    · exact ⟨0, by simp, .inl ⟨by omega, by omega⟩⟩
    · exact ⟨lt.length, by simp, .inl ⟨by omega, by omega⟩⟩
  obtain ⟨j, hj, cm⟩ := hm
  refine ⟨_, _, rfl, rfl, cm, _, _, rfl, rfl, ?_⟩
  dsimp only
  rw [hj]
  have hbe : ((a : Int) + 1 + (j : Int)) = ((a + 1 + j : Nat) : Int) := by omega
  rw [hbe]
  generalize a + 1 + j = be
  have s1315 := s14.tr s15
  have hwa15 := s1315 _ _ hwa13
  have b15 := b13.up s1315
  refine ret_go (c_go ?_)
  refine ⟨⟨_, rfl⟩, op_go (op_go ⟨_, rfl, _, rfl, _, rfl, wa, _, rfl, .inl (.inl hwa15), fun p1 hp1 => ?_⟩)⟩
  have s16 : Same H15 (upd H15 p1 (.lst (cutV (ws.map V.str) none (some (a : Int))))) := Same.new hp1
  have i16 : upd H15 p1 (.lst (cutV (ws.map V.str) none (some (a : Int)))) p1 = some (.lst ((ws.take a).map V.str)) := by
    rw [upd_same, cut_take, List.map_take]
  generalize upd H15 p1 (.lst (cutV (ws.map V.str) none (some (a : Int)))) = H16 at s16 i16 ⊢
  have t1 := sumL_take (ws.map (fun x => x.length)) a
  have t2 := sum_drop (ws.map (fun x => x.length)) be
  have t3 : (ws.take a).length ≤ ws.length := by rw [List.length_take]; omega
  have t4 : (ws.drop be).length ≤ ws.length := by rw [List.length_drop]; omega
  rw [← List.map_take] at t1
  rw [← List.map_drop] at t2
  refine var_go rfl ⟨p1, am, _, _, rfl, rfl, i16, s16 _ _ hls15, by rw [List.length_map, List.length_map]; omega, fun p2 hp2 => ?_⟩
  rw [← List.map_append]
  have s17 : Same H16 (upd H16 p2 (.lst ((ws.take a ++ ls).map V.str))) := Same.new hp2
  have i17 : upd H16 p2 (.lst ((ws.take a ++ ls).map V.str)) p2 = some (.lst ((ws.take a ++ ls).map V.str)) := upd_same
  generalize upd H16 p2 (.lst ((ws.take a ++ ls).map V.str)) = H17 at s17 i17 ⊢
  refine ⟨_, rfl, _, rfl, _, rfl, wa, _, rfl, .inl (.inl (s17 _ _ (s16 _ _ hwa15))), fun p3 hp3 => ?_⟩
  have s18 : Same H17 (upd H17 p3 (.lst (cutV (ws.map V.str) (some (be : Int)) none))) := Same.new hp3
  have i18 : upd H17 p3 (.lst (cutV (ws.map V.str) (some (be : Int)) none)) p3 = some (.lst ((ws.drop be).map V.str)) := by
    rw [upd_same, cut_from, List.map_drop]
  generalize upd H17 p3 (.lst (cutV (ws.map V.str) (some (be : Int)) none)) = H18 at s18 i18 ⊢
  refine ⟨p2, p3, _, _, rfl, rfl, s18 _ _ i17, i18, by rw [List.length_map, List.length_map, List.length_append]; omega, fun p4 hp4 => ?_⟩
  rw [← List.map_append]
  have s19 : Same H18 (upd H18 p4 (.lst ((ws.take a ++ ls ++ ws.drop be).map V.str))) := Same.new hp4
  have i19 : upd H18 p4 (.lst ((ws.take a ++ ls ++ ws.drop be).map V.str)) p4 = some (.lst ((ws.take a ++ ls ++ ws.drop be).map V.str)) := upd_same
  generalize upd H18 p4 (.lst ((ws.take a ++ ls ++ ws.drop be).map V.str)) = H19 at s19 i19 ⊢
  have S19 := s16.tr (s17.tr (s18.tr s19))
  have hall : ∀ z ∈ ws.take a ++ ls ++ ws.drop be, Asc z := fun z hz => by
    rcases List.mem_append.mp hz with hz | hz
    · rcases List.mem_append.mp hz with hz | hz
      · exact (hwz z (List.mem_of_mem_take hz)).1
      · exact (hlsz z hz).1
    · exact (hwz z (List.mem_of_mem_drop hz)).1
  have u1 : (ls.map (fun x => x.length)).sum ≤ 400 := by
    have := sum_le (fun z hz => (hlsz z hz).2)
    omega
  have u2 : ((ws.take a ++ ls ++ ws.drop be).map (fun x => x.length)).sum + (ws.take a ++ ls ++ ws.drop be).length ≤ 900 := by
    rw [List.map_append, List.map_append, List.sum_append, List.sum_append, List.length_append, List.length_append]
    omega
  have hl1 : (Str.ofString " ").length = 1 := by decide +kernel
  refine ⟨_, p4, _, rfl, rfl, .inl (.inl (.inl i19)), by rw [hl1]; omega, h0 _ H19 _ (S13.tr (s1315.tr S19).x) (b15.up S19) (by omega) ?_ ?_⟩
  · intro c hc
    rcases join_mem hc with h | ⟨z, hz, h⟩
    · exact (asc_by (by rfl) : Asc " ") c h
    · exact hall z hz c h
  · have := join_sum (ws.take a ++ ls ++ ws.drop be)
    show (Txt.join spW (ws.take a ++ ls ++ ws.drop be)).length ≤ 1000
    omega
end
end K17


set_option Elab.async false
set_option linter.all false
set_option maxRecDepth 100000
set_option maxHeartbeats 4000000
namespace K17
open PySem PySem.Spec PyProof.Rows L2 Rdr LmX LamX NdefX Idr Tld
/-- what is told of some lines: the bad one, or 0 -/
def AnsG (kind : Str) (n i : Nat) (ls : List Str) (k : Nat) : Prop := ∃ R : Res IdRow Part, Rd (rowI kind) (partI kind) (.blk false) ls n i R ∧ (∀ j, R = .err j → j = k) ∧ (∀ t wd l n i, R = .ok t wd l n i → i ≤ 5 ∧ k = 0)
section
variable {P : Program} {w : World} {K : PySem.W.Frag} {mg : Str → Option Value} {base : Heap}
def spTold (Pt : Addr) : Sp := fun vs H Q _ => ∃ (kind : Str) (q : Addr) (ls : List Str) (k : Nat), vs = [.str kind, .ref q] ∧ H q = some (.lst (ls.map V.str)) ∧ Tabs [(Pt, lqual)] H ∧ kind ∈ kinds3 ∧ ls.length ≤ 30 ∧ (∀ z ∈ ls, nlF z = true ∧ z.length ≤ 1000) ∧ ls ≠ [Str.ofString ""] ∧ AnsG kind 0 0 ls k ∧
  ∀ H', (∀ b o, H b = some o → (∀ ps, o ≠ .tbl ps) → H' b = some o) → Tabs [(Pt, lqual)] H' → Q (.int (k : Nat)) H'
theorem ok_l_told (T : Tx P w K mg) {f0 fI cc c Pt : Addr} {fd0 : FuncData} (S : SupB.SupT P K (He.ga K "IdCode") fI f0 (idF cc c) idN ["self", "kind", "text"] (SupX.supE s_IdCode_init) (SupX.supEs s_IdCode_init) (SupX.supR s_IdCode_init)) (M : Mk K (He.ga K "IdCode") fI)
    (F0 : FunD K "__init__" "CodeText.__init__" (defArgs s_CodeText_init) (defBody s_CodeText_init) (defScope s_CodeText_init) [] [] f0 fd0) (TB : TabB base mg c Pt) : FnX P w K mg base CX0 110 "_law_told" ["_law_kind", "_law_lines"] [] (spTold Pt) := by
  have F_IdCode := ok_id T S M F0 TB
  refine T.d_l_told.ok0 sc_l_told (fun _ _ _ _ _ _ us hl => match us, hl with | [_, _], _ => rfl) (fun vs H Q E h => ?_) (fun f cdv A outer s H vs Q E hr h => have hu := hu_of hr; ⟨_, (by exact (pss_cons (ps_try_cls (l := [⟨.ref (He.ga K "BadLine"), some 2, _⟩, ⟨.ref (He.ga K "Refused"), none, _⟩]) (Wout := fun _ _ _ _ => False) rfl rfl sc_l_told.nd LamX.takes0 (fun W pn xe tk _ => (pss_one (ps_expr (pe_makeXS F_IdCode (hr.mono (by first | decide | omega)) (fun z => passAt tk z) (pa_cons (pv 0) (pa_cons (join_at (K := K) pe_str (pv 1)) pa_nil))))))
        (.named (i := 2) ⟨rfl, by decide, .inl T.g_BadLine⟩ rfl rfl rfl (fun a9 oe cls d pn hz hf => (pss_one (ps_ret (pe_errFld T.e_BadLine (by decide) hz hf (pv 2)))))
        (.bare ⟨rfl, by decide, .inl T.g_Refused⟩ rfl (fun a9 oe cls d pn hz hf => (pss_one (ps_ret pe_int)))
        .nil)))
      (pss_one (ps_ret pe_int)))), ?_⟩)
  · obtain ⟨kind, q, ls, k, rfl, _⟩ := h
    rfl
  obtain ⟨kind, q, ls, k, rfl, hq, hT, hk, hln, hlz, hne, ⟨R, hrd, hre, hro⟩, h0⟩ := h
  have q9 : sizeLine = 16777216 := sizeLine_eq
  have hjl := join_len (B := 1000) (fun z hz => (hlz z hz).2)
  have hsum := sum_le (B := 1000) (fun z hz => (hlz z hz).2)
  have hnl1 : (Str.ofString "\n").length = 1 := by decide +kernel
  have hlj : linesOf (Txt.join nlS ls) = ls := lines_join (fun z hz => (hlz z hz).1) hne
  refine ⟨_, rfl, ⟨_, rfl⟩, _, rfl, _, q, ls, rfl, rfl, .inl (.inl (.inl hq)), ?_, fun x dx hx hdx hnx => ?_⟩
  · rw [hnl1]; omega
  have sX : Same H (upd (upd H dx (.own x)) x (.ins (cD K) dx [])) := fun b o hb => by rw [upd_ne (ne_of_none hb hx), upd_ne (ne_of_none hb hdx)]; exact hb
  generalize hHX : upd (upd H dx (.own x)) x (.ins (cD K) dx []) = HX at sX ⊢
  have hXx : HX x = some (.ins (cD K) dx []) := by rw [← hHX]; exact upd_same
  have fw : ∀ {H' : Hp}, Xt x HX H' → ∀ b o, H b = some o → (∀ ps, o ≠ .tbl ps) → H' b = some o := fun xt b o hb ho => xt _ _ (ne_of_none hb hx) (sX _ _ hb) ho
  refine ⟨x, dx, kind, _, R, rfl, hXx, hT.ext sX, hk, ?_, ?_, ?_, ?_, ⟨fun j ej dd H' xt hT' hdd => ?_, fun t wd l n i e => (hro t wd l n i e).1, fun t wd l n i e H' xt hT' => ?_, fun t wd l n i e m dd H' xt hT' hdd => ?_⟩⟩
  · refine Nat.le_trans hjl ?_; omega
  · rw [show linesOf (Txt.join (Str.ofString "\n") ls) = ls from hlj]; exact hln
  · rw [show linesOf (Txt.join (Str.ofString "\n") ls) = ls from hlj]; exact fun z hz => (hlz z hz).2
  · rw [show linesOf (Txt.join (Str.ofString "\n") ls) = ls from hlj]; exact hrd
  · have ek := hre j ej
    subst ek
    refine ⟨true, T.x_BadLine_BadLine, fun _ aa haa => ?_, (fun z => by cases z)⟩
    refine ⟨_, rfl, rfl, rfl, dd, _, _, rfl, hdd, rfl, ?_⟩
    exact h0 H' (fw xt) hT'
  · obtain ⟨_, ek⟩ := hro t wd l n i e
    subst ek
    exact ⟨rfl, h0 H' (fw xt) hT'⟩
  · obtain ⟨_, ek⟩ := hro t wd l n i e
    subst ek
    refine ⟨false, T.x_Refused_BadLine, (fun z => by cases z), fun _ => ⟨true, T.x_Refused_Refused, fun _ aa haa => ?_, (fun z => by cases z)⟩⟩
    exact h0 H' (fw xt) hT'
end
end K17


set_option Elab.async false
set_option linter.all false
set_option maxRecDepth 100000
set_option maxHeartbeats 4000000
/-! trees of lines: their lines are read as their rows -/
namespace Rdr
open PySem
inductive LT
  | nil
  | leaf (t : Str) (r : LT)
  | if1 (t : Str) (a r : LT)
  | if2 (t : Str) (a b r : LT)
def elseS : Str := Str.ofString "else"
def endS : Str := Str.ofString "end"
def LT.lines : LT → List Str
  | .nil => []
  | .leaf t r => t :: r.lines
  | .if1 t a r => t :: (a.lines ++ endS :: r.lines)
  | .if2 t a b r => t :: (a.lines ++ elseS :: (b.lines ++ endS :: r.lines))
def LT.ifs : LT → Nat
  | .nil => 0
  | .leaf _ r => r.ifs
  | .if1 _ a r => 1 + a.ifs + r.ifs
  | .if2 _ a b r => 1 + a.ifs + b.ifs + r.ifs
section
variable {α β : Type} (rowF : Str → Nat → Option α) (partF : Str → Option β) (dflt : α)
def LT.good : LT → Prop
  | .nil => True
  | .leaf t r => t ∉ enders ∧ ¬ isIf t ∧ (∀ n, (rowF t n).isSome = true) ∧ r.good
  | .if1 t a r => t ∉ enders ∧ isIf t ∧ (∃ ps, goodPs partF (cut3 t) ps) ∧ a.good ∧ r.good
  | .if2 t a b r => t ∉ enders ∧ isIf t ∧ (∃ ps, goodPs partF (cut3 t) ps) ∧ a.good ∧ b.good ∧ r.good
def psOf (t : Str) : List β := (partsOf partF (cut3 t)).filterMap id
def LT.rt : LT → Nat → RT α β
  | .nil, _ => .nil
  | .leaf t r, n => .leaf ((rowF t (n + 1)).getD dflt) (r.rt (n + 1))
  | .if1 t a r, n => .ifr (n + 1) (psOf partF t) (a.rt (n + 1)) .nil (r.rt (n + 1 + a.lines.length + 1))
  | .if2 t a b r, n => .ifr (n + 1) (psOf partF t) (a.rt (n + 1)) (b.rt (n + 1 + a.lines.length + 1)) (r.rt (n + 1 + a.lines.length + 1 + b.lines.length + 1))
end
variable {α β : Type} {rowF : Str → Nat → Option α} {partF : Str → Option β} {dflt : α}
theorem good_ps {t : Str} (h : ∃ ps, goodPs partF (cut3 t) ps) : goodPs partF (cut3 t) (psOf partF t) := by
  obtain ⟨ps, h⟩ := h
  have e : psOf partF t = ps := by
    unfold psOf
    rw [h.1, List.filterMap_map]
    have : ∀ l : List β, l.filterMap (id ∘ some) = l := fun l => by
      induction l with
      | nil => rfl
      | cons x r ih => rw [List.filterMap_cons]; show x :: _ = _; rw [ih]
    exact this ps
  rw [e]
  exact h
theorem pre_id (R : Res α β) : R.pre (fun t => t) = R := by cases R <;> rfl
theorem rd_tree : ∀ (t : LT) (b : Bool) (rest : List Str) (n i : Nat) (R : Res α β), t.good rowF partF → Rd rowF partF (.blk b) rest (n + t.lines.length) (i + t.ifs) R → Rd rowF partF (.blk b) (t.lines ++ rest) n i (R.pre (t.rt rowF partF dflt n).app)
  | .nil, b, rest, n, i, R, _, h => by
    have e : R.pre (LT.nil.rt rowF partF dflt n).app = R := pre_id R
    rw [e]
    exact h
  | .leaf t r, b, rest, n, i, R, ⟨g1, g2, g3, g4⟩, h => by
    obtain ⟨x, hx⟩ := Option.isSome_iff_exists.mp (g3 (n + 1))
    have ih := rd_tree r b rest (n + 1) i R g4 (by rw [show n + 1 + r.lines.length = n + (r.lines.length + 1) by omega]; exact h)
    have := Rd.leaf g1 g2 hx ih
    rw [pre_pre] at this
    have e : (fun u => RT.leaf x ((r.rt rowF partF dflt (n + 1)).app u)) = ((LT.leaf t r).rt rowF partF dflt n).app := by
      funext u
      show _ = RT.leaf ((rowF t (n + 1)).getD dflt) _
      rw [hx]
      rfl
    rw [← e]
    exact this
  | .if1 t a r, b, rest, n, i, R, ⟨g1, g2, g3, g4, g5⟩, h => by
    have hend : endS ∈ enders := by decide +kernel
    have ha := rd_tree a true (endS :: (r.lines ++ rest)) (n + 1) (i + 1) (.ok .nil endS (r.lines ++ rest) (n + 1 + a.lines.length + 1) (i + 1 + a.ifs)) g4 (.fin hend)
    have hc : Rd rowF partF (.cond (cut3 t)) (a.lines ++ endS :: (r.lines ++ rest)) (n + 1) i (.ok (.ifr (n + 1) (psOf partF t) ((a.rt rowF partF dflt (n + 1)).app .nil) .nil .nil) "" (r.lines ++ rest) (n + 1 + a.lines.length + 1) (i + 1 + a.ifs)) := .one (good_ps g3) ha
    rw [RT.app_nil] at hc
    have hr := rd_tree r b rest (n + 1 + a.lines.length + 1) (i + 1 + a.ifs) R g5 (by
      rw [show n + 1 + a.lines.length + 1 + r.lines.length = n + (LT.if1 t a r).lines.length from by
        show _ = n + ((a.lines ++ endS :: r.lines).length + 1)
        rw [List.length_append, List.length_cons]; omega, show i + 1 + a.ifs + r.ifs = i + (LT.if1 t a r).ifs from by show _ = i + (1 + a.ifs + r.ifs); omega]
      exact h)
    have := Rd.ifr g1 g2 hc hr
    rw [pre_pre] at this
    have el : (LT.if1 t a r).lines ++ rest = t :: (a.lines ++ endS :: (r.lines ++ rest)) := by
      show t :: (a.lines ++ endS :: r.lines) ++ rest = _
      rw [List.cons_append, List.append_assoc, List.cons_append]
    rw [el]
    exact this
  | .if2 t a c r, b, rest, n, i, R, ⟨g1, g2, g3, g4, g5, g6⟩, h => by
    have hend : endS ∈ enders := by decide +kernel
    have hels : elseS ∈ enders := by decide +kernel
    have ha := rd_tree a true (elseS :: (c.lines ++ endS :: (r.lines ++ rest))) (n + 1) (i + 1) (.ok .nil elseS (c.lines ++ endS :: (r.lines ++ rest)) (n + 1 + a.lines.length + 1) (i + 1 + a.ifs)) g4 (.fin hels)
    have hb := rd_tree c true (endS :: (r.lines ++ rest)) (n + 1 + a.lines.length + 1) (i + 1 + a.ifs) (.ok .nil endS (r.lines ++ rest) (n + 1 + a.lines.length + 1 + c.lines.length + 1) (i + 1 + a.ifs + c.ifs)) g5 (.fin hend)
    have hc : Rd rowF partF (.cond (cut3 t)) (a.lines ++ elseS :: (c.lines ++ endS :: (r.lines ++ rest))) (n + 1) i (.ok (.ifr (n + 1) (psOf partF t) ((a.rt rowF partF dflt (n + 1)).app .nil) ((c.rt rowF partF dflt (n + 1 + a.lines.length + 1)).app .nil) .nil) "" (r.lines ++ rest) (n + 1 + a.lines.length + 1 + c.lines.length + 1) (i + 1 + a.ifs + c.ifs)) := .two (good_ps g3) ha hb
    rw [RT.app_nil, RT.app_nil] at hc
    have hr := rd_tree r b rest (n + 1 + a.lines.length + 1 + c.lines.length + 1) (i + 1 + a.ifs + c.ifs) R g6 (by
      rw [show n + 1 + a.lines.length + 1 + c.lines.length + 1 + r.lines.length = n + (LT.if2 t a c r).lines.length from by
        show _ = n + ((a.lines ++ elseS :: (c.lines ++ endS :: r.lines)).length + 1)
        rw [List.length_append, List.length_cons, List.length_append, List.length_cons]; omega, show i + 1 + a.ifs + c.ifs + r.ifs = i + (LT.if2 t a c r).ifs from by show _ = i + (1 + a.ifs + c.ifs + r.ifs); omega]
      exact h)
    have := Rd.ifr g1 g2 hc hr
    rw [pre_pre] at this
    have el : (LT.if2 t a c r).lines ++ rest = t :: (a.lines ++ elseS :: (c.lines ++ endS :: (r.lines ++ rest))) := by
      show t :: (a.lines ++ elseS :: (c.lines ++ endS :: r.lines)) ++ rest = _
      simp [List.append_assoc]
    rw [el]
    exact this
/-- the whole code -/
theorem rd_whole {t : LT} (h : t.good rowF partF) : Rd rowF partF (.blk false) t.lines 0 0 (.ok (t.rt rowF partF dflt 0) "" [] t.lines.length t.ifs) := by
  have := rd_tree (dflt := dflt) t false [] 0 0 (.ok .nil "" [] (0 + t.lines.length) (0 + t.ifs)) h .eof
  rw [List.append_nil, Nat.zero_add, Nat.zero_add] at this
  have e : (Res.ok .nil "" [] t.lines.length t.ifs : Res α β).pre (t.rt rowF partF dflt 0).app = .ok (t.rt rowF partF dflt 0) "" [] t.lines.length t.ifs := by
    show Res.ok ((t.rt rowF partF dflt 0).app .nil) "" [] t.lines.length t.ifs = _
    rw [RT.app_nil]
  rw [← e]
  exact this
end Rdr


set_option Elab.async false
set_option linter.all false
set_option maxRecDepth 100000
set_option maxHeartbeats 4000000
namespace K17
open PySem PySem.Spec PyProof.Rows L2 Rdr LmX LamX NdefX Idr Tld
abbrev a1S : Str := Str.ofString "a = 1"
abbrev b2S : Str := Str.ofString "b = 2"
abbrev t3S : Str := Str.ofString "if slot < 3"
theorem ab_en : (a1S ∉ enders ∧ ¬ isIf a1S ∧ a1S ≠ ifS) ∧ (b2S ∉ enders ∧ ¬ isIf b2S ∧ b2S ≠ ifS) ∧ t3S ∉ enders ∧ isIf t3S := by
  unfold isIf enders
  decide +kernel
theorem ab_line : ∀ kind ∈ kinds3, isLine kind a1S = true ∧ isLine kind b2S = true ∧ isLine kind t3S = true := by decide +kernel
theorem ans_pre {kind t : Str} {x : IdRow} {n i k : Nat} {r : List Str} (he : t ∉ enders) (hi : ¬ isIf t) (hx : rowI kind t (n + 1) = some x) (h : AnsG kind (n + 1) i r k) : AnsG kind n i (t :: r) k := by
  obtain ⟨R, h, e, o⟩ := h
  refine ⟨_, .leaf he hi hx h, fun j hj => ?_, fun t wd l n i hj => ?_⟩
  · cases R with
    | err m => exact e j hj
    | ok _ _ _ _ _ => cases hj
  · cases R with
    | err m => cases hj
    | ok u w m n2 i2 => cases hj; exact o _ _ _ _ _ rfl
theorem ans_line {kind t : Str} {n i k : Nat} {r : List Str} (hk : kind ∈ kinds3) (he : t ∉ enders) (hi : ¬ isIf t) (h3 : t ≠ ifS) (hl : isLine kind t = true) (h : AnsG kind (n + 1) i r k) : AnsG kind n i (t :: r) k := by
  rw [line_row hk hi h3 (n + 1)] at hl
  obtain ⟨x, hx⟩ := Option.isSome_iff_exists.mp hl
  exact ans_pre he hi hx h
theorem ans_err {kind : Str} {n i k : Nat} {ls : List Str} (h : Rd (rowI kind) (partI kind) (.blk false) ls n i (.err k : Res IdRow Part)) : AnsG kind n i ls k := ⟨_, h, (fun j e => by cases e; rfl), (fun t wd l n i e => by cases e)⟩
theorem ans_nil {kind : Str} {n i : Nat} (h : i ≤ 5) : AnsG kind n i [] 0 := ⟨.ok .nil "" [] n i, .eof, (fun j e => by cases e), (fun t wd l n2 i2 e => by cases e; exact ⟨h, rfl⟩)⟩
theorem ans_b2 {kind : Str} {n i : Nat} (hk : kind ∈ kinds3) (h : i ≤ 5) : AnsG kind n i [b2S] 0 := ans_line hk ab_en.2.1.1 ab_en.2.1.2.1 ab_en.2.1.2.2 (ab_line kind hk).2.1 (ans_nil h)
theorem ans_lead {kind : Str} (hk : kind ∈ kinds3) {i k : Nat} {rest : List Str} : ∀ (r n : Nat), AnsG kind (n + r) i rest k → AnsG kind n i (List.replicate r a1S ++ rest) k
  | 0, n, h => h
  | r + 1, n, h => ans_line hk ab_en.1.1 ab_en.1.2.1 ab_en.1.2.2 (ab_line kind hk).1 (ans_lead hk r (n + 1) (by rw [show n + 1 + r = n + (r + 1) by omega]; exact h))
theorem allSome {α : Type} : ∀ (l : List (Option α)), l.all (·.isSome) = true → ∃ ps : List α, l = ps.map some
  | [], _ => ⟨[], rfl⟩
  | none :: r, h => by cases h
  | some a :: r, h => by
    obtain ⟨ps, e⟩ := allSome r (by simpa using h)
    exact ⟨a :: ps, by rw [e]; rfl⟩
theorem if_good {kind t : Str} (hk : kind ∈ kinds3) (hi : isIf t) (h : isLine kind t = true) : ∃ ps, goodPs (partI kind) (cut3 t) ps := by
  rw [line_if hk hi, Bool.and_eq_true] at h
  obtain ⟨ps, e⟩ := allSome _ h.2
  have h1 := of_decide_eq_true h.1
  rw [e, List.length_map] at h1
  exact ⟨ps, e, h1⟩
theorem if_bad {kind t : Str} (hk : kind ∈ kinds3) (hi : isIf t) (h : isLine kind t = false) : badPs (partI kind) (cut3 t) := by
  rw [line_if hk hi, Bool.and_eq_false_iff] at h
  rcases h with h | h
  · have := of_decide_eq_false h
    exact .inl (by omega)
  · rw [List.all_eq_false] at h
    obtain ⟨x, hx, h⟩ := h
    cases x with
    | none => exact .inr hx
    | some a => exact absurd rfl h
theorem en_end : endS ∈ enders ∧ elseS ∈ enders := by unfold enders; decide +kernel
/-- what is told of a text among rows -/
theorem ans_text {kind t : Str} (hk : kind ∈ kinds3) (n : Nat) : ∃ k, AnsG kind n 0 (t :: (List.replicate (if (wds t).getD 0 "" = "if" then 1 else 0) endS ++ [b2S])) k ∧ (t ≠ endS → t ≠ elseS → t ≠ ifS → k = if isLine kind t = true then 0 else n + 1) := by
  by_cases he : t ∈ enders
  · refine ⟨n + 1, ans_err (.finO he), fun h1 h2 _ => ?_⟩
    unfold enders at he
    simp only [List.mem_cons, List.not_mem_nil, or_false] at he
    exact (he.elim h2 h1).elim
  by_cases hi : isIf t
  · obtain ⟨w, r, hw⟩ := (if_isIf t).mp hi
    rw [if_pos (show (wds t).getD 0 "" = "if" by rw [hw]; rfl)]
    cases hl : isLine kind t with
    | false => exact ⟨n + 1, ans_err (.ifE he hi (.badC (if_bad hk hi hl))), fun _ _ _ => by rw [if_neg (by decide)]⟩
    | true =>
      obtain ⟨ps, hp⟩ := if_good hk hi hl
      obtain ⟨R, h, e, o⟩ := ans_b2 (kind := kind) (n := n + 1 + 1) (i := 0 + 1) hk (by decide)
      refine ⟨0, ⟨_, .ifr he hi (.one hp (.fin en_end.1)) h, fun j hj => ?_, fun t wd l n i hj => ?_⟩, fun _ _ _ => by rw [if_pos rfl]⟩
      · cases R with
        | err m => exact e j hj
        | ok _ _ _ _ _ => cases hj
      · cases R with
        | err m => cases hj
        | ok u w m n2 i2 => cases hj; exact o _ _ _ _ _ rfl
  · cases hx : rowI kind t (n + 1) with
    | none => exact ⟨n + 1, ans_err (.bad he hi hx), fun _ _ h3 => by rw [line_row hk hi h3 (n + 1), hx, if_neg (by decide)]⟩
    | some x =>
      by_cases h0 : (wds t).getD 0 "" = "if"
      · rw [if_pos h0]
        have h3 : t = ifS := Classical.byContradiction fun h3 => hi ((if_isIf t).mpr ((if_words h3).mp h0))
        exact ⟨n + 1 + 1, ans_pre he hi hx (ans_err (.finO en_end.1)), fun _ _ h => absurd h3 h⟩
      · rw [if_neg h0]
        exact ⟨0, ans_pre he hi hx (ans_b2 hk (by decide)), fun _ _ h3 => by rw [line_row hk hi h3 (n + 1), hx]; rfl⟩
/-- the five fixed texts -/
theorem ans_five {kind : Str} (hk : kind ∈ kinds3) : AnsG kind 0 0 [endS] 1 ∧ AnsG kind 0 0 [t3S, elseS, elseS, endS] 3 ∧ AnsG kind 0 0 [t3S] 2 ∧ AnsG kind 0 0 [t3S, a1S, endS, elseS] 4 ∧ AnsG kind 0 0 [t3S, t3S, endS] 4 := by
  obtain ⟨ps, hp⟩ := if_good hk ab_en.2.2.2 (ab_line kind hk).2.2
  have he := ab_en.2.2.1
  have hi := ab_en.2.2.2
  refine ⟨ans_err (.finO en_end.1), ans_err (.ifE he hi (.elsE hp (.fin en_end.2) (.fin en_end.2))), ans_err (.ifE he hi (.aE hp .eofI)), ?_, ans_err (.ifE he hi (.aE hp ?_))⟩
  · have hl := (ab_line kind hk).1
    rw [line_row hk ab_en.1.2.1 ab_en.1.2.2 (1 + 1)] at hl
    obtain ⟨x, hx⟩ := Option.isSome_iff_exists.mp hl
    exact ⟨_, .ifr he hi (.one hp (.leaf ab_en.1.1 ab_en.1.2.1 hx (.fin en_end.1))) (.finO en_end.2), (fun j e => by cases e; rfl), (fun t wd l n i e => by cases e)⟩
  · exact .ifr he hi (.one hp (.fin en_end.1)) .eofI
end K17


set_option Elab.async false
set_option linter.all false
set_option maxRecDepth 100000
set_option maxHeartbeats 4000000
/-! lists of counts -/
namespace L2
open PySem PySem.Spec PyProof.Rows
def nl (w : List Nat) : List V := w.map fun n => V.int (n : Nat)
def niD (w : List Nat) : List PyData := w.map fun n => PyData.int (n : Nat)
theorem dp_ni {K : PySem.W.Frag} {H : Hp} : ∀ w : List Nat, DpAll K H (nl w) (niD w)
  | [] => .nil
  | n :: r => .cons (.int _) (dp_ni r)
theorem cl_ni : ∀ w : List Nat, PyData.canLayAll0 (niD w) = true
  | [] => rfl
  | n :: r => by
    show (PyData.canLay0 (.int (n : Nat)) && PyData.canLayAll0 (niD r)) = true
    rw [cl_ni r]
    rfl
theorem dep_ni : ∀ w : List Nat, PyData.depthAll (niD w) = 0
  | [] => rfl
  | n :: r => by
    show max (PyData.depth (.int (n : Nat))) (PyData.depthAll (niD r)) = 0
    rw [dep_ni r]
    rfl
theorem sh_ni (w : List Nat) : SeqAt.shaped (.list (niD w)) = true := by
  show (PyData.canLayAll0 (niD w) && decide (PyData.depthAll (niD w) + 1 ≤ 64)) = true
  rw [cl_ni, dep_ni]
  rfl
theorem eqv_ni : ∀ a b : List Nat, PyData.eqvAll (niD a) (niD b) = decide (a = b)
  | [], [] => by simp [niD, PyData.eqvAll]
  | x :: xs, [] => by simp [niD, PyData.eqvAll]
  | [], y :: ys => by simp [niD, PyData.eqvAll]
  | x :: xs, y :: ys => by
    have ih := eqv_ni xs ys
    unfold niD at ih ⊢
    simp only [List.map_cons, PyData.eqvAll, PyData.eqv]
    rw [ih]
    by_cases e : x = y
    · subst e; simp
    · have : ((x : Int) == (y : Int)) = false := by simp; omega
      rw [this, Bool.false_and]
      simp [e]
end L2


set_option Elab.async false
set_option linter.all false
set_option maxRecDepth 100000
set_option maxHeartbeats 4000000
namespace K17
open PySem PySem.Spec PyProof.Rows L2 Rdr LmX LamX NdefX Idr Tld
theorem tabs_fr {T : List (Addr × Str)} {H H' : Hp} (hT : Tabs T H) (s : ∀ b o, (∀ l, o ≠ .lst l) → (∀ kv, o ≠ .dK kv) → H b = some o → H' b = some o) : Tabs T H' := fun p hp => by
  obtain ⟨ps, h1, h2, h3⟩ := hT p hp
  refine ⟨ps, s _ _ (fun l e => by cases e) (fun l e => by cases e) h1, h2, fun pos cv hc => ?_⟩
  obtain ⟨c, e, h⟩ := h3 pos cv hc
  exact ⟨c, e, s _ _ (fun l e => by unfold CodeO at e; cases e) (fun l e => by unfold CodeO at e; cases e) h⟩
theorem tabs_sx {T : List (Addr × Str)} {H H' : Hp} {d c : Addr} {n : Nat} (hT : Tabs T H) (hb : Bag H d c n) (s : SameX d H H') : Tabs T H' := tabs_fr hT fun b o h1 h2 h => s b o (fun e => by
  obtain ⟨kv, hd⟩ := bag_d hb
  rw [e, hd] at h
  cases h
  exact h2 _ rfl) h
theorem strs_at {xs : List Str} {r : Nat} {v : V} (h : (xs.map V.str)[r]? = some v) : ∃ z ∈ xs, v = .str z := by
  rw [List.getElem?_map] at h
  cases e : xs[r]? with
  | none => rw [e] at h; cases h
  | some z => rw [e] at h; cases h; exact ⟨z, List.mem_of_getElem? e, rfl⟩
theorem ev_lenR {K : PySem.W.Frag} {σ : L2.St} {H : Hp} {i n : Nat} {p : Addr} {z : Str} (hi : σ[i]? = some (some (.ref p))) (hp : H p = some (.lst ((List.replicate n z).map V.str))) : EvE (tCB (fun xs H Q => ∃ p ys, xs = [V.ref p] ∧ (SqL K H p ys ∨ SqT K H p ys) ∧ Q (.int (ys.length : Nat)) H) (tCons (tVar i) tNil)) σ H (.int (n : Nat)) := by
  have h := ev_len (K := K) (ev_cons (ev_var hi) fun _ _ => ev_nil) (.inl (.inl (.inl hp)))
  rw [List.length_map, List.length_replicate] at h
  exact h
theorem lit_ok : (nlF a1S = true ∧ a1S.length ≤ 1000) ∧ (nlF endS = true ∧ endS.length ≤ 1000) ∧ (nlF b2S = true ∧ b2S.length ≤ 1000) ∧ (nlF elseS = true ∧ elseS.length ≤ 1000) ∧ (nlF t3S = true ∧ t3S.length ≤ 1000) := by decide +kernel
theorem bag_keep {H H' : Hp} {d c : Addr} {n : Nat} (h : Bag H d c n) (e : ∀ b o, H b = some o → (∀ ps, o ≠ .tbl ps) → H' b = some o) : Bag H' d c n := by
  obtain ⟨cs, a1, a2, a3, a4, g1, g2, g3⟩ := h
  exact ⟨cs, a1, a2, a3, a4, e _ _ g1 (fun ps e => by unfold bagD at e; cases e), e _ _ g2 (fun ps e => by cases e), g3⟩
theorem ifdraw_go {σ : L2.St} {H : Hp} {Q : VK} {d c : Addr} {n i : Nat} {lim : Nat} {A B : TE} (hi : σ[i]? = some (some (.ref d))) (hb : Bag H d c n) (hn : n < 2 ^ 30) (h0 : 0 < lim) (h1 : lim ≤ 1000) (k : ∀ (b : Bool) H', SameX d H H' → Bag H' d c (n + 1) → if b = true then A σ H' Q else B σ H' Q) :
    tIf (tTest (tOp rEq (tCall spDraw [] E0 (tCons (tVar i) (tCons (tC (.int (lim : Nat))) tNil))) (tC (.int 0)))) A B σ H Q :=
  op_go (draw_go hi hb hn h0 h1 fun r H' _ s b => ⟨rfl, _, rfl, k _ H' s b⟩)
theorem rep_strs (n : Nat) (z : Str) : (List.replicate n [V.str z]).flatten = (List.replicate n z).map V.str := by
  induction n with
  | zero => rfl
  | succ n ih => rw [List.replicate_succ, List.flatten_cons, ih]; rfl
/-- ["..."] * draw(n) -/
theorem rep_draw {σ : L2.St} {H : Hp} {Q : VK} {z : Str} {d c : Addr} {n i : Nat} {lim : Nat} (hi : σ[i]? = some (some (.ref d))) (hb : Bag H d c n) (hn : n < 2 ^ 30) (h0 : 0 < lim) (h1 : lim ≤ 1000) (k : ∀ (r : Nat) p H', r < lim → SameX d H H' → Bag H' d c (n + 1) → H' p = some (.lst ((List.replicate r z).map V.str)) → Q (.ref p) H') :
    tOp rRep (tLst (tCons (tC (.str z)) tNil)) (tCall spDraw [] E0 (tCons (tVar i) (tCons (tC (.int (lim : Nat))) tNil))) σ H Q := by
  have q9 : sizeLine = 16777216 := sizeLine_eq
  refine op_go (mk_lst (vs := [.str z]) (ev_cons ev_C fun _ _ => ev_nil) (fun H1 q s1 _ hq => ?_))
  refine draw_go hi (hb.up s1) hn h0 h1 fun r H2 hr s2 b2 => ⟨q, _, _, rfl, rfl, s2 _ _ (bag_ne (hb.up s1) hq) hq, by omega, by omega, ?_, fun p hp => ?_⟩
  · rw [List.length_singleton]; omega
  · refine k r p _ hr (s1.x.tr (s2.tr (Same.new hp).x)) (b2.up (Same.new hp)) ?_
    rw [upd_same, Int.toNat_natCast, rep_strs]
/-- ["..."] * int(b) -/
theorem rep_bl {σ : L2.St} {H : Hp} {Q : VK} {z : Str} {i : Nat} {b : Bool} (hi : σ[i]? = some (some (.bl b))) (k : ∀ p H', Same H H' → H' p = some (.lst ((List.replicate (if b = true then 1 else 0) z).map V.str)) → Q (.ref p) H') :
    tOp rRep (tLst (tCons (tC (.str z)) tNil)) (tCB (fun xs H Q => (∃ i, xs = [V.int i] ∧ Q (V.int i) H) ∨ ∃ k, xs = [V.bl k] ∧ Q (V.int (if k = true then 1 else 0)) H) (tCons (tVar i) tNil)) σ H Q := by
  have q9 : sizeLine = 16777216 := sizeLine_eq
  refine op_go (mk_lst (vs := [.str z]) (ev_cons ev_C fun _ _ => ev_nil) (fun H1 q s1 _ hq => ?_))
  have e : (if b = true then 1 else 0 : Int) = ((if b = true then 1 else 0 : Nat) : Int) := by cases b <;> rfl
  have e1 : (if b = true then 1 else 0 : Nat) ≤ 1 := by cases b <;> decide
  refine cons_go (var_go hi (nil_go (.inr ⟨_, rfl, q, _, _, rfl, rfl, hq, ?_, ?_, ?_, fun p hp => ?_⟩)))
  · rw [e]; omega
  · rw [e]; omega
  · rw [e, List.length_singleton]; omega
  · refine k p _ (s1.tr (Same.new hp)) ?_
    rw [upd_same, e, Int.toNat_natCast, rep_strs]
/-- xs + ys -/
theorem catl_go {σ : L2.St} {H : Hp} {Q : VK} {ta tb : TE} (h : ta σ H fun x H1 => tb σ H1 fun y H2 => rCat x y H2 Q) : tOp rCat ta tb σ H Q := h
theorem cat_fin {H : Hp} {Q : VK} {p q : Addr} {xs ys : List Str} (hp : H p = some (.lst (xs.map V.str))) (hq : H q = some (.lst (ys.map V.str))) (hl : xs.length + ys.length ≤ 1000) (k : ∀ r H', Same H H' → H' r = some (.lst ((xs ++ ys).map V.str)) → Q (.ref r) H') : rCat (.ref p) (.ref q) H Q := by
  have q9 : sizeLine = 16777216 := sizeLine_eq
  exact ⟨p, q, _, _, rfl, rfl, hp, hq, by rw [List.length_map, List.length_map]; omega, fun r hr => k r _ (Same.new hr) (by rw [upd_same, List.map_append])⟩
/-- text = spoiled(bag, text) if draw(2) == 0 else text -/
theorem set_spoil {σ : L2.St} {H : Hp} {s : TS} {D : Ends} {d c : Addr} {n : Nat} {z : Str} (h1 : σ[1]? = some (some (.ref d))) (h4 : σ[4]? = some (some (.str z))) (hb : Bag H d c n) (hn : n + 50 ≤ 2 ^ 20) (az : Asc z) (lz : z.length ≤ 200) (k : ∀ t H' m, SameX d H H' → Bag H' d c m → m ≤ n + 41 → Asc t → t.length ≤ 1000 → s D (σ.set 4 (some (.str t))) H') :
    tSeq (tAsg (tIf (tTest (tOp rEq (tCall spDraw [] E0 (tCons (tVar 1) (tCons (tC (.int (2 : Nat))) tNil))) (tC (.int 0)))) (tCall spSpoil [] E0 (tCons (tVar 1) (tCons (tVar 4) tNil))) (tVar 4)) (gName 4)) s D σ H := by
  refine set_te (ifdraw_go (lim := 2) h1 hb (by omega) (by decide) (by decide) fun b H5 s5 b5 => ?_)
  cases b
  · rw [if_neg (by decide)]
    exact var_go h4 (k z H5 (n + 1) s5 b5 (by omega) az (by omega))
  · rw [if_pos rfl]
    exact call_go (cons_go (var_go h1 (cons_go (var_go h4 (nil_go ⟨d, c, n + 1, z, rfl, b5, by omega, az, lz, fun z6 H6 m6 s6 b6 hm6 az6 lz6 => k z6 H6 m6 (s5.tr s6) b6 (by omega) az6 lz6⟩)))))
section
variable {P : Program} {w : World} {K : PySem.W.Frag} {mg : Str → Option Value} {base : Heap}
def spLaw (K : PySem.W.Frag) (Pt : Addr) : Sp := fun vs H Q E => ∃ (a : Addr) (xs : List Int), vs = [.ref a] ∧ SqL K H a (xs.map V.int) ∧ H Pt = some (.tbl #[]) ∧ ∀ H', Q (.bl true) H'
theorem ok_law (T : Tx P w K mg) {f0 fI cc c Pt : Addr} {fd0 : FuncData} (S : SupB.SupT P K (He.ga K "IdCode") fI f0 (idF cc c) idN ["self", "kind", "text"] (SupX.supE s_IdCode_init) (SupX.supEs s_IdCode_init) (SupX.supR s_IdCode_init)) (M : Mk K (He.ga K "IdCode") fI)
    (F0 : FunD K "__init__" "CodeText.__init__" (defArgs s_CodeText_init) (defBody s_CodeText_init) (defScope s_CodeText_init) [] [] f0 fd0) (TB : TabB base mg c Pt) {f : Addr} {fd : FuncData} (F : FunD K "law" "law" (defArgs s_law) (defBody s_law) (defScope s_law) [] [] f fd) : FnOk P w K mg base CX0 140 f fd ["_law_script"] (spLaw K Pt) := by
  have F_l_bag := ok_bag (w := w) (base := base) T
  have F_l_draw := ok_draw (w := w) (base := base) T
  have F_l_drawn_line := ok_l_dline (w := w) (base := base) T
  have F_l_spoiled := ok_l_spoil (w := w) (base := base) T
  have F_l_is_line := ok_l_is_line (w := w) (base := base) T
  have F_l_told := ok_l_told (base := base) T S M F0 TB
  refine L2.FunD.ok0 F sc_law (fun vs H Q E h => ?_) (fun cdv A outer s H vs Q E hr h => have hu := hu_of hr; ⟨_, (by exact (pss_cons (ps_set (i := 1) sc_law.nd rfl (Or.inl rfl) (pe_callX F_l_bag (hr.mono (by first | decide | omega)) pass0 (pa_cons (pv 0) pa_nil)))
      (pss_cons (ps_set (i := 2) sc_law.nd rfl (Or.inr rfl) (pe_ix ix_list (pe_lst (pa_cons pe_str (pa_cons pe_str (pa_cons pe_str pa_nil)))) (pe_callX F_l_draw (hr.mono (by first | decide | omega)) pass0 (pa_cons (pv 1) (pa_cons pe_int pa_nil))) (fun _ _ => rfl)))
      (pss_cons (ps_for PassesOwn.never rfl (pi_range1 rfl T.b_range (pa_cons pe_int pa_nil)) (pg_name (i := 3) sc_law.nd rfl (Or.inl rfl))
        (pss_cons (ps_set (i := 4) sc_law.nd rfl (Or.inl rfl) (pe_callX F_l_drawn_line (hr.mono (by first | decide | omega)) pass0 (pa_cons (pv 1) pa_nil)))
      (pss_cons (ps_set (i := 4) sc_law.nd rfl (Or.inl rfl) (pe_ifExp (pt_cmpR op_eq (pe_callX F_l_draw (hr.mono (by first | decide | omega)) pass0 (pa_cons (pv 1) (pa_cons pe_int pa_nil))) pe_int (nomark _)) (pe_callX F_l_spoiled (hr.mono (by first | decide | omega)) pass0 (pa_cons (pv 1) (pa_cons (pv 4) pa_nil))) (pv 4)))
      (pss_cons (ps_set (i := 5) sc_law.nd rfl (Or.inl rfl) (pe_op op_rep (pe_lst (pa_cons pe_str pa_nil)) (pe_callX F_l_draw (hr.mono (by first | decide | omega)) pass0 (pa_cons (pv 1) (pa_cons pe_int pa_nil)))))
      (pss_cons (ps_par (i := 6) (j := 7) (by rfl) sc_law.nd rfl rfl (by decide) rfl rfl (pa_cons (pe_cmpR op_eq (pe_ix ix_list (pe_split (pv 4) pe_str) pe_int (fun _ _ => rfl)) pe_str (nomark _)) (pa_cons (pe_callX F_l_is_line (hr.mono (by first | decide | omega)) pass0 (pa_cons (pv 2) (pa_cons (pv 4) pa_nil))) pa_nil)) (by rfl))
      (pss_cons (ps_set (i := 8) sc_law.nd rfl (Or.inl rfl) (pe_callX F_l_told (hr.mono (by first | decide | omega)) pass0 (pa_cons (pv 2) (pa_cons (pe_op op_cat (pe_op op_cat (pe_op op_cat (pv 5) (pe_lst (pa_cons (pv 4) pa_nil))) (pe_op op_rep (pe_lst (pa_cons pe_str pa_nil)) (pe_callTy call_int1 (by rfl) T.b_int (by decide +kernel) (pa_cons (pv 6) pa_nil)))) (pe_lst (pa_cons pe_str pa_nil))) pa_nil))))
      (pss_one (ps_if (PW.pt (pw_and (pt_cmpR op_notIn_seq (pv 4) (pe_lst (pa_cons pe_str (pa_cons pe_str (pa_cons pe_str pa_nil)))) (by rfl)) (pw_and1 (pt_cmpR op_ne (pv 8) (pe_ifExp (pt_val (pv 7)) pe_int (pe_op op_add (pe_callB call_len_seq (by rfl) T.b_len (by decide +kernel) (pa_cons (pv 5) pa_nil)) pe_int)) (nomark _))))) (pss_one (ps_ret pe_bl)) pss_nil))))))))
      (pss_cons (ps_set (i := 9) sc_law.nd rfl (Or.inl rfl) pe_str)
      (pss_cons (ps_set (i := 10) sc_law.nd rfl (Or.inl rfl) (pe_lst (pa_cons (pe_lst (pa_cons pe_str pa_nil)) (pa_cons (pe_lst (pa_cons (pv 9) (pa_cons pe_str (pa_cons pe_str (pa_cons pe_str pa_nil))))) (pa_cons (pe_lst (pa_cons (pv 9) pa_nil)) (pa_cons (pe_lst (pa_cons (pv 9) (pa_cons pe_str (pa_cons pe_str (pa_cons pe_str pa_nil))))) (pa_cons (pe_lst (pa_cons (pv 9) (pa_cons (pv 9) (pa_cons pe_str pa_nil)))) pa_nil)))))))
      (pss_one (ps_ret (pe_cmpR (op_eqD hr.units) (pe_lc (own := [("_law_lines", 11)]) (g := (gName 11)) (tt := tYes) (by rfl) sc_law.nd (pi_list (pv 10)) (blkOk_by (own := [("_law_lines", 11)]) (N := ["_law_script", "_law_bag_here", "_law_kind", "_law_turn", "_law_text", "_law_ahead", "_law_opens", "_law_good", "_law_told_here", "_law_test", "_law_rows", "_law_lines"]) (sc := defScope s_law) (by decide +kernel)) (fun _ _ _ _ _ => (pg_name (i := 11) sc_law.nd rfl (Or.inl rfl))) (fun _ _ _ _ _ => pts_nil) (fun _ _ _ _ _ => (pe_callX F_l_told (hr.mono (by first | decide | omega)) pass0 (pa_cons (pv 2) (pa_cons (pv 11) pa_nil))))) (pe_lst (pa_cons pe_int (pa_cons pe_int (pa_cons pe_int (pa_cons pe_int (pa_cons pe_int pa_nil)))))) (nomark _)))))))))), ?_⟩)
  · obtain ⟨a, xs, rfl, _⟩ := h
    rfl
  obtain ⟨a, xs, rfl, ha, hP, hQ⟩ := h
  have q9 : sizeLine = 16777216 := sizeLine_eq
  have hT0 : Tabs [(Pt, lqual)] H := fun p hp => by
    rw [List.mem_singleton.mp hp]
    exact TabS.nil hP
  refine set_te ⟨_, rfl, a, xs, rfl, ha, fun d c1 H1 hd s1 hb1 => ?_⟩
  have hT1 := hT0.ext s1
  refine set_te (pick_go (xs := kinds3.map V.str) (lim := 3) (ev_cons ev_C fun _ _ => ev_cons ev_C fun _ _ => ev_cons ev_C fun _ _ => ev_nil) rfl hb1 (by omega) rfl (by decide) (fun r1 v1 H2 hv1 sx2 hb2 => ?_))
  obtain ⟨kind, hk, rfl⟩ := strs_at hv1
  have hT2 := tabs_sx hT1 hb1 sx2
  refine nx_for ⟨6, rfl, by decide, by decide, for_range (lo := 0) (n := 6) (fun i σ H' => ∃ (m : Nat) (o3 o4 o5 o6 o7 o8 o9 o10 o11 : Option V), σ = [some (.ref a), some (.ref d), some (.str kind), o3, o4, o5, o6, o7, o8, o9, o10, o11] ∧ Bag H' d c1 m ∧ m ≤ 2 + 100 * i ∧ Tabs [(Pt, lqual)] H') ⟨_, none, none, none, none, none, none, none, none, none, rfl, hb2, by omega, hT2⟩ ?_ ?_⟩
  · rintro i σ H3 hi ⟨m, o3, o4, o5, o6, o7, o8, o9, o10, o11, rfl, hb3, hm3, hT3⟩
    refine nm (set_te (call_go (cons_go (var_go rfl (nil_go ⟨d, c1, m, rfl, hb3, by omega, fun z H4 m4 s4 b4 hm4 az lz => ?_⟩)))))
    have hT4 := tabs_sx hT3 hb3 s4
    refine set_spoil rfl rfl b4 (by omega) az lz (fun t H5 m5 s5 hb5 hm5 at5 lt5 => ?_)
    have hT5 := tabs_sx hT4 b4 s5
    refine set_te (rep_draw (lim := 4) rfl hb5 (by omega) (by decide) (by decide) fun r q5 H6 hr s6 b6 hq5 => ?_)
    have hT6 := tabs_sx hT5 hb5 s6
    obtain ⟨w0, wr, hw⟩ := List.exists_cons_of_ne_nil (w_ne t)
    refine par_go (cons_go (op_go (op_go (do_split (z := t) (ev_var rfl) (by decide +kernel) (by omega) (fun H7 wa s7 _ hwa => c_go ⟨wa, _, 0, .str w0, rfl, rfl, .inl (.inl hwa), by rw [show Txt.split t (Str.ofString " ") = w0 :: wr from hw]; exact atI_nat (j := 0) rfl, c_go ⟨rfl, ?_⟩⟩)))))
    refine cons_go (call_go (cons_go (var_go rfl (cons_go (var_go rfl (nil_go ⟨kind, t, rfl, hk, by omega, at5.so, fun H8 s8 => nil_go ⟨_, _, rfl, ?_⟩⟩))))))
    have s68 := s7.tr s8
    have hq58 := s68 _ _ hq5
    have b8 := b6.up s68
    have hT8 := hT6.ext s68
    clear hT6 b6 hq5 hwa hT5 hb5 hT4 b4 hT3 hb3
    have hb0 : decide (V.str w0 = V.str (Str.ofString "if")) = decide ((wds t).getD 0 "" = "if") := by
      rw [show wds t = w0 :: wr from hw]
      show _ = decide (w0 = Str.ofString "if")
      by_cases g : w0 = Str.ofString "if"
      · rw [g]; simp
      · rw [decide_eq_false g, decide_eq_false (fun e => g (by injection e))]
    rw [hb0]
    obtain ⟨k, hA, hkk⟩ := ans_text (t := t) hk (0 + r)
    have hA9 := ans_lead hk r 0 hA
    have e9 : (if decide ((wds t).getD 0 "" = "if") = true then 1 else 0 : Nat) = (if (wds t).getD 0 "" = "if" then 1 else 0) := by simp only [decide_eq_true_eq]
    have e10 : (if decide ((wds t).getD 0 "" = "if") = true then 1 else 0 : Nat) ≤ 1 := by split <;> omega
    rw [← e9] at hA9
    generalize decide ((wds t).getD 0 "" = "if") = op at hA9 e10
    clear e9 hA hb0
    refine set_te (call_go (cons_go (var_go rfl (cons_go ?_))))
    refine catl_go (catl_go (catl_go (var_go rfl (mk_lst (vs := [t].map V.str) (ev_cons (ev_var rfl) fun _ _ => ev_nil) (fun H9 q9' s9 _ h9 => cat_fin (s9 _ _ hq58) h9 ?_ fun q10 H10 s10 h10 => ?_)))))
    · rw [List.length_replicate, List.length_singleton]; omega
    refine rep_bl rfl fun q11 H11 s11 h11 => cat_fin (s11 _ _ h10) h11 ?_ fun q12 H12 s12 h12 => ?_
    · rw [List.length_append, List.length_replicate, List.length_replicate, List.length_singleton]; omega
    refine mk_lst (vs := [b2S].map V.str) (ev_cons ev_C fun _ _ => ev_nil) (fun H13 q13 s13 _ h13 => cat_fin (s13 _ _ h12) h13 ?_ fun q14 H14 s14 h14 => ?_)
    · rw [List.length_append, List.length_append, List.length_replicate, List.length_replicate, List.length_singleton, List.length_singleton]; omega
    have s814 := s9.tr (s10.tr (s11.tr (s12.tr (s13.tr s14))))
    have el : List.replicate r (Str.ofString "a = 1") ++ [t] ++ List.replicate (if op = true then 1 else 0) (Str.ofString "end") ++ [b2S] = List.replicate r a1S ++ t :: (List.replicate (if op = true then 1 else 0) endS ++ [b2S]) := by
      rw [List.append_assoc, List.append_assoc]; rfl
    rw [el] at h14
    have hll : (List.replicate r a1S ++ t :: (List.replicate (if op = true then 1 else 0) endS ++ [b2S])).length = r + (if op = true then 1 else 0) + 2 := by
      rw [List.length_append, List.length_cons, List.length_append, List.length_replicate, List.length_replicate, List.length_singleton]; omega
    refine nil_go ⟨kind, q14, _, k, rfl, h14, hT8.ext s814, hk, by rw [hll]; omega, fun z hz => ?_, fun e => by rw [e] at hll; simp at hll, hA9, fun H15 e15 hT15 => ?_⟩
    · rcases List.mem_append.mp hz with hz | hz
      · rw [List.eq_of_mem_replicate hz]; exact lit_ok.1
      rcases List.mem_cons.mp hz with rfl | hz
      · exact ⟨at5.nl, lt5⟩
      rcases List.mem_append.mp hz with hz | hz
      · rw [List.eq_of_mem_replicate hz]; exact lit_ok.2.1
      · rw [List.mem_singleton.mp hz]; exact lit_ok.2.2.1
    have b15 := bag_keep (b8.up s814) e15
    have hq515 := e15 _ _ (s814 _ _ hq58) (fun ps e => by cases e)
    refine do_if (ev_and (b2 := false) (ev_test (ev_notin (ns := [endS, elseS, ifS]) (ev_var (v := .str t) rfl) (in_lst (ns := [endS, elseS, ifS]) (fun H => ev_cons ev_C fun _ _ => ev_cons ev_C fun _ _ => ev_cons ev_C fun _ _ => ev_nil)))) (fun g H16 s16 => ne_same (v := .int (k : Nat)) (ev_var rfl) (fun H17 s17 => ev_if (ev_tB (ev_var rfl)) (fun g2 H18 s18 => ?_) (fun g2 H18 s18 => ?_)) rfl)) (fun g => by rw [Bool.and_false] at g; cases g) (fun _ H16 s16 => ?_)
    · have g' : t ∉ [endS, elseS, ifS] := by simpa using g
      simp only [List.mem_cons, List.not_mem_nil, or_false, not_or] at g'
      rw [hkk g'.1 g'.2.1 g'.2.2, if_pos g2]
      exact ev_C
    · have g' : t ∉ [endS, elseS, ifS] := by simpa using g
      simp only [List.mem_cons, List.not_mem_nil, or_false, not_or] at g'
      rw [hkk g'.1 g'.2.1 g'.2.2, if_neg (by rw [g2]; decide)]
      refine ev_op (ev_lenR (K := K) rfl ((s16.tr (s17.tr s18)) _ _ hq515)) (fun _ _ => ev_C) fun H' _ Q' q => ⟨_, _, rfl, rfl, ?_⟩
      rw [Nat.zero_add] at q
      exact q
    · exact ⟨_, _, _, _, _, _, _, _, _, _, rfl, b15.up s16, by omega, hT15.ext s16⟩
  · rintro σ H3 ⟨m, o3, o4, o5, o6, o7, o8, o9, o10, o11, rfl, hb3, hm3, hT3⟩
    dsimp only
    refine set_te (c_go ?_)
    refine set_te (lst_go ?_)
    refine cons_go (mk_lst (vs := [endS].map V.str) (ev_cons ev_C fun _ _ => ev_nil) (fun H4 p1 s4 _ h1 => ?_))
    refine cons_go (mk_lst (vs := [t3S, elseS, elseS, endS].map V.str) (ev_cons (ev_var rfl) fun _ _ => ev_cons ev_C fun _ _ => ev_cons ev_C fun _ _ => ev_cons ev_C fun _ _ => ev_nil) (fun H5 p2 s5 _ h2 => ?_))
    refine cons_go (mk_lst (vs := [t3S].map V.str) (ev_cons (ev_var rfl) fun _ _ => ev_nil) (fun H6 p3 s6 _ h3 => ?_))
    refine cons_go (mk_lst (vs := [t3S, a1S, endS, elseS].map V.str) (ev_cons (ev_var rfl) fun _ _ => ev_cons ev_C fun _ _ => ev_cons ev_C fun _ _ => ev_cons ev_C fun _ _ => ev_nil) (fun H7 p4 s7 _ h4 => ?_))
    refine cons_go (mk_lst (vs := [t3S, t3S, endS].map V.str) (ev_cons (ev_var rfl) fun _ _ => ev_cons (ev_var rfl) fun _ _ => ev_cons ev_C fun _ _ => ev_nil) (fun H8 p5 s8 _ h5 => nil_go ⟨szL rfl, fun p9 hp9 => ?_⟩))
    have s9 : Same H8 (upd H8 p9 (.lst [.ref p1, .ref p2, .ref p3, .ref p4, .ref p5])) := Same.new hp9
    have h9 : upd H8 p9 (.lst [.ref p1, .ref p2, .ref p3, .ref p4, .ref p5]) p9 = some (.lst [.ref p1, .ref p2, .ref p3, .ref p4, .ref p5]) := upd_same
    generalize upd H8 p9 (.lst [.ref p1, .ref p2, .ref p3, .ref p4, .ref p5]) = H9 at s9 h9 ⊢
    have hT9 := hT3.ext (s4.tr (s5.tr (s6.tr (s7.tr (s8.tr s9)))))
    have a5 := ans_five hk
    have rows : ∀ (i : Nat) x, [V.ref p1, V.ref p2, V.ref p3, V.ref p4, V.ref p5][i]? = some x → ∃ (p : Addr) (ls : List Str) (k : Nat), x = .ref p ∧ H9 p = some (.lst (ls.map V.str)) ∧ AnsG kind 0 0 ls k ∧ ls.length ≤ 30 ∧ (∀ z ∈ ls, z ∈ [a1S, endS, elseS, t3S]) ∧ ls ≠ [Str.ofString ""] ∧ ([1, 3, 2, 4, 4] : List Nat)[i]? = some k := by
      intro i x hx
      match i, hx with
      | 0, hx => cases hx; exact ⟨p1, _, _, rfl, (s5.tr (s6.tr (s7.tr (s8.tr s9)))) _ _ h1, a5.1, by decide, by decide +kernel, by decide +kernel, rfl⟩
      | 1, hx => cases hx; exact ⟨p2, _, _, rfl, (s6.tr (s7.tr (s8.tr s9))) _ _ h2, a5.2.1, by decide, by decide +kernel, by decide +kernel, rfl⟩
      | 2, hx => cases hx; exact ⟨p3, _, _, rfl, (s7.tr (s8.tr s9)) _ _ h3, a5.2.2.1, by decide, by decide +kernel, by decide +kernel, rfl⟩
      | 3, hx => cases hx; exact ⟨p4, _, _, rfl, (s8.tr s9) _ _ h4, a5.2.2.2.1, by decide, by decide +kernel, by decide +kernel, rfl⟩
      | 4, hx => cases hx; exact ⟨p5, _, _, rfl, s9 _ _ h5, a5.2.2.2.2, by decide, by decide +kernel, by decide +kernel, rfl⟩
      | n + 5, hx => cases hx
    have hlen : [V.ref p1, V.ref p2, V.ref p3, V.ref p4, V.ref p5].length = 5 := rfl
    generalize [V.ref p1, V.ref p2, V.ref p3, V.ref p4, V.ref p5] = rs at h9 rows hlen
    refine ret_go (op_go ?_)
    refine lc_of (fun pa xs H1 => pa = p9 ∧ xs = rs ∧ Same H9 H1) (fun R hR => var_go rfl (hR p9 rs H9 ⟨rfl, rfl, Same.rf _⟩)) ?_
    rintro _ _ H10 ⟨rfl, rfl, s10⟩
    refine ⟨_, rfl, ⟨_, .inl (.inl (s10 _ _ h9))⟩, fun D hD => ?_⟩
    have hT10 := hT9.ext s10
    refine lc_list (fun i H => (∀ b o, H9 b = some o → (∀ ps, o ≠ .tbl ps) → H b = some o) ∧ Tabs [(Pt, lqual)] H ∧ H D = some (.lst (([1, 3, 2, 4, 4].take i).map fun n : Nat => V.int n))) ⟨fun b o hb _ => (Same.new hD) _ _ (s10 _ _ hb), hT10.ext (Same.new hD), upd_same⟩ (fun i H _ h => .inl (.inl (h.1 _ _ h9 (fun ps e => by cases e)))) ?_ ?_
    · rintro i x H11 hx ⟨e11, hT11, hD11⟩
      obtain ⟨p, ls, k, rfl, hp, hA, hln, hlz, hne, hki⟩ := rows i x hx
      refine ⟨rfl, ?_⟩
      refine call_go (cons_go (var_go rfl (cons_go (var_go rfl (nil_go ⟨kind, p, ls, k, rfl, e11 _ _ hp (fun ps e => by cases e), hT11, hk, hln, fun z hz => ?_, hne, hA, fun H12 e12 hT12 => ?_⟩)))))
      · have hz4 := hlz z hz
        simp only [List.mem_cons, List.not_mem_nil, or_false] at hz4
        rcases hz4 with rfl | rfl | rfl | rfl
        · exact lit_ok.1
        · exact lit_ok.2.1
        · exact lit_ok.2.2.2.1
        · exact lit_ok.2.2.2.2
      have hD12 := e12 _ _ hD11 (fun ps e => by cases e)
      have hi5 : i < 5 := by
        have := (List.getElem?_eq_some_iff.mp hx).1
        omega
      refine ⟨_, hD12, by rw [List.length_map, List.length_take]; omega, fun b o hb ho => ?_, tabs_fr hT12 fun b o h1 _ hb => ?_, ?_⟩
      · rw [upd_ne (fun e => by rw [e] at hb; rw [s10 _ _ hb] at hD; cases hD)]
        exact e12 _ _ (e11 _ _ hb ho) ho
      · rw [upd_ne (fun e => by rw [e, hD12] at hb; cases hb; exact h1 _ rfl)]
        exact hb
      · rw [upd_same, List.take_add_one, hki, List.map_append]
        rfl
    · rintro H11 ⟨e11, hT11, hD11⟩
      rw [hlen] at hD11
      refine mk_lst (vs := nl [1, 3, 2, 4, 4]) (ev_cons ev_C fun _ _ => ev_cons ev_C fun _ _ => ev_cons ev_C fun _ _ => ev_cons ev_C fun _ _ => ev_cons ev_C fun _ _ => ev_nil) (fun H12 q s12 _ hq => ?_)
      have hD12 : H12 D = some (.lst (nl [1, 3, 2, 4, 4])) := s12 _ _ hD11
      refine ⟨_, _, .lst (.inl (.inl hD12)) (dp_ni _), .lst (.inl (.inl hq)) (dp_ni _), sh_ni _, sh_ni _, ?_⟩
      rw [show PyData.eqv (.list (niD [1, 3, 2, 4, 4])) (.list (niD [1, 3, 2, 4, 4])) = decide (([1, 3, 2, 4, 4] : List Nat) = [1, 3, 2, 4, 4]) from eqv_ni _ _]
      exact hQ H12
end
end K17


set_option Elab.async false
set_option linter.all false
set_option maxRecDepth 100000
set_option maxHeartbeats 0
namespace K17
open PySem PySem.Spec PyProof.Rows L2 He HeE K17.HdX
theorem facts {w : World} {h : Heap} {mg : Str → Option Value} {f : Addr} (hfa : mg ("law" : Str) = some (.ref f)) (G : h.Ns mainGlobals mg) (Y : hk.says w h) :
    ∃ K : PySem.W.Frag, K.In h ∧ LamX.LawAtS PySem.Challenge.rw_heldplaces_k17_id_lines_read w K CX0 140 63 "_law_script" mg f h := by
  obtain ⟨K, X, c⟩ := Y
  obtain ⟨fd, F⟩ := c.fn h_law (by simp [fn, fn0, fn1])
  have e := hfa.symm.trans (glo_ok X G (c.fa (.glo "law") (by simp [fa, fa0, fa1, fa2, fa3])))
  cases e
  have b := FunD.bindsA (ps := ["_law_script"]) F fun _ _ _ _ _ _ us hl => match us, hl with | [_], _ => rfl
  have T := tx X G c
  obtain ⟨fd0, F0⟩ := c.fn h_CodeText_init (by simp [fn, fn0, fn1])
  obtain ⟨f0, fd1, cc, S, M, F1⟩ := supDB_of (prog := P0) (y := "CodeText") (q0 := "CodeText.__init__") (s0 := s_CodeText_init) (HeE.all_at c.more 0) (c.su u_IdCode (by simp [su])) s_u_IdCode (mkr_ok (c.fa (.mkr "IdCode") (by simp [fa, fa0, fa1, fa2, fa3]))) F0
  refine ⟨K, X, fd, [cT K ("IdCode", some "__init__")], spLaw K (cT K ("IdCode", some "__init__")).2, fun p hp => ?_, fun p hp => ?_, fun p hp => ?_, fun s u => b s [u] rfl, fun H a ns hl _ ht hs => ⟨a, ns, rfl, hs, ht _ List.mem_cons_self, fun _ => rfl⟩, fun base hK hN hT => ok_law T S M F1 (hT _ List.mem_cons_self) F⟩
  · cases List.mem_singleton.mp hp
    exact c.empty _ List.mem_cons_self
  · cases List.mem_singleton.mp hp
    exact c.out _ List.mem_cons_self
  · cases List.mem_singleton.mp hp
    exact PySem.W.codeHd_of_K X (c.hd _ List.mem_cons_self)
end K17
open PySem PySem.W PySem.Calls PyProof.Rows
theorem PySem.Challenge.cw_heldplaces_k17_id_lines_read_holds : PySem.Challenge.rw_heldplaces_k17_id_lines_read.Holds := by
  w_on; o_law
  refine HandSHeadRun.head_any (r := OpenLaw.row PySem.Challenge.rw_heldplaces_k17_id_lines_read) (q := view (OpenLaw.row PySem.Challenge.rw_heldplaces_k17_id_lines_read).prog [62]) (H := K17.HdX.hk) (ob := K17.HdX.ob) (M := 40000) (loose := K17.HdX.names) (d := HandSHeadRun.topDef (OpenLaw.row PySem.Challenge.rw_heldplaces_k17_id_lines_read).prog 62) (kwd := []) K17.HdX.ob_eq
    (by kernel_rfl) (fun s => by kernel_rfl) (fun w => K17.HdX.run w) (by kernel_rfl) (by kernel_rfl) (by kernel_rfl) (by rfl) (by first | assumption | decide +kernel) (by decide +kernel) ⟨rfl, rfl, rfl, rfl, rfl, by decide +kernel⟩ ?hw ?hc
  case hw => w_witness2
  case hc =>
    refine LamX.walk_ofTsE (l := PySem.Challenge.rw_heldplaces_k17_id_lines_read) (n := 63) (k := 140) (x := "_law_script") (CX := fun _ => L2.CX0) rfl (by decide) (by kernel_rfl) ⟨rfl, by decide, by decide⟩ ?F (fun _ _ _ _ _ z => z)
    intro w mg fa h Y G hmg0
    have hmg : mg ("law" : PySem.Str) = some (.ref fa) := by
      have e : (HandSHeadRun.topDef (OpenLaw.row PySem.Challenge.rw_heldplaces_k17_id_lines_read).prog 62).name = ("law" : PySem.Str) := by kernel_rfl
      rw [← e]
      exact hmg0
    exact K17.facts hmg G Y
#print axioms PySem.Challenge.cw_heldplaces_k17_id_lines_read_holds

