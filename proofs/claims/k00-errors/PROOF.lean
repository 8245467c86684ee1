import PyProof.Rows.All
import Wide.All
import OpenK.AllK
import Wide.FinOn
import PyProof.EqAt
import PyProof.EqKinds
import PyProof.TupleCall
import KE.KExcSuper
import HandS.ForMost
import HandS.ForExc
import HandS.ExcInit
import HandS.TryMany
import KE.KExcIs
import KE.KIsAll
import KE.KTryMore
import HandS.NoneIn
import HandS.Style
import HandS.Flow
import HandS.StrMore
import HandS.IsInst
import HandS.Lambda
import HandS.More
import HandS.Wide
import HandS.Head0
import HandS.Head1
import HandS.Head2
import HandS.HeadEnd
import HandS.HeadHook1
import HandS.HeadHook2
import HandS.HeadHook3
import HandS.HeadHook4
import HandS.HeadWalk
import PyProof.InstNe
import HandS.HotCalls
import KE.KStateDown
import Lean
import PySem.Challenge.RW_heldplaces_k00_errors_made_from_their_fi
set_option Elab.async false
set_option linter.all false
set_option maxRecDepth 100000
set_option maxHeartbeats 4000000
/-! Errors of the program: class X(HeldError): def __init__(self, f, ..): super().__init__('..'); self.f = f; .. -/
namespace PySem
namespace ErrX
open PySem.W PySem.Calls PyProof.Rows PySem.HandSPX
/-! ### the text of __init__ -/
structure FldP where
  f : Str
  a : Pos
  b : Pos
  c : Pos
  d : Pos
def setSt (q : FldP) : Stmt := .Assign [.Attribute (.Name "self" q.a) q.f q.b] (.Name q.f q.c) q.d
def supSt (msg : Str) (j : Nat) (p0 p1 p2 p3 p4 p5 : Pos) : Stmt := .Expr (.Call (.Attribute (.Call (.Name "super" p0) [] [] p1) "__init__" p2) [.Constant (.str msg) j p3] [] p4) p5
def supEv (env : Env) (pl : Sem Bool) (msg : Str) (j : Nat) (p0 p1 p2 p3 p4 : Pos) : Prop := eval (.Call (.Attribute (.Call (.Name "super" p0) [] [] p1) "__init__" p2) [.Constant (.str msg) j p3] [] p4) env = (do
      let ov ← attributeBase (.Call (.Name "super" p0) [] [] p1) "__init__" env (eval (.Call (.Name "super" p0) [] [] p1) env)
      standAt p2.atName
      let (f, first) ← holding [ov] (getMethod ov "__init__" pl)
      callWith p4 f first (backTo p4 (starEach [.Constant (.str msg) j p3] env)) [])
def iScope (fs : List Str) : Scope := { kind := .function, names := (PySem.Str.ofString "self", .local) :: (fs.map fun f => (f, .local)) ++ [(PySem.Str.ofString "__class__", .free), (PySem.Str.ofString "super", .globalImplicit)], isGenerator := false, isCoroutine := false, more := [] }
/-- what the written part says of an error's class at C, its fields fs -/
structure ErrTxt (prog : Program) (K : Frag) (fs : List Str) (C : Addr) : Prop where
  cls : ∃ nm q N bs bm sn sub ab col dd k0 k1 k2 k3 k5, K.lookup C = some (excClassObj nm q C N bs bm true sn sub ab col dd k0 k1 k2 k3 k5 "ValueError.__new__") ∧ refsVE bm = true
  sa : findIn K (.ref C) "__setattr__" = some (some (.builtin "object.__setattr__"))
  ga : findIn K (.ref C) "__getattribute__" = some (some (.builtin "BaseException.__getattribute__"))
  gg : findIn K (.ref C) "__getattr__" = some none
  noN : ∀ f ∈ fs, findIn K (.ref C) f = some none
  kC : keepIn K (.ref C) = true
  exC : subIn K (.ref C) (.type "BaseException") = some true
  veC : subIn K (.ref C) (.type "ValueError") = some true
  tyC : typeIn K (.ref C) = some (.type "type")
  hdC : hasDictIn K C = true
  own : mroIn K C (.ref C) = some true
  sup : ks_superIn K C C "__init__" = some (some (.builtin "ValueError.__init__"))
  opq : nsIn K cStatics "thirdparty.any" = some none
  gsup : nsIn K mainGlobals "super" = some none
  topN : (prog.main.scope.names.lookup ("super" : Str)).isSome = false
  kinds : (fs.all fun f => (iScope fs).names.lookup f == some .local && !(f == ("self" : Str))) = true
  dbg : ∀ f ∈ fs, (f == ("__debug__" : Str)) = false
  outs : ("__class__" : Str) ∉ fs ∧ ("super" : Str) ∉ fs
  nd : fs.Nodup
  len : fs.length ≤ 900
  init : ∃ (fI cc cda : Addr) (oc : Value) (od : Option Addr) (qual : Str) (params : Arguments) (body : List Stmt) (kV doc pm : Value) (an : Option Addr) (ct : Value) (osl : Array (Option Value)) (ccl : Value) (cdd : Option Addr) (vs : Array Value) (ccs : Array (Option Value)) (file : Str) (tf : Tok) (cl : Value) (cld : Option Addr) (csl : Array (Option Value)),
    findIn K (.ref C) "__init__" = some (some (.ref fI)) ∧ typeIn K (.ref fI) = some (.type "function") ∧
    K.lookup fI = some ⟨oc, od, .func (ksFn "__init__" qual params body (iScope fs) .none kV doc pm an (.ref cda) ct cc), osl⟩ ∧ codeIn K (.ref cda) qual = true ∧
    K.lookup cda = some ⟨ccl, cdd, .fields vs, ccs⟩ ∧ vs[2]? = some (.str file tf) ∧ ((prog.main.file : Str) == file) = true ∧ K.lookup cc = some ⟨cl, cld, .cell (some (.ref C)), csl⟩ ∧
    (∃ ar, (params.posonlyargs ++ params.args).head? = some ar ∧ ar.arg = "self") ∧
    (∃ msg j p0 p1 p2 p3 p4 p5 ps, body = supSt msg j p0 p1 p2 p3 p4 p5 :: (ps : List FldP).map setSt ∧ ps.map (·.f) = fs ∧ ∀ env, ∃ pl, supEv env pl msg j p0 p1 p2 p3 p4) ∧
    (∀ (self : Value) (us : List Value), us.length = fs.length → bindArgs (ksFn "__init__" qual params body (iScope fs) .none kV doc pm an (.ref cda) ct cc) ⟨self :: us, []⟩ = pure ((("self" : Str), self) :: fs.zip us))
/-- the attributes, the last one set first -/
def mOf : List (Str × Value) → Str → Option Value
  | [], _ => none
  | (f, v) :: r, y => if y = f then some v else mOf r y
/-- an exception of the class at C: its dict, its message's tuple -/
abbrev eO (C t1 : Addr) (d : Option Addr) : Obj := { cls := .ref C, dict := d, data := .fields #[.ref t1, .none, .none, .none, .bool false, .none] }
/-- how the dict lies: none if no field is set -/
def DictOk (h h' : Heap) (e : Addr) : List (Str × Value) → Option Addr → Prop
  | [], d => d = none
  | q :: r, d => ∃ dx, d = some dx ∧ h.objs.size ≤ dx ∧ dx ≠ e ∧ h'.Ns1 dx (mOf (q :: r))
structure ErrEnd (h h' : Heap) (e C : Addr) (fvs : List (Str × Value)) : Prop where
  keep : ∀ b o, b ≠ e → h.get? b = some o → h'.get? b = some o
  obj : ∃ t1 d, h'.get? e = some (eO C t1 d) ∧ DictOk h h' e fvs d
theorem within_mOf : ∀ l : List (Str × Value), Within (mOf l) (l.map (·.1))
  | [] => fun y hy => absurd rfl hy
  | (f, v) :: r => fun y hy => by
    by_cases e : y = f
    · subst e; exact List.mem_cons_self
    · have z : mOf ((f, v) :: r) y = mOf r y := if_neg e
      rw [z] at hy
      exact List.mem_cons_of_mem _ (within_mOf r y hy)
section
variable {prog : Program} {w : World} {A : Around} {E : Value → Shared → Prop} {R : Result → Shared → Prop} {s : Shared} {K : Frag} {mg : Str → Option Value} {C : Addr} {fs : List Str}
theorem one_size (v : Value) : [v].length ≤ sizeLine := by
  rw [sizeLine_eq]
  exact (by decide : 1 ≤ 16777216)
/-- self.f = f for the fields of ps, one after the other -/
theorem sets (T : ErrTxt prog K fs C) {env : Env} {e : Addr} {m : Str → Option Value} (hk : env.scope.kind = .function) (hself : env.kindOf "self" = some .local) (h₀ : Heap) (Q : Flow → Shared → Prop) :
    ∀ (ps : List FldP) (us : List Value) (done : List (Str × Value)) (s : Shared), ps.length = us.length → (∀ p ∈ ps, p.f ∈ fs ∧ env.kindOf p.f = some .local) → (∀ q ∈ (ps.map (·.f)).zip us, m q.1 = some q.2) → done.length + ps.length ≤ 900 → m "self" = some (.ref e) → s.heap.Ns env.locals m → env.locals ≠ e →
      (∀ b o, b ≠ e → h₀.get? b = some o → s.heap.get? b = some o) → K.In h₀ → K.lookup e = none → h₀.objs.size ≤ s.heap.objs.size →
      (∃ t1 d, s.heap.get? e = some (eO C t1 d) ∧ DictOk h₀ s.heap e done d ∧ ∀ dx, d = some dx → dx ≠ env.locals) →
      (∀ s', s'.os = s.os → s'.gens = s.gens → s'.drawn = s.drawn → ErrEnd h₀ s'.heap e C (((ps.map (·.f)).zip us).reverse ++ done) → Q .next s') →
      wpAny (model prog w) A (execs (ps.map setSt) env) Q E s
  | [], us, done, s, hl, _, _, _, _, _, _, k, _, _, _, ⟨t1, d, he, hd, _⟩, hq => by
    cases us with
    | nil => exact wpAny_execs_nil (hq s rfl rfl rfl ⟨k, t1, d, he, hd⟩)
    | cons => cases hl
  | p :: ps, us, done, s, hl, hp, hm, hz, hs, hn, hL, k, KX, hKe, hsz, ⟨t1, d, he, hd, hdL⟩, hq => by
    cases us with
    | nil => cases hl
    | cons u us =>
      obtain ⟨nm, q, N, bs, bm, sn, sub, ab, col, dd, k0, k1, k2, k3, k5, hC, hbm⟩ := T.cls
      have hcl : clsIn K C = some { name := nm, bases := bs, mro := .ref C :: bm, ns := N, qualname := q, hasDict := true, slotNames := sn, subclasses := sub, abstract := ab, collection := col, hasDel := false } := by unfold clsIn; rw [hC] <;> rfl
      have X1 : K.In s.heap := fun a o z => k a o (fun y => by rw [y, hKe] at z; cases z) (KX a o z)
      obtain ⟨pf, pl⟩ := hp p List.mem_cons_self
      have hu : m p.f = some u := hm (p.f, u) (by simp)
      have next : ∀ s', s'.os = s.os → s'.gens = s.gens → s'.drawn = s.drawn → s'.heap.Ns env.locals m → (∀ b o, b ≠ e → h₀.get? b = some o → s'.heap.get? b = some o) → h₀.objs.size ≤ s'.heap.objs.size → (∃ t1 d, s'.heap.get? e = some (eO C t1 d) ∧ DictOk h₀ s'.heap e ((p.f, u) :: done) d ∧ ∀ dx, d = some dx → dx ≠ env.locals) → wpAny (model prog w) A (execs (ps.map setSt) env) Q E s' := fun s' e1 e2 e3 hn' k' hsz' hd' => by
        refine sets T hk hself h₀ Q ps us ((p.f, u) :: done) s' (by simpa using hl) (fun z hz => hp z (List.mem_cons_of_mem _ hz)) (fun z hz => hm z (by simp at hz ⊢; exact .inr hz)) (by simp at hz ⊢; omega) hs hn' hL k' KX hKe hsz' hd' fun s2 f1 f2 f3 hE => hq s2 (f1.trans e1) (f2.trans e2) (f3.trans e3) ?_
        have z : ((p :: ps).map (·.f)).zip (u :: us) = (p.f, u) :: (ps.map (·.f)).zip us := rfl
        rw [z, List.reverse_cons, List.append_assoc]
        exact hE
      show wpAny _ _ (execs (setSt p :: ps.map setSt) env) _ _ _
      have hnd : (p.f == ("__debug__" : Str)) = false := T.dbg _ pf
      refine wpAny_execs_cons (plainObj_wpAny_Assign_Attribute (wpAny_Name (wpAny_loadName_local hk pl hn hu (wpAny_Name (wpAny_loadName_local hk hself hn hs ?_) (by decide))) hnd))
      obtain ⟨hp0, g0, d0, tk0, os0⟩ := s
      cases done with
      | nil =>
        obtain rfl : d = none := hd
        refine set_plain X1 (ox := eO C t1 none) (od := none) ⟨he, rfl, rfl, trivial⟩ T.sa ?_
        refine exc_osa X1 he hcl (show refsVE (.ref C :: bm) = true from hbm) rfl (T.noN _ pf) (fun h' tk' dx kk hdn hde hobj hns => ?_)
        have nL : dx ≠ env.locals := fun z => absurd (hn.lt) (by rw [← z]; exact Nat.not_lt.mpr hdn)
        refine next ⟨h', g0, d0, tk', os0⟩ rfl rfl rfl ?_ (fun b o hb ho => kk b o hb (k b o hb ho)) ?_ ⟨t1, some dx, hobj, ⟨dx, rfl, Nat.le_trans hsz hdn, hde, ?_⟩, fun z hz => by cases hz; exact nL⟩
        · obtain ⟨oL, es, ep, hoL, r⟩ := hn
          exact ⟨oL, es, ep, kk _ _ hL hoL, r⟩
        · obtain ⟨_, _, _, zz, _⟩ := hns
          exact Nat.le_of_lt (Nat.lt_of_le_of_lt (Nat.le_trans hsz hdn) (Heap.lt_size zz))
        · exact hns
      | cons q0 r0 =>
        obtain ⟨dx, rfl, hdn, hde, hns⟩ := hd
        have nL := hdL dx rfl
        obtain ⟨oD, esD, epD, hoD, hdD⟩ := id hns
        refine set_plain X1 (ox := eO C t1 (some dx)) (od := some oD) ⟨he, rfl, rfl, hoD⟩ T.sa ?_
        refine OEX.osa_old X1 he hns (within_mOf (q0 :: r0)) (by simp at hz ⊢; omega) hcl (show refsVE (.ref C :: bm) = true from hbm) rfl (T.noN _ pf) (fun h' tk' kk hns' => ?_)
        refine next ⟨h', g0, d0, tk', os0⟩ rfl rfl rfl ?_ (fun b o hb ho => ?_) ?_ ⟨t1, some dx, kk _ _ (Ne.symm hde) he, ⟨dx, rfl, hdn, hde, hns'⟩, fun z hz => by cases hz; exact nL⟩
        · obtain ⟨oL, es, ep, hoL, r⟩ := hn
          exact ⟨oL, es, ep, kk _ _ (Ne.symm nL) hoL, r⟩
        · exact kk b o (fun z => absurd (Heap.lt_size ho) (by rw [z]; exact Nat.not_lt.mpr hdn)) (k b o hb ho)
        · have z1 := Heap.lt_size (kk _ _ (Ne.symm hde) he)
          obtain ⟨_, _, _, zz, _⟩ := hns'
          exact Nat.le_of_lt (Nat.lt_of_le_of_lt hdn (Heap.lt_size zz))

theorem lookup_zip {x : Str} {u : Value} : ∀ {fs : List Str} {us : List Value}, fs.Nodup → (x, u) ∈ fs.zip us → (fs.zip us).reverse.lookup x = some u := fun {fs us} nd h => by
  have key : ∀ (l : List (Str × Value)), (l.map (·.1)).Nodup → (x, u) ∈ l → l.lookup x = some u := by
    intro l
    induction l with
    | nil => intro _ z; cases z
    | cons p r ih =>
      intro n z
      obtain ⟨f, v⟩ := p
      have n1 := List.nodup_cons.mp n
      rcases List.mem_cons.mp z with e | e
      · cases e
        simp [List.lookup]
      · have ne : x ≠ f := fun q => n1.1 (List.mem_map.mpr ⟨_, e, q⟩)
        have ne2 : (x == f) = false := by simpa using ne
        simp only [List.lookup, ne2]
        exact ih n1.2 e
  refine key _ ?_ (List.mem_reverse.mpr h)
  rw [List.map_reverse]
  have sub : ((fs.zip us).map (·.1)).Sublist fs := by
    clear h key
    induction fs generalizing us with
    | nil => simp
    | cons f r ih =>
      cases us with
      | nil => simp
      | cons v vs => simp only [List.zip_cons_cons, List.map_cons]; exact (ih (List.nodup_cons.mp nd).2).cons_cons f
  have q := nd.sublist sub
  exact List.pairwise_reverse.mpr (q.imp fun h => Ne.symm h)
theorem call_mw {h : Heap} {g : Array GenState} {d : Drawn} {t : Nat} {os : OsState} {u e t0 N : Addr} {nm q : Str} {bs bm : List Value} {hdct : Bool} {sn : List Str} {sub : List Value} {ab : Bool} {col : Option Bool} {dd : Option Addr} {k0 k1 k2 k3 k5 : Option Value} {rest : List Value} {Q : Value → Shared → Prop}
    (he : h.get? e = some (excO C t0)) (hu : h.get? u = some (kxs_mw "ValueError.__init__" e)) (hC : h.get? C = some (excClassObj nm q C N bs bm hdct sn sub ab col dd k0 k1 k2 k3 k5 "ValueError.__new__")) (hrest : rest.length ≤ sizeLine)
    (hq : ∀ h' t1, (∀ b o, b ≠ e → h.get? b = some o → h'.get? b = some o) → h'.get? e = some (excO C t1) → Q .none ⟨h', g, d, t, os⟩) :
    wpAny (model prog w) A (call (.ref u) rest) Q E ⟨h, g, d, t, os⟩ := by
  refine wpAny_call (codeAny_of_tree ?_)
  show wpAny _ A.in1 (callAny (.ref u) ⟨rest, []⟩) _ _ _
  simp only [callAny]
  refine wpAny_bind (wpAny_load hu ?_)
  simp only [kxs_mw, show (Value.type "method-wrapper" == Value.type "method" || Value.type "method-wrapper" == Value.type "builtin_function_or_method" || Value.type "method-wrapper" == Value.type "method-wrapper") = true by decide, if_true]
  refine KFB.if_so (by decide) ?_
  refine wpAny_bind (check_bound_init F.excBase_ValueError.toExcCallFacts hC he rfl ?_)
  refine wpAny_bind (wpAny_pure (wpAny_pure ?_))
  refine ⟨plainId_quiet F.excBase_ValueError.init.plain _, codeAny_builtin F.excBase_ValueError.initEntry ?_⟩
  exact exc_init_tree (cls := .ref C) (t0 := t0) (dv := none) (c2 := .none) (c3 := .none) (b4 := .bool false) he hrest fun h' k a b => hq h' _ k a
theorem err_init (T : ErrTxt prog K fs C) {e t0 fI : Addr} {us : List Value} (hI : findIn K (.ref C) "__init__" = some (some (.ref fI))) (hl : us.length = fs.length) (X : K.In s.heap) (hg : s.heap.Ns mainGlobals mg) (hb : ∃ mb, s.heap.Ns builtinsNs mb ∧ ∀ x : Str, x ≠ "__name__" → mb x = bootBuiltins x)
    (hlim : s.heap.NoLimit) (hx : s.heap.get? e = some (excO C t0)) (hnx : K.lookup e = none) (hroom : A.depth < recursionLimit)
    (hq : ∀ s', s'.os = s.os → s'.gens = s.gens → s'.drawn = s.drawn → ErrEnd s.heap s'.heap e C (fs.zip us).reverse → R (.ok (.ret .none)) s') :
    codeAny (model prog w) A (.call (.ref fI) ⟨.ref e :: us, []⟩) R s := by
  obtain ⟨fI', cc, cda, oc, od, qual, params, body, kV, doc, pm, an, ct, osl, ccl, cdd, vs, ccs, file, tf, cl, cld, csl, i1, i2, ho, hcd, hcode, hvs, hfile, hcell, ⟨ar, har, hara⟩, ⟨msg, j, p0, p1, p2, p3, p4, p5, ps, rfl, hps, hev⟩, hbind⟩ := T.init
  rw [hI] at i1
  cases i1
  obtain ⟨nm, q, N, bs, bm, sn, sub, ab, col, dd, k0, k1, k2, k3, k5, hC, hbm⟩ := T.cls
  have hcl : clsIn K C = some { name := nm, bases := bs, mro := .ref C :: bm, ns := N, qualname := q, hasDict := true, slotNames := sn, subclasses := sub, abstract := ab, collection := col, hasDel := false } := by unfold clsIn; rw [hC] <;> rfl
  obtain ⟨mb, hmb, hmbv⟩ := hb
  have kin : ∀ f ∈ fs, (iScope fs).names.lookup f = some .local := fun f hf => by
    have z := List.all_eq_true.mp T.kinds f hf
    simp only [Bool.and_eq_true, beq_iff_eq] at z
    exact z.1
  have nself : ∀ f ∈ fs, f ≠ "self" := fun f hf => by
    have z := List.all_eq_true.mp T.kinds f hf
    simp only [Bool.and_eq_true, Bool.not_eq_true', beq_eq_false_iff_ne] at z
    exact z.2
  have hcellN : ∀ y ∈ (iScope fs).names, y.2 ≠ .cell := fun y hy => by
    rcases List.mem_append.mp (show y ∈ ((PySem.Str.ofString "self", NameKind.local) :: fs.map fun f => (f, NameKind.local)) ++ [(PySem.Str.ofString "__class__", NameKind.free), (PySem.Str.ofString "super", NameKind.globalImplicit)] from hy) with z | z
    · rcases List.mem_cons.mp z with z | z
      · rw [z]; decide
      · obtain ⟨f, _, rfl⟩ := List.mem_map.mp z
        exact fun q => nomatch (show NameKind.local = NameKind.cell from q)
    · rcases List.mem_cons.mp z with z | z
      · rw [z]; decide
      · rcases List.mem_cons.mp z with z | z
        · rw [z]; decide
        · cases z
  have look : ∀ x : Str, x ≠ "self" → x ∉ fs → (iScope fs).names.lookup x = ([(PySem.Str.ofString "__class__", NameKind.free), (PySem.Str.ofString "super", NameKind.globalImplicit)] : List (Str × NameKind)).lookup x := fun x h1 h2 => by
    show ((PySem.Str.ofString "self", NameKind.local) :: ((fs.map fun f => (f, NameKind.local)) ++ [(PySem.Str.ofString "__class__", NameKind.free), (PySem.Str.ofString "super", NameKind.globalImplicit)])).lookup x = _
    have e1 : (x == (PySem.Str.ofString "self")) = false := by simpa using h1
    rw [List.lookup_cons, e1]
    show ((fs.map fun f => (f, NameKind.local)) ++ _).lookup x = _
    have key : ∀ (l : List Str) (r : List (Str × NameKind)), x ∉ l → ((l.map fun f => (f, NameKind.local)) ++ r).lookup x = r.lookup x := by
      intro l r
      induction l with
      | nil => intro _; rfl
      | cons a l ih =>
        intro hn
        have e2 : (x == a) = false := by simpa using (fun z => hn (by rw [z]; exact List.mem_cons_self))
        show ((a, NameKind.local) :: ((l.map fun f => (f, NameKind.local)) ++ r)).lookup x = _
        rw [List.lookup_cons, e2]
        exact ih fun z => hn (List.mem_cons_of_mem _ z)
    exact key fs _ h2
  have cls_in := T.outs.1
  have sup_in := T.outs.2
  have hks : (iScope fs).names.lookup ("super" : Str) = some .globalImplicit := by rw [look _ (by decide) sup_in]; rfl
  have hkc : (iScope fs).names.lookup ("__class__" : Str) = some .free := by rw [look _ (by decide) cls_in]; rfl
  refine ks_codeAny_call_defAt (fd := ksFn "__init__" qual params (supSt msg j p0 p1 p2 p3 p4 p5 :: ps.map setSt) (iScope fs) .none kV doc pm an (.ref cda) ct cc) (body := supSt msg j p0 p1 p2 p3 p4 p5 :: ps.map setSt) (binds := (("self" : Str), .ref e) :: fs.zip us) hroom (X _ _ ho) rfl hlim (codeRec_of X hcd) rfl (BindsTo.of_eq (hbind _ _ hl)) hcellN (fun y hy => ?_) (fun h1 hns hk => ?_) rfl rfl rfl
  · rcases List.mem_cons.mp hy with z | z
    · rw [z]; rfl
    · exact kin _ (List.of_mem_zip z).1
  have X1 : K.In h1 := X.keeps hk
  have hx1 := hk _ _ hx
  have hself : (((("self" : Str), Value.ref e) :: fs.zip us).reverse).lookup ("self" : Str) = some (.ref e) := by
    rw [List.reverse_cons]
    have key : ∀ (l : List (Str × Value)), (∀ p ∈ l, p.1 ≠ "self") → (l ++ [(("self" : Str), Value.ref e)]).lookup ("self" : Str) = some (.ref e) := by
      intro l
      induction l with
      | nil => intro _; rfl
      | cons p r ih =>
        intro hp
        have e1 : ((PySem.Str.ofString "self") == p.1) = false := by simpa using Ne.symm (hp p List.mem_cons_self)
        show (p :: (r ++ _)).lookup _ = _
        obtain ⟨p1, p2⟩ := p
        rw [List.lookup_cons, e1]
        exact ih fun z hz => hp z (List.mem_cons_of_mem _ hz)
    exact key _ fun p hp => nself _ (List.of_mem_zip (List.mem_reverse.mp hp)).1
  obtain ⟨pl, hev⟩ := hev (callEnv (ksFn "__init__" qual params (supSt msg j p0 p1 p2 p3 p4 p5 :: ps.map setSt) (iScope fs) .none kV doc pm an (.ref cda) ct cc) s.heap.objs.size fI)
  refine ks_wpAt_execs_cons (ks_wpAt_Expr_any (ks_wpAt_MethodCall (pl := pl) ?_ hev))
  refine ks_wpAt_super_base (env := callEnv (ksFn "__init__" qual params (supSt msg j p0 p1 p2 p3 p4 p5 :: ps.map setSt) (iScope fs) .none kV doc pm an (.ref cda) ct cc) s.heap.objs.size fI) hks hkc (by decide) rfl (X1 _ _ ho) rfl har rfl (X1 _ _ hcode) rfl hvs hfile T.topN ?_
  refine ks_loadName_global rfl hks (loadGlobal_builtin (hg.keeps hk) (mg_none_of X hg T.gsup) (hmb.keeps hk) ((hmbv _ (by decide +kernel)).trans (by first | boot_by_name | rfl | kernel_rfl)) ⟨rfl, ?_⟩)
  refine wpAny_loadName_free rfl hkc rfl ⟨_, X1 _ _ hcell, rfl⟩ ?_
  rw [hara]
  refine wpAny_loadName_local (v := .ref e) rfl rfl hns hself ?_
  refine ks_wpAny_isType_cls (X1 _ _ hC) rfl ⟨rfl, ?_⟩
  refine ks_wpAny_call_super (X1 _ _ hC) rfl hx1 rfl (fun c z => by cases z) (looks_mroIn X1 T.own) (fun h2 hso k2 => ?_)
  have X2 : K.In h2 := X1.keeps k2
  have hx2 := k2 _ _ hx1
  have J2 : InstAt h2 e (excO C t0) C none := ⟨hx2, rfl, rfl, trivial⟩
  have hsup := T.sup
  unfold ks_superIn at hsup
  rw [hcl] at hsup
  refine kxs_getMethod kxs_ValueError hso (looks_opaque X2 T.opq) (l₀ := .ref C :: bm) ((looks_clsIn X2 hcl).andThen .now) rfl X2 hsup (J2.type.andThen (looks_subIn X2 T.veC)) (ks_ne X2 J2 hcl) (by decide) ?_
  refine kxs_callWith (i := "ValueError.__init__") (x := e) rfl ?_
  refine evalArgs_plain (spliced_cons (Constant_str (k := j) (pos := p3) (spliced_nil ⟨?_, ?_⟩)))
  · show (h2.push (kxs_mw "ValueError.__init__" e)).get? h2.objs.size = some _
    exact Heap.get?_push_size h2 rfl
  · have hx3 : (h2.push (kxs_mw "ValueError.__init__" e)).get? e = some (excO C t0) := Heap.get?_push_of_some _ hx2
    refine call_mw hx3 (Heap.get?_push_size h2 rfl) (Heap.get?_push_of_some _ (X2 _ _ hC)) (one_size _) (fun h4 t1 k4 hx4 => ?_)
    show wpAt _ _ _ (execs (ps.map setSt) _) _ _ _
    refine wpAt_of_wpAny ?_
    have keep4 : ∀ b o, b ≠ e → s.heap.get? b = some o → h4.get? b = some o := fun b o hb ho => k4 b o hb (Heap.get?_push_of_some _ (k2 b o (hk b o ho)))
    have ltL := hns.lt
    have hLe : s.heap.objs.size ≠ e := Nat.ne_of_gt (Heap.lt_size hx)
    have hn4 : h4.Ns s.heap.objs.size fun x => List.lookup x ((("self" : Str), Value.ref e) :: fs.zip us).reverse := by
      obtain ⟨oL, es, ep, hoL, r⟩ := hns
      exact ⟨oL, es, ep, k4 _ _ hLe (Heap.get?_push_of_some _ (k2 _ _ hoL)), r⟩
    refine sets (us := us) (done := []) T rfl rfl s.heap _ ps _ (by rw [← hps, List.length_map] at hl; exact hl.symm) (fun p hp => ?_) (fun z hz => ?_) ?_ hself hn4 hLe keep4 X hnx (Nat.le_of_lt hn4.lt) ⟨t1, none, hx4, rfl, fun dx z => nomatch z⟩ (fun s' e1 e2 e3 hE => ?_)
    · have pin : p.f ∈ fs := by rw [← hps]; exact List.mem_map_of_mem hp
      exact ⟨pin, kin _ pin⟩
    · rw [hps] at hz
      show List.lookup z.1 ((("self" : Str), Value.ref e) :: fs.zip us).reverse = some z.2
      rw [List.reverse_cons]
      have q1 := lookup_zip T.nd hz
      have app : ∀ (l r : List (Str × Value)) (v : Value), l.lookup z.1 = some v → (l ++ r).lookup z.1 = some v := by
        intro l r v
        induction l with
        | nil => intro q; cases q
        | cons a l ih =>
          obtain ⟨a1, a2⟩ := a
          intro q
          show ((a1, a2) :: (l ++ r)).lookup z.1 = some v
          rw [List.lookup_cons] at q ⊢
          cases qq : (z.1 == a1) with
          | true => rw [qq] at q; exact q
          | false => rw [qq] at q; exact ih q
      exact app _ _ _ q1
    · have z := T.len
      rw [← hps, List.length_map] at z
      simpa using z
    · rw [hps, List.append_nil] at hE
      exact hq s' e1 e2 e3 hE

/-- a made error -/
structure Made (h h' : Heap) (e C : Addr) (fvs : List (Str × Value)) : Prop where
  keep : ∀ b o, h.get? b = some o → h'.get? b = some o
  new : h.objs.size ≤ e
  obj : ∃ t1 d, h'.get? e = some (eO C t1 d) ∧ DictOk h h' e fvs d
theorem err_made (T : ErrTxt prog K fs C) {us : List Value} (hl : us.length = fs.length) (X : K.In s.heap) (hg : s.heap.Ns mainGlobals mg) (hb : ∃ mb, s.heap.Ns builtinsNs mb ∧ ∀ x : Str, x ≠ "__name__" → mb x = bootBuiltins x)
    (hlim : s.heap.NoLimit) (hroom : A.depth + 1 < recursionLimit) (hq : ∀ s' e, s'.os = s.os → s'.gens = s.gens → s'.drawn = s.drawn → Made s.heap s'.heap e C (fs.zip us).reverse → R (.ok (.ret (.ref e))) s') :
    codeAny (model prog w) A (.call (.ref C) ⟨us, []⟩) R s := by
  obtain ⟨nm, q, N, bs, bm, sn, sub, ab, col, dd, k0, k1, k2, k3, k5, hC, hbm⟩ := T.cls
  obtain ⟨fI, cc, cda, oc, od, qual, params, body, kV, doc, pm, an, ct, osl, ccl, cdd, vs, ccs, file, tf, cl, cld, csl, i1, i2, _⟩ := T.init
  obtain ⟨hp, g, dr, tk, os⟩ := s
  have k : ∀ b o, hp.get? b = some o → ((hp.push (kdv_tup us)).push (excO C hp.objs.size)).get? b = some o := fun b o e => Heap.get?_push_of_some _ (Heap.get?_push_of_some _ e)
  have hget : ((hp.push (kdv_tup us)).push (excO C hp.objs.size)).get? (hp.objs.size + 1) = some (excO C hp.objs.size) := by heap_get
  have hnx : K.lookup (hp.objs.size + 1) = none := by
    cases e : K.lookup (hp.objs.size + 1) with
    | none => rfl
    | some o =>
      have z : hp.get? (hp.objs.size + 1) = some o := X _ _ e
      exact absurd (Nat.lt_of_succ_lt (Heap.lt_size z)) (Nat.lt_irrefl _)
  have usz : us.length ≤ sizeLine := by have := T.len; rw [hl, sizeLine_eq]; omega
  refine call_own F.excBase_ValueError (fun X => refsVE_contains X bm hbm) (X _ _ hC) (looks_findIn X i1) (fun self => bind_fn X self i2) usz ?_
  refine err_init (s := ⟨(hp.push (kdv_tup us)).push (excO C hp.objs.size), g, dr, tk, os⟩) T i1 hl (X.keeps k) (hg.keeps k) (by obtain ⟨mb, h1, h2⟩ := hb; exact ⟨mb, h1.keeps k, h2⟩) (hlim.keeps k) hget hnx ?_ fun s' e1 e2 e3 hE => ?_
  · show A.depth + 1 < recursionLimit
    exact hroom
  · obtain ⟨k', t1, d, hobj, hd⟩ := hE
    have old : ∀ b o, hp.get? b = some o → s'.heap.get? b = some o := fun b o e => k' b o (Nat.ne_of_lt (Nat.lt_succ_of_lt (Heap.lt_size e))) (k b o e)
    refine ⟨rfl, hq s' (hp.objs.size + 1) e1 e2 e3 ⟨old, Nat.le_succ _, t1, d, hobj, ?_⟩⟩
    cases z : (fs.zip us).reverse with
    | nil => rw [z] at hd; exact hd
    | cons a r =>
      rw [z] at hd
      obtain ⟨dx, rfl, h1, h2, h3⟩ := hd
      refine ⟨dx, rfl, Nat.le_trans ?_ h1, h2, h3⟩
      show hp.objs.size ≤ ((hp.push (kdv_tup us)).push (excO C hp.objs.size)).objs.size
      rw [Heap.size_push, Heap.size_push]
      omega
end
end ErrX
end PySem

namespace L2
open PySem PySem.Spec PyProof.Rows
theorem relO_mOf {vs : List V} {us : List Value} (r : Vals vs us) : ∀ (fs : List Str) (g : Str), RelO (((fs.zip vs).reverse).lookup g) (ErrX.mOf (fs.zip us).reverse g) := by
  have key : ∀ (l : List (Str × V)) (m : List (Str × Value)), Paired (fun (p : Str × V) (q : Str × Value) => p.1 = q.1 ∧ RelV p.2 q.2) l m → ∀ g, RelO (l.lookup g) (ErrX.mOf m g) := by
    intro l m h
    induction h with
    | nil => intro g; trivial
    | cons a _ ih =>
      rename_i p q l m _
      obtain ⟨p1, p2⟩ := p
      obtain ⟨q1, q2⟩ := q
      obtain ⟨e, rv⟩ := a
      dsimp only at e rv
      subst e
      intro g
      rw [lookup_put]
      show RelO _ (if g = p1 then some q2 else ErrX.mOf m g)
      by_cases h : g = p1
      · rw [if_pos h, if_pos h]; exact rv
      · rw [if_neg h, if_neg h]; exact ih g
  intro fs g
  refine key _ _ ?_ g
  have zp : ∀ (fs : List Str) {vs : List V} {us : List Value}, Vals vs us → Paired (fun (p : Str × V) (q : Str × Value) => p.1 = q.1 ∧ RelV p.2 q.2) (fs.zip vs) (fs.zip us) := by
    intro fs
    induction fs with
    | nil => intro vs us _; exact .nil
    | cons f r ih =>
      intro vs us rr
      cases rr with
      | nil => exact .nil
      | cons a b => exact .cons ⟨rfl, a⟩ (ih b)
  have app : ∀ {l1 l2 : List (Str × V)} {m1 m2 : List (Str × Value)}, Paired (fun (p : Str × V) (q : Str × Value) => p.1 = q.1 ∧ RelV p.2 q.2) l1 m1 → Paired (fun (p : Str × V) (q : Str × Value) => p.1 = q.1 ∧ RelV p.2 q.2) l2 m2 → Paired (fun (p : Str × V) (q : Str × Value) => p.1 = q.1 ∧ RelV p.2 q.2) (l1 ++ l2) (m1 ++ m2) := by
    intro l1 l2 m1 m2 h1 h2
    induction h1 with
    | nil => exact h2
    | cons a _ ih => exact .cons a ih
  have rev : ∀ {l : List (Str × V)} {m : List (Str × Value)}, Paired (fun (p : Str × V) (q : Str × Value) => p.1 = q.1 ∧ RelV p.2 q.2) l m → Paired (fun (p : Str × V) (q : Str × Value) => p.1 = q.1 ∧ RelV p.2 q.2) l.reverse m.reverse := by
    intro l m h
    induction h with
    | nil => exact .nil
    | cons a _ ih => rw [List.reverse_cons, List.reverse_cons]; exact app ih (.cons a .nil)
  exact rev (zp fs r)
section
variable {X : Cx} {C : Addr} {fs : List Str} {x : Str}
/-- X(e, ..): an error with its fields (its dict d; none where it has none) -/
def tMkErr (C : Addr) (fs : List Str) (ta : TA) : St → Hp → XK → Prop := fun σ H Q => ta σ H fun vs H1 => vs.length = fs.length ∧
  (fs = [] → Q (.ref C) none H1) ∧ (fs ≠ [] → ∀ d, H1 d = none → Q (.ref C) (some d) (upd H1 d (.xd (fs.zip vs).reverse)))
theorem mk_err {pins : List (Addr × Obj)} {s1 : Shared} {σ : St} {H1 : Hp} {Q : XK} {us : List Value} {vs : List V} {k : Nat} (T : ErrX.ErrTxt X.prog X.K fs C) (hr : Room k X.A) (I1 : Inv X pins σ H1 s1) (r1 : Vals vs us) (hl : vs.length = fs.length)
    (q0 : fs = [] → Q (.ref C) none H1) (q1 : fs ≠ [] → ∀ d, H1 d = none → Q (.ref C) (some d) (upd H1 d (.xd (fs.zip vs).reverse))) : wpAny (model X.prog X.w) X.A (call (.ref C) us) (MkP X pins σ Q) X.xe s1 := by
  have hlim := I1.nolimit
  have hul : us.length = fs.length := by rw [← r1.length]; exact hl
  obtain ⟨hp, g, dr, tk, os⟩ := s1
  refine wpAny_call (ErrX.err_made T hul I1.kIn (I1.ok.mod.glob.keeps I1.bk) (by obtain ⟨mb, h1, h2⟩ := I1.ok.mod.blt; exact ⟨mb, h1.keeps I1.bk, h2⟩) hlim (by have := hr.dp; omega) fun s' e e1 e2 e3 M => ?_)
  obtain ⟨h', g', dr', tk', os'⟩ := s'
  obtain rfl : os' = os := e1
  obtain rfl : g' = g := e2
  obtain rfl : dr' = dr := e3
  show MkP X pins σ Q (.ref e) ⟨h', g', dr', tk', os'⟩
  obtain ⟨t1, d, hoe, hd⟩ := M.obj
  obtain ⟨G', g1, g2⟩ := restrict h' fun b => decide (b ≠ e)
  have gk : ∀ b, b ≠ e → G'.get? b = h'.get? b := fun b hb => g1 b (decide_eq_true hb)
  have ge : G'.get? e = none := g2 e (by simp)
  have old : ∀ b o, hp.get? b = some o → G'.get? b = some o := fun b o q => (gk b (Nat.ne_of_lt (Nat.lt_of_lt_of_le (Heap.lt_size q) M.new))).trans (M.keep b o q)
  have back : ∀ b o, G'.get? b = some o → h'.get? b = some o := fun b o q => by
    by_cases hb : b = e
    · rw [hb, ge] at q; cases q
    · exact (gk b hb).symm.trans q
  cases z : (fs.zip us).reverse with
  | nil =>
    rw [z] at hd
    obtain rfl : d = none := hd
    have fe : fs = [] := by
      cases fs with
      | nil => rfl
      | cons a r =>
        cases us with
        | nil => simp at hul
        | cons u us => simp at z
    have J : Inv X pins σ H1 ⟨G', g', dr', tk', os'⟩ := I1.kept (t' := tk') old
    exact ⟨e, _, _, ⟨G', g', dr', tk', os'⟩, _, .ref C, none, rfl, J, back, ge, hoe, ⟨rfl, rfl⟩, rfl, rfl, I1.hok.fresh M.new, rfl, I1.bare, raises_own T.exC T.tyC, q0 fe⟩
  | cons a r =>
    rw [z] at hd
    obtain ⟨dx, rfl, dbig, dne, hns⟩ := hd
    have fe : fs ≠ [] := fun q => by subst q; simp at z
    have ob : ObjOk X.prog X.w (upd H1 dx (.xd (fs.zip vs).reverse)) G' dx (.xd (fs.zip vs).reverse) :=
      ⟨_, hns.at (fun o q => (gk dx dne).trans q), fun f => by rw [← z]; exact relO_mOf r1 fs f⟩
    have J : Inv X pins σ (upd H1 dx (.xd (fs.zip vs).reverse)) ⟨G', g', dr', tk', os'⟩ := I1.laid (t' := tk') old dbig ob
    refine ⟨e, _, _, ⟨G', g', dr', tk', os'⟩, _, .ref C, some dx, rfl, J, back, ge, hoe, ⟨rfl, rfl⟩, rfl, rfl, ?_, rfl, I1.bare, raises_own T.exC T.tyC, q1 fe dx (I1.hok.fresh dbig)⟩
    rw [upd_ne (Ne.symm dne)]
    exact I1.hok.fresh M.new
theorem pmk_err {a : Expr} {as : List Expr} {ta : TA} {p pos : Pos} {k : Nat} (T : ErrX.ErrTxt X.prog X.K fs C) (hm : X.mg x = some (.ref C)) (hr : Room k X.A) (ha : PA X (a :: as) ta) (hg : Gl X x := by rfl) (hdb : (x == ("__debug__" : Str)) = false := by decide)
    (he : starEach (a :: as) X.env = (false, eval a X.env) :: starEach as X.env := by rfl) (hpl : (backTo pos (starEach as X.env)).any (·.1) = false := by rfl) :
    PMk X (.Call (.Name x p) (a :: as) [] pos) (tMkErr C fs ta) := by
  intro pins s σ H Q I h
  refine wpAny_Call_Name_kw (ld_glob I hg hm ?_ hdb)
  refine PySem.W.callWith_K (h₀ := X.base) I.ok.mod.kin T.kC (thn (ha.run pos pins s σ H _ I h) fun us s1 hh => ?_) he hpl
  obtain ⟨vs, H1, I1, r1, hl, q0, q1⟩ := hh
  exact ⟨I1.kIn, mk_err T hr I1 r1 hl q0 q1⟩
end
end L2


set_option Elab.async false
set_option linter.all false
set_option maxRecDepth 100000
set_option maxHeartbeats 4000000
/-! try with several except clauses, with and without a name; an error's fields and isinstance in a suite -/
namespace L2
open PySem PySem.Spec PyProof.Rows
/-- an except clause: its class, the slot of its name (if any), its suite -/
structure Cl where
  c : Value
  slot : Option Nat
  ts : Addr → Value → Option Addr → TS
/-- where a suite ends: its name goes -/
def dropAt (o : Option Nat) (D : Ends) : Ends := match o with
  | none => D
  | some i => { nx := fun z => D.nx (z.set i none), rt := D.rt, bk := fun z => D.bk (z.set i none), ct := fun z => D.ct (z.set i none) }
def putAt (o : Option Nat) (a : Addr) (z : St) : St := match o with
  | none => z
  | some i => z.set i (some (.ref a))
def wCl (K : PySem.W.Frag) (Wout : WX) (D : Ends) : List Cl → WX
  | [] => Wout
  | k :: r => fun cls d z H => ∃ b, PySem.W.exmOne K cls k.c = some b ∧ (b = true → ∀ a, H a = none → k.ts a cls d (dropAt k.slot D) (putAt k.slot a z) H) ∧ (b = false → wCl K Wout D r cls d z H)
inductive ClsOk (X : Cx) : List ExceptHandler → List Cl → Prop
  | nil : ClsOk X [] []
  | bare {x : Str} {k : Cl} {b0 : Stmt} {su : List Stmt} {np p : Pos} {hds : List ExceptHandler} {l : List Cl} (hc : Names X x k.c) (hk : k.slot = none)
      (hsu : ∀ (a : Addr) (oe : Obj) (cls : Value) (d : Option Addr) (pn : List (Addr × Obj)), Zc cls d oe → (∃ vs, oe.data = .fields vs) → PSs (X.suite a ((a, oe) :: pn)) (b0 :: su) (k.ts a cls d)) (r : ClsOk X hds l) :
      ClsOk X (.ExceptHandler (some (.Name x np)) none (b0 :: su) p :: hds) (k :: l)
  | named {x n : Str} {i : Nat} {k : Cl} {b0 : Stmt} {su : List Stmt} {np p : Pos} {hds : List ExceptHandler} {l : List Cl} (hc : Names X x k.c) (hk : k.slot = some i) (hi : X.N[i]? = some n) (hln : X.env.kindOf n = some .local)
      (hsu : ∀ (a : Addr) (oe : Obj) (cls : Value) (d : Option Addr) (pn : List (Addr × Obj)), Zc cls d oe → (∃ vs, oe.data = .fields vs) → PSs (X.suite a ((a, oe) :: pn)) (b0 :: su) (k.ts a cls d)) (r : ClsOk X hds l) :
      ClsOk X (.ExceptHandler (some (.Name x np)) (some n) (b0 :: su) p :: hds) (k :: l)
section
variable {X : Cx}
/-- the clauses, looked at one after the other, with the exception at a in the air -/
theorem clauses_go {B : Heap} {a : Addr} {pins : List (Addr × Obj)} {D : Ends} {sI s' : Shared} {h3 : Heap} {z : St} {H : Hp} {cls : Value} {d : Option Addr} {Wout : WX} (hs : X.stack = X.env :: X.outer) (hf : X.env.frame = some X.env.locals) (hN : X.N.Nodup) (tk : Takes X Wout) (ok : X.Ok)
    (J : Inv X pins z H sI) (nb : ∀ b o, sI.heap.get? b = some o → b ∉ frs X.stack → B.get? b = some o) (up : sI.heap.UpToSlots h3) (fl : HandSPX.FlyingZ B (X.env :: X.outer) a (Zc cls d) h3) (na : H a = none) (os : s'.os = sI.os) (ag : AllBare s'.gens) :
    ∀ {hds : List ExceptHandler} {l : List Cl}, ClsOk X hds l → wCl X.K Wout D l cls d z H → wpAny (model X.prog X.w) X.A (handleBy (.ref a) X.env hds) (SP X pins D) X.xe { s' with heap := h3 } := by
  have J3 : Inv X pins z H { s' with heap := h3 } := J.landed (s' := { s' with heap := h3 }) nb fl.1 up os ag
  obtain ⟨oe, vs, he, hz, hd⟩ := fl.there
  have nfr : a ∉ frs (X.env :: X.outer) := fun hm => by
    obtain ⟨_, o', e', hnf⟩ := fl.2.2.1.mem hm
    rw [he] at e'
    cases e'
    exact hnf _ hd
  have nL : a ≠ X.env.locals := fun q => nfr (List.mem_filterMap.mpr ⟨X.env, List.mem_cons_self, by rw [hf, q]⟩)
  have nF : a ∉ X.fs := fun hm => by
    obtain ⟨e, h1, q⟩ := List.mem_filterMap.mp hm
    exact nfr (List.mem_filterMap.mpr ⟨e, List.mem_cons_of_mem _ h1, q⟩)
  have S3 := J3.suite he hd na nL nF
  have LT : PySem.W.Looks (model X.prog X.w) h3 (typeOf (.ref a)) cls := fun A Q E s k q => wpAny_typeOf_ref (k _ _ he) (by rw [hz.1]; exact q)
  have test : ∀ {x : Str} {c : Value} {np : Pos}, Names X x c → ∀ {Q : Value → Shared → Prop} {E : Value → Shared → Prop}, Q c { s' with heap := h3 } → wpAny (model X.prog X.w) (X.A.mark (some (.ref a))) (eval (.Name x np) X.env) Q E { s' with heap := h3 } := by
    intro x c np hc Q E q
    obtain ⟨hg, hdb, hm | ⟨hm, hv, hn⟩⟩ := hc
    · exact ld_glob (X := X.suite a ((a, oe) :: (X.pn ++ pins))) S3 hg hm q hdb
    · exact ld_blt (X := X.suite a ((a, oe) :: (X.pn ++ pins))) S3 hg hm hv q hn hdb
  intro hds l hk
  induction hk with
  | nil =>
    intro w
    refine wpAny_handleBy_nil ?_
    obtain ⟨k1, k2, k3, oe', vs', T, oT, ts', he', hz', hd', h1, hr⟩ := id fl
    unfold PySem.passOn
    refine wpAny_bind (wpAny_field he' hd' h1 ?_)
    rw [if_neg (show ¬ ((Value.ref T == Value.none) = true) from by simp)]
    have out : wpAny (model X.prog X.w) X.A (setFlight (.ref a) X.env.frame) (fun _ s4 => wpAny (model X.prog X.w) X.A (throw (.ref a) : Sem Flow) (SP X pins D) X.xe s4) X.xe { s' with heap := h3 } := by
      rw [hf]
      exact HandSPX.setFlight_upZ fl fun h4 hh4 up4 => wpAny_throw (tk _ _ ⟨a, B, sI, pins, z, H, cls, d, rfl, J, nb, up.trans up4, .inr (.inr (by rw [hs]; exact hh4)), na, os, ag, w⟩)
    first
      | exact wpAny_bind (wpAny_pure (wpAny_bind out))
      | exact wpAny_bind out
  | @bare x k b0 su np p hds2 l2 hc hk hsu r ih =>
    intro w
    obtain ⟨b, hb1, hyes, hno⟩ := w
    refine wpAny_handleBy_cons (codeAny_handlers_test ?_) (by intro q; cases q)
    refine test hc ((PySem.W.exm_one (M := model X.prog X.w) J3.kIn LT hb1).here ?_)
    cases b with
    | false => exact ih (hno rfl)
    | true =>
      refine codeAny_handlers_suite (HandSPX.lands_againZ fl fun h4 fl4 up4 => ?_)
      have J4 : Inv X pins z H { s' with heap := h4 } := J.landed (s' := { s' with heap := h4 }) nb fl4.1 (up.trans up4) os ag
      obtain ⟨oe4, vs4, he4, hz4, hd4⟩ := fl4.there
      have go := hyes rfl a na
      rw [hk] at go
      refine wpAny_mono ((hsu a oe4 cls d (X.pn ++ pins) hz4 ⟨_, hd4⟩).run [] _ _ H _ (J4.suite he4 hd4 na nL nF) go) (fun f s6 hsp => ?_) (fun _ _ q => False.elim q)
      cases f with
      | ret u =>
        obtain ⟨v6, z6, H6, S6, r6, q6⟩ := hsp
        exact ⟨_, _, _, S6.unsuite ok, r6, q6⟩
      | next | brk | cont =>
        obtain ⟨z6, H6, S6, q6⟩ := hsp
        exact ⟨_, _, S6.unsuite ok, q6⟩
  | @named x n i k b0 su np p hds2 l2 hc hk hi hln hsu r ih =>
    intro w
    obtain ⟨b, hb1, hyes, hno⟩ := w
    refine wpAny_handleBy_cons (codeAny_handlers_test ?_) (by intro q; cases q)
    refine test hc ((PySem.W.exm_one (M := model X.prog X.w) J3.kIn LT hb1).here ?_)
    cases b with
    | false => exact ih (hno rfl)
    | true =>
      refine codeAny_handlers_suite_as (HandSPX.lands_againZ fl fun h4 fl4 up4 => ?_)
      have J4 : Inv X pins z H { s' with heap := h4 } := J.landed (s' := { s' with heap := h4 }) nb fl4.1 (up.trans up4) os ag
      obtain ⟨oe4, vs4, he4, hz4, hd4⟩ := fl4.there
      have go := hyes rfl a na
      rw [hk] at go
      refine store_ok (X := X.suite a ((a, oe4) :: (X.pn ++ pins))) (v := .ref a) (J4.suite he4 hd4 na nL nF) hN hi (.inl hln) rfl (fun s5 S5 => ?_) (.inr hln)
      refine wpAny_mono ((hsu a oe4 cls d (X.pn ++ pins) hz4 ⟨_, hd4⟩).run [] s5 _ H _ S5 go) (fun f s6 hsp => ?_) (fun _ _ q => False.elim q)
      have gone : ∀ {z6 : St} {H6 : Hp} {Q : Shared → Prop}, Inv (X.suite a ((a, oe4) :: (X.pn ++ pins))) [] z6 H6 s6 → (∀ s7, Inv X pins (z6.set i none) H6 s7 → Q s7) →
          wpAny (model X.prog X.w) X.A (do bindName X.env n .none; unbindBehindTheSuite X.env n p) (fun _ s7 => Q s7) X.xe s6 := fun S6 hq => gone_ok (S6.unsuite ok) hN hi hln hq
      cases f with
      | ret u =>
        obtain ⟨v6, z6, H6, S6, r6, q6⟩ := hsp
        exact gone S6 fun s7 J7 => ⟨_, _, _, J7, r6, q6⟩
      | next | brk | cont =>
        obtain ⟨z6, H6, S6, q6⟩ := hsp
        exact gone S6 fun s7 J7 => ⟨_, _, J7, q6⟩
/-- try: body / except .. (as ..): .. -/
theorem ps_try_cls {body : List Stmt} {h0 : ExceptHandler} {hds : List ExceptHandler} {l : List Cl} {pos : Pos} {tb : WX → TS} {Wout : WX} (hs : X.stack = X.env :: X.outer) (hf : X.env.frame = some X.env.locals) (hN : X.N.Nodup) (tk : Takes X Wout)
    (hb : ∀ (W : WX) (pn : List (Addr × Obj)) (xe : Value → Shared → Prop), Takes (X.tr pn xe) W → PassesOwn (model X.prog X.w) X.A X.env xe → PSs (X.tr pn xe) body (tb W))
    (hh : ClsOk X (h0 :: hds) l) : PS X (.Try body (h0 :: hds) [] [] pos) (fun D z H => tb (wCl X.K Wout D l) D z H) := by
  refine ⟨fun pins s z H D I h => ?_⟩
  have ok := I.ok
  have hfr : X.A.frames = some (X.env :: X.outer) := by rw [ok.frames, hs]
  refine wpAny_Try_except (wpAny_mono ((hb (wCl X.K Wout D l) (X.pn ++ pins) (fun e s1 => wpAny (model X.prog X.w) X.A (noteFrame e X.env) (fun _ s2 => wpAny (model X.prog X.w) X.A (setFlight e none) (fun _ s3 =>
    wpAny (model X.prog X.w) X.A (handleBy e X.env (h0 :: hds)) (SP X pins D) X.xe s3) X.xe s2) X.xe s1) (fun u s' xx => ?_) PassesOwn.looking).run [] s z H D (I.toTry _) h) (fun f s1 hsp => ?_) (fun e s1 he => he))
  · obtain ⟨a, B, sI, pins', z', H', cls, d, rfl, J', nb, up, sky, na, os, ag, w⟩ := xx
    show wpAny (model X.prog X.w) X.A (noteFrame (.ref a) X.env) _ _ _
    exact Sky.land Zc.steady hfr hf (by rw [← hs]; exact sky) fun h3 fl3 up3 => clauses_go hs hf hN tk ok (J'.ofTry ok) nb (up.trans up3) fl3 na os ag hh w
  · cases f with
    | next =>
      obtain ⟨z', H', J', q⟩ := hsp
      exact wpAny_execs_nil ⟨z', H', J'.ofTry ok, q⟩
    | brk | cont =>
      obtain ⟨z', H', J', q⟩ := hsp
      exact ⟨z', H', J'.ofTry ok, q⟩
    | ret u =>
      obtain ⟨v, z', H', J', r, q⟩ := hsp
      exact ⟨v, z', H', J'.ofTry ok, r, q⟩

/-- e.f, e the error that the suite holds at a (class cls, dict d) -/
def tErrFld (C a : Addr) (cls : Value) (d : Option Addr) (f : Str) (te : TE) : TE := fun z H Q => te z H fun x H1 => x = .ref a ∧ cls = .ref C ∧ ∃ (dd : Addr) (fvs : List (Str × V)) (v : V), d = some dd ∧ H1 dd = some (.xd fvs) ∧ fvs.lookup f = some v ∧ Q v H1
theorem pe_errFld {fs : List Str} {C a : Addr} {oe : Obj} {cls : Value} {d : Option Addr} {pn : List (Addr × Obj)} {e : Expr} {te : TE} {f : Str} {pos : Pos} (T : ErrX.ErrTxt X.prog X.K fs C) (hm : f ∈ fs) (hz : Zc cls d oe) (hf : ∃ vs, oe.data = .fields vs) (he : PE (X.suite a ((a, oe) :: pn)) e te)
    (hb : attributeBase e f X.env (eval e X.env) = eval e X.env := by rfl) : PE (X.suite a ((a, oe) :: pn)) (.Attribute e f pos) (tErrFld C a cls d f te) := by
  refine ⟨fun pins s z H Q I h => attr_of hb (thn (he.run pins s z H _ I h) fun u s1 hh => ?_)⟩
  obtain ⟨x, H1, I1, rx, ex, ec, dd, fvs, v, ed, ea, el, q⟩ := hh
  subst ex ec ed
  obtain rfl : u = Value.ref a := rx
  obtain ⟨ha, _⟩ := I1.pin (a, oe) (List.mem_append_left _ List.mem_cons_self)
  obtain ⟨vs, hd⟩ := hf
  have hx : ObjOk X.prog X.w H1 s1.heap dd (.xd fvs) := I1.hok dd _ ea
  obtain ⟨mA, hns, hr⟩ := hx
  obtain ⟨od, ho, hl⟩ := lookIn_ns hns
  obtain ⟨u, hu, ru⟩ := RelO.some_of (v := v) (o := mA f) (by rw [← el]; exact hr f)
  have J : PySem.W.InstAt s1.heap a oe C (some od) := ⟨ha, hz.1, by unfold PySem.W.notCls; rw [hd] <;> rfl, by rw [hz.2]; exact ho⟩
  exact HandSPX.exc_get I1.kIn J T.ga T.gg T.exC (PySem.W.findObj_own T.hdC (T.noN _ hm) rfl (by rw [hl, hu])) (handed_of ru) ⟨v, H1, I1.tok _, ru, q⟩
/-- what the class at D must say, so that isinstance asks its instances rightly -/
structure ErrK (K : PySem.W.Frag) (D : Addr) : Prop where
  hcl : (PySem.W.clsIn K D).isSome = true
  hga : PySem.W.findIn K (.ref D) "__getattribute__" = some (some (.builtin "BaseException.__getattribute__"))
  hgt : PySem.W.findIn K (.ref D) "__getattr__" = some none
  hsub : PySem.W.subIn K (.ref D) (.type "BaseException") = some true
  ha : PySem.W.findIn K (.ref D) "__class__" = some (some (.builtin "object.__class__"))
  hn : PySem.W.specialIn K (.builtin "object.__class__") "__get__" = some (some (.builtin "getset_descriptor.__get__"))
  htk : PySem.W.takesIn K (.builtin "object.__class__") = some true
  hm : PySem.W.mroIn K D (.type "object") = some true
/-- isinstance(e, c), e the error that the suite holds -/
def rIsErr (K : PySem.W.Frag) (a : Addr) (cls : Value) (d : Option Addr) : List V → Hp → VK → Prop := fun xs H Q => ∃ (D : Addr) (c : V) (cv : Value) (b : Bool), cls = .ref D ∧ ErrK K D ∧ xs = [.ref a, c] ∧ (∀ u, RelV c u → u = cv) ∧ PySem.W.kitOne K (.ref D) cv = some b ∧
  (d = none ∨ ∃ dd fvs, d = some dd ∧ H dd = some (.xd fvs)) ∧ Q (.bl b) H
theorem call_isErr {a : Addr} {oe : Obj} {cls : Value} {d : Option Addr} {pn : List (Addr × Obj)} (hz : Zc cls d oe) (hf : ∃ vs, oe.data = .fields vs) : CallR (X.suite a ((a, oe) :: pn)) (.builtin "isinstance") (rIsErr X.K a cls d) := by
  intro pins s z H xs us Q I r h
  obtain ⟨D, c, cv, b, rfl, T, rfl, hcv, e, hd, q⟩ := h
  cases r with
  | cons rx rr =>
    cases rr with
    | cons rt rr =>
      cases rr
      cases rx
      have ec := hcv _ rt
      subst ec
      obtain ⟨hget, _⟩ := I.pin (a, oe) (List.mem_append.mpr (.inl List.mem_cons_self))
      obtain ⟨vs, hv⟩ := hf
      have nc : PySem.W.notCls oe = true := by unfold PySem.W.notCls; rw [hv] <;> rfl
      have J : ∃ od, PySem.W.InstAt s.heap a oe D od := by
        rcases hd with rfl | ⟨dd, fvs, rfl, hx⟩
        · exact ⟨none, hget, hz.1, nc, by rw [hz.2]; trivial⟩
        · have hx' : ObjOk X.prog X.w H s.heap dd (.xd fvs) := I.hok dd _ hx
          obtain ⟨mA, ⟨od, es, ep, ho, _⟩, hr⟩ := hx'
          exact ⟨some od, hget, hz.1, nc, by rw [hz.2]; exact ho⟩
      obtain ⟨od, J⟩ := J
      exact PySem.W.kia_one (PySem.W.kitx_exc T.hcl T.hga T.hgt T.hsub T.ha T.hn T.htk T.hm) I.kIn J e (fun z => nomatch z) fun tk => ⟨.bl b, H, I.kept (t' := tk) fun _ _ z => z, rfl, q⟩
end
end L2


set_option Elab.async false
set_option linter.all false
set_option maxRecDepth 100000
set_option maxHeartbeats 4000000
/-! dicts whose keys are None, ints and texts -/
namespace L2
open PySem PySem.Spec PyProof.Rows
def nV : Option Key → V
  | none => .non
  | some k => kV k
def dNok (P : Program) (w : World) (a : Addr) (kvs : List (Option Key × V)) (h : Heap) : Prop := kvs.length ≤ sizeLine ∧ (a == sysModules) = false ∧ ∃ vs, KV kvs vs ∧ h.DictOf (noneKind P w) a vs
def dN (P : Program) (w : World) (a : Addr) (kvs : List (Option Key × V)) : HO := .ext (dNok P w a kvs)
theorem nV_is {P : Program} {w : World} {k : Option Key} {u : Value} (r : RelV (nV k) u) : (noneKind P w).is k u = true := by
  cases k with
  | none => cases r; rfl
  | some k => exact kV_is (P := P) (w := w) r
section
variable {P : Program} {w : World} {H : Hp} {h h' : Heap} {a : Addr} {kvs : List (Option Key × V)}
theorem dN_ok (z : dNok P w a kvs h) : ObjOk P w H h a (dN P w a kvs) := by
  refine ⟨z, ?_, fun h1 h2 z k => ?_⟩
  · obtain ⟨_, _, vs, _, o, es, ep, e, _⟩ := z
    exact ⟨o, e⟩
  · obtain ⟨z1, z2, vs, r, o, es, ep, e, c⟩ := z
    exact ⟨z1, z2, vs, r, o, es, ep, k _ e, c⟩
theorem dN_at (ok : HOk P w H h) (e : H a = some (dN P w a kvs)) : dNok P w a kvs h := by
  have x : ObjOk P w H h a (.ext (dNok P w a kvs)) := ok a _ e
  exact x.1
theorem dictOf_nil (x : h.DictOf (mixKind P w) a []) : h.DictOf (noneKind P w) a [] := by
  obtain ⟨o, es, ep, h1, h2, h3, h4, h5, h6⟩ := x
  have e0 : es = #[] := by
    cases hs : es with
    | mk l =>
      cases l with
      | nil => rfl
      | cons q r => subst hs; exact nomatch h5
  subst e0
  exact ⟨o, #[], ep, h1, h2, h3, fun e he => absurd he (by simp), .nil, List.nodup_nil⟩
end
theorem carriesN_of {P : Program} {w : World} : ∀ {kvs : List (Option Key × V)} {ws : List (Value × Value)}, VV (kvs.map fun kv => (nV kv.1, kv.2)) ws → ∃ rs, Carries (noneKind P w) ws rs ∧ KV kvs rs
  | [], _, r => by rw [List.map_nil] at r; cases r; exact ⟨[], True.intro, .nil⟩
  | p :: kvs, _, r => by
    rw [List.map_cons] at r
    cases r with
    | @cons a b as bs h t =>
      obtain ⟨rs, c, q⟩ := carriesN_of (P := P) (w := w) t
      obtain ⟨b1, b2⟩ := b
      exact ⟨(p.1, b2) :: rs, ⟨nV_is h.1, rfl, c⟩, .cons ⟨rfl, h.2⟩ q⟩
def mergeN (kvs more : List (Option Key × V)) : List (Option Key × V) := more.foldl (fun acc kv => putK acc kv.1 kv.2) kvs
theorem KV.mergeN : ∀ {more : List (Option Key × V)} {rs : List (Option Key × Value)} {kvs : List (Option Key × V)} {vs : List (Option Key × Value)}, KV more rs → KV kvs vs → KV (mergeN kvs more) (merged vs rs) := by
  intro more rs kvs vs h
  induction h generalizing kvs vs with
  | nil => intro r; exact r
  | @cons a b as bs hab _ ih =>
    intro r
    obtain ⟨a1, a2⟩ := a
    obtain ⟨b1, b2⟩ := b
    obtain ⟨e, rv⟩ := hab
    dsimp only at e rv
    subst e
    exact ih (r.put a1 rv)
theorem length_mergeN : ∀ (more kvs : List (Option Key × V)), (mergeN kvs more).length ≤ kvs.length + more.length
  | [], kvs => Nat.le_refl _
  | p :: more, kvs => by
    have h1 := length_mergeN more (putK kvs p.1 p.2)
    have h2 := length_putK kvs p.1 p.2
    show (mergeN (putK kvs p.1 p.2) more).length ≤ _
    rw [List.length_cons]
    omega
/-- {k: v, ..}, None among the keys -/
def tDispN (P : Program) (w : World) (trs : List (TE × TE)) : TE := fun z H Q => ∀ p, H p = none → tPairs trs z (upd H p (.dK [])) fun ps H2 => H2 p = some (.dK []) ∧ ∃ kvs : List (Option Key × V), ps = kvs.map (fun kv => (nV kv.1, kv.2)) ∧ kvs.length ≤ 15 ∧ Q (.ref p) (upd H2 p (dN P w p (mergeN [] kvs)))
theorem pe_dispN {X : Cx} {pos : Pos} {keys : List (Option Expr)} {values : List Expr} {trs : List (TE × TE)} (h : PPs X pos keys values trs) (hall : keys.all (·.isSome) = true) (hl : keys.length = values.length) (h0 : keys ≠ [])
    (h15 : keys.length ≤ 15) : PE X (.Dict keys values pos) (tDispN X.prog X.w trs) := by
  refine ⟨fun pins s z H Q I q => ?_⟩
  have hn := I.hok.fresh (Nat.le_refl s.heap.objs.size)
  have I1 := I.laid (a := s.heap.objs.size) (o := .dK []) (h' := s.heap.push { cls := .type "dict", data := .dict #[] }) (t' := s.toks) (fun _ _ q => Heap.get?_push_of_some _ q) (Nat.le_refl _) (dk_empty s.heap I.big)
  refine wpAny_Dict_walk (knd := noneKind X.prog X.w) hall hl h0 h15 (thn (h.run pins _ z _ _ I1 (q _ hn)) fun ws s2 ⟨ps, H2, I2, rel, e, kvs, ep, lk, q2⟩ => ?_)
  subst ep
  obtain ⟨rs, c, rk⟩ := carriesN_of (P := X.prog) (w := X.w) rel
  obtain ⟨zz, hd, vs0, r0, dd⟩ := dk_of I2.hok e
  cases r0
  refine ⟨rs, c, dictOf_nil dd, fun h' dd' hs => ⟨.ref s.heap.objs.size, _, ?_, rfl, q2⟩⟩
  have hz : (mergeN [] kvs).length ≤ sizeLine := by
    have h1 := length_mergeN kvs []
    rw [List.length_nil] at h1
    rw [sizeLine_eq]; omega
  have he : ∃ q, h'.get? s.heap.objs.size = some q := let ⟨q, _, _, hq, _⟩ := dd'; ⟨q, hq⟩
  exact d_write I2 (by rw [e]; exact True.intro) hs he (dN_ok ⟨hz, hd, _, rk.mergeN .nil, dd'⟩)
section
variable {X : Cx} {o e f : Expr} {apos cpos : Pos} {td ty tx : TE}
/-- d.get(k, x) -/
def tDGet2N (P : Program) (w : World) (td ty tx : TE) : TE := fun z H Q => td z H fun x H1 => ∃ a kvs, x = .ref a ∧ H1 a = some (dN P w a kvs) ∧ ty z H1 fun y H2 => tx z H2 fun v H3 => ∃ kvs' k, H3 a = some (dN P w a kvs') ∧ y = nV k ∧ Q ((valV kvs' k).getD v) H3
theorem pe_dget2N (ho : PE X o td) (he : PE X e ty) (hx : PE X f tx) (m : M2 X o "get" apos e f cpos) : PE X (.Call (.Attribute o "get" apos) [e, f] [] cpos) (tDGet2N X.prog X.w td ty tx) := by
  refine ⟨fun pins s z H Q I h => ?_⟩
  refine wpAny_Call_method m.base m.few m.line PySem.F.plainAttrs_dict PySem.F.slot_dict_get PySem.F.type_dict_get (thn (ho.run pins s z H _ I h) fun u s1 ⟨x, H1, I1, rx, a, kvs, ex, d, q1⟩ => ?_)
  subst ex
  obtain rfl : u = Value.ref a := rx
  obtain ⟨_, hd, vs, rel, dd⟩ := dN_at I1.hok d
  refine ⟨dd.typeIs, fun b q => ?_, ?_⟩
  · cases q
    obtain ⟨ob, _, _, h1, h2, _⟩ := dd
    exact ⟨ob, h1, h2.2.1⟩
  rw [m.trees]
  refine Calls.callWith_builtin rfl (Calls.evalArgs_plain (Calls.spliced_cons (thn (he.run pins s1 z H1 _ I1 q1) fun iv s2 ⟨y, H2, I2, ry, q2⟩ =>
    Calls.spliced_cons (thn (hx.run pins s2 z H2 _ I2 q2) fun fv s3 ⟨zv, H3, I3, rz, kvs', k, e3, ey, q3⟩ => Calls.spliced_nil ?_))))
  subst ey
  obtain ⟨_, hd', vs', rel', dd'⟩ := dN_at I3.hok e3
  exact call_meetsIn PySem.F.slot_dict_get dd'.typeIs PySem.F.entry_dict_get (PySem.F.args_dict_get_3 _ _ _) (meets_dict_get_default (noneKind X.prog X.w) a (nV_is ry) hd' fv) ⟨_, dd'.mapOf, ⟨_, H3, I3.tok _, (rel'.val k).getD rz, q3⟩⟩
/-- d[k] = v -/
def sDPutN (P : Program) (w : World) (td ty tv : TE) : TS := fun D z H => tv z H fun v H1 => td z H1 fun x H2 => ty z H2 fun y H3 => ∃ a kvs k, x = .ref a ∧ H3 a = some (dN P w a kvs) ∧ y = nV k ∧ kvs.length < sizeLine ∧ D.nx z (upd H3 a (dN P w a (putK kvs k v)))
theorem ps_dputN {i value : Expr} {pos pos' : Pos} {tv : TE} (ho : PE X o td) (hi : PE X i ty) (hv : PE X value tv) (hs : swapsWith value (some (.Subscript o i pos')) pos.line X.env = pure false) :
    PS X (.Assign [.Subscript o i pos'] value pos) (sDPutN X.prog X.w td ty tv) := by
  refine ⟨fun pins s z H D I h => ?_⟩
  refine wpAny_Assign_Subscript (thn (hv.run pins s z H _ I h) fun r s1 ⟨v, H1, I1, rv, q1⟩ => thn (ho.run pins s1 z H1 _ I1 q1) fun u s2 ⟨x, H2, I2, rx, q2⟩ => thn (hi.run pins s2 z H2 _ I2 q2) fun iv s3 ⟨y, H3, I3, ry, a, kvs, k, ex, e, ey, l, q3⟩ => ?_) hs
  subst ex ey
  obtain rfl : u = Value.ref a := rx
  obtain ⟨zz, hd, vs, rel, dd⟩ := dN_at I3.hok e
  have hz : vs.length ≤ sizeLine := by rw [← rel.length]; exact zz
  have hl : (putK kvs k v).length ≤ sizeLine := by have := length_putK kvs k v; omega
  refine wpAny_setItem_pairs (hsz := hz) (nV_is ry) dd fun h' dd' hs => ⟨z, _, ?_, q3⟩
  have he : ∃ q, h'.get? a = some q := let ⟨q, _, _, hq, _⟩ := dd'; ⟨q, hq⟩
  exact d_write I3 (by rw [e]; exact True.intro) hs he (dN_ok ⟨hl, hd, _, rel.put k rv, dd'⟩)
end
end L2


set_option Elab.async false
set_option linter.all false
set_option maxRecDepth 100000
set_option maxHeartbeats 4000000
/-! calls by names; small words -/
namespace L2
open PySem PySem.Spec PyProof.Rows
/-- the module's name x is a def that keeps sp (its last parameters filled by the defaults ds) -/
structure FnX (P : Program) (w : World) (K : PySem.W.Frag) (mg : Str → Option Value) (base : Heap) (CX : CXT) (k : Nat) (x : Str) (ps : List Str) (ds : List V) (sp : Sp) : Prop where
  ex : ∃ f fd dvs, mg x = some (.ref f) ∧ PySem.W.keepIn K (.ref f) = true ∧ Binds K fd ps dvs ∧ Vals ds dvs ∧ FnOk P w K mg base CX k f fd ps sp
/-- the class at C has the method m, which keeps sp -/
structure MeX (P : Program) (w : World) (K : PySem.W.Frag) (mg : Str → Option Value) (base : Heap) (CX : CXT) (k : Nat) (C : Addr) (m : Str) (ps : List Str) (ds : List V) (sp : Sp) : Prop where
  ex : ∃ f fd dvs, Cls K C ∧ Meth K C m f ∧ Binds K fd ps dvs ∧ Vals ds dvs ∧ FnOk P w K mg base CX k f fd ps sp
/-- the module's name x is the class at C, whose __init__ keeps sp -/
structure MkX (P : Program) (w : World) (K : PySem.W.Frag) (mg : Str → Option Value) (base : Heap) (CX : CXT) (k : Nat) (x : Str) (C : Addr) (ps : List Str) (ds : List V) (sp : Sp) : Prop where
  ex : ∃ f fd dvs, mg x = some (.ref C) ∧ Mk K C f ∧ Binds K fd ps dvs ∧ Vals ds dvs ∧ FnOk P w K mg base CX k f fd ps sp
section
variable {X : Cx} {CX : CXT} {k : Nat} {C : Addr} {ps : List Str} {sp : Sp} {ds : List V} {E : XK} {x m : Str} {p pos apos : Pos} {e o : Expr} {es : List Expr} {ta : TE} {t : TA}
theorem pe_callX (F : FnX X.prog X.w X.K X.mg X.base CX k x ps ds sp) (hr : Room k X.A) (hx : Passes CX X E) (ha : PA X (e :: es) t) (hg : Gl X x := by rfl) (hdb : (x == ("__debug__" : Str)) = false := by decide)
    (he : starEach (e :: es) X.env = (false, eval e X.env) :: starEach es X.env := by rfl) (hpl : (backTo pos (starEach es X.env)).any (·.1) = false := by rfl) : PE X (.Call (.Name x p) (e :: es) [] pos) (tCall sp ds E t) := by
  obtain ⟨f, fd, dvs, hm, kp, b, vd, G⟩ := F.ex
  exact pe_call G hr hg hm kp b vd hx ha hdb he hpl
theorem pe_callX0 (F : FnX X.prog X.w X.K X.mg X.base CX k x ps ds sp) (hr : Room k X.A) (hx : Passes CX X E) (hg : Gl X x := by rfl) (hdb : (x == ("__debug__" : Str)) = false := by decide) : PE X (.Call (.Name x p) [] [] pos) (tCall sp ds E tNil) := by
  obtain ⟨f, fd, dvs, hm, kp, b, vd, G⟩ := F.ex
  exact pe_call0 G hr hg hm kp b vd hx hdb
theorem pe_methX {pl : Sem Bool} (F : MeX X.prog X.w X.K X.mg X.base CX k C m ps ds sp) (hr : Room k X.A) (hx : Passes CX X E) (ho : PE X o ta) (ha : PA X (e :: es) t)
    (hst : starEach (e :: es) X.env = (false, eval e X.env) :: starEach es X.env := by rfl) (hpl : (backTo pos (starEach es X.env)).any (·.1) = false := by rfl)
    (ht : eval (.Call (.Attribute o m apos) (e :: es) [] pos) X.env = (do
      let ov ← eval o X.env
      standAt apos.atName
      let (f, first) ← holding [ov] (getMethod ov m pl)
      callWith pos f first (backTo pos (starEach (e :: es) X.env)) (backToKw pos (keywordEach [] X.env))) := by rfl) :
    PE X (.Call (.Attribute o m apos) (e :: es) [] pos) (tMeth C m sp ds E ta t) := by
  obtain ⟨f, fd, dvs, c, mm, b, vd, G⟩ := F.ex
  exact pe_meth ho c mm G hr b vd hx ha hst hpl ht
theorem pe_methX0 {pl : Sem Bool} (F : MeX X.prog X.w X.K X.mg X.base CX k C m ps ds sp) (hr : Room k X.A) (hx : Passes CX X E) (ho : PE X o ta)
    (ht : eval (.Call (.Attribute o m apos) [] [] pos) X.env = (do
      let ov ← eval o X.env
      standAt apos.atName
      let (f, first) ← holding [ov] (getMethod ov m pl)
      callWith pos f first (backTo pos (starEach [] X.env)) (backToKw pos (keywordEach [] X.env))) := by rfl) :
    PE X (.Call (.Attribute o m apos) [] [] pos) (tMeth C m sp ds E ta tNil) := by
  obtain ⟨f, fd, dvs, c, mm, b, vd, G⟩ := F.ex
  exact pe_meth0 ho c mm G hr b vd hx ht
theorem pe_makeX (F : MkX X.prog X.w X.K X.mg X.base CX k x C ps ds sp) (hr : Room (k + 1) X.A) (hx : Passes CX X E) (ha : PA X (e :: es) t) (hg : Gl X x := by rfl) (hdb : (x == ("__debug__" : Str)) = false := by decide)
    (he : starEach (e :: es) X.env = (false, eval e X.env) :: starEach es X.env := by rfl) (hpl : (backTo pos (starEach es X.env)).any (·.1) = false := by rfl) : PE X (.Call (.Name x p) (e :: es) [] pos) (tMake C sp ds E t) := by
  obtain ⟨f, fd, dvs, hm, M, b, vd, G⟩ := F.ex
  exact pe_make M G hr hg hm b vd hx ha hdb he hpl
/-- a constant of the module that is an int, a text, an object -/
theorem pe_gint {i : Int} (h : ∃ t, X.mg x = some (.int i t)) (hg : Gl X x := by rfl) (hdb : (x == ("__debug__" : Str)) = false := by decide) : PE X (.Name x pos) (tC (.int i)) := by
  obtain ⟨t, h⟩ := h
  exact pe_glob hg h ⟨t, rfl⟩ hdb
theorem pe_gstr {z : Str} (h : ∃ t, X.mg x = some (.str z t)) (hg : Gl X x := by rfl) (hdb : (x == ("__debug__" : Str)) = false := by decide) : PE X (.Name x pos) (tC (.str z)) := by
  obtain ⟨t, h⟩ := h
  exact pe_glob hg h ⟨t, rfl⟩ hdb
theorem pe_gref {a : Addr} (h : X.mg x = some (.ref a)) (hg : Gl X x := by rfl) (hdb : (x == ("__debug__" : Str)) = false := by decide) : PE X (.Name x pos) (tC (.ref a)) := pe_glob hg h rfl hdb
/-- what is raised in a callee goes on out of this def -/
theorem passOut {E : XK} {P : Program} {w : World} {K : PySem.W.Frag} {mg : Str → Option Value} {base : Heap} {N : List Str} {qual : Str} {scope : Scope} {f : Addr} {cd : Value} {A : Around} {outer : List Env} {s : Shared} {H : Hp} :
    Passes (L2.CX P w) (cxOf (L2.CX P w) P w K mg base N qual scope f cd A outer s H E) E := passes_call (takes_of rfl rfl rfl rfl) (fun _ _ _ _ h => h)
/-- a def that raises nothing, where some may be raised -/
theorem FnX.out {P : Program} {w : World} {K : PySem.W.Frag} {mg : Str → Option Value} {base : Heap} (F : FnX P w K mg base CX0 k x ps ds sp) : FnX P w K mg base (L2.CX P w) k x ps ds sp := by
  obtain ⟨f, fd, dvs, hm, kp, b, vd, G⟩ := F.ex
  refine ⟨f, fd, dvs, hm, kp, b, vd, G.len, fun A outer s H args us vs Q E hr he hb hv hs => codeAny_mono (G.run A outer s H args us vs Q E hr he hb hv hs) fun r s' h => ?_⟩
  cases r with
  | error e => exact (show False from h).elim
  | ok fl => cases fl <;> exact h
theorem FnX.mono {P : Program} {w : World} {K : PySem.W.Frag} {mg : Str → Option Value} {base : Heap} {j : Nat} (F : FnX P w K mg base CX j x ps ds sp) (h : j ≤ k) : FnX P w K mg base CX k x ps ds sp := by
  obtain ⟨f, fd, dvs, hm, kp, b, vd, G⟩ := F.ex
  exact ⟨f, fd, dvs, hm, kp, b, vd, G.mono h⟩
end
/-- a def of the text, at the module's name x, without defaults -/
abbrev DefX (K : PySem.W.Frag) (mg : Str → Option Value) (x : Str) (st : Stmt) : Prop := ∃ f fd, mg x = some (.ref f) ∧ FunD K x x (defArgs st) (defBody st) (defScope st) [] [] f fd
section
variable {P : Program} {w : World} {K : PySem.W.Frag} {mg : Str → Option Value} {base : Heap} {x : Str} {st : Stmt} {N ps : List Str} {k : Nat} {sp : Sp}
theorem DefX.ok0 (F : DefX K mg x st) (S : FnScope N ps (defScope st)) (hb : ∀ (kV doc pm : Value) (an : Option Addr) (cdv ct : Value) (us : List Value), us.length = ps.length → bindArgs (PySem.W.fnOf x x (defArgs st) (defBody st) (defScope st) .none kV doc pm an cdv ct) ⟨us, []⟩ = pure (ps.zip us))
    (len : ∀ vs H Q E, sp vs H Q E → vs.length = ps.length)
    (hbody : ∀ (f : Addr) (cdv : Value) (A : Around) (outer : List Env) (s : Shared) (H : Hp) (vs : List V) (Q : VK) (E : XK), Room k (A.deeper (envOfC x (defScope st) s.heap.objs.size f cdv)) → sp vs H Q E →
      ∃ t, PSs (cxOf CX0 P w K mg base N x (defScope st) f cdv A outer s H E).nox (defBody st) t ∧ t { nx := fun _ H' => Q .non H', rt := Q } (start N vs) H) : FnX P w K mg base CX0 (k + 1) x ps [] sp := by
  obtain ⟨f, fd, hm, F⟩ := F
  refine ⟨f, fd, [], hm, F.kp, F.bindsN hb, .nil, F.ok S len fun cdv A outer s H vs Q E hr h => ?_⟩
  obtain ⟨t, h1, h2⟩ := hbody f cdv A outer s H vs Q E hr h
  exact ⟨t, h1.nox, h2⟩
theorem DefX.okX (F : DefX K mg x st) (S : FnScope N ps (defScope st)) (hb : ∀ (kV doc pm : Value) (an : Option Addr) (cdv ct : Value) (us : List Value), us.length = ps.length → bindArgs (PySem.W.fnOf x x (defArgs st) (defBody st) (defScope st) .none kV doc pm an cdv ct) ⟨us, []⟩ = pure (ps.zip us))
    (len : ∀ vs H Q E, sp vs H Q E → vs.length = ps.length)
    (hbody : ∀ (f : Addr) (cdv : Value) (A : Around) (outer : List Env) (s : Shared) (H : Hp) (vs : List V) (Q : VK) (E : XK), Room k (A.deeper (envOfC x (defScope st) s.heap.objs.size f cdv)) → sp vs H Q E →
      ∃ t, PSs (cxOf (L2.CX P w) P w K mg base N x (defScope st) f cdv A outer s H E) (defBody st) t ∧ t { nx := fun _ H' => Q .non H', rt := Q } (start N vs) H) : FnX P w K mg base (L2.CX P w) (k + 1) x ps [] sp := by
  obtain ⟨f, fd, hm, F⟩ := F
  exact ⟨f, fd, [], hm, F.kp, F.bindsN hb, .nil, F.ok S len fun cdv A outer s H vs Q E hr h => hbody f cdv A outer s H vs Q E hr h⟩
end
/-- a method of the text: class at C, its method m (statement st, qualified name q) -/
structure MetX (K : PySem.W.Frag) (C : Addr) (m q : Str) (st : Stmt) (f : Addr) (fd : FuncData) : Prop where
  c : Cls K C
  me : Meth K C m f
  fn : FunD K m q (defArgs st) (defBody st) (defScope st) [] [] f fd
section
variable {P : Program} {w : World} {K : PySem.W.Frag} {mg : Str → Option Value} {base : Heap} {C : Addr} {m q : Str} {st : Stmt} {N ps : List Str} {k : Nat} {sp : Sp}
theorem MetX.okX (F : ∃ f fd, MetX K C m q st f fd) (S : FnScope N ps (defScope st)) (hb : ∀ (kV doc pm : Value) (an : Option Addr) (cdv ct : Value) (us : List Value), us.length = ps.length → bindArgs (PySem.W.fnOf m q (defArgs st) (defBody st) (defScope st) .none kV doc pm an cdv ct) ⟨us, []⟩ = pure (ps.zip us))
    (len : ∀ vs H Q E, sp vs H Q E → vs.length = ps.length)
    (hbody : ∀ (f : Addr) (cdv : Value) (A : Around) (outer : List Env) (s : Shared) (H : Hp) (vs : List V) (Q : VK) (E : XK), Room k (A.deeper (envOfC q (defScope st) s.heap.objs.size f cdv)) → sp vs H Q E →
      ∃ t, PSs (cxOf (L2.CX P w) P w K mg base N q (defScope st) f cdv A outer s H E) (defBody st) t ∧ t { nx := fun _ H' => Q .non H', rt := Q } (start N vs) H) : MeX P w K mg base (L2.CX P w) (k + 1) C m ps [] sp := by
  obtain ⟨f, fd, F⟩ := F
  exact ⟨f, fd, [], F.c, F.me, F.fn.bindsN hb, .nil, F.fn.ok S len fun cdv A outer s H vs Q E hr h => hbody f cdv A outer s H vs Q E hr h⟩
end
/-- for i, x in enumerate(list) -/
theorem for_enum {K : PySem.W.Frag} {a : Addr} {xs : List V} {g : TG} {tb : TS} {D : Ends} {z : St} {H : Hp} (Pv : Nat → St → Hp → Prop) (h0 : Pv 0 z H) (hl : ∀ i z H, i ≤ xs.length → Pv i z H → SqL K H a xs)
    (hs : ∀ i x z H, xs[i]? = some x → Pv i z H → ∀ T, H T = none → g (.ref T) z (upd H T (.tup [.int (i : Nat), x])) fun z2 H2 => tb { D with nx := Pv (i + 1), ct := Pv (i + 1), bk := D.nx } z2 H2) (hd : ∀ z H, Pv xs.length z H → D.nx z H) :
    ∃ W : Nat → Nat → St → Hp → Prop, (∃ m, W 0 m z H) ∧ ∀ i m z H, W i m z H →
      ((Ite K a).stop i H ∧ D.nx z H) ∨ ((Ite K a).go i H ∧ ∃ N : St → Hp → Prop, (∀ z' H', N z' H' → ∃ m', m' < m ∧ W (i + 1) m' z' H') ∧ ∀ x H', (Ite K a).yld i H x H' → g x z H' fun z2 H2 => tb { D with nx := N, ct := N, bk := D.nx } z2 H2) := by
  refine ⟨fun i m z H => m = xs.length - i ∧ i ≤ xs.length ∧ Pv i z H, ⟨xs.length, by simp, Nat.zero_le _, h0⟩, ?_⟩
  rintro i m z H ⟨rfl, hi, p⟩
  have q := hl i z H hi p
  by_cases hlt : i < xs.length
  · refine .inr ⟨⟨xs, xs[i], q, by simp [hlt]⟩, Pv (i + 1), fun z' H' p' => ⟨xs.length - (i + 1), by omega, rfl, hlt, p'⟩, fun v H' y => ?_⟩
    obtain ⟨T, x, rfl, hT, rfl, hx⟩ := y
    exact hs i x z _ (hx xs q) p T hT
  · have e : i = xs.length := by omega
    subst e
    exact .inl ⟨⟨xs, q, Nat.le_refl _⟩, hd z H p⟩
/-- tuples stay -/
def TupLe (H H' : Hp) : Prop := ∀ b xs, H b = some (.tup xs) → H' b = some (.tup xs)
theorem TupLe.refl (H : Hp) : TupLe H H := fun _ _ h => h
theorem TupLe.trans {H H1 H2 : Hp} (a : TupLe H H1) (b : TupLe H1 H2) : TupLe H H2 := fun c xs h => b c xs (a c xs h)
theorem TupLe.new {H : Hp} {p : Addr} {o : HO} (h : H p = none) : TupLe H (upd H p o) := fun b xs e => by rw [upd_ne (ne_of_none e h)]; exact e
theorem TupLe.mut {H : Hp} {p : Addr} {o u : HO} (h : H p = some u) (hu : ∀ xs, u ≠ .tup xs) : TupLe H (upd H p o) := fun b xs e => by
  rw [upd_ne (fun z => by subst z; rw [h] at e; exact hu xs (Option.some.inj e))]; exact e
theorem Same.new {H : Hp} {p : Addr} {o : HO} (h : H p = none) : Same H (upd H p o) := fun b u e => by rw [upd_ne (ne_of_none e h)]; exact e
/-- an object that H did not know has changed -/
theorem Same.mut {H H' : Hp} {p : Addr} {o : HO} (e : Same H H') (h : H p = none) : Same H (upd H' p o) := fun b u q => by rw [upd_ne (ne_of_none q h)]; exact e b u q
theorem Same.seqT {K : PySem.W.Frag} {H H' : Hp} {a : Addr} {xs : List V} (e : Same H H') (h : SqT K H a xs) : SqT K H' a xs := by
  rcases h with (h | ⟨o, h⟩) | h
  · exact .inl (.inl (e _ _ h))
  · exact .inl (.inr ⟨o, e _ _ h⟩)
  · exact .inr h
theorem Same.tups {H H' : Hp} (e : Same H H') : TupLe H H' := fun b xs h => e b _ h
theorem inV_str (z : Str) (ns : List Str) : inV (.str z) (ns.map V.str) = decide (z ∈ ns) := by
  unfold inV
  induction ns with
  | nil => rfl
  | cons n r ih =>
    rw [List.map_cons, List.any_cons, ih]
    show ((n == z) || decide (z ∈ r)) = decide (z ∈ n :: r)
    by_cases e : z = n
    · subst e
      simp
    · have e2 : (n == z) = false := by simpa using fun q => e q.symm
      rw [e2, Bool.false_or]
      simp [List.mem_cons, e]
theorem flat_strs (ns : List Str) : (ns.map V.str).all flatV = true := by
  rw [List.all_eq_true]
  intro v hv
  obtain ⟨n, _, rfl⟩ := List.mem_map.mp hv
  rfl
theorem iteB {b : Bool} {A B : Prop} (ht : b = true → A) (hf : b = false → B) : if b = true then A else B := by
  cases b with
  | true => rw [if_pos rfl]; exact ht rfl
  | false => rw [if_neg Bool.false_ne_true]; exact hf rfl
end L2


set_option Elab.async false
set_option linter.all false
set_option maxRecDepth 100000
set_option maxHeartbeats 4000000
/-! == and != of an instance whose class has its own __eq__ (and no __ne__) -/
namespace PySem.W
open PySem PySem.Spec PySem.Calls PyProof.Rows
section
variable {prog : Program} {w : World} {A : Around} {E : Value → Shared → Prop} {s : Shared} {h₀ : Heap} {L : Addr} {m : Str → Option Value} {K : Frag} {x C f : Addr} {ox : Obj} {od : Option Obj} {b tb : Value}
theorem ne_entry {Q : Fin → Shared → Prop} (X : K.In s.heap) (I : InstAt s.heap x ox C od) (hs : findIn K (.ref C) "__eq__" = some (some (.ref f))) (hf : isFn K (.ref f) = true) (hu : A.units < cLine)
    (hcall : wpAny (model prog w) A (call (.ref f) [.ref x, b]) (fun v s' => ∃ c, v = .bool c ∧ Q (.done (.ret (.bool (!c)))) s') E s) :
    wpAny (model prog w) A (Builtin.«object.__ne__» ⟨[.ref x, b], []⟩) Q E s := by
  obtain ⟨hp, g, d, t, os⟩ := s
  unfold Builtin.«object.__ne__»
  repeat (first
    | with_reducible refine wpAny_cRoomFor hu ?_
    | (refine wpAny_bind (m := callSpecialIfBound? (.ref x) (Str.ofString "__eq__") [b])
        (ifBound_K X I hs hf (wpAny_mono hcall (fun r s' hr => by
          obtain ⟨c, rfl, hq⟩ := hr
          repeat (first | exact hq | exact wpAny_pure hq | exact wpAny_truthy_bool hq | (refine wpAny_bind (m := truthy (.bool _)) (wpAny_truthy_bool ?_)) | wp_step)) fun _ _ e => e)))
    | wp_step)
theorem ne_try {Q : Option Value → Shared → Prop} (X : K.In s.heap) (I : InstAt s.heap x ox C od) (hne : findIn K (.ref C) "__ne__" = some (some (.builtin "object.__ne__"))) (hobj : mroIn K C (.type "object") = some true)
    (hs : findIn K (.ref C) "__eq__" = some (some (.ref f))) (hf : isFn K (.ref f) = true) (hu : A.units + 1 < cLine)
    (hcall : wpAny (model prog w) A.in1 (call (.ref f) [.ref x, b]) (fun v s' => ∃ c, v = .bool c ∧ Q (some (.bool (!c))) s') E s) :
    wpAny (model prog w) A (tryCompare (.ref x) "__ne__" b) Q E s := by
  have go : ∀ {R : Value → Shared → Prop}, (∀ c s', Q (some (.bool (!c))) s' → R (.bool (!c)) s') → wpAny (model prog w) A (call (.builtin "object.__ne__") [.ref x, b]) R E s := fun {R} hR => by
    have sub : Looks (model prog w) s.heap (isInstance (.ref x) (.type "object")) true := I.type.andThen (looks_mroIn X hobj)
    refine wpAny_call (codeAny_call_builtin F.cmp_object.ne.plain F.cmpEntry_ne ?_)
    refine @check_slot (model prog w) _ _ s "object.__ne__" "object" "__ne__" (.ref x) [b] [] _ F.cmpKind_ne F.cmpSplit_ne sub (F.cmpArgs_ne _ _) ?_
    exact ne_entry (A := A.in1) X I hs hf hu (wpAny_mono hcall (fun v s' hv => by obtain ⟨c, rfl, hq⟩ := hv; exact ⟨c, rfl, hR c s' hq⟩) fun _ _ e => e)
  unfold tryCompare
  refine wpAny_bind ?_
  simp only [callSpecialIfBound?, bindSpecialIfBound?]
  refine wpAny_holding (wpAny_bind (wpAny_bind (wpAny_bind (I.type.here ((looks_findIn X hne).here ?_)))))
  refine wpAny_bind (wpAny_askSetting (wpAny_ite ?_))
  have bd := F.cmp_object.ne.bind (.ref x)
  have fin : ∀ {Q2 : Option Value → Shared → Prop}, (∀ c s', Q (some (.bool (!c))) s' → Q2 (some (.bool (!c))) s') → wpAny (model prog w) A (call (.builtin "object.__ne__") ([.ref x] ++ [b]) >>= fun v => pure (some v)) Q2 E s :=
    fun h2 => wpAny_bind (go fun c s' hq => wpAny_pure (h2 c s' hq))
  split
  · rw [bd]
    exact wpAny_bind (wpAny_pure (wpAny_pure (fin fun c s' hq => wpAny_pure hq)))
  · refine wpAny_tryCatch ?_
    rw [bd]
    exact wpAny_bind (wpAny_pure (wpAny_pure (fin fun c s' hq => wpAny_pure hq)))
theorem ne_K {Q : Value → Shared → Prop} (hu : A.units + 1 < cLine) (F : Fr h₀ L s.heap m) (X₀ : K.In h₀) (I : InstAt s.heap x ox C od) (hb : Looks (model prog w) s.heap (typeOf b) tb) (hn : notFirst K C tb = true)
    (hne : findIn K (.ref C) "__ne__" = some (some (.builtin "object.__ne__"))) (hobj : mroIn K C (.type "object") = some true) (hs : findIn K (.ref C) "__eq__" = some (some (.ref f))) (hf : isFn K (.ref f) = true)
    (h : wpAny (model prog w) A.in1 (call (.ref f) [.ref x, b]) (fun v s' => ∃ c, v = .bool c ∧ Q (.bool (!c)) s') E s) : wpAny (model prog w) A (richCompare .NotEq (.ref x) b) Q E s := by
  have X := X₀.keeps F.keep
  have one : wpAny (model prog w) A (tryCompare (.ref x) "__ne__" b) (fun r s' => ∃ v, r = some v ∧ Q v s') E s := ne_try X I hne hobj hs hf hu (wpAny_mono h (fun v s' hv => by obtain ⟨c, e, q⟩ := hv; exact ⟨c, e, _, rfl, q⟩) fun _ _ e => e)
  unfold richCompare
  simp only [oneThing_ref]
  refine wpAny_holding (wpAny_bind (wpAny_cRoomFor (Nat.lt_of_succ_lt hu) ?_))
  refine wpAny_bind (I.type.here (wpAny_bind (hb.here ?_)))
  have last : wpAny (model prog w) A (tryCompare (.ref x) (cmpInfo .NotEq).2.1 b) (fun r s' => ∃ v, r = some v ∧ Q v s') E s := one
  split
  · rename_i q
    have e : subIn K tb (.ref C) = some false := by
      rcases Bool.or_eq_true_iff.mp hn with e | e
      · rw [beq_iff_eq.mp e] at q; simp at q
      · exact beq_iff_eq.mp e
    refine wpAny_bind ((looks_subIn X e).here ?_)
    simp only [Bool.false_eq_true, if_false]
    refine wpAny_bind (wpAny_mono last (fun r s' z => ?_) fun _ _ e => e)
    obtain ⟨v, rfl, hq⟩ := z
    exact wpAny_pure hq
  · refine wpAny_bind (wpAny_pure ?_)
    simp only [Bool.false_eq_true, if_false]
    refine wpAny_bind (wpAny_mono last (fun r s' z => ?_) fun _ _ e => e)
    obtain ⟨v, rfl, hq⟩ := z
    exact wpAny_pure hq
end
end PySem.W
namespace L2
open PySem PySem.Spec PyProof.Rows
section
variable {X : Cx} {CX : CXT} {k : Nat} {C : Addr} {ps : List Str} {sp : Sp} {E : XK}
/-- what stands on the right of such a comparison: its type comes not first -/
structure RightOk (X : Cx) (C : Addr) (H : Hp) (y : V) : Prop where
  ty : ∀ (pins : List (Addr × Obj)) (z : L2.St) (s : Shared) (u : Value), Inv X pins z H s → RelV y u → ∃ tb, PySem.W.Looks (model X.prog X.w) s.heap (typeOf u) tb ∧ PySem.W.notFirst X.K C tb = true
theorem right_ins {H : Hp} {b dy : Addr} {gs : List (Str × V)} (h : H b = some (.ins C dy gs)) : RightOk X C H (.ref b) := ⟨fun pins z s u I r => by
  cases r
  obtain ⟨mB, J', _⟩ := ins_get I.hok h
  obtain ⟨od', J', _⟩ := J'.look
  exact ⟨.ref C, J'.type, by simp [PySem.W.notFirst]⟩⟩
theorem right_str {H : Hp} {t : Str} (h : PySem.W.notFirst X.K C (.type "str") = true) : RightOk X C H (.str t) := ⟨fun pins z s u I r => by
  obtain ⟨tk, rfl⟩ := r
  exact ⟨.type "str", PySem.W.Looks.of_pure rfl, h⟩⟩
/-- a == b, a != b (neg), a an instance of the class at C -/
def rCmpO (X : Cx) (C : Addr) (sp : Sp) (E : XK) (neg : Bool) : R2 := fun x y H Q => ∃ a dx fs, x = .ref a ∧ H a = some (.ins C dx fs) ∧ RightOk X C H y ∧ sp [x, y] H (fun v H' => ∃ c, v = .bl c ∧ Q (.bl (if neg then !c else c)) H') E
theorem op_eqO (F : MeX X.prog X.w X.K X.mg X.base CX k C "__eq__" ps [] sp) (hr : Room k X.A) (hx : Passes CX X E) : OpR X (compareOp .Eq) (rCmpO X C sp E false) := by
  intro pins s z H x y v u Q I rx ry h
  obtain ⟨a, dx, fs, rfl, ha, R, q⟩ := h
  obtain ⟨f, fd, dvs, c, mm, b, vd, G⟩ := F.ex
  cases vd
  cases rx
  obtain ⟨tb, lk, nf⟩ := R.ty pins z s u I ry
  obtain ⟨mA, J, _⟩ := ins_get I.hok ha
  obtain ⟨od, J, _⟩ := J.look
  obtain ⟨m, hF⟩ := I.fr
  show wpAny (model X.prog X.w) X.A (richCompare .Eq (.ref a) u) (EP X pins z Q) X.xe s
  refine PySem.W.cmp_K (op := .Eq) (tb := tb) hr.units0 hF I.ok.mod.kin J lk nf mm.at_ mm.fn ?_
  refine wpAny_mono (run_fn (us := [.ref a, u]) (vs := [.ref a, y]) G hr b .nil hx I (.cons rfl (.cons ry .nil)) q) (fun v s' hv => ?_) fun _ _ x => x
  obtain ⟨v', H', I', rv, c, rfl, q⟩ := hv
  cases rv
  exact ⟨.bl c, H', I', rfl, q⟩
theorem op_neO (F : MeX X.prog X.w X.K X.mg X.base CX k C "__eq__" ps [] sp) (hr : Room (k + 1) X.A) (hx : Passes CX X E) (hne : PySem.W.findIn X.K (.ref C) "__ne__" = some (some (.builtin "object.__ne__"))) (hobj : PySem.W.mroIn X.K C (.type "object") = some true) :
    OpR X (compareOp .NotEq) (rCmpO X C sp E true) := by
  intro pins s z H x y v u Q I rx ry h
  obtain ⟨a, dx, fs, rfl, ha, R, q⟩ := h
  obtain ⟨f, fd, dvs, c, mm, b, vd, G⟩ := F.ex
  cases vd
  cases rx
  obtain ⟨tb, lk, nf⟩ := R.ty pins z s u I ry
  obtain ⟨mA, J, _⟩ := ins_get I.hok ha
  obtain ⟨od, J, _⟩ := J.look
  obtain ⟨m, hF⟩ := I.fr
  show wpAny (model X.prog X.w) X.A (richCompare .NotEq (.ref a) u) (EP X pins z Q) X.xe s
  refine PySem.W.ne_K (tb := tb) (hu_of hr) hF I.ok.mod.kin J lk nf hne hobj mm.at_ mm.fn ?_
  have e := I.env0
  have r2 : Vals [V.ref a, y] [Value.ref a, u] := .cons rfl (.cons ry .nil)
  have hl := G.len _ _ _ _ q
  refine wpAny_call (codeAny_mono (G.run X.A.in1 X.stack s H ⟨[.ref a, u], []⟩ [.ref a, u] [.ref a, y] _ E hr.in1 e.in1 (by
    have := b s [.ref a, u] I.kIn (by simpa using hl)
    simpa using this) r2 q) fun r s' hq => ?_)
  cases r with
  | error e => exact hx pins z H s e s' I hq
  | ok fl =>
    cases fl with
    | ret w =>
      obtain ⟨zz, H', I', rz, c, rfl, q⟩ := I.after hq
      cases rz
      exact ⟨c, rfl, .bl (!c), H', I', rfl, q⟩
    | next => exact False.elim hq
    | brk => exact False.elim hq
    | cont => exact False.elim hq
end
end L2


set_option Elab.async false
set_option linter.all false
set_option maxRecDepth 100000
set_option maxHeartbeats 4000000
namespace L2
open PySem PySem.Spec PyProof.Rows
section
variable {X : Cx}
/-- repr(True), repr(False) -/
theorem call_repr_bl : CallR X (.builtin "repr") (fun xs H Q => ∃ b : Bool, xs = [.bl b] ∧ Q (.str (if b then Str.ofString "True" else Str.ofString "False")) H) := by
  intro pins s z H xs us Q I r h
  obtain ⟨b, rfl, q⟩ := h
  obtain ⟨u, rfl, e⟩ := vals1 r
  obtain rfl : u = Value.bool b := e
  exact PySem.P.repr_of_bool ⟨.str _, H, I.tok _, ⟨_, rfl⟩, q⟩
/-- s * n -/
theorem op_rep_str : OpR X (binaryOp .Mult) (fun x y H Q => ∃ (a : Str) (n : Int), x = .str a ∧ y = .int n ∧ 2 ≤ n ∧ n ≤ 10000 ∧ 0 < a.length ∧ a.length ≤ 1000 ∧ (⟨(List.replicate n.toNat a.cps).foldl (· ++ ·) #[]⟩ : Str).length ≤ sizeLine ∧ Q (.str ⟨(List.replicate n.toNat a.cps).foldl (· ++ ·) #[]⟩) H) := by
  intro pins s z H x y v u Q I rx ry h
  obtain ⟨a, n, rfl, rfl, h1, h2, h3, h4, h5, q⟩ := h
  obtain ⟨t, rfl⟩ := rx
  obtain ⟨t', rfl⟩ := ry
  have e1 : (n == 1 || a.length == 0) = false := by
    have : ¬ n = 1 := by omega
    have : ¬ a.length = 0 := by omega
    simp_all
  have hm : a.length * n.toNat ≤ 1000 * 10000 := Nat.mul_le_mul h4 (by omega)
  refine PySem.P.mul_str ?_ (fun _ _ => ?_) (fun _ _ => ?_) ?_
  · rw [decide_eq_false (by omega), decide_eq_false (by omega)]; rfl
  · have : (2 ^ 63 - 1) / n ≥ 1000 := by
      have : (1000 : Int) * n ≤ 2 ^ 63 - 1 := by omega
      exact (Int.le_ediv_iff_mul_le (by omega)).mpr this
    omega
  · show decide (_ > sizeLine) = false
    have q9 : sizeLine = 16777216 := sizeLine_eq
    exact decide_eq_false (by omega)
  · rw [if_neg (by omega), if_neg (by rw [e1]; exact Bool.false_ne_true)]
    exact ⟨h5, .str _, H, I.tok _, ⟨_, rfl⟩, q⟩
/-- nothing leaves -/
theorem passF {P : Program} {w : World} {X : Cx} (h1 : X.prog = P := by rfl) (h2 : X.w = w := by rfl) : Passes (L2.CX P w) X (fun _ _ _ => False) := by
  subst h1 h2
  exact passes_call LamX.takes0 (fun _ _ _ _ h => h)
theorem takes_len {W : WX} (tk : Takes X W) : Takes X (fun cls d z H => z.length = X.N.length → W cls d z H) := fun u s' xx => by
  obtain ⟨a, B, sI, pins', z', H', cls, d, e, J', nb, up, sky, na, os, ag, w⟩ := xx
  exact tk u s' ⟨a, B, sI, pins', z', H', cls, d, e, J', nb, up, sky, na, os, ag, w J'.len⟩
end
theorem FunD.ok0 {P : Program} {w : World} {K : PySem.W.Frag} {mg : Str → Option Value} {base : Heap} {x q : Str} {st : Stmt} {N ps : List Str} {k : Nat} {sp : Sp} {f : Addr} {fd : FuncData} (F : FunD K x q (defArgs st) (defBody st) (defScope st) [] [] f fd) (S : FnScope N ps (defScope st))
    (len : ∀ vs H Q E, sp vs H Q E → vs.length = ps.length)
    (hbody : ∀ (cdv : Value) (A : Around) (outer : List Env) (s : Shared) (H : Hp) (vs : List V) (Q : VK) (E : XK), Room k (A.deeper (envOfC q (defScope st) s.heap.objs.size f cdv)) → sp vs H Q E →
      ∃ t, PSs (cxOf CX0 P w K mg base N q (defScope st) f cdv A outer s H E).nox (defBody st) t ∧ t { nx := fun _ H' => Q .non H', rt := Q } (start N vs) H) : FnOk P w K mg base CX0 (k + 1) f fd ps sp :=
  F.ok S len fun cdv A outer s H vs Q E hr h => by
    obtain ⟨t, h1, h2⟩ := hbody cdv A outer s H vs Q E hr h
    exact ⟨t, h1.nox, h2⟩
end L2


set_option Elab.async false
set_option linter.all false
set_option maxRecDepth 100000
set_option maxHeartbeats 4000000
namespace L2
open PySem PySem.Spec PyProof.Rows
section
variable {X : Cx} {C : Addr} {x : Str}
/-- X(): an error without fields -/
theorem pmk_err0 {p pos : Pos} {k : Nat} (T : ErrX.ErrTxt X.prog X.K [] C) (hm : X.mg x = some (.ref C)) (hr : Room k X.A) (hg : Gl X x := by rfl) (hdb : (x == ("__debug__" : Str)) = false := by decide) : PMk X (.Call (.Name x p) [] [] pos) (tMkErr C [] tNil) := by
  intro pins s z H Q I h
  obtain ⟨hl, q0, q1⟩ := h
  refine wpAny_Call_Name_kw (ld_glob I hg hm ?_ hdb)
  exact PySem.W.callWith_K0 I.kIn T.kC (mk_err (us := []) T hr I .nil hl q0 q1)
/-- isinstance(e, c), e an error that is pinned -/
theorem call_isErrP {a : Addr} {oe : Obj} {cls : Value} {d : Option Addr} (hp : (a, oe) ∈ X.pn) (hz : Zc cls d oe) (hf : ∃ vs, oe.data = .fields vs) : CallR X (.builtin "isinstance") (rIsErr X.K a cls d) := by
  intro pins s z H xs us Q I r h
  obtain ⟨D, c, cv, b, rfl, T, rfl, hcv, e, hd, q⟩ := h
  cases r with
  | cons rx rr =>
    cases rr with
    | cons rt rr =>
      cases rr
      cases rx
      have ec := hcv _ rt
      subst ec
      obtain ⟨hget, _⟩ := I.pin (a, oe) (List.mem_append.mpr (.inl hp))
      obtain ⟨vs, hv⟩ := hf
      have nc : PySem.W.notCls oe = true := by unfold PySem.W.notCls; rw [hv] <;> rfl
      have J : ∃ od, PySem.W.InstAt s.heap a oe D od := by
        rcases hd with rfl | ⟨dd, fvs, rfl, hx⟩
        · exact ⟨none, hget, hz.1, nc, by rw [hz.2]; trivial⟩
        · have hx' : ObjOk X.prog X.w H s.heap dd (.xd fvs) := I.hok dd _ hx
          obtain ⟨mA, ⟨od, es, ep, ho, _⟩, hr⟩ := hx'
          exact ⟨some od, hget, hz.1, nc, by rw [hz.2]; exact ho⟩
      obtain ⟨od, J⟩ := J
      exact PySem.W.kia_one (PySem.W.kitx_exc T.hcl T.hga T.hgt T.hsub T.ha T.hn T.htk T.hm) I.kIn J e (fun z => nomatch z) fun tk => ⟨.bl b, H, I.kept (t' := tk) fun _ _ z => z, rfl, q⟩
/-- a def that may raise, called in a try's body -/
theorem pe_callXS {CX : CXT} {k : Nat} {ps : List Str} {sp : Sp} {E : L2.St → XK} {p pos : Pos} {e : Expr} {es : List Expr} {t : TA} (F : FnX X.prog X.w X.K X.mg X.base CX k x ps [] sp) (hr : Room k X.A) (hx : ∀ z, PassesAt CX X z (E z)) (ha : PA X (e :: es) t) (hg : Gl X x := by rfl) (hdb : (x == ("__debug__" : Str)) = false := by decide)
    (he : starEach (e :: es) X.env = (false, eval e X.env) :: starEach es X.env := by rfl) (hpl : (backTo pos (starEach es X.env)).any (·.1) = false := by rfl) : PE X (.Call (.Name x p) (e :: es) [] pos) (tCallS sp E t) := by
  obtain ⟨f, fd, dvs, hm, kp, b, vd, G⟩ := F.ex
  cases vd
  exact pe_callS G hr hg hm kp b hx ha hdb he hpl
/-- a def that got the pinned error: its body's walk, entered with the pin -/
theorem run_pin {N ps : List Str} {st : Stmt} {f : Addr} {fd : FuncData} {k : Nat} {p : Addr × Obj} {pins : List (Addr × Obj)} {z : L2.St} {H : Hp} {s : Shared} {us : List Value} {vs : List V} {Q : VK} {y : Str}
    (F : FunD X.K y y (defArgs st) (defBody st) (defScope st) [] [] f fd) (S : FnScope N ps (defScope st)) (hl : vs.length = ps.length) (hb : Binds X.K fd ps []) (hr : L2H.RoomH (k + 1) X.A) (hp : p ∈ X.pn) (I : Inv X pins z H s) (r : Vals vs us)
    (hbody : ∀ (cdv : Value), L2H.RoomH k (X.A.deeper (envOfC y (defScope st) s.heap.objs.size f cdv)) →
      ∃ t, PSs (L2H.cxH CX0 X.prog X.w X.K X.mg X.base N y (defScope st) f cdv X.A X.stack s H E0 p) (defBody st) t ∧ t { nx := fun _ H' => Q .non H', rt := Q } (start N vs) H) :
    wpAny (model X.prog X.w) X.A (call (.ref f) us) (EP X pins z Q) X.xe s := by
  obtain ⟨oc, od, dV, kV, doc, pm, an, cdv, ct, osl, rfl, lk, hcd, _, _⟩ := F.ex
  have b := hb s us I.kIn (by rw [List.append_nil, ← r.length]; exact hl)
  rw [List.append_nil] at b
  have P1 := I.pin p (List.mem_append_left _ hp)
  have hpin : L2H.PinOk X.stack H s p := ⟨P1.1, P1.2.1, fun hm => by
    rcases List.mem_cons.mp (I.stkSub p.1 hm) with e | e
    · exact P1.2.2.1 e
    · exact P1.2.2.2.1 e, P1.2.2.2.2⟩
  have e0 := I.env0
  have KX : X.K.In s.heap := e0.mod.kin.keeps fun _ _ e => (e0.bs _ _ e).1
  have lim : s.heap.NoLimit := e0.mod.nolimit.keeps fun _ _ e => (e0.bs _ _ e).1
  have hk2 : ∀ q ∈ ps.zip us, (defScope st).names.lookup q.1 = some .local ∨ ((defScope st).names.lookup q.1 = some .cell ∧ ((cellsFrom (s.heap.objs.size + 1) (defScope st).names []).lookup q.1).isSome = true) := by
    rintro ⟨n, v⟩ hq
    rcases S.par n (List.of_mem_zip hq).1 with e | e
    · exact .inl e
    · exact .inr ⟨e, PySem.W.cellsFrom_some _ _ _ (.inl e)⟩
  have rc : codeAny (model X.prog X.w) X.A (.call (.ref f) ⟨us, []⟩) (CR CX0 X.stack X.prog X.w H s Q E0) s := by
    refine codeAny_call_function hr.depth (KX _ _ lk) rfl S.co S.gen rfl (PySem.W.codeRec_of KX hcd) (b _ _ _ _ (wpAny_newFunctionEnv_cells S.kind hk2 fun env he s1 x => ?_))
    subst he
    refine ⟨lim.keeps x.toInCall.keep, codeAny_func ?_⟩
    obtain ⟨t, ht, hq⟩ := hbody cdv (hr.deeper _)
    have J := L2H.inv_startH (CX := CX0) (E := E0) (f := f) (cd := cdv) S hpin e0 hl r x
    refine wpAny_mono (ht.run [] s1 (start N vs) H _ J hq) (fun fl s' hs => ?_) fun e s' hs => hs
    cases fl with
    | ret u =>
      obtain ⟨v, z', H', J', rv, q⟩ := hs
      exact ⟨v, H', J'.os, J'.bare, J'.base, J'.hok, rv, q⟩
    | next =>
      obtain ⟨z', H', J', q⟩ := hs
      exact ⟨V.non, H', J'.os, J'.bare, J'.base, J'.hok, rfl, q⟩
    | brk =>
      obtain ⟨_, _, _, q⟩ := hs
      exact q.elim
    | cont =>
      obtain ⟨_, _, _, q⟩ := hs
      exact q.elim
  refine wpAny_call (codeAny_mono rc fun r s' hq => ?_)
  cases r with
  | error e => exact (show False from hq).elim
  | ok fl =>
    cases fl with
    | ret u => exact I.after hq
    | next => exact False.elim hq
    | brk => exact False.elim hq
    | cont => exact False.elim hq
end
end L2


set_option Elab.async false
set_option linter.all false
set_option maxRecDepth 100000
set_option maxHeartbeats 4000000

namespace K00
open PySem PySem.Spec PyProof.Rows L2
def top (i : Nat) : Stmt := PySem.Challenge.pw_heldplaces_k00_errors_made_from_their_fi.main.body.getD i (.Pass ⟨0, 0, 0, 0⟩)
abbrev s_BadKind_init : Stmt := inClass (top 2) 0
abbrev s_BadLine_init : Stmt := inClass (top 3) 0
abbrev s_Refused_init : Stmt := inClass (top 4) 0
abbrev s_BadPromise_init : Stmt := inClass (top 5) 0
abbrev s_BadRule_init : Stmt := inClass (top 6) 0
abbrev s_BadSize_init : Stmt := inClass (top 7) 0
abbrev s_BadCount_init : Stmt := inClass (top 8) 0
abbrev s_BadNumber_init : Stmt := inClass (top 9) 0
abbrev s_BadPage_init : Stmt := inClass (top 10) 0
abbrev s_BadCase_init : Stmt := inClass (top 11) 0
abbrev s_BadHanded_init : Stmt := inClass (top 12) 0
abbrev s_BadOutcomes_init : Stmt := inClass (top 13) 0
abbrev s_BadKey_init : Stmt := inClass (top 14) 0
abbrev s_BadLength_init : Stmt := inClass (top 15) 0
abbrev s_BadLives_init : Stmt := inClass (top 16) 0
abbrev s_BadName_init : Stmt := inClass (top 17) 0
abbrev s_NoCursor_init : Stmt := inClass (top 18) 0
abbrev s_BadSum_init : Stmt := inClass (top 19) 0
abbrev s_OtherKinds_init : Stmt := inClass (top 20) 0
abbrev s_OtherRules_init : Stmt := inClass (top 21) 0
abbrev s_OtherFactors_init : Stmt := inClass (top 22) 0
abbrev s_Beyond_init : Stmt := inClass (top 23) 0
abbrev s_Broken_init : Stmt := inClass (top 24) 0
abbrev s_TooMany_init : Stmt := inClass (top 25) 0
abbrev s_l_bag : Stmt := top 27
theorem sc_l_bag : FnScope ["_law_script", "_law_fold", "_law_cell"] ["_law_script"] (defScope s_l_bag) := ⟨rfl, rfl, rfl, by decide +kernel, rfl, by decide +kernel, by decide +kernel⟩
abbrev s_l_draw : Stmt := top 28
theorem sc_l_draw : FnScope ["_law_bag_here", "_law_limit", "_law_cell", "_law_digit", "_law_base", "_law_found"] ["_law_bag_here", "_law_limit"] (defScope s_l_draw) := ⟨rfl, rfl, rfl, by decide +kernel, rfl, by decide +kernel, by decide +kernel⟩
abbrev s_l_thing : Stmt := top 29
theorem sc_l_thing : FnScope ["_law_bag_here", "_law_great", "_law_things"] ["_law_bag_here"] (defScope s_l_thing) := ⟨rfl, rfl, rfl, by decide +kernel, rfl, by decide +kernel, by decide +kernel⟩
abbrev s_l_raised_0 : Stmt := top 30
theorem sc_l_raised_0 : FnScope ["_law_k", "_law_a", "_law_b", "_law_c"] ["_law_k", "_law_a", "_law_b", "_law_c"] (defScope s_l_raised_0) := ⟨rfl, rfl, rfl, by decide +kernel, rfl, by decide +kernel, by decide +kernel⟩
abbrev s_l_raised_1 : Stmt := top 31
theorem sc_l_raised_1 : FnScope ["_law_k", "_law_a", "_law_b", "_law_c"] ["_law_k", "_law_a", "_law_b", "_law_c"] (defScope s_l_raised_1) := ⟨rfl, rfl, rfl, by decide +kernel, rfl, by decide +kernel, by decide +kernel⟩
abbrev s_l_raised_2 : Stmt := top 32
theorem sc_l_raised_2 : FnScope ["_law_k", "_law_a", "_law_b", "_law_c"] ["_law_k", "_law_a", "_law_b", "_law_c"] (defScope s_l_raised_2) := ⟨rfl, rfl, rfl, by decide +kernel, rfl, by decide +kernel, by decide +kernel⟩
abbrev s_l_raised : Stmt := top 33
theorem sc_l_raised : FnScope ["_law_k", "_law_a", "_law_b", "_law_c"] ["_law_k", "_law_a", "_law_b", "_law_c"] (defScope s_l_raised) := ⟨rfl, rfl, rfl, by decide +kernel, rfl, by decide +kernel, by decide +kernel⟩
abbrev s_l_kinds_of : Stmt := top 34
theorem sc_l_kinds_of : FnScope ["_law_e", "_law_found"] ["_law_e"] (defScope s_l_kinds_of) := ⟨rfl, rfl, rfl, by decide +kernel, rfl, by decide +kernel, by decide +kernel⟩
abbrev s_l_caught : Stmt := top 35
theorem sc_l_caught : FnScope ["_law_k", "_law_a", "_law_b", "_law_c", "_law_e"] ["_law_k", "_law_a", "_law_b", "_law_c"] (defScope s_l_caught) := ⟨rfl, rfl, rfl, by decide +kernel, rfl, by decide +kernel, by decide +kernel⟩
abbrev s_l_fields_0 : Stmt := top 36
theorem sc_l_fields_0 : FnScope ["_law_k", "_law_a", "_law_b", "_law_c", "_law_told", "_law_e"] ["_law_k", "_law_a", "_law_b", "_law_c"] (defScope s_l_fields_0) := ⟨rfl, rfl, rfl, by decide +kernel, rfl, by decide +kernel, by decide +kernel⟩
abbrev s_l_fields_1 : Stmt := top 37
theorem sc_l_fields_1 : FnScope ["_law_k", "_law_a", "_law_b", "_law_c", "_law_told", "_law_e"] ["_law_k", "_law_a", "_law_b", "_law_c"] (defScope s_l_fields_1) := ⟨rfl, rfl, rfl, by decide +kernel, rfl, by decide +kernel, by decide +kernel⟩
abbrev s_l_fields_2 : Stmt := top 38
theorem sc_l_fields_2 : FnScope ["_law_k", "_law_a", "_law_b", "_law_c", "_law_told", "_law_e"] ["_law_k", "_law_a", "_law_b", "_law_c"] (defScope s_l_fields_2) := ⟨rfl, rfl, rfl, by decide +kernel, rfl, by decide +kernel, by decide +kernel⟩
abbrev s_l_fields : Stmt := top 39
theorem sc_l_fields : FnScope ["_law_k", "_law_a", "_law_b", "_law_c"] ["_law_k", "_law_a", "_law_b", "_law_c"] (defScope s_l_fields) := ⟨rfl, rfl, rfl, by decide +kernel, rfl, by decide +kernel, by decide +kernel⟩
abbrev s_law : Stmt := top 40
theorem sc_law : FnScope ["_law_script", "_law_bag_here", "_law_sizes", "_law_k", "_law_a", "_law_b", "_law_c", "_law_j"] ["_law_script"] (defScope s_law) := ⟨rfl, rfl, rfl, by decide +kernel, rfl, by decide +kernel, by decide +kernel⟩
abbrev P0 : Program := PySem.Challenge.pw_heldplaces_k00_errors_made_from_their_fi
/-- the errors' names, their fields -/
def eN : List Str := ["BadKind", "BadLine", "Refused", "BadPromise", "BadRule", "BadSize", "BadCount", "BadNumber", "BadPage", "BadCase", "BadHanded", "BadOutcomes", "BadKey", "BadLength", "BadLives", "BadName", "NoCursor", "BadSum", "OtherKinds", "OtherRules", "OtherFactors", "Beyond", "Broken", "TooMany"]
def eF : List (List Str) := [["kind"], ["line"], ["line"], ["promise"], ["what"], ["size"], ["many"], ["number"], ["page"], ["case"], ["handed"], ["word"], ["key"], ["length"], ["lives"], ["name"], ["cursor"], ["text"], ["part"], ["part"], [], [], ["part"], ["what", "many", "most"]]
/-- what the top has left -/
structure Tx (P : Program) (K : PySem.W.Frag) (mg : Str → Option Value) : Prop where
  d_l_bag : DefX K mg "_law_bag" s_l_bag
  d_l_draw : DefX K mg "_law_draw" s_l_draw
  d_l_thing : DefX K mg "_law_thing" s_l_thing
  d_l_raised_0 : DefX K mg "_law_raised_0" s_l_raised_0
  d_l_raised_1 : DefX K mg "_law_raised_1" s_l_raised_1
  d_l_raised_2 : DefX K mg "_law_raised_2" s_l_raised_2
  d_l_raised : DefX K mg "_law_raised" s_l_raised
  d_l_kinds_of : DefX K mg "_law_kinds_of" s_l_kinds_of
  d_l_caught : DefX K mg "_law_caught" s_l_caught
  d_l_fields_0 : DefX K mg "_law_fields_0" s_l_fields_0
  d_l_fields_1 : DefX K mg "_law_fields_1" s_l_fields_1
  d_l_fields_2 : DefX K mg "_law_fields_2" s_l_fields_2
  d_l_fields : DefX K mg "_law_fields" s_l_fields
  d_law : DefX K mg "law" s_law
  g_HeldError : mg "HeldError" = some (.ref (He.ga K "HeldError"))
  e_BadKind : ErrX.ErrTxt P K ["kind"] (He.ga K "BadKind")
  g_BadKind : mg "BadKind" = some (.ref (He.ga K "BadKind"))
  e_BadLine : ErrX.ErrTxt P K ["line"] (He.ga K "BadLine")
  g_BadLine : mg "BadLine" = some (.ref (He.ga K "BadLine"))
  e_Refused : ErrX.ErrTxt P K ["line"] (He.ga K "Refused")
  g_Refused : mg "Refused" = some (.ref (He.ga K "Refused"))
  e_BadPromise : ErrX.ErrTxt P K ["promise"] (He.ga K "BadPromise")
  g_BadPromise : mg "BadPromise" = some (.ref (He.ga K "BadPromise"))
  e_BadRule : ErrX.ErrTxt P K ["what"] (He.ga K "BadRule")
  g_BadRule : mg "BadRule" = some (.ref (He.ga K "BadRule"))
  e_BadSize : ErrX.ErrTxt P K ["size"] (He.ga K "BadSize")
  g_BadSize : mg "BadSize" = some (.ref (He.ga K "BadSize"))
  e_BadCount : ErrX.ErrTxt P K ["many"] (He.ga K "BadCount")
  g_BadCount : mg "BadCount" = some (.ref (He.ga K "BadCount"))
  e_BadNumber : ErrX.ErrTxt P K ["number"] (He.ga K "BadNumber")
  g_BadNumber : mg "BadNumber" = some (.ref (He.ga K "BadNumber"))
  e_BadPage : ErrX.ErrTxt P K ["page"] (He.ga K "BadPage")
  g_BadPage : mg "BadPage" = some (.ref (He.ga K "BadPage"))
  e_BadCase : ErrX.ErrTxt P K ["case"] (He.ga K "BadCase")
  g_BadCase : mg "BadCase" = some (.ref (He.ga K "BadCase"))
  e_BadHanded : ErrX.ErrTxt P K ["handed"] (He.ga K "BadHanded")
  g_BadHanded : mg "BadHanded" = some (.ref (He.ga K "BadHanded"))
  e_BadOutcomes : ErrX.ErrTxt P K ["word"] (He.ga K "BadOutcomes")
  g_BadOutcomes : mg "BadOutcomes" = some (.ref (He.ga K "BadOutcomes"))
  e_BadKey : ErrX.ErrTxt P K ["key"] (He.ga K "BadKey")
  g_BadKey : mg "BadKey" = some (.ref (He.ga K "BadKey"))
  e_BadLength : ErrX.ErrTxt P K ["length"] (He.ga K "BadLength")
  g_BadLength : mg "BadLength" = some (.ref (He.ga K "BadLength"))
  e_BadLives : ErrX.ErrTxt P K ["lives"] (He.ga K "BadLives")
  g_BadLives : mg "BadLives" = some (.ref (He.ga K "BadLives"))
  e_BadName : ErrX.ErrTxt P K ["name"] (He.ga K "BadName")
  g_BadName : mg "BadName" = some (.ref (He.ga K "BadName"))
  e_NoCursor : ErrX.ErrTxt P K ["cursor"] (He.ga K "NoCursor")
  g_NoCursor : mg "NoCursor" = some (.ref (He.ga K "NoCursor"))
  e_BadSum : ErrX.ErrTxt P K ["text"] (He.ga K "BadSum")
  g_BadSum : mg "BadSum" = some (.ref (He.ga K "BadSum"))
  e_OtherKinds : ErrX.ErrTxt P K ["part"] (He.ga K "OtherKinds")
  g_OtherKinds : mg "OtherKinds" = some (.ref (He.ga K "OtherKinds"))
  e_OtherRules : ErrX.ErrTxt P K ["part"] (He.ga K "OtherRules")
  g_OtherRules : mg "OtherRules" = some (.ref (He.ga K "OtherRules"))
  e_OtherFactors : ErrX.ErrTxt P K [] (He.ga K "OtherFactors")
  g_OtherFactors : mg "OtherFactors" = some (.ref (He.ga K "OtherFactors"))
  e_Beyond : ErrX.ErrTxt P K [] (He.ga K "Beyond")
  g_Beyond : mg "Beyond" = some (.ref (He.ga K "Beyond"))
  e_Broken : ErrX.ErrTxt P K ["part"] (He.ga K "Broken")
  g_Broken : mg "Broken" = some (.ref (He.ga K "Broken"))
  e_TooMany : ErrX.ErrTxt P K ["what", "many", "most"] (He.ga K "TooMany")
  g_TooMany : mg "TooMany" = some (.ref (He.ga K "TooMany"))
  b_len : mg "len" = none
  b_int : mg "int" = none
  b_list : mg "list" = none
  b_range : mg "range" = none
  b_isinstance : mg "isinstance" = none
  b_ValueError : mg "ValueError" = none
  kk : ∀ x ∈ eN, ErrK K (He.ga K x)
  xm : ∀ x ∈ eN, ∀ y ∈ eN, PySem.W.exmOne K (.ref (He.ga K x)) (.ref (He.ga K y)) = some (decide (x = y))
  km : ∀ x ∈ eN, ∀ y ∈ eN, PySem.W.kitOne K (.ref (He.ga K x)) (.ref (He.ga K y)) = some (decide (x = y))
  xh : ∀ x ∈ eN, PySem.W.exmOne K (.ref (He.ga K x)) (.ref (He.ga K "HeldError")) = some true
  kv : ∀ x ∈ eN, PySem.W.kitOne K (.ref (He.ga K x)) (.type "ValueError") = some true
end K00


set_option Elab.async false
set_option linter.all false
set_option maxRecDepth 100000
set_option maxHeartbeats 4000000
namespace K00
open PySem PySem.Spec PyProof.Rows L2
section
variable {P : Program} {w : World} {K : PySem.W.Frag} {mg : Str → Option Value} {base : Heap}
/-- all but the object at x is as it was -/
def SameBut (x : Addr) (H H' : Hp) : Prop := ∀ b o, b ≠ x → H b = some o → H' b = some o
theorem SameBut.refl {x : Addr} {H : Hp} : SameBut x H H := fun _ _ _ h => h
theorem SameBut.trans {x : Addr} {H H1 H2 : Hp} (a : SameBut x H H1) (b : SameBut x H1 H2) : SameBut x H H2 := fun c o n h => b c o n (a c o n h)
theorem SameBut.of {x : Addr} {H H1 : Hp} (a : Same H H1) : SameBut x H H1 := fun c o _ h => a c o h
theorem SameBut.put {x : Addr} {H : Hp} {o : HO} : SameBut x H (upd H x o) := fun c u n h => by rw [upd_ne n]; exact h
def bagD (c : Addr) (at_ dg cnt fo : Int) : HO := .dK [(Sum.inr "cells", .ref c), (Sum.inr "at", .int at_), (Sum.inr "digits", .int dg), (Sum.inr "count", .int cnt), (Sum.inr "fold", .int fo)]
/-- the bag at d: at most n draws so far -/
def Bag (H : Hp) (d c : Addr) (n : Nat) : Prop := ∃ (cs : List Int) (at_ dg cnt fo : Int), H d = some (bagD c at_ dg cnt fo) ∧ H c = some (.lst (cs.map V.int)) ∧ 0 ≤ at_ ∧ 0 ≤ dg ∧ 0 ≤ cnt ∧ cnt ≤ n ∧ 0 ≤ fo ∧ fo < 2147483648
theorem Bag.mono {H : Hp} {d c : Addr} {n m : Nat} (h : Bag H d c n) (hm : n ≤ m) : Bag H d c m := by
  obtain ⟨cs, a, dg, cnt, fo, h1, h2, h3, h4, h5, h6, h7⟩ := h
  exact ⟨cs, a, dg, cnt, fo, h1, h2, h3, h4, h5, by omega, h7⟩
theorem Bag.up {H H' : Hp} {d c : Addr} {n : Nat} (h : Bag H d c n) (e : Same H H') : Bag H' d c n := by
  obtain ⟨cs, a, dg, cnt, fo, h1, h2, h3⟩ := h
  exact ⟨cs, a, dg, cnt, fo, e _ _ h1, e _ _ h2, h3⟩
section
variable {H : Hp} {d c : Addr} {a b m l : Int}
theorem g_cells (h : H d = some (bagD c a b m l)) : DGet H d (.str (Str.ofString "cells")) (some (.ref c)) := DGet.k (k := Sum.inr "cells") h
theorem g_at (h : H d = some (bagD c a b m l)) : DGet H d (.str (Str.ofString "at")) (some (.int a)) := DGet.k (k := Sum.inr "at") h
theorem g_dig (h : H d = some (bagD c a b m l)) : DGet H d (.str (Str.ofString "digits")) (some (.int b)) := DGet.k (k := Sum.inr "digits") h
theorem g_count (h : H d = some (bagD c a b m l)) : DGet H d (.str (Str.ofString "count")) (some (.int m)) := DGet.k (k := Sum.inr "count") h
theorem g_fold (h : H d = some (bagD c a b m l)) : DGet H d (.str (Str.ofString "fold")) (some (.int l)) := DGet.k (k := Sum.inr "fold") h
theorem p_at (x : Int) (h : H d = some (bagD c a b m l)) : DPut H d (.str (Str.ofString "at")) (.int x) (upd H d (bagD c x b m l)) := DPut.k (k := Sum.inr "at") h (by show 5 < sizeLine; decide)
theorem p_dig (x : Int) (h : H d = some (bagD c a b m l)) : DPut H d (.str (Str.ofString "digits")) (.int x) (upd H d (bagD c a x m l)) := DPut.k (k := Sum.inr "digits") h (by show 5 < sizeLine; decide)
theorem p_count (x : Int) (h : H d = some (bagD c a b m l)) : DPut H d (.str (Str.ofString "count")) (.int x) (upd H d (bagD c a b x l)) := DPut.k (k := Sum.inr "count") h (by show 5 < sizeLine; decide)
theorem p_fold (x : Int) (h : H d = some (bagD c a b m l)) : DPut H d (.str (Str.ofString "fold")) (.int x) (upd H d (bagD c a b m x)) := DPut.k (k := Sum.inr "fold") h (by show 5 < sizeLine; decide)
end
def spBag (K : PySem.W.Frag) : Sp := fun vs H Q E => ∃ (a : Addr) (xs : List Int), vs = [.ref a] ∧ SqL K H a (xs.map V.int) ∧ ∀ d c H', H d = none → Same H H' → Bag H' d c 0 → Q (.ref d) H'
theorem ok_bag (T : Tx P K mg) : FnX P w K mg base CX0 1 "_law_bag" ["_law_script"] [] (spBag K) := by
  refine T.d_l_bag.ok0 sc_l_bag (fun _ _ _ _ _ _ us hl => match us, hl with | [_], _ => rfl) (fun vs H Q E h => ?_) (fun f cdv A outer s H vs Q E hr h => have hu := hu_of hr; ⟨_, (by exact (pss_cons (ps_set (i := 1) sc_l_bag.nd rfl (Or.inl rfl) pe_int)
      (pss_cons (ps_for PassesOwn.never rfl (pi_list (pv 0)) (pg_name (i := 2) sc_l_bag.nd rfl (Or.inl rfl))
        (pss_one (ps_set (i := 1) sc_l_bag.nd rfl (Or.inl rfl) (pe_op op_mod (pe_callTy call_int1 (by rfl) T.b_int (by decide +kernel) (pa_cons (pe_op op_add (pe_op op_mul (pv 1) pe_int) (pv 2)) pa_nil)) pe_int))))
      (pss_one (ps_ret (pe_disp (pps_cons pe_str (pe_callTy call_list_of (by rfl) T.b_list (by decide +kernel) (pa_cons (pv 0) pa_nil)) (pps_cons pe_str pe_int (pps_cons pe_str pe_int (pps_cons pe_str pe_int (pps_cons pe_str (pv 1) pps_nil))))) (by rfl) (by rfl) (fun z => by cases z) (by decide))))))), ?_⟩)
  · obtain ⟨a, xs, rfl, _⟩ := h
    rfl
  obtain ⟨a, xs, rfl, ha, hq⟩ := h
  refine ⟨_, rfl, a, rfl, ⟨_, ha⟩, for_list (xs := xs.map V.int) (fun i z H' => H' = H ∧ ∃ fo o, z = [some (.ref a), some (.int fo), o] ∧ 0 ≤ fo ∧ fo < 1000000009) ⟨rfl, 0, _, rfl, by decide, by decide⟩ (fun i z H' _ h => by rw [h.1]; exact ha) ?_ ?_⟩
  · rintro i v z H' hv ⟨rfl, fo, o, rfl, f0, f1⟩
    obtain ⟨k, h1, h2⟩ := List.mem_map.mp (List.mem_of_getElem? hv)
    subst h2
    refine ⟨_, rfl, _, _, rfl, rfl, .inl ⟨by omega, by omega⟩, _, rfl, _, _, rfl, rfl, .inl ⟨_, rfl, _, _, rfl, rfl, (by decide : (0 : Int) < 1000000009), ?_⟩⟩
    exact ⟨rfl, _, _, rfl, Int.emod_nonneg _ (by decide), Int.emod_lt_of_pos _ (by decide)⟩
  · rintro z H' ⟨rfl, fo, o, rfl, f0, f1⟩
    refine fun d hd => ⟨_, rfl, a, _, rfl, .inl ((Same.new hd).seq ha), fun l hl => ⟨_, rfl, ?_⟩⟩
    have hd2 : upd (upd H' d (.dK [])) l (.lst (xs.map V.int)) d = some (.dK []) := Same.new hl _ _ upd_same
    have hl2 : upd (upd H' d (.dK [])) l (.lst (xs.map V.int)) l = some (.lst (xs.map V.int)) := upd_same
    have S2 : Same H' (upd (upd H' d (.dK [])) l (.lst (xs.map V.int))) := (Same.new hd).trans (Same.new hl)
    refine ⟨hd2, [(Sum.inr "cells", .ref l), (Sum.inr "at", .int 0), (Sum.inr "digits", .int 0), (Sum.inr "count", .int 0), (Sum.inr "fold", .int fo)], rfl, (by show 5 ≤ 15; decide), ?_⟩
    refine hq d l _ hd (S2.mut hd) ⟨xs, 0, 0, 0, fo, upd_same, ?_, by omega, by omega, by omega, by omega, f0, by omega⟩
    rw [upd_ne (fun z => by subst z; rw [hl2] at hd2; cases hd2)]
    exact hl2
/-- a draw below lim -/
def spDraw : Sp := fun vs H Q E => ∃ (d c : Addr) (n : Nat) (lim : Int), vs = [.ref d, .int lim] ∧ Bag H d c n ∧ n < 2 ^ 40 ∧ 0 < lim ∧ lim ≤ 10 ^ 15 ∧ ∀ r H', 0 ≤ r → r < lim → SameBut d H H' → Bag H' d c (n + 1) → Q (.int r) H'
theorem ok_draw (T : Tx P K mg) : FnX P w K mg base CX0 1 "_law_draw" ["_law_bag_here", "_law_limit"] [] spDraw := by
  refine T.d_l_draw.ok0 sc_l_draw (fun _ _ _ _ _ _ us hl => match us, hl with | [_, _], _ => rfl) (fun vs H Q E h => ?_) (fun f cdv A outer s H vs Q E hr h => have hu := hu_of hr; ⟨_, (by exact (pss_cons (ps_dput hu (pv 0) pe_str (pe_op op_add (pe_dget hu (pv 0) pe_str (fun _ _ => rfl)) pe_int) rfl)
      (pss_cons (ps_if (PW.pt (pw_and (pt_cmpR op_eq (pe_dget hu (pv 0) pe_str (fun _ _ => rfl)) pe_int (nomark _)) (pw_and1 (pt_cmpR op_lt (pe_dget hu (pv 0) pe_str (fun _ _ => rfl)) (pe_callB call_len_seq (by rfl) T.b_len (by decide +kernel) (pa_cons (pe_dget hu (pv 0) pe_str (fun _ _ => rfl)) pa_nil)) (nomark _))))) (pss_cons (ps_set (i := 2) sc_l_draw.nd rfl (Or.inl rfl) (pe_ix ix_list (pe_dget hu (pv 0) pe_str (fun _ _ => rfl)) (pe_dget hu (pv 0) pe_str (fun _ _ => rfl)) (fun _ _ => rfl)))
      (pss_cons (ps_dput hu (pv 0) pe_str (pe_op op_add (pe_dget hu (pv 0) pe_str (fun _ _ => rfl)) pe_int) rfl)
      (pss_one (ps_if (pt_cmpR op_ge (pv 2) (pe_op op_pow pe_int pe_int) (nomark _)) (pss_one (ps_dput hu (pv 0) pe_str (pe_op op_sub (pv 2) (pe_op op_pow pe_int pe_int)) rfl)) (pss_one (ps_dput hu (pv 0) pe_str (pe_op op_mod (pe_callTy call_int1 (by rfl) T.b_int (by decide +kernel) (pa_cons (pe_op op_add (pe_op op_mul (pe_dget hu (pv 0) pe_str (fun _ _ => rfl)) pe_int) (pv 2)) pa_nil)) pe_int) rfl)))))) pss_nil)
      (pss_cons (ps_if (pt_cmpR op_gt (pe_dget hu (pv 0) pe_str (fun _ _ => rfl)) pe_int (nomark _)) (pss_cons (ps_set (i := 3) sc_l_draw.nd rfl (Or.inl rfl) (pe_op op_mod (pe_callTy call_int1 (by rfl) T.b_int (by decide +kernel) (pa_cons (pe_dget hu (pv 0) pe_str (fun _ _ => rfl)) pa_nil)) (pv 1)))
      (pss_cons (ps_dput hu (pv 0) pe_str (pe_op op_fdivW (pe_dget hu (pv 0) pe_str (fun _ _ => rfl)) (pv 1)) rfl)
      (pss_one (ps_ret (pv 3))))) pss_nil)
      (pss_cons (ps_set (i := 4) sc_l_draw.nd rfl (Or.inl rfl) (pe_op op_add (pe_op op_add (pe_dget hu (pv 0) pe_str (fun _ _ => rfl)) (pe_op op_mul (pe_dget hu (pv 0) pe_str (fun _ _ => rfl)) pe_int)) pe_int))
      (pss_cons (ps_set (i := 5) sc_l_draw.nd rfl (Or.inl rfl) (pe_op op_fdiv (pe_callTy call_int1 (by rfl) T.b_int (by decide +kernel) (pa_cons (pe_op op_mod (pe_op op_pow (pv 4) pe_int) pe_int) pa_nil)) pe_int))
      (pss_one (ps_ret (pe_ifExp (pt_cmpR op_lt (pv 1) (pe_op op_pow pe_int pe_int) (nomark _)) (pe_op op_mod (pv 5) (pv 1)) (pe_op op_mod (pe_callTy call_int1 (by rfl) T.b_int (by decide +kernel) (pa_cons (pe_op op_pow (pv 5) pe_int) pa_nil)) (pv 1))))))))))), ?_⟩)
  · obtain ⟨d, c, n, sp, rfl, _⟩ := h
    rfl
  obtain ⟨d, c, n, lim, rfl, ⟨cs, at0, dg0, cnt0, fo0, hd, hc, a1, a2, a3, a4, a5, a6⟩, hn, l0, l1, hq⟩ := h
  have hcd : c ≠ d := fun z => by subst z; rw [hd] at hc; cases hc
  refine ⟨_, rfl, d, _, rfl, g_count hd, _, _, rfl, rfl, _, rfl, d, _, rfl, p_count _ hd, ?_⟩
  have S1 : SameBut d H (upd H d (bagD c at0 dg0 (cnt0 + 1) fo0)) := SameBut.put
  have hd1 : upd H d (bagD c at0 dg0 (cnt0 + 1) fo0) d = some (bagD c at0 dg0 (cnt0 + 1) fo0) := upd_same
  have hc1 : upd H d (bagD c at0 dg0 (cnt0 + 1) fo0) c = some (.lst (cs.map V.int)) := by rw [upd_ne hcd]; exact hc
  generalize upd H d (bagD c at0 dg0 (cnt0 + 1) fo0) = H1 at *
  refine ⟨_, rfl, d, _, rfl, g_dig hd1, rfl, _, rfl, ?_⟩
  refine iteB (fun g0 => ?_) (fun _ => iteF ?_)
  · refine ⟨_, rfl, d, _, rfl, g_at hd1, _, rfl, d, _, rfl, g_cells hd1, c, _, rfl, .inl (SqL.of hc1), _, _, rfl, rfl, _, rfl, ?_⟩
    refine iteB (fun g1 => ?_) (fun _ => ?_)
    · have g1' : at0 < (cs.map V.int).length := of_decide_eq_true g1
      rw [List.length_map] at g1'
      have hj : at0.toNat < cs.length := by omega
      have ej : at0 = ((at0.toNat : Nat) : Int) := by omega
      have q := atI_nat (xs := cs.map V.int) (j := at0.toNat) (v := .int cs[at0.toNat]) (by simp [hj])
      rw [← ej] at q
      refine ⟨_, rfl, d, _, rfl, g_cells hd1, _, rfl, d, _, rfl, g_at hd1, c, _, _, _, rfl, rfl, SqL.of hc1, q, ?_⟩
      clear q
      generalize cs[at0.toNat] = cell
      refine ⟨_, rfl, d, _, rfl, g_at hd1, _, _, rfl, rfl, _, rfl, d, _, rfl, p_at _ hd1, ?_⟩
      have S2 : SameBut d H (upd H1 d (bagD c (at0 + 1) dg0 (cnt0 + 1) fo0)) := S1.trans SameBut.put
      have hd2 : upd H1 d (bagD c (at0 + 1) dg0 (cnt0 + 1) fo0) d = some (bagD c (at0 + 1) dg0 (cnt0 + 1) fo0) := upd_same
      have hc2 : upd H1 d (bagD c (at0 + 1) dg0 (cnt0 + 1) fo0) c = some (.lst (cs.map V.int)) := by rw [upd_ne hcd]; exact hc1
      generalize upd H1 d (bagD c (at0 + 1) dg0 (cnt0 + 1) fo0) = H2 at *
      refine ⟨_, rfl, _, _, rfl, rfl, ⟨by decide, by decide, by decide⟩, _, _, rfl, rfl, _, rfl, ?_⟩
      refine iteB (fun g2 => ?_) (fun _ => ?_)
      · refine ⟨_, rfl, _, _, rfl, rfl, ⟨by decide, by decide, by decide⟩, _, _, rfl, rfl, _, rfl, d, _, rfl, p_dig _ hd2, ?_⟩
        have b2 : 0 ≤ cell - 10 ^ (18 : Int).toNat := Int.sub_nonneg_of_le (of_decide_eq_true g2)
        have b1 : 0 ≤ at0 + 1 := by omega
        have b3 : 0 ≤ cnt0 + 1 := by omega
        have b4 : cnt0 + 1 ≤ ((n + 1 : Nat) : Int) := by omega
        have b5 := a5
        have b6 := a6
        have S9 : SameBut d H (upd H2 d (bagD c (at0 + 1) (cell - 10 ^ (18 : Int).toNat) (cnt0 + 1) fo0)) := S2.trans SameBut.put
        have hd9 : upd H2 d (bagD c (at0 + 1) (cell - 10 ^ (18 : Int).toNat) (cnt0 + 1) fo0) d = some (bagD c (at0 + 1) (cell - 10 ^ (18 : Int).toNat) (cnt0 + 1) fo0) := upd_same
        have hc9 : upd H2 d (bagD c (at0 + 1) (cell - 10 ^ (18 : Int).toNat) (cnt0 + 1) fo0) c = some (.lst (cs.map V.int)) := by rw [upd_ne hcd]; exact hc2
        dsimp only
        generalize upd H2 d (bagD c (at0 + 1) (cell - 10 ^ (18 : Int).toNat) (cnt0 + 1) fo0) = H9 at *
        generalize cell - 10 ^ (18 : Int).toNat = dg9 at *
        generalize at0 + 1 = at9 at *
        generalize cnt0 + 1 = cnt9 at *
        generalize fo0 = fo9 at *
        refine ⟨_, rfl, d, _, rfl, g_dig hd9, _, _, rfl, rfl, _, rfl, ?_⟩
        refine iteB (fun g => ?_) (fun g => ?_)
        · refine ⟨_, rfl, d, _, rfl, g_dig hd9, .inl ⟨_, rfl, _, rfl, _, _, rfl, rfl, l0, ?_⟩⟩
          refine ⟨_, rfl, d, _, rfl, g_dig hd9, _, rfl, _, _, rfl, rfl, wide_div (b := 60) l0 (by omega) (by decide) (by decide), _, rfl, d, _, rfl, p_dig _ hd9, _, rfl, ?_⟩
          exact hq _ _ (Int.emod_nonneg _ (by omega)) (Int.emod_lt_of_pos _ l0) (S9.trans SameBut.put) ⟨cs, at9, dg9 / lim, cnt9, fo9, upd_same, (by rw [upd_ne hcd]; exact hc9), b1, Int.ediv_nonneg b2 (by omega), b3, b4, b5, b6⟩
        · refine ⟨_, rfl, d, _, rfl, g_fold hd9, _, rfl, d, _, rfl, g_count hd9, _, _, rfl, rfl, .inl ⟨by omega, by omega⟩, _, _, rfl, rfl, _, _, rfl, rfl, ?_⟩
          refine ⟨_, rfl, _, _, rfl, rfl, ⟨by decide, by decide, by show (fo9 + cnt9 * 7907 + 31).natAbs < 2 ^ 64; omega⟩, _, _, rfl, rfl, (by decide : (0 : Int) < 2305843009213693951), .inl ⟨_, rfl, _, _, rfl, rfl, ⟨by decide, by decide⟩, ?_⟩⟩
          have f0 := Int.emod_nonneg ((fo9 + cnt9 * 7907 + 31) ^ (17 : Int).toNat) (b := 2305843009213693951) (by decide)
          have f1 := Int.emod_lt_of_pos ((fo9 + cnt9 * 7907 + 31) ^ (17 : Int).toNat) (b := 2305843009213693951) (by decide)
          dsimp only
          generalize (fo9 + cnt9 * 7907 + 31) ^ (17 : Int).toNat % 2305843009213693951 = m9 at *
          refine ⟨_, rfl, _, _, rfl, rfl, ⟨by decide, by decide, by decide⟩, _, _, rfl, rfl, _, rfl, ?_⟩
          refine iteB (fun g => ?_) (fun g => ?_)
          · exact ⟨_, rfl, _, rfl, _, _, rfl, rfl, l0, hq _ _ (Int.emod_nonneg _ (by omega)) (Int.emod_lt_of_pos _ l0) S9 ⟨cs, at9, dg9, cnt9, fo9, hd9, hc9, b1, b2, b3, b4, b5, b6⟩⟩
          · exact ⟨_, rfl, _, _, rfl, rfl, ⟨by decide, by decide, by show (m9 / 128).natAbs < 2 ^ 64; omega⟩, .inl ⟨_, rfl, _, rfl, _, _, rfl, rfl, l0, hq _ _ (Int.emod_nonneg _ (by omega)) (Int.emod_lt_of_pos _ l0) S9 ⟨cs, at9, dg9, cnt9, fo9, hd9, hc9, b1, b2, b3, b4, b5, b6⟩⟩⟩
      · refine ⟨_, rfl, d, _, rfl, g_fold hd2, _, _, rfl, rfl, .inl ⟨by omega, by omega⟩, _, rfl, _, _, rfl, rfl, .inl ⟨_, rfl, _, _, rfl, rfl, (by decide : (0 : Int) < 2147483587), _, rfl, d, _, rfl, p_fold _ hd2, ?_⟩⟩
        have b5 := Int.emod_nonneg (fo0 * 69069 + cell) (b := 2147483587) (by decide)
        have b6' := Int.emod_lt_of_pos (fo0 * 69069 + cell) (b := 2147483587) (by decide)
        have b2 := a2
        have b1 : 0 ≤ at0 + 1 := by omega
        have b3 : 0 ≤ cnt0 + 1 := by omega
        have b4 : cnt0 + 1 ≤ ((n + 1 : Nat) : Int) := by omega
        have S9 : SameBut d H (upd H2 d (bagD c (at0 + 1) dg0 (cnt0 + 1) ((fo0 * 69069 + cell) % 2147483587))) := S2.trans SameBut.put
        have hd9 : upd H2 d (bagD c (at0 + 1) dg0 (cnt0 + 1) ((fo0 * 69069 + cell) % 2147483587)) d = some (bagD c (at0 + 1) dg0 (cnt0 + 1) ((fo0 * 69069 + cell) % 2147483587)) := upd_same
        have hc9 : upd H2 d (bagD c (at0 + 1) dg0 (cnt0 + 1) ((fo0 * 69069 + cell) % 2147483587)) c = some (.lst (cs.map V.int)) := by rw [upd_ne hcd]; exact hc2
        dsimp only
        generalize upd H2 d (bagD c (at0 + 1) dg0 (cnt0 + 1) ((fo0 * 69069 + cell) % 2147483587)) = H9 at *
        generalize (fo0 * 69069 + cell) % 2147483587 = fo9 at *
        have b6 : fo9 < 2147483648 := by omega
        generalize dg0 = dg9 at *
        generalize at0 + 1 = at9 at *
        generalize cnt0 + 1 = cnt9 at *
        refine ⟨_, rfl, d, _, rfl, g_dig hd9, _, _, rfl, rfl, _, rfl, ?_⟩
        refine iteB (fun g => ?_) (fun g => ?_)
        · refine ⟨_, rfl, d, _, rfl, g_dig hd9, .inl ⟨_, rfl, _, rfl, _, _, rfl, rfl, l0, ?_⟩⟩
          refine ⟨_, rfl, d, _, rfl, g_dig hd9, _, rfl, _, _, rfl, rfl, wide_div (b := 60) l0 (by omega) (by decide) (by decide), _, rfl, d, _, rfl, p_dig _ hd9, _, rfl, ?_⟩
          exact hq _ _ (Int.emod_nonneg _ (by omega)) (Int.emod_lt_of_pos _ l0) (S9.trans SameBut.put) ⟨cs, at9, dg9 / lim, cnt9, fo9, upd_same, (by rw [upd_ne hcd]; exact hc9), b1, Int.ediv_nonneg b2 (by omega), b3, b4, b5, b6⟩
        · refine ⟨_, rfl, d, _, rfl, g_fold hd9, _, rfl, d, _, rfl, g_count hd9, _, _, rfl, rfl, .inl ⟨by omega, by omega⟩, _, _, rfl, rfl, _, _, rfl, rfl, ?_⟩
          refine ⟨_, rfl, _, _, rfl, rfl, ⟨by decide, by decide, by show (fo9 + cnt9 * 7907 + 31).natAbs < 2 ^ 64; omega⟩, _, _, rfl, rfl, (by decide : (0 : Int) < 2305843009213693951), .inl ⟨_, rfl, _, _, rfl, rfl, ⟨by decide, by decide⟩, ?_⟩⟩
          have f0 := Int.emod_nonneg ((fo9 + cnt9 * 7907 + 31) ^ (17 : Int).toNat) (b := 2305843009213693951) (by decide)
          have f1 := Int.emod_lt_of_pos ((fo9 + cnt9 * 7907 + 31) ^ (17 : Int).toNat) (b := 2305843009213693951) (by decide)
          dsimp only
          generalize (fo9 + cnt9 * 7907 + 31) ^ (17 : Int).toNat % 2305843009213693951 = m9 at *
          refine ⟨_, rfl, _, _, rfl, rfl, ⟨by decide, by decide, by decide⟩, _, _, rfl, rfl, _, rfl, ?_⟩
          refine iteB (fun g => ?_) (fun g => ?_)
          · exact ⟨_, rfl, _, rfl, _, _, rfl, rfl, l0, hq _ _ (Int.emod_nonneg _ (by omega)) (Int.emod_lt_of_pos _ l0) S9 ⟨cs, at9, dg9, cnt9, fo9, hd9, hc9, b1, b2, b3, b4, b5, b6⟩⟩
          · exact ⟨_, rfl, _, _, rfl, rfl, ⟨by decide, by decide, by show (m9 / 128).natAbs < 2 ^ 64; omega⟩, .inl ⟨_, rfl, _, rfl, _, _, rfl, rfl, l0, hq _ _ (Int.emod_nonneg _ (by omega)) (Int.emod_lt_of_pos _ l0) S9 ⟨cs, at9, dg9, cnt9, fo9, hd9, hc9, b1, b2, b3, b4, b5, b6⟩⟩⟩
    · have b1 := a1
      have b2 := a2
      have b3 : 0 ≤ cnt0 + 1 := by omega
      have b4 : cnt0 + 1 ≤ ((n + 1 : Nat) : Int) := by omega
      have b5 := a5
      have b6 := a6
      have S9 := S1
      have hd9 := hd1
      have hc9 := hc1
      generalize H1 = H9 at *
      generalize fo0 = fo9 at *
      generalize dg0 = dg9 at *
      generalize at0 = at9 at *
      generalize cnt0 + 1 = cnt9 at *
      refine ⟨_, rfl, d, _, rfl, g_dig hd9, _, _, rfl, rfl, _, rfl, ?_⟩
      refine iteB (fun g => ?_) (fun g => ?_)
      · refine ⟨_, rfl, d, _, rfl, g_dig hd9, .inl ⟨_, rfl, _, rfl, _, _, rfl, rfl, l0, ?_⟩⟩
        refine ⟨_, rfl, d, _, rfl, g_dig hd9, _, rfl, _, _, rfl, rfl, wide_div (b := 60) l0 (by omega) (by decide) (by decide), _, rfl, d, _, rfl, p_dig _ hd9, _, rfl, ?_⟩
        exact hq _ _ (Int.emod_nonneg _ (by omega)) (Int.emod_lt_of_pos _ l0) (S9.trans SameBut.put) ⟨cs, at9, dg9 / lim, cnt9, fo9, upd_same, (by rw [upd_ne hcd]; exact hc9), b1, Int.ediv_nonneg b2 (by omega), b3, b4, b5, b6⟩
      · refine ⟨_, rfl, d, _, rfl, g_fold hd9, _, rfl, d, _, rfl, g_count hd9, _, _, rfl, rfl, .inl ⟨by omega, by omega⟩, _, _, rfl, rfl, _, _, rfl, rfl, ?_⟩
        refine ⟨_, rfl, _, _, rfl, rfl, ⟨by decide, by decide, by show (fo9 + cnt9 * 7907 + 31).natAbs < 2 ^ 64; omega⟩, _, _, rfl, rfl, (by decide : (0 : Int) < 2305843009213693951), .inl ⟨_, rfl, _, _, rfl, rfl, ⟨by decide, by decide⟩, ?_⟩⟩
        have f0 := Int.emod_nonneg ((fo9 + cnt9 * 7907 + 31) ^ (17 : Int).toNat) (b := 2305843009213693951) (by decide)
        have f1 := Int.emod_lt_of_pos ((fo9 + cnt9 * 7907 + 31) ^ (17 : Int).toNat) (b := 2305843009213693951) (by decide)
        dsimp only
        generalize (fo9 + cnt9 * 7907 + 31) ^ (17 : Int).toNat % 2305843009213693951 = m9 at *
        refine ⟨_, rfl, _, _, rfl, rfl, ⟨by decide, by decide, by decide⟩, _, _, rfl, rfl, _, rfl, ?_⟩
        refine iteB (fun g => ?_) (fun g => ?_)
        · exact ⟨_, rfl, _, rfl, _, _, rfl, rfl, l0, hq _ _ (Int.emod_nonneg _ (by omega)) (Int.emod_lt_of_pos _ l0) S9 ⟨cs, at9, dg9, cnt9, fo9, hd9, hc9, b1, b2, b3, b4, b5, b6⟩⟩
        · exact ⟨_, rfl, _, _, rfl, rfl, ⟨by decide, by decide, by show (m9 / 128).natAbs < 2 ^ 64; omega⟩, .inl ⟨_, rfl, _, rfl, _, _, rfl, rfl, l0, hq _ _ (Int.emod_nonneg _ (by omega)) (Int.emod_lt_of_pos _ l0) S9 ⟨cs, at9, dg9, cnt9, fo9, hd9, hc9, b1, b2, b3, b4, b5, b6⟩⟩⟩
  · have b1 := a1
    have b2 := a2
    have b3 : 0 ≤ cnt0 + 1 := by omega
    have b4 : cnt0 + 1 ≤ ((n + 1 : Nat) : Int) := by omega
    have b5 := a5
    have b6 := a6
    have S9 := S1
    have hd9 := hd1
    have hc9 := hc1
    generalize H1 = H9 at *
    generalize fo0 = fo9 at *
    generalize dg0 = dg9 at *
    generalize at0 = at9 at *
    generalize cnt0 + 1 = cnt9 at *
    refine ⟨_, rfl, d, _, rfl, g_dig hd9, _, _, rfl, rfl, _, rfl, ?_⟩
    refine iteB (fun g => ?_) (fun g => ?_)
    · refine ⟨_, rfl, d, _, rfl, g_dig hd9, .inl ⟨_, rfl, _, rfl, _, _, rfl, rfl, l0, ?_⟩⟩
      refine ⟨_, rfl, d, _, rfl, g_dig hd9, _, rfl, _, _, rfl, rfl, wide_div (b := 60) l0 (by omega) (by decide) (by decide), _, rfl, d, _, rfl, p_dig _ hd9, _, rfl, ?_⟩
      exact hq _ _ (Int.emod_nonneg _ (by omega)) (Int.emod_lt_of_pos _ l0) (S9.trans SameBut.put) ⟨cs, at9, dg9 / lim, cnt9, fo9, upd_same, (by rw [upd_ne hcd]; exact hc9), b1, Int.ediv_nonneg b2 (by omega), b3, b4, b5, b6⟩
    · refine ⟨_, rfl, d, _, rfl, g_fold hd9, _, rfl, d, _, rfl, g_count hd9, _, _, rfl, rfl, .inl ⟨by omega, by omega⟩, _, _, rfl, rfl, _, _, rfl, rfl, ?_⟩
      refine ⟨_, rfl, _, _, rfl, rfl, ⟨by decide, by decide, by show (fo9 + cnt9 * 7907 + 31).natAbs < 2 ^ 64; omega⟩, _, _, rfl, rfl, (by decide : (0 : Int) < 2305843009213693951), .inl ⟨_, rfl, _, _, rfl, rfl, ⟨by decide, by decide⟩, ?_⟩⟩
      have f0 := Int.emod_nonneg ((fo9 + cnt9 * 7907 + 31) ^ (17 : Int).toNat) (b := 2305843009213693951) (by decide)
      have f1 := Int.emod_lt_of_pos ((fo9 + cnt9 * 7907 + 31) ^ (17 : Int).toNat) (b := 2305843009213693951) (by decide)
      dsimp only
      generalize (fo9 + cnt9 * 7907 + 31) ^ (17 : Int).toNat % 2305843009213693951 = m9 at *
      refine ⟨_, rfl, _, _, rfl, rfl, ⟨by decide, by decide, by decide⟩, _, _, rfl, rfl, _, rfl, ?_⟩
      refine iteB (fun g => ?_) (fun g => ?_)
      · exact ⟨_, rfl, _, rfl, _, _, rfl, rfl, l0, hq _ _ (Int.emod_nonneg _ (by omega)) (Int.emod_lt_of_pos _ l0) S9 ⟨cs, at9, dg9, cnt9, fo9, hd9, hc9, b1, b2, b3, b4, b5, b6⟩⟩
      · exact ⟨_, rfl, _, _, rfl, rfl, ⟨by decide, by decide, by show (m9 / 128).natAbs < 2 ^ 64; omega⟩, .inl ⟨_, rfl, _, rfl, _, _, rfl, rfl, l0, hq _ _ (Int.emod_nonneg _ (by omega)) (Int.emod_lt_of_pos _ l0) S9 ⟨cs, at9, dg9, cnt9, fo9, hd9, hc9, b1, b2, b3, b4, b5, b6⟩⟩⟩
end
end K00


set_option Elab.async false
set_option linter.all false
set_option maxRecDepth 100000
set_option maxHeartbeats 4000000
namespace K00
open PySem PySem.Spec PyProof.Rows L2
section
variable {P : Program} {w : World} {K : PySem.W.Frag} {mg : Str → Option Value} {base : Heap}
theorem Bag.ne {H : Hp} {d c a : Addr} {n : Nat} {xs : List V} (h : Bag H d c n) (ha : H a = some (.lst xs)) : a ≠ d := by
  obtain ⟨cs, a1, dg, cnt, fo, h1, _⟩ := h
  exact fun z => by subst z; rw [h1] at ha; cases ha
theorem Bag.neT {H : Hp} {d c a : Addr} {n : Nat} {xs : List V} (h : Bag H d c n) (ha : H a = some (.tup xs)) : a ≠ d := by
  obtain ⟨cs, a1, dg, cnt, fo, h1, _⟩ := h
  exact fun z => by subst z; rw [h1] at ha; cases ha
def okV : V → Bool
  | .str z => PyData.strOk z
  | v => flatV v
/-- a drawn thing -/
def Thing (H : Hp) (v : V) : Prop := okV v = true ∨ ∃ p, v = .ref p ∧ (H p = some (.tup [.int 1, .str (Str.ofString "a")]) ∨ H p = some (.lst []) ∨ H p = some (.lst [.int 3]))
theorem Thing.up {H H' : Hp} {v : V} (h : Thing H v) (e : Same H H') : Thing H' v := by
  rcases h with h | ⟨p, h1, h2⟩
  · exact .inl h
  · exact .inr ⟨p, h1, by rcases h2 with h | h | h; exact .inl (e _ _ h); exact .inr (.inl (e _ _ h)); exact .inr (.inr (e _ _ h))⟩
theorem Thing.but {H H' : Hp} {v : V} {d c : Addr} {n : Nat} (h : Thing H v) (hb : Bag H d c n) (e : SameBut d H H') : Thing H' v := by
  rcases h with h | ⟨p, h1, h2⟩
  · exact .inl h
  · exact .inr ⟨p, h1, by rcases h2 with h | h | h; exact .inl (e _ _ (hb.neT h) h); exact .inr (.inl (e _ _ (hb.ne h) h)); exact .inr (.inr (e _ _ (hb.ne h) h))⟩
/-- its data -/
theorem Thing.data {H : Hp} {v : V} (h : Thing H v) : ∃ d, Dp K H v d ∧ PyData.canLay0 d = true ∧ PyData.depth d ≤ 1 := by
  rcases h with h | ⟨p, rfl, h | h | h⟩
  · cases v with
    | int i => exact ⟨_, .int i, rfl, Nat.zero_le _⟩
    | bl i => exact ⟨_, .bl i, rfl, Nat.zero_le _⟩
    | str i => exact ⟨_, .str i, h, Nat.zero_le _⟩
    | non => exact ⟨_, .non, rfl, by decide⟩
    | byt _ => cases h
    | flt _ => cases h
    | ref _ => cases h
    | ty _ => cases h
  · exact ⟨_, .tup (SqT.of h) (.cons (.int 1) (.cons (.str _) .nil)), by decide +kernel, by decide⟩
  · exact ⟨_, .lst (SqL.of h) .nil, rfl, by decide⟩
  · exact ⟨_, .lst (SqL.of h) (.cons (.int 3) .nil), rfl, by decide⟩
def spThing : Sp := fun vs H Q E => ∃ (d c : Addr) (n : Nat), vs = [.ref d] ∧ Bag H d c n ∧ n < 2 ^ 39 ∧ ∀ v H', Thing H' v → SameBut d H H' → Bag H' d c (n + 4) → Q v H'
theorem ok_thing (T : Tx P K mg) : FnX P w K mg base CX0 2 "_law_thing" ["_law_bag_here"] [] spThing := by
  have F_l_draw := ok_draw (P := P) (w := w) (base := base) T
  refine T.d_l_thing.ok0 sc_l_thing (fun _ _ _ _ _ _ us hl => match us, hl with | [_], _ => rfl) (fun vs H Q E h => ?_) (fun f cdv A outer s H vs Q E hr h => have hu := hu_of hr; ⟨_, (by exact (pss_cons (ps_set (i := 1) sc_l_thing.nd rfl (Or.inl rfl) (pe_op op_sub (pe_op op_mul (pe_callX F_l_draw (hr.mono (by decide)) pass0 (pa_cons (pv 0) (pa_cons (pe_op op_pow pe_int pe_int) pa_nil))) (pe_op op_pow pe_int pe_int)) (pe_op op_pow pe_int pe_int)))
      (pss_cons (ps_set (i := 2) sc_l_thing.nd rfl (Or.inl rfl) (pe_lst (pa_cons (pe_ix ix_list (pe_lst (pa_cons (pv 1) (pa_cons (pe_op op_sub (pe_callX F_l_draw (hr.mono (by decide)) pass0 (pa_cons (pv 0) (pa_cons pe_int pa_nil))) pe_int) pa_nil))) (pe_callX F_l_draw (hr.mono (by decide)) pass0 (pa_cons (pv 0) (pa_cons pe_int pa_nil))) (fun _ _ => rfl)) (pa_cons pe_str (pa_cons pe_str (pa_cons pe_non (pa_cons pe_bl (pa_cons (pe_tup (pa_cons pe_int (pa_cons pe_str pa_nil))) (pa_cons (pe_lst pa_nil) (pa_cons (pe_lst (pa_cons pe_int pa_nil)) (pa_cons pe_int pa_nil)))))))))))
      (pss_one (ps_ret (pe_ix ix_list (pv 2) (pe_callX F_l_draw (hr.mono (by decide)) pass0 (pa_cons (pv 0) (pa_cons pe_int pa_nil))) (fun _ _ => rfl))))))), ?_⟩)
  · obtain ⟨d, c, n, rfl, _⟩ := h
    rfl
  obtain ⟨d, c, n, rfl, hb, hn, hq⟩ := h
  refine ⟨_, rfl, _, _, rfl, rfl, ⟨by decide, by decide, by decide⟩, d, c, n, _, rfl, hb, by omega, by decide, by decide, fun r1 H1 r10 r11 S1 B1 => ?_⟩
  refine ⟨_, _, rfl, rfl, ⟨by decide, by decide, by decide⟩, _, _, rfl, rfl, .inl ⟨by omega, ?_⟩, _, _, rfl, rfl, ⟨by decide, by decide, by decide⟩, _, _, rfl, rfl, ?_⟩
  · exact Int.lt_trans r11 (by decide)
  refine ⟨_, rfl, _, rfl, d, c, n + 1, 99, rfl, B1, by omega, by decide, by decide, fun r2 H2 r20 r21 S2 B2 => ?_⟩
  refine ⟨_, _, rfl, rfl, (by show 2 ≤ sizeLine; decide), fun l hl => ?_⟩
  have Z3 := Same.new (o := .lst [.int (r1 * 10 ^ (15 : Int).toNat - 10 ^ (29 : Int).toNat), .int (r2 - 9)]) hl
  have hl3 : upd H2 l (.lst [.int (r1 * 10 ^ (15 : Int).toNat - 10 ^ (29 : Int).toNat), .int (r2 - 9)]) l = some (.lst [.int (r1 * 10 ^ (15 : Int).toNat - 10 ^ (29 : Int).toNat), .int (r2 - 9)]) := upd_same
  refine ⟨_, rfl, d, c, n + 2, 2, rfl, B2.up Z3, by omega, by decide, by decide, fun r3 H3 r30 r31 S3 B3 => ?_⟩
  have hl4 := S3 _ _ ((B2.up Z3).ne hl3) hl3
  have SS3 : SameBut d H H3 := S1.trans (S2.trans ((SameBut.of Z3).trans S3))
  clear Z3 hl3 S3 S2 S1 hl
  obtain ⟨x, hx⟩ : ∃ x : Int, atI [V.int (r1 * 10 ^ (15 : Int).toNat - 10 ^ (29 : Int).toNat), .int (r2 - 9)] r3 = some (.int x) := by
    have h3 : r3 = 0 ∨ r3 = 1 := by omega
    rcases h3 with rfl | rfl
    · exact ⟨_, rfl⟩
    · exact ⟨_, rfl⟩
  refine ⟨l, _, _, .int x, rfl, rfl, SqL.of hl4, hx, ?_⟩
  refine ⟨(by show 2 ≤ sizeLine; decide), fun tp htp => ⟨(by show 0 ≤ sizeLine; decide), fun le hle => ⟨(by show 1 ≤ sizeLine; decide), fun l3 hl3 => ⟨(by show 9 ≤ sizeLine; decide), fun L hL => ?_⟩⟩⟩⟩
  have Y1 := Same.new (o := .tup [.int 1, .str (Str.ofString "a")]) htp
  have Y2 := Same.new (o := .lst []) hle
  have Y3 := Same.new (o := .lst [.int 3]) hl3
  have Y4 := Same.new (o := .lst [.int x, .str (Str.ofString ""), .str (Str.ofString "p1"), .non, .bl true, .ref tp, .ref le, .ref l3, .int 0]) hL
  have YY := Y1.trans (Y2.trans (Y3.trans Y4))
  have tp1 := (Y2.trans (Y3.trans Y4)) tp _ upd_same
  have le1 := (Y3.trans Y4) le _ upd_same
  have l31 := Y4 l3 _ upd_same
  have L1 : upd (upd (upd (upd H3 tp (.tup [.int 1, .str (Str.ofString "a")])) le (.lst [])) l3 (.lst [.int 3])) L (.lst [.int x, .str (Str.ofString ""), .str (Str.ofString "p1"), .non, .bl true, .ref tp, .ref le, .ref l3, .int 0]) L = some (.lst [.int x, .str (Str.ofString ""), .str (Str.ofString "p1"), .non, .bl true, .ref tp, .ref le, .ref l3, .int 0]) := upd_same
  refine ⟨_, rfl, _, rfl, d, c, n + 3, 9, rfl, B3.up YY, by omega, by decide, by decide, fun r4 H4 r40 r41 S4 B4 => ?_⟩
  have L4 := S4 _ _ ((B3.up YY).ne L1) L1
  have tp4 := S4 _ _ ((B3.up YY).neT tp1) tp1
  have le4 := S4 _ _ ((B3.up YY).ne le1) le1
  have l34 := S4 _ _ ((B3.up YY).ne l31) l31
  have SS4 := SS3.trans ((SameBut.of YY).trans S4)
  obtain ⟨v, hv, ht⟩ : ∃ v, atI [V.int x, .str (Str.ofString ""), .str (Str.ofString "p1"), .non, .bl true, .ref tp, .ref le, .ref l3, .int 0] r4 = some v ∧ Thing H4 v := by
    have h3 : r4 = 0 ∨ r4 = 1 ∨ r4 = 2 ∨ r4 = 3 ∨ r4 = 4 ∨ r4 = 5 ∨ r4 = 6 ∨ r4 = 7 ∨ r4 = 8 := by omega
    rcases h3 with rfl | rfl | rfl | rfl | rfl | rfl | rfl | rfl | rfl
    · exact ⟨_, rfl, .inl rfl⟩
    · exact ⟨_, rfl, .inl (by decide +kernel)⟩
    · exact ⟨_, rfl, .inl (by decide +kernel)⟩
    · exact ⟨_, rfl, .inl rfl⟩
    · exact ⟨_, rfl, .inl rfl⟩
    · exact ⟨_, rfl, .inr ⟨tp, rfl, .inl tp4⟩⟩
    · exact ⟨_, rfl, .inr ⟨le, rfl, .inr (.inl le4)⟩⟩
    · exact ⟨_, rfl, .inr ⟨l3, rfl, .inr (.inr l34)⟩⟩
    · exact ⟨_, rfl, .inl rfl⟩
  exact ⟨L, _, _, v, rfl, rfl, SqL.of L4, hv, hq v H4 ht SS4 B4⟩
/-- the k-th error, made of a, b, c, goes out -/
def errOut (K : PySem.W.Frag) (E : XK) (k : Nat) (a b c : V) (H : Hp) : Prop :=
  (eF.getD k [] = [] → E (.ref (He.ga K (eN.getD k ""))) none H) ∧ (eF.getD k [] ≠ [] → ∀ d, H d = none → E (.ref (He.ga K (eN.getD k ""))) (some d) (upd H d (.xd ((eF.getD k []).zip [a, b, c]).reverse)))
def spRaised (K : PySem.W.Frag) (lo hi : Nat) : Sp := fun vs H Q E => ∃ (k : Nat) (a b c : V), vs = [.int (k : Nat), a, b, c] ∧ lo ≤ k ∧ k < hi ∧ errOut K E k a b c H
theorem ok_raised_0 (T : Tx P K mg) : FnX P w K mg base (L2.CX P w) 4 "_law_raised_0" ["_law_k", "_law_a", "_law_b", "_law_c"] [] (spRaised K 0 8) := by
  refine T.d_l_raised_0.okX sc_l_raised_0 (fun _ _ _ _ _ _ us hl => match us, hl with | [_, _, _, _], _ => rfl) (fun vs H Q E h => ?_) (fun f cdv A outer s H vs Q E hr h => ⟨_, (by exact (pss_cons (ps_if (pt_cmpR op_eq (pv 0) pe_int (nomark _)) (pss_one (ps_raise rfl (takes_of rfl rfl rfl rfl) (pmk_err T.e_BadKind T.g_BadKind hr (pa_cons (pv 1) pa_nil)))) pss_nil)
      (pss_cons (ps_if (pt_cmpR op_eq (pv 0) pe_int (nomark _)) (pss_one (ps_raise rfl (takes_of rfl rfl rfl rfl) (pmk_err T.e_BadLine T.g_BadLine hr (pa_cons (pv 1) pa_nil)))) pss_nil)
      (pss_cons (ps_if (pt_cmpR op_eq (pv 0) pe_int (nomark _)) (pss_one (ps_raise rfl (takes_of rfl rfl rfl rfl) (pmk_err T.e_Refused T.g_Refused hr (pa_cons (pv 1) pa_nil)))) pss_nil)
      (pss_cons (ps_if (pt_cmpR op_eq (pv 0) pe_int (nomark _)) (pss_one (ps_raise rfl (takes_of rfl rfl rfl rfl) (pmk_err T.e_BadPromise T.g_BadPromise hr (pa_cons (pv 1) pa_nil)))) pss_nil)
      (pss_cons (ps_if (pt_cmpR op_eq (pv 0) pe_int (nomark _)) (pss_one (ps_raise rfl (takes_of rfl rfl rfl rfl) (pmk_err T.e_BadRule T.g_BadRule hr (pa_cons (pv 1) pa_nil)))) pss_nil)
      (pss_cons (ps_if (pt_cmpR op_eq (pv 0) pe_int (nomark _)) (pss_one (ps_raise rfl (takes_of rfl rfl rfl rfl) (pmk_err T.e_BadSize T.g_BadSize hr (pa_cons (pv 1) pa_nil)))) pss_nil)
      (pss_cons (ps_if (pt_cmpR op_eq (pv 0) pe_int (nomark _)) (pss_one (ps_raise rfl (takes_of rfl rfl rfl rfl) (pmk_err T.e_BadCount T.g_BadCount hr (pa_cons (pv 1) pa_nil)))) pss_nil)
      (pss_cons (ps_if (pt_cmpR op_eq (pv 0) pe_int (nomark _)) (pss_one (ps_raise rfl (takes_of rfl rfl rfl rfl) (pmk_err T.e_BadNumber T.g_BadNumber hr (pa_cons (pv 1) pa_nil)))) pss_nil)
      (pss_one (ps_ret pe_non))))))))))), ?_⟩)
  · obtain ⟨k, a, b, c, rfl, _⟩ := h
    rfl
  obtain ⟨k, a, b, c, rfl, h0, h1, he⟩ := h
  obtain ⟨j, rfl⟩ : ∃ j, k = 0 + j := ⟨k - 0, by omega⟩
  match j with
  | 0 => exact ⟨_, rfl, rfl, _, rfl, iteT ⟨_, rfl, rfl, he.1, he.2⟩⟩
  | 1 => exact ⟨_, rfl, rfl, _, rfl, iteF ⟨_, rfl, rfl, _, rfl, iteT ⟨_, rfl, rfl, he.1, he.2⟩⟩⟩
  | 2 => exact ⟨_, rfl, rfl, _, rfl, iteF ⟨_, rfl, rfl, _, rfl, iteF ⟨_, rfl, rfl, _, rfl, iteT ⟨_, rfl, rfl, he.1, he.2⟩⟩⟩⟩
  | 3 => exact ⟨_, rfl, rfl, _, rfl, iteF ⟨_, rfl, rfl, _, rfl, iteF ⟨_, rfl, rfl, _, rfl, iteF ⟨_, rfl, rfl, _, rfl, iteT ⟨_, rfl, rfl, he.1, he.2⟩⟩⟩⟩⟩
  | 4 => exact ⟨_, rfl, rfl, _, rfl, iteF ⟨_, rfl, rfl, _, rfl, iteF ⟨_, rfl, rfl, _, rfl, iteF ⟨_, rfl, rfl, _, rfl, iteF ⟨_, rfl, rfl, _, rfl, iteT ⟨_, rfl, rfl, he.1, he.2⟩⟩⟩⟩⟩⟩
  | 5 => exact ⟨_, rfl, rfl, _, rfl, iteF ⟨_, rfl, rfl, _, rfl, iteF ⟨_, rfl, rfl, _, rfl, iteF ⟨_, rfl, rfl, _, rfl, iteF ⟨_, rfl, rfl, _, rfl, iteF ⟨_, rfl, rfl, _, rfl, iteT ⟨_, rfl, rfl, he.1, he.2⟩⟩⟩⟩⟩⟩⟩
  | 6 => exact ⟨_, rfl, rfl, _, rfl, iteF ⟨_, rfl, rfl, _, rfl, iteF ⟨_, rfl, rfl, _, rfl, iteF ⟨_, rfl, rfl, _, rfl, iteF ⟨_, rfl, rfl, _, rfl, iteF ⟨_, rfl, rfl, _, rfl, iteF ⟨_, rfl, rfl, _, rfl, iteT ⟨_, rfl, rfl, he.1, he.2⟩⟩⟩⟩⟩⟩⟩⟩
  | 7 => exact ⟨_, rfl, rfl, _, rfl, iteF ⟨_, rfl, rfl, _, rfl, iteF ⟨_, rfl, rfl, _, rfl, iteF ⟨_, rfl, rfl, _, rfl, iteF ⟨_, rfl, rfl, _, rfl, iteF ⟨_, rfl, rfl, _, rfl, iteF ⟨_, rfl, rfl, _, rfl, iteF ⟨_, rfl, rfl, _, rfl, iteT ⟨_, rfl, rfl, he.1, he.2⟩⟩⟩⟩⟩⟩⟩⟩⟩
  | j + 8 => omega
theorem ok_raised_1 (T : Tx P K mg) : FnX P w K mg base (L2.CX P w) 4 "_law_raised_1" ["_law_k", "_law_a", "_law_b", "_law_c"] [] (spRaised K 8 16) := by
  refine T.d_l_raised_1.okX sc_l_raised_1 (fun _ _ _ _ _ _ us hl => match us, hl with | [_, _, _, _], _ => rfl) (fun vs H Q E h => ?_) (fun f cdv A outer s H vs Q E hr h => ⟨_, (by exact (pss_cons (ps_if (pt_cmpR op_eq (pv 0) pe_int (nomark _)) (pss_one (ps_raise rfl (takes_of rfl rfl rfl rfl) (pmk_err T.e_BadPage T.g_BadPage hr (pa_cons (pv 1) pa_nil)))) pss_nil)
      (pss_cons (ps_if (pt_cmpR op_eq (pv 0) pe_int (nomark _)) (pss_one (ps_raise rfl (takes_of rfl rfl rfl rfl) (pmk_err T.e_BadCase T.g_BadCase hr (pa_cons (pv 1) pa_nil)))) pss_nil)
      (pss_cons (ps_if (pt_cmpR op_eq (pv 0) pe_int (nomark _)) (pss_one (ps_raise rfl (takes_of rfl rfl rfl rfl) (pmk_err T.e_BadHanded T.g_BadHanded hr (pa_cons (pv 1) pa_nil)))) pss_nil)
      (pss_cons (ps_if (pt_cmpR op_eq (pv 0) pe_int (nomark _)) (pss_one (ps_raise rfl (takes_of rfl rfl rfl rfl) (pmk_err T.e_BadOutcomes T.g_BadOutcomes hr (pa_cons (pv 1) pa_nil)))) pss_nil)
      (pss_cons (ps_if (pt_cmpR op_eq (pv 0) pe_int (nomark _)) (pss_one (ps_raise rfl (takes_of rfl rfl rfl rfl) (pmk_err T.e_BadKey T.g_BadKey hr (pa_cons (pv 1) pa_nil)))) pss_nil)
      (pss_cons (ps_if (pt_cmpR op_eq (pv 0) pe_int (nomark _)) (pss_one (ps_raise rfl (takes_of rfl rfl rfl rfl) (pmk_err T.e_BadLength T.g_BadLength hr (pa_cons (pv 1) pa_nil)))) pss_nil)
      (pss_cons (ps_if (pt_cmpR op_eq (pv 0) pe_int (nomark _)) (pss_one (ps_raise rfl (takes_of rfl rfl rfl rfl) (pmk_err T.e_BadLives T.g_BadLives hr (pa_cons (pv 1) pa_nil)))) pss_nil)
      (pss_cons (ps_if (pt_cmpR op_eq (pv 0) pe_int (nomark _)) (pss_one (ps_raise rfl (takes_of rfl rfl rfl rfl) (pmk_err T.e_BadName T.g_BadName hr (pa_cons (pv 1) pa_nil)))) pss_nil)
      (pss_one (ps_ret pe_non))))))))))), ?_⟩)
  · obtain ⟨k, a, b, c, rfl, _⟩ := h
    rfl
  obtain ⟨k, a, b, c, rfl, h0, h1, he⟩ := h
  obtain ⟨j, rfl⟩ : ∃ j, k = 8 + j := ⟨k - 8, by omega⟩
  match j with
  | 0 => exact ⟨_, rfl, rfl, _, rfl, iteT ⟨_, rfl, rfl, he.1, he.2⟩⟩
  | 1 => exact ⟨_, rfl, rfl, _, rfl, iteF ⟨_, rfl, rfl, _, rfl, iteT ⟨_, rfl, rfl, he.1, he.2⟩⟩⟩
  | 2 => exact ⟨_, rfl, rfl, _, rfl, iteF ⟨_, rfl, rfl, _, rfl, iteF ⟨_, rfl, rfl, _, rfl, iteT ⟨_, rfl, rfl, he.1, he.2⟩⟩⟩⟩
  | 3 => exact ⟨_, rfl, rfl, _, rfl, iteF ⟨_, rfl, rfl, _, rfl, iteF ⟨_, rfl, rfl, _, rfl, iteF ⟨_, rfl, rfl, _, rfl, iteT ⟨_, rfl, rfl, he.1, he.2⟩⟩⟩⟩⟩
  | 4 => exact ⟨_, rfl, rfl, _, rfl, iteF ⟨_, rfl, rfl, _, rfl, iteF ⟨_, rfl, rfl, _, rfl, iteF ⟨_, rfl, rfl, _, rfl, iteF ⟨_, rfl, rfl, _, rfl, iteT ⟨_, rfl, rfl, he.1, he.2⟩⟩⟩⟩⟩⟩
  | 5 => exact ⟨_, rfl, rfl, _, rfl, iteF ⟨_, rfl, rfl, _, rfl, iteF ⟨_, rfl, rfl, _, rfl, iteF ⟨_, rfl, rfl, _, rfl, iteF ⟨_, rfl, rfl, _, rfl, iteF ⟨_, rfl, rfl, _, rfl, iteT ⟨_, rfl, rfl, he.1, he.2⟩⟩⟩⟩⟩⟩⟩
  | 6 => exact ⟨_, rfl, rfl, _, rfl, iteF ⟨_, rfl, rfl, _, rfl, iteF ⟨_, rfl, rfl, _, rfl, iteF ⟨_, rfl, rfl, _, rfl, iteF ⟨_, rfl, rfl, _, rfl, iteF ⟨_, rfl, rfl, _, rfl, iteF ⟨_, rfl, rfl, _, rfl, iteT ⟨_, rfl, rfl, he.1, he.2⟩⟩⟩⟩⟩⟩⟩⟩
  | 7 => exact ⟨_, rfl, rfl, _, rfl, iteF ⟨_, rfl, rfl, _, rfl, iteF ⟨_, rfl, rfl, _, rfl, iteF ⟨_, rfl, rfl, _, rfl, iteF ⟨_, rfl, rfl, _, rfl, iteF ⟨_, rfl, rfl, _, rfl, iteF ⟨_, rfl, rfl, _, rfl, iteF ⟨_, rfl, rfl, _, rfl, iteT ⟨_, rfl, rfl, he.1, he.2⟩⟩⟩⟩⟩⟩⟩⟩⟩
  | j + 8 => omega
theorem ok_raised_2 (T : Tx P K mg) : FnX P w K mg base (L2.CX P w) 4 "_law_raised_2" ["_law_k", "_law_a", "_law_b", "_law_c"] [] (spRaised K 16 24) := by
  refine T.d_l_raised_2.okX sc_l_raised_2 (fun _ _ _ _ _ _ us hl => match us, hl with | [_, _, _, _], _ => rfl) (fun vs H Q E h => ?_) (fun f cdv A outer s H vs Q E hr h => ⟨_, (by exact (pss_cons (ps_if (pt_cmpR op_eq (pv 0) pe_int (nomark _)) (pss_one (ps_raise rfl (takes_of rfl rfl rfl rfl) (pmk_err T.e_NoCursor T.g_NoCursor hr (pa_cons (pv 1) pa_nil)))) pss_nil)
      (pss_cons (ps_if (pt_cmpR op_eq (pv 0) pe_int (nomark _)) (pss_one (ps_raise rfl (takes_of rfl rfl rfl rfl) (pmk_err T.e_BadSum T.g_BadSum hr (pa_cons (pv 1) pa_nil)))) pss_nil)
      (pss_cons (ps_if (pt_cmpR op_eq (pv 0) pe_int (nomark _)) (pss_one (ps_raise rfl (takes_of rfl rfl rfl rfl) (pmk_err T.e_OtherKinds T.g_OtherKinds hr (pa_cons (pv 1) pa_nil)))) pss_nil)
      (pss_cons (ps_if (pt_cmpR op_eq (pv 0) pe_int (nomark _)) (pss_one (ps_raise rfl (takes_of rfl rfl rfl rfl) (pmk_err T.e_OtherRules T.g_OtherRules hr (pa_cons (pv 1) pa_nil)))) pss_nil)
      (pss_cons (ps_if (pt_cmpR op_eq (pv 0) pe_int (nomark _)) (pss_one (ps_raise rfl (takes_of rfl rfl rfl rfl) (pmk_err0 T.e_OtherFactors T.g_OtherFactors hr))) pss_nil)
      (pss_cons (ps_if (pt_cmpR op_eq (pv 0) pe_int (nomark _)) (pss_one (ps_raise rfl (takes_of rfl rfl rfl rfl) (pmk_err0 T.e_Beyond T.g_Beyond hr))) pss_nil)
      (pss_cons (ps_if (pt_cmpR op_eq (pv 0) pe_int (nomark _)) (pss_one (ps_raise rfl (takes_of rfl rfl rfl rfl) (pmk_err T.e_Broken T.g_Broken hr (pa_cons (pv 1) pa_nil)))) pss_nil)
      (pss_cons (ps_if (pt_cmpR op_eq (pv 0) pe_int (nomark _)) (pss_one (ps_raise rfl (takes_of rfl rfl rfl rfl) (pmk_err T.e_TooMany T.g_TooMany hr (pa_cons (pv 1) (pa_cons (pv 2) (pa_cons (pv 3) pa_nil)))))) pss_nil)
      (pss_one (ps_ret pe_non))))))))))), ?_⟩)
  · obtain ⟨k, a, b, c, rfl, _⟩ := h
    rfl
  obtain ⟨k, a, b, c, rfl, h0, h1, he⟩ := h
  obtain ⟨j, rfl⟩ : ∃ j, k = 16 + j := ⟨k - 16, by omega⟩
  match j with
  | 0 => exact ⟨_, rfl, rfl, _, rfl, iteT ⟨_, rfl, rfl, he.1, he.2⟩⟩
  | 1 => exact ⟨_, rfl, rfl, _, rfl, iteF ⟨_, rfl, rfl, _, rfl, iteT ⟨_, rfl, rfl, he.1, he.2⟩⟩⟩
  | 2 => exact ⟨_, rfl, rfl, _, rfl, iteF ⟨_, rfl, rfl, _, rfl, iteF ⟨_, rfl, rfl, _, rfl, iteT ⟨_, rfl, rfl, he.1, he.2⟩⟩⟩⟩
  | 3 => exact ⟨_, rfl, rfl, _, rfl, iteF ⟨_, rfl, rfl, _, rfl, iteF ⟨_, rfl, rfl, _, rfl, iteF ⟨_, rfl, rfl, _, rfl, iteT ⟨_, rfl, rfl, he.1, he.2⟩⟩⟩⟩⟩
  | 4 => exact ⟨_, rfl, rfl, _, rfl, iteF ⟨_, rfl, rfl, _, rfl, iteF ⟨_, rfl, rfl, _, rfl, iteF ⟨_, rfl, rfl, _, rfl, iteF ⟨_, rfl, rfl, _, rfl, iteT ⟨rfl, he.1, he.2⟩⟩⟩⟩⟩⟩
  | 5 => exact ⟨_, rfl, rfl, _, rfl, iteF ⟨_, rfl, rfl, _, rfl, iteF ⟨_, rfl, rfl, _, rfl, iteF ⟨_, rfl, rfl, _, rfl, iteF ⟨_, rfl, rfl, _, rfl, iteF ⟨_, rfl, rfl, _, rfl, iteT ⟨rfl, he.1, he.2⟩⟩⟩⟩⟩⟩⟩
  | 6 => exact ⟨_, rfl, rfl, _, rfl, iteF ⟨_, rfl, rfl, _, rfl, iteF ⟨_, rfl, rfl, _, rfl, iteF ⟨_, rfl, rfl, _, rfl, iteF ⟨_, rfl, rfl, _, rfl, iteF ⟨_, rfl, rfl, _, rfl, iteF ⟨_, rfl, rfl, _, rfl, iteT ⟨_, rfl, rfl, he.1, he.2⟩⟩⟩⟩⟩⟩⟩⟩
  | 7 => exact ⟨_, rfl, rfl, _, rfl, iteF ⟨_, rfl, rfl, _, rfl, iteF ⟨_, rfl, rfl, _, rfl, iteF ⟨_, rfl, rfl, _, rfl, iteF ⟨_, rfl, rfl, _, rfl, iteF ⟨_, rfl, rfl, _, rfl, iteF ⟨_, rfl, rfl, _, rfl, iteF ⟨_, rfl, rfl, _, rfl, iteT ⟨_, rfl, _, rfl, _, rfl, rfl, he.1, he.2⟩⟩⟩⟩⟩⟩⟩⟩⟩
  | j + 8 => omega
theorem ok_raised (T : Tx P K mg) : FnX P w K mg base (L2.CX P w) 5 "_law_raised" ["_law_k", "_law_a", "_law_b", "_law_c"] [] (spRaised K 0 24) := by
  have F_l_raised_0 := ok_raised_0 (P := P) (w := w) (base := base) T
  have F_l_raised_1 := ok_raised_1 (P := P) (w := w) (base := base) T
  have F_l_raised_2 := ok_raised_2 (P := P) (w := w) (base := base) T
  refine T.d_l_raised.okX sc_l_raised (fun _ _ _ _ _ _ us hl => match us, hl with | [_, _, _, _], _ => rfl) (fun vs H Q E h => ?_) (fun f cdv A outer s H vs Q E hr h => ⟨_, (by exact (pss_cons (ps_if (pt_cmpR op_lt (pv 0) pe_int (nomark _)) (pss_one (ps_ret (pe_callX F_l_raised_0 (hr.mono (by decide)) passOut (pa_cons (pv 0) (pa_cons (pv 1) (pa_cons (pv 2) (pa_cons (pv 3) pa_nil))))))) pss_nil)
      (pss_cons (ps_if (pt_cmpR op_lt (pv 0) pe_int (nomark _)) (pss_one (ps_ret (pe_callX F_l_raised_1 (hr.mono (by decide)) passOut (pa_cons (pv 0) (pa_cons (pv 1) (pa_cons (pv 2) (pa_cons (pv 3) pa_nil))))))) pss_nil)
      (pss_one (ps_ret (pe_callX F_l_raised_2 (hr.mono (by decide)) passOut (pa_cons (pv 0) (pa_cons (pv 1) (pa_cons (pv 2) (pa_cons (pv 3) pa_nil)))))))))), ?_⟩)
  · obtain ⟨k, a, b, c, rfl, _⟩ := h
    rfl
  obtain ⟨k, a, b, c, rfl, h0, h1, he⟩ := h
  refine ⟨_, rfl, _, _, rfl, rfl, _, rfl, ?_⟩
  refine iteB (fun g => ?_) (fun g => ?_)
  · have g' : (k : Int) < 8 := of_decide_eq_true g
    exact ⟨_, rfl, _, rfl, _, rfl, _, rfl, k, a, b, c, rfl, by omega, by omega, he⟩
  have g' : ¬ (k : Int) < 8 := of_decide_eq_false g
  refine ⟨_, rfl, _, _, rfl, rfl, _, rfl, ?_⟩
  refine iteB (fun g => ?_) (fun g => ?_)
  · have g' : (k : Int) < 16 := of_decide_eq_true g
    exact ⟨_, rfl, _, rfl, _, rfl, _, rfl, k, a, b, c, rfl, by omega, by omega, he⟩
  · have g' : ¬ (k : Int) < 16 := of_decide_eq_false g
    exact ⟨_, rfl, _, rfl, _, rfl, _, rfl, k, a, b, c, rfl, by omega, by omega, he⟩
end
end K00


set_option Elab.async false
set_option linter.all false
set_option maxRecDepth 100000
set_option maxHeartbeats 4000000
namespace K00
open PySem PySem.Spec PyProof.Rows L2
section
variable {P : Program} {w : World} {K : PySem.W.Frag} {mg : Str → Option Value} {base : Heap}
theorem Tx.xF (T : Tx P K mg) {x y : Str} (hx : x ∈ eN) (hy : y ∈ eN) (h : decide (x = y) = false) : PySem.W.exmOne K (.ref (He.ga K x)) (.ref (He.ga K y)) = some false := by rw [T.xm x hx y hy, h]
theorem Tx.xT (T : Tx P K mg) {x : Str} (hx : x ∈ eN) : PySem.W.exmOne K (.ref (He.ga K x)) (.ref (He.ga K x)) = some true := by rw [T.xm x hx x hx]; simp
def spFields (lo hi : Nat) : Sp := fun vs H Q E => ∃ (k : Nat) (a b c : V), vs = [.int (k : Nat), a, b, c] ∧ lo ≤ k ∧ k < hi ∧ ∀ l H', Same H H' → H' l = some (.lst ([a, b, c].take (eF.getD k []).length)) → Q (.ref l) H'
theorem ok_fields_0 (T : Tx P K mg) : FnX P w K mg base CX0 5 "_law_fields_0" ["_law_k", "_law_a", "_law_b", "_law_c"] [] (spFields 0 8) := by
  have F_l_raised_0 := ok_raised_0 (P := P) (w := w) (base := base) T
  refine T.d_l_fields_0.ok0 sc_l_fields_0 (fun _ _ _ _ _ _ us hl => match us, hl with | [_, _, _, _], _ => rfl) (fun vs H Q E h => ?_) (fun f cdv A outer s H vs Q E hr h => ⟨_, (by exact (pss_cons (ps_set (i := 4) sc_l_fields_0.nd rfl (Or.inl rfl) (pe_lst pa_nil))
      (pss_cons (ps_try_cls (l := [⟨.ref (He.ga K "BadKind"), some 5, _⟩, ⟨.ref (He.ga K "BadLine"), some 5, _⟩, ⟨.ref (He.ga K "Refused"), some 5, _⟩, ⟨.ref (He.ga K "BadPromise"), some 5, _⟩, ⟨.ref (He.ga K "BadRule"), some 5, _⟩, ⟨.ref (He.ga K "BadSize"), some 5, _⟩, ⟨.ref (He.ga K "BadCount"), some 5, _⟩, ⟨.ref (He.ga K "BadNumber"), some 5, _⟩]) (Wout := fun _ _ _ _ => False) rfl rfl sc_l_fields_0.nd LamX.takes0 (fun W pn xe tk _ => (pss_one (ps_expr (pe_callXS F_l_raised_0 (hr.mono (by decide)) (fun z => passAt tk z) (pa_cons (pv 0) (pa_cons (pv 1) (pa_cons (pv 2) (pa_cons (pv 3) pa_nil))))))))
        (.named (i := 5) ⟨rfl, by decide, .inl T.g_BadKind⟩ rfl rfl rfl (fun a9 oe cls d pn hz hf => (pss_one (ps_set (i := 4) sc_l_fields_0.nd rfl (Or.inl rfl) (pe_lst (pa_cons (pe_errFld T.e_BadKind (by decide) hz hf (pv 5)) pa_nil)))))
        (.named (i := 5) ⟨rfl, by decide, .inl T.g_BadLine⟩ rfl rfl rfl (fun a9 oe cls d pn hz hf => (pss_one (ps_set (i := 4) sc_l_fields_0.nd rfl (Or.inl rfl) (pe_lst (pa_cons (pe_errFld T.e_BadLine (by decide) hz hf (pv 5)) pa_nil)))))
        (.named (i := 5) ⟨rfl, by decide, .inl T.g_Refused⟩ rfl rfl rfl (fun a9 oe cls d pn hz hf => (pss_one (ps_set (i := 4) sc_l_fields_0.nd rfl (Or.inl rfl) (pe_lst (pa_cons (pe_errFld T.e_Refused (by decide) hz hf (pv 5)) pa_nil)))))
        (.named (i := 5) ⟨rfl, by decide, .inl T.g_BadPromise⟩ rfl rfl rfl (fun a9 oe cls d pn hz hf => (pss_one (ps_set (i := 4) sc_l_fields_0.nd rfl (Or.inl rfl) (pe_lst (pa_cons (pe_errFld T.e_BadPromise (by decide) hz hf (pv 5)) pa_nil)))))
        (.named (i := 5) ⟨rfl, by decide, .inl T.g_BadRule⟩ rfl rfl rfl (fun a9 oe cls d pn hz hf => (pss_one (ps_set (i := 4) sc_l_fields_0.nd rfl (Or.inl rfl) (pe_lst (pa_cons (pe_errFld T.e_BadRule (by decide) hz hf (pv 5)) pa_nil)))))
        (.named (i := 5) ⟨rfl, by decide, .inl T.g_BadSize⟩ rfl rfl rfl (fun a9 oe cls d pn hz hf => (pss_one (ps_set (i := 4) sc_l_fields_0.nd rfl (Or.inl rfl) (pe_lst (pa_cons (pe_errFld T.e_BadSize (by decide) hz hf (pv 5)) pa_nil)))))
        (.named (i := 5) ⟨rfl, by decide, .inl T.g_BadCount⟩ rfl rfl rfl (fun a9 oe cls d pn hz hf => (pss_one (ps_set (i := 4) sc_l_fields_0.nd rfl (Or.inl rfl) (pe_lst (pa_cons (pe_errFld T.e_BadCount (by decide) hz hf (pv 5)) pa_nil)))))
        (.named (i := 5) ⟨rfl, by decide, .inl T.g_BadNumber⟩ rfl rfl rfl (fun a9 oe cls d pn hz hf => (pss_one (ps_set (i := 4) sc_l_fields_0.nd rfl (Or.inl rfl) (pe_lst (pa_cons (pe_errFld T.e_BadNumber (by decide) hz hf (pv 5)) pa_nil)))))
        .nil)))))))))
      (pss_one (ps_ret (pv 4)))))), ?_⟩)
  · obtain ⟨k, a, b, c, rfl, _⟩ := h
    rfl
  obtain ⟨k, a, b, c, rfl, h0, h1, hq⟩ := h
  obtain ⟨j, rfl⟩ : ∃ j, k = 0 + j := ⟨k - 0, by omega⟩
  match j with
  | 0 => exact ⟨(by show 0 ≤ sizeLine; decide), fun l0 hl0 => ⟨_, rfl, _, rfl, _, rfl, _, rfl, 0, a, b, c, rfl, by decide, by decide, ⟨(fun z => nomatch z), fun _ d9 hd9 => ⟨true, T.xT (x := "BadKind") (by decide), fun _ a9 ha9 => ⟨_, rfl, rfl, rfl, d9, _, _, rfl, upd_same, rfl, (by show 1 ≤ sizeLine; decide), fun l hl => ⟨_, rfl, hq l _ (((Same.new hl0).trans (Same.new hd9)).trans (Same.new hl)) upd_same⟩⟩, (fun z => nomatch z)⟩⟩⟩⟩
  | 1 => exact ⟨(by show 0 ≤ sizeLine; decide), fun l0 hl0 => ⟨_, rfl, _, rfl, _, rfl, _, rfl, 1, a, b, c, rfl, by decide, by decide, ⟨(fun z => nomatch z), fun _ d9 hd9 => ⟨false, T.xF (x := "BadLine") (y := "BadKind") (by decide) (by decide) (by decide +kernel), (fun z => nomatch z), fun _ => ⟨true, T.xT (x := "BadLine") (by decide), fun _ a9 ha9 => ⟨_, rfl, rfl, rfl, d9, _, _, rfl, upd_same, rfl, (by show 1 ≤ sizeLine; decide), fun l hl => ⟨_, rfl, hq l _ (((Same.new hl0).trans (Same.new hd9)).trans (Same.new hl)) upd_same⟩⟩, (fun z => nomatch z)⟩⟩⟩⟩⟩
  | 2 => exact ⟨(by show 0 ≤ sizeLine; decide), fun l0 hl0 => ⟨_, rfl, _, rfl, _, rfl, _, rfl, 2, a, b, c, rfl, by decide, by decide, ⟨(fun z => nomatch z), fun _ d9 hd9 => ⟨false, T.xF (x := "Refused") (y := "BadKind") (by decide) (by decide) (by decide +kernel), (fun z => nomatch z), fun _ => ⟨false, T.xF (x := "Refused") (y := "BadLine") (by decide) (by decide) (by decide +kernel), (fun z => nomatch z), fun _ => ⟨true, T.xT (x := "Refused") (by decide), fun _ a9 ha9 => ⟨_, rfl, rfl, rfl, d9, _, _, rfl, upd_same, rfl, (by show 1 ≤ sizeLine; decide), fun l hl => ⟨_, rfl, hq l _ (((Same.new hl0).trans (Same.new hd9)).trans (Same.new hl)) upd_same⟩⟩, (fun z => nomatch z)⟩⟩⟩⟩⟩⟩
  | 3 => exact ⟨(by show 0 ≤ sizeLine; decide), fun l0 hl0 => ⟨_, rfl, _, rfl, _, rfl, _, rfl, 3, a, b, c, rfl, by decide, by decide, ⟨(fun z => nomatch z), fun _ d9 hd9 => ⟨false, T.xF (x := "BadPromise") (y := "BadKind") (by decide) (by decide) (by decide +kernel), (fun z => nomatch z), fun _ => ⟨false, T.xF (x := "BadPromise") (y := "BadLine") (by decide) (by decide) (by decide +kernel), (fun z => nomatch z), fun _ => ⟨false, T.xF (x := "BadPromise") (y := "Refused") (by decide) (by decide) (by decide +kernel), (fun z => nomatch z), fun _ => ⟨true, T.xT (x := "BadPromise") (by decide), fun _ a9 ha9 => ⟨_, rfl, rfl, rfl, d9, _, _, rfl, upd_same, rfl, (by show 1 ≤ sizeLine; decide), fun l hl => ⟨_, rfl, hq l _ (((Same.new hl0).trans (Same.new hd9)).trans (Same.new hl)) upd_same⟩⟩, (fun z => nomatch z)⟩⟩⟩⟩⟩⟩⟩
  | 4 => exact ⟨(by show 0 ≤ sizeLine; decide), fun l0 hl0 => ⟨_, rfl, _, rfl, _, rfl, _, rfl, 4, a, b, c, rfl, by decide, by decide, ⟨(fun z => nomatch z), fun _ d9 hd9 => ⟨false, T.xF (x := "BadRule") (y := "BadKind") (by decide) (by decide) (by decide +kernel), (fun z => nomatch z), fun _ => ⟨false, T.xF (x := "BadRule") (y := "BadLine") (by decide) (by decide) (by decide +kernel), (fun z => nomatch z), fun _ => ⟨false, T.xF (x := "BadRule") (y := "Refused") (by decide) (by decide) (by decide +kernel), (fun z => nomatch z), fun _ => ⟨false, T.xF (x := "BadRule") (y := "BadPromise") (by decide) (by decide) (by decide +kernel), (fun z => nomatch z), fun _ => ⟨true, T.xT (x := "BadRule") (by decide), fun _ a9 ha9 => ⟨_, rfl, rfl, rfl, d9, _, _, rfl, upd_same, rfl, (by show 1 ≤ sizeLine; decide), fun l hl => ⟨_, rfl, hq l _ (((Same.new hl0).trans (Same.new hd9)).trans (Same.new hl)) upd_same⟩⟩, (fun z => nomatch z)⟩⟩⟩⟩⟩⟩⟩⟩
  | 5 => exact ⟨(by show 0 ≤ sizeLine; decide), fun l0 hl0 => ⟨_, rfl, _, rfl, _, rfl, _, rfl, 5, a, b, c, rfl, by decide, by decide, ⟨(fun z => nomatch z), fun _ d9 hd9 => ⟨false, T.xF (x := "BadSize") (y := "BadKind") (by decide) (by decide) (by decide +kernel), (fun z => nomatch z), fun _ => ⟨false, T.xF (x := "BadSize") (y := "BadLine") (by decide) (by decide) (by decide +kernel), (fun z => nomatch z), fun _ => ⟨false, T.xF (x := "BadSize") (y := "Refused") (by decide) (by decide) (by decide +kernel), (fun z => nomatch z), fun _ => ⟨false, T.xF (x := "BadSize") (y := "BadPromise") (by decide) (by decide) (by decide +kernel), (fun z => nomatch z), fun _ => ⟨false, T.xF (x := "BadSize") (y := "BadRule") (by decide) (by decide) (by decide +kernel), (fun z => nomatch z), fun _ => ⟨true, T.xT (x := "BadSize") (by decide), fun _ a9 ha9 => ⟨_, rfl, rfl, rfl, d9, _, _, rfl, upd_same, rfl, (by show 1 ≤ sizeLine; decide), fun l hl => ⟨_, rfl, hq l _ (((Same.new hl0).trans (Same.new hd9)).trans (Same.new hl)) upd_same⟩⟩, (fun z => nomatch z)⟩⟩⟩⟩⟩⟩⟩⟩⟩
  | 6 => exact ⟨(by show 0 ≤ sizeLine; decide), fun l0 hl0 => ⟨_, rfl, _, rfl, _, rfl, _, rfl, 6, a, b, c, rfl, by decide, by decide, ⟨(fun z => nomatch z), fun _ d9 hd9 => ⟨false, T.xF (x := "BadCount") (y := "BadKind") (by decide) (by decide) (by decide +kernel), (fun z => nomatch z), fun _ => ⟨false, T.xF (x := "BadCount") (y := "BadLine") (by decide) (by decide) (by decide +kernel), (fun z => nomatch z), fun _ => ⟨false, T.xF (x := "BadCount") (y := "Refused") (by decide) (by decide) (by decide +kernel), (fun z => nomatch z), fun _ => ⟨false, T.xF (x := "BadCount") (y := "BadPromise") (by decide) (by decide) (by decide +kernel), (fun z => nomatch z), fun _ => ⟨false, T.xF (x := "BadCount") (y := "BadRule") (by decide) (by decide) (by decide +kernel), (fun z => nomatch z), fun _ => ⟨false, T.xF (x := "BadCount") (y := "BadSize") (by decide) (by decide) (by decide +kernel), (fun z => nomatch z), fun _ => ⟨true, T.xT (x := "BadCount") (by decide), fun _ a9 ha9 => ⟨_, rfl, rfl, rfl, d9, _, _, rfl, upd_same, rfl, (by show 1 ≤ sizeLine; decide), fun l hl => ⟨_, rfl, hq l _ (((Same.new hl0).trans (Same.new hd9)).trans (Same.new hl)) upd_same⟩⟩, (fun z => nomatch z)⟩⟩⟩⟩⟩⟩⟩⟩⟩⟩
  | 7 => exact ⟨(by show 0 ≤ sizeLine; decide), fun l0 hl0 => ⟨_, rfl, _, rfl, _, rfl, _, rfl, 7, a, b, c, rfl, by decide, by decide, ⟨(fun z => nomatch z), fun _ d9 hd9 => ⟨false, T.xF (x := "BadNumber") (y := "BadKind") (by decide) (by decide) (by decide +kernel), (fun z => nomatch z), fun _ => ⟨false, T.xF (x := "BadNumber") (y := "BadLine") (by decide) (by decide) (by decide +kernel), (fun z => nomatch z), fun _ => ⟨false, T.xF (x := "BadNumber") (y := "Refused") (by decide) (by decide) (by decide +kernel), (fun z => nomatch z), fun _ => ⟨false, T.xF (x := "BadNumber") (y := "BadPromise") (by decide) (by decide) (by decide +kernel), (fun z => nomatch z), fun _ => ⟨false, T.xF (x := "BadNumber") (y := "BadRule") (by decide) (by decide) (by decide +kernel), (fun z => nomatch z), fun _ => ⟨false, T.xF (x := "BadNumber") (y := "BadSize") (by decide) (by decide) (by decide +kernel), (fun z => nomatch z), fun _ => ⟨false, T.xF (x := "BadNumber") (y := "BadCount") (by decide) (by decide) (by decide +kernel), (fun z => nomatch z), fun _ => ⟨true, T.xT (x := "BadNumber") (by decide), fun _ a9 ha9 => ⟨_, rfl, rfl, rfl, d9, _, _, rfl, upd_same, rfl, (by show 1 ≤ sizeLine; decide), fun l hl => ⟨_, rfl, hq l _ (((Same.new hl0).trans (Same.new hd9)).trans (Same.new hl)) upd_same⟩⟩, (fun z => nomatch z)⟩⟩⟩⟩⟩⟩⟩⟩⟩⟩⟩
  | j + 8 => omega
theorem ok_fields_1 (T : Tx P K mg) : FnX P w K mg base CX0 5 "_law_fields_1" ["_law_k", "_law_a", "_law_b", "_law_c"] [] (spFields 8 16) := by
  have F_l_raised_1 := ok_raised_1 (P := P) (w := w) (base := base) T
  refine T.d_l_fields_1.ok0 sc_l_fields_1 (fun _ _ _ _ _ _ us hl => match us, hl with | [_, _, _, _], _ => rfl) (fun vs H Q E h => ?_) (fun f cdv A outer s H vs Q E hr h => ⟨_, (by exact (pss_cons (ps_set (i := 4) sc_l_fields_1.nd rfl (Or.inl rfl) (pe_lst pa_nil))
      (pss_cons (ps_try_cls (l := [⟨.ref (He.ga K "BadPage"), some 5, _⟩, ⟨.ref (He.ga K "BadCase"), some 5, _⟩, ⟨.ref (He.ga K "BadHanded"), some 5, _⟩, ⟨.ref (He.ga K "BadOutcomes"), some 5, _⟩, ⟨.ref (He.ga K "BadKey"), some 5, _⟩, ⟨.ref (He.ga K "BadLength"), some 5, _⟩, ⟨.ref (He.ga K "BadLives"), some 5, _⟩, ⟨.ref (He.ga K "BadName"), some 5, _⟩]) (Wout := fun _ _ _ _ => False) rfl rfl sc_l_fields_1.nd LamX.takes0 (fun W pn xe tk _ => (pss_one (ps_expr (pe_callXS F_l_raised_1 (hr.mono (by decide)) (fun z => passAt tk z) (pa_cons (pv 0) (pa_cons (pv 1) (pa_cons (pv 2) (pa_cons (pv 3) pa_nil))))))))
        (.named (i := 5) ⟨rfl, by decide, .inl T.g_BadPage⟩ rfl rfl rfl (fun a9 oe cls d pn hz hf => (pss_one (ps_set (i := 4) sc_l_fields_1.nd rfl (Or.inl rfl) (pe_lst (pa_cons (pe_errFld T.e_BadPage (by decide) hz hf (pv 5)) pa_nil)))))
        (.named (i := 5) ⟨rfl, by decide, .inl T.g_BadCase⟩ rfl rfl rfl (fun a9 oe cls d pn hz hf => (pss_one (ps_set (i := 4) sc_l_fields_1.nd rfl (Or.inl rfl) (pe_lst (pa_cons (pe_errFld T.e_BadCase (by decide) hz hf (pv 5)) pa_nil)))))
        (.named (i := 5) ⟨rfl, by decide, .inl T.g_BadHanded⟩ rfl rfl rfl (fun a9 oe cls d pn hz hf => (pss_one (ps_set (i := 4) sc_l_fields_1.nd rfl (Or.inl rfl) (pe_lst (pa_cons (pe_errFld T.e_BadHanded (by decide) hz hf (pv 5)) pa_nil)))))
        (.named (i := 5) ⟨rfl, by decide, .inl T.g_BadOutcomes⟩ rfl rfl rfl (fun a9 oe cls d pn hz hf => (pss_one (ps_set (i := 4) sc_l_fields_1.nd rfl (Or.inl rfl) (pe_lst (pa_cons (pe_errFld T.e_BadOutcomes (by decide) hz hf (pv 5)) pa_nil)))))
        (.named (i := 5) ⟨rfl, by decide, .inl T.g_BadKey⟩ rfl rfl rfl (fun a9 oe cls d pn hz hf => (pss_one (ps_set (i := 4) sc_l_fields_1.nd rfl (Or.inl rfl) (pe_lst (pa_cons (pe_errFld T.e_BadKey (by decide) hz hf (pv 5)) pa_nil)))))
        (.named (i := 5) ⟨rfl, by decide, .inl T.g_BadLength⟩ rfl rfl rfl (fun a9 oe cls d pn hz hf => (pss_one (ps_set (i := 4) sc_l_fields_1.nd rfl (Or.inl rfl) (pe_lst (pa_cons (pe_errFld T.e_BadLength (by decide) hz hf (pv 5)) pa_nil)))))
        (.named (i := 5) ⟨rfl, by decide, .inl T.g_BadLives⟩ rfl rfl rfl (fun a9 oe cls d pn hz hf => (pss_one (ps_set (i := 4) sc_l_fields_1.nd rfl (Or.inl rfl) (pe_lst (pa_cons (pe_errFld T.e_BadLives (by decide) hz hf (pv 5)) pa_nil)))))
        (.named (i := 5) ⟨rfl, by decide, .inl T.g_BadName⟩ rfl rfl rfl (fun a9 oe cls d pn hz hf => (pss_one (ps_set (i := 4) sc_l_fields_1.nd rfl (Or.inl rfl) (pe_lst (pa_cons (pe_errFld T.e_BadName (by decide) hz hf (pv 5)) pa_nil)))))
        .nil)))))))))
      (pss_one (ps_ret (pv 4)))))), ?_⟩)
  · obtain ⟨k, a, b, c, rfl, _⟩ := h
    rfl
  obtain ⟨k, a, b, c, rfl, h0, h1, hq⟩ := h
  obtain ⟨j, rfl⟩ : ∃ j, k = 8 + j := ⟨k - 8, by omega⟩
  match j with
  | 0 => exact ⟨(by show 0 ≤ sizeLine; decide), fun l0 hl0 => ⟨_, rfl, _, rfl, _, rfl, _, rfl, 8, a, b, c, rfl, by decide, by decide, ⟨(fun z => nomatch z), fun _ d9 hd9 => ⟨true, T.xT (x := "BadPage") (by decide), fun _ a9 ha9 => ⟨_, rfl, rfl, rfl, d9, _, _, rfl, upd_same, rfl, (by show 1 ≤ sizeLine; decide), fun l hl => ⟨_, rfl, hq l _ (((Same.new hl0).trans (Same.new hd9)).trans (Same.new hl)) upd_same⟩⟩, (fun z => nomatch z)⟩⟩⟩⟩
  | 1 => exact ⟨(by show 0 ≤ sizeLine; decide), fun l0 hl0 => ⟨_, rfl, _, rfl, _, rfl, _, rfl, 9, a, b, c, rfl, by decide, by decide, ⟨(fun z => nomatch z), fun _ d9 hd9 => ⟨false, T.xF (x := "BadCase") (y := "BadPage") (by decide) (by decide) (by decide +kernel), (fun z => nomatch z), fun _ => ⟨true, T.xT (x := "BadCase") (by decide), fun _ a9 ha9 => ⟨_, rfl, rfl, rfl, d9, _, _, rfl, upd_same, rfl, (by show 1 ≤ sizeLine; decide), fun l hl => ⟨_, rfl, hq l _ (((Same.new hl0).trans (Same.new hd9)).trans (Same.new hl)) upd_same⟩⟩, (fun z => nomatch z)⟩⟩⟩⟩⟩
  | 2 => exact ⟨(by show 0 ≤ sizeLine; decide), fun l0 hl0 => ⟨_, rfl, _, rfl, _, rfl, _, rfl, 10, a, b, c, rfl, by decide, by decide, ⟨(fun z => nomatch z), fun _ d9 hd9 => ⟨false, T.xF (x := "BadHanded") (y := "BadPage") (by decide) (by decide) (by decide +kernel), (fun z => nomatch z), fun _ => ⟨false, T.xF (x := "BadHanded") (y := "BadCase") (by decide) (by decide) (by decide +kernel), (fun z => nomatch z), fun _ => ⟨true, T.xT (x := "BadHanded") (by decide), fun _ a9 ha9 => ⟨_, rfl, rfl, rfl, d9, _, _, rfl, upd_same, rfl, (by show 1 ≤ sizeLine; decide), fun l hl => ⟨_, rfl, hq l _ (((Same.new hl0).trans (Same.new hd9)).trans (Same.new hl)) upd_same⟩⟩, (fun z => nomatch z)⟩⟩⟩⟩⟩⟩
  | 3 => exact ⟨(by show 0 ≤ sizeLine; decide), fun l0 hl0 => ⟨_, rfl, _, rfl, _, rfl, _, rfl, 11, a, b, c, rfl, by decide, by decide, ⟨(fun z => nomatch z), fun _ d9 hd9 => ⟨false, T.xF (x := "BadOutcomes") (y := "BadPage") (by decide) (by decide) (by decide +kernel), (fun z => nomatch z), fun _ => ⟨false, T.xF (x := "BadOutcomes") (y := "BadCase") (by decide) (by decide) (by decide +kernel), (fun z => nomatch z), fun _ => ⟨false, T.xF (x := "BadOutcomes") (y := "BadHanded") (by decide) (by decide) (by decide +kernel), (fun z => nomatch z), fun _ => ⟨true, T.xT (x := "BadOutcomes") (by decide), fun _ a9 ha9 => ⟨_, rfl, rfl, rfl, d9, _, _, rfl, upd_same, rfl, (by show 1 ≤ sizeLine; decide), fun l hl => ⟨_, rfl, hq l _ (((Same.new hl0).trans (Same.new hd9)).trans (Same.new hl)) upd_same⟩⟩, (fun z => nomatch z)⟩⟩⟩⟩⟩⟩⟩
  | 4 => exact ⟨(by show 0 ≤ sizeLine; decide), fun l0 hl0 => ⟨_, rfl, _, rfl, _, rfl, _, rfl, 12, a, b, c, rfl, by decide, by decide, ⟨(fun z => nomatch z), fun _ d9 hd9 => ⟨false, T.xF (x := "BadKey") (y := "BadPage") (by decide) (by decide) (by decide +kernel), (fun z => nomatch z), fun _ => ⟨false, T.xF (x := "BadKey") (y := "BadCase") (by decide) (by decide) (by decide +kernel), (fun z => nomatch z), fun _ => ⟨false, T.xF (x := "BadKey") (y := "BadHanded") (by decide) (by decide) (by decide +kernel), (fun z => nomatch z), fun _ => ⟨false, T.xF (x := "BadKey") (y := "BadOutcomes") (by decide) (by decide) (by decide +kernel), (fun z => nomatch z), fun _ => ⟨true, T.xT (x := "BadKey") (by decide), fun _ a9 ha9 => ⟨_, rfl, rfl, rfl, d9, _, _, rfl, upd_same, rfl, (by show 1 ≤ sizeLine; decide), fun l hl => ⟨_, rfl, hq l _ (((Same.new hl0).trans (Same.new hd9)).trans (Same.new hl)) upd_same⟩⟩, (fun z => nomatch z)⟩⟩⟩⟩⟩⟩⟩⟩
  | 5 => exact ⟨(by show 0 ≤ sizeLine; decide), fun l0 hl0 => ⟨_, rfl, _, rfl, _, rfl, _, rfl, 13, a, b, c, rfl, by decide, by decide, ⟨(fun z => nomatch z), fun _ d9 hd9 => ⟨false, T.xF (x := "BadLength") (y := "BadPage") (by decide) (by decide) (by decide +kernel), (fun z => nomatch z), fun _ => ⟨false, T.xF (x := "BadLength") (y := "BadCase") (by decide) (by decide) (by decide +kernel), (fun z => nomatch z), fun _ => ⟨false, T.xF (x := "BadLength") (y := "BadHanded") (by decide) (by decide) (by decide +kernel), (fun z => nomatch z), fun _ => ⟨false, T.xF (x := "BadLength") (y := "BadOutcomes") (by decide) (by decide) (by decide +kernel), (fun z => nomatch z), fun _ => ⟨false, T.xF (x := "BadLength") (y := "BadKey") (by decide) (by decide) (by decide +kernel), (fun z => nomatch z), fun _ => ⟨true, T.xT (x := "BadLength") (by decide), fun _ a9 ha9 => ⟨_, rfl, rfl, rfl, d9, _, _, rfl, upd_same, rfl, (by show 1 ≤ sizeLine; decide), fun l hl => ⟨_, rfl, hq l _ (((Same.new hl0).trans (Same.new hd9)).trans (Same.new hl)) upd_same⟩⟩, (fun z => nomatch z)⟩⟩⟩⟩⟩⟩⟩⟩⟩
  | 6 => exact ⟨(by show 0 ≤ sizeLine; decide), fun l0 hl0 => ⟨_, rfl, _, rfl, _, rfl, _, rfl, 14, a, b, c, rfl, by decide, by decide, ⟨(fun z => nomatch z), fun _ d9 hd9 => ⟨false, T.xF (x := "BadLives") (y := "BadPage") (by decide) (by decide) (by decide +kernel), (fun z => nomatch z), fun _ => ⟨false, T.xF (x := "BadLives") (y := "BadCase") (by decide) (by decide) (by decide +kernel), (fun z => nomatch z), fun _ => ⟨false, T.xF (x := "BadLives") (y := "BadHanded") (by decide) (by decide) (by decide +kernel), (fun z => nomatch z), fun _ => ⟨false, T.xF (x := "BadLives") (y := "BadOutcomes") (by decide) (by decide) (by decide +kernel), (fun z => nomatch z), fun _ => ⟨false, T.xF (x := "BadLives") (y := "BadKey") (by decide) (by decide) (by decide +kernel), (fun z => nomatch z), fun _ => ⟨false, T.xF (x := "BadLives") (y := "BadLength") (by decide) (by decide) (by decide +kernel), (fun z => nomatch z), fun _ => ⟨true, T.xT (x := "BadLives") (by decide), fun _ a9 ha9 => ⟨_, rfl, rfl, rfl, d9, _, _, rfl, upd_same, rfl, (by show 1 ≤ sizeLine; decide), fun l hl => ⟨_, rfl, hq l _ (((Same.new hl0).trans (Same.new hd9)).trans (Same.new hl)) upd_same⟩⟩, (fun z => nomatch z)⟩⟩⟩⟩⟩⟩⟩⟩⟩⟩
  | 7 => exact ⟨(by show 0 ≤ sizeLine; decide), fun l0 hl0 => ⟨_, rfl, _, rfl, _, rfl, _, rfl, 15, a, b, c, rfl, by decide, by decide, ⟨(fun z => nomatch z), fun _ d9 hd9 => ⟨false, T.xF (x := "BadName") (y := "BadPage") (by decide) (by decide) (by decide +kernel), (fun z => nomatch z), fun _ => ⟨false, T.xF (x := "BadName") (y := "BadCase") (by decide) (by decide) (by decide +kernel), (fun z => nomatch z), fun _ => ⟨false, T.xF (x := "BadName") (y := "BadHanded") (by decide) (by decide) (by decide +kernel), (fun z => nomatch z), fun _ => ⟨false, T.xF (x := "BadName") (y := "BadOutcomes") (by decide) (by decide) (by decide +kernel), (fun z => nomatch z), fun _ => ⟨false, T.xF (x := "BadName") (y := "BadKey") (by decide) (by decide) (by decide +kernel), (fun z => nomatch z), fun _ => ⟨false, T.xF (x := "BadName") (y := "BadLength") (by decide) (by decide) (by decide +kernel), (fun z => nomatch z), fun _ => ⟨false, T.xF (x := "BadName") (y := "BadLives") (by decide) (by decide) (by decide +kernel), (fun z => nomatch z), fun _ => ⟨true, T.xT (x := "BadName") (by decide), fun _ a9 ha9 => ⟨_, rfl, rfl, rfl, d9, _, _, rfl, upd_same, rfl, (by show 1 ≤ sizeLine; decide), fun l hl => ⟨_, rfl, hq l _ (((Same.new hl0).trans (Same.new hd9)).trans (Same.new hl)) upd_same⟩⟩, (fun z => nomatch z)⟩⟩⟩⟩⟩⟩⟩⟩⟩⟩⟩
  | j + 8 => omega
theorem ok_fields_2 (T : Tx P K mg) : FnX P w K mg base CX0 5 "_law_fields_2" ["_law_k", "_law_a", "_law_b", "_law_c"] [] (spFields 16 24) := by
  have F_l_raised_2 := ok_raised_2 (P := P) (w := w) (base := base) T
  refine T.d_l_fields_2.ok0 sc_l_fields_2 (fun _ _ _ _ _ _ us hl => match us, hl with | [_, _, _, _], _ => rfl) (fun vs H Q E h => ?_) (fun f cdv A outer s H vs Q E hr h => ⟨_, (by exact (pss_cons (ps_set (i := 4) sc_l_fields_2.nd rfl (Or.inl rfl) (pe_lst pa_nil))
      (pss_cons (ps_try_cls (l := [⟨.ref (He.ga K "NoCursor"), some 5, _⟩, ⟨.ref (He.ga K "BadSum"), some 5, _⟩, ⟨.ref (He.ga K "OtherKinds"), some 5, _⟩, ⟨.ref (He.ga K "OtherRules"), some 5, _⟩, ⟨.ref (He.ga K "OtherFactors"), none, _⟩, ⟨.ref (He.ga K "Beyond"), none, _⟩, ⟨.ref (He.ga K "Broken"), some 5, _⟩, ⟨.ref (He.ga K "TooMany"), some 5, _⟩]) (Wout := fun _ _ _ _ => False) rfl rfl sc_l_fields_2.nd LamX.takes0 (fun W pn xe tk _ => (pss_one (ps_expr (pe_callXS F_l_raised_2 (hr.mono (by decide)) (fun z => passAt tk z) (pa_cons (pv 0) (pa_cons (pv 1) (pa_cons (pv 2) (pa_cons (pv 3) pa_nil))))))))
        (.named (i := 5) ⟨rfl, by decide, .inl T.g_NoCursor⟩ rfl rfl rfl (fun a9 oe cls d pn hz hf => (pss_one (ps_set (i := 4) sc_l_fields_2.nd rfl (Or.inl rfl) (pe_lst (pa_cons (pe_errFld T.e_NoCursor (by decide) hz hf (pv 5)) pa_nil)))))
        (.named (i := 5) ⟨rfl, by decide, .inl T.g_BadSum⟩ rfl rfl rfl (fun a9 oe cls d pn hz hf => (pss_one (ps_set (i := 4) sc_l_fields_2.nd rfl (Or.inl rfl) (pe_lst (pa_cons (pe_errFld T.e_BadSum (by decide) hz hf (pv 5)) pa_nil)))))
        (.named (i := 5) ⟨rfl, by decide, .inl T.g_OtherKinds⟩ rfl rfl rfl (fun a9 oe cls d pn hz hf => (pss_one (ps_set (i := 4) sc_l_fields_2.nd rfl (Or.inl rfl) (pe_lst (pa_cons (pe_errFld T.e_OtherKinds (by decide) hz hf (pv 5)) pa_nil)))))
        (.named (i := 5) ⟨rfl, by decide, .inl T.g_OtherRules⟩ rfl rfl rfl (fun a9 oe cls d pn hz hf => (pss_one (ps_set (i := 4) sc_l_fields_2.nd rfl (Or.inl rfl) (pe_lst (pa_cons (pe_errFld T.e_OtherRules (by decide) hz hf (pv 5)) pa_nil)))))
        (.bare ⟨rfl, by decide, .inl T.g_OtherFactors⟩ rfl (fun a9 oe cls d pn hz hf => (pss_one (ps_set (i := 4) sc_l_fields_2.nd rfl (Or.inl rfl) (pe_lst pa_nil))))
        (.bare ⟨rfl, by decide, .inl T.g_Beyond⟩ rfl (fun a9 oe cls d pn hz hf => (pss_one (ps_set (i := 4) sc_l_fields_2.nd rfl (Or.inl rfl) (pe_lst pa_nil))))
        (.named (i := 5) ⟨rfl, by decide, .inl T.g_Broken⟩ rfl rfl rfl (fun a9 oe cls d pn hz hf => (pss_one (ps_set (i := 4) sc_l_fields_2.nd rfl (Or.inl rfl) (pe_lst (pa_cons (pe_errFld T.e_Broken (by decide) hz hf (pv 5)) pa_nil)))))
        (.named (i := 5) ⟨rfl, by decide, .inl T.g_TooMany⟩ rfl rfl rfl (fun a9 oe cls d pn hz hf => (pss_one (ps_set (i := 4) sc_l_fields_2.nd rfl (Or.inl rfl) (pe_lst (pa_cons (pe_errFld T.e_TooMany (by decide) hz hf (pv 5)) (pa_cons (pe_errFld T.e_TooMany (by decide) hz hf (pv 5)) (pa_cons (pe_errFld T.e_TooMany (by decide) hz hf (pv 5)) pa_nil)))))))
        .nil)))))))))
      (pss_one (ps_ret (pv 4)))))), ?_⟩)
  · obtain ⟨k, a, b, c, rfl, _⟩ := h
    rfl
  obtain ⟨k, a, b, c, rfl, h0, h1, hq⟩ := h
  obtain ⟨j, rfl⟩ : ∃ j, k = 16 + j := ⟨k - 16, by omega⟩
  match j with
  | 0 => exact ⟨(by show 0 ≤ sizeLine; decide), fun l0 hl0 => ⟨_, rfl, _, rfl, _, rfl, _, rfl, 16, a, b, c, rfl, by decide, by decide, ⟨(fun z => nomatch z), fun _ d9 hd9 => ⟨true, T.xT (x := "NoCursor") (by decide), fun _ a9 ha9 => ⟨_, rfl, rfl, rfl, d9, _, _, rfl, upd_same, rfl, (by show 1 ≤ sizeLine; decide), fun l hl => ⟨_, rfl, hq l _ (((Same.new hl0).trans (Same.new hd9)).trans (Same.new hl)) upd_same⟩⟩, (fun z => nomatch z)⟩⟩⟩⟩
  | 1 => exact ⟨(by show 0 ≤ sizeLine; decide), fun l0 hl0 => ⟨_, rfl, _, rfl, _, rfl, _, rfl, 17, a, b, c, rfl, by decide, by decide, ⟨(fun z => nomatch z), fun _ d9 hd9 => ⟨false, T.xF (x := "BadSum") (y := "NoCursor") (by decide) (by decide) (by decide +kernel), (fun z => nomatch z), fun _ => ⟨true, T.xT (x := "BadSum") (by decide), fun _ a9 ha9 => ⟨_, rfl, rfl, rfl, d9, _, _, rfl, upd_same, rfl, (by show 1 ≤ sizeLine; decide), fun l hl => ⟨_, rfl, hq l _ (((Same.new hl0).trans (Same.new hd9)).trans (Same.new hl)) upd_same⟩⟩, (fun z => nomatch z)⟩⟩⟩⟩⟩
  | 2 => exact ⟨(by show 0 ≤ sizeLine; decide), fun l0 hl0 => ⟨_, rfl, _, rfl, _, rfl, _, rfl, 18, a, b, c, rfl, by decide, by decide, ⟨(fun z => nomatch z), fun _ d9 hd9 => ⟨false, T.xF (x := "OtherKinds") (y := "NoCursor") (by decide) (by decide) (by decide +kernel), (fun z => nomatch z), fun _ => ⟨false, T.xF (x := "OtherKinds") (y := "BadSum") (by decide) (by decide) (by decide +kernel), (fun z => nomatch z), fun _ => ⟨true, T.xT (x := "OtherKinds") (by decide), fun _ a9 ha9 => ⟨_, rfl, rfl, rfl, d9, _, _, rfl, upd_same, rfl, (by show 1 ≤ sizeLine; decide), fun l hl => ⟨_, rfl, hq l _ (((Same.new hl0).trans (Same.new hd9)).trans (Same.new hl)) upd_same⟩⟩, (fun z => nomatch z)⟩⟩⟩⟩⟩⟩
  | 3 => exact ⟨(by show 0 ≤ sizeLine; decide), fun l0 hl0 => ⟨_, rfl, _, rfl, _, rfl, _, rfl, 19, a, b, c, rfl, by decide, by decide, ⟨(fun z => nomatch z), fun _ d9 hd9 => ⟨false, T.xF (x := "OtherRules") (y := "NoCursor") (by decide) (by decide) (by decide +kernel), (fun z => nomatch z), fun _ => ⟨false, T.xF (x := "OtherRules") (y := "BadSum") (by decide) (by decide) (by decide +kernel), (fun z => nomatch z), fun _ => ⟨false, T.xF (x := "OtherRules") (y := "OtherKinds") (by decide) (by decide) (by decide +kernel), (fun z => nomatch z), fun _ => ⟨true, T.xT (x := "OtherRules") (by decide), fun _ a9 ha9 => ⟨_, rfl, rfl, rfl, d9, _, _, rfl, upd_same, rfl, (by show 1 ≤ sizeLine; decide), fun l hl => ⟨_, rfl, hq l _ (((Same.new hl0).trans (Same.new hd9)).trans (Same.new hl)) upd_same⟩⟩, (fun z => nomatch z)⟩⟩⟩⟩⟩⟩⟩
  | 4 => exact ⟨(by show 0 ≤ sizeLine; decide), fun l0 hl0 => ⟨_, rfl, _, rfl, _, rfl, _, rfl, 20, a, b, c, rfl, by decide, by decide, ⟨fun _ => ⟨false, T.xF (x := "OtherFactors") (y := "NoCursor") (by decide) (by decide) (by decide +kernel), (fun z => nomatch z), fun _ => ⟨false, T.xF (x := "OtherFactors") (y := "BadSum") (by decide) (by decide) (by decide +kernel), (fun z => nomatch z), fun _ => ⟨false, T.xF (x := "OtherFactors") (y := "OtherKinds") (by decide) (by decide) (by decide +kernel), (fun z => nomatch z), fun _ => ⟨false, T.xF (x := "OtherFactors") (y := "OtherRules") (by decide) (by decide) (by decide +kernel), (fun z => nomatch z), fun _ => ⟨true, T.xT (x := "OtherFactors") (by decide), fun _ a9 ha9 => ⟨(by show 0 ≤ sizeLine; decide), fun l hl => ⟨_, rfl, hq l _ ((Same.new hl0).trans (Same.new hl)) upd_same⟩⟩, (fun z => nomatch z)⟩⟩⟩⟩⟩, (fun z => absurd rfl z)⟩⟩⟩
  | 5 => exact ⟨(by show 0 ≤ sizeLine; decide), fun l0 hl0 => ⟨_, rfl, _, rfl, _, rfl, _, rfl, 21, a, b, c, rfl, by decide, by decide, ⟨fun _ => ⟨false, T.xF (x := "Beyond") (y := "NoCursor") (by decide) (by decide) (by decide +kernel), (fun z => nomatch z), fun _ => ⟨false, T.xF (x := "Beyond") (y := "BadSum") (by decide) (by decide) (by decide +kernel), (fun z => nomatch z), fun _ => ⟨false, T.xF (x := "Beyond") (y := "OtherKinds") (by decide) (by decide) (by decide +kernel), (fun z => nomatch z), fun _ => ⟨false, T.xF (x := "Beyond") (y := "OtherRules") (by decide) (by decide) (by decide +kernel), (fun z => nomatch z), fun _ => ⟨false, T.xF (x := "Beyond") (y := "OtherFactors") (by decide) (by decide) (by decide +kernel), (fun z => nomatch z), fun _ => ⟨true, T.xT (x := "Beyond") (by decide), fun _ a9 ha9 => ⟨(by show 0 ≤ sizeLine; decide), fun l hl => ⟨_, rfl, hq l _ ((Same.new hl0).trans (Same.new hl)) upd_same⟩⟩, (fun z => nomatch z)⟩⟩⟩⟩⟩⟩, (fun z => absurd rfl z)⟩⟩⟩
  | 6 => exact ⟨(by show 0 ≤ sizeLine; decide), fun l0 hl0 => ⟨_, rfl, _, rfl, _, rfl, _, rfl, 22, a, b, c, rfl, by decide, by decide, ⟨(fun z => nomatch z), fun _ d9 hd9 => ⟨false, T.xF (x := "Broken") (y := "NoCursor") (by decide) (by decide) (by decide +kernel), (fun z => nomatch z), fun _ => ⟨false, T.xF (x := "Broken") (y := "BadSum") (by decide) (by decide) (by decide +kernel), (fun z => nomatch z), fun _ => ⟨false, T.xF (x := "Broken") (y := "OtherKinds") (by decide) (by decide) (by decide +kernel), (fun z => nomatch z), fun _ => ⟨false, T.xF (x := "Broken") (y := "OtherRules") (by decide) (by decide) (by decide +kernel), (fun z => nomatch z), fun _ => ⟨false, T.xF (x := "Broken") (y := "OtherFactors") (by decide) (by decide) (by decide +kernel), (fun z => nomatch z), fun _ => ⟨false, T.xF (x := "Broken") (y := "Beyond") (by decide) (by decide) (by decide +kernel), (fun z => nomatch z), fun _ => ⟨true, T.xT (x := "Broken") (by decide), fun _ a9 ha9 => ⟨_, rfl, rfl, rfl, d9, _, _, rfl, upd_same, rfl, (by show 1 ≤ sizeLine; decide), fun l hl => ⟨_, rfl, hq l _ (((Same.new hl0).trans (Same.new hd9)).trans (Same.new hl)) upd_same⟩⟩, (fun z => nomatch z)⟩⟩⟩⟩⟩⟩⟩⟩⟩⟩
  | 7 => exact ⟨(by show 0 ≤ sizeLine; decide), fun l0 hl0 => ⟨_, rfl, _, rfl, _, rfl, _, rfl, 23, a, b, c, rfl, by decide, by decide, ⟨(fun z => nomatch z), fun _ d9 hd9 => ⟨false, T.xF (x := "TooMany") (y := "NoCursor") (by decide) (by decide) (by decide +kernel), (fun z => nomatch z), fun _ => ⟨false, T.xF (x := "TooMany") (y := "BadSum") (by decide) (by decide) (by decide +kernel), (fun z => nomatch z), fun _ => ⟨false, T.xF (x := "TooMany") (y := "OtherKinds") (by decide) (by decide) (by decide +kernel), (fun z => nomatch z), fun _ => ⟨false, T.xF (x := "TooMany") (y := "OtherRules") (by decide) (by decide) (by decide +kernel), (fun z => nomatch z), fun _ => ⟨false, T.xF (x := "TooMany") (y := "OtherFactors") (by decide) (by decide) (by decide +kernel), (fun z => nomatch z), fun _ => ⟨false, T.xF (x := "TooMany") (y := "Beyond") (by decide) (by decide) (by decide +kernel), (fun z => nomatch z), fun _ => ⟨false, T.xF (x := "TooMany") (y := "Broken") (by decide) (by decide) (by decide +kernel), (fun z => nomatch z), fun _ => ⟨true, T.xT (x := "TooMany") (by decide), fun _ a9 ha9 => ⟨_, rfl, rfl, rfl, d9, _, _, rfl, upd_same, rfl, _, rfl, rfl, rfl, d9, _, _, rfl, upd_same, rfl, _, rfl, rfl, rfl, d9, _, _, rfl, upd_same, rfl, (by show 3 ≤ sizeLine; decide), fun l hl => ⟨_, rfl, hq l _ (((Same.new hl0).trans (Same.new hd9)).trans (Same.new hl)) upd_same⟩⟩, (fun z => nomatch z)⟩⟩⟩⟩⟩⟩⟩⟩⟩⟩⟩
  | j + 8 => omega
theorem ok_fields (T : Tx P K mg) : FnX P w K mg base CX0 6 "_law_fields" ["_law_k", "_law_a", "_law_b", "_law_c"] [] (spFields 0 24) := by
  have F_l_fields_0 := ok_fields_0 (P := P) (w := w) (base := base) T
  have F_l_fields_1 := ok_fields_1 (P := P) (w := w) (base := base) T
  have F_l_fields_2 := ok_fields_2 (P := P) (w := w) (base := base) T
  refine T.d_l_fields.ok0 sc_l_fields (fun _ _ _ _ _ _ us hl => match us, hl with | [_, _, _, _], _ => rfl) (fun vs H Q E h => ?_) (fun f cdv A outer s H vs Q E hr h => ⟨_, (by exact (pss_cons (ps_if (pt_cmpR op_lt (pv 0) pe_int (nomark _)) (pss_one (ps_ret (pe_callX F_l_fields_0 (hr.mono (by decide)) pass0 (pa_cons (pv 0) (pa_cons (pv 1) (pa_cons (pv 2) (pa_cons (pv 3) pa_nil))))))) pss_nil)
      (pss_cons (ps_if (pt_cmpR op_lt (pv 0) pe_int (nomark _)) (pss_one (ps_ret (pe_callX F_l_fields_1 (hr.mono (by decide)) pass0 (pa_cons (pv 0) (pa_cons (pv 1) (pa_cons (pv 2) (pa_cons (pv 3) pa_nil))))))) pss_nil)
      (pss_one (ps_ret (pe_callX F_l_fields_2 (hr.mono (by decide)) pass0 (pa_cons (pv 0) (pa_cons (pv 1) (pa_cons (pv 2) (pa_cons (pv 3) pa_nil)))))))))), ?_⟩)
  · obtain ⟨k, a, b, c, rfl, _⟩ := h
    rfl
  obtain ⟨k, a, b, c, rfl, h0, h1, he⟩ := h
  refine ⟨_, rfl, _, _, rfl, rfl, _, rfl, ?_⟩
  refine iteB (fun g => ?_) (fun g => ?_)
  · have g' : (k : Int) < 8 := of_decide_eq_true g
    exact ⟨_, rfl, _, rfl, _, rfl, _, rfl, k, a, b, c, rfl, by omega, by omega, he⟩
  have g' : ¬ (k : Int) < 8 := of_decide_eq_false g
  refine ⟨_, rfl, _, _, rfl, rfl, _, rfl, ?_⟩
  refine iteB (fun g => ?_) (fun g => ?_)
  · have g' : (k : Int) < 16 := of_decide_eq_true g
    exact ⟨_, rfl, _, rfl, _, rfl, _, rfl, k, a, b, c, rfl, by omega, by omega, he⟩
  · have g' : ¬ (k : Int) < 16 := of_decide_eq_false g
    exact ⟨_, rfl, _, rfl, _, rfl, _, rfl, k, a, b, c, rfl, by omega, by omega, he⟩
/-- two more asked -/
theorem kstep {a l : Addr} {cls : Value} {d : Option Addr} {x y1 y2 : Str} {H : Hp} {xs : List V} {tb : TS} {D : Ends} (T : Tx P K mg) (hx : x ∈ eN) (h1 : y1 ∈ eN) (h2 : y2 ∈ eN) (hc : cls = .ref (He.ga K x)) (hd : d = none ∨ ∃ dd fvs, d = some dd ∧ H dd = some (.xd fvs)) (hl : H l = some (.lst xs)) (hz : xs.length ≤ 100)
    (k : ∀ l' H', Same H H' → H' l' = some (.lst (xs ++ [.bl (decide (x = y1)), .bl (decide (x = y2))])) → tb D [some (.ref a), some (.ref l')] H') :
    tSeq (tAsg (tOp rCat (tVar 1) (tLst (tCons (tCB (rIsErr K a cls d) (tCons (tVar 0) (tCons (tC (.ref (He.ga K y1))) tNil))) (tCons (tCB (rIsErr K a cls d) (tCons (tVar 0) (tCons (tC (.ref (He.ga K y2))) tNil))) tNil)))) (gName 1)) tb D [some (.ref a), some (.ref l)] H := by
  refine ⟨_, rfl, _, rfl, _, _, _, _, hc, T.kk x hx, rfl, (fun u e => e), T.km x hx y1 h1, hd, _, rfl, _, _, _, _, hc, T.kk x hx, rfl, (fun u e => e), T.km x hx y2 h2, hd, (by show 2 ≤ sizeLine; decide), fun l2 hl2 => ?_⟩
  refine ⟨l, l2, _, _, rfl, rfl, Same.new hl2 _ _ hl, upd_same, ?_, fun l3 hl3 => ?_⟩
  · show xs.length + 2 ≤ sizeLine
    have q9 : sizeLine = 16777216 := sizeLine_eq
    omega
  · exact k l3 _ ((Same.new hl2).trans (Same.new hl3)) upd_same
theorem xd_up {d : Option Addr} {H H' : Hp} (h : d = none ∨ ∃ dd fvs, d = some dd ∧ H dd = some (.xd fvs)) (e : Same H H') : d = none ∨ ∃ dd fvs, d = some dd ∧ H' dd = some (.xd fvs) := by
  rcases h with h | ⟨dd, fvs, h1, h2⟩
  · exact .inl h
  · exact .inr ⟨dd, fvs, h1, e _ _ h2⟩
theorem kinds_body (T : Tx P K mg) {a f : Addr} {oe : Obj} {cls cdv : Value} {d : Option Addr} {A : Around} {outer : List Env} {s : Shared} {H : Hp} {Q : VK} {x : Str} (hz : Zc cls d oe) (hf : ∃ vs, oe.data = .fields vs) (hx : x ∈ eN) (hc : cls = .ref (He.ga K x)) (hd : d = none ∨ ∃ dd fvs, d = some dd ∧ H dd = some (.xd fvs))
    (hq : ∀ l H', Same H H' → H' l = some (.lst (eN.map fun y => V.bl (decide (x = y)))) → Q (.ref l) H') :
    ∃ t, PSs (L2H.cxH CX0 P w K mg base ["_law_e", "_law_found"] "_law_kinds_of" (defScope s_l_kinds_of) f cdv A outer s H E0 (a, oe)) (defBody s_l_kinds_of) t ∧ t { nx := fun _ H' => Q .non H', rt := Q } (start ["_law_e", "_law_found"] [.ref a]) H := by
  have hpn : (a, oe) ∈ (L2H.cxH CX0 P w K mg base ["_law_e", "_law_found"] "_law_kinds_of" (defScope s_l_kinds_of) f cdv A outer s H E0 (a, oe)).pn := List.mem_cons_self
  refine ⟨_, (by exact (pss_cons (ps_set (i := 1) sc_l_kinds_of.nd rfl (Or.inl rfl) (pe_lst (pa_cons (pe_callB (call_isErrP hpn hz hf) (by rfl) T.b_isinstance (by decide +kernel) (pa_cons (pv 0) (pa_cons (pe_gref T.g_BadKind) pa_nil))) (pa_cons (pe_callB (call_isErrP hpn hz hf) (by rfl) T.b_isinstance (by decide +kernel) (pa_cons (pv 0) (pa_cons (pe_gref T.g_BadLine) pa_nil))) pa_nil))))
      (pss_cons (ps_set (i := 1) sc_l_kinds_of.nd rfl (Or.inl rfl) (pe_op op_cat (pv 1) (pe_lst (pa_cons (pe_callB (call_isErrP hpn hz hf) (by rfl) T.b_isinstance (by decide +kernel) (pa_cons (pv 0) (pa_cons (pe_gref T.g_Refused) pa_nil))) (pa_cons (pe_callB (call_isErrP hpn hz hf) (by rfl) T.b_isinstance (by decide +kernel) (pa_cons (pv 0) (pa_cons (pe_gref T.g_BadPromise) pa_nil))) pa_nil)))))
      (pss_cons (ps_set (i := 1) sc_l_kinds_of.nd rfl (Or.inl rfl) (pe_op op_cat (pv 1) (pe_lst (pa_cons (pe_callB (call_isErrP hpn hz hf) (by rfl) T.b_isinstance (by decide +kernel) (pa_cons (pv 0) (pa_cons (pe_gref T.g_BadRule) pa_nil))) (pa_cons (pe_callB (call_isErrP hpn hz hf) (by rfl) T.b_isinstance (by decide +kernel) (pa_cons (pv 0) (pa_cons (pe_gref T.g_BadSize) pa_nil))) pa_nil)))))
      (pss_cons (ps_set (i := 1) sc_l_kinds_of.nd rfl (Or.inl rfl) (pe_op op_cat (pv 1) (pe_lst (pa_cons (pe_callB (call_isErrP hpn hz hf) (by rfl) T.b_isinstance (by decide +kernel) (pa_cons (pv 0) (pa_cons (pe_gref T.g_BadCount) pa_nil))) (pa_cons (pe_callB (call_isErrP hpn hz hf) (by rfl) T.b_isinstance (by decide +kernel) (pa_cons (pv 0) (pa_cons (pe_gref T.g_BadNumber) pa_nil))) pa_nil)))))
      (pss_cons (ps_set (i := 1) sc_l_kinds_of.nd rfl (Or.inl rfl) (pe_op op_cat (pv 1) (pe_lst (pa_cons (pe_callB (call_isErrP hpn hz hf) (by rfl) T.b_isinstance (by decide +kernel) (pa_cons (pv 0) (pa_cons (pe_gref T.g_BadPage) pa_nil))) (pa_cons (pe_callB (call_isErrP hpn hz hf) (by rfl) T.b_isinstance (by decide +kernel) (pa_cons (pv 0) (pa_cons (pe_gref T.g_BadCase) pa_nil))) pa_nil)))))
      (pss_cons (ps_set (i := 1) sc_l_kinds_of.nd rfl (Or.inl rfl) (pe_op op_cat (pv 1) (pe_lst (pa_cons (pe_callB (call_isErrP hpn hz hf) (by rfl) T.b_isinstance (by decide +kernel) (pa_cons (pv 0) (pa_cons (pe_gref T.g_BadHanded) pa_nil))) (pa_cons (pe_callB (call_isErrP hpn hz hf) (by rfl) T.b_isinstance (by decide +kernel) (pa_cons (pv 0) (pa_cons (pe_gref T.g_BadOutcomes) pa_nil))) pa_nil)))))
      (pss_cons (ps_set (i := 1) sc_l_kinds_of.nd rfl (Or.inl rfl) (pe_op op_cat (pv 1) (pe_lst (pa_cons (pe_callB (call_isErrP hpn hz hf) (by rfl) T.b_isinstance (by decide +kernel) (pa_cons (pv 0) (pa_cons (pe_gref T.g_BadKey) pa_nil))) (pa_cons (pe_callB (call_isErrP hpn hz hf) (by rfl) T.b_isinstance (by decide +kernel) (pa_cons (pv 0) (pa_cons (pe_gref T.g_BadLength) pa_nil))) pa_nil)))))
      (pss_cons (ps_set (i := 1) sc_l_kinds_of.nd rfl (Or.inl rfl) (pe_op op_cat (pv 1) (pe_lst (pa_cons (pe_callB (call_isErrP hpn hz hf) (by rfl) T.b_isinstance (by decide +kernel) (pa_cons (pv 0) (pa_cons (pe_gref T.g_BadLives) pa_nil))) (pa_cons (pe_callB (call_isErrP hpn hz hf) (by rfl) T.b_isinstance (by decide +kernel) (pa_cons (pv 0) (pa_cons (pe_gref T.g_BadName) pa_nil))) pa_nil)))))
      (pss_cons (ps_set (i := 1) sc_l_kinds_of.nd rfl (Or.inl rfl) (pe_op op_cat (pv 1) (pe_lst (pa_cons (pe_callB (call_isErrP hpn hz hf) (by rfl) T.b_isinstance (by decide +kernel) (pa_cons (pv 0) (pa_cons (pe_gref T.g_NoCursor) pa_nil))) (pa_cons (pe_callB (call_isErrP hpn hz hf) (by rfl) T.b_isinstance (by decide +kernel) (pa_cons (pv 0) (pa_cons (pe_gref T.g_BadSum) pa_nil))) pa_nil)))))
      (pss_cons (ps_set (i := 1) sc_l_kinds_of.nd rfl (Or.inl rfl) (pe_op op_cat (pv 1) (pe_lst (pa_cons (pe_callB (call_isErrP hpn hz hf) (by rfl) T.b_isinstance (by decide +kernel) (pa_cons (pv 0) (pa_cons (pe_gref T.g_OtherKinds) pa_nil))) (pa_cons (pe_callB (call_isErrP hpn hz hf) (by rfl) T.b_isinstance (by decide +kernel) (pa_cons (pv 0) (pa_cons (pe_gref T.g_OtherRules) pa_nil))) pa_nil)))))
      (pss_cons (ps_set (i := 1) sc_l_kinds_of.nd rfl (Or.inl rfl) (pe_op op_cat (pv 1) (pe_lst (pa_cons (pe_callB (call_isErrP hpn hz hf) (by rfl) T.b_isinstance (by decide +kernel) (pa_cons (pv 0) (pa_cons (pe_gref T.g_OtherFactors) pa_nil))) (pa_cons (pe_callB (call_isErrP hpn hz hf) (by rfl) T.b_isinstance (by decide +kernel) (pa_cons (pv 0) (pa_cons (pe_gref T.g_Beyond) pa_nil))) pa_nil)))))
      (pss_cons (ps_set (i := 1) sc_l_kinds_of.nd rfl (Or.inl rfl) (pe_op op_cat (pv 1) (pe_lst (pa_cons (pe_callB (call_isErrP hpn hz hf) (by rfl) T.b_isinstance (by decide +kernel) (pa_cons (pv 0) (pa_cons (pe_gref T.g_Broken) pa_nil))) (pa_cons (pe_callB (call_isErrP hpn hz hf) (by rfl) T.b_isinstance (by decide +kernel) (pa_cons (pv 0) (pa_cons (pe_gref T.g_TooMany) pa_nil))) pa_nil)))))
      (pss_one (ps_ret (pv 1)))))))))))))))), ?_⟩
  refine ⟨_, rfl, _, _, _, _, hc, T.kk x hx, rfl, (fun u e => e), T.km x hx "BadKind" (by decide), hd, _, rfl, _, _, _, _, hc, T.kk x hx, rfl, (fun u e => e), T.km x hx "BadLine" (by decide), hd, (by show 2 ≤ sizeLine; decide), fun l0 hl0 => ?_⟩
  have S0 : Same H (upd H l0 (.lst [.bl (decide (x = Str.ofString "BadKind")), .bl (decide (x = Str.ofString "BadLine"))])) := Same.new hl0
  have h0 : upd H l0 (.lst [.bl (decide (x = Str.ofString "BadKind")), .bl (decide (x = Str.ofString "BadLine"))]) l0 = some (.lst [.bl (decide (x = Str.ofString "BadKind")), .bl (decide (x = Str.ofString "BadLine"))]) := upd_same
  refine kstep T hx (y1 := "Refused") (y2 := "BadPromise") (by decide) (by decide) hc (xd_up hd S0) h0 (by simp) fun l1 H1 Z1 h1 => ?_
  have S1 := S0.trans Z1
  refine kstep T hx (y1 := "BadRule") (y2 := "BadSize") (by decide) (by decide) hc (xd_up hd S1) h1 (by simp) fun l2 H2 Z2 h2 => ?_
  have S2 := S1.trans Z2
  refine kstep T hx (y1 := "BadCount") (y2 := "BadNumber") (by decide) (by decide) hc (xd_up hd S2) h2 (by simp) fun l3 H3 Z3 h3 => ?_
  have S3 := S2.trans Z3
  refine kstep T hx (y1 := "BadPage") (y2 := "BadCase") (by decide) (by decide) hc (xd_up hd S3) h3 (by simp) fun l4 H4 Z4 h4 => ?_
  have S4 := S3.trans Z4
  refine kstep T hx (y1 := "BadHanded") (y2 := "BadOutcomes") (by decide) (by decide) hc (xd_up hd S4) h4 (by simp) fun l5 H5 Z5 h5 => ?_
  have S5 := S4.trans Z5
  refine kstep T hx (y1 := "BadKey") (y2 := "BadLength") (by decide) (by decide) hc (xd_up hd S5) h5 (by simp) fun l6 H6 Z6 h6 => ?_
  have S6 := S5.trans Z6
  refine kstep T hx (y1 := "BadLives") (y2 := "BadName") (by decide) (by decide) hc (xd_up hd S6) h6 (by simp) fun l7 H7 Z7 h7 => ?_
  have S7 := S6.trans Z7
  refine kstep T hx (y1 := "NoCursor") (y2 := "BadSum") (by decide) (by decide) hc (xd_up hd S7) h7 (by simp) fun l8 H8 Z8 h8 => ?_
  have S8 := S7.trans Z8
  refine kstep T hx (y1 := "OtherKinds") (y2 := "OtherRules") (by decide) (by decide) hc (xd_up hd S8) h8 (by simp) fun l9 H9 Z9 h9 => ?_
  have S9 := S8.trans Z9
  refine kstep T hx (y1 := "OtherFactors") (y2 := "Beyond") (by decide) (by decide) hc (xd_up hd S9) h9 (by simp) fun l10 H10 Z10 h10 => ?_
  have S10 := S9.trans Z10
  refine kstep T hx (y1 := "Broken") (y2 := "TooMany") (by decide) (by decide) hc (xd_up hd S10) h10 (by simp) fun l11 H11 Z11 h11 => ?_
  have S11 := S10.trans Z11
  exact ⟨_, rfl, hq l11 H11 S11 h11⟩
/-- kinds_of(e), e the error that the suite holds -/
theorem pe_kinds {X : Cx} (T : Tx X.prog X.K X.mg) {a : Addr} {oe : Obj} {cls : Value} {d : Option Addr} {e : Expr} {te : TE} {p pos : Pos} (hp : (a, oe) ∈ X.pn) (hz : Zc cls d oe) (hf : ∃ vs, oe.data = .fields vs) (hr : L2H.RoomH 1 X.A) (he : PE X e te) (hg : Gl X "_law_kinds_of" := by rfl)
    (hs : starEach [e] X.env = (false, eval e X.env) :: starEach [] X.env := by rfl) :
    PE X (.Call (.Name "_law_kinds_of" p) [e] [] pos) (fun z H Q => te z H fun v H1 => [v] = [V.ref a] ∧ ∃ x ∈ eN, cls = .ref (He.ga X.K x) ∧ (d = none ∨ ∃ dd fvs, d = some dd ∧ H1 dd = some (.xd fvs)) ∧ ∀ l H', Same H1 H' → H' l = some (.lst (eN.map fun y => V.bl (decide (x = y)))) → Q (.ref l) H') := by
  obtain ⟨f, fd, hm, F⟩ := T.d_l_kinds_of
  have ha : PA X [e] (tCons te tNil) := pa_cons he pa_nil hs
  refine ⟨fun pins s z H Q I h => ?_⟩
  refine wpAny_Call_Name_kw (ld_glob I hg hm ?_ (by decide))
  refine PySem.W.callWith_K (h₀ := X.base) I.ok.mod.kin F.kp (thn (ha.run pos pins s z H (fun vs H1 => vs = [.ref a] ∧ ∃ x ∈ eN, cls = .ref (He.ga X.K x) ∧ (d = none ∨ ∃ dd fvs, d = some dd ∧ H1 dd = some (.xd fvs)) ∧ ∀ l H', Same H1 H' → H' l = some (.lst (eN.map fun y => V.bl (decide (x = y)))) → Q (.ref l) H') I ?_) fun us s1 hh => ?_) hs (by rfl)
  · exact h
  · obtain ⟨vs, H1, I1, r1, rfl, x, hx, hc, hd, hq⟩ := hh
    refine ⟨I1.kIn, run_pin (ps := ["_law_e"]) (st := s_l_kinds_of) F sc_l_kinds_of rfl (F.bindsN (fun _ _ _ _ _ _ us hl => match us, hl with | [_], _ => rfl)) hr hp I1 r1 fun cdv _ => ?_⟩
    exact kinds_body T hz hf hx hc hd hq
/-- the same, in a suite of a def's body -/
theorem pe_kinds_s {N : List Str} {q : Str} {sc : Scope} {f a : Addr} {cdv cls : Value} {A : Around} {outer : List Env} {s : Shared} {H : Hp} {E : XK} {pn : List (Addr × Obj)} {oe : Obj} {d : Option Addr} {i : Nat} {x : Str} {p p1 pos : Pos} (T : Tx P K mg) (hz : Zc cls d oe) (hf : ∃ vs, oe.data = .fields vs)
    (hr : Room 5 (A.deeper (envOfC q sc s.heap.objs.size f cdv))) (he : PE ((cxOf CX0 P w K mg base N q sc f cdv A outer s H E).nox.suite a ((a, oe) :: pn)) (.Name x p1) (tVar i)) (hg : sc.names.lookup ("_law_kinds_of" : Str) = some NameKind.globalImplicit := by rfl) :
    PE ((cxOf CX0 P w K mg base N q sc f cdv A outer s H E).nox.suite a ((a, oe) :: pn)) (.Call (.Name "_law_kinds_of" p) [.Name x p1] [] pos) (fun z H Q => tVar i z H fun v H1 => [v] = [V.ref a] ∧ ∃ x ∈ eN, cls = .ref (He.ga K x) ∧ (d = none ∨ ∃ dd fvs, d = some dd ∧ H1 dd = some (.xd fvs)) ∧ ∀ l H', Same H1 H' → H' l = some (.lst (eN.map fun y => V.bl (decide (x = y)))) → Q (.ref l) H') :=
  pe_kinds (X := (cxOf CX0 P w K mg base N q sc f cdv A outer s H E).nox.suite a ((a, oe) :: pn)) T List.mem_cons_self hz hf (L2H.RoomH.mono (k := 5) ⟨hr.dp, hr.un⟩ (by decide)) he hg rfl
def spCaught : Sp := fun vs H Q E => ∃ (k : Nat) (a b c : V), vs = [.int (k : Nat), a, b, c] ∧ k < 24 ∧ ∀ l H', Same H H' → H' l = some (.lst (.bl true :: eN.map fun y => V.bl (decide (eN.getD k "" = y)))) → Q (.ref l) H'
theorem ok_caught (T : Tx P K mg) : FnX P w K mg base CX0 6 "_law_caught" ["_law_k", "_law_a", "_law_b", "_law_c"] [] spCaught := by
  have F_l_raised := ok_raised (P := P) (w := w) (base := base) T
  refine T.d_l_caught.ok0 sc_l_caught (fun _ _ _ _ _ _ us hl => match us, hl with | [_, _, _, _], _ => rfl) (fun vs H Q E h => ?_) (fun f cdv A outer s H vs Q E hr h => ⟨_, (by exact (pss_cons (ps_try_cls (l := [⟨.ref (He.ga K "HeldError"), some 4, _⟩]) (Wout := fun _ _ _ _ => False) rfl rfl sc_l_caught.nd LamX.takes0 (fun W pn xe tk _ => (pss_one (ps_expr (pe_callXS F_l_raised (hr.mono (by decide)) (fun z => passAt tk z) (pa_cons (pv 0) (pa_cons (pv 1) (pa_cons (pv 2) (pa_cons (pv 3) pa_nil))))))))
        (.named (i := 4) ⟨rfl, by decide, .inl T.g_HeldError⟩ rfl rfl rfl (fun a9 oe cls d pn hz hf => (pss_one (ps_ret (pe_op op_cat (pe_lst (pa_cons (pe_callB (call_isErr hz hf) (by rfl) T.b_isinstance (by decide +kernel) (pa_cons (pv 4) (pa_cons (pe_bltn (v := .ty "ValueError") (by rfl) T.b_ValueError (by decide +kernel) rfl) pa_nil))) pa_nil)) (by exact pe_kinds_s T hz hf hr (pv 4))))))
        .nil))
      (pss_one (ps_ret (pe_lst pa_nil))))), ?_⟩)
  · obtain ⟨k, a, b, c, rfl, _⟩ := h
    rfl
  obtain ⟨k, a, b, c, rfl, h1, hq⟩ := h
  have hx : eN.getD k "" ∈ eN := by
    have : k < eN.length := h1
    rw [List.getD_eq_getElem?_getD, List.getElem?_eq_getElem this]
    exact List.getElem_mem _
  have wcl : ∀ (d : Option Addr) (H1 : Hp), Same H H1 → (d = none ∨ ∃ dd fvs, d = some dd ∧ H1 dd = some (.xd fvs)) → ∀ a9, H1 a9 = none → ∀ l, H1 l = none → ∀ l2 H2, Same (upd H1 l (.lst [.bl true])) H2 → H2 l2 = some (.lst (eN.map fun y => V.bl (decide (eN.getD k "" = y)))) → ∀ l3, H2 l3 = none →
      Q (.ref l3) (upd H2 l3 (.lst ([.bl true] ++ eN.map fun y => V.bl (decide (eN.getD k "" = y))))) := fun d H1 S1 hd a9 ha l hl l2 H2 S2 h2 l3 hl3 => hq l3 _ (S1.trans ((Same.new hl).trans (S2.trans (Same.new hl3)))) upd_same
  refine ⟨_, rfl, _, rfl, _, rfl, _, rfl, k, a, b, c, rfl, Nat.zero_le _, h1, fun _ => ?_, fun _ d9 hd9 => ?_⟩
  · refine ⟨true, T.xh _ hx, fun _ a9 ha => ?_, (fun z => nomatch z)⟩
    refine ⟨_, rfl, _, _, _, _, rfl, T.kk _ hx, rfl, (fun u e => e), T.kv _ hx, .inl rfl, (by show 1 ≤ sizeLine; decide), fun l hl => ?_⟩
    refine ⟨_, rfl, rfl, _, hx, rfl, .inl rfl, fun l2 H2 S2 h2 => ?_⟩
    refine ⟨l, l2, _, _, rfl, rfl, S2 _ _ upd_same, h2, (by show 1 + 24 ≤ sizeLine; decide), fun l3 hl3 => ?_⟩
    exact wcl none H (Same.refl H) (.inl rfl) a9 ha l hl l2 H2 S2 h2 l3 hl3
  · refine ⟨true, T.xh _ hx, fun _ a9 ha => ?_, (fun z => nomatch z)⟩
    refine ⟨_, rfl, _, _, _, _, rfl, T.kk _ hx, rfl, (fun u e => e), T.kv _ hx, .inr ⟨d9, _, rfl, upd_same⟩, (by show 1 ≤ sizeLine; decide), fun l hl => ?_⟩
    refine ⟨_, rfl, rfl, _, hx, rfl, .inr ⟨d9, _, rfl, Same.new hl _ _ upd_same⟩, fun l2 H2 S2 h2 => ?_⟩
    refine ⟨l, l2, _, _, rfl, rfl, S2 _ _ upd_same, h2, (by show 1 + 24 ≤ sizeLine; decide), fun l3 hl3 => ?_⟩
    exact wcl (some d9) _ (Same.new hd9) (.inr ⟨d9, _, rfl, upd_same⟩) a9 ha l hl l2 H2 S2 h2 l3 hl3
end
end K00


set_option Elab.async false
set_option linter.all false
set_option maxRecDepth 100000
set_option maxHeartbeats 4000000
namespace K00
open PySem PySem.Spec PyProof.Rows L2
section
variable {P : Program} {w : World} {K : PySem.W.Frag} {mg : Str → Option Value} {base : Heap}
def sizesL : List Int := [1, 1, 1, 1, 1, 1, 1, 1, 1, 1, 1, 1, 1, 1, 1, 1, 1, 1, 1, 1, 0, 0, 1, 3]
theorem sizes_at : ∀ i < 24, sizesL[i]? = some (((eF.getD i []).length : Nat) : Int) ∧ (eF.getD i []).length ≤ 3 := by decide +kernel
theorem bools_at : ∀ i < 24, ((List.range 24).map fun m => decide (m = i)) = eN.map fun y => decide (eN.getD i "" = y) := by decide +kernel
theorem cut3 {a b c : V} {n : Nat} (h : n ≤ 3) : cutV [a, b, c] none (some (n : Int)) = [a, b, c].take n := by
  unfold cutV
  rw [HT.sIx_nat, HT.sIx_none]
  have h4 : n = 0 ∨ n = 1 ∨ n = 2 ∨ n = 3 := by omega
  rcases h4 with rfl | rfl | rfl | rfl <;> rfl
theorem dpTake {H : Hp} {a b c : V} {da db dc : PyData} (h1 : Dp K H a da) (h2 : Dp K H b db) (h3 : Dp K H c dc) {n : Nat} (h : n ≤ 3) : DpAll K H ([a, b, c].take n) ([da, db, dc].take n) := by
  have h4 : n = 0 ∨ n = 1 ∨ n = 2 ∨ n = 3 := by omega
  rcases h4 with rfl | rfl | rfl | rfl
  · exact .nil
  · exact .cons h1 .nil
  · exact .cons h1 (.cons h2 .nil)
  · exact .cons h1 (.cons h2 (.cons h3 .nil))
theorem shTake {da db dc : PyData} (a1 : PyData.canLay0 da = true) (b1 : PyData.canLay0 db = true) (c1 : PyData.canLay0 dc = true) (a2 : PyData.depth da ≤ 1) (b2 : PyData.depth db ≤ 1) (c2 : PyData.depth dc ≤ 1) {n : Nat} (h : n ≤ 3) : SeqAt.shaped (.list ([da, db, dc].take n)) = true := by
  have h4 : n = 0 ∨ n = 1 ∨ n = 2 ∨ n = 3 := by omega
  show (PyData.canLayAll0 _ && decide (PyData.depthAll _ + 1 ≤ 64)) = true
  rw [Bool.and_eq_true]
  rcases h4 with rfl | rfl | rfl | rfl
  · exact ⟨rfl, rfl⟩
  · refine ⟨?_, decide_eq_true ?_⟩
    · simp [PyData.canLayAll0, a1]
    · simp [PyData.depthAll]; omega
  · refine ⟨?_, decide_eq_true ?_⟩
    · simp [PyData.canLayAll0, a1, b1]
    · simp [PyData.depthAll]; omega
  · refine ⟨?_, decide_eq_true ?_⟩
    · simp [PyData.canLayAll0, a1, b1, c1]
    · simp [PyData.depthAll]; omega
theorem dpBools {H : Hp} : ∀ bs : List Bool, DpAll K H (bs.map V.bl) (bs.map PyData.bool)
  | [] => .nil
  | c :: r => .cons (.bl c) (dpBools r)
theorem cl_bools : ∀ bs : List Bool, PyData.canLayAll0 (bs.map PyData.bool) = true
  | [] => rfl
  | c :: r => by
    show (PyData.canLay0 (.bool c) && PyData.canLayAll0 (r.map PyData.bool)) = true
    rw [cl_bools r]
    rfl
theorem dp_bools : ∀ bs : List Bool, PyData.depthAll (bs.map PyData.bool) = 0
  | [] => rfl
  | c :: r => by
    show max (PyData.depth (.bool c)) (PyData.depthAll (r.map PyData.bool)) = 0
    rw [dp_bools r]
    rfl
theorem shaped_bools (bs : List Bool) : SeqAt.shaped (.list (bs.map PyData.bool)) = true := by
  show (PyData.canLayAll0 (bs.map PyData.bool) && decide (PyData.depthAll (bs.map PyData.bool) + 1 ≤ 64)) = true
  rw [cl_bools, dp_bools]
  rfl
def spLaw (K : PySem.W.Frag) : Sp := fun vs H Q E => ∃ (a : Addr) (xs : List Int), vs = [.ref a] ∧ SqL K H a (xs.map V.int) ∧ ∀ H', Q (.bl true) H'
theorem ok_law (T : Tx P K mg) {f : Addr} {fd : FuncData} (F : FunD K "law" "law" (defArgs s_law) (defBody s_law) (defScope s_law) [] [] f fd) : FnOk P w K mg base CX0 8 f fd ["_law_script"] (spLaw K) := by
  have F_l_bag := ok_bag (P := P) (w := w) (base := base) T
  have F_l_thing := ok_thing (P := P) (w := w) (base := base) T
  have F_l_fields := ok_fields (P := P) (w := w) (base := base) T
  have F_l_caught := ok_caught (P := P) (w := w) (base := base) T
  refine L2.FunD.ok0 F sc_law (fun vs H Q E h => ?_) (fun cdv A outer s H vs Q E hr h => have hu := hu_of hr; ⟨_, (by exact (pss_cons (ps_set (i := 1) sc_law.nd rfl (Or.inl rfl) (pe_callX F_l_bag (hr.mono (by decide)) pass0 (pa_cons (pv 0) pa_nil)))
      (pss_cons (ps_set (i := 2) sc_law.nd rfl (Or.inl rfl) (pe_lst (pa_cons pe_int (pa_cons pe_int (pa_cons pe_int (pa_cons pe_int (pa_cons pe_int (pa_cons pe_int (pa_cons pe_int (pa_cons pe_int (pa_cons pe_int (pa_cons pe_int (pa_cons pe_int (pa_cons pe_int (pa_cons pe_int (pa_cons pe_int (pa_cons pe_int (pa_cons pe_int (pa_cons pe_int (pa_cons pe_int (pa_cons pe_int (pa_cons pe_int (pa_cons pe_int (pa_cons pe_int (pa_cons pe_int (pa_cons pe_int pa_nil))))))))))))))))))))))))))
      (pss_cons (ps_for PassesOwn.never rfl (pi_range1 rfl T.b_range (pa_cons pe_int pa_nil)) (pg_name (i := 3) sc_law.nd rfl (Or.inr rfl))
        (pss_cons (ps_par3 (i := 4) (j := 5) (l := 6) (by rfl) sc_law.nd rfl rfl rfl (by decide) (by decide) (by decide) rfl rfl rfl (pa_cons (pe_callX F_l_thing (hr.mono (by decide)) pass0 (pa_cons (pv 1) pa_nil)) (pa_cons (pe_callX F_l_thing (hr.mono (by decide)) pass0 (pa_cons (pv 1) pa_nil)) (pa_cons (pe_callX F_l_thing (hr.mono (by decide)) pass0 (pa_cons (pv 1) pa_nil)) pa_nil))) (by rfl))
      (pss_cons (ps_if (pt_cmpR (op_neD hr.units) (pe_callX F_l_fields (hr.mono (by decide)) pass0 (pa_cons (pv 3) (pa_cons (pv 4) (pa_cons (pv 5) (pa_cons (pv 6) pa_nil))))) (pe_slice sl_list (pe_lst (pa_cons (pv 4) (pa_cons (pv 5) (pa_cons (pv 6) pa_nil)))) po_none (po_some (pe_ix ix_list (pv 2) (pv 3) (fun _ _ => rfl)))) (nomark _)) (pss_one (ps_ret pe_bl)) pss_nil)
      (pss_one (ps_if (pt_cmpR (op_neD hr.units) (pe_callX F_l_caught (hr.mono (by decide)) pass0 (pa_cons (pv 3) (pa_cons (pv 4) (pa_cons (pv 5) (pa_cons (pv 6) pa_nil))))) (pe_op op_cat (pe_lst (pa_cons pe_bl pa_nil)) (pe_lc (own := [("_law_j", 7)]) (g := (gName 7)) (tt := tYes) (by rfl) sc_law.nd (pi_range1 rfl T.b_range (pa_cons pe_int pa_nil)) (blkOk_by (own := [("_law_j", 7)]) (N := ["_law_script", "_law_bag_here", "_law_sizes", "_law_k", "_law_a", "_law_b", "_law_c", "_law_j"]) (sc := defScope s_law) (by decide +kernel)) (fun _ _ _ _ _ => (pg_name (i := 7) sc_law.nd rfl (Or.inl rfl))) (fun _ _ _ _ _ => pts_nil) (fun _ _ _ _ _ => (pe_cmpR op_eq (pv 7) (pv 3) (nomark _))))) (nomark _)) (pss_one (ps_ret pe_bl)) pss_nil)))))
      (pss_one (ps_ret pe_bl)))))), ?_⟩)
  · obtain ⟨a, xs, rfl, _⟩ := h
    rfl
  obtain ⟨a, xs, rfl, ha, hQ⟩ := h
  refine ⟨_, rfl, a, xs, rfl, ha, fun d c H1 hd S1 B1 => ?_⟩
  refine ⟨(by show 24 ≤ sizeLine; decide), fun L hL => ?_⟩
  have B2 := B1.up (Same.new (o := .lst (sizesL.map V.int)) hL)
  have L2 : upd H1 L (.lst (sizesL.map V.int)) L = some (.lst (sizesL.map V.int)) := upd_same
  refine ⟨24, rfl, by decide, by decide, for_range (lo := 0) (n := 24) (fun i z H' => ∃ o3 o4 o5 o6 o7, z = [some (.ref a), some (.ref d), some (.ref L), o3, o4, o5, o6, o7] ∧ Bag H' d c (12 * i) ∧ H' L = some (.lst (sizesL.map V.int))) ⟨_, _, _, _, _, rfl, B2, L2⟩ ?_ ?_⟩
  rotate_left
  · rintro z H' ⟨o3, o4, o5, o6, o7, rfl, _⟩
    exact hQ H'
  rintro i z H2 hi ⟨o3, o4, o5, o6, o7, rfl, hb, hl⟩
  rw [Int.zero_add]
  refine ⟨_, rfl, d, c, _, rfl, hb, by omega, fun va H3 t1 S3 b3 => ?_⟩
  refine ⟨_, rfl, d, c, _, rfl, b3, by omega, fun vb H4 t2 S4 b4 => ?_⟩
  refine ⟨_, rfl, d, c, _, rfl, b4, by omega, fun vc H5 t3 S5 b5 => ?_⟩
  have hl5 := S5 _ _ (b4.ne (S4 _ _ (b3.ne (S3 _ _ (hb.ne hl) hl)) (S3 _ _ (hb.ne hl) hl))) (S4 _ _ (b3.ne (S3 _ _ (hb.ne hl) hl)) (S3 _ _ (hb.ne hl) hl))
  have ta := (t1.but b3 S4).but b4 S5
  have tb := t2.but b4 S5
  clear S3 S4 S5 b3 b4 hb t1 t2 hl
  refine ⟨_, _, _, rfl, ?_⟩
  refine ⟨_, rfl, _, rfl, _, rfl, _, rfl, i, va, vb, vc, rfl, Nat.zero_le _, hi, fun l6 H6 S6 h6 => ?_⟩
  refine ⟨_, rfl, _, rfl, _, rfl, (by show 3 ≤ sizeLine; decide), fun l7 hl7 => ?_⟩
  obtain ⟨z1, z2⟩ := sizes_at i hi
  have S7 : Same H6 (upd H6 l7 (.lst [va, vb, vc])) := Same.new hl7
  have h7 : upd H6 l7 (.lst [va, vb, vc]) l7 = some (.lst [va, vb, vc]) := upd_same
  generalize upd H6 l7 (.lst [va, vb, vc]) = H7 at *
  have SS7 := S6.trans S7
  refine ⟨_, rfl, _, rfl, L, _, _, .int (((eF.getD i []).length : Nat) : Int), rfl, rfl, SqL.of (SS7 _ _ hl5), atI_nat (by rw [List.getElem?_map, z1]; rfl), _, rfl, l7, _, rfl, SqL.of h7, fun l8 hl8 => ?_⟩
  rw [cut3 z2]
  have S8 : Same H7 (upd H7 l8 (.lst ([va, vb, vc].take (eF.getD i []).length))) := Same.new hl8
  have h8 : upd H7 l8 (.lst ([va, vb, vc].take (eF.getD i []).length)) l8 = some (.lst ([va, vb, vc].take (eF.getD i []).length)) := upd_same
  generalize upd H7 l8 (.lst ([va, vb, vc].take (eF.getD i []).length)) = H8 at *
  have SS8 := SS7.trans S8
  obtain ⟨da, p1, p2, p3⟩ := (ta.up SS8).data (K := K)
  obtain ⟨db, q1, q2, q3⟩ := (tb.up SS8).data (K := K)
  obtain ⟨dc, r1, r2, r3⟩ := (t3.up SS8).data (K := K)
  have sh := shTake p2 q2 r2 p3 q3 r3 z2
  refine ⟨.list ([da, db, dc].take (eF.getD i []).length), .list ([da, db, dc].take (eF.getD i []).length), .lst (SqL.of (S8 _ _ (S7 _ _ h6))) (dpTake p1 q1 r1 z2), .lst (SqL.of h8) (dpTake p1 q1 r1 z2), sh, sh, _, rfl, ?_⟩
  rw [SeqAt.eqv_refl _ (SeqAt.canLay_of_shaped sh)]
  refine iteF ?_
  have hl8' := SS8 _ _ hl5
  have b8 := b5.up SS8
  clear p1 q1 r1 sh h8 S8 h7 S7 SS7 h6 S6 SS8 ta tb t3 b5 hl5 hl7 hl8
  refine ⟨_, rfl, _, rfl, _, rfl, _, rfl, i, va, vb, vc, rfl, hi, fun l9 H9 S9 h9 => ?_⟩
  have eb : (V.bl true :: eN.map fun y => V.bl (decide (eN.getD i "" = y))) = (true :: (List.range 24).map fun m => decide (m = i)).map V.bl := by
    rw [List.map_cons, bools_at i hi, List.map_map]
    rfl
  rw [eb] at h9
  refine ⟨(by show 1 ≤ sizeLine; decide), fun la hla => ?_⟩
  have Sa : Same H9 (upd H9 la (.lst [.bl true])) := Same.new hla
  have haa : upd H9 la (.lst [.bl true]) la = some (.lst [.bl true]) := upd_same
  generalize upd H9 la (.lst [.bl true]) = Ha at *
  refine ⟨24, rfl, by decide, by decide, fun D hD => lc_range (lo := 0) (n := 24) (fun j H' => Same Ha H' ∧ H' D = some (.lst ((List.range j).map fun m => V.bl (decide (m = i))))) ⟨Same.new hD, upd_same⟩ ?_ ?_⟩
  · rintro j H' hj ⟨S, hd'⟩
    rw [Int.zero_add]
    refine ⟨rfl, _, rfl, _, rfl, rfl, _, hd', ?_, S.mut hD, ?_⟩
    · refine small1000 ?_
      rw [List.length_map, List.length_range]
      omega
    · rw [upd_same, List.range_succ, List.map_append]
      have e : decide (V.int (j : Int) = V.int (i : Int)) = decide (j = i) := by
        by_cases q : j = i
        · subst q; simp
        · rw [decide_eq_false q, decide_eq_false (fun z => q (by injection z with z; omega))]
      rw [e]
      rfl
  · rintro Hb ⟨Sb, hDb⟩
    refine ⟨la, D, _, _, rfl, rfl, Sb _ _ haa, hDb, (by rw [List.length_map, List.length_range]; show 1 + 24 ≤ sizeLine; decide), fun lc hlc => ?_⟩
    have Sc : Same Hb (upd Hb lc (.lst ([.bl true] ++ (List.range 24).map fun m => V.bl (decide (m = i))))) := Same.new hlc
    have hcc : upd Hb lc (.lst ([.bl true] ++ (List.range 24).map fun m => V.bl (decide (m = i)))) lc = some (.lst ((true :: (List.range 24).map fun m => decide (m = i)).map V.bl)) := by
      rw [upd_same, List.map_cons, List.map_map]
      rfl
    generalize upd Hb lc (.lst ([.bl true] ++ (List.range 24).map fun m => V.bl (decide (m = i)))) = Hc at *
    have SSc := Sa.trans (Sb.trans Sc)
    have sh := shaped_bools (true :: (List.range 24).map fun m => decide (m = i))
    refine ⟨_, _, .lst (SqL.of (SSc _ _ h9)) (dpBools _), .lst (SqL.of hcc) (dpBools _), sh, sh, _, rfl, ?_⟩
    rw [SeqAt.eqv_refl _ (SeqAt.canLay_of_shaped sh)]
    refine iteF ?_
    exact ⟨_, _, _, _, _, rfl, (b8.up (S9.trans SSc)).mono (by omega), (S9.trans SSc) _ _ hl8'⟩
end
end K00


set_option Elab.async false
set_option linter.all false
set_option maxRecDepth 100000
set_option maxHeartbeats 4000000
/-! a Hook that tells defs, classes, errors with an __init__ by super(), code tables -/
namespace HeE
open PySem PySem.Spec PyProof.Rows L2 He PySem.ErrX
structure ErrD where
  x : Str
  fs : List Str
  qual : Str
  params : Arguments
  body : List Stmt
  scope : Scope
abbrev FnE : Type := Option (Str × Str × Arguments × FuncBody × Scope × Addr × Addr)
def iAd (K : PySem.W.Frag) (x : Str) : Addr := ma K (ga K x) "__init__"
def fnE (K : PySem.W.Frag) (x : Str) : FnE := match K.lookup (iAd K x) with
  | some ⟨_, _, .func fd, _⟩ => some (fd.name, fd.qualname, fd.params, fd.body, fd.scope, fd.globals, fd.builtins)
  | _ => none
def ErrD.val (d : ErrD) : FnE := some ("__init__", d.qual, d.params, .stmts d.body, d.scope, mainGlobals, builtinsNs)
def fileB (K : PySem.W.Frag) (cda : Addr) (file : Str) : Bool := match K.lookup cda with
  | some ⟨_, _, .fields vs, _⟩ => (match (vs[2]? : Option Value) with
    | some (.str f _) => (file == f)
    | _ => false)
  | _ => false
def cellB (K : PySem.W.Frag) (cc C : Addr) : Bool := match K.lookup cc with
  | some ⟨_, _, .cell (some (.ref C')), _⟩ => decide (C' = C)
  | _ => false
def initB (K : PySem.W.Frag) (C fI : Addr) (file q : Str) : Bool := match K.lookup fI with
  | some ⟨_, _, .func fd, _⟩ => (match fd.code, fd.closure, fd.defaults with
    | .ref cda, [(cn, cc)], .none => decide (cn = "__class__") && (PySem.W.codeIn K (.ref cda) q && (fileB K cda file && cellB K cc C))
    | _, _, _ => false)
  | _ => false
def clsB (K : PySem.W.Frag) (C : Addr) : Bool := match K.lookup C with
  | some ⟨.type t, _, .cls cd, sl⟩ => decide (t = "type") && (match cd.mro, sl.toList with
    | .ref C' :: bm, [_, _, _, _, some (.builtin n), _] => decide (C' = C) && (decide (n = "ValueError.__new__") && (!cd.hasDel && (cd.hasDict && PySem.HandSPX.refsVE bm)))
    | _, _ => false)
  | _ => false
def okO (a b : Option Bool) : Bool := decide (a = b)
def okV (a b : Option Value) : Bool := decide (a = b)
def errL (K : PySem.W.Frag) (file : Str) (d : ErrD) : List Bool := [
  clsB K (ga K d.x),
  eqO (PySem.W.findIn K (.ref (ga K d.x)) "__setattr__") (some (some (.builtin "object.__setattr__"))),
  eqO (PySem.W.findIn K (.ref (ga K d.x)) "__getattribute__") (some (some (.builtin "BaseException.__getattribute__"))),
  eqO (PySem.W.findIn K (.ref (ga K d.x)) "__getattr__") (some none),
  d.fs.all (fun f => eqO (PySem.W.findIn K (.ref (ga K d.x)) f) (some none)),
  PySem.W.keepIn K (.ref (ga K d.x)),
  okO (PySem.W.subIn K (.ref (ga K d.x)) (.type "BaseException")) (some true),
  okO (PySem.W.subIn K (.ref (ga K d.x)) (.type "ValueError")) (some true),
  okV (PySem.W.typeIn K (.ref (ga K d.x))) (some (.type "type")),
  PySem.W.hasDictIn K (ga K d.x),
  okO (PySem.W.mroIn K (ga K d.x) (.ref (ga K d.x))) (some true),
  eqO (PySem.W.ks_superIn K (ga K d.x) (ga K d.x) "__init__") (some (some (.builtin "ValueError.__init__"))),
  eqO (PySem.W.nsIn K cStatics "thirdparty.any") (some none),
  eqO (PySem.W.nsIn K mainGlobals "super") (some none),
  eqO (PySem.W.findIn K (.ref (ga K d.x)) "__init__") (some (some (.ref (iAd K d.x)))),
  okV (PySem.W.typeIn K (.ref (iAd K d.x))) (some (.type "function")),
  initB K (ga K d.x) (iAd K d.x) file d.qual,
  (PySem.W.clsIn K (ga K d.x)).isSome,
  eqO (PySem.W.findIn K (.ref (ga K d.x)) "__class__") (some (some (.builtin "object.__class__"))),
  eqO (PySem.W.specialIn K (.builtin "object.__class__") "__get__") (some (some (.builtin "getset_descriptor.__get__"))),
  okO (PySem.W.takesIn K (.builtin "object.__class__")) (some true),
  okO (PySem.W.mroIn K (ga K d.x) (.type "object")) (some true),
  eqO (PySem.W.nsIn K mainGlobals d.x) (some (some (.ref (ga K d.x))))]
def errB (K : PySem.W.Frag) (file : Str) (d : ErrD) : Bool := (errL K file d).all id
theorem all_at {l : List Bool} (h : l.all id = true) (i : Nat) {b : Bool} (e : l[i]? = some b := by rfl) : b = true := List.all_eq_true.mp h b (List.mem_of_getElem? e)
/-- what the text says of an error -/
structure ErrS (prog : Program) (d : ErrD) : Prop where
  topN : (prog.main.scope.names.lookup ("super" : Str)).isSome = false
  kinds : (d.fs.all fun f => (iScope d.fs).names.lookup f == some .local && !(f == ("self" : Str))) = true
  dbg : ∀ f ∈ d.fs, (f == ("__debug__" : Str)) = false
  outs : ("__class__" : Str) ∉ d.fs ∧ ("super" : Str) ∉ d.fs
  nd : d.fs.Nodup
  len : d.fs.length ≤ 900
  scope : d.scope = iScope d.fs
  head : ∃ ar, (d.params.posonlyargs ++ d.params.args).head? = some ar ∧ ar.arg = "self"
  body : ∃ msg j p0 p1 p2 p3 p4 p5 ps, d.body = supSt msg j p0 p1 p2 p3 p4 p5 :: (ps : List FldP).map setSt ∧ ps.map (·.f) = d.fs ∧ ∀ env, ∃ pl, supEv env pl msg j p0 p1 p2 p3 p4
  bind : ∀ (kV doc pm : Value) (an : Option Addr) (cda : Addr) (ct : Value) (cc : Addr) (self : Value) (us : List Value), us.length = d.fs.length → bindArgs (PySem.W.ksFn "__init__" d.qual d.params d.body (iScope d.fs) .none kV doc pm an (.ref cda) ct cc) ⟨self :: us, []⟩ = pure ((("self" : Str), self) :: d.fs.zip us)
theorem clsB_ok {K : PySem.W.Frag} {C : Addr} (h : clsB K C = true) : ∃ nm q N bs bm sn sub ab col dd k0 k1 k2 k3 k5, K.lookup C = some (excClassObj nm q C N bs bm true sn sub ab col dd k0 k1 k2 k3 k5 "ValueError.__new__") ∧ PySem.HandSPX.refsVE bm = true := by
  unfold clsB at h
  split at h
  · rename_i t dd cd sl q
    obtain ⟨h1, h2⟩ := ba h
    split at h2
    · rename_i C' bm k0 k1 k2 k3 n k5 e1 e2
      obtain ⟨a1, a⟩ := ba h2
      obtain ⟨a2, a⟩ := ba a
      obtain ⟨a3, a⟩ := ba a
      obtain ⟨a4, a5⟩ := ba a
      obtain ⟨sl⟩ := sl
      obtain ⟨n1, n2, n3, n4, n5, n6, n7, n8, n9, n10, n11⟩ := cd
      simp only at e1 e2 a3 a4
      have a1 := of_decide_eq_true a1
      have a2 := of_decide_eq_true a2
      have h1 := of_decide_eq_true h1
      have a3 : n11 = false := by simpa using a3
      subst a1 a2 h1 a3 a4 e1 e2
      exact ⟨n1, n5, n4, n2, bm, n7, n8, n9, n10, dd, k0, k1, k2, k3, k5, q, a5⟩
    · cases h2
  · cases h
theorem errTxt {prog : Program} {K : PySem.W.Frag} {d : ErrD} (h : errB K prog.main.file d = true) (e : fnE K d.x = d.val) (S : ErrS prog d) : ErrTxt prog K d.fs (ga K d.x) where
  cls := clsB_ok (all_at h 0)
  sa := eqO_ok (all_at h 1)
  ga := eqO_ok (all_at h 2)
  gg := eqO_ok (all_at h 3)
  noN := fun f hf => eqO_ok (List.all_eq_true.mp (all_at h 4) f hf)
  kC := all_at h 5
  exC := of_decide_eq_true (all_at h 6)
  veC := of_decide_eq_true (all_at h 7)
  tyC := of_decide_eq_true (all_at h 8)
  hdC := all_at h 9
  own := of_decide_eq_true (all_at h 10)
  sup := eqO_ok (all_at h 11)
  opq := eqO_ok (all_at h 12)
  gsup := eqO_ok (all_at h 13)
  topN := S.topN
  kinds := S.kinds
  dbg := S.dbg
  outs := S.outs
  nd := S.nd
  len := S.len
  init := by
    have h14 := eqO_ok (all_at h 14)
    have h15 : PySem.W.typeIn K (.ref (iAd K d.x)) = some (.type "function") := of_decide_eq_true (all_at h 15)
    have h16 : initB K (He.ga K d.x) (iAd K d.x) prog.main.file d.qual = true := all_at h 16
    unfold initB at h16
    unfold fnE ErrD.val at e
    cases q : K.lookup (iAd K d.x) with
    | none => rw [q] at h16; cases h16
    | some o =>
      obtain ⟨oc, od, dt, osl⟩ := o
      rw [q] at h16 e
      cases dt with
      | func fd =>
        obtain ⟨n1, n2, n3, n4, n5, n6, n7, n8, n9, n10, n11, n12, n13, n14, n15⟩ := fd
        have e2 : (some (n1, n2, n3, n4, n5, n6, n15) : FnE) = (some (Str.ofString "__init__", d.qual, d.params, .stmts d.body, d.scope, mainGlobals, builtinsNs) : FnE) := e
        simp only [Option.some.injEq, Prod.mk.injEq] at e2
        obtain ⟨h1, h2, h3, h4, h5, h6, h8⟩ := e2
        subst h1 h2 h3 h4 h5 h6 h8
        cases n13 with
        | ref cda =>
          cases n7 with
          | nil => cases h16
          | cons c7 r7 =>
            obtain ⟨cn, cc⟩ := c7
            cases r7 with
            | cons _ _ => cases h16
            | nil =>
              cases n8 with
              | none =>
                have h17 : (decide (cn = "__class__") && (PySem.W.codeIn K (.ref cda) d.qual && (fileB K cda prog.main.file && cellB K cc (He.ga K d.x)))) = true := h16
                obtain ⟨a1, a⟩ := ba h17
                obtain ⟨a2, a⟩ := ba a
                obtain ⟨a3, a4⟩ := ba a
                have a1 := of_decide_eq_true a1
                subst a1
                unfold fileB at a3
                unfold cellB at a4
                split at a3
                · rename_i ccl cdd vs ccs q1
                  split at a3
                  · rename_i f tf q2
                    split at a4
                    · rename_i cl cld C' csl q3
                      have a4 := of_decide_eq_true a4
                      subst a4
                      rw [S.scope] at q
                      exact ⟨iAd K d.x, cc, cda, oc, od, d.qual, d.params, d.body, n9, n10, n11, n12, n14, osl, ccl, cdd, vs, ccs, f, tf, cl, cld, csl, h14, h15, q, a2, q1, q2, a3, q3, S.head, S.body, S.bind n9 n10 n11 n12 cda n14 cc⟩
                    · cases a4
                  · cases a3
                · cases a3
              | _ => cases h16
        | _ => cases h16
      | _ => cases h16
theorem errK {prog : Program} {K : PySem.W.Frag} {d : ErrD} {file : Str} (h : errB K file d = true) : ErrK K (ga K d.x) where
  hcl := all_at h 17
  hga := eqO_ok (all_at h 2)
  hgt := eqO_ok (all_at h 3)
  hsub := of_decide_eq_true (all_at h 6)
  ha := eqO_ok (all_at h 18)
  hn := eqO_ok (all_at h 19)
  htk := of_decide_eq_true (all_at h 20)
  hm := of_decide_eq_true (all_at h 21)
theorem errG {K : PySem.W.Frag} {d : ErrD} {file : Str} {hp : Heap} {mg : Str → Option Value} (X : K.In hp) (G : hp.Ns mainGlobals mg) (h : errB K file d = true) : mg d.x = some (.ref (ga K d.x)) := PySem.W.mg_of X G (eqO_ok (all_at h 22))
/-! ### the Hook -/
abbrev AlE : Type := Bool × List FnW × List FnE
def obsE (file : Str) (fa : List Fa) (fn : List DefD) (er : List ErrD) (tf : List Defn) (ex : PySem.W.Frag → Bool) (g : Addr → Option Obj) (K : PySem.W.Frag) : AlE :=
  ((fa.all fun f => f.ok K) && ((fn.all fun d => d.ok K) && ((er.all fun d => errB K file d) && (ex K && tabsB g tf K))), fn.map (fun d => fnW K d.at_), er.map (fun d => fnE K d.x))
def valE (fn : List DefD) (er : List ErrD) : AlE := (true, fn.map DefD.val, er.map ErrD.val)
structure SaysE (file : Str) (fa : List Fa) (fn : List DefD) (er : List ErrD) (tf : List Defn) (ex : PySem.W.Frag → Bool) (h : Heap) (K : PySem.W.Frag) : Prop where
  fa : ∀ f ∈ fa, f.ok K = true
  fn : ∀ d ∈ fn, ∃ fd, FunD K d.name d.qual d.params d.body d.scope (d.dvs K) (d.kws K) (fAd K d.at_) fd
  er : ∀ d ∈ er, errB K file d = true ∧ fnE K d.x = d.val
  more : ex K = true
  hd : ∀ p ∈ tf, PySem.W.codeHdIn K (cT K p).1 (cT K p).2 = true
  out : ∀ p ∈ tf, K.lookup (cT K p).2 = none
  empty : ∀ p ∈ tf, h.get? (cT K p).2 = some { cls := .none, data := .fields #[] }
def frE (g : Addr → Option Obj) (n : Nat) : PySem.W.Frag := frT g (cStatics :: asD g n)
theorem map_at {α β : Type} {f g : α → β} : ∀ {l : List α}, l.map f = l.map g → ∀ d ∈ l, f d = g d
  | [], _, d, hd => by cases hd
  | a :: r, h, d, hd => by
    have h2 : f a :: r.map f = g a :: r.map g := h
    injection h2 with h3 h4
    rcases List.mem_cons.mp hd with e | e
    · subst e; exact h3
    · exact map_at h4 d e
theorem saysE_of {file : Str} {n : Nat} {fa : List Fa} {fn : List DefD} {er : List ErrD} {tf : List Defn} {ex : PySem.W.Frag → Bool} {h : Heap} (e : obsE file fa fn er tf ex h.get? (frE h.get? n) = valE fn er) : SaysE file fa fn er tf ex h (frE h.get? n) := by
  have e1 : ((fa.all fun f => f.ok (frE h.get? n)) && ((fn.all fun d => d.ok (frE h.get? n)) && ((er.all fun d => errB (frE h.get? n) file d) && (ex (frE h.get? n) && tabsB h.get? tf (frE h.get? n))))) = true := congrArg (fun z : AlE => z.1) e
  have e2 : fn.map (fun d => fnW (frE h.get? n) d.at_) = fn.map DefD.val := congrArg (fun z : AlE => z.2.1) e
  have e3 : er.map (fun d => fnE (frE h.get? n) d.x) = er.map ErrD.val := congrArg (fun z : AlE => z.2.2) e
  obtain ⟨a1, a⟩ := ba e1
  obtain ⟨a2, a⟩ := ba a
  obtain ⟨a3, a⟩ := ba a
  obtain ⟨a4, a5⟩ := ba a
  have key : ∀ p ∈ tf, PySem.W.codeHdIn (frE h.get? n) (cT (frE h.get? n) p).1 (cT (frE h.get? n) p).2 = true ∧ ∃ o, h.get? (cT (frE h.get? n) p).2 = some o ∧ emptyTab o = true := fun p hp => by
    obtain ⟨h3, h4⟩ := ba (List.all_eq_true.mp a5 p hp)
    refine ⟨h3, ?_⟩
    cases q : h.get? (cT (frE h.get? n) p).2 with
    | none => rw [q] at h4; cases h4
    | some o => rw [q] at h4; exact ⟨o, rfl, h4⟩
  exact ⟨fun f hf => List.all_eq_true.mp a1 f hf, fun d hd => DefD.funD (map_at e2 d hd) (List.all_eq_true.mp a2 d hd), fun d hd => ⟨List.all_eq_true.mp a3 d hd, map_at e3 d hd⟩, a4, fun p hp => (key p hp).1, fun p hp => by
    obtain ⟨_, o, q, z⟩ := key p hp
    exact frT_none q z, fun p hp => by
    obtain ⟨_, o, q, z⟩ := key p hp
    rw [q, emptyTab_eq z]⟩
def hookE (file : Str) (n : Nat) (fa : List Fa) (fn : List DefD) (er : List ErrD) (tf : List Defn) (ex : PySem.W.Frag → Bool) : PySem.W.Hook where
  α := AlE
  obs := fun s => obsE file fa fn er tf ex s.heap.get? (frE s.heap.get? n)
  val := fun _ => valE fn er
  says := fun _ h => ∃ K : PySem.W.Frag, K.In h ∧ SaysE file fa fn er tf ex h K
  of := fun _ _ e => ⟨_, frT_in, saysE_of e⟩
  keeps := fun _ _ _ ⟨K, hK, c⟩ k => ⟨K, PySem.W.Frag.In.keeps hK k, ⟨c.fa, c.fn, c.er, c.more, c.hd, c.out, fun p hp => k _ _ (c.empty p hp)⟩⟩
theorem obsE_eq {file : Str} {n : Nat} {fa : List Fa} {fn : List DefD} {er : List ErrD} {tf : List Defn} {ex : PySem.W.Frag → Bool} {g : Addr → Option Obj} {s : Shared} (h : ∀ a, g a = s.heap.get? a) : obsE file fa fn er tf ex g (frE g n) = (hookE file n fa fn er tf ex).obs s := by
  have e : g = s.heap.get? := funext h
  rw [e] <;> rfl
end HeE


set_option Elab.async false
set_option linter.all false
set_option maxRecDepth 100000
set_option maxHeartbeats 0
namespace K00
open PySem PySem.Spec PyProof.Rows L2 He HeE
def d_l_bag : He.DefD := ⟨("_law_bag", none), "_law_bag", "_law_bag", defArgs s_l_bag, defBody s_l_bag, defScope s_l_bag, [], []⟩
def d_l_draw : He.DefD := ⟨("_law_draw", none), "_law_draw", "_law_draw", defArgs s_l_draw, defBody s_l_draw, defScope s_l_draw, [], []⟩
def d_l_thing : He.DefD := ⟨("_law_thing", none), "_law_thing", "_law_thing", defArgs s_l_thing, defBody s_l_thing, defScope s_l_thing, [], []⟩
def d_l_raised_0 : He.DefD := ⟨("_law_raised_0", none), "_law_raised_0", "_law_raised_0", defArgs s_l_raised_0, defBody s_l_raised_0, defScope s_l_raised_0, [], []⟩
def d_l_raised_1 : He.DefD := ⟨("_law_raised_1", none), "_law_raised_1", "_law_raised_1", defArgs s_l_raised_1, defBody s_l_raised_1, defScope s_l_raised_1, [], []⟩
def d_l_raised_2 : He.DefD := ⟨("_law_raised_2", none), "_law_raised_2", "_law_raised_2", defArgs s_l_raised_2, defBody s_l_raised_2, defScope s_l_raised_2, [], []⟩
def d_l_raised : He.DefD := ⟨("_law_raised", none), "_law_raised", "_law_raised", defArgs s_l_raised, defBody s_l_raised, defScope s_l_raised, [], []⟩
def d_l_kinds_of : He.DefD := ⟨("_law_kinds_of", none), "_law_kinds_of", "_law_kinds_of", defArgs s_l_kinds_of, defBody s_l_kinds_of, defScope s_l_kinds_of, [], []⟩
def d_l_caught : He.DefD := ⟨("_law_caught", none), "_law_caught", "_law_caught", defArgs s_l_caught, defBody s_l_caught, defScope s_l_caught, [], []⟩
def d_l_fields_0 : He.DefD := ⟨("_law_fields_0", none), "_law_fields_0", "_law_fields_0", defArgs s_l_fields_0, defBody s_l_fields_0, defScope s_l_fields_0, [], []⟩
def d_l_fields_1 : He.DefD := ⟨("_law_fields_1", none), "_law_fields_1", "_law_fields_1", defArgs s_l_fields_1, defBody s_l_fields_1, defScope s_l_fields_1, [], []⟩
def d_l_fields_2 : He.DefD := ⟨("_law_fields_2", none), "_law_fields_2", "_law_fields_2", defArgs s_l_fields_2, defBody s_l_fields_2, defScope s_l_fields_2, [], []⟩
def d_l_fields : He.DefD := ⟨("_law_fields", none), "_law_fields", "_law_fields", defArgs s_l_fields, defBody s_l_fields, defScope s_l_fields, [], []⟩
def d_law : He.DefD := ⟨("law", none), "law", "law", defArgs s_law, defBody s_law, defScope s_law, [], []⟩
def fn0 : List He.DefD := [d_l_bag, d_l_draw, d_l_thing, d_l_raised_0, d_l_raised_1, d_l_raised_2, d_l_raised, d_l_kinds_of, d_l_caught, d_l_fields_0, d_l_fields_1, d_l_fields_2, d_l_fields, d_law]
abbrev fn : List He.DefD := fn0
def fa0 : List He.Fa := [.glo "_law_bag", .glo "_law_draw", .glo "_law_thing", .glo "_law_raised_0", .glo "_law_raised_1", .glo "_law_raised_2", .glo "_law_raised", .glo "_law_kinds_of", .glo "_law_caught", .glo "_law_fields_0", .glo "_law_fields_1", .glo "_law_fields_2", .glo "_law_fields", .glo "law", .glo "HeldError", .free "len", .free "int", .free "list", .free "range", .free "isinstance", .free "ValueError"]
abbrev fa : List He.Fa := fa0
def e_BadKind : ErrD := ⟨"BadKind", ["kind"], "BadKind.__init__", defArgs s_BadKind_init, defBody s_BadKind_init, defScope s_BadKind_init⟩
def e_BadLine : ErrD := ⟨"BadLine", ["line"], "BadLine.__init__", defArgs s_BadLine_init, defBody s_BadLine_init, defScope s_BadLine_init⟩
def e_Refused : ErrD := ⟨"Refused", ["line"], "Refused.__init__", defArgs s_Refused_init, defBody s_Refused_init, defScope s_Refused_init⟩
def e_BadPromise : ErrD := ⟨"BadPromise", ["promise"], "BadPromise.__init__", defArgs s_BadPromise_init, defBody s_BadPromise_init, defScope s_BadPromise_init⟩
def e_BadRule : ErrD := ⟨"BadRule", ["what"], "BadRule.__init__", defArgs s_BadRule_init, defBody s_BadRule_init, defScope s_BadRule_init⟩
def e_BadSize : ErrD := ⟨"BadSize", ["size"], "BadSize.__init__", defArgs s_BadSize_init, defBody s_BadSize_init, defScope s_BadSize_init⟩
def e_BadCount : ErrD := ⟨"BadCount", ["many"], "BadCount.__init__", defArgs s_BadCount_init, defBody s_BadCount_init, defScope s_BadCount_init⟩
def e_BadNumber : ErrD := ⟨"BadNumber", ["number"], "BadNumber.__init__", defArgs s_BadNumber_init, defBody s_BadNumber_init, defScope s_BadNumber_init⟩
def e_BadPage : ErrD := ⟨"BadPage", ["page"], "BadPage.__init__", defArgs s_BadPage_init, defBody s_BadPage_init, defScope s_BadPage_init⟩
def e_BadCase : ErrD := ⟨"BadCase", ["case"], "BadCase.__init__", defArgs s_BadCase_init, defBody s_BadCase_init, defScope s_BadCase_init⟩
def e_BadHanded : ErrD := ⟨"BadHanded", ["handed"], "BadHanded.__init__", defArgs s_BadHanded_init, defBody s_BadHanded_init, defScope s_BadHanded_init⟩
def e_BadOutcomes : ErrD := ⟨"BadOutcomes", ["word"], "BadOutcomes.__init__", defArgs s_BadOutcomes_init, defBody s_BadOutcomes_init, defScope s_BadOutcomes_init⟩
def e_BadKey : ErrD := ⟨"BadKey", ["key"], "BadKey.__init__", defArgs s_BadKey_init, defBody s_BadKey_init, defScope s_BadKey_init⟩
def e_BadLength : ErrD := ⟨"BadLength", ["length"], "BadLength.__init__", defArgs s_BadLength_init, defBody s_BadLength_init, defScope s_BadLength_init⟩
def e_BadLives : ErrD := ⟨"BadLives", ["lives"], "BadLives.__init__", defArgs s_BadLives_init, defBody s_BadLives_init, defScope s_BadLives_init⟩
def e_BadName : ErrD := ⟨"BadName", ["name"], "BadName.__init__", defArgs s_BadName_init, defBody s_BadName_init, defScope s_BadName_init⟩
def e_NoCursor : ErrD := ⟨"NoCursor", ["cursor"], "NoCursor.__init__", defArgs s_NoCursor_init, defBody s_NoCursor_init, defScope s_NoCursor_init⟩
def e_BadSum : ErrD := ⟨"BadSum", ["text"], "BadSum.__init__", defArgs s_BadSum_init, defBody s_BadSum_init, defScope s_BadSum_init⟩
def e_OtherKinds : ErrD := ⟨"OtherKinds", ["part"], "OtherKinds.__init__", defArgs s_OtherKinds_init, defBody s_OtherKinds_init, defScope s_OtherKinds_init⟩
def e_OtherRules : ErrD := ⟨"OtherRules", ["part"], "OtherRules.__init__", defArgs s_OtherRules_init, defBody s_OtherRules_init, defScope s_OtherRules_init⟩
def e_OtherFactors : ErrD := ⟨"OtherFactors", [], "OtherFactors.__init__", defArgs s_OtherFactors_init, defBody s_OtherFactors_init, defScope s_OtherFactors_init⟩
def e_Beyond : ErrD := ⟨"Beyond", [], "Beyond.__init__", defArgs s_Beyond_init, defBody s_Beyond_init, defScope s_Beyond_init⟩
def e_Broken : ErrD := ⟨"Broken", ["part"], "Broken.__init__", defArgs s_Broken_init, defBody s_Broken_init, defScope s_Broken_init⟩
def e_TooMany : ErrD := ⟨"TooMany", ["what", "many", "most"], "TooMany.__init__", defArgs s_TooMany_init, defBody s_TooMany_init, defScope s_TooMany_init⟩
def er : List ErrD := [e_BadKind, e_BadLine, e_Refused, e_BadPromise, e_BadRule, e_BadSize, e_BadCount, e_BadNumber, e_BadPage, e_BadCase, e_BadHanded, e_BadOutcomes, e_BadKey, e_BadLength, e_BadLives, e_BadName, e_NoCursor, e_BadSum, e_OtherKinds, e_OtherRules, e_OtherFactors, e_Beyond, e_Broken, e_TooMany]
def exL (K : PySem.W.Frag) : List Bool := [
  eN.all fun x => eN.all fun y => HeE.okO (PySem.W.exmOne K (.ref (He.ga K x)) (.ref (He.ga K y))) (some (decide (x = y))),
  eN.all fun x => eN.all fun y => HeE.okO (PySem.W.kitOne K (.ref (He.ga K x)) (.ref (He.ga K y))) (some (decide (x = y))),
  eN.all fun x => HeE.okO (PySem.W.exmOne K (.ref (He.ga K x)) (.ref (He.ga K "HeldError"))) (some true),
  eN.all fun x => HeE.okO (PySem.W.kitOne K (.ref (He.ga K x)) (.type "ValueError")) (some true)]
def ex (K : PySem.W.Frag) : Bool := (exL K).all id
theorem s_e_BadKind : ErrS P0 e_BadKind := ⟨rfl, by decide +kernel, by decide +kernel, by decide +kernel, by decide +kernel, by decide, rfl, ⟨_, rfl, rfl⟩, ⟨_, _, _, _, _, _, _, _, [⟨"kind", _, _, _, _⟩], rfl, rfl, fun env => ⟨_, rfl⟩⟩, fun kV doc pm an cda ct cc self us hl => match us, hl with | [_], _ => rfl⟩
theorem s_e_BadLine : ErrS P0 e_BadLine := ⟨rfl, by decide +kernel, by decide +kernel, by decide +kernel, by decide +kernel, by decide, rfl, ⟨_, rfl, rfl⟩, ⟨_, _, _, _, _, _, _, _, [⟨"line", _, _, _, _⟩], rfl, rfl, fun env => ⟨_, rfl⟩⟩, fun kV doc pm an cda ct cc self us hl => match us, hl with | [_], _ => rfl⟩
theorem s_e_Refused : ErrS P0 e_Refused := ⟨rfl, by decide +kernel, by decide +kernel, by decide +kernel, by decide +kernel, by decide, rfl, ⟨_, rfl, rfl⟩, ⟨_, _, _, _, _, _, _, _, [⟨"line", _, _, _, _⟩], rfl, rfl, fun env => ⟨_, rfl⟩⟩, fun kV doc pm an cda ct cc self us hl => match us, hl with | [_], _ => rfl⟩
theorem s_e_BadPromise : ErrS P0 e_BadPromise := ⟨rfl, by decide +kernel, by decide +kernel, by decide +kernel, by decide +kernel, by decide, rfl, ⟨_, rfl, rfl⟩, ⟨_, _, _, _, _, _, _, _, [⟨"promise", _, _, _, _⟩], rfl, rfl, fun env => ⟨_, rfl⟩⟩, fun kV doc pm an cda ct cc self us hl => match us, hl with | [_], _ => rfl⟩
theorem s_e_BadRule : ErrS P0 e_BadRule := ⟨rfl, by decide +kernel, by decide +kernel, by decide +kernel, by decide +kernel, by decide, rfl, ⟨_, rfl, rfl⟩, ⟨_, _, _, _, _, _, _, _, [⟨"what", _, _, _, _⟩], rfl, rfl, fun env => ⟨_, rfl⟩⟩, fun kV doc pm an cda ct cc self us hl => match us, hl with | [_], _ => rfl⟩
theorem s_e_BadSize : ErrS P0 e_BadSize := ⟨rfl, by decide +kernel, by decide +kernel, by decide +kernel, by decide +kernel, by decide, rfl, ⟨_, rfl, rfl⟩, ⟨_, _, _, _, _, _, _, _, [⟨"size", _, _, _, _⟩], rfl, rfl, fun env => ⟨_, rfl⟩⟩, fun kV doc pm an cda ct cc self us hl => match us, hl with | [_], _ => rfl⟩
theorem s_e_BadCount : ErrS P0 e_BadCount := ⟨rfl, by decide +kernel, by decide +kernel, by decide +kernel, by decide +kernel, by decide, rfl, ⟨_, rfl, rfl⟩, ⟨_, _, _, _, _, _, _, _, [⟨"many", _, _, _, _⟩], rfl, rfl, fun env => ⟨_, rfl⟩⟩, fun kV doc pm an cda ct cc self us hl => match us, hl with | [_], _ => rfl⟩
theorem s_e_BadNumber : ErrS P0 e_BadNumber := ⟨rfl, by decide +kernel, by decide +kernel, by decide +kernel, by decide +kernel, by decide, rfl, ⟨_, rfl, rfl⟩, ⟨_, _, _, _, _, _, _, _, [⟨"number", _, _, _, _⟩], rfl, rfl, fun env => ⟨_, rfl⟩⟩, fun kV doc pm an cda ct cc self us hl => match us, hl with | [_], _ => rfl⟩
theorem s_e_BadPage : ErrS P0 e_BadPage := ⟨rfl, by decide +kernel, by decide +kernel, by decide +kernel, by decide +kernel, by decide, rfl, ⟨_, rfl, rfl⟩, ⟨_, _, _, _, _, _, _, _, [⟨"page", _, _, _, _⟩], rfl, rfl, fun env => ⟨_, rfl⟩⟩, fun kV doc pm an cda ct cc self us hl => match us, hl with | [_], _ => rfl⟩
theorem s_e_BadCase : ErrS P0 e_BadCase := ⟨rfl, by decide +kernel, by decide +kernel, by decide +kernel, by decide +kernel, by decide, rfl, ⟨_, rfl, rfl⟩, ⟨_, _, _, _, _, _, _, _, [⟨"case", _, _, _, _⟩], rfl, rfl, fun env => ⟨_, rfl⟩⟩, fun kV doc pm an cda ct cc self us hl => match us, hl with | [_], _ => rfl⟩
theorem s_e_BadHanded : ErrS P0 e_BadHanded := ⟨rfl, by decide +kernel, by decide +kernel, by decide +kernel, by decide +kernel, by decide, rfl, ⟨_, rfl, rfl⟩, ⟨_, _, _, _, _, _, _, _, [⟨"handed", _, _, _, _⟩], rfl, rfl, fun env => ⟨_, rfl⟩⟩, fun kV doc pm an cda ct cc self us hl => match us, hl with | [_], _ => rfl⟩
theorem s_e_BadOutcomes : ErrS P0 e_BadOutcomes := ⟨rfl, by decide +kernel, by decide +kernel, by decide +kernel, by decide +kernel, by decide, rfl, ⟨_, rfl, rfl⟩, ⟨_, _, _, _, _, _, _, _, [⟨"word", _, _, _, _⟩], rfl, rfl, fun env => ⟨_, rfl⟩⟩, fun kV doc pm an cda ct cc self us hl => match us, hl with | [_], _ => rfl⟩
theorem s_e_BadKey : ErrS P0 e_BadKey := ⟨rfl, by decide +kernel, by decide +kernel, by decide +kernel, by decide +kernel, by decide, rfl, ⟨_, rfl, rfl⟩, ⟨_, _, _, _, _, _, _, _, [⟨"key", _, _, _, _⟩], rfl, rfl, fun env => ⟨_, rfl⟩⟩, fun kV doc pm an cda ct cc self us hl => match us, hl with | [_], _ => rfl⟩
theorem s_e_BadLength : ErrS P0 e_BadLength := ⟨rfl, by decide +kernel, by decide +kernel, by decide +kernel, by decide +kernel, by decide, rfl, ⟨_, rfl, rfl⟩, ⟨_, _, _, _, _, _, _, _, [⟨"length", _, _, _, _⟩], rfl, rfl, fun env => ⟨_, rfl⟩⟩, fun kV doc pm an cda ct cc self us hl => match us, hl with | [_], _ => rfl⟩
theorem s_e_BadLives : ErrS P0 e_BadLives := ⟨rfl, by decide +kernel, by decide +kernel, by decide +kernel, by decide +kernel, by decide, rfl, ⟨_, rfl, rfl⟩, ⟨_, _, _, _, _, _, _, _, [⟨"lives", _, _, _, _⟩], rfl, rfl, fun env => ⟨_, rfl⟩⟩, fun kV doc pm an cda ct cc self us hl => match us, hl with | [_], _ => rfl⟩
theorem s_e_BadName : ErrS P0 e_BadName := ⟨rfl, by decide +kernel, by decide +kernel, by decide +kernel, by decide +kernel, by decide, rfl, ⟨_, rfl, rfl⟩, ⟨_, _, _, _, _, _, _, _, [⟨"name", _, _, _, _⟩], rfl, rfl, fun env => ⟨_, rfl⟩⟩, fun kV doc pm an cda ct cc self us hl => match us, hl with | [_], _ => rfl⟩
theorem s_e_NoCursor : ErrS P0 e_NoCursor := ⟨rfl, by decide +kernel, by decide +kernel, by decide +kernel, by decide +kernel, by decide, rfl, ⟨_, rfl, rfl⟩, ⟨_, _, _, _, _, _, _, _, [⟨"cursor", _, _, _, _⟩], rfl, rfl, fun env => ⟨_, rfl⟩⟩, fun kV doc pm an cda ct cc self us hl => match us, hl with | [_], _ => rfl⟩
theorem s_e_BadSum : ErrS P0 e_BadSum := ⟨rfl, by decide +kernel, by decide +kernel, by decide +kernel, by decide +kernel, by decide, rfl, ⟨_, rfl, rfl⟩, ⟨_, _, _, _, _, _, _, _, [⟨"text", _, _, _, _⟩], rfl, rfl, fun env => ⟨_, rfl⟩⟩, fun kV doc pm an cda ct cc self us hl => match us, hl with | [_], _ => rfl⟩
theorem s_e_OtherKinds : ErrS P0 e_OtherKinds := ⟨rfl, by decide +kernel, by decide +kernel, by decide +kernel, by decide +kernel, by decide, rfl, ⟨_, rfl, rfl⟩, ⟨_, _, _, _, _, _, _, _, [⟨"part", _, _, _, _⟩], rfl, rfl, fun env => ⟨_, rfl⟩⟩, fun kV doc pm an cda ct cc self us hl => match us, hl with | [_], _ => rfl⟩
theorem s_e_OtherRules : ErrS P0 e_OtherRules := ⟨rfl, by decide +kernel, by decide +kernel, by decide +kernel, by decide +kernel, by decide, rfl, ⟨_, rfl, rfl⟩, ⟨_, _, _, _, _, _, _, _, [⟨"part", _, _, _, _⟩], rfl, rfl, fun env => ⟨_, rfl⟩⟩, fun kV doc pm an cda ct cc self us hl => match us, hl with | [_], _ => rfl⟩
theorem s_e_OtherFactors : ErrS P0 e_OtherFactors := ⟨rfl, by decide +kernel, by decide +kernel, by decide +kernel, by decide +kernel, by decide, rfl, ⟨_, rfl, rfl⟩, ⟨_, _, _, _, _, _, _, _, [], rfl, rfl, fun env => ⟨_, rfl⟩⟩, fun kV doc pm an cda ct cc self us hl => match us, hl with | [], _ => rfl⟩
theorem s_e_Beyond : ErrS P0 e_Beyond := ⟨rfl, by decide +kernel, by decide +kernel, by decide +kernel, by decide +kernel, by decide, rfl, ⟨_, rfl, rfl⟩, ⟨_, _, _, _, _, _, _, _, [], rfl, rfl, fun env => ⟨_, rfl⟩⟩, fun kV doc pm an cda ct cc self us hl => match us, hl with | [], _ => rfl⟩
theorem s_e_Broken : ErrS P0 e_Broken := ⟨rfl, by decide +kernel, by decide +kernel, by decide +kernel, by decide +kernel, by decide, rfl, ⟨_, rfl, rfl⟩, ⟨_, _, _, _, _, _, _, _, [⟨"part", _, _, _, _⟩], rfl, rfl, fun env => ⟨_, rfl⟩⟩, fun kV doc pm an cda ct cc self us hl => match us, hl with | [_], _ => rfl⟩
theorem s_e_TooMany : ErrS P0 e_TooMany := ⟨rfl, by decide +kernel, by decide +kernel, by decide +kernel, by decide +kernel, by decide, rfl, ⟨_, rfl, rfl⟩, ⟨_, _, _, _, _, _, _, _, [⟨"what", _, _, _, _⟩, ⟨"many", _, _, _, _⟩, ⟨"most", _, _, _, _⟩], rfl, rfl, fun env => ⟨_, rfl⟩⟩, fun kV doc pm an cda ct cc self us hl => match us, hl with | [_, _, _], _ => rfl⟩
abbrev R : PySem.W.OpenRow := PySem.W.OpenLaw.row PySem.Challenge.rw_heldplaces_k00_errors_made_from_their_fi
def file : Str := P0.main.file
abbrev hk : PySem.W.Hook := hookE file 5 fa fn er [] ex
def ob (s : PySem.W.SharedT) : AlE := obsE file fa fn er [] ex (HandSHeadRun.getT s) (frE (HandSHeadRun.getT s) 5)
theorem ob_eq (s : PySem.W.SharedT) : ob s = hk.obs s.abs := obsE_eq (HandSHeadRun.getT_eq s)
def names0 : List PySem.Str := ["HeldError", "BadKind", "BadLine", "Refused", "BadPromise", "BadRule", "BadSize", "BadCount", "BadNumber", "BadPage", "BadCase", "BadHanded", "BadOutcomes", "BadKey", "BadLength", "BadLives", "BadName", "NoCursor", "BadSum", "OtherKinds", "OtherRules", "OtherFactors", "Beyond", "Broken", "TooMany"]
def names1 : List PySem.Str := ["_law_bag", "_law_draw", "_law_thing", "_law_raised_0", "_law_raised_1", "_law_raised_2", "_law_raised", "_law_kinds_of", "_law_caught", "_law_fields_0", "_law_fields_1", "_law_fields_2", "_law_fields"]
abbrev names : List PySem.Str := names0 ++ names1

theorem tx {h : Heap} {K : PySem.W.Frag} {mg : Str → Option Value} (X : K.In h) (G : h.Ns mainGlobals mg) (c : SaysE file fa fn er [] ex h K) : Tx P0 K mg where
  d_l_bag := by
    obtain ⟨fd, F⟩ := c.fn d_l_bag (by simp [fn, fn0])
    exact ⟨_, fd, glo_ok X G (c.fa (.glo "_law_bag") (by simp [fa, fa0])), F⟩
  d_l_draw := by
    obtain ⟨fd, F⟩ := c.fn d_l_draw (by simp [fn, fn0])
    exact ⟨_, fd, glo_ok X G (c.fa (.glo "_law_draw") (by simp [fa, fa0])), F⟩
  d_l_thing := by
    obtain ⟨fd, F⟩ := c.fn d_l_thing (by simp [fn, fn0])
    exact ⟨_, fd, glo_ok X G (c.fa (.glo "_law_thing") (by simp [fa, fa0])), F⟩
  d_l_raised_0 := by
    obtain ⟨fd, F⟩ := c.fn d_l_raised_0 (by simp [fn, fn0])
    exact ⟨_, fd, glo_ok X G (c.fa (.glo "_law_raised_0") (by simp [fa, fa0])), F⟩
  d_l_raised_1 := by
    obtain ⟨fd, F⟩ := c.fn d_l_raised_1 (by simp [fn, fn0])
    exact ⟨_, fd, glo_ok X G (c.fa (.glo "_law_raised_1") (by simp [fa, fa0])), F⟩
  d_l_raised_2 := by
    obtain ⟨fd, F⟩ := c.fn d_l_raised_2 (by simp [fn, fn0])
    exact ⟨_, fd, glo_ok X G (c.fa (.glo "_law_raised_2") (by simp [fa, fa0])), F⟩
  d_l_raised := by
    obtain ⟨fd, F⟩ := c.fn d_l_raised (by simp [fn, fn0])
    exact ⟨_, fd, glo_ok X G (c.fa (.glo "_law_raised") (by simp [fa, fa0])), F⟩
  d_l_kinds_of := by
    obtain ⟨fd, F⟩ := c.fn d_l_kinds_of (by simp [fn, fn0])
    exact ⟨_, fd, glo_ok X G (c.fa (.glo "_law_kinds_of") (by simp [fa, fa0])), F⟩
  d_l_caught := by
    obtain ⟨fd, F⟩ := c.fn d_l_caught (by simp [fn, fn0])
    exact ⟨_, fd, glo_ok X G (c.fa (.glo "_law_caught") (by simp [fa, fa0])), F⟩
  d_l_fields_0 := by
    obtain ⟨fd, F⟩ := c.fn d_l_fields_0 (by simp [fn, fn0])
    exact ⟨_, fd, glo_ok X G (c.fa (.glo "_law_fields_0") (by simp [fa, fa0])), F⟩
  d_l_fields_1 := by
    obtain ⟨fd, F⟩ := c.fn d_l_fields_1 (by simp [fn, fn0])
    exact ⟨_, fd, glo_ok X G (c.fa (.glo "_law_fields_1") (by simp [fa, fa0])), F⟩
  d_l_fields_2 := by
    obtain ⟨fd, F⟩ := c.fn d_l_fields_2 (by simp [fn, fn0])
    exact ⟨_, fd, glo_ok X G (c.fa (.glo "_law_fields_2") (by simp [fa, fa0])), F⟩
  d_l_fields := by
    obtain ⟨fd, F⟩ := c.fn d_l_fields (by simp [fn, fn0])
    exact ⟨_, fd, glo_ok X G (c.fa (.glo "_law_fields") (by simp [fa, fa0])), F⟩
  d_law := by
    obtain ⟨fd, F⟩ := c.fn d_law (by simp [fn, fn0])
    exact ⟨_, fd, glo_ok X G (c.fa (.glo "law") (by simp [fa, fa0])), F⟩
  g_HeldError := glo_ok X G (c.fa (.glo "HeldError") (by simp [fa, fa0]))
  b_len := free_ok X G (c.fa (.free "len") (by simp [fa, fa0]))
  b_int := free_ok X G (c.fa (.free "int") (by simp [fa, fa0]))
  b_list := free_ok X G (c.fa (.free "list") (by simp [fa, fa0]))
  b_range := free_ok X G (c.fa (.free "range") (by simp [fa, fa0]))
  b_isinstance := free_ok X G (c.fa (.free "isinstance") (by simp [fa, fa0]))
  b_ValueError := free_ok X G (c.fa (.free "ValueError") (by simp [fa, fa0]))
  e_BadKind := errTxt (c.er e_BadKind (by simp [er])).1 (c.er e_BadKind (by simp [er])).2 s_e_BadKind
  g_BadKind := errG X G (c.er e_BadKind (by simp [er])).1
  e_BadLine := errTxt (c.er e_BadLine (by simp [er])).1 (c.er e_BadLine (by simp [er])).2 s_e_BadLine
  g_BadLine := errG X G (c.er e_BadLine (by simp [er])).1
  e_Refused := errTxt (c.er e_Refused (by simp [er])).1 (c.er e_Refused (by simp [er])).2 s_e_Refused
  g_Refused := errG X G (c.er e_Refused (by simp [er])).1
  e_BadPromise := errTxt (c.er e_BadPromise (by simp [er])).1 (c.er e_BadPromise (by simp [er])).2 s_e_BadPromise
  g_BadPromise := errG X G (c.er e_BadPromise (by simp [er])).1
  e_BadRule := errTxt (c.er e_BadRule (by simp [er])).1 (c.er e_BadRule (by simp [er])).2 s_e_BadRule
  g_BadRule := errG X G (c.er e_BadRule (by simp [er])).1
  e_BadSize := errTxt (c.er e_BadSize (by simp [er])).1 (c.er e_BadSize (by simp [er])).2 s_e_BadSize
  g_BadSize := errG X G (c.er e_BadSize (by simp [er])).1
  e_BadCount := errTxt (c.er e_BadCount (by simp [er])).1 (c.er e_BadCount (by simp [er])).2 s_e_BadCount
  g_BadCount := errG X G (c.er e_BadCount (by simp [er])).1
  e_BadNumber := errTxt (c.er e_BadNumber (by simp [er])).1 (c.er e_BadNumber (by simp [er])).2 s_e_BadNumber
  g_BadNumber := errG X G (c.er e_BadNumber (by simp [er])).1
  e_BadPage := errTxt (c.er e_BadPage (by simp [er])).1 (c.er e_BadPage (by simp [er])).2 s_e_BadPage
  g_BadPage := errG X G (c.er e_BadPage (by simp [er])).1
  e_BadCase := errTxt (c.er e_BadCase (by simp [er])).1 (c.er e_BadCase (by simp [er])).2 s_e_BadCase
  g_BadCase := errG X G (c.er e_BadCase (by simp [er])).1
  e_BadHanded := errTxt (c.er e_BadHanded (by simp [er])).1 (c.er e_BadHanded (by simp [er])).2 s_e_BadHanded
  g_BadHanded := errG X G (c.er e_BadHanded (by simp [er])).1
  e_BadOutcomes := errTxt (c.er e_BadOutcomes (by simp [er])).1 (c.er e_BadOutcomes (by simp [er])).2 s_e_BadOutcomes
  g_BadOutcomes := errG X G (c.er e_BadOutcomes (by simp [er])).1
  e_BadKey := errTxt (c.er e_BadKey (by simp [er])).1 (c.er e_BadKey (by simp [er])).2 s_e_BadKey
  g_BadKey := errG X G (c.er e_BadKey (by simp [er])).1
  e_BadLength := errTxt (c.er e_BadLength (by simp [er])).1 (c.er e_BadLength (by simp [er])).2 s_e_BadLength
  g_BadLength := errG X G (c.er e_BadLength (by simp [er])).1
  e_BadLives := errTxt (c.er e_BadLives (by simp [er])).1 (c.er e_BadLives (by simp [er])).2 s_e_BadLives
  g_BadLives := errG X G (c.er e_BadLives (by simp [er])).1
  e_BadName := errTxt (c.er e_BadName (by simp [er])).1 (c.er e_BadName (by simp [er])).2 s_e_BadName
  g_BadName := errG X G (c.er e_BadName (by simp [er])).1
  e_NoCursor := errTxt (c.er e_NoCursor (by simp [er])).1 (c.er e_NoCursor (by simp [er])).2 s_e_NoCursor
  g_NoCursor := errG X G (c.er e_NoCursor (by simp [er])).1
  e_BadSum := errTxt (c.er e_BadSum (by simp [er])).1 (c.er e_BadSum (by simp [er])).2 s_e_BadSum
  g_BadSum := errG X G (c.er e_BadSum (by simp [er])).1
  e_OtherKinds := errTxt (c.er e_OtherKinds (by simp [er])).1 (c.er e_OtherKinds (by simp [er])).2 s_e_OtherKinds
  g_OtherKinds := errG X G (c.er e_OtherKinds (by simp [er])).1
  e_OtherRules := errTxt (c.er e_OtherRules (by simp [er])).1 (c.er e_OtherRules (by simp [er])).2 s_e_OtherRules
  g_OtherRules := errG X G (c.er e_OtherRules (by simp [er])).1
  e_OtherFactors := errTxt (c.er e_OtherFactors (by simp [er])).1 (c.er e_OtherFactors (by simp [er])).2 s_e_OtherFactors
  g_OtherFactors := errG X G (c.er e_OtherFactors (by simp [er])).1
  e_Beyond := errTxt (c.er e_Beyond (by simp [er])).1 (c.er e_Beyond (by simp [er])).2 s_e_Beyond
  g_Beyond := errG X G (c.er e_Beyond (by simp [er])).1
  e_Broken := errTxt (c.er e_Broken (by simp [er])).1 (c.er e_Broken (by simp [er])).2 s_e_Broken
  g_Broken := errG X G (c.er e_Broken (by simp [er])).1
  e_TooMany := errTxt (c.er e_TooMany (by simp [er])).1 (c.er e_TooMany (by simp [er])).2 s_e_TooMany
  g_TooMany := errG X G (c.er e_TooMany (by simp [er])).1
  kk := fun x hx => by
    have key : ∀ d ∈ er, ErrK K (He.ga K d.x) := fun d hd => errK (prog := P0) (c.er d hd).1
    have hm : x ∈ er.map (·.x) := by
      have e : er.map (·.x) = eN := rfl
      rw [e]; exact hx
    obtain ⟨d, hd, rfl⟩ := List.mem_map.mp hm
    exact key d hd
  xm := fun x hx y hy => of_decide_eq_true (List.all_eq_true.mp (List.all_eq_true.mp (HeE.all_at c.more 0) x hx) y hy)
  km := fun x hx y hy => of_decide_eq_true (List.all_eq_true.mp (List.all_eq_true.mp (HeE.all_at c.more 1) x hx) y hy)
  xh := fun x hx => of_decide_eq_true (List.all_eq_true.mp (HeE.all_at c.more 2) x hx)
  kv := fun x hx => of_decide_eq_true (List.all_eq_true.mp (HeE.all_at c.more 3) x hx)
theorem run (w : World) : HandSHeadRun.RunEq R (PySem.W.view R.prog [40]) hk ob 20000 names w := by
  intro os
  kernel_rfl
theorem facts {w : World} {h : Heap} {mg : Str → Option Value} {f : Addr} (hfa : mg ("law" : Str) = some (.ref f)) (G : h.Ns mainGlobals mg) (Y : hk.says w h) :
    ∃ K : PySem.W.Frag, K.In h ∧ LamX.LawAtS PySem.Challenge.rw_heldplaces_k00_errors_made_from_their_fi w K CX0 8 63 "_law_script" mg f h := by
  obtain ⟨K, X, c⟩ := Y
  obtain ⟨fd, F⟩ := c.fn d_law (by simp [fn, fn0])
  have e := hfa.symm.trans (glo_ok X G (c.fa (.glo "law") (by simp [fa, fa0])))
  cases e
  have b := FunD.bindsA (ps := ["_law_script"]) F fun _ _ _ _ _ _ us hl => match us, hl with | [_], _ => rfl
  have T := tx X G c
  exact ⟨K, X, fd, [], spLaw K, (fun p hp => by cases hp), (fun p hp => by cases hp), (fun p hp => by cases hp), fun s u => b s [u] rfl, fun H a ns hl _ ht hs => ⟨a, ns, rfl, hs, fun _ => rfl⟩, fun base hK hN hT => ok_law T F⟩
end K00
open PySem PySem.W PySem.Calls PyProof.Rows
theorem PySem.Challenge.cw_heldplaces_k00_errors_made_from_their_fi_holds : PySem.Challenge.rw_heldplaces_k00_errors_made_from_their_fi.Holds := by
  w_on; o_law
  refine HandSHeadRun.head_any (r := OpenLaw.row PySem.Challenge.rw_heldplaces_k00_errors_made_from_their_fi) (q := view (OpenLaw.row PySem.Challenge.rw_heldplaces_k00_errors_made_from_their_fi).prog [40]) (H := K00.hk) (ob := K00.ob) (M := 20000) (loose := K00.names) (d := HandSHeadRun.topDef (OpenLaw.row PySem.Challenge.rw_heldplaces_k00_errors_made_from_their_fi).prog 40) (kwd := []) K00.ob_eq
    (by kernel_rfl) (fun s => by kernel_rfl) K00.run (by kernel_rfl) (by kernel_rfl) (by kernel_rfl) (by rfl) (by first | assumption | decide +kernel) (by decide +kernel) ⟨rfl, rfl, rfl, rfl, rfl, by decide +kernel⟩ ?hw ?hc
  case hw => w_witness2
  case hc =>
    refine LamX.walk_ofTsE (l := PySem.Challenge.rw_heldplaces_k00_errors_made_from_their_fi) (n := 63) (k := 8) (x := "_law_script") (CX := fun _ => L2.CX0) rfl (by decide) (by kernel_rfl) ⟨rfl, by decide, by decide⟩ ?F (fun _ _ _ _ _ z => z)
    intro w mg fa h Y G hmg0
    have hmg : mg ("law" : PySem.Str) = some (.ref fa) := by
      have e : (HandSHeadRun.topDef (OpenLaw.row PySem.Challenge.rw_heldplaces_k00_errors_made_from_their_fi).prog 40).name = ("law" : PySem.Str) := by kernel_rfl
      rw [← e]
      exact hmg0
    exact K00.facts hmg G Y

