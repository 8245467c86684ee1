import PyProof.Rows.All
import Wide.All
import OpenK.AllK
import Wide.FinOn
import PyProof.EqAt
import PyProof.EqKinds
import PyProof.TupleCall
import KE.KExcSuper
import HandS.ForMost
import HandS.ForExc
import HandS.ExcInit
import HandS.TryMany
import KE.KExcIs
import KE.KIsAll
import KE.KTryMore
import HandS.NoneIn
import HandS.Style
import HandS.Flow
import HandS.StrMore
import HandS.IsInst
import HandS.Lambda
import HandS.More
import HandS.Wide
import HandS.Head0
import HandS.Head1
import HandS.Head2
import HandS.HeadEnd
import HandS.HeadHook1
import HandS.HeadHook2
import HandS.HeadHook3
import HandS.HeadHook4
import HandS.HeadWalk
import PyProof.InstNe
import KE.KStateDown
import Lean
import PySem.Challenge.RW_heldplaces_k68_book_rules
set_option Elab.async false
set_option linter.all false
set_option maxRecDepth 100000
set_option maxHeartbeats 4000000
/-! Errors of the program: class X(HeldError): def __init__(self, f, ..): super().__init__('..'); self.f = f; .. -/
namespace PySem
namespace ErrX
open PySem.W PySem.Calls PyProof.Rows PySem.HandSPX
/-! ### the text of __init__ -/
structure FldP where
  f : Str
  a : Pos
  b : Pos
  c : Pos
  d : Pos
def setSt (q : FldP) : Stmt := .Assign [.Attribute (.Name "self" q.a) q.f q.b] (.Name q.f q.c) q.d
def supSt (msg : Str) (j : Nat) (p0 p1 p2 p3 p4 p5 : Pos) : Stmt := .Expr (.Call (.Attribute (.Call (.Name "super" p0) [] [] p1) "__init__" p2) [.Constant (.str msg) j p3] [] p4) p5
def supEv (env : Env) (pl : Sem Bool) (msg : Str) (j : Nat) (p0 p1 p2 p3 p4 : Pos) : Prop := eval (.Call (.Attribute (.Call (.Name "super" p0) [] [] p1) "__init__" p2) [.Constant (.str msg) j p3] [] p4) env = (do
      let ov ← attributeBase (.Call (.Name "super" p0) [] [] p1) "__init__" env (eval (.Call (.Name "super" p0) [] [] p1) env)
      standAt p2.atName
      let (f, first) ← holding [ov] (getMethod ov "__init__" pl)
      callWith p4 f first (backTo p4 (starEach [.Constant (.str msg) j p3] env)) [])
def iScope (fs : List Str) : Scope := { kind := .function, names := (PySem.Str.ofString "self", .local) :: (fs.map fun f => (f, .local)) ++ [(PySem.Str.ofString "__class__", .free), (PySem.Str.ofString "super", .globalImplicit)], isGenerator := false, isCoroutine := false, more := [] }
/-- what the written part says of an error's class at C, its fields fs -/
structure ErrTxt (prog : Program) (K : Frag) (fs : List Str) (C : Addr) : Prop where
  cls : ∃ nm q N bs bm sn sub ab col dd k0 k1 k2 k3 k5, K.lookup C = some (excClassObj nm q C N bs bm true sn sub ab col dd k0 k1 k2 k3 k5 "ValueError.__new__") ∧ refsVE bm = true
  sa : findIn K (.ref C) "__setattr__" = some (some (.builtin "object.__setattr__"))
  ga : findIn K (.ref C) "__getattribute__" = some (some (.builtin "BaseException.__getattribute__"))
  gg : findIn K (.ref C) "__getattr__" = some none
  noN : ∀ f ∈ fs, findIn K (.ref C) f = some none
  kC : keepIn K (.ref C) = true
  exC : subIn K (.ref C) (.type "BaseException") = some true
  veC : subIn K (.ref C) (.type "ValueError") = some true
  tyC : typeIn K (.ref C) = some (.type "type")
  hdC : hasDictIn K C = true
  own : mroIn K C (.ref C) = some true
  sup : ks_superIn K C C "__init__" = some (some (.builtin "ValueError.__init__"))
  opq : nsIn K cStatics "thirdparty.any" = some none
  gsup : nsIn K mainGlobals "super" = some none
  topN : (prog.main.scope.names.lookup ("super" : Str)).isSome = false
  kinds : (fs.all fun f => (iScope fs).names.lookup f == some .local && !(f == ("self" : Str))) = true
  dbg : ∀ f ∈ fs, (f == ("__debug__" : Str)) = false
  outs : ("__class__" : Str) ∉ fs ∧ ("super" : Str) ∉ fs
  nd : fs.Nodup
  len : fs.length ≤ 900
  init : ∃ (fI cc cda : Addr) (oc : Value) (od : Option Addr) (qual : Str) (params : Arguments) (body : List Stmt) (kV doc pm : Value) (an : Option Addr) (ct : Value) (osl : Array (Option Value)) (ccl : Value) (cdd : Option Addr) (vs : Array Value) (ccs : Array (Option Value)) (file : Str) (tf : Tok) (cl : Value) (cld : Option Addr) (csl : Array (Option Value)),
    findIn K (.ref C) "__init__" = some (some (.ref fI)) ∧ typeIn K (.ref fI) = some (.type "function") ∧
    K.lookup fI = some ⟨oc, od, .func (ksFn "__init__" qual params body (iScope fs) .none kV doc pm an (.ref cda) ct cc), osl⟩ ∧ codeIn K (.ref cda) qual = true ∧
    K.lookup cda = some ⟨ccl, cdd, .fields vs, ccs⟩ ∧ vs[2]? = some (.str file tf) ∧ ((prog.main.file : Str) == file) = true ∧ K.lookup cc = some ⟨cl, cld, .cell (some (.ref C)), csl⟩ ∧
    (∃ ar, (params.posonlyargs ++ params.args).head? = some ar ∧ ar.arg = "self") ∧
    (∃ msg j p0 p1 p2 p3 p4 p5 ps, body = supSt msg j p0 p1 p2 p3 p4 p5 :: (ps : List FldP).map setSt ∧ ps.map (·.f) = fs ∧ ∀ env, ∃ pl, supEv env pl msg j p0 p1 p2 p3 p4) ∧
    (∀ (self : Value) (us : List Value), us.length = fs.length → bindArgs (ksFn "__init__" qual params body (iScope fs) .none kV doc pm an (.ref cda) ct cc) ⟨self :: us, []⟩ = pure ((("self" : Str), self) :: fs.zip us))
/-- the attributes, the last one set first -/
def mOf : List (Str × Value) → Str → Option Value
  | [], _ => none
  | (f, v) :: r, y => if y = f then some v else mOf r y
/-- an exception of the class at C: its dict, its message's tuple -/
abbrev eO (C t1 : Addr) (d : Option Addr) : Obj := { cls := .ref C, dict := d, data := .fields #[.ref t1, .none, .none, .none, .bool false, .none] }
/-- how the dict lies: none if no field is set -/
def DictOk (h h' : Heap) (e : Addr) : List (Str × Value) → Option Addr → Prop
  | [], d => d = none
  | q :: r, d => ∃ dx, d = some dx ∧ h.objs.size ≤ dx ∧ dx ≠ e ∧ h'.Ns1 dx (mOf (q :: r))
structure ErrEnd (h h' : Heap) (e C : Addr) (fvs : List (Str × Value)) : Prop where
  keep : ∀ b o, b ≠ e → h.get? b = some o → h'.get? b = some o
  obj : ∃ t1 d, h'.get? e = some (eO C t1 d) ∧ DictOk h h' e fvs d
theorem within_mOf : ∀ l : List (Str × Value), Within (mOf l) (l.map (·.1))
  | [] => fun y hy => absurd rfl hy
  | (f, v) :: r => fun y hy => by
    by_cases e : y = f
    · subst e; exact List.mem_cons_self
    · have z : mOf ((f, v) :: r) y = mOf r y := if_neg e
      rw [z] at hy
      exact List.mem_cons_of_mem _ (within_mOf r y hy)
section
variable {prog : Program} {w : World} {A : Around} {E : Value → Shared → Prop} {R : Result → Shared → Prop} {s : Shared} {K : Frag} {mg : Str → Option Value} {C : Addr} {fs : List Str}
theorem one_size (v : Value) : [v].length ≤ sizeLine := by
  rw [sizeLine_eq]
  exact (by decide : 1 ≤ 16777216)
/-- self.f = f for the fields of ps, one after the other -/
theorem sets (T : ErrTxt prog K fs C) {env : Env} {e : Addr} {m : Str → Option Value} (hk : env.scope.kind = .function) (hself : env.kindOf "self" = some .local) (h₀ : Heap) (Q : Flow → Shared → Prop) :
    ∀ (ps : List FldP) (us : List Value) (done : List (Str × Value)) (s : Shared), ps.length = us.length → (∀ p ∈ ps, p.f ∈ fs ∧ env.kindOf p.f = some .local) → (∀ q ∈ (ps.map (·.f)).zip us, m q.1 = some q.2) → done.length + ps.length ≤ 900 → m "self" = some (.ref e) → s.heap.Ns env.locals m → env.locals ≠ e →
      (∀ b o, b ≠ e → h₀.get? b = some o → s.heap.get? b = some o) → K.In h₀ → K.lookup e = none → h₀.objs.size ≤ s.heap.objs.size →
      (∃ t1 d, s.heap.get? e = some (eO C t1 d) ∧ DictOk h₀ s.heap e done d ∧ ∀ dx, d = some dx → dx ≠ env.locals) →
      (∀ s', s'.os = s.os → s'.gens = s.gens → s'.drawn = s.drawn → ErrEnd h₀ s'.heap e C (((ps.map (·.f)).zip us).reverse ++ done) → Q .next s') →
      wpAny (model prog w) A (execs (ps.map setSt) env) Q E s
  | [], us, done, s, hl, _, _, _, _, _, _, k, _, _, _, ⟨t1, d, he, hd, _⟩, hq => by
    cases us with
    | nil => exact wpAny_execs_nil (hq s rfl rfl rfl ⟨k, t1, d, he, hd⟩)
    | cons => cases hl
  | p :: ps, us, done, s, hl, hp, hm, hz, hs, hn, hL, k, KX, hKe, hsz, ⟨t1, d, he, hd, hdL⟩, hq => by
    cases us with
    | nil => cases hl
    | cons u us =>
      obtain ⟨nm, q, N, bs, bm, sn, sub, ab, col, dd, k0, k1, k2, k3, k5, hC, hbm⟩ := T.cls
      have hcl : clsIn K C = some { name := nm, bases := bs, mro := .ref C :: bm, ns := N, qualname := q, hasDict := true, slotNames := sn, subclasses := sub, abstract := ab, collection := col, hasDel := false } := by unfold clsIn; rw [hC] <;> rfl
      have X1 : K.In s.heap := fun a o z => k a o (fun y => by rw [y, hKe] at z; cases z) (KX a o z)
      obtain ⟨pf, pl⟩ := hp p List.mem_cons_self
      have hu : m p.f = some u := hm (p.f, u) (by simp)
      have next : ∀ s', s'.os = s.os → s'.gens = s.gens → s'.drawn = s.drawn → s'.heap.Ns env.locals m → (∀ b o, b ≠ e → h₀.get? b = some o → s'.heap.get? b = some o) → h₀.objs.size ≤ s'.heap.objs.size → (∃ t1 d, s'.heap.get? e = some (eO C t1 d) ∧ DictOk h₀ s'.heap e ((p.f, u) :: done) d ∧ ∀ dx, d = some dx → dx ≠ env.locals) → wpAny (model prog w) A (execs (ps.map setSt) env) Q E s' := fun s' e1 e2 e3 hn' k' hsz' hd' => by
        refine sets T hk hself h₀ Q ps us ((p.f, u) :: done) s' (by simpa using hl) (fun z hz => hp z (List.mem_cons_of_mem _ hz)) (fun z hz => hm z (by simp at hz ⊢; exact .inr hz)) (by simp at hz ⊢; omega) hs hn' hL k' KX hKe hsz' hd' fun s2 f1 f2 f3 hE => hq s2 (f1.trans e1) (f2.trans e2) (f3.trans e3) ?_
        have z : ((p :: ps).map (·.f)).zip (u :: us) = (p.f, u) :: (ps.map (·.f)).zip us := rfl
        rw [z, List.reverse_cons, List.append_assoc]
        exact hE
      show wpAny _ _ (execs (setSt p :: ps.map setSt) env) _ _ _
      have hnd : (p.f == ("__debug__" : Str)) = false := T.dbg _ pf
      refine wpAny_execs_cons (plainObj_wpAny_Assign_Attribute (wpAny_Name (wpAny_loadName_local hk pl hn hu (wpAny_Name (wpAny_loadName_local hk hself hn hs ?_) (by decide))) hnd))
      obtain ⟨hp0, g0, d0, tk0, os0⟩ := s
      cases done with
      | nil =>
        obtain rfl : d = none := hd
        refine set_plain X1 (ox := eO C t1 none) (od := none) ⟨he, rfl, rfl, trivial⟩ T.sa ?_
        refine exc_osa X1 he hcl (show refsVE (.ref C :: bm) = true from hbm) rfl (T.noN _ pf) (fun h' tk' dx kk hdn hde hobj hns => ?_)
        have nL : dx ≠ env.locals := fun z => absurd (hn.lt) (by rw [← z]; exact Nat.not_lt.mpr hdn)
        refine next ⟨h', g0, d0, tk', os0⟩ rfl rfl rfl ?_ (fun b o hb ho => kk b o hb (k b o hb ho)) ?_ ⟨t1, some dx, hobj, ⟨dx, rfl, Nat.le_trans hsz hdn, hde, ?_⟩, fun z hz => by cases hz; exact nL⟩
        · obtain ⟨oL, es, ep, hoL, r⟩ := hn
          exact ⟨oL, es, ep, kk _ _ hL hoL, r⟩
        · obtain ⟨_, _, _, zz, _⟩ := hns
          exact Nat.le_of_lt (Nat.lt_of_le_of_lt (Nat.le_trans hsz hdn) (Heap.lt_size zz))
        · exact hns
      | cons q0 r0 =>
        obtain ⟨dx, rfl, hdn, hde, hns⟩ := hd
        have nL := hdL dx rfl
        obtain ⟨oD, esD, epD, hoD, hdD⟩ := id hns
        refine set_plain X1 (ox := eO C t1 (some dx)) (od := some oD) ⟨he, rfl, rfl, hoD⟩ T.sa ?_
        refine OEX.osa_old X1 he hns (within_mOf (q0 :: r0)) (by simp at hz ⊢; omega) hcl (show refsVE (.ref C :: bm) = true from hbm) rfl (T.noN _ pf) (fun h' tk' kk hns' => ?_)
        refine next ⟨h', g0, d0, tk', os0⟩ rfl rfl rfl ?_ (fun b o hb ho => ?_) ?_ ⟨t1, some dx, kk _ _ (Ne.symm hde) he, ⟨dx, rfl, hdn, hde, hns'⟩, fun z hz => by cases hz; exact nL⟩
        · obtain ⟨oL, es, ep, hoL, r⟩ := hn
          exact ⟨oL, es, ep, kk _ _ (Ne.symm nL) hoL, r⟩
        · exact kk b o (fun z => absurd (Heap.lt_size ho) (by rw [z]; exact Nat.not_lt.mpr hdn)) (k b o hb ho)
        · have z1 := Heap.lt_size (kk _ _ (Ne.symm hde) he)
          obtain ⟨_, _, _, zz, _⟩ := hns'
          exact Nat.le_of_lt (Nat.lt_of_le_of_lt hdn (Heap.lt_size zz))

theorem lookup_zip {x : Str} {u : Value} : ∀ {fs : List Str} {us : List Value}, fs.Nodup → (x, u) ∈ fs.zip us → (fs.zip us).reverse.lookup x = some u := fun {fs us} nd h => by
  have key : ∀ (l : List (Str × Value)), (l.map (·.1)).Nodup → (x, u) ∈ l → l.lookup x = some u := by
    intro l
    induction l with
    | nil => intro _ z; cases z
    | cons p r ih =>
      intro n z
      obtain ⟨f, v⟩ := p
      have n1 := List.nodup_cons.mp n
      rcases List.mem_cons.mp z with e | e
      · cases e
        simp [List.lookup]
      · have ne : x ≠ f := fun q => n1.1 (List.mem_map.mpr ⟨_, e, q⟩)
        have ne2 : (x == f) = false := by simpa using ne
        simp only [List.lookup, ne2]
        exact ih n1.2 e
  refine key _ ?_ (List.mem_reverse.mpr h)
  rw [List.map_reverse]
  have sub : ((fs.zip us).map (·.1)).Sublist fs := by
    clear h key
    induction fs generalizing us with
    | nil => simp
    | cons f r ih =>
      cases us with
      | nil => simp
      | cons v vs => simp only [List.zip_cons_cons, List.map_cons]; exact (ih (List.nodup_cons.mp nd).2).cons_cons f
  have q := nd.sublist sub
  exact List.pairwise_reverse.mpr (q.imp fun h => Ne.symm h)
theorem call_mw {h : Heap} {g : Array GenState} {d : Drawn} {t : Nat} {os : OsState} {u e t0 N : Addr} {nm q : Str} {bs bm : List Value} {hdct : Bool} {sn : List Str} {sub : List Value} {ab : Bool} {col : Option Bool} {dd : Option Addr} {k0 k1 k2 k3 k5 : Option Value} {rest : List Value} {Q : Value → Shared → Prop}
    (he : h.get? e = some (excO C t0)) (hu : h.get? u = some (kxs_mw "ValueError.__init__" e)) (hC : h.get? C = some (excClassObj nm q C N bs bm hdct sn sub ab col dd k0 k1 k2 k3 k5 "ValueError.__new__")) (hrest : rest.length ≤ sizeLine)
    (hq : ∀ h' t1, (∀ b o, b ≠ e → h.get? b = some o → h'.get? b = some o) → h'.get? e = some (excO C t1) → Q .none ⟨h', g, d, t, os⟩) :
    wpAny (model prog w) A (call (.ref u) rest) Q E ⟨h, g, d, t, os⟩ := by
  refine wpAny_call (codeAny_of_tree ?_)
  show wpAny _ A.in1 (callAny (.ref u) ⟨rest, []⟩) _ _ _
  simp only [callAny]
  refine wpAny_bind (wpAny_load hu ?_)
  simp only [kxs_mw, show (Value.type "method-wrapper" == Value.type "method" || Value.type "method-wrapper" == Value.type "builtin_function_or_method" || Value.type "method-wrapper" == Value.type "method-wrapper") = true by decide, if_true]
  refine KFB.if_so (by decide) ?_
  refine wpAny_bind (check_bound_init F.excBase_ValueError.toExcCallFacts hC he rfl ?_)
  refine wpAny_bind (wpAny_pure (wpAny_pure ?_))
  refine ⟨plainId_quiet F.excBase_ValueError.init.plain _, codeAny_builtin F.excBase_ValueError.initEntry ?_⟩
  exact exc_init_tree (cls := .ref C) (t0 := t0) (dv := none) (c2 := .none) (c3 := .none) (b4 := .bool false) he hrest fun h' k a b => hq h' _ k a
theorem err_init (T : ErrTxt prog K fs C) {e t0 fI : Addr} {us : List Value} (hI : findIn K (.ref C) "__init__" = some (some (.ref fI))) (hl : us.length = fs.length) (X : K.In s.heap) (hg : s.heap.Ns mainGlobals mg) (hb : ∃ mb, s.heap.Ns builtinsNs mb ∧ ∀ x : Str, x ≠ "__name__" → mb x = bootBuiltins x)
    (hlim : s.heap.NoLimit) (hx : s.heap.get? e = some (excO C t0)) (hnx : K.lookup e = none) (hroom : A.depth < recursionLimit)
    (hq : ∀ s', s'.os = s.os → s'.gens = s.gens → s'.drawn = s.drawn → ErrEnd s.heap s'.heap e C (fs.zip us).reverse → R (.ok (.ret .none)) s') :
    codeAny (model prog w) A (.call (.ref fI) ⟨.ref e :: us, []⟩) R s := by
  obtain ⟨fI', cc, cda, oc, od, qual, params, body, kV, doc, pm, an, ct, osl, ccl, cdd, vs, ccs, file, tf, cl, cld, csl, i1, i2, ho, hcd, hcode, hvs, hfile, hcell, ⟨ar, har, hara⟩, ⟨msg, j, p0, p1, p2, p3, p4, p5, ps, rfl, hps, hev⟩, hbind⟩ := T.init
  rw [hI] at i1
  cases i1
  obtain ⟨nm, q, N, bs, bm, sn, sub, ab, col, dd, k0, k1, k2, k3, k5, hC, hbm⟩ := T.cls
  have hcl : clsIn K C = some { name := nm, bases := bs, mro := .ref C :: bm, ns := N, qualname := q, hasDict := true, slotNames := sn, subclasses := sub, abstract := ab, collection := col, hasDel := false } := by unfold clsIn; rw [hC] <;> rfl
  obtain ⟨mb, hmb, hmbv⟩ := hb
  have kin : ∀ f ∈ fs, (iScope fs).names.lookup f = some .local := fun f hf => by
    have z := List.all_eq_true.mp T.kinds f hf
    simp only [Bool.and_eq_true, beq_iff_eq] at z
    exact z.1
  have nself : ∀ f ∈ fs, f ≠ "self" := fun f hf => by
    have z := List.all_eq_true.mp T.kinds f hf
    simp only [Bool.and_eq_true, Bool.not_eq_true', beq_eq_false_iff_ne] at z
    exact z.2
  have hcellN : ∀ y ∈ (iScope fs).names, y.2 ≠ .cell := fun y hy => by
    rcases List.mem_append.mp (show y ∈ ((PySem.Str.ofString "self", NameKind.local) :: fs.map fun f => (f, NameKind.local)) ++ [(PySem.Str.ofString "__class__", NameKind.free), (PySem.Str.ofString "super", NameKind.globalImplicit)] from hy) with z | z
    · rcases List.mem_cons.mp z with z | z
      · rw [z]; decide
      · obtain ⟨f, _, rfl⟩ := List.mem_map.mp z
        exact fun q => nomatch (show NameKind.local = NameKind.cell from q)
    · rcases List.mem_cons.mp z with z | z
      · rw [z]; decide
      · rcases List.mem_cons.mp z with z | z
        · rw [z]; decide
        · cases z
  have look : ∀ x : Str, x ≠ "self" → x ∉ fs → (iScope fs).names.lookup x = ([(PySem.Str.ofString "__class__", NameKind.free), (PySem.Str.ofString "super", NameKind.globalImplicit)] : List (Str × NameKind)).lookup x := fun x h1 h2 => by
    show ((PySem.Str.ofString "self", NameKind.local) :: ((fs.map fun f => (f, NameKind.local)) ++ [(PySem.Str.ofString "__class__", NameKind.free), (PySem.Str.ofString "super", NameKind.globalImplicit)])).lookup x = _
    have e1 : (x == (PySem.Str.ofString "self")) = false := by simpa using h1
    rw [List.lookup_cons, e1]
    show ((fs.map fun f => (f, NameKind.local)) ++ _).lookup x = _
    have key : ∀ (l : List Str) (r : List (Str × NameKind)), x ∉ l → ((l.map fun f => (f, NameKind.local)) ++ r).lookup x = r.lookup x := by
      intro l r
      induction l with
      | nil => intro _; rfl
      | cons a l ih =>
        intro hn
        have e2 : (x == a) = false := by simpa using (fun z => hn (by rw [z]; exact List.mem_cons_self))
        show ((a, NameKind.local) :: ((l.map fun f => (f, NameKind.local)) ++ r)).lookup x = _
        rw [List.lookup_cons, e2]
        exact ih fun z => hn (List.mem_cons_of_mem _ z)
    exact key fs _ h2
  have cls_in := T.outs.1
  have sup_in := T.outs.2
  have hks : (iScope fs).names.lookup ("super" : Str) = some .globalImplicit := by rw [look _ (by decide) sup_in]; rfl
  have hkc : (iScope fs).names.lookup ("__class__" : Str) = some .free := by rw [look _ (by decide) cls_in]; rfl
  refine ks_codeAny_call_defAt (fd := ksFn "__init__" qual params (supSt msg j p0 p1 p2 p3 p4 p5 :: ps.map setSt) (iScope fs) .none kV doc pm an (.ref cda) ct cc) (body := supSt msg j p0 p1 p2 p3 p4 p5 :: ps.map setSt) (binds := (("self" : Str), .ref e) :: fs.zip us) hroom (X _ _ ho) rfl hlim (codeRec_of X hcd) rfl (BindsTo.of_eq (hbind _ _ hl)) hcellN (fun y hy => ?_) (fun h1 hns hk => ?_) rfl rfl rfl
  · rcases List.mem_cons.mp hy with z | z
    · rw [z]; rfl
    · exact kin _ (List.of_mem_zip z).1
  have X1 : K.In h1 := X.keeps hk
  have hx1 := hk _ _ hx
  have hself : (((("self" : Str), Value.ref e) :: fs.zip us).reverse).lookup ("self" : Str) = some (.ref e) := by
    rw [List.reverse_cons]
    have key : ∀ (l : List (Str × Value)), (∀ p ∈ l, p.1 ≠ "self") → (l ++ [(("self" : Str), Value.ref e)]).lookup ("self" : Str) = some (.ref e) := by
      intro l
      induction l with
      | nil => intro _; rfl
      | cons p r ih =>
        intro hp
        have e1 : ((PySem.Str.ofString "self") == p.1) = false := by simpa using Ne.symm (hp p List.mem_cons_self)
        show (p :: (r ++ _)).lookup _ = _
        obtain ⟨p1, p2⟩ := p
        rw [List.lookup_cons, e1]
        exact ih fun z hz => hp z (List.mem_cons_of_mem _ hz)
    exact key _ fun p hp => nself _ (List.of_mem_zip (List.mem_reverse.mp hp)).1
  obtain ⟨pl, hev⟩ := hev (callEnv (ksFn "__init__" qual params (supSt msg j p0 p1 p2 p3 p4 p5 :: ps.map setSt) (iScope fs) .none kV doc pm an (.ref cda) ct cc) s.heap.objs.size fI)
  refine ks_wpAt_execs_cons (ks_wpAt_Expr_any (ks_wpAt_MethodCall (pl := pl) ?_ hev))
  refine ks_wpAt_super_base (env := callEnv (ksFn "__init__" qual params (supSt msg j p0 p1 p2 p3 p4 p5 :: ps.map setSt) (iScope fs) .none kV doc pm an (.ref cda) ct cc) s.heap.objs.size fI) hks hkc (by decide) rfl (X1 _ _ ho) rfl har rfl (X1 _ _ hcode) rfl hvs hfile T.topN ?_
  refine ks_loadName_global rfl hks (loadGlobal_builtin (hg.keeps hk) (mg_none_of X hg T.gsup) (hmb.keeps hk) ((hmbv _ (by decide +kernel)).trans (by first | boot_by_name | rfl | kernel_rfl)) ⟨rfl, ?_⟩)
  refine wpAny_loadName_free rfl hkc rfl ⟨_, X1 _ _ hcell, rfl⟩ ?_
  rw [hara]
  refine wpAny_loadName_local (v := .ref e) rfl rfl hns hself ?_
  refine ks_wpAny_isType_cls (X1 _ _ hC) rfl ⟨rfl, ?_⟩
  refine ks_wpAny_call_super (X1 _ _ hC) rfl hx1 rfl (fun c z => by cases z) (looks_mroIn X1 T.own) (fun h2 hso k2 => ?_)
  have X2 : K.In h2 := X1.keeps k2
  have hx2 := k2 _ _ hx1
  have J2 : InstAt h2 e (excO C t0) C none := ⟨hx2, rfl, rfl, trivial⟩
  have hsup := T.sup
  unfold ks_superIn at hsup
  rw [hcl] at hsup
  refine kxs_getMethod kxs_ValueError hso (looks_opaque X2 T.opq) (l₀ := .ref C :: bm) ((looks_clsIn X2 hcl).andThen .now) rfl X2 hsup (J2.type.andThen (looks_subIn X2 T.veC)) (ks_ne X2 J2 hcl) (by decide) ?_
  refine kxs_callWith (i := "ValueError.__init__") (x := e) rfl ?_
  refine evalArgs_plain (spliced_cons (Constant_str (k := j) (pos := p3) (spliced_nil ⟨?_, ?_⟩)))
  · show (h2.push (kxs_mw "ValueError.__init__" e)).get? h2.objs.size = some _
    exact Heap.get?_push_size h2 rfl
  · have hx3 : (h2.push (kxs_mw "ValueError.__init__" e)).get? e = some (excO C t0) := Heap.get?_push_of_some _ hx2
    refine call_mw hx3 (Heap.get?_push_size h2 rfl) (Heap.get?_push_of_some _ (X2 _ _ hC)) (one_size _) (fun h4 t1 k4 hx4 => ?_)
    show wpAt _ _ _ (execs (ps.map setSt) _) _ _ _
    refine wpAt_of_wpAny ?_
    have keep4 : ∀ b o, b ≠ e → s.heap.get? b = some o → h4.get? b = some o := fun b o hb ho => k4 b o hb (Heap.get?_push_of_some _ (k2 b o (hk b o ho)))
    have ltL := hns.lt
    have hLe : s.heap.objs.size ≠ e := Nat.ne_of_gt (Heap.lt_size hx)
    have hn4 : h4.Ns s.heap.objs.size fun x => List.lookup x ((("self" : Str), Value.ref e) :: fs.zip us).reverse := by
      obtain ⟨oL, es, ep, hoL, r⟩ := hns
      exact ⟨oL, es, ep, k4 _ _ hLe (Heap.get?_push_of_some _ (k2 _ _ hoL)), r⟩
    refine sets (us := us) (done := []) T rfl rfl s.heap _ ps _ (by rw [← hps, List.length_map] at hl; exact hl.symm) (fun p hp => ?_) (fun z hz => ?_) ?_ hself hn4 hLe keep4 X hnx (Nat.le_of_lt hn4.lt) ⟨t1, none, hx4, rfl, fun dx z => nomatch z⟩ (fun s' e1 e2 e3 hE => ?_)
    · have pin : p.f ∈ fs := by rw [← hps]; exact List.mem_map_of_mem hp
      exact ⟨pin, kin _ pin⟩
    · rw [hps] at hz
      show List.lookup z.1 ((("self" : Str), Value.ref e) :: fs.zip us).reverse = some z.2
      rw [List.reverse_cons]
      have q1 := lookup_zip T.nd hz
      have app : ∀ (l r : List (Str × Value)) (v : Value), l.lookup z.1 = some v → (l ++ r).lookup z.1 = some v := by
        intro l r v
        induction l with
        | nil => intro q; cases q
        | cons a l ih =>
          obtain ⟨a1, a2⟩ := a
          intro q
          show ((a1, a2) :: (l ++ r)).lookup z.1 = some v
          rw [List.lookup_cons] at q ⊢
          cases qq : (z.1 == a1) with
          | true => rw [qq] at q; exact q
          | false => rw [qq] at q; exact ih q
      exact app _ _ _ q1
    · have z := T.len
      rw [← hps, List.length_map] at z
      simpa using z
    · rw [hps, List.append_nil] at hE
      exact hq s' e1 e2 e3 hE

/-- a made error -/
structure Made (h h' : Heap) (e C : Addr) (fvs : List (Str × Value)) : Prop where
  keep : ∀ b o, h.get? b = some o → h'.get? b = some o
  new : h.objs.size ≤ e
  obj : ∃ t1 d, h'.get? e = some (eO C t1 d) ∧ DictOk h h' e fvs d
theorem err_made (T : ErrTxt prog K fs C) {us : List Value} (hl : us.length = fs.length) (X : K.In s.heap) (hg : s.heap.Ns mainGlobals mg) (hb : ∃ mb, s.heap.Ns builtinsNs mb ∧ ∀ x : Str, x ≠ "__name__" → mb x = bootBuiltins x)
    (hlim : s.heap.NoLimit) (hroom : A.depth + 1 < recursionLimit) (hq : ∀ s' e, s'.os = s.os → s'.gens = s.gens → s'.drawn = s.drawn → Made s.heap s'.heap e C (fs.zip us).reverse → R (.ok (.ret (.ref e))) s') :
    codeAny (model prog w) A (.call (.ref C) ⟨us, []⟩) R s := by
  obtain ⟨nm, q, N, bs, bm, sn, sub, ab, col, dd, k0, k1, k2, k3, k5, hC, hbm⟩ := T.cls
  obtain ⟨fI, cc, cda, oc, od, qual, params, body, kV, doc, pm, an, ct, osl, ccl, cdd, vs, ccs, file, tf, cl, cld, csl, i1, i2, _⟩ := T.init
  obtain ⟨hp, g, dr, tk, os⟩ := s
  have k : ∀ b o, hp.get? b = some o → ((hp.push (kdv_tup us)).push (excO C hp.objs.size)).get? b = some o := fun b o e => Heap.get?_push_of_some _ (Heap.get?_push_of_some _ e)
  have hget : ((hp.push (kdv_tup us)).push (excO C hp.objs.size)).get? (hp.objs.size + 1) = some (excO C hp.objs.size) := by heap_get
  have hnx : K.lookup (hp.objs.size + 1) = none := by
    cases e : K.lookup (hp.objs.size + 1) with
    | none => rfl
    | some o =>
      have z : hp.get? (hp.objs.size + 1) = some o := X _ _ e
      exact absurd (Nat.lt_of_succ_lt (Heap.lt_size z)) (Nat.lt_irrefl _)
  have usz : us.length ≤ sizeLine := by have := T.len; rw [hl, sizeLine_eq]; omega
  refine call_own F.excBase_ValueError (fun X => refsVE_contains X bm hbm) (X _ _ hC) (looks_findIn X i1) (fun self => bind_fn X self i2) usz ?_
  refine err_init (s := ⟨(hp.push (kdv_tup us)).push (excO C hp.objs.size), g, dr, tk, os⟩) T i1 hl (X.keeps k) (hg.keeps k) (by obtain ⟨mb, h1, h2⟩ := hb; exact ⟨mb, h1.keeps k, h2⟩) (hlim.keeps k) hget hnx ?_ fun s' e1 e2 e3 hE => ?_
  · show A.depth + 1 < recursionLimit
    exact hroom
  · obtain ⟨k', t1, d, hobj, hd⟩ := hE
    have old : ∀ b o, hp.get? b = some o → s'.heap.get? b = some o := fun b o e => k' b o (Nat.ne_of_lt (Nat.lt_succ_of_lt (Heap.lt_size e))) (k b o e)
    refine ⟨rfl, hq s' (hp.objs.size + 1) e1 e2 e3 ⟨old, Nat.le_succ _, t1, d, hobj, ?_⟩⟩
    cases z : (fs.zip us).reverse with
    | nil => rw [z] at hd; exact hd
    | cons a r =>
      rw [z] at hd
      obtain ⟨dx, rfl, h1, h2, h3⟩ := hd
      refine ⟨dx, rfl, Nat.le_trans ?_ h1, h2, h3⟩
      show hp.objs.size ≤ ((hp.push (kdv_tup us)).push (excO C hp.objs.size)).objs.size
      rw [Heap.size_push, Heap.size_push]
      omega
end
end ErrX
end PySem

namespace L2
open PySem PySem.Spec PyProof.Rows
theorem relO_mOf {vs : List V} {us : List Value} (r : Vals vs us) : ∀ (fs : List Str) (g : Str), RelO (((fs.zip vs).reverse).lookup g) (ErrX.mOf (fs.zip us).reverse g) := by
  have key : ∀ (l : List (Str × V)) (m : List (Str × Value)), Paired (fun (p : Str × V) (q : Str × Value) => p.1 = q.1 ∧ RelV p.2 q.2) l m → ∀ g, RelO (l.lookup g) (ErrX.mOf m g) := by
    intro l m h
    induction h with
    | nil => intro g; trivial
    | cons a _ ih =>
      rename_i p q l m _
      obtain ⟨p1, p2⟩ := p
      obtain ⟨q1, q2⟩ := q
      obtain ⟨e, rv⟩ := a
      dsimp only at e rv
      subst e
      intro g
      rw [lookup_put]
      show RelO _ (if g = p1 then some q2 else ErrX.mOf m g)
      by_cases h : g = p1
      · rw [if_pos h, if_pos h]; exact rv
      · rw [if_neg h, if_neg h]; exact ih g
  intro fs g
  refine key _ _ ?_ g
  have zp : ∀ (fs : List Str) {vs : List V} {us : List Value}, Vals vs us → Paired (fun (p : Str × V) (q : Str × Value) => p.1 = q.1 ∧ RelV p.2 q.2) (fs.zip vs) (fs.zip us) := by
    intro fs
    induction fs with
    | nil => intro vs us _; exact .nil
    | cons f r ih =>
      intro vs us rr
      cases rr with
      | nil => exact .nil
      | cons a b => exact .cons ⟨rfl, a⟩ (ih b)
  have app : ∀ {l1 l2 : List (Str × V)} {m1 m2 : List (Str × Value)}, Paired (fun (p : Str × V) (q : Str × Value) => p.1 = q.1 ∧ RelV p.2 q.2) l1 m1 → Paired (fun (p : Str × V) (q : Str × Value) => p.1 = q.1 ∧ RelV p.2 q.2) l2 m2 → Paired (fun (p : Str × V) (q : Str × Value) => p.1 = q.1 ∧ RelV p.2 q.2) (l1 ++ l2) (m1 ++ m2) := by
    intro l1 l2 m1 m2 h1 h2
    induction h1 with
    | nil => exact h2
    | cons a _ ih => exact .cons a ih
  have rev : ∀ {l : List (Str × V)} {m : List (Str × Value)}, Paired (fun (p : Str × V) (q : Str × Value) => p.1 = q.1 ∧ RelV p.2 q.2) l m → Paired (fun (p : Str × V) (q : Str × Value) => p.1 = q.1 ∧ RelV p.2 q.2) l.reverse m.reverse := by
    intro l m h
    induction h with
    | nil => exact .nil
    | cons a _ ih => rw [List.reverse_cons, List.reverse_cons]; exact app ih (.cons a .nil)
  exact rev (zp fs r)
section
variable {X : Cx} {C : Addr} {fs : List Str} {x : Str}
/-- X(e, ..): an error with its fields (its dict d; none where it has none) -/
def tMkErr (C : Addr) (fs : List Str) (ta : TA) : St → Hp → XK → Prop := fun σ H Q => ta σ H fun vs H1 => vs.length = fs.length ∧
  (fs = [] → Q (.ref C) none H1) ∧ (fs ≠ [] → ∀ d, H1 d = none → Q (.ref C) (some d) (upd H1 d (.xd (fs.zip vs).reverse)))
theorem mk_err {pins : List (Addr × Obj)} {s1 : Shared} {σ : St} {H1 : Hp} {Q : XK} {us : List Value} {vs : List V} {k : Nat} (T : ErrX.ErrTxt X.prog X.K fs C) (hr : Room k X.A) (I1 : Inv X pins σ H1 s1) (r1 : Vals vs us) (hl : vs.length = fs.length)
    (q0 : fs = [] → Q (.ref C) none H1) (q1 : fs ≠ [] → ∀ d, H1 d = none → Q (.ref C) (some d) (upd H1 d (.xd (fs.zip vs).reverse))) : wpAny (model X.prog X.w) X.A (call (.ref C) us) (MkP X pins σ Q) X.xe s1 := by
  have hlim := I1.nolimit
  have hul : us.length = fs.length := by rw [← r1.length]; exact hl
  obtain ⟨hp, g, dr, tk, os⟩ := s1
  refine wpAny_call (ErrX.err_made T hul I1.kIn (I1.ok.mod.glob.keeps I1.bk) (by obtain ⟨mb, h1, h2⟩ := I1.ok.mod.blt; exact ⟨mb, h1.keeps I1.bk, h2⟩) hlim (by have := hr.dp; omega) fun s' e e1 e2 e3 M => ?_)
  obtain ⟨h', g', dr', tk', os'⟩ := s'
  obtain rfl : os' = os := e1
  obtain rfl : g' = g := e2
  obtain rfl : dr' = dr := e3
  show MkP X pins σ Q (.ref e) ⟨h', g', dr', tk', os'⟩
  obtain ⟨t1, d, hoe, hd⟩ := M.obj
  obtain ⟨G', g1, g2⟩ := restrict h' fun b => decide (b ≠ e)
  have gk : ∀ b, b ≠ e → G'.get? b = h'.get? b := fun b hb => g1 b (decide_eq_true hb)
  have ge : G'.get? e = none := g2 e (by simp)
  have old : ∀ b o, hp.get? b = some o → G'.get? b = some o := fun b o q => (gk b (Nat.ne_of_lt (Nat.lt_of_lt_of_le (Heap.lt_size q) M.new))).trans (M.keep b o q)
  have back : ∀ b o, G'.get? b = some o → h'.get? b = some o := fun b o q => by
    by_cases hb : b = e
    · rw [hb, ge] at q; cases q
    · exact (gk b hb).symm.trans q
  cases z : (fs.zip us).reverse with
  | nil =>
    rw [z] at hd
    obtain rfl : d = none := hd
    have fe : fs = [] := by
      cases fs with
      | nil => rfl
      | cons a r =>
        cases us with
        | nil => simp at hul
        | cons u us => simp at z
    have J : Inv X pins σ H1 ⟨G', g', dr', tk', os'⟩ := I1.kept (t' := tk') old
    exact ⟨e, _, _, ⟨G', g', dr', tk', os'⟩, _, .ref C, none, rfl, J, back, ge, hoe, ⟨rfl, rfl⟩, rfl, rfl, I1.hok.fresh M.new, rfl, I1.bare, raises_own T.exC T.tyC, q0 fe⟩
  | cons a r =>
    rw [z] at hd
    obtain ⟨dx, rfl, dbig, dne, hns⟩ := hd
    have fe : fs ≠ [] := fun q => by subst q; simp at z
    have ob : ObjOk X.prog X.w (upd H1 dx (.xd (fs.zip vs).reverse)) G' dx (.xd (fs.zip vs).reverse) :=
      ⟨_, hns.at (fun o q => (gk dx dne).trans q), fun f => by rw [← z]; exact relO_mOf r1 fs f⟩
    have J : Inv X pins σ (upd H1 dx (.xd (fs.zip vs).reverse)) ⟨G', g', dr', tk', os'⟩ := I1.laid (t' := tk') old dbig ob
    refine ⟨e, _, _, ⟨G', g', dr', tk', os'⟩, _, .ref C, some dx, rfl, J, back, ge, hoe, ⟨rfl, rfl⟩, rfl, rfl, ?_, rfl, I1.bare, raises_own T.exC T.tyC, q1 fe dx (I1.hok.fresh dbig)⟩
    rw [upd_ne (Ne.symm dne)]
    exact I1.hok.fresh M.new
theorem pmk_err {a : Expr} {as : List Expr} {ta : TA} {p pos : Pos} {k : Nat} (T : ErrX.ErrTxt X.prog X.K fs C) (hm : X.mg x = some (.ref C)) (hr : Room k X.A) (ha : PA X (a :: as) ta) (hg : Gl X x := by rfl) (hdb : (x == ("__debug__" : Str)) = false := by decide)
    (he : starEach (a :: as) X.env = (false, eval a X.env) :: starEach as X.env := by rfl) (hpl : (backTo pos (starEach as X.env)).any (·.1) = false := by rfl) :
    PMk X (.Call (.Name x p) (a :: as) [] pos) (tMkErr C fs ta) := by
  intro pins s σ H Q I h
  refine wpAny_Call_Name_kw (ld_glob I hg hm ?_ hdb)
  refine PySem.W.callWith_K (h₀ := X.base) I.ok.mod.kin T.kC (thn (ha.run pos pins s σ H _ I h) fun us s1 hh => ?_) he hpl
  obtain ⟨vs, H1, I1, r1, hl, q0, q1⟩ := hh
  exact ⟨I1.kIn, mk_err T hr I1 r1 hl q0 q1⟩
end
end L2


set_option Elab.async false
set_option linter.all false
set_option maxRecDepth 100000
set_option maxHeartbeats 4000000
/-! try with several except clauses, with and without a name; an error's fields and isinstance in a suite -/
namespace L2
open PySem PySem.Spec PyProof.Rows
/-- an except clause: its class, the slot of its name (if any), its suite -/
structure Cl where
  c : Value
  slot : Option Nat
  ts : Addr → Value → Option Addr → TS
/-- where a suite ends: its name goes -/
def dropAt (o : Option Nat) (D : Ends) : Ends := match o with
  | none => D
  | some i => { nx := fun z => D.nx (z.set i none), rt := D.rt, bk := fun z => D.bk (z.set i none), ct := fun z => D.ct (z.set i none) }
def putAt (o : Option Nat) (a : Addr) (z : St) : St := match o with
  | none => z
  | some i => z.set i (some (.ref a))
def wCl (K : PySem.W.Frag) (Wout : WX) (D : Ends) : List Cl → WX
  | [] => Wout
  | k :: r => fun cls d z H => ∃ b, PySem.W.exmOne K cls k.c = some b ∧ (b = true → ∀ a, H a = none → k.ts a cls d (dropAt k.slot D) (putAt k.slot a z) H) ∧ (b = false → wCl K Wout D r cls d z H)
inductive ClsOk (X : Cx) : List ExceptHandler → List Cl → Prop
  | nil : ClsOk X [] []
  | bare {x : Str} {k : Cl} {b0 : Stmt} {su : List Stmt} {np p : Pos} {hds : List ExceptHandler} {l : List Cl} (hc : Names X x k.c) (hk : k.slot = none)
      (hsu : ∀ (a : Addr) (oe : Obj) (cls : Value) (d : Option Addr) (pn : List (Addr × Obj)), Zc cls d oe → (∃ vs, oe.data = .fields vs) → PSs (X.suite a ((a, oe) :: pn)) (b0 :: su) (k.ts a cls d)) (r : ClsOk X hds l) :
      ClsOk X (.ExceptHandler (some (.Name x np)) none (b0 :: su) p :: hds) (k :: l)
  | named {x n : Str} {i : Nat} {k : Cl} {b0 : Stmt} {su : List Stmt} {np p : Pos} {hds : List ExceptHandler} {l : List Cl} (hc : Names X x k.c) (hk : k.slot = some i) (hi : X.N[i]? = some n) (hln : X.env.kindOf n = some .local)
      (hsu : ∀ (a : Addr) (oe : Obj) (cls : Value) (d : Option Addr) (pn : List (Addr × Obj)), Zc cls d oe → (∃ vs, oe.data = .fields vs) → PSs (X.suite a ((a, oe) :: pn)) (b0 :: su) (k.ts a cls d)) (r : ClsOk X hds l) :
      ClsOk X (.ExceptHandler (some (.Name x np)) (some n) (b0 :: su) p :: hds) (k :: l)
section
variable {X : Cx}
/-- the clauses, looked at one after the other, with the exception at a in the air -/
theorem clauses_go {B : Heap} {a : Addr} {pins : List (Addr × Obj)} {D : Ends} {sI s' : Shared} {h3 : Heap} {z : St} {H : Hp} {cls : Value} {d : Option Addr} {Wout : WX} (hs : X.stack = X.env :: X.outer) (hf : X.env.frame = some X.env.locals) (hN : X.N.Nodup) (tk : Takes X Wout) (ok : X.Ok)
    (J : Inv X pins z H sI) (nb : ∀ b o, sI.heap.get? b = some o → b ∉ frs X.stack → B.get? b = some o) (up : sI.heap.UpToSlots h3) (fl : HandSPX.FlyingZ B (X.env :: X.outer) a (Zc cls d) h3) (na : H a = none) (os : s'.os = sI.os) (ag : AllBare s'.gens) :
    ∀ {hds : List ExceptHandler} {l : List Cl}, ClsOk X hds l → wCl X.K Wout D l cls d z H → wpAny (model X.prog X.w) X.A (handleBy (.ref a) X.env hds) (SP X pins D) X.xe { s' with heap := h3 } := by
  have J3 : Inv X pins z H { s' with heap := h3 } := J.landed (s' := { s' with heap := h3 }) nb fl.1 up os ag
  obtain ⟨oe, vs, he, hz, hd⟩ := fl.there
  have nfr : a ∉ frs (X.env :: X.outer) := fun hm => by
    obtain ⟨_, o', e', hnf⟩ := fl.2.2.1.mem hm
    rw [he] at e'
    cases e'
    exact hnf _ hd
  have nL : a ≠ X.env.locals := fun q => nfr (List.mem_filterMap.mpr ⟨X.env, List.mem_cons_self, by rw [hf, q]⟩)
  have nF : a ∉ X.fs := fun hm => by
    obtain ⟨e, h1, q⟩ := List.mem_filterMap.mp hm
    exact nfr (List.mem_filterMap.mpr ⟨e, List.mem_cons_of_mem _ h1, q⟩)
  have S3 := J3.suite he hd na nL nF
  have LT : PySem.W.Looks (model X.prog X.w) h3 (typeOf (.ref a)) cls := fun A Q E s k q => wpAny_typeOf_ref (k _ _ he) (by rw [hz.1]; exact q)
  have test : ∀ {x : Str} {c : Value} {np : Pos}, Names X x c → ∀ {Q : Value → Shared → Prop} {E : Value → Shared → Prop}, Q c { s' with heap := h3 } → wpAny (model X.prog X.w) (X.A.mark (some (.ref a))) (eval (.Name x np) X.env) Q E { s' with heap := h3 } := by
    intro x c np hc Q E q
    obtain ⟨hg, hdb, hm | ⟨hm, hv, hn⟩⟩ := hc
    · exact ld_glob (X := X.suite a ((a, oe) :: (X.pn ++ pins))) S3 hg hm q hdb
    · exact ld_blt (X := X.suite a ((a, oe) :: (X.pn ++ pins))) S3 hg hm hv q hn hdb
  intro hds l hk
  induction hk with
  | nil =>
    intro w
    refine wpAny_handleBy_nil ?_
    obtain ⟨k1, k2, k3, oe', vs', T, oT, ts', he', hz', hd', h1, hr⟩ := id fl
    unfold PySem.passOn
    refine wpAny_bind (wpAny_field he' hd' h1 ?_)
    rw [if_neg (show ¬ ((Value.ref T == Value.none) = true) from by simp)]
    have out : wpAny (model X.prog X.w) X.A (setFlight (.ref a) X.env.frame) (fun _ s4 => wpAny (model X.prog X.w) X.A (throw (.ref a) : Sem Flow) (SP X pins D) X.xe s4) X.xe { s' with heap := h3 } := by
      rw [hf]
      exact HandSPX.setFlight_upZ fl fun h4 hh4 up4 => wpAny_throw (tk _ _ ⟨a, B, sI, pins, z, H, cls, d, rfl, J, nb, up.trans up4, .inr (.inr (by rw [hs]; exact hh4)), na, os, ag, w⟩)
    first
      | exact wpAny_bind (wpAny_pure (wpAny_bind out))
      | exact wpAny_bind out
  | @bare x k b0 su np p hds2 l2 hc hk hsu r ih =>
    intro w
    obtain ⟨b, hb1, hyes, hno⟩ := w
    refine wpAny_handleBy_cons (codeAny_handlers_test ?_) (by intro q; cases q)
    refine test hc ((PySem.W.exm_one (M := model X.prog X.w) J3.kIn LT hb1).here ?_)
    cases b with
    | false => exact ih (hno rfl)
    | true =>
      refine codeAny_handlers_suite (HandSPX.lands_againZ fl fun h4 fl4 up4 => ?_)
      have J4 : Inv X pins z H { s' with heap := h4 } := J.landed (s' := { s' with heap := h4 }) nb fl4.1 (up.trans up4) os ag
      obtain ⟨oe4, vs4, he4, hz4, hd4⟩ := fl4.there
      have go := hyes rfl a na
      rw [hk] at go
      refine wpAny_mono ((hsu a oe4 cls d (X.pn ++ pins) hz4 ⟨_, hd4⟩).run [] _ _ H _ (J4.suite he4 hd4 na nL nF) go) (fun f s6 hsp => ?_) (fun _ _ q => False.elim q)
      cases f with
      | ret u =>
        obtain ⟨v6, z6, H6, S6, r6, q6⟩ := hsp
        exact ⟨_, _, _, S6.unsuite ok, r6, q6⟩
      | next | brk | cont =>
        obtain ⟨z6, H6, S6, q6⟩ := hsp
        exact ⟨_, _, S6.unsuite ok, q6⟩
  | @named x n i k b0 su np p hds2 l2 hc hk hi hln hsu r ih =>
    intro w
    obtain ⟨b, hb1, hyes, hno⟩ := w
    refine wpAny_handleBy_cons (codeAny_handlers_test ?_) (by intro q; cases q)
    refine test hc ((PySem.W.exm_one (M := model X.prog X.w) J3.kIn LT hb1).here ?_)
    cases b with
    | false => exact ih (hno rfl)
    | true =>
      refine codeAny_handlers_suite_as (HandSPX.lands_againZ fl fun h4 fl4 up4 => ?_)
      have J4 : Inv X pins z H { s' with heap := h4 } := J.landed (s' := { s' with heap := h4 }) nb fl4.1 (up.trans up4) os ag
      obtain ⟨oe4, vs4, he4, hz4, hd4⟩ := fl4.there
      have go := hyes rfl a na
      rw [hk] at go
      refine store_ok (X := X.suite a ((a, oe4) :: (X.pn ++ pins))) (v := .ref a) (J4.suite he4 hd4 na nL nF) hN hi (.inl hln) rfl (fun s5 S5 => ?_) (.inr hln)
      refine wpAny_mono ((hsu a oe4 cls d (X.pn ++ pins) hz4 ⟨_, hd4⟩).run [] s5 _ H _ S5 go) (fun f s6 hsp => ?_) (fun _ _ q => False.elim q)
      have gone : ∀ {z6 : St} {H6 : Hp} {Q : Shared → Prop}, Inv (X.suite a ((a, oe4) :: (X.pn ++ pins))) [] z6 H6 s6 → (∀ s7, Inv X pins (z6.set i none) H6 s7 → Q s7) →
          wpAny (model X.prog X.w) X.A (do bindName X.env n .none; unbindBehindTheSuite X.env n p) (fun _ s7 => Q s7) X.xe s6 := fun S6 hq => gone_ok (S6.unsuite ok) hN hi hln hq
      cases f with
      | ret u =>
        obtain ⟨v6, z6, H6, S6, r6, q6⟩ := hsp
        exact gone S6 fun s7 J7 => ⟨_, _, _, J7, r6, q6⟩
      | next | brk | cont =>
        obtain ⟨z6, H6, S6, q6⟩ := hsp
        exact gone S6 fun s7 J7 => ⟨_, _, J7, q6⟩
/-- try: body / except .. (as ..): .. -/
theorem ps_try_cls {body : List Stmt} {h0 : ExceptHandler} {hds : List ExceptHandler} {l : List Cl} {pos : Pos} {tb : WX → TS} {Wout : WX} (hs : X.stack = X.env :: X.outer) (hf : X.env.frame = some X.env.locals) (hN : X.N.Nodup) (tk : Takes X Wout)
    (hb : ∀ (W : WX) (pn : List (Addr × Obj)) (xe : Value → Shared → Prop), Takes (X.tr pn xe) W → PassesOwn (model X.prog X.w) X.A X.env xe → PSs (X.tr pn xe) body (tb W))
    (hh : ClsOk X (h0 :: hds) l) : PS X (.Try body (h0 :: hds) [] [] pos) (fun D z H => tb (wCl X.K Wout D l) D z H) := by
  refine ⟨fun pins s z H D I h => ?_⟩
  have ok := I.ok
  have hfr : X.A.frames = some (X.env :: X.outer) := by rw [ok.frames, hs]
  refine wpAny_Try_except (wpAny_mono ((hb (wCl X.K Wout D l) (X.pn ++ pins) (fun e s1 => wpAny (model X.prog X.w) X.A (noteFrame e X.env) (fun _ s2 => wpAny (model X.prog X.w) X.A (setFlight e none) (fun _ s3 =>
    wpAny (model X.prog X.w) X.A (handleBy e X.env (h0 :: hds)) (SP X pins D) X.xe s3) X.xe s2) X.xe s1) (fun u s' xx => ?_) PassesOwn.looking).run [] s z H D (I.toTry _) h) (fun f s1 hsp => ?_) (fun e s1 he => he))
  · obtain ⟨a, B, sI, pins', z', H', cls, d, rfl, J', nb, up, sky, na, os, ag, w⟩ := xx
    show wpAny (model X.prog X.w) X.A (noteFrame (.ref a) X.env) _ _ _
    exact Sky.land Zc.steady hfr hf (by rw [← hs]; exact sky) fun h3 fl3 up3 => clauses_go hs hf hN tk ok (J'.ofTry ok) nb (up.trans up3) fl3 na os ag hh w
  · cases f with
    | next =>
      obtain ⟨z', H', J', q⟩ := hsp
      exact wpAny_execs_nil ⟨z', H', J'.ofTry ok, q⟩
    | brk | cont =>
      obtain ⟨z', H', J', q⟩ := hsp
      exact ⟨z', H', J'.ofTry ok, q⟩
    | ret u =>
      obtain ⟨v, z', H', J', r, q⟩ := hsp
      exact ⟨v, z', H', J'.ofTry ok, r, q⟩

/-- e.f, e the error that the suite holds at a (class cls, dict d) -/
def tErrFld (C a : Addr) (cls : Value) (d : Option Addr) (f : Str) (te : TE) : TE := fun z H Q => te z H fun x H1 => x = .ref a ∧ cls = .ref C ∧ ∃ (dd : Addr) (fvs : List (Str × V)) (v : V), d = some dd ∧ H1 dd = some (.xd fvs) ∧ fvs.lookup f = some v ∧ Q v H1
theorem pe_errFld {fs : List Str} {C a : Addr} {oe : Obj} {cls : Value} {d : Option Addr} {pn : List (Addr × Obj)} {e : Expr} {te : TE} {f : Str} {pos : Pos} (T : ErrX.ErrTxt X.prog X.K fs C) (hm : f ∈ fs) (hz : Zc cls d oe) (hf : ∃ vs, oe.data = .fields vs) (he : PE (X.suite a ((a, oe) :: pn)) e te)
    (hb : attributeBase e f X.env (eval e X.env) = eval e X.env := by rfl) : PE (X.suite a ((a, oe) :: pn)) (.Attribute e f pos) (tErrFld C a cls d f te) := by
  refine ⟨fun pins s z H Q I h => attr_of hb (thn (he.run pins s z H _ I h) fun u s1 hh => ?_)⟩
  obtain ⟨x, H1, I1, rx, ex, ec, dd, fvs, v, ed, ea, el, q⟩ := hh
  subst ex ec ed
  obtain rfl : u = Value.ref a := rx
  obtain ⟨ha, _⟩ := I1.pin (a, oe) (List.mem_append_left _ List.mem_cons_self)
  obtain ⟨vs, hd⟩ := hf
  have hx : ObjOk X.prog X.w H1 s1.heap dd (.xd fvs) := I1.hok dd _ ea
  obtain ⟨mA, hns, hr⟩ := hx
  obtain ⟨od, ho, hl⟩ := lookIn_ns hns
  obtain ⟨u, hu, ru⟩ := RelO.some_of (v := v) (o := mA f) (by rw [← el]; exact hr f)
  have J : PySem.W.InstAt s1.heap a oe C (some od) := ⟨ha, hz.1, by unfold PySem.W.notCls; rw [hd] <;> rfl, by rw [hz.2]; exact ho⟩
  exact HandSPX.exc_get I1.kIn J T.ga T.gg T.exC (PySem.W.findObj_own T.hdC (T.noN _ hm) rfl (by rw [hl, hu])) (handed_of ru) ⟨v, H1, I1.tok _, ru, q⟩
/-- what the class at D must say, so that isinstance asks its instances rightly -/
structure ErrK (K : PySem.W.Frag) (D : Addr) : Prop where
  hcl : (PySem.W.clsIn K D).isSome = true
  hga : PySem.W.findIn K (.ref D) "__getattribute__" = some (some (.builtin "BaseException.__getattribute__"))
  hgt : PySem.W.findIn K (.ref D) "__getattr__" = some none
  hsub : PySem.W.subIn K (.ref D) (.type "BaseException") = some true
  ha : PySem.W.findIn K (.ref D) "__class__" = some (some (.builtin "object.__class__"))
  hn : PySem.W.specialIn K (.builtin "object.__class__") "__get__" = some (some (.builtin "getset_descriptor.__get__"))
  htk : PySem.W.takesIn K (.builtin "object.__class__") = some true
  hm : PySem.W.mroIn K D (.type "object") = some true
/-- isinstance(e, c), e the error that the suite holds -/
def rIsErr (K : PySem.W.Frag) (a : Addr) (cls : Value) (d : Option Addr) : List V → Hp → VK → Prop := fun xs H Q => ∃ (D : Addr) (c : V) (cv : Value) (b : Bool), cls = .ref D ∧ ErrK K D ∧ xs = [.ref a, c] ∧ (∀ u, RelV c u → u = cv) ∧ PySem.W.kitOne K (.ref D) cv = some b ∧
  (d = none ∨ ∃ dd fvs, d = some dd ∧ H dd = some (.xd fvs)) ∧ Q (.bl b) H
theorem call_isErr {a : Addr} {oe : Obj} {cls : Value} {d : Option Addr} {pn : List (Addr × Obj)} (hz : Zc cls d oe) (hf : ∃ vs, oe.data = .fields vs) : CallR (X.suite a ((a, oe) :: pn)) (.builtin "isinstance") (rIsErr X.K a cls d) := by
  intro pins s z H xs us Q I r h
  obtain ⟨D, c, cv, b, rfl, T, rfl, hcv, e, hd, q⟩ := h
  cases r with
  | cons rx rr =>
    cases rr with
    | cons rt rr =>
      cases rr
      cases rx
      have ec := hcv _ rt
      subst ec
      obtain ⟨hget, _⟩ := I.pin (a, oe) (List.mem_append.mpr (.inl List.mem_cons_self))
      obtain ⟨vs, hv⟩ := hf
      have nc : PySem.W.notCls oe = true := by unfold PySem.W.notCls; rw [hv] <;> rfl
      have J : ∃ od, PySem.W.InstAt s.heap a oe D od := by
        rcases hd with rfl | ⟨dd, fvs, rfl, hx⟩
        · exact ⟨none, hget, hz.1, nc, by rw [hz.2]; trivial⟩
        · have hx' : ObjOk X.prog X.w H s.heap dd (.xd fvs) := I.hok dd _ hx
          obtain ⟨mA, ⟨od, es, ep, ho, _⟩, hr⟩ := hx'
          exact ⟨some od, hget, hz.1, nc, by rw [hz.2]; exact ho⟩
      obtain ⟨od, J⟩ := J
      exact PySem.W.kia_one (PySem.W.kitx_exc T.hcl T.hga T.hgt T.hsub T.ha T.hn T.htk T.hm) I.kIn J e (fun z => nomatch z) fun tk => ⟨.bl b, H, I.kept (t' := tk) fun _ _ z => z, rfl, q⟩
end
end L2


set_option Elab.async false
set_option linter.all false
set_option maxRecDepth 100000
set_option maxHeartbeats 4000000
/-! dicts whose keys are None, ints and texts -/
namespace L2
open PySem PySem.Spec PyProof.Rows
def nV : Option Key → V
  | none => .non
  | some k => kV k
def dNok (P : Program) (w : World) (a : Addr) (kvs : List (Option Key × V)) (h : Heap) : Prop := kvs.length ≤ sizeLine ∧ (a == sysModules) = false ∧ ∃ vs, KV kvs vs ∧ h.DictOf (noneKind P w) a vs
def dN (P : Program) (w : World) (a : Addr) (kvs : List (Option Key × V)) : HO := .ext (dNok P w a kvs)
theorem nV_is {P : Program} {w : World} {k : Option Key} {u : Value} (r : RelV (nV k) u) : (noneKind P w).is k u = true := by
  cases k with
  | none => cases r; rfl
  | some k => exact kV_is (P := P) (w := w) r
section
variable {P : Program} {w : World} {H : Hp} {h h' : Heap} {a : Addr} {kvs : List (Option Key × V)}
theorem dN_ok (z : dNok P w a kvs h) : ObjOk P w H h a (dN P w a kvs) := by
  refine ⟨z, ?_, fun h1 h2 z k => ?_⟩
  · obtain ⟨_, _, vs, _, o, es, ep, e, _⟩ := z
    exact ⟨o, e⟩
  · obtain ⟨z1, z2, vs, r, o, es, ep, e, c⟩ := z
    exact ⟨z1, z2, vs, r, o, es, ep, k _ e, c⟩
theorem dN_at (ok : HOk P w H h) (e : H a = some (dN P w a kvs)) : dNok P w a kvs h := by
  have x : ObjOk P w H h a (.ext (dNok P w a kvs)) := ok a _ e
  exact x.1
theorem dictOf_nil (x : h.DictOf (mixKind P w) a []) : h.DictOf (noneKind P w) a [] := by
  obtain ⟨o, es, ep, h1, h2, h3, h4, h5, h6⟩ := x
  have e0 : es = #[] := by
    cases hs : es with
    | mk l =>
      cases l with
      | nil => rfl
      | cons q r => subst hs; exact nomatch h5
  subst e0
  exact ⟨o, #[], ep, h1, h2, h3, fun e he => absurd he (by simp), .nil, List.nodup_nil⟩
end
theorem carriesN_of {P : Program} {w : World} : ∀ {kvs : List (Option Key × V)} {ws : List (Value × Value)}, VV (kvs.map fun kv => (nV kv.1, kv.2)) ws → ∃ rs, Carries (noneKind P w) ws rs ∧ KV kvs rs
  | [], _, r => by rw [List.map_nil] at r; cases r; exact ⟨[], True.intro, .nil⟩
  | p :: kvs, _, r => by
    rw [List.map_cons] at r
    cases r with
    | @cons a b as bs h t =>
      obtain ⟨rs, c, q⟩ := carriesN_of (P := P) (w := w) t
      obtain ⟨b1, b2⟩ := b
      exact ⟨(p.1, b2) :: rs, ⟨nV_is h.1, rfl, c⟩, .cons ⟨rfl, h.2⟩ q⟩
def mergeN (kvs more : List (Option Key × V)) : List (Option Key × V) := more.foldl (fun acc kv => putK acc kv.1 kv.2) kvs
theorem KV.mergeN : ∀ {more : List (Option Key × V)} {rs : List (Option Key × Value)} {kvs : List (Option Key × V)} {vs : List (Option Key × Value)}, KV more rs → KV kvs vs → KV (mergeN kvs more) (merged vs rs) := by
  intro more rs kvs vs h
  induction h generalizing kvs vs with
  | nil => intro r; exact r
  | @cons a b as bs hab _ ih =>
    intro r
    obtain ⟨a1, a2⟩ := a
    obtain ⟨b1, b2⟩ := b
    obtain ⟨e, rv⟩ := hab
    dsimp only at e rv
    subst e
    exact ih (r.put a1 rv)
theorem length_mergeN : ∀ (more kvs : List (Option Key × V)), (mergeN kvs more).length ≤ kvs.length + more.length
  | [], kvs => Nat.le_refl _
  | p :: more, kvs => by
    have h1 := length_mergeN more (putK kvs p.1 p.2)
    have h2 := length_putK kvs p.1 p.2
    show (mergeN (putK kvs p.1 p.2) more).length ≤ _
    rw [List.length_cons]
    omega
/-- {k: v, ..}, None among the keys -/
def tDispN (P : Program) (w : World) (trs : List (TE × TE)) : TE := fun z H Q => ∀ p, H p = none → tPairs trs z (upd H p (.dK [])) fun ps H2 => H2 p = some (.dK []) ∧ ∃ kvs : List (Option Key × V), ps = kvs.map (fun kv => (nV kv.1, kv.2)) ∧ kvs.length ≤ 15 ∧ Q (.ref p) (upd H2 p (dN P w p (mergeN [] kvs)))
theorem pe_dispN {X : Cx} {pos : Pos} {keys : List (Option Expr)} {values : List Expr} {trs : List (TE × TE)} (h : PPs X pos keys values trs) (hall : keys.all (·.isSome) = true) (hl : keys.length = values.length) (h0 : keys ≠ [])
    (h15 : keys.length ≤ 15) : PE X (.Dict keys values pos) (tDispN X.prog X.w trs) := by
  refine ⟨fun pins s z H Q I q => ?_⟩
  have hn := I.hok.fresh (Nat.le_refl s.heap.objs.size)
  have I1 := I.laid (a := s.heap.objs.size) (o := .dK []) (h' := s.heap.push { cls := .type "dict", data := .dict #[] }) (t' := s.toks) (fun _ _ q => Heap.get?_push_of_some _ q) (Nat.le_refl _) (dk_empty s.heap I.big)
  refine wpAny_Dict_walk (knd := noneKind X.prog X.w) hall hl h0 h15 (thn (h.run pins _ z _ _ I1 (q _ hn)) fun ws s2 ⟨ps, H2, I2, rel, e, kvs, ep, lk, q2⟩ => ?_)
  subst ep
  obtain ⟨rs, c, rk⟩ := carriesN_of (P := X.prog) (w := X.w) rel
  obtain ⟨zz, hd, vs0, r0, dd⟩ := dk_of I2.hok e
  cases r0
  refine ⟨rs, c, dictOf_nil dd, fun h' dd' hs => ⟨.ref s.heap.objs.size, _, ?_, rfl, q2⟩⟩
  have hz : (mergeN [] kvs).length ≤ sizeLine := by
    have h1 := length_mergeN kvs []
    rw [List.length_nil] at h1
    rw [sizeLine_eq]; omega
  have he : ∃ q, h'.get? s.heap.objs.size = some q := let ⟨q, _, _, hq, _⟩ := dd'; ⟨q, hq⟩
  exact d_write I2 (by rw [e]; exact True.intro) hs he (dN_ok ⟨hz, hd, _, rk.mergeN .nil, dd'⟩)
section
variable {X : Cx} {o e f : Expr} {apos cpos : Pos} {td ty tx : TE}
/-- d.get(k, x) -/
def tDGet2N (P : Program) (w : World) (td ty tx : TE) : TE := fun z H Q => td z H fun x H1 => ∃ a kvs, x = .ref a ∧ H1 a = some (dN P w a kvs) ∧ ty z H1 fun y H2 => tx z H2 fun v H3 => ∃ kvs' k, H3 a = some (dN P w a kvs') ∧ y = nV k ∧ Q ((valV kvs' k).getD v) H3
theorem pe_dget2N (ho : PE X o td) (he : PE X e ty) (hx : PE X f tx) (m : M2 X o "get" apos e f cpos) : PE X (.Call (.Attribute o "get" apos) [e, f] [] cpos) (tDGet2N X.prog X.w td ty tx) := by
  refine ⟨fun pins s z H Q I h => ?_⟩
  refine wpAny_Call_method m.base m.few m.line PySem.F.plainAttrs_dict PySem.F.slot_dict_get PySem.F.type_dict_get (thn (ho.run pins s z H _ I h) fun u s1 ⟨x, H1, I1, rx, a, kvs, ex, d, q1⟩ => ?_)
  subst ex
  obtain rfl : u = Value.ref a := rx
  obtain ⟨_, hd, vs, rel, dd⟩ := dN_at I1.hok d
  refine ⟨dd.typeIs, fun b q => ?_, ?_⟩
  · cases q
    obtain ⟨ob, _, _, h1, h2, _⟩ := dd
    exact ⟨ob, h1, h2.2.1⟩
  rw [m.trees]
  refine Calls.callWith_builtin rfl (Calls.evalArgs_plain (Calls.spliced_cons (thn (he.run pins s1 z H1 _ I1 q1) fun iv s2 ⟨y, H2, I2, ry, q2⟩ =>
    Calls.spliced_cons (thn (hx.run pins s2 z H2 _ I2 q2) fun fv s3 ⟨zv, H3, I3, rz, kvs', k, e3, ey, q3⟩ => Calls.spliced_nil ?_))))
  subst ey
  obtain ⟨_, hd', vs', rel', dd'⟩ := dN_at I3.hok e3
  exact call_meetsIn PySem.F.slot_dict_get dd'.typeIs PySem.F.entry_dict_get (PySem.F.args_dict_get_3 _ _ _) (meets_dict_get_default (noneKind X.prog X.w) a (nV_is ry) hd' fv) ⟨_, dd'.mapOf, ⟨_, H3, I3.tok _, (rel'.val k).getD rz, q3⟩⟩
/-- d[k] = v -/
def sDPutN (P : Program) (w : World) (td ty tv : TE) : TS := fun D z H => tv z H fun v H1 => td z H1 fun x H2 => ty z H2 fun y H3 => ∃ a kvs k, x = .ref a ∧ H3 a = some (dN P w a kvs) ∧ y = nV k ∧ kvs.length < sizeLine ∧ D.nx z (upd H3 a (dN P w a (putK kvs k v)))
theorem ps_dputN {i value : Expr} {pos pos' : Pos} {tv : TE} (ho : PE X o td) (hi : PE X i ty) (hv : PE X value tv) (hs : swapsWith value (some (.Subscript o i pos')) pos.line X.env = pure false) :
    PS X (.Assign [.Subscript o i pos'] value pos) (sDPutN X.prog X.w td ty tv) := by
  refine ⟨fun pins s z H D I h => ?_⟩
  refine wpAny_Assign_Subscript (thn (hv.run pins s z H _ I h) fun r s1 ⟨v, H1, I1, rv, q1⟩ => thn (ho.run pins s1 z H1 _ I1 q1) fun u s2 ⟨x, H2, I2, rx, q2⟩ => thn (hi.run pins s2 z H2 _ I2 q2) fun iv s3 ⟨y, H3, I3, ry, a, kvs, k, ex, e, ey, l, q3⟩ => ?_) hs
  subst ex ey
  obtain rfl : u = Value.ref a := rx
  obtain ⟨zz, hd, vs, rel, dd⟩ := dN_at I3.hok e
  have hz : vs.length ≤ sizeLine := by rw [← rel.length]; exact zz
  have hl : (putK kvs k v).length ≤ sizeLine := by have := length_putK kvs k v; omega
  refine wpAny_setItem_pairs (hsz := hz) (nV_is ry) dd fun h' dd' hs => ⟨z, _, ?_, q3⟩
  have he : ∃ q, h'.get? a = some q := let ⟨q, _, _, hq, _⟩ := dd'; ⟨q, hq⟩
  exact d_write I3 (by rw [e]; exact True.intro) hs he (dN_ok ⟨hl, hd, _, rel.put k rv, dd'⟩)
end
end L2


set_option Elab.async false
set_option linter.all false
set_option maxRecDepth 100000
set_option maxHeartbeats 4000000
/-! calls by names; small words -/
namespace L2
open PySem PySem.Spec PyProof.Rows
/-- the module's name x is a def that keeps sp (its last parameters filled by the defaults ds) -/
structure FnX (P : Program) (w : World) (K : PySem.W.Frag) (mg : Str → Option Value) (base : Heap) (CX : CXT) (k : Nat) (x : Str) (ps : List Str) (ds : List V) (sp : Sp) : Prop where
  ex : ∃ f fd dvs, mg x = some (.ref f) ∧ PySem.W.keepIn K (.ref f) = true ∧ Binds K fd ps dvs ∧ Vals ds dvs ∧ FnOk P w K mg base CX k f fd ps sp
/-- the class at C has the method m, which keeps sp -/
structure MeX (P : Program) (w : World) (K : PySem.W.Frag) (mg : Str → Option Value) (base : Heap) (CX : CXT) (k : Nat) (C : Addr) (m : Str) (ps : List Str) (ds : List V) (sp : Sp) : Prop where
  ex : ∃ f fd dvs, Cls K C ∧ Meth K C m f ∧ Binds K fd ps dvs ∧ Vals ds dvs ∧ FnOk P w K mg base CX k f fd ps sp
/-- the module's name x is the class at C, whose __init__ keeps sp -/
structure MkX (P : Program) (w : World) (K : PySem.W.Frag) (mg : Str → Option Value) (base : Heap) (CX : CXT) (k : Nat) (x : Str) (C : Addr) (ps : List Str) (ds : List V) (sp : Sp) : Prop where
  ex : ∃ f fd dvs, mg x = some (.ref C) ∧ Mk K C f ∧ Binds K fd ps dvs ∧ Vals ds dvs ∧ FnOk P w K mg base CX k f fd ps sp
section
variable {X : Cx} {CX : CXT} {k : Nat} {C : Addr} {ps : List Str} {sp : Sp} {ds : List V} {E : XK} {x m : Str} {p pos apos : Pos} {e o : Expr} {es : List Expr} {ta : TE} {t : TA}
theorem pe_callX (F : FnX X.prog X.w X.K X.mg X.base CX k x ps ds sp) (hr : Room k X.A) (hx : Passes CX X E) (ha : PA X (e :: es) t) (hg : Gl X x := by rfl) (hdb : (x == ("__debug__" : Str)) = false := by decide)
    (he : starEach (e :: es) X.env = (false, eval e X.env) :: starEach es X.env := by rfl) (hpl : (backTo pos (starEach es X.env)).any (·.1) = false := by rfl) : PE X (.Call (.Name x p) (e :: es) [] pos) (tCall sp ds E t) := by
  obtain ⟨f, fd, dvs, hm, kp, b, vd, G⟩ := F.ex
  exact pe_call G hr hg hm kp b vd hx ha hdb he hpl
theorem pe_callX0 (F : FnX X.prog X.w X.K X.mg X.base CX k x ps ds sp) (hr : Room k X.A) (hx : Passes CX X E) (hg : Gl X x := by rfl) (hdb : (x == ("__debug__" : Str)) = false := by decide) : PE X (.Call (.Name x p) [] [] pos) (tCall sp ds E tNil) := by
  obtain ⟨f, fd, dvs, hm, kp, b, vd, G⟩ := F.ex
  exact pe_call0 G hr hg hm kp b vd hx hdb
theorem pe_methX {pl : Sem Bool} (F : MeX X.prog X.w X.K X.mg X.base CX k C m ps ds sp) (hr : Room k X.A) (hx : Passes CX X E) (ho : PE X o ta) (ha : PA X (e :: es) t)
    (hst : starEach (e :: es) X.env = (false, eval e X.env) :: starEach es X.env := by rfl) (hpl : (backTo pos (starEach es X.env)).any (·.1) = false := by rfl)
    (ht : eval (.Call (.Attribute o m apos) (e :: es) [] pos) X.env = (do
      let ov ← eval o X.env
      standAt apos.atName
      let (f, first) ← holding [ov] (getMethod ov m pl)
      callWith pos f first (backTo pos (starEach (e :: es) X.env)) (backToKw pos (keywordEach [] X.env))) := by rfl) :
    PE X (.Call (.Attribute o m apos) (e :: es) [] pos) (tMeth C m sp ds E ta t) := by
  obtain ⟨f, fd, dvs, c, mm, b, vd, G⟩ := F.ex
  exact pe_meth ho c mm G hr b vd hx ha hst hpl ht
theorem pe_methX0 {pl : Sem Bool} (F : MeX X.prog X.w X.K X.mg X.base CX k C m ps ds sp) (hr : Room k X.A) (hx : Passes CX X E) (ho : PE X o ta)
    (ht : eval (.Call (.Attribute o m apos) [] [] pos) X.env = (do
      let ov ← eval o X.env
      standAt apos.atName
      let (f, first) ← holding [ov] (getMethod ov m pl)
      callWith pos f first (backTo pos (starEach [] X.env)) (backToKw pos (keywordEach [] X.env))) := by rfl) :
    PE X (.Call (.Attribute o m apos) [] [] pos) (tMeth C m sp ds E ta tNil) := by
  obtain ⟨f, fd, dvs, c, mm, b, vd, G⟩ := F.ex
  exact pe_meth0 ho c mm G hr b vd hx ht
theorem pe_makeX (F : MkX X.prog X.w X.K X.mg X.base CX k x C ps ds sp) (hr : Room (k + 1) X.A) (hx : Passes CX X E) (ha : PA X (e :: es) t) (hg : Gl X x := by rfl) (hdb : (x == ("__debug__" : Str)) = false := by decide)
    (he : starEach (e :: es) X.env = (false, eval e X.env) :: starEach es X.env := by rfl) (hpl : (backTo pos (starEach es X.env)).any (·.1) = false := by rfl) : PE X (.Call (.Name x p) (e :: es) [] pos) (tMake C sp ds E t) := by
  obtain ⟨f, fd, dvs, hm, M, b, vd, G⟩ := F.ex
  exact pe_make M G hr hg hm b vd hx ha hdb he hpl
/-- a constant of the module that is an int, a text, an object -/
theorem pe_gint {i : Int} (h : ∃ t, X.mg x = some (.int i t)) (hg : Gl X x := by rfl) (hdb : (x == ("__debug__" : Str)) = false := by decide) : PE X (.Name x pos) (tC (.int i)) := by
  obtain ⟨t, h⟩ := h
  exact pe_glob hg h ⟨t, rfl⟩ hdb
theorem pe_gstr {z : Str} (h : ∃ t, X.mg x = some (.str z t)) (hg : Gl X x := by rfl) (hdb : (x == ("__debug__" : Str)) = false := by decide) : PE X (.Name x pos) (tC (.str z)) := by
  obtain ⟨t, h⟩ := h
  exact pe_glob hg h ⟨t, rfl⟩ hdb
theorem pe_gref {a : Addr} (h : X.mg x = some (.ref a)) (hg : Gl X x := by rfl) (hdb : (x == ("__debug__" : Str)) = false := by decide) : PE X (.Name x pos) (tC (.ref a)) := pe_glob hg h rfl hdb
/-- what is raised in a callee goes on out of this def -/
theorem passOut {E : XK} {P : Program} {w : World} {K : PySem.W.Frag} {mg : Str → Option Value} {base : Heap} {N : List Str} {qual : Str} {scope : Scope} {f : Addr} {cd : Value} {A : Around} {outer : List Env} {s : Shared} {H : Hp} :
    Passes (L2.CX P w) (cxOf (L2.CX P w) P w K mg base N qual scope f cd A outer s H E) E := passes_call (takes_of rfl rfl rfl rfl) (fun _ _ _ _ h => h)
/-- a def that raises nothing, where some may be raised -/
theorem FnX.out {P : Program} {w : World} {K : PySem.W.Frag} {mg : Str → Option Value} {base : Heap} (F : FnX P w K mg base CX0 k x ps ds sp) : FnX P w K mg base (L2.CX P w) k x ps ds sp := by
  obtain ⟨f, fd, dvs, hm, kp, b, vd, G⟩ := F.ex
  refine ⟨f, fd, dvs, hm, kp, b, vd, G.len, fun A outer s H args us vs Q E hr he hb hv hs => codeAny_mono (G.run A outer s H args us vs Q E hr he hb hv hs) fun r s' h => ?_⟩
  cases r with
  | error e => exact (show False from h).elim
  | ok fl => cases fl <;> exact h
theorem FnX.mono {P : Program} {w : World} {K : PySem.W.Frag} {mg : Str → Option Value} {base : Heap} {j : Nat} (F : FnX P w K mg base CX j x ps ds sp) (h : j ≤ k) : FnX P w K mg base CX k x ps ds sp := by
  obtain ⟨f, fd, dvs, hm, kp, b, vd, G⟩ := F.ex
  exact ⟨f, fd, dvs, hm, kp, b, vd, G.mono h⟩
end
/-- a def of the text, at the module's name x, without defaults -/
abbrev DefX (K : PySem.W.Frag) (mg : Str → Option Value) (x : Str) (st : Stmt) : Prop := ∃ f fd, mg x = some (.ref f) ∧ FunD K x x (defArgs st) (defBody st) (defScope st) [] [] f fd
section
variable {P : Program} {w : World} {K : PySem.W.Frag} {mg : Str → Option Value} {base : Heap} {x : Str} {st : Stmt} {N ps : List Str} {k : Nat} {sp : Sp}
theorem DefX.ok0 (F : DefX K mg x st) (S : FnScope N ps (defScope st)) (hb : ∀ (kV doc pm : Value) (an : Option Addr) (cdv ct : Value) (us : List Value), us.length = ps.length → bindArgs (PySem.W.fnOf x x (defArgs st) (defBody st) (defScope st) .none kV doc pm an cdv ct) ⟨us, []⟩ = pure (ps.zip us))
    (len : ∀ vs H Q E, sp vs H Q E → vs.length = ps.length)
    (hbody : ∀ (f : Addr) (cdv : Value) (A : Around) (outer : List Env) (s : Shared) (H : Hp) (vs : List V) (Q : VK) (E : XK), Room k (A.deeper (envOfC x (defScope st) s.heap.objs.size f cdv)) → sp vs H Q E →
      ∃ t, PSs (cxOf CX0 P w K mg base N x (defScope st) f cdv A outer s H E).nox (defBody st) t ∧ t { nx := fun _ H' => Q .non H', rt := Q } (start N vs) H) : FnX P w K mg base CX0 (k + 1) x ps [] sp := by
  obtain ⟨f, fd, hm, F⟩ := F
  refine ⟨f, fd, [], hm, F.kp, F.bindsN hb, .nil, F.ok S len fun cdv A outer s H vs Q E hr h => ?_⟩
  obtain ⟨t, h1, h2⟩ := hbody f cdv A outer s H vs Q E hr h
  exact ⟨t, h1.nox, h2⟩
theorem DefX.okX (F : DefX K mg x st) (S : FnScope N ps (defScope st)) (hb : ∀ (kV doc pm : Value) (an : Option Addr) (cdv ct : Value) (us : List Value), us.length = ps.length → bindArgs (PySem.W.fnOf x x (defArgs st) (defBody st) (defScope st) .none kV doc pm an cdv ct) ⟨us, []⟩ = pure (ps.zip us))
    (len : ∀ vs H Q E, sp vs H Q E → vs.length = ps.length)
    (hbody : ∀ (f : Addr) (cdv : Value) (A : Around) (outer : List Env) (s : Shared) (H : Hp) (vs : List V) (Q : VK) (E : XK), Room k (A.deeper (envOfC x (defScope st) s.heap.objs.size f cdv)) → sp vs H Q E →
      ∃ t, PSs (cxOf (L2.CX P w) P w K mg base N x (defScope st) f cdv A outer s H E) (defBody st) t ∧ t { nx := fun _ H' => Q .non H', rt := Q } (start N vs) H) : FnX P w K mg base (L2.CX P w) (k + 1) x ps [] sp := by
  obtain ⟨f, fd, hm, F⟩ := F
  exact ⟨f, fd, [], hm, F.kp, F.bindsN hb, .nil, F.ok S len fun cdv A outer s H vs Q E hr h => hbody f cdv A outer s H vs Q E hr h⟩
end
/-- a method of the text: class at C, its method m (statement st, qualified name q) -/
structure MetX (K : PySem.W.Frag) (C : Addr) (m q : Str) (st : Stmt) (f : Addr) (fd : FuncData) : Prop where
  c : Cls K C
  me : Meth K C m f
  fn : FunD K m q (defArgs st) (defBody st) (defScope st) [] [] f fd
section
variable {P : Program} {w : World} {K : PySem.W.Frag} {mg : Str → Option Value} {base : Heap} {C : Addr} {m q : Str} {st : Stmt} {N ps : List Str} {k : Nat} {sp : Sp}
theorem MetX.okX (F : ∃ f fd, MetX K C m q st f fd) (S : FnScope N ps (defScope st)) (hb : ∀ (kV doc pm : Value) (an : Option Addr) (cdv ct : Value) (us : List Value), us.length = ps.length → bindArgs (PySem.W.fnOf m q (defArgs st) (defBody st) (defScope st) .none kV doc pm an cdv ct) ⟨us, []⟩ = pure (ps.zip us))
    (len : ∀ vs H Q E, sp vs H Q E → vs.length = ps.length)
    (hbody : ∀ (f : Addr) (cdv : Value) (A : Around) (outer : List Env) (s : Shared) (H : Hp) (vs : List V) (Q : VK) (E : XK), Room k (A.deeper (envOfC q (defScope st) s.heap.objs.size f cdv)) → sp vs H Q E →
      ∃ t, PSs (cxOf (L2.CX P w) P w K mg base N q (defScope st) f cdv A outer s H E) (defBody st) t ∧ t { nx := fun _ H' => Q .non H', rt := Q } (start N vs) H) : MeX P w K mg base (L2.CX P w) (k + 1) C m ps [] sp := by
  obtain ⟨f, fd, F⟩ := F
  exact ⟨f, fd, [], F.c, F.me, F.fn.bindsN hb, .nil, F.fn.ok S len fun cdv A outer s H vs Q E hr h => hbody f cdv A outer s H vs Q E hr h⟩
end
/-- for i, x in enumerate(list) -/
theorem for_enum {K : PySem.W.Frag} {a : Addr} {xs : List V} {g : TG} {tb : TS} {D : Ends} {z : St} {H : Hp} (Pv : Nat → St → Hp → Prop) (h0 : Pv 0 z H) (hl : ∀ i z H, i ≤ xs.length → Pv i z H → SqL K H a xs)
    (hs : ∀ i x z H, xs[i]? = some x → Pv i z H → ∀ T, H T = none → g (.ref T) z (upd H T (.tup [.int (i : Nat), x])) fun z2 H2 => tb { D with nx := Pv (i + 1), ct := Pv (i + 1), bk := D.nx } z2 H2) (hd : ∀ z H, Pv xs.length z H → D.nx z H) :
    ∃ W : Nat → Nat → St → Hp → Prop, (∃ m, W 0 m z H) ∧ ∀ i m z H, W i m z H →
      ((Ite K a).stop i H ∧ D.nx z H) ∨ ((Ite K a).go i H ∧ ∃ N : St → Hp → Prop, (∀ z' H', N z' H' → ∃ m', m' < m ∧ W (i + 1) m' z' H') ∧ ∀ x H', (Ite K a).yld i H x H' → g x z H' fun z2 H2 => tb { D with nx := N, ct := N, bk := D.nx } z2 H2) := by
  refine ⟨fun i m z H => m = xs.length - i ∧ i ≤ xs.length ∧ Pv i z H, ⟨xs.length, by simp, Nat.zero_le _, h0⟩, ?_⟩
  rintro i m z H ⟨rfl, hi, p⟩
  have q := hl i z H hi p
  by_cases hlt : i < xs.length
  · refine .inr ⟨⟨xs, xs[i], q, by simp [hlt]⟩, Pv (i + 1), fun z' H' p' => ⟨xs.length - (i + 1), by omega, rfl, hlt, p'⟩, fun v H' y => ?_⟩
    obtain ⟨T, x, rfl, hT, rfl, hx⟩ := y
    exact hs i x z _ (hx xs q) p T hT
  · have e : i = xs.length := by omega
    subst e
    exact .inl ⟨⟨xs, q, Nat.le_refl _⟩, hd z H p⟩
/-- tuples stay -/
def TupLe (H H' : Hp) : Prop := ∀ b xs, H b = some (.tup xs) → H' b = some (.tup xs)
theorem TupLe.refl (H : Hp) : TupLe H H := fun _ _ h => h
theorem TupLe.trans {H H1 H2 : Hp} (a : TupLe H H1) (b : TupLe H1 H2) : TupLe H H2 := fun c xs h => b c xs (a c xs h)
theorem TupLe.new {H : Hp} {p : Addr} {o : HO} (h : H p = none) : TupLe H (upd H p o) := fun b xs e => by rw [upd_ne (ne_of_none e h)]; exact e
theorem TupLe.mut {H : Hp} {p : Addr} {o u : HO} (h : H p = some u) (hu : ∀ xs, u ≠ .tup xs) : TupLe H (upd H p o) := fun b xs e => by
  rw [upd_ne (fun z => by subst z; rw [h] at e; exact hu xs (Option.some.inj e))]; exact e
theorem Same.new {H : Hp} {p : Addr} {o : HO} (h : H p = none) : Same H (upd H p o) := fun b u e => by rw [upd_ne (ne_of_none e h)]; exact e
/-- an object that H did not know has changed -/
theorem Same.mut {H H' : Hp} {p : Addr} {o : HO} (e : Same H H') (h : H p = none) : Same H (upd H' p o) := fun b u q => by rw [upd_ne (ne_of_none q h)]; exact e b u q
theorem Same.seqT {K : PySem.W.Frag} {H H' : Hp} {a : Addr} {xs : List V} (e : Same H H') (h : SqT K H a xs) : SqT K H' a xs := by
  rcases h with (h | ⟨o, h⟩) | h
  · exact .inl (.inl (e _ _ h))
  · exact .inl (.inr ⟨o, e _ _ h⟩)
  · exact .inr h
theorem Same.tups {H H' : Hp} (e : Same H H') : TupLe H H' := fun b xs h => e b _ h
theorem inV_str (z : Str) (ns : List Str) : inV (.str z) (ns.map V.str) = decide (z ∈ ns) := by
  unfold inV
  induction ns with
  | nil => rfl
  | cons n r ih =>
    rw [List.map_cons, List.any_cons, ih]
    show ((n == z) || decide (z ∈ r)) = decide (z ∈ n :: r)
    by_cases e : z = n
    · subst e
      simp
    · have e2 : (n == z) = false := by simpa using fun q => e q.symm
      rw [e2, Bool.false_or]
      simp [List.mem_cons, e]
theorem flat_strs (ns : List Str) : (ns.map V.str).all flatV = true := by
  rw [List.all_eq_true]
  intro v hv
  obtain ⟨n, _, rfl⟩ := List.mem_map.mp hv
  rfl
theorem iteB {b : Bool} {A B : Prop} (ht : b = true → A) (hf : b = false → B) : if b = true then A else B := by
  cases b with
  | true => rw [if_pos rfl]; exact ht rfl
  | false => rw [if_neg Bool.false_ne_true]; exact hf rfl
end L2


set_option Elab.async false
set_option linter.all false
set_option maxRecDepth 100000
set_option maxHeartbeats 4000000
/-! == and != of an instance whose class has its own __eq__ (and no __ne__) -/
namespace PySem.W
open PySem PySem.Spec PySem.Calls PyProof.Rows
section
variable {prog : Program} {w : World} {A : Around} {E : Value → Shared → Prop} {s : Shared} {h₀ : Heap} {L : Addr} {m : Str → Option Value} {K : Frag} {x C f : Addr} {ox : Obj} {od : Option Obj} {b tb : Value}
theorem ne_entry {Q : Fin → Shared → Prop} (X : K.In s.heap) (I : InstAt s.heap x ox C od) (hs : findIn K (.ref C) "__eq__" = some (some (.ref f))) (hf : isFn K (.ref f) = true) (hu : A.units < cLine)
    (hcall : wpAny (model prog w) A (call (.ref f) [.ref x, b]) (fun v s' => ∃ c, v = .bool c ∧ Q (.done (.ret (.bool (!c)))) s') E s) :
    wpAny (model prog w) A (Builtin.«object.__ne__» ⟨[.ref x, b], []⟩) Q E s := by
  obtain ⟨hp, g, d, t, os⟩ := s
  unfold Builtin.«object.__ne__»
  repeat (first
    | with_reducible refine wpAny_cRoomFor hu ?_
    | (refine wpAny_bind (m := callSpecialIfBound? (.ref x) (Str.ofString "__eq__") [b])
        (ifBound_K X I hs hf (wpAny_mono hcall (fun r s' hr => by
          obtain ⟨c, rfl, hq⟩ := hr
          repeat (first | exact hq | exact wpAny_pure hq | exact wpAny_truthy_bool hq | (refine wpAny_bind (m := truthy (.bool _)) (wpAny_truthy_bool ?_)) | wp_step)) fun _ _ e => e)))
    | wp_step)
theorem ne_try {Q : Option Value → Shared → Prop} (X : K.In s.heap) (I : InstAt s.heap x ox C od) (hne : findIn K (.ref C) "__ne__" = some (some (.builtin "object.__ne__"))) (hobj : mroIn K C (.type "object") = some true)
    (hs : findIn K (.ref C) "__eq__" = some (some (.ref f))) (hf : isFn K (.ref f) = true) (hu : A.units + 1 < cLine)
    (hcall : wpAny (model prog w) A.in1 (call (.ref f) [.ref x, b]) (fun v s' => ∃ c, v = .bool c ∧ Q (some (.bool (!c))) s') E s) :
    wpAny (model prog w) A (tryCompare (.ref x) "__ne__" b) Q E s := by
  have go : ∀ {R : Value → Shared → Prop}, (∀ c s', Q (some (.bool (!c))) s' → R (.bool (!c)) s') → wpAny (model prog w) A (call (.builtin "object.__ne__") [.ref x, b]) R E s := fun {R} hR => by
    have sub : Looks (model prog w) s.heap (isInstance (.ref x) (.type "object")) true := I.type.andThen (looks_mroIn X hobj)
    refine wpAny_call (codeAny_call_builtin F.cmp_object.ne.plain F.cmpEntry_ne ?_)
    refine @check_slot (model prog w) _ _ s "object.__ne__" "object" "__ne__" (.ref x) [b] [] _ F.cmpKind_ne F.cmpSplit_ne sub (F.cmpArgs_ne _ _) ?_
    exact ne_entry (A := A.in1) X I hs hf hu (wpAny_mono hcall (fun v s' hv => by obtain ⟨c, rfl, hq⟩ := hv; exact ⟨c, rfl, hR c s' hq⟩) fun _ _ e => e)
  unfold tryCompare
  refine wpAny_bind ?_
  simp only [callSpecialIfBound?, bindSpecialIfBound?]
  refine wpAny_holding (wpAny_bind (wpAny_bind (wpAny_bind (I.type.here ((looks_findIn X hne).here ?_)))))
  refine wpAny_bind (wpAny_askSetting (wpAny_ite ?_))
  have bd := F.cmp_object.ne.bind (.ref x)
  have fin : ∀ {Q2 : Option Value → Shared → Prop}, (∀ c s', Q (some (.bool (!c))) s' → Q2 (some (.bool (!c))) s') → wpAny (model prog w) A (call (.builtin "object.__ne__") ([.ref x] ++ [b]) >>= fun v => pure (some v)) Q2 E s :=
    fun h2 => wpAny_bind (go fun c s' hq => wpAny_pure (h2 c s' hq))
  split
  · rw [bd]
    exact wpAny_bind (wpAny_pure (wpAny_pure (fin fun c s' hq => wpAny_pure hq)))
  · refine wpAny_tryCatch ?_
    rw [bd]
    exact wpAny_bind (wpAny_pure (wpAny_pure (fin fun c s' hq => wpAny_pure hq)))
theorem ne_K {Q : Value → Shared → Prop} (hu : A.units + 1 < cLine) (F : Fr h₀ L s.heap m) (X₀ : K.In h₀) (I : InstAt s.heap x ox C od) (hb : Looks (model prog w) s.heap (typeOf b) tb) (hn : notFirst K C tb = true)
    (hne : findIn K (.ref C) "__ne__" = some (some (.builtin "object.__ne__"))) (hobj : mroIn K C (.type "object") = some true) (hs : findIn K (.ref C) "__eq__" = some (some (.ref f))) (hf : isFn K (.ref f) = true)
    (h : wpAny (model prog w) A.in1 (call (.ref f) [.ref x, b]) (fun v s' => ∃ c, v = .bool c ∧ Q (.bool (!c)) s') E s) : wpAny (model prog w) A (richCompare .NotEq (.ref x) b) Q E s := by
  have X := X₀.keeps F.keep
  have one : wpAny (model prog w) A (tryCompare (.ref x) "__ne__" b) (fun r s' => ∃ v, r = some v ∧ Q v s') E s := ne_try X I hne hobj hs hf hu (wpAny_mono h (fun v s' hv => by obtain ⟨c, e, q⟩ := hv; exact ⟨c, e, _, rfl, q⟩) fun _ _ e => e)
  unfold richCompare
  simp only [oneThing_ref]
  refine wpAny_holding (wpAny_bind (wpAny_cRoomFor (Nat.lt_of_succ_lt hu) ?_))
  refine wpAny_bind (I.type.here (wpAny_bind (hb.here ?_)))
  have last : wpAny (model prog w) A (tryCompare (.ref x) (cmpInfo .NotEq).2.1 b) (fun r s' => ∃ v, r = some v ∧ Q v s') E s := one
  split
  · rename_i q
    have e : subIn K tb (.ref C) = some false := by
      rcases Bool.or_eq_true_iff.mp hn with e | e
      · rw [beq_iff_eq.mp e] at q; simp at q
      · exact beq_iff_eq.mp e
    refine wpAny_bind ((looks_subIn X e).here ?_)
    simp only [Bool.false_eq_true, if_false]
    refine wpAny_bind (wpAny_mono last (fun r s' z => ?_) fun _ _ e => e)
    obtain ⟨v, rfl, hq⟩ := z
    exact wpAny_pure hq
  · refine wpAny_bind (wpAny_pure ?_)
    simp only [Bool.false_eq_true, if_false]
    refine wpAny_bind (wpAny_mono last (fun r s' z => ?_) fun _ _ e => e)
    obtain ⟨v, rfl, hq⟩ := z
    exact wpAny_pure hq
end
end PySem.W
namespace L2
open PySem PySem.Spec PyProof.Rows
section
variable {X : Cx} {CX : CXT} {k : Nat} {C : Addr} {ps : List Str} {sp : Sp} {E : XK}
/-- what stands on the right of such a comparison: its type comes not first -/
structure RightOk (X : Cx) (C : Addr) (H : Hp) (y : V) : Prop where
  ty : ∀ (pins : List (Addr × Obj)) (z : L2.St) (s : Shared) (u : Value), Inv X pins z H s → RelV y u → ∃ tb, PySem.W.Looks (model X.prog X.w) s.heap (typeOf u) tb ∧ PySem.W.notFirst X.K C tb = true
theorem right_ins {H : Hp} {b dy : Addr} {gs : List (Str × V)} (h : H b = some (.ins C dy gs)) : RightOk X C H (.ref b) := ⟨fun pins z s u I r => by
  cases r
  obtain ⟨mB, J', _⟩ := ins_get I.hok h
  obtain ⟨od', J', _⟩ := J'.look
  exact ⟨.ref C, J'.type, by simp [PySem.W.notFirst]⟩⟩
theorem right_str {H : Hp} {t : Str} (h : PySem.W.notFirst X.K C (.type "str") = true) : RightOk X C H (.str t) := ⟨fun pins z s u I r => by
  obtain ⟨tk, rfl⟩ := r
  exact ⟨.type "str", PySem.W.Looks.of_pure rfl, h⟩⟩
/-- a == b, a != b (neg), a an instance of the class at C -/
def rCmpO (X : Cx) (C : Addr) (sp : Sp) (E : XK) (neg : Bool) : R2 := fun x y H Q => ∃ a dx fs, x = .ref a ∧ H a = some (.ins C dx fs) ∧ RightOk X C H y ∧ sp [x, y] H (fun v H' => ∃ c, v = .bl c ∧ Q (.bl (if neg then !c else c)) H') E
theorem op_eqO (F : MeX X.prog X.w X.K X.mg X.base CX k C "__eq__" ps [] sp) (hr : Room k X.A) (hx : Passes CX X E) : OpR X (compareOp .Eq) (rCmpO X C sp E false) := by
  intro pins s z H x y v u Q I rx ry h
  obtain ⟨a, dx, fs, rfl, ha, R, q⟩ := h
  obtain ⟨f, fd, dvs, c, mm, b, vd, G⟩ := F.ex
  cases vd
  cases rx
  obtain ⟨tb, lk, nf⟩ := R.ty pins z s u I ry
  obtain ⟨mA, J, _⟩ := ins_get I.hok ha
  obtain ⟨od, J, _⟩ := J.look
  obtain ⟨m, hF⟩ := I.fr
  show wpAny (model X.prog X.w) X.A (richCompare .Eq (.ref a) u) (EP X pins z Q) X.xe s
  refine PySem.W.cmp_K (op := .Eq) (tb := tb) hr.units0 hF I.ok.mod.kin J lk nf mm.at_ mm.fn ?_
  refine wpAny_mono (run_fn (us := [.ref a, u]) (vs := [.ref a, y]) G hr b .nil hx I (.cons rfl (.cons ry .nil)) q) (fun v s' hv => ?_) fun _ _ x => x
  obtain ⟨v', H', I', rv, c, rfl, q⟩ := hv
  cases rv
  exact ⟨.bl c, H', I', rfl, q⟩
theorem op_neO (F : MeX X.prog X.w X.K X.mg X.base CX k C "__eq__" ps [] sp) (hr : Room (k + 1) X.A) (hx : Passes CX X E) (hne : PySem.W.findIn X.K (.ref C) "__ne__" = some (some (.builtin "object.__ne__"))) (hobj : PySem.W.mroIn X.K C (.type "object") = some true) :
    OpR X (compareOp .NotEq) (rCmpO X C sp E true) := by
  intro pins s z H x y v u Q I rx ry h
  obtain ⟨a, dx, fs, rfl, ha, R, q⟩ := h
  obtain ⟨f, fd, dvs, c, mm, b, vd, G⟩ := F.ex
  cases vd
  cases rx
  obtain ⟨tb, lk, nf⟩ := R.ty pins z s u I ry
  obtain ⟨mA, J, _⟩ := ins_get I.hok ha
  obtain ⟨od, J, _⟩ := J.look
  obtain ⟨m, hF⟩ := I.fr
  show wpAny (model X.prog X.w) X.A (richCompare .NotEq (.ref a) u) (EP X pins z Q) X.xe s
  refine PySem.W.ne_K (tb := tb) (hu_of hr) hF I.ok.mod.kin J lk nf hne hobj mm.at_ mm.fn ?_
  have e := I.env0
  have r2 : Vals [V.ref a, y] [Value.ref a, u] := .cons rfl (.cons ry .nil)
  have hl := G.len _ _ _ _ q
  refine wpAny_call (codeAny_mono (G.run X.A.in1 X.stack s H ⟨[.ref a, u], []⟩ [.ref a, u] [.ref a, y] _ E hr.in1 e.in1 (by
    have := b s [.ref a, u] I.kIn (by simpa using hl)
    simpa using this) r2 q) fun r s' hq => ?_)
  cases r with
  | error e => exact hx pins z H s e s' I hq
  | ok fl =>
    cases fl with
    | ret w =>
      obtain ⟨zz, H', I', rz, c, rfl, q⟩ := I.after hq
      cases rz
      exact ⟨c, rfl, .bl (!c), H', I', rfl, q⟩
    | next => exact False.elim hq
    | brk => exact False.elim hq
    | cont => exact False.elim hq
end
end L2


set_option Elab.async false
set_option linter.all false
set_option maxRecDepth 100000
set_option maxHeartbeats 4000000
namespace L2
open PySem PySem.Spec PyProof.Rows
section
variable {X : Cx}
/-- repr(True), repr(False) -/
theorem call_repr_bl : CallR X (.builtin "repr") (fun xs H Q => ∃ b : Bool, xs = [.bl b] ∧ Q (.str (if b then Str.ofString "True" else Str.ofString "False")) H) := by
  intro pins s z H xs us Q I r h
  obtain ⟨b, rfl, q⟩ := h
  obtain ⟨u, rfl, e⟩ := vals1 r
  obtain rfl : u = Value.bool b := e
  exact PySem.P.repr_of_bool ⟨.str _, H, I.tok _, ⟨_, rfl⟩, q⟩
/-- s * n -/
theorem op_rep_str : OpR X (binaryOp .Mult) (fun x y H Q => ∃ (a : Str) (n : Int), x = .str a ∧ y = .int n ∧ 2 ≤ n ∧ n ≤ 10000 ∧ 0 < a.length ∧ a.length ≤ 1000 ∧ (⟨(List.replicate n.toNat a.cps).foldl (· ++ ·) #[]⟩ : Str).length ≤ sizeLine ∧ Q (.str ⟨(List.replicate n.toNat a.cps).foldl (· ++ ·) #[]⟩) H) := by
  intro pins s z H x y v u Q I rx ry h
  obtain ⟨a, n, rfl, rfl, h1, h2, h3, h4, h5, q⟩ := h
  obtain ⟨t, rfl⟩ := rx
  obtain ⟨t', rfl⟩ := ry
  have e1 : (n == 1 || a.length == 0) = false := by
    have : ¬ n = 1 := by omega
    have : ¬ a.length = 0 := by omega
    simp_all
  have hm : a.length * n.toNat ≤ 1000 * 10000 := Nat.mul_le_mul h4 (by omega)
  refine PySem.P.mul_str ?_ (fun _ _ => ?_) (fun _ _ => ?_) ?_
  · rw [decide_eq_false (by omega), decide_eq_false (by omega)]; rfl
  · have : (2 ^ 63 - 1) / n ≥ 1000 := by
      have : (1000 : Int) * n ≤ 2 ^ 63 - 1 := by omega
      exact (Int.le_ediv_iff_mul_le (by omega)).mpr this
    omega
  · show decide (_ > sizeLine) = false
    have q9 : sizeLine = 16777216 := sizeLine_eq
    exact decide_eq_false (by omega)
  · rw [if_neg (by omega), if_neg (by rw [e1]; exact Bool.false_ne_true)]
    exact ⟨h5, .str _, H, I.tok _, ⟨_, rfl⟩, q⟩
/-- nothing leaves -/
theorem passF {P : Program} {w : World} {X : Cx} (h1 : X.prog = P := by rfl) (h2 : X.w = w := by rfl) : Passes (L2.CX P w) X (fun _ _ _ => False) := by
  subst h1 h2
  exact passes_call LamX.takes0 (fun _ _ _ _ h => h)
theorem takes_len {W : WX} (tk : Takes X W) : Takes X (fun cls d z H => z.length = X.N.length → W cls d z H) := fun u s' xx => by
  obtain ⟨a, B, sI, pins', z', H', cls, d, e, J', nb, up, sky, na, os, ag, w⟩ := xx
  exact tk u s' ⟨a, B, sI, pins', z', H', cls, d, e, J', nb, up, sky, na, os, ag, w J'.len⟩
end
theorem FunD.ok0 {P : Program} {w : World} {K : PySem.W.Frag} {mg : Str → Option Value} {base : Heap} {x q : Str} {st : Stmt} {N ps : List Str} {k : Nat} {sp : Sp} {f : Addr} {fd : FuncData} (F : FunD K x q (defArgs st) (defBody st) (defScope st) [] [] f fd) (S : FnScope N ps (defScope st))
    (len : ∀ vs H Q E, sp vs H Q E → vs.length = ps.length)
    (hbody : ∀ (cdv : Value) (A : Around) (outer : List Env) (s : Shared) (H : Hp) (vs : List V) (Q : VK) (E : XK), Room k (A.deeper (envOfC q (defScope st) s.heap.objs.size f cdv)) → sp vs H Q E →
      ∃ t, PSs (cxOf CX0 P w K mg base N q (defScope st) f cdv A outer s H E).nox (defBody st) t ∧ t { nx := fun _ H' => Q .non H', rt := Q } (start N vs) H) : FnOk P w K mg base CX0 (k + 1) f fd ps sp :=
  F.ok S len fun cdv A outer s H vs Q E hr h => by
    obtain ⟨t, h1, h2⟩ := hbody cdv A outer s H vs Q E hr h
    exact ⟨t, h1.nox, h2⟩
end L2


set_option Elab.async false
set_option linter.all false
set_option maxRecDepth 100000
set_option maxHeartbeats 4000000

namespace K68
open PySem PySem.Spec PyProof.Rows L2
def top (i : Nat) : Stmt := PySem.Challenge.pw_heldplaces_k68_book_rules.main.body.getD i (.Pass ⟨0, 0, 0, 0⟩)
abbrev s_BadSize_init : Stmt := inClass (top 2) 0
abbrev s_BadSum_init : Stmt := inClass (top 3) 0
abbrev s_told_number : Stmt := top 7
theorem sc_told_number : FnScope ["word"] ["word"] (defScope s_told_number) := ⟨rfl, rfl, rfl, by decide +kernel, rfl, by decide +kernel, by decide +kernel⟩
abbrev s_told_atom : Stmt := top 8
theorem sc_told_atom : FnScope ["word", "names", "number"] ["word", "names"] (defScope s_told_atom) := ⟨rfl, rfl, rfl, by decide +kernel, rfl, by decide +kernel, by decide +kernel⟩
abbrev s_told_sum : Stmt := top 9
theorem sc_told_sum : FnScope ["words", "names", "found", "seen", "place", "word", "atom"] ["words", "names"] (defScope s_told_sum) := ⟨rfl, rfl, rfl, by decide +kernel, rfl, by decide +kernel, by decide +kernel⟩
abbrev s_need_book_size : Stmt := top 11
theorem sc_need_book_size : FnScope ["size"] ["size"] (defScope s_need_book_size) := ⟨rfl, rfl, rfl, by decide +kernel, rfl, by decide +kernel, by decide +kernel⟩
abbrev s_BookRules_init : Stmt := inClass (top 12) 0
theorem sc_BookRules_init : FnScope ["self", "keep", "found", "factor", "name"] ["self", "keep"] (defScope s_BookRules_init) := ⟨rfl, rfl, rfl, by decide +kernel, rfl, by decide +kernel, by decide +kernel⟩
abbrev s_BookRules_kept_rows : Stmt := inClass (top 12) 1
theorem sc_BookRules_kept_rows : FnScope ["self", "size"] ["self", "size"] (defScope s_BookRules_kept_rows) := ⟨rfl, rfl, rfl, by decide +kernel, rfl, by decide +kernel, by decide +kernel⟩
abbrev s_BookRules_in_use : Stmt := inClass (top 12) 2
theorem sc_BookRules_in_use : FnScope ["self", "size"] ["self", "size"] (defScope s_BookRules_in_use) := ⟨rfl, rfl, rfl, by decide +kernel, rfl, by decide +kernel, by decide +kernel⟩
abbrev s_BookRules_next_in_use : Stmt := inClass (top 12) 3
theorem sc_BookRules_next_in_use : FnScope ["self", "size", "least", "found"] ["self", "size"] (defScope s_BookRules_next_in_use) := ⟨rfl, rfl, rfl, by decide +kernel, rfl, by decide +kernel, by decide +kernel⟩
abbrev s_BookRules_eq : Stmt := inClass (top 12) 4
theorem sc_BookRules_eq : FnScope ["self", "other"] ["self", "other"] (defScope s_BookRules_eq) := ⟨rfl, rfl, rfl, by decide +kernel, rfl, by decide +kernel, by decide +kernel⟩
abbrev s_l_begun_pen : Stmt := top 14
theorem sc_l_begun_pen : FnScope ["_law_script"] ["_law_script"] (defScope s_l_begun_pen) := ⟨rfl, rfl, rfl, by decide +kernel, rfl, by decide +kernel, by decide +kernel⟩
abbrev s_l_draw : Stmt := top 15
theorem sc_l_draw : FnScope ["_law_pen", "_law_span", "_law_digit", "_law_turn", "_law_cell", "_law_mixed"] ["_law_pen", "_law_span"] (defScope s_l_draw) := ⟨rfl, rfl, rfl, by decide +kernel, rfl, by decide +kernel, by decide +kernel⟩
abbrev s_l_pick : Stmt := top 16
theorem sc_l_pick : FnScope ["_law_pen", "_law_options"] ["_law_pen", "_law_options"] (defScope s_l_pick) := ⟨rfl, rfl, rfl, by decide +kernel, rfl, by decide +kernel, by decide +kernel⟩
abbrev s_l_wide : Stmt := top 17
theorem sc_l_wide : FnScope ["_law_pen", "_law_found", "_law_k"] ["_law_pen"] (defScope s_l_wide) := ⟨rfl, rfl, rfl, by decide +kernel, rfl, by decide +kernel, by decide +kernel⟩
abbrev s_l_sum_text : Stmt := top 18
theorem sc_l_sum_text : FnScope ["_law_terms", "_law_words", "_law_sign", "_law_atom"] ["_law_terms"] (defScope s_l_sum_text) := ⟨rfl, rfl, rfl, by decide +kernel, rfl, by decide +kernel, by decide +kernel⟩
abbrev s_l_new_keep : Stmt := top 19
theorem sc_l_new_keep : FnScope ["_law_pen", "_law_terms", "_law_lone", "_law_slope", "_law_k", "_law_span", "_law_sign", "_law_number"] ["_law_pen"] (defScope s_l_new_keep) := ⟨rfl, rfl, rfl, by decide +kernel, rfl, by decide +kernel, by decide +kernel⟩
abbrev s_l_refused : Stmt := top 20
theorem sc_l_refused : FnScope ["_law_action", "e"] ["_law_action"] (defScope s_l_refused) := ⟨rfl, rfl, rfl, by decide +kernel, rfl, by decide +kernel, by decide +kernel⟩
abbrev s_l_asked : Stmt := top 21
theorem sc_l_asked : FnScope ["_law_rules", "_law_way", "_law_value"] ["_law_rules", "_law_way", "_law_value"] (defScope s_l_asked) := ⟨rfl, rfl, rfl, by decide +kernel, rfl, by decide +kernel, by decide +kernel⟩
abbrev s_l_wrong_right : Stmt := top 22
theorem sc_l_wrong_right : FnScope ["_law_value", "_law_rules", "_law_wide_here", "_law_way"] [] (defScope s_l_wrong_right) := ⟨rfl, rfl, rfl, by decide +kernel, rfl, by decide +kernel, by decide +kernel⟩
abbrev s_law : Stmt := top 23
theorem sc_law : FnScope ["_law_script", "_law_pen", "_law_turn", "_law_text", "_law_slope", "_law_lone", "_law_rules", "_law_near", "_law_size", "_law_one", "_law_kept", "_law_told"] ["_law_script"] (defScope s_law) := ⟨rfl, rfl, rfl, by decide +kernel, rfl, by decide +kernel, by decide +kernel⟩
abbrev P0 : Program := PySem.Challenge.pw_heldplaces_k68_book_rules
abbrev cR (K : PySem.W.Frag) : Addr := He.ga K "BookRules"
/-- what the top has left -/
structure Tx (P : Program) (K : PySem.W.Frag) (mg : Str → Option Value) : Prop where
  d_told_number : DefX K mg "told_number" s_told_number
  d_told_atom : DefX K mg "told_atom" s_told_atom
  d_told_sum : DefX K mg "told_sum" s_told_sum
  d_need_book_size : DefX K mg "need_book_size" s_need_book_size
  m_BookRules_kept_rows : ∃ f fd, MetX K (cR K) "kept_rows" "BookRules.kept_rows" s_BookRules_kept_rows f fd
  m_BookRules_in_use : ∃ f fd, MetX K (cR K) "in_use" "BookRules.in_use" s_BookRules_in_use f fd
  m_BookRules_next_in_use : ∃ f fd, MetX K (cR K) "next_in_use" "BookRules.next_in_use" s_BookRules_next_in_use f fd
  m_BookRules_eq : ∃ f fd, MetX K (cR K) "__eq__" "BookRules.__eq__" s_BookRules_eq f fd
  d_l_begun_pen : DefX K mg "_law_begun_pen" s_l_begun_pen
  d_l_draw : DefX K mg "_law_draw" s_l_draw
  d_l_pick : DefX K mg "_law_pick" s_l_pick
  d_l_wide : DefX K mg "_law_wide" s_l_wide
  d_l_sum_text : DefX K mg "_law_sum_text" s_l_sum_text
  d_l_new_keep : DefX K mg "_law_new_keep" s_l_new_keep
  d_l_refused : DefX K mg "_law_refused" s_l_refused
  d_l_asked : DefX K mg "_law_asked" s_l_asked
  d_l_wrong_right : DefX K mg "_law_wrong_right" s_l_wrong_right
  d_law : DefX K mg "law" s_law
  mk_BookRules : ∃ f fd, mg "BookRules" = some (.ref (cR K)) ∧ Mk K (cR K) f ∧ FunD K "__init__" "BookRules.__init__" (defArgs s_BookRules_init) (defBody s_BookRules_init) (defScope s_BookRules_init) [] [] f fd
  cl_BookRules : Cls K (cR K)
  ne_BookRules : PySem.W.findIn K (.ref (cR K)) "__ne__" = some (some (.builtin "object.__ne__"))
  ns_BookRules : PySem.W.notFirst K (cR K) (.type "str") = true
  g_BookRules : mg "BookRules" = some (.ref (cR K))
  g_HeldError : mg "HeldError" = some (.ref (He.ga K "HeldError"))
  ca_BookRules : PySem.W.findIn K (.ref (cR K)) "__class__" = some (some (.builtin "object.__class__"))
  cn_obj : PySem.W.specialIn K (.builtin "object.__class__") "__get__" = some (some (.builtin "getset_descriptor.__get__"))
  ct_obj : PySem.W.takesIn K (.builtin "object.__class__") = some true
  cm_BookRules : PySem.W.mroIn K (cR K) (.type "object") = some true
  ks_BookRules : PySem.W.kitOne K (.type "str") (.ref (cR K)) = some false
  na_keep : NoAttr K (cR K) "keep"
  na_slope : NoAttr K (cR K) "slope"
  na_lone : NoAttr K (cR K) "lone"
  e_BadSize : ErrX.ErrTxt P K ["size"] (He.ga K "BadSize")
  g_BadSize : mg "BadSize" = some (.ref (He.ga K "BadSize"))
  k_BadSize : ErrK K (He.ga K "BadSize")
  e_BadSum : ErrX.ErrTxt P K ["text"] (He.ga K "BadSum")
  g_BadSum : mg "BadSum" = some (.ref (He.ga K "BadSum"))
  k_BadSum : ErrK K (He.ga K "BadSum")
  x_ss : PySem.W.exmOne K (.ref (He.ga K "BadSum")) (.ref (He.ga K "BadSum")) = some true
  x_zs : PySem.W.exmOne K (.ref (He.ga K "BadSize")) (.ref (He.ga K "BadSum")) = some false
  x_zz : PySem.W.exmOne K (.ref (He.ga K "BadSize")) (.ref (He.ga K "BadSize")) = some true
  i_s : PySem.W.kitOne K (.ref (He.ga K "BadSum")) (.ref (He.ga K "HeldError")) = some true
  i_z : PySem.W.kitOne K (.ref (He.ga K "BadSize")) (.ref (He.ga K "HeldError")) = some true
  b_len : mg "len" = none
  b_int : mg "int" = none
  b_str : mg "str" = none
  b_isinstance : mg "isinstance" = none
  b_range : mg "range" = none
  b_enumerate : mg "enumerate" = none
  b_tuple : mg "tuple" = none
  b_list : mg "list" = none
  b_abs : mg "abs" = none
  b_sum : mg "sum" = none
  b_max : mg "max" = none
  b_repr : mg "repr" = none
  b_bool : mg "bool" = none
  c_MOST_FIGURES : ∃ t, mg "MOST_FIGURES" = some (.int 30 t)
  c_MOST_TERMS : ∃ t, mg "MOST_TERMS" = some (.int 4 t)
end K68


set_option Elab.async false
set_option linter.all false
set_option maxRecDepth 100000
set_option maxHeartbeats 4000000
/-! ### numbers, atoms and sums of texts: the plain functions -/
namespace Tld
open PySem L2
def isDig (c : Nat) : Bool := decide (48 ≤ c) && decide (c ≤ 57)
def numOk (cs : List Nat) : Bool := !cs.isEmpty && cs.all isDig && decide (cs.length ≤ 30) && !(decide (1 < cs.length) && (cs.head? == some 48))
/-- the number that a word writes -/
def tNum (w : Str) : Option Int := if numOk w.cps.toList = true then some ((NumText.digitsVal w.cps.toList : Nat) : Int) else none
def oI : Option Int → V
  | none => .non
  | some n => .int n
theorem uni_dig : ∀ c < 128, Unicode.isDigit c = isDig c := by decide +kernel
theorem len_tl (w : Str) : w.cps.toList.length = w.length := Array.length_toList
theorem asc_dig {w : Str} (h : Txt.isascii w = true) : Txt.isdigit w = (!w.cps.toList.isEmpty && w.cps.toList.all isDig) := by
  have h1 : ∀ c ∈ w.cps.toList, c < 128 := fun c hc => by
    have z : w.cps.all (· < 128) = true := h
    rw [← Array.all_toList] at z
    exact of_decide_eq_true (List.all_eq_true.mp z c hc)
  show (decide (w.length > 0) && w.cps.all Unicode.isDigit) = _
  rw [← Array.all_toList]
  have e1 : w.cps.toList.all Unicode.isDigit = w.cps.toList.all isDig := by
    rw [Bool.eq_iff_iff, List.all_eq_true, List.all_eq_true]
    exact ⟨fun z c hc => by rw [← uni_dig c (h1 c hc)]; exact z c hc, fun z c hc => by rw [uni_dig c (h1 c hc)]; exact z c hc⟩
  rw [e1]
  congr 1
  have e2 := len_tl w
  cases e : w.cps.toList with
  | nil => rw [e] at e2; rw [← e2]; rfl
  | cons a r => rw [e] at e2; rw [← e2]; rfl
theorem not_asc {w : Str} (h : Txt.isascii w = false) : numOk w.cps.toList = false := by
  cases z : numOk w.cps.toList with
  | false => rfl
  | true =>
    unfold numOk at z
    rw [Bool.and_eq_true, Bool.and_eq_true, Bool.and_eq_true] at z
    have q : w.cps.all (· < 128) = true := by
      rw [← Array.all_toList, List.all_eq_true]
      intro c hc
      have d := List.all_eq_true.mp z.1.1.2 c hc
      unfold isDig at d
      rw [Bool.and_eq_true, decide_eq_true_eq, decide_eq_true_eq] at d
      exact decide_eq_true (by omega)
    have h' : w.cps.all (· < 128) = false := h
    rw [q] at h'
    cases h'
theorem num_int {w : Str} (h : numOk w.cps.toList = true) : intText? w = some ((NumText.digitsVal w.cps.toList : Nat) : Int) := by
  unfold numOk at h
  rw [Bool.and_eq_true, Bool.and_eq_true, Bool.and_eq_true] at h
  refine intText_digits (fun c hc => ?_) (fun z => ?_) ?_
  · have d := List.all_eq_true.mp h.1.1.2 c hc
    unfold isDig at d
    rw [Bool.and_eq_true, decide_eq_true_eq, decide_eq_true_eq] at d
    exact d
  · rw [z] at h
    exact nomatch h.1.1.1
  · have z := of_decide_eq_true h.1.2
    rw [len_tl] at z
    omega
def oS : Option Str → V
  | none => .non
  | some z => .str z
def tAtom (ns : List Str) (z : Str) : Option (Int × Option Str) := if z ∈ ns then some (1, some z) else (tNum z).map fun n => (n, none)
end Tld
namespace K68
open PySem PySem.Spec PyProof.Rows L2 Tld
section
variable {P : Program} {w : World} {K : PySem.W.Frag} {mg : Str → Option Value} {base : Heap}
def spNum : Sp := fun vs H Q _ => ∃ z : Str, vs = [.str z] ∧ z.length ≤ 1000000 ∧ Q (oI (tNum z)) H
theorem ok_told_number (T : Tx P K mg) : FnX P w K mg base CX0 1 "told_number" ["word"] [] spNum := by
  refine T.d_told_number.ok0 sc_told_number (fun _ _ _ _ _ _ us hl => match us, hl with | [_], _ => rfl) (fun vs H Q E h => ?_) (fun f cdv A outer s H vs Q E hr h => ⟨_, (by exact (pss_cons (ps_if (PW.pt (pw_or (pt_not (pt_val (pe_m0 PySem.F.slot_str_isascii PySem.F.type_str_isascii mt_isascii (pv 0)))) (pw_or (pt_not (pt_val (pe_m0 PySem.F.slot_str_isdigit PySem.F.type_str_isdigit mt_isdigit (pv 0)))) (pw_or (pt_cmpR op_gt (pe_callB call_len_str (by rfl) T.b_len (by decide +kernel) (pa_cons (pv 0) pa_nil)) (pe_gint T.c_MOST_FIGURES) (nomark _)) (pw_or1 (PW.pt (pw_and (pt_cmpR op_gt (pe_callB call_len_str (by rfl) T.b_len (by decide +kernel) (pa_cons (pv 0) pa_nil)) pe_int (nomark _)) (pw_and1 (pt_cmpR op_eq (pe_ix ix_str (pv 0) pe_int (fun _ _ => rfl)) pe_str (nomark _)))))))))) (pss_one (ps_ret pe_non)) pss_nil)
      (pss_one (ps_ret (pe_callTy call_int_str (by rfl) T.b_int (by decide +kernel) (pa_cons (pv 0) pa_nil)))))), ?_⟩)
  · obtain ⟨z, rfl, _⟩ := h
    rfl
  obtain ⟨z, rfl, hl, hQ⟩ := h
  have hsz : z.length ≤ sizeLine := Nat.le_trans hl (by decide)
  refine ⟨_, rfl, ⟨_, rfl⟩, _, rfl, rfl, trivial, _, rfl, ?_⟩
  refine iteB (fun h1 => ?_) (fun h1 => ?_)
  · have h1' : Txt.isascii z = false := by cases q : Txt.isascii z <;> rw [q] at h1 <;> first | rfl | cases h1
    have e : tNum z = none := if_neg (by rw [not_asc h1']; decide)
    rw [e] at hQ
    exact iteT hQ
  have a1 : Txt.isascii z = true := by cases q : Txt.isascii z <;> rw [q] at h1 <;> first | rfl | cases h1
  refine ⟨_, rfl, ⟨_, rfl⟩, _, rfl, rfl, trivial, _, rfl, ?_⟩
  have ed := asc_dig a1
  refine iteB (fun h2 => ?_) (fun h2 => ?_)
  · have h2' : (!z.cps.toList.isEmpty && z.cps.toList.all isDig) = false := by rw [← ed]; cases q : Txt.isdigit z <;> rw [q] at h2 <;> first | rfl | cases h2
    have e : tNum z = none := if_neg (by unfold numOk; rw [h2', Bool.false_and, Bool.false_and]; exact Bool.false_ne_true)
    rw [e] at hQ
    exact iteT hQ
  have a2 : (!z.cps.toList.isEmpty && z.cps.toList.all isDig) = true := by rw [← ed]; cases q : Txt.isdigit z <;> rw [q] at h2 <;> first | rfl | cases h2
  refine ⟨_, rfl, _, rfl, hsz, _, _, rfl, rfl, _, rfl, ?_⟩
  have el := len_tl z
  refine iteB (fun h3 => ?_) (fun h3 => ?_)
  · have h3' := of_decide_eq_true h3
    have e : tNum z = none := if_neg (by unfold numOk; rw [a2, decide_eq_false (show ¬ z.cps.toList.length ≤ 30 by omega), Bool.and_false, Bool.false_and]; exact Bool.false_ne_true)
    rw [e] at hQ
    exact iteT hQ
  have h3' := of_decide_eq_false h3
  refine ⟨_, rfl, _, rfl, hsz, _, _, rfl, rfl, _, rfl, ?_⟩
  have a3 : decide (z.cps.toList.length ≤ 30) = true := decide_eq_true (by omega)
  refine iteB (fun h4 => ?_) (fun h4 => ?_)
  · have h4' := of_decide_eq_true h4
    obtain ⟨c, r, ec⟩ : ∃ c r, z.cps.toList = c :: r := by
      cases q : z.cps.toList with
      | nil => rw [q] at el; simp at el; omega
      | cons c r => exact ⟨c, r, rfl⟩
    refine ⟨_, rfl, _, _, c, rfl, rfl, hsz, ?_, rfl, _, rfl, ?_⟩
    · rw [ec]
      exact atI_nat (j := 0) rfl
    refine iteB (fun h5 => ?_) (fun h5 => ?_)
    · have h5' : c = 48 := by
        have q := of_decide_eq_true h5
        have q2 : (⟨#[c]⟩ : Str) = Str.ofString "0" := V.str.inj q
        have q3 := congrArg (fun y : Str => y.cps.toList) q2
        have q4 : ([c] : List Nat) = [48] := q3
        exact List.head_eq_of_cons_eq q4
      have e : tNum z = none := if_neg (by unfold numOk; rw [a2, a3, ec, h5', decide_eq_true (show 1 < (48 :: r).length by rw [← h5', ← ec]; omega)]; exact Bool.false_ne_true)
      rw [e] at hQ
      exact hQ
    · have h5' : c ≠ 48 := fun q => by
        have q2 := of_decide_eq_false h5
        exact q2 (by rw [q]; rfl)
      have ok : numOk z.cps.toList = true := by
        unfold numOk
        rw [a2, a3, ec]
        have q : (([c] ++ r).head? == some 48) = false := by
          show (some c == some 48) = false
          simpa using h5'
        rw [show (c :: r).head? = ([c] ++ r).head? from rfl, q, Bool.and_false]
        rfl
      have e : tNum z = some _ := if_pos ok
      rw [e] at hQ
      exact ⟨_, rfl, _, _, rfl, num_int ok, by omega, hQ⟩
  · have h4' := of_decide_eq_false h4
    have ok : numOk z.cps.toList = true := by
      unfold numOk
      rw [a2, a3, decide_eq_false (show ¬ 1 < z.cps.toList.length by omega)]
      rfl
    have e : tNum z = some _ := if_pos ok
    rw [e] at hQ
    exact iteF ⟨_, rfl, _, _, rfl, num_int ok, by omega, hQ⟩

def spAtom (K : PySem.W.Frag) : Sp := fun vs H Q _ => ∃ (z : Str) (b : Addr) (ns : List Str), vs = [.str z, .ref b] ∧ SqT K H b (ns.map V.str) ∧ z.length ≤ 1000000 ∧
  (tAtom ns z = none → Q .non H) ∧ ∀ n o p, tAtom ns z = some (n, o) → H p = none → Q (.ref p) (upd H p (.tup [.int n, oS o]))
theorem ok_told_atom (T : Tx P K mg) : FnX P w K mg base CX0 2 "told_atom" ["word", "names"] [] (spAtom K) := by
  have F_told_number := ok_told_number (P := P) (w := w) (base := base) T
  refine T.d_told_atom.ok0 sc_told_atom (fun _ _ _ _ _ _ us hl => match us, hl with | [_, _], _ => rfl) (fun vs H Q E h => ?_) (fun f cdv A outer s H vs Q E hr h => ⟨_, (by exact (pss_cons (ps_if (pt_cmpR op_in_seq (pv 0) (pv 1) (by rfl)) (pss_one (ps_ret (pe_tup (pa_cons pe_int (pa_cons (pv 0) pa_nil))))) pss_nil)
      (pss_cons (ps_set (i := 2) sc_told_atom.nd rfl (Or.inl rfl) (pe_callX F_told_number (hr.mono (by decide)) pass0 (pa_cons (pv 0) pa_nil)))
      (pss_one (ps_ret (pe_ifExp (pt_cmpR op_isN (pv 2) pe_non (nomark _)) pe_non (pe_tup (pa_cons (pv 2) (pa_cons pe_non pa_nil))))))))), ?_⟩)
  · obtain ⟨z, b, ns, rfl, _⟩ := h
    rfl
  obtain ⟨z, b, ns, rfl, hb, hl, h0, h1⟩ := h
  refine ⟨_, rfl, _, rfl, _, _, rfl, .inr hb, rfl, flat_strs ns, _, rfl, ?_⟩
  rw [inV_str]
  refine iteB (fun c => ?_) (fun c => ?_)
  · have c' := of_decide_eq_true c
    refine ⟨_, rfl, (by show 2 ≤ sizeLine; decide), fun p hp => h1 1 (some z) p (if_pos c') hp⟩
  have c' := of_decide_eq_false c
  refine ⟨_, rfl, z, rfl, hl, ?_⟩
  have ea : tAtom ns z = (tNum z).map fun n => (n, none) := if_neg c'
  refine ⟨_, rfl, rfl, _, rfl, ?_⟩
  cases e : tNum z with
  | none =>
    rw [e] at ea
    exact iteT (h0 ea)
  | some n =>
    rw [e] at ea
    refine iteF ?_
    exact ⟨_, rfl, (by show 2 ≤ sizeLine; decide), fun p hp => h1 n none p ea hp⟩
end
end K68


set_option Elab.async false
set_option linter.all false
set_option maxRecDepth 100000
set_option maxHeartbeats 4000000
namespace Tld
open PySem L2
def inSeen (seen : List Str) : Option Str → Bool
  | none => false
  | some x => decide (x ∈ seen)
/-- the rest of a sum's words, from the place i on; all: the words -/
def tGo (ns all : List Str) : Nat → List Str → List (Int × Option Str) → List Str → Option (List (Int × Option Str))
  | _, [], found, _ => some found
  | i, z :: r, found, seen =>
    if i % 2 = 1 then (if z ∈ ([Str.ofString "+", Str.ofString "-"] : List Str) then tGo ns all (i + 1) r found seen else none)
    else match tAtom ns z with
      | none => none
      | some (n, o) => if inSeen seen o = true then none else
          tGo ns all (i + 1) r (found ++ [(if 0 < i ∧ all[i - 1]? = some (Str.ofString "-") then -n else n, o)]) (match o with | none => seen | some x => x :: seen)
def tSum (ns ws : List Str) : Option (List (Int × Option Str)) := if ws.length % 2 = 0 ∨ 7 < ws.length then none else tGo ns ws 0 ws [] []
/-- what stands for an atom -/
def AtR (H : Hp) (v : V) (q : Int × Option Str) : Prop := ∃ p, v = .ref p ∧ H p = some (.tup [.int q.1, oS q.2])
theorem AtR.up {H H' : Hp} {v : V} {q : Int × Option Str} (e : TupLe H H') (h : AtR H v q) : AtR H' v q := by
  obtain ⟨p, h1, h2⟩ := h
  exact ⟨p, h1, e _ _ h2⟩
abbrev AtsR (H : Hp) (vs : List V) (qs : List (Int × Option Str)) : Prop := Paired (AtR H) vs qs
theorem AtsR.up {H H' : Hp} (e : TupLe H H') : ∀ {vs : List V} {qs : List (Int × Option Str)}, AtsR H vs qs → AtsR H' vs qs
  | _, _, .nil => .nil
  | _, _, .cons a b => .cons (a.up e) (AtsR.up e b)
theorem AtsR.snoc {H : Hp} {v : V} {q : Int × Option Str} (h : AtR H v q) : ∀ {vs : List V} {qs : List (Int × Option Str)}, AtsR H vs qs → AtsR H (vs ++ [v]) (qs ++ [q])
  | _, _, .nil => .cons h .nil
  | _, _, .cons a b => .cons a (AtsR.snoc h b)
/-- the dict of the names that are seen -/
structure SeenOk (kvs : List (Option Key × V)) (seen : List Str) : Prop where
  nn : valV kvs none = some (.bl false)
  yes : ∀ x, x ∈ seen → valV kvs (some (Sum.inr x)) = some (.bl true)
  no : ∀ x, x ∉ seen → valV kvs (some (Sum.inr x)) = none
theorem seen_start : SeenOk [(none, .bl false)] [] := ⟨rfl, fun _ h => absurd h (by simp), fun _ _ => rfl⟩
theorem SeenOk.put {kvs : List (Option Key × V)} {seen : List Str} (h : SeenOk kvs seen) (o : Option Str) :
    SeenOk (putK kvs (o.map Sum.inr) (.bl (!decide (oS o = .non)))) (match o with | none => seen | some x => x :: seen) := by
  cases o with
  | none =>
    refine ⟨by rw [valV_put]; rfl, fun x hx => ?_, fun x hx => ?_⟩
    · rw [valV_put, if_neg (by intro z; cases z)]; exact h.yes x hx
    · rw [valV_put, if_neg (by intro z; cases z)]; exact h.no x hx
  | some y =>
    have e : (!decide (oS (some y) = .non)) = true := rfl
    rw [e]
    refine ⟨by rw [valV_put, if_neg (by intro z; cases z)]; exact h.nn, fun x hx => ?_, fun x hx => ?_⟩
    · rw [valV_put]
      by_cases q : x = y
      · subst q; exact if_pos rfl
      · rw [if_neg (by intro z; injection z with z; injection z with z; exact q z)]
        exact h.yes x (by rcases List.mem_cons.mp hx with z | z; exact absurd z q; exact z)
    · rw [valV_put, if_neg (by intro z; injection z with z; injection z with z; exact hx (by rw [z]; exact List.mem_cons_self))]
      exact h.no x fun z => hx (List.mem_cons_of_mem _ z)
theorem SeenOk.get {kvs : List (Option Key × V)} {seen : List Str} (h : SeenOk kvs seen) (o : Option Str) : (valV kvs (o.map Sum.inr)).getD (.bl false) = .bl (inSeen seen o) := by
  cases o with
  | none => exact congrArg (fun z : Option V => z.getD (.bl false)) h.nn
  | some x =>
    show (valV kvs (some (Sum.inr x))).getD _ = .bl (decide (x ∈ seen))
    by_cases q : x ∈ seen
    · rw [h.yes x q, decide_eq_true q]; rfl
    · rw [h.no x q, decide_eq_false q]; rfl
theorem nV_oS (o : Option Str) : oS o = nV (o.map Sum.inr) := by cases o <;> rfl
end Tld
namespace K68
open PySem PySem.Spec PyProof.Rows L2 Tld
section
variable {P : Program} {w : World} {K : PySem.W.Frag} {mg : Str → Option Value} {base : Heap}
def spSum (K : PySem.W.Frag) : Sp := fun vs H Q _ => ∃ (a b : Addr) (ws ns : List Str), vs = [.ref a, .ref b] ∧ SqL K H a (ws.map V.str) ∧ SqT K H b (ns.map V.str) ∧ (∀ z ∈ ws, z.length ≤ 1000000) ∧
  (tSum ns ws = none → ∀ H', Same H H' → Q .non H') ∧ ∀ qs vs p H', tSum ns ws = some qs → Same H H' → H' p = some (.tup vs) → AtsR H' vs qs → H p = none → Q (.ref p) H'
theorem ok_told_sum (T : Tx P K mg) : FnX P w K mg base CX0 3 "told_sum" ["words", "names"] [] (spSum K) := by
  have F_told_atom := ok_told_atom (P := P) (w := w) (base := base) T
  refine T.d_told_sum.ok0 sc_told_sum (fun _ _ _ _ _ _ us hl => match us, hl with | [_, _], _ => rfl) (fun vs H Q E h => ?_) (fun f cdv A outer s H vs Q E hr h => ⟨_, (by exact (pss_cons (ps_if (PW.pt (pw_or (pt_cmpR op_eq (pe_op op_mod (pe_callB call_len_seq (by rfl) T.b_len (by decide +kernel) (pa_cons (pv 0) pa_nil)) pe_int) pe_int (nomark _)) (pw_or1 (pt_cmpR op_gt (pe_callB call_len_seq (by rfl) T.b_len (by decide +kernel) (pa_cons (pv 0) pa_nil)) (pe_op op_sub (pe_op op_mul pe_int (pe_gint T.c_MOST_TERMS)) pe_int) (nomark _))))) (pss_one (ps_ret pe_non)) pss_nil)
      (pss_cons (ps_par (i := 2) (j := 3) (by rfl) sc_told_sum.nd rfl rfl (by decide) rfl rfl (pa_cons (pe_lst pa_nil) (pa_cons (pe_dispN (pps_cons pe_non pe_bl pps_nil) (by rfl) (by rfl) (fun z => by cases z) (by decide)) pa_nil)) (by rfl))
      (pss_cons (ps_for PassesOwn.never rfl (pi_enum rfl T.b_enumerate (pa_cons (pv 0) pa_nil)) (pg_tup rfl (pgs_cons (pg_name (i := 4) sc_told_sum.nd rfl (Or.inl rfl)) (pgs_cons (pg_name (i := 5) sc_told_sum.nd rfl (Or.inl rfl)) pgs_nil)))
        (pss_cons (ps_if (pt_cmpR op_eq (pe_op op_mod (pv 4) pe_int) pe_int (nomark _)) (pss_cons (ps_if (pt_cmpR op_notIn_seq (pv 5) (pe_tup (pa_cons pe_str (pa_cons pe_str pa_nil))) (by rfl)) (pss_one (ps_ret pe_non)) pss_nil)
      (pss_one ps_continue)) pss_nil)
      (pss_cons (ps_set (i := 6) sc_told_sum.nd rfl (Or.inl rfl) (pe_callX F_told_atom (hr.mono (by decide)) pass0 (pa_cons (pv 5) (pa_cons (pv 1) pa_nil))))
      (pss_cons (ps_if (PW.pt (pw_or (pt_cmpR op_isN (pv 6) pe_non (nomark _)) (pw_or1 (pt_val (pe_dget2N (pv 3) (pe_ix ix_tup (pv 6) pe_int (fun _ _ => rfl)) pe_bl ⟨rfl, rfl, rfl, rfl⟩))))) (pss_one (ps_ret pe_non)) pss_nil)
      (pss_cons (ps_dputN (pv 3) (pe_ix ix_tup (pv 6) pe_int (fun _ _ => rfl)) (pe_cmpR op_notN (pe_ix ix_tup (pv 6) pe_int (fun _ _ => rfl)) pe_non (nomark _)) rfl)
      (pss_one (ps_expr (pe_bm PySem.F.plainAttrs_list PySem.F.slot_list_append PySem.F.type_list_append mt_append (pv 2) (pa_cons (pe_ifExp (PW.pt (pw_and (pt_cmpR op_gt (pv 4) pe_int (nomark _)) (pw_and1 (pt_cmpR op_eq (pe_ix ix_list (pv 0) (pe_op op_sub (pv 4) pe_int) (fun _ _ => rfl)) pe_str (nomark _))))) (pe_tup (pa_cons (pe_un un_neg (pe_ix ix_tup (pv 6) pe_int (fun _ _ => rfl))) (pa_cons (pe_ix ix_tup (pv 6) pe_int (fun _ _ => rfl)) pa_nil))) (pv 6)) pa_nil)))))))))
      (pss_one (ps_ret (pe_callTy call_tuple_of (by rfl) T.b_tuple (by decide +kernel) (pa_cons (pv 2) pa_nil)))))))), ?_⟩)
  · obtain ⟨a, b, ws, ns, rfl, _⟩ := h
    rfl
  obtain ⟨a, b, ws, ns, rfl, ha, hb, hl, h0, h1⟩ := h
  have lw : (ws.map V.str).length = ws.length := List.length_map ..
  refine ⟨_, rfl, _, _, rfl, .inl ha, _, _, rfl, rfl, (by show (0 : Int) < 2; decide), rfl, _, rfl, ?_⟩
  rw [lw]
  refine iteB (fun c => ?_) (fun c => ?_)
  · have c' : ws.length % 2 = 0 := by have z := V.int.inj (of_decide_eq_true c); omega
    exact iteT (h0 (if_pos (.inl c')) H (Same.refl H))
  have c1 : ¬ ws.length % 2 = 0 := fun z => of_decide_eq_false c (congrArg V.int (show ((ws.length : Int) % 2) = 0 by omega))
  refine ⟨_, rfl, _, _, rfl, .inl ha, _, _, rfl, rfl, .inl ⟨by decide, by decide⟩, _, _, rfl, rfl, _, _, rfl, rfl, _, rfl, ?_⟩
  rw [lw]
  refine iteB (fun c => ?_) (fun c => ?_)
  · have c' := of_decide_eq_true c
    exact h0 (if_pos (.inr (by omega))) H (Same.refl H)
  have c2 : ¬ 7 < ws.length := fun z => of_decide_eq_false c (by omega)
  have es : tSum ns ws = tGo ns ws 0 ws [] [] := if_neg (by omega)
  refine ⟨(by show 0 ≤ sizeLine; decide), fun fl hfl sd hsd => ⟨upd_same, [(none, .bl false)], rfl, (by decide), _, _, rfl, ?_⟩⟩
  have sdne : fl ≠ sd := ne_of_none (H := upd H fl (.lst [])) upd_same hsd
  have hsd0 : H sd = none := by rw [upd_ne (Ne.symm sdne)] at hsd; exact hsd
  rw [upd_upd]
  have S0 : Same H (upd (upd H fl (.lst [])) sd (dN P w sd [(none, .bl false)])) := ((Same.refl H).mut hfl).mut hsd0
  refine ⟨_, rfl, a, _, rfl, S0.seq ha, for_enum (xs := ws.map V.str) (fun i σ H' => ∃ (v4 v5 v6 : Option V) (fvs : List V) (kvs : List (Option Key × V)) (found : List (Int × Option Str)) (seen : List Str),
      σ = [some (.ref a), some (.ref b), some (.ref fl), some (.ref sd), v4, v5, v6] ∧ Same H H' ∧ H' fl = some (.lst fvs) ∧ H' sd = some (dN P w sd kvs) ∧ AtsR H' fvs found ∧ SeenOk kvs seen ∧ kvs.length ≤ i + 1 ∧ fvs.length ≤ i ∧ tGo ns ws i (ws.drop i) found seen = tSum ns ws)
    ⟨none, none, none, [], _, [], [], rfl, S0, ?_, upd_same, .nil, seen_start, Nat.le_refl _, Nat.le_refl _, es.symm⟩ (fun i σ H' _ h => ?_) ?_ ?_⟩
  · rw [upd_ne sdne]; exact upd_same
  · obtain ⟨_, _, _, _, _, _, _, _, S, _⟩ := h
    exact S.seq ha
  · rintro i x σ H' hx ⟨v4, v5, v6, fvs, kvs, found, seen, rfl, S, hf, hs, hA, hS, lk, lf, eG⟩ Tp hTp
    obtain ⟨z, hz, rfl⟩ : ∃ z, ws[i]? = some z ∧ x = .str z := by
      rw [List.getElem?_map] at hx
      cases e : ws[i]? with
      | none => rw [e] at hx; cases hx
      | some z => rw [e] at hx; exact ⟨z, rfl, (Option.some.inj hx).symm⟩
    have hi : i < ws.length := (List.getElem?_eq_some_iff.mp hz).1
    have ed : ws.drop i = z :: ws.drop (i + 1) := by
      rw [List.drop_eq_getElem_cons hi]
      congr 1
      exact (List.getElem?_eq_some_iff.mp hz).2
    rw [ed] at eG
    have S1 : Same H (upd H' Tp (.tup [.int (i : Nat), .str z])) := S.trans (Same.new hTp)
    have hf1 : upd H' Tp (.tup [.int (i : Nat), .str z]) fl = some (.lst fvs) := by rw [upd_ne (ne_of_none hf hTp)]; exact hf
    have hs1 : upd H' Tp (.tup [.int (i : Nat), .str z]) sd = some (dN P w sd kvs) := by rw [upd_ne (ne_of_none hs hTp)]; exact hs
    have hA1 : AtsR (upd H' Tp (.tup [.int (i : Nat), .str z])) fvs found := hA.up (TupLe.new hTp)
    refine ⟨Tp, _, rfl, SqT.of upd_same, rfl, _, _, rfl, _, _, rfl, rfl, ?_⟩
    generalize upd H' Tp (.tup [.int (i : Nat), .str z]) = H1 at *
    refine ⟨_, rfl, _, _, rfl, rfl, (by show (0 : Int) < 2; decide), rfl, _, rfl, ?_⟩
    refine iteB (fun c => ?_) (fun c => ?_)
    · have c' : i % 2 = 1 := by have q := V.int.inj (of_decide_eq_true c); omega
      unfold tGo at eG
      rw [if_pos c'] at eG
      refine ⟨_, rfl, (by show 2 ≤ sizeLine; decide), fun pq hpq => ⟨pq, _, rfl, .inr (SqT.of upd_same), rfl, rfl, _, rfl, ?_⟩⟩
      have e1 : inV (.str z) [V.str (Str.ofString "+"), V.str (Str.ofString "-")] = decide (z ∈ ([Str.ofString "+", Str.ofString "-"] : List Str)) := inV_str z [Str.ofString "+", Str.ofString "-"]
      show if (!inV (.str z) [V.str (Str.ofString "+"), V.str (Str.ofString "-")]) = true then _ else _
      rw [e1]
      have S2 : Same H (upd H1 pq (.tup [.str (Str.ofString "+"), .str (Str.ofString "-")])) := S1.trans (Same.new hpq)
      refine iteB (fun d => ?_) (fun d => ?_)
      · rw [if_neg (fun q => by rw [decide_eq_true q] at d; cases d)] at eG
        exact h0 eG.symm _ S2
      · have d' : z ∈ ([Str.ofString "+", Str.ofString "-"] : List Str) := by
          cases q : decide (z ∈ ([Str.ofString "+", Str.ofString "-"] : List Str)) with
          | true => exact of_decide_eq_true q
          | false => rw [q] at d; cases d
        rw [if_pos d'] at eG
        exact ⟨_, _, _, fvs, kvs, found, seen, rfl, S2, by rw [upd_ne (ne_of_none hf1 hpq)]; exact hf1, by rw [upd_ne (ne_of_none hs1 hpq)]; exact hs1, hA1.up (TupLe.new hpq), hS, by omega, by omega, eG⟩
    · have c' : ¬ i % 2 = 1 := fun q => of_decide_eq_false c (congrArg V.int (show ((i : Int) % 2) = 1 by omega))
      unfold tGo at eG
      rw [if_neg c'] at eG
      refine ⟨_, rfl, _, rfl, z, b, ns, rfl, S1.seqT hb, hl z (List.mem_of_getElem? hz), fun e => ?_, fun n o p e hp => ?_⟩
      · rw [e] at eG
        exact ⟨_, rfl, rfl, _, rfl, iteT (iteT (h0 eG.symm _ S1))⟩
      · rw [e] at eG
        dsimp only at eG
        have S2 : Same H (upd H1 p (.tup [.int n, oS o])) := S1.trans (Same.new hp)
        have hf2 : upd H1 p (.tup [.int n, oS o]) fl = some (.lst fvs) := by rw [upd_ne (ne_of_none hf1 hp)]; exact hf1
        have hs2 : upd H1 p (.tup [.int n, oS o]) sd = some (dN P w sd kvs) := by rw [upd_ne (ne_of_none hs1 hp)]; exact hs1
        have hp2 : upd H1 p (.tup [.int n, oS o]) p = some (.tup [.int n, oS o]) := upd_same
        have hA2 : AtsR (upd H1 p (.tup [.int n, oS o])) fvs found := hA1.up (TupLe.new hp)
        generalize upd H1 p (.tup [.int n, oS o]) = H2 at *
        refine ⟨_, rfl, rfl, _, rfl, iteF ?_⟩
        refine ⟨_, rfl, sd, kvs, rfl, hs2, _, rfl, p, _, _, _, rfl, rfl, SqT.of hp2, atI_nat (j := 1) rfl, kvs, o.map Sum.inr, hs2, nV_oS o, _, hS.get o, ?_⟩
        refine iteB (fun d => ?_) (fun d => ?_)
        · rw [if_pos d] at eG
          exact h0 eG.symm _ S2
        rw [if_neg (by rw [d]; exact Bool.false_ne_true)] at eG
        refine ⟨_, rfl, p, _, _, _, rfl, rfl, SqT.of hp2, atI_nat (j := 1) rfl, rfl, _, rfl, _, rfl, p, _, _, _, rfl, rfl, SqT.of hp2, atI_nat (j := 1) rfl, sd, kvs, o.map Sum.inr, rfl, hs2, nV_oS o, small1000 (by omega), ?_⟩
        have hS3 := hS.put o
        have S3 : Same H (upd H2 sd (dN P w sd (putK kvs (o.map Sum.inr) (.bl (!decide (oS o = .non)))))) := S2.mut hsd0
        have TL : TupLe H2 (upd H2 sd (dN P w sd (putK kvs (o.map Sum.inr) (.bl (!decide (oS o = .non)))))) := TupLe.mut hs2 (fun xs q => nomatch (show HO.ext _ = HO.tup xs from q))
        have hf3 : upd H2 sd (dN P w sd (putK kvs (o.map Sum.inr) (.bl (!decide (oS o = .non))))) fl = some (.lst fvs) := by rw [upd_ne sdne]; exact hf2
        have hs3 : upd H2 sd (dN P w sd (putK kvs (o.map Sum.inr) (.bl (!decide (oS o = .non))))) sd = some (dN P w sd (putK kvs (o.map Sum.inr) (.bl (!decide (oS o = .non))))) := upd_same
        have lk3 : (putK kvs (o.map Sum.inr) (.bl (!decide (oS o = .non)))).length ≤ i + 1 + 1 := by have q := length_putK kvs (o.map Sum.inr) (.bl (!decide (oS o = .non))); omega
        have hp3 := TL _ _ hp2
        have hA3 := hA2.up TL
        generalize putK kvs (o.map Sum.inr) (.bl (!decide (oS o = .non))) = kvs3 at *
        have put : ∀ (v : V) (H4 : Hp) (m : Int), AtR H4 v (m, o) → Same H H4 → H4 fl = some (.lst fvs) → H4 sd = some (dN P w sd kvs3) → AtsR H4 fvs found → m = (if 0 < i ∧ ws[i - 1]? = some (Str.ofString "-") then -n else n) →
            ∃ l xs y, V.ref fl = .ref l ∧ [v] = [y] ∧ H4 l = some (.lst xs) ∧ xs.length < sizeLine ∧ ∃ (v4 v5 v6 : Option V) (fvs : List V) (kvs : List (Option Key × V)) (found : List (Int × Option Str)) (seen : List Str),
              [some (V.ref a), some (.ref b), some (.ref fl), some (.ref sd), some (.int (i : Int)), some (.str z), some (.ref p)] = [some (.ref a), some (.ref b), some (.ref fl), some (.ref sd), v4, v5, v6] ∧ Same H (upd H4 l (.lst (xs ++ [y]))) ∧ (upd H4 l (.lst (xs ++ [y]))) fl = some (.lst fvs) ∧ (upd H4 l (.lst (xs ++ [y]))) sd = some (dN P w sd kvs) ∧ AtsR (upd H4 l (.lst (xs ++ [y]))) fvs found ∧ SeenOk kvs seen ∧ kvs.length ≤ i + 1 + 1 ∧ fvs.length ≤ i + 1 ∧ tGo ns ws (i + 1) (ws.drop (i + 1)) found seen = tSum ns ws := by
          intro v H4 m hv S4 hf4 hs4 hA4 em
          have TL4 : TupLe H4 (upd H4 fl (.lst (fvs ++ [v]))) := TupLe.mut hf4 (fun xs q => nomatch q)
          refine ⟨fl, fvs, v, rfl, rfl, hf4, small1000 (by omega), _, _, _, fvs ++ [v], kvs3, _, _, rfl, S4.mut hfl, upd_same, by rw [upd_ne (Ne.symm sdne)]; exact hs4, (AtsR.snoc (hv.up TL4) (hA4.up TL4)), hS3, lk3, by simp; omega, ?_⟩
          rw [em]
          exact eG
        refine ⟨_, rfl, .inl ⟨rfl, _, SqL.of hf3⟩, ?_⟩
        have neg : 0 < i → ws[i - 1]? = some (Str.ofString "-") → ∀ (pn : Addr), (upd H2 sd (dN P w sd kvs3)) pn = none → _ := fun g1 g2 pn hpn => put (.ref pn) (upd (upd H2 sd (dN P w sd kvs3)) pn (.tup [.int (-n), oS o])) (-n) ⟨pn, rfl, upd_same⟩ (S3.trans (Same.new hpn)) (by rw [upd_ne (ne_of_none hf3 hpn)]; exact hf3) (by rw [upd_ne (ne_of_none hs3 hpn)]; exact hs3) (hA3.up (TupLe.new hpn)) (if_pos ⟨g1, g2⟩).symm
        have pos : ¬ (0 < i ∧ ws[i - 1]? = some (Str.ofString "-")) → _ := fun g => put (.ref p) (upd H2 sd (dN P w sd kvs3)) n ⟨p, rfl, hp3⟩ S3 hf3 hs3 hA3 (if_neg g).symm
        refine ⟨_, rfl, _, _, rfl, rfl, _, rfl, ?_⟩
        refine iteB (fun g => ?_) (fun g => ?_)
        · have g' : 0 < i := by have q := of_decide_eq_true g; omega
          obtain ⟨y, hy⟩ : ∃ y, ws[i - 1]? = some y := ⟨ws[i - 1], List.getElem?_eq_getElem (by omega)⟩
          have hyx : (ws.map V.str)[i - 1]? = some (.str y) := by rw [List.getElem?_map, hy]; rfl
          refine ⟨_, rfl, _, rfl, _, _, rfl, rfl, a, _, _, .str y, rfl, rfl, S3.seq ha, ?_, rfl, _, rfl, ?_⟩
          · have q : ((i : Int) - 1) = ((i - 1 : Nat) : Int) := by omega
            show atI (ws.map V.str) ((i : Int) - 1) = _
            rw [q]
            exact atI_nat hyx
          refine iteB (fun k => ?_) (fun k => ?_)
          · have k' : y = Str.ofString "-" := V.str.inj (of_decide_eq_true k)
            rw [k'] at hy
            refine ⟨_, rfl, p, _, _, _, rfl, rfl, SqT.of hp3, atI_nat (j := 0) rfl, _, rfl, _, rfl, p, _, _, _, rfl, rfl, SqT.of hp3, atI_nat (j := 1) rfl, (by show 2 ≤ sizeLine; decide), fun pn hpn => neg g' hy pn hpn⟩
          · refine ⟨_, rfl, pos fun q => ?_⟩
            rw [hy] at q
            exact of_decide_eq_false k (congrArg V.str (Option.some.inj q.2))
        · refine iteF ⟨_, rfl, pos fun q => ?_⟩
          exact of_decide_eq_false g (by omega)
  · rintro σ H' ⟨v4, v5, v6, fvs, kvs, found, seen, rfl, S, hf, hs, hA, hS, lk, lf, eG⟩
    rw [lw, List.drop_length] at eG
    refine ⟨_, rfl, fl, _, rfl, .inl ⟨SqL.of hf, fun p hp => ?_⟩⟩
    exact h1 found fvs p _ eG.symm (S.trans (Same.new hp)) upd_same (hA.up (TupLe.new hp)) (S.free hp)
end
end K68


set_option Elab.async false
set_option linter.all false
set_option maxRecDepth 100000
set_option maxHeartbeats 4000000
namespace K68
open PySem PySem.Spec PyProof.Rows L2 Tld
section
variable {P : Program} {w : World} {K : PySem.W.Frag} {mg : Str → Option Value} {base : Heap}
/-- a value that is no size: no int from 1 on -/
def goodSz : V → Bool
  | .int i => decide (1 ≤ i)
  | _ => false
def badSz (K : PySem.W.Frag) (E : XK) (v : V) (H : Hp) : Prop := ∀ d, H d = none → E (.ref (He.ga K "BadSize")) (some d) (upd H d (.xd [("size", v)]))
def spNeed (K : PySem.W.Frag) : Sp := fun vs H Q E => ∃ v, vs = [v] ∧ flatV v = true ∧ (goodSz v = true → Q .non H) ∧ (goodSz v = false → badSz K E v H)
theorem ok_need (T : Tx P K mg) : FnX P w K mg base (L2.CX P w) 3 "need_book_size" ["size"] [] (spNeed K) := by
  refine T.d_need_book_size.okX sc_need_book_size (fun _ _ _ _ _ _ us hl => match us, hl with | [_], _ => rfl) (fun vs H Q E h => ?_) (fun f cdv A outer s H vs Q E hr h => ⟨_, (by exact (pss_one (ps_if (PW.pt (pw_or (pt_val (pe_callB call_isi (by rfl) T.b_isinstance (by decide +kernel) (pa_cons (pv 0) (pa_cons (pe_bltn (v := .ty "bool") (by rfl) T.b_bool (by decide +kernel) rfl) pa_nil)))) (pw_or (pt_not (pt_val (pe_callB call_isi (by rfl) T.b_isinstance (by decide +kernel) (pa_cons (pv 0) (pa_cons (pe_bltn (v := .ty "int") (by rfl) T.b_int (by decide +kernel) rfl) pa_nil))))) (pw_or1 (pt_cmpR op_lt (pv 0) pe_int (nomark _)))))) (pss_one (ps_raise rfl (takes_of rfl rfl rfl rfl) (pmk_err T.e_BadSize T.g_BadSize hr (pa_cons (pv 0) pa_nil)))) pss_nil))), ?_⟩)
  · obtain ⟨v, rfl, _⟩ := h
    rfl
  obtain ⟨v, rfl, hf, h0, h1⟩ := h
  have bad : ∀ (H : Hp), badSz K E v H → tMkErr (He.ga K "BadSize") ["size"] (tCons (tVar 0) tNil) (start ["size"] [v]) H (fun cls d H' => E cls d H') := fun H hb => ⟨_, rfl, rfl, (fun z => absurd z (by simp)), fun _ d hd => hb d hd⟩
  obtain ⟨t, b1, b2, ty, k1, k2, e1, e2, e3⟩ : ∃ (t : Value) (b1 b2 : Bool), TyX K H v t ∧ PySem.W.kitOne K t (.type "bool") = some b1 ∧ PySem.W.kitOne K t (.type "int") = some b2 ∧ (b1 = true → goodSz v = false) ∧ (b2 = false → goodSz v = false) ∧ (b1 = false → b2 = true → ∃ i, v = .int i) := by
    cases v with
    | int i => exact ⟨_, false, true, .base (.int i), kit_ty (by decide +kernel), kit_ty (by decide +kernel), (fun z => nomatch z), (fun z => nomatch z), fun _ _ => ⟨i, rfl⟩⟩
    | bl i => exact ⟨_, true, true, .base (.bl i), kit_ty (by decide +kernel), kit_ty (by decide +kernel), (fun _ => rfl), (fun _ => rfl), fun z => nomatch z⟩
    | str i => exact ⟨_, false, false, .base (.str i), kit_ty (by decide +kernel), kit_ty (by decide +kernel), (fun _ => rfl), (fun _ => rfl), fun _ z => nomatch z⟩
    | non => exact ⟨_, false, false, .base .non, kit_ty (by decide +kernel), kit_ty (by decide +kernel), (fun _ => rfl), (fun _ => rfl), fun _ z => nomatch z⟩
    | byt _ => cases hf
    | flt _ => cases hf
    | ref _ => cases hf
    | ty _ => cases hf
  refine ⟨_, rfl, _, _, t, .type "bool", b1, rfl, .ty _, ty, k1, _, rfl, ?_⟩
  refine iteB (fun c => iteT (bad H (h1 (e1 c)))) (fun c => ?_)
  refine ⟨_, rfl, _, _, t, .type "int", b2, rfl, .ty _, ty, k2, _, rfl, ?_⟩
  refine iteB (fun c2 => iteT (bad H (h1 (e2 (by cases b2 <;> first | rfl | cases c2))))) (fun c2 => ?_)
  obtain ⟨i, rfl⟩ := e3 c (by cases b2 <;> first | rfl | cases c2)
  refine ⟨_, rfl, _, _, rfl, rfl, _, rfl, ?_⟩
  refine iteB (fun c3 => bad H (h1 (decide_eq_false (by have := of_decide_eq_true c3; omega)))) (fun c3 => h0 (decide_eq_true (by have := of_decide_eq_false c3; omega)))
/-- all but the object at x is as it was -/
def SameBut (x : Addr) (H H' : Hp) : Prop := ∀ b o, b ≠ x → H b = some o → H' b = some o
def slopeOf (qs : List (Int × Option Str)) : Int := ((qs.filter fun q => q.2.isSome).map (·.1)).sum
def loneOf (qs : List (Int × Option Str)) : Int := ((qs.filter fun q => !q.2.isSome).map (·.1)).sum
def sepS : Str := Str.ofString " "
def keepQs : V → Option (List (Int × Option Str))
  | .str z => tSum [Str.ofString "size"] (Txt.split z sepS)
  | _ => none
def insR (C dx : Addr) (v : V) (s l : Int) : HO := .ins C dx [("keep", v), ("slope", .int s), ("lone", .int l)]
def spInit (K : PySem.W.Frag) : Sp := fun vs H Q E => ∃ (x dx : Addr) (v : V), vs = [.ref x, v] ∧ H x = some (.ins (cR K) dx []) ∧ flatV v = true ∧ (∀ z, v = .str z → z.length ≤ 1000) ∧
  (∀ qs H', keepQs v = some qs → SameBut x H H' → H' x = some (insR (cR K) dx v (slopeOf qs) (loneOf qs)) → Q .non H') ∧
  (keepQs v = none → ∀ d H', Same H H' → H' d = none → E (.ref (He.ga K "BadSum")) (some d) (upd H' d (.xd [("text", v)])))
theorem split_len (x y : Str) : ∀ z ∈ Txt.split x y, z.length ≤ x.length := fun z hz => by
  have e := StrLaws.join_split x y
  have key : ∀ (l : List (List Nat)) (z : List Nat), z ∈ l → z.length ≤ (TL.joinL (TL.tl y) l).length := by
    intro l
    induction l with
    | nil => intro z hz; cases hz
    | cons a r ih =>
      intro z hz
      cases r with
      | nil =>
        rcases List.mem_cons.mp hz with q | q
        · subst q; exact Nat.le_refl _
        · cases q
      | cons b r =>
        show z.length ≤ (a ++ (TL.tl y ++ TL.joinL (TL.tl y) (b :: r))).length
        rw [List.length_append, List.length_append]
        rcases List.mem_cons.mp hz with q | q
        · subst q; omega
        · have := ih z q; omega
  have q := key _ _ (List.mem_map_of_mem (f := TL.tl) hz)
  rw [← TL.tl_join, e] at q
  rw [TL.len_tl, TL.len_tl]
  exact q
theorem tGo_len {ns all : List Str} : ∀ {r : List Str} {i : Nat} {found qs : List (Int × Option Str)} {seen : List Str}, tGo ns all i r found seen = some qs → qs.length ≤ found.length + r.length
  | [], i, found, qs, seen, h => by
    unfold tGo at h
    cases h
    simp
  | z :: r, i, found, qs, seen, h => by
    unfold tGo at h
    split at h
    · split at h
      · have q := tGo_len h
        simp; omega
      · cases h
    · split at h
      · cases h
      · split at h
        · cases h
        · have q := tGo_len h
          simp at q ⊢
          omega
theorem tSum_len {ns ws : List Str} {qs : List (Int × Option Str)} (h : tSum ns ws = some qs) : qs.length ≤ 7 := by
  unfold tSum at h
  split at h
  · cases h
  · have q := tGo_len h
    simp at q
    omega
/-- sum([factor for factor, name in found if ..]) -/
theorem sum_lc {f : Int × Option Str → Bool} {tt : TT} {σ : L2.St} {H : Hp} {Q : VK} {p : Addr} {vs : List V} {qs : List (Int × Option Str)} (hσ : σ.length = 5) (hp : σ[2]? = some (some (.ref p))) (hv : H p = some (.tup vs)) (hA : AtsR H vs qs) (hl : vs.length ≤ 1000)
    (htt : ∀ (q : Int × Option Str) (σ' : L2.St) (H' : Hp) (R : Bool → Hp → Prop), σ'[4]? = some (some (oS q.2)) → R (f q) H' → tt σ' H' R)
    (hQ : ∀ H', Same H H' → Q (.int ((qs.filter f).map (·.1)).sum) H') :
    tCB (rSum K) (tCons (tLc (iTup K (tVar 2)) (gTup K 2 (gCons (gName 3) (gCons (gName 4) gNil))) tt (tVar 3) [3, 4]) tNil) σ H Q := by
  have hlen : vs.length = qs.length := Paired.length hA
  obtain ⟨s0, s1, s2, s3, s4, rfl⟩ : ∃ s0 s1 s2 s3 s4, σ = [s0, s1, s2, s3, s4] := by
    match σ, hσ with
    | [a, b, c, d, e], _ => exact ⟨a, b, c, d, e, rfl⟩
  refine ⟨_, hp, p, rfl, ⟨_, SqT.of hv⟩, fun D hD => lc_tup (xs := vs) (fun i H' => Same H H' ∧ H' D = some (.lst ((((qs.take i).filter f).map (·.1)).map V.int))) ⟨Same.new hD, upd_same⟩ (fun i H' _ h => h.1.seqT (SqT.of hv)) ?_ ?_⟩
  · rintro i x H' hx ⟨S, hd⟩
    have hi : i < vs.length := (List.getElem?_eq_some_iff.mp hx).1
    obtain ⟨q, hq, ar⟩ : ∃ q, qs[i]? = some q ∧ AtR H x q := by
      clear hp hQ htt hd S hD hv
      revert i qs
      induction vs with
      | nil => intro qs _ _ i hx; simp at hx
      | cons v r ih =>
        intro qs hA hlen i hx hi
        cases hA with
        | cons a b =>
          cases i with
          | zero => simp at hx; subst hx; exact ⟨_, rfl, a⟩
          | succ j =>
            obtain ⟨q, h1, h2⟩ := ih (by simp at hl; omega) b (by simpa using hlen) j (by simpa using hx) (by simpa using hi)
            exact ⟨q, by simpa using h1, h2⟩
    obtain ⟨pp, rfl, hpp⟩ := ar
    have tk : qs.take (i + 1) = qs.take i ++ [q] := by
      rw [List.take_succ, hq]
      rfl
    refine ⟨pp, _, rfl, SqT.of (S _ _ hpp), rfl, _, _, rfl, _, _, rfl, rfl, ?_, ?_⟩
    · rfl
    · refine htt q _ _ _ rfl ?_
      refine iteB (fun c => ?_) (fun c => ?_)
      · refine ⟨.int q.1, rfl, _, hd, ?_, S.mut hD, ?_⟩
        · refine small1000 ?_
          rw [List.length_map, List.length_map]
          have z := List.length_filter_le f (qs.take i)
          have z2 := List.length_take_le i qs
          omega
        · rw [tk, List.filter_append, List.map_append, List.map_append]
          have e : List.filter f [q] = [q] := by simp [c]
          rw [e]
          exact upd_same
      · refine ⟨S, ?_⟩
        rw [tk, List.filter_append, List.map_append, List.map_append]
        have e : List.filter f [q] = [] := by simp [c]
        rw [e]
        simpa using hd
  · rintro H' ⟨S, hd⟩
    rw [hlen, List.take_length] at hd
    exact ⟨D, _, rfl, SqL.of hd, hQ H' S⟩

theorem ok_init (T : Tx P K mg) : MkX P w K mg base (L2.CX P w) 5 "BookRules" (cR K) ["self", "keep"] [] (spInit K) := by
  have F_told_sum := ok_told_sum (P := P) (w := w) (base := base) T
  obtain ⟨f, fd, hm, M, F⟩ := T.mk_BookRules
  refine ⟨f, fd, [], hm, M, F.bindsN (fun _ _ _ _ _ _ us hl => match us, hl with | [_, _], _ => rfl), .nil, F.ok sc_BookRules_init (fun vs H Q E h => ?_) (fun cdv A outer s H vs Q E hr h => ⟨_, (by exact (pss_cons (ps_set (i := 2) sc_BookRules_init.nd rfl (Or.inl rfl) (pe_ifExp (pt_val (pe_callB call_isi (by rfl) T.b_isinstance (by decide +kernel) (pa_cons (pv 1) (pa_cons (pe_bltn (v := .ty "str") (by rfl) T.b_str (by decide +kernel) rfl) pa_nil)))) (pe_callX F_told_sum (hr.mono (by decide)) pass0 (pa_cons (pe_split (pv 1) pe_str) (pa_cons (pe_tup (pa_cons pe_str pa_nil)) pa_nil))) pe_non))
      (pss_cons (ps_if (pt_cmpR op_isN (pv 2) pe_non (nomark _)) (pss_one (ps_raise rfl (takes_of rfl rfl rfl rfl) (pmk_err T.e_BadSum T.g_BadSum hr (pa_cons (pv 1) pa_nil)))) pss_nil)
      (pss_cons (ps_fld (pv 0) (pv 1) rfl)
      (pss_cons (ps_fld (pv 0) (pe_callB (cr_sum rfl) (by rfl) T.b_sum (by decide +kernel) (pa_cons (pe_lc (own := [("factor", 3), ("name", 4)]) (g := (gTup K 2 (gCons (gName 3) (gCons (gName 4) gNil))))  (by rfl) sc_BookRules_init.nd (pi_tup (pv 2)) (blkOk_by (own := [("factor", 3), ("name", 4)]) (N := ["self", "keep", "found", "factor", "name"]) (sc := defScope s_BookRules_init) (by decide +kernel)) (fun _ _ _ _ _ => (pg_tup rfl (pgs_cons (pg_name (i := 3) sc_BookRules_init.nd rfl (Or.inl rfl)) (pgs_cons (pg_name (i := 4) sc_BookRules_init.nd rfl (Or.inl rfl)) pgs_nil)))) (fun _ _ _ _ _ => (pts_one (pt_cmpR op_notN (pv 4) pe_non (nomark _)))) (fun _ _ _ _ _ => (pv 3))) pa_nil)) rfl)
      (pss_one (ps_fld (pv 0) (pe_callB (cr_sum rfl) (by rfl) T.b_sum (by decide +kernel) (pa_cons (pe_lc (own := [("factor", 3), ("name", 4)]) (g := (gTup K 2 (gCons (gName 3) (gCons (gName 4) gNil))))  (by rfl) sc_BookRules_init.nd (pi_tup (pv 2)) (blkOk_by (own := [("factor", 3), ("name", 4)]) (N := ["self", "keep", "found", "factor", "name"]) (sc := defScope s_BookRules_init) (by decide +kernel)) (fun _ _ _ _ _ => (pg_tup rfl (pgs_cons (pg_name (i := 3) sc_BookRules_init.nd rfl (Or.inl rfl)) (pgs_cons (pg_name (i := 4) sc_BookRules_init.nd rfl (Or.inl rfl)) pgs_nil)))) (fun _ _ _ _ _ => (pts_one (pt_cmpR op_isN (pv 4) pe_non (nomark _)))) (fun _ _ _ _ _ => (pv 3))) pa_nil)) rfl))))))), ?_⟩)⟩
  · obtain ⟨x, dx, v, rfl, _⟩ := h
    rfl
  obtain ⟨x, dx, v, rfl, hx, hf, hz, h1, h0⟩ := h
  have bad : keepQs v = none → ∀ (H' : Hp) (σ : L2.St), σ[1]? = some (some v) → Same H H' → tMkErr (He.ga K "BadSum") ["text"] (tCons (tVar 1) tNil) σ H' (fun cls d H' => E cls d H') :=
    fun e H' σ hs S => ⟨_, hs, rfl, (fun z => absurd z (by simp)), fun _ d hd => h0 e d H' S hd⟩
  cases v with
  | str z =>
    refine ⟨_, rfl, _, _, .type "str", .type "str", true, rfl, .ty _, .base (.str z), kit_ty (by decide +kernel), _, rfl, iteT ?_⟩
    have hzl := hz z rfl
    have h2 : (sepS.length == 0) = false := by decide
    refine ⟨_, rfl, ⟨_, rfl⟩, z, sepS, rfl, rfl, h2, (by have q : sizeLine = 16777216 := sizeLine_eq; omega), fun pw hpw => ?_⟩
    refine ⟨(by show 1 ≤ sizeLine; decide), fun pn hpn => ?_⟩
    have S1 : Same H (upd (upd H pw (.lst ((Txt.split z sepS).map V.str))) pn (.tup [.str (Str.ofString "size")])) := (Same.new hpw).trans (Same.new hpn)
    have hw1 : upd (upd H pw (.lst ((Txt.split z sepS).map V.str))) pn (.tup [.str (Str.ofString "size")]) pw = some (.lst ((Txt.split z sepS).map V.str)) := Same.new hpn _ _ upd_same
    have hn1 : upd (upd H pw (.lst ((Txt.split z sepS).map V.str))) pn (.tup [.str (Str.ofString "size")]) pn = some (.tup ([Str.ofString "size"].map V.str)) := upd_same
    refine ⟨pw, pn, Txt.split z sepS, [Str.ofString "size"], rfl, SqL.of hw1, SqT.of hn1, fun y hy => ?_, fun e H' S => ?_, fun qs vs p H' e S hp hA hpn => ?_⟩
    · have q := split_len z sepS y hy
      omega
    · exact ⟨_, rfl, rfl, _, rfl, iteT (bad e H' _ rfl (S1.trans S))⟩
    · refine ⟨_, rfl, rfl, _, rfl, iteF ?_⟩
      have S2 := S1.trans S
      have hx2 := S2 _ _ hx
      have na : ∀ f : Str, NoAttr K (cR K) f → ∀ fs, H' x = some (.ins (cR K) dx fs) → True := fun _ _ _ _ => trivial
      refine ⟨_, rfl, _, rfl, x, cR K, dx, _, rfl, hx2, T.cl_BookRules, T.na_keep, by decide, ?_⟩
      have lq : vs.length ≤ 1000 := by
        have q1 : vs.length = qs.length := Paired.length hA
        have q2 := tSum_len e
        omega
      have px : p ≠ x := ne_of hp hx2 (fun z => nomatch z)
      have TL : TupLe H' (upd H' x (.ins (cR K) dx [("keep", .str z)])) := TupLe.mut hx2 (fun xs q => nomatch q)
      refine sum_lc (f := fun q => q.2.isSome) rfl rfl (TL _ _ hp) (hA.up TL) lq (fun q σ' H'' R e4 hR => ⟨_, e4, rfl, _, rfl, ?_⟩) (fun H4 S4 => ?_)
      · cases e5 : q.2 <;> rw [e5] at hR <;> exact hR
      refine ⟨_, rfl, x, cR K, dx, _, rfl, S4 _ _ upd_same, T.cl_BookRules, T.na_slope, (by show 1 < 1000; decide), ?_⟩
      have TL2 : TupLe H4 (upd H4 x (.ins (cR K) dx [("keep", .str z), ("slope", .int (slopeOf qs))])) := TupLe.mut (S4 _ _ upd_same) (fun xs q => nomatch q)
      have TL4 := TL.trans (S4.tups.trans TL2)
      refine sum_lc (f := fun q => !q.2.isSome) rfl rfl (TL4 _ _ hp) (hA.up TL4) lq (fun q σ' H'' R e4 hR => ⟨_, e4, rfl, _, rfl, ?_⟩) (fun H5 S5 => ?_)
      · cases e5 : q.2 <;> rw [e5] at hR <;> exact hR
      refine ⟨_, rfl, x, cR K, dx, _, rfl, S5 _ _ upd_same, T.cl_BookRules, T.na_lone, (by show 2 < 1000; decide), ?_⟩
      refine h1 qs _ e (fun b o hb ho => ?_) upd_same
      rw [upd_ne hb]
      refine S5 _ _ ?_
      rw [upd_ne hb]
      refine S4 _ _ ?_
      rw [upd_ne hb]
      exact S2 _ _ ho
  | non =>
    refine ⟨_, rfl, _, _, .type "NoneType", .type "str", false, rfl, .ty _, .base .non, kit_ty (by decide +kernel), _, rfl, iteF ?_⟩
    exact ⟨_, rfl, rfl, _, rfl, iteT (bad rfl H _ rfl (Same.refl H))⟩
  | int i =>
    refine ⟨_, rfl, _, _, .type "int", .type "str", false, rfl, .ty _, .base (.int i), kit_ty (by decide +kernel), _, rfl, iteF ?_⟩
    exact ⟨_, rfl, rfl, _, rfl, iteT (bad rfl H _ rfl (Same.refl H))⟩
  | bl i =>
    refine ⟨_, rfl, _, _, .type "bool", .type "str", false, rfl, .ty _, .base (.bl i), kit_ty (by decide +kernel), _, rfl, iteF ?_⟩
    exact ⟨_, rfl, rfl, _, rfl, iteT (bad rfl H _ rfl (Same.refl H))⟩
  | byt _ => cases hf
  | flt _ => cases hf
  | ref _ => cases hf
  | ty _ => cases hf
end
end K68


set_option Elab.async false
set_option linter.all false
set_option maxRecDepth 100000
set_option maxHeartbeats 4000000
namespace K68
open PySem PySem.Spec PyProof.Rows L2 Tld
section
variable {P : Program} {w : World} {K : PySem.W.Frag} {mg : Str → Option Value} {base : Heap}
/-- book rules at x: their text, slope and lone number -/
def RuAt (K : PySem.W.Frag) (H : Hp) (x : Addr) (z : Str) (s l : Int) : Prop := (∃ dx, H x = some (insR (cR K) dx (.str z) s l)) ∧ (s = 0 ∨ s = 1 ∨ s = -1)
def spKept (K : PySem.W.Frag) : Sp := fun vs H Q E => ∃ (x : Addr) (v : V) (z : Str) (s l : Int), vs = [.ref x, v] ∧ RuAt K H x z s l ∧ flatV v = true ∧ (∀ i, v = .int i → 1 ≤ i → Q (.int (s * i + l)) H) ∧ (goodSz v = false → badSz K E v H)
theorem ok_kept (T : Tx P K mg) : MeX P w K mg base (L2.CX P w) 4 (cR K) "kept_rows" ["self", "size"] [] (spKept K) := by
  have F_need_book_size := ok_need (P := P) (w := w) (base := base) T
  refine MetX.okX T.m_BookRules_kept_rows sc_BookRules_kept_rows (fun _ _ _ _ _ _ us hl => match us, hl with | [_, _], _ => rfl) (fun vs H Q E h => ?_) (fun f cdv A outer s H vs Q E hr h => ⟨_, (by exact (pss_cons (ps_expr (pe_callX F_need_book_size (hr.mono (by decide)) passOut (pa_cons (pv 1) pa_nil)))
      (pss_one (ps_ret (pe_op op_add (pe_op op_mul (pe_fld (pv 0) rfl) (pv 1)) (pe_fld (pv 0) rfl)))))), ?_⟩)
  · obtain ⟨x, v, z, s, l, rfl, _⟩ := h
    rfl
  obtain ⟨x, v, z, s, l, rfl, ⟨⟨dx, hx⟩, hs⟩, hf, h1, h0⟩ := h
  refine ⟨_, rfl, v, rfl, hf, fun g => ?_, h0⟩
  obtain ⟨i, rfl⟩ : ∃ i, v = .int i := by cases v <;> first | exact ⟨_, rfl⟩ | cases g
  have g' : 1 ≤ i := of_decide_eq_true g
  exact ⟨_, rfl, x, cR K, dx, _, _, rfl, hx, T.cl_BookRules, T.na_slope, rfl, _, rfl, _, _, rfl, rfl, .inl (by omega), _, rfl, x, cR K, dx, _, _, rfl, hx, T.cl_BookRules, T.na_lone, rfl, _, _, rfl, rfl, h1 i rfl g'⟩
def useOk (s l i : Int) : Bool := decide (1 ≤ s * i + l) && decide (s * i + l ≤ i)
def spUse (K : PySem.W.Frag) : Sp := fun vs H Q E => ∃ (x : Addr) (v : V) (z : Str) (s l : Int), vs = [.ref x, v] ∧ RuAt K H x z s l ∧ flatV v = true ∧ (∀ i, v = .int i → 1 ≤ i → Q (.bl (useOk s l i)) H) ∧ (goodSz v = false → badSz K E v H)
theorem ok_use (T : Tx P K mg) : MeX P w K mg base (L2.CX P w) 5 (cR K) "in_use" ["self", "size"] [] (spUse K) := by
  have F_BookRules_kept_rows := ok_kept (P := P) (w := w) (base := base) T
  refine MetX.okX T.m_BookRules_in_use sc_BookRules_in_use (fun _ _ _ _ _ _ us hl => match us, hl with | [_, _], _ => rfl) (fun vs H Q E h => ?_) (fun f cdv A outer s H vs Q E hr h => ⟨_, (by exact (pss_one (ps_ret (pe_chain op_le op_le pe_int (pe_methX F_BookRules_kept_rows (hr.mono (by decide)) passOut (pv 0) (pa_cons (pv 1) pa_nil)) (pv 1))))), ?_⟩)
  · obtain ⟨x, v, z, s, l, rfl, _⟩ := h
    rfl
  obtain ⟨x, v, z, s, l, rfl, R, hf, h1, h0⟩ := h
  obtain ⟨⟨dx, hx⟩, hs⟩ := id R
  refine ⟨_, rfl, x, dx, _, rfl, hx, rfl, _, rfl, x, v, z, s, l, rfl, R, hf, fun i e g => ?_, h0⟩
  subst e
  have hq := h1 i rfl g
  refine ⟨_, _, rfl, rfl, _, rfl, ?_⟩
  refine iteB (fun c => ?_) (fun c => ?_)
  · refine ⟨_, rfl, _, _, rfl, rfl, ?_⟩
    unfold useOk at hq
    rw [c] at hq
    exact hq
  · unfold useOk at hq
    rw [c] at hq
    exact hq
def leastOf (s l : Int) : Int := if s = 0 then l else if s = 1 then 1 - l else (l + 1) / 2
def nextOf (s l i : Int) : Option Int := if useOk s l (if leastOf s l > i then leastOf s l else i) = true then some (if leastOf s l > i then leastOf s l else i) else none
def spNext (K : PySem.W.Frag) : Sp := fun vs H Q E => ∃ (x : Addr) (v : V) (z : Str) (s l : Int), vs = [.ref x, v] ∧ RuAt K H x z s l ∧ flatV v = true ∧ (∀ i H', v = .int i → 1 ≤ i → Same H H' → Q (oI (nextOf s l i)) H') ∧ (goodSz v = false → badSz K E v H)
theorem ok_next (T : Tx P K mg) : MeX P w K mg base (L2.CX P w) 6 (cR K) "next_in_use" ["self", "size"] [] (spNext K) := by
  have F_need_book_size := ok_need (P := P) (w := w) (base := base) T
  have F_BookRules_in_use := ok_use (P := P) (w := w) (base := base) T
  refine MetX.okX T.m_BookRules_next_in_use sc_BookRules_next_in_use (fun _ _ _ _ _ _ us hl => match us, hl with | [_, _], _ => rfl) (fun vs H Q E h => ?_) (fun f cdv A outer s H vs Q E hr h => have hu := hu_of hr; ⟨_, (by exact (pss_cons (ps_expr (pe_callX F_need_book_size (hr.mono (by decide)) passOut (pa_cons (pv 1) pa_nil)))
      (pss_cons (ps_set (i := 2) sc_BookRules_next_in_use.nd rfl (Or.inl rfl) (pe_dget hu (pe_disp (pps_cons pe_int (pe_fld (pv 0) rfl) (pps_cons pe_int (pe_op op_sub pe_int (pe_fld (pv 0) rfl)) (pps_cons (pe_un un_neg pe_int) (pe_op op_fdiv (pe_op op_add (pe_fld (pv 0) rfl) pe_int) pe_int) pps_nil))) (by rfl) (by rfl) (fun z => by cases z) (by decide)) (pe_fld (pv 0) rfl) (fun _ _ => rfl)))
      (pss_cons (ps_set (i := 3) sc_BookRules_next_in_use.nd rfl (Or.inl rfl) (pe_callB (call_max2 rfl) (by rfl) T.b_max (by decide +kernel) (pa_cons (pv 1) (pa_cons (pv 2) pa_nil))))
      (pss_one (ps_ret (pe_ifExp (pt_val (pe_methX F_BookRules_in_use (hr.mono (by decide)) passOut (pv 0) (pa_cons (pv 3) pa_nil))) (pv 3) pe_non))))))), ?_⟩)
  · obtain ⟨x, v, z, s, l, rfl, _⟩ := h
    rfl
  obtain ⟨x, v, z, s, l, rfl, R, hf, h1, h0⟩ := h
  obtain ⟨⟨dx, hx⟩, hs⟩ := id R
  refine ⟨_, rfl, v, rfl, hf, fun g => ?_, h0⟩
  obtain ⟨i, rfl⟩ : ∃ i, v = .int i := by cases v <;> first | exact ⟨_, rfl⟩ | cases g
  have g' : 1 ≤ i := of_decide_eq_true g
  refine fun pd hpd => ?_
  have hxd : upd H pd (.dK []) x = some (insR (cR K) dx (.str z) s l) := Same.new hpd _ _ hx
  refine ⟨_, rfl, x, cR K, dx, _, _, rfl, hxd, T.cl_BookRules, T.na_lone, rfl, _, rfl, x, cR K, dx, _, _, rfl, hxd, T.cl_BookRules, T.na_lone, rfl, _, _, rfl, rfl, _, rfl, _, rfl, x, cR K, dx, _, _, rfl, hxd, T.cl_BookRules, T.na_lone, rfl, _, _, rfl, rfl, _, _, rfl, rfl, ⟨by decide, by decide⟩, upd_same,
    [(Sum.inl 0, .int l), (Sum.inl 1, .int (1 - l)), (Sum.inl (-1), .int ((l + 1) / 2))], rfl, (by show 3 ≤ 15; decide), ?_⟩
  rw [upd_upd]
  have em : mergeK [] [(Sum.inl 0, .int l), (Sum.inl 1, .int (1 - l)), (Sum.inl (-1), .int ((l + 1) / 2))] = [(Sum.inl 0, .int l), (Sum.inl 1, .int (1 - l)), (Sum.inl (-1), .int ((l + 1) / 2))] := rfl
  rw [em]
  have S2 : Same H (upd H pd (.dK [(Sum.inl 0, .int l), (Sum.inl 1, .int (1 - l)), (Sum.inl (-1), .int ((l + 1) / 2))])) := Same.new hpd
  have hx2 := S2 _ _ hx
  have hd2 : upd H pd (.dK [(Sum.inl 0, .int l), (Sum.inl 1, .int (1 - l)), (Sum.inl (-1), .int ((l + 1) / 2))]) pd = some (.dK [(Sum.inl 0, .int l), (Sum.inl 1, .int (1 - l)), (Sum.inl (-1), .int ((l + 1) / 2))]) := upd_same
  generalize upd H pd (.dK [(Sum.inl 0, .int l), (Sum.inl 1, .int (1 - l)), (Sum.inl (-1), .int ((l + 1) / 2))]) = H2 at *
  have ev : valV [(Sum.inl 0, V.int l), (Sum.inl 1, .int (1 - l)), (Sum.inl (-1), .int ((l + 1) / 2))] (Sum.inl s : Key) = some (.int (leastOf s l)) := by
    rcases hs with rfl | rfl | rfl <;> rfl
  have dg : DGet H2 pd (.int s) (some (.int (leastOf s l))) := by rw [← ev]; exact DGet.k (k := Sum.inl s) hd2
  refine ⟨_, rfl, x, cR K, dx, _, _, rfl, hx2, T.cl_BookRules, T.na_slope, rfl, pd, _, rfl, dg, ?_⟩
  refine ⟨_, rfl, _, rfl, _, _, rfl, ?_⟩
  have hq := h1 i H2 rfl g' S2
  unfold nextOf at hq
  generalize em2 : (if leastOf s l > i then leastOf s l else i) = m at *
  have hm : 1 ≤ m := by rw [← em2]; split <;> omega
  refine ⟨_, rfl, x, dx, _, rfl, hx2, rfl, _, rfl, x, .int m, z, s, l, rfl, ⟨⟨dx, hx2⟩, hs⟩, rfl, fun j e _ => ?_, fun q => ?_⟩
  · cases e
    refine ⟨_, rfl, ?_⟩
    refine iteB (fun c => ?_) (fun c => ?_)
    · rw [if_pos c] at hq
      exact ⟨_, rfl, hq⟩
    · rw [if_neg (by rw [c]; exact Bool.false_ne_true)] at hq
      exact hq
  · exact absurd (of_decide_eq_false q) (by omega)
/-- == of rules and a value that is rules or a text -/
def eqTo (K : PySem.W.Frag) (H : Hp) (z : Str) (y : V) (b : Bool) : Prop := (∃ p z' s l, y = .ref p ∧ RuAt K H p z' s l ∧ b = decide (z = z')) ∨ ((∃ t, y = .str t) ∧ b = false)
def spEqR (K : PySem.W.Frag) : Sp := fun vs H Q E => ∃ (x : Addr) (y : V) (z : Str) (s l : Int) (b : Bool), vs = [.ref x, y] ∧ RuAt K H x z s l ∧ eqTo K H z y b ∧ Q (.bl b) H
theorem ok_eq (T : Tx P K mg) : MeX P w K mg base (L2.CX P w) 1 (cR K) "__eq__" ["self", "other"] [] (spEqR K) := by
  refine MetX.okX T.m_BookRules_eq sc_BookRules_eq (fun _ _ _ _ _ _ us hl => match us, hl with | [_, _], _ => rfl) (fun vs H Q E h => ?_) (fun f cdv A outer s H vs Q E hr h => ⟨_, (by exact (pss_one (ps_ret (pe_and (pe_callB call_isi (by rfl) T.b_isinstance (by decide +kernel) (pa_cons (pv 1) (pa_cons (pe_gref T.g_BookRules) pa_nil))) (pe_one (pe_cmpR op_eq (pe_fld (pv 0) rfl) (pe_fld (pv 1) rfl) (nomark _))))))), ?_⟩)
  · obtain ⟨x, y, z, s, l, b, rfl, _⟩ := h
    rfl
  obtain ⟨x, y, z, s, l, b, rfl, ⟨⟨dx, hx⟩, hs⟩, he, hQ⟩ := h
  rcases he with ⟨p, z', s', l', rfl, ⟨⟨dp, hp⟩, _⟩, rfl⟩ | ⟨⟨t, rfl⟩, rfl⟩
  · have kt : PySem.W.kitOne K (.ref (cR K)) (.ref (cR K)) = some true := by
      unfold PySem.W.kitOne
      rw [if_pos (by simp)]
    refine ⟨_, rfl, _, _, .ref (cR K), .ref (cR K), true, rfl, .own _, .base (.ins hp T.cl_BookRules T.ca_BookRules T.cn_obj T.ct_obj T.cm_BookRules), kt, _, rfl, iteT ?_⟩
    refine ⟨_, rfl, x, cR K, dx, _, _, rfl, hx, T.cl_BookRules, T.na_keep, rfl, _, rfl, p, cR K, dp, _, _, rfl, hp, T.cl_BookRules, T.na_keep, rfl, rfl, ?_⟩
    have e : decide (V.str z = V.str z') = decide (z = z') := by
      by_cases q : z = z'
      · rw [q]; simp
      · rw [decide_eq_false q, decide_eq_false (fun k => q (V.str.inj k))]
    rw [e]
    exact hQ
  · exact ⟨_, rfl, _, _, .type "str", .ref (cR K), false, rfl, .own _, .base (.str t), T.ks_BookRules, _, rfl, iteF hQ⟩
end
end K68


set_option Elab.async false
set_option linter.all false
set_option maxRecDepth 100000
set_option maxHeartbeats 4000000
namespace K68
open PySem PySem.Spec PyProof.Rows L2 Tld
section
variable {P : Program} {w : World} {K : PySem.W.Frag} {mg : Str → Option Value} {base : Heap}
theorem SameBut.refl {x : Addr} {H : Hp} : SameBut x H H := fun _ _ _ h => h
theorem SameBut.trans {x : Addr} {H H1 H2 : Hp} (a : SameBut x H H1) (b : SameBut x H1 H2) : SameBut x H H2 := fun c o n h => b c o n (a c o n h)
theorem SameBut.of {x : Addr} {H H1 : Hp} (a : Same H H1) : SameBut x H H1 := fun c o _ h => a c o h
theorem SameBut.put {x : Addr} {H : Hp} {o : HO} : SameBut x H (upd H x o) := fun c u n h => by rw [upd_ne n]; exact h
def penD (c : Addr) (t l : Int) : HO := .dK [(Sum.inr "cells", .ref c), (Sum.inr "turn", .int t), (Sum.inr "left", .int l)]
/-- the pen at d: at most n turns so far -/
def Pen (H : Hp) (d c : Addr) (n : Nat) : Prop := ∃ (cs : List Int) (t l : Int), H d = some (penD c t l) ∧ H c = some (.lst (cs.map V.int)) ∧ 0 ≤ t ∧ t ≤ n ∧ 0 ≤ l ∧ cs.length ≤ 63
theorem Pen.mono {H : Hp} {d c : Addr} {n m : Nat} (h : Pen H d c n) (hm : n ≤ m) : Pen H d c m := by
  obtain ⟨cs, t, l, h1, h2, h3, h4, h5⟩ := h
  exact ⟨cs, t, l, h1, h2, h3, by omega, h5⟩
theorem Pen.up {H H' : Hp} {d c : Addr} {n : Nat} (h : Pen H d c n) (e : Same H H') : Pen H' d c n := by
  obtain ⟨cs, t, l, h1, h2, h3⟩ := h
  exact ⟨cs, t, l, e _ _ h1, e _ _ h2, h3⟩
theorem dpInts {H : Hp} : ∀ cs : List Int, DpAll K H (cs.map V.int) (cs.map PyData.int)
  | [] => .nil
  | c :: r => .cons (.int c) (dpInts r)
def spBegun : Sp := fun vs H Q E => ∃ (a : Addr) (xs : List Int), vs = [.ref a] ∧ SqL K H a (xs.map V.int) ∧ ∀ d c H', H d = none → Same H H' → Pen H' d c 0 → Q (.ref d) H'
theorem cut_int (xs : List Int) (lo hi : Option Int) : ∃ ys : List Int, cutV (xs.map V.int) lo hi = ys.map V.int := by
  refine ⟨(xs.drop (HT.sIx (xs.map V.int).length 0 lo)).take (HT.sIx (xs.map V.int).length (xs.map V.int).length hi - HT.sIx (xs.map V.int).length 0 lo), ?_⟩
  unfold cutV
  rw [List.map_take, List.map_drop]
theorem sIx63 (n : Nat) : HT.sIx n n (some 63) ≤ 63 := by
  rw [show (63 : Int) = ((63 : Nat) : Int) from rfl, HT.sIx_nat]
  exact Nat.min_le_left _ _
theorem cl_ints : ∀ cs : List Int, PyData.canLayAll0 (cs.map PyData.int) = true
  | [] => rfl
  | c :: r => by
    show (PyData.canLay0 (.int c) && PyData.canLayAll0 (r.map PyData.int)) = true
    rw [cl_ints r]
    rfl
theorem dp_ints : ∀ cs : List Int, PyData.depthAll (cs.map PyData.int) = 0
  | [] => rfl
  | c :: r => by
    show max (PyData.depth (.int c)) (PyData.depthAll (r.map PyData.int)) = 0
    rw [dp_ints r]
    rfl
theorem shaped_ints (cs : List Int) : SeqAt.shaped (.list (cs.map PyData.int)) = true := by
  show (PyData.canLayAll0 (cs.map PyData.int) && decide (PyData.depthAll (cs.map PyData.int) + 1 ≤ 64)) = true
  rw [cl_ints, dp_ints]
  rfl
theorem cm {x m : Int} (h : 0 < m) (h2 : m ≤ 2 ^ 64) : -(2 ^ 64) < x % m ∧ x % m < 2 ^ 64 := by
  have h3 := Int.emod_nonneg x (b := m) (by omega)
  have h4 := Int.emod_lt_of_pos x h
  omega
theorem ok_begun (T : Tx P K mg) : FnX P w K mg base CX0 1 "_law_begun_pen" ["_law_script"] [] (spBegun (K := K)) := by
  refine T.d_l_begun_pen.ok0 sc_l_begun_pen (fun _ _ _ _ _ _ us hl => match us, hl with | [_], _ => rfl) (fun vs H Q E h => ?_) (fun f cdv A outer s H vs Q E hr h => have hu := hu_of hr; ⟨_, (by exact (pss_one (ps_ret (pe_disp (pps_cons pe_str (pe_callTy call_list_of (by rfl) T.b_list (by decide +kernel) (pa_cons (pe_slice sl_list (pv 0) po_none (po_some pe_int)) pa_nil)) (pps_cons pe_str pe_int (pps_cons pe_str pe_int pps_nil))) (by rfl) (by rfl) (fun z => by cases z) (by decide))))), ?_⟩)
  · obtain ⟨a, xs, rfl, _⟩ := h
    rfl
  obtain ⟨a, xs, rfl, ha, hq⟩ := h
  refine fun d hd => ?_
  obtain ⟨ys, ey⟩ := cut_int xs none (some 63)
  refine ⟨_, rfl, 63, rfl, a, _, rfl, (Same.new hd).seq ha, fun p hp => ⟨p, _, rfl, .inl (SqL.of upd_same), fun l hl => ?_⟩⟩
  rw [ey] at hl ⊢
  have hpd : p ≠ d := fun z => by subst z; rw [upd_same] at hp; cases hp
  have S1 : Same (upd H d (.dK [])) (upd (upd (upd H d (.dK [])) p (.lst (ys.map V.int))) l (.lst (ys.map V.int))) := (Same.new hp).trans (Same.new hl)
  have hl1 : (upd (upd (upd H d (.dK [])) p (.lst (ys.map V.int))) l (.lst (ys.map V.int))) l = some (.lst (ys.map V.int)) := upd_same
  generalize (upd (upd (upd H d (.dK [])) p (.lst (ys.map V.int))) l (.lst (ys.map V.int))) = H2 at *
  have hd2 : H2 d = some (.dK []) := S1 _ _ upd_same
  refine ⟨hd2, [(Sum.inr "cells", .ref l), (Sum.inr "turn", .int 0), (Sum.inr "left", .int 0)], rfl, (by show 3 ≤ 15; decide), ?_⟩
  refine hq d l _ hd (((Same.new hd).trans S1).mut hd) ⟨ys, 0, 0, upd_same, ?_, by omega, by omega, by omega, ?_⟩
  · rw [upd_ne (fun z => by subst z; rw [hl1] at hd2; cases hd2)]
    exact hl1
  · have q : (cutV (xs.map V.int) none (some 63)).length ≤ 63 := by
      unfold cutV
      rw [List.length_take]
      refine Nat.le_trans (Nat.min_le_left _ _) ?_
      have e63 : HT.sIx (xs.map V.int).length (xs.map V.int).length (some 63) ≤ 63 := sIx63 _
      omega
    rw [ey, List.length_map] at q
    exact q
section
variable {H : Hp} {d c : Addr} {t l : Int}
theorem pg_cells (h : H d = some (penD c t l)) : DGet H d (.str (Str.ofString "cells")) (some (.ref c)) := DGet.k (k := Sum.inr "cells") h
theorem pg_turn (h : H d = some (penD c t l)) : DGet H d (.str (Str.ofString "turn")) (some (.int t)) := DGet.k (k := Sum.inr "turn") h
theorem pg_left (h : H d = some (penD c t l)) : DGet H d (.str (Str.ofString "left")) (some (.int l)) := DGet.k (k := Sum.inr "left") h
theorem pp_turn (t' : Int) (h : H d = some (penD c t l)) : DPut H d (.str (Str.ofString "turn")) (.int t') (upd H d (penD c t' l)) := DPut.k (k := Sum.inr "turn") h (by show 3 < sizeLine; decide)
theorem pp_left (l' : Int) (h : H d = some (penD c t l)) : DPut H d (.str (Str.ofString "left")) (.int l') (upd H d (penD c t l')) := DPut.k (k := Sum.inr "left") h (by show 3 < sizeLine; decide)
end
/-- a draw below span -/
def spDraw : Sp := fun vs H Q E => ∃ (d c : Addr) (n : Nat) (sp : Int), vs = [.ref d, .int sp] ∧ Pen H d c n ∧ n < 2 ^ 40 ∧ 0 < sp ∧ sp < 1073741824 ∧ ∀ r H', 0 ≤ r → r < sp → SameBut d H H' → Pen H' d c (n + 1) → Q (.int r) H'
theorem ok_draw (T : Tx P K mg) : FnX P w K mg base CX0 1 "_law_draw" ["_law_pen", "_law_span"] [] spDraw := by
  refine T.d_l_draw.ok0 sc_l_draw (fun _ _ _ _ _ _ us hl => match us, hl with | [_, _], _ => rfl) (fun vs H Q E h => ?_) (fun f cdv A outer s H vs Q E hr h => have hu := hu_of hr; ⟨_, (by exact (pss_cons (ps_if (pt_cmpR op_gt (pe_dget hu (pv 0) pe_str (fun _ _ => rfl)) pe_int (nomark _)) (pss_cons (ps_set (i := 2) sc_l_draw.nd rfl (Or.inl rfl) (pe_op op_mod (pe_callTy call_int1 (by rfl) T.b_int (by decide +kernel) (pa_cons (pe_dget hu (pv 0) pe_str (fun _ _ => rfl)) pa_nil)) (pv 1)))
      (pss_cons (ps_dput hu (pv 0) pe_str (pe_op op_fdiv (pe_dget hu (pv 0) pe_str (fun _ _ => rfl)) (pv 1)) rfl)
      (pss_one (ps_ret (pv 2))))) pss_nil)
      (pss_cons (ps_set (i := 3) sc_l_draw.nd rfl (Or.inl rfl) (pe_dget hu (pv 0) pe_str (fun _ _ => rfl)))
      (pss_cons (ps_dput hu (pv 0) pe_str (pe_op op_add (pv 3) pe_int) rfl)
      (pss_cons (ps_set (i := 4) sc_l_draw.nd rfl (Or.inl rfl) (pe_op op_add (pe_op op_mul pe_int (pv 3)) pe_int))
      (pss_cons (ps_if (pt_cmpR (op_neD hr.units) (pe_dget hu (pv 0) pe_str (fun _ _ => rfl)) (pe_lst pa_nil) (nomark _)) (pss_one (ps_set (i := 4) sc_l_draw.nd rfl (Or.inl rfl) (pe_ix ix_list (pe_dget hu (pv 0) pe_str (fun _ _ => rfl)) (pe_op op_mod (pe_callTy call_int1 (by rfl) T.b_int (by decide +kernel) (pa_cons (pv 3) pa_nil)) (pe_callB call_len_seq (by rfl) T.b_len (by decide +kernel) (pa_cons (pe_dget hu (pv 0) pe_str (fun _ _ => rfl)) pa_nil))) (fun _ _ => rfl)))) pss_nil)
      (pss_cons (ps_if (PW.pt (pw_and (pt_cmpR op_lt (pv 3) (pe_callB call_len_seq (by rfl) T.b_len (by decide +kernel) (pa_cons (pe_dget hu (pv 0) pe_str (fun _ _ => rfl)) pa_nil)) (nomark _)) (pw_and1 (pt_cmpR op_ge (pe_callB call_abs (by rfl) T.b_abs (by decide +kernel) (pa_cons (pv 4) pa_nil)) (pe_op op_pow pe_int pe_int) (nomark _))))) (pss_cons (ps_dput hu (pv 0) pe_str (pe_op op_fdiv (pe_op op_sub (pe_callB call_abs (by rfl) T.b_abs (by decide +kernel) (pa_cons (pv 4) pa_nil)) (pe_op op_pow pe_int pe_int)) (pv 1)) rfl)
      (pss_one (ps_ret (pe_op op_mod (pe_callTy call_int1 (by rfl) T.b_int (by decide +kernel) (pa_cons (pe_op op_sub (pe_callB call_abs (by rfl) T.b_abs (by decide +kernel) (pa_cons (pv 4) pa_nil)) (pe_op op_pow pe_int pe_int)) pa_nil)) (pv 1))))) pss_nil)
      (pss_cons (ps_set (i := 5) sc_l_draw.nd rfl (Or.inl rfl) (pe_op op_mul (pe_op op_mod (pe_callTy call_int1 (by rfl) T.b_int (by decide +kernel) (pa_cons (pv 4) pa_nil)) pe_int) pe_int))
      (pss_cons (ps_set (i := 5) sc_l_draw.nd rfl (Or.inl rfl) (pe_op op_mod (pe_callTy call_int1 (by rfl) T.b_int (by decide +kernel) (pa_cons (pe_op op_add (pe_op op_add (pv 5) (pe_op op_mul (pv 3) (pe_op op_add (pe_op op_mul (pv 3) pe_int) pe_int))) pe_int) pa_nil)) pe_int))
      (pss_cons (ps_set (i := 5) sc_l_draw.nd rfl (Or.inl rfl) (pe_op op_mod (pe_callTy call_int1 (by rfl) T.b_int (by decide +kernel) (pa_cons (pe_op op_mul (pv 5) (pe_op op_add (pv 5) pe_int)) pa_nil)) pe_int))
      (pss_cons (ps_set (i := 5) sc_l_draw.nd rfl (Or.inl rfl) (pe_op op_mod (pe_callTy call_int1 (by rfl) T.b_int (by decide +kernel) (pa_cons (pe_op op_add (pe_op op_add (pe_op op_mul (pv 5) (pv 5)) (pe_op op_mul pe_int (pv 5))) (pe_op op_mul pe_int (pv 3))) pa_nil)) pe_int))
      (pss_one (ps_ret (pe_op op_mod (pe_callTy call_int1 (by rfl) T.b_int (by decide +kernel) (pa_cons (pe_op op_fdiv (pe_op op_mod (pe_callTy call_int1 (by rfl) T.b_int (by decide +kernel) (pa_cons (pe_op op_mul (pv 5) (pe_op op_add (pv 5) pe_int)) pa_nil)) pe_int) pe_int) pa_nil)) (pv 1))))))))))))))), ?_⟩)
  · obtain ⟨d, c, n, sp, rfl, _⟩ := h
    rfl
  obtain ⟨d, c, n, sp, rfl, ⟨cs, t, l, hd, hc, ht, htn, hl, hcs⟩, hn, s0, s1, hq⟩ := h
  have hcd : c ≠ d := fun z => by subst z; rw [hd] at hc; cases hc
  refine ⟨_, rfl, d, _, rfl, pg_left hd, _, _, rfl, rfl, _, rfl, ?_⟩
  refine iteB (fun g => ?_) (fun g => ?_)
  · refine ⟨_, rfl, d, _, rfl, pg_left hd, .inl ⟨_, rfl, _, rfl, _, _, rfl, rfl, s0, ?_⟩⟩
    refine ⟨_, rfl, d, _, rfl, pg_left hd, _, rfl, _, _, rfl, rfl, ⟨s0, s1⟩, _, rfl, d, _, rfl, pp_left _ hd, _, rfl, ?_⟩
    refine hq _ _ (Int.emod_nonneg _ (by omega)) (Int.emod_lt_of_pos _ s0) SameBut.put ⟨cs, t, l / sp, upd_same, ?_, ht, by omega, Int.ediv_nonneg hl (by omega), hcs⟩
    rw [upd_ne hcd]
    exact hc
  · refine ⟨_, rfl, d, _, rfl, pg_turn hd, ?_⟩
    refine ⟨_, rfl, _, _, rfl, rfl, _, rfl, d, _, rfl, pp_turn _ hd, ?_⟩
    have S1 : SameBut d H (upd H d (penD c (t + 1) l)) := SameBut.put
    have hd1 : upd H d (penD c (t + 1) l) d = some (penD c (t + 1) l) := upd_same
    have hc1 : upd H d (penD c (t + 1) l) c = some (.lst (cs.map V.int)) := by rw [upd_ne hcd]; exact hc
    generalize upd H d (penD c (t + 1) l) = H1 at *
    refine ⟨_, rfl, _, _, rfl, rfl, .inl ⟨by decide, by decide⟩, _, _, rfl, rfl, ?_⟩
    refine ⟨_, rfl, d, _, rfl, pg_cells hd1, (by show 0 ≤ sizeLine; decide), fun e he => ?_⟩
    have S2 : SameBut d H (upd H1 e (.lst [])) := S1.trans (SameBut.of (Same.new he))
    have hd2 : upd H1 e (.lst []) d = some (penD c (t + 1) l) := Same.new he _ _ hd1
    have hc2 : upd H1 e (.lst []) c = some (.lst (cs.map V.int)) := Same.new he _ _ hc1
    have he2 : upd H1 e (.lst []) e = some (.lst []) := upd_same
    generalize upd H1 e (.lst []) = H2 at *
    refine ⟨.list (cs.map PyData.int), .list [], .lst (SqL.of hc2) (dpInts cs), .lst (SqL.of he2) .nil, ?_, rfl, _, rfl, ?_⟩
    · exact shaped_ints cs
    refine iteB (fun g2 => ?_) (fun g2 => ?_)
    · have h0 : 0 < cs.length := by
        cases cs with
        | nil => cases g2
        | cons a r => simp
      have hm : 0 ≤ t % (cs.length : Int) ∧ t % (cs.length : Int) < cs.length := ⟨Int.emod_nonneg _ (by omega), Int.emod_lt_of_pos _ (by omega)⟩
      have hj : (t % (cs.length : Int)).toNat < cs.length := by omega
      refine ⟨_, rfl, d, _, rfl, pg_cells hd2, _, rfl, .inl ⟨_, rfl, _, rfl, d, _, rfl, pg_cells hd2, c, _, rfl, .inl (SqL.of hc2), _, _, rfl, rfl, ?_, c, _, _, .int cs[(t % (cs.length : Int)).toNat], rfl, rfl, SqL.of hc2, ?_, ?_⟩⟩
      · rw [List.length_map]; omega
      · have q := atI_nat (xs := cs.map V.int) (j := (t % (cs.length : Int)).toNat) (v := .int cs[(t % (cs.length : Int)).toNat]) (by simp [hj])
        rw [List.length_map]
        rw [show (((t % (cs.length : Int)).toNat : Nat) : Int) = t % (cs.length : Int) by omega] at q
        exact q
      generalize cs[(t % (cs.length : Int)).toNat] = cell
      refine ⟨_, rfl, _, rfl, d, _, rfl, pg_cells hd2, c, _, rfl, .inl (SqL.of hc2), _, _, rfl, rfl, _, rfl, ?_⟩
      refine iteB (fun g3 => ?_) (fun g3 => iteF ?_)
      · refine ⟨_, rfl, _, rfl, _, _, rfl, rfl, ⟨by decide, by decide, by decide⟩, _, _, rfl, rfl, _, rfl, ?_⟩
        refine iteB (fun g4 => ?_) (fun g4 => ?_)
        · refine ⟨_, rfl, _, rfl, _, _, rfl, rfl, ⟨by decide, by decide, by decide⟩, _, _, rfl, rfl, _, rfl, _, _, rfl, rfl, ⟨s0, s1⟩, _, rfl, d, _, rfl, pp_left _ hd2, ?_⟩
          refine ⟨_, rfl, _, rfl, _, _, rfl, rfl, ⟨by decide, by decide, by decide⟩, _, _, rfl, rfl, .inl ⟨_, rfl, _, rfl, _, _, rfl, rfl, s0, ?_⟩⟩
          refine hq _ _ (Int.emod_nonneg _ (by omega)) (Int.emod_lt_of_pos _ s0) (S2.trans SameBut.put) ⟨cs, t + 1, _, upd_same, (by rw [upd_ne hcd]; exact hc2), by omega, by omega, Int.ediv_nonneg ?_ (by omega), hcs⟩
          exact Int.sub_nonneg_of_le (of_decide_eq_true g4)
        · refine ⟨_, rfl, .inl ⟨_, rfl, _, _, rfl, rfl, (by decide : (0:Int) < 4294967087), _, _, rfl, rfl, .inl (cm (by decide) (by decide)), ?_⟩⟩
          refine ⟨_, rfl, _, rfl, _, rfl, _, _, rfl, rfl, .inl ⟨by omega, by omega⟩, _, _, rfl, rfl, _, _, rfl, rfl, .inl ⟨by omega, by omega⟩, _, _, rfl, rfl, _, _, rfl, rfl, .inl ⟨_, rfl, _, _, rfl, rfl, (by decide : (0:Int) < 4294967029), ?_⟩⟩
          refine ⟨_, rfl, _, rfl, _, _, rfl, rfl, _, _, rfl, rfl, .inl (cm (by decide) (by decide)), .inl ⟨_, rfl, _, _, rfl, rfl, (by decide : (0:Int) < 4294966997), ?_⟩⟩
          refine ⟨_, rfl, _, rfl, _, _, rfl, rfl, .inl (cm (by decide) (by decide)), _, rfl, _, _, rfl, rfl, .inl ⟨by decide, by decide⟩, _, _, rfl, rfl, _, rfl, _, _, rfl, rfl, .inl ⟨by decide, by decide⟩, _, _, rfl, rfl, .inl ⟨_, rfl, _, _, rfl, rfl, (by decide : (0:Int) < 4294966981), ?_⟩⟩
          refine ⟨_, rfl, _, rfl, _, _, rfl, rfl, _, _, rfl, rfl, .inl (cm (by decide) (by decide)), .inl ⟨_, rfl, _, _, rfl, rfl, (by decide : (0:Int) < 4294966943), _, _, rfl, rfl, ⟨by decide, by decide⟩, .inl ⟨_, rfl, _, rfl, _, _, rfl, rfl, s0, ?_⟩⟩⟩
          exact hq _ _ (Int.emod_nonneg _ (by omega)) (Int.emod_lt_of_pos _ s0) S2 ⟨cs, t + 1, l, hd2, hc2, by omega, by omega, hl, hcs⟩
      · refine ⟨_, rfl, .inl ⟨_, rfl, _, _, rfl, rfl, (by decide : (0:Int) < 4294967087), _, _, rfl, rfl, .inl (cm (by decide) (by decide)), ?_⟩⟩
        refine ⟨_, rfl, _, rfl, _, rfl, _, _, rfl, rfl, .inl ⟨by omega, by omega⟩, _, _, rfl, rfl, _, _, rfl, rfl, .inl ⟨by omega, by omega⟩, _, _, rfl, rfl, _, _, rfl, rfl, .inl ⟨_, rfl, _, _, rfl, rfl, (by decide : (0:Int) < 4294967029), ?_⟩⟩
        refine ⟨_, rfl, _, rfl, _, _, rfl, rfl, _, _, rfl, rfl, .inl (cm (by decide) (by decide)), .inl ⟨_, rfl, _, _, rfl, rfl, (by decide : (0:Int) < 4294966997), ?_⟩⟩
        refine ⟨_, rfl, _, rfl, _, _, rfl, rfl, .inl (cm (by decide) (by decide)), _, rfl, _, _, rfl, rfl, .inl ⟨by decide, by decide⟩, _, _, rfl, rfl, _, rfl, _, _, rfl, rfl, .inl ⟨by decide, by decide⟩, _, _, rfl, rfl, .inl ⟨_, rfl, _, _, rfl, rfl, (by decide : (0:Int) < 4294966981), ?_⟩⟩
        refine ⟨_, rfl, _, rfl, _, _, rfl, rfl, _, _, rfl, rfl, .inl (cm (by decide) (by decide)), .inl ⟨_, rfl, _, _, rfl, rfl, (by decide : (0:Int) < 4294966943), _, _, rfl, rfl, ⟨by decide, by decide⟩, .inl ⟨_, rfl, _, rfl, _, _, rfl, rfl, s0, ?_⟩⟩⟩
        exact hq _ _ (Int.emod_nonneg _ (by omega)) (Int.emod_lt_of_pos _ s0) S2 ⟨cs, t + 1, l, hd2, hc2, by omega, by omega, hl, hcs⟩
    · generalize (71 * t + 29) = cell
      refine ⟨_, rfl, _, rfl, d, _, rfl, pg_cells hd2, c, _, rfl, .inl (SqL.of hc2), _, _, rfl, rfl, _, rfl, ?_⟩
      refine iteB (fun g3 => ?_) (fun g3 => iteF ?_)
      · refine ⟨_, rfl, _, rfl, _, _, rfl, rfl, ⟨by decide, by decide, by decide⟩, _, _, rfl, rfl, _, rfl, ?_⟩
        refine iteB (fun g4 => ?_) (fun g4 => ?_)
        · refine ⟨_, rfl, _, rfl, _, _, rfl, rfl, ⟨by decide, by decide, by decide⟩, _, _, rfl, rfl, _, rfl, _, _, rfl, rfl, ⟨s0, s1⟩, _, rfl, d, _, rfl, pp_left _ hd2, ?_⟩
          refine ⟨_, rfl, _, rfl, _, _, rfl, rfl, ⟨by decide, by decide, by decide⟩, _, _, rfl, rfl, .inl ⟨_, rfl, _, rfl, _, _, rfl, rfl, s0, ?_⟩⟩
          refine hq _ _ (Int.emod_nonneg _ (by omega)) (Int.emod_lt_of_pos _ s0) (S2.trans SameBut.put) ⟨cs, t + 1, _, upd_same, (by rw [upd_ne hcd]; exact hc2), by omega, by omega, Int.ediv_nonneg ?_ (by omega), hcs⟩
          exact Int.sub_nonneg_of_le (of_decide_eq_true g4)
        · refine ⟨_, rfl, .inl ⟨_, rfl, _, _, rfl, rfl, (by decide : (0:Int) < 4294967087), _, _, rfl, rfl, .inl (cm (by decide) (by decide)), ?_⟩⟩
          refine ⟨_, rfl, _, rfl, _, rfl, _, _, rfl, rfl, .inl ⟨by omega, by omega⟩, _, _, rfl, rfl, _, _, rfl, rfl, .inl ⟨by omega, by omega⟩, _, _, rfl, rfl, _, _, rfl, rfl, .inl ⟨_, rfl, _, _, rfl, rfl, (by decide : (0:Int) < 4294967029), ?_⟩⟩
          refine ⟨_, rfl, _, rfl, _, _, rfl, rfl, _, _, rfl, rfl, .inl (cm (by decide) (by decide)), .inl ⟨_, rfl, _, _, rfl, rfl, (by decide : (0:Int) < 4294966997), ?_⟩⟩
          refine ⟨_, rfl, _, rfl, _, _, rfl, rfl, .inl (cm (by decide) (by decide)), _, rfl, _, _, rfl, rfl, .inl ⟨by decide, by decide⟩, _, _, rfl, rfl, _, rfl, _, _, rfl, rfl, .inl ⟨by decide, by decide⟩, _, _, rfl, rfl, .inl ⟨_, rfl, _, _, rfl, rfl, (by decide : (0:Int) < 4294966981), ?_⟩⟩
          refine ⟨_, rfl, _, rfl, _, _, rfl, rfl, _, _, rfl, rfl, .inl (cm (by decide) (by decide)), .inl ⟨_, rfl, _, _, rfl, rfl, (by decide : (0:Int) < 4294966943), _, _, rfl, rfl, ⟨by decide, by decide⟩, .inl ⟨_, rfl, _, rfl, _, _, rfl, rfl, s0, ?_⟩⟩⟩
          exact hq _ _ (Int.emod_nonneg _ (by omega)) (Int.emod_lt_of_pos _ s0) S2 ⟨cs, t + 1, l, hd2, hc2, by omega, by omega, hl, hcs⟩
      · refine ⟨_, rfl, .inl ⟨_, rfl, _, _, rfl, rfl, (by decide : (0:Int) < 4294967087), _, _, rfl, rfl, .inl (cm (by decide) (by decide)), ?_⟩⟩
        refine ⟨_, rfl, _, rfl, _, rfl, _, _, rfl, rfl, .inl ⟨by omega, by omega⟩, _, _, rfl, rfl, _, _, rfl, rfl, .inl ⟨by omega, by omega⟩, _, _, rfl, rfl, _, _, rfl, rfl, .inl ⟨_, rfl, _, _, rfl, rfl, (by decide : (0:Int) < 4294967029), ?_⟩⟩
        refine ⟨_, rfl, _, rfl, _, _, rfl, rfl, _, _, rfl, rfl, .inl (cm (by decide) (by decide)), .inl ⟨_, rfl, _, _, rfl, rfl, (by decide : (0:Int) < 4294966997), ?_⟩⟩
        refine ⟨_, rfl, _, rfl, _, _, rfl, rfl, .inl (cm (by decide) (by decide)), _, rfl, _, _, rfl, rfl, .inl ⟨by decide, by decide⟩, _, _, rfl, rfl, _, rfl, _, _, rfl, rfl, .inl ⟨by decide, by decide⟩, _, _, rfl, rfl, .inl ⟨_, rfl, _, _, rfl, rfl, (by decide : (0:Int) < 4294966981), ?_⟩⟩
        refine ⟨_, rfl, _, rfl, _, _, rfl, rfl, _, _, rfl, rfl, .inl (cm (by decide) (by decide)), .inl ⟨_, rfl, _, _, rfl, rfl, (by decide : (0:Int) < 4294966943), _, _, rfl, rfl, ⟨by decide, by decide⟩, .inl ⟨_, rfl, _, rfl, _, _, rfl, rfl, s0, ?_⟩⟩⟩
        exact hq _ _ (Int.emod_nonneg _ (by omega)) (Int.emod_lt_of_pos _ s0) S2 ⟨cs, t + 1, l, hd2, hc2, by omega, by omega, hl, hcs⟩
end
end K68


set_option Elab.async false
set_option linter.all false
set_option maxRecDepth 100000
set_option maxHeartbeats 4000000
namespace Tld
open PySem L2
abbrev Trm := Int × Option Nat
def sizeS : Str := Str.ofString "size"
def atomS : Option Nat → Str
  | none => sizeS
  | some n => Str.ofString (toString ((n : Nat) : Int))
def signS (s : Int) : Str := if s > 0 then Str.ofString "+" else Str.ofString "-"
def tailW : List Trm → List Str
  | [] => []
  | t :: r => signS t.1 :: atomS t.2 :: tailW r
def wordsT : List Trm → List Str
  | [] => []
  | t :: r => atomS t.2 :: tailW r
def qOf : Trm → Int × Option Str
  | (s, none) => (s, some sizeS)
  | (s, some n) => (s * (n : Int), none)
def slT (ts : List Trm) : Int := (ts.map fun t => match t.2 with | none => t.1 | some _ => 0).sum
def loT (ts : List Trm) : Int := (ts.map fun t => match t.2 with | none => 0 | some n => t.1 * (n : Int)).sum
def nSz (ts : List Trm) : Nat := (ts.filter fun t => t.2.isNone).length
def TmOk (t : Trm) : Prop := (t.1 = 1 ∨ t.1 = -1) ∧ ∀ n, t.2 = some n → n < 10 ^ 30
theorem size_num (n : Nat) : Str.ofString (toString ((n : Nat) : Int)) ≠ sizeS := fun h => by
  have h2 := congrArg TL.tl h
  rw [TL.tl_num] at h2
  have h3 := TL.numL_digits n
  rw [h2] at h3
  have h4 : NumText.AllDigits (TL.tl sizeS) := h3
  revert h4
  show ¬ NumText.AllDigits (TL.tl (Str.ofString "size"))
  intro h4
  have := h4 115 (by decide)
  revert this
  decide
theorem num_head (n : Nat) (h : 1 ≤ n) : (TL.numL n).head? ≠ some 48 := by
  induction n using Nat.strongRecOn with
  | _ n ih =>
    by_cases q : n < 10
    · rw [TL.numL_lt q]
      simp
      omega
    · rw [TL.numL_step (by omega)]
      have := ih (n / 10) (by omega) (by omega)
      cases e : TL.numL (n / 10) with
      | nil => exact absurd e (TL.numL_ne _)
      | cons a r => rw [e] at this; simpa using this
theorem tNum_num {n : Nat} (h : n < 10 ^ 30) : tNum (Str.ofString (toString ((n : Nat) : Int))) = some (n : Int) := by
  unfold tNum
  have e : (Str.ofString (toString ((n : Nat) : Int))).cps.toList = TL.numL n := TL.tl_num n
  rw [e, TL.numL_val]
  have : numOk (TL.numL n) = true := by
    unfold numOk
    have h1 : (TL.numL n).isEmpty = false := by
      cases e : TL.numL n with
      | nil => exact absurd e (TL.numL_ne n)
      | cons => rfl
    have h2 : (TL.numL n).all isDig = true := by
      rw [List.all_eq_true]
      intro c hc
      have q := TL.numL_digits n c hc
      unfold isDig
      rw [Bool.and_eq_true]
      exact ⟨decide_eq_true q.1, decide_eq_true q.2⟩
    have h3 := TL.numL_len (k := 30) (by decide) h
    have h4 : (decide (1 < (TL.numL n).length) && (TL.numL n).head? == some 48) = false := by
      by_cases q : n = 0
      · subst q
        rfl
      · rw [Bool.and_eq_false_iff]
        exact .inr (by simpa using num_head n (by omega))
    rw [h1, h2, h4, decide_eq_true h3]
    rfl
  rw [if_pos this]
theorem tAtom_atom {t : Trm} (h : TmOk t) : tAtom [sizeS] (atomS t.2) = some ((match t.2 with | none => 1 | some n => (n : Int)), match t.2 with | none => some sizeS | some _ => none) := by
  obtain ⟨s, a⟩ := t
  cases a with
  | none =>
    unfold tAtom
    rw [if_pos (by simp [atomS])]
    rfl
  | some n =>
    unfold tAtom
    have e : atomS (some n) = Str.ofString (toString ((n : Nat) : Int)) := rfl
    show (if atomS (some n) ∈ [sizeS] then _ else _) = _
    rw [if_neg (by rw [e]; simpa using size_num n), e, tNum_num (h.2 n rfl)]
    rfl
theorem signS_mem (s : Int) : signS s ∈ ([Str.ofString "+", Str.ofString "-"] : List Str) := by
  unfold signS
  split <;> simp
theorem signS_minus {s : Int} (h : s = 1 ∨ s = -1) : (signS s = Str.ofString "-") ↔ s = -1 := by
  rcases h with rfl | rfl
  · exact ⟨fun z => absurd z (by decide), fun z => absurd z (by decide)⟩
  · exact ⟨fun _ => rfl, fun _ => rfl⟩
theorem go_tail : ∀ (r : List Trm) (pre : List Str) (found : List (Int × Option Str)) (seen : List Str), (∀ t ∈ r, TmOk t) → pre.length % 2 = 1 → (∀ x ∈ seen, x = sizeS) → (seen = [] ∧ nSz r ≤ 1 ∨ nSz r = 0) →
    tGo [sizeS] (pre ++ tailW r) pre.length (tailW r) found seen = some (found ++ r.map qOf)
  | [], pre, found, seen, _, _, _, _ => by simp [tailW, tGo]
  | t :: r, pre, found, seen, hr, ho, hs, hz => by
    have ht := hr t List.mem_cons_self
    show tGo [sizeS] (pre ++ signS t.1 :: atomS t.2 :: tailW r) pre.length (signS t.1 :: atomS t.2 :: tailW r) found seen = _
    rw [tGo, if_pos ho, if_pos (signS_mem _), tGo, if_neg (by omega), tAtom_atom ht]
    have e1 : (pre ++ signS t.1 :: atomS t.2 :: tailW r)[pre.length + 1 - 1]? = some (signS t.1) := by simp
    have e2 : pre ++ signS t.1 :: atomS t.2 :: tailW r = (pre ++ [signS t.1, atomS t.2]) ++ tailW r := by simp
    have e3 : pre.length + 1 + 1 = (pre ++ [signS t.1, atomS t.2]).length := by simp
    obtain ⟨s, a⟩ := t
    cases a with
    | none =>
      have hz' : seen = [] ∧ nSz r = 0 := by
        have q : nSz ((s, none) :: r) = nSz r + 1 := by simp [nSz]
        rcases hz with ⟨z1, z2⟩ | z
        · exact ⟨z1, by omega⟩
        · omega
      have i1 : inSeen seen (some sizeS) = false := by rw [hz'.1]; rfl
      show (if inSeen seen (some sizeS) = true then none else tGo [sizeS] _ _ _ _ _) = _
      rw [if_neg (by rw [i1]; exact Bool.false_ne_true), e1, e2, e3]
      have ih := go_tail r (pre ++ [signS s, atomS none]) (found ++ [(s, some sizeS)]) (sizeS :: seen) (fun t h => hr t (List.mem_cons_of_mem _ h)) (by simp; omega) (fun x hx => by
        rcases List.mem_cons.mp hx with q | q
        · exact q
        · exact hs x q) (.inr hz'.2)
      have ef : (if 0 < pre.length + 1 ∧ some (signS s) = some (Str.ofString "-") then -(1:Int) else 1) = s := by
        rcases ht.1 with q | q
        · have q : s = 1 := q
          subst q; rfl
        · have q : s = -1 := q
          subst q
          rw [if_pos ⟨by omega, rfl⟩]
      show tGo _ _ _ _ (found ++ [((if 0 < pre.length + 1 ∧ some (signS s) = some (Str.ofString "-") then -(1:Int) else 1), some sizeS)]) (sizeS :: seen) = _
      rw [ef, ih]
      simp [qOf]
    | some n =>
      have hz' : seen = [] ∧ nSz r ≤ 1 ∨ nSz r = 0 := by
        have q : nSz ((s, some n) :: r) = nSz r := by simp [nSz]
        rw [q] at hz
        exact hz
      show (if inSeen seen none = true then none else tGo [sizeS] _ _ _ _ _) = _
      rw [if_neg (by exact Bool.false_ne_true), e1, e2, e3]
      have ih := go_tail r (pre ++ [signS s, atomS (some n)]) (found ++ [(s * (n : Int), none)]) seen (fun t h => hr t (List.mem_cons_of_mem _ h)) (by simp; omega) hs hz'
      have ef : (if 0 < pre.length + 1 ∧ some (signS s) = some (Str.ofString "-") then -(n:Int) else (n : Int)) = s * (n : Int) := by
        rcases ht.1 with q | q
        · have q : s = 1 := q
          subst q
          rw [if_neg (fun z => absurd z.2 (by decide))]
          omega
        · have q : s = -1 := q
          subst q
          rw [if_pos ⟨by omega, rfl⟩]
          omega
      show tGo _ _ _ _ (found ++ [((if 0 < pre.length + 1 ∧ some (signS s) = some (Str.ofString "-") then -(n:Int) else (n : Int)), none)]) seen = _
      rw [ef, ih]
      simp [qOf]
theorem tailW_len : ∀ r : List Trm, (tailW r).length = 2 * r.length
  | [] => rfl
  | t :: r => by simp [tailW, tailW_len r]; omega
structure GoodTs (ts : List Trm) : Prop where
  ok : ∀ t ∈ ts, TmOk t
  len : ts.length ≤ 4
  sz : nSz ts ≤ 1
  one : ∃ a r, ts = (1, a) :: r
theorem sum_words {ts : List Trm} (G : GoodTs ts) : tSum [sizeS] (wordsT ts) = some (ts.map qOf) := by
  obtain ⟨a, r, rfl⟩ := G.one
  have hl := G.len
  have ht := G.ok _ List.mem_cons_self
  have hz := G.sz
  unfold tSum
  have e : (wordsT ((1, a) :: r)).length = 2 * r.length + 1 := by simp [wordsT, tailW_len]
  rw [if_neg (by rw [e]; simp at hl; omega)]
  show tGo [sizeS] (atomS a :: tailW r) 0 (atomS a :: tailW r) [] [] = _
  rw [tGo, if_neg (by decide)]
  have q := tAtom_atom ht
  have q' : tAtom [sizeS] (atomS a) = _ := q
  rw [q']
  cases a with
  | none =>
    have hz' : nSz r = 0 := by
      have q : nSz ((1, none) :: r) = nSz r + 1 := by simp [nSz]
      omega
    exact (go_tail r [atomS none] [(1, some sizeS)] [sizeS] (fun t h => G.ok t (List.mem_cons_of_mem _ h)) rfl (fun x hx => by simpa using hx) (.inr hz')).trans (by simp [qOf])
  | some n =>
    have hz' : nSz r ≤ 1 := by
      have q : nSz ((1, some n) :: r) = nSz r := by simp [nSz]
      omega
    exact (go_tail r [atomS (some n)] [((n : Int), none)] [] (fun t h => G.ok t (List.mem_cons_of_mem _ h)) rfl (fun x hx => by cases hx) (.inl ⟨rfl, hz'⟩)).trans (by simp [qOf])
end Tld
namespace K68
open PySem L2 Tld
theorem slope_q (ts : List Trm) : slopeOf (ts.map qOf) = slT ts := by
  induction ts with
  | nil => rfl
  | cons t r ih =>
    unfold slopeOf slT at *
    obtain ⟨s, a⟩ := t
    cases a with
    | none => simp [qOf, ih]
    | some n => simp [qOf, ih]
theorem lone_q (ts : List Trm) : loneOf (ts.map qOf) = loT ts := by
  induction ts with
  | nil => rfl
  | cons t r ih =>
    unfold loneOf loT at *
    obtain ⟨s, a⟩ := t
    cases a with
    | none => simpa [qOf] using ih
    | some n => simpa [qOf] using ih
def textT (ts : List Trm) : Str := Txt.join sepS (wordsT ts)
theorem atom_free (t : Trm) : (32 : Nat) ∉ TL.tl (atomS t.2) := by
  obtain ⟨s, a⟩ := t
  cases a with
  | none => show (32 : Nat) ∉ TL.tl sizeS; decide
  | some n =>
    show (32 : Nat) ∉ TL.tl (Str.ofString (toString ((n : Nat) : Int)))
    rw [TL.tl_num]
    exact TL.numL_free (.inl (by decide))
theorem sign_free (s : Int) : (32 : Nat) ∉ TL.tl (signS s) := by
  unfold signS
  split <;> decide
theorem tail_free : ∀ (r : List Trm) (p : Str), p ∈ tailW r → (32 : Nat) ∉ TL.tl p
  | [], p, h => by cases h
  | t :: r, p, h => by
    rcases List.mem_cons.mp h with h | h
    · rw [h]; exact sign_free _
    · rcases List.mem_cons.mp h with h | h
      · rw [h]; exact atom_free _
      · exact tail_free r p h
theorem split_text {ts : List Trm} (G : GoodTs ts) : Txt.split (textT ts) sepS = wordsT ts := by
  obtain ⟨a, r, rfl⟩ := G.one
  refine TL.split_join (y := sepS) (s := 32) (S := []) (by decide) (by decide +kernel) (by simp [wordsT]) (fun p hp => ?_)
  rcases List.mem_cons.mp hp with h | h
  · rw [h]; exact atom_free (1, a)
  · exact tail_free r p h
theorem keep_text {ts : List Trm} (G : GoodTs ts) : keepQs (.str (textT ts)) = some (ts.map qOf) := by
  unfold keepQs
  show tSum [sizeS] (Txt.split (textT ts) sepS) = _
  rw [split_text G, sum_words G]
end K68


set_option Elab.async false
set_option linter.all false
set_option maxRecDepth 100000
set_option maxHeartbeats 4000000
namespace K68
open PySem PySem.Spec PyProof.Rows L2 Tld
section
variable {P : Program} {w : World} {K : PySem.W.Frag} {mg : Str → Option Value} {base : Heap}
theorem Pen.ne {H : Hp} {d c a : Addr} {n : Nat} {xs : List V} (h : Pen H d c n) (ha : H a = some (.lst xs)) : a ≠ d := by
  obtain ⟨cs, t, l, h1, _⟩ := h
  exact fun z => by subst z; rw [h1] at ha; cases ha
theorem Pen.neT {H : Hp} {d c a : Addr} {n : Nat} {xs : List V} (h : Pen H d c n) (ha : H a = some (.tup xs)) : a ≠ d := by
  obtain ⟨cs, t, l, h1, _⟩ := h
  exact fun z => by subst z; rw [h1] at ha; cases ha
def spPick : Sp := fun vs H Q E => ∃ (d c a : Addr) (n : Nat) (ns : List Int), vs = [.ref d, .ref a] ∧ Pen H d c n ∧ n < 2 ^ 40 ∧ H a = some (.lst (ns.map V.int)) ∧ 0 < ns.length ∧ ns.length < 1000 ∧ ∀ r H', r ∈ ns → SameBut d H H' → Pen H' d c (n + 1) → Q (.int r) H'
theorem ok_pick (T : Tx P K mg) : FnX P w K mg base CX0 2 "_law_pick" ["_law_pen", "_law_options"] [] spPick := by
  have F_l_draw := ok_draw (P := P) (w := w) (base := base) T
  refine T.d_l_pick.ok0 sc_l_pick (fun _ _ _ _ _ _ us hl => match us, hl with | [_, _], _ => rfl) (fun vs H Q E h => ?_) (fun f cdv A outer s H vs Q E hr h => have hu := hu_of hr; ⟨_, (by exact (pss_one (ps_ret (pe_ix ix_list (pv 1) (pe_callX F_l_draw (hr.mono (by decide)) pass0 (pa_cons (pv 0) (pa_cons (pe_callB call_len_seq (by rfl) T.b_len (by decide +kernel) (pa_cons (pv 1) pa_nil)) pa_nil))) (fun _ _ => rfl))))), ?_⟩)
  · obtain ⟨d, c, a, n, ns, rfl, _⟩ := h
    rfl
  obtain ⟨d, c, a, n, ns, rfl, hp, hn, ha, h0, h1, hq⟩ := h
  refine ⟨_, rfl, _, rfl, _, rfl, a, _, rfl, .inl (SqL.of ha), d, c, n, _, rfl, hp, hn, ?_, ?_, fun r H' r0 r1 S hp' => ?_⟩
  · rw [List.length_map]; omega
  · rw [List.length_map]; omega
  rw [List.length_map] at r1
  have hj : r.toNat < ns.length := by omega
  have e : r = ((r.toNat : Nat) : Int) := by omega
  refine ⟨a, _, _, .int ns[r.toNat], rfl, rfl, SqL.of (S _ _ (hp.ne ha) ha), ?_, hq _ _ (List.getElem_mem _) S hp'⟩
  have q := atI_nat (xs := ns.map V.int) (j := r.toNat) (v := .int ns[r.toNat]) (by simp [hj])
  rw [← e] at q
  exact q
def spWide : Sp := fun vs H Q E => ∃ (d c : Addr) (n : Nat), vs = [.ref d] ∧ Pen H d c n ∧ n < 2 ^ 39 ∧ ∀ (r : Int) H', 0 ≤ r → r < 10 ^ 30 → SameBut d H H' → Pen H' d c (n + 6) → Q (.int r) H'
theorem ok_wide (T : Tx P K mg) : FnX P w K mg base CX0 2 "_law_wide" ["_law_pen"] [] spWide := by
  have F_l_draw := ok_draw (P := P) (w := w) (base := base) T
  refine T.d_l_wide.ok0 sc_l_wide (fun _ _ _ _ _ _ us hl => match us, hl with | [_], _ => rfl) (fun vs H Q E h => ?_) (fun f cdv A outer s H vs Q E hr h => have hu := hu_of hr; ⟨_, (by exact (pss_cons (ps_set (i := 1) sc_l_wide.nd rfl (Or.inl rfl) pe_int)
      (pss_cons (ps_for PassesOwn.never rfl (pi_range1 rfl T.b_range (pa_cons (pe_op op_add pe_int (pe_callX F_l_draw (hr.mono (by decide)) pass0 (pa_cons (pv 0) (pa_cons pe_int pa_nil)))) pa_nil)) (pg_name (i := 2) sc_l_wide.nd rfl (Or.inl rfl))
        (pss_one (ps_set (i := 1) sc_l_wide.nd rfl (Or.inl rfl) (pe_op op_add (pe_op op_mul (pv 1) (pe_op op_pow pe_int pe_int)) (pe_callX F_l_draw (hr.mono (by decide)) pass0 (pa_cons (pv 0) (pa_cons (pe_op op_pow pe_int pe_int) pa_nil)))))))
      (pss_one (ps_ret (pv 1)))))), ?_⟩)
  · obtain ⟨d, c, n, rfl, _⟩ := h
    rfl
  obtain ⟨d, c, n, rfl, hp, hn, hq⟩ := h
  refine ⟨_, rfl, d, c, n, 5, rfl, hp, by omega, by decide, by decide, fun r H1 r0 r1 S hp1 => ?_⟩
  refine ⟨_, _, rfl, rfl, _, rfl, by omega, by omega, for_range (lo := 0) (fun i σ H' => ∃ (x : Int) (o : Option V), σ = [some (.ref d), some (.int x), o] ∧ 0 ≤ x ∧ x < (10 ^ 6) ^ i ∧ SameBut d H H' ∧ Pen H' d c (n + 1 + i)) ⟨0, _, rfl, by decide, by decide, S, hp1⟩ ?_ ?_⟩
  · rintro i σ H' hi ⟨x, o, rfl, x0, x1, S', hp'⟩
    refine ⟨_, rfl, _, _, rfl, rfl, ⟨by decide, by decide, by decide⟩, _, _, rfl, rfl, .inr ⟨by decide, by decide⟩, _, rfl, _, _, rfl, rfl, ⟨by decide, by decide, by decide⟩, d, c, n + 1 + i, _, rfl, hp', by omega, by decide, by decide, fun r2 H2 r20 r21 S2 hp2 => ?_⟩
    refine ⟨_, _, rfl, rfl, _, _, rfl, ?_, ?_, S'.trans S2, hp2⟩
    · have q : x * 10 ^ (6 : Int).toNat ≥ 0 := Int.mul_nonneg x0 (by decide)
      exact Int.add_nonneg q r20
    · have e6 : (10 : Int) ^ (6 : Int).toNat = 1000000 := rfl
      rw [e6] at r21 ⊢
      have e7 : ((10 : Int) ^ 6) ^ (i + 1) = (10 ^ 6) ^ i * 1000000 := by rw [Int.pow_succ]; rfl
      show x * 1000000 + r2 < _
      rw [e7]
      generalize ((10 : Int) ^ 6) ^ i = z at *
      omega
  · rintro σ H' ⟨x, o, rfl, x0, x1, S', hp'⟩
    have hr5 : (1 + r).toNat ≤ 5 := by omega
    refine ⟨_, rfl, hq x H' x0 ?_ S' (hp'.mono ?_)⟩
    · refine Int.lt_of_lt_of_le x1 ?_
      have h5 : (1 + r).toNat = 0 ∨ (1 + r).toNat = 1 ∨ (1 + r).toNat = 2 ∨ (1 + r).toNat = 3 ∨ (1 + r).toNat = 4 ∨ (1 + r).toNat = 5 := by omega
      rcases h5 with e | e | e | e | e | e <;> rw [e] <;> decide
    · omega
/-- what stands for a term -/
def TmR (H : Hp) (v : V) (t : Trm) : Prop := ∃ p, v = .ref p ∧ H p = some (.tup [.int t.1, .str (atomS t.2)])
theorem TmR.up {H H' : Hp} {v : V} {t : Trm} (e : TupLe H H') (h : TmR H v t) : TmR H' v t := by
  obtain ⟨p, h1, h2⟩ := h
  exact ⟨p, h1, e _ _ h2⟩
abbrev TmsR (H : Hp) (vs : List V) (ts : List Trm) : Prop := Paired (TmR H) vs ts
theorem TmsR.up {H H' : Hp} (e : TupLe H H') : ∀ {vs : List V} {ts : List Trm}, TmsR H vs ts → TmsR H' vs ts
  | _, _, .nil => .nil
  | _, _, .cons a b => .cons (a.up e) (TmsR.up e b)
theorem TmsR.app {H : Hp} : ∀ {vs us : List V} {ts rs : List Trm}, TmsR H vs ts → TmsR H us rs → TmsR H (vs ++ us) (ts ++ rs)
  | _, _, _, _, .nil, h => h
  | _, _, _, _, .cons a b, h => .cons a (TmsR.app b h)
theorem TmsR.cut {H : Hp} : ∀ {vs : List V} {ts : List Trm} (k : Nat), TmsR H vs ts → TmsR H (vs.take k) (ts.take k) ∧ TmsR H (vs.drop k) (ts.drop k)
  | _, _, 0, h => by simpa using ⟨.nil, h⟩
  | _, _, k + 1, .nil => ⟨.nil, .nil⟩
  | _, _, k + 1, .cons a b => ⟨.cons a (TmsR.cut k b).1, (TmsR.cut k b).2⟩
theorem TmsR.at {H : Hp} : ∀ {vs : List V} {ts : List Trm} {i : Nat} {v : V}, TmsR H vs ts → vs[i]? = some v → ∃ t, ts[i]? = some t ∧ TmR H v t
  | _, _, _, _, .nil, h => by simp at h
  | _, _, 0, v, .cons a b, h => by
    cases h
    exact ⟨_, rfl, a⟩
  | _, _, k + 1, v, .cons a b, h => by
    obtain ⟨t, h1, h2⟩ := TmsR.at b (by simpa using h)
    exact ⟨t, by simpa using h1, h2⟩
theorem TupLe.but {d c : Addr} {H H' : Hp} {n : Nat} (hp : Pen H d c n) (S : SameBut d H H') : TupLe H H' := fun b xs h => S b _ (hp.neT h) h
theorem atom_len {t : Trm} (h : TmOk t) : (atomS t.2).length ≤ 30 := by
  obtain ⟨s, a⟩ := t
  cases a with
  | none => show sizeS.length ≤ 30; decide
  | some n =>
    rw [TL.len_tl]
    show (TL.tl (Str.ofString (toString ((n : Nat) : Int)))).length ≤ 30
    rw [TL.tl_num]
    exact TL.numL_len (by decide) (h.2 n rfl)
theorem sign_len (s : Int) : (signS s).length ≤ 30 := by
  unfold signS
  split <;> decide
theorem tailW_snoc : ∀ (r : List Trm) (t : Trm), tailW (r ++ [t]) = tailW r ++ [signS t.1, atomS t.2]
  | [], t => rfl
  | a :: r, t => by
    show signS a.1 :: atomS a.2 :: tailW (r ++ [t]) = _
    rw [tailW_snoc r t]
    rfl
theorem tail_len : ∀ (r : List Trm), (∀ t ∈ r, TmOk t) → ∀ z ∈ tailW r, z.length ≤ 30
  | [], _, z, h => by cases h
  | t :: r, hr, z, h => by
    rcases List.mem_cons.mp h with h | h
    · rw [h]; exact sign_len _
    · rcases List.mem_cons.mp h with h | h
      · rw [h]; exact atom_len (hr t List.mem_cons_self)
      · exact tail_len r (fun t h => hr t (List.mem_cons_of_mem _ h)) z h
theorem words_len {ts : List Trm} (h : ∀ t ∈ ts, TmOk t) : ∀ z ∈ wordsT ts, z.length ≤ 30 := by
  cases ts with
  | nil => intro z hz; cases hz
  | cons t r =>
    intro z hz
    rcases List.mem_cons.mp hz with q | q
    · rw [q]; exact atom_len (h t List.mem_cons_self)
    · exact tail_len r (fun t h' => h t (List.mem_cons_of_mem _ h')) z q
theorem sum_le : ∀ (zs : List Str), (∀ z ∈ zs, z.length ≤ 30) → (zs.map (·.length)).sum ≤ 30 * zs.length
  | [], _ => Nat.le_refl _
  | z :: r, h => by
    have h1 := h z List.mem_cons_self
    have h2 := sum_le r (fun z hz => h z (List.mem_cons_of_mem _ hz))
    simp

    omega
def spSumText : Sp := fun vs H Q E => ∃ (a : Addr) (us : List V) (ts : List Trm), vs = [.ref a] ∧ H a = some (.lst us) ∧ TmsR H us ts ∧ ts ≠ [] ∧ ts.length ≤ 10 ∧ (∀ t ∈ ts, TmOk t) ∧ ∀ H', Same H H' → Q (.str (textT ts)) H'
theorem ok_sum_text (T : Tx P K mg) : FnX P w K mg base CX0 1 "_law_sum_text" ["_law_terms"] [] spSumText := by
  refine T.d_l_sum_text.ok0 sc_l_sum_text (fun _ _ _ _ _ _ us hl => match us, hl with | [_], _ => rfl) (fun vs H Q E h => ?_) (fun f cdv A outer s H vs Q E hr h => have hu := hu_of hr; ⟨_, (by exact (pss_cons (ps_set (i := 1) sc_l_sum_text.nd rfl (Or.inl rfl) (pe_lst (pa_cons (pe_ix ix_tup (pe_ix ix_list (pv 0) pe_int (fun _ _ => rfl)) pe_int (fun _ _ => rfl)) pa_nil)))
      (pss_cons (ps_for PassesOwn.never rfl (pi_list (pe_slice sl_list (pv 0) (po_some pe_int) po_none)) (pg_tup rfl (pgs_cons (pg_name (i := 2) sc_l_sum_text.nd rfl (Or.inl rfl)) (pgs_cons (pg_name (i := 3) sc_l_sum_text.nd rfl (Or.inl rfl)) pgs_nil)))
        (pss_one (ps_set (i := 1) sc_l_sum_text.nd rfl (Or.inl rfl) (pe_op op_cat (pv 1) (pe_lst (pa_cons (pe_ifExp (pt_cmpR op_gt (pv 2) pe_int (nomark _)) pe_str pe_str) (pa_cons (pv 3) pa_nil)))))))
      (pss_one (ps_ret (pe_join pe_str (pv 1))))))), ?_⟩)
  · obtain ⟨a, us, ts, rfl, _⟩ := h
    rfl
  obtain ⟨a, us, ts, rfl, ha, hA, hne, hl, hok, hq⟩ := h
  cases hA with
  | nil => exact absurd rfl hne
  | cons h0 hA =>
  rename_i u t us r
  obtain ⟨p, rfl, hp⟩ := h0
  have hlen : us.length = r.length := Paired.length hA
  refine ⟨_, rfl, a, _, _, _, rfl, rfl, SqL.of ha, atI_nat (j := 0) rfl, p, _, _, _, rfl, rfl, SqT.of hp, atI_nat (j := 1) rfl, (by show 1 ≤ sizeLine; decide), fun q hq0 => ?_⟩
  have S1 : Same H (upd H q (.lst [.str (atomS t.2)])) := Same.new hq0
  have hw : upd H q (.lst [.str (atomS t.2)]) q = some (.lst ([atomS t.2].map V.str)) := upd_same
  generalize upd H q (.lst [.str (atomS t.2)]) = H1 at *
  refine ⟨_, rfl, 1, rfl, a, _, rfl, S1.seq (SqL.of ha), fun c hc => ?_⟩
  have ec : cutV (.ref p :: us) (some 1) none = us := by
    unfold cutV
    have e1 : HT.sIx (V.ref p :: us).length 0 (some 1) = 1 := by
      rw [show (1 : Int) = ((1 : Nat) : Int) from rfl, HT.sIx_nat]
      simp
    rw [e1, HT.sIx_none]
    simp
  rw [ec]
  refine ⟨c, rfl, ⟨_, SqL.of upd_same⟩, ?_⟩
  have S2 : Same H (upd H1 c (.lst us)) := S1.trans (Same.new hc)
  have hc2 : upd H1 c (.lst us) c = some (.lst us) := upd_same
  have hw2 : upd H1 c (.lst us) q = some (.lst ([atomS t.2].map V.str)) := Same.new hc _ _ hw
  generalize upd H1 c (.lst us) = H2 at *
  refine for_list (xs := us) (fun i σ H' => ∃ (q : Addr) (o1 o2 : Option V), σ = [some (.ref a), some (.ref q), o1, o2] ∧ Same H2 H' ∧ H' q = some (.lst ((wordsT (t :: r.take i)).map V.str))) ⟨q, _, _, rfl, Same.refl _, hw2⟩ ?_ ?_ ?_
  · rintro i σ H' _ ⟨q, o1, o2, rfl, S, _⟩
    exact S.seq (SqL.of hc2)
  · rintro i x σ H' hx ⟨q, o1, o2, rfl, S, hw⟩
    obtain ⟨t', et, p', rfl, hp'⟩ := TmsR.at hA hx
    have S3 := S2.trans S
    have hi : i < r.length := (List.getElem?_eq_some_iff.mp et).1
    refine ⟨p', _, rfl, SqT.of (S3 _ _ hp'), rfl, _, _, rfl, _, _, rfl, rfl, ?_⟩
    have hw4 : (wordsT (t :: r.take i)).length ≤ 21 := by
      simp [wordsT, tailW_len]
      have q4 : r.length ≤ 9 := by simpa using hl
      omega
    have fin : ∀ z : Str, z = signS t'.1 → ∀ q2, H' q2 = none → ∀ q3, upd H' q2 (.lst [.str z, .str (atomS t'.2)]) q3 = none → ∃ q o1 o2, ([some (V.ref a), some (.ref q3), some (.int t'.1), some (.str (atomS t'.2))] : L2.St) = [some (V.ref a), some (V.ref q), o1, o2] ∧
        Same H2 (upd (upd H' q2 (.lst [.str z, .str (atomS t'.2)])) q3 (.lst ((wordsT (t :: r.take i)).map V.str ++ [.str z, .str (atomS t'.2)]))) ∧ (upd (upd H' q2 (.lst [.str z, .str (atomS t'.2)])) q3 (.lst ((wordsT (t :: r.take i)).map V.str ++ [.str z, .str (atomS t'.2)]))) q = some (HO.lst (List.map V.str (wordsT (t :: List.take (i + 1) r)))) := by
      rintro z rfl q2 h2 q3 h3
      refine ⟨q3, _, _, rfl, S.trans ((Same.new h2).trans (Same.new h3)), ?_⟩
      rw [upd_same]
      have e : wordsT (t :: r.take (i + 1)) = wordsT (t :: r.take i) ++ [signS t'.1, atomS t'.2] := by
        show atomS t.2 :: tailW (r.take (i + 1)) = atomS t.2 :: tailW (r.take i) ++ _
        rw [List.take_succ, et]
        show atomS t.2 :: tailW (r.take i ++ [t']) = _
        rw [tailW_snoc]
        rfl
      rw [e, List.map_append]
      rfl
    refine ⟨_, rfl, _, rfl, _, _, rfl, rfl, _, rfl, ?_⟩
    refine iteB (fun g => ?_) (fun g => ?_)
    · refine ⟨_, rfl, (by show 2 ≤ sizeLine; decide), fun q2 hq2 => ?_⟩
      refine ⟨_, _, _, _, rfl, rfl, Same.new hq2 _ _ hw, upd_same, ?_, fun q3 hq3 => ?_⟩
      · rw [List.length_map]; show _ + 2 ≤ sizeLine; have q9 : sizeLine = 16777216 := sizeLine_eq; omega
      · exact fin _ (by unfold signS; rw [if_pos (of_decide_eq_true g)]) q2 hq2 q3 hq3
    · refine ⟨_, rfl, (by show 2 ≤ sizeLine; decide), fun q2 hq2 => ?_⟩
      refine ⟨_, _, _, _, rfl, rfl, Same.new hq2 _ _ hw, upd_same, ?_, fun q3 hq3 => ?_⟩
      · rw [List.length_map]; show _ + 2 ≤ sizeLine; have q9 : sizeLine = 16777216 := sizeLine_eq; omega
      · exact fin _ (by unfold signS; rw [if_neg (of_decide_eq_false g)]) q2 hq2 q3 hq3
  · rintro σ H' ⟨q, o1, o2, rfl, S, hw⟩
    rw [hlen, List.take_length] at hw
    refine ⟨⟨_, rfl⟩, _, rfl, _, q, _, rfl, rfl, .inl (SqL.of hw), ?_, hq H' (S2.trans S)⟩
    have q1 := sum_le (wordsT (t :: r)) (words_len hok)
    have q2 : (wordsT (t :: r)).length = 2 * r.length + 1 := by simp [wordsT, tailW_len]
    have q3 : (Str.ofString " ").length = 1 := rfl
    have q4 : r.length ≤ 9 := by simpa using hl
    rw [q3]
    omega
theorem SameBut.mut {d L : Addr} {H H' : Hp} {o : HO} (e : SameBut d H H') (h : H L = none) : SameBut d H (upd H' L o) := fun b u n q => by rw [upd_ne (ne_of_none q h)]; exact e b u n q
theorem SameBut.free {d c L : Addr} {n : Nat} {H H' : Hp} (e : SameBut d H H') (hp : Pen H' d c n) (h : H' L = none) : H L = none := by
  have hd : L ≠ d := by
    obtain ⟨cs, t, l, h1, _⟩ := hp
    exact fun z => by subst z; rw [h1] at h; cases h
  cases q : H L with
  | none => rfl
  | some o => have := e _ _ hd q; rw [h] at this; cases this
theorem Pen.mut {d c L : Addr} {n m : Nat} {H H' : Hp} {o : HO} (hp : Pen H d c m) (hp' : Pen H' d c n) (h : H L = none) : Pen (upd H' L o) d c n := by
  obtain ⟨cs, t, l, h1, h2, h3⟩ := hp'
  obtain ⟨cs', t', l', g1, g2, _⟩ := hp
  exact ⟨cs, t, l, by rw [upd_ne (ne_of_none g1 h)]; exact h1, by rw [upd_ne (ne_of_none g2 h)]; exact h2, h3⟩
theorem slT_app (a b : List Trm) : slT (a ++ b) = slT a + slT b := by unfold slT; rw [List.map_append, List.sum_append]
theorem loT_app (a b : List Trm) : loT (a ++ b) = loT a + loT b := by unfold loT; rw [List.map_append, List.sum_append]
theorem nSz_app (a b : List Trm) : nSz (a ++ b) = nSz a + nSz b := by unfold nSz; rw [List.filter_append, List.length_append]
theorem num_only : ∀ {ts : List Trm}, (∀ t ∈ ts, t.2 ≠ none) → slT ts = 0 ∧ nSz ts = 0
  | [], _ => ⟨rfl, rfl⟩
  | (s, none) :: r, h => absurd rfl (h _ List.mem_cons_self)
  | (s, some n) :: r, h => by
    have ih := num_only (ts := r) (fun t q => h t (List.mem_cons_of_mem _ q))
    have e : (s, some n) :: r = [(s, some n)] ++ r := rfl
    rw [e, slT_app, nSz_app, ih.1, ih.2]
    exact ⟨rfl, rfl⟩
/-- terms ahead of the last step -/
structure PreTs (ts : List Trm) (s l : Int) : Prop where
  ok : ∀ t ∈ ts, TmOk t
  len : ts.length ≤ 3
  ne : ts ≠ []
  sz : nSz ts ≤ 1
  sl : slT ts = s
  lo : loT ts = l
def spNewKeep : Sp := fun vs H Q E => ∃ (d c : Addr) (n : Nat), vs = [.ref d] ∧ Pen H d c n ∧ n < 2 ^ 38 ∧ ∀ ts p H', GoodTs ts → (slT ts = 0 ∨ slT ts = 1 ∨ slT ts = -1) → SameBut d H H' → Pen H' d c (n + 40) → H' p = some (.tup [.str (textT ts), .int (slT ts), .int (loT ts)]) → Q (.ref p) H'
theorem ok_new_keep (T : Tx P K mg) : FnX P w K mg base CX0 3 "_law_new_keep" ["_law_pen"] [] spNewKeep := by
  have F_l_draw := ok_draw (P := P) (w := w) (base := base) T
  have F_l_pick := ok_pick (P := P) (w := w) (base := base) T
  have F_l_wide := ok_wide (P := P) (w := w) (base := base) T
  have F_l_sum_text := ok_sum_text (P := P) (w := w) (base := base) T
  refine T.d_l_new_keep.ok0 sc_l_new_keep (fun _ _ _ _ _ _ us hl => match us, hl with | [_], _ => rfl) (fun vs H Q E h => ?_) (fun f cdv A outer s H vs Q E hr h => have hu := hu_of hr; ⟨_, (by exact (pss_cons (ps_par3 (i := 1) (j := 2) (l := 3) (by rfl) sc_l_new_keep.nd rfl rfl rfl (by decide) (by decide) (by decide) rfl rfl rfl (pa_cons (pe_lst pa_nil) (pa_cons pe_int (pa_cons (pe_callX F_l_pick (hr.mono (by decide)) pass0 (pa_cons (pv 0) (pa_cons (pe_lst (pa_cons pe_int (pa_cons pe_int (pa_cons pe_int (pa_cons pe_int (pa_cons (pe_un un_neg pe_int) pa_nil)))))) pa_nil))) pa_nil))) (by rfl))
      (pss_cons (ps_for PassesOwn.never rfl (pi_range1 rfl T.b_range (pa_cons (pe_op op_add (pe_callX F_l_draw (hr.mono (by decide)) pass0 (pa_cons (pv 0) (pa_cons pe_int pa_nil))) (pe_callTy call_int1 (by rfl) T.b_int (by decide +kernel) (pa_cons (pe_cmpR op_eq (pv 3) pe_int (nomark _)) pa_nil))) pa_nil)) (pg_name (i := 4) sc_l_new_keep.nd rfl (Or.inl rfl))
        (pss_cons (ps_par (i := 5) (j := 6) (by rfl) sc_l_new_keep.nd rfl rfl (by decide) rfl rfl (pa_cons (pe_callX F_l_pick (hr.mono (by decide)) pass0 (pa_cons (pv 0) (pa_cons (pe_lst (pa_cons pe_int (pa_cons pe_int (pa_cons pe_int (pa_cons pe_int pa_nil))))) pa_nil))) (pa_cons (pe_callX F_l_pick (hr.mono (by decide)) pass0 (pa_cons (pv 0) (pa_cons (pe_lst (pa_cons pe_int (pa_cons (pe_un un_neg pe_int) pa_nil))) pa_nil))) pa_nil)) (by rfl))
      (pss_cons (ps_set (i := 7) sc_l_new_keep.nd rfl (Or.inl rfl) (pe_ifExp (pt_cmpR op_gt (pv 5) pe_int (nomark _)) (pe_callX F_l_draw (hr.mono (by decide)) pass0 (pa_cons (pv 0) (pa_cons (pv 5) pa_nil))) (pe_callX F_l_wide (hr.mono (by decide)) pass0 (pa_cons (pv 0) pa_nil))))
      (pss_one (ps_par (i := 1) (j := 2) (by rfl) sc_l_new_keep.nd rfl rfl (by decide) rfl rfl (pa_cons (pe_op op_cat (pv 1) (pe_lst (pa_cons (pe_tup (pa_cons (pv 6) (pa_cons (pe_callTy call_str_int (by rfl) T.b_str (by decide +kernel) (pa_cons (pv 7) pa_nil)) pa_nil))) pa_nil))) (pa_cons (pe_op op_add (pv 2) (pe_op op_mul (pv 6) (pv 7))) pa_nil)) (by rfl))))))
      (pss_cons (ps_if (pt_cmpR op_ne (pv 3) pe_int (nomark _)) (pss_one (ps_expr (pe_bm PySem.F.plainAttrs_list PySem.F.slot_list_insert PySem.F.type_list_insert mt_insert (pv 1) (pa_cons (pe_callX F_l_draw (hr.mono (by decide)) pass0 (pa_cons (pv 0) (pa_cons (pe_op op_add (pe_callB call_len_seq (by rfl) T.b_len (by decide +kernel) (pa_cons (pv 1) pa_nil)) pe_int) pa_nil))) (pa_cons (pe_tup (pa_cons (pv 3) (pa_cons pe_str pa_nil))) pa_nil))))) pss_nil)
      (pss_cons (ps_if (pt_cmpR op_lt (pe_ix ix_tup (pe_ix ix_list (pv 1) pe_int (fun _ _ => rfl)) pe_int (fun _ _ => rfl)) pe_int (nomark _)) (pss_one (ps_par (i := 1) (j := 2) (by rfl) sc_l_new_keep.nd rfl rfl (by decide) rfl rfl (pa_cons (pe_op op_cat (pe_lst (pa_cons (pe_tup (pa_cons pe_int (pa_cons pe_str pa_nil))) pa_nil)) (pv 1)) (pa_cons (pe_op op_add (pv 2) pe_int) pa_nil)) (by rfl))) pss_nil)
      (pss_one (ps_ret (pe_tup (pa_cons (pe_callX F_l_sum_text (hr.mono (by decide)) pass0 (pa_cons (pv 1) pa_nil)) (pa_cons (pv 3) (pa_cons (pv 2) pa_nil))))))))))), ?_⟩)
  · obtain ⟨d, c, n, rfl, _⟩ := h
    rfl
  obtain ⟨d, c, n, rfl, hp, hn, hq⟩ := h
  refine ⟨(by show 0 ≤ sizeLine; decide), fun L hL => ?_⟩
  refine ⟨_, rfl, _, rfl, (by show 5 ≤ sizeLine; decide), fun a ha => ?_⟩
  have S1 : Same H (upd (upd H L (.lst [])) a (.lst ([1, 1, 1, 0, -1].map V.int))) := (Same.new hL).trans (Same.new ha)
  have hL1 : upd (upd H L (.lst [])) a (.lst ([1, 1, 1, 0, -1].map V.int)) L = some (.lst []) := Same.new ha _ _ upd_same
  have ha1 : upd (upd H L (.lst [])) a (.lst ([1, 1, 1, 0, -1].map V.int)) a = some (.lst ([1, 1, 1, 0, -1].map V.int)) := upd_same
  refine ⟨d, c, a, n, [1, 1, 1, 0, -1], rfl, hp.up S1, by omega, ha1, by decide, by decide, fun sl H2 hsl S2 hp2 => ?_⟩
  have hL2 : H2 L = some (.lst []) := S2 _ _ ((hp.up S1).ne hL1) hL1
  have SS2 : SameBut d H H2 := (SameBut.of S1).trans S2
  clear ha1 hL1
  refine ⟨_, _, _, rfl, ?_⟩
  refine ⟨_, rfl, d, c, n + 1, 3, rfl, hp2, by omega, by decide, by decide, fun r H3 r0 r1 S3 hp3 => ?_⟩
  have hL3 : H3 L = some (.lst []) := S3 _ _ (hp2.ne hL2) hL2
  have SS3 := SS2.trans S3
  refine ⟨_, rfl, rfl, .inr ⟨_, rfl, ?_⟩⟩
  have hsl : sl = 0 ∨ sl = 1 ∨ sl = -1 := by
    simp at hsl
    omega
  have hcnt : (r + if decide (V.int sl = V.int 0) = true then 1 else 0).toNat ≤ 3 ∧ 0 ≤ (r + if decide (V.int sl = V.int 0) = true then 1 else 0) ∧ (r + if decide (V.int sl = V.int 0) = true then 1 else 0) ≤ 3 ∧ (sl = 0 → 1 ≤ (r + if decide (V.int sl = V.int 0) = true then 1 else 0).toNat) ∧ (sl ≠ 0 → (r + if decide (V.int sl = V.int 0) = true then 1 else 0).toNat ≤ 2) := by
    by_cases q : sl = 0
    · subst q
      simp
      omega
    · have : decide (V.int sl = V.int 0) = false := decide_eq_false fun z => q (V.int.inj z)
      rw [this]
      simp [q]
      omega
  refine ⟨_, _, rfl, rfl, ?_⟩
  generalize ecnt : (r + if decide (V.int sl = V.int 0) = true then 1 else 0) = cnt at hcnt
  obtain ⟨c1, c2, c3, c4, c5⟩ := hcnt
  refine ⟨_, rfl, by omega, by omega, for_range (lo := 0) (fun i σ H' => ∃ (L : Addr) (us : List V) (ts : List Trm) (o4 o5 o6 o7 : Option V), σ = [some (.ref d), some (.ref L), some (.int (loT ts)), some (.int sl), o4, o5, o6, o7] ∧ H L = none ∧ H' L = some (.lst us) ∧ TmsR H' us ts ∧ ts.length = i ∧ (∀ t ∈ ts, TmOk t) ∧ (∀ t ∈ ts, t.2 ≠ none) ∧ SameBut d H H' ∧ Pen H' d c (n + 2 + 8 * i)) ⟨L, [], [], _, _, _, _, rfl, hL, hL3, .nil, rfl, (fun _ h => by cases h), (fun _ h => by cases h), SS3, hp3⟩ ?_ ?_⟩
  · rintro i σ H' hi ⟨L, us, ts, o4, o5, o6, o7, rfl, hLn, hL', hA, hts, hok, hnum, SS, hp'⟩
    rw [ecnt] at hi
    have hlen : us.length = ts.length := Paired.length hA
    refine ⟨_, rfl, (by show 4 ≤ sizeLine; decide), fun b hb => ?_⟩
    have T1 : Same H' (upd H' b (.lst ([10, 10, 100, 0].map V.int))) := Same.new hb
    refine ⟨d, c, b, n + 2 + 8 * i, [10, 10, 100, 0], rfl, hp'.up T1, by omega, upd_same, by decide, by decide, fun sp H4 hsp S4 hp4 => ?_⟩
    have SS4 : SameBut d H' H4 := (SameBut.of T1).trans S4
    refine ⟨_, rfl, _, rfl, (by show 2 ≤ sizeLine; decide), fun b2 hb2 => ?_⟩
    have T2 : Same H4 (upd H4 b2 (.lst ([1, -1].map V.int))) := Same.new hb2
    refine ⟨d, c, b2, n + 2 + 8 * i + 1, [1, -1], rfl, hp4.up T2, by omega, upd_same, by decide, by decide, fun sg H5 hsg S5 hp5 => ?_⟩
    have SS5 : SameBut d H' H5 := SS4.trans ((SameBut.of T2).trans S5)
    refine ⟨_, _, rfl, ?_⟩
    have hsg : sg = 1 ∨ sg = -1 := by simpa using hsg
    have fin : ∀ (num : Int) (H6 : Hp), 0 ≤ num → num < 10 ^ 30 → SameBut d H' H6 → Pen H6 d c (n + 2 + 8 * (i + 1)) → ∀ tp, H6 tp = none → ∀ l1, upd H6 tp (.tup [.int sg, .str (Str.ofString (toString num))]) l1 = none → ∀ l2, upd (upd H6 tp (.tup [.int sg, .str (Str.ofString (toString num))])) l1 (.lst [.ref tp]) l2 = none →
        ∀ (o4 o5 o6 o7 : Option V), ∃ (L : Addr) (us' : List V) (ts' : List Trm) (o4' o5' o6' o7' : Option V), ([some (.ref d), some (.ref l2), some (.int (loT ts + sg * num)), some (.int sl), o4, o5, o6, o7] : L2.St) = [some (.ref d), some (.ref L), some (.int (loT ts')), some (.int sl), o4', o5', o6', o7'] ∧ H L = none ∧
          upd (upd (upd H6 tp (.tup [.int sg, .str (Str.ofString (toString num))])) l1 (.lst [.ref tp])) l2 (.lst (us ++ [.ref tp])) L = some (.lst us') ∧ TmsR (upd (upd (upd H6 tp (.tup [.int sg, .str (Str.ofString (toString num))])) l1 (.lst [.ref tp])) l2 (.lst (us ++ [.ref tp]))) us' ts' ∧ ts'.length = i + 1 ∧ (∀ t ∈ ts', TmOk t) ∧ (∀ t ∈ ts', t.2 ≠ none) ∧
          SameBut d H (upd (upd (upd H6 tp (.tup [.int sg, .str (Str.ofString (toString num))])) l1 (.lst [.ref tp])) l2 (.lst (us ++ [.ref tp]))) ∧ Pen (upd (upd (upd H6 tp (.tup [.int sg, .str (Str.ofString (toString num))])) l1 (.lst [.ref tp])) l2 (.lst (us ++ [.ref tp]))) d c (n + 2 + 8 * (i + 1)) := by
      intro num H6 n0 n1 S6 hp6 tp htp l1 hl1 l2 hl2 o4 o5 o6 o7
      have W1 : Same H6 (upd H6 tp (.tup [.int sg, .str (Str.ofString (toString num))])) := Same.new htp
      have W2 := W1.trans (Same.new (o := .lst [.ref tp]) hl1)
      have W3 := W2.trans (Same.new (o := .lst (us ++ [.ref tp])) hl2)
      have hf : H l2 = none := (SS.trans S6).free hp6 (W2.free hl2)
      have en : ((num.toNat : Nat) : Int) = num := by omega
      refine ⟨l2, us ++ [.ref tp], ts ++ [(sg, some num.toNat)], o4, o5, o6, o7, ?_, hf, upd_same, ?_, ?_, ?_, ?_, (SS.trans S6).trans (SameBut.of W3), hp6.up W3⟩
      · rw [loT_app]
        have q : loT [(sg, some num.toNat)] = sg * num := by
          show sg * ((num.toNat : Nat) : Int) + 0 = _
          rw [en]; omega
        rw [q]
      · refine TmsR.app (TmsR.up ((TupLe.but hp' S6).trans W3.tups) hA) (.cons ⟨tp, rfl, ?_⟩ .nil)
        have q := ((Same.new (o := .lst [.ref tp]) hl1).trans (Same.new (o := .lst (us ++ [.ref tp])) hl2)) tp (.tup [.int sg, .str (Str.ofString (toString num))]) upd_same
        show _ = some (HO.tup [.int sg, .str (Str.ofString (toString ((num.toNat : Nat) : Int)))])
        rw [en]
        exact q
      · simp [hts]
      · intro t ht
        rcases List.mem_append.mp ht with q | q
        · exact hok t q
        · have q : t = (sg, some num.toNat) := by simpa using q
          subst q
          exact ⟨hsg, fun k hk => by cases hk; omega⟩
      · intro t ht
        rcases List.mem_append.mp ht with q | q
        · exact hnum t q
        · have q : t = (sg, some num.toNat) := by simpa using q
          subst q
          exact fun z => by cases z
    have log : ∀ num : Int, 0 ≤ num → num < 10 ^ 30 → num.natAbs.log2 < 1920 := fun num n0 n1 => by
      have q : num.natAbs < 2 ^ 100 := by
        have : num.natAbs < 10 ^ 30 := by omega
        exact Nat.lt_of_lt_of_le this (by decide)
      by_cases z : num.natAbs = 0
      · rw [z]; decide
      · exact Nat.lt_of_lt_of_le ((Nat.log2_lt z).mpr q) (by decide)
    refine ⟨_, rfl, _, _, rfl, rfl, _, rfl, ?_⟩
    have body : ∀ (num : Int) (H6 : Hp), 0 ≤ num → num < 10 ^ 30 → SameBut d H5 H6 → Pen H6 d c (n + 2 + 8 * (i + 1)) → True := fun _ _ _ _ _ _ => trivial
    refine iteB (fun g => ?_) (fun g => ?_)
    · have hsp : sp = 10 ∨ sp = 100 := by
        have q := of_decide_eq_true g
        simp at hsp
        omega
      refine ⟨_, rfl, _, rfl, d, c, n + 2 + 8 * i + 1 + 1, sp, rfl, hp5, by omega, by omega, by omega, fun num H6 n0 n1 S6 hp6 => ?_⟩
      have n1 : num < 10 ^ 30 := by omega
      have hL6 : H6 L = some (.lst us) := (SS5.trans S6) _ _ (hp'.ne hL') hL'
      refine ⟨_, rfl, _, rfl, _, rfl, _, rfl, log num n0 n1, (by show 2 ≤ sizeLine; decide), fun tp htp => ⟨(by show 1 ≤ sizeLine; decide), fun l1 hl1 => ?_⟩⟩
      refine ⟨L, l1, _, _, rfl, rfl, Same.new hl1 _ _ (Same.new htp _ _ hL6), upd_same, ?_, fun l2 hl2 => ?_⟩
      · show us.length + 1 ≤ sizeLine
        have q9 : sizeLine = 16777216 := sizeLine_eq
        omega
      refine ⟨_, rfl, _, rfl, _, rfl, _, _, rfl, rfl, .inl (by omega), _, _, rfl, rfl, _, _, rfl, ?_⟩
      exact fin num H6 n0 n1 (SS5.trans S6) (hp6.mono (by omega)) tp htp l1 hl1 l2 hl2 _ _ _ _
    · refine ⟨_, rfl, d, c, n + 2 + 8 * i + 1 + 1, rfl, hp5, by omega, fun num H6 n0 n1 S6 hp6 => ?_⟩
      have hL6 : H6 L = some (.lst us) := (SS5.trans S6) _ _ (hp'.ne hL') hL'
      refine ⟨_, rfl, _, rfl, _, rfl, _, rfl, log num n0 n1, (by show 2 ≤ sizeLine; decide), fun tp htp => ⟨(by show 1 ≤ sizeLine; decide), fun l1 hl1 => ?_⟩⟩
      refine ⟨L, l1, _, _, rfl, rfl, Same.new hl1 _ _ (Same.new htp _ _ hL6), upd_same, ?_, fun l2 hl2 => ?_⟩
      · show us.length + 1 ≤ sizeLine
        have q9 : sizeLine = 16777216 := sizeLine_eq
        omega
      refine ⟨_, rfl, _, rfl, _, rfl, _, _, rfl, rfl, .inl (by omega), _, _, rfl, rfl, _, _, rfl, ?_⟩
      exact fin num H6 n0 n1 (SS5.trans S6) (hp6.mono (by omega)) tp htp l1 hl1 l2 hl2 _ _ _ _
  · rintro σ H' ⟨L, us, ts, o4, o5, o6, o7, rfl, hLn, hL', hA, hts, hok, hnum, SS, hp'⟩
    rw [ecnt] at hts hp'
    have hlen : us.length = ts.length := Paired.length hA
    have hn := num_only hnum
    refine ⟨_, rfl, rfl, _, rfl, ?_⟩
    refine iteB (fun g => ?_) (fun g => ?_)
    · have g' : sl ≠ 0 := fun z => by subst z; cases g
      refine ⟨_, rfl, .inl ⟨rfl, _, SqL.of hL'⟩, _, rfl, _, rfl, L, _, rfl, .inl (SqL.of hL'), _, _, rfl, rfl, d, c, _, _, rfl, hp', by omega, by omega, by omega, fun r9 H4 r90 r91 S4 hp4 => ?_⟩
      have hL4 : H4 L = some (.lst us) := S4 _ _ (hp'.ne hL') hL'
      refine ⟨_, rfl, (by show 2 ≤ sizeLine; decide), fun tp htp => ?_⟩
      have S5 : Same H4 (upd H4 tp (.tup [.int sl, .str (Str.ofString "size")])) := Same.new htp
      have htp5 : upd H4 tp (.tup [.int sl, .str (Str.ofString "size")]) tp = some (.tup [.int sl, .str (atomS none)]) := upd_same
      generalize upd H4 tp (.tup [.int sl, .str (Str.ofString "size")]) = H5 at *
      have hL5 := S5 _ _ hL4
      refine ⟨L, us, r9, .ref tp, rfl, rfl, hL5, ?_, r90, by omega, ?_⟩
      · have q9 : sizeLine = 16777216 := sizeLine_eq
        omega
      have TL0 : TupLe H' H5 := (TupLe.but hp' S4).trans S5.tups
      have TL1 : TupLe H5 (upd H5 L (.lst (us.take r9.toNat ++ [.ref tp] ++ us.drop r9.toNat))) := TupLe.mut hL5 (fun xs q => nomatch q)
      have hA3 : TmsR (upd H5 L (.lst (us.take r9.toNat ++ [.ref tp] ++ us.drop r9.toNat))) (us.take r9.toNat ++ [.ref tp] ++ us.drop r9.toNat) (ts.take r9.toNat ++ [(sl, none)] ++ ts.drop r9.toNat) :=
        TmsR.app (TmsR.app (TmsR.up (TL0.trans TL1) (TmsR.cut r9.toNat hA).1) (.cons ⟨tp, rfl, TL1 _ _ htp5⟩ .nil)) (TmsR.up (TL0.trans TL1) (TmsR.cut r9.toNat hA).2)
      have G : PreTs (ts.take r9.toNat ++ [(sl, none)] ++ ts.drop r9.toNat) sl (loT ts) := by
        have m1 : slT (ts.take r9.toNat) + slT (ts.drop r9.toNat) = slT ts := by rw [← slT_app, List.take_append_drop]
        have m2 : loT (ts.take r9.toNat) + loT (ts.drop r9.toNat) = loT ts := by rw [← loT_app, List.take_append_drop]
        have m3 : nSz (ts.take r9.toNat) + nSz (ts.drop r9.toNat) = nSz ts := by rw [← nSz_app, List.take_append_drop]
        have k1 : slT [(sl, none)] = sl := by show sl + 0 = sl; omega
        have k2 : loT [(sl, none)] = 0 := rfl
        have k3 : nSz [(sl, none)] = 1 := rfl
        refine ⟨fun t ht => ?_, ?_, by simp, ?_, ?_, ?_⟩
        · rcases List.mem_append.mp ht with q | q
          · rcases List.mem_append.mp q with q | q
            · exact hok t (List.mem_of_mem_take q)
            · have q : t = (sl, none) := by simpa using q
              subst q
              exact ⟨by rcases hsl with z | z; exact absurd z g'; exact z, fun k hk => by cases hk⟩
          · exact hok t (List.mem_of_mem_drop q)
        · have := c5 g'
          have q91 : r9 < (us.length : Int) + 1 := r91
          rw [List.length_append, List.length_append, List.length_take, List.length_drop]
          have q92 := Nat.min_le_left r9.toNat ts.length
          simp only [List.length_cons, List.length_nil]
          omega
        · rw [nSz_app, nSz_app, k3]
          omega
        · rw [slT_app, slT_app, k1]
          omega
        · rw [loT_app, loT_app, k2]
          omega
      have SS0 := SS.trans (S4.trans (SameBut.of S5))
      have SS : SameBut d H (upd H5 L (.lst (us.take r9.toNat ++ [.ref tp] ++ us.drop r9.toNat))) := SS0.mut hLn
      have hp3 : Pen (upd H5 L (.lst (us.take r9.toNat ++ [.ref tp] ++ us.drop r9.toNat))) d c (n + 30) := (Pen.mut hp (hp4.up S5) hLn).mono (by omega)
      have hL3 : upd H5 L (.lst (us.take r9.toNat ++ [.ref tp] ++ us.drop r9.toNat)) L = some (.lst (us.take r9.toNat ++ [.ref tp] ++ us.drop r9.toNat)) := upd_same
      generalize upd H5 L (.lst (us.take r9.toNat ++ [.ref tp] ++ us.drop r9.toNat)) = H3 at *
      generalize us.take r9.toNat ++ [.ref tp] ++ us.drop r9.toNat = us3 at *
      generalize ts.take r9.toNat ++ [(sl, none)] ++ ts.drop r9.toNat = ts3 at *
      generalize loT ts = lo at *
      generalize L = L3 at *
      cases hA3 with
      | nil => exact absurd rfl G.ne
      | cons h0 hA3 =>
      rename_i u0 t0 us3 r3
      obtain ⟨p0, rfl, hp0⟩ := h0
      have hlen3 : us3.length ≤ 2 := by
        have q1 : us3.length = r3.length := Paired.length hA3
        have q2 := G.len
        simp at q2
        omega
      refine ⟨_, rfl, L3, _, _, _, rfl, rfl, SqL.of hL3, atI_nat (j := 0) rfl, p0, _, _, _, rfl, rfl, SqT.of hp0, atI_nat (j := 0) rfl, _, _, rfl, rfl, _, rfl, ?_⟩
      refine iteB (fun g => ?_) (fun g => ?_)
      · refine ⟨(by show 2 ≤ sizeLine; decide), fun tp htp => ⟨(by show 1 ≤ sizeLine; decide), fun l1 hl1 => ?_⟩⟩
        have S5 : Same H3 (upd (upd H3 tp (.tup [.int 1, .str (Str.ofString "7")])) l1 (.lst [.ref tp])) := (Same.new htp).trans (Same.new hl1)
        have htp5 : upd (upd H3 tp (.tup [.int 1, .str (Str.ofString "7")])) l1 (.lst [.ref tp]) tp = some (.tup [.int 1, .str (atomS (some 7))]) := Same.new hl1 _ _ upd_same
        have hl5 : upd (upd H3 tp (.tup [.int 1, .str (Str.ofString "7")])) l1 (.lst [.ref tp]) l1 = some (.lst [.ref tp]) := upd_same
        generalize upd (upd H3 tp (.tup [.int 1, .str (Str.ofString "7")])) l1 (.lst [.ref tp]) = H5 at *
        refine ⟨_, rfl, l1, L3, _, _, rfl, rfl, hl5, S5 _ _ hL3, ?_, fun l2 hl2 => ?_⟩
        · show 1 + (us3.length + 1) ≤ sizeLine
          have q9 : sizeLine = 16777216 := sizeLine_eq
          omega
        have S6 : Same H5 (upd H5 l2 (.lst ([.ref tp] ++ .ref p0 :: us3))) := Same.new hl2
        have hl6 : upd H5 l2 (.lst ([.ref tp] ++ .ref p0 :: us3)) l2 = some (.lst (.ref tp :: .ref p0 :: us3)) := upd_same
        generalize upd H5 l2 (.lst ([.ref tp] ++ .ref p0 :: us3)) = H6 at *
        refine ⟨_, rfl, _, _, rfl, rfl, _, _, rfl, ?_⟩
        have S7 := S5.trans S6
        have G2 : GoodTs ((1, some 7) :: t0 :: r3) := ⟨fun t ht => by
            rcases List.mem_cons.mp ht with q | q
            · subst q; exact ⟨.inl rfl, fun k hk => by cases hk; decide⟩
            · exact G.ok t q, by have := G.len; simp at this ⊢; omega, by
            have q := nSz_app [(1, some 7)] (t0 :: r3)
            have q2 : nSz [((1 : Int), some 7)] = 0 := rfl
            have := G.sz
            show nSz ([(1, some 7)] ++ t0 :: r3) ≤ 1
            omega, ⟨_, _, rfl⟩⟩
        have e1 : slT ((1, some 7) :: t0 :: r3) = sl := by
          have q := slT_app [(1, some 7)] (t0 :: r3)
          have q2 : slT [((1 : Int), some 7)] = 0 := rfl
          rw [G.sl, q2] at q
          exact q.trans (by omega)
        have e2 : loT ((1, some 7) :: t0 :: r3) = lo + 7 := by
          have q := loT_app [(1, some 7)] (t0 :: r3)
          have q2 : loT [((1 : Int), some 7)] = 7 := rfl
          rw [G.lo, q2] at q
          exact q.trans (by omega)
        refine ⟨_, rfl, l2, _, (1, some 7) :: t0 :: r3, rfl, hl6, .cons ⟨tp, rfl, S6 _ _ htp5⟩ (.cons ⟨p0, rfl, S7 _ _ hp0⟩ (TmsR.up S7.tups hA3)), by simp, by have := G.len; simp at this ⊢; omega, G2.ok, fun H8 S8 => ?_⟩
        refine ⟨_, rfl, _, rfl, (by show 3 ≤ sizeLine; decide), fun pz hpz => ?_⟩
        refine hq ((1, some 7) :: t0 :: r3) pz _ G2 (by rw [e1]; exact hsl) (SS.trans (SameBut.of (S7.trans (S8.trans (Same.new hpz))))) ((hp3.up (S7.trans (S8.trans (Same.new hpz)))).mono (by omega)) ?_
        rw [e1, e2]
        exact upd_same
      · have G2 : GoodTs (t0 :: r3) := ⟨G.ok, by have := G.len; omega, G.sz, by
          obtain ⟨s0, a0⟩ := t0
          have q := of_decide_eq_false g
          rcases (G.ok _ List.mem_cons_self).1 with e | e
          · have e : s0 = 1 := e
            subst e; exact ⟨_, _, rfl⟩
          · have e : s0 = -1 := e
            subst e; exact absurd (show (-1 : Int) < 0 by decide) q⟩
        refine ⟨_, rfl, L3, _, t0 :: r3, rfl, hL3, .cons ⟨p0, rfl, hp0⟩ hA3, by simp, by have := G.len; omega, G.ok, fun H8 S8 => ?_⟩
        refine ⟨_, rfl, _, rfl, (by show 3 ≤ sizeLine; decide), fun pz hpz => ?_⟩
        refine hq (t0 :: r3) pz _ G2 (by rw [G.sl]; exact hsl) (SS.trans (SameBut.of (S8.trans (Same.new hpz)))) ((hp3.up (S8.trans (Same.new hpz))).mono (by omega)) ?_
        rw [G.sl, G.lo]
        exact upd_same
    · have g' : sl = 0 := Classical.byContradiction fun z => by
        have q : (!decide (V.int sl = V.int 0)) = true := by rw [decide_eq_false (fun e => z (V.int.inj e))]; rfl
        rw [q] at g
        cases g
      have G : PreTs ts sl (loT ts) := ⟨hok, by omega, fun z => by subst z; have := c4 g'; simp at hts; omega, by omega, by omega, rfl⟩
      have hp3 : Pen H' d c (n + 30) := hp'.mono (by omega)
      generalize loT ts = lo at *
      have hA3 := hA
      have hL3 := hL'
      generalize H' = H3 at *
      generalize L = L3 at *
      cases hA3 with
      | nil => exact absurd rfl G.ne
      | cons h0 hA3 =>
      rename_i u0 t0 us3 r3
      obtain ⟨p0, rfl, hp0⟩ := h0
      have hlen3 : us3.length ≤ 2 := by
        have q1 : us3.length = r3.length := Paired.length hA3
        have q2 := G.len
        simp at q2
        omega
      refine ⟨_, rfl, L3, _, _, _, rfl, rfl, SqL.of hL3, atI_nat (j := 0) rfl, p0, _, _, _, rfl, rfl, SqT.of hp0, atI_nat (j := 0) rfl, _, _, rfl, rfl, _, rfl, ?_⟩
      refine iteB (fun g => ?_) (fun g => ?_)
      · refine ⟨(by show 2 ≤ sizeLine; decide), fun tp htp => ⟨(by show 1 ≤ sizeLine; decide), fun l1 hl1 => ?_⟩⟩
        have S5 : Same H3 (upd (upd H3 tp (.tup [.int 1, .str (Str.ofString "7")])) l1 (.lst [.ref tp])) := (Same.new htp).trans (Same.new hl1)
        have htp5 : upd (upd H3 tp (.tup [.int 1, .str (Str.ofString "7")])) l1 (.lst [.ref tp]) tp = some (.tup [.int 1, .str (atomS (some 7))]) := Same.new hl1 _ _ upd_same
        have hl5 : upd (upd H3 tp (.tup [.int 1, .str (Str.ofString "7")])) l1 (.lst [.ref tp]) l1 = some (.lst [.ref tp]) := upd_same
        generalize upd (upd H3 tp (.tup [.int 1, .str (Str.ofString "7")])) l1 (.lst [.ref tp]) = H5 at *
        refine ⟨_, rfl, l1, L3, _, _, rfl, rfl, hl5, S5 _ _ hL3, ?_, fun l2 hl2 => ?_⟩
        · show 1 + (us3.length + 1) ≤ sizeLine
          have q9 : sizeLine = 16777216 := sizeLine_eq
          omega
        have S6 : Same H5 (upd H5 l2 (.lst ([.ref tp] ++ .ref p0 :: us3))) := Same.new hl2
        have hl6 : upd H5 l2 (.lst ([.ref tp] ++ .ref p0 :: us3)) l2 = some (.lst (.ref tp :: .ref p0 :: us3)) := upd_same
        generalize upd H5 l2 (.lst ([.ref tp] ++ .ref p0 :: us3)) = H6 at *
        refine ⟨_, rfl, _, _, rfl, rfl, _, _, rfl, ?_⟩
        have S7 := S5.trans S6
        have G2 : GoodTs ((1, some 7) :: t0 :: r3) := ⟨fun t ht => by
            rcases List.mem_cons.mp ht with q | q
            · subst q; exact ⟨.inl rfl, fun k hk => by cases hk; decide⟩
            · exact G.ok t q, by have := G.len; simp at this ⊢; omega, by
            have q := nSz_app [(1, some 7)] (t0 :: r3)
            have q2 : nSz [((1 : Int), some 7)] = 0 := rfl
            have := G.sz
            show nSz ([(1, some 7)] ++ t0 :: r3) ≤ 1
            omega, ⟨_, _, rfl⟩⟩
        have e1 : slT ((1, some 7) :: t0 :: r3) = sl := by
          have q := slT_app [(1, some 7)] (t0 :: r3)
          have q2 : slT [((1 : Int), some 7)] = 0 := rfl
          rw [G.sl, q2] at q
          exact q.trans (by omega)
        have e2 : loT ((1, some 7) :: t0 :: r3) = lo + 7 := by
          have q := loT_app [(1, some 7)] (t0 :: r3)
          have q2 : loT [((1 : Int), some 7)] = 7 := rfl
          rw [G.lo, q2] at q
          exact q.trans (by omega)
        refine ⟨_, rfl, l2, _, (1, some 7) :: t0 :: r3, rfl, hl6, .cons ⟨tp, rfl, S6 _ _ htp5⟩ (.cons ⟨p0, rfl, S7 _ _ hp0⟩ (TmsR.up S7.tups hA3)), by simp, by have := G.len; simp at this ⊢; omega, G2.ok, fun H8 S8 => ?_⟩
        refine ⟨_, rfl, _, rfl, (by show 3 ≤ sizeLine; decide), fun pz hpz => ?_⟩
        refine hq ((1, some 7) :: t0 :: r3) pz _ G2 (by rw [e1]; exact hsl) (SS.trans (SameBut.of (S7.trans (S8.trans (Same.new hpz))))) ((hp3.up (S7.trans (S8.trans (Same.new hpz)))).mono (by omega)) ?_
        rw [e1, e2]
        exact upd_same
      · have G2 : GoodTs (t0 :: r3) := ⟨G.ok, by have := G.len; omega, G.sz, by
          obtain ⟨s0, a0⟩ := t0
          have q := of_decide_eq_false g
          rcases (G.ok _ List.mem_cons_self).1 with e | e
          · have e : s0 = 1 := e
            subst e; exact ⟨_, _, rfl⟩
          · have e : s0 = -1 := e
            subst e; exact absurd (show (-1 : Int) < 0 by decide) q⟩
        refine ⟨_, rfl, L3, _, t0 :: r3, rfl, hL3, .cons ⟨p0, rfl, hp0⟩ hA3, by simp, by have := G.len; omega, G.ok, fun H8 S8 => ?_⟩
        refine ⟨_, rfl, _, rfl, (by show 3 ≤ sizeLine; decide), fun pz hpz => ?_⟩
        refine hq (t0 :: r3) pz _ G2 (by rw [G.sl]; exact hsl) (SS.trans (SameBut.of (S8.trans (Same.new hpz)))) ((hp3.up (S8.trans (Same.new hpz))).mono (by omega)) ?_
        rw [G.sl, G.lo]
        exact upd_same
end
end K68


set_option Elab.async false
set_option linter.all false
set_option maxRecDepth 100000
set_option maxHeartbeats 4000000
namespace K68
open PySem PySem.Spec PyProof.Rows L2 Tld
section
variable {P : Program} {w : World} {K : PySem.W.Frag} {mg : Str → Option Value} {base : Heap}
def spAsked (K : PySem.W.Frag) : Sp := fun vs H Q E => ∃ (x : Addr) (i : Int) (v : V) (z : Str) (s l : Int), vs = [.ref x, .int i, v] ∧ RuAt K H x z s l ∧ flatV v = true ∧ goodSz v = false ∧ badSz K E v H
theorem ok_asked (T : Tx P K mg) : FnX P w K mg base (L2.CX P w) 7 "_law_asked" ["_law_rules", "_law_way", "_law_value"] [] (spAsked K) := by
  have F_BookRules_kept_rows := ok_kept (P := P) (w := w) (base := base) T
  have F_BookRules_in_use := ok_use (P := P) (w := w) (base := base) T
  have F_BookRules_next_in_use := ok_next (P := P) (w := w) (base := base) T
  refine T.d_l_asked.okX sc_l_asked (fun _ _ _ _ _ _ us hl => match us, hl with | [_, _, _], _ => rfl) (fun vs H Q E h => ?_) (fun f cdv A outer s H vs Q E hr h => ⟨_, (by exact (pss_cons (ps_if (pt_cmpR op_eq (pv 1) pe_int (nomark _)) (pss_one (ps_ret (pe_methX F_BookRules_kept_rows (hr.mono (by decide)) passOut (pv 0) (pa_cons (pv 2) pa_nil)))) pss_nil)
      (pss_one (ps_ret (pe_ifExp (pt_cmpR op_eq (pv 1) pe_int (nomark _)) (pe_methX F_BookRules_in_use (hr.mono (by decide)) passOut (pv 0) (pa_cons (pv 2) pa_nil)) (pe_methX F_BookRules_next_in_use (hr.mono (by decide)) passOut (pv 0) (pa_cons (pv 2) pa_nil))))))), ?_⟩)
  · obtain ⟨x, i, v, z, s, l, rfl, _⟩ := h
    rfl
  obtain ⟨x, i, v, z, s, l, rfl, R, hf, hb, h0⟩ := h
  obtain ⟨⟨dx, hx⟩, hs⟩ := id R
  have no : ∀ j, v = .int j → 1 ≤ j → False := fun j e g => by subst e; exact absurd (of_decide_eq_false hb) (by omega)
  refine ⟨_, rfl, rfl, _, rfl, ?_⟩
  refine iteB (fun c => ?_) (fun c => ?_)
  · exact ⟨_, rfl, x, dx, _, rfl, hx, rfl, _, rfl, x, v, z, s, l, rfl, R, hf, fun j e g => (no j e g).elim, fun _ => h0⟩
  · refine ⟨_, rfl, rfl, _, rfl, ?_⟩
    refine iteB (fun c => ?_) (fun c => ?_)
    · exact ⟨_, rfl, x, dx, _, rfl, hx, rfl, _, rfl, x, v, z, s, l, rfl, R, hf, fun j e g => (no j e g).elim, fun _ => h0⟩
    · exact ⟨_, rfl, x, dx, _, rfl, hx, rfl, _, rfl, x, v, z, s, l, rfl, R, hf, fun j _ e g => (no j e g).elim, fun _ => h0⟩
/-- what _law_refused makes of the lambda it got -/
def TRef (K : PySem.W.Frag) : (XK → Hp → VK → Prop) → Hp → VK → Prop := fun tl H Q =>
  tl (fun cls d H' => ∃ dd fvs, d = some dd ∧ H' dd = some (.xd fvs) ∧ ((cls = .ref (He.ga K "BadSum") ∧ Q (.str (Str.ofString "sum")) H') ∨ (cls = .ref (He.ga K "BadSize") ∧ Q (.str (Str.ofString "size")) H'))) H (fun _ H' => Q (.str (Str.ofString "")) H')
abbrev zC (X : Cx) (s : Shared) (H : Hp) (g : Addr) (cdg : Value) : Cx := (cxOf C8.CX0 X.prog X.w X.K X.mg X.base ["_law_action", "e"] "_law_refused" (defScope s_l_refused) g cdg X.A X.stack s H C8.E0).nox
theorem refused_gives {X : Cx} (T : Tx X.prog X.K X.mg) {g : Addr} {cdg : Value} {q : Str} : LamX.GivesTo X ["_law_action", "e"] "_law_refused" (defScope s_l_refused) g cdg (defBody s_l_refused) "_law_action" q (TRef X.K) := by
  intro f c' s H Q tl act hc h
  refine ⟨_, pss_cons (ps_try_cls (X := zC X s H g cdg)
      (tb := fun W D σ H => ∃ Ech : XK, (∀ cls d σ' H', Ech cls d H' → σ'.length = 2 → W cls d σ' H') ∧ σ[0]? = some (some (.ref f)) ∧ H c' = some (LamX.CodeO c' q) ∧ tl Ech H (fun _ H' => D.nx σ H'))
      (l := [⟨.ref (He.ga X.K "BadSum"), some 1, _⟩, ⟨.ref (He.ga X.K "BadSize"), some 1, _⟩]) (Wout := fun _ _ _ _ => False)
      rfl rfl sc_l_refused.nd LamX.takes0 (fun W pn xe tk _ => ?_) (.named (i := 1) ⟨rfl, by decide, .inl T.g_BadSum⟩ rfl rfl rfl (fun a oe cls d pn hz hf => pss_one (ps_ret (pe_ifExp (pt_val (pe_callB (X := (zC X s H g cdg).suite a ((a, oe) :: pn)) (call_isErr (X := zC X s H g cdg) hz hf) (by rfl) T.b_isinstance (by decide +kernel) (pa_cons (pv (X := (zC X s H g cdg).suite a ((a, oe) :: pn)) 1) (pa_cons (pe_gref (X := (zC X s H g cdg).suite a ((a, oe) :: pn)) T.g_HeldError) pa_nil)))) pe_str pe_str)))
        (.named (i := 1) ⟨rfl, by decide, .inl T.g_BadSize⟩ rfl rfl rfl (fun a oe cls d pn hz hf => pss_one (ps_ret (pe_ifExp (pt_val (pe_callB (X := (zC X s H g cdg).suite a ((a, oe) :: pn)) (call_isErr (X := zC X s H g cdg) hz hf) (by rfl) T.b_isinstance (by decide +kernel) (pa_cons (pv (X := (zC X s H g cdg).suite a ((a, oe) :: pn)) 1) (pa_cons (pe_gref (X := (zC X s H g cdg).suite a ((a, oe) :: pn)) T.g_HeldError) pa_nil)))) pe_str pe_str))) .nil))) (pss_one (ps_ret pe_str)), ?_⟩
  · refine ⟨fun pins s' σ H' D I h' => ?_⟩
    obtain ⟨Ech, hW, h1, h2, h3⟩ := h'
    have hp := act _ pn xe Ech ⟨116, 8, 116, 19⟩ ⟨116, 8, 116, 21⟩ (takes_len tk) hW
    have hq := pss_one (ps_expr (pos := ⟨116, 8, 116, 21⟩) hp)
    exact hq.run pins s' σ H' D I ⟨h1, h2, h3⟩
  · refine ⟨_, fun cls d σ' H' hh hl => ?_, rfl, hc, h⟩
    obtain ⟨x0, x1, rfl⟩ : ∃ x0 x1, σ' = [x0, x1] := by
      match σ', hl with
      | [x0, x1], _ => exact ⟨x0, x1, rfl⟩
    obtain ⟨dd, fvs, rfl, hd, (⟨rfl, hq⟩ | ⟨rfl, hq⟩)⟩ := hh
    · refine ⟨true, T.x_ss, fun _ a ha => ?_, (fun z => by cases z)⟩
      exact ⟨_, rfl, _, _, .ref (He.ga X.K "HeldError"), true, rfl, T.k_BadSum, rfl, (fun u e => e), T.i_s, .inr ⟨dd, fvs, rfl, hd⟩, _, rfl, iteT hq⟩
    · refine ⟨false, T.x_zs, (fun z => by cases z), fun _ => ⟨true, T.x_zz, fun _ a ha => ?_, (fun z => by cases z)⟩⟩
      exact ⟨_, rfl, _, _, .ref (He.ga X.K "HeldError"), true, rfl, T.k_BadSize, rfl, (fun u e => e), T.i_z, .inr ⟨dd, fvs, rfl, hd⟩, _, rfl, iteT hq⟩
end
end K68


set_option Elab.async false
set_option linter.all false
set_option maxRecDepth 100000
set_option maxHeartbeats 4000000
namespace K68
open PySem PySem.Spec PyProof.Rows L2 Tld
/-- a def of the text whose code object stands at c -/
abbrev DefC (K : PySem.W.Frag) (mg : Str → Option Value) (x : Str) (st : Stmt) (c : Addr) : Prop := ∃ (f : Addr) (oc : Value) (od : Option Addr) (dV kV doc pm : Value) (an : Option Addr) (ct : Value) (osl : Array (Option Value)), mg x = some (.ref f) ∧
  K.lookup f = some ⟨oc, od, .func (PySem.W.fnOf x x (defArgs st) (defBody st) (defScope st) dV kV doc pm an (.ref c) ct), osl⟩ ∧ PySem.W.codeIn K (.ref c) x = true ∧ FunD K x x (defArgs st) (defBody st) (defScope st) [] [] f (PySem.W.fnOf x x (defArgs st) (defBody st) (defScope st) dV kV doc pm an (.ref c) ct)
section
variable {P : Program} {w : World} {K : PySem.W.Frag} {mg : Str → Option Value} {base : Heap}
def qLam : Str := "_law_wrong_right" ++ ".<locals>." ++ "<lambda>"
/-- texts that are no sums -/
def badTx : List V := [.str "", .str "keep", .str "size + size", .str "size * 2", .str "size // 2", .str "1 + 2 + 3 + 4 + 5", .str "size -1", .str "- size", .non]
theorem bad_len : ∀ v ∈ badTx, flatV v = true ∧ (∀ z, v = .str z → z.length ≤ 1000) ∧ keepQs v = none := by
  have h : ∀ v ∈ badTx, (flatV v && (match v with | .str z => decide (z.length ≤ 1000) | _ => true) && (keepQs v).isNone) = true := by decide +kernel
  intro v hv
  have q := h v hv
  rw [Bool.and_eq_true, Bool.and_eq_true] at q
  exact ⟨q.1.1, fun z e => by subst e; exact of_decide_eq_true q.1.2, by simpa using q.2⟩
def badSz5 : List V := [.int 0, .int (-1), .bl true, .non, .str "1"]
theorem bad_sz : ∀ v ∈ badSz5, flatV v = true ∧ goodSz v = false := by decide +kernel
theorem SameBut.one {x dx : Addr} {H H' : Hp} {o o2 : HO} (S : SameBut x (upd (upd H dx o2) x o) H') (hx : H x = none) (hdx : H dx = none) : Same H H' := fun b u e => S b u (ne_of_none e hx) (by rw [upd_ne (ne_of_none e hx), upd_ne (ne_of_none e hdx)]; exact e)
/-- BookRules(z), z the text of a sum -/
theorem mk_rules {z : Str} {qs : List (Int × Option Str)} {H : Hp} {R : Hp → Prop} {E : XK} {x dx : Addr} (hx : H x = none) (hdx : H dx = none) (hz : z.length ≤ 1000) (hk : keepQs (.str z) = some qs) (hs : slopeOf qs = 0 ∨ slopeOf qs = 1 ∨ slopeOf qs = -1)
    (h : ∀ H', Same H H' → RuAt K H' x z (slopeOf qs) (loneOf qs) → R H') : spInit K [.ref x, .str z] (upd (upd H dx (.own x)) x (.ins (cR K) dx [])) (fun v H' => v = .non ∧ R H') E := by
  refine ⟨x, dx, .str z, rfl, upd_same, rfl, fun z' e => by cases e; exact hz, fun qs' H' e S hx' => ?_, fun e => by rw [hk] at e; cases e⟩
  rw [hk] at e
  cases e
  exact ⟨rfl, h H' (S.one hx hdx) ⟨⟨dx, hx'⟩, hs⟩⟩
/-- BookRules(v), v no text of a sum -/
theorem mk_bad {v : V} {H : Hp} {Q : VK} {E : XK} {x dx : Addr} (hx : H x = none) (hdx : H dx = none) (hf : flatV v = true) (hz : ∀ z, v = .str z → z.length ≤ 1000) (hk : keepQs v = none) (h : ∀ d H', Same H H' → H' d = none → E (.ref (He.ga K "BadSum")) (some d) (upd H' d (.xd [("text", v)]))) :
    spInit K [.ref x, v] (upd (upd H dx (.own x)) x (.ins (cR K) dx [])) Q E := by
  refine ⟨x, dx, v, rfl, upd_same, hf, hz, (fun qs' H' e => by rw [hk] at e; cases e), fun _ d H' S hd => h d H' (fun b u e => S _ _ ?_) hd⟩
  rw [upd_ne (ne_of_none e hx), upd_ne (ne_of_none e hdx)]
  exact e
def nines : Str := ⟨(List.replicate (30 : Int).toNat (Str.ofString "9").cps).foldl (· ++ ·) #[]⟩
theorem RuAt.up {H H' : Hp} {x : Addr} {z : Str} {s l : Int} (h : RuAt K H x z s l) (e : Same H H') : RuAt K H' x z s l := by
  obtain ⟨⟨dx, h1⟩, h2⟩ := h
  exact ⟨⟨dx, e _ _ h1⟩, h2⟩
theorem RuAt.ext {H H' : Hp} {x : Addr} {z : Str} {s l : Int} (h : RuAt K H x z s l) (e : LamX.ExtN H H') : RuAt K H' x z s l := by
  obtain ⟨⟨dx, h1⟩, h2⟩ := h
  exact ⟨⟨dx, e _ _ h1 (fun ps z => nomatch z)⟩, h2⟩
def spWR (Pt : Addr) : Sp := fun vs H Q E => vs = [] ∧ LamX.Tabs [(Pt, qLam)] H ∧ ∀ H', Q (.bl true) H'
theorem ok_wrong_right (T : Tx P K mg) {c Pt : Addr} (D : DefC K mg "_law_wrong_right" s_l_wrong_right c) (TB : LamX.TabB base mg c Pt) : FnX P w K mg base CX0 10 "_law_wrong_right" [] [] (spWR Pt) := by
  have F_BookRules := ok_init (P := P) (w := w) (base := base) T
  have F_BookRules_eq := ok_eq (P := P) (w := w) (base := base) T
  have F_BookRules_kept_rows := ok_kept (P := P) (w := w) (base := base) T
  have F_l_asked := ok_asked (P := P) (w := w) (base := base) T
  obtain ⟨gR, fdR, hmR, FDR⟩ := T.d_l_refused
  have hbR := FDR.bindsN (ps := ["_law_action"]) (fun _ _ _ _ _ _ us hl => match us, hl with | [_], _ => rfl)
  obtain ⟨oc0, od0, dV0, kV0, doc0, pm0, an0, cdv0, ct0, osl0, rfl, lkR, hcR, _, _⟩ := FDR.ex
  have kpR := FDR.kp
  obtain ⟨f, oc, od, dV, kV, doc, pm, an, ct, osl, hm, lk, hcd, FD⟩ := D
  refine ⟨f, _, [], hm, FD.kp, FD.bindsN (fun _ _ _ _ _ _ us hl => match us, hl with | [], _ => rfl), .nil, fn_of lk hcd sc_l_wrong_right (fun vs H Q E h => ?_) fun A outer s H vs Q E hr h => ?_⟩
  · rw [h.1]; rfl
  have hu := hu_of hr
  let TS : List (Addr × Str) := [(Pt, qLam)]
  suffices hh : ∃ t, PSs (cxOf CX0 P w K mg base ["_law_value", "_law_rules", "_law_wide_here", "_law_way"] "_law_wrong_right" (defScope s_l_wrong_right) f (.ref c) A outer s H E).nox (defBody s_l_wrong_right) t ∧ t { nx := fun _ H' => Q .non H', rt := Q } (start ["_law_value", "_law_rules", "_law_wide_here", "_law_way"] vs) H by
    obtain ⟨t, h1, h2⟩ := hh
    exact ⟨t, h1.nox, h2⟩
  refine ⟨_, (by exact (pss_cons (ps_for PassesOwn.never rfl (pi_list (pe_lst (pa_cons pe_str (pa_cons pe_str (pa_cons pe_str (pa_cons pe_str (pa_cons pe_str (pa_cons pe_str (pa_cons pe_str (pa_cons pe_str (pa_cons pe_non pa_nil))))))))))) (pg_name (i := 0) sc_l_wrong_right.nd rfl (Or.inr rfl))
        (pss_one (ps_if (pt_cmpR op_ne (LamX.pe_lamcall (T := TS) (k := 7) (Ng := ["_law_action", "e"]) (a := "_law_action") (by rfl) hmR kpR lkR hcR hbR sc_l_refused rfl (Or.inl rfl) (refused_gives T) TB rfl (List.mem_singleton.mpr rfl) (fun p hp _ => by cases List.mem_singleton.mp hp; rfl) (hr.mono (by decide)) (LamX.lamS_by (sc := defScope s_l_wrong_right) (by decide +kernel)) rfl (fun _ _ _ _ _ => rfl) (fun _ _ _ _ E f c9 hr => (pe_makeX F_BookRules (hr.mono (by decide)) (passes_call (takes_of rfl rfl rfl rfl) (fun _ _ _ _ h => h)) (pa_cons (pv 0) pa_nil)))) pe_str (nomark _)) (pss_one (ps_ret pe_bl)) pss_nil)))
      (pss_cons (ps_asg (pe_tup (pa_cons (pe_makeX F_BookRules (hr.mono (by decide)) passF (pa_cons pe_str pa_nil)) (pa_cons (pe_op op_rep_str pe_str pe_int) pa_nil))) (pg_tup rfl (pgs_cons (pg_name (i := 1) sc_l_wrong_right.nd rfl (Or.inr rfl)) (pgs_cons (pg_name (i := 2) sc_l_wrong_right.nd rfl (Or.inr rfl)) pgs_nil))))
      (pss_cons (ps_if (PW.pt (pw_or (pt_cmpR op_ne (LamX.pe_lamcall (T := TS) (k := 7) (Ng := ["_law_action", "e"]) (a := "_law_action") (by rfl) hmR kpR lkR hcR hbR sc_l_refused rfl (Or.inl rfl) (refused_gives T) TB rfl (List.mem_singleton.mpr rfl) (fun p hp _ => by cases List.mem_singleton.mp hp; rfl) (hr.mono (by decide)) (LamX.lamS_by (sc := defScope s_l_wrong_right) (by decide +kernel)) rfl (fun _ _ _ _ _ => rfl) (fun _ _ _ _ E f c9 hr => (pe_makeX F_BookRules (hr.mono (by decide)) (passes_call (takes_of rfl rfl rfl rfl) (fun _ _ _ _ h => h)) (pa_cons (pe_op op_add_str (pv 2) pe_str) pa_nil)))) pe_str (nomark _)) (pw_or1 (pt_cmpR op_ne (pe_methX F_BookRules_kept_rows (hr.mono (by decide)) passF (pe_makeX F_BookRules (hr.mono (by decide)) passF (pa_cons (pv 2) pa_nil)) (pa_cons pe_int pa_nil)) (pe_op op_sub (pe_op op_pow pe_int pe_int) pe_int) (nomark _))))) (pss_one (ps_ret pe_bl)) pss_nil)
      (pss_cons (ps_if (PW.pt (pw_or (pt_cmpR (op_eqO F_BookRules_eq (hr.mono (by decide)) passF) (pv 1) (pe_makeX F_BookRules (hr.mono (by decide)) passF (pa_cons pe_str pa_nil)) (nomark _)) (pw_or (pt_cmpR (op_eqO F_BookRules_eq (hr.mono (by decide)) passF) (pe_makeX F_BookRules (hr.mono (by decide)) passF (pa_cons pe_str pa_nil)) (pe_makeX F_BookRules (hr.mono (by decide)) passF (pa_cons pe_str pa_nil)) (nomark _)) (pw_or1 (pt_cmpR (op_eqO F_BookRules_eq (hr.mono (by decide)) passF) (pv 1) pe_str (nomark _)))))) (pss_one (ps_ret pe_bl)) pss_nil)
      (pss_cons (ps_for PassesOwn.never rfl (pi_list (pe_lst (pa_cons pe_int (pa_cons (pe_un un_neg pe_int) (pa_cons pe_bl (pa_cons pe_non (pa_cons pe_str pa_nil))))))) (pg_name (i := 0) sc_l_wrong_right.nd rfl (Or.inr rfl))
        (pss_one (ps_for PassesOwn.never rfl (pi_tup (pe_tup (pa_cons pe_int (pa_cons pe_int (pa_cons pe_int pa_nil))))) (pg_name (i := 3) sc_l_wrong_right.nd rfl (Or.inr rfl))
        (pss_one (ps_if (pt_cmpR op_ne (LamX.pe_lamcall (T := TS) (k := 7) (Ng := ["_law_action", "e"]) (a := "_law_action") (by rfl) hmR kpR lkR hcR hbR sc_l_refused rfl (Or.inl rfl) (refused_gives T) TB rfl (List.mem_singleton.mpr rfl) (fun p hp _ => by cases List.mem_singleton.mp hp; rfl) (hr.mono (by decide)) (LamX.lamS_by (sc := defScope s_l_wrong_right) (by decide +kernel)) rfl (fun _ _ _ _ _ => rfl) (fun _ _ _ _ E f c9 hr => (pe_callX F_l_asked (hr.mono (by decide)) (passes_call (takes_of rfl rfl rfl rfl) (fun _ _ _ _ h => h)) (pa_cons (pv 1) (pa_cons (pv 3) (pa_cons (pv 0) pa_nil)))))) pe_str (nomark _)) (pss_one (ps_ret pe_bl)) pss_nil)))))
      (pss_one (ps_ret pe_bl)))))))), ?_⟩
  obtain ⟨rfl, hT, hQ⟩ := h
  refine ⟨(by show 9 ≤ sizeLine; decide), fun L hL => ⟨L, rfl, ⟨_, SqL.of upd_same⟩, ?_⟩⟩
  have S1 : Same H (upd H L (.lst badTx)) := Same.new hL
  refine for_list (xs := badTx) (fun i σ H' => ∃ o, σ = [o, none, none, none] ∧ H' L = some (.lst badTx) ∧ LamX.Tabs TS H') ⟨none, rfl, upd_same, hT.ext S1⟩ ?_ ?_ ?_
  · rintro i σ H' _ ⟨o, rfl, hl, _⟩
    exact SqL.of hl
  · rintro i v σ H' hv ⟨o, rfl, hl, hT⟩
    obtain ⟨b1, b2, b3⟩ := bad_len v (List.mem_of_getElem? hv)
    refine ⟨hT, fun H1 ex T1 => ⟨_, rfl, fun x dx hx hdx ne => mk_bad hx hdx b1 b2 b3 fun d H2 S hd => ?_⟩⟩
    refine ⟨d, _, rfl, upd_same, .inl ⟨rfl, ?_⟩⟩
    refine ⟨rfl, _, rfl, iteF ?_⟩
    exact ⟨_, rfl, Same.new hd _ _ (S _ _ (ex _ _ hl (fun ps z => nomatch z))), (T1.ext S).ext (Same.new hd)⟩
  · rintro σ H' ⟨o, rfl, hl, hT⟩
    clear hl
    refine fun x dx hx hdx ne => mk_rules hx hdx (z := "size") (qs := [(1, some "size")]) (by decide) (by decide +kernel) (by decide +kernel) fun H1 S1 R1 => ?_
    clear ne hdx hx
    refine ⟨_, _, rfl, rfl, by decide, by decide, by decide, by decide, (by show nines.length ≤ sizeLine; decide +kernel), (by show 2 ≤ sizeLine; decide), fun tp htp => ?_⟩
    refine ⟨tp, _, rfl, SqT.of upd_same, rfl, _, _, rfl, _, _, rfl, rfl, ?_⟩
    have R2 := R1.up (Same.new (o := .tup [.ref x, .str nines]) htp)
    have T2 : LamX.Tabs TS (upd H1 tp (.tup [.ref x, .str nines])) := (hT.ext S1).ext (Same.new htp)
    clear S1 R1 hT
    change RuAt K (upd H1 tp (.tup [.ref x, .str ⟨(List.replicate (30 : Int).toNat (Str.ofString "9").cps).foldl (· ++ ·) #[]⟩])) x _ _ _ at R2
    change LamX.Tabs TS (upd H1 tp (.tup [.ref x, .str ⟨(List.replicate (30 : Int).toNat (Str.ofString "9").cps).foldl (· ++ ·) #[]⟩])) at T2
    generalize upd H1 tp (.tup [.ref x, .str ⟨(List.replicate (30 : Int).toNat (Str.ofString "9").cps).foldl (· ++ ·) #[]⟩]) = H2 at *
    refine ⟨T2, fun H3 ex T3 => ⟨_, rfl, nines, Str.ofString "9", rfl, rfl, (by decide +kernel), fun y dy hy hdy ne => mk_bad hy hdy (by rfl) (fun z e => by cases e; decide +kernel) (by decide +kernel) fun d H4 S hd => ⟨d, _, rfl, upd_same, .inl ⟨rfl, ?_⟩⟩⟩⟩
    have R4 := ((R2.ext ex).up S).up (Same.new (o := .xd [("text", .str (nines ++ Str.ofString "9"))]) hd)
    have T4 : LamX.Tabs TS (upd H4 d (.xd [("text", .str (nines ++ Str.ofString "9"))])) := (T3.ext S).ext (Same.new hd)
    clear S ex T3 R2 T2
    generalize upd H4 d (.xd [("text", .str (nines ++ Str.ofString "9"))]) = H5 at *
    refine ⟨rfl, _, rfl, iteF ?_⟩
    refine ⟨_, rfl, fun y dy hy hdy ne => mk_rules hy hdy (z := nines) (qs := [(10 ^ 30 - 1, none)]) (by decide +kernel) (by decide +kernel) (by decide +kernel) fun H6 S6 R6 => ?_⟩
    obtain ⟨⟨d6, h6⟩, _⟩ := id R6
    refine ⟨y, d6, _, rfl, h6, rfl, y, .int 7, nines, _, _, rfl, R6, rfl, fun i e g => ?_, fun q => by cases q⟩
    cases e
    refine ⟨_, _, rfl, rfl, ⟨by decide, by decide, by decide⟩, _, _, rfl, rfl, rfl, _, rfl, ?_⟩
    refine iteB (fun g => absurd g (by decide +kernel)) (fun _ => ?_)
    have R7 := R4.up S6
    have T7 := T4.ext S6
    clear R6 h6 S6 hy hdy ne g R4 T4
    refine ⟨_, rfl, fun y dy hy hdy ne => mk_rules hy hdy (z := "size + 0") (qs := [(1, some "size"), (0, none)]) (by decide +kernel) (by decide +kernel) (by decide +kernel) fun H8 S8 R8 => ?_⟩
    have R9 := R7.up S8
    obtain ⟨⟨d9, h9⟩, _⟩ := id R9
    obtain ⟨⟨d8, h8⟩, _⟩ := id R8
    refine ⟨x, d9, _, rfl, h9, right_ins h8, x, .ref y, _, _, _, _, rfl, R9, .inl ⟨y, _, _, _, rfl, R8, rfl⟩, _, rfl, _, rfl, iteB (fun g => absurd g (by decide +kernel)) (fun _ => ?_)⟩
    refine fun y dy hy hdy ne => mk_rules hy hdy (z := "0 + size") (qs := [(0, none), (1, some "size")]) (by decide +kernel) (by decide +kernel) (by decide +kernel) fun H10 S10 R10 => ?_
    refine fun y2 dy2 hy2 hdy2 ne2 => mk_rules hy2 hdy2 (z := "size + 0") (qs := [(1, some "size"), (0, none)]) (by decide +kernel) (by decide +kernel) (by decide +kernel) fun H11 S11 R11 => ?_
    have R12 := R10.up S11
    obtain ⟨⟨d11, h11⟩, _⟩ := id R11
    obtain ⟨⟨d12, h12⟩, _⟩ := id R12
    refine ⟨y, d12, _, rfl, h12, right_ins h11, y, .ref y2, _, _, _, _, rfl, R12, .inl ⟨y2, _, _, _, rfl, R11, rfl⟩, _, rfl, _, rfl, iteB (fun g => absurd g (by decide +kernel)) (fun _ => ?_)⟩
    have R13 := (R9.up S10).up S11
    have T13 := ((T7.ext S8).ext S10).ext S11
    obtain ⟨⟨d13, h13⟩, _⟩ := id R13
    refine ⟨_, rfl, x, d13, _, rfl, h13, right_str T.ns_BookRules, x, .str (Str.ofString "size"), _, _, _, false, rfl, R13, .inr ⟨⟨_, rfl⟩, rfl⟩, _, rfl, _, rfl, iteF ?_⟩
    clear h13 h12 h11 h9 h8 R12 R11 R10 R9 R8 R7 S11 S10 S8 hy2 hdy2 ne2 hy hdy ne T7
    refine ⟨_, rfl, (by show 5 ≤ sizeLine; decide), fun L hL => ⟨L, rfl, ⟨_, SqL.of upd_same⟩, ?_⟩⟩
    have Z1 : Same H11 (upd H11 L (.lst badSz5)) := Same.new hL
    refine for_list (xs := badSz5) (fun i σ H' => ∃ o o3, σ = [o, some (.ref x), some (.str nines), o3] ∧ H' L = some (.lst badSz5) ∧ LamX.Tabs TS H' ∧ RuAt K H' x (Str.ofString "size") 1 0) ⟨_, _, rfl, upd_same, T13.ext Z1, R13.up Z1⟩ ?_ ?_ ?_
    · rintro i σ H' _ ⟨o, o3, rfl, hl, _⟩
      exact SqL.of hl
    · rintro i v σ H' hv ⟨o, o3, rfl, hl, hT, R⟩
      obtain ⟨b1, b2⟩ := bad_sz v (List.mem_of_getElem? hv)
      refine ⟨(by show 3 ≤ sizeLine; decide), fun t3 ht3 => ⟨t3, rfl, ⟨_, SqT.of upd_same⟩, ?_⟩⟩
      have Z2 : Same H' (upd H' t3 (.tup [.int 0, .int 1, .int 2])) := Same.new ht3
      refine for_tup (xs := [.int 0, .int 1, .int 2]) (fun i σ H' => ∃ o3, σ = [some v, some (.ref x), some (.str nines), o3] ∧ H' L = some (.lst badSz5) ∧ H' t3 = some (.tup [.int 0, .int 1, .int 2]) ∧ LamX.Tabs TS H' ∧ RuAt K H' x (Str.ofString "size") 1 0) ⟨_, rfl, Z2 _ _ hl, upd_same, hT.ext Z2, R.up Z2⟩ ?_ ?_ ?_
      · rintro j σ H' _ ⟨o3, rfl, _, h3, _⟩
        exact SqT.of h3
      · rintro j w2 σ H' hw ⟨o3, rfl, hl, h3, hT, R⟩
        obtain ⟨k, rfl⟩ : ∃ k, w2 = .int k := by
          rcases j with _ | _ | _ | j
          · exact ⟨_, (Option.some.inj hw).symm⟩
          · exact ⟨_, (Option.some.inj hw).symm⟩
          · exact ⟨_, (Option.some.inj hw).symm⟩
          · simp at hw
        refine ⟨hT, fun H1 ex T1 => ⟨_, rfl, _, rfl, _, rfl, x, k, v, _, _, _, rfl, R.ext ex, b1, b2, fun d hd => ⟨d, _, rfl, upd_same, .inr ⟨rfl, ?_⟩⟩⟩⟩
        refine ⟨rfl, _, rfl, iteF ?_⟩
        exact ⟨_, rfl, Same.new hd _ _ (ex _ _ hl (fun ps z => nomatch z)), Same.new hd _ _ (ex _ _ h3 (fun ps z => nomatch z)), T1.ext (Same.new hd), (R.ext ex).up (Same.new hd)⟩
      · rintro σ H' ⟨o3, rfl, hl, h3, hT, R⟩
        exact ⟨_, _, rfl, hl, hT, R⟩
    · rintro σ H' ⟨o, o3, rfl, hl, hT, R⟩
      exact hQ H'
end
end K68


set_option Elab.async false
set_option linter.all false
set_option maxRecDepth 100000
set_option maxHeartbeats 4000000
namespace K68
open PySem PySem.Spec PyProof.Rows L2 Tld
section
variable {P : Program} {w : World} {K : PySem.W.Frag} {mg : Str → Option Value} {base : Heap}
theorem joinL_len (s : List Nat) : ∀ l : List (List Nat), (∀ z ∈ l, z.length ≤ 30) → (TL.joinL s l).length ≤ (30 + s.length) * l.length
  | [], _ => Nat.zero_le _
  | [z], h => by
    show z.length ≤ _
    have := h z List.mem_cons_self
    simp
    omega
  | z :: b :: r, h => by
    show (z ++ (s ++ TL.joinL s (b :: r))).length ≤ _
    have h1 := h z List.mem_cons_self
    have h2 := joinL_len s (b :: r) (fun z hz => h z (List.mem_cons_of_mem _ hz))
    rw [List.length_append, List.length_append]
    have e : (30 + s.length) * (z :: b :: r).length = (30 + s.length) * (b :: r).length + (30 + s.length) := by
      rw [List.length_cons, Nat.mul_succ]
    omega
theorem text_len {ts : List Trm} (G : GoodTs ts) : (textT ts).length ≤ 1000 := by
  obtain ⟨a, r, rfl⟩ := id G.one
  have hl := G.len
  rw [TL.len_tl]
  unfold textT
  rw [TL.join_eq, TL.tl_join]
  refine Nat.le_trans (joinL_len _ _ (fun z hz => ?_)) ?_
  · obtain ⟨w, hw, rfl⟩ := List.mem_map.mp hz
    rw [← TL.len_tl]
    exact words_len G.ok w hw
  · rw [List.length_map]
    have e : (wordsT ((1, a) :: r)).length = 2 * r.length + 1 := by simp [wordsT, tailW_len]
    have e2 : (TL.tl sepS).length = 1 := by decide
    rw [e, e2]
    simp at hl
    omega
theorem use_iff {s l i : Int} : useOk s l i = true ↔ 1 ≤ s * i + l ∧ s * i + l ≤ i := by
  unfold useOk
  rw [Bool.and_eq_true, decide_eq_true_eq, decide_eq_true_eq]
theorem use_not {s l i : Int} : useOk s l i = false ↔ ¬ (1 ≤ s * i + l ∧ s * i + l ≤ i) := by
  rw [← use_iff]
  simp
theorem max_of {s l i m : Int} (e : (if leastOf s l > i then leastOf s l else i) = m) : (leastOf s l > i ∧ m = leastOf s l) ∨ (leastOf s l ≤ i ∧ m = i) := by
  split at e <;> omega
theorem least_of {s l : Int} (hs : s = 0 ∨ s = 1 ∨ s = -1) : (s = 0 ∧ leastOf s l = l) ∨ (s = 1 ∧ leastOf s l = 1 - l) ∨ (s = -1 ∧ leastOf s l = (l + 1) / 2) := by
  rcases hs with rfl | rfl | rfl
  · exact .inl ⟨rfl, rfl⟩
  · exact .inr (.inl ⟨rfl, rfl⟩)
  · exact .inr (.inr ⟨rfl, rfl⟩)
theorem next_some {s l i m : Int} (hs : s = 0 ∨ s = 1 ∨ s = -1) (hi : 1 ≤ i) (h : nextOf s l i = some m) : i ≤ m ∧ useOk s l m = true ∧ ∀ j, i ≤ j → j < m → useOk s l j = false := by
  unfold nextOf at h
  generalize em : (if leastOf s l > i then leastOf s l else i) = m0 at h
  by_cases hu : useOk s l m0 = true
  · rw [if_pos hu] at h
    cases h
    have hm := max_of em
    refine ⟨by omega, hu, fun j h1 h2 => ?_⟩
    rw [use_iff] at hu
    rw [use_not]
    rcases least_of (l := l) hs with ⟨rfl, e⟩ | ⟨rfl, e⟩ | ⟨rfl, e⟩ <;> rw [e] at hm <;> omega
  · rw [if_neg hu] at h
    cases h
theorem next_none {s l i : Int} (hs : s = 0 ∨ s = 1 ∨ s = -1) (hi : 1 ≤ i) (h : nextOf s l i = none) : ∀ j, i ≤ j → useOk s l j = false := by
  unfold nextOf at h
  generalize em : (if leastOf s l > i then leastOf s l else i) = m0 at h
  by_cases hu : useOk s l m0 = true
  · rw [if_pos hu] at h
    cases h
  · have hm := max_of em
    intro j h1
    rw [use_iff] at hu
    rw [use_not]
    rcases least_of (l := l) hs with ⟨rfl, e⟩ | ⟨rfl, e⟩ | ⟨rfl, e⟩ <;> rw [e] at hm <;> omega
theorem RuAt.but {H H' : Hp} {x d c : Addr} {z : Str} {s l : Int} {n : Nat} (h : RuAt K H x z s l) (hp : Pen H d c n) (S : SameBut d H H') : RuAt K H' x z s l := by
  obtain ⟨⟨dx, h1⟩, h2⟩ := h
  refine ⟨⟨dx, S _ _ ?_ h1⟩, h2⟩
  obtain ⟨cs, t, l, g1, _⟩ := hp
  exact fun z => by subst z; rw [g1] at h1; cases h1
theorem chain_rd {σ : L2.St} {H : Hp} {Q : VK} {sl lo k : Int} (h10 : σ[10]? = some (some (.int (sl * k + lo)))) (h8 : σ[8]? = some (some (.int k))) (h : Q (.str (if useOk sl lo k = true then Str.ofString "True" else Str.ofString "False")) H) :
    tCB (fun xs H Q => ∃ b, xs = [V.bl b] ∧ Q (V.str (if b = true then Str.ofString "True" else Str.ofString "False")) H) (tCons (tChain (rI0 fun i j => V.bl (decide (i ≤ j))) (rI0 fun i j => V.bl (decide (i ≤ j))) (tC (V.int 1)) (tVar 10) (tVar 8)) tNil) σ H Q := by
  refine ⟨_, h10, _, _, rfl, rfl, _, rfl, iteB (fun c => ?_) (fun c => ?_)⟩
  · refine ⟨_, h8, _, _, rfl, rfl, _, rfl, ?_⟩
    have e : useOk sl lo k = decide (sl * k + lo ≤ k) := by
      unfold useOk
      rw [show decide (1 ≤ sl * k + lo) = true from c]
      rfl
    rw [e] at h
    exact h
  · refine ⟨_, rfl, ?_⟩
    have e : useOk sl lo k = false := by
      unfold useOk
      rw [show decide (1 ≤ sl * k + lo) = false from c]
      rfl
    rw [e] at h
    exact h
def spLaw (K : PySem.W.Frag) (Pt : Addr) : Sp := fun vs H Q E => ∃ (a : Addr) (xs : List Int), vs = [.ref a] ∧ SqL K H a (xs.map V.int) ∧ H Pt = some (.tbl #[]) ∧ ∀ H', Q (.bl true) H'
theorem ok_law (T : Tx P K mg) {c Pt : Addr} (D : DefC K mg "_law_wrong_right" s_l_wrong_right c) (TB : LamX.TabB base mg c Pt) {f : Addr} {fd : FuncData} (F : FunD K "law" "law" (defArgs s_law) (defBody s_law) (defScope s_law) [] [] f fd) : FnOk P w K mg base CX0 11 f fd ["_law_script"] (spLaw K Pt) := by
  have F_BookRules := ok_init (P := P) (w := w) (base := base) T
  have F_BookRules_eq := ok_eq (P := P) (w := w) (base := base) T
  have F_BookRules_kept_rows := ok_kept (P := P) (w := w) (base := base) T
  have F_BookRules_in_use := ok_use (P := P) (w := w) (base := base) T
  have F_BookRules_next_in_use := ok_next (P := P) (w := w) (base := base) T
  have F_l_begun_pen := ok_begun (P := P) (w := w) (base := base) T
  have F_l_draw := ok_draw (P := P) (w := w) (base := base) T
  have F_l_wide := ok_wide (P := P) (w := w) (base := base) T
  have F_l_new_keep := ok_new_keep (P := P) (w := w) (base := base) T
  have F_l_wrong_right := ok_wrong_right (P := P) (w := w) (base := base) T D TB
  refine L2.FunD.ok0 F sc_law (fun vs H Q E h => ?_) (fun cdv A outer s H vs Q E hr h => have hu := hu_of hr; ⟨_, (by exact (pss_cons (ps_set (i := 1) sc_law.nd rfl (Or.inl rfl) (pe_callX F_l_begun_pen (hr.mono (by decide)) pass0 (pa_cons (pv 0) pa_nil)))
      (pss_cons (ps_for PassesOwn.never rfl (pi_range1 rfl T.b_range (pa_cons pe_int pa_nil)) (pg_name (i := 2) sc_law.nd rfl (Or.inl rfl))
        (pss_cons (ps_asg (pe_callX F_l_new_keep (hr.mono (by decide)) pass0 (pa_cons (pv 1) pa_nil)) (pg_tup rfl (pgs_cons (pg_name (i := 3) sc_law.nd rfl (Or.inl rfl)) (pgs_cons (pg_name (i := 4) sc_law.nd rfl (Or.inl rfl)) (pgs_cons (pg_name (i := 5) sc_law.nd rfl (Or.inl rfl)) pgs_nil)))))
      (pss_cons (ps_asg (pe_tup (pa_cons (pe_makeX F_BookRules (hr.mono (by decide)) passF (pa_cons (pv 3) pa_nil)) (pa_cons (pe_lst (pa_cons pe_int (pa_cons pe_int (pa_cons (pe_op op_sub (pe_callB call_abs (by rfl) T.b_abs (by decide +kernel) (pa_cons (pv 5) pa_nil)) pe_int) (pa_cons (pe_callB call_abs (by rfl) T.b_abs (by decide +kernel) (pa_cons (pv 5) pa_nil)) (pa_cons (pe_op op_add (pe_callB call_abs (by rfl) T.b_abs (by decide +kernel) (pa_cons (pv 5) pa_nil)) pe_int) (pa_cons (pe_op op_sub (pe_op op_fdiv (pe_callB call_abs (by rfl) T.b_abs (by decide +kernel) (pa_cons (pv 5) pa_nil)) pe_int) pe_int) pa_nil))))))) pa_nil))) (pg_tup rfl (pgs_cons (pg_name (i := 6) sc_law.nd rfl (Or.inr rfl)) (pgs_cons (pg_name (i := 7) sc_law.nd rfl (Or.inl rfl)) pgs_nil))))
      (pss_cons (ps_set (i := 7) sc_law.nd rfl (Or.inl rfl) (pe_op op_cat (pv 7) (pe_lst (pa_cons (pe_op op_fdiv (pe_callB call_abs (by rfl) T.b_abs (by decide +kernel) (pa_cons (pv 5) pa_nil)) pe_int) (pa_cons (pe_op op_add (pe_op op_fdiv (pe_callB call_abs (by rfl) T.b_abs (by decide +kernel) (pa_cons (pv 5) pa_nil)) pe_int) pe_int) (pa_cons (pe_op op_add pe_int (pe_callX F_l_wide (hr.mono (by decide)) pass0 (pa_cons (pv 1) pa_nil))) (pa_cons (pe_op op_add pe_int (pe_callX F_l_draw (hr.mono (by decide)) pass0 (pa_cons (pv 1) (pa_cons pe_int pa_nil)))) pa_nil)))))))
      (pss_cons (ps_if (PW.pt (pw_or (pt_cmpR op_ne (pe_fld (pv 6) rfl) (pv 3) (nomark _)) (pw_or (pt_cmpR (op_neO F_BookRules_eq (hr.mono (by decide)) passF T.ne_BookRules T.cm_BookRules) (pv 6) (pe_makeX F_BookRules (hr.mono (by decide)) passF (pa_cons (pv 3) pa_nil)) (nomark _)) (pw_or1 (pt_cmpR (op_eqO F_BookRules_eq (hr.mono (by decide)) passF) (pv 6) (pe_makeX F_BookRules (hr.mono (by decide)) passF (pa_cons (pe_ifExp (pt_cmpR op_ne (pv 3) pe_str (nomark _)) pe_str pe_str) pa_nil)) (nomark _)))))) (pss_one (ps_ret pe_bl)) pss_nil)
      (pss_one (ps_for PassesOwn.never rfl (pi_list (pe_lc (own := [("_law_one", 9)]) (g := (gName 9))  (by rfl) sc_law.nd (pi_list (pv 7)) (blkOk_by (own := [("_law_one", 9)]) (N := ["_law_script", "_law_pen", "_law_turn", "_law_text", "_law_slope", "_law_lone", "_law_rules", "_law_near", "_law_size", "_law_one", "_law_kept", "_law_told"]) (sc := defScope s_law) (by decide +kernel)) (fun _ _ _ _ _ => (pg_name (i := 9) sc_law.nd rfl (Or.inl rfl))) (fun _ _ _ _ _ => (pts_one (pt_cmpR op_ge (pv 9) pe_int (nomark _)))) (fun _ _ _ _ _ => (pv 9)))) (pg_name (i := 8) sc_law.nd rfl (Or.inr rfl))
        (pss_cons (ps_set (i := 10) sc_law.nd rfl (Or.inl rfl) (pe_op op_add (pe_op op_mul (pv 4) (pv 8)) (pv 5)))
      (pss_cons (ps_if (PW.pt (pw_or (pt_cmpR op_ne (pe_methX F_BookRules_kept_rows (hr.mono (by decide)) passF (pv 6) (pa_cons (pv 8) pa_nil)) (pv 10) (nomark _)) (pw_or1 (pt_cmpR op_ne (pe_callB call_repr_bl (by rfl) T.b_repr (by decide +kernel) (pa_cons (pe_methX F_BookRules_in_use (hr.mono (by decide)) passF (pv 6) (pa_cons (pv 8) pa_nil)) pa_nil)) (pe_callB call_repr_bl (by rfl) T.b_repr (by decide +kernel) (pa_cons (pe_chain op_le op_le pe_int (pv 10) (pv 8)) pa_nil)) (nomark _))))) (pss_one (ps_ret pe_bl)) pss_nil)
      (pss_cons (ps_set (i := 11) sc_law.nd rfl (Or.inr rfl) (pe_methX F_BookRules_next_in_use (hr.mono (by decide)) passF (pv 6) (pa_cons (pv 8) pa_nil)))
      (pss_cons (ps_if (PW.pt (pw_and (pt_cmpR op_notN (pv 11) pe_non (nomark _)) (pw_and1 (PW.pt (pw_or (pt_cmpR op_lt (pv 11) (pv 8) (nomark _)) (pw_or1 (pt_not (pt_val (pe_methX F_BookRules_in_use (hr.mono (by decide)) passF (pv 6) (pa_cons (pv 11) pa_nil)))))))))) (pss_one (ps_ret pe_bl)) pss_nil)
      (pss_cons (ps_if (PW.pt (pw_and (pt_cmpR op_notN (pv 11) pe_non (nomark _)) (pw_and (pt_cmpR op_gt (pv 11) (pv 8) (nomark _)) (pw_and1 (pt_val (pe_methX F_BookRules_in_use (hr.mono (by decide)) passF (pv 6) (pa_cons (pe_op op_sub (pv 11) pe_int) pa_nil))))))) (pss_one (ps_ret pe_bl)) pss_nil)
      (pss_one (ps_if (pt_cmpR (op_neD hr.units) (pe_lc (own := [("_law_one", 9)]) (g := (gName 9))  (by rfl) sc_law.nd (pi_list (pv 7)) (blkOk_by (own := [("_law_one", 9)]) (N := ["_law_script", "_law_pen", "_law_turn", "_law_text", "_law_slope", "_law_lone", "_law_rules", "_law_near", "_law_size", "_law_one", "_law_kept", "_law_told"]) (sc := defScope s_law) (by decide +kernel)) (fun _ _ _ _ _ => (pg_name (i := 9) sc_law.nd rfl (Or.inl rfl))) (fun _ _ _ _ _ => (pts_one (PW.pt (pw_and (pt_cmpR op_ge (pv 9) (pv 8) (nomark _)) (pw_and (pt_val (pe_methX F_BookRules_in_use (hr.mono (by decide)) passF (pv 6) (pa_cons (pv 9) pa_nil))) (pw_and1 (PW.pt (pw_or (pt_cmpR op_isN (pv 11) pe_non (nomark _)) (pw_or1 (pt_cmpR op_lt (pv 9) (pv 11) (nomark _))))))))))) (fun _ _ _ _ _ => (pv 9))) (pe_lst pa_nil) (nomark _)) (pss_one (ps_ret pe_bl)) pss_nil))))))))))))))
      (pss_one (ps_ret (pe_callX0 F_l_wrong_right (hr.mono (by decide)) pass0)))))), ?_⟩)
  · obtain ⟨a, xs, rfl, _⟩ := h
    rfl
  obtain ⟨a, xs, rfl, ha, hP, hQ⟩ := h
  refine ⟨_, rfl, a, xs, rfl, ha, fun d c1 H1 hd S1 hp1 => ?_⟩
  refine ⟨6, rfl, by decide, by decide, for_range (lo := 0) (n := 6) (fun i σ H' => ∃ o2 o3 o4 o5 o6 o7 o8 o9 o10 o11, σ = [some (.ref a), some (.ref d), o2, o3, o4, o5, o6, o7, o8, o9, o10, o11] ∧ SameBut d H H' ∧ Pen H' d c1 (60 * i)) ⟨_, _, _, _, _, _, _, _, _, _, rfl, SameBut.of S1, hp1⟩ ?_ ?_⟩
  rotate_left
  · rintro σ H' ⟨o2, o3, o4, o5, o6, o7, o8, o9, o10, o11, rfl, SS, hp⟩
    refine ⟨rfl, fun p hpp => ?_, hQ⟩
    cases List.mem_singleton.mp hpp
    exact LamX.TabS.nil (SS _ _ (ne_of_none hP hd) hP)
  rintro i σ H' hi ⟨o2, o3, o4, o5, o6, o7, o8, o9, o10, o11, rfl, SS, hp⟩
  refine ⟨_, rfl, d, c1, _, rfl, hp, by omega, fun ts p H2 G hsl S2 hp2 htp => ?_⟩
  refine ⟨p, _, rfl, SqT.of htp, rfl, _, _, rfl, _, _, rfl, _, _, rfl, rfl, ?_⟩
  have SS2 := SS.trans S2
  clear htp S2 hp SS
  have gz := text_len G
  have gk := keep_text G
  have e1 := slope_q ts
  have e2 := lone_q ts
  generalize textT ts = z at *
  generalize slT ts = sl at *
  generalize loT ts = lo at *
  refine ⟨_, rfl, fun x dx hx hdx ne => mk_rules hx hdx gz gk (by rw [e1]; exact hsl) fun H3 S3 R3 => ?_⟩
  rw [e1, e2] at R3
  clear hx hdx ne
  refine ⟨_, rfl, _, rfl, _, _, rfl, rfl, _, rfl, _, rfl, _, rfl, _, rfl, _, _, rfl, rfl, _, rfl, _, rfl, _, _, rfl, rfl, ⟨by decide, by decide⟩, _, _, rfl, rfl, (by show 6 ≤ sizeLine; decide), fun ln hln => ⟨(by show 2 ≤ sizeLine; decide), fun tp htp => ?_⟩⟩
  refine ⟨tp, _, rfl, SqT.of upd_same, rfl, _, _, rfl, _, _, rfl, rfl, ?_⟩
  dsimp only
  generalize eab : (if lo < 0 then -lo else lo) = ab
  have S4 : Same H3 (upd (upd H3 ln (.lst [.int 1, .int 2, .int (ab - 1), .int ab, .int (ab + 1), .int (ab / 2 - 1)])) tp (.tup [.ref x, .ref ln])) := (Same.new (by subst eab; exact hln)).trans (Same.new (by subst eab; exact htp))
  have hln4 : (upd (upd H3 ln (.lst [.int 1, .int 2, .int (ab - 1), .int ab, .int (ab + 1), .int (ab / 2 - 1)])) tp (.tup [.ref x, .ref ln])) ln = some (.lst ([1, 2, ab - 1, ab, ab + 1, ab / 2 - 1].map V.int)) := Same.new (by subst eab; exact htp) _ _ upd_same
  clear hln htp
  generalize (upd (upd H3 ln (.lst [.int 1, .int 2, .int (ab - 1), .int ab, .int (ab + 1), .int (ab / 2 - 1)])) tp (.tup [.ref x, .ref ln])) = H4 at *
  have R4 := R3.up S4
  have SS4 : SameBut d H H4 := SS2.trans (SameBut.of (S3.trans S4))
  have hp4 := hp2.up (S3.trans S4)
  clear R3 SS2 hp2 S3 S4
  refine ⟨_, rfl, _, rfl, _, rfl, _, _, rfl, rfl, ⟨by decide, by decide⟩, _, rfl, _, rfl, _, _, rfl, rfl, ⟨by decide, by decide⟩, _, _, rfl, rfl, _, rfl, d, c1, _, rfl, hp4, by omega, fun r5 H5 r50 r51 S5 hp5 => ?_⟩
  refine ⟨_, _, rfl, rfl, _, rfl, d, c1, _, 9, rfl, hp5, by omega, by decide, by decide, fun r6 H6 r60 r61 S6 hp6 => ?_⟩
  refine ⟨_, _, rfl, rfl, (by show 4 ≤ sizeLine; decide), fun l2 hl2 => ?_⟩
  dsimp only
  rw [eab]
  have hln6 : H6 ln = some (.lst ([1, 2, ab - 1, ab, ab + 1, ab / 2 - 1].map V.int)) := S6 _ _ (hp5.ne (S5 _ _ (hp4.ne hln4) hln4)) (S5 _ _ (hp4.ne hln4) hln4)
  have R6 := (R4.but hp4 S5).but hp5 S6
  have SS6 : SameBut d H H6 := SS4.trans (S5.trans S6)
  refine ⟨ln, l2, _, _, rfl, rfl, Same.new (by subst eab; exact hl2) _ _ hln6, upd_same, (by show 6 + 4 ≤ sizeLine; decide), fun l3 hl3 => ?_⟩
  have S7 : Same H6 (upd (upd H6 l2 (.lst [.int (ab / 2), .int (ab / 2 + 1), .int (1 + r5), .int (1 + r6)])) l3 (.lst (([1, 2, ab - 1, ab, ab + 1, ab / 2 - 1] : List Int).map V.int ++ [.int (ab / 2), .int (ab / 2 + 1), .int (1 + r5), .int (1 + r6)]))) := (Same.new (by subst eab; exact hl2)).trans (Same.new (by subst eab; exact hl3))
  have hl7 : upd (upd H6 l2 (.lst [.int (ab / 2), .int (ab / 2 + 1), .int (1 + r5), .int (1 + r6)])) l3 (.lst (([1, 2, ab - 1, ab, ab + 1, ab / 2 - 1] : List Int).map V.int ++ [.int (ab / 2), .int (ab / 2 + 1), .int (1 + r5), .int (1 + r6)])) l3 = some (.lst (([1, 2, ab - 1, ab, ab + 1, ab / 2 - 1, ab / 2, ab / 2 + 1, 1 + r5, 1 + r6] : List Int).map V.int)) := upd_same
  have hlen7 : ([1, 2, ab - 1, ab, ab + 1, ab / 2 - 1, ab / 2, ab / 2 + 1, 1 + r5, 1 + r6] : List Int).length = 10 := rfl
  clear hl2 hl3 hln6
  generalize upd (upd H6 l2 (.lst [.int (ab / 2), .int (ab / 2 + 1), .int (1 + r5), .int (1 + r6)])) l3 (.lst (([1, 2, ab - 1, ab, ab + 1, ab / 2 - 1] : List Int).map V.int ++ [.int (ab / 2), .int (ab / 2 + 1), .int (1 + r5), .int (1 + r6)])) = H7 at *
  generalize ([1, 2, ab - 1, ab, ab + 1, ab / 2 - 1, ab / 2, ab / 2 + 1, 1 + r5, 1 + r6] : List Int) = ns at *
  have R7 := R6.up S7
  have SS7 : SameBut d H H7 := SS6.trans (SameBut.of S7)
  have hp7 := (hp6.up S7).mono (m := 60 * (i + 1)) (by omega)
  clear R6 R4 SS6 SS4 hp6 hp5 hp4 S7 S6 S5 hln4 r61 r60 r51 r50
  obtain ⟨⟨d7, h7⟩, _⟩ := id R7
  refine ⟨_, rfl, x, cR K, d7, _, _, rfl, h7, T.cl_BookRules, T.na_keep, rfl, _, rfl, rfl, _, rfl, iteB (fun g => absurd g (by simp)) (fun _ => ?_)⟩
  refine ⟨_, rfl, _, rfl, fun y dy hy hdy ne => mk_rules hy hdy gz gk (by rw [e1]; exact hsl) fun H8 S8 R8 => ?_⟩
  obtain ⟨⟨d8, h8⟩, _⟩ := id R8
  refine ⟨x, d7, _, rfl, S8 _ _ h7, right_ins h8, x, .ref y, _, _, _, _, rfl, R7.up S8, .inl ⟨y, _, _, _, rfl, R8, rfl⟩, _, rfl, _, rfl, iteB (fun g => absurd g (by simp)) (fun _ => ?_)⟩
  refine ⟨_, rfl, _, rfl, rfl, _, rfl, ?_⟩
  refine iteB (fun g => ?_) (fun g => ?_)
  · refine fun y2 dy2 hy2 hdy2 ne2 => mk_rules hy2 hdy2 (z := "8") (qs := [(8, none)]) (by decide +kernel) (by decide +kernel) (by decide +kernel) fun H9 S9 R9 => ?_
    obtain ⟨⟨d9, h9⟩, _⟩ := id R9
    refine ⟨x, d7, _, rfl, S9 _ _ (S8 _ _ h7), right_ins h9, x, .ref y2, _, _, _, _, rfl, (R7.up S8).up S9, .inl ⟨y2, _, _, _, rfl, R9, rfl⟩, _, rfl, _, rfl, iteB (fun g' => ?_) (fun _ => ?_)⟩
    · have g2 : z = Str.ofString "8" := of_decide_eq_true g'
      rw [g2] at g
      exact absurd g (by decide +kernel)
    have S10 := S8.trans S9
    clear R9 h9 d9 S9 ne2 hdy2 hy2 dy2 y2 g h8 d8 R8 S8 ne hdy hy dy y
    revert S10
    refine fun S10 => ?_
    refine ⟨_, rfl, l3, rfl, ⟨_, SqL.of (S10 _ _ hl7)⟩, fun D hD => lc_list (xs := ns.map V.int) (fun i H' => Same H9 H' ∧ H' D = some (.lst (((ns.take i).filter (fun k => decide (1 ≤ k))).map V.int))) ⟨Same.new hD, upd_same⟩ (fun i H' _ h => h.1.seq (SqL.of (S10 _ _ hl7))) ?_ ?_⟩
    · rintro j v H' hv ⟨S, hd'⟩
      obtain ⟨k, hk, rfl⟩ : ∃ k, ns[j]? = some k ∧ v = .int k := by
        rw [List.getElem?_map] at hv
        cases e : ns[j]? with
        | none => rw [e] at hv; cases hv
        | some k => rw [e] at hv; exact ⟨k, rfl, (Option.some.inj hv).symm⟩
      have tk : ns.take (j + 1) = ns.take j ++ [k] := by rw [List.take_succ, hk]; rfl
      refine ⟨rfl, _, rfl, _, _, rfl, rfl, _, rfl, iteB (fun g => ?_) (fun g => ?_)⟩
      · refine ⟨_, rfl, _, hd', ?_, S.mut hD, ?_⟩
        · refine small1000 ?_
          rw [List.length_map]
          have z1 := List.length_filter_le (fun k => decide (1 ≤ k)) (ns.take j)
          have z2 := List.length_take_le' j ns
          omega
        · rw [tk, List.filter_append, List.map_append, upd_same]
          have e : List.filter (fun k => decide (1 ≤ k)) [k] = [k] := by
            have g' : decide (1 ≤ k) = true := g
            simp [g']
          rw [e]
          rfl
      · refine ⟨S, ?_⟩
        rw [tk, List.filter_append, List.map_append]
        have e : List.filter (fun k => decide (1 ≤ k)) [k] = [] := by
          have g' : decide (1 ≤ k) = false := g
          simp [g']
        rw [e]
        simpa using hd'
    rintro H10 ⟨S11, hD10⟩
    rw [List.length_map, List.take_length] at hD10
    have hms : ∀ k ∈ ns.filter (fun k => decide (1 ≤ k)), 1 ≤ k := fun k hk => of_decide_eq_true (List.mem_filter.mp hk).2
    generalize ns.filter (fun k => decide (1 ≤ k)) = ms at *
    refine ⟨D, rfl, ⟨_, SqL.of hD10⟩, ?_⟩
    have S12 := S10.trans S11
    have RX := R7.up S12
    have hl10 := S12 _ _ hl7
    have SSX := SS7.trans (SameBut.of S12)
    have hpX := hp7.up S12
    refine for_list (xs := ms.map V.int) (fun j σ H' => ∃ o2 o8 o9 o10 o11, σ = [some (.ref a), some (.ref d), o2, some (.str z), some (.int sl), some (.int lo), some (.ref x), some (.ref l3), o8, o9, o10, o11] ∧ Same H10 H') ⟨_, _, _, _, _, rfl, Same.refl _⟩ ?_ ?_ ?_
    · rintro j σ H' _ ⟨o2, o8, o9, o10, o11, rfl, S⟩
      exact S.seq (SqL.of hD10)
    rotate_left
    · rintro σ H' ⟨o2, o8, o9, o10, o11, rfl, S⟩
      exact ⟨_, _, _, _, _, _, _, _, _, _, rfl, SSX.trans (SameBut.of S), hpX.up S⟩
    rintro j v σ H' hv ⟨o2, o8, o9, o10, o11, rfl, S⟩
    obtain ⟨k, hk, rfl⟩ : ∃ k, k ∈ ms ∧ v = .int k := by
      obtain ⟨k, h1, h2⟩ := List.mem_map.mp (List.mem_of_getElem? hv)
      exact ⟨k, h1, h2.symm⟩
    have hk1 := hms k hk
    have R := RX.up S
    obtain ⟨⟨dr, hr7⟩, _⟩ := id R
    have hlH := S _ _ hl10
    refine ⟨_, rfl, _, rfl, _, _, rfl, rfl, .inl (by omega), _, rfl, _, _, rfl, rfl, ?_⟩
    have nogood : goodSz (.int k) = false → False := fun q => absurd (of_decide_eq_false q) (by omega)
    refine ⟨_, rfl, x, dr, _, rfl, hr7, rfl, _, rfl, x, .int k, z, sl, lo, rfl, R, rfl, fun _ e _ => ?_, fun q => (nogood q).elim⟩
    cases e
    refine ⟨_, rfl, rfl, _, rfl, iteB (fun g => absurd g (by simp)) (fun _ => ?_)⟩
    refine ⟨_, rfl, x, dr, _, rfl, hr7, rfl, _, rfl, x, .int k, z, sl, lo, rfl, R, rfl, fun _ e _ => ?_, fun q => (nogood q).elim⟩
    cases e
    refine ⟨_, rfl, chain_rd rfl rfl ⟨rfl, _, rfl, iteB (fun g => absurd g (by simp)) (fun _ => ?_)⟩⟩
    refine ⟨_, rfl, x, dr, _, rfl, hr7, rfl, _, rfl, x, .int k, z, sl, lo, rfl, R, rfl, fun _ H2 e _ S2 => ?_, fun q => (nogood q).elim⟩
    cases e
    have R2 := R.up S2
    have hr2 := S2 _ _ hr7
    have hlH2 := S2 _ _ hlH
    have SE := S.trans S2
    clear hr7 hlH S2 S
    cases en : nextOf sl lo k with
    | none =>
      have hno := next_none hsl hk1 en
      refine ⟨_, rfl, rfl, _, rfl, iteB (fun g => absurd g (by decide)) (fun _ => iteF ?_)⟩
      refine ⟨_, rfl, rfl, _, rfl, iteB (fun g => absurd g (by decide)) (fun _ => iteF ?_)⟩
      refine ⟨_, rfl, l3, rfl, ⟨_, SqL.of hlH2⟩, fun D2 hD2 => lc_list (xs := ns.map V.int) (fun _ H' => Same H2 H' ∧ H' D2 = some (.lst [])) ⟨Same.new hD2, upd_same⟩ (fun i H' _ h => h.1.seq (SqL.of hlH2)) ?_ ?_⟩
      · rintro j2 v H3 hv ⟨S3, hd3⟩
        obtain ⟨q, rfl⟩ : ∃ q, v = .int q := by
          obtain ⟨q, h1, h2⟩ := List.mem_map.mp (List.mem_of_getElem? hv)
          exact ⟨q, h2.symm⟩
        refine ⟨rfl, _, rfl, _, rfl, _, _, rfl, rfl, _, rfl, iteB (fun g1 => ?_) (fun _ => iteF ⟨S3, hd3⟩)⟩
        have g1' : k ≤ q := of_decide_eq_true g1
        refine ⟨_, rfl, x, dr, _, rfl, S3 _ _ hr2, rfl, _, rfl, x, .int q, z, sl, lo, rfl, R2.up S3, rfl, fun _ e _ => ?_, fun q9 => absurd (of_decide_eq_false q9) (by omega)⟩
        cases e
        refine ⟨_, rfl, iteB (fun g2 => absurd (hno q g1') (by rw [show useOk sl lo q = true from g2]; decide)) (fun _ => iteF ⟨S3, hd3⟩)⟩
      rintro H3 ⟨S3, hD3⟩
      refine ⟨(by show 0 ≤ sizeLine; decide), fun e4 he4 => ⟨.list [], .list [], .lst (SqL.of (Same.new he4 _ _ hD3)) .nil, .lst (SqL.of upd_same) .nil, rfl, rfl, _, rfl, iteF ?_⟩⟩
      exact ⟨_, _, _, _, _, rfl, SE.trans (S3.trans (Same.new he4))⟩
    | some m =>
      obtain ⟨m1, m2, m3⟩ := next_some hsl hk1 en
      refine ⟨_, rfl, rfl, _, rfl, iteB (fun _ => ?_) (fun g => absurd g (by simp [oI]))⟩
      refine ⟨_, rfl, _, rfl, _, _, rfl, rfl, _, rfl, iteB (fun g => absurd (of_decide_eq_true g) (by omega)) (fun _ => ?_)⟩
      refine ⟨_, rfl, x, dr, _, rfl, hr2, rfl, _, rfl, x, .int m, z, sl, lo, rfl, R2, rfl, fun _ e _ => ?_, fun q => absurd (of_decide_eq_false q) (by omega)⟩
      cases e
      refine ⟨_, rfl, ?_⟩
      rw [m2]
      refine iteF ?_
      refine ⟨_, rfl, rfl, _, rfl, iteB (fun _ => ?_) (fun g => absurd g (by simp [oI]))⟩
      refine ⟨_, rfl, _, rfl, _, _, rfl, rfl, _, rfl, iteB (fun g5 => ?_) (fun _ => iteF ?_)⟩
      · have g5' : k < m := of_decide_eq_true g5
        refine ⟨_, rfl, x, dr, _, rfl, hr2, rfl, _, rfl, _, _, rfl, rfl, x, .int (m - 1), z, sl, lo, rfl, R2, rfl, fun _ e _ => ?_, fun q => absurd (of_decide_eq_false q) (by omega)⟩
        cases e
        refine ⟨_, rfl, ?_⟩
        rw [m3 (m - 1) (by omega) (by omega)]
        refine iteF ?_
        refine ⟨_, rfl, l3, rfl, ⟨_, SqL.of hlH2⟩, fun D2 hD2 => lc_list (xs := ns.map V.int) (fun _ H' => Same H2 H' ∧ H' D2 = some (.lst [])) ⟨Same.new hD2, upd_same⟩ (fun i H' _ h => h.1.seq (SqL.of hlH2)) ?_ ?_⟩
        · rintro j2 v H3 hv ⟨S3, hd3⟩
          obtain ⟨q, rfl⟩ : ∃ q, v = .int q := by
            obtain ⟨q, h1, h2⟩ := List.mem_map.mp (List.mem_of_getElem? hv)
            exact ⟨q, h2.symm⟩
          refine ⟨rfl, _, rfl, _, rfl, _, _, rfl, rfl, _, rfl, iteB (fun g1 => ?_) (fun _ => iteF ⟨S3, hd3⟩)⟩
          have g1' : k ≤ q := of_decide_eq_true g1
          refine ⟨_, rfl, x, dr, _, rfl, S3 _ _ hr2, rfl, _, rfl, x, .int q, z, sl, lo, rfl, R2.up S3, rfl, fun _ e _ => ?_, fun q9 => absurd (of_decide_eq_false q9) (by omega)⟩
          cases e
          refine ⟨_, rfl, iteB (fun g2 => ?_) (fun _ => iteF ⟨S3, hd3⟩)⟩
          refine ⟨_, rfl, rfl, _, rfl, iteB (fun g => absurd g (by simp [oI])) (fun _ => ?_)⟩
          refine ⟨_, rfl, _, rfl, _, _, rfl, rfl, _, rfl, iteB (fun g3 => absurd (m3 q g1' (of_decide_eq_true g3)) (by rw [show useOk sl lo q = true from g2]; decide)) (fun _ => ⟨S3, hd3⟩)⟩
        rintro H3 ⟨S3, hD3⟩
        refine ⟨(by show 0 ≤ sizeLine; decide), fun e4 he4 => ⟨.list [], .list [], .lst (SqL.of (Same.new he4 _ _ hD3)) .nil, .lst (SqL.of upd_same) .nil, rfl, rfl, _, rfl, iteF ?_⟩⟩
        exact ⟨_, _, _, _, _, rfl, SE.trans (S3.trans (Same.new he4))⟩
      · refine ⟨_, rfl, l3, rfl, ⟨_, SqL.of hlH2⟩, fun D2 hD2 => lc_list (xs := ns.map V.int) (fun _ H' => Same H2 H' ∧ H' D2 = some (.lst [])) ⟨Same.new hD2, upd_same⟩ (fun i H' _ h => h.1.seq (SqL.of hlH2)) ?_ ?_⟩
        · rintro j2 v H3 hv ⟨S3, hd3⟩
          obtain ⟨q, rfl⟩ : ∃ q, v = .int q := by
            obtain ⟨q, h1, h2⟩ := List.mem_map.mp (List.mem_of_getElem? hv)
            exact ⟨q, h2.symm⟩
          refine ⟨rfl, _, rfl, _, rfl, _, _, rfl, rfl, _, rfl, iteB (fun g1 => ?_) (fun _ => iteF ⟨S3, hd3⟩)⟩
          have g1' : k ≤ q := of_decide_eq_true g1
          refine ⟨_, rfl, x, dr, _, rfl, S3 _ _ hr2, rfl, _, rfl, x, .int q, z, sl, lo, rfl, R2.up S3, rfl, fun _ e _ => ?_, fun q9 => absurd (of_decide_eq_false q9) (by omega)⟩
          cases e
          refine ⟨_, rfl, iteB (fun g2 => ?_) (fun _ => iteF ⟨S3, hd3⟩)⟩
          refine ⟨_, rfl, rfl, _, rfl, iteB (fun g => absurd g (by simp [oI])) (fun _ => ?_)⟩
          refine ⟨_, rfl, _, rfl, _, _, rfl, rfl, _, rfl, iteB (fun g3 => absurd (m3 q g1' (of_decide_eq_true g3)) (by rw [show useOk sl lo q = true from g2]; decide)) (fun _ => ⟨S3, hd3⟩)⟩
        rintro H3 ⟨S3, hD3⟩
        refine ⟨(by show 0 ≤ sizeLine; decide), fun e4 he4 => ⟨.list [], .list [], .lst (SqL.of (Same.new he4 _ _ hD3)) .nil, .lst (SqL.of upd_same) .nil, rfl, rfl, _, rfl, iteF ?_⟩⟩
        exact ⟨_, _, _, _, _, rfl, SE.trans (S3.trans (Same.new he4))⟩
  · refine fun y2 dy2 hy2 hdy2 ne2 => mk_rules hy2 hdy2 (z := "9") (qs := [(9, none)]) (by decide +kernel) (by decide +kernel) (by decide +kernel) fun H9 S9 R9 => ?_
    obtain ⟨⟨d9, h9⟩, _⟩ := id R9
    refine ⟨x, d7, _, rfl, S9 _ _ (S8 _ _ h7), right_ins h9, x, .ref y2, _, _, _, _, rfl, (R7.up S8).up S9, .inl ⟨y2, _, _, _, rfl, R9, rfl⟩, _, rfl, _, rfl, iteB (fun g' => ?_) (fun _ => ?_)⟩
    · have g2 : z = Str.ofString "9" := of_decide_eq_true g'
      rw [g2] at g
      exact absurd g (by decide +kernel)
    have S10 := S8.trans S9
    clear R9 h9 d9 S9 ne2 hdy2 hy2 dy2 y2 g h8 d8 R8 S8 ne hdy hy dy y
    revert S10
    refine fun S10 => ?_
    refine ⟨_, rfl, l3, rfl, ⟨_, SqL.of (S10 _ _ hl7)⟩, fun D hD => lc_list (xs := ns.map V.int) (fun i H' => Same H9 H' ∧ H' D = some (.lst (((ns.take i).filter (fun k => decide (1 ≤ k))).map V.int))) ⟨Same.new hD, upd_same⟩ (fun i H' _ h => h.1.seq (SqL.of (S10 _ _ hl7))) ?_ ?_⟩
    · rintro j v H' hv ⟨S, hd'⟩
      obtain ⟨k, hk, rfl⟩ : ∃ k, ns[j]? = some k ∧ v = .int k := by
        rw [List.getElem?_map] at hv
        cases e : ns[j]? with
        | none => rw [e] at hv; cases hv
        | some k => rw [e] at hv; exact ⟨k, rfl, (Option.some.inj hv).symm⟩
      have tk : ns.take (j + 1) = ns.take j ++ [k] := by rw [List.take_succ, hk]; rfl
      refine ⟨rfl, _, rfl, _, _, rfl, rfl, _, rfl, iteB (fun g => ?_) (fun g => ?_)⟩
      · refine ⟨_, rfl, _, hd', ?_, S.mut hD, ?_⟩
        · refine small1000 ?_
          rw [List.length_map]
          have z1 := List.length_filter_le (fun k => decide (1 ≤ k)) (ns.take j)
          have z2 := List.length_take_le' j ns
          omega
        · rw [tk, List.filter_append, List.map_append, upd_same]
          have e : List.filter (fun k => decide (1 ≤ k)) [k] = [k] := by
            have g' : decide (1 ≤ k) = true := g
            simp [g']
          rw [e]
          rfl
      · refine ⟨S, ?_⟩
        rw [tk, List.filter_append, List.map_append]
        have e : List.filter (fun k => decide (1 ≤ k)) [k] = [] := by
          have g' : decide (1 ≤ k) = false := g
          simp [g']
        rw [e]
        simpa using hd'
    rintro H10 ⟨S11, hD10⟩
    rw [List.length_map, List.take_length] at hD10
    have hms : ∀ k ∈ ns.filter (fun k => decide (1 ≤ k)), 1 ≤ k := fun k hk => of_decide_eq_true (List.mem_filter.mp hk).2
    generalize ns.filter (fun k => decide (1 ≤ k)) = ms at *
    refine ⟨D, rfl, ⟨_, SqL.of hD10⟩, ?_⟩
    have S12 := S10.trans S11
    have RX := R7.up S12
    have hl10 := S12 _ _ hl7
    have SSX := SS7.trans (SameBut.of S12)
    have hpX := hp7.up S12
    refine for_list (xs := ms.map V.int) (fun j σ H' => ∃ o2 o8 o9 o10 o11, σ = [some (.ref a), some (.ref d), o2, some (.str z), some (.int sl), some (.int lo), some (.ref x), some (.ref l3), o8, o9, o10, o11] ∧ Same H10 H') ⟨_, _, _, _, _, rfl, Same.refl _⟩ ?_ ?_ ?_
    · rintro j σ H' _ ⟨o2, o8, o9, o10, o11, rfl, S⟩
      exact S.seq (SqL.of hD10)
    rotate_left
    · rintro σ H' ⟨o2, o8, o9, o10, o11, rfl, S⟩
      exact ⟨_, _, _, _, _, _, _, _, _, _, rfl, SSX.trans (SameBut.of S), hpX.up S⟩
    rintro j v σ H' hv ⟨o2, o8, o9, o10, o11, rfl, S⟩
    obtain ⟨k, hk, rfl⟩ : ∃ k, k ∈ ms ∧ v = .int k := by
      obtain ⟨k, h1, h2⟩ := List.mem_map.mp (List.mem_of_getElem? hv)
      exact ⟨k, h1, h2.symm⟩
    have hk1 := hms k hk
    have R := RX.up S
    obtain ⟨⟨dr, hr7⟩, _⟩ := id R
    have hlH := S _ _ hl10
    refine ⟨_, rfl, _, rfl, _, _, rfl, rfl, .inl (by omega), _, rfl, _, _, rfl, rfl, ?_⟩
    have nogood : goodSz (.int k) = false → False := fun q => absurd (of_decide_eq_false q) (by omega)
    refine ⟨_, rfl, x, dr, _, rfl, hr7, rfl, _, rfl, x, .int k, z, sl, lo, rfl, R, rfl, fun _ e _ => ?_, fun q => (nogood q).elim⟩
    cases e
    refine ⟨_, rfl, rfl, _, rfl, iteB (fun g => absurd g (by simp)) (fun _ => ?_)⟩
    refine ⟨_, rfl, x, dr, _, rfl, hr7, rfl, _, rfl, x, .int k, z, sl, lo, rfl, R, rfl, fun _ e _ => ?_, fun q => (nogood q).elim⟩
    cases e
    refine ⟨_, rfl, chain_rd rfl rfl ⟨rfl, _, rfl, iteB (fun g => absurd g (by simp)) (fun _ => ?_)⟩⟩
    refine ⟨_, rfl, x, dr, _, rfl, hr7, rfl, _, rfl, x, .int k, z, sl, lo, rfl, R, rfl, fun _ H2 e _ S2 => ?_, fun q => (nogood q).elim⟩
    cases e
    have R2 := R.up S2
    have hr2 := S2 _ _ hr7
    have hlH2 := S2 _ _ hlH
    have SE := S.trans S2
    clear hr7 hlH S2 S
    cases en : nextOf sl lo k with
    | none =>
      have hno := next_none hsl hk1 en
      refine ⟨_, rfl, rfl, _, rfl, iteB (fun g => absurd g (by decide)) (fun _ => iteF ?_)⟩
      refine ⟨_, rfl, rfl, _, rfl, iteB (fun g => absurd g (by decide)) (fun _ => iteF ?_)⟩
      refine ⟨_, rfl, l3, rfl, ⟨_, SqL.of hlH2⟩, fun D2 hD2 => lc_list (xs := ns.map V.int) (fun _ H' => Same H2 H' ∧ H' D2 = some (.lst [])) ⟨Same.new hD2, upd_same⟩ (fun i H' _ h => h.1.seq (SqL.of hlH2)) ?_ ?_⟩
      · rintro j2 v H3 hv ⟨S3, hd3⟩
        obtain ⟨q, rfl⟩ : ∃ q, v = .int q := by
          obtain ⟨q, h1, h2⟩ := List.mem_map.mp (List.mem_of_getElem? hv)
          exact ⟨q, h2.symm⟩
        refine ⟨rfl, _, rfl, _, rfl, _, _, rfl, rfl, _, rfl, iteB (fun g1 => ?_) (fun _ => iteF ⟨S3, hd3⟩)⟩
        have g1' : k ≤ q := of_decide_eq_true g1
        refine ⟨_, rfl, x, dr, _, rfl, S3 _ _ hr2, rfl, _, rfl, x, .int q, z, sl, lo, rfl, R2.up S3, rfl, fun _ e _ => ?_, fun q9 => absurd (of_decide_eq_false q9) (by omega)⟩
        cases e
        refine ⟨_, rfl, iteB (fun g2 => absurd (hno q g1') (by rw [show useOk sl lo q = true from g2]; decide)) (fun _ => iteF ⟨S3, hd3⟩)⟩
      rintro H3 ⟨S3, hD3⟩
      refine ⟨(by show 0 ≤ sizeLine; decide), fun e4 he4 => ⟨.list [], .list [], .lst (SqL.of (Same.new he4 _ _ hD3)) .nil, .lst (SqL.of upd_same) .nil, rfl, rfl, _, rfl, iteF ?_⟩⟩
      exact ⟨_, _, _, _, _, rfl, SE.trans (S3.trans (Same.new he4))⟩
    | some m =>
      obtain ⟨m1, m2, m3⟩ := next_some hsl hk1 en
      refine ⟨_, rfl, rfl, _, rfl, iteB (fun _ => ?_) (fun g => absurd g (by simp [oI]))⟩
      refine ⟨_, rfl, _, rfl, _, _, rfl, rfl, _, rfl, iteB (fun g => absurd (of_decide_eq_true g) (by omega)) (fun _ => ?_)⟩
      refine ⟨_, rfl, x, dr, _, rfl, hr2, rfl, _, rfl, x, .int m, z, sl, lo, rfl, R2, rfl, fun _ e _ => ?_, fun q => absurd (of_decide_eq_false q) (by omega)⟩
      cases e
      refine ⟨_, rfl, ?_⟩
      rw [m2]
      refine iteF ?_
      refine ⟨_, rfl, rfl, _, rfl, iteB (fun _ => ?_) (fun g => absurd g (by simp [oI]))⟩
      refine ⟨_, rfl, _, rfl, _, _, rfl, rfl, _, rfl, iteB (fun g5 => ?_) (fun _ => iteF ?_)⟩
      · have g5' : k < m := of_decide_eq_true g5
        refine ⟨_, rfl, x, dr, _, rfl, hr2, rfl, _, rfl, _, _, rfl, rfl, x, .int (m - 1), z, sl, lo, rfl, R2, rfl, fun _ e _ => ?_, fun q => absurd (of_decide_eq_false q) (by omega)⟩
        cases e
        refine ⟨_, rfl, ?_⟩
        rw [m3 (m - 1) (by omega) (by omega)]
        refine iteF ?_
        refine ⟨_, rfl, l3, rfl, ⟨_, SqL.of hlH2⟩, fun D2 hD2 => lc_list (xs := ns.map V.int) (fun _ H' => Same H2 H' ∧ H' D2 = some (.lst [])) ⟨Same.new hD2, upd_same⟩ (fun i H' _ h => h.1.seq (SqL.of hlH2)) ?_ ?_⟩
        · rintro j2 v H3 hv ⟨S3, hd3⟩
          obtain ⟨q, rfl⟩ : ∃ q, v = .int q := by
            obtain ⟨q, h1, h2⟩ := List.mem_map.mp (List.mem_of_getElem? hv)
            exact ⟨q, h2.symm⟩
          refine ⟨rfl, _, rfl, _, rfl, _, _, rfl, rfl, _, rfl, iteB (fun g1 => ?_) (fun _ => iteF ⟨S3, hd3⟩)⟩
          have g1' : k ≤ q := of_decide_eq_true g1
          refine ⟨_, rfl, x, dr, _, rfl, S3 _ _ hr2, rfl, _, rfl, x, .int q, z, sl, lo, rfl, R2.up S3, rfl, fun _ e _ => ?_, fun q9 => absurd (of_decide_eq_false q9) (by omega)⟩
          cases e
          refine ⟨_, rfl, iteB (fun g2 => ?_) (fun _ => iteF ⟨S3, hd3⟩)⟩
          refine ⟨_, rfl, rfl, _, rfl, iteB (fun g => absurd g (by simp [oI])) (fun _ => ?_)⟩
          refine ⟨_, rfl, _, rfl, _, _, rfl, rfl, _, rfl, iteB (fun g3 => absurd (m3 q g1' (of_decide_eq_true g3)) (by rw [show useOk sl lo q = true from g2]; decide)) (fun _ => ⟨S3, hd3⟩)⟩
        rintro H3 ⟨S3, hD3⟩
        refine ⟨(by show 0 ≤ sizeLine; decide), fun e4 he4 => ⟨.list [], .list [], .lst (SqL.of (Same.new he4 _ _ hD3)) .nil, .lst (SqL.of upd_same) .nil, rfl, rfl, _, rfl, iteF ?_⟩⟩
        exact ⟨_, _, _, _, _, rfl, SE.trans (S3.trans (Same.new he4))⟩
      · refine ⟨_, rfl, l3, rfl, ⟨_, SqL.of hlH2⟩, fun D2 hD2 => lc_list (xs := ns.map V.int) (fun _ H' => Same H2 H' ∧ H' D2 = some (.lst [])) ⟨Same.new hD2, upd_same⟩ (fun i H' _ h => h.1.seq (SqL.of hlH2)) ?_ ?_⟩
        · rintro j2 v H3 hv ⟨S3, hd3⟩
          obtain ⟨q, rfl⟩ : ∃ q, v = .int q := by
            obtain ⟨q, h1, h2⟩ := List.mem_map.mp (List.mem_of_getElem? hv)
            exact ⟨q, h2.symm⟩
          refine ⟨rfl, _, rfl, _, rfl, _, _, rfl, rfl, _, rfl, iteB (fun g1 => ?_) (fun _ => iteF ⟨S3, hd3⟩)⟩
          have g1' : k ≤ q := of_decide_eq_true g1
          refine ⟨_, rfl, x, dr, _, rfl, S3 _ _ hr2, rfl, _, rfl, x, .int q, z, sl, lo, rfl, R2.up S3, rfl, fun _ e _ => ?_, fun q9 => absurd (of_decide_eq_false q9) (by omega)⟩
          cases e
          refine ⟨_, rfl, iteB (fun g2 => ?_) (fun _ => iteF ⟨S3, hd3⟩)⟩
          refine ⟨_, rfl, rfl, _, rfl, iteB (fun g => absurd g (by simp [oI])) (fun _ => ?_)⟩
          refine ⟨_, rfl, _, rfl, _, _, rfl, rfl, _, rfl, iteB (fun g3 => absurd (m3 q g1' (of_decide_eq_true g3)) (by rw [show useOk sl lo q = true from g2]; decide)) (fun _ => ⟨S3, hd3⟩)⟩
        rintro H3 ⟨S3, hD3⟩
        refine ⟨(by show 0 ≤ sizeLine; decide), fun e4 he4 => ⟨.list [], .list [], .lst (SqL.of (Same.new he4 _ _ hD3)) .nil, .lst (SqL.of upd_same) .nil, rfl, rfl, _, rfl, iteF ?_⟩⟩
        exact ⟨_, _, _, _, _, rfl, SE.trans (S3.trans (Same.new he4))⟩
end
end K68


set_option Elab.async false
set_option linter.all false
set_option maxRecDepth 100000
set_option maxHeartbeats 4000000
/-! a Hook that tells defs, classes, errors with an __init__ by super(), code tables -/
namespace HeE
open PySem PySem.Spec PyProof.Rows L2 He PySem.ErrX
structure ErrD where
  x : Str
  fs : List Str
  qual : Str
  params : Arguments
  body : List Stmt
  scope : Scope
abbrev FnE : Type := Option (Str × Str × Arguments × FuncBody × Scope × Addr × Addr)
def iAd (K : PySem.W.Frag) (x : Str) : Addr := ma K (ga K x) "__init__"
def fnE (K : PySem.W.Frag) (x : Str) : FnE := match K.lookup (iAd K x) with
  | some ⟨_, _, .func fd, _⟩ => some (fd.name, fd.qualname, fd.params, fd.body, fd.scope, fd.globals, fd.builtins)
  | _ => none
def ErrD.val (d : ErrD) : FnE := some ("__init__", d.qual, d.params, .stmts d.body, d.scope, mainGlobals, builtinsNs)
def fileB (K : PySem.W.Frag) (cda : Addr) (file : Str) : Bool := match K.lookup cda with
  | some ⟨_, _, .fields vs, _⟩ => (match (vs[2]? : Option Value) with
    | some (.str f _) => (file == f)
    | _ => false)
  | _ => false
def cellB (K : PySem.W.Frag) (cc C : Addr) : Bool := match K.lookup cc with
  | some ⟨_, _, .cell (some (.ref C')), _⟩ => decide (C' = C)
  | _ => false
def initB (K : PySem.W.Frag) (C fI : Addr) (file q : Str) : Bool := match K.lookup fI with
  | some ⟨_, _, .func fd, _⟩ => (match fd.code, fd.closure, fd.defaults with
    | .ref cda, [(cn, cc)], .none => decide (cn = "__class__") && (PySem.W.codeIn K (.ref cda) q && (fileB K cda file && cellB K cc C))
    | _, _, _ => false)
  | _ => false
def clsB (K : PySem.W.Frag) (C : Addr) : Bool := match K.lookup C with
  | some ⟨.type t, _, .cls cd, sl⟩ => decide (t = "type") && (match cd.mro, sl.toList with
    | .ref C' :: bm, [_, _, _, _, some (.builtin n), _] => decide (C' = C) && (decide (n = "ValueError.__new__") && (!cd.hasDel && (cd.hasDict && PySem.HandSPX.refsVE bm)))
    | _, _ => false)
  | _ => false
def okO (a b : Option Bool) : Bool := decide (a = b)
def okV (a b : Option Value) : Bool := decide (a = b)
def errL (K : PySem.W.Frag) (file : Str) (d : ErrD) : List Bool := [
  clsB K (ga K d.x),
  eqO (PySem.W.findIn K (.ref (ga K d.x)) "__setattr__") (some (some (.builtin "object.__setattr__"))),
  eqO (PySem.W.findIn K (.ref (ga K d.x)) "__getattribute__") (some (some (.builtin "BaseException.__getattribute__"))),
  eqO (PySem.W.findIn K (.ref (ga K d.x)) "__getattr__") (some none),
  d.fs.all (fun f => eqO (PySem.W.findIn K (.ref (ga K d.x)) f) (some none)),
  PySem.W.keepIn K (.ref (ga K d.x)),
  okO (PySem.W.subIn K (.ref (ga K d.x)) (.type "BaseException")) (some true),
  okO (PySem.W.subIn K (.ref (ga K d.x)) (.type "ValueError")) (some true),
  okV (PySem.W.typeIn K (.ref (ga K d.x))) (some (.type "type")),
  PySem.W.hasDictIn K (ga K d.x),
  okO (PySem.W.mroIn K (ga K d.x) (.ref (ga K d.x))) (some true),
  eqO (PySem.W.ks_superIn K (ga K d.x) (ga K d.x) "__init__") (some (some (.builtin "ValueError.__init__"))),
  eqO (PySem.W.nsIn K cStatics "thirdparty.any") (some none),
  eqO (PySem.W.nsIn K mainGlobals "super") (some none),
  eqO (PySem.W.findIn K (.ref (ga K d.x)) "__init__") (some (some (.ref (iAd K d.x)))),
  okV (PySem.W.typeIn K (.ref (iAd K d.x))) (some (.type "function")),
  initB K (ga K d.x) (iAd K d.x) file d.qual,
  (PySem.W.clsIn K (ga K d.x)).isSome,
  eqO (PySem.W.findIn K (.ref (ga K d.x)) "__class__") (some (some (.builtin "object.__class__"))),
  eqO (PySem.W.specialIn K (.builtin "object.__class__") "__get__") (some (some (.builtin "getset_descriptor.__get__"))),
  okO (PySem.W.takesIn K (.builtin "object.__class__")) (some true),
  okO (PySem.W.mroIn K (ga K d.x) (.type "object")) (some true),
  eqO (PySem.W.nsIn K mainGlobals d.x) (some (some (.ref (ga K d.x))))]
def errB (K : PySem.W.Frag) (file : Str) (d : ErrD) : Bool := (errL K file d).all id
theorem all_at {l : List Bool} (h : l.all id = true) (i : Nat) {b : Bool} (e : l[i]? = some b := by rfl) : b = true := List.all_eq_true.mp h b (List.mem_of_getElem? e)
/-- what the text says of an error -/
structure ErrS (prog : Program) (d : ErrD) : Prop where
  topN : (prog.main.scope.names.lookup ("super" : Str)).isSome = false
  kinds : (d.fs.all fun f => (iScope d.fs).names.lookup f == some .local && !(f == ("self" : Str))) = true
  dbg : ∀ f ∈ d.fs, (f == ("__debug__" : Str)) = false
  outs : ("__class__" : Str) ∉ d.fs ∧ ("super" : Str) ∉ d.fs
  nd : d.fs.Nodup
  len : d.fs.length ≤ 900
  scope : d.scope = iScope d.fs
  head : ∃ ar, (d.params.posonlyargs ++ d.params.args).head? = some ar ∧ ar.arg = "self"
  body : ∃ msg j p0 p1 p2 p3 p4 p5 ps, d.body = supSt msg j p0 p1 p2 p3 p4 p5 :: (ps : List FldP).map setSt ∧ ps.map (·.f) = d.fs ∧ ∀ env, ∃ pl, supEv env pl msg j p0 p1 p2 p3 p4
  bind : ∀ (kV doc pm : Value) (an : Option Addr) (cda : Addr) (ct : Value) (cc : Addr) (self : Value) (us : List Value), us.length = d.fs.length → bindArgs (PySem.W.ksFn "__init__" d.qual d.params d.body (iScope d.fs) .none kV doc pm an (.ref cda) ct cc) ⟨self :: us, []⟩ = pure ((("self" : Str), self) :: d.fs.zip us)
theorem clsB_ok {K : PySem.W.Frag} {C : Addr} (h : clsB K C = true) : ∃ nm q N bs bm sn sub ab col dd k0 k1 k2 k3 k5, K.lookup C = some (excClassObj nm q C N bs bm true sn sub ab col dd k0 k1 k2 k3 k5 "ValueError.__new__") ∧ PySem.HandSPX.refsVE bm = true := by
  unfold clsB at h
  split at h
  · rename_i t dd cd sl q
    obtain ⟨h1, h2⟩ := ba h
    split at h2
    · rename_i C' bm k0 k1 k2 k3 n k5 e1 e2
      obtain ⟨a1, a⟩ := ba h2
      obtain ⟨a2, a⟩ := ba a
      obtain ⟨a3, a⟩ := ba a
      obtain ⟨a4, a5⟩ := ba a
      obtain ⟨sl⟩ := sl
      obtain ⟨n1, n2, n3, n4, n5, n6, n7, n8, n9, n10, n11⟩ := cd
      simp only at e1 e2 a3 a4
      have a1 := of_decide_eq_true a1
      have a2 := of_decide_eq_true a2
      have h1 := of_decide_eq_true h1
      have a3 : n11 = false := by simpa using a3
      subst a1 a2 h1 a3 a4 e1 e2
      exact ⟨n1, n5, n4, n2, bm, n7, n8, n9, n10, dd, k0, k1, k2, k3, k5, q, a5⟩
    · cases h2
  · cases h
theorem errTxt {prog : Program} {K : PySem.W.Frag} {d : ErrD} (h : errB K prog.main.file d = true) (e : fnE K d.x = d.val) (S : ErrS prog d) : ErrTxt prog K d.fs (ga K d.x) where
  cls := clsB_ok (all_at h 0)
  sa := eqO_ok (all_at h 1)
  ga := eqO_ok (all_at h 2)
  gg := eqO_ok (all_at h 3)
  noN := fun f hf => eqO_ok (List.all_eq_true.mp (all_at h 4) f hf)
  kC := all_at h 5
  exC := of_decide_eq_true (all_at h 6)
  veC := of_decide_eq_true (all_at h 7)
  tyC := of_decide_eq_true (all_at h 8)
  hdC := all_at h 9
  own := of_decide_eq_true (all_at h 10)
  sup := eqO_ok (all_at h 11)
  opq := eqO_ok (all_at h 12)
  gsup := eqO_ok (all_at h 13)
  topN := S.topN
  kinds := S.kinds
  dbg := S.dbg
  outs := S.outs
  nd := S.nd
  len := S.len
  init := by
    have h14 := eqO_ok (all_at h 14)
    have h15 : PySem.W.typeIn K (.ref (iAd K d.x)) = some (.type "function") := of_decide_eq_true (all_at h 15)
    have h16 : initB K (He.ga K d.x) (iAd K d.x) prog.main.file d.qual = true := all_at h 16
    unfold initB at h16
    unfold fnE ErrD.val at e
    cases q : K.lookup (iAd K d.x) with
    | none => rw [q] at h16; cases h16
    | some o =>
      obtain ⟨oc, od, dt, osl⟩ := o
      rw [q] at h16 e
      cases dt with
      | func fd =>
        obtain ⟨n1, n2, n3, n4, n5, n6, n7, n8, n9, n10, n11, n12, n13, n14, n15⟩ := fd
        have e2 : (some (n1, n2, n3, n4, n5, n6, n15) : FnE) = (some (Str.ofString "__init__", d.qual, d.params, .stmts d.body, d.scope, mainGlobals, builtinsNs) : FnE) := e
        simp only [Option.some.injEq, Prod.mk.injEq] at e2
        obtain ⟨h1, h2, h3, h4, h5, h6, h8⟩ := e2
        subst h1 h2 h3 h4 h5 h6 h8
        cases n13 with
        | ref cda =>
          cases n7 with
          | nil => cases h16
          | cons c7 r7 =>
            obtain ⟨cn, cc⟩ := c7
            cases r7 with
            | cons _ _ => cases h16
            | nil =>
              cases n8 with
              | none =>
                have h17 : (decide (cn = "__class__") && (PySem.W.codeIn K (.ref cda) d.qual && (fileB K cda prog.main.file && cellB K cc (He.ga K d.x)))) = true := h16
                obtain ⟨a1, a⟩ := ba h17
                obtain ⟨a2, a⟩ := ba a
                obtain ⟨a3, a4⟩ := ba a
                have a1 := of_decide_eq_true a1
                subst a1
                unfold fileB at a3
                unfold cellB at a4
                split at a3
                · rename_i ccl cdd vs ccs q1
                  split at a3
                  · rename_i f tf q2
                    split at a4
                    · rename_i cl cld C' csl q3
                      have a4 := of_decide_eq_true a4
                      subst a4
                      rw [S.scope] at q
                      exact ⟨iAd K d.x, cc, cda, oc, od, d.qual, d.params, d.body, n9, n10, n11, n12, n14, osl, ccl, cdd, vs, ccs, f, tf, cl, cld, csl, h14, h15, q, a2, q1, q2, a3, q3, S.head, S.body, S.bind n9 n10 n11 n12 cda n14 cc⟩
                    · cases a4
                  · cases a3
                · cases a3
              | _ => cases h16
        | _ => cases h16
      | _ => cases h16
theorem errK {prog : Program} {K : PySem.W.Frag} {d : ErrD} {file : Str} (h : errB K file d = true) : ErrK K (ga K d.x) where
  hcl := all_at h 17
  hga := eqO_ok (all_at h 2)
  hgt := eqO_ok (all_at h 3)
  hsub := of_decide_eq_true (all_at h 6)
  ha := eqO_ok (all_at h 18)
  hn := eqO_ok (all_at h 19)
  htk := of_decide_eq_true (all_at h 20)
  hm := of_decide_eq_true (all_at h 21)
theorem errG {K : PySem.W.Frag} {d : ErrD} {file : Str} {hp : Heap} {mg : Str → Option Value} (X : K.In hp) (G : hp.Ns mainGlobals mg) (h : errB K file d = true) : mg d.x = some (.ref (ga K d.x)) := PySem.W.mg_of X G (eqO_ok (all_at h 22))
/-! ### the Hook -/
abbrev AlE : Type := Bool × List FnW × List FnE
def obsE (file : Str) (fa : List Fa) (fn : List DefD) (er : List ErrD) (tf : List Defn) (ex : PySem.W.Frag → Bool) (g : Addr → Option Obj) (K : PySem.W.Frag) : AlE :=
  ((fa.all fun f => f.ok K) && ((fn.all fun d => d.ok K) && ((er.all fun d => errB K file d) && (ex K && tabsB g tf K))), fn.map (fun d => fnW K d.at_), er.map (fun d => fnE K d.x))
def valE (fn : List DefD) (er : List ErrD) : AlE := (true, fn.map DefD.val, er.map ErrD.val)
structure SaysE (file : Str) (fa : List Fa) (fn : List DefD) (er : List ErrD) (tf : List Defn) (ex : PySem.W.Frag → Bool) (h : Heap) (K : PySem.W.Frag) : Prop where
  fa : ∀ f ∈ fa, f.ok K = true
  fn : ∀ d ∈ fn, ∃ fd, FunD K d.name d.qual d.params d.body d.scope (d.dvs K) (d.kws K) (fAd K d.at_) fd
  er : ∀ d ∈ er, errB K file d = true ∧ fnE K d.x = d.val
  more : ex K = true
  hd : ∀ p ∈ tf, PySem.W.codeHdIn K (cT K p).1 (cT K p).2 = true
  out : ∀ p ∈ tf, K.lookup (cT K p).2 = none
  empty : ∀ p ∈ tf, h.get? (cT K p).2 = some { cls := .none, data := .fields #[] }
def frE (g : Addr → Option Obj) (n : Nat) : PySem.W.Frag := frT g (cStatics :: asD g n)
theorem map_at {α β : Type} {f g : α → β} : ∀ {l : List α}, l.map f = l.map g → ∀ d ∈ l, f d = g d
  | [], _, d, hd => by cases hd
  | a :: r, h, d, hd => by
    have h2 : f a :: r.map f = g a :: r.map g := h
    injection h2 with h3 h4
    rcases List.mem_cons.mp hd with e | e
    · subst e; exact h3
    · exact map_at h4 d e
theorem saysE_of {file : Str} {n : Nat} {fa : List Fa} {fn : List DefD} {er : List ErrD} {tf : List Defn} {ex : PySem.W.Frag → Bool} {h : Heap} (e : obsE file fa fn er tf ex h.get? (frE h.get? n) = valE fn er) : SaysE file fa fn er tf ex h (frE h.get? n) := by
  have e1 : ((fa.all fun f => f.ok (frE h.get? n)) && ((fn.all fun d => d.ok (frE h.get? n)) && ((er.all fun d => errB (frE h.get? n) file d) && (ex (frE h.get? n) && tabsB h.get? tf (frE h.get? n))))) = true := congrArg (fun z : AlE => z.1) e
  have e2 : fn.map (fun d => fnW (frE h.get? n) d.at_) = fn.map DefD.val := congrArg (fun z : AlE => z.2.1) e
  have e3 : er.map (fun d => fnE (frE h.get? n) d.x) = er.map ErrD.val := congrArg (fun z : AlE => z.2.2) e
  obtain ⟨a1, a⟩ := ba e1
  obtain ⟨a2, a⟩ := ba a
  obtain ⟨a3, a⟩ := ba a
  obtain ⟨a4, a5⟩ := ba a
  have key : ∀ p ∈ tf, PySem.W.codeHdIn (frE h.get? n) (cT (frE h.get? n) p).1 (cT (frE h.get? n) p).2 = true ∧ ∃ o, h.get? (cT (frE h.get? n) p).2 = some o ∧ emptyTab o = true := fun p hp => by
    obtain ⟨h3, h4⟩ := ba (List.all_eq_true.mp a5 p hp)
    refine ⟨h3, ?_⟩
    cases q : h.get? (cT (frE h.get? n) p).2 with
    | none => rw [q] at h4; cases h4
    | some o => rw [q] at h4; exact ⟨o, rfl, h4⟩
  exact ⟨fun f hf => List.all_eq_true.mp a1 f hf, fun d hd => DefD.funD (map_at e2 d hd) (List.all_eq_true.mp a2 d hd), fun d hd => ⟨List.all_eq_true.mp a3 d hd, map_at e3 d hd⟩, a4, fun p hp => (key p hp).1, fun p hp => by
    obtain ⟨_, o, q, z⟩ := key p hp
    exact frT_none q z, fun p hp => by
    obtain ⟨_, o, q, z⟩ := key p hp
    rw [q, emptyTab_eq z]⟩
def hookE (file : Str) (n : Nat) (fa : List Fa) (fn : List DefD) (er : List ErrD) (tf : List Defn) (ex : PySem.W.Frag → Bool) : PySem.W.Hook where
  α := AlE
  obs := fun s => obsE file fa fn er tf ex s.heap.get? (frE s.heap.get? n)
  val := fun _ => valE fn er
  says := fun _ h => ∃ K : PySem.W.Frag, K.In h ∧ SaysE file fa fn er tf ex h K
  of := fun _ _ e => ⟨_, frT_in, saysE_of e⟩
  keeps := fun _ _ _ ⟨K, hK, c⟩ k => ⟨K, PySem.W.Frag.In.keeps hK k, ⟨c.fa, c.fn, c.er, c.more, c.hd, c.out, fun p hp => k _ _ (c.empty p hp)⟩⟩
theorem obsE_eq {file : Str} {n : Nat} {fa : List Fa} {fn : List DefD} {er : List ErrD} {tf : List Defn} {ex : PySem.W.Frag → Bool} {g : Addr → Option Obj} {s : Shared} (h : ∀ a, g a = s.heap.get? a) : obsE file fa fn er tf ex g (frE g n) = (hookE file n fa fn er tf ex).obs s := by
  have e : g = s.heap.get? := funext h
  rw [e] <;> rfl
end HeE


set_option Elab.async false
set_option linter.all false
set_option maxRecDepth 100000
set_option maxHeartbeats 0
namespace K68
open PySem PySem.Spec PyProof.Rows L2 He HeE
def d_told_number : He.DefD := ⟨("told_number", none), "told_number", "told_number", defArgs s_told_number, defBody s_told_number, defScope s_told_number, [], []⟩
def d_told_atom : He.DefD := ⟨("told_atom", none), "told_atom", "told_atom", defArgs s_told_atom, defBody s_told_atom, defScope s_told_atom, [], []⟩
def d_told_sum : He.DefD := ⟨("told_sum", none), "told_sum", "told_sum", defArgs s_told_sum, defBody s_told_sum, defScope s_told_sum, [], []⟩
def d_need_book_size : He.DefD := ⟨("need_book_size", none), "need_book_size", "need_book_size", defArgs s_need_book_size, defBody s_need_book_size, defScope s_need_book_size, [], []⟩
def d_BookRules_init : He.DefD := ⟨("BookRules", some "__init__"), "__init__", "BookRules.__init__", defArgs s_BookRules_init, defBody s_BookRules_init, defScope s_BookRules_init, [], []⟩
def d_BookRules_kept_rows : He.DefD := ⟨("BookRules", some "kept_rows"), "kept_rows", "BookRules.kept_rows", defArgs s_BookRules_kept_rows, defBody s_BookRules_kept_rows, defScope s_BookRules_kept_rows, [], []⟩
def d_BookRules_in_use : He.DefD := ⟨("BookRules", some "in_use"), "in_use", "BookRules.in_use", defArgs s_BookRules_in_use, defBody s_BookRules_in_use, defScope s_BookRules_in_use, [], []⟩
def d_BookRules_next_in_use : He.DefD := ⟨("BookRules", some "next_in_use"), "next_in_use", "BookRules.next_in_use", defArgs s_BookRules_next_in_use, defBody s_BookRules_next_in_use, defScope s_BookRules_next_in_use, [], []⟩
def d_BookRules_eq : He.DefD := ⟨("BookRules", some "__eq__"), "__eq__", "BookRules.__eq__", defArgs s_BookRules_eq, defBody s_BookRules_eq, defScope s_BookRules_eq, [], []⟩
def d_l_begun_pen : He.DefD := ⟨("_law_begun_pen", none), "_law_begun_pen", "_law_begun_pen", defArgs s_l_begun_pen, defBody s_l_begun_pen, defScope s_l_begun_pen, [], []⟩
def d_l_draw : He.DefD := ⟨("_law_draw", none), "_law_draw", "_law_draw", defArgs s_l_draw, defBody s_l_draw, defScope s_l_draw, [], []⟩
def d_l_pick : He.DefD := ⟨("_law_pick", none), "_law_pick", "_law_pick", defArgs s_l_pick, defBody s_l_pick, defScope s_l_pick, [], []⟩
def d_l_wide : He.DefD := ⟨("_law_wide", none), "_law_wide", "_law_wide", defArgs s_l_wide, defBody s_l_wide, defScope s_l_wide, [], []⟩
def d_l_sum_text : He.DefD := ⟨("_law_sum_text", none), "_law_sum_text", "_law_sum_text", defArgs s_l_sum_text, defBody s_l_sum_text, defScope s_l_sum_text, [], []⟩
def d_l_new_keep : He.DefD := ⟨("_law_new_keep", none), "_law_new_keep", "_law_new_keep", defArgs s_l_new_keep, defBody s_l_new_keep, defScope s_l_new_keep, [], []⟩
def d_l_refused : He.DefD := ⟨("_law_refused", none), "_law_refused", "_law_refused", defArgs s_l_refused, defBody s_l_refused, defScope s_l_refused, [], []⟩
def d_l_asked : He.DefD := ⟨("_law_asked", none), "_law_asked", "_law_asked", defArgs s_l_asked, defBody s_l_asked, defScope s_l_asked, [], []⟩
def d_l_wrong_right : He.DefD := ⟨("_law_wrong_right", none), "_law_wrong_right", "_law_wrong_right", defArgs s_l_wrong_right, defBody s_l_wrong_right, defScope s_l_wrong_right, [], []⟩
def d_law : He.DefD := ⟨("law", none), "law", "law", defArgs s_law, defBody s_law, defScope s_law, [], []⟩
def fn0 : List He.DefD := [d_told_number, d_told_atom, d_told_sum, d_need_book_size, d_BookRules_init, d_BookRules_kept_rows, d_BookRules_in_use, d_BookRules_next_in_use, d_BookRules_eq, d_l_begun_pen, d_l_draw, d_l_pick, d_l_wide, d_l_sum_text, d_l_new_keep, d_l_refused, d_l_asked, d_l_wrong_right, d_law]
abbrev fn : List He.DefD := fn0
def fa0 : List He.Fa := [.glo "told_number", .glo "told_atom", .glo "told_sum", .glo "need_book_size", .meth "BookRules" "kept_rows", .meth "BookRules" "in_use", .meth "BookRules" "next_in_use", .meth "BookRules" "__eq__", .glo "_law_begun_pen", .glo "_law_draw", .glo "_law_pick", .glo "_law_wide", .glo "_law_sum_text", .glo "_law_new_keep", .glo "_law_refused", .glo "_law_asked", .glo "_law_wrong_right", .glo "law", .glo "BookRules", .glo "HeldError", .cls "BookRules", .mkr "BookRules", .noat "BookRules" "keep", .noat "BookRules" "slope", .noat "BookRules" "lone"]
def fa1 : List He.Fa := [.free "len", .free "int", .free "str", .free "isinstance", .free "range", .free "enumerate", .free "tuple", .free "list", .free "abs", .free "sum", .free "max", .free "repr", .free "bool", .int "MOST_FIGURES" 30, .int "MOST_TERMS" 4]
abbrev fa : List He.Fa := fa0 ++ fa1
def e_BadSize : ErrD := ⟨"BadSize", ["size"], "BadSize.__init__", defArgs s_BadSize_init, defBody s_BadSize_init, defScope s_BadSize_init⟩
def e_BadSum : ErrD := ⟨"BadSum", ["text"], "BadSum.__init__", defArgs s_BadSum_init, defBody s_BadSum_init, defScope s_BadSum_init⟩
def er : List ErrD := [e_BadSize, e_BadSum]
def tf : List Defn := [("_law_wrong_right", none)]
def exL (K : PySem.W.Frag) : List Bool := [
  eqO (PySem.W.findIn K (.ref (He.ga K "BookRules")) "__ne__") (some (some (.builtin "object.__ne__"))),
  PySem.W.notFirst K (He.ga K "BookRules") (.type "str"),
  eqO (PySem.W.findIn K (.ref (He.ga K "BookRules")) "__class__") (some (some (.builtin "object.__class__"))),
  eqO (PySem.W.specialIn K (.builtin "object.__class__") "__get__") (some (some (.builtin "getset_descriptor.__get__"))),
  HeE.okO (PySem.W.takesIn K (.builtin "object.__class__")) (some true),
  HeE.okO (PySem.W.mroIn K (He.ga K "BookRules") (.type "object")) (some true),
  HeE.okO (PySem.W.kitOne K (.type "str") (.ref (He.ga K "BookRules"))) (some false),
  HeE.okO (PySem.W.exmOne K (.ref (He.ga K "BadSum")) (.ref (He.ga K "BadSum"))) (some true),
  HeE.okO (PySem.W.exmOne K (.ref (He.ga K "BadSize")) (.ref (He.ga K "BadSum"))) (some false),
  HeE.okO (PySem.W.exmOne K (.ref (He.ga K "BadSize")) (.ref (He.ga K "BadSize"))) (some true),
  HeE.okO (PySem.W.kitOne K (.ref (He.ga K "BadSum")) (.ref (He.ga K "HeldError"))) (some true),
  HeE.okO (PySem.W.kitOne K (.ref (He.ga K "BadSize")) (.ref (He.ga K "HeldError"))) (some true)]
def ex (K : PySem.W.Frag) : Bool := (exL K).all id
theorem s_e_BadSize : ErrS P0 e_BadSize := ⟨rfl, by decide +kernel, by decide +kernel, by decide +kernel, by decide +kernel, by decide, rfl, ⟨_, rfl, rfl⟩, ⟨_, _, _, _, _, _, _, _, [⟨"size", _, _, _, _⟩], rfl, rfl, fun env => ⟨_, rfl⟩⟩, fun kV doc pm an cda ct cc self us hl => match us, hl with | [_], _ => rfl⟩
theorem s_e_BadSum : ErrS P0 e_BadSum := ⟨rfl, by decide +kernel, by decide +kernel, by decide +kernel, by decide +kernel, by decide, rfl, ⟨_, rfl, rfl⟩, ⟨_, _, _, _, _, _, _, _, [⟨"text", _, _, _, _⟩], rfl, rfl, fun env => ⟨_, rfl⟩⟩, fun kV doc pm an cda ct cc self us hl => match us, hl with | [_], _ => rfl⟩
abbrev R : PySem.W.OpenRow := PySem.W.OpenLaw.row PySem.Challenge.rw_heldplaces_k68_book_rules
def file : Str := P0.main.file
abbrev hk : PySem.W.Hook := hookE file 5 fa fn er tf ex
def ob (s : PySem.W.SharedT) : AlE := obsE file fa fn er tf ex (HandSHeadRun.getT s) (frE (HandSHeadRun.getT s) 5)
theorem ob_eq (s : PySem.W.SharedT) : ob s = hk.obs s.abs := obsE_eq (HandSHeadRun.getT_eq s)
def names0 : List PySem.Str := ["HeldError", "BadSize", "BadSum", "MOST_FIGURES", "MOST_TERMS", "told_number", "told_atom", "told_sum", "need_book_size", "BookRules", "_law_begun_pen", "_law_draw", "_law_pick", "_law_wide", "_law_sum_text", "_law_new_keep", "_law_refused", "_law_asked", "_law_wrong_right"]
abbrev names : List PySem.Str := names0

theorem tx {h : Heap} {K : PySem.W.Frag} {mg : Str → Option Value} (X : K.In h) (G : h.Ns mainGlobals mg) (c : SaysE file fa fn er tf ex h K) : Tx P0 K mg where
  d_told_number := by
    obtain ⟨fd, F⟩ := c.fn d_told_number (by simp [fn, fn0])
    exact ⟨_, fd, glo_ok X G (c.fa (.glo "told_number") (by simp [fa, fa0, fa1])), F⟩
  d_told_atom := by
    obtain ⟨fd, F⟩ := c.fn d_told_atom (by simp [fn, fn0])
    exact ⟨_, fd, glo_ok X G (c.fa (.glo "told_atom") (by simp [fa, fa0, fa1])), F⟩
  d_told_sum := by
    obtain ⟨fd, F⟩ := c.fn d_told_sum (by simp [fn, fn0])
    exact ⟨_, fd, glo_ok X G (c.fa (.glo "told_sum") (by simp [fa, fa0, fa1])), F⟩
  d_need_book_size := by
    obtain ⟨fd, F⟩ := c.fn d_need_book_size (by simp [fn, fn0])
    exact ⟨_, fd, glo_ok X G (c.fa (.glo "need_book_size") (by simp [fa, fa0, fa1])), F⟩
  m_BookRules_kept_rows := by
    obtain ⟨fd, F⟩ := c.fn d_BookRules_kept_rows (by simp [fn, fn0])
    exact ⟨_, fd, cls_ok (c.fa (.cls "BookRules") (by simp [fa, fa0, fa1])), meth_ok (c.fa (.meth "BookRules" "kept_rows") (by simp [fa, fa0, fa1])), F⟩
  m_BookRules_in_use := by
    obtain ⟨fd, F⟩ := c.fn d_BookRules_in_use (by simp [fn, fn0])
    exact ⟨_, fd, cls_ok (c.fa (.cls "BookRules") (by simp [fa, fa0, fa1])), meth_ok (c.fa (.meth "BookRules" "in_use") (by simp [fa, fa0, fa1])), F⟩
  m_BookRules_next_in_use := by
    obtain ⟨fd, F⟩ := c.fn d_BookRules_next_in_use (by simp [fn, fn0])
    exact ⟨_, fd, cls_ok (c.fa (.cls "BookRules") (by simp [fa, fa0, fa1])), meth_ok (c.fa (.meth "BookRules" "next_in_use") (by simp [fa, fa0, fa1])), F⟩
  m_BookRules_eq := by
    obtain ⟨fd, F⟩ := c.fn d_BookRules_eq (by simp [fn, fn0])
    exact ⟨_, fd, cls_ok (c.fa (.cls "BookRules") (by simp [fa, fa0, fa1])), meth_ok (c.fa (.meth "BookRules" "__eq__") (by simp [fa, fa0, fa1])), F⟩
  d_l_begun_pen := by
    obtain ⟨fd, F⟩ := c.fn d_l_begun_pen (by simp [fn, fn0])
    exact ⟨_, fd, glo_ok X G (c.fa (.glo "_law_begun_pen") (by simp [fa, fa0, fa1])), F⟩
  d_l_draw := by
    obtain ⟨fd, F⟩ := c.fn d_l_draw (by simp [fn, fn0])
    exact ⟨_, fd, glo_ok X G (c.fa (.glo "_law_draw") (by simp [fa, fa0, fa1])), F⟩
  d_l_pick := by
    obtain ⟨fd, F⟩ := c.fn d_l_pick (by simp [fn, fn0])
    exact ⟨_, fd, glo_ok X G (c.fa (.glo "_law_pick") (by simp [fa, fa0, fa1])), F⟩
  d_l_wide := by
    obtain ⟨fd, F⟩ := c.fn d_l_wide (by simp [fn, fn0])
    exact ⟨_, fd, glo_ok X G (c.fa (.glo "_law_wide") (by simp [fa, fa0, fa1])), F⟩
  d_l_sum_text := by
    obtain ⟨fd, F⟩ := c.fn d_l_sum_text (by simp [fn, fn0])
    exact ⟨_, fd, glo_ok X G (c.fa (.glo "_law_sum_text") (by simp [fa, fa0, fa1])), F⟩
  d_l_new_keep := by
    obtain ⟨fd, F⟩ := c.fn d_l_new_keep (by simp [fn, fn0])
    exact ⟨_, fd, glo_ok X G (c.fa (.glo "_law_new_keep") (by simp [fa, fa0, fa1])), F⟩
  d_l_refused := by
    obtain ⟨fd, F⟩ := c.fn d_l_refused (by simp [fn, fn0])
    exact ⟨_, fd, glo_ok X G (c.fa (.glo "_law_refused") (by simp [fa, fa0, fa1])), F⟩
  d_l_asked := by
    obtain ⟨fd, F⟩ := c.fn d_l_asked (by simp [fn, fn0])
    exact ⟨_, fd, glo_ok X G (c.fa (.glo "_law_asked") (by simp [fa, fa0, fa1])), F⟩
  d_l_wrong_right := by
    obtain ⟨fd, F⟩ := c.fn d_l_wrong_right (by simp [fn, fn0])
    exact ⟨_, fd, glo_ok X G (c.fa (.glo "_law_wrong_right") (by simp [fa, fa0, fa1])), F⟩
  d_law := by
    obtain ⟨fd, F⟩ := c.fn d_law (by simp [fn, fn0])
    exact ⟨_, fd, glo_ok X G (c.fa (.glo "law") (by simp [fa, fa0, fa1])), F⟩
  mk_BookRules := by
    obtain ⟨fd, F⟩ := c.fn d_BookRules_init (by simp [fn, fn0])
    exact ⟨_, fd, glo_ok X G (c.fa (.glo "BookRules") (by simp [fa, fa0, fa1])), mkr_ok (c.fa (.mkr "BookRules") (by simp [fa, fa0, fa1])), F⟩
  cl_BookRules := cls_ok (c.fa (.cls "BookRules") (by simp [fa, fa0, fa1]))
  g_BookRules := glo_ok X G (c.fa (.glo "BookRules") (by simp [fa, fa0, fa1]))
  g_HeldError := glo_ok X G (c.fa (.glo "HeldError") (by simp [fa, fa0, fa1]))
  na_keep := noat_ok (c.fa (.noat "BookRules" "keep") (by simp [fa, fa0, fa1]))
  na_slope := noat_ok (c.fa (.noat "BookRules" "slope") (by simp [fa, fa0, fa1]))
  na_lone := noat_ok (c.fa (.noat "BookRules" "lone") (by simp [fa, fa0, fa1]))
  b_len := free_ok X G (c.fa (.free "len") (by simp [fa, fa0, fa1]))
  b_int := free_ok X G (c.fa (.free "int") (by simp [fa, fa0, fa1]))
  b_str := free_ok X G (c.fa (.free "str") (by simp [fa, fa0, fa1]))
  b_isinstance := free_ok X G (c.fa (.free "isinstance") (by simp [fa, fa0, fa1]))
  b_range := free_ok X G (c.fa (.free "range") (by simp [fa, fa0, fa1]))
  b_enumerate := free_ok X G (c.fa (.free "enumerate") (by simp [fa, fa0, fa1]))
  b_tuple := free_ok X G (c.fa (.free "tuple") (by simp [fa, fa0, fa1]))
  b_list := free_ok X G (c.fa (.free "list") (by simp [fa, fa0, fa1]))
  b_abs := free_ok X G (c.fa (.free "abs") (by simp [fa, fa0, fa1]))
  b_sum := free_ok X G (c.fa (.free "sum") (by simp [fa, fa0, fa1]))
  b_max := free_ok X G (c.fa (.free "max") (by simp [fa, fa0, fa1]))
  b_repr := free_ok X G (c.fa (.free "repr") (by simp [fa, fa0, fa1]))
  b_bool := free_ok X G (c.fa (.free "bool") (by simp [fa, fa0, fa1]))
  c_MOST_FIGURES := int_ok X G (c.fa (.int "MOST_FIGURES" 30) (by simp [fa, fa0, fa1]))
  c_MOST_TERMS := int_ok X G (c.fa (.int "MOST_TERMS" 4) (by simp [fa, fa0, fa1]))
  ne_BookRules := eqO_ok (HeE.all_at c.more 0)
  ns_BookRules :=  (HeE.all_at c.more 1)
  ca_BookRules := eqO_ok (HeE.all_at c.more 2)
  cn_obj := eqO_ok (HeE.all_at c.more 3)
  ct_obj := of_decide_eq_true (HeE.all_at c.more 4)
  cm_BookRules := of_decide_eq_true (HeE.all_at c.more 5)
  ks_BookRules := of_decide_eq_true (HeE.all_at c.more 6)
  x_ss := of_decide_eq_true (HeE.all_at c.more 7)
  x_zs := of_decide_eq_true (HeE.all_at c.more 8)
  x_zz := of_decide_eq_true (HeE.all_at c.more 9)
  i_s := of_decide_eq_true (HeE.all_at c.more 10)
  i_z := of_decide_eq_true (HeE.all_at c.more 11)
  e_BadSize := errTxt (c.er e_BadSize (by simp [er])).1 (c.er e_BadSize (by simp [er])).2 s_e_BadSize
  g_BadSize := errG X G (c.er e_BadSize (by simp [er])).1
  k_BadSize := errK (prog := P0) (c.er e_BadSize (by simp [er])).1
  e_BadSum := errTxt (c.er e_BadSum (by simp [er])).1 (c.er e_BadSum (by simp [er])).2 s_e_BadSum
  g_BadSum := errG X G (c.er e_BadSum (by simp [er])).1
  k_BadSum := errK (prog := P0) (c.er e_BadSum (by simp [er])).1
theorem defC {h : Heap} {K : PySem.W.Frag} {mg : Str → Option Value} (X : K.In h) (G : h.Ns mainGlobals mg) (c : SaysE file fa fn er tf ex h K) : DefC K mg "_law_wrong_right" s_l_wrong_right (cT K ("_law_wrong_right", none)).1 := by
  obtain ⟨fd, F⟩ := c.fn d_l_wrong_right (by simp [fn, fn0])
  obtain ⟨oc, od, dV, kV, doc, pm, an, cdv, ct, osl, rfl, lk, hc, z1, z2⟩ := id F.ex
  obtain ⟨cc, e⟩ := codeIn_ref hc
  have e2 : codeOf K ("_law_wrong_right", none) = cc := codeOf_eq lk e
  subst e
  subst e2
  exact ⟨_, oc, od, dV, kV, doc, pm, an, ct, osl, glo_ok X G (c.fa (.glo "_law_wrong_right") (by simp [fa, fa0, fa1])), lk, hc, F⟩
theorem run (w : World) : HandSHeadRun.RunEq R (PySem.W.view R.prog [23]) hk ob 6000 names w := by
  intro os
  kernel_rfl
theorem facts {w : World} {h : Heap} {mg : Str → Option Value} {f : Addr} (hfa : mg ("law" : Str) = some (.ref f)) (G : h.Ns mainGlobals mg) (Y : hk.says w h) :
    ∃ K : PySem.W.Frag, K.In h ∧ LamX.LawAtS PySem.Challenge.rw_heldplaces_k68_book_rules w K CX0 11 63 "_law_script" mg f h := by
  obtain ⟨K, X, c⟩ := Y
  obtain ⟨fd, F⟩ := c.fn d_law (by simp [fn, fn0])
  have e := hfa.symm.trans (glo_ok X G (c.fa (.glo "law") (by simp [fa, fa0, fa1])))
  cases e
  have b := FunD.bindsA (ps := ["_law_script"]) F fun _ _ _ _ _ _ us hl => match us, hl with | [_], _ => rfl
  have T := tx X G c
  have D := defC X G c
  refine ⟨K, X, fd, [cT K ("_law_wrong_right", none)], spLaw K (cT K ("_law_wrong_right", none)).2, fun p hp => ?_, fun p hp => ?_, fun p hp => ?_, fun s u => b s [u] rfl, fun H a ns hl _ ht hs => ⟨a, ns, rfl, hs, ht _ List.mem_cons_self, fun _ => rfl⟩, fun base hK hN hT => ok_law T D (hT _ List.mem_cons_self) F⟩
  · cases List.mem_singleton.mp hp
    exact c.empty _ List.mem_cons_self
  · cases List.mem_singleton.mp hp
    exact c.out _ List.mem_cons_self
  · cases List.mem_singleton.mp hp
    exact PySem.W.codeHd_of_K X (c.hd _ List.mem_cons_self)
end K68
open PySem PySem.W PySem.Calls PyProof.Rows
theorem PySem.Challenge.cw_heldplaces_k68_book_rules_holds : PySem.Challenge.rw_heldplaces_k68_book_rules.Holds := by
  w_on; o_law
  refine HandSHeadRun.head_any (r := OpenLaw.row PySem.Challenge.rw_heldplaces_k68_book_rules) (q := view (OpenLaw.row PySem.Challenge.rw_heldplaces_k68_book_rules).prog [23]) (H := K68.hk) (ob := K68.ob) (M := 6000) (loose := K68.names) (d := HandSHeadRun.topDef (OpenLaw.row PySem.Challenge.rw_heldplaces_k68_book_rules).prog 23) (kwd := []) K68.ob_eq
    (by kernel_rfl) (fun s => by kernel_rfl) K68.run (by kernel_rfl) (by kernel_rfl) (by kernel_rfl) (by rfl) (by first | assumption | decide +kernel) (by decide +kernel) ⟨rfl, rfl, rfl, rfl, rfl, by decide +kernel⟩ ?hw ?hc
  case hw => w_witness2
  case hc =>
    refine LamX.walk_ofTsE (l := PySem.Challenge.rw_heldplaces_k68_book_rules) (n := 63) (k := 11) (x := "_law_script") (CX := fun _ => L2.CX0) rfl (by decide) (by kernel_rfl) ⟨rfl, by decide, by decide⟩ ?F (fun _ _ _ _ _ z => z)
    intro w mg fa h Y G hmg0
    have hmg : mg ("law" : PySem.Str) = some (.ref fa) := by
      have e : (HandSHeadRun.topDef (OpenLaw.row PySem.Challenge.rw_heldplaces_k68_book_rules).prog 23).name = ("law" : PySem.Str) := by kernel_rfl
      rw [← e]
      exact hmg0
    exact K68.facts hmg G Y

