import PyProof.Rows.All
import Wide.All
import OpenK.AllK
import Wide.FinOn
import PyProof.EqAt
import PyProof.EqKinds
import PyProof.TupleCall
import KE.KExcSuper
import KE.KExcInit
import HandS.ForExc
import HandS.ExcInit
import HandS.TryMany
import HandS.ExcField
import HandS.ExcIs
import HandS.IsInst
import HandS.Defaults
import HandS.RaiseMore
import HandS.Iter
import HandS.Walk
import HandS.Zip
import PyProof.Draws
import HandS.TupMul
import HandS.Ends
import PyProof.StrOps2
import PyProof.ListOps
import OpenK.KMore
import PyProof.ReprBulk
import HandS.StrMore
import PySem.Challenge.RW_brinejar_k59_hexes
set_option Elab.async false
set_option linter.all false
set_option maxRecDepth 100000
set_option maxHeartbeats 4000000
/-! own exceptions whose __init__ says super().__init__('text') and stores its arguments: made by a call -/
namespace PySem
namespace BJX
open PySem.W PySem.Calls PyProof.Rows PySem.HandSPX Builtin Builtin.ObjectAttr

/-- own classes, then a built-in's mro -/
def refsT (tl : List Value) : List Value → Bool
  | .ref _ :: r => refsT tl r
  | l => l == tl
theorem refsT_cases {tl : List Value} : ∀ l : List Value, refsT tl l = true → (∃ c r, l = .ref c :: r ∧ refsT tl r = true) ∨ l = tl := by
  intro l e
  cases l with
  | nil => exact .inr (beq_iff_eq.mp e)
  | cons a r =>
    cases a <;> first
      | exact .inl ⟨_, _, rfl, e⟩
      | exact .inr (beq_iff_eq.mp e)
/-- what is asked of the built-in family -/
structure Fam (B newId initId : String) (tl : List Value) : Prop where
  F : ExcBaseFacts B newId initId tl
  KF : KxsFacts B initId
  pass : ∀ self, refuseLoop self "__setattr__" tl = pure ()
  obj : tl.contains (.type "object") = true
  ne : tl.isEmpty = false
theorem famV : Fam "ValueError" "ValueError.__new__" "ValueError.__init__" [.type "ValueError", .type "Exception", .type "BaseException", .type "object"] :=
  ⟨F.excBase_ValueError, kxs_ValueError, F.store_ValueError.passes, by decide +kernel, rfl⟩
theorem famR : Fam "RuntimeError" "RuntimeError.__new__" "RuntimeError.__init__" [.type "RuntimeError", .type "Exception", .type "BaseException", .type "object"] :=
  ⟨F.excBase_RuntimeError, kxs_RuntimeError, F.store_RuntimeError.passes, by decide +kernel, rfl⟩
theorem famL : Fam "LookupError" "LookupError.__new__" "LookupError.__init__" [.type "LookupError", .type "Exception", .type "BaseException", .type "object"] :=
  ⟨F.excBase_LookupError, kxs_LookupError, F.store_LookupError.passes, by decide +kernel, rfl⟩
section
variable {B newId initId : String} {tl : List Value}
theorem refsT_pass (Z : Fam B newId initId tl) (self : Value) : ∀ l : List Value, refsT tl l = true → refuseLoop self "__setattr__" l = pure () := by
  intro l
  induction l with
  | nil =>
    intro e
    rcases refsT_cases _ e with ⟨c, r, q, _⟩ | q
    · cases q
    · rw [q]; exact Z.pass self
  | cons a r ih =>
    intro e
    rcases refsT_cases (a :: r) e with ⟨c, r', q, h⟩ | q
    · obtain ⟨rfl, rfl⟩ := List.cons.inj q
      rw [refuseLoop_ref]; exact ih h
    · rw [q]; exact Z.pass self
theorem refsT_contains (X : String) : ∀ l : List Value, refsT tl l = true → l.contains (.type X) = tl.contains (.type X) := by
  intro l
  induction l with
  | nil =>
    intro e
    rcases refsT_cases _ e with ⟨c, r, q, _⟩ | q
    · cases q
    · rw [q]
  | cons a r ih =>
    intro e
    rcases refsT_cases (a :: r) e with ⟨c, r', q, h⟩ | q
    · obtain ⟨rfl, rfl⟩ := List.cons.inj q
      rw [List.contains_cons, ih h]; rfl
    · rw [q]
end
/-! ### stores -/
section
variable {prog : Program} {w : World} {A : Around} {E : Value → Shared → Prop} {R : Result → Shared → Prop} {hp : Heap} {g : Array GenState} {d : Drawn} {t : Nat} {os : OsState}
theorem osa_pre {K : W.Frag} {name : Str} {tk : Tok} {v : Value} {x C : Addr} {ox : Obj} {od : Option Obj} {cd : ClassData}
    (X : K.In hp) (I : W.InstAt hp x ox C od) (hcd : W.clsIn K C = some cd) (hp1 : refuseLoop (.ref x) "__setattr__" cd.mro = pure ()) (hne : cd.mro.isEmpty = false) (hob : cd.mro.contains (.type "object") = true) (ha : W.findIn K (.ref C) name = some none)
    (hq : wpAny (model prog w) A.in1 (storeInOwnDict (.ref x) (.ref C) (.str name tk) name v false)
      (fun fin s' => match fin with | .done f => R (.ok f) s' | .again c' => c'.quiet = true ∧ codeAny (model prog w) A c' R s') (fun e s' => R (.error e) s') ⟨hp, g, d, t, os⟩) :
    codeAny (model prog w) A (.call (.builtin "object.__setattr__") ⟨[.ref x, .str name tk, v], []⟩) R ⟨hp, g, d, t, os⟩ := by
  have SF := F.store_object
  have sub : W.Looks (model prog w) hp (isInstance (.ref x) (.type "object")) true := I.type.andThen (W.looks_mroIn X (by unfold W.mroIn; rw [hcd, Option.bind_some, if_neg (by rw [hne]; decide), hob]))
  refine codeAny_call_builtin SF.slot.plain SF.entry (@W.check_slot (model prog w) _ _ ⟨hp, g, d, t, os⟩ "object.__setattr__" "object" "__setattr__" (.ref x) [.str name tk, v] [] _ SF.kind SF.split sub (SF.args (.ref x) (.str name tk) v) ?_)
  have hmr : W.Looks (model prog w) hp (mroOf (.ref C)) cd.mro := (W.looks_clsIn X hcd).andThen .now
  have L3 : W.Looks (model prog w) hp (storeTaker? none) none := .now
  rw [W.osa_eq, refuse_eq]
  refine wpAny_bind (wpAny_bind (I.type.at (wpAny_bind (hmr.at ?_))))
  rw [hp1]
  refine wpAny_pure (wpAny_bind (I.type.at (wpAny_bind ((W.looks_findIn X ha).at (wpAny_bind (L3.at ?_))))))
  exact hq
theorem osa_new {K : W.Frag} {name : Str} {tk : Tok} {v : Value} {x C : Addr} {fv : Array Value} {cd : ClassData}
    (X : K.In hp) (hx : hp.get? x = some { cls := .ref C, data := .fields fv }) (hcd : W.clsIn K C = some cd) (hp1 : refuseLoop (.ref x) "__setattr__" cd.mro = pure ()) (hne : cd.mro.isEmpty = false) (hob : cd.mro.contains (.type "object") = true) (hh : cd.hasDict = true) (ha : W.findIn K (.ref C) name = some none)
    (hq : ∀ h' tk' dx, (∀ b o, b ≠ x → hp.get? b = some o → h'.get? b = some o) → hp.objs.size ≤ dx → dx ≠ x → h'.get? x = some { cls := .ref C, dict := some dx, data := .fields fv } →
      h'.Ns1 dx (fun y => if y = name then some v else none) → R (.ok (.ret .none)) ⟨h', g, d, tk', os⟩) :
    codeAny (model prog w) A (.call (.builtin "object.__setattr__") ⟨[.ref x, .str name tk, v], []⟩) R ⟨hp, g, d, t, os⟩ := by
  have I : W.InstAt hp x { cls := .ref C, data := .fields fv } C none := ⟨hx, rfl, rfl, trivial⟩
  have hxs : x ≠ hp.objs.size := Nat.ne_of_lt (Heap.lt_size hx)
  refine osa_pre X I hcd hp1 hne hob ha ?_
  have hcls : W.Looks (model prog w) hp (classData C) cd := W.looks_clsIn X hcd
  obtain ⟨nm, bs, mro, ns, qn, hd, sn, sb, ab, col, del⟩ := cd
  dsimp only at hh
  subst hh
  unfold storeInOwnDict ownDictForStores
  repeat (first | with_reducible refine HandSPX.store_in_new ?_ ?_ | with_reducible refine wpAny_loadPart_at hx ?_ | with_reducible refine hcls.at ?_ | wp_step)
  · exact ⟨_, #[], _, (Heap.get?_update_ne _ _ _ _ hxs.symm).trans (Heap.get?_push_at rfl rfl), rfl, fun e he => absurd he (by simp), fun _ => rfl⟩
  · intro h' tk' hn' hs
    have hx₁ : (hp.push { cls := .type "dict", data := .dict #[] }).get? x = some { cls := .ref C, data := .fields fv } := Heap.get?_push_of_some _ hx
    refine hq h' tk' hp.objs.size (fun b o hb ho => ?_) (Nat.le_refl _) hxs.symm ?_ hn'
    · exact (hs.2 b (Nat.ne_of_lt (Heap.lt_size ho))).trans ((Heap.get?_update_ne _ _ _ _ hb).trans (Heap.get?_push_of_some _ ho))
    · exact (hs.2 x hxs).trans (Heap.get?_update_self _ hx₁ rfl)
theorem osa_old {K : W.Frag} {name : Str} {tk : Tok} {v : Value} {x C dx : Addr} {fv : Array Value} {cd : ClassData} {m0 : Str → Option Value} {nl : List Str}
    (X : K.In hp) (hx : hp.get? x = some { cls := .ref C, dict := some dx, data := .fields fv }) (hns : hp.Ns1 dx m0) (hw : Within m0 nl) (hz : nl.length ≤ 1000) (hcd : W.clsIn K C = some cd) (hp1 : refuseLoop (.ref x) "__setattr__" cd.mro = pure ()) (hne : cd.mro.isEmpty = false) (hob : cd.mro.contains (.type "object") = true) (hh : cd.hasDict = true)
    (ha : W.findIn K (.ref C) name = some none)
    (hq : ∀ h' tk', (∀ b o, b ≠ dx → hp.get? b = some o → h'.get? b = some o) → h'.Ns1 dx (fun y => if y = name then some v else m0 y) → R (.ok (.ret .none)) ⟨h', g, d, tk', os⟩) :
    codeAny (model prog w) A (.call (.builtin "object.__setattr__") ⟨[.ref x, .str name tk, v], []⟩) R ⟨hp, g, d, t, os⟩ := by
  obtain ⟨oD, esD, epD, hoD, hdD, _⟩ := hns.count hw
  have I : W.InstAt hp x { cls := .ref C, dict := some dx, data := .fields fv } C (some oD) := ⟨hx, rfl, rfl, hoD⟩
  refine osa_pre X I hcd hp1 hne hob ha ?_
  have hcls : W.Looks (model prog w) hp (classData C) cd := W.looks_clsIn X hcd
  obtain ⟨nm, bs, mro, ns, qn, hd, sn, sb, ab, col, del⟩ := cd
  dsimp only at hh
  subst hh
  unfold storeInOwnDict ownDictForStores
  repeat (first | with_reducible refine OEX.store_in_old hns hw hz ?_ | with_reducible refine wpAny_loadPart_at hx ?_ | with_reducible refine hcls.at ?_ | wp_step)
  intro h' tk' hn' hs
  exact hq h' tk' (fun b o hb ho => (hs.2 b hb).trans ho) hn'
end
end BJX
end PySem

set_option Elab.async false
set_option linter.all false
set_option maxRecDepth 100000
set_option maxHeartbeats 4000000
namespace PySem
namespace BJX
open PySem.W PySem.Calls PyProof.Rows PySem.HandSPX

/-- the text of __init__: super().__init__(m); self.f = f -/
def iA1 (f : Str) (p1 p2 : Pos) : Arguments := { posonlyargs := [], args := [{ arg := "self", annotation := none, pos := p1 }, { arg := f, annotation := none, pos := p2 }], vararg := none, kwonlyargs := [], kw_defaults := [], kwarg := none, defaults := [] }
def iSup (m : Str) (q0 q1 q2 q3 q4 q5 : Pos) : Stmt := .Expr (.Call (.Attribute (.Call (.Name "super" q0) [] [] q1) "__init__" q2) [.Constant (.str m) 0 q3] [] q4) q5
def iSet (f : Str) (q0 q1 q2 q3 : Pos) : Stmt := .Assign [.Attribute (.Name "self" q0) f q1] (.Name f q2) q3
/-- the frame's scope of such an __init__: all by rfl where it is written out -/
structure SxS (scope : Scope) : Prop where
  kind : scope.kind = .function
  co : scope.isCoroutine = false
  gen : scope.isGenerator = false
  nocell : ∀ x ∈ scope.names, x.2 ≠ .cell
  sup : scope.names.lookup ("super" : Str) = some .globalImplicit
  cls : scope.names.lookup ("__class__" : Str) = some .free
  self : scope.names.lookup ("self" : Str) = some .local
  hi : ∀ (qual : Str) (L fI cda cc : Addr), interactive (ksEnv qual scope L fI (.ref cda) cc) = false
/-- the statement super().__init__(msg), at its places -/
structure SxH (scope : Scope) (msg : Str) (q0 q1 q2 q3 q4 : Pos) : Prop where
  he : ∀ (qual : Str) (L fI cda cc : Addr), ∃ pl : Sem Bool, eval (.Call (.Attribute (.Call (.Name "super" q0) [] [] q1) "__init__" q2) [.Constant (.str msg) 0 q3] [] q4) (ksEnv qual scope L fI (.ref cda) cc) = (do
      let ov ← attributeBase (.Call (.Name "super" q0) [] [] q1) "__init__" (ksEnv qual scope L fI (.ref cda) cc) (eval (.Call (.Name "super" q0) [] [] q1) (ksEnv qual scope L fI (.ref cda) cc))
      standAt q2.atName
      let (f, first) ← holding [ov] (getMethod ov "__init__" pl)
      callWith q4 f first (backTo q4 (starEach [.Constant (.str msg) 0 q3] (ksEnv qual scope L fI (.ref cda) cc))) [])
  hs : ∀ (qual : Str) (L fI cda cc : Addr) (n : Nat), swapsWith (.Call (.Attribute (.Call (.Name "super" q0) [] [] q1) "__init__" q2) [.Constant (.str msg) 0 q3] [] q4) none n (ksEnv qual scope L fI (.ref cda) cc) = pure false
/-- what the written part says of the class at C: its family, its __init__ at fI -/
structure SxC (P : Program) (K : Frag) (mg : Str → Option Value) (C fI : Addr) (fs : List Str) (params : Arguments) (body : List Stmt) (scope : Scope) : Prop where
  fam : ∃ B newId initId tl, Fam B newId initId tl ∧ (∃ nm q N bs bm sn sub ab col dd k0 k1 k2 k3 k5, K.lookup C = some (excClassObj nm q C N bs bm true sn sub ab col dd k0 k1 k2 k3 k5 newId) ∧ refsT tl bm = true) ∧
    ks_superIn K C C "__init__" = some (some (.builtin initId)) ∧ subIn K (.ref C) (.type B) = some true
  sa : findIn K (.ref C) "__setattr__" = some (some (.builtin "object.__setattr__"))
  noF : ∀ f ∈ fs, findIn K (.ref C) f = some none
  iC : findIn K (.ref C) "__init__" = some (some (.ref fI))
  tI : typeIn K (.ref fI) = some (.type "function")
  kC : keepIn K (.ref C) = true
  exC : subIn K (.ref C) (.type "BaseException") = some true
  tyC : typeIn K (.ref C) = some (.type "type")
  sC : mroIn K C (.ref C) = some true
  opq : nsIn K cStatics "thirdparty.any" = some none
  sup : mg "super" = none
  top : (P.main.scope.names.lookup ("super" : Str)).isSome = false
  fn : ∃ (qual : Str) (oc : Value) (od : Option Addr) (doc pm : Value) (an : Option Addr) (cda : Addr) (ct : Value) (cc : Addr) (osl : Array (Option Value)) (ccl : Value) (cdd : Option Addr) (vs : Array Value) (ccs : Array (Option Value)) (file : Str) (tf : Tok) (cl : Value) (cld : Option Addr) (csl : Array (Option Value)),
    K.lookup fI = some ⟨oc, od, .func (ksFn "__init__" qual params body scope .none .none doc pm an (.ref cda) ct cc), osl⟩ ∧ codeIn K (.ref cda) qual = true ∧
    K.lookup cda = some ⟨ccl, cdd, .fields vs, ccs⟩ ∧ vs[2]? = some (.str file tf) ∧ ((P.main.file : Str) == file) = true ∧ K.lookup cc = some ⟨cl, cld, .cell (some (.ref C)), csl⟩
  sc : SxS scope
  sh : ∀ msg q0 q1 q2 q3 q4 q5, body.head? = some (iSup msg q0 q1 q2 q3 q4 q5) → SxH scope msg q0 q1 q2 q3 q4
  scf : ∀ f ∈ fs, scope.names.lookup f = some .local
/-- what __init__ leaves of a fresh exception at x -/
structure InitEnd (h h' : Heap) (x C dx t1 : Addr) (m : Str → Option Value) : Prop where
  keep : ∀ b o, b ≠ x → h.get? b = some o → h'.get? b = some o
  obj : h'.get? x = some { cls := .ref C, dict := some dx, data := .fields #[.ref t1, .none, .none, .none, .bool false, .none] }
  dbig : h.objs.size ≤ dx
  dne : dx ≠ x
  ns : h'.Ns1 dx m
section
variable {prog : Program} {w : World} {A : Around} {E : Value → Shared → Prop} {R : Result → Shared → Prop} {s : Shared} {K : Frag} {mg mb : Str → Option Value} {C fI : Addr} {f : Str} {params : Arguments} {body : List Stmt} {scope : Scope}
theorem one_size (v : Value) : [v].length ≤ sizeLine := by
  rw [sizeLine_eq]
  exact (by decide : 1 ≤ 16777216)
theorem ldE {M : Model} {env : Env} {m : Str → Option Value} {x : Str} {pos : Pos} {v : Value} {Q : Value → Shared → Prop} (hn : s.heap.Ns env.locals m) (hv : m x = some v) (h : Q v s)
    (hk : env.scope.kind = .function) (hl : env.kindOf x = some .local) (hd : (x == ("__debug__" : Str)) = false) : wpAny M A (eval (.Name x pos) env) Q E s := wpAny_Name (wpAny_loadName_local hk hl hn hv h) hd
/-- super().__init__(m) in the frame -/
theorem sup_step {fs : List Str} {msg : Str} {q0 q1 q2 q3 q4 q5 : Pos} (T : SxC prog K mg C fI fs params body scope) (hb0 : body.head? = some (iSup msg q0 q1 q2 q3 q4 q5)) {qual : Str} {cda cc : Addr} {L : Addr} {x t0 : Addr} {m0 : Str → Option Value} {Q : Flow → Shared → Prop} {bd : List Stmt}
    {fd : FuncData} {oc : Value} {od : Option Addr} {osl : Array (Option Value)} {ar : Arg} {ccl : Value} {cdd : Option Addr} {vs : Array Value} {ccs : Array (Option Value)} {file : Str} {tf : Tok} {cl : Value} {cld : Option Addr} {csl : Array (Option Value)}
    (X : K.In s.heap) (hns : s.heap.Ns L m0) (hself : m0 "self" = some (.ref x)) (hx : s.heap.get? x = some (excO C t0)) (hgl : s.heap.Ns mainGlobals mg) (hbl : s.heap.Ns builtinsNs mb) (hbs : mb "super" = some (.type "super"))
    (lf : K.lookup fI = some ⟨oc, od, .func fd, osl⟩) (har : (fd.params.posonlyargs ++ fd.params.args).head? = some ar) (harn : ar.arg = "self") (lc : K.lookup cda = some ⟨ccl, cdd, .fields vs, ccs⟩) (hvs : vs[2]? = some (.str file tf)) (hfile : ((prog.main.file : Str) == file) = true)
    (lcc : K.lookup cc = some ⟨cl, cld, .cell (some (.ref C)), csl⟩)
    (hQ : ∀ h' t1 tk, (∀ b o, b ≠ x → s.heap.get? b = some o → h'.get? b = some o) → h'.get? x = some (excO C t1) → Q .next { s with heap := h', toks := tk }) :
    wpAt (model prog w) A (.func bd (ksEnv qual scope L fI (.ref cda) cc)) (exec (iSup msg q0 q1 q2 q3 q4 q5) (ksEnv qual scope L fI (.ref cda) cc)) Q E s := by
  obtain ⟨B, newId, initId, tl, Z, ⟨nm, q, N, bs, bm, sn, sub, ab, col, dd, k0, k1, k2, k3, k5, hC, hbm⟩, hsup, hsB⟩ := T.fam
  have hcl : clsIn K C = some { name := nm, bases := bs, mro := .ref C :: bm, ns := N, qualname := q, hasDict := true, slotNames := sn, subclasses := sub, abstract := ab, collection := col, hasDel := false } := by unfold clsIn; rw [hC] <;> rfl
  have hxC : x ≠ C := by
    rintro rfl
    have e := X _ _ hC
    rw [hx] at e
    cases e
  have hk := T.sc.kind
  have hks := T.sc.sup
  have hkc := T.sc.cls
  have hka := T.sc.self
  have SH := T.sh _ _ _ _ _ _ _ hb0
  obtain ⟨pl, he⟩ := SH.he qual L fI cda cc
  refine ks_wpAt_Expr_any (ks_wpAt_MethodCall (pl := pl) ?_ he) (T.sc.hi _ _ _ _ _) (SH.hs _ _ _ _ _ _)
  obtain ⟨hh, g, d, t, os⟩ := s
  refine ks_wpAt_super_base (env := ksEnv qual scope L fI (.ref cda) cc) hks hkc (by decide) rfl (X _ _ lf) rfl har rfl (X _ _ lc) rfl hvs hfile T.top ?_
  refine ks_loadName_global hk hks (loadGlobal_builtin (env := ksEnv qual scope L fI (.ref cda) cc) hgl T.sup hbl hbs ⟨rfl, ?_⟩)
  refine wpAny_loadName_free hk hkc rfl ⟨_, X _ _ lcc, rfl⟩ ?_
  rw [harn]
  refine wpAny_loadName_local hk hka hns hself ?_
  refine ks_wpAny_isType_cls (X _ _ hC) rfl ⟨rfl, ?_⟩
  refine ks_wpAny_call_super (X _ _ hC) rfl hx rfl (fun c e => by cases e) (looks_mroIn X T.sC) (fun h1 e1 kk1 => ?_)
  have X1 : K.In h1 := X.keeps kk1
  have hx1 := kk1 _ _ hx
  have I1 : W.InstAt h1 x (excO C t0) C none := ⟨hx1, rfl, rfl, trivial⟩
  have hm : alongIn K "__init__" (((Value.ref C :: bm).dropWhile (· != .ref C)).drop 1) = some (some (.builtin initId)) := by
    have := hsup
    unfold ks_superIn at this
    rw [hcl] at this
    exact this
  refine kxs_getMethod Z.KF e1 (looks_opaque X1 T.opq) (l₀ := Value.ref C :: bm) (fun A Q E s k q => wpAny_bind ((looks_clsIn X1 hcl) A _ E s k (wpAny_pure q))) rfl X1 hm (I1.type.andThen (looks_subIn X1 hsB)) hxC (by decide) ?_
  refine kxs_callWith (i := initId) (x := x) (by rfl) (evalArgs_plain (spliced_cons (Calls.Constant_str (k := 0) (pos := q3) (spliced_nil ⟨?_, ?_⟩))))
  · exact Heap.get?_push_at rfl rfl
  -- the method-wrapper is called
  have e2 : (h1.push (kxs_mw initId x)).get? h1.objs.size = some (kxs_mw initId x) := Heap.get?_push_at rfl rfl
  have kk2 : ∀ b o, hh.get? b = some o → (h1.push (kxs_mw initId x)).get? b = some o := fun b o e => Heap.get?_push_of_some _ (kk1 b o e)
  refine wpAny_call (codeAny_of_tree ?_)
  show wpAny _ A.in1 (callAny (.ref h1.objs.size) ⟨_, []⟩) _ _ _
  simp only [callAny]
  refine wpAny_bind (wpAny_load e2 ?_)
  simp only [kxs_mw, show (Value.type "method-wrapper" == Value.type "method" || Value.type "method-wrapper" == Value.type "builtin_function_or_method" || Value.type "method-wrapper" == Value.type "method-wrapper") = true by decide, if_true]
  refine KFB.if_so (by decide) ?_
  refine wpAny_bind (check_bound_init Z.F.toExcCallFacts ((X.keeps kk2) _ _ hC) (kk2 _ _ hx) rfl ?_)
  refine wpAny_bind (wpAny_pure (wpAny_pure ?_))
  refine ⟨plainId_quiet Z.F.init.plain _, codeAny_builtin Z.F.initEntry ?_⟩
  refine exc_init_tree (cls := .ref C) (t0 := t0) (dv := none) (c2 := .none) (c3 := .none) (b4 := .bool false) (kk2 _ _ hx) (one_size _) fun h' k' hx' ht' => ?_
  exact hQ h' _ _ (fun b o hb e => k' b o hb (kk2 b o e)) hx'
end
end BJX
end PySem

set_option Elab.async false
set_option linter.all false
set_option maxRecDepth 100000
set_option maxHeartbeats 4000000
namespace PySem
namespace BJX
open PySem.W PySem.Calls PyProof.Rows PySem.HandSPX
section
variable {prog : Program} {w : World} {A : Around} {E : Value → Shared → Prop} {R : Result → Shared → Prop} {s : Shared} {K : Frag} {mg mb : Str → Option Value} {C fI : Addr} {f f2 : Str} {scope : Scope}
theorem set_step {fs : List Str} {params : Arguments} {body : List Stmt} (T : SxC prog K mg C fI fs params body scope) (hf : f ∈ fs) {c : Code} {qual : Str} {cc L x : Addr} {m0 : Str → Option Value} {v : Value} {q0 q1 q2 q3 : Pos} {Q : Flow → Shared → Prop} {cd : Value}
    (hns : s.heap.Ns L m0) (hself : m0 "self" = some (.ref x)) (hv : m0 f = some v) (hfd : (f == ("__debug__" : Str)) = false)
    (h : wpAny (model prog w) A (setAttr (.ref x) f v) (fun _ => Q .next) E s) :
    wpAt (model prog w) A c (exec (iSet f q0 q1 q2 q3) (ksEnv qual scope L fI cd cc)) Q E s := by
  refine ks_wpAt_Assign_Attr (wpAt_of_wpAny ?_)
  exact ldE (env := ksEnv qual scope L fI cd cc) hns hv (ldE (env := ksEnv qual scope L fI cd cc) hns hself h T.sc.kind T.sc.self (by decide)) T.sc.kind (T.scf f hf) hfd
/-- the whole __init__ of one field -/
theorem sx_init1 {p1 p2 : Pos} {msg : Str} {q0 q1 q2 q3 q4 q5 r0 r1 r2 r3 : Pos} (T : SxC prog K mg C fI [f] (iA1 f p1 p2) [iSup msg q0 q1 q2 q3 q4 q5, iSet f r0 r1 r2 r3] scope) (hfd : (f == ("__debug__" : Str)) = false) (hfs : f ≠ "self")
    (hbind : ∀ qual doc pm an cd ct cc (us : List Value), us.length = 2 → bindArgs (ksFn "__init__" qual (iA1 f p1 p2) [iSup msg q0 q1 q2 q3 q4 q5, iSet f r0 r1 r2 r3] scope .none .none doc pm an cd ct cc) ⟨us, []⟩ = pure ((["self", f] : List Str).zip us))
    {x t0 : Addr} {v : Value} (X : K.In s.heap) (hlim : s.heap.NoLimit) (hx : s.heap.get? x = some (excO C t0)) (hnx : K.lookup x = none) (hgl : s.heap.Ns mainGlobals mg) (hbl : s.heap.Ns builtinsNs mb) (hbs : mb "super" = some (.type "super")) (hroom : A.depth < recursionLimit)
    (hq : ∀ h' tk dx t1, InitEnd s.heap h' x C dx t1 (fun y => if y = f then some v else none) → R (.ok (.ret .none)) { s with heap := h', toks := tk }) :
    codeAny (model prog w) A (.call (.ref fI) ⟨[.ref x, v], []⟩) R s := by
  obtain ⟨qual, oc, od, doc, pm, an, cda, ct, cc, osl, ccl, cdd, vs, ccs, file, tf, cl, cld, csl, lf, hcd, lc, hvs, hfile, lcc⟩ := T.fn
  obtain ⟨B, newId, initId, tl, Z, ⟨nm, q, N, bs, bm, sn, sub, ab, col, dd, k0, k1, k2, k3, k5, hC, hbm⟩, hsup, hsB⟩ := T.fam
  have hcl : clsIn K C = some { name := nm, bases := bs, mro := .ref C :: bm, ns := N, qualname := q, hasDict := true, slotNames := sn, subclasses := sub, abstract := ab, collection := col, hasDel := false } := by unfold clsIn; rw [hC] <;> rfl
  have hrf : refsT tl (.ref C :: bm) = true := hbm
  refine ks_codeAny_call_defAt (binds := [("self", .ref x), (f, v)]) hroom (X _ _ lf) rfl hlim (codeRec_of X hcd) rfl (BindsTo.of_eq (hbind _ _ _ _ _ _ _ _ rfl)) T.sc.nocell (fun y hy => ?_) (fun h₁ hns k => ?_) T.sc.co T.sc.gen T.sc.kind
  · rcases List.mem_cons.mp hy with rfl | hy
    · exact T.sc.self
    · rcases List.mem_cons.mp hy with rfl | hy
      · exact T.scf f (List.mem_singleton.mpr rfl)
      · cases hy
  have hself : (fun y => ([("self", .ref x), (f, v)] : List (Str × Value)).reverse.lookup y) "self" = some (.ref x) := by
    show List.lookup ("self" : Str) [(f, v), ("self", .ref x)] = _
    have : (("self" : Str) == f) = false := by simpa using fun e => hfs e.symm
    simp [List.lookup, this]
  have hv : (fun y => ([("self", .ref x), (f, v)] : List (Str × Value)).reverse.lookup y) f = some v := by
    show List.lookup f [(f, v), ("self", .ref x)] = _
    simp [List.lookup]
  have hxL : s.heap.objs.size ≠ x := Nat.ne_of_gt (Heap.lt_size hx)
  have hz : s.heap.objs.size < h₁.objs.size := hns.lt
  refine ks_wpAt_execs_cons (sup_step (s := { s with heap := h₁, toks := _ }) T rfl (m0 := fun y => ([("self", .ref x), (f, v)] : List (Str × Value)).reverse.lookup y) (mb := mb) (X.keeps k) hns hself (k _ _ hx) (hgl.keeps k) (hbl.keeps k) hbs lf rfl rfl lc hvs hfile lcc (fun h2 t1 tk k2 hx2 => ?_))
  have hns2 : h2.Ns s.heap.objs.size (fun y => ([("self", .ref x), (f, v)] : List (Str × Value)).reverse.lookup y) := by
    obtain ⟨o, es, ep, ho, r⟩ := hns
    exact ⟨o, es, ep, k2 _ _ hxL ho, r⟩
  have kb : ∀ b o, b ≠ x → s.heap.get? b = some o → h2.get? b = some o := fun b o hb e => k2 b o hb (k b o e)
  have X2 : K.In h2 := fun b o e => kb b o (fun z => by rw [z, hnx] at e; cases e) (X b o e)
  show wpAt _ _ _ (execs _ _) _ _ _
  refine ks_wpAt_execs_cons (set_step T (List.mem_singleton.mpr rfl) (m0 := fun y => ([("self", .ref x), (f, v)] : List (Str × Value)).reverse.lookup y) hns2 hself hv hfd ?_)
  refine set_plain X2 (ox := excO C t1) (od := none) ⟨hx2, rfl, rfl, trivial⟩ T.sa ?_
  refine osa_new X2 hx2 hcl (refsT_pass Z _ _ hrf) (by rfl) ((refsT_contains "object" _ hrf).trans Z.obj) rfl (T.noF f (List.mem_singleton.mpr rfl)) fun h3 tk3 dx k3 dn dne hx3 hn3 => ?_
  show wpAt _ _ _ (execs _ _) _ _ _
  refine wpAt_of_wpAny (wpAny_execs_nil ?_)
  have z2 : h₁.objs.size ≤ dx ∨ s.heap.objs.size ≤ dx := .inr (Nat.le_trans (Nat.le_of_lt (by
    obtain ⟨o, es, ep, ho, r⟩ := hns2
    exact Heap.lt_size ho)) dn)
  exact hq h3 tk3 dx t1 ⟨fun b o hb e => k3 b o hb (kb b o hb e), hx3, z2.elim (fun z => Nat.le_trans (Nat.le_of_lt hz) z) id, dne, hn3⟩
end
end BJX
end PySem

set_option Elab.async false
set_option linter.all false
set_option maxRecDepth 100000
set_option maxHeartbeats 4000000
namespace PySem
namespace BJX
open PySem.W PySem.Calls PyProof.Rows PySem.HandSPX
theorem lookup_put (f g : Str) (y : Value) (fs : List (Str × Value)) : ((f, y) :: fs).lookup g = if g = f then some y else fs.lookup g := by
  by_cases h : g = f
  · subst h
    simp [List.lookup]
  · have e : (g == f) = false := by simpa using h
    rw [if_neg h]
    simp [List.lookup, e]
/-- __init__ at fI stores its arguments under fs -/
def SxInit (prog : Program) (w : World) (K : Frag) (mg : Str → Option Value) (C fI : Addr) (fs : List Str) : Prop :=
  ∀ {A : Around} {R : Result → Shared → Prop} {s : Shared} {mb : Str → Option Value} {x t0 : Addr} {vs : List Value}, vs.length = fs.length → K.In s.heap → s.heap.NoLimit → s.heap.get? x = some (excO C t0) → K.lookup x = none →
    s.heap.Ns mainGlobals mg → s.heap.Ns builtinsNs mb → mb "super" = some (.type "super") → A.depth < recursionLimit →
    (∀ h' tk dx t1, InitEnd s.heap h' x C dx t1 (fun y => (fs.zip vs).lookup y) → R (.ok (.ret .none)) { s with heap := h', toks := tk }) →
    codeAny (model prog w) A (.call (.ref fI) ⟨.ref x :: vs, []⟩) R s
theorem sxinit1 {prog : Program} {w : World} {K : Frag} {mg : Str → Option Value} {C fI : Addr} {f : Str} {scope : Scope} {p1 p2 : Pos} {msg : Str} {q0 q1 q2 q3 q4 q5 r0 r1 r2 r3 : Pos}
    (T : SxC prog K mg C fI [f] (iA1 f p1 p2) [iSup msg q0 q1 q2 q3 q4 q5, iSet f r0 r1 r2 r3] scope) (hfd : (f == ("__debug__" : Str)) = false) (hfs : f ≠ "self")
    (hbind : ∀ qual doc pm an cd ct cc (us : List Value), us.length = 2 → bindArgs (ksFn "__init__" qual (iA1 f p1 p2) [iSup msg q0 q1 q2 q3 q4 q5, iSet f r0 r1 r2 r3] scope .none .none doc pm an cd ct cc) ⟨us, []⟩ = pure ((["self", f] : List Str).zip us)) :
    SxInit prog w K mg C fI [f] := by
  intro A R s mb x t0 vs hl X hlim hx hnx hgl hbl hbs hroom hq
  match vs, hl with
  | [v], _ =>
    refine sx_init1 T hfd hfs hbind X hlim hx hnx hgl hbl hbs hroom fun h' tk dx t1 I => hq h' tk dx t1 ?_
    have e : (fun y => (([f] : List Str).zip [v]).lookup y) = (fun y => if y = f then some v else none) := by
      funext y
      show ((f, v) :: []).lookup y = _
      rw [lookup_put]
      rfl
    rw [e]
    exact I
/-- a made one -/
structure Made (h h' : Heap) (e C d : Addr) (m : Str → Option Value) : Prop where
  keep : ∀ b o, h.get? b = some o → h'.get? b = some o
  new : h.objs.size ≤ e
  obj : ∃ oe vs, h'.get? e = some oe ∧ oe.cls = .ref C ∧ oe.dict = some d ∧ oe.data = .fields vs ∧ vs[1]? = some .none
  dbig : h.objs.size ≤ d
  dne : d ≠ e
  ns : h'.Ns1 d m
theorem sx_made {prog : Program} {w : World} {A : Around} {R : Result → Shared → Prop} {s : Shared} {K : Frag} {mg mb : Str → Option Value} {C fI : Addr} {fs : List Str} {params : Arguments} {body : List Stmt} {scope : Scope}
    (T : SxC prog K mg C fI fs params body scope) (Z : SxInit prog w K mg C fI fs) {vs : List Value} (hl : vs.length = fs.length) (hsz : vs.length ≤ sizeLine) (X : K.In s.heap) (hlim : s.heap.NoLimit)
    (hgl : s.heap.Ns mainGlobals mg) (hbl : s.heap.Ns builtinsNs mb) (hbs : mb "super" = some (.type "super")) (hroom : A.depth + 1 < recursionLimit)
    (hq : ∀ h' tk e d, Made s.heap h' e C d (fun y => (fs.zip vs).lookup y) → R (.ok (.ret (.ref e))) { s with heap := h', toks := tk }) :
    codeAny (model prog w) A (.call (.ref C) ⟨vs, []⟩) R s := by
  obtain ⟨B, newId, initId, tl, Y, ⟨nm, q, N, bs, bm, sn, sub, ab, col, dd, k0, k1, k2, k3, k5, hC, hbm⟩, hsup, hsB⟩ := T.fam
  obtain ⟨hp, g, dr, tk, os⟩ := s
  have k : ∀ b o, hp.get? b = some o → ((hp.push (kdv_tup vs)).push (excO C hp.objs.size)).get? b = some o := fun b o e => Heap.get?_push_of_some _ (Heap.get?_push_of_some _ e)
  have hget : ((hp.push (kdv_tup vs)).push (excO C hp.objs.size)).get? (hp.objs.size + 1) = some (excO C hp.objs.size) := by heap_get
  have hnx : K.lookup (hp.objs.size + 1) = none := by
    cases e : K.lookup (hp.objs.size + 1) with
    | none => rfl
    | some o =>
      have z : hp.get? (hp.objs.size + 1) = some o := X _ _ e
      exact absurd (Nat.lt_of_succ_lt (Heap.lt_size z)) (Nat.lt_irrefl _)
  refine call_own Y.F (fun W => refsT_contains W bm hbm) (X _ _ hC) (looks_findIn X T.iC) (fun self => bind_fn X self T.tI) hsz ?_
  refine Z (s := ⟨(hp.push (kdv_tup vs)).push (excO C hp.objs.size), g, dr, tk, os⟩) hl (X.keeps k) (hlim.keeps k) hget hnx (hgl.keeps k) (hbl.keeps k) hbs ?_ fun h' tk' dx t1 ⟨k', hx, dn, dne, hns⟩ => ?_
  · show A.depth + 1 < recursionLimit
    exact hroom
  · have old : ∀ b o, hp.get? b = some o → h'.get? b = some o := fun b o e => k' b o (Nat.ne_of_lt (Nat.lt_succ_of_lt (Heap.lt_size e))) (k b o e)
    have z : hp.objs.size + 1 + 1 ≤ dx := by
      first
        | (simpa only [Heap.size_push] using dn)
        | exact dn
        | (have q := dn; rw [Heap.size_push, Heap.size_push] at q; exact q)
    exact ⟨rfl, hq h' tk' (hp.objs.size + 1) dx ⟨old, Nat.le_succ _, ⟨_, _, hx, rfl, rfl, rfl, rfl⟩, Nat.le_trans (Nat.le_trans (Nat.le_succ _) (Nat.le_succ _)) z, dne, hns⟩⟩
end BJX
end PySem
namespace L2
namespace BJ
open PySem PySem.Spec PyProof.Rows
open PySem.BJX (SxC SxInit)
theorem relO_put {f : Str} {y : V} {u : Value} {fs : List (Str × V)} {us : List (Str × Value)} (ry : RelV y u) (r : ∀ g, RelO (fs.lookup g) (us.lookup g)) (g : Str) : RelO (((f, y) :: fs).lookup g) (((f, u) :: us).lookup g) := by
  rw [L2.lookup_put, PySem.BJX.lookup_put]
  by_cases h : g = f
  · rw [if_pos h, if_pos h]
    exact ry
  · rw [if_neg h, if_neg h]
    exact r g
theorem relO_zip : ∀ {fs : List Str} {vs : List V} {us : List Value}, Vals vs us → ∀ g, RelO ((fs.zip vs).lookup g) ((fs.zip us).lookup g)
  | [], _, _, _, _ => trivial
  | _ :: _, _, _, .nil, _ => trivial
  | f :: fs, _, _, .cons r t, g => relO_put r (relO_zip t) g
/-- C(e, ..), C an own exception -/
def tMkX (C : Addr) (fs : List Str) (ta : TA) : St → Hp → XK → Prop := fun σ H Q => ta σ H fun vs H1 => vs.length = fs.length ∧ vs.length ≤ 1000 ∧ ∀ d, H1 d = none → Q (.ref C) (some d) (upd H1 d (.xd (fs.zip vs)))
theorem pmk_sx {X : Cx} {C fI : Addr} {fs : List Str} {params : Arguments} {body : List Stmt} {scope : Scope} {x : Str} {a : Expr} {as : List Expr} {ta : TA} {p pos : Pos} {k : Nat} (T : SxC X.prog X.K X.mg C fI fs params body scope) (Z : SxInit X.prog X.w X.K X.mg C fI fs)
    (hr : Room k X.A) (ha : PA X (a :: as) ta) (hg : Gl X x) (hm : X.mg x = some (.ref C)) (hdb : (x == ("__debug__" : Str)) = false := by decide)
    (he : starEach (a :: as) X.env = (false, eval a X.env) :: starEach as X.env := by rfl) (hpl : (backTo pos (starEach as X.env)).any (·.1) = false := by rfl) :
    PMk X (.Call (.Name x p) (a :: as) [] pos) (tMkX C fs ta) := by
  intro pins s σ H Q I h
  refine wpAny_Call_Name_kw (ld_glob I hg hm ?_ hdb)
  refine PySem.W.callWith_K (h₀ := X.base) I.ok.mod.kin T.kC (thn (ha.run pos pins s σ H _ I h) fun us s1 hh => ?_) he hpl
  obtain ⟨vs, H1, I1, r1, hl, hz, q1⟩ := hh
  refine ⟨I1.kIn, ?_⟩
  show wpAny _ _ (call (.ref C) us) _ _ _
  have hlim := I1.nolimit
  obtain ⟨mb, hb1, hb2⟩ := I1.mod.blt
  have hgl : s1.heap.Ns mainGlobals X.mg := I1.mod.glob.keeps I1.bk
  have hbl : s1.heap.Ns builtinsNs mb := hb1.keeps I1.bk
  have hlu : us.length = fs.length := r1.length.symm.trans hl
  have hzu : us.length ≤ sizeLine := by rw [← r1.length, sizeLine_eq]; omega
  obtain ⟨hp, g, dr, tk, os⟩ := s1
  refine wpAny_call (PySem.BJX.sx_made T Z hlu hzu I1.kIn hlim hgl hbl ((hb2 "super" (by decide)).trans (by decide +kernel)) (by have := hr.dp; omega) fun h' tk' e d M => ?_)
  show MkP X pins σ Q (.ref e) ⟨h', g, dr, tk', os⟩
  obtain ⟨oe, fv, hoe, hc, hd, hdat, h1⟩ := M.obj
  have hns := M.ns
  obtain ⟨G', g1, g2⟩ := restrict h' fun b => decide (b ≠ e)
  have gk : ∀ b, b ≠ e → G'.get? b = h'.get? b := fun b hb => g1 b (decide_eq_true hb)
  have ge : G'.get? e = none := g2 e (by simp)
  have old : ∀ b o, hp.get? b = some o → G'.get? b = some o := fun b o q => (gk b (Nat.ne_of_lt (Nat.lt_of_lt_of_le (Heap.lt_size q) M.new))).trans (M.keep b o q)
  have ob : ObjOk X.prog X.w (upd H1 d (.xd (fs.zip vs))) G' d (.xd (fs.zip vs)) :=
    ⟨_, hns.at (fun o q => (gk d M.dne).trans q), fun f => relO_zip r1 f⟩
  have J : Inv X pins σ (upd H1 d (.xd (fs.zip vs))) ⟨G', g, dr, tk', os⟩ := I1.laid (t' := tk') old M.dbig ob
  refine ⟨e, oe, fv, ⟨G', g, dr, tk', os⟩, _, .ref C, some d, rfl, J, fun b o q => ?_, ge, hoe, ⟨hc, hd⟩, hdat, h1, ?_, rfl, I1.bare, raises_own T.exC T.tyC, q1 d (I1.hok.fresh M.dbig)⟩
  · by_cases hb : b = e
    · have q' : G'.get? b = some o := q
      rw [hb, ge] at q'; cases q'
    · exact (gk b hb).symm.trans q
  · rw [upd_ne (Ne.symm M.dne)]
    exact I1.hok.fresh M.new
end BJ
end L2

set_option Elab.async false
set_option linter.all false
set_option maxRecDepth 100000
set_option maxHeartbeats 4000000
namespace L2
namespace BJ
open PySem PySem.Spec PyProof.Rows
/-- a caught exception of the class cls, its own dict at d, tracked -/
def exH (a : Addr) (cls : Value) (d : Option Addr) : HO := .ext fun h => ∃ oe vs, h.get? a = some oe ∧ Zc cls d oe ∧ oe.data = .fields vs
theorem exH_ok {P : Program} {w : World} {H : Hp} {h : Heap} {a : Addr} {cls : Value} {d : Option Addr} {oe : Obj} {vs : Array Value} (e : h.get? a = some oe) (z : Zc cls d oe) (hd : oe.data = .fields vs) : ObjOk P w H h a (exH a cls d) :=
  ⟨⟨oe, vs, e, z, hd⟩, ⟨oe, e⟩, fun _ _ ⟨o, v, q, r⟩ k => ⟨o, v, k o q, r⟩⟩
theorem exH_at {P : Program} {w : World} {H : Hp} {h : Heap} {a : Addr} {cls : Value} {d : Option Addr} (hok : HOk P w H h) (he : H a = some (exH a cls d)) : ∃ oe vs, h.get? a = some oe ∧ Zc cls d oe ∧ oe.data = .fields vs := by
  have x : ObjOk P w H h a (.ext fun h => ∃ oe vs, h.get? a = some oe ∧ Zc cls d oe ∧ oe.data = .fields vs) := hok a _ he
  exact x.1
section
variable {X : Cx} {pins : List (Addr × Obj)} {σ : St} {H : Hp} {s : Shared}
/-- a young object that lies untracked is tracked from here on -/
theorem _root_.L2.Inv.track {a : Addr} {φ : Heap → Prop} (I : Inv X pins σ H s) (na : H a = none) (n0 : X.s_0.heap.get? a = none) (nL : a ≠ X.env.locals) (nC : ∀ x c, X.env.cells.lookup x = some c → c ≠ a) (nP : ∀ p ∈ X.pn ++ pins, p.1 ≠ a)
    (ok : ObjOk X.prog X.w (upd H a (.ext φ)) s.heap a (.ext φ)) : Inv X pins σ (upd H a (.ext φ)) s := by
  have ne0 : ∀ b o, X.s_0.heap.get? b = some o → b ≠ a := fun b o e z => by rw [z, n0] at e; cases e
  have neS : ∀ b u, H b = some u → b ≠ a := fun b u e z => by rw [z, na] at e; cases e
  refine ⟨I.ok, I.os, I.bare, ⟨I.base.keep, I.base.slot, fun b o e n hx => ?_, I.base.there, fun b xs e => ?_, fun b o u e => ?_, fun b ps e => ?_⟩, I.loc, I.cell, ?_, fun x c e => ?_, fun p hp => ?_, fun b u e => ?_, I.len⟩
  · rw [upd_ne (ne0 b o e)]
    exact I.base.free b o e n hx
  · have q := I.base.tups b xs e
    rw [upd_ne (neS b _ q)]; exact q
  · have q := I.base.frzs b o u e
    rw [upd_ne (neS b _ q)]; exact q
  · obtain ⟨m, q⟩ := I.base.tbls b ps e
    exact ⟨m, by rw [upd_ne (neS b _ q)]; exact q⟩
  · rw [upd_ne (Ne.symm nL)]; exact I.free
  · rw [upd_ne (nC x c e)]; exact I.freeC x c e
  · obtain ⟨h1, h2, h3, h4, h5⟩ := I.pin p hp
    exact ⟨h1, by rw [upd_ne (nP p hp)]; exact h2, h3, h4, h5⟩
  · by_cases hb : b = a
    · subst hb
      rw [upd_same] at e
      cases e
      exact ok
    · rw [upd_ne hb] at e
      exact (I.hok b u e).stay (fun c v _ q => q) (fun c q => by rw [upd_ne (neS c _ q)]; exact q) fun c xs q => by rw [upd_ne (neS c _ q)]; exact q
/-- the context of an except suite whose exception is tracked; nothing is raised out of it -/
abbrev suT (X : Cx) (a : Addr) : Cx := { X with A := X.A.mark (some (.ref a)), calm := false, xe := fun _ _ => False }
theorem okT {X : Cx} (ok : X.Ok) (a : Addr) : (suT X a).Ok :=
  ⟨ok.mod, ok.kind, ok.glob, ok.blt, ok.above, ok.inj, ok.has, ok.cab, (fun z => absurd (show false = true from z) Bool.false_ne_true), ok.frames, ok.stk, ok.exf, ok.bs, ok.bsz, ok.noex, ok.exfs, ok.funs, ok.frf⟩
theorem intoT (I : Inv X pins σ H s) (a : Addr) : Inv (suT X a) pins σ H s := ⟨okT I.ok a, I.os, I.bare, I.base, I.loc, I.cell, I.free, I.freeC, I.pin, I.hok, I.len⟩
theorem outT {a : Addr} (I : Inv (suT X a) pins σ H s) (ok : X.Ok) : Inv X pins σ H s := ⟨ok, I.os, I.bare, I.base, I.loc, I.cell, I.free, I.freeC, I.pin, I.hok, I.len⟩
end
/-- a clause: what its test says of a class, its name's slot, its suite -/
structure Cl where
  tst : Value → Option Bool
  nm : Option Nat
  ts : Addr → Value → Option Addr → TS
def stN (i : Option Nat) (σ : St) (v : Option V) : St := match i with | some i => σ.set i v | none => σ
def enN (i : Option Nat) (D : Ends) : Ends := { nx := fun σ H => D.nx (stN i σ none) H, rt := D.rt, bk := fun σ H => D.bk (stN i σ none) H, ct := fun σ H => D.ct (stN i σ none) H }
/-- what the clauses wish of an exception -/
def wT (Wout : WX) (D : Ends) : List Cl → WX
  | [] => Wout
  | l :: r => fun cls d σ H => ∃ b, l.tst cls = some b ∧ (b = true → ∀ a, H a = none → l.ts a cls d (enN l.nm D) (stN l.nm σ (some (.ref a))) (upd H a (exH a cls d))) ∧ (b = false → wT Wout D r cls d σ H)
/-- the names in a clause's tuple -/
def nmE (x : Str) (p : Pos) : Expr := .Name x p
inductive HdT (X : Cx) : List ExceptHandler → List Cl → Prop
  | nil : HdT X [] []
  | as_ {x n : Str} {c : Value} {i : Nat} {ts : Addr → Value → Option Addr → TS} {b₀ : Stmt} {suite : List Stmt} {np pos' : Pos} {hds : List ExceptHandler} {l : List Cl} (hc : Names X x c) (hi : X.N[i]? = some n) (hln : X.env.kindOf n = some .local)
      (hsu : ∀ (a : Addr) (cls : Value) (d : Option Addr), PSs (suT X a) (b₀ :: suite) (ts a cls d)) (r : HdT X hds l) :
      HdT X (.ExceptHandler (some (.Name x np)) (some n) (b₀ :: suite) pos' :: hds) (⟨fun cls => PySem.W.exmOne X.K cls c, some i, ts⟩ :: l)
  | only {x : Str} {c : Value} {ts : Addr → Value → Option Addr → TS} {b₀ : Stmt} {suite : List Stmt} {np pos' : Pos} {hds : List ExceptHandler} {l : List Cl} (hc : Names X x c)
      (hsu : ∀ (a : Addr) (cls : Value) (d : Option Addr), PSs (suT X a) (b₀ :: suite) (ts a cls d)) (r : HdT X hds l) :
      HdT X (.ExceptHandler (some (.Name x np)) none (b₀ :: suite) pos' :: hds) (⟨fun cls => PySem.W.exmOne X.K cls c, none, ts⟩ :: l)
section
variable {X : Cx} {body : List Stmt} {h₀ : ExceptHandler} {hds : List ExceptHandler} {l : List Cl} {pos : Pos} {tb : WX → TS} {Wout : WX}
theorem ps_tryT (hs : X.stack = X.env :: X.outer) (hf : X.env.frame = some X.env.locals) (hex : X.ex = []) (hN : X.N.Nodup) (tk : Takes X Wout)
    (hb : ∀ (W : WX) (pn : List (Addr × Obj)) (xe : Value → Shared → Prop), Takes (X.tr pn xe) W → PassesOwn (model X.prog X.w) X.A X.env xe → PSs (X.tr pn xe) body (tb W))
    (hh : HdT X (h₀ :: hds) l) : PS X (.Try body (h₀ :: hds) [] [] pos) (fun D σ H => tb (wT Wout D l) D σ H) := by
  refine ⟨fun pins s σ H D I h => ?_⟩
  have ok := I.ok
  have hfr : X.A.frames = some (X.env :: X.outer) := by rw [ok.frames, hs]
  refine wpAny_Try_except ?_
  refine wpAny_mono ((hb (wT Wout D l) (X.pn ++ pins) (fun e s₁ => wpAny (model X.prog X.w) X.A (noteFrame e X.env) (fun _ s₂ => wpAny (model X.prog X.w) X.A (setFlight e none) (fun _ s₃ =>
    wpAny (model X.prog X.w) X.A (handleBy e X.env (h₀ :: hds)) (SP X pins D) X.xe s₃) X.xe s₂) X.xe s₁) (fun u s' xx => ?_) PassesOwn.looking).run [] s σ H D (I.toTry _) h) (fun f s1 hsp => ?_) (fun e s1 he => he)
  · -- the catch
    obtain ⟨a, B, sI, pins', σ', H', cls, d, rfl, J', nb, up, sky, na, os, ag, w⟩ := xx
    have J : Inv X pins σ' H' sI := J'.ofTry ok
    have sky' : Sky B (X.env :: X.outer) a (Zc cls d) X.env.locals s'.heap := by rw [← hs]; exact sky
    show wpAny (model X.prog X.w) X.A (noteFrame (.ref a) X.env) _ _ _
    refine Sky.land Zc.steady hfr hf sky' fun h3 fl3 up3 => ?_
    have J3 : Inv X pins σ' H' { s' with heap := h3 } := J.landed nb fl3.1 (up.trans up3) os ag
    obtain ⟨oe3, vs3, he3, hz3, hd3⟩ := fl3.there
    have notFr : ∀ {h : Heap} {o : Obj} {vs : Array Value}, h.FunFrames B (X.env :: X.outer) → h.get? a = some o → o.data = .fields vs → a ∉ frs (X.env :: X.outer) := fun {h o vs} ff e dd hm => by
      obtain ⟨_, o', e', hnf⟩ := ff.mem hm
      rw [e] at e'; cases e'
      exact hnf _ dd
    have nfr := notFr fl3.2.2.1 he3 hd3
    have nL : a ≠ X.env.locals := fun z => nfr (List.mem_filterMap.mpr ⟨X.env, List.mem_cons_self, by rw [hf, z]⟩)
    have nF : a ∉ X.fs := fun hm => by
      obtain ⟨e, he, q⟩ := List.mem_filterMap.mp hm
      exact nfr (List.mem_filterMap.mpr ⟨e, List.mem_cons_of_mem _ he, q⟩)
    have nI : sI.heap.get? a = none := by
      cases e : sI.heap.get? a with
      | none => rfl
      | some o =>
        have z := nb a o e (by rw [hs]; exact nfr)
        rw [fl3.2.1] at z
        cases z
    have n0 : X.s_0.heap.get? a = none := by
      cases e : X.s_0.heap.get? a with
      | none => rfl
      | some o =>
        obtain ⟨o', e'⟩ := J.base.there a o e (by rw [hex]; exact fun z => nomatch z)
        rw [nI] at e'
        cases e'
    have nC : ∀ x c, X.env.cells.lookup x = some c → c ≠ a := fun x c e z => by
      obtain ⟨v, o, ho, _⟩ := J.cell x c e
      rw [z, nI] at ho
      cases ho
    have nP : ∀ p ∈ X.pn ++ pins, p.1 ≠ a := fun p hp z => by
      have e := (J.pin p hp).1
      rw [z, nI] at e
      cases e
    have S3 := J3.suite he3 hd3 na nL nF
    have go : ∀ {hds' : List ExceptHandler} {l' : List Cl}, HdT X hds' l' → wT Wout D l' cls d σ' H' →
        wpAny (model X.prog X.w) X.A (handleBy (.ref a) X.env hds') (SP X pins D) X.xe { s' with heap := h3 } := by
      intro hds' l' hk
      have LT : PySem.W.Looks (model X.prog X.w) h3 (typeOf (.ref a)) cls := fun A Q E s k q => wpAny_typeOf_ref (k _ _ he3) (by rw [hz3.1]; exact q)
      have test : ∀ {x : Str} {c : Value} {np : Pos} {Q : Value → Shared → Prop} {E : Value → Shared → Prop}, Names X x c → Q c { s' with heap := h3 } → wpAny (model X.prog X.w) (X.A.mark (some (.ref a))) (eval (.Name x np) X.env) Q E { s' with heap := h3 } := fun {x c np Q E} hc q => by
        obtain ⟨hg, hdbg, hm | ⟨hm, hv, hnn⟩⟩ := hc
        · exact ld_glob (X := X.suite a ((a, oe3) :: (X.pn ++ pins))) S3 hg hm q hdbg
        · exact ld_blt (X := X.suite a ((a, oe3) :: (X.pn ++ pins))) S3 hg hm hv q hnn hdbg
      -- the suite of the clause that takes it
      have su : ∀ {h4 : Heap}, HandSPX.FlyingZ B (X.env :: X.outer) a (Zc cls d) h4 → h3.UpToSlots h4 → Inv X pins σ' (upd H' a (exH a cls d)) { s' with heap := h4 } := fun {h4} fl4 up4 => by
        have J4 : Inv X pins σ' H' { s' with heap := h4 } := J.landed nb fl4.1 ((up.trans up3).trans up4) os ag
        obtain ⟨oe4, vs4, he4, hz4, hd4⟩ := fl4.there
        exact J4.track na n0 nL nC nP (exH_ok he4 hz4 hd4)
      induction hk with
      | nil =>
        intro w
        refine wpAny_handleBy_nil ?_
        obtain ⟨k1, k2, k3, oe, vs, T, oT, ts', he, hz, hd, h1, hr⟩ := id fl3
        unfold PySem.passOn
        refine wpAny_bind (wpAny_field he hd h1 ?_)
        rw [if_neg (show ¬ ((Value.ref T == Value.none) = true) from by simp)]
        have fin : wpAny (model X.prog X.w) X.A (setFlight (.ref a) X.env.frame) (fun _ s4 => wpAny (model X.prog X.w) X.A (throw (.ref a) : Sem Flow) (SP X pins D) X.xe s4) X.xe { s' with heap := h3 } := by
          rw [hf]
          refine HandSPX.setFlight_upZ fl3 fun h4 hh4 up4 => wpAny_throw (tk _ _ ?_)
          exact ⟨a, B, sI, pins, σ', H', cls, d, rfl, J, nb, (up.trans up3).trans up4, .inr (.inr (by rw [hs]; exact hh4)), na, os, ag, w⟩
        first
          | exact wpAny_bind (wpAny_pure (wpAny_bind fin))
          | exact wpAny_bind fin
      | @as_ x n c i ts b₀ suite np pos' hds2 l2 hc hi hln hsu r ih =>
        intro w
        obtain ⟨b, hb1, hyes, hno⟩ := w
        refine wpAny_handleBy_cons (codeAny_handlers_test ?_) (by intro q; cases q)
        have LM := PySem.W.exm_one (M := model X.prog X.w) (J3.kIn) LT hb1
        refine test hc (LM.here ?_)
        cases b with
        | true =>
          refine codeAny_handlers_suite_as ?_
          refine HandSPX.lands_againZ fl3 fun h4 fl4 up4 => ?_
          have S4 := intoT (su fl4 up4) a
          refine store_ok (X := suT X a) (v := .ref a) S4 hN hi (.inl hln) rfl (fun s5 S5 => ?_) (.inr hln)
          refine wpAny_mono ((hsu a cls d).run pins s5 _ _ _ S5 (hyes rfl a na)) (fun f s6 hsp => ?_) (fun _ _ z => False.elim z)
          have end_ : ∀ {σ6 : St} {H6 : Hp} {Q : Shared → Prop}, Inv (suT X a) pins σ6 H6 s6 → (∀ s7, Inv X pins (σ6.set i none) H6 s7 → Q s7) →
              wpAny (model X.prog X.w) X.A (do bindName X.env n .none; unbindBehindTheSuite X.env n pos') (fun _ s7 => Q s7) X.xe s6 := fun {σ6 H6 Q} S6 hq => gone_ok (outT S6 ok) hN hi hln hq
          cases f with
          | next =>
            obtain ⟨σ6, H6, S6, q6⟩ := hsp
            exact end_ S6 fun s7 J7 => ⟨_, _, J7, q6⟩
          | brk =>
            obtain ⟨σ6, H6, S6, q6⟩ := hsp
            exact end_ S6 fun s7 J7 => ⟨_, _, J7, q6⟩
          | cont =>
            obtain ⟨σ6, H6, S6, q6⟩ := hsp
            exact end_ S6 fun s7 J7 => ⟨_, _, J7, q6⟩
          | ret u =>
            obtain ⟨v6, σ6, H6, S6, r6, q6⟩ := hsp
            exact end_ S6 fun s7 J7 => ⟨_, _, _, J7, r6, q6⟩
        | false =>
          show wpAny _ X.A (handleBy (.ref a) X.env hds2) _ _ _
          exact ih (hno rfl)
      | @only x c ts b₀ suite np pos' hds2 l2 hc hsu r ih =>
        intro w
        obtain ⟨b, hb1, hyes, hno⟩ := w
        refine wpAny_handleBy_cons (codeAny_handlers_test ?_) (by intro q; cases q)
        have LM := PySem.W.exm_one (M := model X.prog X.w) (J3.kIn) LT hb1
        refine test hc (LM.here ?_)
        cases b with
        | true =>
          refine codeAny_handlers_suite ?_
          refine HandSPX.lands_againZ fl3 fun h4 fl4 up4 => ?_
          have S4 := intoT (su fl4 up4) a
          refine wpAny_mono ((hsu a cls d).run pins _ _ _ _ S4 (hyes rfl a na)) (fun f s6 hsp => ?_) (fun _ _ z => False.elim z)
          cases f with
          | next =>
            obtain ⟨σ6, H6, S6, q6⟩ := hsp
            exact ⟨_, _, outT S6 ok, q6⟩
          | brk =>
            obtain ⟨σ6, H6, S6, q6⟩ := hsp
            exact ⟨_, _, outT S6 ok, q6⟩
          | cont =>
            obtain ⟨σ6, H6, S6, q6⟩ := hsp
            exact ⟨_, _, outT S6 ok, q6⟩
          | ret u =>
            obtain ⟨v6, σ6, H6, S6, r6, q6⟩ := hsp
            exact ⟨_, _, _, outT S6 ok, r6, q6⟩
        | false =>
          show wpAny _ X.A (handleBy (.ref a) X.env hds2) _ _ _
          exact ih (hno rfl)
    exact go hh w
  · cases f with
    | next =>
      obtain ⟨σ', H', J', q⟩ := hsp
      exact wpAny_execs_nil ⟨σ', H', J'.ofTry ok, q⟩
    | brk =>
      obtain ⟨σ', H', J', q⟩ := hsp
      exact ⟨σ', H', J'.ofTry ok, q⟩
    | cont =>
      obtain ⟨σ', H', J', q⟩ := hsp
      exact ⟨σ', H', J'.ofTry ok, q⟩
    | ret u =>
      obtain ⟨v, σ', H', J', r, q⟩ := hsp
      exact ⟨v, σ', H', J'.ofTry ok, r, q⟩
end
end BJ
end L2

set_option Elab.async false
set_option linter.all false
set_option maxRecDepth 100000
set_option maxHeartbeats 4000000
namespace PySem.BJX
open PySem PySem.W PySem.Spec PySem.Calls PyProof.Rows
section
variable {prog : Program} {w : World} {A : Around} {E : Value → Shared → Prop} {s : Shared} {K : Frag} {x D : Addr} {ox : Obj}
theorem findObj_dataO {C : Addr} {od : Option Obj} {name : Str} {a g : Value} (hc : (clsIn K C).isSome = true) (ha : findIn K (.ref C) name = some (some a)) (hg : specialIn K a "__get__" = some (some g)) (ht : takesIn K a = some true) : findObj K C od name = some (.bind g a) := by
  obtain ⟨cd, hc⟩ := Option.isSome_iff_exists.mp hc
  unfold findObj
  rw [hc, Option.bind_some, ha, Option.bind_some]
  simp [hg, ht]
theorem kin_classO {od : Option Obj} {Q : Option Value → Shared → Prop} (hga : findIn K (.ref D) "__getattribute__" = some (some (.builtin "BaseException.__getattribute__"))) (hgt : findIn K (.ref D) "__getattr__" = some none) (hsub : subIn K (.ref D) (.type "BaseException") = some true)
    (hdct : hasDictIn K D = true) (ha : findIn K (.ref D) "__class__" = some (some (.builtin "object.__class__")))
    (hn : specialIn K (.builtin "object.__class__") "__get__" = some (some (.builtin "getset_descriptor.__get__"))) (htk : takesIn K (.builtin "object.__class__") = some true) (hm : mroIn K D (.type "object") = some true)
    (X : K.In s.heap) (I : InstAt s.heap x ox D od) (h : Q (some (.ref D)) { s with toks := s.toks + 1 }) : wpAny (model prog w) A (getAttr? (.ref x) "__class__") Q E s := by
  have hf : findObj K D od "__class__" = some (.bind (.builtin "getset_descriptor.__get__") (.builtin "object.__class__")) := findObj_dataO (by obtain ⟨cd, hc, _⟩ := any_some hdct; rw [hc]; rfl) ha hn htk
  obtain ⟨hp, g, d, t, os⟩ := s
  have L0 := I.type (M := model prog w)
  have L1 := looks_findIn (M := model prog w) X hga
  have L2 := looks_findIn (M := model prog w) X hgt
  have L3 := looks_find (M := model prog w) X I hf
  have sub : Looks (model prog w) hp (isInstance (.ref x) (.type "BaseException")) true := L0.andThen (looks_subIn X hsub)
  have hx0 : (false && onTheHeap (Value.builtin "BaseException.__getattribute__")) = false := rfl
  have hx2 : (Value.builtin "BaseException.__getattribute__" == Value.builtin "object.__getattribute__") = false := by decide +kernel
  have hx1 : (onTheHeap (Value.ref D) && Value.builtin "BaseException.__getattribute__" == Value.builtin "object.__getattribute__") = false := by rw [hx2]; rfl
  unfold getAttr? getAttrBy? getAttrBy
  refine wpAny_bind (wpAny_mkText (wpAny_bind (wpAny_attempt (wpAny_holding (wpAny_bind (L0.at (wpAny_bind (L1.at ?_))))))))
  show wpAny _ _ (if (onTheHeap (Value.ref D) && Value.builtin "BaseException.__getattribute__" == Value.builtin "object.__getattribute__") = true then _ else _) _ _ _
  rw [hx1, if_neg Bool.false_ne_true]
  unfold getAttrByItsOwn hookBefore
  refine wpAny_bind ?_
  rw [if_pos (show onTheHeap (Value.ref D) = true from rfl)]
  refine L2.at ?_
  refine wpAny_bind (wpAny_attempt (wpAny_holding ?_))
  unfold callGetattribute
  rw [hx0, if_neg Bool.false_ne_true]
  unfold boundAndCalled
  rw [PySem.F.excAttr_ValueError.ga.bind (.ref x)]
  refine wpAny_bind (wpAny_pure ?_)
  show wpAny _ _ (call (.builtin "BaseException.__getattribute__") [.ref x, .str "__class__" t]) _ _ _
  refine wpAny_call (codeAny_call_builtin PySem.F.excAttr_ValueError.ga.plain PySem.F.entry_bexc_ga ?_)
  refine @check_slot (model prog w) _ _ ⟨hp, g, d, t + 1, os⟩ "BaseException.__getattribute__" "BaseException" "__getattribute__" (.ref x) [.str "__class__" t] [] _ (by decide +kernel) (by decide +kernel) sub (PySem.F.args_bexc_ga (.ref x) (.str "__class__" t)) ?_
  unfold Builtin.«object.__getattribute__»
  refine wpAny_bind (wpAny_of_eq (a := ((Value.ref x : Value), [Value.str "__class__" t])) (by first | rfl | (simp only [slotArgs]; rfl)) ?_)
  refine wpAny_bind (wpAny_pure (wpAny_bind (L0.at (wpAny_bind (L3.at ?_)))))
  show wpAny _ _ (holding [Value.builtin "object.__class__"] (call (.builtin "getset_descriptor.__get__") [.builtin "object.__class__", .ref x, .ref D]) >>= ret) _ _ _
  refine wpAny_bind (wpAny_holding (wpAny_call (class_get (s := ⟨hp, g, d, t + 1, os⟩) (ox := ox) (od := od) X I hm ?_)))
  refine wpAny_pure ?_
  show wpAny _ _ (handedOut (.ref D)) _ _ _
  rw [handedOut_of (v := .ref D) rfl]
  first
    | exact wpAny_pure (wpAny_pure h)
    | exact wpAny_pure h
    | exact wpAny_pure (wpAny_bind (wpAny_pure (wpAny_pure h)))
theorem kitx_excO {od : Option Obj} (hga : findIn K (.ref D) "__getattribute__" = some (some (.builtin "BaseException.__getattribute__"))) (hgt : findIn K (.ref D) "__getattr__" = some none) (hsub : subIn K (.ref D) (.type "BaseException") = some true) (hdct : hasDictIn K D = true) (ha : findIn K (.ref D) "__class__" = some (some (.builtin "object.__class__")))
    (hn : specialIn K (.builtin "object.__class__") "__get__" = some (some (.builtin "getset_descriptor.__get__"))) (htk : takesIn K (.builtin "object.__class__") = some true) (hm : mroIn K D (.type "object") = some true) :
    KitX K (.ref x) (.ref D) (fun h => InstAt h x ox D od) where
  ty := fun _ _ _ I => I.type
  it := fun _ _ X _ => by
    obtain ⟨cdD, hcD, _⟩ := any_some hdct
    unfold clsIn at hcD
    split at hcD
    · rename_i c' d' cd' sl' ho
      intro A' Q' E' s' k q
      unfold isType loadHead
      exact wpAny_bind (wpAny_loadPart (k _ _ (X _ _ ho)) (wpAny_pure q))
    · cases hcD
  ne := fun h tp dd its n sl X htp => by
    obtain ⟨cdD, hcD, _⟩ := any_some hdct
    refine Bool.eq_false_iff.mpr fun q => ?_
    have e : D = tp := Value.ref.inj (beq_iff_eq.mp q)
    subst e
    unfold clsIn at hcD
    split at hcD
    · rename_i c' d' cd' sl' ho
      have z := (X _ _ ho).symm.trans htp
      cases z
    · cases hcD
  ca := fun X I k => kin_classO hga hgt hsub hdct ha hn htk hm X I k
end
end PySem.BJX
namespace L2
namespace BJ
open PySem PySem.Spec PyProof.Rows
/-- where a held exception's own dict lies -/
inductive ExD (H : Hp) : Option Addr → List (Str × V) → Prop
  | none : ExD H none []
  | some {d : Addr} {fs : List (Str × V)} (h : H d = some (.xd fs)) : ExD H (some d) fs
/-- at a: a held exception of the class at C, with fields fs -/
structure Held (K : PySem.W.Frag) (H : Hp) (a C : Addr) (fs : List (Str × V)) : Prop where
  ex : ∃ d, H a = some (exH a (.ref C) d) ∧ ExD H d fs
  cls : ExcC K C
/-- a value's type, held exceptions too -/
inductive TyE (K : PySem.W.Frag) (H : Hp) : V → Value → Prop
  | base {x : V} {t : Value} (h : TyX K H x t) : TyE K H x t
  | exc {a C : Addr} {fs : List (Str × V)} (h : Held K H a C fs) : TyE K H (.ref a) (.ref C)
section
variable {X : Cx} {pins : List (Addr × Obj)} {σ : St} {H : Hp} {s : Shared}
theorem held_inst {a C : Addr} {fs : List (Str × V)} (I : Inv X pins σ H s) (h : Held X.K H a C fs) : ∃ oe od, PySem.W.InstAt s.heap a oe C od ∧ ∀ f v, fs.lookup f = some v → ∃ o u, od = some o ∧ PySem.W.lookIn f o = some (some u) ∧ RelV v u := by
  obtain ⟨⟨d, e, x⟩, _⟩ := h
  obtain ⟨oe, vs, ho, hz, hd⟩ := exH_at I.hok e
  have nc : PySem.W.notCls oe = true := by unfold PySem.W.notCls; rw [hd] <;> rfl
  cases x with
  | none => exact ⟨oe, none, ⟨ho, hz.1, nc, by rw [hz.2]; trivial⟩, fun f v l => by cases l⟩
  | @some dd fs hx =>
    obtain ⟨mA, hns, hr⟩ := (show ObjOk X.prog X.w H s.heap dd (.xd fs) from I.hok dd _ hx)
    obtain ⟨od, hod, hl⟩ := lookIn_ns hns
    refine ⟨oe, some od, ⟨ho, hz.1, nc, by rw [hz.2]; exact hod⟩, fun f v l => ?_⟩
    obtain ⟨u, hu, ru⟩ := RelO.some_of (v := v) (o := mA f) (by rw [← l]; exact hr f)
    exact ⟨od, u, rfl, by rw [hl, hu], ru⟩
theorem kit_ofE {x : V} {u t : Value} (I : Inv X pins σ H s) (rx : RelV x u) (ty : TyE X.K H x t) : ∃ P : Heap → Prop, PySem.W.KitX X.K u t P ∧ P s.heap ∧ u ≠ .builtin "__main__.__loader__#opaque" := by
  cases ty with
  | base b => exact kit_of I rx b
  | exc h =>
    rename_i a C fs
    obtain rfl : u = Value.ref a := rx
    obtain ⟨oe, od, J, _⟩ := held_inst I h
    have c := h.cls
    exact ⟨_, PySem.BJX.kitx_excO (ox := oe) (od := od) c.hg c.hk c.hs c.hd c.ha c.hn c.ht c.hm, J, fun z => nomatch z⟩
/-- isinstance(x, c), one class -/
def rIsE1 (K : PySem.W.Frag) : List V → Hp → VK → Prop := fun xs H Q => ∃ (x c : V) (t u : Value) (b : Bool), xs = [x, c] ∧ ClsV c u ∧ TyE K H x t ∧ PySem.W.kitOne K t u = some b ∧ Q (.bl b) H
theorem call_isE1 : CallR X (.builtin "isinstance") (rIsE1 X.K) := by
  intro pins s σ H xs us Q I r h
  obtain ⟨x, c, t, u, b, rfl, k, ty, e, q⟩ := h
  obtain ⟨u1, u2, rfl, r1, r2⟩ := vals2 r
  have e2 := k.eq r2
  subst e2
  obtain ⟨P, Z, p, hx⟩ := kit_ofE I r1 ty
  exact PySem.W.kia_one Z I.kIn p e hx fun tk => ⟨.bl b, H, I.tok tk, rfl, q⟩
/-- isinstance(x, (c1, c2, ..)) -/
def rIsEt (K : PySem.W.Frag) : List V → Hp → VK → Prop := fun xs H Q => ∃ (x : V) (tp : Addr) (cs : List V) (t : Value) (us : List Value) (b : Bool), xs = [x, .ref tp] ∧ H tp = some (.tup cs) ∧ Paired ClsV cs us ∧ TyE K H x t ∧ PySem.W.kitAny K t us = some b ∧ Q (.bl b) H
theorem call_isEt : CallR X (.builtin "isinstance") (rIsEt X.K) := by
  intro pins s σ H xs us Q I r h
  obtain ⟨x, tp, cs, t, ws, b, rfl, hT, k, ty, e, q⟩ := h
  obtain ⟨u1, u2, rfl, r1, r2⟩ := vals2 r
  cases (show u2 = Value.ref tp from r2)
  obtain ⟨P, Z, p, hx⟩ := kit_ofE I r1 ty
  obtain ⟨_, its, rv, o, h1, h2, n, h3⟩ := (show ObjOk X.prog X.w H s.heap tp (.tup cs) from I.hok tp _ hT)
  have e3 := ClsV.all k rv
  subst e3
  obtain ⟨oc, od, dt, sl⟩ := o
  simp only at h2 h3
  subst h2 h3
  exact PySem.W.kia_tup Z I.kIn p h1 e hx fun tk => ⟨.bl b, H, I.tok tk, rfl, q⟩
/-- e.f, e a held exception -/
def tHf (K : PySem.W.Frag) (f : Str) (te : TE) : TE := fun σ H Q => te σ H fun x H1 => ∃ a C fs v, x = .ref a ∧ Held K H1 a C fs ∧ PySem.W.findIn K (.ref C) f = some none ∧ fs.lookup f = some v ∧ Q v H1
theorem pe_hf {e : Expr} {te : TE} {pos : Pos} {n : Str} (he : PE X e te) (hb : attributeBase e n X.env (eval e X.env) = eval e X.env := by rfl) : PE X (.Attribute e n pos) (tHf X.K n te) := by
  refine ⟨fun pins s σ H Q I h => ?_⟩
  refine attr_of hb (thn (he.run pins s σ H _ I h) fun u s1 hh => ?_)
  obtain ⟨x, H1, I1, rx, a, C, fs, v, ex, hd, hno, l, q⟩ := hh
  subst ex
  obtain rfl : u = Value.ref a := rx
  obtain ⟨oe, od, J, hl⟩ := held_inst I1 hd
  obtain ⟨o, u, rfl, hlk, ru⟩ := hl n v l
  exact HandSPX.exc_get I1.kIn J hd.cls.hg hd.cls.hk hd.cls.hs (PySem.W.findObj_own hd.cls.hd hno rfl hlk) (handed_of ru) ⟨v, H1, I1.tok _, ru, q⟩
end
end BJ
end L2

set_option Elab.async false
set_option linter.all false
set_option maxRecDepth 100000
set_option maxHeartbeats 4000000
namespace L2
namespace BJ
open PySem PySem.Spec PyProof.Rows
open PySem.PyData (noDict_hsm)
/-! ### defs that may raise and may ask repr: no guard is on the stack -/
structure FnG (P : Program) (w : World) (K : PySem.W.Frag) (mg : Str → Option Value) (base : Heap) (k : Nat) (f : Addr) (fd : FuncData) (ps : List Str) (sp : Sp) : Prop where
  len : ∀ vs H Q E, sp vs H Q E → vs.length = ps.length
  run : ∀ (A : Around) (outer : List Env) (s : Shared) (H : Hp) (args : Args) (us : List Value) (vs : List V) (Q : VK) (E : XK), Room k A → A.guards = some [] → Env0 P w K mg base A outer s H → BindsTo s fd args (ps.zip us) → Vals vs us → sp vs H Q E →
    codeAny (model P w) A (.call (.ref f) args) (CR (L2.CX P w) outer P w H s Q E) s
section
variable {P : Program} {w : World} {K : PySem.W.Frag} {mg : Str → Option Value} {base : Heap}
theorem FnG.mono {j k : Nat} {f : Addr} {fd : FuncData} {ps : List Str} {sp : Sp} (F : FnG P w K mg base j f fd ps sp) (h : j ≤ k) : FnG P w K mg base k f fd ps sp :=
  ⟨F.len, fun A outer s H args us vs Q E hr => F.run A outer s H args us vs Q E (hr.mono h)⟩
/-- a weaker promise -/
theorem FnG.imp {k : Nat} {f : Addr} {fd : FuncData} {ps : List Str} {sp sp' : Sp} (F : FnG P w K mg base k f fd ps sp) (h : ∀ vs H Q E, sp' vs H Q E → sp vs H Q E) : FnG P w K mg base k f fd ps sp' :=
  ⟨fun vs H Q E q => F.len vs H Q E (h _ _ _ _ q), fun A outer s H args us vs Q E hr hg he hb hv hs => F.run A outer s H args us vs Q E hr hg he hb hv (h _ _ _ _ hs)⟩
/-- the body of a def -/
theorem _root_.L2.Fun.okG {x qual : Str} {st : Stmt} {f : Addr} {fd : FuncData} {N ps : List Str} {k : Nat} {sp : Sp} (F : Fun K x qual st f fd) (S : FnScope N ps (defScope st)) (len : ∀ vs H Q E, sp vs H Q E → vs.length = ps.length)
    (hbody : ∀ (cdv : Value) (A : Around) (outer : List Env) (s : Shared) (H : Hp) (vs : List V) (Q : VK) (E : XK), Room k (A.deeper (envOfC qual (defScope st) s.heap.objs.size f cdv)) → A.guards = some [] → sp vs H Q E →
      ∃ t, PSs (cxOf (L2.CX P w) P w K mg base N qual (defScope st) f cdv A outer s H E) (defBody st) t ∧ t { nx := fun _ H' => Q .non H', rt := Q } (start N vs) H) : FnG P w K mg base (k + 1) f fd ps sp := by
  obtain ⟨oc, od, kV, doc, pm, an, cdv, ct, osl, rfl, lk, hcd⟩ := F.ex
  refine ⟨len, fun A outer s H args us vs Q E hr hgd e0 hb r hsp => ?_⟩
  have hl := len _ _ _ _ hsp
  have KX : K.In s.heap := e0.mod.kin.keeps fun b o e => (e0.bs b o e).1
  have lim : s.heap.NoLimit := e0.mod.nolimit.keeps fun b o e => (e0.bs b o e).1
  have hkind : ∀ y ∈ ps.zip us, (defScope st).names.lookup y.1 = some .local ∨ ((defScope st).names.lookup y.1 = some .cell ∧ ((cellsFrom (s.heap.objs.size + 1) (defScope st).names []).lookup y.1).isSome = true) := fun ⟨n, v⟩ hy => by
    rcases S.par n (List.of_mem_zip hy).1 with q | q
    · exact .inl q
    · exact .inr ⟨q, PySem.W.cellsFrom_some _ _ _ (.inl q)⟩
  refine codeAny_call_function hr.depth (KX _ _ lk) rfl S.co S.gen rfl (PySem.W.codeRec_of KX hcd) (hb _ _ _ _ ?_)
  refine wpAny_newFunctionEnv_cells S.kind hkind fun env he s1 x => ?_
  subst he
  refine ⟨lim.keeps x.toInCall.keep, codeAny_func ?_⟩
  obtain ⟨t, ht, hq⟩ := hbody cdv A outer s H vs Q E (hr.deeper _) hgd hsp
  have I : Inv (cxOf (L2.CX P w) P w K mg base N qual (defScope st) f cdv A outer s H E) [] (start N vs) H s1 := inv_start S hr.hd e0 hl r x
  refine wpAny_mono (ht.run [] s1 (start N vs) H _ I hq) (fun fl s' hs => ?_) fun e s' hs => hs
  have fin : ∀ {σ' : St} {H' : Hp} {v : V} {u : Value}, Inv (cxOf (L2.CX P w) P w K mg base N qual (defScope st) f cdv A outer s H E) [] σ' H' s' → RelV v u → Q v H' → CE outer P w H s Q u s' :=
    fun {σ' H' v u} J rv q => ⟨v, H', J.os, J.bare, J.base, J.hok, rv, q⟩
  cases fl with
  | ret u =>
    obtain ⟨v, σ', H', J, rv, q⟩ := hs
    exact fin J rv q
  | next =>
    obtain ⟨σ', H', J, q⟩ := hs
    exact fin (v := V.non) (u := Value.none) J rfl q
  | brk =>
    obtain ⟨_, _, _, q⟩ := hs
    exact False.elim q
  | cont =>
    obtain ⟨_, _, _, q⟩ := hs
    exact False.elim q
end
/-! ### calls -/
section
variable {X : Cx} {k : Nat} {f C : Addr} {fd : FuncData} {ps : List Str} {sp : Sp} {dvs : List V} {ds : List Value} {W : WX} {x m : Str} {p pos apos : Pos} {e o : Expr} {es : List Expr} {ta : TE} {t : TA}
theorem run_fnG {pins : List (Addr × Obj)} {σ : St} {H : Hp} {s : Shared} {Q : VK} {us : List Value} {vs : List V} (F : FnG X.prog X.w X.K X.mg X.base k f fd ps sp) (hr : Room k X.A) (hgd : X.A.guards = some []) (hb : Binds X.K fd ps ds) (hd : Vals dvs ds) (tk : Takes X W)
    (I : Inv X pins σ H s) (r : Vals vs us) (h : sp (vs ++ dvs) H Q (fun cls d H' => W cls d σ H')) : wpAny (model X.prog X.w) X.A (call (.ref f) us) (EP X pins σ Q) X.xe s := by
  have r2 : Vals (vs ++ dvs) (us ++ ds) := r.append hd
  have hl : (us ++ ds).length = ps.length := by rw [← r2.length]; exact F.len _ _ _ _ h
  refine wpAny_call (codeAny_mono (F.run X.A X.stack s H ⟨us, []⟩ (us ++ ds) (vs ++ dvs) Q _ hr hgd I.env0 (hb s us I.kIn hl) r2 h) fun r s' hq => ?_)
  cases r with
  | error e => exact passAt tk σ pins H s e s' I hq
  | ok fl =>
    cases fl with
    | ret u => exact I.after hq
    | next => exact False.elim hq
    | brk => exact False.elim hq
    | cont => exact False.elim hq
/-- f(..), positional; the defaults dvs; what it raises goes to W -/
def tCallG (sp : Sp) (dvs : List V) (W : WX) (t : TA) : TE := fun σ H Q => t σ H fun vs H1 => sp (vs ++ dvs) H1 Q (fun cls d H' => W cls d σ H')
theorem pe_callG (F : FnG X.prog X.w X.K X.mg X.base k f fd ps sp) (hr : Room k X.A) (hgd : X.A.guards = some []) (hg : Gl X x) (hm : X.mg x = some (.ref f)) (hk : PySem.W.keepIn X.K (.ref f) = true) (hb : Binds X.K fd ps ds) (hd : Vals dvs ds) (tk : Takes X W)
    (ha : PA X (e :: es) t) (hdb : (x == ("__debug__" : Str)) = false := by decide) (he : starEach (e :: es) X.env = (false, eval e X.env) :: starEach es X.env := by rfl) (hpl : (backTo pos (starEach es X.env)).any (·.1) = false := by rfl) :
    PE X (.Call (.Name x p) (e :: es) [] pos) (tCallG sp dvs W t) := by
  refine ⟨fun pins s σ H Q I h => ?_⟩
  refine wpAny_Call_Name_kw (ld_glob I hg hm ?_ hdb)
  refine PySem.W.callWith_K (h₀ := X.base) I.ok.mod.kin hk (thn (ha.run pos pins s σ H _ I h) fun us s1 ⟨vs, H1, I1, r, q⟩ => ⟨I1.kIn, ?_⟩) he hpl
  exact run_fnG F hr hgd hb hd tk I1 r q
theorem pe_callG0 (F : FnG X.prog X.w X.K X.mg X.base k f fd ps sp) (hr : Room k X.A) (hgd : X.A.guards = some []) (hg : Gl X x) (hm : X.mg x = some (.ref f)) (hk : PySem.W.keepIn X.K (.ref f) = true) (hb : Binds X.K fd ps ds) (hd : Vals dvs ds) (tk : Takes X W)
    (hdb : (x == ("__debug__" : Str)) = false := by decide) : PE X (.Call (.Name x p) [] [] pos) (tCallG sp dvs W tNil) := by
  refine ⟨fun pins s σ H Q I h => ?_⟩
  refine wpAny_Call_Name_kw (ld_glob I hg hm ?_ hdb)
  refine PySem.W.callWith_K0 I.kIn hk ?_
  exact run_fnG F hr hgd hb hd tk I .nil h
end
/-! ### repr -/
mutual
/-- data without lists: dicts that are empty stand in it -/
inductive Dl (K : PySem.W.Frag) (H : Hp) : V → PyData → Prop
  | non : Dl K H .non .none
  | bl (b : Bool) : Dl K H (.bl b) (.bool b)
  | int (i : Int) : Dl K H (.int i) (.int i)
  | str (x : Str) : Dl K H (.str x) (.str x)
  | tup {a : Addr} {xs : List V} {ds : List PyData} : SqT K H a xs → DlAll K H xs ds → Dl K H (.ref a) (.tuple ds)
  | dict0 {a : Addr} : H a = some (.dK []) → Dl K H (.ref a) (.dict [])
inductive DlAll (K : PySem.W.Frag) (H : Hp) : List V → List PyData → Prop
  | nil : DlAll K H [] []
  | cons {v : V} {vs : List V} {d : PyData} {ds : List PyData} : Dl K H v d → DlAll K H vs ds → DlAll K H (v :: vs) (d :: ds)
end
section
variable {X : Cx} {pins : List (Addr × Obj)} {σ : St} {H : Hp} {s : Shared}
mutual
theorem Dp.noDict {K : PySem.W.Frag} {H : Hp} : ∀ (d : PyData) (v : V), Dp K H v d → d.hasDict = false
  | .none, _, _ => by simp only [PyData.hasDict]
  | .bool _, _, _ => by simp only [PyData.hasDict]
  | .int _, _, _ => by simp only [PyData.hasDict]
  | .str _, _, _ => by simp only [PyData.hasDict]
  | .list ds, _, h => by
    cases h with
    | lst _ ha =>
      simp only [PyData.hasDict]
      exact DpAll.noDict ds _ ha
  | .tuple ds, _, h => by
    cases h with
    | tup _ ha =>
      simp only [PyData.hasDict]
      exact DpAll.noDict ds _ ha
  | .dict _, _, h => by cases h
theorem DpAll.noDict {K : PySem.W.Frag} {H : Hp} : ∀ (ds : List PyData) (vs : List V), DpAll K H vs ds → PyData.hasDictAll ds = false
  | [], _, _ => by simp only [PyData.hasDictAll]
  | d :: ds, _, h => by
    cases h with
    | cons h1 h2 => simp only [PyData.hasDictAll, Dp.noDict d _ h1, DpAll.noDict ds _ h2, Bool.or_self]
end
mutual
theorem Dl.reads (I : Inv X pins σ H s) : ∀ (d : PyData) (v : V) (u : Value), Dl X.K H v d → RelV v u → ∃ as, Reads s.heap u d as ∧ sysModules ∉ as
  | .none, _, _, h, r => by
    cases h
    cases r
    exact ⟨_, Reads.none, fun h => nomatch h⟩
  | .bool b, _, _, h, r => by
    cases h
    cases r
    exact ⟨_, Reads.bool b, fun h => nomatch h⟩
  | .int i, _, _, h, r => by
    cases h
    obtain ⟨t, rfl⟩ := r
    exact ⟨_, Reads.int i t, fun h => nomatch h⟩
  | .str x, _, _, h, r => by
    cases h
    obtain ⟨t, rfl⟩ := r
    exact ⟨_, Reads.str x t, fun h => nomatch h⟩
  | .list ds, _, _, h, r => by cases h
  | .tuple ds, _, _, h, r => by
    cases h with
    | tup hs ha =>
      cases r
      obtain ⟨its, rv, ⟨o, ho, hc, n, hd⟩, _⟩ := I.tuple hs
      obtain ⟨as, hr, hz⟩ := Dl.readsAll I ds _ its ha rv
      exact ⟨_, Reads.tuple ho hc hd hr, hz⟩
  | .dict _, _, _, h, r => by
    cases h with
    | dict0 e =>
      cases r
      obtain ⟨_, hsm, vs, kv, o, es, ep, ho, hx, hd, _, hp, _⟩ := (show ObjOk X.prog X.w H s.heap _ (.dK []) from I.hok _ _ e)
      cases kv
      have hes : es.toList = [] := by
        cases hl : es.toList with
        | nil => rfl
        | cons a r =>
          rw [hl] at hp
          cases hp
      refine ⟨_, Reads.dict (as := []) (bs := []) ho hx.1 hd (by rw [hes]; exact .nil) (by rw [hes]; exact .nil), fun hm => ?_⟩
      simp only [List.append_nil, List.mem_singleton] at hm
      rw [← hm] at hsm
      simp at hsm
theorem Dl.readsAll (I : Inv X pins σ H s) : ∀ (ds : List PyData) (vs : List V) (us : List Value), DlAll X.K H vs ds → Vals vs us → ∃ as, ReadsAll s.heap us ds as ∧ sysModules ∉ as
  | [], _, _, h, r => by
    cases h
    cases r
    exact ⟨_, ReadsAll.nil, fun h => nomatch h⟩
  | d :: ds, _, _, h, r => by
    cases h with
    | cons h1 h2 =>
      cases r with
      | cons r1 r2 =>
        obtain ⟨as, q1, z1⟩ := Dl.reads I d _ _ h1 r1
        obtain ⟨bs, q2, z2⟩ := Dl.readsAll I ds _ _ h2 r2
        exact ⟨_, ReadsAll.cons q1 q2, fun hm => (List.mem_append.mp hm).elim z1 z2⟩
end
/-- data that repr shows -/
def Dt (K : PySem.W.Frag) (H : Hp) (v : V) (d : PyData) : Prop := Dp K H v d ∨ Dl K H v d
theorem Dt.reads (I : Inv X pins σ H s) {d : PyData} {v : V} {u : Value} (h : Dt X.K H v d) (r : RelV v u) : ∃ as, Reads s.heap u d as ∧ (d.hasDict = true → sysModules ∉ as) := by
  rcases h with h | h
  · exact let ⟨as, q⟩ := Dp.reads I _ _ _ h r; ⟨as, q, noDict_hsm (Dp.noDict _ _ h)⟩
  · exact let ⟨as, q, z⟩ := Dl.reads I _ _ _ h r; ⟨as, q, fun _ => z⟩
/-- repr(x) -/
def rRepr (K : PySem.W.Frag) : List V → Hp → VK → Prop := fun xs H Q => ∃ x d, xs = [x] ∧ Dt K H x d ∧ d.showable = true ∧ d.shown.length ≤ sizeLine ∧ d.depth ≤ 60 ∧ Q (.str d.shown) H
theorem call_repr (hu : X.A.units + 64 < cLine) (hgd : X.A.guards = some []) : CallR X (.builtin "repr") (rRepr X.K) := by
  intro pins s σ H xs us Q I r h
  obtain ⟨x, d, rfl, hd, hs, hz, hdp, q⟩ := h
  obtain ⟨u, rfl, rx⟩ := vals1 r
  obtain ⟨as, hr, hsm⟩ := hd.reads I rx
  cases hr with
  | none => exact PySem.P.repr_of_none ⟨.str _, H, I.tok _, ⟨_, rfl⟩, by simpa only [PyData.shown] using q⟩
  | bool b => exact PySem.P.repr_of_bool ⟨.str _, H, I.tok _, ⟨_, rfl⟩, by simpa only [PyData.shown] using q⟩
  | int i t => exact PySem.P.repr_of_int (by simpa [PyData.showable] using hs) ⟨.str _, H, I.tok _, ⟨_, rfl⟩, by simpa only [PyData.shown] using q⟩
  | str y t => exact PySem.P.repr_of_str ⟨.str _, H, I.tok _, ⟨_, rfl⟩, by simpa only [PyData.shown] using q⟩ (by simpa only [PyData.shown] using hz)
  | list h1 h2 h3 h4 => exact repr_of_reads' (.list h1 h2 h3 h4) hs hsm hgd (by omega) (fun _ _ e => e) (fun h' u tk k => ⟨.str _, H, I.kept (t' := tk) k, ⟨_, rfl⟩, q⟩) hz
  | tuple h1 h2 h3 h4 => exact repr_of_reads' (.tuple h1 h2 h3 h4) hs hsm hgd (by omega) (fun _ _ e => e) (fun h' u tk k => ⟨.str _, H, I.kept (t' := tk) k, ⟨_, rfl⟩, q⟩) hz
  | dict h1 h2 h3 h4 h5 => exact repr_of_reads' (.dict h1 h2 h3 h4 h5) hs hsm hgd (by omega) (fun _ _ e => e) (fun h' u tk k => ⟨.str _, H, I.kept (t' := tk) k, ⟨_, rfl⟩, q⟩) hz
end
end BJ
end L2

set_option Elab.async false
set_option linter.all false
set_option maxRecDepth 100000
set_option maxHeartbeats 4000000
namespace L2
namespace BJ
open PySem PySem.Spec PyProof.Rows
/-! ### enumerate(text) -/
def Ites (x : Str) : It := ⟨fun i _ => i < x.cps.size, fun i H v H' => ∃ T c, v = .ref T ∧ H T = none ∧ H' = upd H T (.tup [.int (i : Nat), .str ⟨#[c]⟩]) ∧ x.cps[i]? = some c, fun i _ => x.cps.size ≤ i⟩
theorem draws_str {prog : Program} {w : World} {A : Around} (hh : A.handled = none) (it : Addr) (x : Str) (t : Tok) :
    Draws prog w A it [it] x.cps.size (fun i v => ∃ c u, x.cps[i]? = some c ∧ v = .str ⟨#[c]⟩ u) (fun i h => h.IsStrIter it (strIterType x) x t i) := by
  unfold strIterType
  split
  · exact Draws.strAscii hh it x t
  · exact Draws.strWide hh it x t
theorem turn_enumS {P : Program} {w : World} {K : PySem.W.Frag} {elts : List Expr} {kk : Nat} {tpos : Pos} (x : Str) (t : Tok) (e it : Addr) :
    Turn P w K (.Tuple elts kk tpos) (Ites x) [e, it] e (fun i h => (∃ old, IsEnum h e it ((i : Nat) : Int) old) ∧ h.IsStrIter it (strIterType x) x t i ∧ e ≠ it ∧ i ≤ x.cps.size) where
  mem := by simp
  obj := fun i h st b hb => by
    obtain ⟨⟨old, he⟩, ⟨o, ho, hc, hd⟩, _⟩ := st
    have e' : b = e ∨ b = it := by simpa using hb
    rcases e' with z | z
    · rw [z]; exact ⟨_, he, fun v q => nomatch q⟩
    · rw [z]; exact ⟨o, ho, fun v q => by rw [hd] at q; cases q⟩
  keep := fun i h h' st k => let ⟨⟨old, he⟩, ⟨o, ho, r⟩, hne⟩ := st; ⟨⟨old, k e (by simp) _ he⟩, ⟨o, k it (by simp) o ho, r⟩, hne⟩
  item := by
    intro X hP hw hK hc i pins s σ H E I hf st hg
    subst hP hw hK
    obtain ⟨⟨old, he⟩, hit, hne, hle⟩ := st
    have hg' : i < x.cps.size := hg
    have hel : e < s.heap.objs.size := Heap.lt_size he
    have hil : it < s.heap.objs.size := by obtain ⟨_, q, _⟩ := hit; exact Heap.lt_size q
    refine wpAny_pyNext_enum_itemD (draws_str (by show X.A.in1.handled = none; exact I.ok.hd hc) it x t) he hit hg' hne (by simpa using hne) fun y h' tk hy ho hit' hT hsz hk => ?_
    obtain ⟨c, u, hcx, rfl⟩ := hy
    refine ⟨_, rfl, wpAny_letOwnedTupleGo_enum (s := { s with heap := h', toks := tk + 1 }) ho fun h'' he' sb => ?_⟩
    have hT2 : h''.get? s.heap.objs.size = some { cls := .type "tuple", data := .seq #[.int i tk, .str ⟨#[c]⟩ u] } := (sb.2 _ (Nat.ne_of_gt hel)).trans hT
    have new : ObjOk X.prog X.w (upd H s.heap.objs.size (.tup [.int (i : Nat), .str ⟨#[c]⟩])) h'' s.heap.objs.size (.tup [.int (i : Nat), .str ⟨#[c]⟩]) :=
      ⟨by show 2 ≤ sizeLine; decide, [.int i tk, .str ⟨#[c]⟩ u], .cons ⟨_, rfl⟩ (.cons ⟨_, rfl⟩ .nil), ⟨_, hT2, rfl, _, rfl⟩⟩
    have I1 : Inv X pins σ (upd H s.heap.objs.size (.tup [.int (i : Nat), .str ⟨#[c]⟩])) { s with heap := h'', toks := tk + 1 } :=
      I.turnedNew (ch := [e, it]) (fun b ob hb q => (sb.2 b (fun z => hb (by simp [z]))).trans (hk b ob (fun z => hb (by simp [z])) (fun z => hb (by simp [z])) q)) hf (Nat.le_refl _) new
    refine ⟨.ref s.heap.objs.size, _, I1, rfl, ⟨_, c, rfl, I.hok.fresh (Nat.le_refl _), rfl, hcx⟩, ⟨⟨.str ⟨#[c]⟩ u, ?_⟩, ?_, hne, hg'⟩, fun b hb => ?_⟩
    · have e1 : ((i + 1 : Nat) : Int) = (i : Int) + 1 := by omega
      rw [e1]; exact he'
    · obtain ⟨o, ho', r⟩ := hit'
      exact ⟨o, (sb.2 it (Ne.symm hne)).trans ho', r⟩
    · have hb' : b < s.heap.objs.size := by
        have e' : b = e ∨ b = it := by simpa using hb
        rcases e' with z | z
        · rw [z]; exact hel
        · rw [z]; exact hil
      rw [upd_ne (Nat.ne_of_lt hb')]
      exact (hf b hb).1
  done := by
    intro X hP hw hK hc i pins s σ H E I hf st hg
    subst hP hw hK
    obtain ⟨⟨old, he⟩, hit, hne, hle⟩ := st
    obtain ⟨f0, f1, f2, f3, f4, f5⟩ := hf it (by simp)
    have hg' : x.cps.size ≤ i := hg
    have hi : i = x.cps.size := by omega
    subst hi
    exact wpAny_pyNext_enum_endD (draws_str (by show X.A.in1.handled = none; exact I.ok.hd hc) it x t) he hit fun h' eb => ⟨rfl, I.turned (t' := s.toks) (fun b o hb q => eb b o hb q) f0 f1 f3 f4 f5⟩
  self := fun A i s Q E st h => let ⟨⟨_, he⟩, _⟩ := st; wpAny_pyIter_enum he h
def iEnumS (ta : TA) : TI := fun σ H R => ta σ H fun vs H1 => ∃ x, vs = [.str x] ∧ R (Ites x) H1
theorem pi_enumS {X : Cx} {e : Expr} {ta : TA} {p pos tpos : Pos} {elts : List Expr} {kk : Nat} (hg : Gl X "enumerate") (hm : X.mg "enumerate" = none) (ha : PA X [e] ta) (hs : starEach [e] X.env = [(false, eval e X.env)] := by rfl) :
    PI X (.Tuple elts kk tpos) (.Call (.Name "enumerate" p) [e] [] pos) (iEnumS ta) := by
  refine ⟨fun pins s σ H R I h => ?_⟩
  refine Call_ (ld_blt I hg hm boot_enumerate (PyProof.Rows.callWith_type1 (thn (ha.run pos pins s σ H _ I h) fun us s1 ⟨vs, H1, I1, r1, q1⟩ => ?_) hs rfl))
  obtain ⟨x, ex, q⟩ := q1
  subst ex
  cases r1 with
  | cons r rr =>
    cases rr
    obtain ⟨t, rfl⟩ := r
    refine call_enumerate_str fun h' he hit hsz hk => wpAny_pyIter_enum he ?_
    have I2 : Inv X pins σ H1 { s1 with heap := h' } := I1.kept (t' := s1.toks) hk
    refine ⟨s1.heap.objs.size + 1, [s1.heap.objs.size + 1, s1.heap.objs.size], _, _, H1, rfl, I2, turn_enumS x t (s1.heap.objs.size + 1) s1.heap.objs.size, ⟨⟨.none, he⟩, hit, Nat.succ_ne_self _, Nat.zero_le _⟩, fun b hb => ?_, q⟩
    have e' : b = s1.heap.objs.size + 1 ∨ b = s1.heap.objs.size := by simpa using hb
    have hle : s1.heap.objs.size ≤ b := by
      rcases e' with z | z
      · rw [z]; exact Nat.le_add_right _ _
      · rw [z]; exact Nat.le_refl _
    exact I1.fpOk hle (I1.hok.fresh hle)
theorem walk_enumS {z : Str} : Walk (Ites z) z.cps.size (fun _ => True) (YPair (fun i => some (.int (i : Nat))) (fun i => z.cps[i]?.map fun c => .str ⟨#[c]⟩)) := by
  refine ⟨fun i _ hi _ => hi, fun _ _ => Nat.le_refl _, fun i H v H' _ _ y => ?_⟩
  obtain ⟨T, c, h1, h2, h3, h4⟩ := y
  exact ⟨T, .int (i : Nat), .str ⟨#[c]⟩, h1, h2, h3, rfl, by simp [h4]⟩
/-! ### xs[lo:hi:step] of a list -/
def pickV (xs : List V) (lo hi st : Option Int) : List V := (sliceRange (sliceBounds lo hi st xs.length).1 (sliceBounds lo hi st xs.length).2.1 (sliceBounds lo hi st xs.length).2.2).filterMap (xs[·]?)
def tSl3 (K : PySem.W.Frag) (te : TE) (tl th ts : TO) : TE := fun σ H Q => te σ H fun x H1 => tl σ H1 fun l H2 => th σ H2 fun u H3 => ts σ H3 fun st H4 => ∃ a xs, x = .ref a ∧ SqL K H4 a xs ∧ st ≠ some 0 ∧ (pickV xs l u st).length ≤ sizeLine ∧ ∀ p, H4 p = none → Q (.ref p) (upd H4 p (.lst (pickV xs l u st)))
theorem vals_pick {xs : List V} {its : List Value} (r : Vals xs its) : ∀ (is : List Nat), Vals (is.filterMap (xs[·]?)) (is.filterMap (its.toArray[·]?))
  | [] => .nil
  | i :: is => by
    cases e : xs[i]? with
    | none =>
      have e2 : its.toArray[i]? = none := by simpa using r.none_of e
      rw [List.filterMap_cons_none e, List.filterMap_cons_none e2]
      exact vals_pick r is
    | some x =>
      obtain ⟨u, hu, ru⟩ := r.get e
      have e2 : its.toArray[i]? = some u := by simpa using hu
      rw [List.filterMap_cons_some e, List.filterMap_cons_some e2]
      exact .cons ru (vals_pick r is)
theorem pe_sl3 {X : Cx} {e : Expr} {lo hi : Option Expr} {st : Expr} {te : TE} {tl th ts : TO} {p2 pos : Pos} (he : PE X e te) (hl : PO X lo tl) (hu : PO X hi th) (hst : PO X (some st) ts) : PE X (.Subscript e (.Slice lo hi (some st) p2) pos) (tSl3 X.K te tl th ts) := by
  refine ⟨fun pins s σ H Q I h => ?_⟩
  refine Subscript_ (thn (he.run pins s σ H _ I h) fun v s1 ⟨x, H1, I1, r1, q1⟩ => ?_)
  refine wpAny_Slice (thn (hl.run pins s1 σ H1 _ I1 q1) fun vl s2 ⟨l, H2, I2, pl, q2⟩ => thn (hu.run pins s2 σ H2 _ I2 q2) fun vu s3 ⟨u, H3, I3, pu, q3⟩ => thn (hst.run pins s3 σ H3 _ I3 q3) fun vs s4 ⟨o, H4, I4, ps, q4⟩ => ?_)
  obtain ⟨a, xs, ex, hx, h0, hz2, q⟩ := q4
  subst ex
  cases r1
  have I5 : Inv X pins σ H4 { s4 with heap := s4.heap.push { cls := .type "slice", data := .fields #[vl, vu, vs] } } := I4.kept (t' := s4.toks) fun b ob q => Heap.get?_push_of_some _ q
  obtain ⟨its, r, ht, hz⟩ := I5.list hx
  have hlen := r.length
  show wpAny (model X.prog X.w) X.A (subscriptTail e (.Slice lo hi (some st) p2) (.ref a) (.ref s4.heap.objs.size)) (EP X pins σ Q) X.xe { s4 with heap := s4.heap.push { cls := .type "slice", data := .fields #[vl, vu, vs] } }
  refine tail_any (ops := [.ref a, .ref s4.heap.objs.size]) ht.isList.typeIs (PySem.slot_list_getitem.lookup) ?_ (by with_unfolding_all rfl)
  refine wpAny_getItem_list_slice ht.isList (Heap.IsSliceOf.new _ vl vu vs) pl pu ps h0 ?_ (by rw [List.size_toArray]; omega)
  have e1 : slicePick its.toArray l u o = ((sliceRange (sliceBounds l u o xs.length).1 (sliceBounds l u o xs.length).2.1 (sliceBounds l u o xs.length).2.2).filterMap (its.toArray[·]?)).toArray := by
    unfold slicePick
    rw [List.size_toArray, ← hlen]
  rw [e1]
  refine ⟨.ref _, _, I5.laid (t' := s4.toks) (o := .lst (pickV xs l u o)) (fun b ob q => Heap.get?_push_of_some _ q) (Nat.le_refl _) ?_, rfl, q _ (I5.hok.fresh (Nat.le_refl _))⟩
  exact ⟨hz2, _, 0, vals_pick r _, Heap.get?_push_size _ rfl⟩
end BJ
end L2

set_option Elab.async false
set_option linter.all false
set_option maxRecDepth 100000
set_option maxHeartbeats 4000000
namespace L2
namespace BJ
open PySem PySem.Spec PyProof.Rows
/-! ### operators: text * int, list + list (read ones), tuple * int (long ones) -/
theorem lstAdd (l : Addr) (items : Array Value) (n : Nat) (sl : Array (Option Value)) (b : Addr) (items2 : Array Value) (n2 : Nat) (sl2 : Array (Option Value)) (hz : items.size + items2.size ≤ sizeLine) :
    Meets (Builtin.«list.__add__» ⟨[.ref l, .ref b], []⟩) (fun _ R s => s.heap.get? l = some { cls := .type "list", dict := none, data := .seq items n, slots := sl } ∧ s.heap.get? b = some { cls := .type "list", dict := none, data := .seq items2 n2, slots := sl2 } ∧
      R (.ok (.ret (Value.ref s.heap.objs.size))) { s with heap := s.heap.push { cls := Value.type "list", data := Data.seq (items ++ items2) }, toks := s.toks }) :=
  .of_wp fun prog w A R s h => by
    obtain ⟨hp, g, d, tk, os⟩ := s
    obtain ⟨hl, hb, h⟩ := h
    have f1 := AutoSeq1.idx_int
    have f2 := AutoSeq1.sub_tuple_tuple
    have f3 := AutoSeq1.sub_list_list
    have f4 := AutoSeq1.sub_tuple_list
    have f5 := AutoSeq1.sub_list_tuple
    wp_walk using wpAny_loadPart' hl, wpAny_loadPart' hb
    exact ⟨_, rfl, h⟩
def rCatR (K : PySem.W.Frag) : R2 := fun x y H Q => ∃ l b xs zs, x = .ref l ∧ y = .ref b ∧ SqL K H l xs ∧ SqL K H b zs ∧ xs.length + zs.length ≤ sizeLine ∧ ∀ p, H p = none → Q (.ref p) (upd H p (.lst (xs ++ zs)))
section
variable {X : Cx}
theorem op_catR : OpR X (binaryOp .Add) (rCatR X.K) := by
  intro pins s σ H x y v u Q I rx ry h
  obtain ⟨l, b, xs, zs, rfl, rfl, hH, hB, hz, q⟩ := h
  cases rx
  cases ry
  obtain ⟨its, r, ⟨⟨c1, d1, dt1, s1⟩, n, e1, hc1, hd1, hs1⟩, _⟩ := I.list hH
  obtain ⟨its2, r2, ⟨⟨c2, d2, dt2, s2⟩, n2, e2, hc2, hd2, hs2⟩, _⟩ := I.list hB
  simp only at hc1 hd1 hs1 hc2 hd2 hs2
  subst hc1 hd1 hs1 hc2 hd2 hs2
  have hl := r.length
  have hl2 := r2.length
  have hz2 : its.toArray.size + its2.toArray.size ≤ sizeLine := by rw [List.size_toArray, List.size_toArray]; omega
  refine concat_meets ⟨_, e1, rfl⟩ ⟨_, e2, rfl⟩ noFill_list_add seq_list_add F.slot_list_add F.entry_list_add (F.args_list_add_2 _ _) (lstAdd l its.toArray n _ b its2.toArray n2 _ hz2) ⟨e1, e2, ?_⟩
  have ea : its.toArray ++ its2.toArray = (its ++ its2).toArray := by simp
  rw [ea]
  exact ⟨.ref _, _, I.lnew (t' := s.toks) (r.append r2) (by rw [List.length_append]; omega), rfl, q _ I.fresh⟩
/-- text * int -/
def rRepS : R2 := fun x y H Q => ∃ (z : Str) (k : Int), x = .str z ∧ y = .int k ∧ 2 ≤ k ∧ k ≤ 1000000 ∧ 1 ≤ z.length ∧ z.length ≤ 10 ∧ Q (.str ⟨(List.replicate k.toNat z.cps).foldl (· ++ ·) #[]⟩) H
theorem len_repS (c : Array Nat) : ∀ (n : Nat) (a : Array Nat), ((List.replicate n c).foldl (· ++ ·) a).size = a.size + n * c.size
  | 0, a => by simp
  | n + 1, a => by
    rw [List.replicate_succ, List.foldl_cons, len_repS c n, Array.size_append, Nat.succ_mul]
    omega
theorem op_repS : OpR X (binaryOp .Mult) rRepS := by
  intro pins s σ H x y v u Q I rx ry h
  obtain ⟨z, k, rfl, rfl, h1, h2, h3, h4, q⟩ := h
  obtain ⟨t, rfl⟩ := rx
  obtain ⟨t2, rfl⟩ := ry
  have hk : z.length * k.toNat ≤ 10 * 1000000 := Nat.mul_le_mul h4 (by omega)
  refine PySem.P.mul_str (by rw [decide_eq_false (by omega), decide_eq_false (by omega)] <;> rfl) (fun _ _ => ?_) (fun _ _ => ?_) ?_
  · have e : (z.length : Int) ≤ 10 := by omega
    have e2 : (2 ^ 63 - 1 : Int) / k ≥ 1000 := by
      refine (Int.le_ediv_iff_mul_le (by omega)).mpr ?_
      omega
    omega
  · unfold Builtin.Str.tooLong
    rw [sizeLine_eq]
    exact decide_eq_false (by omega)
  · have n1 : ¬ k < 1 := by omega
    have n2 : ¬ (k == 1 || z.length == 0) = true := by
      rw [Bool.or_eq_true, beq_iff_eq, beq_iff_eq]
      omega
    rw [if_neg n1, if_neg n2]
    refine ⟨?_, ⟨.str _, H, I.tok _, ⟨_, rfl⟩, q⟩⟩
    have e : Str.length ⟨(List.replicate k.toNat z.cps).foldl (· ++ ·) #[]⟩ = k.toNat * z.cps.size := by
      show ((List.replicate k.toNat z.cps).foldl (· ++ ·) #[]).size = _
      rw [len_repS]
      simp
    have e2 : z.cps.size = z.length := rfl
    rw [e, e2, sizeLine_eq, Nat.mul_comm]
    omega
/-- tuple * int, one item, up to 100,000 -/
def rRepT1 (K : PySem.W.Frag) : R2 := fun x y H Q => ∃ l k y1, x = .ref l ∧ y = .int k ∧ SqT K H l [y1] ∧ 2 ≤ k ∧ k ≤ 100000 ∧ ∀ p, H p = none → Q (.ref p) (upd H p (.tup (List.replicate k.toNat y1)))
theorem flat_rep1 {α : Type} (x : α) : ∀ n : Nat, (List.replicate n [x]).flatten = List.replicate n x
  | 0 => rfl
  | n + 1 => by
    rw [List.replicate_succ, List.flatten_cons, flat_rep1 x n, List.replicate_succ]
    rfl
theorem op_repT1 : OpR X (binaryOp .Mult) (rRepT1 X.K) := by
  intro pins s σ H x y v u Q I rx ry h
  obtain ⟨l, k, y1, rfl, rfl, hT, h1, h2, q⟩ := h
  cases rx
  obtain ⟨t, rfl⟩ := ry
  obtain ⟨its, r, ⟨⟨cls, dd, data, sl⟩, ho, hc, n, hd⟩, hs⟩ := I.tuple hT
  simp only at hc hd
  subst hc hd
  cases r with
  | cons r1 rr =>
    cases rr
    rename_i v1
    have hsz0 : ([v1].toArray).size = 1 := rfl
    have hi : ([v1].toArray).isEmpty = false := rfl
    have hm : ((([v1].toArray).size : Nat) : Int) * k = k := by
      rw [hsz0]
      omega
    have flen : (List.replicate k.toNat [v1]).flatten.length ≤ sizeLine := by
      rw [flat_rep1, List.length_replicate, sizeLine_eq]
      omega
    have c0 : (decide (k < -(2 ^ 63)) || decide (k ≥ 2 ^ 63)) = false := by
      rw [decide_eq_false (by omega), decide_eq_false (by omega)] <;> rfl
    have c1 : (([v1].toArray).isEmpty || k == 1) = false := by
      rw [hi, Bool.false_or]
      exact beq_eq_false_iff_ne.mpr (by omega)
    have c2 : (decide (k ≤ 0) || ([v1].toArray).isEmpty) = false := by
      rw [hi, Bool.or_false]
      exact decide_eq_false (by omega)
    have c4 : Builtin.Tuple.tupleTooMany (((([v1].toArray).size : Nat) : Int) * k) = false := by
      rw [hm]
      unfold Builtin.Tuple.tupleTooMany
      rw [sizeLine_eq]
      exact decide_eq_false (by omega)
    refine wpAny_binaryOp_repeat_ref (T := "tuple") (U := "int") (by decide) ⟨_, ho, rfl⟩ (fun s' => typeIs_int s' k t) noFill_tuple_mul F.fills_int_mul F.slot_int_rmul repeat_tuple F.slot_int_index.lookup
      (call_meets F.slot_int_rmul (typeIs_int s k t) F.entry_int_rmul (F.args_int_rmul_2 _ _) (int_rmul_tuple k t l [v1].toArray n dd sl)
        ⟨ho, rfl, ⟨_, ho, rfl⟩, call_meets F.slot_tuple_mul ⟨_, ho, rfl⟩ F.entry_tuple_mul (F.args_tuple_mul_2 _ _) (tuple_mulW l [v1].toArray n dd sl k t c0 c1 c2 (by rw [hm]; omega) c4 (by rw [size_rep, List.size_toArray]; exact flen)) ⟨ho, ?_⟩⟩)
    rw [size_rep]
    refine ⟨.ref s.heap.objs.size, _, I.laid (t' := s.toks) (o := .tup (List.replicate k.toNat y1)) (fun b ob q => Heap.get?_push_of_some _ q) (Nat.le_refl _) ?_, rfl, q _ (I.hok.fresh (Nat.le_refl _))⟩
    have r3 : Vals (List.replicate k.toNat y1) (List.replicate k.toNat [v1]).flatten := by
      have z := (show Vals [y1] [v1] from .cons r1 .nil).rep k.toNat
      rw [flat_rep1 y1] at z
      exact z
    exact ⟨by rw [List.length_replicate, sizeLine_eq]; omega, _, r3, IsTup.new _ _⟩
end
/-! ### calls by keyword alone -/
section
variable {X : Cx} {k : Nat} {f : Addr} {fd : FuncData} {ps ks : List Str} {sp : Sp} {W : WX} {x : Str} {p pos : Pos} {kws : List Keyword} {tk : TA} {g : List Value → List Value → List Value} {gV : List V → List V → List V}
def tCallGK (sp : Sp) (gV : List V → List V → List V) (W : WX) (tk : TA) : TE := fun σ H Q => tk σ H fun zs H2 => sp (gV [] zs) H2 Q (fun cls d H' => W cls d σ H')
theorem pe_callGK (F : FnG X.prog X.w X.K X.mg X.base k f fd ps sp) (hr : Room k X.A) (hgd : X.A.guards = some []) (hg : Gl X x) (hm : X.mg x = some (.ref f)) (hk : PySem.W.keepIn X.K (.ref f) = true) (hb : KBinds X.K fd ps ks g gV) (tkk : Takes X W)
    (hkw : PK X kws tk) (hall : (backToKw pos (keywordEach kws X.env)).all (·.1.isSome) = true := by rfl) (hks : (backToKw pos (keywordEach kws X.env)).filterMap (·.1) = ks := by rfl)
    (hdb : (x == ("__debug__" : Str)) = false := by decide)
    (hpl : ((backTo pos (starEach [] X.env)).any (·.1) || (backToKw pos (keywordEach kws X.env)).any (·.1.isNone)) = false := by rfl) :
    PE X (.Call (.Name x p) [] kws pos) (tCallGK sp gV W tk) := by
  refine ⟨fun pins s σ H Q I h => ?_⟩
  refine wpAny_Call_Name_kw (ld_glob I hg hm ?_ hdb)
  refine PySem.W.callWith_KW0 (h₀ := X.base) I.ok.mod.kin hk hall ?_ hpl
  refine thn (hkw.run pos pins s σ H _ I h) fun ws s2 ⟨zs, H2, I2, rz, q2⟩ => ⟨I2.kIn, ?_⟩
  rw [hks]
  have r2 := hb.rel (vs := []) (us := []) .nil rz
  have hl : (g [] ws).length = ps.length := by rw [← r2.length]; exact F.len _ _ _ _ q2
  refine wpAny_call (codeAny_mono (F.run X.A X.stack s2 H2 ⟨[], ks.zip ws⟩ (g [] ws) (gV [] zs) Q _ hr hgd I2.env0 (hb.to s2 [] ws I2.kIn hl) r2 q2) fun r s' hq => ?_)
  cases r with
  | error e => exact passAt tkk σ pins H2 s2 e s' I2 hq
  | ok fl =>
    cases fl with
    | ret u => exact I2.after hq
    | next => exact False.elim hq
    | brk => exact False.elim hq
    | cont => exact False.elim hq
end
/-! ### the end -/
theorem law_callG {P : Program} {w : World} {K : PySem.W.Frag} {mg mb : Str → Option Value} {k : Nat} {fa a : Addr} {fd : FuncData} {x : Str} {sp : Sp} {s₁ : Shared} {vs : List Value} {ns : List Int}
    (KX : K.In s₁.heap) (hns : s₁.heap.Ns mainGlobals mg) (hb : s₁.heap.Ns builtinsNs mb) (hbb : ∀ x : Str, x ≠ "__name__" → mb x = bootBuiltins x) (hlim : s₁.heap.NoLimit) (hg : s₁.gens = #[])
    (ha : s₁.heap.get? a = some { cls := .type "list", data := .seq vs.toArray }) (hi : IntsAre vs ns) (hl : ns.length ≤ sizeLine) (hr : Room k callerA)
    (F : ∀ base : Heap, K.In base → base.Ns mainGlobals mg → FnG P w K mg base k fa fd [x] sp) (hbind : ∀ (s : Shared) (u : Value), BindsTo s fd ⟨[u], []⟩ [(x, u)])
    (hsp : ∀ H : Hp, Only H → SqL K H a (ns.map V.int) → sp [.ref a] H (fun v _ => v = .bl true) fun _ _ _ => False) :
    codeAny (model P w) callerA (.call (.ref fa) ⟨[.ref a], []⟩) (fun r s' => r = .ok (.ret (.bool true)) ∧ OldK s₁.heap s'.heap ∧ s'.os = s₁.os ∧ AllBare s'.gens) s₁ := by
  have rv := vals_ints hi
  have lenV := hi.length
  have core : ∀ H : Hp, Only H → SqL K H a (ns.map V.int) → HOk P w H s₁.heap → (∀ b, H b ≠ none → b = a) → (H a ≠ none → K.lookup a = none) →
      codeAny (model P w) callerA (.call (.ref fa) ⟨[.ref a], []⟩) (fun r s' => r = .ok (.ret (.bool true)) ∧ OldK s₁.heap s'.heap ∧ s'.os = s₁.os ∧ AllBare s'.gens) s₁ := by
    intro H hO hS hok hA hK
    have tr : ∀ {b : Addr}, (¬ b = a) → H b = none := fun {b} hn => by
      cases q : H b with
      | none => rfl
      | some u => exact absurd (hA b (by rw [q]; simp)) hn
    have base_of : ∀ {b : Addr} {o : Obj}, s₁.heap.get? b = some o → H b = none → (hidT s₁.heap H).get? b = some o := fun e n => hidT_get e n
    have noA : ∀ {b : Addr} {o : Obj} {es : Array DictEntry} {ep : Nat}, s₁.heap.get? b = some o → o.data = .dict es ep → H b = none := fun {b o es ep} e d => tr fun z => by
      rw [z, ha] at e
      cases e
      have d' : Data.seq vs.toArray _ = Data.dict es ep := d
      cases d'
    have nsK : ∀ {b : Addr} {m : Str → Option Value}, s₁.heap.Ns b m → (hidT s₁.heap H).Ns b m := fun {b m} ⟨o, es, ep, e, d, r⟩ => ⟨o, es, ep, base_of e (noA e d), d, r⟩
    have hKb : K.In (hidT s₁.heap H) := fun b o e => base_of (KX b o e) (by
      by_cases z : b = a
      · cases q : H b with
        | none => rfl
        | some u =>
          rw [z] at q e
          rw [hK (by rw [q]; simp)] at e
          cases e
      · exact tr z)
    have hM : Mod K mg (hidT s₁.heap H) := ⟨hKb, nsK hns, ⟨mb, nsK hb, hbb⟩, let ⟨mc, h1, h2⟩ := hlim; ⟨mc, nsK h1, h2⟩⟩
    have e0 : Env0 P w K mg (hidT s₁.heap H) callerA [] s₁ H := ⟨rfl, hM, fun b o e => of_hidT e, Nat.le_of_eq (hidT_size _ _), trivial, fun b hb => absurd (show b ∈ ([] : List Addr) from hb) (by simp), hok, .of_eq hg⟩
    have rn := (F _ hKb (nsK hns)).run callerA [] s₁ H ⟨[.ref a], []⟩ [.ref a] [.ref a] _ _ hr rfl e0 (hbind s₁ (.ref a)) (.cons rfl .nil) (hsp H hO hS)
    refine codeAny_mono rn fun r s' h => ?_
    match r, h with
    | .error e, h =>
      obtain ⟨_, _, _, _, _, _, _, _, _, _, _, _, z⟩ := h
      exact z.elim
    | .ok .next, h => exact False.elim h
    | .ok .brk, h => exact False.elim h
    | .ok .cont, h => exact False.elim h
    | .ok (.ret u), h =>
      obtain ⟨v, H', os, bare, un, hok', r', q⟩ := h
      have q' : v = .bl true := q
      subst q'
      obtain rfl : u = Value.bool true := r'
      refine ⟨rfl, OldK.of_keep fun b o e => ?_, os, bare⟩
      cases q : H b with
      | none => exact un.keep b o e q (by intro z; exact absurd (show b ∈ ([] : List Addr) from z) (by simp)) (by simp)
      | some u =>
        obtain z | ⟨ob, xs, z⟩ := hO b
        · rw [q] at z; cases z
        · have z2 := un.frzs b ob _ z
          have e1 := (hok b _ z).1
          rw [e] at e1
          cases e1
          exact (hok' b _ z2).1
  by_cases hk : K.lookup a = none
  · refine core (fun b => if b = a then some (.frz { cls := .type "list", data := .seq vs.toArray } (.lst (ns.map V.int))) else none) (fun b => ?_) (.inl (.inr ⟨{ cls := .type "list", data := .seq vs.toArray }, if_pos rfl⟩)) (fun b u z => ?_) (fun b z => ?_) fun _ => hk
    · by_cases hb : b = a
      · exact .inr ⟨_, _, if_pos hb⟩
      · exact .inl (if_neg hb)
    · by_cases hb : b = a
      · have z' := (if_pos hb).symm.trans z
        cases z'
        subst hb
        exact ⟨ha, by rw [List.length_map]; exact hl, vs, _, rv, ha⟩
      · have z' := (if_neg hb).symm.trans z
        cases z'
    · by_cases hb : b = a
      · exact hb
      · exact absurd (if_neg hb) z
  · obtain ⟨o, ho⟩ := Option.ne_none_iff_exists'.mp hk
    have e := KX a o ho
    rw [ha] at e
    cases e
    exact core (fun _ => none) (fun _ => .inl rfl) (.inr ⟨_, vs.toArray, _, ho, rfl, rfl, rfl, by rw [List.size_toArray, lenV]; exact hl, by simpa using rv⟩) (fun b u z => by have z' : (none : Option HO) = some u := z; cases z') (fun b z => absurd rfl z) fun z => absurd rfl z
/-- the goal that k_head leaves -/
theorem walk_ofG {l : PySem.W.OpenLaw} {n k : Nat} {q : Program} {loose : List Str} {XP : (Str → Option Value) → Heap → Prop} {YP : World → Heap → Prop} {d : DefRec} {K : Params → PySem.W.Frag} {sp : World → Sp} {x : Str}
    (hn : l.most = some n) (hn2 : n ≤ sizeLine) (hdf : d.params.defaults = []) (hr : Room k callerA)
    (hY : ∀ (w : World) (h : Heap), YP w h → (K w.params).In h)
    (F : ∀ (w : World) (mg : Str → Option Value) (fa : Addr) (h : Heap), (K w.params).In h → h.Ns mainGlobals mg → mg d.name = some (.ref fa) →
      ∃ fd : FuncData, (∀ (s : Shared) (u : Value), BindsTo s fd ⟨[u], []⟩ [(x, u)]) ∧
        ∀ base : Heap, (K w.params).In base → base.Ns mainGlobals mg → FnG l.prog w (K w.params) mg base k fa fd [x] (sp w))
    (hsp : ∀ (w : World) (H : Hp) (a : Addr) (ns : List Int), ns.length ≤ n → Only H → SqL (K w.params) H a (ns.map V.int) → sp w [.ref a] H (fun v _ => v = .bl true) fun _ _ _ => False) :
    PySem.W.WalkO q loose XP YP l.row.toRowW d [] (fun f vs => PySem.call f vs) := by
  refine Att.attach_call hn hdf fun w s₀ s₁ mg mb fa o pm cd doc a vs ns G Y ho hd hcd hmg hobj hints hlen hg => ?_
  have KX := hY w _ Y
  obtain ⟨fd, hb, hF⟩ := F w mg fa _ KX G.T.g hmg
  exact law_callG KX G.T.g G.T.b G.T.builtins G.T.nolimit hg hobj hints (Nat.le_trans hlen hn2) hr hF hb fun H hO hS => hsp w H a ns hlen hO hS
end BJ
end L2

set_option Elab.async false
set_option linter.all false
set_option maxRecDepth 100000
set_option maxHeartbeats 4000000
namespace B59
open PySem PySem.Spec PyProof.Rows L2 L2.BJ
/-! ### digits -/
def hexS : Str := "0123456789abcdef"
def hexL : List Nat := hexS.cps.toList
def unhx (c : Nat) : Nat := hexL.idxOf c
def hx (n : Nat) : Nat := hexL.getD n 0
theorem hexL_len : hexL.length = 16 := by decide +kernel
theorem hexL_eq : hexL = [48, 49, 50, 51, 52, 53, 54, 55, 56, 57, 97, 98, 99, 100, 101, 102] := by decide +kernel
theorem unhx_le (c : Nat) : unhx c ≤ 16 := by
  have h := List.idxOf_le_length (a := c) (l := hexL)
  rw [hexL_len] at h
  exact h
theorem index0_all : (hexL.all fun c => decide (Txt.index0 hexS ⟨#[c]⟩ = some (unhx c))) = true := by decide +kernel
theorem index0_of {c : Nat} (h : c ∈ hexL) : Txt.index0 hexS ⟨#[c]⟩ = some (unhx c) := by
  have z := List.all_eq_true.mp index0_all c h
  exact of_decide_eq_true z
theorem hx_in {n : Nat} (h : n < 16) : hexL[n]? = some (hx n) := by
  unfold hx
  rw [List.getD_eq_getElem?_getD, List.getElem?_eq_getElem (by rw [hexL_len]; exact h)]
  rfl
theorem hx_mem {n : Nat} (h : n < 16) : hx n ∈ hexL := List.mem_of_getElem? (hx_in h)
theorem unhx_all : ((List.range 16).all fun n => decide (unhx (hx n) = n)) = true := by decide +kernel
theorem unhx_hx {n : Nat} (h : n < 16) : unhx (hx n) = n := of_decide_eq_true (List.all_eq_true.mp unhx_all n (List.mem_range.mpr h))
/-! ### the answer -/
def prs : List Nat → List Nat
  | a :: b :: r => (16 * unhx a + unhx b) :: prs r
  | _ => []
theorem prs_len : ∀ cs : List Nat, (prs cs).length = cs.length / 2
  | [] => rfl
  | [_] => by simp [prs]
  | a :: b :: r => by
    simp only [prs, List.length_cons, prs_len r]
    omega
theorem prs_get : ∀ (cs : List Nat) (i : Nat) (a b : Nat), cs[2 * i]? = some a → cs[2 * i + 1]? = some b → (prs cs)[i]? = some (16 * unhx a + unhx b)
  | [], i, _, _, h, _ => by simp at h
  | [x], i, _, _, h, h2 => by
    have z := (List.getElem?_eq_some_iff.mp h2).1
    simp at z
  | x :: y :: r, 0, a, b, h, h2 => by
    simp at h h2
    subst h h2
    rfl
  | x :: y :: r, i + 1, a, b, h, h2 => by
    have e1 : 2 * (i + 1) = 2 * i + 1 + 1 := by omega
    rw [e1] at h h2
    simp only [List.getElem?_cons_succ] at h h2
    simp only [prs, List.getElem?_cons_succ]
    exact prs_get r i a b h h2
theorem prs_lt : ∀ (cs : List Nat) (n : Nat), n ∈ prs cs → n ≤ 272
  | [], n, h => by simp [prs] at h
  | [_], n, h => by simp [prs] at h
  | a :: b :: r, n, h => by
    simp only [prs, List.mem_cons] at h
    obtain rfl | h := h
    · have h1 := unhx_le a
      have h2 := unhx_le b
      omega
    · exact prs_lt r n h
def isBad (c : Nat) : Bool := !decide (c ∈ hexL)
/-- where the text is wrong, or its stream -/
def res (cs : List Nat) : Sum Nat (List Nat) := match cs.findIdx? isBad with
  | some k => .inl k
  | none => if cs.length % 2 = 1 then .inl cs.length else if 100000 < cs.length then .inl 100000 else .inr (prs cs)
def hexCs (ns : List Nat) : List Nat := ns.flatMap fun n => [hx (n / 16), hx (n % 16)]
def hexText (ns : List Nat) : Str := ⟨(hexCs ns).toArray⟩
theorem hexCs_len (ns : List Nat) : (hexCs ns).length = 2 * ns.length := by
  induction ns with
  | nil => rfl
  | cons a r ih =>
    simp only [hexCs, List.flatMap_cons, List.length_append, List.length_cons, List.length_nil] at *
    omega
theorem hexCs_in {ns : List Nat} (h : ∀ n ∈ ns, n < 256) : ∀ c ∈ hexCs ns, c ∈ hexL := fun c hc => by
  obtain ⟨n, hn, h2⟩ := List.mem_flatMap.mp hc
  have z := h n hn
  simp only [List.mem_cons, List.not_mem_nil, or_false] at h2
  obtain rfl | rfl := h2
  · exact hx_mem (by omega)
  · exact hx_mem (by omega)
theorem prs_hex : ∀ {ns : List Nat}, (∀ n ∈ ns, n < 256) → prs (hexCs ns) = ns
  | [], _ => rfl
  | n :: r, h => by
    have z := h n List.mem_cons_self
    show prs (hx (n / 16) :: hx (n % 16) :: hexCs r) = n :: r
    rw [prs, prs_hex fun m hm => h m (List.mem_cons_of_mem _ hm), unhx_hx (by omega), unhx_hx (by omega)]
    congr 1
    omega
theorem noBad_of {cs : List Nat} (h : ∀ c ∈ cs, c ∈ hexL) : cs.findIdx? isBad = none := by
  rw [List.findIdx?_eq_none_iff]
  intro c hc
  unfold isBad
  rw [decide_eq_true (h c hc)]
  rfl
theorem good_of {cs : List Nat} (h : cs.findIdx? isBad = none) : ∀ c ∈ cs, c ∈ hexL := fun c hc => by
  have z := (List.findIdx?_eq_none_iff.mp h) c hc
  unfold isBad at z
  simpa using z
theorem res_hex {ns : List Nat} (h : ∀ n ∈ ns, n < 256) (hl : ns.length ≤ 50000) : res (hexCs ns) = .inr ns := by
  unfold res
  have hl2 := hexCs_len ns
  rw [noBad_of (hexCs_in h)]
  show (if _ then _ else if _ then _ else _) = _
  rw [if_neg (by omega), if_neg (by omega), prs_hex h]
/-- the offset is small -/
theorem res_inl {cs : List Nat} {k : Nat} (h : res cs = .inl k) : k ≤ cs.length := by
  unfold res at h
  split at h
  · rename_i j e
    cases h
    have z := (List.findIdx?_eq_some_iff_getElem.mp e).1
    omega
  · split at h
    · cases h; omega
    · split at h
      · cases h; omega
      · cases h
theorem res_inr {cs ns : List Nat} (h : res cs = .inr ns) : cs.findIdx? isBad = none ∧ cs.length % 2 = 0 ∧ cs.length ≤ 100000 ∧ ns = prs cs := by
  unfold res at h
  split at h
  · cases h
  · rename_i e
    split at h
    · cases h
    · split at h
      · cases h
      · cases h
        exact ⟨e, by omega, by omega, rfl⟩
/-! ### every second one -/
theorem bounds_two (lo : Option Int) (n : Nat) (h : lo = none ∨ lo = some 1) : sliceBounds lo none (some 2) n = ((match lo with | none => 0 | some _ => max 0 (min 1 (n : Int))), (n : Int), 2) := by
  obtain rfl | rfl := h
  · rfl
  · rfl
theorem pick_two (xs : List V) (m : Nat) (hm : xs.length = 2 * m) (lo : Option Int) (k : Nat) (hk : (lo = none ∧ k = 0) ∨ (lo = some 1 ∧ k = 1)) :
    (pickV xs lo none (some 2)).length = m ∧ ∀ i, i < m → (pickV xs lo none (some 2))[i]? = xs[2 * i + k]? := by
  have e : sliceRange (sliceBounds lo none (some 2) xs.length).1 (sliceBounds lo none (some 2) xs.length).2.1 (sliceBounds lo none (some 2) xs.length).2.2 = (List.range m).map fun i => 2 * i + k := by
    rw [bounds_two lo _ (by obtain ⟨h, _⟩ | ⟨h, _⟩ := hk <;> simp [h])]
    unfold sliceRange
    by_cases h0 : m = 0
    · subst h0
      obtain ⟨rfl, rfl⟩ | ⟨rfl, rfl⟩ := hk
      · simp [hm]
      · simp [hm]
        decide
    · obtain ⟨rfl, rfl⟩ | ⟨rfl, rfl⟩ := hk
      · have c : ((xs.length : Int) - 0 + 2 - 1) / 2 = m := by omega
        simp only [show (2 : Int) > 0 by decide, if_true, show (0 : Int) < (xs.length : Int) by omega, c, Int.toNat_natCast]
        refine List.map_congr_left fun i _ => ?_
        omega
      · have z : max 0 (min 1 (xs.length : Int)) = 1 := by omega
        have c : ((xs.length : Int) - 1 + 2 - 1) / 2 = m := by omega
        simp only [z, show (2 : Int) > 0 by decide, if_true, show (1 : Int) < (xs.length : Int) by omega, c, Int.toNat_natCast]
        refine List.map_congr_left fun i _ => ?_
        omega
  have hk1 : k ≤ 1 := by obtain ⟨_, rfl⟩ | ⟨_, rfl⟩ := hk <;> omega
  have f : ∀ (l : List Nat), (∀ i ∈ l, 2 * i + k < xs.length) → (l.map fun i => 2 * i + k).filterMap (xs[·]?) = l.map fun i => xs.getD (2 * i + k) .non := by
    intro l
    induction l with
    | nil => intro _; rfl
    | cons a r ih =>
      intro h
      have ha := h a List.mem_cons_self
      have e1 : xs[2 * a + k]? = some (xs.getD (2 * a + k) .non) := by
        rw [List.getD_eq_getElem?_getD, List.getElem?_eq_getElem ha]
        rfl
      rw [List.map_cons, List.filterMap_cons_some e1, ih fun i hi => h i (List.mem_cons_of_mem _ hi), List.map_cons]
  unfold pickV
  rw [e, f _ fun i hi => by have := List.mem_range.mp hi; omega]
  refine ⟨by simp, fun i hi => ?_⟩
  have hlt : 2 * i + k < xs.length := by omega
  rw [List.getElem?_map, List.getElem?_range hi, Option.map_some, List.getElem?_eq_getElem hlt, List.getD_eq_getElem?_getD, List.getElem?_eq_getElem hlt]
  rfl
/-! ### data that repr shows -/
def okD (d : PyData) : Prop := d.showable = true ∧ d.shown.length ≤ sizeLine ∧ d.depth ≤ 60
def natsD (ns : List Nat) : List PyData := ns.map fun (n : Nat) => PyData.int n
theorem nats_sh : ∀ {ns : List Nat}, (∀ n ∈ ns, n ≤ 1000000) → PyData.showableAll (natsD ns) = true ∧ PyData.leavesShortAll 13 (natsD ns) = true ∧ PyData.bulkAll (natsD ns) = ns.length ∧ PyData.depthAll (natsD ns) = 0
  | [], _ => ⟨by simp [natsD, PyData.showableAll], by simp [natsD, PyData.leavesShortAll], by simp [natsD, PyData.bulkAll], by simp [natsD, PyData.depthAll]⟩
  | n :: r, h => by
    obtain ⟨a, b, c, d⟩ := nats_sh (ns := r) fun m hm => h m (List.mem_cons_of_mem _ hm)
    have hn := h n List.mem_cons_self
    have e : natsD (n :: r) = PyData.int (n : Nat) :: natsD r := rfl
    have l1 : (n : Int).natAbs.log2 < 1920 := by
      have z : (n : Int).natAbs < 2 ^ 20 := by
        have : (2 : Nat) ^ 20 = 1048576 := by decide
        omega
      exact Nat.lt_of_lt_of_le (PySem.Flt.log2_lt_of (by decide) z) (by decide)
    have l2 := PyData.shown_int_le (i := (n : Int)) (by
      have : (10 : Nat) ^ 12 = 1000000000000 := by decide
      omega)
    rw [e]
    refine ⟨by simp [PyData.showableAll, PyData.showable, a]; exact l1, by simp [PyData.leavesShortAll, PyData.leavesShort, b, l2], ?_, by simp [PyData.depthAll, PyData.depth, d]⟩
    simp only [PyData.bulkAll, PyData.bulk, c, List.length_cons]
    omega
theorem okD_tup {ns : List Nat} (h : ∀ n ∈ ns, n ≤ 1000000) (hl : ns.length ≤ 1000000) : okD (.tuple (natsD ns)) := by
  obtain ⟨a, b, c, d⟩ := nats_sh h
  refine ⟨by simpa [PyData.showable] using a, PyData.shown_fits_bulk (B := 13) (by decide) (by decide) (by simpa [PyData.leavesShort] using b) ?_, by simp [PyData.depth, d]⟩
  simp only [PyData.bulk, c]
  have : (2 : Nat) ^ 20 = 1048576 := by decide
  omega
theorem okD_lst {ns : List Nat} (h : ∀ n ∈ ns, n ≤ 1000000) (hl : ns.length ≤ 1000000) : okD (.list (natsD ns)) := by
  obtain ⟨a, b, c, d⟩ := nats_sh h
  refine ⟨by simpa [PyData.showable] using a, PyData.shown_fits_bulk (B := 13) (by decide) (by decide) (by simpa [PyData.leavesShort] using b) ?_, by simp [PyData.depth, d]⟩
  simp only [PyData.bulk, c]
  have : (2 : Nat) ^ 20 = 1048576 := by decide
  omega
/-- the data of the answer -/
def resD : Sum Nat (List Nat) → PyData
  | .inl k => .list [.int k]
  | .inr ns => .tuple (natsD ns)
theorem okD_res {cs : List Nat} (h : cs.length ≤ 1000000) : okD (resD (res cs)) := by
  cases e : res cs with
  | inl k =>
    have z := res_inl e
    exact okD_lst (ns := [k]) (fun n hn => by simp at hn; omega) (by simp)
  | inr ns =>
    obtain ⟨_, _, h3, rfl⟩ := res_inr e
    have z := prs_len cs
    exact okD_tup (fun n hn => by have := prs_lt cs n hn; omega) (by omega)
theorem dp_nats {K : PySem.W.Frag} {H : Hp} : ∀ ns : List Nat, DpAll K H (ns.map fun (n : Nat) => V.int n) (natsD ns)
  | [] => .nil
  | n :: r => .cons (.int _) (dp_nats r)
/-- the answer stands at p -/
def ResAt (K : PySem.W.Frag) (H : Hp) (p : Addr) : Sum Nat (List Nat) → Prop
  | .inl k => SqL K H p [.int (k : Nat)]
  | .inr ns => SqT K H p (ns.map fun (n : Nat) => V.int n)
theorem ResAt.dp {K : PySem.W.Frag} {H : Hp} {p : Addr} : ∀ {r : Sum Nat (List Nat)}, ResAt K H p r → Dp K H (.ref p) (resD r)
  | .inl _, h => .lst h (.cons (.int _) .nil)
  | .inr ns, h => .tup h (dp_nats ns)
end B59

set_option Elab.async false
set_option linter.all false
set_option maxRecDepth 100000
set_option maxHeartbeats 4000000
namespace B59
open PySem PySem.Spec PyProof.Rows L2 L2.BJ
open PySem.BJX (SxC SxInit)
/-! ### the text -/
def top (i : Nat) : Stmt := PySem.Challenge.pw_brinejar_k59_hexes.main.body.getD i (.Pass ⟨0, 0, 0, 0⟩)
abbrev s_iS : Stmt := inClass (top 2) 0
abbrev s_iT : Stmt := inClass (top 3) 0
abbrev s_is_integer : Stmt := top 5
abbrev s_is_octet : Stmt := top 6
abbrev s_check_stream : Stmt := top 9
abbrev s_stream_text : Stmt := top 13
abbrev s_read_stream : Stmt := top 14
abbrev s_L_begin : Stmt := top 16
abbrev s_L_mixed : Stmt := top 17
abbrev s_L_next : Stmt := top 18
abbrev s_L_read : Stmt := top 19
abbrev s_L_due : Stmt := top 20
abbrev s_L_refused : Stmt := top 21
abbrev s_L_bent : Stmt := top 22
abbrev s_L_by_hand_right : Stmt := top 23
abbrev s_law : Stmt := top 24
/-- where all stands -/
structure Ad where
  JE : Addr
  IS : Addr
  IT : Addr
  iS : Addr
  iT : Addr
  ii : Addr
  io : Addr
  cs : Addr
  st : Addr
  rs : Addr
  lb : Addr
  lm : Addr
  ln : Addr
  lr : Addr
  ld : Addr
  lf : Addr
  lt : Addr
  lh : Addr
  lw : Addr
  tMO : Tok
  tDIG : Tok
  tMD : Tok
/-- what the top has written -/
structure Txt (P : Program) (w : World) (K : PySem.W.Frag) (mg : Str → Option Value) (a : Ad) : Prop where
  isinstance : mg "isinstance" = none
  int : mg "int" = none
  bool : mg "bool" = none
  tuple : mg "tuple" = none
  str : mg "str" = none
  len : mg "len" = none
  all : mg "all" = none
  enumerate : mg "enumerate" = none
  range : mg "range" = none
  zip : mg "zip" = none
  repr : mg "repr" = none
  gMO : mg "MOST_OCTETS" = some (.int 50000 a.tMO)
  gDIG : mg "DIGITS" = some (.str "0123456789abcdef" a.tDIG)
  gMD : mg "MOST_DIGITS" = some (.int 100000 a.tMD)
  gJE : mg "JarError" = some (.ref a.JE)
  gIS : mg "InvalidStream" = some (.ref a.IS)
  gIT : mg "InvalidText" = some (.ref a.IT)
  xS : SxC P K mg a.IS a.iS ["value"] (defArgs s_iS) (defBody s_iS) (defScope s_iS)
  xT : SxC P K mg a.IT a.iT ["offset"] (defArgs s_iT) (defBody s_iT) (defScope s_iT)
  zS : SxInit P w K mg a.IS a.iS ["value"]
  zT : SxInit P w K mg a.IT a.iT ["offset"]
  eS : PySem.W.exmOne K (.ref a.IS) (.ref a.JE) = some true
  eT : PySem.W.exmOne K (.ref a.IT) (.ref a.JE) = some true
  cS : ExcC K a.IS
  cT : ExcC K a.IT
  fT : PySem.W.findIn K (.ref a.IT) "offset" = some none
  fS : PySem.W.findIn K (.ref a.IS) "value" = some none
  kTT : PySem.W.kitOne K (.ref a.IT) (.ref a.IT) = some true
  kSS : PySem.W.kitOne K (.ref a.IS) (.ref a.IS) = some true
  g_is_integer : mg "is_integer" = some (.ref a.ii)
  k_is_integer : PySem.W.keepIn K (.ref a.ii) = true
  g_is_octet : mg "is_octet" = some (.ref a.io)
  k_is_octet : PySem.W.keepIn K (.ref a.io) = true
  g_check_stream : mg "check_stream" = some (.ref a.cs)
  k_check_stream : PySem.W.keepIn K (.ref a.cs) = true
  g_stream_text : mg "stream_text" = some (.ref a.st)
  k_stream_text : PySem.W.keepIn K (.ref a.st) = true
  g_read_stream : mg "read_stream" = some (.ref a.rs)
  k_read_stream : PySem.W.keepIn K (.ref a.rs) = true
  g_L_begin : mg "_law_begin" = some (.ref a.lb)
  k_L_begin : PySem.W.keepIn K (.ref a.lb) = true
  g_L_mixed : mg "_law_mixed" = some (.ref a.lm)
  k_L_mixed : PySem.W.keepIn K (.ref a.lm) = true
  g_L_next : mg "_law_next" = some (.ref a.ln)
  k_L_next : PySem.W.keepIn K (.ref a.ln) = true
  g_L_read : mg "_law_read" = some (.ref a.lr)
  k_L_read : PySem.W.keepIn K (.ref a.lr) = true
  g_L_due : mg "_law_due" = some (.ref a.ld)
  k_L_due : PySem.W.keepIn K (.ref a.ld) = true
  g_L_refused : mg "_law_refused" = some (.ref a.lf)
  k_L_refused : PySem.W.keepIn K (.ref a.lf) = true
  g_L_bent : mg "_law_bent" = some (.ref a.lt)
  k_L_bent : PySem.W.keepIn K (.ref a.lt) = true
  g_L_by_hand_right : mg "_law_by_hand_right" = some (.ref a.lh)
  k_L_by_hand_right : PySem.W.keepIn K (.ref a.lh) = true
/-! ### values -/
theorem tyTup {K : PySem.W.Frag} {H : Hp} {p : Addr} {xs : List V} (h : SqT K H p xs) : TyX K H (.ref p) (.type "tuple") := by
  obtain (h | ⟨o, h⟩) | ⟨o, its, n, hk, hc, _⟩ := h
  · exact .base (.tup h)
  · exact .fTuple h
  · exact .kTuple hk hc
theorem sqT_same {K : PySem.W.Frag} {H H' : Hp} {p : Addr} {xs : List V} (e : Same H H') (h : SqT K H p xs) : SqT K H' p xs := by
  obtain (h | ⟨o, h⟩) | h := h
  · exact .inl (.inl (e _ _ h))
  · exact .inl (.inr ⟨o, e _ _ h⟩)
  · exact .inr h
theorem same_upd {H : Hp} {p : Addr} {o : HO} (h : H p = none) : Same H (upd H p o) := fun b u e => by
  rw [upd_ne (ne_of_none e h)]
  exact e
/-- a value that is no int but, it may be, a bool -/
def NoInt (K : PySem.W.Frag) (H : Hp) (v : V) : Prop := ∃ T : String, TyX K H v (.type T) ∧ (kitB T "int" = some false ∨ (kitB T "int" = some true ∧ kitB T "bool" = some true))
def OctB (K : PySem.W.Frag) (H : Hp) (v : V) (b : Bool) : Prop := (∃ i : Int, v = .int i ∧ b = decide (0 ≤ i ∧ i ≤ 255)) ∨ (NoInt K H v ∧ b = false)
inductive OctAll (K : PySem.W.Frag) (H : Hp) : List V → List Bool → Prop
  | nil : OctAll K H [] []
  | cons {v : V} {vs : List V} {b : Bool} {bs : List Bool} : OctB K H v b → OctAll K H vs bs → OctAll K H (v :: vs) (b :: bs)
/-- a stream; what is none -/
def natsV (ns : List Nat) : List V := ns.map fun (n : Nat) => V.int n
def OkS (K : PySem.W.Frag) (H : Hp) (v : V) (ns : List Nat) : Prop := ∃ a, v = .ref a ∧ SqT K H a (natsV ns) ∧ ns.length ≤ 50000 ∧ ∀ n ∈ ns, n < 256
def BadS (K : PySem.W.Frag) (H : Hp) (v : V) : Prop := (∃ T : String, TyX K H v (.type T) ∧ kitB T "tuple" = some false) ∨
  (∃ a xs, v = .ref a ∧ SqT K H a xs ∧ (50000 < xs.length ∨ (xs.length ≤ 50000 ∧ ∃ bs, OctAll K H xs bs ∧ bs.all id = false)))
/-! ### promises -/
def sp_is_integer (K : PySem.W.Frag) : Sp := fun vs H Q _ => ∃ v, vs = [v] ∧ ((NoInt K H v ∧ Q (.bl false) H) ∨ (∃ i : Int, v = .int i ∧ Q (.bl true) H))
def sp_is_octet (K : PySem.W.Frag) : Sp := fun vs H Q _ => ∃ v b, vs = [v] ∧ OctB K H v b ∧ Q (.bl b) H
def sp_check_stream (K : PySem.W.Frag) (C : Addr) : Sp := fun vs H Q E => ∃ v, vs = [v] ∧ ((BadS K H v ∧ ∀ H' d, Same H H' → H' d = none → E (.ref C) (some d) (upd H' d (.xd [("value", v)]))) ∨ (∃ ns, OkS K H v ns ∧ ∀ H', Same H H' → Q .non H'))
def sp_stream_text (K : PySem.W.Frag) (C : Addr) : Sp := fun vs H Q E => ∃ v, vs = [v] ∧ ((BadS K H v ∧ ∀ H' d, Same H H' → H' d = none → E (.ref C) (some d) (upd H' d (.xd [("value", v)]))) ∨ (∃ ns, OkS K H v ns ∧ ∀ H', Same H H' → Q (.str (hexText ns)) H'))
/-- what is read -/
def Txtv (K : PySem.W.Frag) (H : Hp) (v : V) : Option (List Nat) → Prop
  | none => ∃ T : String, TyX K H v (.type T) ∧ kitB T "str" = some false
  | some cs => v = .str ⟨cs.toArray⟩ ∧ cs.length ≤ 1000000
def offV : Option (List Nat) → Option V
  | none => some .non
  | some cs => match res cs with | .inl k => some (.int (k : Nat)) | .inr _ => none
def sp_read_stream (K : PySem.W.Frag) (C : Addr) : Sp := fun vs H Q E => ∃ v o, vs = [v] ∧ Txtv K H v o ∧ (∀ x, offV o = some x → ∀ H' d, Same H H' → H' d = none → E (.ref C) (some d) (upd H' d (.xd [("offset", x)]))) ∧
  (∀ cs ns, o = some cs → res cs = .inr ns → ∀ H' p, Same H H' → SqT K H' p (natsV ns) → Q (.ref p) H')
/-- the offset in a list, or the stream -/
def AnsAt (K : PySem.W.Frag) (H : Hp) (p : Addr) (o : Option (List Nat)) : Prop := match o with | none => SqL K H p [.non] | some cs => ResAt K H p (res cs)
def sp_L_read (K : PySem.W.Frag) : Sp := fun vs H Q _ => ∃ v o, vs = [v] ∧ Txtv K H v o ∧ ∀ H' p, Same H H' → AnsAt K H' p o → Q (.ref p) H'
def sp_L_due (K : PySem.W.Frag) : Sp := fun vs H Q _ => ∃ cs, vs = [.str ⟨cs.toArray⟩] ∧ cs.length ≤ 1000000 ∧ ∀ H' p, Same H H' → ResAt K H' p (res cs) → Q (.ref p) H'
def ShD (K : PySem.W.Frag) (H : Hp) (v : V) : Prop := (∃ d, Dp K H v d ∧ okD d) ∨ ∃ p, v = .ref p ∧ H p = some (.dK [])
def sp_L_refused (K : PySem.W.Frag) : Sp := fun vs H Q _ => ∃ v, vs = [v] ∧ BadS K H v ∧ ShD K H v ∧ ∀ H', Same H H' → Q (.bl true) H'
/-- what is drawn from -/
def Drawn (H : Hp) (d c : Addr) (n : Nat) : Prop := ∃ (kvs : List (Key × V)) (xs : List Int) (at_ used : Nat) (left : Int), H d = some (.dK kvs) ∧ kvs.length ≤ 4 ∧ valV kvs (Sum.inr "cells") = some (.ref c) ∧ valV kvs (Sum.inr "at") = some (.int at_) ∧
  valV kvs (Sum.inr "left") = some (.int left) ∧ valV kvs (Sum.inr "used") = some (.int used) ∧ H c = some (.lst (xs.map V.int)) ∧ xs ≠ [] ∧ xs.length ≤ 64 ∧ at_ ≤ n ∧ used ≤ n
def But (d : Addr) (H H' : Hp) : Prop := ∀ b o, H b = some o → b ≠ d → H' b = some o
def sp_L_begin (K : PySem.W.Frag) : Sp := fun vs H Q _ => ∃ (a : Addr) (ns : List Int), vs = [.ref a] ∧ SqL K H a (ns.map V.int) ∧ ns.length ≤ 63 ∧ ∀ H' d c, Same H H' → H d = none → H c = none → Drawn H' d c 0 → Q (.ref d) H'
def sp_L_mixed : Sp := fun vs H Q _ => ∃ (c : Int) (k : Nat), vs = [.int c, .int k] ∧ k ≤ 1000000 ∧ ∀ m : Int, 0 ≤ m → Q (.int m) H
def sp_L_next : Sp := fun vs H Q _ => ∃ (d c : Addr) (b n : Nat), vs = [.ref d, .int b] ∧ Drawn H d c n ∧ 0 < b ∧ b ≤ 1000000 ∧ n ≤ 100000 ∧ ∀ (i : Nat) H', i < b → But d H H' → Drawn H' d c (n + 1) → Q (.int i) H'
def sp_L_bent : Sp := fun vs H Q _ => ∃ (d c : Addr) (cs : List Nat) (n : Nat), vs = [.ref d, .str ⟨cs.toArray⟩] ∧ Drawn H d c n ∧ cs.length ≤ 1000 ∧ n ≤ 10000 ∧ ∀ (z : Str) H', z.length ≤ 3 * cs.length + 1 → But d H H' → Drawn H' d c (n + 3) → Q (.str z) H'
def sp_L_by_hand_right : Sp := fun vs H Q _ => vs = [] ∧ ∀ H', Same H H' → Q (.bl true) H'
def sp_law (K : PySem.W.Frag) : Sp := fun vs H Q _ => ∃ (a : Addr) (ns : List Int), vs = [.ref a] ∧ SqL K H a (ns.map V.int) ∧ ns.length ≤ 63 ∧ ∀ H', Q (.bl true) H'
/-! ### scopes -/
theorem sc_is_integer : FnScope ["thing"] ["thing"] (defScope s_is_integer) := ⟨rfl, rfl, rfl, by decide +kernel, rfl, by decide +kernel, by decide +kernel⟩
theorem sc_is_octet : FnScope ["thing"] ["thing"] (defScope s_is_octet) := ⟨rfl, rfl, rfl, by decide +kernel, rfl, by decide +kernel, by decide +kernel⟩
theorem sc_check_stream : FnScope ["stream", "one"] ["stream"] (defScope s_check_stream) := ⟨rfl, rfl, rfl, by decide +kernel, rfl, by decide +kernel, by decide +kernel⟩
theorem sc_stream_text : FnScope ["stream", "octet"] ["stream"] (defScope s_stream_text) := ⟨rfl, rfl, rfl, by decide +kernel, rfl, by decide +kernel, by decide +kernel⟩
theorem sc_read_stream : FnScope ["text", "offset", "sign", "k"] ["text"] (defScope s_read_stream) := ⟨rfl, rfl, rfl, by decide +kernel, rfl, by decide +kernel, by decide +kernel⟩
theorem sc_L_begin : FnScope ["script"] ["script"] (defScope s_L_begin) := ⟨rfl, rfl, rfl, by decide +kernel, rfl, by decide +kernel, by decide +kernel⟩
theorem sc_L_mixed : FnScope ["cell", "k", "mixed"] ["cell", "k"] (defScope s_L_mixed) := ⟨rfl, rfl, rfl, by decide +kernel, rfl, by decide +kernel, by decide +kernel⟩
theorem sc_L_next : FnScope ["draw", "bound", "found", "cells", "cell"] ["draw", "bound"] (defScope s_L_next) := ⟨rfl, rfl, rfl, by decide +kernel, rfl, by decide +kernel, by decide +kernel⟩
theorem sc_L_read : FnScope ["thing", "error", "found", "e"] ["thing"] (defScope s_L_read) := ⟨rfl, rfl, rfl, by decide +kernel, rfl, by decide +kernel, by decide +kernel⟩
theorem sc_L_due : FnScope ["told", "wrong", "numerals", "k", "sign", "one", "other"] ["told"] (defScope s_L_due) := ⟨rfl, rfl, rfl, by decide +kernel, rfl, by decide +kernel, by decide +kernel⟩
theorem sc_L_refused : FnScope ["thing", "error", "e"] ["thing"] (defScope s_L_refused) := ⟨rfl, rfl, rfl, by decide +kernel, rfl, by decide +kernel, by decide +kernel⟩
theorem sc_L_bent : FnScope ["draw", "told", "at", "sign", "head", "tail", "some"] ["draw", "told"] (defScope s_L_bent) := ⟨rfl, rfl, rfl, by decide +kernel, rfl, by decide +kernel, by decide +kernel⟩
theorem sc_L_by_hand_right : FnScope ["told", "thing", "some"] [] (defScope s_L_by_hand_right) := ⟨rfl, rfl, rfl, by decide +kernel, rfl, by decide +kernel, by decide +kernel⟩
theorem sc_law : FnScope ["script", "draw", "turn", "some", "due", "k", "told", "one"] ["script"] (defScope s_law) := ⟨rfl, rfl, rfl, by decide +kernel, rfl, by decide +kernel, by decide +kernel⟩
end B59

set_option Elab.async false
set_option linter.all false
set_option maxRecDepth 100000
set_option maxHeartbeats 4000000
namespace B59
open PySem PySem.Spec PyProof.Rows L2 L2.BJ
open PySem.BJX (SxC SxInit)
section
variable {P : Program} {w : World} {K : PySem.W.Frag} {mg : Str → Option Value} {base : Heap} {a : Ad} {f : Addr} {fd fd1 : FuncData}
theorem ok_is_integer (F : Fun K "is_integer" "is_integer" s_is_integer f fd) (T : Txt P w K mg a) : FnG P w K mg base 1 f fd ["thing"] (sp_is_integer K) := by
  refine F.okG sc_is_integer (fun vs H Q E h => ?_) (fun cdv A outer s H vs Q E hr hgd h => ?_)
  · obtain ⟨v, rfl, _⟩ := h
    rfl
  · obtain ⟨v, rfl, h⟩ := h
    refine ⟨_, (pss_one (ps_ret (pe_and (pe_callB call_isE1 (by rfl) T.isinstance (by decide +kernel) (pa_cons (pv 0) (pa_cons (pe_bltn (v := .ty "int") (by rfl) T.int (by decide +kernel) rfl) pa_nil))) (pe_one (pe_not (pe_callB call_isE1 (by rfl) T.isinstance (by decide +kernel) (pa_cons (pv 0) (pa_cons (pe_bltn (v := .ty "bool") (by rfl) T.bool (by decide +kernel) rfl) pa_nil)))))))), ?_⟩
    obtain ⟨⟨ty, hty, h⟩, q⟩ | ⟨i, rfl, q⟩ := h
    · obtain h1 | ⟨h1, h2⟩ := h
      · exact ⟨_, rfl, _, _, _, _, false, rfl, .ty _, .base hty, kit_ty h1, _, rfl, iteF q⟩
      · exact ⟨_, rfl, _, _, _, _, true, rfl, .ty _, .base hty, kit_ty h1, _, rfl, iteT ⟨_, rfl, _, _, _, _, true, rfl, .ty _, .base hty, kit_ty h2, _, rfl, q⟩⟩
    · exact ⟨_, rfl, _, _, _, _, true, rfl, .ty _, .base (.base (.int i)), kit_ty (by decide +kernel), _, rfl, iteT ⟨_, rfl, _, _, _, _, false, rfl, .ty _, .base (.base (.int i)), kit_ty (by decide +kernel), _, rfl, q⟩⟩
theorem ok_is_octet (F : Fun K "is_octet" "is_octet" s_is_octet f fd) (T : Txt P w K mg a) (G_is_integer : FnG P w K mg base 1 a.ii fd1 ["thing"] (sp_is_integer K)) (b_is_integer : Binds K fd1 ["thing"] []) : FnG P w K mg base 2 f fd ["thing"] (sp_is_octet K) := by
  refine F.okG sc_is_octet (fun vs H Q E h => ?_) (fun cdv A outer s H vs Q E hr hgd h => ?_)
  · obtain ⟨v, b, rfl, _⟩ := h
    rfl
  · obtain ⟨v, b, rfl, h, q⟩ := h
    have hr1 : Room 1 _ := hr.mono (by decide)
    refine ⟨_, (pss_one (ps_ret (pe_and (pe_callG G_is_integer hr1 hgd (by rfl) T.g_is_integer T.k_is_integer b_is_integer .nil (takes_of rfl rfl rfl rfl) (pa_cons (pv 0) pa_nil)) (pe_one (pe_chain op_le op_le pe_int (pv 0) pe_int))))), ?_⟩
    obtain ⟨i, rfl, rfl⟩ | ⟨h, rfl⟩ := h
    · refine ⟨_, rfl, _, rfl, .inr ⟨i, rfl, _, rfl, iteT ?_⟩⟩
      refine ⟨_, rfl, _, _, rfl, rfl, _, rfl, ?_⟩
      refine ite2 (fun c => ⟨_, _, rfl, rfl, ?_⟩) (fun c => ?_)
      · have c1 : (0 : Int) ≤ i := of_decide_eq_true c
        have e : decide (0 ≤ i ∧ i ≤ 255) = decide (i ≤ 255) := by simp [c1]
        rw [e] at q
        exact q
      · have c1 : ¬ (0 : Int) ≤ i := fun z => c (decide_eq_true z)
        have e : decide (0 ≤ i ∧ i ≤ 255) = false := by simp [c1]
        rw [e] at q
        exact q
    · exact ⟨_, rfl, _, rfl, .inl ⟨h, _, rfl, iteF q⟩⟩
end
end B59

set_option Elab.async false
set_option linter.all false
set_option maxRecDepth 100000
set_option maxHeartbeats 4000000
namespace B59
open PySem PySem.Spec PyProof.Rows L2 L2.BJ
open PySem.BJX (SxC SxInit)
/-! ### comprehensions: what is made so far -/
def LcPv (H1 : Hp) (D : Addr) (F : Nat → List V) : Nat → Hp → Prop := fun i H' => Same H1 H' ∧ H' D = some (.lst (F i))
theorem same_put {H1 H' : Hp} {D : Addr} {o : HO} (s : Same H1 H') (hD : H1 D = none) : Same H1 (upd H' D o) := fun b u e => by
  rw [upd_ne (ne_of_none e hD)]
  exact s b u e
theorem lc_start {H1 : Hp} {D : Addr} {F : Nat → List V} (hD : H1 D = none) (h0 : F 0 = []) : LcPv H1 D F 0 (upd H1 D (.lst [])) := ⟨same_upd hD, by rw [upd_same, h0]⟩
theorem lc_put {H1 H' H4 : Hp} {D : Addr} {F : Nat → List V} {i : Nat} {y : V} (h : LcPv H1 D F i H') (hD : H1 D = none) (s : Same H' H4) (e : F (i + 1) = F i ++ [y]) (hz : (F i).length ≤ 1000000) :
    ∃ acc, H4 D = some (.lst acc) ∧ acc.length < sizeLine ∧ LcPv H1 D F (i + 1) (upd H4 D (.lst (acc ++ [y]))) :=
  ⟨F i, s _ _ h.2, by rw [sizeLine_eq]; omega, same_put (h.1.trans s) hD, by rw [upd_same, e]⟩
theorem lc_skip {H1 H' H4 : Hp} {D : Addr} {F : Nat → List V} {i : Nat} (h : LcPv H1 D F i H') (s : Same H' H4) (e : F (i + 1) = F i) : LcPv H1 D F (i + 1) H4 := ⟨h.1.trans s, by rw [e]; exact s _ _ h.2⟩
theorem take_more {α : Type} {l : List α} {i : Nat} {x : α} (h : l[i]? = some x) : l.take (i + 1) = l.take i ++ [x] := by
  rw [List.take_add_one, h]
  rfl
theorem _root_.B59.if_pos_of {c : Bool} {A B : Prop} (hc : c = true) (h : A) : if c = true then A else B := by
  rw [hc, if_pos rfl]
  exact h
theorem _root_.B59.if_neg_of {c : Bool} {A B : Prop} (hc : c = false) (h : B) : if c = true then A else B := by
  rw [hc, if_neg Bool.false_ne_true]
  exact h
theorem TyOf.same {K : PySem.W.Frag} {H H' : Hp} {v : V} {t : Value} (s : Same H H') (h : TyOf K H v t) : TyOf K H' v t := by
  cases h with
  | non => exact .non
  | bl x => exact .bl x
  | int i => exact .int i
  | str x => exact .str x
  | flt x => exact .flt x
  | lst e => exact .lst (s _ _ e)
  | frz e => exact .frz (s _ _ e)
  | tup e => exact .tup (s _ _ e)
  | dK e => exact .dK (s _ _ e)
  | dT e => exact .dT (s _ _ e)
  | ins e cl ha hn htk hm => exact .ins (s _ _ e) cl ha hn htk hm
theorem TyX.same {K : PySem.W.Frag} {H H' : Hp} {v : V} {t : Value} (s : Same H H') (h : TyX K H v t) : TyX K H' v t := by
  cases h with
  | base h => exact .base (TyOf.same s h)
  | byt b => exact .byt b
  | set e => exact .set (s _ _ e)
  | kList e c => exact .kList e c
  | kTuple e c => exact .kTuple e c
  | kDict e c => exact .kDict e c
  | fTuple e => exact .fTuple (s _ _ e)
  | fDict e => exact .fDict (s _ _ e)
theorem OctB.same {K : PySem.W.Frag} {H H' : Hp} {v : V} {b : Bool} (s : Same H H') (h : OctB K H v b) : OctB K H' v b := by
  obtain h | ⟨⟨T, h1, h2⟩, h3⟩ := h
  · exact .inl h
  · exact .inr ⟨⟨T, TyX.same s h1, h2⟩, h3⟩
theorem OctAll.len {K : PySem.W.Frag} {H : Hp} {xs : List V} {bs : List Bool} (h : OctAll K H xs bs) : xs.length = bs.length := by
  induction h with
  | nil => rfl
  | cons _ _ ih => simp [ih]
theorem OctAll.get {K : PySem.W.Frag} {H : Hp} {xs : List V} {bs : List Bool} (h : OctAll K H xs bs) : ∀ {i : Nat} {x : V}, xs[i]? = some x → ∃ b, bs[i]? = some b ∧ OctB K H x b := by
  induction h with
  | nil => intro i x e; simp at e
  | cons h1 _ ih =>
    intro i x e
    cases i with
    | zero =>
      simp at e
      subst e
      exact ⟨_, rfl, h1⟩
    | succ i =>
      simp only [List.getElem?_cons_succ] at e ⊢
      exact ih e
theorem octAll_nats {K : PySem.W.Frag} {H : Hp} : ∀ {ns : List Nat}, (∀ n ∈ ns, n < 256) → OctAll K H (natsV ns) (ns.map fun _ => true)
  | [], _ => .nil
  | n :: r, h => .cons (.inl ⟨_, rfl, by
      have z := h n List.mem_cons_self
      have c : (0 : Int) ≤ (n : Int) ∧ (n : Int) ≤ 255 := by omega
      rw [decide_eq_true c]⟩) (octAll_nats fun m hm => h m (List.mem_cons_of_mem _ hm))
theorem all_true : ∀ ns : List Nat, (ns.map fun _ => true).all id = true
  | [] => rfl
  | _ :: r => by simp
section
variable {P : Program} {w : World} {K : PySem.W.Frag} {mg : Str → Option Value} {base : Heap} {a : Ad} {f : Addr} {fd fd1 : FuncData}
theorem ok_check_stream (F : Fun K "check_stream" "check_stream" s_check_stream f fd) (T : Txt P w K mg a) (G_is_octet : FnG P w K mg base 2 a.io fd1 ["thing"] (sp_is_octet K)) (b_is_octet : Binds K fd1 ["thing"] []) :
    FnG P w K mg base 3 f fd ["stream"] (sp_check_stream K a.IS) := by
  refine F.okG sc_check_stream (fun vs H Q E h => ?_) (fun cdv A outer s H vs Q E hr hgd h => ?_)
  · obtain ⟨v, rfl, _⟩ := h
    rfl
  · obtain ⟨v, rfl, h⟩ := h
    have hr1 : Room 2 _ := hr.mono (by decide)
    refine ⟨_, (pss_one (ps_if (PW.pt (pw_or (pt_not (pt_val (pe_callB call_isE1 (by rfl) T.isinstance (by decide +kernel) (pa_cons (pv 0) (pa_cons (pe_bltn (v := .ty "tuple") (by rfl) T.tuple (by decide +kernel) rfl) pa_nil))))) (pw_or (pt_cmpR op_gt (pe_callB call_len (by rfl) T.len (by decide +kernel) (pa_cons (pv 0) pa_nil)) (pe_glob (v := .int 50000) (by rfl) T.gMO ⟨_, rfl⟩) (nomark _)) (pw_or1 (pt_not (pt_val (pe_callB (cr_all rfl) (by rfl) T.all (by decide +kernel) (pa_cons (pe_lc (own := [("one", 1)]) rfl sc_check_stream.nd (pi_tup (pv 0)) (blkOk_by (N := ["stream", "one"]) (sc := defScope s_check_stream) (by decide +kernel)) (fun _ _ _ _ _ => (pg_name (i := 1) sc_check_stream.nd rfl (Or.inl rfl))) (fun _ _ _ _ _ => pts_nil) (fun _ _ _ _ _ => (pe_callG G_is_octet hr1 hgd (by rfl) T.g_is_octet T.k_is_octet b_is_octet .nil takes0 (pa_cons (pv 1) pa_nil)))) pa_nil)))))))) (pss_one (ps_raise rfl (takes_of rfl rfl rfl rfl) (pmk_sx T.xS T.zS hr1 (pa_cons (pv 0) pa_nil) (by rfl) T.gIS))) pss_nil)), ?_⟩
    -- the list of answers
    have core : ∀ (p : Addr) (xs : List V) (bs : List Bool) (D : Addr) (Qd : Hp → Prop), SqT K H p xs → xs.length ≤ 50000 → OctAll K H xs bs → H D = none → (∀ H', Same H H' → H' D = some (.lst (bs.map V.bl)) → Qd H') →
        ∃ W : Nat → Nat → Hp → Prop, (∃ m, W 0 m (upd H D (.lst []))) ∧ ∀ i m H, W i m H →
          ((Itt K p).stop i H ∧ Qd H) ∨ ((Itt K p).go i H ∧ ∃ Nx : Hp → Prop, (∀ H', Nx H' → ∃ m', m' < m ∧ W (i + 1) m' H') ∧ ∀ x H', (Itt K p).yld i H x H' → gName 1 x (wipe (L2.start ["stream", "one"] [.ref p]) [1]) H' fun σ2 H2 => wipe σ2 [1] = wipe (L2.start ["stream", "one"] [.ref p]) [1] ∧ tYes σ2 H2 fun b H3 =>
            if b = true then tCallG (sp_is_octet K) [] (fun _ _ _ _ => False) (tCons (tVar 1) tNil) σ2 H3 fun y H4 => ∃ acc, H4 D = some (.lst acc) ∧ acc.length < sizeLine ∧ Nx (upd H4 D (.lst (acc ++ [y]))) else Nx H3) := by
      intro p xs bs D Qd hT hl hO hD hQ
      have hlen := hO.len
      refine lc_tup (K := K) (a := p) (xs := xs) (LcPv H D fun i => (bs.map V.bl).take i) (lc_start hD rfl) (fun i H' _ h => sqT_same h.1 hT) (fun i x H' hx h => ?_) (fun H' h => ?_)
      · obtain ⟨b, hb, ho⟩ := hO.get hx
        refine ⟨rfl, ?_⟩
        refine ⟨_, rfl, _, b, rfl, OctB.same h.1 ho, ?_⟩
        refine lc_put h hD (Same.refl _) (take_more (by rw [List.getElem?_map, hb]; rfl)) ?_
        rw [List.length_take, List.length_map]
        omega
      · refine hQ H' h.1 ?_
        have e : H' D = some (.lst ((bs.map V.bl).take xs.length)) := h.2
        rw [hlen, List.take_of_length_le (by simp)] at e
        exact e
    obtain ⟨h, qE⟩ | ⟨ns, ⟨p, rfl, hT, hl, hn⟩, q⟩ := h
    · obtain ⟨ty, hty, hk⟩ | ⟨p, xs, rfl, hT, h⟩ := h
      · -- no tuple
        refine ⟨_, rfl, _, _, _, _, false, rfl, .ty _, .base hty, kit_ty hk, _, rfl, ?_⟩
        refine iteT (iteT ?_)
        exact ⟨_, rfl, rfl, by show 1 ≤ 1000; decide, fun d hd => qE H d (Same.refl _) hd⟩
      · refine ⟨_, rfl, _, _, _, _, true, rfl, .ty _, .base (tyTup hT), kit_ty (by decide +kernel), _, rfl, ?_⟩
        refine iteF ?_
        refine ⟨_, rfl, _, _, rfl, .inr ⟨_, hT, rfl⟩, ?_⟩
        refine ⟨_, _, rfl, rfl, _, rfl, ?_⟩
        obtain h | ⟨hl, bs, hO, hb⟩ := h
        · refine if_pos_of (decide_eq_true (by omega)) (iteT ?_)
          exact ⟨_, rfl, rfl, by show 1 ≤ 1000; decide, fun d hd => qE H d (Same.refl _) hd⟩
        · refine if_neg_of (decide_eq_false (by omega)) ?_
          refine ⟨_, rfl, p, rfl, ⟨_, hT⟩, ?_⟩
          refine fun D hDn => core p xs bs D _ hT hl hO hDn fun H' sm hD => ?_
          refine ⟨_, bs, rfl, SqL.of hD, _, rfl, ?_⟩
          rw [hb]
          refine iteT ?_
          exact ⟨_, rfl, rfl, by show 1 ≤ 1000; decide, fun d hd => qE H' d sm hd⟩
    · refine ⟨_, rfl, _, _, _, _, true, rfl, .ty _, .base (tyTup hT), kit_ty (by decide +kernel), _, rfl, ?_⟩
      refine iteF ?_
      refine ⟨_, rfl, _, _, rfl, .inr ⟨_, hT, rfl⟩, ?_⟩
      refine ⟨_, _, rfl, rfl, _, rfl, ?_⟩
      have hl2 : (natsV ns).length = ns.length := by simp [natsV]
      refine if_neg_of (decide_eq_false (by omega)) ?_
      refine ⟨_, rfl, p, rfl, ⟨_, hT⟩, ?_⟩
      refine fun D hDn => core p (natsV ns) _ D _ hT (by omega) (octAll_nats hn) hDn fun H' sm hD => ?_
      refine ⟨_, _, rfl, SqL.of hD, _, rfl, ?_⟩
      rw [all_true]
      exact iteF (q H' sm)
end
end B59

set_option Elab.async false
set_option linter.all false
set_option maxRecDepth 100000
set_option maxHeartbeats 4000000
namespace B59
open PySem PySem.Spec PyProof.Rows L2 L2.BJ
open PySem.BJX (SxC SxInit)
/-! ### texts -/
theorem atI_hex {n : Nat} {i : Int} (h : n < 16) (e : i = (n : Int)) : atI (Str.cps "0123456789abcdef").toList i = some (hx n) := by
  rw [e]
  exact atI_nat (hx_in h)
def piece (n : Nat) : Str := (⟨#[hx (n / 16)]⟩ : Str) ++ ⟨#[hx (n % 16)]⟩
theorem joinL_nil : ∀ L : List (List Nat), TL.joinL [] L = L.flatten
  | [] => rfl
  | [p] => by simp [TL.joinL]
  | p :: q :: r => by
    show p ++ ([] ++ TL.joinL [] (q :: r)) = _
    rw [List.nil_append, joinL_nil (q :: r)]
    rfl
theorem str_of_tl {x y : Str} (h : TL.tl x = TL.tl y) : x = y := by
  obtain ⟨x⟩ := x
  obtain ⟨y⟩ := y
  have e : x.toList = y.toList := h
  exact congrArg Str.mk (Array.toList_inj.mp e)
theorem tl_piece (n : Nat) : TL.tl (piece n) = [hx (n / 16), hx (n % 16)] := by
  unfold piece
  rw [TL.tl_append]
  rfl
theorem join_piece (ns : List Nat) : Txt.join "" (ns.map piece) = hexText ns := by
  refine str_of_tl ?_
  rw [TL.join_eq, TL.tl_join]
  have e0 : TL.tl ("" : Str) = [] := by decide +kernel
  rw [e0, joinL_nil, List.map_map]
  show _ = hexCs ns
  unfold hexCs
  rw [List.flatMap]
  congr 1
theorem piece_len (n : Nat) : (piece n).length = 2 := by
  have h := tl_piece n
  show (piece n).cps.size = 2
  have e : (piece n).cps.toList = [hx (n / 16), hx (n % 16)] := h
  rw [← Array.length_toList, e]
  all_goals rfl
theorem pieces_len : ∀ ns : List Nat, ((ns.map piece).map (·.length)).sum = 2 * ns.length
  | [] => rfl
  | n :: r => by
    rw [List.map_cons, List.map_cons, List.sum_cons, pieces_len r, piece_len, List.length_cons]
    omega
section
variable {P : Program} {w : World} {K : PySem.W.Frag} {mg : Str → Option Value} {base : Heap} {a : Ad} {f : Addr} {fd fd1 : FuncData}
theorem ok_stream_text (F : Fun K "stream_text" "stream_text" s_stream_text f fd) (T : Txt P w K mg a) (G_check_stream : FnG P w K mg base 3 a.cs fd1 ["stream"] (sp_check_stream K a.IS)) (b_check_stream : Binds K fd1 ["stream"] []) :
    FnG P w K mg base 4 f fd ["stream"] (sp_stream_text K a.IS) := by
  refine F.okG sc_stream_text (fun vs H Q E h => ?_) (fun cdv A outer s H vs Q E hr hgd h => ?_)
  · obtain ⟨v, rfl, _⟩ := h
    rfl
  · obtain ⟨v, rfl, h⟩ := h
    have hr1 : Room 3 _ := hr.mono (by decide)
    refine ⟨_, (pss_cons (ps_expr (pe_callG G_check_stream hr1 hgd (by rfl) T.g_check_stream T.k_check_stream b_check_stream .nil (takes_of rfl rfl rfl rfl) (pa_cons (pv 0) pa_nil)))
      (pss_one (ps_ret (pe_join pe_str (pe_lc (own := [("octet", 1)]) rfl sc_stream_text.nd (pi_tup (pv 0)) (blkOk_by (N := ["stream", "octet"]) (sc := defScope s_stream_text) (by decide +kernel)) (fun _ _ _ _ _ => (pg_name (i := 1) sc_stream_text.nd rfl (Or.inl rfl))) (fun _ _ _ _ _ => pts_nil) (fun _ _ _ _ _ => (pe_op op_add_str (pe_ix ix_str (pe_glob (v := .str "0123456789abcdef") (by rfl) T.gDIG ⟨_, rfl⟩) (pe_op op_fdiv (pv 1) pe_int) (fun _ _ => rfl)) (pe_ix ix_str (pe_glob (v := .str "0123456789abcdef") (by rfl) T.gDIG ⟨_, rfl⟩) (pe_op op_mod (pv 1) pe_int) (fun _ _ => rfl))))))))), ?_⟩
    obtain ⟨h, qE⟩ | ⟨ns, h, q⟩ := h
    · exact ⟨_, rfl, _, rfl, .inl ⟨h, qE⟩⟩
    · obtain ⟨p, rfl, hT, hl, hn⟩ := id h
      refine ⟨_, rfl, _, rfl, .inr ⟨ns, h, fun H1 s1 => ?_⟩⟩
      refine ⟨⟨_, rfl⟩, _, rfl, p, rfl, ⟨_, sqT_same s1 hT⟩, fun D hD => lc_tup (K := K) (a := p) (xs := natsV ns) (LcPv H1 D fun i => ((ns.map piece).map V.str).take i) (lc_start hD rfl) (fun i H' _ h => sqT_same h.1 (sqT_same s1 hT)) (fun i x H' hxi h => ?_) (fun H' h => ?_)⟩
      · unfold natsV at hxi
        rw [List.getElem?_map] at hxi
        cases e : ns[i]? with
        | none =>
          rw [e] at hxi
          cases hxi
        | some n =>
          rw [e] at hxi
          have e2 : V.int (n : Nat) = x := Option.some.inj hxi
          subst e2
          have z := hn n (List.mem_of_getElem? e)
          refine ⟨rfl, ?_⟩
          refine ⟨_, rfl, _, _, rfl, rfl, ⟨by decide, by decide⟩, _, _, _, rfl, rfl, by decide +kernel, atI_hex (n := n / 16) (by omega) (by omega), ?_⟩
          refine ⟨_, rfl, _, _, rfl, rfl, (by show (0 : Int) < 16; decide), _, _, _, rfl, rfl, by decide +kernel, atI_hex (n := n % 16) (by omega) (by omega), ?_⟩
          refine ⟨_, _, rfl, rfl, by show 1 + 1 ≤ sizeLine; decide, ?_⟩
          refine lc_put h hD (Same.refl _) (take_more ?_) ?_
          · rw [List.getElem?_map, List.getElem?_map, e]
            rfl
          · rw [List.length_take, List.length_map, List.length_map]
            omega
      · have e : H' D = some (.lst (((ns.map piece).map V.str).take (natsV ns).length)) := h.2
        rw [List.take_of_length_le (by simp [natsV])] at e
        refine ⟨_, _, ns.map piece, rfl, rfl, .inl (SqL.of e), ?_, ?_⟩
        · rw [pieces_len]
          have e0 : Str.length "" = 0 := by decide +kernel
          rw [e0]
          omega
        · rw [join_piece]
          exact q H' (s1.trans h.1)
end
end B59

set_option Elab.async false
set_option linter.all false
set_option maxRecDepth 100000
set_option maxHeartbeats 4000000
namespace B59
open PySem PySem.Spec PyProof.Rows L2 L2.BJ
open PySem.BJX (SxC SxInit)
theorem fits_small {i : Int} (h : -1000000000 ≤ i) (h2 : i ≤ 1000000000) : Builtin.Range.rangeFitsLong i = true := by
  unfold Builtin.Range.rangeFitsLong
  rw [decide_eq_true (by omega), decide_eq_true (by omega)]
  rfl
theorem rg_two {m : Nat} (h : m ≤ 1000000) : RgC 0 ((2 * m : Nat) : Int) 2 m := by
  have e : Builtin.Range.rangeSize 0 ((2 * m : Nat) : Int) 2 = (m : Int) := by
    unfold Builtin.Range.rangeSize
    rw [if_pos (by decide)]
    split <;> omega
  refine ⟨by decide, by decide, ?_, e⟩
  unfold Builtin.Range.small
  rw [e, fits_small (i := 0) (by decide) (by decide), fits_small (i := ((2 * m : Nat) : Int)) (by omega) (by omega), fits_small (i := 2) (by decide) (by decide), fits_small (i := (m : Int)) (by omega) (by omega), if_pos (by decide), fits_small (by omega) (by omega)]
  simp
theorem get_cs {cs : List Nat} {i : Nat} {c : Nat} (h : (Str.mk cs.toArray).cps[i]? = some c) : cs[i]? = some c := by
  simpa using h
/-- the sign that is wrong first -/
theorem first_bad {cs : List Nat} {i c : Nat} (hp : ∀ j c, j < i → cs[j]? = some c → c ∈ hexL) (hc : cs[i]? = some c) (hb : c ∉ hexL) : cs.findIdx? isBad = some i := by
  rw [List.findIdx?_eq_some_iff_getElem]
  obtain ⟨hl, e⟩ := List.getElem?_eq_some_iff.mp hc
  refine ⟨hl, ?_, fun j hj => ?_⟩
  · rw [e]
    unfold isBad
    rw [decide_eq_false hb]
    rfl
  · have z := hp j cs[j] hj (List.getElem?_eq_getElem (by omega))
    unfold isBad
    rw [decide_eq_true z]
    exact Bool.false_ne_true
theorem none_bad {cs : List Nat} (hp : ∀ j c, j < cs.length → cs[j]? = some c → c ∈ hexL) : cs.findIdx? isBad = none := noBad_of fun c hc => by
  obtain ⟨j, hj⟩ := List.mem_iff_getElem?.mp hc
  exact hp j c (List.getElem?_eq_some_iff.mp hj).1 hj
theorem res_bad {cs : List Nat} {k : Nat} (h : cs.findIdx? isBad = some k) : res cs = .inl k := by
  unfold res
  rw [h]
theorem res_odd {cs : List Nat} (h : cs.findIdx? isBad = none) (o : cs.length % 2 = 1) : res cs = .inl cs.length := by
  unfold res
  rw [h]
  exact if_pos o
theorem res_long {cs : List Nat} (h : cs.findIdx? isBad = none) (o : ¬ cs.length % 2 = 1) (l : 100000 < cs.length) : res cs = .inl 100000 := by
  unfold res
  rw [h]
  exact (if_neg o).trans (if_pos l)
theorem res_good {cs : List Nat} (h : cs.findIdx? isBad = none) (o : ¬ cs.length % 2 = 1) (l : ¬ 100000 < cs.length) : res cs = .inr (prs cs) := by
  unfold res
  rw [h]
  exact (if_neg o).trans (if_neg l)
theorem offV_inl {cs : List Nat} {k : Nat} (h : res cs = .inl k) : offV (some cs) = some (.int (k : Nat)) := by
  unfold offV
  simp only [h]
section
variable {P : Program} {w : World} {K : PySem.W.Frag} {mg : Str → Option Value} {base : Heap} {a : Ad} {f : Addr} {fd fd1 : FuncData}
theorem ok_read_stream (F : Fun K "read_stream" "read_stream" s_read_stream f fd) (T : Txt P w K mg a) : FnG P w K mg base 3 f fd ["text"] (sp_read_stream K a.IT) := by
  refine F.okG sc_read_stream (fun vs H Q E h => ?_) (fun cdv A outer s H vs Q E hr hgd h => ?_)
  · obtain ⟨v, o, rfl, _⟩ := h
    rfl
  · obtain ⟨v, o, rfl, hv, qE, q⟩ := h
    have hr1 : Room 2 _ := hr.mono (by decide)
    refine ⟨_, (pss_cons (ps_if (pt_not (pt_val (pe_callB call_isE1 (by rfl) T.isinstance (by decide +kernel) (pa_cons (pv 0) (pa_cons (pe_bltn (v := .ty "str") (by rfl) T.str (by decide +kernel) rfl) pa_nil))))) (pss_one (ps_raise rfl (takes_of rfl rfl rfl rfl) (pmk_sx T.xT T.zT hr1 (pa_cons pe_non pa_nil) (by rfl) T.gIT))) pss_nil)
      (pss_cons (ps_for (passes_of rfl) rfl (pi_enumS (by rfl) T.enumerate (pa_cons (pv 0) pa_nil)) (pg_tup rfl (pgs_cons (pg_name (i := 1) sc_read_stream.nd rfl (Or.inl rfl)) (pgs_cons (pg_name (i := 2) sc_read_stream.nd rfl (Or.inl rfl)) pgs_nil))) (pss_one (ps_if (pt_cmpR op_notIn_sign (pv 2) (pe_glob (v := .str "0123456789abcdef") (by rfl) T.gDIG ⟨_, rfl⟩) (by rfl)) (pss_one (ps_raise rfl (takes_of rfl rfl rfl rfl) (pmk_sx T.xT T.zT hr1 (pa_cons (pv 1) pa_nil) (by rfl) T.gIT))) pss_nil)))
      (pss_cons (ps_if (pt_cmpR op_eq (pe_op op_mod (pe_callB call_len (by rfl) T.len (by decide +kernel) (pa_cons (pv 0) pa_nil)) pe_int) pe_int (nomark _)) (pss_one (ps_raise rfl (takes_of rfl rfl rfl rfl) (pmk_sx T.xT T.zT hr1 (pa_cons (pe_callB call_len (by rfl) T.len (by decide +kernel) (pa_cons (pv 0) pa_nil)) pa_nil) (by rfl) T.gIT))) pss_nil)
      (pss_cons (ps_if (pt_cmpR op_gt (pe_callB call_len (by rfl) T.len (by decide +kernel) (pa_cons (pv 0) pa_nil)) (pe_glob (v := .int 100000) (by rfl) T.gMD ⟨_, rfl⟩) (nomark _)) (pss_one (ps_raise rfl (takes_of rfl rfl rfl rfl) (pmk_sx T.xT T.zT hr1 (pa_cons (pe_glob (v := .int 100000) (by rfl) T.gMD ⟨_, rfl⟩) pa_nil) (by rfl) T.gIT))) pss_nil)
      (pss_one (ps_ret (pe_callTy call_tuple_of (by rfl) T.tuple (by decide +kernel) (pa_cons (pe_lc (own := [("k", 3)]) rfl sc_read_stream.nd (pi_range3 rfl T.range (pa_cons pe_int (pa_cons (pe_callB call_len (by rfl) T.len (by decide +kernel) (pa_cons (pv 0) pa_nil)) (pa_cons pe_int pa_nil)))) (blkOk_by (N := ["text", "offset", "sign", "k"]) (sc := defScope s_read_stream) (by decide +kernel)) (fun _ _ _ _ _ => (pg_name (i := 3) sc_read_stream.nd rfl (Or.inl rfl))) (fun _ _ _ _ _ => pts_nil) (fun _ _ _ _ _ => (pe_op op_add (pe_op op_mul pe_int (show PE _ _ (tBMS K "str" (rIndexX (fun _ _ _ _ => False)) _ _) from (pe_bmS PySem.F.plainAttrs_str PySem.F.slot_str_index PySem.F.type_str_index (mt_indexX rfl takes0) (pe_glob (v := .str "0123456789abcdef") (by rfl) T.gDIG ⟨_, rfl⟩) (pa_cons (pe_ix ix_str (pv 0) (pv 3) (fun _ _ => rfl)) pa_nil)))) (show PE _ _ (tBMS K "str" (rIndexX (fun _ _ _ _ => False)) _ _) from (pe_bmS PySem.F.plainAttrs_str PySem.F.slot_str_index PySem.F.type_str_index (mt_indexX rfl takes0) (pe_glob (v := .str "0123456789abcdef") (by rfl) T.gDIG ⟨_, rfl⟩) (pa_cons (pe_ix ix_str (pv 0) (pe_op op_add (pv 3) pe_int) (fun _ _ => rfl)) pa_nil)))))) pa_nil)))))))), ?_⟩
    cases o with
    | none =>
      obtain ⟨ty, hty, hk⟩ := hv
      refine ⟨_, rfl, _, _, _, _, false, rfl, .ty _, .base hty, kit_ty hk, _, rfl, iteT ?_⟩
      exact ⟨rfl, by show 1 ≤ 1000; decide, fun d hd => qE .non rfl H d (Same.refl _) hd⟩
    | some cs =>
      obtain ⟨rfl, hl⟩ := hv
      have hlen : Str.length ⟨cs.toArray⟩ = cs.length := by
        show cs.toArray.size = _
        simp
      have LV : ∀ H', LenV K (.str ⟨cs.toArray⟩) H' cs.length := fun H' => ⟨by rw [hlen, sizeLine_eq]; omega, hlen.symm⟩
      refine ⟨_, rfl, _, _, _, _, true, rfl, .ty _, .base (.base (.str _)), kit_ty (by decide +kernel), _, rfl, iteF ?_⟩
      refine ⟨_, rfl, _, rfl, for_it walk_enumS (fun i σ H' => ∃ u1 u2 : Option V, σ = [some (.str ⟨cs.toArray⟩), u1, u2, none] ∧ Same H H' ∧ ∀ j c, j < i → cs[j]? = some c → c ∈ hexL)
        ⟨none, none, rfl, Same.refl _, fun j c hj => absurd hj (Nat.not_lt_zero _)⟩ (fun _ _ _ _ _ => trivial) ?_ ?_⟩
      · rintro i x σ H1 H2 hi ⟨u1, u2, rfl, s1, hp⟩ ⟨t, x1, x2, rfl, ht, rfl, e1, e2⟩
        cases e1
        have e2 : (Str.mk cs.toArray).cps[i]?.map (fun c => V.str ⟨#[c]⟩) = some x2 := e2
        obtain ⟨c, hc, rfl⟩ : ∃ c, cs[i]? = some c ∧ x2 = .str ⟨#[c]⟩ := by
          cases e : (Str.mk cs.toArray).cps[i]? with
          | none =>
            rw [e] at e2
            cases e2
          | some c =>
            rw [e] at e2
            exact ⟨c, get_cs e, (Option.some.inj e2).symm⟩
        have s2 : Same H (upd H1 t (.tup [.int (i : Nat), .str ⟨#[c]⟩])) := s1.trans (same_upd ht)
        refine ⟨t, _, rfl, SqT.of upd_same, rfl, _, _, rfl, _, _, rfl, rfl, ?_⟩
        refine ⟨_, rfl, _, _, rfl, rfl, _, rfl, ?_⟩
        by_cases hb : c ∈ hexL
        · have e : (!decide (c ∈ (Str.cps "0123456789abcdef").toList)) = false := by rw [decide_eq_true (show c ∈ (Str.cps "0123456789abcdef").toList from hb)]; rfl
          rw [e]
          refine iteF ⟨_, _, rfl, s2, fun j c' hj hc' => ?_⟩
          by_cases z : j = i
          · subst z
            rw [hc] at hc'
            cases hc'
            exact hb
          · exact hp j c' (by omega) hc'
        · have e : (!decide (c ∈ (Str.cps "0123456789abcdef").toList)) = true := by rw [decide_eq_false (show ¬ c ∈ (Str.cps "0123456789abcdef").toList from hb)]; rfl
          rw [e]
          refine iteT ?_
          exact ⟨_, rfl, rfl, by show 1 ≤ 1000; decide, fun d hd => qE _ (offV_inl (res_bad (first_bad hp hc hb))) _ d s2 hd⟩
      · rintro σ H1 ⟨u1, u2, rfl, s1, hp⟩
        have hp2 : cs.findIdx? isBad = none := none_bad (by
          have z : (Str.mk cs.toArray).cps.size = cs.length := by simp
          rw [z] at hp
          exact hp)
        refine ⟨_, rfl, _, _, rfl, LV H1, _, _, rfl, rfl, (by show (0 : Int) < 2; decide), rfl, _, rfl, ?_⟩
        refine ite2 (fun c1 => ?_) (fun c1 => ?_)
        · have e : ((cs.length : Nat) : Int) % 2 = 1 := V.int.inj (of_decide_eq_true c1)
          exact ⟨_, rfl, _, _, rfl, LV H1, rfl, by show 1 ≤ 1000; decide, fun d hd => qE _ (offV_inl (res_odd hp2 (by omega))) _ d s1 hd⟩
        · have e : ¬ cs.length % 2 = 1 := fun z => c1 (decide_eq_true (congrArg V.int (by omega)))
          refine ⟨_, rfl, _, _, rfl, LV H1, _, _, rfl, rfl, _, rfl, ?_⟩
          refine ite2 (fun c2 => ?_) (fun c2 => ?_)
          · have e2 := of_decide_eq_true c2
            exact ⟨rfl, by show 1 ≤ 1000; decide, fun d hd => qE _ (offV_inl (res_long hp2 e (by omega))) _ d s1 hd⟩
          · have e2 : ¬ 100000 < cs.length := fun z => c2 (decide_eq_true (by omega))
            have hg := good_of hp2
            obtain ⟨m, hm⟩ : ∃ m, cs.length = 2 * m := ⟨cs.length / 2, by omega⟩
            refine ⟨_, rfl, _, _, rfl, LV H1, _, _, _, m, rfl, by rw [hm]; exact rg_two (by omega), fun D hD => lc_it walk_rangeC (LcPv H1 D fun i => (natsV (prs cs)).take i) (lc_start hD rfl) (fun _ _ _ _ => trivial) ?_ ?_⟩
            · rintro i x H2 H3 hi h ⟨rfl, rfl⟩
              have h1 : cs[2 * i]? = some cs[2 * i] := List.getElem?_eq_getElem (by omega)
              have h2 : cs[2 * i + 1]? = some cs[2 * i + 1] := List.getElem?_eq_getElem (by omega)
              have m1 := hg _ (List.getElem_mem (show 2 * i < cs.length by omega))
              have m2 := hg _ (List.getElem_mem (show 2 * i + 1 < cs.length by omega))
              have at_ : ∀ {j : Nat} {z : Int}, z = (j : Int) → ∀ h : j < cs.length, atI (Str.mk cs.toArray).cps.toList z = some cs[j] := fun {j z} e h => by
                rw [e]
                refine atI_nat ?_
                show cs[j]? = _
                exact List.getElem?_eq_getElem h
              have ix : ∀ {c k : Nat}, c ∈ hexL → Txt.index0 "0123456789abcdef" ⟨#[c]⟩ = some k → k = unhx c := fun {c k} hc e => by
                have z : Txt.index0 "0123456789abcdef" ⟨#[c]⟩ = some (unhx c) := index0_of hc
                rw [z] at e
                exact (Option.some.inj e).symm
              have hz : Str.length ⟨cs.toArray⟩ ≤ sizeLine := by rw [hlen, sizeLine_eq]; omega
              refine ⟨rfl, ?_⟩
              refine ⟨rfl, _, rfl, _, rfl, _, _, _, rfl, rfl, hz, at_ (j := 2 * i) (by omega) (by omega), _, _, rfl, rfl, fun k1 hk1 => ?_, fun hn => ?_⟩
              · refine ⟨_, _, rfl, rfl, .inl ⟨by decide, by decide⟩, ?_⟩
                refine ⟨rfl, _, rfl, ⟨_, rfl, _, _, rfl, rfl, _, _, _, rfl, rfl, hz, at_ (j := 2 * i + 1) (by omega) (by omega), _, _, rfl, rfl, fun k2 hk2 => ?_, fun hn => ?_⟩⟩
                · refine ⟨_, _, rfl, rfl, ?_⟩
                  rw [ix m1 hk1, ix m2 hk2]
                  refine lc_put h hD (Same.refl _) (take_more ?_) ?_
                  · unfold natsV
                    rw [List.getElem?_map, prs_get cs i _ _ h1 h2]
                    rfl
                  · rw [List.length_take]
                    have := prs_len cs
                    simp only [natsV, List.length_map]
                    omega
                · have z : Txt.index0 "0123456789abcdef" ⟨#[cs[2 * i + 1]]⟩ = some _ := index0_of m2
                  rw [z] at hn
                  cases hn
              · have z : Txt.index0 "0123456789abcdef" ⟨#[cs[2 * i]]⟩ = some _ := index0_of m1
                rw [z] at hn
                cases hn
            · intro H2 h
              have hl2 := prs_len cs
              have e3 : H2 D = some (.lst ((natsV (prs cs)).take m)) := h.2
              rw [List.take_of_length_le (by simp only [natsV, List.length_map]; omega)] at e3
              refine ⟨_, _, rfl, .inl ⟨SqL.of e3, fun l hl => ?_⟩⟩
              exact q cs (prs cs) rfl (res_good hp2 e e2) _ l (s1.trans (h.1.trans (same_upd hl))) (SqT.of upd_same)
end
end B59

set_option Elab.async false
set_option linter.all false
set_option maxRecDepth 100000
set_option maxHeartbeats 4000000
namespace B59
open PySem PySem.Spec PyProof.Rows L2 L2.BJ
open PySem.BJX (SxC SxInit)
theorem dget {H : Hp} {d : Addr} {kvs : List (Key × V)} {k : Str} {v : V} (e : H d = some (.dK kvs)) (h : valV kvs (Sum.inr k) = some v) : DGet H d (.str k) (some v) := by
  rw [← h]
  exact DGet.k (k := Sum.inr k) e
theorem dput {H : Hp} {d : Addr} {kvs : List (Key × V)} {k : Str} {v : V} (e : H d = some (.dK kvs)) (hl : kvs.length ≤ 1000) : DPut H d (.str k) v (upd H d (.dK (putK kvs (Sum.inr k) v))) := DPut.k (k := Sum.inr k) e (small1000 hl)
theorem put_same {kvs : List (Key × V)} {k : Str} {v : V} : valV (putK kvs (Sum.inr k) v) (Sum.inr k : Key) = some v := by
  rw [valV_put, if_pos rfl]
theorem put_ne {kvs : List (Key × V)} {k j : Str} {v : V} (h : ¬ j = k) : valV (putK kvs (Sum.inr k) v) (Sum.inr j : Key) = valV kvs (Sum.inr j) := by
  rw [valV_put, if_neg fun z => h (Sum.inr.inj z)]
theorem put_len {kvs : List (Key × V)} {k : Str} {v w : V} (h : valV kvs (Sum.inr k) = some w) (hl : kvs.length ≤ 4) : (putK kvs (Sum.inr k : Key) v).length ≤ 4 := by
  unfold putK
  rw [valV_any, h]
  show (kvs.map _).length ≤ 4
  rw [List.length_map]
  exact hl
theorem putK_le (c : List (Key × V)) (k : Key) (x : V) : (putK c k x).length ≤ c.length + 1 := by
  unfold putK
  split
  · rw [List.length_map]
    omega
  · rw [List.length_append]
    exact Nat.le_refl _
theorem k1 : ¬ ("cells" : Str) = "at" := by decide +kernel
theorem k2 : ¬ ("cells" : Str) = "left" := by decide +kernel
theorem k3 : ¬ ("cells" : Str) = "used" := by decide +kernel
theorem k4 : ¬ ("at" : Str) = "left" := by decide +kernel
theorem k5 : ¬ ("at" : Str) = "used" := by decide +kernel
theorem k6 : ¬ ("left" : Str) = "used" := by decide +kernel
/-- the draws' dict, its parts named -/
structure Dr (H : Hp) (d : Addr) (kvs : List (Key × V)) (c : Addr) (xs : List Int) (at_ used : Nat) (left : Int) : Prop where
  hd : H d = some (.dK kvs)
  hl : kvs.length ≤ 4
  hc : valV kvs (Sum.inr "cells") = some (.ref c)
  ha : valV kvs (Sum.inr "at") = some (.int at_)
  hf : valV kvs (Sum.inr "left") = some (.int left)
  hu : valV kvs (Sum.inr "used") = some (.int used)
  hx : H c = some (.lst (xs.map V.int))
  hn : xs ≠ []
  hz : xs.length ≤ 64
theorem Dr.drawn {H : Hp} {d c : Addr} {kvs : List (Key × V)} {xs : List Int} {at_ used n : Nat} {left : Int} (h : Dr H d kvs c xs at_ used left) (h1 : at_ ≤ n) (h2 : used ≤ n) : Drawn H d c n :=
  ⟨kvs, xs, at_, used, left, h.hd, h.hl, h.hc, h.ha, h.hf, h.hu, h.hx, h.hn, h.hz, h1, h2⟩
section
variable {H : Hp} {d c : Addr} {kvs : List (Key × V)} {xs : List Int} {at_ used : Nat} {left : Int}
theorem Dr.ne (h : Dr H d kvs c xs at_ used left) : c ≠ d := ne_of h.hx h.hd (by intro z; cases z)
theorem Dr.putF (h : Dr H d kvs c xs at_ used left) (z : Int) : Dr (upd H d (.dK (putK kvs (Sum.inr "left") (.int z)))) d (putK kvs (Sum.inr "left") (.int z)) c xs at_ used z :=
  ⟨upd_same, put_len h.hf h.hl, by rw [put_ne k2]; exact h.hc, by rw [put_ne k4]; exact h.ha, put_same, by rw [put_ne (Ne.symm k6)]; exact h.hu, by rw [upd_ne h.ne]; exact h.hx, h.hn, h.hz⟩
theorem Dr.putA (h : Dr H d kvs c xs at_ used left) (z : Nat) : Dr (upd H d (.dK (putK kvs (Sum.inr "at") (.int z)))) d (putK kvs (Sum.inr "at") (.int z)) c xs z used left :=
  ⟨upd_same, put_len h.ha h.hl, by rw [put_ne k1]; exact h.hc, put_same, by rw [put_ne (Ne.symm k4)]; exact h.hf, by rw [put_ne (Ne.symm k5)]; exact h.hu, by rw [upd_ne h.ne]; exact h.hx, h.hn, h.hz⟩
theorem Dr.putU (h : Dr H d kvs c xs at_ used left) (z : Nat) : Dr (upd H d (.dK (putK kvs (Sum.inr "used") (.int z)))) d (putK kvs (Sum.inr "used") (.int z)) c xs at_ z left :=
  ⟨upd_same, put_len h.hu h.hl, by rw [put_ne k3]; exact h.hc, by rw [put_ne k5]; exact h.ha, by rw [put_ne k6]; exact h.hf, put_same, by rw [upd_ne h.ne]; exact h.hx, h.hn, h.hz⟩
end
theorem But.refl (d : Addr) (H : Hp) : But d H H := fun _ _ e _ => e
theorem But.put {d : Addr} {H H' : Hp} (h : But d H H') (o : HO) : But d H (upd H' d o) := fun b u e hb => by
  rw [upd_ne hb]
  exact h b u e hb
theorem But.trans {d : Addr} {H H1 H2 : Hp} (h : But d H H1) (h2 : But d H1 H2) : But d H H2 := fun b u e hb => h2 b u (h b u e hb) hb
theorem mod_nat (z : Int) {b : Nat} (hb : 0 < b) : ∃ i : Nat, z % (b : Int) = i ∧ i < b := by
  have h1 := Int.emod_nonneg z (b := (b : Int)) (by omega)
  have h2 := Int.emod_lt_of_pos z (b := (b : Int)) (by omega)
  exact ⟨(z % (b : Int)).toNat, by omega, by omega⟩
section
variable {P : Program} {w : World} {K : PySem.W.Frag} {mg : Str → Option Value} {base : Heap} {a : Ad} {f : Addr} {fd fd1 : FuncData}
theorem ok_L_begin (F : Fun K "_law_begin" "_law_begin" s_L_begin f fd) (T : Txt P w K mg a) : FnG P w K mg base 1 f fd ["script"] (sp_L_begin K) := by
  refine F.okG sc_L_begin (fun vs H Q E h => ?_) (fun cdv A outer s H vs Q E hr hgd h => ?_)
  · obtain ⟨_, _, rfl, _⟩ := h
    rfl
  · obtain ⟨p, ns, rfl, hS, hl, q⟩ := h
    refine ⟨_, (pss_one (ps_ret (pe_disp (pps_cons pe_str (pe_op op_catR (pv 0) (pe_lst (pa_cons pe_int pa_nil))) (pps_cons pe_str pe_int (pps_cons pe_str pe_int (pps_cons pe_str pe_int pps_nil)))) (by rfl) (by rfl) (fun z => by cases z) (by decide)))), ?_⟩
    intro d hd
    have s1 : Same H (upd H d (.dK [])) := same_upd hd
    refine ⟨_, rfl, by show 1 ≤ sizeLine; decide, fun l hl2 => ?_⟩
    have s2 := s1.trans (same_upd (o := .lst [.int 0]) hl2)
    refine ⟨_, _, _, _, rfl, rfl, s2.seq hS, SqL.of upd_same, by rw [List.length_map, sizeLine_eq]; show ns.length + 1 ≤ _; omega, fun c hc => ?_⟩
    have s3 := s2.trans (same_upd (o := .lst (ns.map V.int ++ [.int 0])) hc)
    have nld : l ≠ d := fun z => by rw [z, upd_same] at hl2; cases hl2
    have ncd : c ≠ d := fun z => by rw [z, upd_ne (Ne.symm nld), upd_same] at hc; cases hc
    refine ⟨by rw [upd_ne (Ne.symm ncd), upd_ne (Ne.symm nld), upd_same], [(Sum.inr "cells", .ref c), (Sum.inr "at", .int 0), (Sum.inr "left", .int 0), (Sum.inr "used", .int 0)], rfl, by show 4 ≤ 15; decide, ?_⟩
    refine q _ d c (same_put s3 hd) hd (Same.free s2 hc) ?_
    have em : mergeK [] [((Sum.inr "cells" : Key), V.ref c), (Sum.inr "at", .int 0), (Sum.inr "left", .int 0), (Sum.inr "used", .int 0)] = putK (putK (putK (putK [] (Sum.inr "cells" : Key) (V.ref c)) (Sum.inr "at") (.int 0)) (Sum.inr "left") (.int 0)) (Sum.inr "used") (.int 0) := rfl
    refine Dr.drawn (kvs := mergeK [] [(Sum.inr "cells", .ref c), (Sum.inr "at", .int 0), (Sum.inr "left", .int 0), (Sum.inr "used", .int 0)]) (c := c) (xs := ns ++ [0]) (at_ := 0) (used := 0) (left := 0) ⟨upd_same, ?_, ?_, ?_, ?_, ?_, ?_, by simp, by simp; omega⟩ (Nat.le_refl _) (Nat.le_refl _)
    · rw [em]
      exact Nat.le_trans (putK_le ..) (Nat.succ_le_succ (Nat.le_trans (putK_le ..) (Nat.succ_le_succ (Nat.le_trans (putK_le ..) (Nat.succ_le_succ (Nat.le_trans (putK_le ..) (show ([] : List (Key × V)).length + 1 ≤ 1 from Nat.le_refl _)))))))
    · rw [em]
      exact (put_ne k3).trans ((put_ne k2).trans ((put_ne k1).trans put_same))
    · rw [em]
      exact (put_ne k5).trans ((put_ne k4).trans put_same)
    · rw [em]
      exact (put_ne k6).trans put_same
    · rw [em]
      exact put_same
    · rw [upd_ne ncd, upd_same, List.map_append]
      rfl
theorem ok_L_mixed (F : Fun K "_law_mixed" "_law_mixed" s_L_mixed f fd) (T : Txt P w K mg a) : FnG P w K mg base 1 f fd ["cell", "k"] sp_L_mixed := by
  refine F.okG sc_L_mixed (fun vs H Q E h => ?_) (fun cdv A outer s H vs Q E hr hgd h => ?_)
  · obtain ⟨_, _, rfl, _⟩ := h
    rfl
  · obtain ⟨c, k, rfl, hk, q⟩ := h
    refine ⟨_, (pss_cons (ps_set (i := 2) sc_L_mixed.nd rfl (Or.inl rfl) (pe_op op_mod (pe_op op_add (pe_op op_add (pe_op op_add (pe_op op_mod (pv 0) pe_int) (pe_op op_mul (pe_op op_mul pe_int (pv 1)) (pv 1))) (pe_op op_mul pe_int (pv 1))) pe_int) pe_int))
      (pss_cons (ps_set (i := 2) sc_L_mixed.nd rfl (Or.inl rfl) (pe_op op_mod (pe_op op_mul (pe_op op_mod (pe_op op_mul (pv 2) (pv 2)) pe_int) (pv 2)) pe_int))
      (pss_one (ps_ret (pe_op op_fdiv (pe_op op_mod (pe_op op_mul (pv 2) (pe_op op_add pe_int (pe_op op_mul pe_int (pe_op op_mod (pv 1) pe_int)))) pe_int) pe_int))))), ?_⟩
    have hk2 : (k : Int) ≤ 1000000 := by omega
    have hk0 : (0 : Int) ≤ k := by omega
    have p64 : (2 : Int) ^ 64 = 18446744073709551616 := by decide
    -- mixed
    refine ⟨_, rfl, _, _, rfl, rfl, (by show (0 : Int) < 1000000007; decide), _, rfl, _, _, rfl, rfl, .inl ⟨by decide, by decide⟩, ?_⟩
    refine ⟨_, rfl, _, _, rfl, rfl, .inr ⟨by omega, by omega⟩, _, _, rfl, rfl, _, rfl, _, _, rfl, rfl, .inl ⟨by decide, by decide⟩, _, _, rfl, rfl, _, _, rfl, rfl, _, _, rfl, rfl, (by show (0 : Int) < 2147483647; decide), ?_⟩
    generalize hm : (c % 1000000007 + 7919 * (k : Int) * k + 31 * k + 7) % 2147483647 = m
    have m1 : 0 ≤ m := by rw [← hm]; exact Int.emod_nonneg _ (by decide)
    have m2 : m < 2147483647 := by rw [← hm]; exact Int.emod_lt_of_pos _ (by decide)
    refine ⟨_, rfl, _, rfl, _, _, rfl, rfl, .inl ⟨by omega, by omega⟩, _, _, rfl, rfl, (by show (0 : Int) < 2147483647; decide), _, rfl, _, _, rfl, rfl, .inr ⟨by omega, by omega⟩, _, _, rfl, rfl, (by show (0 : Int) < 2147483629; decide), ?_⟩
    generalize hm' : (m * m % 2147483647 * m) % 2147483629 = m'
    have m1' : 0 ≤ m' := by rw [← hm']; exact Int.emod_nonneg _ (by decide)
    have m2' : m' < 2147483629 := by rw [← hm']; exact Int.emod_lt_of_pos _ (by decide)
    refine ⟨_, rfl, _, rfl, _, _, rfl, rfl, (by show (0 : Int) < 1000; decide), _, _, rfl, rfl, .inl ⟨by decide, by decide⟩, _, _, rfl, rfl, _, _, rfl, rfl, .inl ⟨by omega, by omega⟩, _, _, rfl, rfl, (by show (0 : Int) < 2147483647; decide), _, _, rfl, rfl, ⟨by decide, by decide⟩, ?_⟩
    exact q _ (Int.ediv_nonneg (Int.emod_nonneg _ (by decide)) (by decide))
theorem ok_L_next (F : Fun K "_law_next" "_law_next" s_L_next f fd) (T : Txt P w K mg a) (G_L_mixed : FnG P w K mg base 1 a.lm fd1 ["cell", "k"] sp_L_mixed) (b_L_mixed : Binds K fd1 ["cell", "k"] []) : FnG P w K mg base 2 f fd ["draw", "bound"] sp_L_next := by
  refine F.okG sc_L_next (fun vs H Q E h => ?_) (fun cdv A outer s H vs Q E hr hgd h => ?_)
  · obtain ⟨_, _, _, _, rfl, _⟩ := h
    rfl
  · obtain ⟨d, c, b, n, rfl, ⟨kvs, xs, at_, used, left, D1, D2, D3, D4, D5, D6, D7, D8, D9, ha, hu2⟩, hb, hb2, hn, q⟩ := h
    have D : Dr H d kvs c xs at_ used left := ⟨D1, D2, D3, D4, D5, D6, D7, D8, D9⟩
    have hr1 : Room 1 _ := hr.mono (by decide)
    have hu := hu_of hr
    refine ⟨_, (pss_cons (ps_if (pt_cmpR op_gt (pe_dget hu (pv 0) pe_str (fun _ _ => rfl)) pe_int (nomark _)) (pss_cons (ps_set (i := 2) sc_L_next.nd rfl (Or.inl rfl) (pe_op op_mod (pe_dget hu (pv 0) pe_str (fun _ _ => rfl)) (pv 1)))
      (pss_cons (ps_dput hu (pv 0) pe_str (pe_op op_fdiv (pe_dget hu (pv 0) pe_str (fun _ _ => rfl)) (pv 1)) rfl)
      (pss_one (ps_ret (pv 2))))) pss_nil)
      (pss_cons (ps_set (i := 3) sc_L_next.nd rfl (Or.inl rfl) (pe_dget hu (pv 0) pe_str (fun _ _ => rfl)))
      (pss_cons (ps_set (i := 4) sc_L_next.nd rfl (Or.inl rfl) (pe_ix ix_list (pv 3) (pe_op op_mod (pe_dget hu (pv 0) pe_str (fun _ _ => rfl)) (pe_callB call_len (by rfl) T.len (by decide +kernel) (pa_cons (pv 3) pa_nil))) (fun _ _ => rfl)))
      (pss_cons (ps_dput hu (pv 0) pe_str (pe_op op_add (pe_dget hu (pv 0) pe_str (fun _ _ => rfl)) pe_int) rfl)
      (pss_cons (ps_if (PW.pt (pw_and (pt_cmpR op_ge (pv 4) (pe_op op_pow pe_int pe_int) (nomark _)) (pw_and1 (pt_cmpR op_le (pe_dget hu (pv 0) pe_str (fun _ _ => rfl)) (pe_callB call_len (by rfl) T.len (by decide +kernel) (pa_cons (pv 3) pa_nil)) (nomark _))))) (pss_cons (ps_dput hu (pv 0) pe_str (pe_op op_fdiv (pv 4) (pv 1)) rfl)
      (pss_one (ps_ret (pe_op op_mod (pv 4) (pv 1))))) pss_nil)
      (pss_cons (ps_dput hu (pv 0) pe_str (pe_op op_add (pe_dget hu (pv 0) pe_str (fun _ _ => rfl)) pe_int) rfl)
      (pss_one (ps_ret (pe_op op_mod (pe_callG G_L_mixed hr1 hgd (by rfl) T.g_L_mixed T.k_L_mixed b_L_mixed .nil (takes_of rfl rfl rfl rfl) (pa_cons (pe_callG G_L_mixed hr1 hgd (by rfl) T.g_L_mixed T.k_L_mixed b_L_mixed .nil (takes_of rfl rfl rfl rfl) (pa_cons (pv 4) (pa_cons (pe_dget hu (pv 0) pe_str (fun _ _ => rfl)) pa_nil))) (pa_cons (pe_dget hu (pv 0) pe_str (fun _ _ => rfl)) pa_nil))) (pv 1)))))))))), ?_⟩
    have hb0 : (0 : Int) < b := by omega
    have hcf : (0 : Int) < b ∧ (b : Int) < 1073741824 := ⟨by omega, by omega⟩
    have qz : ∀ (z : Int) H', 0 ≤ z → z < b → But d H H' → Drawn H' d c (n + 1) → Q (.int z) H' := fun z H' h1 h2 h3 h4 => by
      have e : z = ((z.toNat : Nat) : Int) := by omega
      rw [e]
      exact q z.toNat H' (by omega) h3 h4
    refine ⟨_, rfl, d, _, rfl, dget D.hd D.hf, _, _, rfl, rfl, _, rfl, ?_⟩
    refine ite2 (fun _ => ?_) (fun _ => ?_)
    · -- what is left
      refine ⟨_, rfl, d, _, rfl, dget D.hd D.hf, _, rfl, _, _, rfl, rfl, hb0, ?_⟩
      refine ⟨_, rfl, d, _, rfl, dget D.hd D.hf, _, rfl, _, _, rfl, rfl, hcf, _, rfl, d, _, rfl, dput D.hd (by have := D.hl; omega), ?_⟩
      refine ⟨_, rfl, ?_⟩
      exact qz _ _ (Int.emod_nonneg _ (by omega)) (Int.emod_lt_of_pos _ hb0) (But.put (But.refl d H) _) ((D.putF _).drawn (by omega) (by omega))
    · refine ⟨_, rfl, d, _, rfl, dget D.hd D.hc, ?_⟩
      have hx0 : 0 < xs.length := List.length_pos_iff.mpr D.hn
      have hxl : (xs.map V.int).length = xs.length := List.length_map ..
      obtain ⟨cell, hcell⟩ : ∃ cell, atI (xs.map V.int) ((at_ : Int) % (xs.length : Int)) = some (.int cell) := by
        obtain ⟨j, ej, hj⟩ := mod_nat (at_ : Int) hx0
        rw [ej]
        exact ⟨xs[j], atI_nat (by rw [List.getElem?_map, List.getElem?_eq_getElem hj]; rfl)⟩
      refine ⟨_, rfl, _, rfl, d, _, rfl, dget D.hd D.ha, _, rfl, _, xs.length, rfl, .inl ⟨_, SqL.of D.hx, hxl.symm⟩, _, _, rfl, rfl, by show (0 : Int) < (xs.length : Int); omega, _, _, _, _, rfl, rfl, SqL.of D.hx, hcell, ?_⟩
      refine ⟨_, rfl, d, _, rfl, dget D.hd D.ha, _, _, rfl, rfl, _, rfl, d, _, rfl, dput D.hd (by have := D.hl; omega), ?_⟩
      have D' : Dr (upd H d (.dK (putK kvs (Sum.inr "at") (.int ((at_ : Int) + 1))))) d _ c xs (at_ + 1) used left := D.putA (at_ + 1)
      have b1 := But.put (But.refl d H) (.dK (putK kvs (Sum.inr "at") (.int ((at_ : Int) + 1))))
      refine ⟨_, rfl, _, _, rfl, rfl, ⟨by decide, by decide, by decide⟩, _, _, rfl, rfl, _, rfl, ?_⟩
      refine ite2 (fun _ => ?_) (fun _ => ?_)
      · refine ⟨_, rfl, d, _, rfl, dget D'.hd D'.ha, _, rfl, _, xs.length, rfl, .inl ⟨_, SqL.of D'.hx, hxl.symm⟩, _, _, rfl, rfl, _, rfl, ?_⟩
        refine ite2 (fun _ => ?_) (fun _ => ?_)
        · refine ⟨_, rfl, _, rfl, _, _, rfl, rfl, hcf, _, rfl, d, _, rfl, dput D'.hd (by have := D'.hl; omega), ?_⟩
          refine ⟨_, rfl, _, rfl, _, _, rfl, rfl, hb0, ?_⟩
          exact qz _ _ (Int.emod_nonneg _ (by omega)) (Int.emod_lt_of_pos _ hb0) (But.put b1 _) ((D'.putF _).drawn (by omega) (by omega))
        · refine ⟨_, rfl, d, _, rfl, dget D'.hd D'.hu, _, _, rfl, rfl, _, rfl, d, _, rfl, dput D'.hd (by have := D'.hl; omega), ?_⟩
          have D2 : Dr (upd (upd H d (.dK (putK kvs (Sum.inr "at") (.int ((at_ : Int) + 1))))) d (.dK (putK (putK kvs (Sum.inr "at") (.int ((at_ : Int) + 1))) (Sum.inr "used") (.int ((used : Int) + 1))))) d _ c xs (at_ + 1) (used + 1) left := D'.putU (used + 1)
          have b2 := But.put b1 (.dK (putK (putK kvs (Sum.inr "at") (.int ((at_ : Int) + 1))) (Sum.inr "used") (.int ((used : Int) + 1))))
          refine ⟨_, rfl, _, rfl, d, _, rfl, dget D2.hd D2.ha, cell, at_ + 1, rfl, by omega, fun m hm => ⟨_, rfl, d, _, rfl, dget D2.hd D2.hu, m, used + 1, rfl, by omega, fun m2 hm2 => ⟨_, rfl, _, _, rfl, rfl, hb0, ?_⟩⟩⟩
          exact qz _ _ (Int.emod_nonneg _ (by omega)) (Int.emod_lt_of_pos _ hb0) b2 (D2.drawn (by omega) (by omega))
      · refine iteF ?_
        refine ⟨_, rfl, d, _, rfl, dget D'.hd D'.hu, _, _, rfl, rfl, _, rfl, d, _, rfl, dput D'.hd (by have := D'.hl; omega), ?_⟩
        have D2 : Dr (upd (upd H d (.dK (putK kvs (Sum.inr "at") (.int ((at_ : Int) + 1))))) d (.dK (putK (putK kvs (Sum.inr "at") (.int ((at_ : Int) + 1))) (Sum.inr "used") (.int ((used : Int) + 1))))) d _ c xs (at_ + 1) (used + 1) left := D'.putU (used + 1)
        have b2 := But.put b1 (.dK (putK (putK kvs (Sum.inr "at") (.int ((at_ : Int) + 1))) (Sum.inr "used") (.int ((used : Int) + 1))))
        refine ⟨_, rfl, _, rfl, d, _, rfl, dget D2.hd D2.ha, cell, at_ + 1, rfl, by omega, fun m hm => ⟨_, rfl, d, _, rfl, dget D2.hd D2.hu, m, used + 1, rfl, by omega, fun m2 hm2 => ⟨_, rfl, _, _, rfl, rfl, hb0, ?_⟩⟩⟩
        exact qz _ _ (Int.emod_nonneg _ (by omega)) (Int.emod_lt_of_pos _ hb0) b2 (D2.drawn (by omega) (by omega))
end
end B59

set_option Elab.async false
set_option linter.all false
set_option maxRecDepth 100000
set_option maxHeartbeats 4000000
namespace B59
open PySem PySem.Spec PyProof.Rows L2 L2.BJ
open PySem.BJX (SxC SxInit)
/-! ### data -/
theorem lay_nats : ∀ ns : List Nat, PyData.canLayAll0 (natsD ns) = true ∧ PyData.depthAll (natsD ns) = 0
  | [] => ⟨by simp [natsD, PyData.canLayAll0], by simp [natsD, PyData.depthAll]⟩
  | n :: r => by
    obtain ⟨h1, h2⟩ := lay_nats r
    have e : natsD (n :: r) = PyData.int (n : Nat) :: natsD r := rfl
    rw [e]
    exact ⟨by simp [PyData.canLayAll0, PyData.canLay0, h1], by simp [PyData.depthAll, PyData.depth, h2]⟩
theorem shaped_lst (ns : List Nat) : SeqAt.shaped (.list (natsD ns)) = true := by
  obtain ⟨h1, h2⟩ := lay_nats ns
  unfold SeqAt.shaped
  simp [PyData.canLay0, h1, PyData.depth, h2]
theorem shaped_tup (ns : List Nat) : SeqAt.shaped (.tuple (natsD ns)) = true := by
  obtain ⟨h1, h2⟩ := lay_nats ns
  unfold SeqAt.shaped
  simp [PyData.canLay0, h1, PyData.depth, h2]
theorem eqv_nil (ns : List Nat) : PyData.eqv (.list (natsD ns)) (.list (natsD [])) = decide (ns = []) := by
  cases ns with
  | nil => rfl
  | cons a r => rfl
/-! ### the wrong ones -/
def wrongs (cs : List Nat) (i : Nat) : List Nat := (List.range i).filter fun j => isBad (cs.getD j 0)
theorem wrongs_bad {cs : List Nat} {i : Nat} (h : isBad (cs.getD i 0) = true) : wrongs cs (i + 1) = wrongs cs i ++ [i] := by
  unfold wrongs
  rw [List.range_succ, List.filter_append]
  have h' := h
  rw [List.getD_eq_getElem?_getD] at h'
  simp [List.filter_cons, h']
theorem wrongs_good {cs : List Nat} {i : Nat} (h : isBad (cs.getD i 0) = false) : wrongs cs (i + 1) = wrongs cs i := by
  unfold wrongs
  rw [List.range_succ, List.filter_append]
  have h' := h
  rw [List.getD_eq_getElem?_getD] at h'
  simp [List.filter_cons, h']
theorem wrongs_len (cs : List Nat) (i : Nat) : (wrongs cs i).length ≤ i := by
  have h := List.length_filter_le (fun j => isBad (cs.getD j 0)) (List.range i)
  rw [List.length_range] at h
  exact h
theorem wrongs_none {cs : List Nat} (h : cs.findIdx? isBad = none) : wrongs cs cs.length = [] := by
  unfold wrongs
  rw [List.filter_eq_nil_iff]
  intro j hj
  have hl := List.mem_range.mp hj
  have z := (List.findIdx?_eq_none_iff.mp h) cs[j] (List.getElem_mem hl)
  rw [List.getD_eq_getElem?_getD, List.getElem?_eq_getElem hl]
  simp [z]
theorem wrongs_some {cs : List Nat} {k : Nat} (h : cs.findIdx? isBad = some k) : (wrongs cs cs.length)[0]? = some k := by
  obtain ⟨hl, h1, h2⟩ := List.findIdx?_eq_some_iff_getElem.mp h
  have e : (List.range cs.length).find? (fun j => isBad (cs.getD j 0)) = some k := by
    rw [List.find?_range_eq_some]
    refine ⟨?_, List.mem_range.mpr hl, fun j hj => ?_⟩
    · rw [List.getD_eq_getElem?_getD, List.getElem?_eq_getElem hl]
      exact h1
    · have z := h2 j hj
      rw [List.getD_eq_getElem?_getD, List.getElem?_eq_getElem (by omega)]
      simpa using z
  unfold wrongs
  rw [← List.head?_eq_getElem?, List.head?_filter, e]
section
variable {P : Program} {w : World} {K : PySem.W.Frag} {mg : Str → Option Value} {base : Heap} {a : Ad} {f : Addr} {fd fd1 : FuncData}
theorem ok_L_read (F : Fun K "_law_read" "_law_read" s_L_read f fd) (T : Txt P w K mg a) (G_read_stream : FnG P w K mg base 3 a.rs fd1 ["text"] (sp_read_stream K a.IT)) (b_read_stream : Binds K fd1 ["text"] []) : FnG P w K mg base 4 f fd ["thing"] (sp_L_read K) := by
  refine F.okG sc_L_read (fun vs H Q E h => ?_) (fun cdv A outer s H vs Q E hr hgd h => ?_)
  · obtain ⟨_, _, rfl, _⟩ := h
    rfl
  · obtain ⟨v, o, rfl, hv, q⟩ := h
    have hr1 : Room 3 _ := hr.mono (by decide)
    refine ⟨_, pss_cons (ps_set (i := 1) sc_L_read.nd rfl (Or.inl rfl) pe_non) (pss_cons (ps_set (i := 2) sc_L_read.nd rfl (Or.inl rfl) pe_non)
      (pss_cons (ps_tryT (tb := fun W => tAsg (tCallG (sp_read_stream K a.IT) [] W (tCons (tVar 0) tNil)) (gName 2)) (Wout := fun cls d _ H => E cls d H) rfl rfl rfl sc_L_read.nd (takes_of rfl rfl rfl rfl)
        (fun W pn xe tk _ => pss_one (ps_set (i := 2) sc_L_read.nd rfl (Or.inl rfl) (by exact (pe_callG G_read_stream hr1 hgd rfl T.g_read_stream T.k_read_stream b_read_stream .nil tk (by exact (pa_cons (pv 0) pa_nil))))))
        (HdT.as_ (i := 3) (c := .ref a.JE) ⟨rfl, by decide, .inl T.gJE⟩ rfl rfl (fun _ _ _ => pss_one (ps_set (i := 1) sc_L_read.nd rfl (Or.inl rfl) (pv 3))) HdT.nil))
      (pss_cons (ps_if (pt_cmpR op_isN (pv 1) pe_non (nomark _)) (pss_one (ps_ret (pv 2))) pss_nil)
      (pss_one (ps_ret (pe_ifExp (pt_val (pe_callB call_isE1 (by rfl) T.isinstance (by decide +kernel) (pa_cons (pv 1) (pa_cons (pe_glob (v := .ref a.IT) (by rfl) T.gIT rfl) pa_nil)))) (pe_lst (pa_cons (pe_hf (pv 1)) pa_nil)) pe_str)))))), ?_⟩
    refine ⟨_, rfl, v, o, rfl, hv, fun x hx H1 d s1 hd => ?_, fun cs ns ho hres H1 p s1 hT => ?_⟩
    · -- it raises
      refine ⟨true, T.eT, fun _ e he => ?_, fun z => nomatch z⟩
      refine ⟨_, rfl, _, rfl, rfl, _, rfl, if_neg_of (decide_eq_false (by intro z; cases z)) ?_⟩
      have hne : d ≠ e := fun z => by rw [z, upd_same] at he; cases he
      have hh : Held K (upd (upd H1 d (.xd [("offset", x)])) e (exH e (.ref a.IT) (some d))) e a.IT [("offset", x)] :=
        ⟨⟨some d, upd_same, .some (by rw [upd_ne hne, upd_same])⟩, T.cT⟩
      have s2 : Same H (upd (upd H1 d (.xd [("offset", x)])) e (exH e (.ref a.IT) (some d))) := (s1.trans (same_upd hd)).trans (same_upd he)
      refine ⟨_, rfl, _, _, _, _, true, rfl, .own _, .exc hh, T.kTT, _, rfl, iteT ?_⟩
      refine ⟨_, rfl, e, a.IT, _, x, rfl, hh, T.fT, by simp [List.lookup], by show 1 ≤ sizeLine; decide, fun l hl => ?_⟩
      refine q _ l (s2.trans (same_upd hl)) ?_
      cases o with
      | none =>
        cases hx
        exact SqL.of upd_same
      | some cs =>
        unfold offV at hx
        cases hres : res cs with
        | inl k =>
          simp only [hres] at hx
          cases hx
          show ResAt K _ l (res cs)
          rw [hres]
          exact SqL.of upd_same
        | inr ns =>
          simp only [hres] at hx
          cases hx
    · refine ⟨_, rfl, rfl, _, rfl, if_pos_of (decide_eq_true rfl) ?_⟩
      refine ⟨_, rfl, q H1 p s1 ?_⟩
      subst ho
      show ResAt K H1 p (res cs)
      rw [hres]
      exact hT
end
end B59

set_option Elab.async false
set_option linter.all false
set_option maxRecDepth 100000
set_option maxHeartbeats 4000000
namespace B59
open PySem PySem.Spec PyProof.Rows L2 L2.BJ
open PySem.BJX (SxC SxInit)
theorem numerals_get {cs : List Nat} {i : Nat} (h : i < cs.length) : ((cs.map fun c => V.int (unhx c : Nat)))[i]? = some (V.int (unhx cs[i] : Nat)) := by
  rw [List.getElem?_map, List.getElem?_eq_getElem h]
  rfl
theorem Dt.same {K : PySem.W.Frag} {H H' : Hp} (s : Same H H') : ∀ {d : PyData} {v : V}, Dp K H v d → Dp K H' v d := by
  intro d
  exact (PyData.rec (motive_1 := fun d => ∀ v, Dp K H v d → Dp K H' v d) (motive_2 := fun ds => ∀ vs, DpAll K H vs ds → DpAll K H' vs ds) (motive_3 := fun _ => True) (motive_4 := fun _ => True)
    (fun v h => by cases h; exact .non) (fun b v h => by cases h; exact .bl b) (fun i v h => by cases h; exact .int i) (fun x v h => by cases h; exact .str x)
    (fun ds ih v h => by cases h with | lst h1 h2 => exact .lst (s.seq h1) (ih _ h2)) (fun ds ih v h => by cases h with | tup h1 h2 => exact .tup (sqT_same s h1) (ih _ h2)) (fun _ _ v h => by cases h)
    (fun vs h => by cases h; exact .nil) (fun d ds ih1 ih2 vs h => by cases h with | cons h1 h2 => exact .cons (ih1 _ h1) (ih2 _ h2)) trivial (fun _ _ _ _ => trivial) (fun _ _ _ _ => trivial) d) _
section
variable {P : Program} {w : World} {K : PySem.W.Frag} {mg : Str → Option Value} {base : Heap} {a : Ad} {f : Addr} {fd fd1 : FuncData}
theorem ok_L_due (F : Fun K "_law_due" "_law_due" s_L_due f fd) (T : Txt P w K mg a) : FnG P w K mg base 1 f fd ["told"] (sp_L_due K) := by
  refine F.okG sc_L_due (fun vs H Q E h => ?_) (fun cdv A outer s H vs Q E hr hgd h => ?_)
  · obtain ⟨_, rfl, _⟩ := h
    rfl
  · obtain ⟨cs, rfl, hl, q⟩ := h
    refine ⟨_, (pss_cons (ps_setLc (i := 1) (own := [("k", 3), ("sign", 4)]) rfl sc_L_due.nd rfl rfl (sw_true rfl rfl rfl (by decide +kernel)) (pi_enumS (by rfl) T.enumerate (pa_cons (pv 0) pa_nil)) (blkOk_by (N := ["told", "wrong", "numerals", "k", "sign", "one", "other"]) (sc := defScope s_L_due) (by decide +kernel)) (fun _ _ _ _ _ => (show PG _ _ (gTup K 2 _) from pg_tup rfl (pgs_cons (pg_name (i := 3) sc_L_due.nd rfl (Or.inl rfl)) (pgs_cons (pg_name (i := 4) sc_L_due.nd rfl (Or.inl rfl)) pgs_nil)))) (fun _ _ _ _ _ => (pts_one (pt_cmpR op_notIn_sign (pv 4) pe_str (by rfl)))) (fun _ _ _ _ _ => (pv 3)))
      (pss_cons (ps_if (PW.pt (pw_or (pt_cmpR (op_neD hr.units) (pv 1) (pe_lst pa_nil) (nomark _)) (pw_or1 (pt_cmpR op_eq (pe_op op_mod (pe_callB call_len (by rfl) T.len (by decide +kernel) (pa_cons (pv 0) pa_nil)) pe_int) pe_int (nomark _))))) (pss_one (ps_ret (pe_ifExp (pt_cmpR (op_neD hr.units) (pv 1) (pe_lst pa_nil) (nomark _)) (pe_lst (pa_cons (pe_ix ix_list (pv 1) pe_int (fun _ _ => rfl)) pa_nil)) (pe_lst (pa_cons (pe_callB call_len (by rfl) T.len (by decide +kernel) (pa_cons (pv 0) pa_nil)) pa_nil))))) pss_nil)
      (pss_cons (ps_if (pt_cmpR op_gt (pe_callB call_len (by rfl) T.len (by decide +kernel) (pa_cons (pv 0) pa_nil)) pe_int (nomark _)) (pss_one (ps_ret (pe_lst (pa_cons pe_int pa_nil)))) pss_nil)
      (pss_cons (ps_setLc (i := 2) (own := [("sign", 4)]) rfl sc_L_due.nd rfl rfl (sw_true rfl rfl rfl (by decide +kernel)) (pi_str (pv 0)) (blkOk_by (N := ["told", "wrong", "numerals", "k", "sign", "one", "other"]) (sc := defScope s_L_due) (by decide +kernel)) (fun _ _ _ _ _ => (pg_name (i := 4) sc_L_due.nd rfl (Or.inl rfl))) (fun _ _ _ _ _ => pts_nil) (fun _ _ _ _ _ => (show PE _ _ (tBMS K "str" (rIndexX (fun _ _ _ _ => False)) _ _) from (pe_bmS PySem.F.plainAttrs_str PySem.F.slot_str_index PySem.F.type_str_index (mt_indexX rfl takes0) pe_str (pa_cons (pv 4) pa_nil)))))
      (pss_one (ps_ret (pe_callTy call_tuple_of (by rfl) T.tuple (by decide +kernel) (pa_cons (pe_lc (own := [("one", 5), ("other", 6)]) rfl sc_L_due.nd (pi_zip (by rfl) T.zip (pa_cons (pe_sl3 (pv 2) po_none po_none (po_some pe_int)) (pa_cons (pe_sl3 (pv 2) (po_some pe_int) po_none (po_some pe_int)) pa_nil))) (blkOk_by (N := ["told", "wrong", "numerals", "k", "sign", "one", "other"]) (sc := defScope s_L_due) (by decide +kernel)) (fun _ _ _ _ _ => (show PG _ _ (gTup K 2 _) from pg_tup rfl (pgs_cons (pg_name (i := 5) sc_L_due.nd rfl (Or.inl rfl)) (pgs_cons (pg_name (i := 6) sc_L_due.nd rfl (Or.inl rfl)) pgs_nil)))) (fun _ _ _ _ _ => pts_nil) (fun _ _ _ _ _ => (pe_op op_add (pe_op op_mul pe_int (pv 5)) (pv 6)))) pa_nil)))))))), ?_⟩
    have hlen : Str.length ⟨cs.toArray⟩ = cs.length := by
      show cs.toArray.size = _
      simp
    have LV : ∀ H', LenV K (.str ⟨cs.toArray⟩) H' cs.length := fun H' => ⟨by rw [hlen, sizeLine_eq]; omega, hlen.symm⟩
    have hsz : (Str.mk cs.toArray).cps.size = cs.length := by simp
    -- wrong
    refine ⟨_, rfl, _, rfl, fun D hD => lc_it walk_enumS (LcPv H D fun i => natsV (wrongs cs i)) (lc_start hD rfl) (fun _ _ _ _ => trivial) ?_ ?_⟩
    · rintro i x H1 H2 hi h ⟨t, x1, x2, rfl, ht, rfl, e1, e2⟩
      cases e1
      have e2 : (Str.mk cs.toArray).cps[i]?.map (fun c => V.str ⟨#[c]⟩) = some x2 := e2
      have hi2 : i < cs.length := by rw [← hsz]; exact hi
      obtain ⟨c, hc, rfl⟩ : ∃ c, cs[i]? = some c ∧ x2 = .str ⟨#[c]⟩ := by
        cases e : (Str.mk cs.toArray).cps[i]? with
        | none =>
          rw [e] at e2
          cases e2
        | some c =>
          rw [e] at e2
          exact ⟨c, get_cs e, (Option.some.inj e2).symm⟩
      have e3 : cs.getD i 0 = c := by rw [List.getD_eq_getElem?_getD, hc]; rfl
      refine ⟨t, _, rfl, SqT.of upd_same, rfl, _, _, rfl, _, _, rfl, rfl, rfl, _, rfl, _, _, rfl, rfl, _, rfl, ?_⟩
      have hlw := wrongs_len cs i
      by_cases hb : c ∈ hexL
      · refine if_neg_of (by rw [decide_eq_true (show c ∈ (Str.cps "0123456789abcdef").toList from hb)]; rfl) ?_
        exact lc_skip h (same_upd ht) (by
          show natsV (wrongs cs (i + 1)) = natsV (wrongs cs i)
          rw [wrongs_good (by rw [e3]; unfold isBad; rw [decide_eq_true hb]; rfl)])
      · refine if_pos_of (by rw [decide_eq_false (show ¬ c ∈ (Str.cps "0123456789abcdef").toList from hb)]; rfl) ?_
        refine ⟨_, rfl, ?_⟩
        refine lc_put h hD (same_upd ht) ?_ ?_
        · show natsV (wrongs cs (i + 1)) = natsV (wrongs cs i) ++ [_]
          rw [wrongs_bad (by rw [e3]; unfold isBad; rw [decide_eq_false hb]; rfl)]
          unfold natsV
          rw [List.map_append]
          rfl
        · simp only [natsV, List.length_map]
          omega
    · intro H1 h
      have hD1 : H1 D = some (.lst (natsV (wrongs cs cs.length))) := by
        have z : H1 D = some (.lst (natsV (wrongs cs (Str.mk cs.toArray).cps.size))) := h.2
        rw [hsz] at z
        exact z
      have s1 := h.1
      have eqW : PyData.eqv (.list (natsD (wrongs cs cs.length))) (.list []) = decide (wrongs cs cs.length = []) := eqv_nil _
      -- if wrong != [] or ..
      refine ⟨_, rfl, by show 0 ≤ sizeLine; decide, fun l hl1 => ?_⟩
      have s2 : Same H1 (upd H1 l (.lst [])) := same_upd hl1
      refine ⟨_, _, .lst (SqL.of (s2 _ _ hD1)) (dp_nats _), .lst (SqL.of upd_same) .nil, shaped_lst _, shaped_lst [], _, rfl, ?_⟩
      rw [eqW]
      cases hres : cs.findIdx? isBad with
      | some k =>
        have hw := wrongs_some hres
        have hne : ¬ wrongs cs cs.length = [] := fun z => by rw [z] at hw; cases hw
        rw [decide_eq_false hne]
        refine iteT (iteT ?_)
        refine ⟨_, rfl, by show 0 ≤ sizeLine; decide, fun l2 hl2 => ?_⟩
        have s3 := s2.trans (same_upd (o := .lst []) hl2)
        refine ⟨_, _, .lst (SqL.of (s3 _ _ hD1)) (dp_nats _), .lst (SqL.of upd_same) .nil, shaped_lst _, shaped_lst [], _, rfl, ?_⟩
        rw [eqW, decide_eq_false hne]
        refine iteT ?_
        refine ⟨_, rfl, D, _, _, _, rfl, rfl, SqL.of (s3 _ _ hD1), atI_nat (j := 0) (v := V.int k) (by unfold natsV; rw [List.getElem?_map, hw]; rfl), by show 1 ≤ sizeLine; decide, fun p hp => ?_⟩
        refine q _ p (s1.trans (s3.trans (same_upd hp))) ?_
        rw [res_bad hres]
        exact SqL.of upd_same
      | none =>
        have hw := wrongs_none hres
        rw [decide_eq_true hw]
        refine iteF ?_
        refine ⟨_, rfl, _, _, rfl, LV _, _, _, rfl, rfl, (by show (0 : Int) < 2; decide), rfl, _, rfl, ?_⟩
        refine ite2 (fun c1 => ?_) (fun c1 => ?_)
        · have e : ((cs.length : Nat) : Int) % 2 = 1 := V.int.inj (of_decide_eq_true c1)
          refine ⟨_, rfl, by show 0 ≤ sizeLine; decide, fun l2 hl2 => ?_⟩
          have s3 := s2.trans (same_upd (o := .lst []) hl2)
          refine ⟨_, _, .lst (SqL.of (s3 _ _ hD1)) (dp_nats _), .lst (SqL.of upd_same) .nil, shaped_lst _, shaped_lst [], _, rfl, ?_⟩
          rw [eqW, decide_eq_true hw]
          refine iteF ?_
          refine ⟨_, rfl, _, _, rfl, LV _, by show 1 ≤ sizeLine; decide, fun p hp => ?_⟩
          refine q _ p (s1.trans (s3.trans (same_upd hp))) ?_
          rw [res_odd hres (by omega)]
          exact SqL.of upd_same
        · have e : ¬ cs.length % 2 = 1 := fun z => c1 (decide_eq_true (congrArg V.int (by omega)))
          refine ⟨_, rfl, _, _, rfl, LV _, _, _, rfl, rfl, _, rfl, ?_⟩
          refine ite2 (fun c2 => ?_) (fun c2 => ?_)
          · have e2 := of_decide_eq_true c2
            refine ⟨by show 1 ≤ sizeLine; decide, fun p hp => ?_⟩
            refine q _ p (s1.trans (s2.trans (same_upd hp))) ?_
            rw [res_long hres e (by omega)]
            exact SqL.of upd_same
          · have e2 : ¬ 100000 < cs.length := fun z => c2 (decide_eq_true (by omega))
            have hg := good_of hres
            obtain ⟨m, hm⟩ : ∃ m, cs.length = 2 * m := ⟨cs.length / 2, by omega⟩
            have s2' := s1.trans s2
            -- numerals
            refine ⟨_, rfl, _, rfl, fun D2 hD2 => lc_it walk_str (LcPv (upd H1 l (.lst [])) D2 fun i => (cs.map fun c => V.int (unhx c : Nat)).take i) (lc_start hD2 rfl) (fun _ _ _ _ => trivial) ?_ ?_⟩
            · rintro i x H2 H3 hi h2 ⟨rfl, c, hc, rfl⟩
              have hc : cs[i]? = some c := get_cs hc
              have m1 := hg c (List.mem_of_getElem? hc)
              refine ⟨rfl, ?_⟩
              refine ⟨rfl, _, rfl, _, _, rfl, rfl, fun k hk => ?_, fun hn => ?_⟩
              · have z : Txt.index0 "0123456789abcdef" ⟨#[c]⟩ = some (unhx c) := index0_of m1
                rw [z] at hk
                cases hk
                refine lc_put h2 hD2 (Same.refl _) (take_more (by rw [List.getElem?_map, hc]; rfl)) ?_
                rw [List.length_take, List.length_map]
                omega
              · have z : Txt.index0 "0123456789abcdef" ⟨#[c]⟩ = some (unhx c) := index0_of m1
                rw [z] at hn
                cases hn
            · intro H2 h2
              have s3 := s2'.trans h2.1
              have hD3 : H2 D2 = some (.lst (cs.map fun c => V.int (unhx c : Nat))) := by
                have z : H2 D2 = some (.lst ((cs.map fun c => V.int (unhx c : Nat)).take (Str.mk cs.toArray).cps.size)) := h2.2
                rw [hsz, List.take_of_length_le (by rw [List.length_map]; exact Nat.le_refl _)] at z
                exact z
              generalize hnum : (cs.map fun c => V.int (unhx c : Nat)) = num at hD3
              have hnl : num.length = 2 * m := by rw [← hnum, List.length_map, hm]
              obtain ⟨ev1, ev2⟩ := pick_two num m hnl none 0 (.inl ⟨rfl, rfl⟩)
              obtain ⟨od1, od2⟩ := pick_two num m hnl (some 1) 1 (.inr ⟨rfl, rfl⟩)
              refine ⟨_, rfl, _, rfl, D2, num, rfl, SqL.of hD3, by simp, by rw [ev1, sizeLine_eq]; omega, fun p1 hp1 => ?_⟩
              have s4 : Same H2 _ := same_upd (o := .lst (pickV num none none (some 2))) hp1
              refine ⟨_, rfl, _, rfl, _, rfl, D2, num, rfl, SqL.of (s4 _ _ hD3), by simp, by rw [od1, sizeLine_eq]; omega, fun p2 hp2 => ?_⟩
              have s5 : Same (upd H2 p1 (.lst (pickV num none none (some 2)))) _ := same_upd (o := .lst (pickV num (some 1) none (some 2))) hp2
              refine ⟨p1, p2, _, _, rfl, SqL.of (s5 _ _ upd_same), SqL.of upd_same, fun D3 hD3' => lc_it (walk_zip (n := m) (by rw [ev1, od1]; omega)) (LcPv _ D3 fun i => (natsV (prs cs)).take i) (lc_start hD3' rfl) (fun i H3 _ h3 => ⟨h3.1.seq (SqL.of (s5 _ _ upd_same)), h3.1.seq (SqL.of upd_same)⟩) ?_ ?_⟩
              · rintro i x H3 H4 hi h3 ⟨t, x1, x2, rfl, ht, rfl, e3, e4⟩
                have hlt1 : 2 * i < cs.length := by omega
                have hlt2 : 2 * i + 1 < cs.length := by omega
                have e3' : num[2 * i + 0]? = some x1 := (ev2 i hi).symm.trans e3
                have e4' : num[2 * i + 1]? = some x2 := (od2 i hi).symm.trans e4
                rw [← hnum] at e3' e4'
                have z3 := e3'.symm.trans (numerals_get hlt1)
                have z4 := e4'.symm.trans (numerals_get hlt2)
                cases z3
                cases z4
                refine ⟨t, _, rfl, SqT.of upd_same, rfl, _, _, rfl, _, _, rfl, rfl, rfl, ?_⟩
                refine ⟨_, rfl, _, _, rfl, rfl, .inl ⟨by decide, by decide⟩, _, rfl, _, _, rfl, rfl, ?_⟩
                refine lc_put h3 hD3' (same_upd ht) (take_more ?_) ?_
                · unfold natsV
                  rw [List.getElem?_map, prs_get cs i _ _ (List.getElem?_eq_getElem hlt1) (List.getElem?_eq_getElem hlt2)]
                  rfl
                · have := prs_len cs
                  rw [List.length_take]
                  simp only [natsV, List.length_map]
                  omega
              · intro H3 h3
                have hpl := prs_len cs
                have z : H3 D3 = some (.lst ((natsV (prs cs)).take m)) := h3.2
                rw [List.take_of_length_le (by simp only [natsV, List.length_map]; omega)] at z
                refine ⟨_, _, rfl, .inl ⟨SqL.of z, fun p hp => ?_⟩⟩
                refine q _ p (s3.trans (s4.trans (s5.trans (h3.1.trans (same_upd hp))))) ?_
                rw [res_good hres e e2]
                exact SqT.of upd_same
end
end B59

set_option Elab.async false
set_option linter.all false
set_option maxRecDepth 100000
set_option maxHeartbeats 4000000
namespace B59
open PySem PySem.Spec PyProof.Rows L2 L2.BJ
open PySem.BJX (SxC SxInit)
theorem okD_dict : okD (.dict []) := by
  refine ⟨by simp [PyData.showable, PyData.showableKv], ?_, by simp [PyData.depth, PyData.depthKv]⟩
  have e : (PyData.shown (.dict [])).length ≤ 2 := by decide +kernel
  rw [sizeLine_eq]
  omega
theorem ShD.same {K : PySem.W.Frag} {H H' : Hp} {v : V} (s : Same H H') (h : ShD K H v) : ShD K H' v := by
  obtain ⟨d, h1, h2⟩ | ⟨p, h1, h2⟩ := h
  · exact .inl ⟨d, Dt.same s h1, h2⟩
  · exact .inr ⟨p, h1, s _ _ h2⟩
theorem ShD.dt {K : PySem.W.Frag} {H : Hp} {v : V} (h : ShD K H v) : ∃ d, okD d ∧ ∀ H', Same H H' → L2.BJ.Dt K H' v d := by
  obtain ⟨d, h1, h2⟩ | ⟨p, rfl, h2⟩ := h
  · exact ⟨d, h2, fun H' s => .inl (Dt.same s h1)⟩
  · exact ⟨_, okD_dict, fun H' s => .inr (.dict0 (s _ _ h2))⟩
theorem str_len (x y : Str) : (x ++ y).length = x.length + y.length := by
  show (x.cps ++ y.cps).size = x.cps.size + y.cps.size
  rw [Array.size_append]
section
variable {P : Program} {w : World} {K : PySem.W.Frag} {mg : Str → Option Value} {base : Heap} {a : Ad} {f : Addr} {fd fd1 : FuncData}
theorem ok_L_refused (F : Fun K "_law_refused" "_law_refused" s_L_refused f fd) (T : Txt P w K mg a) (G_stream_text : FnG P w K mg base 4 a.st fd1 ["stream"] (sp_stream_text K a.IS)) (b_stream_text : Binds K fd1 ["stream"] []) : FnG P w K mg base 5 f fd ["thing"] (sp_L_refused K) := by
  refine F.okG sc_L_refused (fun vs H Q E h => ?_) (fun cdv A outer s H vs Q E hr hgd h => ?_)
  · obtain ⟨_, rfl, _⟩ := h
    rfl
  · obtain ⟨v, rfl, hb, hs, q⟩ := h
    have hr1 : Room 4 _ := hr.mono (by decide)
    refine ⟨_, pss_cons (ps_set (i := 1) sc_L_refused.nd rfl (Or.inl rfl) pe_non)
      (pss_cons (ps_tryT (tb := fun W => tDrop (tCallG (sp_stream_text K a.IS) [] W (tCons (tVar 0) tNil))) (Wout := fun cls d _ H => E cls d H) rfl rfl rfl sc_L_refused.nd (takes_of rfl rfl rfl rfl)
        (fun W pn xe tk _ => pss_one (ps_expr (by exact (pe_callG G_stream_text hr1 hgd rfl T.g_stream_text T.k_stream_text b_stream_text .nil tk (by exact (pa_cons (pv 0) pa_nil))))))
        (HdT.as_ (i := 2) (c := .ref a.JE) ⟨rfl, by decide, .inl T.gJE⟩ rfl rfl (fun _ _ _ => pss_one (ps_set (i := 1) sc_L_refused.nd rfl (Or.inl rfl) (pv 2))) HdT.nil))
      (pss_one (ps_ret (pe_and (pe_callB call_isE1 (by rfl) T.isinstance (by decide +kernel) (pa_cons (pv 1) (pa_cons (pe_glob (v := .ref a.IS) (by rfl) T.gIS rfl) pa_nil)))
        (pe_one (pe_cmpR op_eq (pe_callB (call_repr hr.units hgd) (by rfl) T.repr (by decide +kernel) (pa_cons (pe_hf (pv 1)) pa_nil)) (pe_callB (call_repr hr.units hgd) (by rfl) T.repr (by decide +kernel) (pa_cons (pv 0) pa_nil)) (nomark _))))))), ?_⟩
    refine ⟨_, rfl, v, rfl, .inl ⟨hb, fun H1 d s1 hd => ?_⟩⟩
    refine ⟨true, T.eS, fun _ e he => ?_, fun z => nomatch z⟩
    have hne : d ≠ e := fun z => by rw [z, upd_same] at he; cases he
    have hh : Held K (upd (upd H1 d (.xd [("value", v)])) e (exH e (.ref a.IS) (some d))) e a.IS [("value", v)] :=
      ⟨⟨some d, upd_same, .some (by rw [upd_ne hne, upd_same])⟩, T.cS⟩
    have s2 : Same H (upd (upd H1 d (.xd [("value", v)])) e (exH e (.ref a.IS) (some d))) := (s1.trans (same_upd hd)).trans (same_upd he)
    obtain ⟨dd, hok, hdt⟩ := hs.dt
    refine ⟨_, rfl, _, rfl, _, _, _, _, true, rfl, .own _, .exc hh, T.kSS, _, rfl, iteT ?_⟩
    refine ⟨_, rfl, e, a.IS, _, v, rfl, hh, T.fS, by simp [List.lookup], _, dd, rfl, hdt _ s2, hok.1, hok.2.1, hok.2.2, ?_⟩
    refine ⟨_, rfl, _, dd, rfl, hdt _ s2, hok.1, hok.2.1, hok.2.2, rfl, ?_⟩
    rw [decide_eq_true rfl]
    exact q _ s2
theorem ok_L_bent (F : Fun K "_law_bent" "_law_bent" s_L_bent f fd) (T : Txt P w K mg a) (G_L_next : FnG P w K mg base 2 a.ln fd1 ["draw", "bound"] sp_L_next) (b_L_next : Binds K fd1 ["draw", "bound"] []) : FnG P w K mg base 3 f fd ["draw", "told"] sp_L_bent := by
  refine F.okG sc_L_bent (fun vs H Q E h => ?_) (fun cdv A outer s H vs Q E hr hgd h => ?_)
  · obtain ⟨_, _, _, _, rfl, _⟩ := h
    rfl
  · obtain ⟨d, c0, cs, n, rfl, hd, hl, hn, q⟩ := h
    have hr1 : Room 2 _ := hr.mono (by decide)
    refine ⟨_, (pss_cons (ps_par (i := 2) (j := 3) rfl sc_L_bent.nd rfl rfl (by decide) rfl rfl (pa_cons (pe_callG G_L_next hr1 hgd (by rfl) T.g_L_next T.k_L_next b_L_next .nil (takes_of rfl rfl rfl rfl) (pa_cons (pv 0) (pa_cons (pe_op op_add (pe_callB call_len (by rfl) T.len (by decide +kernel) (pa_cons (pv 1) pa_nil)) pe_int) pa_nil))) (pa_cons (pe_ix ix_str pe_str (pe_callG G_L_next hr1 hgd (by rfl) T.g_L_next T.k_L_next b_L_next .nil (takes_of rfl rfl rfl rfl) (pa_cons (pv 0) (pa_cons pe_int pa_nil))) (fun _ _ => rfl)) pa_nil)) (by rfl))
      (pss_cons (ps_par (i := 4) (j := 5) rfl sc_L_bent.nd rfl rfl (by decide) rfl rfl (pa_cons (pe_slice sl_str (pv 1) po_none (po_some (pv 2))) (pa_cons (pe_slice sl_str (pv 1) (po_some (pv 2)) po_none) pa_nil)) (by rfl))
      (pss_cons (ps_set (i := 6) sc_L_bent.nd rfl (Or.inl rfl) (pe_lst (pa_cons (pe_op op_add_str (pe_op op_add_str (pv 4) (pv 3)) (pe_slice sl_str (pv 5) (po_some pe_int) po_none)) (pa_cons (pe_op op_add_str (pe_op op_add_str (pv 4) (pv 3)) (pv 5)) (pa_cons (pe_op op_add_str (pv 4) (pe_slice sl_str (pv 5) (po_some pe_int) po_none)) (pa_cons (pe_op op_add_str (pe_op op_add_str (pv 4) (pe_slice sl_str (pv 5) po_none (po_some pe_int))) (pv 5)) (pa_cons (pe_op op_add_str (pv 1) (pv 1)) pa_nil)))))))
      (pss_one (ps_ret (pe_ix ix_list (pv 6) (pe_callG G_L_next hr1 hgd (by rfl) T.g_L_next T.k_L_next b_L_next .nil (takes_of rfl rfl rfl rfl) (pa_cons (pv 0) (pa_cons pe_int pa_nil))) (fun _ _ => rfl))))))), ?_⟩
    have hlen : Str.length ⟨cs.toArray⟩ = cs.length := by
      show cs.toArray.size = _
      simp
    have LV : ∀ H', LenV K (.str ⟨cs.toArray⟩) H' cs.length := fun H' => ⟨by rw [hlen, sizeLine_eq]; omega, hlen.symm⟩
    have hsz : Str.length ⟨cs.toArray⟩ ≤ sizeLine := by rw [hlen, sizeLine_eq]; omega
    refine ⟨_, rfl, _, rfl, _, _, rfl, LV H, _, _, rfl, rfl, d, c0, cs.length + 1, n, rfl, hd, by omega, by omega, by omega, fun i1 H1 hi1 b1 d1 => ?_⟩
    refine ⟨_, rfl, d, c0, 10, n + 1, rfl, d1, by omega, by omega, by omega, fun i2 H2 hi2 b2 d2 => ?_⟩
    obtain ⟨c, hc⟩ : ∃ c, (Str.cps "0af9gAF \n-").toList[i2]? = some c := by
      have e : (Str.cps "0af9gAF \n-").toList.length = 10 := by decide +kernel
      exact ⟨_, List.getElem?_eq_getElem (by rw [e]; exact hi2)⟩
    refine ⟨_, _, _, rfl, rfl, by decide +kernel, atI_nat hc, _, _, rfl, ?_⟩
    -- head, tail
    refine ⟨_, rfl, _, rfl, _, rfl, _, rfl, hsz, _, rfl, _, rfl, _, rfl, _, rfl, hsz, _, _, rfl, ?_⟩
    have hh1 := cutS_length ⟨cs.toArray⟩ none (some (i1 : Int))
    have ht1 := cutS_length ⟨cs.toArray⟩ (some (i1 : Int)) none
    rw [hlen] at hh1 ht1
    generalize hhd : cutS ⟨cs.toArray⟩ none (some (i1 : Int)) = hd1 at hh1
    generalize htl : cutS ⟨cs.toArray⟩ (some (i1 : Int)) none = tl1 at ht1
    have hc1 : Str.length ⟨#[c]⟩ = 1 := rfl
    have hu1 := cutS_length tl1 (some 1) none
    have hu2 := cutS_length tl1 none (some 1)
    have big : sizeLine = 16777216 := sizeLine_eq
    have htl2 : tl1.length ≤ sizeLine := by omega
    have e1 := str_len hd1 ⟨#[c]⟩
    -- head + sign + tail[1:]
    refine ⟨_, rfl, _, rfl, _, _, rfl, rfl, by omega, _, rfl, _, rfl, _, rfl, htl2, _, _, rfl, rfl, by omega, ?_⟩
    -- head + sign + tail
    refine ⟨_, rfl, _, rfl, _, _, rfl, rfl, by omega, _, rfl, _, _, rfl, rfl, by omega, ?_⟩
    -- head + tail[1:]
    refine ⟨_, rfl, _, rfl, _, rfl, _, rfl, htl2, _, _, rfl, rfl, by omega, ?_⟩
    -- head + tail[:1] + tail
    have e4 := str_len hd1 (cutS tl1 none (some 1))
    refine ⟨_, rfl, _, rfl, _, rfl, _, rfl, htl2, _, _, rfl, rfl, by omega, _, rfl, _, _, rfl, rfl, by omega, ?_⟩
    -- told + told
    refine ⟨_, rfl, _, rfl, _, _, rfl, rfl, by omega, ?_⟩
    refine ⟨by show 5 ≤ sizeLine; decide, fun l hl2 => ?_⟩
    have dl : ∀ {H' : Hp} {m : Nat}, Drawn H' d c0 m → H' d ≠ none := fun {H' m} h => by
      obtain ⟨kvs, _, _, _, _, e, _⟩ := h
      rw [e]
      exact Option.some_ne_none _
    have hld : l ≠ d := fun z => dl d2 (by rw [← z]; exact hl2)
    generalize hxs : ([_, _, _, _, _] : List V) = xs
    have d2' : Drawn (upd H2 l (.lst xs)) d c0 (n + 2) := by
      obtain ⟨kvs, ns, at_, used, left, D1, D2, D3, D4, D5, D6, D7, D8, D9, D10, D11⟩ := d2
      exact ⟨kvs, ns, at_, used, left, by rw [upd_ne (Ne.symm hld)]; exact D1, D2, D3, D4, D5, D6, by rw [upd_ne (ne_of_none D7 hl2)]; exact D7, D8, D9, D10, D11⟩
    refine ⟨_, rfl, _, rfl, d, c0, 5, n + 2, rfl, d2', by omega, by omega, by omega, fun i3 H3 hi3 b3 d3 => ?_⟩
    have hl3 : H3 l = some (.lst xs) := b3 _ _ upd_same hld
    have hb : But d H H3 := b1.trans (b2.trans (fun b o e hb => b3 b o (same_upd hl2 b o e) hb))
    have hx5 : xs.length = 5 := by rw [← hxs]; rfl
    have hall : ∀ x ∈ xs, ∃ z : Str, x = .str z ∧ z.length ≤ 3 * cs.length + 1 := by
      rw [← hxs]
      intro x hx
      simp only [List.mem_cons, List.not_mem_nil, or_false] at hx
      obtain rfl | rfl | rfl | rfl | rfl := hx
      all_goals
        refine ⟨_, rfl, ?_⟩
        simp only [str_len]
        omega
    obtain ⟨z, ez, hz⟩ := hall xs[i3] (List.getElem_mem (by omega))
    refine ⟨l, xs, _, _, rfl, rfl, SqL.of hl3, atI_nat (List.getElem?_eq_getElem (by omega)), ?_⟩
    rw [ez]
    exact q z H3 hz hb d3
end
end B59

set_option Elab.async false
set_option linter.all false
set_option maxRecDepth 100000
set_option maxHeartbeats 4000000
namespace B59
open PySem PySem.Spec PyProof.Rows L2 L2.BJ
open PySem.BJX (SxC SxInit)
/-! ### repeated signs -/
theorem rep_arr (c : Nat) : ∀ (n : Nat) (x : Array Nat), ((List.replicate n #[c]).foldl (· ++ ·) x).toList = x.toList ++ List.replicate n c
  | 0, x => by simp
  | n + 1, x => by
    rw [List.replicate_succ, List.foldl_cons, rep_arr c n, List.replicate_succ]
    simp
theorem rep_str {z : Str} {c n : Nat} (h : z.cps = #[c]) : (Str.mk ((List.replicate n z.cps).foldl (· ++ ·) #[])) = ⟨(List.replicate n c).toArray⟩ := by
  rw [h]
  refine congrArg Str.mk (Array.toList_inj.mp ?_)
  rw [rep_arr]
  simp
theorem u48 : unhx 48 = 0 := by decide +kernel
theorem m48 : 48 ∈ hexL := by decide +kernel
theorem m103 : 103 ∉ hexL := by decide +kernel
theorem prs_rep : ∀ n : Nat, prs (List.replicate (2 * n) 48) = List.replicate n 0
  | 0 => rfl
  | n + 1 => by
    have e : 2 * (n + 1) = 2 * n + 1 + 1 := by omega
    rw [e, List.replicate_succ, List.replicate_succ, prs, prs_rep n, u48, List.replicate_succ]
theorem noBad_rep (n : Nat) : (List.replicate n 48).findIdx? isBad = none := noBad_of fun c hc => by
  rw [(List.mem_replicate.mp hc).2]
  exact m48
theorem res_rep1 : res (List.replicate 100000 48) = .inr (List.replicate 50000 0) := by
  rw [res_good (noBad_rep _) (by rw [List.length_replicate]; decide) (by rw [List.length_replicate]; decide)]
  exact congrArg Sum.inr (prs_rep 50000)
theorem res_rep2 : res (List.replicate 100002 48) = .inl 100000 := res_long (noBad_rep _) (by rw [List.length_replicate]; decide) (by rw [List.length_replicate]; decide)
theorem hexCs_rep : ∀ n : Nat, hexCs (List.replicate n 255) = List.replicate (2 * n) 102
  | 0 => rfl
  | n + 1 => by
    have e : 2 * (n + 1) = 2 * n + 1 + 1 := by omega
    have h1 : hx (255 / 16) = 102 := by decide +kernel
    rw [e, List.replicate_succ]
    show hx (255 / 16) :: hx (255 % 16) :: hexCs (List.replicate n 255) = _
    rw [hexCs_rep n, h1, List.replicate_succ, List.replicate_succ]
theorem hexText_nil : hexText [] = "" := by decide +kernel
theorem res_a0 : res (Str.cps "a0").toList = .inr [160] := by decide +kernel
theorem natsV_rep (n k : Nat) : natsV (List.replicate n k) = List.replicate n (V.int k) := by
  unfold natsV
  rw [List.map_replicate]
theorem big1 : ∃ (cs ns : List Nat), (Str.mk ((List.replicate (100000 : Int).toNat (Str.cps "0")).foldl (· ++ ·) #[])) = ⟨cs.toArray⟩ ∧ cs.length ≤ 1000000 ∧ res cs = .inr ns ∧ List.replicate (50000 : Int).toNat (V.int 0) = natsV ns :=
  ⟨_, _, rep_str (by decide +kernel), by rw [List.length_replicate]; decide, res_rep1, (natsV_rep _ _).symm⟩
theorem big2 : ∃ (cs : List Nat), (Str.mk ((List.replicate (100002 : Int).toNat (Str.cps "0")).foldl (· ++ ·) #[])) = ⟨cs.toArray⟩ ∧ cs.length ≤ 1000000 ∧ res cs = .inl 100000 :=
  ⟨_, rep_str (by decide +kernel), by rw [List.length_replicate]; decide, res_rep2⟩
theorem big3 : ∃ (ns : List Nat), List.replicate (50000 : Int).toNat (V.int 255) = natsV ns ∧ ns.length ≤ 50000 ∧ (∀ n ∈ ns, n < 256) ∧ (Str.mk ((List.replicate (100000 : Int).toNat (Str.cps "f")).foldl (· ++ ·) #[])) = hexText ns := by
  refine ⟨_, (natsV_rep _ _).symm, by rw [List.length_replicate]; decide, fun n hn => by rw [(List.mem_replicate.mp hn).2]; decide, ?_⟩
  rw [rep_str (c := 102) (by decide +kernel)]
  unfold hexText
  have e : (100000 : Int).toNat = 2 * (50000 : Int).toNat := by decide +kernel
  rw [hexCs_rep, e]
theorem offV_inr {cs ns : List Nat} (h : res cs = .inr ns) : offV (some cs) = none := by
  unfold offV
  simp only [h]
theorem big4 : ∃ (ns : List Nat), List.replicate (50001 : Int).toNat (V.int 0) = natsV ns ∧ 50000 < (natsV ns).length ∧ okD (.tuple (natsD ns)) := by
  refine ⟨_, (natsV_rep _ _).symm, by rw [natsV_rep, List.length_replicate]; decide, okD_tup (fun n hn => by rw [(List.mem_replicate.mp hn).2]; decide) (by rw [List.length_replicate]; decide)⟩
theorem ans_res {K : PySem.W.Frag} {H : Hp} {p : Addr} {cs : List Nat} {r : Sum Nat (List Nat)} (h : AnsAt K H p (some cs)) (e : res cs = r) : ResAt K H p r := by
  have h : ResAt K H p (res cs) := h
  rw [e] at h
  exact h
theorem NoInt.same {K : PySem.W.Frag} {H H' : Hp} {v : V} (s : Same H H') (h : NoInt K H v) : NoInt K H' v := by
  obtain ⟨T, h1, h2⟩ := h
  exact ⟨T, TyX.same s h1, h2⟩
theorem OctAll.same {K : PySem.W.Frag} {H H' : Hp} {xs : List V} {bs : List Bool} (s : Same H H') (h : OctAll K H xs bs) : OctAll K H' xs bs := by
  induction h with
  | nil => exact .nil
  | cons h1 _ ih => exact .cons (OctB.same s h1) ih
theorem BadS.same {K : PySem.W.Frag} {H H' : Hp} {v : V} (s : Same H H') (h : BadS K H v) : BadS K H' v := by
  obtain ⟨T, h1, h2⟩ | ⟨p, xs, h1, h2, h3⟩ := h
  · exact .inl ⟨T, TyX.same s h1, h2⟩
  · refine .inr ⟨p, xs, h1, sqT_same s h2, ?_⟩
    obtain h3 | ⟨h3, bs, h4, h5⟩ := h3
    · exact .inl h3
    · exact .inr ⟨h3, bs, OctAll.same s h4, h5⟩
/-- refused as a stream, and shown by repr -/
def BS (K : PySem.W.Frag) (H : Hp) (v : V) : Prop := BadS K H v ∧ ShD K H v
theorem BS.same {K : PySem.W.Frag} {H H' : Hp} {v : V} (s : Same H H') (h : BS K H v) : BS K H' v := ⟨BadS.same s h.1, ShD.same s h.2⟩
theorem bs_tup {K : PySem.W.Frag} {H : Hp} {p : Addr} {xs : List V} {bs : List Bool} {ds : List PyData} (h : H p = some (.tup xs)) (ho : OctAll K H xs bs) (hb : bs.all id = false) (hl : xs.length ≤ 50000) (hd : DpAll K H xs ds) (hk : okD (.tuple ds)) : BS K H (.ref p) :=
  ⟨.inr ⟨p, xs, rfl, SqT.of h, .inr ⟨hl, bs, ho, hb⟩⟩, .inl ⟨_, .tup (SqT.of h) hd, hk⟩⟩
theorem txt_of (z : Str) {n : Nat} (h : z.length ≤ n) : ∃ cs : List Nat, V.str z = .str ⟨cs.toArray⟩ ∧ cs.length ≤ n := by
  refine ⟨z.cps.toList, rfl, ?_⟩
  have e : z.cps.toList.length = z.length := by
    show _ = z.cps.size
    simp
  omega
def told12 : List V := [.str "", .str "00", .str "ff", .str "0", .str "A0", .str "a0 ", .str " a0", .str "0x", .str "g", .str "00g", .str "0g0", .str ((⟨(List.replicate (100001 : Int).toNat (Str.cps "0")).foldl (· ++ ·) #[]⟩ : Str) ++ "g")]
/-- the value's type is none of a text's -/
def NoTxt (K : PySem.W.Frag) (H : Hp) (v : V) : Prop := ∃ T : String, TyX K H v (.type T) ∧ kitB T "str" = some false
theorem NoTxt.same {K : PySem.W.Frag} {H H' : Hp} {v : V} (s : Same H H') (h : NoTxt K H v) : NoTxt K H' v := by
  obtain ⟨T, h1, h2⟩ := h
  exact ⟨T, TyX.same s h1, h2⟩
theorem mem_at {α : Type} {xs : List α} {p : α → Prop} (h : ∀ x ∈ xs, p x) {i : Nat} {x : α} (e : xs[i]? = some x) : p x := h x (List.mem_of_getElem? e)
section
variable {P : Program} {w : World} {K : PySem.W.Frag} {mg : Str → Option Value} {base : Heap} {a : Ad} {f : Addr} {fd fd1 fd2 fd3 fd4 fd5 : FuncData}
theorem ok_L_by_hand_right (F : Fun K "_law_by_hand_right" "_law_by_hand_right" s_L_by_hand_right f fd) (T : Txt P w K mg a)
    (G_L_read : FnG P w K mg base 4 a.lr fd1 ["thing"] (sp_L_read K)) (b_L_read : Binds K fd1 ["thing"] []) (G_L_due : FnG P w K mg base 1 a.ld fd2 ["told"] (sp_L_due K)) (b_L_due : Binds K fd2 ["told"] [])
    (G_stream_text : FnG P w K mg base 4 a.st fd3 ["stream"] (sp_stream_text K a.IS)) (b_stream_text : Binds K fd3 ["stream"] [])
    (G_read_stream : FnG P w K mg base 3 a.rs fd4 ["text"] (sp_read_stream K a.IT)) (kb_read_stream : KBinds K fd4 ["text"] ["text"] (fun us ws => us ++ ws) (fun vs zs => vs ++ zs))
    (G_L_refused : FnG P w K mg base 5 a.lf fd5 ["thing"] (sp_L_refused K)) (b_L_refused : Binds K fd5 ["thing"] []) : FnG P w K mg base 6 f fd [] sp_L_by_hand_right := by
  replace G_L_read := G_L_read.mono (show 4 ≤ 5 by decide)
  replace G_L_due := G_L_due.mono (show 1 ≤ 5 by decide)
  replace G_stream_text := G_stream_text.mono (show 4 ≤ 5 by decide)
  replace G_read_stream := G_read_stream.mono (show 3 ≤ 5 by decide)
  refine F.okG sc_L_by_hand_right (fun vs H Q E h => ?_) (fun cdv A outer s H vs Q E hr hgd h => ?_)
  · obtain ⟨rfl, _⟩ := h
    rfl
  · obtain ⟨rfl, q⟩ := h
    have hr1 : Room 5 _ := hr.mono (by decide)
    refine ⟨_, (pss_cons (ps_for (passes_of rfl) rfl (pi_tup (pe_tup (pa_cons pe_str (pa_cons pe_str (pa_cons pe_str (pa_cons pe_str (pa_cons pe_str (pa_cons pe_str (pa_cons pe_str (pa_cons pe_str (pa_cons pe_str (pa_cons pe_str (pa_cons pe_str (pa_cons (pe_op op_add_str (pe_op op_repS pe_str pe_int) pe_str) pa_nil)))))))))))))) (pg_name (i := 0) sc_L_by_hand_right.nd rfl (Or.inl rfl)) (pss_one (ps_if (pt_cmpR op_ne (pe_callB (call_repr hr.units hgd) (by rfl) T.repr (by decide +kernel) (pa_cons (pe_callG G_L_read hr1 hgd (by rfl) T.g_L_read T.k_L_read b_L_read .nil (takes_of rfl rfl rfl rfl) (pa_cons (pv 0) pa_nil)) pa_nil)) (pe_callB (call_repr hr.units hgd) (by rfl) T.repr (by decide +kernel) (pa_cons (pe_callG G_L_due hr1 hgd (by rfl) T.g_L_due T.k_L_due b_L_due .nil (takes_of rfl rfl rfl rfl) (pa_cons (pv 0) pa_nil)) pa_nil)) (nomark _)) (pss_one (ps_ret pe_bl)) pss_nil)))
      (pss_cons (ps_if (PW.pt (pw_or (pt_cmpR (op_neD hr.units) (pe_callG G_L_read hr1 hgd (by rfl) T.g_L_read T.k_L_read b_L_read .nil (takes_of rfl rfl rfl rfl) (pa_cons (pe_op op_repS pe_str pe_int) pa_nil)) (pe_op op_repT1 (pe_tup (pa_cons pe_int pa_nil)) pe_int) (nomark _)) (pw_or1 (pt_cmpR (op_neD hr.units) (pe_callG G_L_read hr1 hgd (by rfl) T.g_L_read T.k_L_read b_L_read .nil (takes_of rfl rfl rfl rfl) (pa_cons (pe_op op_repS pe_str pe_int) pa_nil)) (pe_lst (pa_cons pe_int pa_nil)) (nomark _))))) (pss_one (ps_ret pe_bl)) pss_nil)
      (pss_cons (ps_if (PW.pt (pw_or (pt_cmpR op_ne (pe_callG G_stream_text hr1 hgd (by rfl) T.g_stream_text T.k_stream_text b_stream_text .nil (takes_of rfl rfl rfl rfl) (pa_cons (pe_tup pa_nil) pa_nil)) pe_str (nomark _)) (pw_or (pt_cmpR op_ne (pe_callG G_stream_text hr1 hgd (by rfl) T.g_stream_text T.k_stream_text b_stream_text .nil (takes_of rfl rfl rfl rfl) (pa_cons (pe_op op_repT1 (pe_tup (pa_cons pe_int pa_nil)) pe_int) pa_nil)) (pe_op op_repS pe_str pe_int) (nomark _)) (pw_or1 (pt_cmpR (op_neD hr.units) (pe_callGK G_read_stream hr1 hgd (by rfl) T.g_read_stream T.k_read_stream kb_read_stream (takes_of rfl rfl rfl rfl) (pk_cons pe_str pk_nil)) (pe_tup (pa_cons pe_int pa_nil)) (nomark _)))))) (pss_one (ps_ret pe_bl)) pss_nil)
      (pss_cons (ps_if (pt_cmpR (op_neD hr.units) (pe_lc (own := [("thing", 1)]) rfl sc_L_by_hand_right.nd (pi_tup (pe_tup (pa_cons pe_non (pa_cons pe_int (pa_cons pe_bl (pa_cons (pe_tup (pa_cons pe_str pa_nil)) (pa_cons (pe_lst (pa_cons pe_str pa_nil)) (pa_cons pe_dnewK (pa_cons (pe_tup pa_nil) pa_nil))))))))) (blkOk_by (N := ["told", "thing", "some"]) (sc := defScope s_L_by_hand_right) (by decide +kernel)) (fun _ _ _ _ _ => (pg_name (i := 1) sc_L_by_hand_right.nd rfl (Or.inl rfl))) (fun _ _ _ _ _ => (pts_one (show PT _ _ (tTest (tOp (rNeD K) _ _)) from pt_cmpR (op_neD hr.units) (pe_callG G_L_read hr1 hgd (by rfl) T.g_L_read T.k_L_read b_L_read .nil takes0 (pa_cons (pv 1) pa_nil)) (pe_lst (pa_cons pe_non pa_nil)) (nomark _)))) (fun _ _ _ _ _ => (pv 1))) (pe_lst pa_nil) (nomark _)) (pss_one (ps_ret pe_bl)) pss_nil)
      (pss_cons (ps_set (i := 2) sc_L_by_hand_right.nd rfl (Or.inl rfl) (pe_lst (pa_cons pe_non (pa_cons pe_int (pa_cons pe_str (pa_cons (pe_lst (pa_cons pe_int pa_nil)) (pa_cons (pe_tup (pa_cons pe_int pa_nil)) (pa_cons (pe_tup (pa_cons (pe_un un_neg pe_int) pa_nil)) (pa_cons (pe_tup (pa_cons pe_bl pa_nil)) (pa_cons (pe_tup (pa_cons pe_str pa_nil)) (pa_cons (pe_tup (pa_cons pe_int (pa_cons pe_non pa_nil))) (pa_cons (pe_op op_repT1 (pe_tup (pa_cons pe_int pa_nil)) pe_int) (pa_cons pe_dnewK (pa_cons (pe_tup (pa_cons (pe_tup (pa_cons pe_int pa_nil)) pa_nil)) pa_nil))))))))))))))
      (pss_one (ps_ret (pe_cmpR (op_eqD hr.units) (pe_lc (own := [("thing", 1)]) rfl sc_L_by_hand_right.nd (pi_list (pv 2)) (blkOk_by (N := ["told", "thing", "some"]) (sc := defScope s_L_by_hand_right) (by decide +kernel)) (fun _ _ _ _ _ => (pg_name (i := 1) sc_L_by_hand_right.nd rfl (Or.inl rfl))) (fun _ _ _ _ _ => (pts_one (pt_not (pt_val (pe_callG G_L_refused hr1 hgd (by rfl) T.g_L_refused T.k_L_refused b_L_refused .nil takes0 (pa_cons (pv 1) pa_nil)))))) (fun _ _ _ _ _ => (pv 1))) (pe_lst pa_nil) (nomark _))))))))), ?_⟩
    have big : sizeLine = 16777216 := sizeLine_eq
    have r1 : (Str.mk ((List.replicate (100001 : Int).toNat (Str.cps "0")).foldl (· ++ ·) #[])) = ⟨(List.replicate 100001 48).toArray⟩ := rep_str (by decide +kernel)
    refine ⟨_, _, rfl, rfl, by decide, by decide, by decide +kernel, by decide +kernel, _, _, rfl, rfl, ?_, by show 12 ≤ sizeLine; decide, fun t ht => ?_⟩
    · rw [r1]
      have e : Str.length ⟨(List.replicate 100001 48).toArray⟩ = 100001 := by
        show ((List.replicate 100001 48).toArray).size = _
        rw [List.size_toArray, List.length_replicate]
      have e2 : Str.length "g" = 1 := by decide +kernel
      omega
    have s0 : Same H (upd H t (.tup told12)) := same_upd ht
    have allX : ∀ x ∈ told12, ∃ cs : List Nat, x = .str ⟨cs.toArray⟩ ∧ cs.length ≤ 1000000 := by
      intro x hx
      simp only [told12, List.mem_cons, List.not_mem_nil, or_false] at hx
      have small : ∀ z : Str, decide (z.length ≤ 10) = true → ∃ cs : List Nat, V.str z = .str ⟨cs.toArray⟩ ∧ cs.length ≤ 1000000 := fun z h => txt_of z (Nat.le_trans (of_decide_eq_true h) (by decide))
      obtain rfl | rfl | rfl | rfl | rfl | rfl | rfl | rfl | rfl | rfl | rfl | rfl := hx
      iterate 11 exact small _ (by decide +kernel)
      refine txt_of _ ?_
      rw [str_len, r1]
      have e : Str.length ⟨(List.replicate 100001 48).toArray⟩ = 100001 := by
        show ((List.replicate 100001 48).toArray).size = _
        rw [List.size_toArray, List.length_replicate]
      have e2 : Str.length "g" = 1 := by decide +kernel
      omega
    refine ⟨t, rfl, ⟨told12, SqT.of upd_same⟩, for_it (walk_tup (K := K) (a := t) (xs := told12)) (fun i σ H' => ∃ u : Option V, σ = [u, none, none] ∧ Same (upd H t (.tup told12)) H') ⟨none, rfl, Same.refl _⟩ (fun _ _ _ _ ⟨_, _, s1⟩ => sqT_same s1 (SqT.of upd_same)) ?_ ?_⟩
    · rintro i x σ H1 H2 hi ⟨u, rfl, s1⟩ ⟨rfl, hx⟩
      obtain ⟨cs, rfl, hl⟩ := mem_at allX hx
      have hok := okD_res hl
      refine ⟨_, rfl, _, some cs, rfl, ⟨rfl, hl⟩, fun H2 p s2 hA => ?_⟩
      have hA : ResAt K H2 p (res cs) := hA
      refine ⟨_, resD (res cs), rfl, .inl hA.dp, hok.1, hok.2.1, hok.2.2, ?_⟩
      refine ⟨_, rfl, cs, rfl, hl, fun H3 p3 s3 hA3 => ?_⟩
      refine ⟨_, resD (res cs), rfl, .inl hA3.dp, hok.1, hok.2.1, hok.2.2, rfl, _, rfl, ?_⟩
      refine iteNS rfl ?_
      exact ⟨_, rfl, s1.trans (s2.trans s3)⟩
    rintro σ H1 ⟨u, rfl, s1⟩
    have s1 : Same H H1 := s0.trans s1
    -- the limits of what is read
    obtain ⟨cs1, ns1, f1, f2, f3, f4⟩ := big1
    obtain ⟨cs2, g1, g2, g3⟩ := big2
    obtain ⟨ns3, j1, j2, j3, j4⟩ := big3
    have rfl_tup : ∀ ns, PyData.eqv (.tuple (natsD ns)) (.tuple (natsD ns)) = true := fun ns => SeqAt.eqv_refl _ (SeqAt.canLay_of_shaped (shaped_tup ns))
    have rfl_lst : ∀ ns, PyData.eqv (.list (natsD ns)) (.list (natsD ns)) = true := fun ns => SeqAt.eqv_refl _ (SeqAt.canLay_of_shaped (shaped_lst ns))
    refine ⟨_, _, rfl, rfl, by decide, by decide, by decide +kernel, by decide +kernel, _, some cs1, rfl, ⟨congrArg V.str f1, f2⟩, fun H2 p2 s2 hA => ?_⟩
    have hA : SqT K H2 p2 (natsV ns1) := ans_res hA f3
    refine ⟨by show 1 ≤ sizeLine; decide, fun p3 hp3 => ⟨_, _, _, rfl, rfl, SqT.of upd_same, by decide, by decide, fun p4 hp4 => ?_⟩⟩
    rw [f4]
    have s3 : Same H2 (upd H2 p3 (.tup [.int 0])) := same_upd hp3
    have s4 : Same (upd H2 p3 (.tup [.int 0])) (upd (upd H2 p3 (.tup [.int 0])) p4 (.tup (natsV ns1))) := same_upd hp4
    refine ⟨_, _, .tup (sqT_same (s3.trans s4) hA) (dp_nats _), .tup (SqT.of upd_same) (dp_nats _), shaped_tup _, shaped_tup _, _, rfl, ?_⟩
    rw [rfl_tup]
    refine iteF ?_
    refine ⟨_, _, rfl, rfl, by decide, by decide, by decide +kernel, by decide +kernel, _, some cs2, rfl, ⟨congrArg V.str g1, g2⟩, fun H5 p5 s5 hA5 => ?_⟩
    have hA5 : SqL K H5 p5 [.int 100000] := ans_res hA5 g3
    refine ⟨by show 1 ≤ sizeLine; decide, fun p6 hp6 => ?_⟩
    have s6 : Same H5 (upd H5 p6 (.lst [.int 100000])) := same_upd hp6
    refine ⟨_, _, .lst (s6.seq hA5) (dp_nats [100000]), .lst (SqL.of upd_same) (dp_nats [100000]), shaped_lst [100000], shaped_lst [100000], _, rfl, ?_⟩
    rw [rfl_lst]
    refine iteF ?_
    have S6 := s1.trans (s2.trans (s3.trans (s4.trans (s5.trans s6))))
    -- the limits of what is written
    generalize upd H5 p6 (.lst [.int 100000]) = H6 at S6
    refine ⟨by show 0 ≤ sizeLine; decide, fun p7 hp7 => ?_⟩
    have s7 : Same H6 (upd H6 p7 (.tup [])) := same_upd hp7
    refine ⟨_, rfl, .inr ⟨[], ⟨p7, rfl, SqT.of upd_same, by decide, fun _ h => by cases h⟩, fun H8 s8 => ?_⟩⟩
    rw [hexText_nil]
    refine ⟨rfl, _, rfl, iteNS rfl ?_⟩
    refine ⟨by show 1 ≤ sizeLine; decide, fun p9 hp9 => ⟨_, _, _, rfl, rfl, SqT.of upd_same, by decide, by decide, fun p10 hp10 => ?_⟩⟩
    rw [j1]
    have s9 : Same H8 (upd H8 p9 (.tup [.int 255])) := same_upd hp9
    have s10 : Same (upd H8 p9 (.tup [.int 255])) (upd (upd H8 p9 (.tup [.int 255])) p10 (.tup (natsV ns3))) := same_upd hp10
    refine ⟨_, rfl, .inr ⟨ns3, ⟨p10, rfl, SqT.of upd_same, j2, j3⟩, fun H11 s11 => ?_⟩⟩
    refine ⟨_, _, rfl, rfl, by decide, by decide, by decide +kernel, by decide +kernel, rfl, _, rfl, ?_⟩
    refine iteNS (congrArg V.str j4.symm) ?_
    refine ⟨_, some (Str.cps "a0").toList, rfl, ⟨rfl, by decide +kernel⟩, fun x hx => ?_, fun cs ns ho hres H12 p12 s12 hA12 => ?_⟩
    · rw [offV_inr res_a0] at hx
      cases hx
    cases ho
    rw [res_a0] at hres
    cases hres
    refine ⟨by show 1 ≤ sizeLine; decide, fun p13 hp13 => ?_⟩
    have s13 : Same H12 (upd H12 p13 (.tup [.int 160])) := same_upd hp13
    refine ⟨_, _, .tup (sqT_same s13 hA12) (dp_nats [160]), .tup (SqT.of upd_same) (dp_nats [160]), shaped_tup [160], shaped_tup [160], _, rfl, ?_⟩
    rw [rfl_tup]
    refine iteF ?_
    have S13 := S6.trans (s7.trans (s8.trans (s9.trans (s10.trans (s11.trans (s12.trans s13))))))
    generalize upd H12 p13 (.tup [.int 160]) = H13 at S13
    -- objects that are no texts
    refine ⟨by show 1 ≤ sizeLine; decide, fun t1 ht1 => ?_⟩
    have q1 : Same H13 (upd H13 t1 (.tup [.str "a0"])) := same_upd ht1
    have g1 : NoTxt K (upd H13 t1 (.tup [.str "a0"])) (.ref t1) := ⟨_, .base (.tup upd_same), by decide +kernel⟩
    generalize upd H13 t1 (.tup [.str "a0"]) = G1 at q1 g1
    refine ⟨by show 1 ≤ sizeLine; decide, fun t2 ht2 => ?_⟩
    have q2 : Same G1 (upd G1 t2 (.lst [.str "a0"])) := same_upd ht2
    have g2 : NoTxt K (upd G1 t2 (.lst [.str "a0"])) (.ref t2) := ⟨_, .base (.lst upd_same), by decide +kernel⟩
    generalize upd G1 t2 (.lst [.str "a0"]) = G2 at q2 g2
    intro t3 ht3
    have q3 : Same G2 (upd G2 t3 (.dK [])) := same_upd ht3
    have g3' : NoTxt K (upd G2 t3 (.dK [])) (.ref t3) := ⟨_, .base (.dK upd_same), by decide +kernel⟩
    generalize upd G2 t3 (.dK []) = G3 at q3 g3'
    refine ⟨by show 0 ≤ sizeLine; decide, fun t4 ht4 => ?_⟩
    have q4 : Same G3 (upd G3 t4 (.tup [])) := same_upd ht4
    have g4 : NoTxt K (upd G3 t4 (.tup [])) (.ref t4) := ⟨_, .base (.tup upd_same), by decide +kernel⟩
    generalize upd G3 t4 (.tup []) = G4 at q4 g4
    refine ⟨by show 7 ≤ sizeLine; decide, fun t5 ht5 => ?_⟩
    have q5 : Same G4 (upd G4 t5 (.tup [.non, .int 1, .bl true, .ref t1, .ref t2, .ref t3, .ref t4])) := same_upd ht5
    have all7 : ∀ x ∈ [V.non, .int 1, .bl true, .ref t1, .ref t2, .ref t3, .ref t4], NoTxt K G4 x := by
      intro x hx
      simp only [List.mem_cons, List.not_mem_nil, or_false] at hx
      obtain rfl | rfl | rfl | rfl | rfl | rfl | rfl := hx
      · exact ⟨_, .base .non, by decide +kernel⟩
      · exact ⟨_, .base (.int 1), by decide +kernel⟩
      · exact ⟨_, .base (.bl true), by decide +kernel⟩
      · exact g1.same (q2.trans (q3.trans q4))
      · exact g2.same (q3.trans q4)
      · exact g3'.same q4
      · exact g4
    have hT5 : SqT K (upd G4 t5 (.tup [.non, .int 1, .bl true, .ref t1, .ref t2, .ref t3, .ref t4])) t5 [.non, .int 1, .bl true, .ref t1, .ref t2, .ref t3, .ref t4] := SqT.of upd_same
    generalize upd G4 t5 (.tup [.non, .int 1, .bl true, .ref t1, .ref t2, .ref t3, .ref t4]) = G5 at q5 hT5
    generalize hX7 : [V.non, .int 1, .bl true, .ref t1, .ref t2, .ref t3, .ref t4] = xs7 at all7 hT5
    refine ⟨t5, rfl, ⟨xs7, hT5⟩, fun D5 hD5 => lc_it (walk_tup (K := K) (a := t5) (xs := xs7)) (LcPv G5 D5 fun _ => []) (lc_start hD5 rfl) (fun _ _ _ h => sqT_same h.1 hT5) ?_ ?_⟩
    · rintro i x H2 H3 hi h ⟨rfl, hx⟩
      have hn := (mem_at all7 hx).same (q5.trans h.1)
      refine ⟨rfl, _, rfl, x, none, rfl, hn, fun H4 p s4' hA => ?_⟩
      have hA : SqL K H4 p [.non] := hA
      refine ⟨by show 1 ≤ sizeLine; decide, fun l hl => ?_⟩
      have s5' : Same H4 (upd H4 l (.lst [.non])) := same_upd hl
      refine ⟨_, _, .lst (s5'.seq hA) (.cons .non .nil), .lst (SqL.of upd_same) (.cons .non .nil), by decide +kernel, by decide +kernel, _, rfl, ?_⟩
      refine if_neg_of (by decide +kernel) ?_
      exact lc_skip h (s4'.trans s5') rfl
    intro H14 h14
    have e14 : H14 D5 = some (.lst []) := h14.2
    refine ⟨by show 0 ≤ sizeLine; decide, fun l6 hl6 => ?_⟩
    have q6 : Same H14 (upd H14 l6 (.lst [])) := same_upd hl6
    refine ⟨_, _, .lst (SqL.of (q6 _ _ e14)) .nil, .lst (SqL.of upd_same) .nil, by decide +kernel, by decide +kernel, _, rfl, ?_⟩
    refine if_neg_of (by decide +kernel) ?_
    have Q0 := S13.trans (q1.trans (q2.trans (q3.trans (q4.trans (q5.trans (h14.1.trans q6))))))
    generalize upd H14 l6 (.lst []) = J0 at Q0
    -- objects that are no streams
    refine ⟨by show 1 ≤ sizeLine; decide, fun o0 ho0 => ?_⟩
    have w0 : Same J0 (upd J0 o0 (.lst [.int 160])) := same_upd ho0
    have b0 : BS K (upd J0 o0 (.lst [.int 160])) (.ref o0) := ⟨.inl ⟨_, .base (.lst upd_same), by decide +kernel⟩, .inl ⟨_, .lst (SqL.of upd_same) (.cons (.int 160) .nil), by unfold okD; decide +kernel⟩⟩
    generalize upd J0 o0 (.lst [.int 160]) = J1 at w0 b0
    refine ⟨by show 1 ≤ sizeLine; decide, fun o1 ho1 => ?_⟩
    have w1 : Same J1 (upd J1 o1 (.tup [.int 256])) := same_upd ho1
    have b1 : BS K (upd J1 o1 (.tup [.int 256])) (.ref o1) := bs_tup upd_same (.cons (.inl ⟨256, rfl, rfl⟩) .nil) (by decide) (by show _ ≤ 50000; decide) (.cons (.int 256) .nil) (by unfold okD; decide +kernel)
    generalize upd J1 o1 (.tup [.int 256]) = J2 at w1 b1
    refine ⟨_, rfl, by show 1 ≤ sizeLine; decide, fun o2 ho2 => ?_⟩
    have w2 : Same J2 (upd J2 o2 (.tup [.int (-1)])) := same_upd ho2
    have b2 : BS K (upd J2 o2 (.tup [.int (-1)])) (.ref o2) := bs_tup upd_same (.cons (.inl ⟨-1, rfl, rfl⟩) .nil) (by decide) (by show _ ≤ 50000; decide) (.cons (.int (-1)) .nil) (by unfold okD; decide +kernel)
    generalize upd J2 o2 (.tup [.int (-1)]) = J3 at w2 b2
    refine ⟨by show 1 ≤ sizeLine; decide, fun o3 ho3 => ?_⟩
    have w3 : Same J3 (upd J3 o3 (.tup [.bl true])) := same_upd ho3
    have b3 : BS K (upd J3 o3 (.tup [.bl true])) (.ref o3) := bs_tup upd_same (.cons (.inr ⟨⟨_, .base (.bl true), .inr ⟨by decide +kernel, by decide +kernel⟩⟩, rfl⟩) .nil) (by decide) (by show _ ≤ 50000; decide) (.cons (.bl true) .nil) (by unfold okD; decide +kernel)
    generalize upd J3 o3 (.tup [.bl true]) = J4 at w3 b3
    refine ⟨by show 1 ≤ sizeLine; decide, fun o4 ho4 => ?_⟩
    have w4 : Same J4 (upd J4 o4 (.tup [.str "0"])) := same_upd ho4
    have b4 : BS K (upd J4 o4 (.tup [.str "0"])) (.ref o4) := bs_tup upd_same (.cons (.inr ⟨⟨_, .base (.str "0"), .inl (by decide +kernel)⟩, rfl⟩) .nil) (by decide) (by show _ ≤ 50000; decide) (.cons (.str "0") .nil) (by unfold okD; decide +kernel)
    generalize upd J4 o4 (.tup [.str "0"]) = J5 at w4 b4
    refine ⟨by show 2 ≤ sizeLine; decide, fun o5 ho5 => ?_⟩
    have w5 : Same J5 (upd J5 o5 (.tup [.int 0, .non])) := same_upd ho5
    have b5 : BS K (upd J5 o5 (.tup [.int 0, .non])) (.ref o5) := bs_tup upd_same (.cons (.inl ⟨0, rfl, rfl⟩) (.cons (.inr ⟨⟨_, .base (.non), .inl (by decide +kernel)⟩, rfl⟩) .nil)) (by decide) (by show _ ≤ 50000; decide) (.cons (.int 0) (.cons .non .nil)) (by unfold okD; decide +kernel)
    generalize upd J5 o5 (.tup [.int 0, .non]) = J6 at w5 b5
    refine ⟨by show 1 ≤ sizeLine; decide, fun o6 ho6 => ?_⟩
    have w6 : Same J6 (upd J6 o6 (.tup [.int 0])) := same_upd ho6
    have b6 : SqT K (upd J6 o6 (.tup [.int 0])) o6 [.int 0] := SqT.of upd_same
    generalize upd J6 o6 (.tup [.int 0]) = J7 at w6 b6
    refine ⟨_, _, _, rfl, rfl, b6, by decide, by decide, fun o7 ho7 => ?_⟩
    obtain ⟨ns4, v1, v2, v3⟩ := big4
    rw [v1]
    have w7 : Same J7 (upd J7 o7 (.tup (natsV ns4))) := same_upd ho7
    have b7 : BS K (upd J7 o7 (.tup (natsV ns4))) (.ref o7) := ⟨.inr ⟨_, _, rfl, SqT.of upd_same, .inl v2⟩, .inl ⟨_, .tup (SqT.of upd_same) (dp_nats ns4), v3⟩⟩
    generalize upd J7 o7 (.tup (natsV ns4)) = J8 at w7 b7
    intro o8 ho8
    have w8 : Same J8 (upd J8 o8 (.dK [])) := same_upd ho8
    have b8 : BS K (upd J8 o8 (.dK [])) (.ref o8) := ⟨.inl ⟨_, .base (.dK upd_same), by decide +kernel⟩, .inr ⟨_, rfl, upd_same⟩⟩
    generalize upd J8 o8 (.dK []) = J9 at w8 b8
    refine ⟨by show 1 ≤ sizeLine; decide, fun o9 ho9 => ?_⟩
    have w9 : Same J9 (upd J9 o9 (.tup [.int 160])) := same_upd ho9
    have b9 : SqT K (upd J9 o9 (.tup [.int 160])) o9 [.int 160] := SqT.of upd_same
    generalize upd J9 o9 (.tup [.int 160]) = J10 at w9 b9
    refine ⟨by show 1 ≤ sizeLine; decide, fun o10 ho10 => ?_⟩
    have w10 : Same J10 (upd J10 o10 (.tup [.ref o9])) := same_upd ho10
    have b10 : BS K (upd J10 o10 (.tup [.ref o9])) (.ref o10) := bs_tup upd_same (.cons (.inr ⟨⟨_, tyTup (sqT_same w10 b9), .inl (by decide +kernel)⟩, rfl⟩) .nil) (by decide) (by show 1 ≤ 50000; decide) (.cons (.tup (sqT_same w10 b9) (.cons (.int 160) .nil)) .nil) (by unfold okD; decide +kernel)
    generalize upd J10 o10 (.tup [.ref o9]) = J11 at w10 b10
    have all12 : ∀ x ∈ ([.non, .int 1, .str "a0", .ref o0, .ref o1, .ref o2, .ref o3, .ref o4, .ref o5, .ref o7, .ref o8, .ref o10] : List V), BS K J11 x := by
      intro x hx
      simp only [List.mem_cons, List.not_mem_nil, or_false] at hx
      obtain rfl | rfl | rfl | rfl | rfl | rfl | rfl | rfl | rfl | rfl | rfl | rfl := hx
      · exact ⟨.inl ⟨_, .base .non, by decide +kernel⟩, .inl ⟨_, .non, by unfold okD; decide +kernel⟩⟩
      · exact ⟨.inl ⟨_, .base (.int 1), by decide +kernel⟩, .inl ⟨_, .int 1, by unfold okD; decide +kernel⟩⟩
      · exact ⟨.inl ⟨_, .base (.str "a0"), by decide +kernel⟩, .inl ⟨_, .str "a0", by unfold okD; decide +kernel⟩⟩
      · exact b0.same (w1.trans (w2.trans (w3.trans (w4.trans (w5.trans (w6.trans (w7.trans (w8.trans (w9.trans (w10))))))))))
      · exact b1.same (w2.trans (w3.trans (w4.trans (w5.trans (w6.trans (w7.trans (w8.trans (w9.trans (w10)))))))))
      · exact b2.same (w3.trans (w4.trans (w5.trans (w6.trans (w7.trans (w8.trans (w9.trans (w10))))))))
      · exact b3.same (w4.trans (w5.trans (w6.trans (w7.trans (w8.trans (w9.trans (w10)))))))
      · exact b4.same (w5.trans (w6.trans (w7.trans (w8.trans (w9.trans (w10))))))
      · exact b5.same (w6.trans (w7.trans (w8.trans (w9.trans (w10)))))
      · exact b7.same (w8.trans (w9.trans (w10)))
      · exact b8.same (w9.trans (w10))
      · exact b10
    refine ⟨by show 12 ≤ sizeLine; decide, fun l7 hl7 => ?_⟩
    have w11 : Same J11 (upd J11 l7 (.lst [.non, .int 1, .str "a0", .ref o0, .ref o1, .ref o2, .ref o3, .ref o4, .ref o5, .ref o7, .ref o8, .ref o10])) := same_upd hl7
    have hS : SqL K (upd J11 l7 (.lst [.non, .int 1, .str "a0", .ref o0, .ref o1, .ref o2, .ref o3, .ref o4, .ref o5, .ref o7, .ref o8, .ref o10])) l7 [.non, .int 1, .str "a0", .ref o0, .ref o1, .ref o2, .ref o3, .ref o4, .ref o5, .ref o7, .ref o8, .ref o10] := SqL.of upd_same
    have Q1 := Q0.trans (w0.trans (w1.trans (w2.trans (w3.trans (w4.trans (w5.trans (w6.trans (w7.trans (w8.trans (w9.trans (w10)))))))))))
    generalize upd J11 l7 (.lst [.non, .int 1, .str "a0", .ref o0, .ref o1, .ref o2, .ref o3, .ref o4, .ref o5, .ref o7, .ref o8, .ref o10]) = J12 at w11 hS
    generalize hX12 : ([.non, .int 1, .str "a0", .ref o0, .ref o1, .ref o2, .ref o3, .ref o4, .ref o5, .ref o7, .ref o8, .ref o10] : List V) = xs12 at all12 hS
    -- the last row
    refine ⟨_, rfl, l7, rfl, ⟨xs12, hS⟩, fun D hD => lc_it (walk_list (K := K) (a := l7) (xs := xs12)) (LcPv J12 D fun _ => []) (lc_start hD rfl) (fun _ _ _ h => h.1.seq hS) ?_ ?_⟩
    · rintro i x H2 H3 hi h ⟨rfl, hx⟩
      have hb := (mem_at all12 hx).same (w11.trans h.1)
      refine ⟨rfl, _, rfl, x, rfl, hb.1, hb.2, fun H4 s4' => ⟨_, rfl, ?_⟩⟩
      refine if_neg_of rfl ?_
      exact lc_skip h s4' rfl
    intro H15 h15
    have e15 : H15 D = some (.lst []) := h15.2
    refine ⟨by show 0 ≤ sizeLine; decide, fun l8 hl8 => ?_⟩
    have q8 : Same H15 (upd H15 l8 (.lst [])) := same_upd hl8
    refine ⟨_, _, .lst (SqL.of (q8 _ _ e15)) .nil, .lst (SqL.of upd_same) .nil, by decide +kernel, by decide +kernel, ?_⟩
    exact q _ (Q1.trans (w11.trans (h15.1.trans q8)))
end
end B59

set_option Elab.async false
set_option linter.all false
set_option maxRecDepth 100000
set_option maxHeartbeats 4000000
namespace B59
open PySem PySem.Spec PyProof.Rows L2 L2.BJ
open PySem.BJX (SxC SxInit)
theorem Drawn.same {H H' : Hp} {d c : Addr} {n : Nat} (s : Same H H') (h : Drawn H d c n) : Drawn H' d c n := by
  obtain ⟨kvs, ns, at_, used, left, D1, D2, D3, D4, D5, D6, D7, D8, D9, D10, D11⟩ := h
  exact ⟨kvs, ns, at_, used, left, s _ _ D1, D2, D3, D4, D5, D6, s _ _ D7, D8, D9, D10, D11⟩
theorem Drawn.mono {H : Hp} {d c : Addr} {n m : Nat} (h : Drawn H d c n) (l : n ≤ m) : Drawn H d c m := by
  obtain ⟨kvs, ns, at_, used, left, D1, D2, D3, D4, D5, D6, D7, D8, D9, D10, D11⟩ := h
  exact ⟨kvs, ns, at_, used, left, D1, D2, D3, D4, D5, D6, D7, D8, D9, by omega, by omega⟩
theorem Drawn.away {H : Hp} {d c D : Addr} {n : Nat} (h : Drawn H d c n) (hD : H D = none) : D ≠ d ∧ D ≠ c := by
  obtain ⟨kvs, ns, at_, used, left, D1, D2, D3, D4, D5, D6, D7, _⟩ := h
  exact ⟨fun z => (by rw [z, D1] at hD; cases hD), fun z => (by rw [z, D7] at hD; cases hD)⟩
theorem Drawn.put {H : Hp} {d c D : Addr} {n : Nat} {o : HO} (h : Drawn H d c n) (h1 : D ≠ d) (h2 : D ≠ c) : Drawn (upd H D o) d c n := by
  obtain ⟨kvs, ns, at_, used, left, D1, D2, D3, D4, D5, D6, D7, D8, D9, D10, D11⟩ := h
  exact ⟨kvs, ns, at_, used, left, by rw [upd_ne (Ne.symm h1)]; exact D1, D2, D3, D4, D5, D6, by rw [upd_ne (Ne.symm h2)]; exact D7, D8, D9, D10, D11⟩
section
variable {P : Program} {w : World} {K : PySem.W.Frag} {mg : Str → Option Value} {base : Heap} {a : Ad} {f : Addr} {fd fd1 fd2 fd3 fd4 fd5 fd6 fd7 : FuncData}
theorem ok_law (F : Fun K "law" "law" s_law f fd) (T : Txt P w K mg a)
    (G_L_read : FnG P w K mg base 4 a.lr fd1 ["thing"] (sp_L_read K)) (b_L_read : Binds K fd1 ["thing"] []) (G_L_due : FnG P w K mg base 1 a.ld fd2 ["told"] (sp_L_due K)) (b_L_due : Binds K fd2 ["told"] [])
    (G_stream_text : FnG P w K mg base 4 a.st fd3 ["stream"] (sp_stream_text K a.IS)) (b_stream_text : Binds K fd3 ["stream"] []) (kb_stream_text : KBinds K fd3 ["stream"] ["stream"] (fun us ws => us ++ ws) (fun vs zs => vs ++ zs))
    (G_L_begin : FnG P w K mg base 1 a.lb fd4 ["script"] (sp_L_begin K)) (b_L_begin : Binds K fd4 ["script"] [])
    (G_L_next : FnG P w K mg base 2 a.ln fd5 ["draw", "bound"] sp_L_next) (b_L_next : Binds K fd5 ["draw", "bound"] [])
    (G_L_bent : FnG P w K mg base 3 a.lt fd6 ["draw", "told"] sp_L_bent) (b_L_bent : Binds K fd6 ["draw", "told"] [])
    (G_L_by_hand_right : FnG P w K mg base 6 a.lh fd7 [] sp_L_by_hand_right) (b_L_by_hand_right : Binds K fd7 [] []) : FnG P w K mg base 7 f fd ["script"] (sp_law K) := by
  replace G_L_read := G_L_read.mono (show 4 ≤ 6 by decide)
  replace G_L_due := G_L_due.mono (show 1 ≤ 6 by decide)
  replace G_stream_text := G_stream_text.mono (show 4 ≤ 6 by decide)
  replace G_L_begin := G_L_begin.mono (show 1 ≤ 6 by decide)
  replace G_L_next := G_L_next.mono (show 2 ≤ 6 by decide)
  replace G_L_bent := G_L_bent.mono (show 3 ≤ 6 by decide)
  refine F.okG sc_law (fun vs H Q E h => ?_) (fun cdv A outer s H vs Q E hr hgd h => ?_)
  · obtain ⟨_, _, rfl, _⟩ := h
    rfl
  · obtain ⟨p0, script, rfl, hS, hl, q⟩ := h
    have hr1 : Room 6 _ := hr.mono (by decide)
    refine ⟨_, (pss_cons (ps_set (i := 1) sc_law.nd rfl (Or.inr rfl) (pe_callG G_L_begin hr1 hgd (by rfl) T.g_L_begin T.k_L_begin b_L_begin .nil (takes_of rfl rfl rfl rfl) (pa_cons (pv 0) pa_nil)))
      (pss_cons (ps_if (pt_not (pt_val (pe_callG0 G_L_by_hand_right hr1 hgd (by rfl) T.g_L_by_hand_right T.k_L_by_hand_right b_L_by_hand_right .nil (takes_of rfl rfl rfl rfl)))) (pss_one (ps_ret pe_bl)) pss_nil)
      (pss_cons (ps_for (passes_of rfl) rfl (pi_range1 rfl T.range (pa_cons pe_int pa_nil)) (pg_name (i := 2) sc_law.nd rfl (Or.inl rfl)) (pss_cons (ps_set (i := 3) sc_law.nd rfl (Or.inl rfl) (pe_callTy call_tuple_of (by rfl) T.tuple (by decide +kernel) (pa_cons (pe_lc (own := [("k", 5)]) rfl sc_law.nd (pi_range1 rfl T.range (pa_cons (pe_callG G_L_next hr1 hgd (by rfl) T.g_L_next T.k_L_next b_L_next .nil (takes_of rfl rfl rfl rfl) (pa_cons (pv 1) (pa_cons pe_int pa_nil))) pa_nil)) (blkOk_by (N := ["script", "draw", "turn", "some", "due", "k", "told", "one"]) (sc := defScope s_law) (by decide +kernel)) (fun _ _ _ _ _ => (pg_name (i := 5) sc_law.nd rfl (Or.inl rfl))) (fun _ _ _ _ _ => pts_nil) (fun _ _ _ _ _ => (pe_callG G_L_next hr1 hgd (by rfl) T.g_L_next T.k_L_next b_L_next .nil takes0 (pa_cons (pv 1) (pa_cons pe_int pa_nil))))) pa_nil)))
      (pss_cons (ps_set (i := 4) sc_law.nd rfl (Or.inl rfl) (pe_join pe_str (pe_lc (own := [("one", 7)]) rfl sc_law.nd (pi_tup (pv 3)) (blkOk_by (N := ["script", "draw", "turn", "some", "due", "k", "told", "one"]) (sc := defScope s_law) (by decide +kernel)) (fun _ _ _ _ _ => (pg_name (i := 7) sc_law.nd rfl (Or.inl rfl))) (fun _ _ _ _ _ => pts_nil) (fun _ _ _ _ _ => (pe_op op_add_str (pe_ix ix_str pe_str (pe_op op_fdiv (pv 7) pe_int) (fun _ _ => rfl)) (pe_ix ix_str pe_str (pe_op op_mod (pv 7) pe_int) (fun _ _ => rfl)))))))
      (pss_cons (ps_if (PW.pt (pw_or (pt_cmpR op_ne (pe_callG G_stream_text hr1 hgd (by rfl) T.g_stream_text T.k_stream_text b_stream_text .nil (takes_of rfl rfl rfl rfl) (pa_cons (pv 3) pa_nil)) (pv 4) (nomark _)) (pw_or (pt_cmpR op_ne (pe_callGK G_stream_text hr1 hgd (by rfl) T.g_stream_text T.k_stream_text kb_stream_text (takes_of rfl rfl rfl rfl) (pk_cons (pv 3) pk_nil)) (pv 4) (nomark _)) (pw_or1 (pt_cmpR (op_neD hr.units) (pe_callG G_L_read hr1 hgd (by rfl) T.g_L_read T.k_L_read b_L_read .nil (takes_of rfl rfl rfl rfl) (pa_cons (pv 4) pa_nil)) (pv 3) (nomark _)))))) (pss_one (ps_ret pe_bl)) pss_nil)
      (pss_one (ps_for (passes_of rfl) rfl (pi_range1 rfl T.range (pa_cons pe_int pa_nil)) (pg_name (i := 5) sc_law.nd rfl (Or.inl rfl)) (pss_cons (ps_set (i := 6) sc_law.nd rfl (Or.inl rfl) (pe_callG G_L_bent hr1 hgd (by rfl) T.g_L_bent T.k_L_bent b_L_bent .nil (takes_of rfl rfl rfl rfl) (pa_cons (pv 1) (pa_cons (pv 4) pa_nil))))
      (pss_one (ps_for (passes_of rfl) rfl (pi_tup (pe_tup (pa_cons (pv 6) (pa_cons (pe_callG G_L_bent hr1 hgd (by rfl) T.g_L_bent T.k_L_bent b_L_bent .nil (takes_of rfl rfl rfl rfl) (pa_cons (pv 1) (pa_cons (pv 6) pa_nil))) pa_nil)))) (pg_name (i := 7) sc_law.nd rfl (Or.inl rfl)) (pss_one (ps_if (pt_cmpR op_ne (pe_callB (call_repr hr.units hgd) (by rfl) T.repr (by decide +kernel) (pa_cons (pe_callG G_L_read hr1 hgd (by rfl) T.g_L_read T.k_L_read b_L_read .nil (takes_of rfl rfl rfl rfl) (pa_cons (pv 7) pa_nil)) pa_nil)) (pe_callB (call_repr hr.units hgd) (by rfl) T.repr (by decide +kernel) (pa_cons (pe_callG G_L_due hr1 hgd (by rfl) T.g_L_due T.k_L_due b_L_due .nil (takes_of rfl rfl rfl rfl) (pa_cons (pv 7) pa_nil)) pa_nil)) (nomark _)) (pss_one (ps_ret pe_bl)) pss_nil)))))))))))
      (pss_one (ps_ret pe_bl))))), ?_⟩
    refine ⟨_, rfl, p0, script, rfl, hS, hl, fun H1 d c s1 hd hc D0 => ?_⟩
    refine ⟨rfl, fun H2 s2 => ⟨_, rfl, if_neg_of rfl ?_⟩⟩
    have D0 := D0.same s2
    refine ⟨3, rfl, by decide, by decide, for_range (n := 3) (fun i σ H' => ∃ u2 u3 u4 u5 u6 u7 : Option V, σ = [some (.ref p0), some (.ref d), u2, u3, u4, u5, u6, u7] ∧ Drawn H' d c (i * 200)) ⟨_, _, _, _, _, _, rfl, D0⟩ ?_ ?_⟩
    · rintro i σ H3 hi ⟨u2, u3, u4, u5, u6, u7, rfl, D3⟩
      -- some
      refine ⟨_, rfl, d, c, 41, i * 200, rfl, D3, by decide, by decide, by omega, fun m H4 hm b4 D4 => ?_⟩
      refine ⟨m, rfl, by omega, by omega, fun D hD => lc_it walk_range (fun j H' => Drawn H' d c (i * 200 + 1 + j) ∧ ∃ ns : List Nat, H' D = some (.lst (natsV ns)) ∧ ns.length = j ∧ ∀ n ∈ ns, n < 256) ?_ (fun _ _ _ _ => trivial) ?_ ?_⟩
      · exact ⟨D4.put (D4.away hD).1 (D4.away hD).2, [], upd_same, rfl, fun _ h => by cases h⟩
      · rintro j x H5 H6 hj ⟨D5, ns, e5, hlen, hn⟩ ⟨rfl, rfl⟩
        refine ⟨rfl, ?_⟩
        refine ⟨_, rfl, d, c, 256, i * 200 + 1 + j, rfl, D5, by decide, by decide, by omega, fun z H7 hz b7 D7 => ?_⟩
        have e7 : H7 D = some (.lst (natsV ns)) := b7 _ _ e5 (D4.away hD).1
        refine ⟨_, e7, by rw [sizeLine_eq]; simp only [natsV, List.length_map]; omega, ?_⟩
        refine ⟨D7.put (D4.away hD).1 (D4.away hD).2, ns ++ [z], ?_, by simp [hlen], fun n h => ?_⟩
        · rw [upd_same]
          unfold natsV
          rw [List.map_append]
          rfl
        · rcases List.mem_append.mp h with h | h
          · exact hn n h
          · rw [List.mem_singleton.mp h]
            exact hz
      rintro H5 ⟨D5, ns, e5, hlen, hn⟩
      have hlen : ns.length ≤ 40 := by omega
      have D5 : Drawn H5 d c (i * 200 + 41) := D5.mono (by omega)
      refine ⟨_, _, rfl, .inl ⟨SqL.of e5, fun p hp => ?_⟩⟩
      have D6 := D5.same (same_upd (o := .tup (natsV ns)) hp)
      have hT : SqT K (upd H5 p (.tup (natsV ns))) p (natsV ns) := SqT.of upd_same
      generalize upd H5 p (.tup (natsV ns)) = H6 at D6 hT
      -- due
      refine ⟨⟨_, rfl⟩, _, rfl, p, rfl, ⟨_, hT⟩, fun D' hD' => lc_tup (K := K) (a := p) (xs := natsV ns) (LcPv H6 D' fun i => ((ns.map piece).map V.str).take i) (lc_start hD' rfl) (fun i H' _ h => sqT_same h.1 hT) (fun i x H' hxi h => ?_) (fun H7 h => ?_)⟩
      · unfold natsV at hxi
        rw [List.getElem?_map] at hxi
        cases e : ns[i]? with
        | none =>
          rw [e] at hxi
          cases hxi
        | some n =>
          rw [e] at hxi
          have e2 : V.int (n : Nat) = x := Option.some.inj hxi
          subst e2
          have z := hn n (List.mem_of_getElem? e)
          refine ⟨rfl, ?_⟩
          refine ⟨_, rfl, _, _, rfl, rfl, ⟨by decide, by decide⟩, _, _, _, rfl, rfl, by decide +kernel, atI_hex (n := n / 16) (by omega) (by omega), ?_⟩
          refine ⟨_, rfl, _, _, rfl, rfl, (by show (0 : Int) < 16; decide), _, _, _, rfl, rfl, by decide +kernel, atI_hex (n := n % 16) (by omega) (by omega), ?_⟩
          refine ⟨_, _, rfl, rfl, by show 1 + 1 ≤ sizeLine; decide, ?_⟩
          refine lc_put h hD' (Same.refl _) (take_more ?_) ?_
          · rw [List.getElem?_map, List.getElem?_map, e]
            rfl
          · rw [List.length_take, List.length_map, List.length_map]
            omega
      have e : H7 D' = some (.lst (((ns.map piece).map V.str).take (natsV ns).length)) := h.2
      rw [List.take_of_length_le (by simp [natsV])] at e
      refine ⟨_, _, ns.map piece, rfl, rfl, .inl (SqL.of e), ?_, ?_⟩
      · rw [pieces_len]
        have e0 : Str.length "" = 0 := by decide +kernel
        rw [e0]
        omega
      rw [join_piece]
      have s7 := h.1
      have D7 := D6.same s7
      have hT7 : SqT K H7 p (natsV ns) := sqT_same s7 hT
      -- the texts, read back
      refine ⟨_, rfl, _, rfl, .inr ⟨ns, ⟨p, rfl, hT7, by omega, hn⟩, fun H8 s8 => ?_⟩⟩
      refine ⟨_, rfl, rfl, _, rfl, iteNS rfl ?_⟩
      refine ⟨_, rfl, _, rfl, .inr ⟨ns, ⟨p, rfl, sqT_same s8 hT7, by omega, hn⟩, fun H9 s9 => ?_⟩⟩
      refine ⟨_, rfl, rfl, _, rfl, iteNS rfl ?_⟩
      have hcl := hexCs_len ns
      refine ⟨_, rfl, _, some (hexCs ns), rfl, ⟨rfl, by omega⟩, fun H10 p10 s10 hA => ?_⟩
      have hA : SqT K H10 p10 (natsV ns) := ans_res hA (res_hex hn (by omega))
      have s11 := s8.trans (s9.trans s10)
      refine ⟨_, rfl, _, _, .tup hA (dp_nats ns), .tup (sqT_same s11 hT7) (dp_nats ns), shaped_tup _, shaped_tup _, _, rfl, ?_⟩
      rw [SeqAt.eqv_refl _ (SeqAt.canLay_of_shaped (shaped_tup ns))]
      refine iteF ?_
      have D10 := D7.same s11
      -- bent ones
      refine ⟨8, rfl, by decide, by decide, for_range (n := 8) (fun k σ H' => ∃ u2 u5 u6 u7 : Option V, σ = [some (.ref p0), some (.ref d), u2, some (.ref p), some (.str (hexText ns)), u5, u6, u7] ∧ Drawn H' d c (i * 200 + 41 + k * 10)) ⟨_, _, _, _, rfl, D10⟩ ?_ ?_⟩
      · rintro k σ H11 hk ⟨u2, u5, u6, u7, rfl, D11⟩
        refine ⟨_, rfl, _, rfl, d, c, hexCs ns, _, rfl, D11, by omega, by omega, fun z H12 hz b12 D12 => ?_⟩
        refine ⟨_, rfl, _, rfl, _, rfl, d, c, z.cps.toList, _, rfl, D12, ?_, by omega, fun z2 H13 hz2 b13 D13 => ?_⟩
        · have e1 : z.cps.toList.length = z.length := by
            show _ = z.cps.size
            simp
          omega
        have e1 : z.cps.toList.length = z.length := by
          show _ = z.cps.size
          simp
        refine ⟨by show 2 ≤ sizeLine; decide, fun t ht => ?_⟩
        have D14 := D13.same (same_upd (o := .tup [.str z, .str z2]) ht)
        have hT14 : SqT K (upd H13 t (.tup [.str z, .str z2])) t [.str z, .str z2] := SqT.of upd_same
        generalize upd H13 t (.tup [.str z, .str z2]) = H14 at D14 hT14
        have all2 : ∀ x ∈ [V.str z, .str z2], ∃ cs : List Nat, x = .str ⟨cs.toArray⟩ ∧ cs.length ≤ 1000000 := by
          intro x hx
          simp only [List.mem_cons, List.not_mem_nil, or_false] at hx
          obtain rfl | rfl := hx
          · exact txt_of z (by omega)
          · exact txt_of z2 (by omega)
        refine ⟨t, rfl, ⟨_, hT14⟩, for_it (walk_tup (K := K) (a := t) (xs := [.str z, .str z2])) (fun j σ H' => ∃ v7 : Option V, σ = [some (.ref p0), some (.ref d), u2, some (.ref p), some (.str (hexText ns)), some (.int (0 + (k : Int))), some (.str z), v7] ∧ Same H14 H') ⟨_, rfl, Same.refl _⟩ (fun _ _ _ _ ⟨_, _, s1⟩ => sqT_same s1 hT14) ?_ ?_⟩
        · rintro j x σ H15 H16 hj ⟨v7, rfl, s15⟩ ⟨rfl, hx⟩
          obtain ⟨cs, rfl, hcs⟩ := mem_at all2 hx
          have hok := okD_res hcs
          refine ⟨_, rfl, _, some cs, rfl, ⟨rfl, hcs⟩, fun H16 p2 s16 hA2 => ?_⟩
          have hA2 : ResAt K H16 p2 (res cs) := ans_res hA2 rfl
          refine ⟨_, resD (res cs), rfl, .inl hA2.dp, hok.1, hok.2.1, hok.2.2, ?_⟩
          refine ⟨_, rfl, cs, rfl, hcs, fun H17 p3 s17 hA3 => ?_⟩
          refine ⟨_, resD (res cs), rfl, .inl hA3.dp, hok.1, hok.2.1, hok.2.2, rfl, _, rfl, ?_⟩
          refine iteNS rfl ?_
          exact ⟨_, rfl, s15.trans (s16.trans s17)⟩
        · rintro σ H15 ⟨v7, rfl, s15⟩
          exact ⟨_, _, _, _, rfl, (D14.same s15).mono (by omega)⟩
      · rintro σ H11 ⟨u2, u5, u6, u7, rfl, D11⟩
        exact ⟨_, _, _, _, _, _, rfl, D11.mono (by omega)⟩
    · rintro σ H3 ⟨u2, u3, u4, u5, u6, u7, rfl, D3⟩
      exact q H3
end
end B59

set_option Elab.async false
set_option linter.all false
set_option maxRecDepth 100000
set_option maxHeartbeats 4000000
namespace B59
open PySem PySem.Spec PyProof.Rows L2 L2.BJ
open PySem.BJX (SxC SxInit SxS)
def tlV : List Value := [.type "ValueError", .type "Exception", .type "BaseException", .type "object"]
theorem refs_V (c : Addr) : PySem.BJX.refsT tlV (.ref c :: tlV) = true := (by decide +kernel : PySem.BJX.refsT tlV tlV = true)
/-- an error of the class at C is one of the class at S -/
theorem exm_sub {K : PySem.W.Frag} {C S : Addr} (h1 : PySem.W.subIn K (.ref S) (.type "BaseException") = some true) (h2 : PySem.W.isClsIn K S = true) (h3 : PySem.W.typeIn K (.ref S) = some (.type "type")) (h4 : PySem.W.subIn K (.ref C) (.ref S) = some true) :
    PySem.W.exmOne K (.ref C) (.ref S) = some true := by
  have e1 : (PySem.W.subIn K (.ref S) (.type "BaseException") == some true) = true := by rw [h1] <;> rfl
  have e2 : ((PySem.W.clsIn K S).isSome && PySem.W.typeIn K (.ref S) == some (.type "type")) = true := by
    have h2' : (PySem.W.clsIn K S).isSome = true := h2
    rw [h2', h3] <;> rfl
  unfold PySem.W.exmOne
  rw [if_pos e1]
  unfold PySem.W.kitCls
  exact (if_pos e2).trans h4
theorem sx_scope_S : SxS (defScope s_iS) := ⟨rfl, rfl, rfl, by decide +kernel, rfl, rfl, rfl, fun _ _ _ _ _ => rfl⟩
theorem sx_head_S (msg : Str) (q0 q1 q2 q3 q4 q5 : Pos) (h : (defBody s_iS).head? = some (PySem.BJX.iSup msg q0 q1 q2 q3 q4 q5)) : PySem.BJX.SxH (defScope s_iS) msg q0 q1 q2 q3 q4 := by
  cases h
  exact ⟨fun _ _ _ _ _ => ⟨_, rfl⟩, fun _ _ _ _ _ _ => rfl⟩
theorem sx_scope_T : SxS (defScope s_iT) := ⟨rfl, rfl, rfl, by decide +kernel, rfl, rfl, rfl, fun _ _ _ _ _ => rfl⟩
theorem sx_head_T (msg : Str) (q0 q1 q2 q3 q4 q5 : Pos) (h : (defBody s_iT).head? = some (PySem.BJX.iSup msg q0 q1 q2 q3 q4 q5)) : PySem.BJX.SxH (defScope s_iT) msg q0 q1 q2 q3 q4 := by
  cases h
  exact ⟨fun _ _ _ _ _ => ⟨_, rfl⟩, fun _ _ _ _ _ _ => rfl⟩
theorem init_S {w : World} {K : PySem.W.Frag} {mg : Str → Option Value} {C f : Addr} (T : SxC PySem.Challenge.pw_brinejar_k59_hexes K mg C f ["value"] (defArgs s_iS) (defBody s_iS) (defScope s_iS)) : SxInit PySem.Challenge.pw_brinejar_k59_hexes w K mg C f ["value"] :=
  PySem.BJX.sxinit1 T (by decide) (by decide +kernel) (fun _ _ _ _ _ _ _ us hl => match us, hl with | [_, _], _ => rfl)
theorem init_T {w : World} {K : PySem.W.Frag} {mg : Str → Option Value} {C f : Addr} (T : SxC PySem.Challenge.pw_brinejar_k59_hexes K mg C f ["offset"] (defArgs s_iT) (defBody s_iT) (defScope s_iT)) : SxInit PySem.Challenge.pw_brinejar_k59_hexes w K mg C f ["offset"] :=
  PySem.BJX.sxinit1 T (by decide) (by decide +kernel) (fun _ _ _ _ _ _ _ us hl => match us, hl with | [_, _], _ => rfl)

theorem kbind1 {K : PySem.W.Frag} {x q p : Str} {st : Stmt} {f : Addr} {fd : FuncData} (F : Fun K x q st f fd)
    (h0 : ∀ (kV doc pm : Value) (an : Option Addr) (cdv ct v : Value), bindArgs (PySem.W.fnOf x q (defArgs st) (defBody st) (defScope st) .none kV doc pm an cdv ct) ⟨[v], []⟩ = pure [(p, v)])
    (h1 : ∀ (kV doc pm : Value) (an : Option Addr) (cdv ct v : Value), bindArgs (PySem.W.fnOf x q (defArgs st) (defBody st) (defScope st) .none kV doc pm an cdv ct) ⟨[], [(p, v)]⟩ = pure [(p, v)]) : KBinds K fd [p] [p] (fun us ws => us ++ ws) (fun vs zs => vs ++ zs) := by
  obtain ⟨oc, od, kV, doc, pm, an, cdv, ct, osl, rfl, lk, hcd⟩ := F.ex
  refine ⟨fun s us ws _ hl => ?_, fun r z => r.append z⟩
  match us, ws, hl with
  | [u], [], _ => exact .of_eq (h0 _ _ _ _ _ _ u)
  | [], [w], _ => exact .of_eq (h1 _ _ _ _ _ _ w)

theorem all_mk {w : World} {K : PySem.W.Frag} {h : Heap} {mg : Str → Option Value} {fa : Addr} {A_JE A_IS A_IT A_iS A_iT A_ii A_io A_cs A_st A_rs A_lb A_lm A_ln A_lr A_ld A_lf A_lt A_lh A_lw : Addr} {A_tMO A_tDIG A_tMD : Tok} (X : K.In h) (G : h.Ns mainGlobals mg) (hfa : mg "law" = some (.ref fa))
    {od0 an0 : Option Addr} {sl0 : Array (Option Value)} {oc0 kV0 dc0 pm0 cd0 ct0 : Value}
    {od1 an1 : Option Addr} {sl1 : Array (Option Value)} {oc1 kV1 dc1 pm1 cd1 ct1 : Value}
    {od2 an2 : Option Addr} {sl2 : Array (Option Value)} {oc2 kV2 dc2 pm2 cd2 ct2 : Value}
    {od3 an3 : Option Addr} {sl3 : Array (Option Value)} {oc3 kV3 dc3 pm3 cd3 ct3 : Value}
    {od4 an4 : Option Addr} {sl4 : Array (Option Value)} {oc4 kV4 dc4 pm4 cd4 ct4 : Value}
    {od5 an5 : Option Addr} {sl5 : Array (Option Value)} {oc5 kV5 dc5 pm5 cd5 ct5 : Value}
    {od6 an6 : Option Addr} {sl6 : Array (Option Value)} {oc6 kV6 dc6 pm6 cd6 ct6 : Value}
    {od7 an7 : Option Addr} {sl7 : Array (Option Value)} {oc7 kV7 dc7 pm7 cd7 ct7 : Value}
    {od8 an8 : Option Addr} {sl8 : Array (Option Value)} {oc8 kV8 dc8 pm8 cd8 ct8 : Value}
    {od9 an9 : Option Addr} {sl9 : Array (Option Value)} {oc9 kV9 dc9 pm9 cd9 ct9 : Value}
    {od10 an10 : Option Addr} {sl10 : Array (Option Value)} {oc10 kV10 dc10 pm10 cd10 ct10 : Value}
    {od11 an11 : Option Addr} {sl11 : Array (Option Value)} {oc11 kV11 dc11 pm11 cd11 ct11 : Value}
    {od12 an12 : Option Addr} {sl12 : Array (Option Value)} {oc12 kV12 dc12 pm12 cd12 ct12 : Value}
    {od13 an13 : Option Addr} {sl13 : Array (Option Value)} {oc13 kV13 dc13 pm13 cd13 ct13 : Value}
    {qS qqS : Str} {nmS : Str} {NS : Addr} {bsS : List Value} {snS : List Str} {subS : List Value} {abS : Bool} {colS : Option Bool} {ddS : Option Addr} {m0S m1S m2S m3S m5S : Option Value}
    {ocIS dcIS pmIS ctIS cclIS clIS : Value} {odIS anIS cddIS cldIS : Option Addr} {cdaIS ccIS : Addr} {oslIS ccsIS cslIS : Array (Option Value)} {vsIS : Array Value} {fileS : Str} {tfS : Tok}
    {qT qqT : Str} {nmT : Str} {NT : Addr} {bsT : List Value} {snT : List Str} {subT : List Value} {abT : Bool} {colT : Option Bool} {ddT : Option Addr} {m0T m1T m2T m3T m5T : Option Value}
    {ocIT dcIT pmIT ctIT cclIT clIT : Value} {odIT anIT cddIT cldIT : Option Addr} {cdaIT ccIT : Addr} {oslIT ccsIT cslIT : Array (Option Value)} {vsIT : Array Value} {fileT : Str} {tfT : Tok}
    (a0 : PySem.W.nsIn K mainGlobals "is_integer" = some (some (.ref A_ii)))
    (l0 : K.lookup A_ii = some ⟨oc0, od0, .func (PySem.W.fnOf "is_integer" "is_integer" (defArgs s_is_integer) (defBody s_is_integer) (defScope s_is_integer) .none kV0 dc0 pm0 an0 cd0 ct0), sl0⟩)
    (c0 : PySem.W.codeIn K cd0 "is_integer" = true)
    (k0 : PySem.W.keepIn K (.ref A_ii) = true)
    (a1 : PySem.W.nsIn K mainGlobals "is_octet" = some (some (.ref A_io)))
    (l1 : K.lookup A_io = some ⟨oc1, od1, .func (PySem.W.fnOf "is_octet" "is_octet" (defArgs s_is_octet) (defBody s_is_octet) (defScope s_is_octet) .none kV1 dc1 pm1 an1 cd1 ct1), sl1⟩)
    (c1 : PySem.W.codeIn K cd1 "is_octet" = true)
    (k1 : PySem.W.keepIn K (.ref A_io) = true)
    (a2 : PySem.W.nsIn K mainGlobals "check_stream" = some (some (.ref A_cs)))
    (l2 : K.lookup A_cs = some ⟨oc2, od2, .func (PySem.W.fnOf "check_stream" "check_stream" (defArgs s_check_stream) (defBody s_check_stream) (defScope s_check_stream) .none kV2 dc2 pm2 an2 cd2 ct2), sl2⟩)
    (c2 : PySem.W.codeIn K cd2 "check_stream" = true)
    (k2 : PySem.W.keepIn K (.ref A_cs) = true)
    (a3 : PySem.W.nsIn K mainGlobals "stream_text" = some (some (.ref A_st)))
    (l3 : K.lookup A_st = some ⟨oc3, od3, .func (PySem.W.fnOf "stream_text" "stream_text" (defArgs s_stream_text) (defBody s_stream_text) (defScope s_stream_text) .none kV3 dc3 pm3 an3 cd3 ct3), sl3⟩)
    (c3 : PySem.W.codeIn K cd3 "stream_text" = true)
    (k3 : PySem.W.keepIn K (.ref A_st) = true)
    (a4 : PySem.W.nsIn K mainGlobals "read_stream" = some (some (.ref A_rs)))
    (l4 : K.lookup A_rs = some ⟨oc4, od4, .func (PySem.W.fnOf "read_stream" "read_stream" (defArgs s_read_stream) (defBody s_read_stream) (defScope s_read_stream) .none kV4 dc4 pm4 an4 cd4 ct4), sl4⟩)
    (c4 : PySem.W.codeIn K cd4 "read_stream" = true)
    (k4 : PySem.W.keepIn K (.ref A_rs) = true)
    (a5 : PySem.W.nsIn K mainGlobals "_law_begin" = some (some (.ref A_lb)))
    (l5 : K.lookup A_lb = some ⟨oc5, od5, .func (PySem.W.fnOf "_law_begin" "_law_begin" (defArgs s_L_begin) (defBody s_L_begin) (defScope s_L_begin) .none kV5 dc5 pm5 an5 cd5 ct5), sl5⟩)
    (c5 : PySem.W.codeIn K cd5 "_law_begin" = true)
    (k5 : PySem.W.keepIn K (.ref A_lb) = true)
    (a6 : PySem.W.nsIn K mainGlobals "_law_mixed" = some (some (.ref A_lm)))
    (l6 : K.lookup A_lm = some ⟨oc6, od6, .func (PySem.W.fnOf "_law_mixed" "_law_mixed" (defArgs s_L_mixed) (defBody s_L_mixed) (defScope s_L_mixed) .none kV6 dc6 pm6 an6 cd6 ct6), sl6⟩)
    (c6 : PySem.W.codeIn K cd6 "_law_mixed" = true)
    (k6 : PySem.W.keepIn K (.ref A_lm) = true)
    (a7 : PySem.W.nsIn K mainGlobals "_law_next" = some (some (.ref A_ln)))
    (l7 : K.lookup A_ln = some ⟨oc7, od7, .func (PySem.W.fnOf "_law_next" "_law_next" (defArgs s_L_next) (defBody s_L_next) (defScope s_L_next) .none kV7 dc7 pm7 an7 cd7 ct7), sl7⟩)
    (c7 : PySem.W.codeIn K cd7 "_law_next" = true)
    (k7 : PySem.W.keepIn K (.ref A_ln) = true)
    (a8 : PySem.W.nsIn K mainGlobals "_law_read" = some (some (.ref A_lr)))
    (l8 : K.lookup A_lr = some ⟨oc8, od8, .func (PySem.W.fnOf "_law_read" "_law_read" (defArgs s_L_read) (defBody s_L_read) (defScope s_L_read) .none kV8 dc8 pm8 an8 cd8 ct8), sl8⟩)
    (c8 : PySem.W.codeIn K cd8 "_law_read" = true)
    (k8 : PySem.W.keepIn K (.ref A_lr) = true)
    (a9 : PySem.W.nsIn K mainGlobals "_law_due" = some (some (.ref A_ld)))
    (l9 : K.lookup A_ld = some ⟨oc9, od9, .func (PySem.W.fnOf "_law_due" "_law_due" (defArgs s_L_due) (defBody s_L_due) (defScope s_L_due) .none kV9 dc9 pm9 an9 cd9 ct9), sl9⟩)
    (c9 : PySem.W.codeIn K cd9 "_law_due" = true)
    (k9 : PySem.W.keepIn K (.ref A_ld) = true)
    (a10 : PySem.W.nsIn K mainGlobals "_law_refused" = some (some (.ref A_lf)))
    (l10 : K.lookup A_lf = some ⟨oc10, od10, .func (PySem.W.fnOf "_law_refused" "_law_refused" (defArgs s_L_refused) (defBody s_L_refused) (defScope s_L_refused) .none kV10 dc10 pm10 an10 cd10 ct10), sl10⟩)
    (c10 : PySem.W.codeIn K cd10 "_law_refused" = true)
    (k10 : PySem.W.keepIn K (.ref A_lf) = true)
    (a11 : PySem.W.nsIn K mainGlobals "_law_bent" = some (some (.ref A_lt)))
    (l11 : K.lookup A_lt = some ⟨oc11, od11, .func (PySem.W.fnOf "_law_bent" "_law_bent" (defArgs s_L_bent) (defBody s_L_bent) (defScope s_L_bent) .none kV11 dc11 pm11 an11 cd11 ct11), sl11⟩)
    (c11 : PySem.W.codeIn K cd11 "_law_bent" = true)
    (k11 : PySem.W.keepIn K (.ref A_lt) = true)
    (a12 : PySem.W.nsIn K mainGlobals "_law_by_hand_right" = some (some (.ref A_lh)))
    (l12 : K.lookup A_lh = some ⟨oc12, od12, .func (PySem.W.fnOf "_law_by_hand_right" "_law_by_hand_right" (defArgs s_L_by_hand_right) (defBody s_L_by_hand_right) (defScope s_L_by_hand_right) .none kV12 dc12 pm12 an12 cd12 ct12), sl12⟩)
    (c12 : PySem.W.codeIn K cd12 "_law_by_hand_right" = true)
    (k12 : PySem.W.keepIn K (.ref A_lh) = true)
    (a13 : PySem.W.nsIn K mainGlobals "law" = some (some (.ref A_lw)))
    (l13 : K.lookup A_lw = some ⟨oc13, od13, .func (PySem.W.fnOf "law" "law" (defArgs s_law) (defBody s_law) (defScope s_law) .none kV13 dc13 pm13 an13 cd13 ct13), sl13⟩)
    (c13 : PySem.W.codeIn K cd13 "law" = true)
    (k13 : PySem.W.keepIn K (.ref A_lw) = true)
    (z_isinstance : PySem.W.nsIn K mainGlobals "isinstance" = some none)
    (z_int : PySem.W.nsIn K mainGlobals "int" = some none)
    (z_bool : PySem.W.nsIn K mainGlobals "bool" = some none)
    (z_tuple : PySem.W.nsIn K mainGlobals "tuple" = some none)
    (z_str : PySem.W.nsIn K mainGlobals "str" = some none)
    (z_len : PySem.W.nsIn K mainGlobals "len" = some none)
    (z_all : PySem.W.nsIn K mainGlobals "all" = some none)
    (z_enumerate : PySem.W.nsIn K mainGlobals "enumerate" = some none)
    (z_range : PySem.W.nsIn K mainGlobals "range" = some none)
    (z_zip : PySem.W.nsIn K mainGlobals "zip" = some none)
    (z_repr : PySem.W.nsIn K mainGlobals "repr" = some none)
    (gMO : PySem.W.nsIn K mainGlobals "MOST_OCTETS" = some (some (.int 50000 A_tMO)))
    (gDIG : PySem.W.nsIn K mainGlobals "DIGITS" = some (some (.str "0123456789abcdef" A_tDIG)))
    (gMD : PySem.W.nsIn K mainGlobals "MOST_DIGITS" = some (some (.int 100000 A_tMD)))
    (gJE : PySem.W.nsIn K mainGlobals "JarError" = some (some (.ref A_JE)))
    (eJE : PySem.W.subIn K (.ref A_JE) (.type "BaseException") = some true)
    (z_super : PySem.W.nsIn K mainGlobals "super" = some none)
    (opq : PySem.W.nsIn K cStatics "thirdparty.any" = some none)
    (cln : PySem.W.specialIn K (.builtin "object.__class__") "__get__" = some (some (.builtin "getset_descriptor.__get__")))
    (clt : PySem.W.takesIn K (.builtin "object.__class__") = some true)
    (iJE : PySem.W.isClsIn K A_JE = true)
    (tJE : PySem.W.typeIn K (.ref A_JE) = some (.type "type"))
    (gS : PySem.W.nsIn K mainGlobals "InvalidStream" = some (some (.ref A_IS)))
    (xLS : K.lookup A_IS = some (excClassObj nmS qS A_IS NS bsS [.ref A_JE, .type "ValueError", .type "Exception", .type "BaseException", .type "object"] true snS subS abS colS ddS m0S m1S m2S m3S m5S "ValueError.__new__"))
    (suS : PySem.W.ks_superIn K A_IS A_IS "__init__" = some (some (.builtin "ValueError.__init__")))
    (sbS : PySem.W.subIn K (.ref A_IS) (.type "ValueError") = some true)
    (saS : PySem.W.findIn K (.ref A_IS) "__setattr__" = some (some (.builtin "object.__setattr__")))
    (nfS : PySem.W.findIn K (.ref A_IS) "value" = some none)
    (inS : PySem.W.findIn K (.ref A_IS) "__init__" = some (some (.ref A_iS)))
    (tiS : PySem.W.typeIn K (.ref A_iS) = some (.type "function"))
    (kcS : PySem.W.keepIn K (.ref A_IS) = true)
    (exS : PySem.W.subIn K (.ref A_IS) (.type "BaseException") = some true)
    (tyS : PySem.W.typeIn K (.ref A_IS) = some (.type "type"))
    (mrS : PySem.W.mroIn K A_IS (.ref A_IS) = some true)
    (moS : PySem.W.mroIn K A_IS (.type "object") = some true)
    (gaS : PySem.W.findIn K (.ref A_IS) "__getattribute__" = some (some (.builtin "BaseException.__getattribute__")))
    (ggS : PySem.W.findIn K (.ref A_IS) "__getattr__" = some none)
    (hdS : PySem.W.hasDictIn K A_IS = true)
    (ccS : PySem.W.findIn K (.ref A_IS) "__class__" = some (some (.builtin "object.__class__")))
    (icS : PySem.W.isClsIn K A_IS = true)
    (sjS : PySem.W.subIn K (.ref A_IS) (.ref A_JE) = some true)
    (fnS : K.lookup A_iS = some ⟨ocIS, odIS, .func (PySem.W.ksFn "__init__" qqS (defArgs s_iS) (defBody s_iS) (defScope s_iS) .none .none dcIS pmIS anIS (.ref cdaIS) ctIS ccIS), oslIS⟩)
    (cdS : PySem.W.codeIn K (.ref cdaIS) qqS = true)
    (coS : K.lookup cdaIS = some ⟨cclIS, cddIS, .fields vsIS, ccsIS⟩)
    (fiS : vsIS[2]? = some (.str fileS tfS))
    (flS : ((PySem.Challenge.pw_brinejar_k59_hexes.main.file : Str) == fileS) = true)
    (ceS : K.lookup ccIS = some ⟨clIS, cldIS, .cell (some (.ref A_IS)), cslIS⟩)
    (gT : PySem.W.nsIn K mainGlobals "InvalidText" = some (some (.ref A_IT)))
    (xLT : K.lookup A_IT = some (excClassObj nmT qT A_IT NT bsT [.ref A_JE, .type "ValueError", .type "Exception", .type "BaseException", .type "object"] true snT subT abT colT ddT m0T m1T m2T m3T m5T "ValueError.__new__"))
    (suT : PySem.W.ks_superIn K A_IT A_IT "__init__" = some (some (.builtin "ValueError.__init__")))
    (sbT : PySem.W.subIn K (.ref A_IT) (.type "ValueError") = some true)
    (saT : PySem.W.findIn K (.ref A_IT) "__setattr__" = some (some (.builtin "object.__setattr__")))
    (nfT : PySem.W.findIn K (.ref A_IT) "offset" = some none)
    (inT : PySem.W.findIn K (.ref A_IT) "__init__" = some (some (.ref A_iT)))
    (tiT : PySem.W.typeIn K (.ref A_iT) = some (.type "function"))
    (kcT : PySem.W.keepIn K (.ref A_IT) = true)
    (exT : PySem.W.subIn K (.ref A_IT) (.type "BaseException") = some true)
    (tyT : PySem.W.typeIn K (.ref A_IT) = some (.type "type"))
    (mrT : PySem.W.mroIn K A_IT (.ref A_IT) = some true)
    (moT : PySem.W.mroIn K A_IT (.type "object") = some true)
    (gaT : PySem.W.findIn K (.ref A_IT) "__getattribute__" = some (some (.builtin "BaseException.__getattribute__")))
    (ggT : PySem.W.findIn K (.ref A_IT) "__getattr__" = some none)
    (hdT : PySem.W.hasDictIn K A_IT = true)
    (ccT : PySem.W.findIn K (.ref A_IT) "__class__" = some (some (.builtin "object.__class__")))
    (icT : PySem.W.isClsIn K A_IT = true)
    (sjT : PySem.W.subIn K (.ref A_IT) (.ref A_JE) = some true)
    (fnT : K.lookup A_iT = some ⟨ocIT, odIT, .func (PySem.W.ksFn "__init__" qqT (defArgs s_iT) (defBody s_iT) (defScope s_iT) .none .none dcIT pmIT anIT (.ref cdaIT) ctIT ccIT), oslIT⟩)
    (cdT : PySem.W.codeIn K (.ref cdaIT) qqT = true)
    (coT : K.lookup cdaIT = some ⟨cclIT, cddIT, .fields vsIT, ccsIT⟩)
    (fiT : vsIT[2]? = some (.str fileT tfT))
    (flT : ((PySem.Challenge.pw_brinejar_k59_hexes.main.file : Str) == fileT) = true)
    (ceT : K.lookup ccIT = some ⟨clIT, cldIT, .cell (some (.ref A_IT)), cslIT⟩) :
    ∃ fd : FuncData, (∀ (s : Shared) (u : Value), BindsTo s fd ⟨[u], []⟩ [("script", u)]) ∧ ∀ base : Heap, K.In base → base.Ns mainGlobals mg → FnG PySem.Challenge.pw_brinejar_k59_hexes w K mg base 7 fa fd ["script"] (sp_law K) := by
  have e := hfa.symm.trans (PySem.W.mg_of X G a13)
  cases e
  have xS : SxC PySem.Challenge.pw_brinejar_k59_hexes K mg A_IS A_iS ["value"] (defArgs s_iS) (defBody s_iS) (defScope s_iS) :=
    { fam := ⟨_, _, _, _, PySem.BJX.famV, ⟨_, _, _, _, _, _, _, _, _, _, _, _, _, _, _, xLS, refs_V _⟩, suS, sbS⟩, sa := saS, noF := fun f hf => (by rw [List.mem_singleton.mp hf]; exact nfS), iC := inS, tI := tiS, kC := kcS, exC := exS, tyC := tyS, sC := mrS, opq := opq, sup := PySem.W.mg_none_of X G z_super, top := by decide +kernel,
      fn := ⟨_, _, _, _, _, _, _, _, _, _, _, _, _, _, _, _, _, _, _, fnS, cdS, coS, fiS, flS, ceS⟩, sc := sx_scope_S, sh := sx_head_S, scf := fun f hf => (by rw [List.mem_singleton.mp hf]; rfl) }
  have xT : SxC PySem.Challenge.pw_brinejar_k59_hexes K mg A_IT A_iT ["offset"] (defArgs s_iT) (defBody s_iT) (defScope s_iT) :=
    { fam := ⟨_, _, _, _, PySem.BJX.famV, ⟨_, _, _, _, _, _, _, _, _, _, _, _, _, _, _, xLT, refs_V _⟩, suT, sbT⟩, sa := saT, noF := fun f hf => (by rw [List.mem_singleton.mp hf]; exact nfT), iC := inT, tI := tiT, kC := kcT, exC := exT, tyC := tyT, sC := mrT, opq := opq, sup := PySem.W.mg_none_of X G z_super, top := by decide +kernel,
      fn := ⟨_, _, _, _, _, _, _, _, _, _, _, _, _, _, _, _, _, _, _, fnT, cdT, coT, fiT, flT, ceT⟩, sc := sx_scope_T, sh := sx_head_T, scf := fun f hf => (by rw [List.mem_singleton.mp hf]; rfl) }
  have T : Txt PySem.Challenge.pw_brinejar_k59_hexes w K mg (⟨A_JE, A_IS, A_IT, A_iS, A_iT, A_ii, A_io, A_cs, A_st, A_rs, A_lb, A_lm, A_ln, A_lr, A_ld, A_lf, A_lt, A_lh, fa, A_tMO, A_tDIG, A_tMD⟩ : Ad) := { isinstance := PySem.W.mg_none_of X G z_isinstance, int := PySem.W.mg_none_of X G z_int, bool := PySem.W.mg_none_of X G z_bool, tuple := PySem.W.mg_none_of X G z_tuple, str := PySem.W.mg_none_of X G z_str, len := PySem.W.mg_none_of X G z_len, all := PySem.W.mg_none_of X G z_all, enumerate := PySem.W.mg_none_of X G z_enumerate, range := PySem.W.mg_none_of X G z_range, zip := PySem.W.mg_none_of X G z_zip, repr := PySem.W.mg_none_of X G z_repr, gMO := PySem.W.mg_of X G gMO, gDIG := PySem.W.mg_of X G gDIG, gMD := PySem.W.mg_of X G gMD, gJE := PySem.W.mg_of X G gJE, gIS := PySem.W.mg_of X G gS, gIT := PySem.W.mg_of X G gT, xS := xS, xT := xT, zS := init_S xS, zT := init_T xT, eS := exm_sub eJE iJE tJE sjS, eT := exm_sub eJE iJE tJE sjT, cS := ⟨gaS, ggS, exS, hdS, ccS, cln, clt, moS⟩, cT := ⟨gaT, ggT, exT, hdT, ccT, cln, clt, moT⟩, fT := nfT, fS := nfS, kTT := if_pos (beq_self_eq_true _), kSS := if_pos (beq_self_eq_true _), g_is_integer := PySem.W.mg_of X G a0, k_is_integer := k0, g_is_octet := PySem.W.mg_of X G a1, k_is_octet := k1, g_check_stream := PySem.W.mg_of X G a2, k_check_stream := k2, g_stream_text := PySem.W.mg_of X G a3, k_stream_text := k3, g_read_stream := PySem.W.mg_of X G a4, k_read_stream := k4, g_L_begin := PySem.W.mg_of X G a5, k_L_begin := k5, g_L_mixed := PySem.W.mg_of X G a6, k_L_mixed := k6, g_L_next := PySem.W.mg_of X G a7, k_L_next := k7, g_L_read := PySem.W.mg_of X G a8, k_L_read := k8, g_L_due := PySem.W.mg_of X G a9, k_L_due := k9, g_L_refused := PySem.W.mg_of X G a10, k_L_refused := k10, g_L_bent := PySem.W.mg_of X G a11, k_L_bent := k11, g_L_by_hand_right := PySem.W.mg_of X G a12, k_L_by_hand_right := k12 }
  have F0 := fun_mk (st := s_is_integer) l0 c0 k0
  have b0 := F0.binds (ps := ["thing"]) fun _ _ _ _ _ _ us hl => match us, hl with | [_], _ => rfl
  have F1 := fun_mk (st := s_is_octet) l1 c1 k1
  have b1 := F1.binds (ps := ["thing"]) fun _ _ _ _ _ _ us hl => match us, hl with | [_], _ => rfl
  have F2 := fun_mk (st := s_check_stream) l2 c2 k2
  have b2 := F2.binds (ps := ["stream"]) fun _ _ _ _ _ _ us hl => match us, hl with | [_], _ => rfl
  have F3 := fun_mk (st := s_stream_text) l3 c3 k3
  have b3 := F3.binds (ps := ["stream"]) fun _ _ _ _ _ _ us hl => match us, hl with | [_], _ => rfl
  have F4 := fun_mk (st := s_read_stream) l4 c4 k4
  have b4 := F4.binds (ps := ["text"]) fun _ _ _ _ _ _ us hl => match us, hl with | [_], _ => rfl
  have F5 := fun_mk (st := s_L_begin) l5 c5 k5
  have b5 := F5.binds (ps := ["script"]) fun _ _ _ _ _ _ us hl => match us, hl with | [_], _ => rfl
  have F6 := fun_mk (st := s_L_mixed) l6 c6 k6
  have b6 := F6.binds (ps := ["cell", "k"]) fun _ _ _ _ _ _ us hl => match us, hl with | [_, _], _ => rfl
  have F7 := fun_mk (st := s_L_next) l7 c7 k7
  have b7 := F7.binds (ps := ["draw", "bound"]) fun _ _ _ _ _ _ us hl => match us, hl with | [_, _], _ => rfl
  have F8 := fun_mk (st := s_L_read) l8 c8 k8
  have b8 := F8.binds (ps := ["thing"]) fun _ _ _ _ _ _ us hl => match us, hl with | [_], _ => rfl
  have F9 := fun_mk (st := s_L_due) l9 c9 k9
  have b9 := F9.binds (ps := ["told"]) fun _ _ _ _ _ _ us hl => match us, hl with | [_], _ => rfl
  have F10 := fun_mk (st := s_L_refused) l10 c10 k10
  have b10 := F10.binds (ps := ["thing"]) fun _ _ _ _ _ _ us hl => match us, hl with | [_], _ => rfl
  have F11 := fun_mk (st := s_L_bent) l11 c11 k11
  have b11 := F11.binds (ps := ["draw", "told"]) fun _ _ _ _ _ _ us hl => match us, hl with | [_, _], _ => rfl
  have F12 := fun_mk (st := s_L_by_hand_right) l12 c12 k12
  have b12 := F12.binds (ps := []) fun _ _ _ _ _ _ us hl => match us, hl with | [], _ => rfl
  have F13 := fun_mk (st := s_law) l13 c13 k13
  have kb_stream_text := kbind1 (p := "stream") F3 (fun _ _ _ _ _ _ _ => rfl) (fun _ _ _ _ _ _ _ => rfl)
  have kb_read_stream := kbind1 (p := "text") F4 (fun _ _ _ _ _ _ _ => rfl) (fun _ _ _ _ _ _ _ => rfl)
  refine ⟨PySem.W.fnOf "law" "law" (defArgs s_law) (defBody s_law) (defScope s_law) .none kV13 dc13 pm13 an13 cd13 ct13, fun s v => .of_eq rfl, fun base _ _ => ?_⟩
  have G0 : FnG PySem.Challenge.pw_brinejar_k59_hexes w K mg base 1 A_ii _ ["thing"] (sp_is_integer K) := ok_is_integer F0 T
  have G1 := ok_is_octet F1 T G0 b0
  have G2 := ok_check_stream F2 T G1 b1
  have G3 := ok_stream_text F3 T G2 b2
  have G4 : FnG PySem.Challenge.pw_brinejar_k59_hexes w K mg base 3 A_rs _ ["text"] (sp_read_stream K A_IT) := ok_read_stream F4 T
  have G5 : FnG PySem.Challenge.pw_brinejar_k59_hexes w K mg base 1 A_lb _ ["script"] (sp_L_begin K) := ok_L_begin F5 T
  have G6 : FnG PySem.Challenge.pw_brinejar_k59_hexes w K mg base 1 A_lm _ ["cell", "k"] sp_L_mixed := ok_L_mixed F6 T
  have G7 := ok_L_next F7 T G6 b6
  have G8 := ok_L_read F8 T G4 b4
  have G9 : FnG PySem.Challenge.pw_brinejar_k59_hexes w K mg base 1 A_ld _ ["told"] (sp_L_due K) := ok_L_due F9 T
  have G10 := ok_L_refused F10 T G3 b3
  have G11 := ok_L_bent F11 T G7 b7
  have G12 := ok_L_by_hand_right F12 T G8 b8 G9 b9 G3 b3 G4 kb_read_stream G10 b10
  exact ok_law F13 T G8 b8 G9 b9 G3 b3 kb_stream_text G5 b5 G7 b7 G11 b11 G12 b12
end B59

open PySem PySem.W PyProof.Rows
set_option maxRecDepth 100000 in
set_option maxHeartbeats 0 in
theorem PySem.Challenge.cw_brinejar_k59_hexes_holds : PySem.Challenge.rw_brinejar_k59_hexes.Holds := by
  w_on; o_law; k_head; (case hw => w_witness2)
  k_fill
  refine L2.BJ.walk_ofG (l := PySem.Challenge.rw_brinejar_k59_hexes) (n := 63) (k := 7) (x := "script") (sp := fun w => B59.sp_law _) rfl (by decide) rfl ⟨rfl, by decide, by decide⟩ (fun w h Y => PySem.W.kIn_of Y) ?F (fun _ _ a ns hl _ hS => ⟨a, ns, rfl, hS, hl, fun _ => rfl⟩)
  case F =>
    intro w mg fa h KX G hmg
    refine' B59.all_mk KX G hmg ?a0 ?l0 ?c0 ?k0 ?a1 ?l1 ?c1 ?k1 ?a2 ?l2 ?c2 ?k2 ?a3 ?l3 ?c3 ?k3 ?a4 ?l4 ?c4 ?k4 ?a5 ?l5 ?c5 ?k5 ?a6 ?l6 ?c6 ?k6 ?a7 ?l7 ?c7 ?k7 ?a8 ?l8 ?c8 ?k8 ?a9 ?l9 ?c9 ?k9 ?a10 ?l10 ?c10 ?k10 ?a11 ?l11 ?c11 ?k11 ?a12 ?l12 ?c12 ?k12 ?a13 ?l13 ?c13 ?k13 ?z_isinstance ?z_int ?z_bool ?z_tuple ?z_str ?z_len ?z_all ?z_enumerate ?z_range ?z_zip ?z_repr ?gMO ?gDIG ?gMD ?gJE ?eJE ?z_super ?opq ?cln ?clt ?iJE ?tJE ?gS ?xLS ?suS ?sbS ?saS ?nfS ?inS ?tiS ?kcS ?exS ?tyS ?mrS ?moS ?gaS ?ggS ?hdS ?ccS ?icS ?sjS ?fnS ?cdS ?coS ?fiS ?flS ?ceS ?gT ?xLT ?suT ?sbT ?saT ?nfT ?inT ?tiT ?kcT ?exT ?tyT ?mrT ?moT ?gaT ?ggT ?hdT ?ccT ?icT ?sjT ?fnT ?cdT ?coT ?fiT ?flT ?ceT
    (case a0 => k_is)
    (case l0 => k_is)
    (case c0 => k_is)
    (case k0 => k_is)
    (case a1 => k_is)
    (case l1 => k_is)
    (case c1 => k_is)
    (case k1 => k_is)
    (case a2 => k_is)
    (case l2 => k_is)
    (case c2 => k_is)
    (case k2 => k_is)
    (case a3 => k_is)
    (case l3 => k_is)
    (case c3 => k_is)
    (case k3 => k_is)
    (case a4 => k_is)
    (case l4 => k_is)
    (case c4 => k_is)
    (case k4 => k_is)
    (case a5 => k_is)
    (case l5 => k_is)
    (case c5 => k_is)
    (case k5 => k_is)
    (case a6 => k_is)
    (case l6 => k_is)
    (case c6 => k_is)
    (case k6 => k_is)
    (case a7 => k_is)
    (case l7 => k_is)
    (case c7 => k_is)
    (case k7 => k_is)
    (case a8 => k_is)
    (case l8 => k_is)
    (case c8 => k_is)
    (case k8 => k_is)
    (case a9 => k_is)
    (case l9 => k_is)
    (case c9 => k_is)
    (case k9 => k_is)
    (case a10 => k_is)
    (case l10 => k_is)
    (case c10 => k_is)
    (case k10 => k_is)
    (case a11 => k_is)
    (case l11 => k_is)
    (case c11 => k_is)
    (case k11 => k_is)
    (case a12 => k_is)
    (case l12 => k_is)
    (case c12 => k_is)
    (case k12 => k_is)
    (case a13 => k_is)
    (case l13 => k_is)
    (case c13 => k_is)
    (case k13 => k_is)
    (case z_isinstance => k_is)
    (case z_int => k_is)
    (case z_bool => k_is)
    (case z_tuple => k_is)
    (case z_str => k_is)
    (case z_len => k_is)
    (case z_all => k_is)
    (case z_enumerate => k_is)
    (case z_range => k_is)
    (case z_zip => k_is)
    (case z_repr => k_is)
    (case gMO => k_is)
    (case gDIG => k_is)
    (case gMD => k_is)
    (case gJE => k_is)
    (case eJE => k_is)
    (case z_super => k_is)
    (case opq => k_is)
    (case cln => k_is)
    (case clt => k_is)
    (case iJE => k_is)
    (case tJE => k_is)
    (case gS => k_is)
    (case xLS => k_is)
    (case suS => ks_is)
    (case sbS => k_is)
    (case saS => k_is)
    (case nfS => k_is)
    (case inS => k_is)
    (case tiS => k_is)
    (case kcS => k_is)
    (case exS => k_is)
    (case tyS => k_is)
    (case mrS => k_is)
    (case moS => k_is)
    (case gaS => k_is)
    (case ggS => k_is)
    (case hdS => k_is)
    (case ccS => k_is)
    (case icS => k_is)
    (case sjS => k_is)
    (case fnS => k_is)
    (case cdS => k_is)
    (case coS => k_is)
    (case fiS => exact rfl)
    (case flS => decide +kernel)
    (case ceS => k_is)
    (case gT => k_is)
    (case xLT => k_is)
    (case suT => ks_is)
    (case sbT => k_is)
    (case saT => k_is)
    (case nfT => k_is)
    (case inT => k_is)
    (case tiT => k_is)
    (case kcT => k_is)
    (case exT => k_is)
    (case tyT => k_is)
    (case mrT => k_is)
    (case moT => k_is)
    (case gaT => k_is)
    (case ggT => k_is)
    (case hdT => k_is)
    (case ccT => k_is)
    (case icT => k_is)
    (case sjT => k_is)
    (case fnT => k_is)
    (case cdT => k_is)
    (case coT => k_is)
    (case fiT => exact rfl)
    (case flT => decide +kernel)
    (case ceT => k_is)
#print axioms PySem.Challenge.cw_brinejar_k59_hexes_holds
