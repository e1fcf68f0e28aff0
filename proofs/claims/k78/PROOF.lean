import PyProof.Rows.All
import Wide.All
import OpenK.AllK
import Wide.FinOn
import KE.KSuper
import HandS.ForExc
import HandS.ExcSuper
import HandS.ExcInit
import HandS.ExcField
import HandS.TryMany
import KE.GoesEnum
import HandS.ForMost
import HandS.Zip
import HandS.Conv
import KE.KDictKeyed
import KE.KItemsList
import HandS.DictComp
import KE.KDictCopyH
import HandS.SortInts
import HandS.SortRule
import PyProof.InstEq
import HandS.OwnEq
import HandS.Sort
import HandS.IsInst
import HandS.Defaults
import HandS.HeadHook2
import HandS.Codes
import HandS.TupAny
import HandS.HotCalls
import KE.KStateDown
import Lean
import HandS.Base
import HandS.Call
import HandS.Ends
import HandS.More
import HandS.Words
import HandS.WordsExc
import HandS.Head0
import HandS.Head1
import HandS.Head2
import HandS.HeadEnd
import HandS.HeadHook1
import HandS.TupSets
import HandS.TupLen
import PySem.Challenge.RW_heldoroff_k78_whole_bodies_made_from_gap
set_option Elab.async false
set_option linter.all false
set_option maxRecDepth 100000
set_option maxHeartbeats 4000000
/-! HKErr: errors of the shape  class X(B): def __init__(self, f): super().__init__(e); self.f = f  with class B(Exception): pass. -/
namespace PySem
namespace HKErr
open PySem.W PySem.Calls PyProof.Rows
/-- the mro of such a class behind the class itself -/
abbrev tl (B : Addr) : List Value := .ref B :: ESX.exTail
/-- the texts -/
abbrev iB (f : Str) (e : Expr) (q1 q2 q3 q4 q5 q6 q7 q8 q9 : Pos) : List Stmt :=
  [.Expr (.Call (.Attribute (.Call (.Name "super" q1) [] [] q2) "__init__" q3) [e] [] q4) q5, .Assign [.Attribute (.Name "self" q6) f q7] (.Name f q8) q9]
abbrev iA (f : Str) (p1 p2 : Pos) : Arguments := { posonlyargs := [], args := [{ arg := "self", annotation := none, pos := p1 }, { arg := f, annotation := none, pos := p2 }], vararg := none, kwonlyargs := [], kw_defaults := [], kwarg := none, defaults := [] }
/-- what the written part says of the class at C (its base at B), its __init__ at fI -/
structure Txt (P : Program) (K : Frag) (mg : Str → Option Value) (C B fI : Addr) (f : Str) : Prop where
  cls : ∃ nm q N bs sn sub ab col dd k0 k1 k2 k3 k5, K.lookup C = some (excClassObj nm q C N bs (tl B) true sn sub ab col dd k0 k1 k2 k3 k5 "Exception.__new__")
  sa : findIn K (.ref C) "__setattr__" = some (some (.builtin "object.__setattr__"))
  noF : findIn K (.ref C) f = some none
  iC : findIn K (.ref C) "__init__" = some (some (.ref fI))
  tC : typeIn K (.ref fI) = some (.type "function")
  al : alongIn K "__init__" (tl B) = some (some (.builtin "Exception.__init__"))
  op : nsIn K cStatics "thirdparty.any" = some none
  su : nsIn K mainGlobals "super" = some none
  kC : keepIn K (.ref C) = true
  exC : subIn K (.ref C) (.type "BaseException") = some true
  tyC : typeIn K (.ref C) = some (.type "type")
  top : (P.main.scope.names.lookup ("super" : Str)).isSome = false

theorem hasB {B : Addr} {C : Addr} (X : String) : (Value.ref C :: tl B).contains (.type X) = ESX.exTail.contains (.type X) := by
  simp [List.contains_cons]
theorem tlB {B : Addr} (X : String) : (tl B).contains (.type X) = ESX.exTail.contains (.type X) := by
  simp [List.contains_cons]

theorem pass {B C : Addr} (self : Value) : refuseLoop self "__setattr__" (.ref C :: tl B) = pure () := by
  rw [refuseLoop_ref, refuseLoop_ref]
  exact F.store_Exception.passes _
section
open Builtin Builtin.ObjectAttr
variable {prog : Program} {w : World} {A : Around} {E : Value → Shared → Prop} {R : Result → Shared → Prop} {hp : Heap} {g : Array GenState} {d : Drawn} {t : Nat} {os : OsState}
theorem mro_has {K : W.Frag} {C B : Addr} {cd : ClassData} (hcd : W.clsIn K C = some cd) (hm : cd.mro = .ref C :: tl B) {b : Value} (hb : (Value.ref C :: tl B).contains b = true) : W.mroIn K C b = some true := by
  unfold W.mroIn
  rw [hcd, Option.bind_some, hm, if_neg (show ¬ (List.isEmpty (Value.ref C :: tl B) = true) from Bool.false_ne_true), hb]
theorem osa_exc {K : W.Frag} {name : Str} {tk : Tok} {v : Value} {x C B : Addr} {ox : Obj} {od : Option Obj} {cd : ClassData}
    (X : K.In hp) (I : W.InstAt hp x ox C od) (hcd : W.clsIn K C = some cd) (hm : cd.mro = .ref C :: tl B) (ha : W.findIn K (.ref C) name = some none)
    (hq : wpAny (model prog w) A.in1 (storeInOwnDict (.ref x) (.ref C) (.str name tk) name v false)
      (fun fin s' => match fin with | .done f => R (.ok f) s' | .again c' => c'.quiet = true ∧ codeAny (model prog w) A c' R s') (fun e s' => R (.error e) s') ⟨hp, g, d, t, os⟩) :
    codeAny (model prog w) A (.call (.builtin "object.__setattr__") ⟨[.ref x, .str name tk, v], []⟩) R ⟨hp, g, d, t, os⟩ := by
  have SF := F.store_object
  have sub : W.Looks (model prog w) hp (isInstance (.ref x) (.type "object")) true := I.type.andThen (W.looks_mroIn X (mro_has hcd hm ((hasB "object").trans (by decide +kernel))))
  refine codeAny_call_builtin SF.slot.plain SF.entry (@W.check_slot (model prog w) _ _ ⟨hp, g, d, t, os⟩ "object.__setattr__" "object" "__setattr__" (.ref x) [.str name tk, v] [] _ SF.kind SF.split sub (SF.args (.ref x) (.str name tk) v) ?_)
  have hmr : W.Looks (model prog w) hp (mroOf (.ref C)) cd.mro := (W.looks_clsIn X hcd).andThen .now
  have L3 : W.Looks (model prog w) hp (storeTaker? none) none := .now
  have hpass : refuseLoop (.ref x) "__setattr__" cd.mro = pure () := by
    rw [hm]
    exact pass _
  rw [W.osa_eq, refuse_eq]
  refine wpAny_bind (wpAny_bind (I.type.at (wpAny_bind (hmr.at ?_))))
  rw [hpass]
  refine wpAny_pure (wpAny_bind (I.type.at (wpAny_bind ((W.looks_findIn X ha).at (wpAny_bind (L3.at ?_))))))
  exact hq
theorem osa_new {K : W.Frag} {name : Str} {tk : Tok} {v : Value} {x C B : Addr} {fv : Array Value} {cd : ClassData}
    (X : K.In hp) (hx : hp.get? x = some { cls := .ref C, data := .fields fv }) (hcd : W.clsIn K C = some cd) (hm : cd.mro = .ref C :: tl B) (hh : cd.hasDict = true) (ha : W.findIn K (.ref C) name = some none)
    (hq : ∀ h' tk' dx, (∀ b o, b ≠ x → hp.get? b = some o → h'.get? b = some o) → hp.objs.size ≤ dx → dx ≠ x → h'.get? x = some { cls := .ref C, dict := some dx, data := .fields fv } →
      h'.Ns1 dx (fun y => if y = name then some v else none) → R (.ok (.ret .none)) ⟨h', g, d, tk', os⟩) :
    codeAny (model prog w) A (.call (.builtin "object.__setattr__") ⟨[.ref x, .str name tk, v], []⟩) R ⟨hp, g, d, t, os⟩ := by
  have I : W.InstAt hp x { cls := .ref C, data := .fields fv } C none := ⟨hx, rfl, rfl, trivial⟩
  have hxs : x ≠ hp.objs.size := Nat.ne_of_lt (Heap.lt_size hx)
  refine osa_exc X I hcd hm ha ?_
  have hcls : W.Looks (model prog w) hp (classData C) cd := W.looks_clsIn X hcd
  obtain ⟨nm, bs, mro, ns, qn, hd, sn, sb, ab, col, del⟩ := cd
  dsimp only at hh
  subst hh
  unfold storeInOwnDict ownDictForStores
  repeat (first | with_reducible refine HandSPX.store_in_new ?_ ?_ | with_reducible refine wpAny_loadPart_at hx ?_ | with_reducible refine hcls.at ?_ | wp_step)
  · exact ⟨_, #[], _, (Heap.get?_update_ne _ _ _ _ hxs.symm).trans (Heap.get?_push_at rfl rfl), rfl, fun e he => absurd he (by simp), fun _ => rfl⟩
  · intro h' tk' hn' hs
    have hx₁ : (hp.push { cls := .type "dict", data := .dict #[] }).get? x = some { cls := .ref C, data := .fields fv } := Heap.get?_push_of_some _ hx
    refine hq h' tk' hp.objs.size (fun b o hb ho => ?_) (Nat.le_refl _) hxs.symm ?_ hn'
    · exact (hs.2 b (Nat.ne_of_lt (Heap.lt_size ho))).trans ((Heap.get?_update_ne _ _ _ _ hb).trans (Heap.get?_push_of_some _ ho))
    · exact (hs.2 x hxs).trans (Heap.get?_update_self _ hx₁ rfl)
end
/-- what the text of __init__ must be (all by rfl, decide) -/
structure Side (f : Str) (e : Expr) (q1 q2 q3 q4 q5 q6 q7 q8 q9 p1 p2 : Pos) (scope : Scope) (qual : Str) : Prop where
  hcell : ∀ x ∈ scope.names, x.2 ≠ .cell
  hks : scope.names.lookup ("super" : Str) = some .globalImplicit
  hkc : scope.names.lookup ("__class__" : Str) = some .free
  hka : scope.names.lookup ("self" : Str) = some .local
  hkf : scope.names.lookup f = some .local
  hk : scope.kind = .function
  hco : scope.isCoroutine = false
  hgen : scope.isGenerator = false
  hfs : f ≠ "self"
  hfd : (f == ("__debug__" : Str)) = false
  hw : ∀ (L a cc : Addr) (cd : Value) (q : Str), swapsWith (.Call (.Attribute (.Call (.Name "super" q1) [] [] q2) "__init__" q3) [e] [] q4) none q5.line (ksEnv q scope L a cd cc) = pure false
  hin : ∀ (L a cc : Addr) (cd : Value) (q : Str), interactive (ksEnv q scope L a cd cc) = false
  hse : ∀ (L a cc : Addr) (cd : Value) (q : Str), starEach [e] (ksEnv q scope L a cd cc) = (false, eval e (ksEnv q scope L a cd cc)) :: starEach [] (ksEnv q scope L a cd cc)
  hec : ∀ (L a cc : Addr) (cd : Value) (q : Str), ∃ pl, eval (.Call (.Attribute (.Call (.Name "super" q1) [] [] q2) "__init__" q3) [e] [] q4) (ksEnv q scope L a cd cc) = (do
      let ov ← attributeBase (.Call (.Name "super" q1) [] [] q2) "__init__" (ksEnv q scope L a cd cc) (eval (.Call (.Name "super" q1) [] [] q2) (ksEnv q scope L a cd cc))
      standAt q3.atName
      let (f, first) ← holding [ov] (getMethod ov "__init__" pl)
      callWith q4 f first (backTo q4 (starEach [e] (ksEnv q scope L a cd cc))) [])
  hbd : ∀ (kV doc pm : Value) (an : Option Addr) (cda : Addr) (ct : Value) (cc : Addr) (a b : Value), bindArgs (ksFn "__init__" qual (iA f p1 p2) (iB f e q1 q2 q3 q4 q5 q6 q7 q8 q9) scope .none kV doc pm an (.ref cda) ct cc) ⟨[a, b], []⟩ = pure [(("self" : Str), a), (f, b)]
/-- the def __init__ as it stands: its text, its cell -/
structure Ini (P : Program) (K : Frag) (C fI : Addr) (qual : Str) (params : Arguments) (body : List Stmt) (scope : Scope) : Prop where
  fn : ∃ (oc : Value) (od : Option Addr) (kV doc pm : Value) (an : Option Addr) (cda : Addr) (ct : Value) (cc : Addr) (osl : Array (Option Value)),
    K.lookup fI = some ⟨oc, od, .func (ksFn "__init__" qual params body scope .none kV doc pm an (.ref cda) ct cc), osl⟩ ∧ codeIn K (.ref cda) qual = true ∧
    (∃ (ccl : Value) (cdd : Option Addr) (vs : Array Value) (ccs : Array (Option Value)) (file : Str) (tf : Tok), K.lookup cda = some ⟨ccl, cdd, .fields vs, ccs⟩ ∧ vs[2]? = some (.str file tf) ∧ ((P.main.file : Str) == file) = true) ∧
    (∃ (cl : Value) (cld : Option Addr) (csl : Array (Option Value)), K.lookup cc = some ⟨cl, cld, .cell (some (.ref C)), csl⟩)
/-- what __init__ leaves of a fresh exception at x -/
structure InitEnd (h h' : Heap) (x C dx t1 : Addr) (f : Str) (v : Value) : Prop where
  keep : ∀ b o, b ≠ x → h.get? b = some o → h'.get? b = some o
  obj : h'.get? x = some { cls := .ref C, dict := some dx, data := .fields #[.ref t1, .none, .none, .none, .bool false, .none] }
  dbig : h.objs.size ≤ dx
  dne : dx ≠ x
  ns : h'.Ns1 dx (fun y => if y = f then some v else none)
/-- a made error -/
structure Made (h h' : Heap) (e C d : Addr) (f : Str) (v : Value) : Prop where
  keep : ∀ b o, h.get? b = some o → h'.get? b = some o
  new : h.objs.size ≤ e
  obj : ∃ oe vs, h'.get? e = some oe ∧ oe.cls = .ref C ∧ oe.dict = some d ∧ oe.data = .fields vs ∧ vs[1]? = some .none
  dbig : h.objs.size ≤ d
  dne : d ≠ e
  ns : h'.Ns1 d (fun y => if y = f then some v else none)
theorem one_size (v : Value) : [v].length ≤ sizeLine := by
  rw [sizeLine_eq]
  exact (by decide : 1 ≤ 16777216)
section
variable {prog : Program} {w : World} {A : Around} {E : Value → Shared → Prop} {R : Result → Shared → Prop} {s : Shared} {K : Frag} {mg mb : Str → Option Value} {C B fI : Addr} {f : Str} {e : Expr} {q1 q2 q3 q4 q5 q6 q7 q8 q9 p1 p2 : Pos} {scope : Scope} {qual : Str}
/-- the argument of super().__init__ is some value, the heap stays -/
def ArgOk (prog : Program) (w : World) (mg : Str → Option Value) (scope : Scope) (e : Expr) (f : Str) (v : Value) : Prop :=
  ∀ (L a cc : Addr) (cd : Value) (q : Str) (A : Around) (s : Shared) (Q : Value → Shared → Prop) (E : Value → Shared → Prop) (m : Str → Option Value), s.heap.Ns L m → m f = some v → s.heap.Ns mainGlobals mg →
    (∃ mb, s.heap.Ns builtinsNs mb ∧ ∀ x : Str, x ≠ "__name__" → mb x = bootBuiltins x) → (∀ u tk, Q u { s with toks := tk }) → wpAny (model prog w) A (eval e (ksEnv q scope L a cd cc)) Q E s
theorem arg_const {x : Str} {k : Nat} {pos : Pos} {v : Value} : ArgOk prog w mg scope (.Constant (.str x) k pos) f v := fun _ _ _ _ _ _ _ _ _ _ _ _ _ _ q => wpAny_Constant_str (q _ _)
theorem init_ok (T : Txt prog K mg C B fI f) (Y : Ini prog K C fI qual (iA f p1 p2) (iB f e q1 q2 q3 q4 q5 q6 q7 q8 q9) scope) {x t0 : Addr} {v : Value} (X : K.In s.heap) (G : s.heap.Ns mainGlobals mg)
    (Bl : ∃ mb, s.heap.Ns builtinsNs mb ∧ ∀ x : Str, x ≠ "__name__" → mb x = bootBuiltins x) (hlim : s.heap.NoLimit) (hx : s.heap.get? x = some (HandSPX.excO C t0)) (hnx : K.lookup x = none) (hroom : A.depth < recursionLimit)
    (ha : ArgOk prog w mg scope e f v)
    (Sd : Side f e q1 q2 q3 q4 q5 q6 q7 q8 q9 p1 p2 scope qual)
    (hq : ∀ h' tk dx t1, InitEnd s.heap h' x C dx t1 f v → R (.ok (.ret .none)) { s with heap := h', toks := tk }) :
    codeAny (model prog w) A (.call (.ref fI) ⟨[.ref x, v], []⟩) R s := by
  obtain ⟨hcell, hks, hkc, hka, hkf, hk, hco, hgen, hfs, hfd, hw, hin, hse, hec, hbd⟩ := Sd
  obtain ⟨oc, od, kV, doc, pm, an, cda, ct, cc, osl, ho, hcd, ⟨ccl, cdd, vs, ccs, file, tf, hcode, hvs, hfile⟩, cl, cld, csl, hcellC⟩ := Y.fn
  obtain ⟨nm, q, N, bs, sn, sub, ab, col, dd, k0, k1, k2, k3, k5, hC⟩ := T.cls
  have hcl : clsIn K C = some { name := nm, bases := bs, mro := .ref C :: tl B, ns := N, qualname := q, hasDict := true, slotNames := sn, subclasses := sub, abstract := ab, collection := col, hasDel := false } := by unfold clsIn; rw [hC] <;> rfl
  refine ks_codeAny_call_defAt (fd := ksFn "__init__" qual (iA f p1 p2) (iB f e q1 q2 q3 q4 q5 q6 q7 q8 q9) scope .none kV doc pm an (.ref cda) ct cc) (body := iB f e q1 q2 q3 q4 q5 q6 q7 q8 q9) (binds := [("self", .ref x), (f, v)]) hroom (X _ _ ho) rfl hlim (codeRec_of X hcd) rfl
    (BindsTo.of_eq (hbd _ _ _ _ _ _ _ _ _)) hcell (by intro y hy; rcases List.mem_cons.mp hy with rfl | hy; exact hka; rcases List.mem_cons.mp hy with rfl | hy; exact hkf; cases hy) (fun h₁ hns k => ?_) hco hgen hk
  show _root_.PySem.wpAt (model prog w) (A.deeper (ksEnv qual scope s.heap.objs.size fI (.ref cda) cc)) (.func (iB f e q1 q2 q3 q4 q5 q6 q7 q8 q9) (ksEnv qual scope s.heap.objs.size fI (.ref cda) cc)) (execs (iB f e q1 q2 q3 q4 q5 q6 q7 q8 q9) (ksEnv qual scope s.heap.objs.size fI (.ref cda) cc)) _ _ _
  generalize hL : s.heap.objs.size = L at hns ⊢
  have mS : ([("self", Value.ref x), (f, v)] : List (Str × Value)).reverse.lookup ("self" : Str) = some (Value.ref x) := by
    show List.lookup ("self" : Str) [(f, v), (("self" : Str), Value.ref x)] = _
    have z : (("self" : Str) == f) = false := by simp [Ne.symm hfs]
    simp [List.lookup, z]
  have mF : ([("self", Value.ref x), (f, v)] : List (Str × Value)).reverse.lookup f = some v := by
    show List.lookup f [(f, v), (("self" : Str), Value.ref x)] = _
    simp [List.lookup]
  have X₁ : K.In h₁ := X.keeps k
  have G₁ : h₁.Ns mainGlobals mg := G.keeps k
  obtain ⟨mb, hb, hbe⟩ := Bl
  have B₁ : h₁.Ns builtinsNs mb := hb.keeps k
  have hx₁ : h₁.get? x = some (HandSPX.excO C t0) := k _ _ hx
  have hxL : x < L := by rw [← hL]; exact Heap.lt_size hx
  have hLs : L < h₁.objs.size := hns.lt
  have hC₁ := X₁ _ _ hC
  have hsupN : mg "super" = none := mg_none_of X₁ G₁ T.su
  obtain ⟨pl, hev⟩ := hec L fI cc (.ref cda) qual
  refine ks_wpAt_execs_cons (ks_wpAt_Expr_any (ks_wpAt_MethodCall (pl := pl) ?_ hev) (hin _ _ _ _ _) (hw _ _ _ _ _))
  refine ks_wpAt_super_base (env := ksEnv qual scope L fI (.ref cda) cc) hks hkc (by decide) rfl (X₁ _ _ ho) rfl (ar := { arg := "self", annotation := none, pos := p1 }) rfl rfl (X₁ _ _ hcode) rfl hvs hfile T.top ?_
  refine ks_loadName_global hk hks (loadGlobal_builtin (env := ksEnv qual scope L fI (.ref cda) cc) G₁ hsupN B₁ ((hbe _ (by decide +kernel)).trans (show bootBuiltins "super" = some (.type "super") by decide +kernel)) ⟨rfl, ?_⟩)
  refine wpAny_loadName_free hk hkc rfl ⟨_, X₁ _ _ hcellC, rfl⟩ ?_
  refine wpAny_loadName_local hk hka hns mS ?_
  refine ks_wpAny_isType_cls hC₁ rfl ⟨rfl, ?_⟩
  have hself : (Value.ref C :: tl B).contains (.ref C) = true := by simp
  refine ks_wpAny_call_super hC₁ rfl hx₁ rfl (fun c z => by cases z) (looks_mroIn X₁ (mro_has hcl rfl hself)) (fun h₂ eso k₂ => ?_)
  have X₂ := X₁.keeps k₂
  have hx₂ := k₂ _ _ hx₁
  have hxC : x ≠ C := fun z => by
    rw [z, hC₁] at hx₁
    cases hx₁
  have I₂ : W.InstAt h₂ x (HandSPX.excO C t0) C none := ⟨hx₂, rfl, rfl, trivial⟩
  have isE : W.Looks (model prog w) h₂ (isInstance (.ref x) (.type "Exception")) true := I₂.type.andThen (W.looks_mroIn X₂ (mro_has hcl rfl ((hasB "Exception").trans (by decide +kernel))))
  refine ESX.getMethod_super (l := tl B) (x := x) eso (looks_opaque X₂ T.op) (l₀ := .ref C :: tl B) ?_ ?_ X₂ T.al hxC (by decide +kernel) isE ?_
  · exact fun A Q E s k q => wpAny_bind ((looks_clsIn X₂ hcl) A _ E s k (wpAny_pure q))
  · simp [List.dropWhile_cons]
  have kb : ∀ b o, h₂.get? b = some o → (h₂.push (ESX.bw x)).get? b = some o := fun b o z => Heap.get?_push_of_some _ z
  have hbw : (h₂.push (ESX.bw x)).get? h₂.objs.size = some (ESX.bw x) := Heap.get?_push_at rfl rfl
  refine ESX.callWith_bound (x := x) ?_ (hse _ _ _ _ _) (by rfl)
  have hn2 : h₂.Ns L _ := hns.keeps k₂
  refine spliced_more (ha L fI cc (.ref cda) qual _ _ _ _ _ (hn2.keeps kb) mF ((G₁.keeps k₂).keeps kb) ⟨mb, (B₁.keeps k₂).keeps kb, hbe⟩ fun u tk => spliced_none ⟨hbw, ?_⟩) (hse _ _ _ _ _)
  refine ESX.call_bw (kb _ _ (k₂ _ _ hC₁)) (kb _ _ hx₂) hbw (one_size u) fun h₃ t1 k₃ hx₃ => ?_
  -- self.f = v
  have kLx : L ≠ x := Nat.ne_of_gt hxL
  have kk : ∀ b o, b ≠ x → h₁.get? b = some o → h₃.get? b = some o := fun b o nb z => k₃ b o nb (kb _ _ (k₂ _ _ z))
  let mm : Str → Option Value := fun y => ([("self", Value.ref x), (f, v)] : List (Str × Value)).reverse.lookup y
  have hn3 : h₃.Ns L mm := by
    obtain ⟨oL, es, ep, e1, e2⟩ := hns
    exact ⟨oL, es, ep, kk _ _ kLx e1, e2⟩
  have X₃ : K.In h₃ := fun b o z => by
    have z1 : b ≠ x := fun q => by
      rw [q, hnx] at z
      cases z
    exact kk b o z1 (X₁ _ _ z)
  refine ks_wpAt_execs_cons (ks_wpAt_Assign_Attr ?_ (by rfl))
  refine wpAt_of_wpAny ?_
  refine wpAny_Name ?_ hfd
  refine wpAny_loadName_local (m := mm) (env := ksEnv qual scope L fI (.ref cda) cc) hk hkf hn3 mF ?_
  refine wpAny_Name ?_ (by decide)
  refine wpAny_loadName_local (m := mm) (env := ksEnv qual scope L fI (.ref cda) cc) hk hka hn3 mS ?_
  refine W.set_plain X₃ (ox := HandSPX.excO C t1) (od := none) ⟨hx₃, rfl, rfl, trivial⟩ T.sa ?_
  refine osa_new X₃ hx₃ hcl rfl rfl T.noF (fun h₄ tk₄ dx k₄ dn dne hx₄ hn₄ => ?_)
  refine wpAt_of_wpAny (wpAny_execs_nil ?_)
  refine hq h₄ _ dx t1 ⟨fun b o nb z => k₄ b o nb (kk b o nb (k b o z)), hx₄, ?_, dne, hn₄⟩
  have z : h₃.objs.size ≤ dx := dn
  have z2 : L < h₃.objs.size := hn3.lt
  rw [hL]
  exact Nat.le_of_lt (Nat.lt_of_lt_of_le z2 z)
theorem made_ok (T : Txt prog K mg C B fI f) (Y : Ini prog K C fI qual (iA f p1 p2) (iB f e q1 q2 q3 q4 q5 q6 q7 q8 q9) scope) (Sd : Side f e q1 q2 q3 q4 q5 q6 q7 q8 q9 p1 p2 scope qual) {v : Value} (X : K.In s.heap) (G : s.heap.Ns mainGlobals mg)
    (Bl : ∃ mb, s.heap.Ns builtinsNs mb ∧ ∀ x : Str, x ≠ "__name__" → mb x = bootBuiltins x) (hlim : s.heap.NoLimit) (hroom : A.depth + 1 < recursionLimit)
    (ha : ArgOk prog w mg scope e f v)
    (hq : ∀ h' tk e d, Made s.heap h' e C d f v → R (.ok (.ret (.ref e))) { s with heap := h', toks := tk }) :
    codeAny (model prog w) A (.call (.ref C) ⟨[v], []⟩) R s := by
  obtain ⟨nm, q, N, bs, sn, sub, ab, col, dd, k0, k1, k2, k3, k5, hC⟩ := T.cls
  obtain ⟨hp, g, dr, tk, os⟩ := s
  obtain ⟨mb, hb, hbe⟩ := Bl
  have k : ∀ b o, hp.get? b = some o → ((hp.push (kdv_tup [v])).push (HandSPX.excO C hp.objs.size)).get? b = some o := fun b o e => Heap.get?_push_of_some _ (Heap.get?_push_of_some _ e)
  have hget : ((hp.push (kdv_tup [v])).push (HandSPX.excO C hp.objs.size)).get? (hp.objs.size + 1) = some (HandSPX.excO C hp.objs.size) := by heap_get
  have hnx : K.lookup (hp.objs.size + 1) = none := by
    cases e : K.lookup (hp.objs.size + 1) with
    | none => rfl
    | some o =>
      have z : hp.get? (hp.objs.size + 1) = some o := X _ _ e
      exact absurd (Nat.lt_of_succ_lt (Heap.lt_size z)) (Nat.lt_irrefl _)
  refine HandSPX.call_own F.excBase_Exception (fun X => tlB X) (X _ _ hC) (looks_findIn X T.iC) (fun self => bind_fn X self T.tC) (one_size v) ?_
  refine init_ok (s := ⟨(hp.push (kdv_tup [v])).push (HandSPX.excO C hp.objs.size), g, dr, tk, os⟩) T Y (X.keeps k) (G.keeps k) ⟨mb, hb.keeps k, hbe⟩ (hlim.keeps k) hget hnx ?_ ha Sd fun h' tk' dx t1 ⟨k', hx, dn, dne, hns⟩ => ?_
  · show A.depth + 1 < recursionLimit
    exact hroom
  · have old : ∀ b o, hp.get? b = some o → h'.get? b = some o := fun b o e => k' b o (Nat.ne_of_lt (Nat.lt_succ_of_lt (Heap.lt_size e))) (k b o e)
    have z : hp.objs.size + 1 + 1 ≤ dx := by
      first
        | (simpa only [Heap.size_push] using dn)
        | exact dn
        | (have q := dn; rw [Heap.size_push, Heap.size_push] at q; exact q)
    exact ⟨rfl, hq h' tk' (hp.objs.size + 1) dx ⟨old, Nat.le_succ _, ⟨_, _, hx, rfl, rfl, rfl, rfl⟩, Nat.le_trans (Nat.le_trans (Nat.le_succ _) (Nat.le_succ _)) z, dne, hns⟩⟩
end
end HKErr
end PySem
namespace L2
open PySem PySem.Spec PyProof.Rows
theorem relO_one {f : Str} {v : V} {v' : Value} (r : RelV v v') (y : Str) : RelO (List.lookup y [(f, v)]) (if y = f then some v' else none) := by
  by_cases hw : y = f
  · subst hw
    rw [if_pos rfl]
    have q : List.lookup y [(y, v)] = some v := by simp [List.lookup]
    rw [q]
    exact r
  · rw [if_neg hw]
    have qw : (y == f) = false := by simpa using hw
    have q2 : List.lookup y [(f, v)] = none := by simp [List.lookup, qw]
    rw [q2]
    trivial
section
variable {X : Cx} {C B fI : Addr} {f : Str} {e : Expr} {q1 q2 q3 q4 q5 q6 q7 q8 q9 p1 p2 : Pos} {scope : Scope} {qual : Str}
/-- X(e): a new error, its field f holding e -/
def tMkE (C : Addr) (f : Str) (ok : V → Prop) (ta : TA) : St → Hp → XK → Prop := fun σ H Q => ta σ H fun vs H1 => ∃ v, vs = [v] ∧ ok v ∧ ∀ d, H1 d = none → Q (.ref C) (some d) (upd H1 d (.xd [(f, v)]))
theorem pmk_err {x : Str} {ok : V → Prop} {a : Expr} {ta : TA} {p pos : Pos} {k : Nat} (T : PySem.HKErr.Txt X.prog X.K X.mg C B fI f) (Y : PySem.HKErr.Ini X.prog X.K C fI qual (PySem.HKErr.iA f p1 p2) (PySem.HKErr.iB f e q1 q2 q3 q4 q5 q6 q7 q8 q9) scope)
    (Sd : PySem.HKErr.Side f e q1 q2 q3 q4 q5 q6 q7 q8 q9 p1 p2 scope qual) (hok : ∀ v u, ok v → RelV v u → PySem.HKErr.ArgOk X.prog X.w X.mg scope e f u) (hm : X.mg x = some (.ref C)) (hr : Room k X.A) (ha : PA X [a] ta) (hg : Gl X x := by rfl) (hdb : (x == ("__debug__" : Str)) = false := by decide)
    (he : starEach (a :: []) X.env = (false, eval a X.env) :: starEach [] X.env := by rfl) (hpl : (backTo pos (starEach [] X.env)).any (·.1) = false := by rfl) :
    PMk X (.Call (.Name x p) [a] [] pos) (tMkE C f ok ta) := by
  intro pins s σ H Q I h
  refine wpAny_Call_Name_kw (ld_glob I hg hm ?_ hdb)
  refine PySem.W.callWith_K (h₀ := X.base) I.ok.mod.kin T.kC (thn (ha.run pos pins s σ H _ I h) fun us s1 hh => ?_) he hpl
  obtain ⟨vs, H1, I1, r1, v, ev, okv, q1⟩ := hh
  subst ev
  refine ⟨I1.kIn, ?_⟩
  cases r1 with
  | cons rv rn =>
    rename_i v' us'
    cases rn
    show wpAny _ _ (call (.ref C) [v']) _ _ _
    have hlim := I1.nolimit
    have hG : s1.heap.Ns mainGlobals X.mg := I1.ok.mod.glob.keeps I1.bk
    obtain ⟨mb, hb, hbe⟩ := I1.ok.mod.blt
    have hB := hb.keeps I1.bk
    obtain ⟨hp, g, dr, tk, os⟩ := s1
    refine wpAny_call (PySem.HKErr.made_ok T Y Sd I1.kIn hG ⟨mb, hB, hbe⟩ hlim (by have := hr.dp; omega) (hok v v' okv rv) fun h' tk' e d M => ?_)
    show MkP X pins σ Q (.ref e) ⟨h', g, dr, tk', os⟩
    obtain ⟨oe, fv, hoe, hc, hd, hdat, h1⟩ := M.obj
    have hns := M.ns
    obtain ⟨G', g1, g2⟩ := restrict h' fun b => decide (b ≠ e)
    have gk : ∀ b, b ≠ e → G'.get? b = h'.get? b := fun b hb => g1 b (decide_eq_true hb)
    have ge : G'.get? e = none := g2 e (by simp)
    have old : ∀ b o, hp.get? b = some o → G'.get? b = some o := fun b o q => (gk b (Nat.ne_of_lt (Nat.lt_of_lt_of_le (Heap.lt_size q) M.new))).trans (M.keep b o q)
    have ob : ObjOk X.prog X.w (upd H1 d (.xd [(f, v)])) G' d (.xd [(f, v)]) :=
      ⟨_, hns.at (fun o q => (gk d M.dne).trans q), fun y => relO_one rv y⟩
    have J : Inv X pins σ (upd H1 d (.xd [(f, v)])) ⟨G', g, dr, tk', os⟩ := I1.laid (t' := tk') old M.dbig ob
    refine ⟨e, oe, fv, ⟨G', g, dr, tk', os⟩, _, .ref C, some d, rfl, J, fun b o q => ?_, ge, hoe, ⟨hc, hd⟩, hdat, h1, ?_, rfl, I1.bare, raises_own T.exC T.tyC, q1 d (I1.hok.fresh M.dbig)⟩
    · by_cases hb : b = e
      · have q' : G'.get? b = some o := q
        rw [hb, ge] at q'; cases q'
      · exact (gk b hb).symm.trans q
    · rw [upd_ne (Ne.symm M.dne)]
      exact I1.hok.fresh M.new
end
end L2
set_option Elab.async false
set_option linter.all false
set_option maxRecDepth 100000
set_option maxHeartbeats 4000000
/-! HKTry: try .. with several clauses  except X as n: suite. -/
namespace L2
open PySem PySem.Spec PyProof.Rows
/-- behind a suite the name is unbound -/
def unEnds (i : Nat) (D : Ends) : Ends := { nx := fun σ' H' => D.nx (σ'.set i none) H', rt := D.rt, bk := fun σ' H' => D.bk (σ'.set i none) H', ct := fun σ' H' => D.ct (σ'.set i none) H' }
/-- what the clauses 'except c as (slot i)' wish of an exception of the body, one after the other -/
def wManyA (K : PySem.W.Frag) (Wout : WX) (D : Ends) : List (Value × Nat × (Addr → Value → Option Addr → TS)) → WX
  | [] => Wout
  | (c, i, ts) :: r => fun cls d σ H => ∃ b, PySem.W.exmOne K cls c = some b ∧ (b = true → ∀ a, H a = none → ts a cls d (unEnds i D) (σ.set i (some (.ref a))) H) ∧ (b = false → wManyA K Wout D r cls d σ H)
inductive HdsA (X : Cx) : List ExceptHandler → List (Value × Nat × (Addr → Value → Option Addr → TS)) → Prop
  | nil : HdsA X [] []
  | cons {x n : Str} {c : Value} {i : Nat} {ts : Addr → Value → Option Addr → TS} {b₀ : Stmt} {suite : List Stmt} {np pos' : Pos} {hds : List ExceptHandler} {l : List (Value × Nat × (Addr → Value → Option Addr → TS))} (hi : X.N[i]? = some n) (hln : X.env.kindOf n = some .local) (hc : Names X x c)
      (hsu : ∀ (a : Addr) (oe : Obj) (cls : Value) (d : Option Addr) (pn : List (Addr × Obj)), Zc cls d oe → (∃ vs, oe.data = .fields vs) → PSs (X.suite a ((a, oe) :: pn)) (b₀ :: suite) (ts a cls d)) (r : HdsA X hds l) :
      HdsA X (.ExceptHandler (some (.Name x np)) (some n) (b₀ :: suite) pos' :: hds) ((c, i, ts) :: l)
section
variable {X : Cx} {body : List Stmt} {h₀ : ExceptHandler} {hds : List ExceptHandler} {l : List (Value × Nat × (Addr → Value → Option Addr → TS))} {pos : Pos} {tb : WX → TS} {Wout : WX}
theorem ps_try_manyA (hs : X.stack = X.env :: X.outer) (hf : X.env.frame = some X.env.locals) (hN : X.N.Nodup) (tk : Takes X Wout)
    (hb : ∀ (W : WX) (pn : List (Addr × Obj)) (xe : Value → Shared → Prop), Takes (X.tr pn xe) W → PassesOwn (model X.prog X.w) X.A X.env xe → PSs (X.tr pn xe) body (tb W))
    (hh : HdsA X (h₀ :: hds) l) : PS X (.Try body (h₀ :: hds) [] [] pos) (fun D σ H => tb (wManyA X.K Wout D l) D σ H) := by
  refine ⟨fun pins s σ H D I h => ?_⟩
  have ok := I.ok
  have hfr : X.A.frames = some (X.env :: X.outer) := by rw [ok.frames, hs]
  refine wpAny_Try_except ?_
  refine wpAny_mono ((hb (wManyA X.K Wout D l) (X.pn ++ pins) (fun e s₁ => wpAny (model X.prog X.w) X.A (noteFrame e X.env) (fun _ s₂ => wpAny (model X.prog X.w) X.A (setFlight e none) (fun _ s₃ =>
    wpAny (model X.prog X.w) X.A (handleBy e X.env (h₀ :: hds)) (SP X pins D) X.xe s₃) X.xe s₂) X.xe s₁) (fun u s' xx => ?_) PassesOwn.looking).run [] s σ H D (I.toTry _) h) (fun f s1 hsp => ?_) (fun e s1 he => he)
  · obtain ⟨a, B, sI, pins', σ', H', cls, d, rfl, J', nb, up, sky, na, os, ag, w⟩ := xx
    have J : Inv X pins σ' H' sI := J'.ofTry ok
    have sky' : Sky B (X.env :: X.outer) a (Zc cls d) X.env.locals s'.heap := by rw [← hs]; exact sky
    show wpAny (model X.prog X.w) X.A (noteFrame (.ref a) X.env) _ _ _
    refine Sky.land Zc.steady hfr hf sky' fun h3 fl3 up3 => ?_
    have J3 : Inv X pins σ' H' { s' with heap := h3 } := J.landed nb fl3.1 (up.trans up3) os ag
    obtain ⟨oe3, vs3, he3, hz3, hd3⟩ := fl3.there
    have notFr : ∀ {h : Heap} {o : Obj} {vs : Array Value}, h.FunFrames B (X.env :: X.outer) → h.get? a = some o → o.data = .fields vs → a ∉ frs (X.env :: X.outer) := fun {h o vs} ff e dd hm => by
      obtain ⟨_, o', e', hnf⟩ := ff.mem hm
      rw [e] at e'; cases e'
      exact hnf _ dd
    have nfr := notFr fl3.2.2.1 he3 hd3
    have nL : a ≠ X.env.locals := fun z => nfr (List.mem_filterMap.mpr ⟨X.env, List.mem_cons_self, by rw [hf, z]⟩)
    have nF : a ∉ X.fs := fun hm => by
      obtain ⟨e, he, q⟩ := List.mem_filterMap.mp hm
      exact nfr (List.mem_filterMap.mpr ⟨e, List.mem_cons_of_mem _ he, q⟩)
    have S3 := J3.suite he3 hd3 na nL nF
    have go : ∀ {hds' : List ExceptHandler} {l' : List (Value × Nat × (Addr → Value → Option Addr → TS))}, HdsA X hds' l' → wManyA X.K Wout D l' cls d σ' H' →
        wpAny (model X.prog X.w) X.A (handleBy (.ref a) X.env hds') (SP X pins D) X.xe { s' with heap := h3 } := by
      intro hds' l' hk
      induction hk with
      | nil =>
        intro w
        refine wpAny_handleBy_nil ?_
        obtain ⟨k1, k2, k3, oe, vs, T, oT, ts', he, hz, hd, h1, hr⟩ := id fl3
        unfold PySem.passOn
        refine wpAny_bind (wpAny_field he hd h1 ?_)
        rw [if_neg (show ¬ ((Value.ref T == Value.none) = true) from by simp)]
        have fin : wpAny (model X.prog X.w) X.A (setFlight (.ref a) X.env.frame) (fun _ s4 => wpAny (model X.prog X.w) X.A (throw (.ref a) : Sem Flow) (SP X pins D) X.xe s4) X.xe { s' with heap := h3 } := by
          rw [hf]
          refine HandSPX.setFlight_upZ fl3 fun h4 hh4 up4 => wpAny_throw (tk _ _ ?_)
          exact ⟨a, B, sI, pins, σ', H', cls, d, rfl, J, nb, (up.trans up3).trans up4, .inr (.inr (by rw [hs]; exact hh4)), na, os, ag, w⟩
        first
          | exact wpAny_bind (wpAny_pure (wpAny_bind fin))
          | exact wpAny_bind fin
      | @cons x n c i ts b₀ suite np pos' hds2 l2 hi hln hc hsu r ih =>
        intro w
        have hloc : Loc X.env.scope n := .inl hln
        obtain ⟨b, hb1, hyes, hno⟩ := w
        refine wpAny_handleBy_cons (codeAny_handlers_test ?_) (by intro q; cases q)
        have LT : PySem.W.Looks (model X.prog X.w) h3 (typeOf (.ref a)) cls := fun A Q E s k q => wpAny_typeOf_ref (k _ _ he3) (by rw [hz3.1]; exact q)
        have LM := PySem.W.exm_one (M := model X.prog X.w) (J3.kIn) LT hb1
        have test : ∀ {Q : Value → Shared → Prop} {E : Value → Shared → Prop}, Q c { s' with heap := h3 } → wpAny (model X.prog X.w) (X.A.mark (some (.ref a))) (eval (.Name x np) X.env) Q E { s' with heap := h3 } := fun {Q E} q => by
          obtain ⟨hg, hdbg, hm | ⟨hm, hv, hnn⟩⟩ := hc
          · exact ld_glob (X := X.suite a ((a, oe3) :: (X.pn ++ pins))) S3 hg hm q hdbg
          · exact ld_blt (X := X.suite a ((a, oe3) :: (X.pn ++ pins))) S3 hg hm hv q hnn hdbg
        refine test (LM.here ?_)
        cases b with
        | true =>
          refine codeAny_handlers_suite_as ?_
          refine HandSPX.lands_againZ fl3 fun h4 fl4 up4 => ?_
          have J4 : Inv X pins σ' H' { s' with heap := h4 } := J.landed nb fl4.1 ((up.trans up3).trans up4) os ag
          obtain ⟨oe4, vs4, he4, hz4, hd4⟩ := fl4.there
          have S4 := J4.suite he4 hd4 na nL nF
          refine store_ok (X := X.suite a ((a, oe4) :: (X.pn ++ pins))) (v := .ref a) S4 hN hi hloc rfl (fun s5 S5 => ?_) (.inr hln)
          refine wpAny_mono ((hsu a oe4 cls d (X.pn ++ pins) hz4 ⟨_, hd4⟩).run [] s5 _ H' _ S5 (hyes rfl a na)) (fun f s6 hsp => ?_) (fun _ _ z => False.elim z)
          have end_ : ∀ {σ6 : St} {H6 : Hp} {Q : Shared → Prop}, Inv (X.suite a ((a, oe4) :: (X.pn ++ pins))) [] σ6 H6 s6 → (∀ s7, Inv X pins (σ6.set i none) H6 s7 → Q s7) →
              wpAny (model X.prog X.w) X.A (do bindName X.env n .none; unbindBehindTheSuite X.env n pos') (fun _ s7 => Q s7) X.xe s6 := fun {σ6 H6 Q} S6 hq => gone_ok (S6.unsuite ok) hN hi hln hq
          cases f with
          | next =>
            obtain ⟨σ6, H6, S6, q6⟩ := hsp
            exact end_ S6 fun s7 J7 => ⟨_, _, J7, q6⟩
          | brk =>
            obtain ⟨σ6, H6, S6, q6⟩ := hsp
            exact end_ S6 fun s7 J7 => ⟨_, _, J7, q6⟩
          | cont =>
            obtain ⟨σ6, H6, S6, q6⟩ := hsp
            exact end_ S6 fun s7 J7 => ⟨_, _, J7, q6⟩
          | ret u =>
            obtain ⟨v6, σ6, H6, S6, r6, q6⟩ := hsp
            exact end_ S6 fun s7 J7 => ⟨_, _, _, J7, r6, q6⟩
        | false =>
          show wpAny _ X.A (handleBy (.ref a) X.env hds2) _ _ _
          exact ih (hno rfl)
    exact go hh w
  · cases f with
    | next =>
      obtain ⟨σ', H', J', q⟩ := hsp
      exact wpAny_execs_nil ⟨σ', H', J'.ofTry ok, q⟩
    | brk =>
      obtain ⟨σ', H', J', q⟩ := hsp
      exact ⟨σ', H', J'.ofTry ok, q⟩
    | cont =>
      obtain ⟨σ', H', J', q⟩ := hsp
      exact ⟨σ', H', J'.ofTry ok, q⟩
    | ret u =>
      obtain ⟨v, σ', H', J', r, q⟩ := hsp
      exact ⟨v, σ', H', J'.ofTry ok, r, q⟩
end
end L2
set_option Elab.async false
set_option linter.all false
set_option maxRecDepth 100000
set_option maxHeartbeats 4000000
/-! HKIter: loops and comprehensions over what is a list or a tuple; enumerate of such. -/
namespace L2
open PySem PySem.Spec PyProof.Rows
/-- a list or a tuple -/
def SqA (K : PySem.W.Frag) (H : Hp) (a : Addr) (xs : List V) : Prop := SqL K H a xs ∨ SqT K H a xs
/-- xs by its items while Z stands -/
def ItS (xs : List V) (Z : Hp → Prop) : It := ⟨fun i H => Z H ∧ i < xs.length, fun i H x H' => H' = H ∧ xs[i]? = some x, fun i H => Z H ∧ xs.length ≤ i⟩
/-- (i, x) in a new pair each turn -/
def ItE (xs : List V) (Z : Hp → Prop) : It :=
  ⟨fun i H => Z H ∧ i < xs.length, fun i H v H' => ∃ T x, v = .ref T ∧ H T = none ∧ H' = upd H T (.tup [.int (i : Nat), x]) ∧ xs[i]? = some x, fun i H => Z H ∧ xs.length ≤ i⟩
theorem Turn.imp {P : Program} {w : World} {K : PySem.W.Frag} {tg : Expr} {J J' : It} {fp : List Addr} {it : Addr} {tn : Nat → Heap → Prop} (T : Turn P w K tg J fp it tn) (hg : ∀ i H, J'.go i H → J.go i H) (hs : ∀ i H, J'.stop i H → J.stop i H)
    (hy : ∀ i H x H', J'.go i H → J.yld i H x H' → J'.yld i H x H') : Turn P w K tg J' fp it tn where
  mem := T.mem
  obj := T.obj
  keep := T.keep
  item := fun X hP hw hK hc i pins s σ H E I hf st hgo => by
    refine wpAny_mono (T.item X hP hw hK hc i pins s σ H E I hf st (hg i H hgo)) (fun r s1 h1 => ?_) (fun _ _ z => z)
    obtain ⟨u, hr, h⟩ := h1
    refine ⟨u, hr, wpAny_mono h (fun _ s2 h2 => ?_) (fun _ _ z => z)⟩
    obtain ⟨x, H', I', rx, y, t, f⟩ := h2
    exact ⟨x, H', I', rx, hy i H x H' hgo y, t, f⟩
  done := fun X hP hw hK hc i pins s σ H E I hf st hst => T.done X hP hw hK hc i pins s σ H E I hf st (hs i H hst)
  self := T.self
/-- for x in e, e a list or a tuple -/
def iSeq (K : PySem.W.Frag) (tl : TE) : TI := fun σ H R => tl σ H fun x H1 => ∃ a xs, x = .ref a ∧ ((SqL K H1 a xs ∧ R (ItS xs fun H => SqL K H a xs) H1) ∨ (SqT K H1 a xs ∧ R (ItS xs fun H => SqT K H a xs) H1))
theorem getI {α : Type} {xs : List α} {i : Nat} (h : i < xs.length) : ∃ x, xs[i]? = some x := ⟨xs[i], List.getElem?_eq_getElem h⟩
section
variable {X : Cx} {tg : Expr}
theorem pi_seq {l : Expr} {tl : TE} (hl : PE X l tl) : PI X tg l (iSeq X.K tl) := by
  refine ⟨fun pins s σ H R I h => ?_⟩
  refine thn (hl.run pins s σ H _ I h) fun v s1 ⟨x, H1, I1, r1, q1⟩ => ?_
  obtain ⟨a, xs, e, hq⟩ := q1
  subst e
  cases r1
  have fp : ∀ b ∈ [s1.heap.objs.size], FpOk X pins H1 b := fun b hb => by
    have e : b = s1.heap.objs.size := by simpa using hb
    subst e
    exact I1.fpOk (Nat.le_refl _) (I1.hok.fresh (Nat.le_refl _))
  rcases hq with ⟨hq, q⟩ | ⟨hq, q⟩
  · obtain ⟨its, rv, p, hz⟩ := I1.list hq
    refine wpAny_pyIter_list p.isList ?_
    refine ⟨s1.heap.objs.size, [s1.heap.objs.size], _, _, H1, rfl, I1.kept (t' := s1.toks) fun b o e => Heap.get?_push_of_some _ e, (turn_list a _).imp (fun i H z => ?_) (fun i H z => ?_) (fun i H x H' z y => ?_), ⟨_, Heap.get?_push_size _ rfl, rfl, rfl⟩, fp, q⟩
    · obtain ⟨y, e⟩ := getI z.2
      exact ⟨xs, y, z.1, e⟩
    · exact ⟨xs, z.1, z.2⟩
    · exact ⟨y.1, y.2 xs z.1⟩
  · obtain ⟨its, rv, p, hz⟩ := I1.tuple hq
    refine wpAny_pyIter_tuple (show s1.heap.IsTuple a its.toArray from p) ?_
    refine ⟨s1.heap.objs.size, [s1.heap.objs.size], _, _, H1, rfl, I1.kept (t' := s1.toks) fun b o e => Heap.get?_push_of_some _ e, (turn_tuple a _).imp (fun i H z => ?_) (fun i H z => ?_) (fun i H x H' z y => ?_), ⟨_, Heap.get?_push_size _ rfl, rfl, rfl⟩, fp, q⟩
    · obtain ⟨y, e⟩ := getI z.2
      exact ⟨xs, y, z.1, e⟩
    · exact ⟨xs, z.1, z.2⟩
    · exact ⟨y.1, y.2 xs z.1⟩
end
/-! ### enumerate of a tuple -/
set_option maxHeartbeats 1000000 in
theorem meets_enum1 {v : Value} {o : Obj} {H : Heap → Prop} (B : Begins v o H) :
    Meets (Builtin.«enumerate.__new__» ⟨[.type "enumerate", v], []⟩) (fun _ R s => H s.heap ∧
      R (.ok (.ret (.ref (s.heap.push o).objs.size))) { s with heap := (s.heap.push o).push { cls := .type "enumerate", data := .fields #[.none, .bool false, .ref s.heap.objs.size, rawInt 0, .none, .none] } }) :=
  .of_wp fun prog w A R s h => by
    obtain ⟨hp, g, d, tk, os⟩ := s; obtain ⟨h1, h⟩ := h
    have hsub := sub_enumerate
    have q1 : ∀ {A' : Around} {E : Value → Shared → Prop} {Q : Value → Shared → Prop}, Q (.ref hp.objs.size) ⟨hp.push o, g, d, tk, os⟩ → wpAny (model prog w) A' (pyIter v) Q E ⟨hp, g, d, tk, os⟩ :=
      fun q => B.iter prog w _ _ ⟨hp, g, d, tk, os⟩ _ h1 q
    wp_walk using q1
    refine wpAny_stack_any fun st => wpAny_pure ?_
    split
    · rename_i c _ _ _ _ _
      cases (c == Value.type "enumerate")
      · wp_walk using q1
        exact ⟨_, rfl, h⟩
      · wp_walk using q1
        exact ⟨_, rfl, h⟩
    · wp_walk using q1
      exact ⟨_, rfl, h⟩
section
variable {prog : Program} {w : World} {A : Around} {E : Value → Shared → Prop} {s : Shared}
theorem enum1 {v : Value} {o : Obj} {H : Heap → Prop} {Q : Value → Shared → Prop} (B : Begins v o H) (h1 : H s.heap)
    (h : ∀ h', IsEnum h' (s.heap.objs.size + 1) s.heap.objs.size 0 .none → h'.get? s.heap.objs.size = some o → h'.objs.size = s.heap.objs.size + 2 →
      (∀ b o, s.heap.get? b = some o → h'.get? b = some o) → Q (.ref (s.heap.objs.size + 1)) { s with heap := h' }) :
    wpAny (model prog w) A (call (.type "enumerate") [v]) Q E s := by
  refine callType_new F.called_enumerate (by decide) (F.typeCall_enumerate_1 _) (F.newCall_enumerate_1 _) (fun obj => F.args_object_init_2 obj _) F.entry_enumerate_new
    (meets_enum1 B) ⟨h1, ?_⟩
  have hz : (s.heap.push o).objs.size = s.heap.objs.size + 1 := Heap.size_push ..
  show _ ∧ _
  rw [hz]
  have he : IsEnum ((s.heap.push o).push { cls := .type "enumerate", data := .fields #[.none, .bool false, .ref s.heap.objs.size, rawInt 0, .none, .none] }) (s.heap.objs.size + 1) s.heap.objs.size 0 .none := by
    have := Heap.get?_push_size (s.heap.push o) (o := { cls := .type "enumerate", data := .fields #[.none, .bool false, .ref s.heap.objs.size, rawInt 0, .none, .none] }) rfl
    rw [hz] at this; exact this
  refine ⟨⟨_, he, rfl⟩, h _ he (Heap.get?_push_of_some _ (Heap.get?_push_size _ B.free)) (by rw [Heap.size_push, hz]) fun b o x => Heap.get?_push_of_some _ (Heap.get?_push_of_some _ x)⟩
end
theorem turn_enumT {P : Program} {w : World} {K : PySem.W.Frag} {elts : List Expr} {kk : Nat} {tpos : Pos} (a e it : Addr) (xs : List V) :
    Turn P w K (.Tuple elts kk tpos) (ItE xs fun H => SqT K H a xs) [e, it] e (fun i h => (∃ old, IsEnum h e it ((i : Nat) : Int) old) ∧ h.IsTupleIter it a i ∧ e ≠ it) where
  mem := by simp
  obj := fun i h st b hb => by
    obtain ⟨⟨old, he⟩, ⟨o, ho, hc, hd⟩, _⟩ := st
    have e' : b = e ∨ b = it := by simpa using hb
    rcases e' with z | z
    · rw [z]; exact ⟨_, he, fun v q => nomatch q⟩
    · rw [z]; exact ⟨o, ho, fun v q => by rw [hd] at q; cases q⟩
  keep := fun i h h' st k => let ⟨⟨old, he⟩, hi, hne⟩ := st; ⟨⟨old, k e (by simp) _ he⟩, hi.at fun o q => k it (by simp) o q, hne⟩
  item := by
    intro X hP hw hK hc i pins s σ H E I hf st hg
    subst hP hw hK
    obtain ⟨⟨old, he⟩, hit, hne⟩ := st
    obtain ⟨hq, hi⟩ := hg
    obtain ⟨x, hx⟩ := getI hi
    obtain ⟨its, rv, p, hz⟩ := I.tuple hq
    obtain ⟨u, hu, ru⟩ := rv.get hx
    have hel : e < s.heap.objs.size := Heap.lt_size he
    have hil : it < s.heap.objs.size := by obtain ⟨_, q, _⟩ := hit; exact Heap.lt_size q
    have pT : s.heap.IsTuple a its.toArray := p
    have hai : a ≠ it := fun z => by
      obtain ⟨o1, e1, c1, _⟩ := hit
      obtain ⟨o2, e2, c2, _⟩ := pT
      rw [z, e1] at e2
      cases e2
      have q := c1.symm.trans c2
      injection q with q
      exact absurd q (by decide)
    have hae : e ≠ a := fun z => by
      obtain ⟨o2, e2, c2, _⟩ := pT
      have e1 : s.heap.get? e = _ := he
      rw [z, e2] at e1
      have q := congrArg Obj.cls (Option.some.inj e1)
      rw [c2] at q
      injection q with q
      exact absurd q (by decide)
    have D := Draws.tuple (prog := X.prog) (w := X.w) (A := X.A.in1) (I.ok.hd hc) it a hai its.toArray
    have hlt : i < its.toArray.size := by
      have := (List.getElem?_eq_some_iff.mp hu).1
      simpa using this
    refine wpAny_pyNext_enum_itemD D he ⟨hit, pT⟩ hlt hne (by intro z; rcases List.mem_cons.mp z with z | z; exact hne z; rcases List.mem_cons.mp z with z | z; exact hae z; cases z) fun x' h' tk hx' ho st' hT hsz hk => ?_
    have ex : x' = u := by
      have h2 : its.toArray[i]? = some u := by simpa using hu
      rw [h2] at hx'
      exact (Option.some.inj hx').symm
    subst ex
    refine ⟨_, rfl, wpAny_letOwnedTupleGo_enum (s := { s with heap := h', toks := tk + 1 }) ho fun h'' he' sb => ?_⟩
    have hT2 : h''.get? s.heap.objs.size = some { cls := .type "tuple", data := .seq #[.int i tk, x'] } := (sb.2 _ (Nat.ne_of_gt hel)).trans hT
    have new : ObjOk X.prog X.w (upd H s.heap.objs.size (.tup [.int (i : Nat), x])) h'' s.heap.objs.size (.tup [.int (i : Nat), x]) :=
      ⟨by show 2 ≤ sizeLine; decide, [.int i tk, x'], .cons ⟨_, rfl⟩ (.cons ru .nil), ⟨_, hT2, rfl, _, rfl⟩⟩
    have I1 : Inv X pins σ (upd H s.heap.objs.size (.tup [.int (i : Nat), x])) { s with heap := h'', toks := tk + 1 } :=
      I.turnedNew (ch := [e, it]) (fun b ob hb q => (sb.2 b (fun z => hb (by simp [z]))).trans (hk b ob (fun z => hb (by simp [z])) (fun z => hb (by simp [z])) q)) hf (Nat.le_refl _) new
    refine ⟨.ref s.heap.objs.size, _, I1, rfl, ⟨_, x, rfl, I.hok.fresh (Nat.le_refl _), rfl, hx⟩, ⟨⟨x', ?_⟩, st'.1.at fun o q => (sb.2 it (Ne.symm hne)).trans q, hne⟩, fun b hb => ?_⟩
    · have e1 : ((i + 1 : Nat) : Int) = (i : Int) + 1 := by omega
      rw [e1]; exact he'
    · have hb' : b < s.heap.objs.size := by
        have e' : b = e ∨ b = it := by simpa using hb
        rcases e' with z | z
        · rw [z]; exact hel
        · rw [z]; exact hil
      rw [upd_ne (Nat.ne_of_lt hb')]
      exact (hf b hb).1
  done := by
    intro X hP hw hK hc i pins s σ H E I hf st hg
    subst hP hw hK
    obtain ⟨⟨old, he⟩, hit, hne⟩ := st
    obtain ⟨hq, hx⟩ := hg
    obtain ⟨its, rv, p, hz⟩ := I.tuple hq
    obtain ⟨f0, f1, f2, f3, f4, f5⟩ := hf it (by simp)
    have hl := rv.length
    have pT : s.heap.IsTuple a its.toArray := p
    have hh := I.ok.hd hc
    have hT : s.TypeIs (.ref e) "enumerate" := ⟨_, he, rfl⟩
    unfold pyNext
    refine wpAny_bind (wpAny_attempt (wpAny_callSpecial?_slot (name := Str.ofString "__next__") hT F.slot_enumerate_next
      (wpAny_call_entry F.slot_enumerate_next hT F.entry_enumerate_next ?_ (F.args_enumerate_next_1 _))))
    show wpAny _ _ (field (.ref e) 2 >>= _) _ _ _
    refine wpAny_bind (wpAny_field he rfl (x := .ref it) rfl ?_)
    refine wpAny_bind (wpAny_nextOf_tuple_end hh hit pT (by simp; omega) fun h' x he' hx' => ?_)
    obtain ⟨o, ho, hc'⟩ := hx'
    refine wpAny_bind (wpAny_isInstance (T := "StopIteration") (b := true) ⟨o, ho, hc'⟩ isSubtype_stop ?_)
    exact wpAny_pure ⟨rfl, I.turned (t' := s.toks) (fun b o hb q => he' b o hb q) f0 f1 f3 f4 f5⟩
  self := fun A i s Q E st h => let ⟨⟨_, he⟩, _⟩ := st; wpAny_pyIter_enum he h
/-- for i, x in enumerate(e), e a list or a tuple -/
def iEnS (K : PySem.W.Frag) (ta : TA) : TI := fun σ H R => ta σ H fun vs H1 => ∃ a xs, vs = [.ref a] ∧ ((SqL K H1 a xs ∧ R (ItE xs fun H => SqL K H a xs) H1) ∨ (SqT K H1 a xs ∧ R (ItE xs fun H => SqT K H a xs) H1))
theorem pi_enS {X : Cx} {e : Expr} {ta : TA} {p pos tpos : Pos} {elts : List Expr} {kk : Nat} (hm : X.mg "enumerate" = none) (ha : PA X [e] ta) (hg : Gl X "enumerate" := by rfl) (hs : starEach [e] X.env = [(false, eval e X.env)] := by rfl) :
    PI X (.Tuple elts kk tpos) (.Call (.Name "enumerate" p) [e] [] pos) (iEnS X.K ta) := by
  refine ⟨fun pins s σ H R I h => ?_⟩
  refine Call_ (ld_blt I hg hm boot_enumerate (PyProof.Rows.callWith_type1 (thn (ha.run pos pins s σ H _ I h) fun us s1 ⟨vs, H1, I1, r1, q1⟩ => ?_) hs rfl))
  obtain ⟨a, xs, ex, hq⟩ := q1
  subst ex
  cases r1 with
  | cons r rr =>
    cases rr
    cases r
    have fp : ∀ b ∈ [s1.heap.objs.size + 1, s1.heap.objs.size], FpOk X pins H1 b := fun b hb => by
      have e' : b = s1.heap.objs.size + 1 ∨ b = s1.heap.objs.size := by simpa using hb
      have hle : s1.heap.objs.size ≤ b := by
        rcases e' with z | z
        · rw [z]; exact Nat.le_add_right _ _
        · rw [z]; exact Nat.le_refl _
      exact I1.fpOk hle (I1.hok.fresh hle)
    rcases hq with ⟨hq, q⟩ | ⟨hq, q⟩
    · obtain ⟨its, rv, p', hz⟩ := I1.list hq
      refine call_enumerate_list p'.isList fun h' he hit hsz hk => wpAny_pyIter_enum he ?_
      have I2 : Inv X pins σ H1 { s1 with heap := h' } := I1.kept (t' := s1.toks) hk
      refine ⟨s1.heap.objs.size + 1, [s1.heap.objs.size + 1, s1.heap.objs.size], _, _, H1, rfl, I2, (turn_enum a (s1.heap.objs.size + 1) s1.heap.objs.size).imp (fun i H z => ?_) (fun i H z => ?_) (fun i H x H' z y => ?_), ⟨⟨.none, he⟩, hit, Nat.succ_ne_self _⟩, fp, q⟩
      · obtain ⟨y, e⟩ := getI z.2
        exact ⟨xs, y, z.1, e⟩
      · exact ⟨xs, z.1, z.2⟩
      · obtain ⟨T, x1, e1, e2, e3, e4⟩ := y
        exact ⟨T, x1, e1, e2, e3, e4 xs z.1⟩
    · obtain ⟨its, rv, p', hz⟩ := I1.tuple hq
      have pT : s1.heap.IsTuple a its.toArray := p'
      refine enum1 (begins_tuple a its.toArray) pT fun h' he hit hsz hk => wpAny_pyIter_enum he ?_
      have I2 : Inv X pins σ H1 { s1 with heap := h' } := I1.kept (t' := s1.toks) hk
      exact ⟨s1.heap.objs.size + 1, [s1.heap.objs.size + 1, s1.heap.objs.size], _, _, H1, rfl, I2, turn_enumT a (s1.heap.objs.size + 1) s1.heap.objs.size xs, ⟨⟨.none, he⟩, ⟨_, hit, rfl, rfl⟩, Nat.succ_ne_self _⟩, fp, q⟩
/-! ### loops by what holds ahead of the i-th turn -/
theorem for_S {xs : List V} {Z : Hp → Prop} {g : TG} {tb : TS} {D : Ends} {σ : St} {H : Hp} (Pv : Nat → St → Hp → Prop) (h0 : Pv 0 σ H) (hl : ∀ i σ H, i ≤ xs.length → Pv i σ H → Z H)
    (hs : ∀ i x σ H, xs[i]? = some x → Pv i σ H → g x σ H fun σ2 H2 => tb { D with nx := Pv (i + 1), ct := Pv (i + 1), bk := D.nx } σ2 H2) (hd : ∀ σ H, Pv xs.length σ H → D.nx σ H) :
    ∃ W : Nat → Nat → St → Hp → Prop, (∃ m, W 0 m σ H) ∧ ∀ i m σ H, W i m σ H →
      ((ItS xs Z).stop i H ∧ D.nx σ H) ∨ ((ItS xs Z).go i H ∧ ∃ N : St → Hp → Prop, (∀ σ' H', N σ' H' → ∃ m', m' < m ∧ W (i + 1) m' σ' H') ∧ ∀ x H', (ItS xs Z).yld i H x H' → g x σ H' fun σ2 H2 => tb { D with nx := N, ct := N, bk := D.nx } σ2 H2) := by
  refine ⟨fun i m σ H => m = xs.length - i ∧ i ≤ xs.length ∧ Pv i σ H, ⟨xs.length, by simp, Nat.zero_le _, h0⟩, ?_⟩
  rintro i m σ H ⟨rfl, hi, p⟩
  have q := hl i σ H hi p
  by_cases hlt : i < xs.length
  · refine .inr ⟨⟨q, hlt⟩, Pv (i + 1), fun σ' H' p' => ⟨xs.length - (i + 1), by omega, rfl, hlt, p'⟩, fun x H' y => ?_⟩
    obtain ⟨e, y⟩ := y
    subst e
    exact hs i x σ _ y p
  · have e : i = xs.length := by omega
    subst e
    exact .inl ⟨⟨q, Nat.le_refl _⟩, hd σ H p⟩
theorem for_E {xs : List V} {Z : Hp → Prop} {g : TG} {tb : TS} {D : Ends} {σ : St} {H : Hp} (Pv : Nat → St → Hp → Prop) (h0 : Pv 0 σ H) (hl : ∀ i σ H, i ≤ xs.length → Pv i σ H → Z H)
    (hs : ∀ i x σ H T, xs[i]? = some x → Pv i σ H → H T = none → g (.ref T) σ (upd H T (.tup [.int (i : Nat), x])) fun σ2 H2 => tb { D with nx := Pv (i + 1), ct := Pv (i + 1), bk := D.nx } σ2 H2) (hd : ∀ σ H, Pv xs.length σ H → D.nx σ H) :
    ∃ W : Nat → Nat → St → Hp → Prop, (∃ m, W 0 m σ H) ∧ ∀ i m σ H, W i m σ H →
      ((ItE xs Z).stop i H ∧ D.nx σ H) ∨ ((ItE xs Z).go i H ∧ ∃ N : St → Hp → Prop, (∀ σ' H', N σ' H' → ∃ m', m' < m ∧ W (i + 1) m' σ' H') ∧ ∀ x H', (ItE xs Z).yld i H x H' → g x σ H' fun σ2 H2 => tb { D with nx := N, ct := N, bk := D.nx } σ2 H2) := by
  refine ⟨fun i m σ H => m = xs.length - i ∧ i ≤ xs.length ∧ Pv i σ H, ⟨xs.length, by simp, Nat.zero_le _, h0⟩, ?_⟩
  rintro i m σ H ⟨rfl, hi, p⟩
  have q := hl i σ H hi p
  by_cases hlt : i < xs.length
  · refine .inr ⟨⟨q, hlt⟩, Pv (i + 1), fun σ' H' p' => ⟨xs.length - (i + 1), by omega, rfl, hlt, p'⟩, fun x H' y => ?_⟩
    obtain ⟨T, x1, e1, e2, e3, e4⟩ := y
    subst e1
    subst e3
    exact hs i x1 σ _ T e4 p e2
  · have e : i = xs.length := by omega
    subst e
    exact .inl ⟨⟨q, Nat.le_refl _⟩, hd σ H p⟩
/-- a list comprehension over such -/
theorem lc_S {xs : List V} {Z : Hp → Prop} {g : TG} {tt : TT} {te : TE} {vs : List Nat} {σ : St} {H1 : Hp} {D : Addr} {Qd : Hp → Prop} (Pv : Nat → Hp → Prop) (h0 : Pv 0 (upd H1 D (.lst []))) (hl : ∀ i H, i ≤ xs.length → Pv i H → Z H)
    (hs : ∀ i x H, xs[i]? = some x → Pv i H → g x (wipe σ vs) H fun σ2 H2 => wipe σ2 vs = wipe σ vs ∧ tt σ2 H2 fun b H3 =>
      if b = true then te σ2 H3 fun y H4 => ∃ acc, H4 D = some (.lst acc) ∧ acc.length < sizeLine ∧ Pv (i + 1) (upd H4 D (.lst (acc ++ [y]))) else Pv (i + 1) H3) (hd : ∀ H, Pv xs.length H → Qd H) :
    ∃ W : Nat → Nat → Hp → Prop, (∃ m, W 0 m (upd H1 D (.lst []))) ∧ ∀ i m H, W i m H →
      ((ItS xs Z).stop i H ∧ Qd H) ∨ ((ItS xs Z).go i H ∧ ∃ Nx : Hp → Prop, (∀ H', Nx H' → ∃ m', m' < m ∧ W (i + 1) m' H') ∧ ∀ x H', (ItS xs Z).yld i H x H' → g x (wipe σ vs) H' fun σ2 H2 => wipe σ2 vs = wipe σ vs ∧ tt σ2 H2 fun b H3 =>
        if b = true then te σ2 H3 fun y H4 => ∃ acc, H4 D = some (.lst acc) ∧ acc.length < sizeLine ∧ Nx (upd H4 D (.lst (acc ++ [y]))) else Nx H3) := by
  refine ⟨fun i m H => m = xs.length - i ∧ i ≤ xs.length ∧ Pv i H, ⟨xs.length, by simp, Nat.zero_le _, h0⟩, ?_⟩
  rintro i m H ⟨rfl, hi, p⟩
  have q := hl i H hi p
  by_cases hlt : i < xs.length
  · refine .inr ⟨⟨q, hlt⟩, Pv (i + 1), fun H' p' => ⟨xs.length - (i + 1), by omega, rfl, hlt, p'⟩, fun x H' y => ?_⟩
    obtain ⟨e, y⟩ := y
    subst e
    exact hs i x _ y p
  · have e : i = xs.length := by omega
    subst e
    exact .inl ⟨⟨q, Nat.le_refl _⟩, hd H p⟩
end L2
set_option Elab.async false
set_option linter.all false
set_option maxRecDepth 100000
set_option maxHeartbeats 4000000
/-! HKDict: dict comprehensions whose keys are tuples; d.update(d2); list(d.values()). -/
namespace L2
open PySem PySem.Spec PyProof.Rows
theorem d_dictSetT {X : Cx} {pins : List (Addr × Obj)} {σ : St} {H : Hp} {s : Shared} {E : Value → Shared → Prop} {D b : Addr} {kvs : List (List Key × V)} {k : List Key} {v : V} {u r : Value} {Q : Unit → Shared → Prop} (hu : X.A.units + 1 < cLine) (I : Inv X pins σ H s) (hD : H D = some (.dT kvs)) (hz : kvs.length < sizeLine)
    (eb : H b = some (.tup (k.map kV))) (ry : RelV (.ref b) u) (rv : RelV v r) (h : ∀ s', Inv X pins σ (upd H D (.dT (putK kvs k v))) s' → Q () s') : wpAny (model X.prog X.w) X.A (dictSet D u r) Q E s := by
  cases (show u = Value.ref b from ry)
  obtain ⟨z, hd, xs, rel, dd⟩ := dt_of I.hok hD
  have hzv : xs.length ≤ sizeLine := by rw [← Paired.length rel]; exact z
  have hl : (putK kvs k v).length ≤ sizeLine := by have := length_putK kvs k v; omega
  refine wpAny_dictSet_heap (hsz := hzv) (show X.A.units < cLine by omega) (key_of I.hok eb) dd fun h' dd' hs => h _ ?_
  obtain ⟨q, es, ep, hq, h2, h3, h4, _, h5⟩ := dd'
  refine d_write I (by rw [hD]; exact True.intro) hs ⟨q, hq⟩ ⟨hl, hd, _, (rel.put k eb rv).keeps fun c ys ec => ?_, q, es, ep, hq, h2, h3, h4, h5⟩
  rw [upd_ne (ne_of ec hD (fun z => nomatch z))]
  exact ec
section
variable {X : Cx}
def tDcT (wi : TI) (g : TG) (tt : TT) (tk tv : TE) (vs : List Nat) : TE := fun σ H Q => wi σ H fun J H1 => ∀ D, H1 D = none → ∃ W : Nat → Nat → Hp → Prop, (∃ m, W 0 m (upd H1 D (.dT []))) ∧ ∀ i m H, W i m H →
  (J.stop i H ∧ Q (.ref D) H) ∨ (J.go i H ∧ ∃ Nx : Hp → Prop, (∀ H', Nx H' → ∃ m', m' < m ∧ W (i + 1) m' H') ∧ ∀ x H', J.yld i H x H' → g x (wipe σ vs) H' fun σ2 H2 => wipe σ2 vs = wipe σ vs ∧ tt σ2 H2 fun b H3 =>
    if b = true then tk σ2 H3 fun y H4 => tv σ2 H4 fun z H5 => ∃ (kvs : List (List Key × V)) (k : List Key) (b : Addr), y = .ref b ∧ H5 b = some (.tup (k.map kV)) ∧ H5 D = some (.dT kvs) ∧ kvs.length < sizeLine ∧ Nx (upd H5 D (.dT (putK kvs k z))) else Nx H3)
theorem dcT_core {pins : List (Addr × Obj)} {s : Shared} {σ : St} {H : Hp} {Q : VK} {kx vx tg iter : Expr} {ifs : List Expr} {scope : Scope} {own : List (Str × Nat)} {pos pos' : Pos} {wi : TI} {g : TG} {tt : TT} {tk tv : TE} {use : Option (Value → Sem Unit)} {Qf : Value → Shared → Prop}
    (hu : X.A.units + 1 < cLine) (hc : X.calm = true) (hN : X.N.Nodup) (I : Inv X pins σ H s) (hi : PI X tg iter wi) (ok : BlkOk X.N X.env.scope scope own)
    (hg : ∀ (s : Shared) (H : Hp) (C : Addr) (cl : List (Str × Addr)) (fp : List Addr), PG (X.blk s H scope (compEnvC scope cl C X.env) fp) tg g) (ht : ∀ (s : Shared) (H : Hp) (C : Addr) (cl : List (Str × Addr)) (fp : List Addr), PTs (X.blk s H scope (compEnvC scope cl C X.env) fp) ifs tt)
    (hk : ∀ (s : Shared) (H : Hp) (C : Addr) (cl : List (Str × Addr)) (fp : List Addr), PE (X.blk s H scope (compEnvC scope cl C X.env) fp) kx tk)
    (he : ∀ (s : Shared) (H : Hp) (C : Addr) (cl : List (Str × Addr)) (fp : List Addr), PE (X.blk s H scope (compEnvC scope cl C X.env) fp) vx tv) (hs : ∀ x, foldedSetIterable iter X.env x = pure x)
    (h : tDcT wi g tt tk tv (own.map (·.2)) σ H Q)
    (hRR : ∀ D C s' m H', Inv X pins σ H' s' → Q (.ref D) H' → s'.heap.Ns C m → FpOk X pins H' C → compPost (model X.prog X.w) X.A X.xe use Qf (.ref D) C (.ok .next) s') :
    wpAny (model X.prog X.w) X.A (comprehension (.DictComp kx vx [⟨tg, iter, ifs, 0⟩] scope pos) scope X.env pos' newDict false (eval iter X.env) use) Qf X.xe s := by
  have hfree : ∀ y ∈ scope.names, y.2 = .free → ∃ c, X.env.cells.lookup y.1 = some c := fun y hy e => by
    rcases ok.free y hy e with k | k
    · exact I.ok.has _ (.inl k)
    · exact I.ok.has _ (.inr k)
  refine wpAny_comprehension_free (use := use) rfl hs (closure_ok hfree) ok.kind (fun y hy e => by rw [ok.uniq y hy, e])
    (thn (hi.run pins s σ H _ I h) fun xv s1 hx => thn hx fun itv s2 h2 => ?_)
  obtain ⟨it, fp, tn, J, H2, e, I2, T, st2, f2, q⟩ := h2
  subst e
  refine wpAny_newObj_type (newEnv_comp ?_)
  generalize hD : s2.heap.objs.size = D
  have hDn : H2 D = none := I2.hok.fresh (Nat.le_of_eq hD)
  obtain ⟨W, ⟨m0, w0⟩, turn⟩ := q D hDn
  -- the new list
  generalize hs3 : ({ s2 with heap := s2.heap.push { cls := .type "dict", data := .dict #[] } } : Shared) = s3
  have I3 : Inv X pins σ (upd H2 D (.dT [])) s3 := by
    rw [← hs3]
    refine I2.laid (t' := s2.toks) (fun b o e => Heap.get?_push_of_some _ e) (Nat.le_of_eq hD) ?_
    rw [← hD]
    exact dt_empty s2.heap I2.big
  have h3 : s3.heap = s2.heap.push { cls := .type "dict", data := .dict #[] } := by rw [← hs3]
  have sz : ∀ b ∈ fp, b < s2.heap.objs.size := fun b hb => by
    obtain ⟨o, e, _⟩ := T.obj _ _ st2 b hb
    exact Heap.lt_size e
  have f3 : ∀ b ∈ fp, FpOk X pins (upd H2 D (.dT [])) b ∧ b < s3.heap.objs.size := fun b hb => by
    have hlt := sz b hb
    refine ⟨⟨?_, (f2 b hb).2⟩, by rw [h3, Heap.size_push]; exact Nat.lt_succ_of_lt hlt⟩
    rw [upd_ne (by rw [← hD]; exact Nat.ne_of_lt hlt)]
    exact (f2 b hb).1
  have st3 : tn 0 s3.heap := T.keep _ _ _ st2 fun b _ o e => by rw [h3]; exact Heap.get?_push_of_some _ e
  have I4 := block_start I3 ok hN f3
  have pg := hg s3 (upd H2 D (.dT [])) s3.heap.objs.size (cellsFrom (s3.heap.objs.size + 1) scope.names (cloFrom X.env.cells scope.names [])) fp
  have pt := ht s3 (upd H2 D (.dT [])) s3.heap.objs.size (cellsFrom (s3.heap.objs.size + 1) scope.names (cloFrom X.env.cells scope.names [])) fp
  have pk := hk s3 (upd H2 D (.dT [])) s3.heap.objs.size (cellsFrom (s3.heap.objs.size + 1) scope.names (cloFrom X.env.cells scope.names [])) fp
  have pe := he s3 (upd H2 D (.dT [])) s3.heap.objs.size (cellsFrom (s3.heap.objs.size + 1) scope.names (cloFrom X.env.cells scope.names [])) fp
  show codeAny _ _ (.compStart (.DictComp kx vx [⟨tg, iter, ifs, 0⟩] scope pos) 0 (.ref it) (.ref D) (compEnvC scope (cellsFrom (s3.heap.objs.size + 1) scope.names (cloFrom X.env.cells scope.names [])) s3.heap.objs.size X.env)) (compPost (model X.prog X.w) X.A X.xe use Qf (.ref D) s3.heap.objs.size) { s3 with heap := pushCells (s3.heap.push { cls := .type "dict", data := .dict #[] }) scope.names }
  have nfp : ∀ b ∈ fp, (upd H2 D (.dT [])) b = none := fun b hb => (f3 b hb).1.1
  generalize hce : compEnvC scope (cellsFrom (s3.heap.objs.size + 1) scope.names (cloFrom X.env.cells scope.names [])) s3.heap.objs.size X.env = ce at I4 pg pt pk pe ⊢
  have cL : ce.locals = s3.heap.objs.size := by subst hce; rfl
  generalize hH3 : upd H2 D (.dT []) = H3 at I3 I4 pg pt pk pe w0 nfp f3
  generalize hs4 : ({ s3 with heap := pushCells (s3.heap.push { cls := .type "dict", data := .dict #[] }) scope.names } : Shared) = s4 at I4 ⊢
  have st4 : tn 0 s4.heap := T.keep _ _ _ st3 fun b _ o e => by rw [← hs4]; exact pushCells_keeps _ _ _ _ (Heap.get?_push_of_some _ e)
  have stat : ∀ {σ' : St} {H' : Hp} {s' : Shared}, Inv (X.blk s3 H3 scope ce fp) [] σ' H' s' → (∀ b ∈ fp, H' b = none) → ∀ b ∈ fp, FpOk (X.blk s3 H3 scope ce fp) [] H' b := fun {σ' H' s'} I' hn b hb =>
    ⟨hn b hb, (I'.ok.exf b hb).1, I'.ok.exfs b hb, .inl hb, fun x c e => (I'.ok.exf b hb).2 x c e, fun p hp => absurd (show p ∈ ([] : List (Addr × Obj)) ++ [] from hp) (by simp)⟩
  have loop : codeAny (model X.prog X.w) X.A (.compLoop (.DictComp kx vx [⟨tg, iter, ifs, 0⟩] scope pos) 0 (.ref it) (.ref D) ce) (compPost (model X.prog X.w) X.A X.xe use Qf (.ref D) s3.heap.objs.size) s4 := by
    refine compLoop_anyD (fun n s' => ∃ i H', Inv (X.blk s3 H3 scope ce fp) [] (wipe σ (own.map (·.2))) H' s' ∧ tn i s'.heap ∧ (∀ b ∈ fp, H' b = none) ∧ W i n H') ?_ m0 ⟨0, H3, I4, st4, nfp, w0⟩
    rintro n s5 ⟨i, H5, I5, st5, n5, w5⟩
    rcases turn i n H5 w5 with ⟨stop, qq⟩ | ⟨go, Nx, hNx, step⟩
    · have td := T.done (X.blk s3 H3 scope ce fp) rfl rfl rfl hc i [] s5 _ H5 (fun _ _ => False) I5 (stat I5 n5) st5 stop
      refine thnF td fun r s6 ⟨hr, I6⟩ => ?_
      subst hr
      -- back in the def's context
      have I7 : Inv X pins σ H5 s6 := I3.call' (ch := fp) I6.os I6.base I6.hok I6.bare fun b hb => ⟨(f3 b hb).1.2.2.2.1, (f3 b hb).1.2.1, (f3 b hb).1.2.2.2.2.1, (f3 b hb).1.2.2.2.2.2⟩
      have nC : H5 s3.heap.objs.size = none := by
        have z : H5 ce.locals = none := I6.free
        rw [cL] at z
        exact z
      obtain ⟨m, hn, _⟩ := I6.loc
      have hn : s6.heap.Ns ce.locals m := hn
      rw [cL] at hn
      exact hRR D s3.heap.objs.size s6 m H5 I7 qq hn (I3.fpOk (Nat.le_refl _) nC)
    · have ti := T.item (X.blk s3 H3 scope ce fp) rfl rfl rfl hc i [] s5 _ H5 (fun _ _ => False) I5 (stat I5 n5) st5 go
      refine thnF ti fun r s6 ⟨u, hr, h6⟩ => ?_
      subst hr
      refine thnF h6 fun _ s7 ⟨x, H7, I7, r7, y7, st7, n7⟩ => ?_
      have I7' := I7.pinned (stat I7 n7) (T.obj _ _ st7)
      refine thnF (pg.run _ s7 _ H7 x u _ I7' r7 (step x H7 y7)) fun _ s8 ⟨σ8, H8, I8, hw8, q8⟩ => ?_
      refine thnF (pt.run _ s8 σ8 H8 _ I8 q8) fun b s9 ⟨H9, I9, q9⟩ => ?_
      -- the turn's end
      have fin : ∀ {s' : Shared} {H' : Hp}, Inv (X.blk s3 H3 scope ce fp) ([] ++ pinsAt fp s7.heap) σ8 H' s' → Nx H' → ∃ m, m < n ∧ ∃ i H', Inv (X.blk s3 H3 scope ce fp) [] (wipe σ (own.map (·.2))) H' s' ∧ tn i s'.heap ∧ (∀ b ∈ fp, H' b = none) ∧ W i m H' := fun {s' H'} I' nx => by
        obtain ⟨m', hm, w'⟩ := hNx H' nx
        have pin' : ∀ b ∈ fp, ∀ o, s7.heap.get? b = some o → s'.heap.get? b = some o ∧ H' b = none := fun b hb o e =>
          let z := I'.pin (b, o) (List.mem_append_right _ (List.mem_append_right _ (mem_pinsAt hb e)))
          ⟨z.1, z.2.1⟩
        have hl : (wipe σ (own.map (·.2))).length = σ8.length := by rw [← hw8, wipe_length]
        refine ⟨m', hm, i + 1, H', (I'.unpinned (pins := [])).weak hl (fun j v e => ?_), T.keep _ _ _ st7 fun b hb o e => (pin' b hb o e).1, fun b hb => ?_, w'⟩
        · rw [← hw8] at e
          exact (wipe_some e).1
        · obtain ⟨o, e, _⟩ := T.obj _ _ st7 b hb
          exact (pin' b hb o e).2
      cases b with
      | false =>
        simp only [Bool.false_eq_true, if_false] at q9 ⊢
        exact fin I9 q9
      | true =>
        simp only [if_true] at q9 ⊢
        refine thnF (pk.run _ s9 σ8 H9 _ I9 q9) fun z s10 ⟨yk, H10, I10, r10, q10⟩ => ?_
        refine thnF (pe.run _ s10 σ8 H10 _ I10 q10) fun z2 s11 ⟨yv, H11, I11, r11, kvs, k, kb, ek, hkb, hD11, hz11, nx⟩ => ?_
        subst ek
        exact d_dictSetT (X := X.blk s3 H3 scope ce fp) hu I11 hD11 hz11 hkb r10 r11 fun s12 I12 => fin I12 nx
  exact codeAny_compStart_dict loop (T.self X.A 0 _ _ _ st4 loop)
/-- as a value -/
theorem pe_dcT {kx vx tg iter : Expr} {ifs : List Expr} {scope : Scope} {own : List (Str × Nat)} {pos : Pos} {wi : TI} {g : TG} {tt : TT} {tk tv : TE} (hu : X.A.units + 1 < cLine) (hc : X.calm = true) (hN : X.N.Nodup) (hi : PI X tg iter wi) (ok : BlkOk X.N X.env.scope scope own)
    (hg : ∀ (s : Shared) (H : Hp) (C : Addr) (cl : List (Str × Addr)) (fp : List Addr), PG (X.blk s H scope (compEnvC scope cl C X.env) fp) tg g) (ht : ∀ (s : Shared) (H : Hp) (C : Addr) (cl : List (Str × Addr)) (fp : List Addr), PTs (X.blk s H scope (compEnvC scope cl C X.env) fp) ifs tt)
    (hk : ∀ (s : Shared) (H : Hp) (C : Addr) (cl : List (Str × Addr)) (fp : List Addr), PE (X.blk s H scope (compEnvC scope cl C X.env) fp) kx tk)
    (he : ∀ (s : Shared) (H : Hp) (C : Addr) (cl : List (Str × Addr)) (fp : List Addr), PE (X.blk s H scope (compEnvC scope cl C X.env) fp) vx tv) (hs : ∀ x, foldedSetIterable iter X.env x = pure x := by intro _; rfl) :
    PE X (.DictComp kx vx [⟨tg, iter, ifs, 0⟩] scope pos) (tDcT wi g tt tk tv (own.map (·.2))) := by
  refine ⟨fun pins s σ H Q I h => ?_⟩
  rw [arm_eval_DictComp]
  refine dcT_core hu hc hN I hi ok hg ht hk he hs h fun D C s' m H' I' q hn f => ⟨m, hn, fun h'' sb => ?_⟩
  obtain ⟨f0, f1, f2, f3, f4, f5⟩ := f
  exact ⟨.ref D, H', I'.turned (t' := s'.toks) (fun b o hb e => (sb.2 b hb).trans e) f0 f1 f3 f4 f5, rfl, q⟩
end

/-! ### d.update(d2) -/
def mergeT (kvs more : List (List Key × V)) : List (List Key × V) := more.foldl (fun acc kv => putK acc kv.1 kv.2) kvs
theorem length_mergeT : ∀ (more kvs : List (List Key × V)), (mergeT kvs more).length ≤ kvs.length + more.length
  | [], kvs => Nat.le_refl _
  | p :: r, kvs => by
    have h1 := length_mergeT r (putK kvs p.1 p.2)
    have h2 := length_putK kvs p.1 p.2
    show (mergeT (putK kvs p.1 p.2) r).length ≤ kvs.length + (r.length + 1)
    omega
theorem KT.merge {H : Hp} : ∀ {more : List (List Key × V)} {rs : List (List Key × Addr × Value)} {kvs : List (List Key × V)} {vs : List (List Key × Addr × Value)}, KT H more rs → KT H kvs vs → KT H (mergeT kvs more) (storedAllH vs rs) := by
  intro more rs kvs vs r
  unfold KT at r
  induction r generalizing kvs vs with
  | nil => intro q; exact q
  | @cons p q ps qs h t ih =>
    intro z
    obtain ⟨h1, h2, h3⟩ := h
    show KT H (mergeT (putK kvs p.1 p.2) ps) (storedAllH (storedH vs q.1 q.2.1 q.2.2) qs)
    rw [← h1]
    exact ih (z.put p.1 h2 h3)
theorem KT.hash {H : Hp} {f : List Key → Int} {kvs : List (List Key × V)} {xs : List (List Key × Addr × Value)} (r : KT H kvs xs) : (xs.map fun x => f x.1) = kvs.map fun p => f p.1 := by
  unfold KT at r
  induction r with
  | nil => rfl
  | @cons p q ps qs h t ih => rw [List.map_cons, List.map_cons, ih, h.1]
theorem KT.tups {H : Hp} {kvs : List (List Key × V)} {xs : List (List Key × Addr × Value)} (r : KT H kvs xs) : ∀ x ∈ xs, ∃ ys, H x.2.1 = some (.tup ys) := by
  unfold KT at r
  induction r with
  | nil => intro x hx; cases hx
  | @cons p q ps qs h t ih =>
    intro x hx
    rcases List.mem_cons.mp hx with e | hx
    · rw [e]
      exact ⟨_, h.2.1⟩
    · exact ih x hx
def rUpdT (P : Program) (w : World) : V → List V → Hp → VK → Prop := fun x xs H Q => ∃ (a o : Addr) (kvs more : List (List Key × V)), x = .ref a ∧ xs = [.ref o] ∧ H a = some (.dT kvs) ∧ H o = some (.dT more) ∧ a ≠ o ∧
  (kvs ≠ [] ∨ (more.map fun p => tupleKeyHash (mixKind P w) p.1).Nodup) ∧ kvs.length + more.length ≤ sizeLine ∧ Q .non (upd H a (.dT (mergeT kvs more)))
def rUpdK : V → List V → Hp → VK → Prop := fun x xs H Q => ∃ (a o : Addr) (kvs more : List (Key × V)), x = .ref a ∧ xs = [.ref o] ∧ H a = some (.dK kvs) ∧ H o = some (.dK more) ∧ a ≠ o ∧ kvs.length + more.length ≤ sizeLine ∧ Q .non (upd H a (.dK (mergeK kvs more)))
section
variable {X : Cx}
theorem mt_updT (hu : X.A.units + 1 < cLine) : MtR X "dict.update" (rUpdT X.prog X.w) := by
  intro pins s σ H x xs v us Q I rx rxs h
  obtain ⟨a, o, kvs, more, rfl, rfl, ha, ho, hne, hap, hsz, q⟩ := h
  cases rx
  obtain ⟨u1, rfl, r1⟩ := Vals.one rxs
  cases r1
  obtain ⟨z, hd, x1, rel, dd⟩ := dt_of I.hok ha
  obtain ⟨z2, hd2, x2, rel2, dd2⟩ := dt_of I.hok ho
  have l1 : kvs.length = x1.length := Paired.length rel
  have l2 : more.length = x2.length := Paired.length rel2
  have hap' : x1 ≠ [] ∨ ((∀ x ∈ x2, s.TypeIs (.ref x.2.1) "tuple") ∧ (x2.map fun x => (tupleKind (mixKind X.prog X.w)).hash x.1).Nodup) := by
    rcases hap with h | h
    · refine .inl fun e => h ?_
      rw [e] at l1
      exact List.length_eq_zero_iff.mp l1
    · refine .inr ⟨fun x hx => ?_, ?_⟩
      · obtain ⟨ys, hy⟩ := rel2.tups x hx
        obtain ⟨_, its, r, ob, h1, h2, _⟩ := (show ObjOk X.prog X.w H s.heap x.2.1 (.tup ys) from I.hok _ _ hy)
        exact ⟨ob, h1, h2⟩
      · have e : (x2.map fun x => (tupleKind (mixKind X.prog X.w)).hash x.1) = more.map fun p => tupleKeyHash (mixKind X.prog X.w) p.1 := rel2.hash (f := fun k => tupleKeyHash (mixKind X.prog X.w) k)
        rw [e]
        exact h
  refine call_update_dictH (knd := tupleKind (mixKind X.prog X.w)) (tupleKind_room_in1 hu) hne hd2 dd dd2 hap' (by omega) fun h' dd' _ hs => ?_
  obtain ⟨ob, es, ep, hq, h2, h3, h4, _, h5⟩ := dd'
  have I2 : Inv X pins σ (upd H a (.dT (mergeT kvs more))) { s with heap := h', toks := s.toks } :=
    d_write I (by rw [ha]; exact True.intro) hs ⟨ob, hq⟩ ⟨Nat.le_trans (length_mergeT more kvs) hsz, hd, _, (rel2.merge rel).keeps (fun c ys ec => (by rw [upd_ne (ne_of ec ha (fun z => nomatch z))]; exact ec)), ob, es, ep, hq, h2, h3, h4, h5⟩
  exact ⟨.non, _, I2, rfl, q⟩
theorem mt_updK : MtR X "dict.update" rUpdK := by
  intro pins s σ H x xs v us Q I rx rxs h
  obtain ⟨a, o, kvs, more, rfl, rfl, ha, ho, hne, hsz, q⟩ := h
  cases rx
  obtain ⟨u1, rfl, r1⟩ := Vals.one rxs
  cases r1
  obtain ⟨z, hd, x1, rel, dd⟩ := dk_of I.hok ha
  obtain ⟨z2, hd2, x2, rel2, dd2⟩ := dk_of I.hok ho
  have l1 : kvs.length = x1.length := Paired.length rel
  have l2 : more.length = x2.length := Paired.length rel2
  refine call_meetsIn PySem.F.slot_dict_update dd.typeIs PySem.F.entry_dict_update (PySem.F.args_dict_update_2 _ _) (meets_dict_update (mixKind X.prog X.w) a o hne hd2) ⟨x1, x2, dd, dd2, by omega, fun h' dd' _ hs => ?_⟩
  have he : ∃ qq, h'.get? a = some qq := let ⟨qq, _, _, hq, _⟩ := dd'; ⟨qq, hq⟩
  have I2 : Inv X pins σ (upd H a (.dK (mergeK kvs more))) { s with heap := h', toks := s.toks } :=
    d_write I (by rw [ha]; exact True.intro) hs he (dk_new (Nat.le_trans (length_mergeK more kvs) hsz) hd (rel2.merge rel) dd')
  exact ⟨.non, _, I2, rfl, q⟩
end
end L2
set_option Elab.async false
set_option linter.all false
set_option maxRecDepth 100000
set_option maxHeartbeats 4000000
/-! HKSeq: sorted of a list or a tuple of ints; list(d.values()) of a dict whose keys are tuples. -/
namespace SrtO
open PySem PySem.Spec PyProof.Rows L2
section
variable {prog : Program} {w : World} {A : Around} {E : Value → Shared → Prop} {s : Shared}
theorem collect_tup {l : Addr} {vs : List Value} {Q : List Value → Shared → Prop} (hl : s.heap.IsTuple l vs.toArray)
    (h : Q vs { s with heap := (s.heap.push (seqObj "list" #[] 0)).update s.heap.objs.size (Obj.mapSeq (· ++ vs.toArray)) }) (hsz : vs.length ≤ sizeLine) :
    wpAny (model prog w) A (collect (.ref l)) Q E s := by
  obtain ⟨o, ho, hc, n, hd⟩ := id hl
  unfold collect
  refine wpAny_bind (wpAny_runValue (codeAny_builtin entry_proto_collect' ?_))
  show wpAny _ _ (do again (.builtin "list.__iadd__" ⟨[← newList [], .ref l], []⟩)) _ _ s
  refine wpAny_bind (wpAny_newList (wpAny_pure ⟨Code.quiet_builtin _ (by decide +kernel), codeAny_builtin entry_list_iadd' ?_⟩))
  show wpAny _ _ (Builtin.List.listExtendWith (.ref s.heap.objs.size) (.ref l) (.ref s.heap.objs.size)) _ _ { s with heap := s.heap.push (seqObj "list" #[] 0) }
  unfold Builtin.List.listExtendWith
  have ho' : (s.heap.push (seqObj "list" #[] 0)).get? l = some o := Heap.get?_push_of_some _ ho
  refine wpAny_bind (wpAny_typeOf (T := "tuple") ⟨o, ho', hc⟩ ?_)
  have ht : (Value.type "tuple" == Value.type "tuple") = true := by rfl
  rw [if_pos (by rw [ht]; simp)]
  refine wpAny_bind (listItems_at ho' hd ?_)
  refine wpAny_bind (listItems_at (xs := #[]) (n := 0) (Heap.get?_push_size _ rfl) rfl ?_)
  rw [if_neg (by simp)]
  refine wpAny_bind (listUpdate_at (xs := #[]) (n := 0) (Heap.get?_push_size _ rfl) rfl ?_ (Nat.zero_le _) (by show (#[] ++ vs.toArray).size ≤ sizeLine + 1; simp only [Array.size_append, List.size_toArray, List.length_nil]; omega))
  refine wpAny_pure ?_
  show wpAny (model prog w) A (do
      let o ← load s.heap.objs.size
      match o.data with
      | .seq xs _ => pure xs.toList
      | _ => unsupported "internal:collect") Q E { s with heap := (s.heap.push (seqObj "list" #[] 0)).update s.heap.objs.size (Obj.mapSeq (· ++ vs.toArray)) }
  refine wpAny_bind (wpAny_load (get?_update_seq (Heap.get?_push_size _ rfl) _) ?_)
  show wpAny _ _ (pure ((#[] : Array Value) ++ vs.toArray).toList) Q E _
  rw [show ((#[] : Array Value) ++ vs.toArray).toList = vs by simp]
  exact wpAny_pure h
theorem sorted_ordT {l : Addr} {vs : List Value} {ltv : Value → Value → Bool} {Q : Value → Shared → Prop} (O : Swo ltv) (hl : s.heap.IsTuple l vs.toArray) (hz : vs.length ≤ sizeLine)
    (hS : 2 ≤ vs.length → ∀ (h₁ : Heap) (a : Addr), h₁.get? a = some (seqObj "list" vs.toArray 0) → (∀ b o, s.heap.get? b = some o → b ≠ a ∧ h₁.get? b = some o) → SortableO prog w A.in1.in1 { s with heap := h₁ } a vs ltv)
    (h : ∀ out : List Value, Srtd ltv out → Stb ltv out vs → Q (.ref (s.heap.objs.size + 1)) { s with heap := sortedAll s.heap vs out.toArray }) :
    wpAny (model prog w) A (call (.builtin "sorted") [.ref l]) Q E s := by
  refine Calls.call_function_entry kind_sorted plain_sorted entry_sorted (args_sorted1 _) ?_
  unfold Builtin.«sorted»
  refine wpAny_bind (m := checkCount "sorted" 1 1 _) (wpAny_pure ?_)
  refine wpAny_bind (collect_tup hl ?_ hz)
  refine wpAny_bind (wpAny_newList ?_ hz)
  have hsz : ((s.heap.push (seqObj "list" #[] 0)).update s.heap.objs.size (Obj.mapSeq (· ++ vs.toArray))).objs.size = s.heap.objs.size + 1 := by
    rw [Heap.size_update, size_push']
  have hoL : (((s.heap.push (seqObj "list" #[] 0)).update s.heap.objs.size (Obj.mapSeq (· ++ vs.toArray))).push (seqObj "list" vs.toArray 0)).get? (s.heap.objs.size + 1) = some (seqObj "list" vs.toArray 0) := by
    rw [← hsz]; exact Heap.get?_push_size _ rfl
  have keep : ∀ b o, s.heap.get? b = some o → b ≠ s.heap.objs.size + 1 ∧ (((s.heap.push (seqObj "list" #[] 0)).update s.heap.objs.size (Obj.mapSeq (· ++ vs.toArray))).push (seqObj "list" vs.toArray 0)).get? b = some o := fun b o q => by
    have hlt : b < s.heap.objs.size := Heap.lt_size q
    refine ⟨Nat.ne_of_lt (Nat.lt_succ_of_lt hlt), Heap.get?_push_of_some _ ?_⟩
    rw [Heap.get?_update_ne _ _ _ _ (Nat.ne_of_lt hlt)]
    exact Heap.get?_push_of_some _ q
  show wpAny _ _ _ _ _ { s with heap := ((s.heap.push (seqObj "list" #[] 0)).update s.heap.objs.size (Obj.mapSeq (· ++ vs.toArray))).push (seqObj "list" vs.toArray 0) }
  rw [hsz]
  refine wpAny_bind (wpAny_holding (wpAny_call_entry slot_list_sort ⟨_, hoL, rfl⟩ entry_list_sort (list_sort_ord O hoL hz (fun h2 => hS h2 _ _ hoL keep) fun out hs hb => ⟨_, rfl, ?_⟩) (args_list_sort _)))
  exact wpAny_pure ⟨_, rfl, h out hs hb⟩
end
end SrtO
namespace L2
open PySem PySem.Spec PyProof.Rows
/-- sorted(xs), xs a list or a tuple of ints -/
def rSortedA (K : PySem.W.Frag) : List V → Hp → VK → Prop := fun vs H Q => ∃ (a : Addr) (ns : List Int), vs = [V.ref a] ∧ SqA K H a (ns.map V.int) ∧ ∀ (ns' : List Int) (p : Addr), ns'.Perm ns → ns'.Pairwise (· ≤ ·) → H p = none → Q (.ref p) (upd H p (.lst (ns'.map V.int)))
/-- list(d.values()) -/
def tListVals (te : TE) : TE := fun σ H Q => te σ H fun x H1 => ∃ (d : Addr) (kvs : List (List Key × V)), x = .ref d ∧ H1 d = some (.dT kvs) ∧ ∀ p, H1 p = none → Q (.ref p) (upd H1 p (.lst (kvs.map (·.2))))
section
variable {X : Cx}
theorem cr_sortedA : CallR X (.builtin "sorted") (rSortedA X.K) := by
  intro pins s σ H vs us Q I r h
  obtain ⟨a, ns, rfl, hs, q⟩ := h
  rcases hs with hs | hs
  · exact cr_sortedI pins s σ H _ us Q I r ⟨a, ns, rfl, hs, q⟩
  · obtain ⟨its, rv, hl, hz⟩ := I.tuple hs
    rw [Vals.ref1 r]
    have hi := rv.ints
    refine SrtO.sorted_ordT SrtO.swo_int (show s.heap.IsTuple a its.toArray from hl) (by rw [← rv.length]; exact hz) (fun h2 h₁ a' _ _ => SrtO.ints_sortable hi h2) fun out h1 h2 => ?_
    obtain ⟨k1, k2, k3⟩ := SrtO.ints_out hi h1 h2
    obtain ⟨ep, he'⟩ := PyProof.Rows.sortedAll_at s.heap its out.toArray
    have hlen : ((out.map SrtO.iv).map V.int).length ≤ sizeLine := by
      rw [List.length_map, k2.length_eq]
      rw [List.length_map] at hz
      exact hz
    exact ⟨.ref _, upd H (s.heap.objs.size + 1) (.lst ((out.map SrtO.iv).map V.int)), I.laid (t' := s.toks) (fun _ _ => PyProof.Rows.sortedAll_old) (Nat.le_succ _) ⟨hlen, out, ep, vals_of_ints k1, he'⟩, rfl, q _ _ k2 k3 (I.hok.fresh (Nat.le_succ _))⟩
theorem KT.vals {H : Hp} {knd : Nat} : ∀ {kvs : List (List Key × V)} {xs : List (List Key × Addr × Value)}, KT H kvs xs → Vals (kvs.map (·.2)) (xs.map (·.2.2)) := by
  intro kvs xs r
  unfold KT at r
  induction r with
  | nil => exact .nil
  | @cons p q ps qs h t ih => exact .cons h.2.2 ih
theorem pe_listVals {e : Expr} {te : TE} {p apos cpos pos : Pos} (hc : X.calm = true) (he : PE X e te) (hm : X.mg "list" = none) (hg : Gl X "list" := by rfl) (hv : bootBuiltins "list" = some (.type "list") := by decide +kernel) (hbase : attributeBase e "values" X.env (eval e X.env) = eval e X.env := by rfl) (hline : (apos.endLine == cpos.line) = true := by rfl)
    (hs : starEach [.Call (.Attribute e "values" apos) [] [] cpos] X.env = (false, eval (.Call (.Attribute e "values" apos) [] [] cpos) X.env) :: starEach [] X.env := by rfl) :
    PE X (.Call (.Name "list" p) [.Call (.Attribute e "values" apos) [] [] cpos] [] pos) (tListVals te) := by
  refine ⟨fun pins s σ H Q I hq => ?_⟩
  refine wpAny_Call_Name_kw (ld_blt I hg hm hv ?_)
  refine PyProof.Rows.callWith_type1 ?_ hs rfl
  rw [hs]
  show wpAny _ _ (spliced ((false, eval (.Call (.Attribute e "values" apos) [] [] cpos) X.env) :: backTo pos (starEach [] X.env))) _ _ s
  refine Calls.spliced_cons ?_
  refine wpAny_Call_method (T := "dict") (id := "dict.values") hbase rfl hline F.plainAttrs_dict F.slot_dict_values F.type_dict_values (thn (he.run pins s σ H _ I hq) fun u s1 ⟨x, H1, I1, rx, d, kvs, ex, hd, q⟩ => ?_)
  subst ex
  obtain rfl : u = Value.ref d := rx
  obtain ⟨hz, hs0, xs, kv, o, es, ep, h1, h2, h3, h4, h5⟩ := I1.hok d _ hd
  have raw : s1.heap.DictRaw d es ep := ⟨o, h1, h2, h3⟩
  have hlen : kvs.length = xs.length := Paired.length kv
  have hes : es.size = xs.length := by
    have z := congrArg List.length h4
    simpa using z
  have I2 : Inv X pins σ H1 { s1 with heap := s1.heap.push { cls := .type "dict_values", data := .fields #[.ref d] } } := I1.kept (t' := s1.toks) fun b ob q => Heap.get?_push_of_some _ q
  refine ⟨raw.typeIs, fun b eb => by cases eb; exact ⟨o, h1, by first | exact h2.2.1 | exact h2.2.2 | exact h2.2⟩, ?_⟩
  show wpAny _ _ (callWith cpos (.builtin "dict.values") [.ref d] [] []) _ X.xe s1
  refine method_meetsIn F.slot_dict_values F.entry_dict_values rfl (PySem.evalArgs_none ⟨rfl, raw.typeIs, F.args_dict_values_1 _, _, meets_dict_values_raw (prog := X.prog) (w := X.w) d hs0, ⟨es, ep, raw⟩, ?_⟩)
  refine Calls.spliced_nil ?_
  refine PySem.W.kdl_call (KdlSrc.rawValues (prog := X.prog) (w := X.w) (r := s1.heap.objs.size) (d := d) (es := es) (ep := ep)) (I1.ok.hd hc) ⟨⟨_, Heap.get?_push_size _ rfl, rfl, rfl⟩, raw.push _⟩ (by omega) fun h' tk acc c hk hS hacc => ?_
  have ev : acc.toList = xs.map (·.2.2) := by
    apply List.ext_getElem?
    intro i
    by_cases hi : i < es.size
    · have ha : i < acc.size := by rw [hacc.1]; exact hi
      obtain ⟨hi2, e2⟩ := hacc.2 i acc[i] (by simp [ha])
      have hx : i < xs.length := by omega
      have e3 : es.toList[i]? = (xs.map (entryOfKey (tupleKind (mixKind X.prog X.w))))[i]? := by rw [h4]
      rw [List.getElem?_map, List.getElem?_eq_getElem hx] at e3
      have e4 : es[i] = entryOfKey (tupleKind (mixKind X.prog X.w)) xs[i] := by
        have z : es.toList[i]? = some es[i] := by simp [hi]
        rw [z] at e3
        exact Option.some.inj e3
      rw [List.getElem?_map, List.getElem?_eq_getElem hx]
      have z : acc.toList[i]? = some acc[i] := by simp [ha]
      rw [z, e2, e4]
      rfl
    · have ha : acc.toList[i]? = none := by
        apply List.getElem?_eq_none
        have z := hacc.1
        simp
        omega
      rw [ha, List.getElem?_map, List.getElem?_eq_none (by omega)]
      rfl
  have new : ObjOk X.prog X.w (upd H1 (s1.heap.push { cls := .type "dict_values", data := .fields #[.ref d] }).objs.size (.lst (kvs.map (·.2)))) h' (s1.heap.push { cls := .type "dict_values", data := .fields #[.ref d] }).objs.size (.lst (kvs.map (·.2))) := by
    refine ⟨by rw [List.length_map]; exact hz, acc.toList, c, ?_, ?_⟩
    · rw [ev]
      exact KT.vals (knd := 0) (H := H1) kv
    · rw [Array.toArray_toList]
      exact hS
  exact ⟨.ref _, _, I2.laid (t' := tk) hk (Nat.le_refl _) new, rfl, q _ (I2.hok.fresh (Nat.le_refl _))⟩
end
end L2
set_option Elab.async false
set_option linter.all false
set_option maxRecDepth 100000
set_option maxHeartbeats 4000000
/-! HKEq: == and != of instances of a class with its own __eq__, both answers. -/
namespace L2
open PySem PySem.Spec PyProof.Rows
/-- the class's own __eq__ at f; no __ne__ of its own -/
structure EqC (K : PySem.W.Frag) (C f : Addr) : Prop where
  eq : PySem.W.findIn K (.ref C) "__eq__" = some (some (.ref f))
  ne : PySem.W.findIn K (.ref C) "__ne__" = some (some (.builtin "object.__ne__"))
  fn : PySem.W.isFn K (.ref f) = true
  ob : PySem.W.mroIn K C (.type "object") = some true
def rEqI (C : Addr) (sp : Sp) (g : Bool → Bool) : R2 := fun x y H Q => ∃ a b dx dy fs gs, x = .ref a ∧ y = .ref b ∧ H a = some (.ins C dx fs) ∧ H b = some (.ins C dy gs) ∧ sp [.ref a, .ref b] H (fun v H' => ∃ r, v = .bl r ∧ Q (.bl (g r)) H') (fun _ _ _ => False)
theorem ne_slot : Slot "object" "__ne__" "object.__ne__" := .of (owner := "object") (n := "__ne__") (by rw [typeLookup_type, builtinLookup_eq_fast]; kernel_rfl) (by decide +kernel) (by decide +kernel) (by decide +kernel)
    (by first | exact .inl (by decide +kernel) | exact .inr (by decide +kernel)) (by rw [isSubtype_type]; kernel_rfl)
section
variable {X : Cx} {CX : CXT} {C f : Addr} {fd : FuncData} {ps : List Str} {n : Nat} {sp : Sp}
theorem eqI_call (F : FnOk X.prog X.w X.K X.mg X.base CX n f fd ps sp) (hb : Binds X.K fd ps []) (hx : Passes CX X (fun _ _ _ => False)) {A : Around} {pins : List (Addr × Obj)} {σ : St} {H : Hp} {s : Shared} {a b : Addr} {Q : VK} (hA : A.frames = X.A.frames) (hr : Room n A) (I : Inv X pins σ H s)
    (q : sp [.ref a, .ref b] H Q (fun _ _ _ => False)) : wpAny (model X.prog X.w) A (call (.ref f) [.ref a, .ref b]) (EP X pins σ Q) X.xe s := by
  have e0 : Env0 X.prog X.w X.K X.mg X.base A X.stack s H := by
    have e := I.env0
    exact ⟨by rw [hA]; exact e.frames, e.mod, e.bs, e.bsz, e.funs, e.frf, e.hok, e.bare⟩
  have hl := F.len _ _ _ _ q
  have r2 : Vals [V.ref a, V.ref b] [Value.ref a, Value.ref b] := .cons rfl (.cons rfl .nil)
  refine wpAny_call (codeAny_mono (F.run A X.stack s H ⟨[.ref a, .ref b], []⟩ [.ref a, .ref b] [.ref a, .ref b] _ (fun _ _ _ => False) hr e0 (by
    have := hb s [.ref a, .ref b] I.kIn (by simpa using hl)
    simpa using this) r2 q) fun r s' hq => ?_)
  cases r with
  | error e => exact hx pins σ H s e s' I hq
  | ok fl =>
    cases fl with
    | ret w => exact I.after hq
    | next => exact False.elim hq
    | brk => exact False.elim hq
    | cont => exact False.elim hq
theorem op_eqI (E : EqC X.K C f) (F : FnOk X.prog X.w X.K X.mg X.base CX n f fd ps sp) (hb : Binds X.K fd ps []) (hx : Passes CX X (fun _ _ _ => False)) (hr : Room n X.A) : OpR X (compareOp .Eq) (rEqI C sp id) := by
  intro pins s σ H x y v u Q I rx ry hq
  obtain ⟨a, b, dx, dy, fs, gs, rfl, rfl, ha, hb', q⟩ := hq
  cases rx
  cases ry
  show wpAny (model X.prog X.w) X.A (richCompare .Eq (.ref a) (.ref b)) (EP X pins σ Q) X.xe s
  obtain ⟨mA, J, _⟩ := ins_get I.hok ha
  obtain ⟨mB, J', _⟩ := ins_get I.hok hb'
  obtain ⟨od, J, _⟩ := J.look
  obtain ⟨od', J', _⟩ := J'.look
  obtain ⟨m, hF⟩ := I.fr
  refine PySem.W.cmp_K (op := .Eq) (tb := .ref C) hr.units0 hF I.ok.mod.kin J J'.type (by simp [PySem.W.notFirst]) E.eq E.fn ?_
  refine wpAny_mono (eqI_call F hb hx rfl hr I q) (fun w s' z => ?_) fun _ _ x => x
  obtain ⟨v, H', I', rv, r, ev, q'⟩ := z
  subst ev
  cases rv
  exact ⟨.bl r, H', I', rfl, q'⟩
theorem op_neI (E : EqC X.K C f) (F : FnOk X.prog X.w X.K X.mg X.base CX n f fd ps sp) (hb : Binds X.K fd ps []) (hx : Passes CX X (fun _ _ _ => False)) (hr : Room (n + 2) X.A) : OpR X (compareOp .NotEq) (rEqI C sp fun r => !r) := by
  intro pins s σ H x y v u Q I rx ry hq
  obtain ⟨a, b, dx, dy, fs, gs, rfl, rfl, ha, hb', q⟩ := hq
  cases rx
  cases ry
  show wpAny (model X.prog X.w) X.A (richCompare .NotEq (.ref a) (.ref b)) (EP X pins σ Q) X.xe s
  obtain ⟨mA, J, _⟩ := ins_get I.hok ha
  obtain ⟨mB, J', _⟩ := ins_get I.hok hb'
  obtain ⟨od, J, _⟩ := J.look
  obtain ⟨od', J', _⟩ := J'.look
  have XK : X.K.In s.heap := I.kIn
  have hu0 : X.A.units + 64 < cLine := hr.units
  have inner : wpAny (model X.prog X.w) X.A.in1 (Builtin.«object.__ne__» ⟨[.ref a, .ref b], []⟩) (fun fin s' => ∃ r : Bool, fin = .done (.ret (.bool r)) ∧ EP X pins σ Q (.bool r) s') X.xe s := by
    unfold Builtin.«object.__ne__»
    show wpAny _ _ (cRoomFor "comparison" [.ref a, .ref b] >>= _) _ _ _
    refine wpAny_bind (wpAny_cRoomFor (by show X.A.units + 1 < cLine; omega) ?_)
    refine wpAny_bind (PySem.W.ifBound_K XK J E.eq E.fn (wpAny_mono (eqI_call F hb hx (by rfl) (hr.mono (by omega : n + 1 ≤ n + 2)).in1 I q) (fun w s' z => ?_) fun _ _ x => x))
    obtain ⟨v, H', I', rv, r, ev, q'⟩ := z
    subst ev
    cases rv
    show wpAny _ _ (do let t ← truthy (.bool r); ret (.bool (!t))) _ _ _
    refine wpAny_bind (wpAny_pure ?_)
    exact wpAny_pure ⟨!r, rfl, .bl (!r), H', I', rfl, q'⟩
  have isO : PySem.W.Looks (model X.prog X.w) s.heap (isInstance (.ref a) (.type "object")) true := J.type.andThen (PySem.W.looks_mroIn XK E.ob)
  have one : wpAny (model X.prog X.w) X.A (tryCompare (.ref a) "__ne__" (.ref b)) (fun r s' => ∃ c : Bool, r = some (.bool c) ∧ EP X pins σ Q (.bool c) s') X.xe s := by
    unfold tryCompare
    refine wpAny_bind ?_
    simp only [callSpecialIfBound?, bindSpecialIfBound?]
    refine wpAny_holding (wpAny_bind (wpAny_bind (wpAny_bind (J.type.here ((PySem.W.looks_findIn XK E.ne).here ?_)))))
    refine wpAny_bind (wpAny_askSetting (wpAny_ite ?_))
    have fin : wpAny (model X.prog X.w) X.A (call (.builtin "object.__ne__") ([.ref a] ++ [.ref b]) >>= fun v => pure (some v)) (fun r s' => ∃ c : Bool, r = some (.bool c) ∧ EP X pins σ Q (.bool c) s') X.xe s := by
      refine wpAny_bind (wpAny_call (codeAny_call_builtin ne_slot.plain PySem.F.cmpEntry_ne (PySem.W.check_slot PySem.F.cmpKind_ne PySem.F.cmpSplit_ne isO (PySem.F.cmpArgs_ne _ _) (wpAny_mono inner (fun fi s' z => ?_) fun _ _ x => x))))
      obtain ⟨c, rfl, z⟩ := z
      exact wpAny_pure ⟨c, rfl, z⟩
    have step : ∀ {Q' : Option Value → Shared → Prop}, (∀ (c : Bool) s', EP X pins σ Q (.bool c) s' → Q' (some (.bool c)) s') → wpAny (model X.prog X.w) X.A (call (.builtin "object.__ne__") ([.ref a] ++ [.ref b]) >>= fun v => pure (some v)) Q' X.xe s := fun {Q'} hz =>
      wpAny_mono fin (fun r s' z => by
        obtain ⟨c, rfl, z⟩ := z
        exact hz c s' z) fun _ _ x => x
    split
    · refine wpAny_bind (wpAny_of_eq (ne_slot.bind _) (wpAny_pure ?_))
      exact step fun c s' z => wpAny_pure ⟨c, rfl, z⟩
    · refine wpAny_tryCatch (wpAny_bind (wpAny_of_eq (ne_slot.bind _) (wpAny_pure ?_)))
      exact step fun c s' z => wpAny_pure ⟨c, rfl, z⟩
  unfold richCompare
  simp only [oneThing_ref]
  refine wpAny_holding (wpAny_bind (wpAny_cRoomFor hr.units0 ?_))
  refine wpAny_bind (J.type.here (wpAny_bind (J'.type.here ?_)))
  split
  · rename_i q
    simp at q
  · refine wpAny_bind (wpAny_pure ?_)
    simp only [Bool.false_eq_true, if_false]
    refine wpAny_bind (wpAny_mono one (fun r s' z => ?_) fun _ _ e => e)
    obtain ⟨c, rfl, hq⟩ := z
    exact wpAny_pure hq
end
end L2
set_option Elab.async false
set_option linter.all false
set_option maxRecDepth 100000
set_option maxHeartbeats 4000000
/-! HKBase: where facts come from (Src), what a def is worth to its callers (Callee), short rules. -/
namespace HK
open PySem PySem.Spec PyProof.Rows L2 He
/-! ### what the head tells -/
/-- an error class's __init__: name, base, field -/
structure ErD where
  cls : Str
  fld : Str
  params : Arguments
  body : List Stmt
  scope : Scope
abbrev ErV : Type := Option (Str × Str × Arguments × FuncBody × Scope × Addr × Addr)
def erObs (K : PySem.W.Frag) (e : ErD) : ErV := match K.lookup (ma K (ga K e.cls) "__init__") with
  | some ⟨_, _, .func fd, _⟩ => some (fd.name, fd.qualname, fd.params, fd.body, fd.scope, fd.globals, fd.builtins)
  | _ => none
def ErD.qual (e : ErD) : Str := e.cls ++ ".__init__"
def ErD.val (e : ErD) : ErV := some ("__init__", e.qual, e.params, .stmts e.body, e.scope, mainGlobals, builtinsNs)
/-- the class at C: over BodyError, the made kind -/
def excB (K : PySem.W.Frag) (C B : Addr) : Bool := match K.lookup C with
  | some ⟨.type "type", _, .cls cd, sl⟩ => (match cd.mro, sl.toList with
    | .ref C' :: .ref B' :: t, [_, _, _, _, some (.builtin n), _] => C' == C && B' == B && n == "Exception.__new__" && !cd.hasDel && cd.hasDict && t == PySem.ESX.exTail
    | _, _ => false)
  | _ => false
def iniB (P : Program) (K : PySem.W.Frag) (C fI : Addr) (q : Str) : Bool := match K.lookup fI with
  | some ⟨_, _, .func fd, _⟩ => (match fd.code, fd.closure, fd.defaults with
    | .ref cda, [p], .none => decide (p.1 = ("__class__" : Str)) && PySem.W.codeIn K (.ref cda) q && (match K.lookup cda with
      | some ⟨_, _, .fields vs, _⟩ => (match vs[2]? with
        | some (Value.str file _) => (P.main.file : Str) == file
        | _ => false)
      | _ => false) && (match K.lookup p.2 with
      | some ⟨_, _, .cell (some (.ref D)), _⟩ => D == C
      | _ => false)
    | _, _, _ => false)
  | _ => false
def erB (P : Program) (K : PySem.W.Frag) (e : ErD) : Bool :=
  let C := ga K e.cls
  let B := ga K "BodyError"
  let fI := ma K C "__init__"
  excB K C B && eqO (PySem.W.findIn K (.ref C) "__setattr__") (some (some (.builtin "object.__setattr__"))) && eqO (PySem.W.findIn K (.ref C) e.fld) (some none) && eqO (PySem.W.findIn K (.ref C) "__init__") (some (some (.ref fI)))
    && decide (PySem.W.typeIn K (.ref fI) = some (.type "function")) && eqO (PySem.W.alongIn K "__init__" (PySem.HKErr.tl B)) (some (some (.builtin "Exception.__init__"))) && eqO (PySem.W.nsIn K cStatics "thirdparty.any") (some none)
    && eqO (PySem.W.nsIn K mainGlobals "super") (some none) && PySem.W.keepIn K (.ref C) && decide (PySem.W.subIn K (.ref C) (.type "BaseException") = some true) && decide (PySem.W.typeIn K (.ref C) = some (.type "type"))
    && !(P.main.scope.names.lookup ("super" : Str)).isSome && iniB P K C fI e.qual && xfB K C
abbrev AlX : Type := Bool × Bool × List FnW × List ErV
def asX (g : Addr → Option Obj) : Nat → List Addr
  | 0 => [mainGlobals, cStatics]
  | n + 1 => growD g (asX g n)
def obsX (P : Program) (fx : List (PySem.W.Frag → Bool)) (fa : List Fa) (fn : List DefD) (er : List ErD) (K : PySem.W.Frag) : AlX :=
  (((fa.all fun f => f.ok K) && fn.all fun d => d.ok K), ((fx.all fun f => f K) && er.all fun e => erB P K e), fn.map (fun d => fnW K d.at_), er.map fun e => erObs K e)
def valX (fn : List DefD) (er : List ErD) : AlX := (true, true, fn.map DefD.val, er.map ErD.val)
def SaysX (P : Program) (fx : List (PySem.W.Frag → Bool)) (fa : List Fa) (fn : List DefD) (er : List ErD) (K : PySem.W.Frag) : Prop := obsX P fx fa fn er K = valX fn er
def obsG (P : Program) (n : Nat) (fx : List (PySem.W.Frag → Bool)) (fa : List Fa) (fn : List DefD) (er : List ErD) (g : Addr → Option Obj) : AlX := obsX P fx fa fn er (frG g (asX g n))
def hookX (P : Program) (n : Nat) (fx : List (PySem.W.Frag → Bool)) (fa : List Fa) (fn : List DefD) (er : List ErD) : PySem.W.Hook where
  α := AlX
  obs := fun s => obsG P n fx fa fn er s.heap.get?
  val := fun _ => valX fn er
  says := fun _ h => ∃ K : PySem.W.Frag, K.In h ∧ SaysX P fx fa fn er K
  of := fun _ _ e => ⟨_, frG_in, e⟩
  keeps := fun _ _ _ ⟨K, hK, c⟩ k => ⟨K, PySem.W.Frag.In.keeps hK k, c⟩
theorem obsG_eq {P : Program} {n : Nat} {fx : List (PySem.W.Frag → Bool)} {fa : List Fa} {fn : List DefD} {er : List ErD} {g : Addr → Option Obj} {s : Shared} (h : ∀ a, g a = s.heap.get? a) : obsG P n fx fa fn er g = (hookX P n fx fa fn er).obs s := by
  have e : g = s.heap.get? := funext h
  rw [e] <;> rfl
/-- the written part and the module's names, as the head left them -/
structure Src (P : Program) (fx : List (PySem.W.Frag → Bool)) (fa : List Fa) (fn : List DefD) (er : List ErD) (K : PySem.W.Frag) (mg : Str → Option Value) : Prop where
  says : SaysX P fx fa fn er K
  ns : ∃ h : Heap, K.In h ∧ h.Ns mainGlobals mg
section
variable {P : Program} {fx : List (PySem.W.Frag → Bool)} {fa : List Fa} {fn : List DefD} {er : List ErD} {K : PySem.W.Frag} {mg : Str → Option Value}
theorem Src.fact (S : Src P fx fa fn er K mg) (i : Nat) {f : Fa} (h : fa[i]? = some f := by rfl) : f.ok K = true := by
  have c1 := (ba (show ((fa.all fun f => f.ok K) && fn.all fun d => d.ok K) = true from congrArg (fun z : AlX => z.1) S.says)).1
  exact List.all_eq_true.mp c1 f (List.mem_of_getElem? h)
theorem Src.flag (S : Src P fx fa fn er K mg) (i : Nat) {f : PySem.W.Frag → Bool} (h : fx[i]? = some f := by rfl) : f K = true := by
  have c1 := (ba (show ((fx.all fun f => f K) && er.all fun e => erB P K e) = true from congrArg (fun z : AlX => z.2.1) S.says)).1
  exact List.all_eq_true.mp c1 f (List.mem_of_getElem? h)
theorem Src.def_ (S : Src P fx fa fn er K mg) (i : Nat) {d : DefD} (h : fn[i]? = some d := by rfl) : ∃ fd, FunD K d.name d.qual d.params d.body d.scope (d.dvs K) (d.kws K) (fAd K d.at_) fd := by
  have c2 := (ba (show ((fa.all fun f => f.ok K) && fn.all fun d => d.ok K) = true from congrArg (fun z : AlX => z.1) S.says)).2
  have e : fn.map (fun d => fnW K d.at_) = fn.map DefD.val := congrArg (fun z : AlX => z.2.2.1) S.says
  have e2 : (fn.map fun d => fnW K d.at_)[i]? = (fn.map DefD.val)[i]? := by rw [e]
  rw [List.getElem?_map, List.getElem?_map, h] at e2
  exact DefD.funD (Option.some.inj e2) (List.all_eq_true.mp c2 d (List.mem_of_getElem? h))
theorem Src.glo (S : Src P fx fa fn er K mg) (i : Nat) {x : Str} (h : fa[i]? = some (.glo x) := by rfl) : mg x = some (.ref (ga K x)) := by
  obtain ⟨hp, X, G⟩ := S.ns
  exact glo_ok X G (S.fact i h)
theorem Src.free (S : Src P fx fa fn er K mg) (i : Nat) {x : Str} (h : fa[i]? = some (.free x) := by rfl) : mg x = none := by
  obtain ⟨hp, X, G⟩ := S.ns
  exact free_ok X G (S.fact i h)
theorem Src.int (S : Src P fx fa fn er K mg) (i : Nat) {x : Str} {z : Int} (h : fa[i]? = some (.int x z) := by rfl) : ∃ t, mg x = some (.int z t) := by
  obtain ⟨hp, X, G⟩ := S.ns
  exact int_ok X G (S.fact i h)
theorem Src.cls (S : Src P fx fa fn er K mg) (i : Nat) {x : Str} (h : fa[i]? = some (.cls x) := by rfl) : Cls K (ga K x) := cls_ok (S.fact i h)
theorem Src.noat (S : Src P fx fa fn er K mg) (i : Nat) {x f : Str} (h : fa[i]? = some (.noat x f) := by rfl) : NoAttr K (ga K x) f := noat_ok (S.fact i h)
theorem Src.mkr (S : Src P fx fa fn er K mg) (i : Nat) {x : Str} (h : fa[i]? = some (.mkr x) := by rfl) : Mk K (ga K x) (ma K (ga K x) "__init__") := mkr_ok (S.fact i h)
theorem Src.exm (S : Src P fx fa fn er K mg) (i : Nat) {x y : Str} {b : Bool} (h : fa[i]? = some (.exm x y b) := by rfl) : PySem.W.exmOne K (.ref (ga K x)) (.ref (ga K y)) = some b := exm_ok (S.fact i h)
theorem excB_ok {C B : Addr} (h : excB K C B = true) : ∃ nm q N bs sn sub ab col dd k0 k1 k2 k3 k5, K.lookup C = some (excClassObj nm q C N bs (PySem.HKErr.tl B) true sn sub ab col dd k0 k1 k2 k3 k5 "Exception.__new__") := by
  unfold excB at h
  split at h
  · rename_i dd cd sl ho
    split at h
    · rename_i C' B' t k0 k1 k2 k3 n k5 hm hs
      simp only [Bool.and_eq_true, beq_iff_eq, Bool.not_eq_true'] at h
      obtain ⟨⟨⟨⟨⟨rfl, rfl⟩, rfl⟩, hdel⟩, hhd⟩, ht⟩ := h
      obtain ⟨nm, bs, mro, ns, qn, hd, sn, sub, ab, col, del⟩ := cd
      dsimp only at hm hdel hhd
      subst hm hdel hhd ht
      obtain ⟨l⟩ := sl
      dsimp only at hs
      subst hs
      exact ⟨nm, qn, ns, bs, sn, sub, ab, col, dd, k0, k1, k2, k3, k5, ho⟩
    · cases h
  · cases h
theorem iniB_ok {C fI : Addr} {e : ErD} (h : iniB P K C fI e.qual = true) (o : (match K.lookup fI with
  | some ⟨_, _, .func fd, _⟩ => some (fd.name, fd.qualname, fd.params, fd.body, fd.scope, fd.globals, fd.builtins)
  | _ => none : ErV) = e.val) : PySem.HKErr.Ini P K C fI e.qual e.params e.body e.scope := by
  unfold iniB at h
  split at h
  · rename_i oc od fd sl ho
    rw [ho] at o
    obtain ⟨n1, n2, n3, n4, n5, n6, n7, n8, n9, n10, n11, n12, n13, n14, n15⟩ := fd
    simp only [ErD.val, Option.some.injEq, Prod.mk.injEq] at o
    dsimp only at o h
    obtain ⟨h1, h2, h3, h4, h5, h6, h7⟩ := o
    subst h1 h2 h3 h4 h5 h6 h7
    split at h
    · rename_i cda p
      obtain ⟨px, cc⟩ := p
      simp only [Bool.and_eq_true, decide_eq_true_eq] at h
      obtain ⟨⟨⟨h8, h9⟩, h10⟩, h11⟩ := h
      have h8' : px = ("__class__" : Str) := h8
      subst h8'
      split at h10
      · rename_i a1 a2 vs a3 hk
        split at h10
        · rename_i file tf hv
          split at h11
          · rename_i b1 b2 D b3 hk2
            have e := beq_iff_eq.mp h11
            subst e
            exact ⟨oc, od, _, _, _, _, cda, _, cc, sl, ho, h9, ⟨a1, a2, vs, a3, file, tf, hk, hv, h10⟩, b1, b2, b3, hk2⟩
          · cases h11
        · cases h10
      · cases h10
    · cases h
  · cases h
/-- what is told of an error class -/
structure Er (P : Program) (K : PySem.W.Frag) (mg : Str → Option Value) (e : ErD) : Prop where
  txt : PySem.HKErr.Txt P K mg (ga K e.cls) (ga K "BodyError") (ma K (ga K e.cls) "__init__") e.fld
  ini : PySem.HKErr.Ini P K (ga K e.cls) (ma K (ga K e.cls) "__init__") e.qual e.params e.body e.scope
  xf : XfC K (ga K e.cls)
theorem Src.err (S : Src P fx fa fn er K mg) (i : Nat) {e : ErD} (h : er[i]? = some e := by rfl) : Er P K mg e := by
  have c2 := (ba (show ((fx.all fun f => f K) && er.all fun e => erB P K e) = true from congrArg (fun z : AlX => z.2.1) S.says)).2
  have q := List.all_eq_true.mp c2 e (List.mem_of_getElem? h)
  have e1 : er.map (fun e => erObs K e) = er.map ErD.val := congrArg (fun z : AlX => z.2.2.2) S.says
  have e2 : (er.map fun e => erObs K e)[i]? = (er.map ErD.val)[i]? := by rw [e1]
  rw [List.getElem?_map, List.getElem?_map, h] at e2
  have e3 : erObs K e = e.val := Option.some.inj e2
  simp only [erB, Bool.and_eq_true, decide_eq_true_eq, Bool.not_eq_true'] at q
  obtain ⟨⟨⟨⟨⟨⟨⟨⟨⟨⟨⟨⟨⟨q1, q2⟩, q3⟩, q4⟩, q5⟩, q6⟩, q7⟩, q8⟩, q9⟩, q10⟩, q11⟩, q12⟩, q13⟩, q14⟩ := q
  exact ⟨⟨excB_ok q1, eqO_ok q2, eqO_ok q3, eqO_ok q4, q5, eqO_ok q6, eqO_ok q7, eqO_ok q8, q9, q10, q11, q12⟩, iniB_ok q13 e3, xfB_ok q14⟩
end
end HK
set_option Elab.async false
set_option linter.all false
set_option maxRecDepth 100000
set_option maxHeartbeats 4000000
/-! HKRules: a def as its callers see it; short rules; data by relations. -/
namespace HK
open PySem PySem.Spec PyProof.Rows L2 He
/-! ### a def as its callers see it -/
structure Cal (P : Program) (w : World) (K : PySem.W.Frag) (mg : Str → Option Value) (base : Heap) (CX : CXT) (x : Str) (k : Nat) (ps : List Str) (dvs : List V) (sp : Sp) : Prop where
  ex : ∃ (f : Addr) (fd : FuncData) (ds : List Value), mg x = some (.ref f) ∧ FnOk P w K mg base CX k f fd ps sp ∧ PySem.W.keepIn K (.ref f) = true ∧ Vals dvs ds ∧ Binds K fd ps ds
/-- a class as its callers see it: its __init__ by a promise -/
structure CalM (P : Program) (w : World) (K : PySem.W.Frag) (mg : Str → Option Value) (base : Heap) (CX : CXT) (x : Str) (C : Addr) (k : Nat) (ps : List Str) (sp : Sp) : Prop where
  ex : ∃ (f : Addr) (fd : FuncData), mg x = some (.ref C) ∧ Mk K C f ∧ FnOk P w K mg base CX k f fd ps sp ∧ Binds K fd ps []
section
variable {X : Cx} {CX : CXT} {x : Str} {k : Nat} {ps : List Str} {dvs : List V} {sp : Sp} {E : XK} {e : Expr} {es : List Expr} {t : TA} {p pos : Pos}
theorem pe_c (c : Cal X.prog X.w X.K X.mg X.base CX x k ps dvs sp) (hr : Room k X.A) (hx : Passes CX X E) (ha : PA X (e :: es) t) (hg : Gl X x := by rfl) (hdb : (x == ("__debug__" : Str)) = false := by decide)
    (he : starEach (e :: es) X.env = (false, eval e X.env) :: starEach es X.env := by rfl) (hpl : (backTo pos (starEach es X.env)).any (·.1) = false := by rfl) : PE X (.Call (.Name x p) (e :: es) [] pos) (tCall sp dvs E t) := by
  obtain ⟨f, fd, ds, hm, F, hk, hd, hb⟩ := c.ex
  exact pe_call F hr hg hm hk hb hd hx ha hdb he hpl
theorem pe_m {C : Addr} (c : CalM X.prog X.w X.K X.mg X.base CX x C k ps sp) (hr : Room (k + 1) X.A) (hx : Passes CX X E) (ha : PA X (e :: es) t) (hg : Gl X x := by rfl) (hdb : (x == ("__debug__" : Str)) = false := by decide)
    (he : starEach (e :: es) X.env = (false, eval e X.env) :: starEach es X.env := by rfl) (hpl : (backTo pos (starEach es X.env)).any (·.1) = false := by rfl) : PE X (.Call (.Name x p) (e :: es) [] pos) (tMake C sp [] E t) := by
  obtain ⟨f, fd, hm, M, F, hb⟩ := c.ex
  exact pe_make M F hr hg hm hb .nil hx ha hdb he hpl
/-! ### names -/
theorem pe_ty {n : String} (hm : X.mg x = none) (hv : bootBuiltins x = some (.type n)) (hg : Gl X x := by rfl) (hdb : (x == ("__debug__" : Str)) = false := by decide) (hn : x ≠ "__name__" := by decide) : PE X (.Name x pos) (tC (.ty n)) := pe_bltn hg hm hv rfl hn hdb
theorem pe_gc {C : Addr} (hm : X.mg x = some (.ref C)) (hg : Gl X x := by rfl) (hdb : (x == ("__debug__" : Str)) = false := by decide) : PE X (.Name x pos) (tC (.ref C)) := pe_glob hg hm rfl hdb
theorem pe_gi {i : Int} (hm : ∃ t, X.mg x = some (.int i t)) (hg : Gl X x := by rfl) (hdb : (x == ("__debug__" : Str)) = false := by decide) : PE X (.Name x pos) (tC (.int i)) := by
  obtain ⟨t, h⟩ := hm
  exact pe_glob hg h ⟨t, rfl⟩ hdb
theorem PS.nox {st : Stmt} {t : TS} (h : PS X.nox st t) : PS X st t := ⟨fun pins s σ H D I hw =>
  wpAny_mono (h.run pins s σ H D (I.wish _) hw) (fun _ _ q => q.unwish) fun _ _ z => False.elim z⟩
end
section
variable {P : Program} {w : World} {base : Heap} {fx : List (PySem.W.Frag → Bool)} {fa : List Fa} {fn : List DefD} {er : List ErD} {K : PySem.W.Frag} {mg : Str → Option Value}
/-- a def of the module that lets nothing out -/
theorem Src.cal {d : DefD} {N ps : List Str} {k : Nat} {sp : Sp} (S : Src P fx fa fn er K mg) (i j : Nat) (Sc : FnScope N ps d.scope) (hd : fn[i]? = some d) (hj : fa[j]? = some (.glo d.name)) (hat : d.at_ = (d.name, none)) (hds : d.dfl = []) (hkw : d.kwd = [])
    (hb : ∀ (kV doc pm : Value) (an : Option Addr) (cdv ct : Value) (us : List Value), us.length = ps.length → bindArgs (PySem.W.fnOf d.name d.qual d.params d.body d.scope .none kV doc pm an cdv ct) ⟨us, []⟩ = pure (ps.zip us))
    (len : ∀ vs H Q E, sp vs H Q E → vs.length = ps.length)
    (hbody : ∀ (f : Addr) (cdv : Value) (A : Around) (outer : List Env) (s : Shared) (H : Hp) (vs : List V) (Q : VK) (E : XK), Room k (A.deeper (envOfC d.qual d.scope s.heap.objs.size f cdv)) → sp vs H Q E →
      ∃ t, PSs (cxOf CX0 P w K mg base N d.qual d.scope f cdv A outer s H E).nox d.body t ∧ t { nx := fun _ H' => Q .non H', rt := Q } (start N vs) H) : Cal P w K mg base CX0 d.name (k + 1) ps [] sp := by
  obtain ⟨fd, F⟩ := S.def_ i hd
  have e1 : d.dvs K = [] := by unfold DefD.dvs; rw [hds]; rfl
  have e2 : d.kws K = [] := by unfold DefD.kws; rw [hkw]; rfl
  rw [e1, e2, hat] at F
  refine ⟨_, fd, [], S.glo j hj, FunD.ok F Sc len fun cdv A outer s H vs Q E hr h => ?_, F.kp, .nil, FunD.bindsN F hb⟩
  obtain ⟨t, h1, h2⟩ := hbody _ cdv A outer s H vs Q E hr h
  exact ⟨t, h1.nox, h2⟩
/-- .. that may raise -/
theorem Src.calX {d : DefD} {N ps : List Str} {k : Nat} {sp : Sp} (S : Src P fx fa fn er K mg) (i j : Nat) (Sc : FnScope N ps d.scope) (hd : fn[i]? = some d) (hj : fa[j]? = some (.glo d.name)) (hat : d.at_ = (d.name, none)) (hds : d.dfl = []) (hkw : d.kwd = [])
    (hb : ∀ (kV doc pm : Value) (an : Option Addr) (cdv ct : Value) (us : List Value), us.length = ps.length → bindArgs (PySem.W.fnOf d.name d.qual d.params d.body d.scope .none kV doc pm an cdv ct) ⟨us, []⟩ = pure (ps.zip us))
    (len : ∀ vs H Q E, sp vs H Q E → vs.length = ps.length)
    (hbody : ∀ (f : Addr) (cdv : Value) (A : Around) (outer : List Env) (s : Shared) (H : Hp) (vs : List V) (Q : VK) (E : XK), Room k (A.deeper (envOfC d.qual d.scope s.heap.objs.size f cdv)) → sp vs H Q E →
      ∃ t, PSs (cxOf (L2.CX P w) P w K mg base N d.qual d.scope f cdv A outer s H E) d.body t ∧ t { nx := fun _ H' => Q .non H', rt := Q } (start N vs) H) : Cal P w K mg base (L2.CX P w) d.name (k + 1) ps [] sp := by
  obtain ⟨fd, F⟩ := S.def_ i hd
  have e1 : d.dvs K = [] := by unfold DefD.dvs; rw [hds]; rfl
  have e2 : d.kws K = [] := by unfold DefD.kws; rw [hkw]; rfl
  rw [e1, e2, hat] at F
  exact ⟨_, fd, [], S.glo j hj, FunD.ok F Sc len fun cdv A outer s H vs Q E hr h => hbody _ cdv A outer s H vs Q E hr h, F.kp, .nil, FunD.bindsN F hb⟩
/-- .. that may raise and has defaults -/
theorem Src.calD {d : DefD} {N ps : List Str} {k : Nat} {sp : Sp} (S : Src P fx fa fn er K mg) (i j n : Nat) (dvs : List V) (Sc : FnScope N ps d.scope) (hd : fn[i]? = some d) (hj : fa[j]? = some (.glo d.name)) (hat : d.at_ = (d.name, none)) (hds : d.dvs K = dvs) (hne : dvs ≠ []) (hlen : n + dvs.length = ps.length)
    (hb : ∀ (T : Addr) (kV doc pm : Value) (an : Option Addr) (cdv ct : Value) (us its : List Value), us.length = n → its.length = dvs.length →
      ∃ k, bindArgs (PySem.W.fnOf d.name d.qual d.params d.body d.scope (.ref T) kV doc pm an cdv ct) ⟨us, []⟩ = seqItems? (.ref T) >>= k ∧ k (some its.toArray) = pure (ps.zip (us ++ its)))
    (len : ∀ vs H Q E, sp vs H Q E → vs.length = ps.length)
    (hbody : ∀ (f : Addr) (cdv : Value) (A : Around) (outer : List Env) (s : Shared) (H : Hp) (vs : List V) (Q : VK) (E : XK), Room k (A.deeper (envOfC d.qual d.scope s.heap.objs.size f cdv)) → sp vs H Q E →
      ∃ t, PSs (cxOf (L2.CX P w) P w K mg base N d.qual d.scope f cdv A outer s H E) d.body t ∧ t { nx := fun _ H' => Q .non H', rt := Q } (start N vs) H) : Cal P w K mg base (L2.CX P w) d.name (k + 1) ps dvs sp := by
  obtain ⟨fd, F⟩ := S.def_ i hd
  rw [hds, hat] at F
  obtain ⟨ds, hv, hbi⟩ := FunD.binds1 F n 0 hne (by simpa using hlen) (fun T kV doc pm an cdv ct us its h1 h2 => by simpa using hb T kV doc pm an cdv ct us its h1 h2)
  exact ⟨_, fd, ds, S.glo j hj, FunD.ok F Sc len fun cdv A outer s H vs Q E hr h => hbody _ cdv A outer s H vs Q E hr h, F.kp, by simpa using hv, hbi⟩
/-- a class made by its __init__, which lets nothing out -/
theorem Src.calM {d : DefD} {N ps : List Str} {k : Nat} {sp : Sp} {x : Str} (S : Src P fx fa fn er K mg) (i j l : Nat) (Sc : FnScope N ps d.scope) (hd : fn[i]? = some d) (hj : fa[j]? = some (.glo x)) (hl : fa[l]? = some (.mkr x)) (hat : d.at_ = (x, some ("__init__" : Str))) (hds : d.dfl = []) (hkw : d.kwd = [])
    (hb : ∀ (kV doc pm : Value) (an : Option Addr) (cdv ct : Value) (us : List Value), us.length = ps.length → bindArgs (PySem.W.fnOf d.name d.qual d.params d.body d.scope .none kV doc pm an cdv ct) ⟨us, []⟩ = pure (ps.zip us))
    (len : ∀ vs H Q E, sp vs H Q E → vs.length = ps.length)
    (hbody : ∀ (f : Addr) (cdv : Value) (A : Around) (outer : List Env) (s : Shared) (H : Hp) (vs : List V) (Q : VK) (E : XK), Room k (A.deeper (envOfC d.qual d.scope s.heap.objs.size f cdv)) → sp vs H Q E →
      ∃ t, PSs (cxOf CX0 P w K mg base N d.qual d.scope f cdv A outer s H E).nox d.body t ∧ t { nx := fun _ H' => Q .non H', rt := Q } (start N vs) H) : CalM P w K mg base CX0 x (ga K x) (k + 1) ps sp := by
  obtain ⟨fd, F⟩ := S.def_ i hd
  have e1 : d.dvs K = [] := by unfold DefD.dvs; rw [hds]; rfl
  have e2 : d.kws K = [] := by unfold DefD.kws; rw [hkw]; rfl
  rw [e1, e2, hat] at F
  refine ⟨_, fd, S.glo j hj, S.mkr l hl, FunD.ok F Sc len fun cdv A outer s H vs Q E hr h => ?_, FunD.bindsN F hb⟩
  obtain ⟨t, h1, h2⟩ := hbody _ cdv A outer s H vs Q E hr h
  exact ⟨t, h1.nox, h2⟩
end
/-! ### heaps that keep -/
theorem same_new {H : Hp} {p : Addr} {o : HO} (h : H p = none) : Same H (upd H p o) := fun a u e => by
  rw [upd_ne (ne_of_none e h)]
  exact e
theorem same_mut {H H' : Hp} {p : Addr} {o : HO} (e : Same H H') (h : H p = none) : Same H (upd H' p o) := fun a u ha => by
  rw [upd_ne (ne_of_none ha h)]
  exact e a u ha
/-- what can't change stays -/
def Tk (H H' : Hp) : Prop := ∀ a, (∀ xs, H a = some (.tup xs) → H' a = some (.tup xs)) ∧ ∀ o u, H a = some (.frz o u) → H' a = some (.frz o u)
theorem Tk.of {H H' : Hp} (e : Same H H') : Tk H H' := fun a => ⟨fun xs h => e a _ h, fun o u h => e a _ h⟩
theorem Tk.refl (H : Hp) : Tk H H := fun a => ⟨fun _ h => h, fun _ _ h => h⟩
theorem Tk.trans {H H1 H2 : Hp} (a : Tk H H1) (b : Tk H1 H2) : Tk H H2 := fun x => ⟨fun xs h => (b x).1 xs ((a x).1 xs h), fun o u h => (b x).2 o u ((a x).2 o u h)⟩
theorem Tk.new {H : Hp} {p : Addr} {o : HO} (h : H p = none) : Tk H (upd H p o) := .of (same_new h)
theorem Tk.lst {H : Hp} {p : Addr} {o : HO} {xs : List V} (h : H p = some (.lst xs)) : Tk H (upd H p o) := fun a =>
  ⟨fun ys e => by rw [upd_ne (ne_of e h (fun z => nomatch z))]; exact e, fun ob u e => by rw [upd_ne (ne_of e h (fun z => nomatch z))]; exact e⟩
theorem Tk.dK {H : Hp} {p : Addr} {o : HO} {xs : List (Key × V)} (h : H p = some (.dK xs)) : Tk H (upd H p o) := fun a =>
  ⟨fun ys e => by rw [upd_ne (ne_of e h (fun z => nomatch z))]; exact e, fun ob u e => by rw [upd_ne (ne_of e h (fun z => nomatch z))]; exact e⟩
theorem Tk.dT {H : Hp} {p : Addr} {o : HO} {xs : List (List Key × V)} (h : H p = some (.dT xs)) : Tk H (upd H p o) := fun a =>
  ⟨fun ys e => by rw [upd_ne (ne_of e h (fun z => nomatch z))]; exact e, fun ob u e => by rw [upd_ne (ne_of e h (fun z => nomatch z))]; exact e⟩
theorem Tk.sqT {K : PySem.W.Frag} {H H' : Hp} {a : Addr} {xs : List V} (e : Tk H H') (h : SqT K H a xs) : SqT K H' a xs := by
  rcases h with (h | ⟨o, h⟩) | h
  · exact .inl (.inl ((e a).1 _ h))
  · exact .inl (.inr ⟨o, (e a).2 _ _ h⟩)
  · exact .inr h
theorem Same.sqT {K : PySem.W.Frag} {H H' : Hp} {a : Addr} {xs : List V} (e : Same H H') (h : SqT K H a xs) : SqT K H' a xs := (Tk.of e).sqT h
theorem Same.sqA {K : PySem.W.Frag} {H H' : Hp} {a : Addr} {xs : List V} (e : Same H H') (h : SqA K H a xs) : SqA K H' a xs := h.elim (fun h => .inl (e.seq h)) fun h => .inr (Same.sqT e h)
theorem sqL_of {K : PySem.W.Frag} {H : Hp} {a : Addr} {xs : List V} (h : H a = some (.lst xs)) : SqL K H a xs := .inl (.inl h)
theorem sqT_of {K : PySem.W.Frag} {H : Hp} {a : Addr} {xs : List V} (h : H a = some (.tup xs)) : SqT K H a xs := .inl (.inl h)
/-! ### data -/
abbrev Rl (α : Type) := Hp → V → α → Prop
def Mono {α : Type} (R : Rl α) : Prop := ∀ H H' v x, Same H H' → R H v x → R H' v x
def MonoT {α : Type} (R : Rl α) : Prop := ∀ H H' v x, Tk H H' → R H v x → R H' v x
def IntR : Rl Int := fun _ v i => v = .int i
def SeqR (K : PySem.W.Frag) {α : Type} (R : Rl α) : Rl (List α) := fun H v xs => ∃ a vs, v = .ref a ∧ SqA K H a vs ∧ Paired (R H) vs xs
def TupR (K : PySem.W.Frag) {α : Type} (R : Rl α) : Rl (List α) := fun H v xs => ∃ a vs, v = .ref a ∧ SqT K H a vs ∧ Paired (R H) vs xs
theorem Paired.imp {α β : Type} {F G : α → β → Prop} (h : ∀ a b, F a b → G a b) : ∀ {xs : List α} {ys : List β}, Paired F xs ys → Paired G xs ys
  | _, _, .nil => .nil
  | _, _, .cons a t => .cons (h _ _ a) (Paired.imp h t)
theorem Paired.at {α β : Type} {F : α → β → Prop} : ∀ {xs : List α} {ys : List β}, Paired F xs ys → ∀ {i : Nat} {x : α}, xs[i]? = some x → ∃ y, ys[i]? = some y ∧ F x y
  | _, _, .nil, i, x, h => by cases h
  | _, _, .cons r t, 0, x, h => by
    have e := Option.some.inj h
    subst e
    exact ⟨_, rfl, r⟩
  | _, _, .cons r t, i + 1, x, h => Paired.at t h
theorem Paired.at2 {α β : Type} {F : α → β → Prop} : ∀ {xs : List α} {ys : List β}, Paired F xs ys → ∀ {i : Nat} {y : β}, ys[i]? = some y → ∃ x, xs[i]? = some x ∧ F x y
  | _, _, .nil, i, x, h => by cases h
  | _, _, .cons r t, 0, x, h => by
    have e := Option.some.inj h
    subst e
    exact ⟨_, rfl, r⟩
  | _, _, .cons r t, i + 1, x, h => Paired.at2 t h
theorem Paired.app {α β : Type} {F : α → β → Prop} : ∀ {xs xs' : List α} {ys ys' : List β}, Paired F xs ys → Paired F xs' ys' → Paired F (xs ++ xs') (ys ++ ys')
  | _, _, _, _, .nil, s => s
  | _, _, _, _, .cons r t, s => .cons r (Paired.app t s)
theorem Paired.tk {α β : Type} {F : α → β → Prop} : ∀ {xs : List α} {ys : List β} (n : Nat), Paired F xs ys → Paired F (xs.take n) (ys.take n)
  | _, _, 0, _ => .nil
  | _, _, _ + 1, .nil => .nil
  | _, _, n + 1, .cons r t => .cons r (Paired.tk n t)
theorem mono_int : Mono IntR := fun _ _ _ _ _ h => h
theorem monoT_int : MonoT IntR := fun _ _ _ _ _ h => h
theorem mono_seq {K : PySem.W.Frag} {α : Type} {R : Rl α} (m : Mono R) : Mono (SeqR K R) := fun H H' v x e ⟨a, vs, ev, hs, hp⟩ => ⟨a, vs, ev, Same.sqA e hs, Paired.imp (fun b c h => m _ _ _ _ e h) hp⟩
theorem mono_tup {K : PySem.W.Frag} {α : Type} {R : Rl α} (m : Mono R) : Mono (TupR K R) := fun H H' v x e ⟨a, vs, ev, hs, hp⟩ => ⟨a, vs, ev, Same.sqT e hs, Paired.imp (fun b c h => m _ _ _ _ e h) hp⟩
theorem monoT_tup {K : PySem.W.Frag} {α : Type} {R : Rl α} (m : MonoT R) : MonoT (TupR K R) := fun H H' v x e ⟨a, vs, ev, hs, hp⟩ => ⟨a, vs, ev, e.sqT hs, Paired.imp (fun b c h => m _ _ _ _ e h) hp⟩
theorem MonoT.mono {α : Type} {R : Rl α} (m : MonoT R) : Mono R := fun H H' v x e h => m H H' v x (.of e) h
theorem tup_seq {K : PySem.W.Frag} {α : Type} {R : Rl α} {H : Hp} {v : V} {x : List α} (h : TupR K R H v x) : SeqR K R H v x := by
  obtain ⟨a, vs, ev, hs, hp⟩ := h
  exact ⟨a, vs, ev, .inr hs, hp⟩
theorem pr_ints {H : Hp} : ∀ {vs : List V} {ns : List Int}, Paired (IntR H) vs ns → vs = ns.map V.int
  | _, _, .nil => rfl
  | _, _, .cons r t => by
    rw [List.map_cons, ← pr_ints t, show _ = _ from r]
theorem ints_pr {H : Hp} : ∀ (ns : List Int), Paired (IntR H) (ns.map V.int) ns
  | [] => .nil
  | _ :: t => .cons rfl (ints_pr t)
theorem map_pr {α : Type} {R : V → α → Prop} {β : Type} {f : β → V} {g : β → α} : ∀ (xs : List β), (∀ x ∈ xs, R (f x) (g x)) → Paired R (xs.map f) (xs.map g)
  | [], _ => .nil
  | x :: t, h => .cons (h x List.mem_cons_self) (map_pr t fun y hy => h y (List.mem_cons_of_mem _ hy))
theorem Paired.len {α β : Type} {F : α → β → Prop} : ∀ {xs : List α} {ys : List β}, Paired F xs ys → xs.length = ys.length
  | _, _, .nil => rfl
  | _, _, .cons _ t => by rw [List.length_cons, List.length_cons, Paired.len t]
/-- handing back: something of the kind, all that was known kept -/
def Ret (R : Hp → V → Prop) (H : Hp) (Q : VK) : Prop := ∀ v H', Same H H' → R H' v → Q v H'
theorem Ret.go {R : Hp → V → Prop} {H H1 : Hp} {Q : VK} (k : Ret R H Q) (e : Same H H1) {v : V} (r : R H1 v) : Q v H1 := k v H1 e r
end HK
set_option Elab.async false
set_option linter.all false
set_option maxRecDepth 100000
set_option maxHeartbeats 4000000
/-! HKData: lists or tuples as data; what a step may change; short forms of some readings. -/
namespace HK
open PySem PySem.Spec PyProof.Rows L2 He
/-! ### what a step may change: what A marks; tuples never; nothing goes -/
def SameO (A : Addr → Prop) (H H' : Hp) : Prop := (∀ a u, ¬A a → H a = some u → H' a = some u) ∧ Tk H H' ∧ ∀ a, H a ≠ none → H' a ≠ none
abbrev No : Addr → Prop := fun _ => False
abbrev Old (H : Hp) : Addr → Prop := fun a => H a ≠ none
abbrev Or1 (A : Addr → Prop) (D : Addr) : Addr → Prop := fun a => A a ∨ a = D
theorem SameO.of {A : Addr → Prop} {H H' : Hp} (e : Same H H') : SameO A H H' := ⟨fun a u _ h => e a u h, .of e, fun a h z => h (e.free z)⟩
theorem SameO.refl (A : Addr → Prop) (H : Hp) : SameO A H H := .of (Same.refl H)
theorem SameO.trans {A : Addr → Prop} {H H1 H2 : Hp} (a : SameO A H H1) (b : SameO A H1 H2) : SameO A H H2 := ⟨fun x u n h => b.1 x u n (a.1 x u n h), a.2.1.trans b.2.1, fun x h => b.2.2 x (a.2.2 x h)⟩
theorem SameO.wk {A B : Addr → Prop} {H H' : Hp} (e : SameO A H H') (h : ∀ a, A a → B a) : SameO B H H' := ⟨fun a u n q => e.1 a u (fun z => n (h a z)) q, e.2⟩
theorem SameO.same {H H' : Hp} (e : SameO No H H') : Same H H' := fun a u h => e.1 a u (fun z => z) h
theorem SameO.new {A : Addr → Prop} {H : Hp} {p : Addr} {o : HO} (h : H p = none) : SameO A H (upd H p o) := .of (same_new h)
theorem SameO.lst {A : Addr → Prop} {H : Hp} {p : Addr} {xs ys : List V} (h : H p = some (.lst xs)) (ha : A p) : SameO A H (upd H p (.lst ys)) :=
  ⟨fun a u n e => by
    rw [upd_ne (fun z => n (by rw [z]; exact ha))]
    exact e, .lst h, fun a e z => by
    by_cases q : a = p
    · subst q
      rw [upd_same] at z
      cases z
    · rw [upd_ne q] at z
      exact e z⟩
theorem SameO.dK {A : Addr → Prop} {H : Hp} {p : Addr} {xs ys : List (Key × V)} (h : H p = some (.dK xs)) (ha : A p) : SameO A H (upd H p (.dK ys)) :=
  ⟨fun a u n e => by
    rw [upd_ne (fun z => n (by rw [z]; exact ha))]
    exact e, .dK h, fun a e z => by
    by_cases q : a = p
    · subst q
      rw [upd_same] at z
      cases z
    · rw [upd_ne q] at z
      exact e z⟩
theorem SameO.dT {A : Addr → Prop} {H : Hp} {p : Addr} {xs ys : List (List Key × V)} (h : H p = some (.dT xs)) (ha : A p) : SameO A H (upd H p (.dT ys)) :=
  ⟨fun a u n e => by
    rw [upd_ne (fun z => n (by rw [z]; exact ha))]
    exact e, .dT h, fun a e z => by
    by_cases q : a = p
    · subst q
      rw [upd_same] at z
      cases z
    · rw [upd_ne q] at z
      exact e z⟩
theorem SameO.ins {A : Addr → Prop} {H : Hp} {p C dx C' dx' : Addr} {xs ys : List (Str × V)} (h : H p = some (.ins C dx xs)) (ha : A p) : SameO A H (upd H p (.ins C' dx' ys)) :=
  ⟨fun a u n e => by
    rw [upd_ne (fun z => n (by rw [z]; exact ha))]
    exact e, fun a => ⟨fun ys e => by rw [upd_ne (ne_of e h (fun z => nomatch z))]; exact e, fun ob u e => by rw [upd_ne (ne_of e h (fun z => nomatch z))]; exact e⟩, fun a e z => by
    by_cases q : a = p
    · subst q
      rw [upd_same] at z
      cases z
    · rw [upd_ne q] at z
      exact e z⟩
/-- a heap that differs at what was not there is as the old one -/
theorem SameO.old {H H' : Hp} {A : Addr → Prop} (e : SameO A H H') (h : ∀ a, A a → H a = none) : Same H H' := fun a u q => e.1 a u (fun z => by rw [h a z] at q; cases q) q
/-! ### a list or a tuple, not frozen -/
def Sq (H : Hp) (a : Addr) (xs : List V) : Prop := H a = some (.lst xs) ∨ H a = some (.tup xs)
theorem Sq.a {K : PySem.W.Frag} {H : Hp} {a : Addr} {xs : List V} (h : Sq H a xs) : SqA K H a xs := h.elim (fun h => .inl (sqL_of h)) fun h => .inr (sqT_of h)
theorem Sq.same {H H' : Hp} {a : Addr} {xs : List V} (e : Same H H') (h : Sq H a xs) : Sq H' a xs := h.elim (fun h => .inl (e _ _ h)) fun h => .inr (e _ _ h)
theorem Sq.sameO {A : Addr → Prop} {H H' : Hp} {a : Addr} {xs : List V} (e : SameO A H H') (n : ¬A a) (h : Sq H a xs) : Sq H' a xs := h.elim (fun h => .inl (e.1 _ _ n h)) fun h => .inr (e.1 _ _ n h)
theorem Sq.keep {A : Addr → Prop} {H H' : Hp} {a : Addr} {xs : List V} (h : Sq H a xs) (n : ¬A a) (e : SameO A H H') : H' a = H a := by
  rcases h with h | h <;> rw [h] <;> exact e.1 _ _ n h
theorem Sq.some {H : Hp} {a : Addr} {xs : List V} (h : Sq H a xs) : H a ≠ none := by
  rcases h with h | h <;> rw [h] <;> exact fun z => nomatch z
/-! ### families of data: off what A marks -/
abbrev RlA (α : Type) := (Addr → Prop) → Rl α
structure Fam {α : Type} (R : RlA α) : Prop where
  mono : ∀ {A : Addr → Prop} {H H' : Hp} {v : V} {x : α}, SameO A H H' → R A H v x → R A H' v x
  weak : ∀ {A B : Addr → Prop} {H : Hp} {v : V} {x : α}, (∀ a, B a → A a) → R A H v x → R B H v x
  live : ∀ {A : Addr → Prop} {H : Hp} {v : V} {x : α}, R A H v x → R (fun a => A a ∨ H a = none) H v x
theorem Fam.same {α : Type} {R : RlA α} (F : Fam R) {A : Addr → Prop} {H H' : Hp} {v : V} {x : α} (e : Same H H') (r : R A H v x) : R A H' v x := F.mono (.of e) r
theorem Fam.monoP {α : Type} {R : RlA α} (F : Fam R) {A : Addr → Prop} {H H' : Hp} {vs : List V} {xs : List α} (e : SameO A H H') (r : Paired (R A H) vs xs) : Paired (R A H') vs xs := Paired.imp (fun _ _ h => F.mono e h) r
theorem Fam.weakP {α : Type} {R : RlA α} (F : Fam R) {A B : Addr → Prop} {H : Hp} {vs : List V} {xs : List α} (e : ∀ a, B a → A a) (r : Paired (R A H) vs xs) : Paired (R B H) vs xs := Paired.imp (fun _ _ h => F.weak e h) r
def InA : RlA Int := fun _ _ v i => v = .int i
def EqA : RlA V := fun _ _ v x => v = x
theorem fam_eq : Fam EqA := ⟨fun _ h => h, fun _ h => h, fun h => h⟩
theorem eqa_eq {A : Addr → Prop} {H : Hp} : ∀ {vs xs : List V}, Paired (EqA A H) vs xs → vs = xs
  | _, _, .nil => rfl
  | _, _, .cons r t => by rw [← eqa_eq t, show _ = _ from r]
def SqF {α : Type} (R : RlA α) : RlA (List α) := fun A H v xs => ∃ a vs, v = .ref a ∧ ¬A a ∧ Sq H a vs ∧ Paired (R A H) vs xs
def LsF {α : Type} (R : RlA α) : RlA (List α) := fun A H v xs => ∃ a vs, v = .ref a ∧ ¬A a ∧ H a = some (.lst vs) ∧ Paired (R A H) vs xs
def TpF {α : Type} (R : RlA α) : RlA (List α) := fun A H v xs => ∃ a vs, v = .ref a ∧ H a = some (.tup vs) ∧ Paired (R A H) vs xs
theorem Fam.liveP {α : Type} {R : RlA α} (F : Fam R) {A : Addr → Prop} {H : Hp} {vs : List V} {xs : List α} (r : Paired (R A H) vs xs) : Paired (R (fun a => A a ∨ H a = none) H) vs xs := Paired.imp (fun _ _ h => F.live h) r
theorem fam_in : Fam InA := ⟨fun _ h => h, fun _ h => h, fun h => h⟩
theorem fam_sq {α : Type} {R : RlA α} (F : Fam R) : Fam (SqF R) :=
  ⟨fun e ⟨a, vs, h1, h2, h3, h4⟩ => ⟨a, vs, h1, h2, h3.sameO e h2, F.monoP e h4⟩, fun e ⟨a, vs, h1, h2, h3, h4⟩ => ⟨a, vs, h1, fun z => h2 (e _ z), h3, F.weakP e h4⟩, fun ⟨a, vs, h1, h2, h3, h4⟩ => ⟨a, vs, h1, fun z => z.elim h2 h3.some, h3, F.liveP h4⟩⟩
theorem fam_ls {α : Type} {R : RlA α} (F : Fam R) : Fam (LsF R) :=
  ⟨fun e ⟨a, vs, h1, h2, h3, h4⟩ => ⟨a, vs, h1, h2, e.1 _ _ h2 h3, F.monoP e h4⟩, fun e ⟨a, vs, h1, h2, h3, h4⟩ => ⟨a, vs, h1, fun z => h2 (e _ z), h3, F.weakP e h4⟩, fun ⟨a, vs, h1, h2, h3, h4⟩ => ⟨a, vs, h1, fun z => z.elim h2 (by rw [h3]; exact fun z => nomatch z), h3, F.liveP h4⟩⟩
theorem fam_tp {α : Type} {R : RlA α} (F : Fam R) : Fam (TpF R) :=
  ⟨fun e ⟨a, vs, h1, h3, h4⟩ => ⟨a, vs, h1, (e.2.1 a).1 _ h3, F.monoP e h4⟩, fun e ⟨a, vs, h1, h3, h4⟩ => ⟨a, vs, h1, h3, F.weakP e h4⟩, fun ⟨a, vs, h1, h3, h4⟩ => ⟨a, vs, h1, h3, F.liveP h4⟩⟩
/-- of tuples and ints alone: kept by whatever keeps tuples -/
structure FamT {α : Type} (R : RlA α) : Prop where
  tk : ∀ {A B : Addr → Prop} {H H' : Hp} {v : V} {x : α}, Tk H H' → R A H v x → R B H' v x
theorem FamT.p {α : Type} {R : RlA α} (F : FamT R) {A B : Addr → Prop} {H H' : Hp} {vs : List V} {xs : List α} (e : Tk H H') (r : Paired (R A H) vs xs) : Paired (R B H') vs xs := Paired.imp (fun _ _ h => F.tk e h) r
theorem famT_in : FamT InA := ⟨fun _ h => h⟩
theorem famT_tp {α : Type} {R : RlA α} (F : FamT R) : FamT (TpF R) := ⟨fun e ⟨a, vs, h1, h3, h4⟩ => ⟨a, vs, h1, (e a).1 _ h3, F.p e h4⟩⟩
theorem Paired.both {α β : Type} {F : α → β → Prop} {xs : List α} {ys : List β} (p : Paired F xs ys) {i : Nat} {x : α} {y : β} (hx : xs[i]? = some x) (hy : ys[i]? = some y) : F x y := by
  obtain ⟨z, hz, r⟩ := Paired.at p hx
  rw [hy] at hz
  cases hz
  exact r
theorem SqF.ofT {α : Type} {R : RlA α} {H : Hp} {v : V} {x : List α} (h : TpF R No H v x) : SqF R No H v x := by
  obtain ⟨a, vs, e, h, p⟩ := h
  exact ⟨a, vs, e, fun z => z, .inr h, p⟩
theorem SqF.ofL {α : Type} {R : RlA α} {A : Addr → Prop} {H : Hp} {v : V} {x : List α} (h : LsF R A H v x) : SqF R A H v x := by
  obtain ⟨a, vs, e, n, h, p⟩ := h
  exact ⟨a, vs, e, n, .inl h, p⟩
theorem ina_eq {A : Addr → Prop} {H : Hp} : ∀ {vs : List V} {ns : List Int}, Paired (InA A H) vs ns → vs = ns.map V.int
  | _, _, .nil => rfl
  | _, _, .cons r t => by rw [List.map_cons, ← ina_eq t, show _ = _ from r]
theorem ina_of {A : Addr → Prop} {H : Hp} : ∀ (ns : List Int), Paired (InA A H) (ns.map V.int) ns
  | [] => .nil
  | _ :: t => .cons rfl (ina_of t)
/-- hands back just this value -/
abbrev RetV (v : V) (H : Hp) (Q : VK) : Prop := Ret (fun _ x => x = v) H Q
theorem retV {v : V} {H : Hp} {Q : VK} : RetV v H Q ↔ ∀ H', Same H H' → Q v H' := ⟨fun h H' e => h v H' e rfl, fun h v' H' e r => r ▸ h H' e⟩
section
variable {K : PySem.W.Frag} {H : Hp} {Q : VK}
theorem isi_of {x c : V} {t u : Value} {b : Bool} (q : Q (.bl b) H) (ty : TyX K H x t) (c' : ClsV c u) (k : PySem.W.kitOne K t u = some b) : rIsi K [x, c] H Q := ⟨x, c, t, u, b, rfl, c', ty, k, q⟩
theorem isi_ii {i : Int} (q : Q (.bl true) H) : rIsi K [.int i, .ty "int"] H Q := isi_of q (.base (.int i)) (.ty _) (kit_ty (by decide +kernel))
theorem isi_ib {i : Int} (q : Q (.bl false) H) : rIsi K [.int i, .ty "bool"] H Q := isi_of q (.base (.int i)) (.ty _) (kit_ty (by decide +kernel))
/-- isinstance(value, (list, tuple)) -/
theorem isi_sq {a : Addr} {xs : List V} (hs : Sq H a xs) (q : ∀ H', Same H H' → Q (.bl true) H') : tTup (tCons (tC (.ty "list")) (tCons (tC (.ty "tuple")) tNil)) [] H fun tp H' => rIsiT K [.ref a, tp] H' Q := by
  refine ⟨by decide, fun T nT => ?_⟩
  have ne : Same H (upd H T (.tup [.ty "list", .ty "tuple"])) := same_new nT
  rcases hs with hs | hs
  · exact ⟨.ref a, T, [.ty "list", .ty "tuple"], .type "list", [.type "list", .type "tuple"], true, rfl, upd_same, .cons (.ty _) (.cons (.ty _) .nil), .base (.lst (ne _ _ hs)), kitAny_cons (b := true) (kit_ty (by decide +kernel)) (fun z => nomatch z) (fun _ => rfl), q _ ne⟩
  · exact ⟨.ref a, T, [.ty "list", .ty "tuple"], .type "tuple", [.type "list", .type "tuple"], true, rfl, upd_same, .cons (.ty _) (.cons (.ty _) .nil), .base (.tup (ne _ _ hs)),
      kitAny_cons (b := false) (kit_ty (by decide +kernel)) (fun _ => kitAny_cons (b := true) (kit_ty (by decide +kernel)) (fun z => nomatch z) (fun _ => rfl)) (fun z => nomatch z), q _ ne⟩
end
/-! ### tuple(..), list(..), len(..) of a list or tuple -/
def rTupA (K : PySem.W.Frag) : List V → Hp → VK → Prop := fun xs H Q => ∃ p ys, xs = [.ref p] ∧ ((SqL K H p ys ∧ ∀ l, H l = none → Q (.ref l) (upd H l (.tup ys))) ∨ (SqT K H p ys ∧ Q (.ref p) H))
def rLstA (K : PySem.W.Frag) : List V → Hp → VK → Prop := fun xs H Q => ∃ p ys, xs = [.ref p] ∧ (SqL K H p ys ∨ SqT K H p ys) ∧ ∀ l, H l = none → Q (.ref l) (upd H l (.lst ys))
def rLenA (K : PySem.W.Frag) : List V → Hp → VK → Prop := fun xs H Q => ∃ p ys, xs = [.ref p] ∧ (SqL K H p ys ∨ SqT K H p ys) ∧ Q (.int ys.length) H
theorem cr_tupA {X : Cx} : CallR X (.type "tuple") (rTupA X.K) := call_tuple_of
theorem cr_lstA {X : Cx} : CallR X (.type "list") (rLstA X.K) := call_list_of
theorem cr_lenA {X : Cx} : CallR X (.builtin "len") (rLenA X.K) := call_len_seq
theorem tup_sq {K : PySem.W.Frag} {H : Hp} {Q : VK} {a : Addr} {xs : List V} (h : Sq H a xs) (q : ∀ p H', Same H H' → H' p = some (.tup xs) → Q (.ref p) H') : rTupA K [.ref a] H Q := by
  refine ⟨a, xs, rfl, ?_⟩
  rcases h with h | h
  · exact .inl ⟨sqL_of h, fun l n => q l _ (same_new n) upd_same⟩
  · exact .inr ⟨sqT_of h, q a _ (Same.refl _) h⟩
theorem lst_sq {K : PySem.W.Frag} {H : Hp} {Q : VK} {a : Addr} {xs : List V} (h : Sq H a xs) (q : ∀ l, H l = none → Q (.ref l) (upd H l (.lst xs))) : rLstA K [.ref a] H Q := ⟨a, xs, rfl, h.a, q⟩
theorem len_sq {K : PySem.W.Frag} {H : Hp} {Q : VK} {a : Addr} {xs : List V} (h : Sq H a xs) (q : Q (.int xs.length) H) : rLenA K [.ref a] H Q := ⟨a, xs, rfl, h.a, q⟩
theorem inV_ints {i : Int} (ns : List Int) : inV (.int i) (ns.map V.int) = decide (i ∈ ns) := by
  induction ns with
  | nil => rfl
  | cons x t ih =>
    unfold inV at ih ⊢
    rw [List.map_cons, List.any_cons, ih]
    simp only [eqV, List.mem_cons, Bool.decide_or]
    congr 1
    by_cases e : x = i
    · subst e
      simp
    · rw [decide_eq_false (fun z => e z.symm)]
      exact beq_false_of_ne e
theorem all_flat (ns : List Int) : (ns.map V.int).all flatV = true := by
  rw [List.all_eq_true]
  intro x hx
  obtain ⟨i, _, rfl⟩ := List.mem_map.1 hx
  rfl
/-- i in a list or tuple of ints -/
theorem in_sq {K : PySem.W.Frag} {H : Hp} {Q : VK} {a : Addr} {i : Int} {ns : List Int} (h : Sq H a (ns.map V.int)) (q : Q (.bl (decide (i ∈ ns))) H) : rIn K false (.int i) (.ref a) H Q :=
  ⟨a, _, rfl, h.a, rfl, all_flat ns, by rw [inV_ints]; exact q⟩
theorem notin_sq {K : PySem.W.Frag} {H : Hp} {Q : VK} {a : Addr} {i : Int} {ns : List Int} (h : Sq H a (ns.map V.int)) (q : Q (.bl (!decide (i ∈ ns))) H) : rIn K true (.int i) (.ref a) H Q :=
  ⟨a, _, rfl, h.a, rfl, all_flat ns, by rw [inV_ints]; exact q⟩
/-- sorted -/
def srt (ns : List Int) : List Int := ns.mergeSort fun a b => decide (a ≤ b)
theorem srt_perm (ns : List Int) : (srt ns).Perm ns := List.mergeSort_perm _ _
theorem srt_asc (ns : List Int) : (srt ns).Pairwise (· ≤ ·) := by
  have := List.pairwise_mergeSort (le := fun a b : Int => decide (a ≤ b)) (fun a b c h1 h2 => by simp at *; omega) (fun a b => by simp; omega) ns
  exact this.imp fun h => of_decide_eq_true h
theorem srt_only {ns ms : List Int} (h : ms.Perm ns) (p : ms.Pairwise (· ≤ ·)) : ms = srt ns := List.Perm.eq_of_pairwise (fun a b _ _ h1 h2 => by omega) p (srt_asc ns) (h.trans (srt_perm ns).symm)
theorem srt_of {ns : List Int} (p : ns.Pairwise (· ≤ ·)) : srt ns = ns := (srt_only (.refl _) p).symm
theorem sorted_sq {K : PySem.W.Frag} {H : Hp} {Q : VK} {a : Addr} {ns : List Int} (h : Sq H a (ns.map V.int)) (q : ∀ p, H p = none → Q (.ref p) (upd H p (.lst ((srt ns).map V.int)))) : rSortedA K [.ref a] H Q :=
  ⟨a, ns, rfl, h.a, fun ns' p hp ha np => by
    obtain rfl := srt_only hp ha
    exact q p np⟩
theorem ixN_nat {n b : Nat} (h : b < n) : ixN n (b : Int) = some b := by
  unfold ixN
  rw [if_pos (by omega), if_pos (by omega), Int.toNat_natCast]
theorem atI_nat {α : Type} {xs : List α} {b : Nat} {v : α} (h : xs[b]? = some v) : atI xs (b : Int) = some v := by
  unfold atI
  rw [ixN_nat (List.getElem?_eq_some_iff.1 h).1]
  exact h
/-- xs[b] of a list -/
theorem ix_at {K : PySem.W.Frag} {H : Hp} {Q : VK} {p : Addr} {xs : List V} {b : Nat} {v : V} (h : H p = some (.lst xs)) (hv : xs[b]? = some v) (q : Q v H) : rIxL K (.ref p) (.int b) H Q := ⟨p, xs, b, v, rfl, rfl, sqL_of h, atI_nat hv, q⟩
/-- xs[b] of a tuple -/
theorem ixt_at {K : PySem.W.Frag} {H : Hp} {Q : VK} {p : Addr} {xs : List V} {b : Nat} {v : V} (h : H p = some (.tup xs)) (hv : xs[b]? = some v) (q : Q v H) : rIxT K (.ref p) (.int b) H Q := ⟨p, xs, b, v, rfl, rfl, sqT_of h, atI_nat hv, q⟩
end HK
set_option Elab.async false
set_option linter.all false
set_option maxRecDepth 100000
set_option maxHeartbeats 4000000
/-! HKLoop: what is walked, and loops and comprehensions by it. -/
namespace HK
open PySem PySem.Spec PyProof.Rows L2 He
structure Walks (J : It) (xs : List V) (Z : Hp → Prop) : Prop where
  go : ∀ i H, i < xs.length → Z H → J.go i H
  stop : ∀ i H, xs.length ≤ i → Z H → J.stop i H
  yld : ∀ i H x H', i < xs.length → J.yld i H x H' → H' = H ∧ xs[i]? = some x
/-- the iterable gives xs, as long as P holds -/
def Gives (wi : TI) (σ : L2.St) (H : Hp) (xs : List V) (P : Hp → Prop) : Prop := ∀ R : It → Hp → Prop, (∀ J Z, Walks J xs Z → (∀ H', P H' → Z H') → R J H) → wi σ H R
theorem gives_sq {K : PySem.W.Frag} {tl : TE} {σ : L2.St} {H : Hp} {a : Addr} {xs : List V} (ht : ∀ Q : VK, Q (.ref a) H → tl σ H Q) (hs : Sq H a xs) : Gives (iSeq K tl) σ H xs fun H' => H' a = H a := fun R h => ht _ ⟨a, xs, rfl, by
  have w : ∀ Z, Walks (ItS xs Z) xs Z := fun Z => ⟨fun i H l z => ⟨z, l⟩, fun i H l z => ⟨z, l⟩, fun i H x H' _ y => y⟩
  rcases hs with hs | hs
  · exact .inl ⟨sqL_of hs, h _ _ (w _) fun H' e => sqL_of (e.trans hs)⟩
  · exact .inr ⟨sqT_of hs, h _ _ (w _) fun H' e => sqT_of (e.trans hs)⟩⟩
/-- lo, lo + 1, .. : n of them -/
def rngV (lo : Int) (n : Nat) : List V := (List.range n).map fun k => .int (lo + (k : Nat))
theorem rngV_len {lo : Int} {n : Nat} : (rngV lo n).length = n := by simp [rngV]
theorem rngV_get {lo : Int} {n i : Nat} (h : i < n) : (rngV lo n)[i]? = some (.int (lo + (i : Nat))) := by simp [rngV, h]
theorem walks_rng {lo : Int} {n : Nat} : Walks (Itr lo n) (rngV lo n) fun _ => True := ⟨fun i H l _ => by rw [rngV_len] at l; exact l, fun i H l _ => by rw [rngV_len] at l; exact l, fun i H x H' l y => by
  rw [rngV_len] at l
  obtain ⟨e, ex⟩ := y
  exact ⟨e, by rw [rngV_get l, ex]⟩⟩
theorem gives_rng1 {ta : TA} {σ : L2.St} {H : Hp} {j : Int} (ht : ∀ Q : List V → Hp → Prop, Q [.int j] H → ta σ H Q) (h1 : -(2 ^ 62) ≤ j := by omega) (h2 : j < 2 ^ 62 := by omega) : Gives (iRng1 ta) σ H (rngV 0 j.toNat) fun _ => True := fun R h => ht _ ⟨j, rfl, h1, h2, h _ _ walks_rng fun _ _ => trivial⟩
theorem for_go {wi : TI} {g : TG} {tb : TS} {D : Ends} {σ : L2.St} {H : Hp} {xs : List V} {P : Hp → Prop} (G : Gives wi σ H xs P) (Pv : Nat → L2.St → Hp → Prop) (h0 : Pv 0 σ H) (hl : ∀ i σ H, i ≤ xs.length → Pv i σ H → P H)
    (hs : ∀ i x σ H, i < xs.length → xs[i]? = some x → Pv i σ H → g x σ H fun σ2 H2 => tb { D with nx := Pv (i + 1), ct := Pv (i + 1), bk := D.nx } σ2 H2) (hd : ∀ σ H, Pv xs.length σ H → D.nx σ H) : tFor wi g tb D σ H := by
  refine G _ fun J Z w hz => ?_
  refine ⟨fun i m σ H => m = xs.length - i ∧ i ≤ xs.length ∧ Pv i σ H, ⟨xs.length, by simp, Nat.zero_le _, h0⟩, ?_⟩
  rintro i m σ H ⟨rfl, hi, p⟩
  have q := hz _ (hl i σ H hi p)
  by_cases hlt : i < xs.length
  · refine .inr ⟨w.go i H hlt q, Pv (i + 1), fun σ' H' p' => ⟨xs.length - (i + 1), by omega, rfl, hlt, p'⟩, fun x H' y => ?_⟩
    obtain ⟨e, y'⟩ := w.yld i H x H' hlt y
    subst e
    exact hs i x σ _ hlt y' p
  · have e : i = xs.length := by omega
    subst e
    exact .inl ⟨w.stop _ H (Nat.le_refl _) q, hd σ H p⟩
/-- enumerate of a list or tuple -/
theorem for_en {K : PySem.W.Frag} {ta : TA} {g : TG} {tb : TS} {D : Ends} {σ : L2.St} {H : Hp} {a : Addr} {xs : List V} (ht : ∀ Q : List V → Hp → Prop, Q [.ref a] H → ta σ H Q) (h : Sq H a xs) (Pv : Nat → L2.St → Hp → Prop) (h0 : Pv 0 σ H) (hl : ∀ i σ H', i ≤ xs.length → Pv i σ H' → H' a = H a)
    (hs : ∀ i x σ H T, i < xs.length → xs[i]? = some x → Pv i σ H → H T = none → g (.ref T) σ (upd H T (.tup [.int (i : Nat), x])) fun σ2 H2 => tb { D with nx := Pv (i + 1), ct := Pv (i + 1), bk := D.nx } σ2 H2) (hd : ∀ σ H, Pv xs.length σ H → D.nx σ H) : tFor (iEnS K ta) g tb D σ H := by
  refine ht _ ⟨a, xs, rfl, ?_⟩
  have st : ∀ (i : Nat) (x : V) (σ : L2.St) (H : Hp) (T : Addr), xs[i]? = some x → Pv i σ H → H T = none → g (.ref T) σ (upd H T (.tup [.int (i : Nat), x])) fun σ2 H2 => tb { D with nx := Pv (i + 1), ct := Pv (i + 1), bk := D.nx } σ2 H2 := fun i x σ H T e => hs i x σ H T (List.getElem?_eq_some_iff.1 e).1 e
  rcases h with h | h
  · exact .inl ⟨sqL_of h, for_E Pv h0 (fun i σ H' l p => sqL_of ((hl i σ H' l p).trans h)) st hd⟩
  · exact .inr ⟨sqT_of h, for_E Pv h0 (fun i σ H' l p => sqT_of ((hl i σ H' l p).trans h)) st hd⟩
theorem for_call {K : PySem.W.Frag} {tl : TE} {g : TG} {tb : TS} {D : Ends} {σ : L2.St} {H : Hp} : tFor (iSeq K tl) g tb D σ H = tl σ H fun x H1 => tFor (iSeq K (tC x)) g tb D σ H1 := rfl
theorem lc_call {K : PySem.W.Frag} {tl : TE} {g : TG} {tt : TT} {te : TE} {vs : List Nat} {σ : L2.St} {H : Hp} {Q : VK} : tLc (iSeq K tl) g tt te vs σ H Q = tl σ H fun x H1 => tLc (iSeq K (tC x)) g tt te vs σ H1 Q := rfl
/-- a pair, taken apart -/
theorem g_two {K : PySem.W.Frag} {n i j : Nat} {T : Addr} {x y : V} {σ : L2.St} {H : Hp} {Q : L2.St → Hp → Prop} (hn : n = 2) (h : H T = some (.tup [x, y])) (q : Q ((σ.set i (some x)).set j (some y)) H) : gTup K n (gCons (gName i) (gCons (gName j) gNil)) (.ref T) σ H Q :=
  ⟨T, [x, y], rfl, sqT_of h, hn.symm, x, [y], rfl, y, [], rfl, rfl, q⟩
theorem g_three {K : PySem.W.Frag} {n i j k : Nat} {T : Addr} {x y z : V} {σ : L2.St} {H : Hp} {Q : L2.St → Hp → Prop} (hn : n = 3) (h : H T = some (.tup [x, y, z])) (q : Q (((σ.set i (some x)).set j (some y)).set k (some z)) H) : gTup K n (gCons (gName i) (gCons (gName j) (gCons (gName k) gNil))) (.ref T) σ H Q :=
  ⟨T, [x, y, z], rfl, sqT_of h, hn.symm, x, [y, z], rfl, y, [z], rfl, z, [], rfl, rfl, q⟩
/-! ### inside comprehensions: the fragment by name -/
theorem cK {X : Cx} {K : PySem.W.Frag} {f : Value} {r : PySem.W.Frag → List V → Hp → VK → Prop} (e : X.K = K) (h : CallR X f (r X.K)) : CallR X f (r K) := e ▸ h
theorem oK {X : Cx} {K : PySem.W.Frag} {f : Value → Value → Sem Value} {r : PySem.W.Frag → R2} (e : X.K = K) (h : OpR X f (r X.K)) : OpR X f (r K) := e ▸ h
theorem iK {X : Cx} {K : PySem.W.Frag} {r : PySem.W.Frag → R2} (e : X.K = K) (h : IxR X (r X.K)) : IxR X (r K) := e ▸ h
theorem pi_seqK {X : Cx} {K : PySem.W.Frag} {tg l : Expr} {tl : TE} (e : X.K = K) (hl : PE X l tl) : PI X tg l (iSeq K tl) := e ▸ pi_seq hl
/-! ### comprehensions: O is what a turn may change, I what it needs and keeps, A what the parts lie off -/
structure Box (O A : Addr → Prop) (I : Hp → Prop) (H : Hp) : Prop where
  sub : ∀ a, O a → A a
  old : ∀ a, A a → H a ≠ none
  upd : ∀ H D o, ¬A D → I H → I (upd H D o)
  ini : I H
theorem Box.none {A : Addr → Prop} {H : Hp} (h : ∀ a, A a → H a ≠ Option.none) : Box No A (fun _ => True) H := ⟨fun _ z => False.elim z, h, fun _ _ _ _ _ => trivial, trivial⟩
theorem lc_acc {wi : TI} {g : TG} {tt : TT} {te : TE} {vs : List Nat} {σ : L2.St} {H : Hp} {Q : VK} {xs : List V} {P : Hp → Prop} (G : Gives wi σ H xs P) {O A : Addr → Prop} {I : Hp → Prop} (B : Box O A I H) (hP : ∀ H', SameO O H H' → P H') (hz : xs.length ≤ sizeLine)
    (Inv : (Addr → Prop) → Nat → List V → Hp → Prop) (i0 : ∀ D H', Inv (Or1 A D) 0 [] H') (mI : ∀ {A n acc H' H''}, SameO A H' H'' → Inv A n acc H' → Inv A n acc H'') (wI : ∀ {A B n acc H'}, (∀ a, B a → A a) → Inv A n acc H' → Inv B n acc H')
    (step : ∀ (n : Nat) (x : V) (acc : List V) (H' : Hp) (D : Addr) (N : VK) (N0 : Hp → Prop), n < xs.length → xs[n]? = some x → SameO O H H' → I H' → (∀ a, Or1 A D a → H' a ≠ none) → Inv (Or1 A D) n acc H' →
      (∀ y H4, SameO O H' H4 → I H4 → Inv (Or1 A D) (n + 1) (acc ++ [y]) H4 → N y H4) → (∀ H3, SameO O H' H3 → I H3 → Inv (Or1 A D) (n + 1) acc H3 → N0 H3) →
      g x (wipe σ vs) H' fun σ2 H2 => wipe σ2 vs = wipe σ vs ∧ tt σ2 H2 fun b H3 => if b = true then te σ2 H3 N else N0 H3)
    (done : ∀ acc H' D, SameO O H H' → I H' → H D = none → ¬A D → H' D = some (.lst acc) → Inv A xs.length acc H' → Q (.ref D) H') : tLc wi g tt te vs σ H Q := by
  refine G _ fun J Z w hz' => fun D nD => ?_
  have nA : ¬A D := fun z => B.old D z nD
  have nO : ¬O D := fun z => nA (B.sub D z)
  refine ⟨fun i m H' => m = xs.length - i ∧ i ≤ xs.length ∧ ∃ acc, acc.length ≤ i ∧ SameO O H H' ∧ I H' ∧ H' D = some (.lst acc) ∧ Inv (Or1 A D) i acc H', ⟨xs.length, by simp, Nat.zero_le _, [], Nat.le_refl _, .new nD, B.upd _ _ _ nA B.ini, upd_same, i0 _ _⟩, ?_⟩
  rintro i m H' ⟨rfl, hi, acc, hlen, e, hI, hD, hInv⟩
  have q := hz' _ (hP _ e)
  by_cases hlt : i < xs.length
  · refine .inr ⟨w.go i H' hlt q, fun H'' => i + 1 ≤ xs.length ∧ ∃ acc, acc.length ≤ i + 1 ∧ SameO O H H'' ∧ I H'' ∧ H'' D = some (.lst acc) ∧ Inv (Or1 A D) (i + 1) acc H'', fun H'' p' => ⟨xs.length - (i + 1), by omega, rfl, p'⟩, fun x H'' y => ?_⟩
    obtain ⟨ee, y'⟩ := w.yld i H' x H'' hlt y
    subst ee
    refine step i x acc H'' D _ _ hlt y' e hI (fun a h => ?_) hInv (fun y H4 e4 I4 v4 => ?_) fun H3 e3 I3 v3 => ?_
    · rcases h with h | h
      · exact e.2.2 a (B.old a h)
      · rw [h, hD]
        exact fun z => nomatch z
    · have hD4 := e4.1 D _ nO hD
      refine ⟨acc, hD4, by omega, by omega, acc ++ [y], by rw [List.length_append]; simp; omega, ?_, B.upd _ _ _ nA I4, upd_same, mI (SameO.lst hD4 (.inr rfl)) v4⟩
      refine ⟨fun a u n h => ?_, ?_, fun a h => ?_⟩
      · have h4 := (e.trans e4).1 a u n h
        rw [upd_ne (ne_of_none h nD)]
        exact h4
      · exact (e.trans e4).2.1.trans (.lst hD4)
      · exact (SameO.lst (A := Or1 A D) hD4 (.inr rfl)).2.2 a ((e.trans e4).2.2 a h)
    · exact ⟨by omega, acc, by omega, e.trans e3, I3, e3.1 D _ nO hD, v3⟩
  · have ee : i = xs.length := by omega
    subst ee
    exact .inl ⟨w.stop _ H' (Nat.le_refl _) q, done acc H' D e hI nD nA hD (wI (fun a h => .inl h) hInv)⟩
/-- each part to its own -/
theorem lc_map {wi : TI} {i : Nat} {te : TE} {vs : List Nat} {σ : L2.St} {H : Hp} {Q : VK} {xs : List V} {P : Hp → Prop} (G : Gives wi σ H xs P) {O A : Addr → Prop} {I : Hp → Prop} (B : Box O A I H) (hP : ∀ H', SameO O H H' → P H') (hz : xs.length ≤ sizeLine)
    (hw : ∀ x, wipe ((wipe σ vs).set i (some x)) vs = wipe σ vs) {α β : Type} {S : RlA β} (F : Fam S) (zs : List α) (hzl : zs.length = xs.length) (f : α → β)
    (step : ∀ (n : Nat) (x : V) (z : α) (H' : Hp) (D : Addr) (N : VK), xs[n]? = some x → zs[n]? = some z → SameO O H H' → I H' → (∀ a, Or1 A D a → H' a ≠ none) →
      (∀ y H4, SameO O H' H4 → I H4 → S (Or1 A D) H4 y (f z) → N y H4) → te ((wipe σ vs).set i (some x)) H' N)
    (done : ∀ ys H' D, SameO O H H' → I H' → H D = none → ¬A D → H' D = some (.lst ys) → Paired (S A H') ys (zs.map f) → Q (.ref D) H') : tLc wi (gName i) tYes te vs σ H Q := by
  refine lc_acc G B hP hz (fun A n acc H' => Paired (S A H') acc ((zs.take n).map f)) (fun _ _ => .nil) (fun e h => F.monoP e h) (fun e h => F.weakP e h) (fun n x acc H' D N N0 hn hx e hI hA hp hN _ => ?_) fun acc H' D e hI nD nA hD hp => ?_
  · refine ⟨hw x, ?_⟩
    have hz' : n < zs.length := by rw [hzl]; exact hn
    refine step n x zs[n] H' D N hx (List.getElem?_eq_getElem hz') e hI hA fun y H4 e4 I4 r => hN y H4 e4 I4 ?_
    rw [List.take_succ, List.getElem?_eq_getElem hz']
    simp only [Option.toList_some, List.map_append, List.map_cons, List.map_nil]
    exact Paired.app (F.monoP (e4.wk fun a h => .inl (B.sub a h)) hp) (.cons r .nil)
  · refine done acc H' D e hI nD nA hD ?_
    rw [← hzl, List.take_length] at hp
    exact hp
/-- {cell: v for cell in xs}, the cells tuples of ints, each once -/
theorem dcT_map {wi : TI} {i : Nat} {vs : List Nat} {σ : L2.St} {H : Hp} {Q : VK} {xs : List V} {P : Hp → Prop} {v : V} (G : Gives wi σ H xs P) (hP : ∀ H', Same H H' → P H') (hz : xs.length ≤ sizeLine)
    (hw : ∀ x, wipe ((wipe σ vs).set i (some x)) vs = wipe σ vs) (hv : ∀ x, ((wipe σ vs).set i (some x))[i]? = some (some x)) {cs : List (List Int)} (hp : Paired (TpF InA No H) xs cs) (hn : cs.Nodup)
    (done : ∀ H' D, Same H H' → H D = none → H' D = some (.dT (cs.map fun c => (c.map Sum.inl, v))) → Q (.ref D) H') : tDcT wi (gName i) tYes (tVar i) (tC v) vs σ H Q := by
  refine G _ fun J Z w hz' => fun D nD => ?_
  have hl : xs.length = cs.length := Paired.len hp
  refine ⟨fun n m H' => m = xs.length - n ∧ n ≤ xs.length ∧ Same H H' ∧ H' D = some (.dT ((cs.take n).map fun c => (c.map Sum.inl, v))), ⟨xs.length, by simp, Nat.zero_le _, same_new nD, upd_same⟩, ?_⟩
  rintro n m H' ⟨rfl, hi, e, hD⟩
  have q := hz' _ (hP _ e)
  by_cases hlt : n < xs.length
  · refine .inr ⟨w.go n H' hlt q, fun H'' => n + 1 ≤ xs.length ∧ Same H H'' ∧ H'' D = some (.dT ((cs.take (n + 1)).map fun c => (c.map Sum.inl, v))), fun H'' p' => ⟨xs.length - (n + 1), by omega, rfl, p'⟩, fun x H'' y => ?_⟩
    obtain ⟨ee, y'⟩ := w.yld n H' x H'' hlt y
    subst ee
    obtain ⟨c, hc, b, ys, rfl, hb, hbp⟩ := Paired.at hp y'
    obtain rfl := ina_eq hbp
    refine ⟨hw _, ⟨.ref b, hv _, (cs.take n).map fun c => (c.map Sum.inl, v), c.map Sum.inl, b, rfl, ?_, hD, by rw [List.length_map, List.length_take]; omega, by omega, same_mut e nD, ?_⟩⟩
    · rw [List.map_map]
      exact e _ _ hb
    · rw [upd_same, putK_new]
      · rw [List.take_succ, hc]
        simp
      · cases hvv : valV ((cs.take n).map fun c => ((c.map Sum.inl : List L2.Key), v)) (c.map Sum.inl) with
        | none => rfl
        | some z =>
          exfalso
          have hin := valV_in hvv
          rw [List.map_map, List.mem_map] at hin
          obtain ⟨d, hd, ed⟩ := hin
          have ecd : d = c := by
            have := congrArg (List.map fun k : L2.Key => match k with | .inl i => i | .inr _ => 0) ed
            simpa [List.map_map, Function.comp_def] using this
          subst ecd
          obtain ⟨j, hj, ej⟩ := List.mem_take_iff_getElem.1 hd
          obtain ⟨hi2, ei⟩ := List.getElem?_eq_some_iff.1 hc
          have := (List.getElem_inj hn).1 (ej.trans ei.symm)
          omega
  · have ee : n = xs.length := by omega
    subst ee
    refine .inl ⟨w.stop _ H' (Nat.le_refl _) q, done H' D e nD ?_⟩
    rw [hD, hl, List.take_length]
theorem Paired.perm {α β : Type} {R : α → β → Prop} {xs ys : List α} (h : ys.Perm xs) : ∀ (zs : List β), Paired R xs zs → ∃ ws, ws.Perm zs ∧ Paired R ys ws := by
  induction h with
  | nil =>
    intro zs h
    cases h
    exact ⟨[], .nil, .nil⟩
  | cons x _ ih =>
    intro zs h
    cases h with
    | cons r t =>
      obtain ⟨ws, e, p⟩ := ih _ t
      exact ⟨_ :: ws, .cons _ e, .cons r p⟩
  | swap x y l =>
    intro zs h
    cases h with
    | cons r t =>
      cases t with
      | cons r' t' => exact ⟨_, .swap _ _ _, .cons r' (.cons r t')⟩
  | trans _ _ ih1 ih2 =>
    intro zs h
    obtain ⟨ws, e, p⟩ := ih2 _ h
    obtain ⟨us, e', p'⟩ := ih1 _ p
    exact ⟨us, e'.trans e, p'⟩
theorem mem_mergeT {k : List L2.Key} : ∀ (more kvs : List (List L2.Key × V)), (valV (mergeT kvs more) k).isSome = true → (valV kvs k).isSome = true ∨ k ∈ more.map (·.1)
  | [], _, h => .inl h
  | p :: more, kvs, h => by
    rcases mem_mergeT more (putK kvs p.1 p.2) h with h | h
    · rw [valV_put] at h
      by_cases e : k = p.1
      · exact .inr (by rw [e]; exact List.mem_cons_self)
      · rw [if_neg e] at h
        exact .inl h
    · exact .inr (List.mem_cons_of_mem _ h)
theorem putK_ne {κ : Type} [DecidableEq κ] {kvs : List (κ × V)} {k : κ} {v : V} : putK kvs k v ≠ [] := by
  unfold putK
  split
  · rename_i h
    intro z
    cases kvs with
    | nil => simp at h
    | cons p r => simp at z
  · simp
theorem mergeT_ne : ∀ (more kvs : List (List L2.Key × V)), kvs ≠ [] ∨ more ≠ [] → mergeT kvs more ≠ []
  | [], kvs, h => by
    rcases h with h | h
    · exact h
    · exact absurd rfl h
  | p :: more, kvs, _ => mergeT_ne more _ (.inl putK_ne)
end HK
set_option Elab.async false
set_option linter.all false
set_option maxRecDepth 100000
set_option maxHeartbeats 4000000
/-! HKObj: own classes: isinstance, ==, != ; deep data. -/
namespace HK
open PySem PySem.Spec PyProof.Rows L2 He
section
variable {P : Program} {w : World} {base : Heap} {fx : List (PySem.W.Frag → Bool)} {fa : List Fa} {fn : List DefD} {er : List ErD} {K : PySem.W.Frag} {mg : Str → Option Value}
/-- a class with its own __eq__, as its callers see it -/
structure CalE (P : Program) (w : World) (K : PySem.W.Frag) (mg : Str → Option Value) (base : Heap) (CX : CXT) (C : Addr) (k : Nat) (ps : List Str) (sp : Sp) : Prop where
  ex : ∃ (f : Addr) (fd : FuncData), EqC K C f ∧ FnOk P w K mg base CX k f fd ps sp ∧ Binds K fd ps []
theorem Src.calE {d : DefD} {N ps : List Str} {k : Nat} {sp : Sp} {x : Str} (S : Src P fx fa fn er K mg) (i : Nat) (Sc : FnScope N ps d.scope) (hd : fn[i]? = some d) (hat : d.at_ = (x, some ("__eq__" : Str))) (hds : d.dfl = []) (hkw : d.kwd = [])
    (hE : EqC K (ga K x) (ma K (ga K x) "__eq__"))
    (hb : ∀ (kV doc pm : Value) (an : Option Addr) (cdv ct : Value) (us : List Value), us.length = ps.length → bindArgs (PySem.W.fnOf d.name d.qual d.params d.body d.scope .none kV doc pm an cdv ct) ⟨us, []⟩ = pure (ps.zip us))
    (len : ∀ vs H Q E, sp vs H Q E → vs.length = ps.length)
    (hbody : ∀ (f : Addr) (cdv : Value) (A : Around) (outer : List Env) (s : Shared) (H : Hp) (vs : List V) (Q : VK) (E : XK), Room k (A.deeper (envOfC d.qual d.scope s.heap.objs.size f cdv)) → sp vs H Q E →
      ∃ t, PSs (cxOf CX0 P w K mg base N d.qual d.scope f cdv A outer s H E).nox d.body t ∧ t { nx := fun _ H' => Q .non H', rt := Q } (start N vs) H) : CalE P w K mg base CX0 (ga K x) (k + 1) ps sp := by
  obtain ⟨fd, F⟩ := S.def_ i hd
  have e1 : d.dvs K = [] := by unfold DefD.dvs; rw [hds]; rfl
  have e2 : d.kws K = [] := by unfold DefD.kws; rw [hkw]; rfl
  rw [e1, e2, hat] at F
  refine ⟨_, fd, hE, FunD.ok F Sc len fun cdv A outer s H vs Q E hr h => ?_, FunD.bindsN F hb⟩
  obtain ⟨t, h1, h2⟩ := hbody _ cdv A outer s H vs Q E hr h
  exact ⟨t, h1.nox, h2⟩
end
section
variable {X : Cx} {CX : CXT} {C : Addr} {k : Nat} {ps : List Str} {sp : Sp}
theorem op_eqC (c : CalE X.prog X.w X.K X.mg X.base CX C k ps sp) (hx : Passes CX X (fun _ _ _ => False)) (hr : Room k X.A) : OpR X (compareOp .Eq) (rEqI C sp id) := by
  obtain ⟨f, fd, E, F, hb⟩ := c.ex
  exact op_eqI E F hb hx hr
theorem op_neC (c : CalE X.prog X.w X.K X.mg X.base CX C k ps sp) (hx : Passes CX X (fun _ _ _ => False)) (hr : Room (k + 2) X.A) : OpR X (compareOp .NotEq) (rEqI C sp fun r => !r) := by
  obtain ⟨f, fd, E, F, hb⟩ := c.ex
  exact op_neI E F hb hx hr
end
section
variable {K : PySem.W.Frag} {H : Hp} {Q : VK} {C : Addr}
/-- what isinstance asks of the class -/
structure Own (K : PySem.W.Frag) (C : Addr) : Prop where
  cl : Cls K C
  ca : eqO (PySem.W.findIn K (.ref C) "__class__") (some (some (.builtin "object.__class__"))) = true
  hn : eqO (PySem.W.specialIn K (.builtin "object.__class__") "__get__") (some (some (.builtin "getset_descriptor.__get__"))) = true
  ht : decide (PySem.W.takesIn K (.builtin "object.__class__") = some true) = true
  ob : decide (PySem.W.mroIn K C (.type "object") = some true) = true
  ty : ((PySem.W.clsIn K C).isSome && PySem.W.typeIn K (.ref C) == some (.type "type")) = true
theorem isi_own {a dx : Addr} {fs : List (Str × V)} (O : Own K C) (h : H a = some (.ins C dx fs)) (q : Q (.bl true) H) : rIsi K [.ref a, .ref C] H Q :=
  isi_of q (.base (.ins h O.cl (eqO_ok O.ca) (eqO_ok O.hn) (of_decide_eq_true O.ht) (of_decide_eq_true O.ob))) (.own C) (by
    unfold PySem.W.kitOne
    exact if_pos (beq_self_eq_true _))
theorem isi_not {x : V} {T : String} (O : Own K C) (h : TyX K H x (.type T)) (hT : ∀ C : Addr, (fastBuiltinMro T).map (·.contains (.ref C)) = some false) (q : Q (.bl false) H) : rIsi K [x, .ref C] H Q :=
  isi_of q h (.own C) (by
    unfold PySem.W.kitOne PySem.W.kitCls
    rw [if_neg (by simp)]
    simp only [O.ty, if_true]
    exact hT C)
end
/-- a field of a value -/
def rFld (K : PySem.W.Frag) (f : Str) : V → Hp → VK → Prop := fun x H Q => ∃ a C dx fs v, x = .ref a ∧ H a = some (.ins C dx fs) ∧ Cls K C ∧ NoAttr K C f ∧ fs.lookup f = some v ∧ Q v H
theorem tFld_eq {K : PySem.W.Frag} {ta : TE} {f : Str} {σ : L2.St} {H : Hp} {Q : VK} : tFld K ta f σ H Q = ta σ H fun x H1 => rFld K f x H1 Q := rfl
theorem pe_fldK {X : Cx} {K : PySem.W.Frag} {e : Expr} {f : Str} {pos : Pos} {ta : TE} (ek : X.K = K) (he : PE X e ta) (hb : attributeBase e f X.env (eval e X.env) = eval e X.env) : PE X (.Attribute e f pos) (tFld K ta f) := ek ▸ pe_fld he hb
/-- tuples of tuples of tuples of ints as data -/
def pdU (U : List (List (List Int))) : PyData := .tuple (U.map fun u => .tuple (u.map fun l => .tuple (l.map PyData.int)))
theorem dp_all {K : PySem.W.Frag} {H : Hp} {α : Type} {R : V → α → Prop} {f : α → PyData} (h : ∀ v x, R v x → Dp K H v (f x)) : ∀ {vs : List V} {xs : List α}, Paired R vs xs → DpAll K H vs (xs.map f)
  | _, _, .nil => .nil
  | _, _, .cons r t => .cons (h _ _ r) (dp_all h t)
theorem dp_ups {K : PySem.W.Frag} {H : Hp} {v : V} {U : List (List (List Int))} (h : TpF (TpF (TpF InA)) No H v U) : Dp K H v (pdU U) := by
  obtain ⟨a, vs, rfl, ha, hp⟩ := h
  refine .tup (sqT_of ha) (dp_all (fun v u h => ?_) hp)
  obtain ⟨a, vs, rfl, ha, hp⟩ := h
  refine .tup (sqT_of ha) (dp_all (fun v u h => ?_) hp)
  obtain ⟨a, vs, rfl, ha, hp⟩ := h
  refine .tup (sqT_of ha) (dp_all (fun v u h => ?_) hp)
  cases (show v = .int u from h)
  exact .int u
theorem lay_all {α : Type} {f : α → PyData} (h : ∀ x, (f x).canLay0 = true) : ∀ xs : List α, PyData.canLayAll0 (xs.map f) = true
  | [] => by simp only [List.map_nil, PyData.canLayAll0]
  | x :: t => by
    simp only [List.map_cons, PyData.canLayAll0, h, lay_all h t]
    rfl
theorem dep_all {α : Type} {f : α → PyData} {n : Nat} (h : ∀ x, (f x).depth ≤ n) : ∀ xs : List α, PyData.depthAll (xs.map f) ≤ n
  | [] => by simp only [List.map_nil, PyData.depthAll]; exact Nat.zero_le _
  | x :: t => by
    simp only [List.map_cons, PyData.depthAll]
    exact Nat.max_le.2 ⟨h x, dep_all h t⟩
theorem pdU_lay (U : List (List (List Int))) : (pdU U).canLay0 = true := by
  unfold pdU
  simp only [PyData.canLay0]
  refine lay_all (fun u => ?_) U
  simp only [PyData.canLay0]
  refine lay_all (fun l => ?_) u
  simp only [PyData.canLay0]
  exact lay_all (fun i => by simp only [PyData.canLay0]) l
theorem pdU_dep (U : List (List (List Int))) : (pdU U).depth ≤ 3 := by
  unfold pdU
  simp only [PyData.depth]
  refine Nat.succ_le_succ (dep_all (fun u => ?_) U)
  simp only [PyData.depth]
  refine Nat.succ_le_succ (dep_all (fun l => ?_) u)
  simp only [PyData.depth]
  exact Nat.succ_le_succ (dep_all (fun i => by simp only [PyData.depth]; exact Nat.le_refl _) l)
theorem eqD_ups {K : PySem.W.Frag} {H : Hp} {Q : VK} {v v' : V} {U : List (List (List Int))} (h : TpF (TpF (TpF InA)) No H v U) (h' : TpF (TpF (TpF InA)) No H v' U) (q : Q (.bl true) H) : rEqD K v v' H Q := by
  have sh : SeqAt.shaped (pdU U) = true := by
    unfold SeqAt.shaped
    rw [pdU_lay]
    exact decide_eq_true (Nat.le_trans (pdU_dep U) (by decide))
  refine ⟨pdU U, pdU U, dp_ups h, dp_ups h', sh, sh, ?_⟩
  rw [SeqAt.eqv_refl _ (pdU_lay U)]
  exact q
end HK
set_option Elab.async false
set_option linter.all false
set_option maxRecDepth 100000
set_option maxHeartbeats 4000000
/-! HKMk: making and raising the program's errors. -/
namespace HK
open PySem PySem.Spec PyProof.Rows L2 He
open PySem.HKErr in
theorem mk_err {P : Program} {X : Cx} {e0 : ErD} {ok : V → Prop} {a ex : Expr} {ta : TA} {p pos : Pos} {k : Nat} {q1 q2 q3 q4 q5 q6 q7 q8 q9 p1 p2 : Pos} (hp : X.prog = P) (E : Er P X.K X.mg e0) (hA : e0.params = iA e0.fld p1 p2) (hB : e0.body = iB e0.fld ex q1 q2 q3 q4 q5 q6 q7 q8 q9)
    (Sd : Side e0.fld ex q1 q2 q3 q4 q5 q6 q7 q8 q9 p1 p2 e0.scope e0.qual) (hok : ∀ v u, ok v → RelV v u → ArgOk X.prog X.w X.mg e0.scope ex e0.fld u) (hm : X.mg e0.cls = some (.ref (ga X.K e0.cls))) (hr : Room k X.A) (ha : PA X [a] ta) (hg : Gl X e0.cls := by rfl) (hdb : (e0.cls == ("__debug__" : Str)) = false := by decide)
    (he : starEach (a :: []) X.env = (false, eval a X.env) :: starEach [] X.env := by rfl) (hpl : (backTo pos (starEach [] X.env)).any (·.1) = false := by rfl) :
    PMk X (.Call (.Name e0.cls p) [a] [] pos) (tMkE (ga X.K e0.cls) e0.fld ok ta) := by
  subst hp
  have Y := E.ini
  rw [hA, hB] at Y
  exact pmk_err E.txt Y Sd hok hm hr ha hg hdb he hpl
end HK
set_option Elab.async false
set_option linter.all false
set_option maxRecDepth 100000
set_option maxHeartbeats 4000000
/-! HKRng: range(n) as a value, walked later; xs[i] op= v of a list. -/
namespace HK
open PySem PySem.Spec PyProof.Rows L2 He
section
variable {X : Cx} {tg : Expr}
theorem cr_range1 : CallR X (.type "range") (fun vs H Q => ∃ j, vs = [V.int j] ∧ ∀ p, H p = none → Q (.ref p) (upd H p (.rng 0 j))) := by
  intro pins s σ H vs us Q I r h
  obtain ⟨j, rfl, q⟩ := h
  obtain ⟨u1, rfl, rj⟩ := Vals.one r
  obtain ⟨u, rfl⟩ := rj
  refine call_range_1 ⟨.ref s.heap.objs.size, upd H s.heap.objs.size (.rng 0 j), I.laid (t' := s.toks + 1 + 1) (fun b o e => Heap.get?_push_of_some _ e) (Nat.le_refl _) ?_, rfl, q _ (I.hok.fresh (Nat.le_refl _))⟩
  exact ⟨_, _, _, Heap.get?_push_size _ rfl⟩
def iRngV (tl : TE) : TI := fun σ H R => tl σ H fun x H1 => ∃ a lo hi, x = .ref a ∧ H1 a = some (.rng lo hi) ∧ (-(2 ^ 62) ≤ lo ∧ lo < 2 ^ 62 ∧ -(2 ^ 62) ≤ hi ∧ hi < 2 ^ 62) ∧ R (Itr lo (hi - lo).toNat) H1
theorem pi_rngV {l : Expr} {tl : TE} (hl : PE X l tl) : PI X tg l (iRngV tl) := by
  refine ⟨fun pins s σ H R I h => ?_⟩
  refine thn (hl.run pins s σ H _ I h) fun v s1 ⟨x, H1, I1, r1, q1⟩ => ?_
  obtain ⟨a, lo, hi, e, ha, ⟨h1, h2, h3, h4⟩, q⟩ := q1
  subst e
  cases r1
  obtain ⟨t, u, v, ho⟩ := I1.hok a _ ha
  refine wpAny_pyIter_range (show IsRange s1.heap a lo hi 1 t u v from ho) (small_one h1 h2 h3 h4) ?_
  refine ⟨s1.heap.objs.size, [s1.heap.objs.size], _, _, H1, rfl, I1.kept (t' := s1.toks) fun b o e => Heap.get?_push_of_some _ e, turn_range _ lo (hi - lo).toNat, ?_, fun b hb => ?_, q⟩
  · have e1 : lo + ((0 : Nat) : Int) * 1 = lo := by simp
    have e2 : (((hi - lo).toNat : Nat) : Int) - ((0 : Nat) : Int) = Builtin.Range.rangeSize lo hi 1 := by rw [rangeSize_one]; split <;> omega
    show IsRangeIter _ _ (lo + ((0 : Nat) : Int) * 1) ((((hi - lo).toNat : Nat) : Int) - ((0 : Nat) : Int)) 1
    rw [e1, e2]
    exact Heap.get?_push_size _ rfl
  · have e : b = s1.heap.objs.size := by simpa using hb
    subst e
    exact I1.fpOk (Nat.le_refl _) (I1.hok.fresh (Nat.le_refl _))
theorem gives_rngV {tl : TE} {σ : L2.St} {H : Hp} {a : Addr} {j : Int} (ht : ∀ Q : VK, Q (.ref a) H → tl σ H Q) (h : H a = some (.rng 0 j)) (h1 : -(2 ^ 62) ≤ j := by omega) (h2 : j < 2 ^ 62 := by omega) : Gives (iRngV tl) σ H (rngV 0 j.toNat) fun _ => True := fun R hR =>
  ht _ ⟨a, 0, j, rfl, h, ⟨by decide, by decide, h1, h2⟩, by simpa using hR _ _ walks_rng fun _ _ => trivial⟩
/-- xs[i], i not below 0 -/
def rGetL (K : PySem.W.Frag) : V → V → Hp → VK → Prop := fun o i H Q => ∃ p xs k v, o = .ref p ∧ i = .int k ∧ 0 ≤ k ∧ SqL K H p xs ∧ xs[k.toNat]? = some v ∧ Q v H
theorem pget_list : PGet X (rGetL X.K) := by
  intro pins s σ H o i ov iv Q I ro ri h
  obtain ⟨p, xs, k, v, rfl, rfl, k0, hq, hv, q⟩ := h
  cases ro
  obtain ⟨t, rfl⟩ := ri
  obtain ⟨its, r, pl, hz⟩ := I.list hq
  obtain ⟨w, ew, rw'⟩ := r.get hv
  have hl := r.length
  have hk := (List.getElem?_eq_some_iff.1 hv).1
  have hn := line63
  refine wpAny_getItem_list (x := w) pl.isList k0 (by omega) (by simpa using ew) ⟨v, H, I, rw', q⟩
end
theorem paired_ix {α β : Type} {R : α → β → Prop} : ∀ {xs : List α} {ys : List β}, xs.length = ys.length → (∀ (i : Nat) (x : α) (y : β), xs[i]? = some x → ys[i]? = some y → R x y) → Paired R xs ys
  | [], [], _, _ => .nil
  | x :: xs, y :: ys, h, k => .cons (k 0 x y rfl rfl) (paired_ix (by simpa using h) fun i a b ha hb => k (i + 1) a b (by simpa using ha) (by simpa using hb))
  | [], _ :: _, h, _ => by simp at h
  | _ :: _, [], h, _ => by simp at h
/-! ### tuples cut and joined -/
theorem cut_take {α : Type} (xs : List α) (a : Nat) : (xs.drop (HT.sIx xs.length 0 none)).take (HT.sIx xs.length xs.length (some (a : Int)) - HT.sIx xs.length 0 none) = xs.take a := by
  rw [HT.sIx_none, HT.sIx_nat, List.drop_zero, Nat.sub_zero]
  rw [List.take_eq_take_iff]
  omega
theorem cut_drop {α : Type} (xs : List α) (a : Nat) : (xs.drop (HT.sIx xs.length 0 (some (a : Int)))).take (HT.sIx xs.length xs.length none - HT.sIx xs.length 0 (some (a : Int))) = xs.drop a := by
  rw [HT.sIx_none, HT.sIx_nat]
  by_cases h : a ≤ xs.length
  · rw [Nat.min_eq_left h]
    exact List.take_of_length_le (by rw [List.length_drop]; exact Nat.le_refl _)
  · rw [Nat.min_eq_right (by omega), List.drop_eq_nil_of_le (Nat.le_refl _), List.drop_eq_nil_of_le (by omega), List.take_nil]
section
variable {K : PySem.W.Frag} {H : Hp} {Q : VK}
theorem sl_take {p : Addr} {xs : List V} {a : Nat} (h : H p = some (.tup xs)) (q : ∀ p' H', Same H H' → H' p' = some (.tup (xs.take a)) → Q (.ref p') H') : rSlA K (.ref p) none (some (a : Int)) H Q := by
  refine ⟨p, xs, rfl, sqT_of h, fun e => ?_, fun _ p' np => q p' _ (same_new np) (by rw [upd_same]; exact congrArg (fun z => some (HO.tup z)) (cut_take xs a))⟩
  have e2 := e.2
  rw [HT.sIx_nat] at e2
  exact q p H (Same.refl _) (by rw [List.take_of_length_le (by omega)]; exact h)
theorem sl_drop {p : Addr} {xs : List V} {a : Nat} (h : H p = some (.tup xs)) (q : ∀ p' H', Same H H' → H' p' = some (.tup (xs.drop a)) → Q (.ref p') H') : rSlA K (.ref p) (some (a : Int)) none H Q := by
  refine ⟨p, xs, rfl, sqT_of h, fun e => ?_, fun _ p' np => q p' _ (same_new np) (by rw [upd_same]; exact congrArg (fun z => some (HO.tup z)) (cut_drop xs a))⟩
  have e1 := e.1
  rw [HT.sIx_nat] at e1
  rcases Nat.eq_zero_or_pos a with z | z
  · exact q p H (Same.refl _) (by rw [z, List.drop_zero]; exact h)
  · have : xs.length = 0 := by omega
    rw [List.length_eq_zero_iff.1 this] at h
    exact q p H (Same.refl _) (by rw [List.length_eq_zero_iff.1 this, List.drop_nil]; exact h)
theorem cat_tup {p p2 : Addr} {xs ys : List V} (h : H p = some (.tup xs)) (h2 : H p2 = some (.tup ys)) (hz : xs.length + ys.length ≤ sizeLine) (q : ∀ p' H', Same H H' → H' p' = some (.tup (xs ++ ys)) → Q (.ref p') H') : rCatA K (.ref p) (.ref p2) H Q :=
  ⟨p, p2, xs, ys, rfl, rfl, sqT_of h, sqT_of h2, hz, fun e => q p2 H (Same.refl _) (by rw [e, List.nil_append]; exact h2), fun _ e => q p H (Same.refl _) (by rw [e, List.append_nil]; exact h), fun _ _ p' np => q p' _ (same_new np) upd_same⟩
end
/-- {k: te for k in d}, d a dict whose keys are tuples, frozen meanwhile -/
theorem dcT_keys {d : Addr} {od : Obj} {kvs : List (List L2.Key × V)} {j : Nat} {tv : TE} {vs : List Nat} {σ : L2.St} {H : Hp} {Q : VK} {D : Addr} (Pv : Nat → Hp → Prop) (hw : ∀ x, wipe ((wipe σ vs).set j (some x)) vs = wipe σ vs) (hv : ∀ x, ((wipe σ vs).set j (some x))[j]? = some (some x))
    (h0 : Pv 0 (upd H D (.dT []))) (hl : ∀ i H, i ≤ kvs.length → Pv i H → H d = some (.frz od (.dT kvs)))
    (hs : ∀ (i : Nat) (k : List L2.Key) (v : V) (q : Addr) (H : Hp) (N : VK), kvs[i]? = some (k, v) → Pv i H → H q = some (.tup (k.map kV)) →
      (∀ z H5 kvs2, H5 q = some (.tup (k.map kV)) → H5 D = some (.dT kvs2) → kvs2.length < sizeLine → Pv (i + 1) (upd H5 D (.dT (putK kvs2 k z))) → N z H5) → tv ((wipe σ vs).set j (some (.ref q))) H N)
    (hd : ∀ H, Pv kvs.length H → Q (.ref D) H) :
    ∃ W : Nat → Nat → Hp → Prop, (∃ m, W 0 m (upd H D (.dT []))) ∧ ∀ i m H, W i m H →
      ((Itkt d od kvs).stop i H ∧ Q (.ref D) H) ∨ ((Itkt d od kvs).go i H ∧ ∃ Nx : Hp → Prop, (∀ H', Nx H' → ∃ m', m' < m ∧ W (i + 1) m' H') ∧ ∀ x H', (Itkt d od kvs).yld i H x H' → gName j x (wipe σ vs) H' fun σ2 H2 => wipe σ2 vs = wipe σ vs ∧ tYes σ2 H2 fun b H3 =>
        if b = true then tVar j σ2 H3 fun y H4 => tv σ2 H4 fun z H5 => ∃ (kvs : List (List L2.Key × V)) (k : List L2.Key) (b : Addr), y = .ref b ∧ H5 b = some (.tup (k.map kV)) ∧ H5 D = some (.dT kvs) ∧ kvs.length < sizeLine ∧ Nx (upd H5 D (.dT (putK kvs k z))) else Nx H3) := by
  refine ⟨fun i m H => m = kvs.length - i ∧ i ≤ kvs.length ∧ Pv i H, ⟨kvs.length, by simp, Nat.zero_le _, h0⟩, ?_⟩
  rintro i m H ⟨rfl, hi, p⟩
  have q := hl i H hi p
  by_cases hlt : i < kvs.length
  · refine .inr ⟨⟨q, hlt⟩, fun H' => i + 1 ≤ kvs.length ∧ Pv (i + 1) H', fun H' p' => ⟨kvs.length - (i + 1), by omega, rfl, p'⟩, fun x H' y => ?_⟩
    obtain ⟨e, k, v, b, hk, rfl, hb⟩ := y
    subst e
    refine ⟨hw _, .ref b, hv _, ?_⟩
    exact hs i k v b _ _ hk p hb fun z H5 kvs2 h1 h2 h3 h4 => ⟨kvs2, k, b, rfl, h1, h2, h3, hlt, h4⟩
  · have e : i = kvs.length := by omega
    subst e
    exact .inl ⟨⟨q, Nat.le_refl _⟩, hd H p⟩
end HK
set_option Elab.async false
set_option linter.all false
set_option maxRecDepth 100000
set_option maxHeartbeats 4000000
/-! HKSet: dicts that stand for sets of ints. -/
namespace HK
open PySem PySem.Spec PyProof.Rows L2 He
def dkOf (L : List Int) : List (L2.Key × V) := L.map fun o => (Sum.inl o, V.bl true)
def addI (L : List Int) (o : Int) : List Int := if o ∈ L then L else L ++ [o]
def addO (L : List Int) (k : Option Int) : List Int := match k with
  | some i => addI L i
  | none => L
theorem dkOf_len (L : List Int) : (dkOf L).length = L.length := List.length_map ..
theorem dkOf_put (L : List Int) (o : Int) : putK (dkOf L) (Sum.inl o) (V.bl true) = dkOf (addI L o) := by
  unfold putK addI
  have e : ((dkOf L).any fun kv => decide (kv.1 = (Sum.inl o : L2.Key))) = decide (o ∈ L) := by
    rw [Bool.eq_iff_iff, List.any_eq_true, decide_eq_true_iff]
    constructor
    · rintro ⟨kv, h1, h2⟩
      obtain ⟨x, hx, rfl⟩ := List.mem_map.1 h1
      have := Sum.inl.inj (of_decide_eq_true h2)
      rwa [← this]
    · intro h
      exact ⟨(Sum.inl o, V.bl true), List.mem_map.2 ⟨o, h, rfl⟩, decide_eq_true rfl⟩
  rw [e]
  by_cases h : o ∈ L
  · rw [if_pos (decide_eq_true h), if_pos h]
    unfold dkOf
    rw [List.map_map]
    refine List.map_congr_left fun x hx => ?_
    show (if (Sum.inl x : L2.Key) = Sum.inl o then ((Sum.inl x : L2.Key), V.bl true) else (Sum.inl x, V.bl true)) = _
    split <;> rfl
  · rw [if_neg (by simpa using h), if_neg h]
    simp [dkOf]
theorem mem_addI {L : List Int} {o x : Int} : x ∈ addI L o ↔ x ∈ L ∨ x = o := by
  unfold addI
  split
  · rename_i h
    exact ⟨.inl, fun z => z.elim id fun e => e ▸ h⟩
  · rw [List.mem_append, List.mem_singleton]
theorem nodup_addI {L : List Int} {o : Int} (h : L.Nodup) : (addI L o).Nodup := by
  unfold addI
  split
  · exact h
  · rename_i hn
    rw [List.nodup_append]
    exact ⟨h, List.pairwise_singleton _ _, fun x hx y hy => by
      rw [List.mem_singleton] at hy
      subst hy
      rintro rfl
      exact hn hx⟩
theorem len_addI (L : List Int) (o : Int) : (addI L o).length ≤ L.length + 1 := by
  unfold addI
  split <;> simp
theorem mem_addO : ∀ (ks : List (Option Int)) {L : List Int} {x : Int}, x ∈ ks.foldl addO L ↔ x ∈ L ∨ some x ∈ ks
  | [], L, x => by simp
  | k :: ks, L, x => by
    rw [List.foldl_cons, mem_addO ks, List.mem_cons]
    cases k with
    | none => simp [addO]
    | some i =>
      show x ∈ addI L i ∨ _ ↔ _
      rw [mem_addI]
      simp only [Option.some.injEq]
      exact ⟨fun h => h.elim (fun h => h.elim .inl fun h => .inr (.inl h)) fun h => .inr (.inr h), fun h => h.elim (fun h => .inl (.inl h)) fun h => h.elim (fun h => .inl (.inr h)) .inr⟩
theorem nodup_addO : ∀ (ks : List (Option Int)) {L : List Int}, L.Nodup → (ks.foldl addO L).Nodup
  | [], _, h => h
  | k :: ks, L, h => by
    rw [List.foldl_cons]
    refine nodup_addO ks ?_
    cases k with
    | none => exact h
    | some i => exact nodup_addI h
theorem len_addO : ∀ (ks : List (Option Int)) (L : List Int), (ks.foldl addO L).length ≤ L.length + ks.length
  | [], L => by simp
  | k :: ks, L => by
    rw [List.foldl_cons, List.length_cons]
    have := len_addO ks (addO L k)
    have h2 : (addO L k).length ≤ L.length + 1 := by
      cases k with
      | none => exact Nat.le_succ _
      | some i => exact len_addI L i
    omega
theorem merge_dk : ∀ (M L : List Int), mergeK (dkOf L) (dkOf M) = dkOf (M.foldl addI L)
  | [], _ => rfl
  | o :: M, L => by
    show mergeK (putK (dkOf L) (Sum.inl o) (V.bl true)) (dkOf M) = _
    rw [dkOf_put, merge_dk M]
    rfl
theorem foldl_addI (M L : List Int) : M.foldl addI L = (M.map some).foldl addO L := by
  rw [List.foldl_map]
  rfl
/-- {i: True for .. if ..}: ks says which key each turn gives, if any -/
theorem dcK_set {wi : TI} {g : TG} {tt : TT} {tk tv : TE} {vs : List Nat} {σ : L2.St} {H : Hp} {Q : VK} {xs : List V} {P : Hp → Prop} (G : Gives wi σ H xs P) (hP : ∀ H', Same H H' → P H') (hz : xs.length ≤ sizeLine) (ks : List (Option Int)) (hk : ks.length = xs.length)
    (step : ∀ (n : Nat) (x : V) (k : Option Int) (H' : Hp) (N : V → V → Hp → Prop) (N0 : Hp → Prop), xs[n]? = some x → ks[n]? = some k → Same H H' →
      (∀ i, k = some i → ∀ H5, Same H' H5 → N (.int i) (.bl true) H5) → (k = none → ∀ H3, Same H' H3 → N0 H3) →
      g x (wipe σ vs) H' fun σ2 H2 => wipe σ2 vs = wipe σ vs ∧ tt σ2 H2 fun b H3 => if b = true then tk σ2 H3 fun y H4 => tv σ2 H4 fun z H5 => N y z H5 else N0 H3)
    (done : ∀ H' D, Same H H' → H D = none → H' D = some (.dK (dkOf (ks.foldl addO []))) → Q (.ref D) H') : tDc wi g tt tk tv vs σ H Q := by
  refine G _ fun J Z w hz' => fun D nD => ?_
  refine ⟨fun n m H' => m = xs.length - n ∧ n ≤ xs.length ∧ Same H H' ∧ H' D = some (.dK (dkOf ((ks.take n).foldl addO []))), ⟨xs.length, by simp, Nat.zero_le _, same_new nD, upd_same⟩, ?_⟩
  rintro n m H' ⟨rfl, hi, e, hD⟩
  have q := hz' _ (hP _ e)
  by_cases hlt : n < xs.length
  · refine .inr ⟨w.go n H' hlt q, fun H'' => n + 1 ≤ xs.length ∧ Same H H'' ∧ H'' D = some (.dK (dkOf ((ks.take (n + 1)).foldl addO []))), fun H'' p' => ⟨xs.length - (n + 1), by omega, rfl, p'⟩, fun x H'' y => ?_⟩
    obtain ⟨ee, y'⟩ := w.yld n H' x H'' hlt y
    subst ee
    obtain ⟨k, hkn⟩ := getI (xs := ks) (i := n) (by omega)
    refine step n x k H'' (fun y z H5 => ∃ kvs k, y = kV k ∧ H5 D = some (.dK kvs) ∧ kvs.length < sizeLine ∧ (n + 1 ≤ xs.length ∧ Same H (upd H5 D (.dK (putK kvs k z))) ∧ upd H5 D (.dK (putK kvs k z)) D = some (.dK (dkOf ((ks.take (n + 1)).foldl addO []))))) _ y' hkn e (fun i hi H5 e5 => ?_) fun hk0 H3 e3 => ?_
    · subst hi
      refine ⟨_, Sum.inl i, rfl, e5 _ _ hD, ?_, by omega, same_mut (e.trans e5) nD, ?_⟩
      · rw [dkOf_len]
        have := len_addO (ks.take n) []
        rw [List.length_take] at this
        simp at this
        omega
      · rw [upd_same, dkOf_put, List.take_succ, hkn, List.foldl_append]
        rfl
    · subst hk0
      refine ⟨by omega, e.trans e3, ?_⟩
      rw [e3 _ _ hD, List.take_succ, hkn, List.foldl_append]
      rfl
  · have ee : n = xs.length := by omega
    subst ee
    refine .inl ⟨w.stop _ H' (Nat.le_refl _) q, done H' D e nD ?_⟩
    rw [hD, ← hk, List.take_length]
def rDkL : List V → Hp → VK → Prop := fun xs H Q => ∃ (a : Addr) (kvs : List (L2.Key × V)), xs = [V.ref a] ∧ Rd H a (.dK kvs) ∧ ∀ p, H p = none → Q (.ref p) (upd H p (.lst (kvs.map fun kv => kV kv.1)))
theorem cr_dkL {X : Cx} (hc : X.calm = true) : CallR X (.type "list") rDkL := call_listD hc
/-- list(d) of such a dict -/
theorem list_dk {H : Hp} {Q : VK} {d : Addr} {L : List Int} (h : H d = some (.dK (dkOf L))) (q : ∀ p, H p = none → Q (.ref p) (upd H p (.lst (L.map V.int)))) : rDkL [V.ref d] H Q :=
  ⟨d, dkOf L, rfl, .inl h, fun p np => by
    have : (dkOf L).map (fun kv => kV kv.1) = L.map V.int := by
      unfold dkOf
      rw [List.map_map]
      rfl
    rw [this]
    exact q p np⟩
theorem dc_call {K : PySem.W.Frag} {tl : TE} {g : TG} {tt : TT} {tk tv : TE} {vs : List Nat} {σ : L2.St} {H : Hp} {Q : VK} : tDc (iSeq K tl) g tt tk tv vs σ H Q = tl σ H fun x H1 => tDc (iSeq K (tC x)) g tt tk tv vs σ H1 Q := rfl
theorem g_nest {K : PySem.W.Frag} {n n2 i j k : Nat} {T t : Addr} {x y z : V} {σ : L2.St} {H : Hp} {Q : L2.St → Hp → Prop} (hn : n = 2) (hn2 : n2 = 2) (h : H T = some (.tup [x, .ref t])) (h2 : H t = some (.tup [y, z])) (q : Q (((σ.set i (some x)).set j (some y)).set k (some z)) H) :
    gTup K n (gCons (gName i) (gCons (gTup K n2 (gCons (gName j) (gCons (gName k) gNil))) gNil)) (.ref T) σ H Q :=
  ⟨T, [x, .ref t], rfl, sqT_of h, hn.symm, x, [.ref t], rfl, .ref t, [], rfl, t, [y, z], rfl, sqT_of h2, hn2.symm, y, [z], rfl, z, [], rfl, rfl, rfl, q⟩
theorem sl_listDrop {K : PySem.W.Frag} {H : Hp} {Q : VK} {p : Addr} {xs : List V} {a : Nat} (h : H p = some (.lst xs)) (q : ∀ p', H p' = none → Q (.ref p') (upd H p' (.lst (xs.drop a)))) : rSlL K (.ref p) (some (a : Int)) none H Q :=
  ⟨p, xs, rfl, sqL_of h, fun p' np => by
    have := q p' np
    rw [← cut_drop xs a] at this
    exact this⟩
end HK
set_option Elab.async false
set_option linter.all false
set_option maxRecDepth 100000
set_option maxHeartbeats 4000000
/-! HKBox: the law's box of numbers: [digits, state]. -/
namespace HK
open PySem PySem.Spec PyProof.Rows L2 He
structure BoxAt (b d : Addr) (H : Hp) : Prop where
  ne : b ≠ d
  at_ : ∃ (ds : List Int) (st : Int), H b = some (.lst [.ref d, .int st]) ∧ H d = some (.lst (ds.map V.int)) ∧ (∀ x ∈ ds, 0 ≤ x) ∧ ds.length ≤ 64 ∧ 0 ≤ st ∧ st < 2147483647
abbrev BoxO (b d : Addr) : Addr → Prop := fun a => a = b ∨ a = d
theorem BoxAt.upd {b d : Addr} {H : Hp} (h : BoxAt b d H) {D : Addr} {o : HO} (n : ¬BoxO b d D) : BoxAt b d (upd H D o) := by
  obtain ⟨ds, st, h1, h2, h3⟩ := h.at_
  exact ⟨h.ne, ds, st, by rw [upd_ne (fun z => n (.inl z.symm))]; exact h1, by rw [upd_ne (fun z => n (.inr z.symm))]; exact h2, h3⟩
theorem BoxAt.same {b d : Addr} {H H' : Hp} (h : BoxAt b d H) (e : Same H H') : BoxAt b d H' := by
  obtain ⟨ds, st, h1, h2, h3⟩ := h.at_
  exact ⟨h.ne, ds, st, e _ _ h1, e _ _ h2, h3⟩
theorem BoxAt.old {b d : Addr} {H : Hp} (h : BoxAt b d H) : ∀ a, BoxO b d a → H a ≠ none := fun a ha => by
  obtain ⟨ds, st, h1, h2, h3⟩ := h.at_
  rcases ha with ha | ha
  · rw [ha, h1]
    exact fun z => nomatch z
  · rw [ha, h2]
    exact fun z => nomatch z
theorem BoxAt.box {b d : Addr} {H : Hp} (h : BoxAt b d H) : Box (BoxO b d) (BoxO b d) (BoxAt b d) H := ⟨fun _ z => z, h.old, fun _ _ _ n i => i.upd n, h⟩
theorem BoxAt.boxA {b d : Addr} {H : Hp} (h : BoxAt b d H) {A : Addr → Prop} (hA : ∀ a, A a → H a ≠ none) : Box (BoxO b d) (fun a => BoxO b d a ∨ A a) (BoxAt b d) H := ⟨fun _ z => .inl z, fun a ha => ha.elim (h.old a) (hA a), fun _ _ _ n i => i.upd fun z => n (.inl z), h⟩
/-- what is new is off the box -/
theorem BoxAt.off {b d : Addr} {H : Hp} (h : BoxAt b d H) {p : Addr} (np : H p = none) : ¬BoxO b d p := fun z => h.old p z np
/-- what a draw promises: anything below many -/
def RetB (b d : Addr) (P : V → Prop) (H : Hp) (Q : VK) : Prop := ∀ v H', SameO (BoxO b d) H H' → BoxAt b d H' → P v → Q v H'
/-- ints as data -/
theorem dp_ints {K : PySem.W.Frag} {H : Hp} {a : Addr} {ns : List Int} (h : H a = some (.lst (ns.map V.int))) : Dp K H (.ref a) (.list (ns.map PyData.int)) := by
  refine .lst (sqL_of h) ?_
  induction ns generalizing a with
  | nil => exact .nil
  | cons n t ih =>
    clear h ih
    have : ∀ l : List Int, DpAll K H (l.map V.int) (l.map PyData.int) := fun l => by
      induction l with
      | nil => exact .nil
      | cons x t ih => exact .cons (.int x) ih
    exact this _
theorem shaped_ints (ns : List Int) : SeqAt.shaped (.list (ns.map PyData.int)) = true := by
  unfold SeqAt.shaped
  have h1 : (PyData.list (ns.map PyData.int)).canLay0 = true := by
    simp only [PyData.canLay0]
    exact lay_all (fun i => by simp only [PyData.canLay0]) ns
  have h2 : (PyData.list (ns.map PyData.int)).depth ≤ 1 := by
    simp only [PyData.depth]
    exact Nat.succ_le_succ (dep_all (fun i => by simp only [PyData.depth]; exact Nat.le_refl _) ns)
  rw [h1]
  exact decide_eq_true (Nat.le_trans h2 (by decide))
/-- xs != [] -/
theorem ne_nil {K : PySem.W.Frag} {H : Hp} {Q : VK} {a p : Addr} {ns : List Int} (h : H a = some (.lst (ns.map V.int))) (hp : H p = some (.lst [])) (q : Q (.bl (!decide (ns = []))) H) : rNeD K (.ref a) (.ref p) H Q := by
  refine ⟨_, _, dp_ints h, dp_ints (ns := []) hp, shaped_ints ns, shaped_ints [], ?_⟩
  cases ns with
  | nil => simpa [PyData.eqv, PyData.eqvAll] using q
  | cons n t => simpa [PyData.eqv, PyData.eqvAll] using q
end HK
set_option Elab.async false
set_option linter.all false
set_option maxRecDepth 100000
set_option maxHeartbeats 4000000
/-! HKHot: defs that let nothing out, called where an exception is handled (no word about its context). -/
namespace HK
open PySem PySem.Spec PyProof.Rows L2 He
/-- what such a def promises there -/
structure FnJ (P : Program) (w : World) (K : PySem.W.Frag) (mg : Str → Option Value) (base : Heap) (k : Nat) (f : Addr) (fd : FuncData) (ps : List Str) (sp : Sp) : Prop where
  len : ∀ vs H Q E, sp vs H Q E → vs.length = ps.length
  go : ∀ (A : Around) (outer : List Env) (s : Shared) (H : Hp) (args : Args) (us : List Value) (vs : List V) (Q : VK), L2H.RoomH k A → Env0 P w K mg base A outer s H → BindsTo s fd args (ps.zip us) → Vals vs us → sp vs H Q E0 →
    codeAny (model P w) A (.call (.ref f) args) (CR CX0 outer P w H s Q E0) s
/-- its body's context -/
def cxJ (P : Program) (w : World) (K : PySem.W.Frag) (mg : Str → Option Value) (base : Heap) (N : List Str) (qual : Str) (scope : Scope) (f : Addr) (cd : Value) (A : Around) (outer : List Env) (s : Shared) (H : Hp) : Cx :=
  { cxOf CX0 P w K mg base N qual scope f cd A outer s H E0 with calm := false }
/-- nothing handled -/
def cool (A : Around) : Around := { A with handled := none }
section
variable {P : Program} {w : World} {K : PySem.W.Frag} {mg : Str → Option Value} {base : Heap} {N ps : List Str} {qual : Str} {scope : Scope} {f : Addr} {cd : Value} {A : Around} {outer : List Env} {s s1 : Shared} {H : Hp}
theorem env0_cool (e : Env0 P w K mg base A outer s H) : Env0 P w K mg base (cool A) outer s H := ⟨e.frames, e.mod, e.bs, e.bsz, e.funs, e.frf, e.hok, e.bare⟩
theorem inv_warm {pins : List (Addr × Obj)} {σ : L2.St} (hf : A.frames = some outer) (I : Inv (cxOf CX0 P w K mg base N qual scope f cd (cool A) outer s H E0) pins σ H s1) : Inv (cxJ P w K mg base N qual scope f cd A outer s H) pins σ H s1 :=
  ⟨⟨I.ok.mod, I.ok.kind, I.ok.glob, I.ok.blt, I.ok.above, I.ok.inj, I.ok.has, I.ok.cab, fun z => Bool.noConfusion (show false = true from z), Around.frames_deeper hf, I.ok.stk, I.ok.exf, I.ok.bs, I.ok.bsz, I.ok.noex, I.ok.exfs, I.ok.funs, I.ok.frf⟩,
    I.os, I.bare, I.base, I.loc, I.cell, I.free, I.freeC, I.pin, I.hok, I.len⟩
end
section
variable {P : Program} {w : World} {K : PySem.W.Frag} {mg : Str → Option Value} {base : Heap} {k : Nat} {f : Addr} {name qual : Str} {params : Arguments} {body : List Stmt} {scope : Scope} {dV kV doc pm cdv ct oc : Value} {an od : Option Addr} {osl : Array (Option Value)} {N ps : List Str} {sp : Sp}
theorem fn_ofJ (lk : K.lookup f = some ⟨oc, od, .func (PySem.W.fnOf name qual params body scope dV kV doc pm an cdv ct), osl⟩) (hcd : PySem.W.codeIn K cdv qual = true) (S : FnScope N ps scope) (len : ∀ vs H Q E, sp vs H Q E → vs.length = ps.length)
    (hbody : ∀ (A : Around) (outer : List Env) (s : Shared) (H : Hp) (vs : List V) (Q : VK), L2H.RoomH k (A.deeper (envOfC qual scope s.heap.objs.size f cdv)) → sp vs H Q E0 →
      ∃ t, PSs (cxJ P w K mg base N qual scope f cdv A outer s H) body t ∧ t { nx := fun _ H' => Q .non H', rt := Q } (L2.start N vs) H) :
    FnJ P w K mg base (k + 1) f (PySem.W.fnOf name qual params body scope dV kV doc pm an cdv ct) ps sp := by
  refine ⟨len, fun A outer s H args us vs Q room e0 bnd r hsp => ?_⟩
  have inH : K.In s.heap := e0.mod.kin.keeps fun b o e => (e0.bs b o e).1
  have noL : s.heap.NoLimit := e0.mod.nolimit.keeps fun b o e => (e0.bs b o e).1
  have kinds : ∀ y ∈ ps.zip us, scope.names.lookup y.1 = some .local ∨ (scope.names.lookup y.1 = some .cell ∧ ((cellsFrom (s.heap.objs.size + 1) scope.names []).lookup y.1).isSome = true) := by
    rintro ⟨nm, v⟩ hy
    exact (S.par nm (List.of_mem_zip hy).1).imp id fun q => ⟨q, PySem.W.cellsFrom_some _ _ _ (.inl q)⟩
  refine codeAny_call_function room.depth (inH _ _ lk) rfl S.co S.gen rfl (PySem.W.codeRec_of inH hcd) (bnd _ _ _ _ (wpAny_newFunctionEnv_cells S.kind kinds fun env he s2 x => ?_))
  subst he
  refine ⟨noL.keeps x.toInCall.keep, codeAny_func ?_⟩
  obtain ⟨t, ht, q0⟩ := hbody A outer s H vs Q (room.deeper _) hsp
  have I : Inv (cxJ P w K mg base N qual scope f cdv A outer s H) [] (L2.start N vs) H s2 := inv_warm e0.frames (inv_start S rfl (env0_cool e0) (len _ _ _ _ hsp) r x)
  refine wpAny_mono (ht.run [] s2 (L2.start N vs) H _ I q0) (fun fl s' hs => ?_) fun e s' hs => hs
  have last : ∀ {σ' : L2.St} {H' : Hp} {v : V} {u : Value}, Inv (cxJ P w K mg base N qual scope f cdv A outer s H) [] σ' H' s' → RelV v u → Q v H' → CE outer P w H s Q u s' := fun {σ' H' v u} J rv q => ⟨v, H', J.os, J.bare, J.base, J.hok, rv, q⟩
  cases fl with
  | ret u =>
    obtain ⟨v, σ', H', J, rv, q⟩ := hs
    exact last J rv q
  | next =>
    obtain ⟨σ', H', J, q⟩ := hs
    exact last (v := V.non) (u := Value.none) J rfl q
  | brk => exact hs.elim fun _ z => z.elim fun _ z => z.2.elim
  | cont => exact hs.elim fun _ z => z.elim fun _ z => z.2.elim
end
/-- as its callers see it -/
structure CalJ (P : Program) (w : World) (K : PySem.W.Frag) (mg : Str → Option Value) (base : Heap) (x : Str) (k : Nat) (ps : List Str) (sp : Sp) : Prop where
  ex : ∃ (f : Addr) (fd : FuncData), mg x = some (.ref f) ∧ FnJ P w K mg base k f fd ps sp ∧ PySem.W.keepIn K (.ref f) = true ∧ Binds K fd ps []
theorem Src.calJ {P : Program} {w : World} {base : Heap} {fx : List (PySem.W.Frag → Bool)} {fa : List Fa} {fn : List DefD} {er : List ErD} {K : PySem.W.Frag} {mg : Str → Option Value} {d : DefD} {N ps : List Str} {k : Nat} {sp : Sp} (S : Src P fx fa fn er K mg) (i j : Nat) (Sc : FnScope N ps d.scope) (hd : fn[i]? = some d) (hj : fa[j]? = some (.glo d.name)) (hat : d.at_ = (d.name, none)) (hds : d.dfl = []) (hkw : d.kwd = [])
    (hb : ∀ (kV doc pm : Value) (an : Option Addr) (cdv ct : Value) (us : List Value), us.length = ps.length → bindArgs (PySem.W.fnOf d.name d.qual d.params d.body d.scope .none kV doc pm an cdv ct) ⟨us, []⟩ = pure (ps.zip us))
    (len : ∀ vs H Q E, sp vs H Q E → vs.length = ps.length)
    (hbody : ∀ (f : Addr) (cdv : Value) (A : Around) (outer : List Env) (s : Shared) (H : Hp) (vs : List V) (Q : VK), L2H.RoomH k (A.deeper (envOfC d.qual d.scope s.heap.objs.size f cdv)) → sp vs H Q E0 →
      ∃ t, PSs (cxJ P w K mg base N d.qual d.scope f cdv A outer s H) d.body t ∧ t { nx := fun _ H' => Q .non H', rt := Q } (L2.start N vs) H) : CalJ P w K mg base d.name (k + 1) ps sp := by
  obtain ⟨fd, F⟩ := S.def_ i hd
  have e1 : d.dvs K = [] := by unfold DefD.dvs; rw [hds]; rfl
  have e2 : d.kws K = [] := by unfold DefD.kws; rw [hkw]; rfl
  rw [e1, e2, hat] at F
  have bnd := FunD.bindsN F hb
  obtain ⟨oc, od, dV, kV, doc, pm, an, cdv, ct, osl, rfl, lk, hcd, _, _⟩ := F.ex
  exact ⟨_, _, S.glo j hj, fn_ofJ lk hcd Sc len fun A outer s H vs Q hr h => hbody _ cdv A outer s H vs Q hr h, F.kp, bnd⟩
section
variable {X : Cx} {x : Str} {k : Nat} {ps : List Str} {sp : Sp} {e : Expr} {es : List Expr} {t : TA} {p pos : Pos}
theorem pe_j (c : CalJ X.prog X.w X.K X.mg X.base x k ps sp) (hr : L2H.RoomH k X.A) (ha : PA X (e :: es) t) (hg : Gl X x := by rfl) (hdb : (x == ("__debug__" : Str)) = false := by decide)
    (he : starEach (e :: es) X.env = (false, eval e X.env) :: starEach es X.env := by rfl) (hpl : (backTo pos (starEach es X.env)).any (·.1) = false := by rfl) : PE X (.Call (.Name x p) (e :: es) [] pos) (tCall sp [] E0 t) := by
  obtain ⟨f, fd, hm, F, hk, hb⟩ := c.ex
  refine ⟨fun pins s σ H Q I h => wpAny_Call_Name_kw (ld_glob I hg hm ?_ hdb)⟩
  refine PySem.W.callWith_K (h₀ := X.base) I.ok.mod.kin hk (thn (ha.run pos pins s σ H _ I h) fun us s2 ⟨vs, H1, I1, r, q⟩ => ⟨I1.kIn, ?_⟩) he hpl
  have q := show sp (vs ++ []) H1 Q E0 from q
  rw [List.append_nil] at q
  show wpAny _ _ (call (Value.ref f) us) _ _ _
  have nl : us.length = ps.length := r.length.symm.trans (F.len _ _ _ _ q)
  have bn := hb s2 us I1.kIn (by simpa using nl)
  rw [List.append_nil] at bn
  refine wpAny_call (codeAny_mono (F.go X.A X.stack s2 H1 ⟨us, []⟩ us vs Q hr I1.env0 bn r q) fun z s' hq => ?_)
  cases z with
  | error e => exact hq.elim
  | ok fl =>
    cases fl with
    | ret u => exact I1.after hq
    | next => exact hq.elim
    | brk => exact hq.elim
    | cont => exact hq.elim
end
end HK
set_option Elab.async false
set_option linter.all false
set_option maxRecDepth 100000
set_option maxHeartbeats 4000000
/-! HKLoop2: two fors in one comprehension: a list of data that only grows; nothing else changes. -/
namespace HK
open PySem PySem.Spec PyProof.Rows L2 He
theorem lc2_tp {wi wi1 : TI} {i0 i1 : Nat} {tt1 : TT} {te : TE} {vs vs1 : List Nat} {σ : L2.St} {H : Hp} {Q : VK} {xs : List V} {P : Hp → Prop} (G : Gives wi σ H xs P) (hP : ∀ H', Same H H' → P H')
    (hw : ∀ x, wipe ((wipe σ vs).set i0 (some x)) vs = wipe σ vs) (hw1 : ∀ x y, wipe ((wipe ((wipe σ vs).set i0 (some x)) vs1).set i1 (some y)) vs1 = wipe ((wipe σ vs).set i0 (some x)) vs1)
    {α : Type} {S : RlA α} (FS : FamT S) (m : Nat) (L : Nat → Nat → List α) (h00 : L 0 0 = []) (hrow : ∀ n, n < xs.length → L (n + 1) 0 = L n m) (hz : ∀ n j, n < xs.length → j < m → (L n j).length < sizeLine)
    (step : ∀ n x H', xs[n]? = some x → Same H H' → ∃ ys P1, ys.length = m ∧ Gives wi1 ((wipe σ vs).set i0 (some x)) H' ys P1 ∧ (∀ H', Same H H' → P1 H') ∧
      ∀ j y H4 (N : VK) (N0 : Hp → Prop), j < m → ys[j]? = some y → Same H H4 → (∀ v H5 a, Same H4 H5 → S No H5 v a → L n (j + 1) = L n j ++ [a] → N v H5) → (∀ H5, Same H4 H5 → L n (j + 1) = L n j → N0 H5) →
        tt1 ((wipe ((wipe σ vs).set i0 (some x)) vs1).set i1 (some y)) H4 fun b H6 => if b = true then te ((wipe ((wipe σ vs).set i0 (some x)) vs1).set i1 (some y)) H6 N else N0 H6)
    (done : ∀ acc H' D, Same H H' → H D = none → H' D = some (.lst acc) → Paired (S No H') acc (L xs.length 0) → Q (.ref D) H') : tLc2 wi (gName i0) tYes wi1 (gName i1) tt1 te vs vs1 σ H Q := by
  refine G _ fun J Z w hz' => fun D nD => ?_
  let W : Nat → Nat → Hp → Prop := fun i j H' => Same H H' ∧ ∃ acc, H' D = some (.lst acc) ∧ Paired (S No H') acc (L i j)
  refine ⟨fun i k H' => k = xs.length - i ∧ i ≤ xs.length ∧ W i 0 H', ⟨xs.length, by simp, Nat.zero_le _, same_new nD, [], upd_same, by rw [h00]; exact .nil⟩, ?_⟩
  rintro i k H' ⟨rfl, hi, hW⟩
  have q := hz' _ (hP _ hW.1)
  by_cases hlt : i < xs.length
  · refine .inr ⟨w.go i H' hlt q, fun H'' => i + 1 ≤ xs.length ∧ W (i + 1) 0 H'', fun H'' p' => ⟨xs.length - (i + 1), by omega, rfl, p'⟩, fun x H'' y => ?_⟩
    obtain ⟨ee, y'⟩ := w.yld i H' x H'' hlt y
    subst ee
    obtain ⟨ys, P1, ly, G1, hP1, st⟩ := step i x _ y' hW.1
    refine ⟨hw x, ?_⟩
    show wi1 _ _ _
    refine G1 _ fun J1 Z1 w1 hz1 => ?_
    refine ⟨fun j k H' => k = m - j ∧ j ≤ m ∧ W i j H', ⟨m, by simp, Nat.zero_le _, hW⟩, ?_⟩
    rintro j k H4 ⟨rfl, hj, hW4⟩
    have q1 := hz1 _ (hP1 _ hW4.1)
    by_cases hjl : j < m
    · refine .inr ⟨w1.go j H4 (by omega) q1, fun H'' => j + 1 ≤ m ∧ W i (j + 1) H'', fun H'' p' => ⟨m - (j + 1), by omega, rfl, p'⟩, fun x1 H5 y1 => ?_⟩
      obtain ⟨ee, y1'⟩ := w1.yld j H4 x1 H5 (by omega) y1
      subst ee
      obtain ⟨e4, acc, hD4, hp4⟩ := hW4
      refine ⟨hw1 x x1, ?_⟩
      refine st j x1 _ _ _ hjl y1' e4 (fun v H6 a e6 hv hl => ?_) (fun H6 e6 hl => ?_)
      · have hD6 := e6 _ _ hD4
        have la := Paired.len hp4
        refine ⟨acc, hD6, by rw [la]; exact hz i j hlt hjl, by omega, same_mut (e4.trans e6) nD, acc ++ [v], upd_same, ?_⟩
        rw [hl]
        exact Paired.app (FS.p ((Tk.of e6).trans (.lst hD6)) hp4) (.cons (FS.tk (.lst hD6) hv) .nil)
      · exact ⟨by omega, e4.trans e6, acc, e6 _ _ hD4, by rw [hl]; exact FS.p (.of e6) hp4⟩
    · have ee : j = m := by omega
      subst ee
      refine .inl ⟨w1.stop _ H4 (by omega) q1, by omega, hW4.1, ?_⟩
      rw [hrow i hlt]
      exact hW4.2
  · have ee : i = xs.length := by omega
    subst ee
    obtain ⟨e, acc, hD, hp⟩ := hW
    exact .inl ⟨w.stop _ H' (Nat.le_refl _) q, done acc H' D e nD hD hp⟩
end HK
set_option Elab.async false
set_option linter.all false
set_option maxRecDepth 100000
set_option maxHeartbeats 4000000
/-! HKEnd: the law's own def, by its object -/
namespace HK
open PySem PySem.Spec PyProof.Rows L2 He
section
variable {P : Program} {w : World} {base : Heap} {fx : List (PySem.W.Frag → Bool)} {fa : List Fa} {fn : List DefD} {er : List ErD} {K : PySem.W.Frag} {mg : Str → Option Value}
theorem Src.calL {d : DefD} {N ps : List Str} {k : Nat} {sp : Sp} (S : Src P fx fa fn er K mg) (Sc : FnScope N ps d.scope) (hds : d.dfl = []) (hkw : d.kwd = [])
    {fd : FuncData} (F : FunD K d.name d.qual d.params d.body d.scope (d.dvs K) (d.kws K) (fAd K d.at_) fd)
    (len : ∀ vs H Q E, sp vs H Q E → vs.length = ps.length)
    (hbody : ∀ (f : Addr) (cdv : Value) (A : Around) (outer : List Env) (s : Shared) (H : Hp) (vs : List V) (Q : VK) (E : XK), Room k (A.deeper (envOfC d.qual d.scope s.heap.objs.size f cdv)) → sp vs H Q E →
      ∃ t, PSs (cxOf CX0 P w K mg base N d.qual d.scope f cdv A outer s H E).nox d.body t ∧ t { nx := fun _ H' => Q .non H', rt := Q } (start N vs) H) : FnOk P w K mg base CX0 (k + 1) (fAd K d.at_) fd ps sp := by
  have e1 : d.dvs K = [] := by unfold DefD.dvs; rw [hds]; rfl
  have e2 : d.kws K = [] := by unfold DefD.kws; rw [hkw]; rfl
  rw [e1, e2] at F
  refine FunD.ok F Sc len fun cdv A outer s H vs Q E hr h => ?_
  obtain ⟨t, h1, h2⟩ := hbody _ cdv A outer s H vs Q E hr h
  exact ⟨t, h1.nox, h2⟩
end
end HK
set_option Elab.async false
set_option linter.all false
set_option maxRecDepth 100000
set_option maxHeartbeats 4000000
/-! the text of heldoroff_k78_whole_bodies_made_from_gap, by places; printed by wip/gen.py -/
namespace K78
open PySem PySem.Spec PyProof.Rows L2 He HK
def prg : Program := PySem.Challenge.pw_heldoroff_k78_whole_bodies_made_from_gap
def top (i : Nat) : Stmt := PySem.Challenge.pw_heldoroff_k78_whole_bodies_made_from_gap.main.body.getD i (.Pass ⟨0, 0, 0, 0⟩)
abbrev s_is_integer : Stmt := top 11
theorem sc_is_integer : FnScope ["value"] ["value"] (defScope s_is_integer) := ⟨rfl, rfl, rfl, by decide +kernel, rfl, by decide +kernel, by decide +kernel⟩
abbrev s_is_below : Stmt := top 12
theorem sc_is_below : FnScope ["value", "limit"] ["value", "limit"] (defScope s_is_below) := ⟨rfl, rfl, rfl, by decide +kernel, rfl, by decide +kernel, by decide +kernel⟩
abbrev s_is_between : Stmt := top 13
theorem sc_is_between : FnScope ["value", "least", "most"] ["value", "least", "most"] (defScope s_is_between) := ⟨rfl, rfl, rfl, by decide +kernel, rfl, by decide +kernel, by decide +kernel⟩
abbrev s_is_sequence : Stmt := top 14
theorem sc_is_sequence : FnScope ["value"] ["value"] (defScope s_is_sequence) := ⟨rfl, rfl, rfl, by decide +kernel, rfl, by decide +kernel, by decide +kernel⟩
abbrev s_is_row : Stmt := top 15
theorem sc_is_row : FnScope ["value", "many"] ["value", "many"] (defScope s_is_row) := ⟨rfl, rfl, rfl, by decide +kernel, rfl, by decide +kernel, by decide +kernel⟩
abbrev s_Bodies_init : Stmt := inClass (top 22) 0
theorem sc_Bodies_init : FnScope ["self", "axes", "bodies"] ["self", "axes", "bodies"] (defScope s_Bodies_init) := ⟨rfl, rfl, rfl, by decide +kernel, rfl, by decide +kernel, by decide +kernel⟩
abbrev s_Bodies_eq : Stmt := inClass (top 22) 1
theorem sc_Bodies_eq : FnScope ["self", "other"] ["self", "other"] (defScope s_Bodies_eq) := ⟨rfl, rfl, rfl, by decide +kernel, rfl, by decide +kernel, by decide +kernel⟩
abbrev s_is_cell : Stmt := top 23
theorem sc_is_cell : FnScope ["axes", "value", "place"] ["axes", "value"] (defScope s_is_cell) := ⟨rfl, rfl, rfl, by decide +kernel, rfl, by decide +kernel, by decide +kernel⟩
abbrev s_is_new_body : Stmt := top 24
theorem sc_is_new_body : FnScope ["axes", "taken", "value", "seen", "cell"] ["axes", "taken", "value"] (defScope s_is_new_body) := ⟨rfl, rfl, rfl, by decide +kernel, rfl, by decide +kernel, by decide +kernel⟩
abbrev s_told_bodies : Stmt := top 25
theorem sc_told_bodies : FnScope ["axes", "bodies", "taken", "found", "at", "value", "cells", "cell"] ["axes", "bodies"] (defScope s_told_bodies) := ⟨rfl, rfl, rfl, by decide +kernel, rfl, by decide +kernel, by decide +kernel⟩
abbrev s_need_bodies : Stmt := top 26
theorem sc_need_bodies : FnScope ["value", "at"] ["value", "at"] (defScope s_need_bodies) := ⟨rfl, rfl, rfl, by decide +kernel, rfl, by decide +kernel, by decide +kernel⟩
abbrev s_need_axis : Stmt := top 27
theorem sc_need_axis : FnScope ["axes", "axis"] ["axes", "axis"] (defScope s_need_axis) := ⟨rfl, rfl, rfl, by decide +kernel, rfl, by decide +kernel, by decide +kernel⟩
abbrev s_rows_along : Stmt := top 29
theorem sc_rows_along : FnScope ["bodies", "axis", "found", "body", "cells", "cell", "line"] ["bodies", "axis"] (defScope s_rows_along) := ⟨rfl, rfl, rfl, by decide +kernel, rfl, by decide +kernel, by decide +kernel⟩
abbrev s_Gaps_init : Stmt := inClass (top 33) 0
theorem sc_Gaps_init : FnScope ["self", "many", "rows"] ["self", "many", "rows"] (defScope s_Gaps_init) := ⟨rfl, rfl, rfl, by decide +kernel, rfl, by decide +kernel, by decide +kernel⟩
abbrev s_Gaps_eq : Stmt := inClass (top 33) 1
theorem sc_Gaps_eq : FnScope ["self", "other"] ["self", "other"] (defScope s_Gaps_eq) := ⟨rfl, rfl, rfl, by decide +kernel, rfl, by decide +kernel, by decide +kernel⟩
abbrev s_is_gap_row : Stmt := top 34
theorem sc_is_gap_row : FnScope ["many", "body", "value", "gap"] ["many", "body", "value"] (defScope s_is_gap_row) := ⟨rfl, rfl, rfl, by decide +kernel, rfl, by decide +kernel, by decide +kernel⟩
abbrev s_told_gaps : Stmt := top 35
theorem sc_told_gaps : FnScope ["many", "rows", "at", "value", "row"] ["many", "rows"] (defScope s_told_gaps) := ⟨rfl, rfl, rfl, by decide +kernel, rfl, by decide +kernel, by decide +kernel⟩
abbrev s_need_gaps : Stmt := top 36
theorem sc_need_gaps : FnScope ["value", "at", "many"] ["value", "at", "many"] (defScope s_need_gaps) := ⟨rfl, rfl, rfl, by decide +kernel, rfl, by decide +kernel, by decide +kernel⟩
abbrev s_need_offsets : Stmt := top 37
theorem sc_need_offsets : FnScope ["many", "value", "at", "part"] ["many", "value", "at"] (defScope s_need_offsets) := ⟨rfl, rfl, rfl, by decide +kernel, rfl, by decide +kernel, by decide +kernel⟩
abbrev s_gaps_along : Stmt := top 38
theorem sc_gaps_along : FnScope ["row", "found", "at", "place", "body", "there", "other", "gap"] ["row", "found"] (defScope s_gaps_along) := ⟨rfl, rfl, rfl, by decide +kernel, rfl, by decide +kernel, by decide +kernel⟩
abbrev s_gaps_of : Stmt := top 39
theorem sc_gaps_of : FnScope ["bodies", "axis", "many", "found", "other", "one", "row"] ["bodies", "axis"] (defScope s_gaps_of) := ⟨rfl, rfl, rfl, by decide +kernel, rfl, by decide +kernel, by decide +kernel⟩
abbrev s_first_broken : Stmt := top 40
theorem sc_first_broken : FnScope ["rows", "offsets", "one", "row", "other", "gap"] ["rows", "offsets"] (defScope s_first_broken) := ⟨rfl, rfl, rfl, by decide +kernel, rfl, by decide +kernel, by decide +kernel⟩
abbrev s_broken : Stmt := top 41
theorem sc_broken : FnScope ["gaps", "offsets"] ["gaps", "offsets"] (defScope s_broken) := ⟨rfl, rfl, rfl, by decide +kernel, rfl, by decide +kernel, by decide +kernel⟩
abbrev s_bodies_with : Stmt := top 44
theorem sc_bodies_with : FnScope ["gaps", "many", "pairs", "one", "other", "wanted", "found", "_", "line", "body"] ["gaps"] (defScope s_bodies_with) := ⟨rfl, rfl, rfl, by decide +kernel, rfl, by decide +kernel, by decide +kernel⟩
abbrev s__law_box : Stmt := top 46
theorem sc__law_box : FnScope ["script", "salt", "cells", "cell", "blend"] ["script", "salt"] (defScope s__law_box) := ⟨rfl, rfl, rfl, by decide +kernel, rfl, by decide +kernel, by decide +kernel⟩
abbrev s__law_draw : Stmt := top 47
theorem sc__law_draw : FnScope ["box", "many", "rest", "found", "turn"] ["box", "many"] (defScope s__law_draw) := ⟨rfl, rfl, rfl, by decide +kernel, rfl, by decide +kernel, by decide +kernel⟩
abbrev s__law_pick : Stmt := top 48
theorem sc__law_pick : FnScope ["box", "some"] ["box", "some"] (defScope s__law_pick) := ⟨rfl, rfl, rfl, by decide +kernel, rfl, by decide +kernel, by decide +kernel⟩
abbrev s__law_chance : Stmt := top 49
theorem sc__law_chance : FnScope ["box", "share"] ["box", "share"] (defScope s__law_chance) := ⟨rfl, rfl, rfl, by decide +kernel, rfl, by decide +kernel, by decide +kernel⟩
abbrev s__law_is_int : Stmt := top 50
theorem sc__law_is_int : FnScope ["value"] ["value"] (defScope s__law_is_int) := ⟨rfl, rfl, rfl, by decide +kernel, rfl, by decide +kernel, by decide +kernel⟩
abbrev s__law_place : Stmt := top 51
theorem sc__law_place : FnScope ["value"] ["value"] (defScope s__law_place) := ⟨rfl, rfl, rfl, by decide +kernel, rfl, by decide +kernel, by decide +kernel⟩
abbrev s__law_loose : Stmt := top 52
theorem sc__law_loose : FnScope ["box", "value", "parts", "part"] ["box", "value"] (defScope s__law_loose) := ⟨rfl, rfl, rfl, by decide +kernel, rfl, by decide +kernel, by decide +kernel⟩
abbrev s__law_same : Stmt := top 53
theorem sc__law_same : FnScope ["value", "due", "at"] ["value", "due"] (defScope s__law_same) := ⟨rfl, rfl, rfl, by decide +kernel, rfl, by decide +kernel, by decide +kernel⟩
abbrev s__law_gaps_of : Stmt := top 54
theorem sc__law_gaps_of : FnScope ["bodies", "rows", "one", "row", "other", "found", "cell", "more"] ["bodies"] (defScope s__law_gaps_of) := ⟨rfl, rfl, rfl, by decide +kernel, rfl, by decide +kernel, by decide +kernel⟩
abbrev s__law_rows : Stmt := top 55
theorem sc__law_rows : FnScope ["box", "many", "most", "rows", "some", "one", "row", "other", "gap"] ["box", "many", "most"] (defScope s__law_rows) := ⟨rfl, rfl, rfl, by decide +kernel, rfl, by decide +kernel, by decide +kernel⟩
abbrev s__law_heard : Stmt := top 56
theorem sc__law_heard : FnScope ["gaps", "e"] ["gaps"] (defScope s__law_heard) := ⟨rfl, rfl, rfl, by decide +kernel, rfl, by decide +kernel, by decide +kernel⟩
abbrev s__law_due : Stmt := top 57
theorem sc__law_due : FnScope ["rows", "gaps", "row", "gap"] ["rows"] (defScope s__law_due) := ⟨rfl, rfl, rfl, by decide +kernel, rfl, by decide +kernel, by decide +kernel⟩
abbrev s__law_stays : Stmt := top 58
theorem sc__law_stays : FnScope ["bodies", "offsets", "one", "other", "cell", "more"] ["bodies", "offsets"] (defScope s__law_stays) := ⟨rfl, rfl, rfl, by decide +kernel, rfl, by decide +kernel, by decide +kernel⟩
abbrev s__law_case_fine : Stmt := top 59
theorem sc__law_case_fine : FnScope ["box", "rows", "gaps", "due", "bodies", "turn", "far", "offsets", "row"] ["box", "rows"] (defScope s__law_case_fine) := ⟨rfl, rfl, rfl, by decide +kernel, rfl, by decide +kernel, by decide +kernel⟩
abbrev s_law : Stmt := top 60
theorem sc_law : FnScope ["script", "box", "turn", "many", "cells", "body", "place", "cell", "least", "full", "few", "other"] ["script"] (defScope s_law) := ⟨rfl, rfl, rfl, by decide +kernel, rfl, by decide +kernel, by decide +kernel⟩
abbrev s_InvalidCount : Stmt := inClass (top 2) 0
abbrev s_InvalidBodies : Stmt := inClass (top 3) 0
abbrev s_InvalidAxis : Stmt := inClass (top 4) 0
abbrev s_InvalidOffsets : Stmt := inClass (top 5) 0
abbrev s_InvalidGaps : Stmt := inClass (top 6) 0
abbrev s_InvalidRows : Stmt := inClass (top 7) 0
abbrev s_InvalidSize : Stmt := inClass (top 8) 0
abbrev s_Refused : Stmt := inClass (top 9) 0
def d_is_integer : DefD := ⟨("is_integer", none), "is_integer", "is_integer", defArgs s_is_integer, defBody s_is_integer, defScope s_is_integer, [], []⟩
def d_is_below : DefD := ⟨("is_below", none), "is_below", "is_below", defArgs s_is_below, defBody s_is_below, defScope s_is_below, [], []⟩
def d_is_between : DefD := ⟨("is_between", none), "is_between", "is_between", defArgs s_is_between, defBody s_is_between, defScope s_is_between, [], []⟩
def d_is_sequence : DefD := ⟨("is_sequence", none), "is_sequence", "is_sequence", defArgs s_is_sequence, defBody s_is_sequence, defScope s_is_sequence, [], []⟩
def d_is_row : DefD := ⟨("is_row", none), "is_row", "is_row", defArgs s_is_row, defBody s_is_row, defScope s_is_row, [], []⟩
def d_Bodies_init : DefD := ⟨("Bodies", some "__init__"), "__init__", "Bodies.__init__", defArgs s_Bodies_init, defBody s_Bodies_init, defScope s_Bodies_init, [], []⟩
def d_Bodies_eq : DefD := ⟨("Bodies", some "__eq__"), "__eq__", "Bodies.__eq__", defArgs s_Bodies_eq, defBody s_Bodies_eq, defScope s_Bodies_eq, [], []⟩
def d_is_cell : DefD := ⟨("is_cell", none), "is_cell", "is_cell", defArgs s_is_cell, defBody s_is_cell, defScope s_is_cell, [], []⟩
def d_is_new_body : DefD := ⟨("is_new_body", none), "is_new_body", "is_new_body", defArgs s_is_new_body, defBody s_is_new_body, defScope s_is_new_body, [], []⟩
def d_told_bodies : DefD := ⟨("told_bodies", none), "told_bodies", "told_bodies", defArgs s_told_bodies, defBody s_told_bodies, defScope s_told_bodies, [], []⟩
def d_need_bodies : DefD := ⟨("need_bodies", none), "need_bodies", "need_bodies", defArgs s_need_bodies, defBody s_need_bodies, defScope s_need_bodies, [.int (-1)], []⟩
def d_need_axis : DefD := ⟨("need_axis", none), "need_axis", "need_axis", defArgs s_need_axis, defBody s_need_axis, defScope s_need_axis, [], []⟩
def d_rows_along : DefD := ⟨("rows_along", none), "rows_along", "rows_along", defArgs s_rows_along, defBody s_rows_along, defScope s_rows_along, [], []⟩
def d_Gaps_init : DefD := ⟨("Gaps", some "__init__"), "__init__", "Gaps.__init__", defArgs s_Gaps_init, defBody s_Gaps_init, defScope s_Gaps_init, [], []⟩
def d_Gaps_eq : DefD := ⟨("Gaps", some "__eq__"), "__eq__", "Gaps.__eq__", defArgs s_Gaps_eq, defBody s_Gaps_eq, defScope s_Gaps_eq, [], []⟩
def d_is_gap_row : DefD := ⟨("is_gap_row", none), "is_gap_row", "is_gap_row", defArgs s_is_gap_row, defBody s_is_gap_row, defScope s_is_gap_row, [], []⟩
def d_told_gaps : DefD := ⟨("told_gaps", none), "told_gaps", "told_gaps", defArgs s_told_gaps, defBody s_told_gaps, defScope s_told_gaps, [], []⟩
def d_need_gaps : DefD := ⟨("need_gaps", none), "need_gaps", "need_gaps", defArgs s_need_gaps, defBody s_need_gaps, defScope s_need_gaps, [.int (-1), .non], []⟩
def d_need_offsets : DefD := ⟨("need_offsets", none), "need_offsets", "need_offsets", defArgs s_need_offsets, defBody s_need_offsets, defScope s_need_offsets, [.int (-1)], []⟩
def d_gaps_along : DefD := ⟨("gaps_along", none), "gaps_along", "gaps_along", defArgs s_gaps_along, defBody s_gaps_along, defScope s_gaps_along, [], []⟩
def d_gaps_of : DefD := ⟨("gaps_of", none), "gaps_of", "gaps_of", defArgs s_gaps_of, defBody s_gaps_of, defScope s_gaps_of, [], []⟩
def d_first_broken : DefD := ⟨("first_broken", none), "first_broken", "first_broken", defArgs s_first_broken, defBody s_first_broken, defScope s_first_broken, [], []⟩
def d_broken : DefD := ⟨("broken", none), "broken", "broken", defArgs s_broken, defBody s_broken, defScope s_broken, [], []⟩
def d_bodies_with : DefD := ⟨("bodies_with", none), "bodies_with", "bodies_with", defArgs s_bodies_with, defBody s_bodies_with, defScope s_bodies_with, [], []⟩
def d__law_box : DefD := ⟨("_law_box", none), "_law_box", "_law_box", defArgs s__law_box, defBody s__law_box, defScope s__law_box, [], []⟩
def d__law_draw : DefD := ⟨("_law_draw", none), "_law_draw", "_law_draw", defArgs s__law_draw, defBody s__law_draw, defScope s__law_draw, [], []⟩
def d__law_pick : DefD := ⟨("_law_pick", none), "_law_pick", "_law_pick", defArgs s__law_pick, defBody s__law_pick, defScope s__law_pick, [], []⟩
def d__law_chance : DefD := ⟨("_law_chance", none), "_law_chance", "_law_chance", defArgs s__law_chance, defBody s__law_chance, defScope s__law_chance, [], []⟩
def d__law_is_int : DefD := ⟨("_law_is_int", none), "_law_is_int", "_law_is_int", defArgs s__law_is_int, defBody s__law_is_int, defScope s__law_is_int, [], []⟩
def d__law_place : DefD := ⟨("_law_place", none), "_law_place", "_law_place", defArgs s__law_place, defBody s__law_place, defScope s__law_place, [], []⟩
def d__law_loose : DefD := ⟨("_law_loose", none), "_law_loose", "_law_loose", defArgs s__law_loose, defBody s__law_loose, defScope s__law_loose, [], []⟩
def d__law_same : DefD := ⟨("_law_same", none), "_law_same", "_law_same", defArgs s__law_same, defBody s__law_same, defScope s__law_same, [], []⟩
def d__law_gaps_of : DefD := ⟨("_law_gaps_of", none), "_law_gaps_of", "_law_gaps_of", defArgs s__law_gaps_of, defBody s__law_gaps_of, defScope s__law_gaps_of, [], []⟩
def d__law_rows : DefD := ⟨("_law_rows", none), "_law_rows", "_law_rows", defArgs s__law_rows, defBody s__law_rows, defScope s__law_rows, [], []⟩
def d__law_heard : DefD := ⟨("_law_heard", none), "_law_heard", "_law_heard", defArgs s__law_heard, defBody s__law_heard, defScope s__law_heard, [], []⟩
def d__law_due : DefD := ⟨("_law_due", none), "_law_due", "_law_due", defArgs s__law_due, defBody s__law_due, defScope s__law_due, [], []⟩
def d__law_stays : DefD := ⟨("_law_stays", none), "_law_stays", "_law_stays", defArgs s__law_stays, defBody s__law_stays, defScope s__law_stays, [], []⟩
def d__law_case_fine : DefD := ⟨("_law_case_fine", none), "_law_case_fine", "_law_case_fine", defArgs s__law_case_fine, defBody s__law_case_fine, defScope s__law_case_fine, [], []⟩
def d_law : DefD := ⟨("law", none), "law", "law", defArgs s_law, defBody s_law, defScope s_law, [], []⟩
def e_InvalidCount : ErD := ⟨"InvalidCount", "at", defArgs s_InvalidCount, defBody s_InvalidCount, defScope s_InvalidCount⟩
def e_InvalidBodies : ErD := ⟨"InvalidBodies", "at", defArgs s_InvalidBodies, defBody s_InvalidBodies, defScope s_InvalidBodies⟩
def e_InvalidAxis : ErD := ⟨"InvalidAxis", "at", defArgs s_InvalidAxis, defBody s_InvalidAxis, defScope s_InvalidAxis⟩
def e_InvalidOffsets : ErD := ⟨"InvalidOffsets", "at", defArgs s_InvalidOffsets, defBody s_InvalidOffsets, defScope s_InvalidOffsets⟩
def e_InvalidGaps : ErD := ⟨"InvalidGaps", "at", defArgs s_InvalidGaps, defBody s_InvalidGaps, defScope s_InvalidGaps⟩
def e_InvalidRows : ErD := ⟨"InvalidRows", "at", defArgs s_InvalidRows, defBody s_InvalidRows, defScope s_InvalidRows⟩
def e_InvalidSize : ErD := ⟨"InvalidSize", "word", defArgs s_InvalidSize, defBody s_InvalidSize, defScope s_InvalidSize⟩
def e_Refused : ErD := ⟨"Refused", "at", defArgs s_Refused, defBody s_Refused, defScope s_Refused⟩
def fn : List DefD := [d_is_integer, d_is_below, d_is_between, d_is_sequence, d_is_row, d_Bodies_init, d_Bodies_eq, d_is_cell, d_is_new_body, d_told_bodies, d_need_bodies, d_need_axis, d_rows_along, d_Gaps_init, d_Gaps_eq, d_is_gap_row, d_told_gaps, d_need_gaps, d_need_offsets, d_gaps_along, d_gaps_of, d_first_broken, d_broken, d_bodies_with, d__law_box, d__law_draw, d__law_pick, d__law_chance, d__law_is_int, d__law_place, d__law_loose, d__law_same, d__law_gaps_of, d__law_rows, d__law_heard, d__law_due, d__law_stays, d__law_case_fine, d_law]
def er : List ErD := [e_InvalidCount, e_InvalidBodies, e_InvalidAxis, e_InvalidOffsets, e_InvalidGaps, e_InvalidRows, e_InvalidSize, e_Refused]
def fa : List Fa := [.glo "is_integer", .glo "is_below", .glo "is_between", .glo "is_sequence", .glo "is_row", .glo "is_cell", .glo "is_new_body", .glo "told_bodies", .glo "need_bodies", .glo "need_axis", .glo "rows_along", .glo "is_gap_row", .glo "told_gaps", .glo "need_gaps", .glo "need_offsets", .glo "gaps_along", .glo "gaps_of", .glo "first_broken", .glo "broken", .glo "bodies_with", .glo "_law_box", .glo "_law_draw", .glo "_law_pick", .glo "_law_chance", .glo "_law_is_int", .glo "_law_place", .glo "_law_loose", .glo "_law_same", .glo "_law_gaps_of", .glo "_law_rows", .glo "_law_heard", .glo "_law_due", .glo "_law_stays", .glo "_law_case_fine", .glo "law", .free "Exception", .free "abs", .free "all", .free "bool", .free "enumerate", .free "int", .free "isinstance", .free "len", .free "list", .free "max", .free "min", .free "range", .free "sorted", .free "str", .free "super", .free "tuple", .int "MOST_AXES" (3), .int "MOST_BODIES" (12), .int "MOST_BODY_CELLS" (60), .int "MOST_CELLS" (400), .int "FARTHEST" (1000), .int "MOST_GAP" (10000), .int "MOST_OFFSET" (1000000), .int "LEAST_GAP" (-1999), .glo "Bodies", .cls "Bodies", .mkr "Bodies", .glo "Gaps", .cls "Gaps", .mkr "Gaps", .noat "Bodies" "axes", .noat "Bodies" "bodies", .noat "Gaps" "many", .noat "Gaps" "rows", .glo "InvalidCount", .glo "InvalidBodies", .glo "InvalidAxis", .glo "InvalidOffsets", .glo "InvalidGaps", .glo "InvalidRows", .glo "InvalidSize", .glo "Refused", .exm "InvalidCount" "InvalidCount" true, .exm "InvalidCount" "InvalidBodies" false, .exm "InvalidCount" "InvalidAxis" false, .exm "InvalidCount" "InvalidOffsets" false, .exm "InvalidCount" "InvalidGaps" false, .exm "InvalidCount" "InvalidRows" false, .exm "InvalidCount" "InvalidSize" false, .exm "InvalidCount" "Refused" false, .exm "InvalidBodies" "InvalidCount" false, .exm "InvalidBodies" "InvalidBodies" true, .exm "InvalidBodies" "InvalidAxis" false, .exm "InvalidBodies" "InvalidOffsets" false, .exm "InvalidBodies" "InvalidGaps" false, .exm "InvalidBodies" "InvalidRows" false, .exm "InvalidBodies" "InvalidSize" false, .exm "InvalidBodies" "Refused" false, .exm "InvalidAxis" "InvalidCount" false, .exm "InvalidAxis" "InvalidBodies" false, .exm "InvalidAxis" "InvalidAxis" true, .exm "InvalidAxis" "InvalidOffsets" false, .exm "InvalidAxis" "InvalidGaps" false, .exm "InvalidAxis" "InvalidRows" false, .exm "InvalidAxis" "InvalidSize" false, .exm "InvalidAxis" "Refused" false, .exm "InvalidOffsets" "InvalidCount" false, .exm "InvalidOffsets" "InvalidBodies" false, .exm "InvalidOffsets" "InvalidAxis" false, .exm "InvalidOffsets" "InvalidOffsets" true, .exm "InvalidOffsets" "InvalidGaps" false, .exm "InvalidOffsets" "InvalidRows" false, .exm "InvalidOffsets" "InvalidSize" false, .exm "InvalidOffsets" "Refused" false, .exm "InvalidGaps" "InvalidCount" false, .exm "InvalidGaps" "InvalidBodies" false, .exm "InvalidGaps" "InvalidAxis" false, .exm "InvalidGaps" "InvalidOffsets" false, .exm "InvalidGaps" "InvalidGaps" true, .exm "InvalidGaps" "InvalidRows" false, .exm "InvalidGaps" "InvalidSize" false, .exm "InvalidGaps" "Refused" false, .exm "InvalidRows" "InvalidCount" false, .exm "InvalidRows" "InvalidBodies" false, .exm "InvalidRows" "InvalidAxis" false, .exm "InvalidRows" "InvalidOffsets" false, .exm "InvalidRows" "InvalidGaps" false, .exm "InvalidRows" "InvalidRows" true, .exm "InvalidRows" "InvalidSize" false, .exm "InvalidRows" "Refused" false, .exm "InvalidSize" "InvalidCount" false, .exm "InvalidSize" "InvalidBodies" false, .exm "InvalidSize" "InvalidAxis" false, .exm "InvalidSize" "InvalidOffsets" false, .exm "InvalidSize" "InvalidGaps" false, .exm "InvalidSize" "InvalidRows" false, .exm "InvalidSize" "InvalidSize" true, .exm "InvalidSize" "Refused" false, .exm "Refused" "InvalidCount" false, .exm "Refused" "InvalidBodies" false, .exm "Refused" "InvalidAxis" false, .exm "Refused" "InvalidOffsets" false, .exm "Refused" "InvalidGaps" false, .exm "Refused" "InvalidRows" false, .exm "Refused" "InvalidSize" false, .exm "Refused" "Refused" true]
def fx : List (PySem.W.Frag → Bool) := [fun K => eqO (PySem.W.findIn K (.ref (ga K "Bodies")) "__eq__") (some (some (.ref (ma K (ga K "Bodies") "__eq__")))),
  fun K => eqO (PySem.W.findIn K (.ref (ga K "Bodies")) "__ne__") (some (some (.builtin "object.__ne__"))),
  fun K => PySem.W.isFn K (.ref (ma K (ga K "Bodies") "__eq__")),
  fun K => decide (PySem.W.mroIn K (ga K "Bodies") (.type "object") = some true),
  fun K => (PySem.W.clsIn K (ga K "Bodies")).isSome && PySem.W.typeIn K (.ref (ga K "Bodies")) == some (.type "type"),
  fun K => eqO (PySem.W.findIn K (.ref (ga K "Bodies")) "__class__") (some (some (.builtin "object.__class__"))),
  fun K => eqO (PySem.W.findIn K (.ref (ga K "Gaps")) "__eq__") (some (some (.ref (ma K (ga K "Gaps") "__eq__")))),
  fun K => eqO (PySem.W.findIn K (.ref (ga K "Gaps")) "__ne__") (some (some (.builtin "object.__ne__"))),
  fun K => PySem.W.isFn K (.ref (ma K (ga K "Gaps") "__eq__")),
  fun K => decide (PySem.W.mroIn K (ga K "Gaps") (.type "object") = some true),
  fun K => (PySem.W.clsIn K (ga K "Gaps")).isSome && PySem.W.typeIn K (.ref (ga K "Gaps")) == some (.type "type"),
  fun K => eqO (PySem.W.findIn K (.ref (ga K "Gaps")) "__class__") (some (some (.builtin "object.__class__"))),
  fun K => eqO (PySem.W.specialIn K (.builtin "object.__class__") "__get__") (some (some (.builtin "getset_descriptor.__get__"))),
  fun K => decide (PySem.W.takesIn K (.builtin "object.__class__") = some true)]
-- flag 0: eq_Bodies
-- flag 1: ne_Bodies
-- flag 2: fe_Bodies
-- flag 3: ob_Bodies
-- flag 4: ty_Bodies
-- flag 5: ca_Bodies
-- flag 6: eq_Gaps
-- flag 7: ne_Gaps
-- flag 8: fe_Gaps
-- flag 9: ob_Gaps
-- flag 10: ty_Gaps
-- flag 11: ca_Gaps
-- flag 12: hn
-- flag 13: ht
-- fact 0: ('.glo', 'is_integer')
-- fact 1: ('.glo', 'is_below')
-- fact 2: ('.glo', 'is_between')
-- fact 3: ('.glo', 'is_sequence')
-- fact 4: ('.glo', 'is_row')
-- fact 5: ('.glo', 'is_cell')
-- fact 6: ('.glo', 'is_new_body')
-- fact 7: ('.glo', 'told_bodies')
-- fact 8: ('.glo', 'need_bodies')
-- fact 9: ('.glo', 'need_axis')
-- fact 10: ('.glo', 'rows_along')
-- fact 11: ('.glo', 'is_gap_row')
-- fact 12: ('.glo', 'told_gaps')
-- fact 13: ('.glo', 'need_gaps')
-- fact 14: ('.glo', 'need_offsets')
-- fact 15: ('.glo', 'gaps_along')
-- fact 16: ('.glo', 'gaps_of')
-- fact 17: ('.glo', 'first_broken')
-- fact 18: ('.glo', 'broken')
-- fact 19: ('.glo', 'bodies_with')
-- fact 20: ('.glo', '_law_box')
-- fact 21: ('.glo', '_law_draw')
-- fact 22: ('.glo', '_law_pick')
-- fact 23: ('.glo', '_law_chance')
-- fact 24: ('.glo', '_law_is_int')
-- fact 25: ('.glo', '_law_place')
-- fact 26: ('.glo', '_law_loose')
-- fact 27: ('.glo', '_law_same')
-- fact 28: ('.glo', '_law_gaps_of')
-- fact 29: ('.glo', '_law_rows')
-- fact 30: ('.glo', '_law_heard')
-- fact 31: ('.glo', '_law_due')
-- fact 32: ('.glo', '_law_stays')
-- fact 33: ('.glo', '_law_case_fine')
-- fact 34: ('.glo', 'law')
-- fact 35: ('.free', 'Exception')
-- fact 36: ('.free', 'abs')
-- fact 37: ('.free', 'all')
-- fact 38: ('.free', 'bool')
-- fact 39: ('.free', 'enumerate')
-- fact 40: ('.free', 'int')
-- fact 41: ('.free', 'isinstance')
-- fact 42: ('.free', 'len')
-- fact 43: ('.free', 'list')
-- fact 44: ('.free', 'max')
-- fact 45: ('.free', 'min')
-- fact 46: ('.free', 'range')
-- fact 47: ('.free', 'sorted')
-- fact 48: ('.free', 'str')
-- fact 49: ('.free', 'super')
-- fact 50: ('.free', 'tuple')
-- fact 51: ('.int', 'MOST_AXES')
-- fact 52: ('.int', 'MOST_BODIES')
-- fact 53: ('.int', 'MOST_BODY_CELLS')
-- fact 54: ('.int', 'MOST_CELLS')
-- fact 55: ('.int', 'FARTHEST')
-- fact 56: ('.int', 'MOST_GAP')
-- fact 57: ('.int', 'MOST_OFFSET')
-- fact 58: ('.int', 'LEAST_GAP')
-- fact 59: ('.glo', 'Bodies')
-- fact 60: ('.cls', 'Bodies')
-- fact 61: ('.mkr', 'Bodies')
-- fact 62: ('.glo', 'Gaps')
-- fact 63: ('.cls', 'Gaps')
-- fact 64: ('.mkr', 'Gaps')
-- fact 65: ('.noat', 'Bodies', 'axes')
-- fact 66: ('.noat', 'Bodies', 'bodies')
-- fact 67: ('.noat', 'Gaps', 'many')
-- fact 68: ('.noat', 'Gaps', 'rows')
-- fact 69: ('.glo', 'InvalidCount')
-- fact 70: ('.glo', 'InvalidBodies')
-- fact 71: ('.glo', 'InvalidAxis')
-- fact 72: ('.glo', 'InvalidOffsets')
-- fact 73: ('.glo', 'InvalidGaps')
-- fact 74: ('.glo', 'InvalidRows')
-- fact 75: ('.glo', 'InvalidSize')
-- fact 76: ('.glo', 'Refused')
-- fact 77: ('.exm', 'InvalidCount', 'InvalidCount')
-- fact 78: ('.exm', 'InvalidCount', 'InvalidBodies')
-- fact 79: ('.exm', 'InvalidCount', 'InvalidAxis')
-- fact 80: ('.exm', 'InvalidCount', 'InvalidOffsets')
-- fact 81: ('.exm', 'InvalidCount', 'InvalidGaps')
-- fact 82: ('.exm', 'InvalidCount', 'InvalidRows')
-- fact 83: ('.exm', 'InvalidCount', 'InvalidSize')
-- fact 84: ('.exm', 'InvalidCount', 'Refused')
-- fact 85: ('.exm', 'InvalidBodies', 'InvalidCount')
-- fact 86: ('.exm', 'InvalidBodies', 'InvalidBodies')
-- fact 87: ('.exm', 'InvalidBodies', 'InvalidAxis')
-- fact 88: ('.exm', 'InvalidBodies', 'InvalidOffsets')
-- fact 89: ('.exm', 'InvalidBodies', 'InvalidGaps')
-- fact 90: ('.exm', 'InvalidBodies', 'InvalidRows')
-- fact 91: ('.exm', 'InvalidBodies', 'InvalidSize')
-- fact 92: ('.exm', 'InvalidBodies', 'Refused')
-- fact 93: ('.exm', 'InvalidAxis', 'InvalidCount')
-- fact 94: ('.exm', 'InvalidAxis', 'InvalidBodies')
-- fact 95: ('.exm', 'InvalidAxis', 'InvalidAxis')
-- fact 96: ('.exm', 'InvalidAxis', 'InvalidOffsets')
-- fact 97: ('.exm', 'InvalidAxis', 'InvalidGaps')
-- fact 98: ('.exm', 'InvalidAxis', 'InvalidRows')
-- fact 99: ('.exm', 'InvalidAxis', 'InvalidSize')
-- fact 100: ('.exm', 'InvalidAxis', 'Refused')
-- fact 101: ('.exm', 'InvalidOffsets', 'InvalidCount')
-- fact 102: ('.exm', 'InvalidOffsets', 'InvalidBodies')
-- fact 103: ('.exm', 'InvalidOffsets', 'InvalidAxis')
-- fact 104: ('.exm', 'InvalidOffsets', 'InvalidOffsets')
-- fact 105: ('.exm', 'InvalidOffsets', 'InvalidGaps')
-- fact 106: ('.exm', 'InvalidOffsets', 'InvalidRows')
-- fact 107: ('.exm', 'InvalidOffsets', 'InvalidSize')
-- fact 108: ('.exm', 'InvalidOffsets', 'Refused')
-- fact 109: ('.exm', 'InvalidGaps', 'InvalidCount')
-- fact 110: ('.exm', 'InvalidGaps', 'InvalidBodies')
-- fact 111: ('.exm', 'InvalidGaps', 'InvalidAxis')
-- fact 112: ('.exm', 'InvalidGaps', 'InvalidOffsets')
-- fact 113: ('.exm', 'InvalidGaps', 'InvalidGaps')
-- fact 114: ('.exm', 'InvalidGaps', 'InvalidRows')
-- fact 115: ('.exm', 'InvalidGaps', 'InvalidSize')
-- fact 116: ('.exm', 'InvalidGaps', 'Refused')
-- fact 117: ('.exm', 'InvalidRows', 'InvalidCount')
-- fact 118: ('.exm', 'InvalidRows', 'InvalidBodies')
-- fact 119: ('.exm', 'InvalidRows', 'InvalidAxis')
-- fact 120: ('.exm', 'InvalidRows', 'InvalidOffsets')
-- fact 121: ('.exm', 'InvalidRows', 'InvalidGaps')
-- fact 122: ('.exm', 'InvalidRows', 'InvalidRows')
-- fact 123: ('.exm', 'InvalidRows', 'InvalidSize')
-- fact 124: ('.exm', 'InvalidRows', 'Refused')
-- fact 125: ('.exm', 'InvalidSize', 'InvalidCount')
-- fact 126: ('.exm', 'InvalidSize', 'InvalidBodies')
-- fact 127: ('.exm', 'InvalidSize', 'InvalidAxis')
-- fact 128: ('.exm', 'InvalidSize', 'InvalidOffsets')
-- fact 129: ('.exm', 'InvalidSize', 'InvalidGaps')
-- fact 130: ('.exm', 'InvalidSize', 'InvalidRows')
-- fact 131: ('.exm', 'InvalidSize', 'InvalidSize')
-- fact 132: ('.exm', 'InvalidSize', 'Refused')
-- fact 133: ('.exm', 'Refused', 'InvalidCount')
-- fact 134: ('.exm', 'Refused', 'InvalidBodies')
-- fact 135: ('.exm', 'Refused', 'InvalidAxis')
-- fact 136: ('.exm', 'Refused', 'InvalidOffsets')
-- fact 137: ('.exm', 'Refused', 'InvalidGaps')
-- fact 138: ('.exm', 'Refused', 'InvalidRows')
-- fact 139: ('.exm', 'Refused', 'InvalidSize')
-- fact 140: ('.exm', 'Refused', 'Refused')
abbrev Sc (K : PySem.W.Frag) (mg : Str → Option Value) : Prop := Src prg fx fa fn er K mg
end K78
set_option Elab.async false
set_option linter.all false
set_option maxRecDepth 100000
set_option maxHeartbeats 4000000
/-! k78: the module words -/
namespace K78
open PySem PySem.Spec PyProof.Rows L2 He HK
def sp_is_integer : Sp := fun vs H Q _ => ∃ i : Int, vs = [.int i] ∧ RetV (.bl true) H Q
def sp_is_below : Sp := fun vs H Q _ => ∃ i n : Int, vs = [.int i, .int n] ∧ RetV (.bl (decide (0 ≤ i ∧ i < n))) H Q
def sp_is_between : Sp := fun vs H Q _ => ∃ i a b : Int, vs = [.int i, .int a, .int b] ∧ RetV (.bl (decide (a ≤ i ∧ i ≤ b))) H Q
def sp_is_sequence : Sp := fun vs H Q _ => ∃ (a : Addr) (xs : List V), vs = [.ref a] ∧ Sq H a xs ∧ RetV (.bl true) H Q
def sp_is_row : Sp := fun vs H Q _ => ∃ (a : Addr) (xs : List V) (n : Int), vs = [.ref a, .int n] ∧ Sq H a xs ∧ RetV (.bl (decide ((xs.length : Int) = n))) H Q
section
variable {w : World} {K : PySem.W.Frag} {mg : Str → Option Value} {base : Heap}
theorem C_is_integer (S : Sc K mg) : Cal prg w K mg base CX0 "is_integer" 1 ["value"] [] sp_is_integer := by
  refine S.cal (d := d_is_integer) 0 0 sc_is_integer rfl rfl rfl rfl rfl (fun _ _ _ _ _ _ us hl => match us, hl with | [_], _ => rfl) (fun vs H Q E h => ?_) (fun f cdv A outer s H vs Q E hr h => ?_)
  · obtain ⟨i, rfl, _⟩ := h
    rfl
  · obtain ⟨i, rfl, q⟩ := h
    refine ⟨_, (pss_one (ps_ret (pe_and (pe_callB call_isi (by rfl) (S.free 41) (by decide +kernel) (pa_cons (pv 0) (pa_cons (pe_ty (n := "int") (S.free 40) (by decide +kernel)) pa_nil))) (pe_one (pe_not (pe_callB call_isi (by rfl) (S.free 41) (by decide +kernel) (pa_cons (pv 0) (pa_cons (pe_ty (n := "bool") (S.free 38) (by decide +kernel)) pa_nil)))))))), ?_⟩
    try simp only [wipe, tC, tVar, tChain, rI0, rI, rU, tOp, tUn, tCall, tAnd, tOr, tNot, tNotV, tAndV, tOrV, tTest, tB, tIf, tIfS, tRet, tRetN, tNext, tSeq, tNil, tCons, tAug, ipI, tPar, tAsg, gName, tDrop, tLst, tTup, tCB, tBM, tBM0, tFld_eq, tMkE, tMake, tAugS, gSub, rEq, rAll, rMax, rSum, rAppend, rExtend, rSetL, _root_.L2.start, List.map_cons, List.map_nil, List.length_cons, List.length_nil, List.replicate_succ, List.replicate_zero, List.cons_append, List.nil_append, List.append_nil, List.getElem?_cons_zero, List.getElem?_cons_succ, List.set_cons_zero, List.set_cons_succ, Nat.reduceAdd, Nat.reduceSub, V.int.injEq, V.bl.injEq, V.ref.injEq, V.str.injEq, exists_eq, exists_eq', exists_eq_left, exists_eq_left', exists_and_left, exists_and_right, Option.some.injEq, List.cons.injEq, and_true, true_and, and_assoc, retV, true_or, or_true, decide_eq_true_eq, if_true, if_false, Bool.false_eq_true, Bool.not_true, Bool.not_false, Bool.not_eq_true', reduceCtorEq, eq_self, decide_true, decide_false, List.length_map, exists_const, false_and, and_false, or_false, false_or, ↓reduceIte]
    refine isi_ii ?_
    try simp only [wipe, tC, tVar, tChain, rI0, rI, rU, tOp, tUn, tCall, tAnd, tOr, tNot, tNotV, tAndV, tOrV, tTest, tB, tIf, tIfS, tRet, tRetN, tNext, tSeq, tNil, tCons, tAug, ipI, tPar, tAsg, gName, tDrop, tLst, tTup, tCB, tBM, tBM0, tFld_eq, tMkE, tMake, tAugS, gSub, rEq, rAll, rMax, rSum, rAppend, rExtend, rSetL, _root_.L2.start, List.map_cons, List.map_nil, List.length_cons, List.length_nil, List.replicate_succ, List.replicate_zero, List.cons_append, List.nil_append, List.append_nil, List.getElem?_cons_zero, List.getElem?_cons_succ, List.set_cons_zero, List.set_cons_succ, Nat.reduceAdd, Nat.reduceSub, V.int.injEq, V.bl.injEq, V.ref.injEq, V.str.injEq, exists_eq, exists_eq', exists_eq_left, exists_eq_left', exists_and_left, exists_and_right, Option.some.injEq, List.cons.injEq, and_true, true_and, and_assoc, retV, true_or, or_true, decide_eq_true_eq, if_true, if_false, Bool.false_eq_true, Bool.not_true, Bool.not_false, Bool.not_eq_true', reduceCtorEq, eq_self, decide_true, decide_false, List.length_map, exists_const, false_and, and_false, or_false, false_or, ↓reduceIte]
    refine isi_ib ?_
    try simp only [wipe, tC, tVar, tChain, rI0, rI, rU, tOp, tUn, tCall, tAnd, tOr, tNot, tNotV, tAndV, tOrV, tTest, tB, tIf, tIfS, tRet, tRetN, tNext, tSeq, tNil, tCons, tAug, ipI, tPar, tAsg, gName, tDrop, tLst, tTup, tCB, tBM, tBM0, tFld_eq, tMkE, tMake, tAugS, gSub, rEq, rAll, rMax, rSum, rAppend, rExtend, rSetL, _root_.L2.start, List.map_cons, List.map_nil, List.length_cons, List.length_nil, List.replicate_succ, List.replicate_zero, List.cons_append, List.nil_append, List.append_nil, List.getElem?_cons_zero, List.getElem?_cons_succ, List.set_cons_zero, List.set_cons_succ, Nat.reduceAdd, Nat.reduceSub, V.int.injEq, V.bl.injEq, V.ref.injEq, V.str.injEq, exists_eq, exists_eq', exists_eq_left, exists_eq_left', exists_and_left, exists_and_right, Option.some.injEq, List.cons.injEq, and_true, true_and, and_assoc, retV, true_or, or_true, decide_eq_true_eq, if_true, if_false, Bool.false_eq_true, Bool.not_true, Bool.not_false, Bool.not_eq_true', reduceCtorEq, eq_self, decide_true, decide_false, List.length_map, exists_const, false_and, and_false, or_false, false_or, ↓reduceIte]
    exact q.go (Same.refl _) rfl
theorem C_is_below (S : Sc K mg) : Cal prg w K mg base CX0 "is_below" 2 ["value", "limit"] [] sp_is_below := by
  have C_is_integer : Cal prg w K mg base CX0 "is_integer" 1 ["value"] [] sp_is_integer := C_is_integer S
  refine S.cal (d := d_is_below) 1 1 sc_is_below rfl rfl rfl rfl rfl (fun _ _ _ _ _ _ us hl => match us, hl with | [_, _], _ => rfl) (fun vs H Q E h => ?_) (fun f cdv A outer s H vs Q E hr h => ?_)
  · obtain ⟨i, n, rfl, _⟩ := h
    rfl
  · obtain ⟨i, n, rfl, q⟩ := h
    refine ⟨_, (pss_one (ps_ret (pe_and (pe_c C_is_integer (hr.mono (by omega)) pass0 (pa_cons (pv 0) pa_nil)) (pe_one (pe_chain op_le op_lt pe_int (pv 0) (pv 1)))))), ?_⟩
    try simp only [wipe, tC, tVar, tChain, rI0, rI, rU, tOp, tUn, tCall, tAnd, tOr, tNot, tNotV, tAndV, tOrV, tTest, tB, tIf, tIfS, tRet, tRetN, tNext, tSeq, tNil, tCons, tAug, ipI, tPar, tAsg, gName, tDrop, tLst, tTup, tCB, tBM, tBM0, tFld_eq, tMkE, tMake, tAugS, gSub, rEq, rAll, rMax, rSum, rAppend, rExtend, rSetL, _root_.L2.start, List.map_cons, List.map_nil, List.length_cons, List.length_nil, List.replicate_succ, List.replicate_zero, List.cons_append, List.nil_append, List.append_nil, List.getElem?_cons_zero, List.getElem?_cons_succ, List.set_cons_zero, List.set_cons_succ, Nat.reduceAdd, Nat.reduceSub, V.int.injEq, V.bl.injEq, V.ref.injEq, V.str.injEq, exists_eq, exists_eq', exists_eq_left, exists_eq_left', exists_and_left, exists_and_right, Option.some.injEq, List.cons.injEq, and_true, true_and, and_assoc, retV, true_or, or_true, decide_eq_true_eq, if_true, if_false, Bool.false_eq_true, Bool.not_true, Bool.not_false, Bool.not_eq_true', reduceCtorEq, eq_self, decide_true, decide_false, List.length_map, exists_const, false_and, and_false, or_false, false_or, sp_is_integer, ↓reduceIte]
    intro H1 e1
    by_cases h0 : (0 : Int) ≤ i
    · try simp only [wipe, tC, tVar, tChain, rI0, rI, rU, tOp, tUn, tCall, tAnd, tOr, tNot, tNotV, tAndV, tOrV, tTest, tB, tIf, tIfS, tRet, tRetN, tNext, tSeq, tNil, tCons, tAug, ipI, tPar, tAsg, gName, tDrop, tLst, tTup, tCB, tBM, tBM0, tFld_eq, tMkE, tMake, tAugS, gSub, rEq, rAll, rMax, rSum, rAppend, rExtend, rSetL, _root_.L2.start, List.map_cons, List.map_nil, List.length_cons, List.length_nil, List.replicate_succ, List.replicate_zero, List.cons_append, List.nil_append, List.append_nil, List.getElem?_cons_zero, List.getElem?_cons_succ, List.set_cons_zero, List.set_cons_succ, Nat.reduceAdd, Nat.reduceSub, V.int.injEq, V.bl.injEq, V.ref.injEq, V.str.injEq, exists_eq, exists_eq', exists_eq_left, exists_eq_left', exists_and_left, exists_and_right, Option.some.injEq, List.cons.injEq, and_true, true_and, and_assoc, retV, true_or, or_true, decide_eq_true_eq, if_true, if_false, Bool.false_eq_true, Bool.not_true, Bool.not_false, Bool.not_eq_true', reduceCtorEq, eq_self, decide_true, decide_false, List.length_map, exists_const, false_and, and_false, or_false, false_or, if_pos h0, ↓reduceIte]
      refine q.go e1 (congrArg V.bl ?_)
      simp [h0]
    · try simp only [wipe, tC, tVar, tChain, rI0, rI, rU, tOp, tUn, tCall, tAnd, tOr, tNot, tNotV, tAndV, tOrV, tTest, tB, tIf, tIfS, tRet, tRetN, tNext, tSeq, tNil, tCons, tAug, ipI, tPar, tAsg, gName, tDrop, tLst, tTup, tCB, tBM, tBM0, tFld_eq, tMkE, tMake, tAugS, gSub, rEq, rAll, rMax, rSum, rAppend, rExtend, rSetL, _root_.L2.start, List.map_cons, List.map_nil, List.length_cons, List.length_nil, List.replicate_succ, List.replicate_zero, List.cons_append, List.nil_append, List.append_nil, List.getElem?_cons_zero, List.getElem?_cons_succ, List.set_cons_zero, List.set_cons_succ, Nat.reduceAdd, Nat.reduceSub, V.int.injEq, V.bl.injEq, V.ref.injEq, V.str.injEq, exists_eq, exists_eq', exists_eq_left, exists_eq_left', exists_and_left, exists_and_right, Option.some.injEq, List.cons.injEq, and_true, true_and, and_assoc, retV, true_or, or_true, decide_eq_true_eq, if_true, if_false, Bool.false_eq_true, Bool.not_true, Bool.not_false, Bool.not_eq_true', reduceCtorEq, eq_self, decide_true, decide_false, List.length_map, exists_const, false_and, and_false, or_false, false_or, if_neg h0, ↓reduceIte]
      refine q.go e1 (congrArg V.bl ?_)
      simp [h0]
theorem C_is_between (S : Sc K mg) : Cal prg w K mg base CX0 "is_between" 2 ["value", "least", "most"] [] sp_is_between := by
  have C_is_integer : Cal prg w K mg base CX0 "is_integer" 1 ["value"] [] sp_is_integer := C_is_integer S
  refine S.cal (d := d_is_between) 2 2 sc_is_between rfl rfl rfl rfl rfl (fun _ _ _ _ _ _ us hl => match us, hl with | [_, _, _], _ => rfl) (fun vs H Q E h => ?_) (fun f cdv A outer s H vs Q E hr h => ?_)
  · obtain ⟨i, a, b, rfl, _⟩ := h
    rfl
  · obtain ⟨i, a, b, rfl, q⟩ := h
    refine ⟨_, (pss_one (ps_ret (pe_and (pe_c C_is_integer (hr.mono (by omega)) pass0 (pa_cons (pv 0) pa_nil)) (pe_one (pe_chain op_le op_le (pv 1) (pv 0) (pv 2)))))), ?_⟩
    try simp only [wipe, tC, tVar, tChain, rI0, rI, rU, tOp, tUn, tCall, tAnd, tOr, tNot, tNotV, tAndV, tOrV, tTest, tB, tIf, tIfS, tRet, tRetN, tNext, tSeq, tNil, tCons, tAug, ipI, tPar, tAsg, gName, tDrop, tLst, tTup, tCB, tBM, tBM0, tFld_eq, tMkE, tMake, tAugS, gSub, rEq, rAll, rMax, rSum, rAppend, rExtend, rSetL, _root_.L2.start, List.map_cons, List.map_nil, List.length_cons, List.length_nil, List.replicate_succ, List.replicate_zero, List.cons_append, List.nil_append, List.append_nil, List.getElem?_cons_zero, List.getElem?_cons_succ, List.set_cons_zero, List.set_cons_succ, Nat.reduceAdd, Nat.reduceSub, V.int.injEq, V.bl.injEq, V.ref.injEq, V.str.injEq, exists_eq, exists_eq', exists_eq_left, exists_eq_left', exists_and_left, exists_and_right, Option.some.injEq, List.cons.injEq, and_true, true_and, and_assoc, retV, true_or, or_true, decide_eq_true_eq, if_true, if_false, Bool.false_eq_true, Bool.not_true, Bool.not_false, Bool.not_eq_true', reduceCtorEq, eq_self, decide_true, decide_false, List.length_map, exists_const, false_and, and_false, or_false, false_or, sp_is_integer, ↓reduceIte]
    intro H1 e1
    by_cases h0 : a ≤ i
    · try simp only [wipe, tC, tVar, tChain, rI0, rI, rU, tOp, tUn, tCall, tAnd, tOr, tNot, tNotV, tAndV, tOrV, tTest, tB, tIf, tIfS, tRet, tRetN, tNext, tSeq, tNil, tCons, tAug, ipI, tPar, tAsg, gName, tDrop, tLst, tTup, tCB, tBM, tBM0, tFld_eq, tMkE, tMake, tAugS, gSub, rEq, rAll, rMax, rSum, rAppend, rExtend, rSetL, _root_.L2.start, List.map_cons, List.map_nil, List.length_cons, List.length_nil, List.replicate_succ, List.replicate_zero, List.cons_append, List.nil_append, List.append_nil, List.getElem?_cons_zero, List.getElem?_cons_succ, List.set_cons_zero, List.set_cons_succ, Nat.reduceAdd, Nat.reduceSub, V.int.injEq, V.bl.injEq, V.ref.injEq, V.str.injEq, exists_eq, exists_eq', exists_eq_left, exists_eq_left', exists_and_left, exists_and_right, Option.some.injEq, List.cons.injEq, and_true, true_and, and_assoc, retV, true_or, or_true, decide_eq_true_eq, if_true, if_false, Bool.false_eq_true, Bool.not_true, Bool.not_false, Bool.not_eq_true', reduceCtorEq, eq_self, decide_true, decide_false, List.length_map, exists_const, false_and, and_false, or_false, false_or, if_pos h0, ↓reduceIte]
      refine q.go e1 (congrArg V.bl ?_)
      simp [h0]
    · try simp only [wipe, tC, tVar, tChain, rI0, rI, rU, tOp, tUn, tCall, tAnd, tOr, tNot, tNotV, tAndV, tOrV, tTest, tB, tIf, tIfS, tRet, tRetN, tNext, tSeq, tNil, tCons, tAug, ipI, tPar, tAsg, gName, tDrop, tLst, tTup, tCB, tBM, tBM0, tFld_eq, tMkE, tMake, tAugS, gSub, rEq, rAll, rMax, rSum, rAppend, rExtend, rSetL, _root_.L2.start, List.map_cons, List.map_nil, List.length_cons, List.length_nil, List.replicate_succ, List.replicate_zero, List.cons_append, List.nil_append, List.append_nil, List.getElem?_cons_zero, List.getElem?_cons_succ, List.set_cons_zero, List.set_cons_succ, Nat.reduceAdd, Nat.reduceSub, V.int.injEq, V.bl.injEq, V.ref.injEq, V.str.injEq, exists_eq, exists_eq', exists_eq_left, exists_eq_left', exists_and_left, exists_and_right, Option.some.injEq, List.cons.injEq, and_true, true_and, and_assoc, retV, true_or, or_true, decide_eq_true_eq, if_true, if_false, Bool.false_eq_true, Bool.not_true, Bool.not_false, Bool.not_eq_true', reduceCtorEq, eq_self, decide_true, decide_false, List.length_map, exists_const, false_and, and_false, or_false, false_or, if_neg h0, ↓reduceIte]
      refine q.go e1 (congrArg V.bl ?_)
      simp [h0]
theorem C_is_sequence (S : Sc K mg) : Cal prg w K mg base CX0 "is_sequence" 1 ["value"] [] sp_is_sequence := by
  refine S.cal (d := d_is_sequence) 3 3 sc_is_sequence rfl rfl rfl rfl rfl (fun _ _ _ _ _ _ us hl => match us, hl with | [_], _ => rfl) (fun vs H Q E h => ?_) (fun f cdv A outer s H vs Q E hr h => ?_)
  · obtain ⟨a, xs, rfl, _⟩ := h
    rfl
  · obtain ⟨a, xs, rfl, hs, q⟩ := h
    refine ⟨_, (pss_one (ps_ret (pe_callB call_isiT (by rfl) (S.free 41) (by decide +kernel) (pa_cons (pv 0) (pa_cons (pe_tup (pa_cons (pe_ty (n := "list") (S.free 43) (by decide +kernel)) (pa_cons (pe_ty (n := "tuple") (S.free 50) (by decide +kernel)) pa_nil))) pa_nil))))), ?_⟩
    refine ⟨_, rfl, ?_⟩
    exact isi_sq hs fun H' e => q.go e rfl
theorem C_is_row (S : Sc K mg) : Cal prg w K mg base CX0 "is_row" 2 ["value", "many"] [] sp_is_row := by
  have C_is_sequence : Cal prg w K mg base CX0 "is_sequence" 1 ["value"] [] sp_is_sequence := C_is_sequence S
  refine S.cal (d := d_is_row) 4 4 sc_is_row rfl rfl rfl rfl rfl (fun _ _ _ _ _ _ us hl => match us, hl with | [_, _], _ => rfl) (fun vs H Q E h => ?_) (fun f cdv A outer s H vs Q E hr h => ?_)
  · obtain ⟨a, xs, n, rfl, _⟩ := h
    rfl
  · obtain ⟨a, xs, n, rfl, hs, q⟩ := h
    refine ⟨_, (pss_one (ps_ret (pe_and (pe_c C_is_sequence (hr.mono (by omega)) pass0 (pa_cons (pv 0) pa_nil)) (pe_one (pe_cmpR op_eq (pe_callB cr_lenA (by rfl) (S.free 42) (by decide +kernel) (pa_cons (pv 0) pa_nil)) (pv 1) (nomark _)))))), ?_⟩
    try simp only [wipe, tC, tVar, tChain, rI0, rI, rU, tOp, tUn, tCall, tAnd, tOr, tNot, tNotV, tAndV, tOrV, tTest, tB, tIf, tIfS, tRet, tRetN, tNext, tSeq, tNil, tCons, tAug, ipI, tPar, tAsg, gName, tDrop, tLst, tTup, tCB, tBM, tBM0, tFld_eq, tMkE, tMake, tAugS, gSub, rEq, rAll, rMax, rSum, rAppend, rExtend, rSetL, _root_.L2.start, List.map_cons, List.map_nil, List.length_cons, List.length_nil, List.replicate_succ, List.replicate_zero, List.cons_append, List.nil_append, List.append_nil, List.getElem?_cons_zero, List.getElem?_cons_succ, List.set_cons_zero, List.set_cons_succ, Nat.reduceAdd, Nat.reduceSub, V.int.injEq, V.bl.injEq, V.ref.injEq, V.str.injEq, exists_eq, exists_eq', exists_eq_left, exists_eq_left', exists_and_left, exists_and_right, Option.some.injEq, List.cons.injEq, and_true, true_and, and_assoc, retV, true_or, or_true, decide_eq_true_eq, if_true, if_false, Bool.false_eq_true, Bool.not_true, Bool.not_false, Bool.not_eq_true', reduceCtorEq, eq_self, decide_true, decide_false, List.length_map, exists_const, false_and, and_false, or_false, false_or, sp_is_sequence, ↓reduceIte]
    refine ⟨⟨xs, hs⟩, fun H1 e1 => len_sq (hs.same e1) ⟨rfl, ?_⟩⟩
    refine q.go e1 (congrArg V.bl ?_)
    simp
end
end K78
set_option Elab.async false
set_option linter.all false
set_option maxRecDepth 100000
set_option maxHeartbeats 4000000
/-! k78: the module cells -/
namespace K78
open PySem PySem.Spec PyProof.Rows L2 He HK
/-- a cell as a dict's key -/
def ky (c : List Int) : List L2.Key := c.map Sum.inl
theorem ky_kV (c : List Int) : (ky c).map kV = c.map V.int := by rw [ky, List.map_map]; rfl
theorem ky_inj {c d : List Int} (h : ky c = ky d) : c = d := by
  have := congrArg (List.map fun k : L2.Key => match k with | .inl i => i | .inr _ => 0) h
  simpa [ky, List.map_map, Function.comp_def] using this
def PrA (H : Hp) (v : V) (p : Int × Int) : Prop := ∃ t, v = .ref t ∧ H t = some (.tup [.int p.1, .int p.2])
theorem PrA.tk {H H' : Hp} (e : Tk H H') {v : V} {p : Int × Int} (h : PrA H v p) : PrA H' v p := by
  obtain ⟨t, h1, h2⟩ := h
  exact ⟨t, h1, (e t).1 _ h2⟩
/-- which pair stands there -/
def kP (H : Hp) : V → Int × Int
  | .ref t => match H t with
    | some (.tup [.int i, .int j]) => (i, j)
    | _ => (0, 0)
  | _ => (0, 0)
theorem kP_of {H : Hp} {v : V} {p : Int × Int} (h : PrA H v p) : kP H v = p := by
  obtain ⟨t, rfl, h⟩ := h
  simp only [kP, h]
/-- sorted(cells), pairs all -/
theorem sorted_cells {K : PySem.W.Frag} {H : Hp} {Q : VK} {r : Addr} {vs : List V} {b : List (List Int)} (hr : H r = some (.lst vs)) (hp : Paired (TpF InA No H) vs b) (h2 : ∀ c ∈ b, c.length = 2)
    (q : ∀ p zs, H p = none → zs.Perm vs → Q (.ref p) (upd H p (.lst zs))) : rSortedPO K [.ref r] H Q := by
  have each : ∀ x ∈ vs, PrA H x (kP H x) := fun x hx => by
    obtain ⟨j, hj⟩ := List.getElem?_of_mem hx
    obtain ⟨c, hc, t, cs, rfl, ht, hcp⟩ := Paired.at hp hj
    obtain rfl := ina_eq hcp
    have l := h2 c (List.mem_of_getElem? hc)
    match c, l with
    | [i, k], _ => 
      have e : PrA H (.ref t) (i, k) := ⟨t, rfl, ht⟩
      rw [kP_of e]
      exact e
  exact ⟨r, vs, kP H, rfl, sqL_of hr, each, fun ys p hs hb np => q p ys np hb.perm⟩
def sp_is_cell : Sp := fun vs H Q _ => ∃ (v : V) (c : List Int), vs = [.int c.length, v] ∧ SqF InA No H v c ∧ c.length ≤ 3 ∧ (∀ x ∈ c, -1000 ≤ x ∧ x ≤ 1000) ∧ RetV (.bl true) H Q
def sp_is_new_body : Sp := fun vs H Q _ => ∃ (n : Nat) (t : Addr) (v : V) (tk : List (List L2.Key × V)) (cs : List (List Int)), vs = [.int n, .ref t, v] ∧ H t = some (.dT tk) ∧ SqF (SqF InA) No H v cs ∧ 1 ≤ cs.length ∧ cs.length ≤ 60 ∧ n ≤ 3 ∧
  (∀ c ∈ cs, c.length = n ∧ (∀ x ∈ c, -1000 ≤ x ∧ x ≤ 1000) ∧ valV tk (ky c) = none) ∧ cs.Nodup ∧ RetV (.bl true) H Q
/-- bodies made: each is the given one in an order of its own -/
def BodR (B : List (List (List Int))) : Hp → V → Prop := fun H v => ∃ B', TpF (TpF (TpF InA)) No H v B' ∧ Paired List.Perm B' B
structure BodOk (w : World) (n : Nat) (B : List (List (List Int))) : Prop where
  n2 : n = 2
  l1 : 1 ≤ B.length
  l12 : B.length ≤ 12
  c1 : ∀ b ∈ B, 1 ≤ b.length
  c60 : ∀ b ∈ B, b.length ≤ 60
  cell : ∀ b ∈ B, ∀ c ∈ b, c.length = n ∧ ∀ x ∈ c, -1000 ≤ x ∧ x ≤ 1000
  nd : B.flatten.Nodup
  most : B.flatten.length ≤ 400
  hash : ∀ b, B[0]? = some b → (b.map fun c => tupleKeyHash (mixKind prg w) (ky c)).Nodup
def sp_told_bodies (w : World) : Sp := fun vs H Q _ => ∃ (n : Nat) (v : V) (B : List (List (List Int))), vs = [.int n, v] ∧ SqF (SqF (SqF InA)) No H v B ∧ BodOk w n B ∧ Ret (BodR B) H Q
section
variable {w : World} {K : PySem.W.Frag} {mg : Str → Option Value} {base : Heap}
theorem C_is_cell (S : Sc K mg) : Cal prg w K mg base CX0 "is_cell" 3 ["axes", "value"] [] sp_is_cell := by
  have C_is_sequence : Cal prg w K mg base CX0 "is_sequence" 1 ["value"] [] sp_is_sequence := C_is_sequence S
  have C_is_between : Cal prg w K mg base CX0 "is_between" 2 ["value", "least", "most"] [] sp_is_between := C_is_between S
  refine S.cal (d := d_is_cell) 7 5 sc_is_cell rfl rfl rfl rfl rfl (fun _ _ _ _ _ _ us hl => match us, hl with | [_, _], _ => rfl) (fun vs H Q E h => ?_) (fun f cdv A outer s H vs Q E hr h => ?_)
  · obtain ⟨v, c, rfl, _⟩ := h
    rfl
  · obtain ⟨v, c, rfl, ⟨a, xs, rfl, _, hs, hp⟩, h3, hc, q⟩ := h
    obtain rfl := ina_eq hp
    refine ⟨_, (pss_cons (ps_if (PW.pt (pw_or (pt_not (pt_val (pe_c C_is_sequence (hr.mono (by omega)) pass0 (pa_cons (pv 1) pa_nil)))) (pw_or1 (pt_cmpR op_ne (pe_callB cr_lenA (by rfl) (S.free 42) (by decide +kernel) (pa_cons (pv 1) pa_nil)) (pv 0) (nomark _))))) (pss_one (ps_ret pe_bl)) pss_nil)
      (pss_one (ps_ret (pe_callB (cr_all rfl) (by rfl) (S.free 37) (by decide +kernel) (pa_cons (pe_lc (own := [("place", 2)]) (g := (gName 2)) (tt := tYes) rfl sc_is_cell.nd (pi_seq (pv 1)) (blkOk_by (N := ["axes", "value", "place"]) (sc := defScope s_is_cell) (by decide +kernel)) (fun _ _ _ _ _ => (pg_name (i := 2) sc_is_cell.nd rfl (by first | exact Or.inl rfl | exact Or.inr rfl))) (fun _ _ _ _ _ => pts_nil) (fun _ _ _ _ _ => (pe_c C_is_between (hr.mono (by omega)) pass0 (pa_cons (pv 2) (pa_cons (pe_un un_neg (pe_gi (S.int 55))) (pa_cons (pe_gi (S.int 55)) pa_nil)))))) pa_nil))))), ?_⟩
    try simp only [wipe, tC, tVar, tChain, rI0, rI, rU, tOp, tUn, tCall, tAnd, tOr, tNot, tNotV, tAndV, tOrV, tTest, tB, tIf, tIfS, tRet, tRetN, tNext, tSeq, tNil, tCons, tAug, ipI, tPar, tAsg, gName, tDrop, tLst, tTup, tCB, tBM, tBM0, tFld_eq, tMkE, tMake, tAugS, gSub, rEq, rAll, rMax, rSum, rAppend, rExtend, rSetL, _root_.L2.start, List.map_cons, List.map_nil, List.length_cons, List.length_nil, List.replicate_succ, List.replicate_zero, List.cons_append, List.nil_append, List.append_nil, List.getElem?_cons_zero, List.getElem?_cons_succ, List.set_cons_zero, List.set_cons_succ, Nat.reduceAdd, Nat.reduceSub, V.int.injEq, V.bl.injEq, V.ref.injEq, V.str.injEq, exists_eq, exists_eq', exists_eq_left, exists_eq_left', exists_and_left, exists_and_right, Option.some.injEq, List.cons.injEq, and_true, true_and, and_assoc, retV, true_or, or_true, decide_eq_true_eq, if_true, if_false, Bool.false_eq_true, Bool.not_true, Bool.not_false, Bool.not_eq_true', reduceCtorEq, eq_self, decide_true, decide_false, List.length_map, exists_const, false_and, and_false, or_false, false_or, sp_is_sequence, ↓reduceIte]
    refine ⟨⟨_, hs⟩, fun H1 e1 => len_sq (hs.same e1) ⟨rfl, ?_⟩⟩
    try simp only [wipe, tC, tVar, tChain, rI0, rI, rU, tOp, tUn, tCall, tAnd, tOr, tNot, tNotV, tAndV, tOrV, tTest, tB, tIf, tIfS, tRet, tRetN, tNext, tSeq, tNil, tCons, tAug, ipI, tPar, tAsg, gName, tDrop, tLst, tTup, tCB, tBM, tBM0, tFld_eq, tMkE, tMake, tAugS, gSub, rEq, rAll, rMax, rSum, rAppend, rExtend, rSetL, _root_.L2.start, List.map_cons, List.map_nil, List.length_cons, List.length_nil, List.replicate_succ, List.replicate_zero, List.cons_append, List.nil_append, List.append_nil, List.getElem?_cons_zero, List.getElem?_cons_succ, List.set_cons_zero, List.set_cons_succ, Nat.reduceAdd, Nat.reduceSub, V.int.injEq, V.bl.injEq, V.ref.injEq, V.str.injEq, exists_eq, exists_eq', exists_eq_left, exists_eq_left', exists_and_left, exists_and_right, Option.some.injEq, List.cons.injEq, and_true, true_and, and_assoc, retV, true_or, or_true, decide_eq_true_eq, if_true, if_false, Bool.false_eq_true, Bool.not_true, Bool.not_false, Bool.not_eq_true', reduceCtorEq, eq_self, decide_true, decide_false, List.length_map, exists_const, false_and, and_false, or_false, false_or, ↓reduceIte]
    refine lc_map (gives_sq (fun Q h => ⟨_, rfl, h⟩) (hs.same e1)) (Box.none (A := No) (fun _ z => z.elim)) (fun H' e => (hs.same e1).keep (fun z => z) e) ?_ (fun x => rfl) fam_eq c (by simp) (fun _ => V.bl true) (fun n x z H' D N hx hz e _ _ hN => ?_) fun ys H' D e _ nD _ hD hp => ?_
    · rw [List.length_map]
      exact Nat.le_trans h3 (by decide)
    · rw [List.getElem?_map, hz] at hx
      obtain rfl := Option.some.inj hx
      try simp only [wipe, tC, tVar, tChain, rI0, rI, rU, tOp, tUn, tCall, tAnd, tOr, tNot, tNotV, tAndV, tOrV, tTest, tB, tIf, tIfS, tRet, tRetN, tNext, tSeq, tNil, tCons, tAug, ipI, tPar, tAsg, gName, tDrop, tLst, tTup, tCB, tBM, tBM0, tFld_eq, tMkE, tMake, tAugS, gSub, rEq, rAll, rMax, rSum, rAppend, rExtend, rSetL, _root_.L2.start, List.map_cons, List.map_nil, List.length_cons, List.length_nil, List.replicate_succ, List.replicate_zero, List.cons_append, List.nil_append, List.append_nil, List.getElem?_cons_zero, List.getElem?_cons_succ, List.set_cons_zero, List.set_cons_succ, Nat.reduceAdd, Nat.reduceSub, V.int.injEq, V.bl.injEq, V.ref.injEq, V.str.injEq, exists_eq, exists_eq', exists_eq_left, exists_eq_left', exists_and_left, exists_and_right, Option.some.injEq, List.cons.injEq, and_true, true_and, and_assoc, retV, true_or, or_true, decide_eq_true_eq, if_true, if_false, Bool.false_eq_true, Bool.not_true, Bool.not_false, Bool.not_eq_true', reduceCtorEq, eq_self, decide_true, decide_false, List.length_map, exists_const, false_and, and_false, or_false, false_or, sp_is_between, ↓reduceIte]
      intro H4 e4
      rw [decide_eq_true (hc z (List.mem_of_getElem? hz))]
      exact hN _ _ (.of e4) trivial rfl
    · refine ⟨D, rfl, c.map fun _ => true, ?_⟩
      have hy : ys = (c.map fun _ => true).map V.bl := by rw [eqa_eq hp, List.map_map]; rfl
      rw [← hy]
      refine ⟨sqL_of hD, q.go (e1.trans e.same) ?_⟩
      simp
theorem C_is_new_body (S : Sc K mg) : Cal prg w K mg base CX0 "is_new_body" 4 ["axes", "taken", "value"] [] sp_is_new_body := by
  have C_is_sequence : Cal prg w K mg base CX0 "is_sequence" 1 ["value"] [] sp_is_sequence := C_is_sequence S
  have C_is_between : Cal prg w K mg base CX0 "is_between" 2 ["value", "least", "most"] [] sp_is_between := C_is_between S
  have C_is_cell : Cal prg w K mg base CX0 "is_cell" 3 ["axes", "value"] [] sp_is_cell := C_is_cell S
  refine S.cal (d := d_is_new_body) 8 6 sc_is_new_body rfl rfl rfl rfl rfl (fun _ _ _ _ _ _ us hl => match us, hl with | [_, _, _], _ => rfl) (fun vs H Q E h => ?_) (fun f cdv A outer s H vs Q E hr h => ?_)
  · obtain ⟨n, t, v, tk, cs, rfl, _⟩ := h
    rfl
  · obtain ⟨n, t, v, tk, cs, rfl, ht, ⟨a, xs, rfl, _, hs, hp⟩, h1, h60, h3, hc, hnd, q⟩ := h
    refine ⟨_, (pss_cons (ps_if (PW.pt (pw_or (pt_not (pt_val (pe_c C_is_sequence (hr.mono (by omega)) pass0 (pa_cons (pv 2) pa_nil)))) (pw_or1 (pt_not (pt_val (pe_c C_is_between (hr.mono (by omega)) pass0 (pa_cons (pe_callB cr_lenA (by rfl) (S.free 42) (by decide +kernel) (pa_cons (pv 2) pa_nil)) (pa_cons pe_int (pa_cons (pe_gi (S.int 53)) pa_nil))))))))) (pss_one (ps_ret pe_bl)) pss_nil)
      (pss_cons (ps_set (i := 3) sc_is_new_body.nd rfl (by first | exact Or.inl rfl | exact Or.inr rfl) pe_dnewT)
      (pss_cons (ps_for PassesOwn.never rfl (pi_seq (pv 2)) (pg_name (i := 4) sc_is_new_body.nd rfl (by first | exact Or.inl rfl | exact Or.inr rfl)) (pss_cons (ps_if (PW.pt (pw_or (pt_not (pt_val (pe_c C_is_cell (hr.mono (by omega)) pass0 (pa_cons (pv 0) (pa_cons (pv 4) pa_nil))))) (pw_or (pt_cmp (pc_din (hu_of hr) (pe_callTy cr_tupA (by rfl) (S.free 50) (by decide +kernel) (pa_cons (pv 4) pa_nil)) (pv 3))) (pw_or1 (pt_cmp (pc_din (hu_of hr) (pe_callTy cr_tupA (by rfl) (S.free 50) (by decide +kernel) (pa_cons (pv 4) pa_nil)) (pv 1))))))) (pss_one (ps_ret pe_bl)) pss_nil)
      (pss_one (ps_dput (hu_of hr) (pv 3) (pe_callTy cr_tupA (by rfl) (S.free 50) (by decide +kernel) (pa_cons (pv 4) pa_nil)) pe_bl rfl))))
      (pss_one (ps_ret pe_bl))))), ?_⟩
    have hl : xs.length = cs.length := Paired.len hp
    try simp only [wipe, tC, tVar, tChain, rI0, rI, rU, tOp, tUn, tCall, tAnd, tOr, tNot, tNotV, tAndV, tOrV, tTest, tB, tIf, tIfS, tRet, tRetN, tNext, tSeq, tNil, tCons, tAug, ipI, tPar, tAsg, gName, tDrop, tLst, tTup, tCB, tBM, tBM0, tFld_eq, tMkE, tMake, tAugS, gSub, rEq, rAll, rMax, rSum, rAppend, rExtend, rSetL, _root_.L2.start, List.map_cons, List.map_nil, List.length_cons, List.length_nil, List.replicate_succ, List.replicate_zero, List.cons_append, List.nil_append, List.append_nil, List.getElem?_cons_zero, List.getElem?_cons_succ, List.set_cons_zero, List.set_cons_succ, Nat.reduceAdd, Nat.reduceSub, V.int.injEq, V.bl.injEq, V.ref.injEq, V.str.injEq, exists_eq, exists_eq', exists_eq_left, exists_eq_left', exists_and_left, exists_and_right, Option.some.injEq, List.cons.injEq, and_true, true_and, and_assoc, retV, true_or, or_true, decide_eq_true_eq, if_true, if_false, Bool.false_eq_true, Bool.not_true, Bool.not_false, Bool.not_eq_true', reduceCtorEq, eq_self, decide_true, decide_false, List.length_map, exists_const, false_and, and_false, or_false, false_or, sp_is_sequence, sp_is_between, ↓reduceIte]
    refine ⟨⟨_, hs⟩, fun H1 e1 => len_sq (hs.same e1) ?_⟩
    try simp only [wipe, tC, tVar, tChain, rI0, rI, rU, tOp, tUn, tCall, tAnd, tOr, tNot, tNotV, tAndV, tOrV, tTest, tB, tIf, tIfS, tRet, tRetN, tNext, tSeq, tNil, tCons, tAug, ipI, tPar, tAsg, gName, tDrop, tLst, tTup, tCB, tBM, tBM0, tFld_eq, tMkE, tMake, tAugS, gSub, rEq, rAll, rMax, rSum, rAppend, rExtend, rSetL, _root_.L2.start, List.map_cons, List.map_nil, List.length_cons, List.length_nil, List.replicate_succ, List.replicate_zero, List.cons_append, List.nil_append, List.append_nil, List.getElem?_cons_zero, List.getElem?_cons_succ, List.set_cons_zero, List.set_cons_succ, Nat.reduceAdd, Nat.reduceSub, V.int.injEq, V.bl.injEq, V.ref.injEq, V.str.injEq, exists_eq, exists_eq', exists_eq_left, exists_eq_left', exists_and_left, exists_and_right, Option.some.injEq, List.cons.injEq, and_true, true_and, and_assoc, retV, true_or, or_true, decide_eq_true_eq, if_true, if_false, Bool.false_eq_true, Bool.not_true, Bool.not_false, Bool.not_eq_true', reduceCtorEq, eq_self, decide_true, decide_false, List.length_map, exists_const, false_and, and_false, or_false, false_or, sp_is_between, ↓reduceIte]
    intro H2 e2
    have e12 := e1.trans e2
    rw [show decide ((1 : Int) ≤ (xs.length : Int) ∧ (xs.length : Int) ≤ 60) = true from decide_eq_true (by omega)]
    try simp only [wipe, tC, tVar, tChain, rI0, rI, rU, tOp, tUn, tCall, tAnd, tOr, tNot, tNotV, tAndV, tOrV, tTest, tB, tIf, tIfS, tRet, tRetN, tNext, tSeq, tNil, tCons, tAug, ipI, tPar, tAsg, gName, tDrop, tLst, tTup, tCB, tBM, tBM0, tFld_eq, tMkE, tMake, tAugS, gSub, rEq, rAll, rMax, rSum, rAppend, rExtend, rSetL, _root_.L2.start, List.map_cons, List.map_nil, List.length_cons, List.length_nil, List.replicate_succ, List.replicate_zero, List.cons_append, List.nil_append, List.append_nil, List.getElem?_cons_zero, List.getElem?_cons_succ, List.set_cons_zero, List.set_cons_succ, Nat.reduceAdd, Nat.reduceSub, V.int.injEq, V.bl.injEq, V.ref.injEq, V.str.injEq, exists_eq, exists_eq', exists_eq_left, exists_eq_left', exists_and_left, exists_and_right, Option.some.injEq, List.cons.injEq, and_true, true_and, and_assoc, retV, true_or, or_true, decide_eq_true_eq, if_true, if_false, Bool.false_eq_true, Bool.not_true, Bool.not_false, Bool.not_eq_true', reduceCtorEq, eq_self, decide_true, decide_false, List.length_map, exists_const, false_and, and_false, or_false, false_or, tDNewT, ↓reduceIte]
    intro D nD
    have nDa : D ≠ a := fun e => (hs.same e12).some (e ▸ nD)
    have nDt : D ≠ t := fun e => by
      have := e12 _ _ ht
      rw [← e, nD] at this
      cases this
    refine for_go (gives_sq (fun Q h => ⟨_, rfl, h⟩) (hs.same (e12.trans (same_new nD)))) (fun i σ H' => Same H H' ∧ (∃ u, σ = [some (.int n), some (.ref t), some (.ref a), some (.ref D), u]) ∧ ∃ kvs, H' D = some (.dT kvs) ∧ kvs.length ≤ i ∧ ∀ c, (valV kvs (ky c)).isSome = true → c ∈ cs.take i)
      ⟨e12.trans (same_new nD), ⟨_, rfl⟩, [], upd_same, Nat.le_refl _, fun k z => by cases z⟩ (fun i σ H' _ h => ?_) (fun i x σ H' hi hx h => ?_) (fun σ H' h => ?_)
    · rw [upd_ne nDa.symm, (hs.keep (A := No) (fun z => z) (.of h.1)), (hs.keep (A := No) (fun z => z) (.of e12))]
    · obtain ⟨e, ⟨u, rfl⟩, kvs, hD, hkl, hk⟩ := h
      obtain ⟨c, hcc, hr0⟩ := Paired.at hp hx
      have hm := List.mem_of_getElem? hcc
      obtain ⟨c1, c2, c3⟩ := hc c hm
      have hR := (fam_sq fam_in).same e hr0
      obtain ⟨b, ys, rfl, _, hb, hbp⟩ := id hr0
      obtain rfl := ina_eq hbp
      try simp only [wipe, tC, tVar, tChain, rI0, rI, rU, tOp, tUn, tCall, tAnd, tOr, tNot, tNotV, tAndV, tOrV, tTest, tB, tIf, tIfS, tRet, tRetN, tNext, tSeq, tNil, tCons, tAug, ipI, tPar, tAsg, gName, tDrop, tLst, tTup, tCB, tBM, tBM0, tFld_eq, tMkE, tMake, tAugS, gSub, rEq, rAll, rMax, rSum, rAppend, rExtend, rSetL, _root_.L2.start, List.map_cons, List.map_nil, List.length_cons, List.length_nil, List.replicate_succ, List.replicate_zero, List.cons_append, List.nil_append, List.append_nil, List.getElem?_cons_zero, List.getElem?_cons_succ, List.set_cons_zero, List.set_cons_succ, Nat.reduceAdd, Nat.reduceSub, V.int.injEq, V.bl.injEq, V.ref.injEq, V.str.injEq, exists_eq, exists_eq', exists_eq_left, exists_eq_left', exists_and_left, exists_and_right, Option.some.injEq, List.cons.injEq, and_true, true_and, and_assoc, retV, true_or, or_true, decide_eq_true_eq, if_true, if_false, Bool.false_eq_true, Bool.not_true, Bool.not_false, Bool.not_eq_true', reduceCtorEq, eq_self, decide_true, decide_false, List.length_map, exists_const, false_and, and_false, or_false, false_or, ↓reduceIte]
      refine ⟨.ref b, c, by rw [c1], hR, by omega, c2, retV.2 fun H3 e3 => ?_⟩
      try simp only [wipe, tC, tVar, tChain, rI0, rI, rU, tOp, tUn, tCall, tAnd, tOr, tNot, tNotV, tAndV, tOrV, tTest, tB, tIf, tIfS, tRet, tRetN, tNext, tSeq, tNil, tCons, tAug, ipI, tPar, tAsg, gName, tDrop, tLst, tTup, tCB, tBM, tBM0, tFld_eq, tMkE, tMake, tAugS, gSub, rEq, rAll, rMax, rSum, rAppend, rExtend, rSetL, _root_.L2.start, List.map_cons, List.map_nil, List.length_cons, List.length_nil, List.replicate_succ, List.replicate_zero, List.cons_append, List.nil_append, List.append_nil, List.getElem?_cons_zero, List.getElem?_cons_succ, List.set_cons_zero, List.set_cons_succ, Nat.reduceAdd, Nat.reduceSub, V.int.injEq, V.bl.injEq, V.ref.injEq, V.str.injEq, exists_eq, exists_eq', exists_eq_left, exists_eq_left', exists_and_left, exists_and_right, Option.some.injEq, List.cons.injEq, and_true, true_and, and_assoc, retV, true_or, or_true, decide_eq_true_eq, if_true, if_false, Bool.false_eq_true, Bool.not_true, Bool.not_false, Bool.not_eq_true', reduceCtorEq, eq_self, decide_true, decide_false, List.length_map, exists_const, false_and, and_false, or_false, false_or, tDIn, ↓reduceIte]
      refine tup_sq (hb.same (e.trans e3)) fun p H4 e4 hp4 => ?_
      try simp only [wipe, tC, tVar, tChain, rI0, rI, rU, tOp, tUn, tCall, tAnd, tOr, tNot, tNotV, tAndV, tOrV, tTest, tB, tIf, tIfS, tRet, tRetN, tNext, tSeq, tNil, tCons, tAug, ipI, tPar, tAsg, gName, tDrop, tLst, tTup, tCB, tBM, tBM0, tFld_eq, tMkE, tMake, tAugS, gSub, rEq, rAll, rMax, rSum, rAppend, rExtend, rSetL, _root_.L2.start, List.map_cons, List.map_nil, List.length_cons, List.length_nil, List.replicate_succ, List.replicate_zero, List.cons_append, List.nil_append, List.append_nil, List.getElem?_cons_zero, List.getElem?_cons_succ, List.set_cons_zero, List.set_cons_succ, Nat.reduceAdd, Nat.reduceSub, V.int.injEq, V.bl.injEq, V.ref.injEq, V.str.injEq, exists_eq, exists_eq', exists_eq_left, exists_eq_left', exists_and_left, exists_and_right, Option.some.injEq, List.cons.injEq, and_true, true_and, and_assoc, retV, true_or, or_true, decide_eq_true_eq, if_true, if_false, Bool.false_eq_true, Bool.not_true, Bool.not_false, Bool.not_eq_true', reduceCtorEq, eq_self, decide_true, decide_false, List.length_map, exists_const, false_and, and_false, or_false, false_or, ↓reduceIte]
      have no : valV kvs (ky c) = none := by
        cases hv : valV kvs (ky c) with
        | none => rfl
        | some y =>
          obtain ⟨j, hj, ej⟩ := List.mem_take_iff_getElem.1 (hk c (by rw [hv]; rfl))
          obtain ⟨hi2, ei⟩ := List.getElem?_eq_some_iff.1 hcc
          have := (List.getElem_inj hnd).1 (ej.trans ei.symm)
          omega
      refine ⟨none, no ▸ DGet.t (k := ky c) (e4 _ _ (e3 _ _ hD)) (by rw [ky_kV]; exact hp4), ?_⟩
      try simp only [wipe, tC, tVar, tChain, rI0, rI, rU, tOp, tUn, tCall, tAnd, tOr, tNot, tNotV, tAndV, tOrV, tTest, tB, tIf, tIfS, tRet, tRetN, tNext, tSeq, tNil, tCons, tAug, ipI, tPar, tAsg, gName, tDrop, tLst, tTup, tCB, tBM, tBM0, tFld_eq, tMkE, tMake, tAugS, gSub, rEq, rAll, rMax, rSum, rAppend, rExtend, rSetL, _root_.L2.start, List.map_cons, List.map_nil, List.length_cons, List.length_nil, List.replicate_succ, List.replicate_zero, List.cons_append, List.nil_append, List.append_nil, List.getElem?_cons_zero, List.getElem?_cons_succ, List.set_cons_zero, List.set_cons_succ, Nat.reduceAdd, Nat.reduceSub, V.int.injEq, V.bl.injEq, V.ref.injEq, V.str.injEq, exists_eq, exists_eq', exists_eq_left, exists_eq_left', exists_and_left, exists_and_right, Option.some.injEq, List.cons.injEq, and_true, true_and, and_assoc, retV, true_or, or_true, decide_eq_true_eq, if_true, if_false, Bool.false_eq_true, Bool.not_true, Bool.not_false, Bool.not_eq_true', reduceCtorEq, eq_self, decide_true, decide_false, List.length_map, exists_const, false_and, and_false, or_false, false_or, Option.isSome_none, tDIn, ↓reduceIte]
      refine tup_sq (hb.same (e.trans (e3.trans e4))) fun p5 H5 e5 hp5 => ?_
      try simp only [wipe, tC, tVar, tChain, rI0, rI, rU, tOp, tUn, tCall, tAnd, tOr, tNot, tNotV, tAndV, tOrV, tTest, tB, tIf, tIfS, tRet, tRetN, tNext, tSeq, tNil, tCons, tAug, ipI, tPar, tAsg, gName, tDrop, tLst, tTup, tCB, tBM, tBM0, tFld_eq, tMkE, tMake, tAugS, gSub, rEq, rAll, rMax, rSum, rAppend, rExtend, rSetL, _root_.L2.start, List.map_cons, List.map_nil, List.length_cons, List.length_nil, List.replicate_succ, List.replicate_zero, List.cons_append, List.nil_append, List.append_nil, List.getElem?_cons_zero, List.getElem?_cons_succ, List.set_cons_zero, List.set_cons_succ, Nat.reduceAdd, Nat.reduceSub, V.int.injEq, V.bl.injEq, V.ref.injEq, V.str.injEq, exists_eq, exists_eq', exists_eq_left, exists_eq_left', exists_and_left, exists_and_right, Option.some.injEq, List.cons.injEq, and_true, true_and, and_assoc, retV, true_or, or_true, decide_eq_true_eq, if_true, if_false, Bool.false_eq_true, Bool.not_true, Bool.not_false, Bool.not_eq_true', reduceCtorEq, eq_self, decide_true, decide_false, List.length_map, exists_const, false_and, and_false, or_false, false_or, ↓reduceIte]
      refine ⟨none, c3 ▸ DGet.t (k := ky c) ((e.trans (e3.trans (e4.trans e5))) _ _ ht) (by rw [ky_kV]; exact hp5), ?_⟩
      try simp only [wipe, tC, tVar, tChain, rI0, rI, rU, tOp, tUn, tCall, tAnd, tOr, tNot, tNotV, tAndV, tOrV, tTest, tB, tIf, tIfS, tRet, tRetN, tNext, tSeq, tNil, tCons, tAug, ipI, tPar, tAsg, gName, tDrop, tLst, tTup, tCB, tBM, tBM0, tFld_eq, tMkE, tMake, tAugS, gSub, rEq, rAll, rMax, rSum, rAppend, rExtend, rSetL, _root_.L2.start, List.map_cons, List.map_nil, List.length_cons, List.length_nil, List.replicate_succ, List.replicate_zero, List.cons_append, List.nil_append, List.append_nil, List.getElem?_cons_zero, List.getElem?_cons_succ, List.set_cons_zero, List.set_cons_succ, Nat.reduceAdd, Nat.reduceSub, V.int.injEq, V.bl.injEq, V.ref.injEq, V.str.injEq, exists_eq, exists_eq', exists_eq_left, exists_eq_left', exists_and_left, exists_and_right, Option.some.injEq, List.cons.injEq, and_true, true_and, and_assoc, retV, true_or, or_true, decide_eq_true_eq, if_true, if_false, Bool.false_eq_true, Bool.not_true, Bool.not_false, Bool.not_eq_true', reduceCtorEq, eq_self, decide_true, decide_false, List.length_map, exists_const, false_and, and_false, or_false, false_or, Option.isSome_none, sDPut, ↓reduceIte]
      refine tup_sq (hb.same (e.trans (e3.trans (e4.trans e5)))) fun p6 H6 e6 hp6 => ?_
      have e36 := e3.trans (e4.trans (e5.trans e6))
      try simp only [wipe, tC, tVar, tChain, rI0, rI, rU, tOp, tUn, tCall, tAnd, tOr, tNot, tNotV, tAndV, tOrV, tTest, tB, tIf, tIfS, tRet, tRetN, tNext, tSeq, tNil, tCons, tAug, ipI, tPar, tAsg, gName, tDrop, tLst, tTup, tCB, tBM, tBM0, tFld_eq, tMkE, tMake, tAugS, gSub, rEq, rAll, rMax, rSum, rAppend, rExtend, rSetL, _root_.L2.start, List.map_cons, List.map_nil, List.length_cons, List.length_nil, List.replicate_succ, List.replicate_zero, List.cons_append, List.nil_append, List.append_nil, List.getElem?_cons_zero, List.getElem?_cons_succ, List.set_cons_zero, List.set_cons_succ, Nat.reduceAdd, Nat.reduceSub, V.int.injEq, V.bl.injEq, V.ref.injEq, V.str.injEq, exists_eq, exists_eq', exists_eq_left, exists_eq_left', exists_and_left, exists_and_right, Option.some.injEq, List.cons.injEq, and_true, true_and, and_assoc, retV, true_or, or_true, decide_eq_true_eq, if_true, if_false, Bool.false_eq_true, Bool.not_true, Bool.not_false, Bool.not_eq_true', reduceCtorEq, eq_self, decide_true, decide_false, List.length_map, exists_const, false_and, and_false, or_false, false_or, ↓reduceIte]
      refine ⟨_, DPut.t (k := ky c) (e36 _ _ hD) (by rw [ky_kV]; exact hp6) (Nat.lt_of_lt_of_le (by omega : kvs.length < 60) (by decide)), same_mut (e.trans e36) (e12.free nD), _, upd_same, Nat.le_trans (length_putK _ _ _) (by omega), fun d z => ?_⟩
      rw [valV_put] at z
      by_cases ek : ky d = ky c
      · obtain rfl := ky_inj ek
        obtain ⟨hi2, ei⟩ := List.getElem?_eq_some_iff.1 hcc
        exact List.mem_take_iff_getElem.2 ⟨i, by omega, ei⟩
      · rw [if_neg ek] at z
        obtain ⟨j, hj, ej⟩ := List.mem_take_iff_getElem.1 (hk d z)
        exact List.mem_take_iff_getElem.2 ⟨j, by omega, ej⟩
    · obtain ⟨e, ⟨u, rfl⟩, _⟩ := h
      try simp only [wipe, tC, tVar, tChain, rI0, rI, rU, tOp, tUn, tCall, tAnd, tOr, tNot, tNotV, tAndV, tOrV, tTest, tB, tIf, tIfS, tRet, tRetN, tNext, tSeq, tNil, tCons, tAug, ipI, tPar, tAsg, gName, tDrop, tLst, tTup, tCB, tBM, tBM0, tFld_eq, tMkE, tMake, tAugS, gSub, rEq, rAll, rMax, rSum, rAppend, rExtend, rSetL, _root_.L2.start, List.map_cons, List.map_nil, List.length_cons, List.length_nil, List.replicate_succ, List.replicate_zero, List.cons_append, List.nil_append, List.append_nil, List.getElem?_cons_zero, List.getElem?_cons_succ, List.set_cons_zero, List.set_cons_succ, Nat.reduceAdd, Nat.reduceSub, V.int.injEq, V.bl.injEq, V.ref.injEq, V.str.injEq, exists_eq, exists_eq', exists_eq_left, exists_eq_left', exists_and_left, exists_and_right, Option.some.injEq, List.cons.injEq, and_true, true_and, and_assoc, retV, true_or, or_true, decide_eq_true_eq, if_true, if_false, Bool.false_eq_true, Bool.not_true, Bool.not_false, Bool.not_eq_true', reduceCtorEq, eq_self, decide_true, decide_false, List.length_map, exists_const, false_and, and_false, or_false, false_or, ↓reduceIte]
      exact q.go e rfl
theorem C_told_bodies (S : Sc K mg) : Cal prg w K mg base CX0 "told_bodies" 5 ["axes", "bodies"] [] (sp_told_bodies w) := by
  have C_is_sequence : Cal prg w K mg base CX0 "is_sequence" 1 ["value"] [] sp_is_sequence := C_is_sequence S
  have C_is_between : Cal prg w K mg base CX0 "is_between" 2 ["value", "least", "most"] [] sp_is_between := C_is_between S
  have C_is_new_body : Cal prg w K mg base CX0 "is_new_body" 4 ["axes", "taken", "value"] [] sp_is_new_body := C_is_new_body S
  refine S.cal (d := d_told_bodies) 9 7 sc_told_bodies rfl rfl rfl rfl rfl (fun _ _ _ _ _ _ us hl => match us, hl with | [_, _], _ => rfl) (fun vs H Q E h => ?_) (fun f cdv A outer s H vs Q E hr h => ?_)
  · obtain ⟨n, v, B, rfl, _⟩ := h
    rfl
  · obtain ⟨n, v, B, rfl, ⟨a, xs, rfl, _, hs, hp⟩, O, q⟩ := h
    refine ⟨_, (pss_cons (ps_if (PW.pt (pw_or (pt_not (pt_val (pe_c C_is_sequence (hr.mono (by omega)) pass0 (pa_cons (pv 1) pa_nil)))) (pw_or1 (pt_not (pt_val (pe_c C_is_between (hr.mono (by omega)) pass0 (pa_cons (pe_callB cr_lenA (by rfl) (S.free 42) (by decide +kernel) (pa_cons (pv 1) pa_nil)) (pa_cons pe_int (pa_cons (pe_gi (S.int 52)) pa_nil))))))))) (pss_one ps_never) pss_nil)
      (pss_cons (ps_set (i := 2) sc_told_bodies.nd rfl (by first | exact Or.inl rfl | exact Or.inr rfl) pe_dnewT)
      (pss_cons (ps_set (i := 3) sc_told_bodies.nd rfl (by first | exact Or.inl rfl | exact Or.inr rfl) (pe_lst pa_nil))
      (pss_cons (ps_for PassesOwn.never rfl (pi_enS (S.free 39) (pa_cons (pv 1) pa_nil)) (pg_tup (by rfl) (pgs_cons (pg_name (i := 4) sc_told_bodies.nd rfl (by first | exact Or.inl rfl | exact Or.inr rfl)) (pgs_cons (pg_name (i := 5) sc_told_bodies.nd rfl (by first | exact Or.inl rfl | exact Or.inr rfl)) pgs_nil))) (pss_cons (ps_if (pt_not (pt_val (pe_c C_is_new_body (hr.mono (by omega)) pass0 (pa_cons (pv 0) (pa_cons (pv 2) (pa_cons (pv 5) pa_nil)))))) (pss_one ps_never) pss_nil)
      (pss_cons (ps_set (i := 6) sc_told_bodies.nd rfl (by first | exact Or.inl rfl | exact Or.inr rfl) (pe_callB cr_sortedPO (by rfl) (S.free 47) (by decide +kernel) (pa_cons (pe_lc (own := [("cell", 7)]) (g := (gName 7)) (tt := tYes) rfl sc_told_bodies.nd (pi_seq (pv 5)) (blkOk_by (N := ["axes", "bodies", "taken", "found", "at", "value", "cells", "cell"]) (sc := defScope s_told_bodies) (by decide +kernel)) (fun _ _ _ _ _ => (pg_name (i := 7) sc_told_bodies.nd rfl (by first | exact Or.inl rfl | exact Or.inr rfl))) (fun _ _ _ _ _ => pts_nil) (fun _ _ _ _ _ => (pe_callTy (cK (K := K) rfl cr_tupA) (by rfl) (S.free 50) (by decide +kernel) (pa_cons (pv 7) pa_nil)))) pa_nil)))
      (pss_cons (ps_expr (pe_bm PySem.F.plainAttrs_dict PySem.F.slot_dict_update PySem.F.type_dict_update (mt_updT (hu_of hr)) (pv 2) (pa_cons (pe_dcT (own := [("cell", 7)]) (g := (gName 7)) (tt := tYes) (hu_of hr) rfl sc_told_bodies.nd (pi_seq (pv 6)) (blkOk_by (N := ["axes", "bodies", "taken", "found", "at", "value", "cells", "cell"]) (sc := defScope s_told_bodies) (by decide +kernel)) (fun _ _ _ _ _ => (pg_name (i := 7) sc_told_bodies.nd rfl (by first | exact Or.inl rfl | exact Or.inr rfl))) (fun _ _ _ _ _ => pts_nil) (fun _ _ _ _ _ => (pv 7)) (fun _ _ _ _ _ => pe_bl)) pa_nil)))
      (pss_one (ps_expr (pe_bm PySem.F.plainAttrs_list PySem.F.slot_list_append PySem.F.type_list_append mt_append (pv 3) (pa_cons (pe_callTy cr_tupA (by rfl) (S.free 50) (by decide +kernel) (pa_cons (pv 6) pa_nil)) pa_nil))))))))
      (pss_cons (ps_if (pt_cmpR op_gt (pe_callB call_len_dT (by rfl) (S.free 42) (by decide +kernel) (pa_cons (pv 2) pa_nil)) (pe_gi (S.int 54)) (nomark _)) (pss_one ps_never) pss_nil)
      (pss_one (ps_ret (pe_callTy cr_tupA (by rfl) (S.free 50) (by decide +kernel) (pa_cons (pv 3) pa_nil))))))))), ?_⟩
    have hl : xs.length = B.length := Paired.len hp
    have o1 := O.l1
    have o12 := O.l12
    try simp only [wipe, tC, tVar, tChain, rI0, rI, rU, tOp, tUn, tCall, tAnd, tOr, tNot, tNotV, tAndV, tOrV, tTest, tB, tIf, tIfS, tRet, tRetN, tNext, tSeq, tNil, tCons, tAug, ipI, tPar, tAsg, gName, tDrop, tLst, tTup, tCB, tBM, tBM0, tFld_eq, tMkE, tMake, tAugS, gSub, rEq, rAll, rMax, rSum, rAppend, rExtend, rSetL, _root_.L2.start, List.map_cons, List.map_nil, List.length_cons, List.length_nil, List.replicate_succ, List.replicate_zero, List.cons_append, List.nil_append, List.append_nil, List.getElem?_cons_zero, List.getElem?_cons_succ, List.set_cons_zero, List.set_cons_succ, Nat.reduceAdd, Nat.reduceSub, V.int.injEq, V.bl.injEq, V.ref.injEq, V.str.injEq, exists_eq, exists_eq', exists_eq_left, exists_eq_left', exists_and_left, exists_and_right, Option.some.injEq, List.cons.injEq, and_true, true_and, and_assoc, retV, true_or, or_true, decide_eq_true_eq, if_true, if_false, Bool.false_eq_true, Bool.not_true, Bool.not_false, Bool.not_eq_true', reduceCtorEq, eq_self, decide_true, decide_false, List.length_map, exists_const, false_and, and_false, or_false, false_or, sp_is_sequence, sp_is_between, ↓reduceIte]
    refine ⟨⟨_, hs⟩, fun H1 e1 => len_sq (hs.same e1) ?_⟩
    try simp only [wipe, tC, tVar, tChain, rI0, rI, rU, tOp, tUn, tCall, tAnd, tOr, tNot, tNotV, tAndV, tOrV, tTest, tB, tIf, tIfS, tRet, tRetN, tNext, tSeq, tNil, tCons, tAug, ipI, tPar, tAsg, gName, tDrop, tLst, tTup, tCB, tBM, tBM0, tFld_eq, tMkE, tMake, tAugS, gSub, rEq, rAll, rMax, rSum, rAppend, rExtend, rSetL, _root_.L2.start, List.map_cons, List.map_nil, List.length_cons, List.length_nil, List.replicate_succ, List.replicate_zero, List.cons_append, List.nil_append, List.append_nil, List.getElem?_cons_zero, List.getElem?_cons_succ, List.set_cons_zero, List.set_cons_succ, Nat.reduceAdd, Nat.reduceSub, V.int.injEq, V.bl.injEq, V.ref.injEq, V.str.injEq, exists_eq, exists_eq', exists_eq_left, exists_eq_left', exists_and_left, exists_and_right, Option.some.injEq, List.cons.injEq, and_true, true_and, and_assoc, retV, true_or, or_true, decide_eq_true_eq, if_true, if_false, Bool.false_eq_true, Bool.not_true, Bool.not_false, Bool.not_eq_true', reduceCtorEq, eq_self, decide_true, decide_false, List.length_map, exists_const, false_and, and_false, or_false, false_or, sp_is_between, ↓reduceIte]
    intro H2 e2
    have e12 := e1.trans e2
    rw [show decide ((1 : Int) ≤ (xs.length : Int) ∧ (xs.length : Int) ≤ 12) = true from decide_eq_true (by omega)]
    try simp only [wipe, tC, tVar, tChain, rI0, rI, rU, tOp, tUn, tCall, tAnd, tOr, tNot, tNotV, tAndV, tOrV, tTest, tB, tIf, tIfS, tRet, tRetN, tNext, tSeq, tNil, tCons, tAug, ipI, tPar, tAsg, gName, tDrop, tLst, tTup, tCB, tBM, tBM0, tFld_eq, tMkE, tMake, tAugS, gSub, rEq, rAll, rMax, rSum, rAppend, rExtend, rSetL, _root_.L2.start, List.map_cons, List.map_nil, List.length_cons, List.length_nil, List.replicate_succ, List.replicate_zero, List.cons_append, List.nil_append, List.append_nil, List.getElem?_cons_zero, List.getElem?_cons_succ, List.set_cons_zero, List.set_cons_succ, Nat.reduceAdd, Nat.reduceSub, V.int.injEq, V.bl.injEq, V.ref.injEq, V.str.injEq, exists_eq, exists_eq', exists_eq_left, exists_eq_left', exists_and_left, exists_and_right, Option.some.injEq, List.cons.injEq, and_true, true_and, and_assoc, retV, true_or, or_true, decide_eq_true_eq, if_true, if_false, Bool.false_eq_true, Bool.not_true, Bool.not_false, Bool.not_eq_true', reduceCtorEq, eq_self, decide_true, decide_false, List.length_map, exists_const, false_and, and_false, or_false, false_or, tDNewT, ↓reduceIte]
    intro D nD
    try simp only [wipe, tC, tVar, tChain, rI0, rI, rU, tOp, tUn, tCall, tAnd, tOr, tNot, tNotV, tAndV, tOrV, tTest, tB, tIf, tIfS, tRet, tRetN, tNext, tSeq, tNil, tCons, tAug, ipI, tPar, tAsg, gName, tDrop, tLst, tTup, tCB, tBM, tBM0, tFld_eq, tMkE, tMake, tAugS, gSub, rEq, rAll, rMax, rSum, rAppend, rExtend, rSetL, _root_.L2.start, List.map_cons, List.map_nil, List.length_cons, List.length_nil, List.replicate_succ, List.replicate_zero, List.cons_append, List.nil_append, List.append_nil, List.getElem?_cons_zero, List.getElem?_cons_succ, List.set_cons_zero, List.set_cons_succ, Nat.reduceAdd, Nat.reduceSub, V.int.injEq, V.bl.injEq, V.ref.injEq, V.str.injEq, exists_eq, exists_eq', exists_eq_left, exists_eq_left', exists_and_left, exists_and_right, Option.some.injEq, List.cons.injEq, and_true, true_and, and_assoc, retV, true_or, or_true, decide_eq_true_eq, if_true, if_false, Bool.false_eq_true, Bool.not_true, Bool.not_false, Bool.not_eq_true', reduceCtorEq, eq_self, decide_true, decide_false, List.length_map, exists_const, false_and, and_false, or_false, false_or, ↓reduceIte]
    refine ⟨by decide, fun F nF => ?_⟩
    have nDF : D ≠ F := fun e => by rw [e, upd_same] at nF; cases nF
    have nF2 : H2 F = none := by rw [upd_ne nDF.symm] at nF; exact nF
    have e3 : Same H (upd (upd H2 D (.dT [])) F (.lst [])) := e12.trans ((same_new nD).trans (same_new nF))
    refine for_en (fun Q h => ⟨_, rfl, h⟩) (hs.same e3) (fun i σ H' => Same H H' ∧ (∃ u4 u5 u6 u7, σ = [some (.int n), some (.ref a), some (.ref D), some (.ref F), u4, u5, u6, u7]) ∧
        (∃ kvs, H' D = some (.dT kvs) ∧ kvs.length ≤ (B.take i).flatten.length ∧ (0 < i → kvs ≠ []) ∧ ∀ c, (valV kvs (ky c)).isSome = true → c ∈ (B.take i).flatten) ∧
        ∃ ts B', H' F = some (.lst ts) ∧ Paired (TpF (TpF InA) No H') ts B' ∧ Paired List.Perm B' (B.take i))
      ⟨e3, ⟨_, _, _, _, rfl⟩, ⟨[], by rw [upd_ne nDF.symm.symm]; exact upd_same, Nat.zero_le _, fun z => absurd z (Nat.lt_irrefl _), fun k z => by cases z⟩, [], [], upd_same, .nil, .nil⟩ (fun i σ H' _ h => ?_) (fun i x σ H' T hi hx h nT => ?_) (fun σ H' h => ?_)
    · rw [(hs.keep (A := No) (fun z => z) (.of h.1)), (hs.keep (A := No) (fun z => z) (.of e3))]
    · obtain ⟨e, ⟨u4, u5, u6, u7, rfl⟩, ⟨kvs, hD, hkl, hk0, hk⟩, ts, B', hF, hts, hB⟩ := h
      refine g_two rfl upd_same ?_
      have eT : Same H' (upd H' T (.tup [.int (i : Nat), x])) := same_new nT
      obtain ⟨b, hb, hr0⟩ := Paired.at hp hx
      have hm := List.mem_of_getElem? hb
      have hR := (fam_sq (fam_sq fam_in)).same (e.trans eT) hr0
      have b1 := O.c1 b hm
      have b60 := O.c60 b hm
      have hsplit : (B.take (i + 1)).flatten = (B.take i).flatten ++ b := by rw [List.take_succ, hb]; simp
      have hsub : (B.take (i + 1)).flatten.Sublist B.flatten := by
        conv => rhs; rw [← List.take_append_drop (i + 1) B, List.flatten_append]
        exact List.sublist_append_left _ _
      have hnd := O.nd.sublist hsub
      rw [hsplit] at hnd
      have hlen := hsub.length_le
      rw [hsplit, List.length_append] at hlen
      have hmost := O.most
      have hbn : b.Nodup := (List.nodup_append.1 hnd).2.1
      have hdis : ∀ c, c ∈ (B.take i).flatten → c ∈ b → False := fun c h1 h2 => (List.nodup_append.1 hnd).2.2 c h1 c h2 rfl
      have ltB : B'.length = i := by
        rw [Paired.len hB, List.length_take]
        omega
      have lts : ts.length = i := (Paired.len hts).trans ltB
      try simp only [wipe, tC, tVar, tChain, rI0, rI, rU, tOp, tUn, tCall, tAnd, tOr, tNot, tNotV, tAndV, tOrV, tTest, tB, tIf, tIfS, tRet, tRetN, tNext, tSeq, tNil, tCons, tAug, ipI, tPar, tAsg, gName, tDrop, tLst, tTup, tCB, tBM, tBM0, tFld_eq, tMkE, tMake, tAugS, gSub, rEq, rAll, rMax, rSum, rAppend, rExtend, rSetL, _root_.L2.start, List.map_cons, List.map_nil, List.length_cons, List.length_nil, List.replicate_succ, List.replicate_zero, List.cons_append, List.nil_append, List.append_nil, List.getElem?_cons_zero, List.getElem?_cons_succ, List.set_cons_zero, List.set_cons_succ, Nat.reduceAdd, Nat.reduceSub, V.int.injEq, V.bl.injEq, V.ref.injEq, V.str.injEq, exists_eq, exists_eq', exists_eq_left, exists_eq_left', exists_and_left, exists_and_right, Option.some.injEq, List.cons.injEq, and_true, true_and, and_assoc, retV, true_or, or_true, decide_eq_true_eq, if_true, if_false, Bool.false_eq_true, Bool.not_true, Bool.not_false, Bool.not_eq_true', reduceCtorEq, eq_self, decide_true, decide_false, List.length_map, exists_const, false_and, and_false, or_false, false_or, ↓reduceIte]
      refine ⟨n, D, x, kvs, b, rfl, eT _ _ hD, hR, b1, b60, by rw [O.n2]; decide, fun c hc => ?_, ?_, retV.2 fun H3 e3 => ?_⟩
      · obtain ⟨l1, l2⟩ := O.cell b hm c hc
        refine ⟨l1, l2, ?_⟩
        cases hv : valV kvs (ky c) with
        | none => rfl
        | some y => exact absurd (hk c (by rw [hv]; rfl)) fun z => hdis c z hc
      · exact hbn
      · try simp only [wipe, tC, tVar, tChain, rI0, rI, rU, tOp, tUn, tCall, tAnd, tOr, tNot, tNotV, tAndV, tOrV, tTest, tB, tIf, tIfS, tRet, tRetN, tNext, tSeq, tNil, tCons, tAug, ipI, tPar, tAsg, gName, tDrop, tLst, tTup, tCB, tBM, tBM0, tFld_eq, tMkE, tMake, tAugS, gSub, rEq, rAll, rMax, rSum, rAppend, rExtend, rSetL, _root_.L2.start, List.map_cons, List.map_nil, List.length_cons, List.length_nil, List.replicate_succ, List.replicate_zero, List.cons_append, List.nil_append, List.append_nil, List.getElem?_cons_zero, List.getElem?_cons_succ, List.set_cons_zero, List.set_cons_succ, Nat.reduceAdd, Nat.reduceSub, V.int.injEq, V.bl.injEq, V.ref.injEq, V.str.injEq, exists_eq, exists_eq', exists_eq_left, exists_eq_left', exists_and_left, exists_and_right, Option.some.injEq, List.cons.injEq, and_true, true_and, and_assoc, retV, true_or, or_true, decide_eq_true_eq, if_true, if_false, Bool.false_eq_true, Bool.not_true, Bool.not_false, Bool.not_eq_true', reduceCtorEq, eq_self, decide_true, decide_false, List.length_map, exists_const, false_and, and_false, or_false, false_or, ↓reduceIte]
        obtain ⟨bx, bxs, rfl, _, hbx, hbp⟩ := (fam_sq (fam_sq fam_in)).same e3 hR
        have lbx : bxs.length = b.length := Paired.len hbp
        refine lc_map (gives_sq (fun Q h => ⟨_, rfl, h⟩) hbx) (Box.none (A := No) (fun _ z => z.elim)) (fun H' e => hbx.keep (fun z => z) e) (Nat.le_trans (by omega : bxs.length ≤ 60) (by decide)) (fun x => rfl) (fam_tp fam_in) b lbx.symm id (fun n x z H' D N hx hz e _ _ hN => ?_) fun ys H5 D5 e5 _ nD5 _ hD5 hp5 => ?_
        · obtain ⟨c, cs, rfl, _, hc, hcp⟩ := (fam_sq fam_in).mono e (Paired.both hbp hx hz)
          obtain rfl := ina_eq hcp
          try simp only [wipe, tC, tVar, tChain, rI0, rI, rU, tOp, tUn, tCall, tAnd, tOr, tNot, tNotV, tAndV, tOrV, tTest, tB, tIf, tIfS, tRet, tRetN, tNext, tSeq, tNil, tCons, tAug, ipI, tPar, tAsg, gName, tDrop, tLst, tTup, tCB, tBM, tBM0, tFld_eq, tMkE, tMake, tAugS, gSub, rEq, rAll, rMax, rSum, rAppend, rExtend, rSetL, _root_.L2.start, List.map_cons, List.map_nil, List.length_cons, List.length_nil, List.replicate_succ, List.replicate_zero, List.cons_append, List.nil_append, List.append_nil, List.getElem?_cons_zero, List.getElem?_cons_succ, List.set_cons_zero, List.set_cons_succ, Nat.reduceAdd, Nat.reduceSub, V.int.injEq, V.bl.injEq, V.ref.injEq, V.str.injEq, exists_eq, exists_eq', exists_eq_left, exists_eq_left', exists_and_left, exists_and_right, Option.some.injEq, List.cons.injEq, and_true, true_and, and_assoc, retV, true_or, or_true, decide_eq_true_eq, if_true, if_false, Bool.false_eq_true, Bool.not_true, Bool.not_false, Bool.not_eq_true', reduceCtorEq, eq_self, decide_true, decide_false, List.length_map, exists_const, false_and, and_false, or_false, false_or, ↓reduceIte]
          exact tup_sq hc fun p H4 e4 hp4 => hN _ _ (.of e4) trivial ⟨p, _, rfl, hp4, ina_of z⟩
        · rw [List.map_id] at hp5
          have ly : ys.length = b.length := Paired.len hp5
          refine sorted_cells hD5 hp5 (fun c hc => by rw [(O.cell b hm c hc).1, O.n2]) fun p6 zs np perm => ?_
          · obtain ⟨b', hperm, hzs⟩ := Paired.perm perm _ hp5
            have e36 : Same H3 (upd H5 p6 (.lst zs)) := e5.same.trans (same_new np)
            have e06 : Same H' (upd H5 p6 (.lst zs)) := eT.trans (e3.trans e36)
            refine ⟨.inr (.inr (.inl ⟨rfl, .inr ⟨kvs, e06 _ _ hD⟩⟩)), ?_⟩
            have lb : b'.length = b.length := hperm.length_eq
            have lz : zs.length = ys.length := perm.length_eq
            refine dcT_map (gives_sq (fun Q h => ⟨_, rfl, h⟩) (.inl upd_same)) (fun H' e => by rw [upd_same]; exact e _ _ upd_same) (Nat.le_trans (by omega : zs.length ≤ 60) (by decide)) (fun x => rfl) (fun x => rfl) ((fam_tp fam_in).monoP (.of (same_new np)) hzs) (hperm.nodup_iff.2 hbn) fun H7 D7 e7 nD7 hD7 => ?_
            have e07 := e06.trans e7
            have nDD : D ≠ D7 := fun z => by
              have := e06 _ _ hD
              rw [z, nD7] at this
              cases this
            refine ⟨D, D7, kvs, _, rfl, rfl, e07 _ _ hD, hD7, nDD, ?_, ?_, ?_⟩
            · by_cases i0 : 0 < i
              · exact .inl (hk0 i0)
              · obtain rfl : i = 0 := by omega
                refine .inr ?_
                rw [List.map_map]
                exact (hperm.map _).nodup_iff.2 (O.hash b hb)
            · rw [List.length_map]
              exact Nat.le_trans (by omega : kvs.length + b'.length ≤ 400) (by decide)
            · have e08 : Same H (upd H7 D (.dT (mergeT kvs (b'.map fun c => (c.map Sum.inl, V.bl true))))) := same_mut (e.trans e07) (e12.free nD)
              have k78 : Tk H7 (upd H7 D (.dT (mergeT kvs (b'.map fun c => (c.map Sum.inl, V.bl true))))) := .dT (e07 _ _ hD)
              have hF8 : upd H7 D (.dT (mergeT kvs (b'.map fun c => (c.map Sum.inl, V.bl true)))) F = some (.lst ts) := by
                rw [upd_ne nDF.symm]
                exact e07 _ _ hF
              refine ⟨.inl ⟨rfl, ts, sqL_of hF8⟩, ?_⟩
              have n6 : p6 ≠ D := fun z => by
                have := (eT.trans (e3.trans e5.same)) _ _ hD
                rw [← z, np] at this
                cases this
              refine tup_sq (xs := zs) (.inl (by rw [upd_ne n6]; exact e7 _ _ upd_same)) fun p9 H9 e9 hp9 => ?_
              refine ⟨ts, e9 _ _ hF8, Nat.lt_of_lt_of_le (by omega : ts.length < 12) (by decide), same_mut (e08.trans e9) (e12.free nF2), ⟨_, by rw [upd_ne nDF]; exact e9 _ _ upd_same, ?_, ?_, ?_⟩, ts ++ [.ref p9], upd_same, B' ++ [b'], ?_, ?_⟩
              · rw [hsplit, List.length_append]
                refine Nat.le_trans (length_mergeT _ _) ?_
                rw [List.length_map]
                omega
              · exact fun _ => mergeT_ne _ _ (.inr (by
                  intro z
                  have : b'.length = 0 := by simpa using congrArg List.length z
                  omega))
              · intro c hc
                rw [hsplit, List.mem_append]
                rcases mem_mergeT _ _ hc with h | h
                · exact .inl (hk c h)
                · rw [List.map_map, List.mem_map] at h
                  obtain ⟨d, hd, ed⟩ := h
                  obtain rfl := ky_inj (c := d) (d := c) ed
                  exact .inr (hperm.mem_iff.1 hd)
              · have tk1 : Tk H9 (upd H9 F (.lst (ts ++ [.ref p9]))) := .lst (e9 _ _ hF8)
                refine Paired.app ((famT_tp (famT_tp famT_in)).p ((Tk.of e07).trans (k78.trans ((Tk.of e9).trans tk1))) hts) (.cons ⟨p9, zs, rfl, (tk1 p9).1 _ hp9, ?_⟩ .nil)
                exact (famT_tp famT_in).p (((Tk.new np).trans (Tk.of e7)).trans (k78.trans ((Tk.of e9).trans tk1))) hzs
              · rw [List.take_succ, hb]
                exact Paired.app hB (.cons hperm .nil)
    · obtain ⟨e, ⟨u4, u5, u6, u7, rfl⟩, ⟨kvs, hD, hkl, hk0, hk⟩, ts, B', hF, hts, hB⟩ := h
      try simp only [wipe, tC, tVar, tChain, rI0, rI, rU, tOp, tUn, tCall, tAnd, tOr, tNot, tNotV, tAndV, tOrV, tTest, tB, tIf, tIfS, tRet, tRetN, tNext, tSeq, tNil, tCons, tAug, ipI, tPar, tAsg, gName, tDrop, tLst, tTup, tCB, tBM, tBM0, tFld_eq, tMkE, tMake, tAugS, gSub, rEq, rAll, rMax, rSum, rAppend, rExtend, rSetL, _root_.L2.start, List.map_cons, List.map_nil, List.length_cons, List.length_nil, List.replicate_succ, List.replicate_zero, List.cons_append, List.nil_append, List.append_nil, List.getElem?_cons_zero, List.getElem?_cons_succ, List.set_cons_zero, List.set_cons_succ, Nat.reduceAdd, Nat.reduceSub, V.int.injEq, V.bl.injEq, V.ref.injEq, V.str.injEq, exists_eq, exists_eq', exists_eq_left, exists_eq_left', exists_and_left, exists_and_right, Option.some.injEq, List.cons.injEq, and_true, true_and, and_assoc, retV, true_or, or_true, decide_eq_true_eq, if_true, if_false, Bool.false_eq_true, Bool.not_true, Bool.not_false, Bool.not_eq_true', reduceCtorEq, eq_self, decide_true, decide_false, List.length_map, exists_const, false_and, and_false, or_false, false_or, ↓reduceIte]
      rw [hl, List.take_length] at hB hkl
      have := O.most
      refine ⟨D, kvs, rfl, hD, _, rfl, ?_⟩
      rw [if_neg (by omega)]
      refine tup_sq (.inl hF) fun p H9 e9 hp9 => ?_
      exact q.go (e.trans e9) ⟨B', ⟨p, ts, rfl, hp9, (fam_tp (fam_tp fam_in)).monoP (.of e9) hts⟩, hB⟩
def sp_Bodies (w : World) (C : Addr) : Sp := fun vs H Q _ => ∃ (x dx : Addr) (n : Nat) (v : V) (B : List (List (List Int))), vs = [.ref x, .int n, v] ∧ H x = some (.ins C dx []) ∧ SqF (SqF (SqF InA)) (Or1 No x) H v B ∧ BodOk w n B ∧
  ∀ H' t, SameO (Or1 No x) H H' → H' x = some (.ins C dx [("axes", .int n), ("bodies", t)]) → BodR B H' t → Q .non H'
theorem famT_bod {B : List (List (List Int))} {H H' : Hp} {v : V} (e : Tk H H') (h : BodR B H v) : BodR B H' v := by
  obtain ⟨B', h, p⟩ := h
  exact ⟨B', (famT_tp (famT_tp (famT_tp famT_in))).tk e h, p⟩
theorem C_Bodies (S : Sc K mg) : CalM prg w K mg base CX0 "Bodies" (ga K "Bodies") 6 ["self", "axes", "bodies"] (sp_Bodies w (ga K "Bodies")) := by
  have C_is_between : Cal prg w K mg base CX0 "is_between" 2 ["value", "least", "most"] [] sp_is_between := C_is_between S
  have C_told_bodies : Cal prg w K mg base CX0 "told_bodies" 5 ["axes", "bodies"] [] (sp_told_bodies w) := C_told_bodies S
  refine S.calM (d := d_Bodies_init) 5 59 61 sc_Bodies_init rfl rfl rfl rfl rfl rfl (fun _ _ _ _ _ _ us hl => match us, hl with | [_, _, _], _ => rfl) (fun vs H Q E h => ?_) (fun f cdv A outer s H vs Q E hr h => ?_)
  · obtain ⟨x, dx, n, v, B, rfl, _⟩ := h
    rfl
  · obtain ⟨x, dx, n, v, B, rfl, hx, hv, O, q⟩ := h
    refine ⟨_, (pss_cons (ps_if (pt_not (pt_val (pe_c C_is_between (hr.mono (by omega)) pass0 (pa_cons (pv 1) (pa_cons pe_int (pa_cons (pe_gi (S.int 51)) pa_nil)))))) (pss_one ps_never) pss_nil)
      (pss_cons (ps_fld (pv 0) (pv 1) rfl)
      (pss_one (ps_fld (pv 0) (pe_c C_told_bodies (hr.mono (by omega)) pass0 (pa_cons (pv 1) (pa_cons (pv 2) pa_nil))) rfl)))), ?_⟩
    have n2 := O.n2
    try simp only [wipe, tC, tVar, tChain, rI0, rI, rU, tOp, tUn, tCall, tAnd, tOr, tNot, tNotV, tAndV, tOrV, tTest, tB, tIf, tIfS, tRet, tRetN, tNext, tSeq, tNil, tCons, tAug, ipI, tPar, tAsg, gName, tDrop, tLst, tTup, tCB, tBM, tBM0, tFld_eq, tMkE, tMake, tAugS, gSub, rEq, rAll, rMax, rSum, rAppend, rExtend, rSetL, _root_.L2.start, List.map_cons, List.map_nil, List.length_cons, List.length_nil, List.replicate_succ, List.replicate_zero, List.cons_append, List.nil_append, List.append_nil, List.getElem?_cons_zero, List.getElem?_cons_succ, List.set_cons_zero, List.set_cons_succ, Nat.reduceAdd, Nat.reduceSub, V.int.injEq, V.bl.injEq, V.ref.injEq, V.str.injEq, exists_eq, exists_eq', exists_eq_left, exists_eq_left', exists_and_left, exists_and_right, Option.some.injEq, List.cons.injEq, and_true, true_and, and_assoc, retV, true_or, or_true, decide_eq_true_eq, if_true, if_false, Bool.false_eq_true, Bool.not_true, Bool.not_false, Bool.not_eq_true', reduceCtorEq, eq_self, decide_true, decide_false, List.length_map, exists_const, false_and, and_false, or_false, false_or, sp_is_between, ↓reduceIte]
    intro H1 e1
    rw [show decide ((1 : Int) ≤ (n : Int) ∧ (n : Int) ≤ 3) = true from decide_eq_true (by omega)]
    try simp only [wipe, tC, tVar, tChain, rI0, rI, rU, tOp, tUn, tCall, tAnd, tOr, tNot, tNotV, tAndV, tOrV, tTest, tB, tIf, tIfS, tRet, tRetN, tNext, tSeq, tNil, tCons, tAug, ipI, tPar, tAsg, gName, tDrop, tLst, tTup, tCB, tBM, tBM0, tFld_eq, tMkE, tMake, tAugS, gSub, rEq, rAll, rMax, rSum, rAppend, rExtend, rSetL, _root_.L2.start, List.map_cons, List.map_nil, List.length_cons, List.length_nil, List.replicate_succ, List.replicate_zero, List.cons_append, List.nil_append, List.append_nil, List.getElem?_cons_zero, List.getElem?_cons_succ, List.set_cons_zero, List.set_cons_succ, Nat.reduceAdd, Nat.reduceSub, V.int.injEq, V.bl.injEq, V.ref.injEq, V.str.injEq, exists_eq, exists_eq', exists_eq_left, exists_eq_left', exists_and_left, exists_and_right, Option.some.injEq, List.cons.injEq, and_true, true_and, and_assoc, retV, true_or, or_true, decide_eq_true_eq, if_true, if_false, Bool.false_eq_true, Bool.not_true, Bool.not_false, Bool.not_eq_true', reduceCtorEq, eq_self, decide_true, decide_false, List.length_map, exists_const, false_and, and_false, or_false, false_or, sFld, ↓reduceIte]
    refine ⟨_, dx, _, e1 _ _ hx, (S.cls 60), (S.noat 65), by decide, ?_⟩
    have e2 : SameO (Or1 No x) H (upd H1 x (.ins (ga K "Bodies") dx (putF "axes" (.int n) []))) := SameO.trans (.of e1) (.ins (e1 _ _ hx) (.inr rfl))
    refine ⟨n, v, B, rfl, (fam_sq (fam_sq (fam_sq fam_in))).weak (fun a z => z.elim) ((fam_sq (fam_sq (fam_sq fam_in))).mono e2 hv), O, fun t H3 e3 ht => ?_⟩
    try simp only [wipe, tC, tVar, tChain, rI0, rI, rU, tOp, tUn, tCall, tAnd, tOr, tNot, tNotV, tAndV, tOrV, tTest, tB, tIf, tIfS, tRet, tRetN, tNext, tSeq, tNil, tCons, tAug, ipI, tPar, tAsg, gName, tDrop, tLst, tTup, tCB, tBM, tBM0, tFld_eq, tMkE, tMake, tAugS, gSub, rEq, rAll, rMax, rSum, rAppend, rExtend, rSetL, _root_.L2.start, List.map_cons, List.map_nil, List.length_cons, List.length_nil, List.replicate_succ, List.replicate_zero, List.cons_append, List.nil_append, List.append_nil, List.getElem?_cons_zero, List.getElem?_cons_succ, List.set_cons_zero, List.set_cons_succ, Nat.reduceAdd, Nat.reduceSub, V.int.injEq, V.bl.injEq, V.ref.injEq, V.str.injEq, exists_eq, exists_eq', exists_eq_left, exists_eq_left', exists_and_left, exists_and_right, Option.some.injEq, List.cons.injEq, and_true, true_and, and_assoc, retV, true_or, or_true, decide_eq_true_eq, if_true, if_false, Bool.false_eq_true, Bool.not_true, Bool.not_false, Bool.not_eq_true', reduceCtorEq, eq_self, decide_true, decide_false, List.length_map, exists_const, false_and, and_false, or_false, false_or, ↓reduceIte]
    have hx3 := e3 _ _ (upd_same (H := H1) (a := x) (o := .ins (ga K "Bodies") dx (putF "axes" (.int n) [])))
    refine ⟨_, _, _, hx3, (S.cls 60), (S.noat 66), by simp [putF], ?_⟩
    have e4 : SameO (Or1 No x) H3 (upd H3 x (.ins (ga K "Bodies") dx (putF "bodies" t (putF "axes" (.int n) [])))) := .ins hx3 (.inr rfl)
    exact q _ t (e2.trans (SameO.trans (.of e3) e4)) upd_same (famT_bod e4.2.1 ht)
/-- an object of the class Bodies -/
def BodO (K : PySem.W.Frag) (n : Nat) (B : List (List (List Int))) : Hp → V → Prop := fun H v => ∃ x dx t, v = .ref x ∧ H x = some (.ins (ga K "Bodies") dx [("axes", .int n), ("bodies", t)]) ∧ BodR B H t
theorem make_bodies {H : Hp} {Q : VK} {E : XK} {n : Nat} {v : V} {B : List (List (List Int))} (hv : SqF (SqF (SqF InA)) No H v B) (O : BodOk w n B) (q : Ret (BodO K n B) H Q) :
    ∀ x dx, H x = none → H dx = none → dx ≠ x → sp_Bodies w (ga K "Bodies") (.ref x :: ([.int n, v] ++ [])) (upd (upd H dx (.own x)) x (.ins (ga K "Bodies") dx [])) (fun v H2 => v = .non ∧ Q (.ref x) H2) E := fun x dx nx ndx hne => by
  have e1 : Same H (upd H dx (.own x)) := same_new ndx
  have e2 : Same H (upd (upd H dx (.own x)) x (.ins (ga K "Bodies") dx [])) := same_mut e1 nx
  refine ⟨x, dx, n, v, B, rfl, upd_same, (fam_sq (fam_sq (fam_sq fam_in))).weak (fun a z => ?_) ((fam_sq (fam_sq (fam_sq fam_in))).same e2 ((fam_sq (fam_sq (fam_sq fam_in))).live hv)), O, fun H' t e ht hb => ⟨rfl, q _ _ (fun a u h => ?_) ⟨x, dx, t, rfl, ht, hb⟩⟩⟩
  · rcases z with z | z
    · exact z.elim
    · exact .inr (z ▸ nx)
  · refine e.1 a u (fun z => ?_) (e2 a u h)
    rcases z with z | z
    · exact z
    · rw [z, nx] at h
      cases h
end
end K78
set_option Elab.async false
set_option linter.all false
set_option maxRecDepth 100000
set_option maxHeartbeats 4000000
/-! k78: Bodies: fields; errors; need_bodies, need_axis -/
namespace K78
open PySem PySem.Spec PyProof.Rows L2 He HK
def sp_need_bodies (K : PySem.W.Frag) : Sp := fun vs H Q E => ∃ x dx fs, vs = [.ref x, .int (-1)] ∧ H x = some (.ins (ga K "Bodies") dx fs) ∧ RetV .non H Q
def sp_need_axis : Sp := fun vs H Q E => ∃ n a : Nat, vs = [.int n, .int a] ∧ a < n ∧ RetV .non H Q
section
variable {w : World} {K : PySem.W.Frag} {mg : Str → Option Value} {base : Heap}
theorem own_Bodies (S : Sc K mg) : Own K (ga K "Bodies") := ⟨(S.cls 60), (S.flag 5), (S.flag 12), (S.flag 13), (S.flag 3), (S.flag 4)⟩
theorem bod_axes (S : Sc K mg) {n : Nat} {B : List (List (List Int))} {H : Hp} {v : V} {Q : VK} (h : BodO K n B H v) (q : Q (.int n) H) : rFld K "axes" v H Q := by
  obtain ⟨x, dx, t, rfl, hx, ht⟩ := h
  exact ⟨x, _, dx, _, _, rfl, hx, (S.cls 60), (S.noat 65), rfl, q⟩
theorem bod_bodies (S : Sc K mg) {n : Nat} {B : List (List (List Int))} {H : Hp} {v : V} {Q : VK} (h : BodO K n B H v) (q : ∀ t, BodR B H t → Q t H) : rFld K "bodies" v H Q := by
  obtain ⟨x, dx, t, rfl, hx, ht⟩ := h
  exact ⟨x, _, dx, _, _, rfl, hx, (S.cls 60), (S.noat 66), rfl, q t ht⟩
theorem isi_bod (S : Sc K mg) {n : Nat} {B : List (List (List Int))} {H : Hp} {v : V} {Q : VK} (h : BodO K n B H v) (q : Q (.bl true) H) : rIsi K [v, .ref (ga K "Bodies")] H Q := by
  obtain ⟨x, dx, t, rfl, hx, ht⟩ := h
  exact isi_own (own_Bodies S) hx q
theorem fld_at {H : Hp} {Q : VK} {x C dx : Addr} {fs : List (Str × V)} {f : Str} {v : V} (hx : H x = some (.ins C dx fs)) (c : Cls K C) (n : NoAttr K C f) (hl : fs.lookup f = some v) (q : Q v H) : rFld K f (.ref x) H Q := ⟨x, C, dx, fs, v, rfl, hx, c, n, hl, q⟩
theorem argok_size {X : Cx} (S : Sc X.K X.mg) (hp : X.prog = prg) : ∀ (v : V) (u : Value), (∃ x, v = .str x ∧ x.length ≤ 1000) → RelV v u → PySem.HKErr.ArgOk X.prog X.w X.mg e_InvalidSize.scope (match (e_InvalidSize.body.headD (.Pass ⟨0,0,0,0⟩)) with | .Expr (.Call _ [e] _ _) _ => e | _ => .Constant .none 0 ⟨0,0,0,0⟩) e_InvalidSize.fld u := by
  intro v u hv r
  obtain ⟨x, rfl, hx⟩ := hv
  obtain ⟨t, rfl⟩ := r
  intro L a cc cd q A s Q E m hL hm hG hB k
  obtain ⟨mb, hb, hbe⟩ := hB
  refine wpAny_BinOp (wpAny_Constant_str ?_)
  refine wpAny_Call_Name_kw (wpAny_Name (PySem.W.ks_loadName_global rfl rfl (Calls.loadGlobal_builtin hG (S.free 48) hb ((hbe _ (by decide +kernel)).trans (show bootBuiltins "str" = some (.type "str") by decide +kernel)) ?_)) (by decide))
  refine PyProof.Rows.callWith_type1 (Calls.spliced_cons (wpAny_Name (wpAny_loadName_local rfl rfl hL hm ?_) (by decide))) (by rfl) (by rfl)
  refine Calls.spliced_nil ?_
  refine PySem.P.str_of_str ?_
  refine PyProof.Rows.add_str (fun t' tk => k _ _) ?_
  rw [sizeLine_eq]
  have : ("too great: " : Str).length = 11 := by decide +kernel
  omega
theorem mk_InvalidGaps {X : Cx} (S : Sc X.K X.mg) (hp : X.prog = prg) {a : Expr} {ta : TA} {p pos : Pos} {k : Nat} (hr : Room k X.A) (ha : PA X [a] ta) (hg : Gl X "InvalidGaps")
    (he : starEach (a :: []) X.env = (false, eval a X.env) :: starEach [] X.env) (hpl : (backTo pos (starEach [] X.env)).any (·.1) = false) : PMk X (.Call (.Name "InvalidGaps" p) [a] [] pos) (tMkE (ga X.K "InvalidGaps") "at" (fun _ => True) ta) :=
  mk_err (e0 := e_InvalidGaps) hp (S.err 4) rfl rfl ⟨by decide +kernel, rfl, rfl, rfl, rfl, rfl, rfl, rfl, by decide, rfl, fun _ _ _ _ _ => rfl, fun _ _ _ _ _ => rfl, fun _ _ _ _ _ => rfl, fun _ _ _ _ _ => ⟨_, rfl⟩, fun _ _ _ _ _ _ _ _ _ => rfl⟩ (fun _ _ _ _ => PySem.HKErr.arg_const) (S.glo 73) hr ha hg rfl he hpl
theorem mk_InvalidSize {X : Cx} (S : Sc X.K X.mg) (hp : X.prog = prg) {a : Expr} {ta : TA} {p pos : Pos} {k : Nat} (hr : Room k X.A) (ha : PA X [a] ta) (hg : Gl X "InvalidSize")
    (he : starEach (a :: []) X.env = (false, eval a X.env) :: starEach [] X.env) (hpl : (backTo pos (starEach [] X.env)).any (·.1) = false) : PMk X (.Call (.Name "InvalidSize" p) [a] [] pos) (tMkE (ga X.K "InvalidSize") "word" (fun v => ∃ x, v = .str x ∧ x.length ≤ 1000) ta) :=
  mk_err (e0 := e_InvalidSize) hp (S.err 6) rfl rfl ⟨by decide +kernel, rfl, rfl, rfl, rfl, rfl, rfl, rfl, by decide, rfl, fun _ _ _ _ _ => rfl, fun _ _ _ _ _ => rfl, fun _ _ _ _ _ => rfl, fun _ _ _ _ _ => ⟨_, rfl⟩, fun _ _ _ _ _ _ _ _ _ => rfl⟩ (argok_size S hp) (S.glo 75) hr ha hg rfl he hpl
theorem mk_Refused {X : Cx} (S : Sc X.K X.mg) (hp : X.prog = prg) {a : Expr} {ta : TA} {p pos : Pos} {k : Nat} (hr : Room k X.A) (ha : PA X [a] ta) (hg : Gl X "Refused")
    (he : starEach (a :: []) X.env = (false, eval a X.env) :: starEach [] X.env) (hpl : (backTo pos (starEach [] X.env)).any (·.1) = false) : PMk X (.Call (.Name "Refused" p) [a] [] pos) (tMkE (ga X.K "Refused") "at" (fun _ => True) ta) :=
  mk_err (e0 := e_Refused) hp (S.err 7) rfl rfl ⟨by decide +kernel, rfl, rfl, rfl, rfl, rfl, rfl, rfl, by decide, rfl, fun _ _ _ _ _ => rfl, fun _ _ _ _ _ => rfl, fun _ _ _ _ _ => rfl, fun _ _ _ _ _ => ⟨_, rfl⟩, fun _ _ _ _ _ _ _ _ _ => rfl⟩ (fun _ _ _ _ => PySem.HKErr.arg_const) (S.glo 76) hr ha hg rfl he hpl
/-- lets out an error of the class, its field so -/
def Err (C : Addr) (f : Str) (v : V) (H : Hp) (E : XK) : Prop := ∀ H1 d, Same H H1 → H1 d = none → E (.ref C) (some d) (upd H1 d (.xd [(f, v)]))
/-- not an object of one of our classes -/
def Alien (K : PySem.W.Frag) (H : Hp) (x : V) : Prop := ∃ T, TyX K H x (.type T) ∧ ∀ C : Addr, (fastBuiltinMro T).map (·.contains (.ref C)) = some false
theorem C_need_bodies (S : Sc K mg) : Cal prg w K mg base (L2.CX prg w) "need_bodies" 1 ["value", "at"] [.int (-1)] (sp_need_bodies K) := by
  refine S.calD (d := d_need_bodies) 10 8 1 [.int (-1)] sc_need_bodies rfl rfl rfl rfl (by decide) rfl (fun _ _ _ _ _ _ _ us its h1 h2 => match us, its, h1, h2 with | [_], [_], _, _ => ⟨_, rfl, rfl⟩) (fun vs H Q E h => ?_) (fun f cdv A outer s H vs Q E hr h => ?_)
  · obtain ⟨x, dx, fs, rfl, _⟩ := h
    rfl
  · obtain ⟨x, dx, fs, rfl, h, q⟩ := h
    refine ⟨_, (pss_one (ps_if (pt_not (pt_val (pe_callB call_isi (by rfl) (S.free 41) (by decide +kernel) (pa_cons (pv 0) (pa_cons (pe_gc (S.glo 59)) pa_nil))))) (pss_one ps_never) pss_nil)), ?_⟩
    try simp only [wipe, tC, tVar, tChain, rI0, rI, rU, tOp, tUn, tCall, tAnd, tOr, tNot, tNotV, tAndV, tOrV, tTest, tB, tIf, tIfS, tRet, tRetN, tNext, tSeq, tNil, tCons, tAug, ipI, tPar, tAsg, gName, tDrop, tLst, tTup, tCB, tBM, tBM0, tFld_eq, tMkE, tMake, tAugS, gSub, rEq, rAll, rMax, rSum, rAppend, rExtend, rSetL, _root_.L2.start, List.map_cons, List.map_nil, List.length_cons, List.length_nil, List.replicate_succ, List.replicate_zero, List.cons_append, List.nil_append, List.append_nil, List.getElem?_cons_zero, List.getElem?_cons_succ, List.set_cons_zero, List.set_cons_succ, Nat.reduceAdd, Nat.reduceSub, V.int.injEq, V.bl.injEq, V.ref.injEq, V.str.injEq, exists_eq, exists_eq', exists_eq_left, exists_eq_left', exists_and_left, exists_and_right, Option.some.injEq, List.cons.injEq, and_true, true_and, and_assoc, retV, true_or, or_true, decide_eq_true_eq, if_true, if_false, Bool.false_eq_true, Bool.not_true, Bool.not_false, Bool.not_eq_true', reduceCtorEq, eq_self, decide_true, decide_false, List.length_map, exists_const, false_and, and_false, or_false, false_or, ↓reduceIte]
    refine isi_own (own_Bodies S) h ?_
    try simp only [wipe, tC, tVar, tChain, rI0, rI, rU, tOp, tUn, tCall, tAnd, tOr, tNot, tNotV, tAndV, tOrV, tTest, tB, tIf, tIfS, tRet, tRetN, tNext, tSeq, tNil, tCons, tAug, ipI, tPar, tAsg, gName, tDrop, tLst, tTup, tCB, tBM, tBM0, tFld_eq, tMkE, tMake, tAugS, gSub, rEq, rAll, rMax, rSum, rAppend, rExtend, rSetL, _root_.L2.start, List.map_cons, List.map_nil, List.length_cons, List.length_nil, List.replicate_succ, List.replicate_zero, List.cons_append, List.nil_append, List.append_nil, List.getElem?_cons_zero, List.getElem?_cons_succ, List.set_cons_zero, List.set_cons_succ, Nat.reduceAdd, Nat.reduceSub, V.int.injEq, V.bl.injEq, V.ref.injEq, V.str.injEq, exists_eq, exists_eq', exists_eq_left, exists_eq_left', exists_and_left, exists_and_right, Option.some.injEq, List.cons.injEq, and_true, true_and, and_assoc, retV, true_or, or_true, decide_eq_true_eq, if_true, if_false, Bool.false_eq_true, Bool.not_true, Bool.not_false, Bool.not_eq_true', reduceCtorEq, eq_self, decide_true, decide_false, List.length_map, exists_const, false_and, and_false, or_false, false_or, ↓reduceIte]
    exact q.go (Same.refl _) rfl
theorem C_need_axis (S : Sc K mg) : Cal prg w K mg base CX0 "need_axis" 3 ["axes", "axis"] [] sp_need_axis := by
  have C_is_below := C_is_below (w := w) (base := base) S
  refine S.cal (d := d_need_axis) 11 9 sc_need_axis rfl rfl rfl rfl rfl (fun _ _ _ _ _ _ us hl => match us, hl with | [_, _], _ => rfl) (fun vs H Q E h => ?_) (fun f cdv A outer s H vs Q E hr h => ?_)
  · obtain ⟨n, a, rfl, _⟩ := h
    rfl
  · obtain ⟨n, a, rfl, h, q⟩ := h
    refine ⟨_, (pss_one (ps_if (pt_not (pt_val (pe_c C_is_below (hr.mono (by omega)) pass0 (pa_cons (pv 1) (pa_cons (pv 0) pa_nil))))) (pss_one ps_never) pss_nil)), ?_⟩
    try simp only [wipe, tC, tVar, tChain, rI0, rI, rU, tOp, tUn, tCall, tAnd, tOr, tNot, tNotV, tAndV, tOrV, tTest, tB, tIf, tIfS, tRet, tRetN, tNext, tSeq, tNil, tCons, tAug, ipI, tPar, tAsg, gName, tDrop, tLst, tTup, tCB, tBM, tBM0, tFld_eq, tMkE, tMake, tAugS, gSub, rEq, rAll, rMax, rSum, rAppend, rExtend, rSetL, _root_.L2.start, List.map_cons, List.map_nil, List.length_cons, List.length_nil, List.replicate_succ, List.replicate_zero, List.cons_append, List.nil_append, List.append_nil, List.getElem?_cons_zero, List.getElem?_cons_succ, List.set_cons_zero, List.set_cons_succ, Nat.reduceAdd, Nat.reduceSub, V.int.injEq, V.bl.injEq, V.ref.injEq, V.str.injEq, exists_eq, exists_eq', exists_eq_left, exists_eq_left', exists_and_left, exists_and_right, Option.some.injEq, List.cons.injEq, and_true, true_and, and_assoc, retV, true_or, or_true, decide_eq_true_eq, if_true, if_false, Bool.false_eq_true, Bool.not_true, Bool.not_false, Bool.not_eq_true', reduceCtorEq, eq_self, decide_true, decide_false, List.length_map, exists_const, false_and, and_false, or_false, false_or, sp_is_below, ↓reduceIte]
    intro H1 e1
    rw [decide_eq_true (by omega : (0 : Int) ≤ (a : Int) ∧ (a : Int) < (n : Int))]
    try simp only [wipe, tC, tVar, tChain, rI0, rI, rU, tOp, tUn, tCall, tAnd, tOr, tNot, tNotV, tAndV, tOrV, tTest, tB, tIf, tIfS, tRet, tRetN, tNext, tSeq, tNil, tCons, tAug, ipI, tPar, tAsg, gName, tDrop, tLst, tTup, tCB, tBM, tBM0, tFld_eq, tMkE, tMake, tAugS, gSub, rEq, rAll, rMax, rSum, rAppend, rExtend, rSetL, _root_.L2.start, List.map_cons, List.map_nil, List.length_cons, List.length_nil, List.replicate_succ, List.replicate_zero, List.cons_append, List.nil_append, List.append_nil, List.getElem?_cons_zero, List.getElem?_cons_succ, List.set_cons_zero, List.set_cons_succ, Nat.reduceAdd, Nat.reduceSub, V.int.injEq, V.bl.injEq, V.ref.injEq, V.str.injEq, exists_eq, exists_eq', exists_eq_left, exists_eq_left', exists_and_left, exists_and_right, Option.some.injEq, List.cons.injEq, and_true, true_and, and_assoc, retV, true_or, or_true, decide_eq_true_eq, if_true, if_false, Bool.false_eq_true, Bool.not_true, Bool.not_false, Bool.not_eq_true', reduceCtorEq, eq_self, decide_true, decide_false, List.length_map, exists_const, false_and, and_false, or_false, false_or, ↓reduceIte]
    exact q.go e1 rfl
end
end K78
set_option Elab.async false
set_option linter.all false
set_option maxRecDepth 100000
set_option maxHeartbeats 4000000
/-! k78: rows_along -/
namespace K78
open PySem PySem.Spec PyProof.Rows L2 He HK
abbrev Row := List (Int × Int)
abbrev Rows := List (List Int × Row)
/-- the line of a cell along an axis -/
def ln (a : Nat) (c : List Int) : List Int := c.take a ++ c.drop (a + 1)
def curR (gs : Rows) (l : List Int) : Row := ((gs.find? fun g => decide (g.1 = l)).map (·.2)).getD []
def putR (gs : Rows) (l : List Int) (r : Row) : Rows := if (gs.any fun g => decide (g.1 = l)) = true then gs.map (fun g => if g.1 = l then (g.1, r) else g) else gs ++ [(l, r)]
def addR (a : Nat) (gs : Rows) (o : Nat × List Int) : Rows := putR gs (ln a o.2) (curR gs (ln a o.2) ++ [(o.2.getD a 0, (o.1 : Int))])
def rowsOf (a : Nat) (os : List (Nat × List Int)) : Rows := os.foldl (addR a) []
def occTo (B : List (List (List Int))) (i : Nat) : List (Nat × List Int) := (List.range i).flatMap fun b => (B.getD b []).map fun c => (b, c)
def RowA (H : Hp) (kv : List L2.Key × V) (g : List Int × Row) : Prop := kv.1 = ky g.1 ∧ ∃ r vs, kv.2 = .ref r ∧ H r = some (.lst vs) ∧ Paired (PrA H) vs g.2
theorem RowA.same {H H' : Hp} (e : Same H H') {kv : List L2.Key × V} {g : List Int × Row} (h : RowA H kv g) : RowA H' kv g := by
  obtain ⟨h1, r, vs, h2, h3, h4⟩ := h
  exact ⟨h1, r, vs, h2, e _ _ h3, Paired.imp (fun _ _ k => k.tk (.of e)) h4⟩
theorem RowA.dT {H : Hp} {D : Addr} {xs ys : List (List L2.Key × V)} (hD : H D = some (.dT xs)) {kv : List L2.Key × V} {g : List Int × Row} (h : RowA H kv g) : RowA (upd H D (.dT ys)) kv g := by
  obtain ⟨h1, r, vs, h2, h3, h4⟩ := h
  exact ⟨h1, r, vs, h2, by rw [upd_ne (ne_of h3 hD (fun z => nomatch z))]; exact h3, Paired.imp (fun _ _ k => k.tk (.dT hD)) h4⟩
theorem rows_any {H : Hp} {l : List Int} : ∀ {kvs : List (List L2.Key × V)} {gs : Rows}, Paired (RowA H) kvs gs → (kvs.any fun kv => decide (kv.1 = ky l)) = gs.any fun g => decide (g.1 = l)
  | _, _, .nil => rfl
  | _, _, .cons r t => by
    rw [List.any_cons, List.any_cons, rows_any t]
    congr 1
    rw [r.1]
    exact decide_eq_decide.2 ⟨fun e => ky_inj e, fun e => by rw [e]⟩
theorem rows_get {H : Hp} {l : List Int} : ∀ {kvs : List (List L2.Key × V)} {gs : Rows}, Paired (RowA H) kvs gs → (valV kvs (ky l) = none ∧ curR gs l = []) ∨ ∃ r vs, valV kvs (ky l) = some (.ref r) ∧ H r = some (.lst vs) ∧ Paired (PrA H) vs (curR gs l)
  | _, _, .nil => .inl ⟨rfl, rfl⟩
  | _, _, .cons (a := kv) (b := g) r t => by
    by_cases e : g.1 = l
    · obtain ⟨r1, r2, vs, e2, e3, e4⟩ := r
      refine .inr ⟨r2, vs, ?_, e3, ?_⟩
      · rw [valV_pos (by rw [r1, e]), e2]
      · unfold curR
        rw [List.find?_cons_of_pos (by simpa using e)]
        exact e4
    · have h1 : ¬kv.1 = ky l := fun z => e (ky_inj (r.1.symm.trans z))
      rw [valV_neg h1]
      have h2 : ∀ gs : Rows, curR (g :: gs) l = curR gs l := fun gs => by
        unfold curR
        rw [List.find?_cons_of_neg (by simpa using e)]
      rw [h2]
      exact rows_get t
theorem rows_put {H : Hp} {l : List Int} {r : Addr} {vs : List V} {row : Row} (hr : H r = some (.lst vs)) (hp : Paired (PrA H) vs row) {kvs : List (List L2.Key × V)} {gs : Rows} (h : Paired (RowA H) kvs gs) : Paired (RowA H) (putK kvs (ky l) (.ref r)) (putR gs l row) := by
  unfold putK putR
  rw [rows_any h]
  by_cases e : (gs.any fun g => decide (g.1 = l)) = true
  · rw [if_pos e, if_pos e]
    clear e
    induction h with
    | nil => exact .nil
    | cons a t ih =>
      rw [List.map_cons, List.map_cons]
      refine .cons ?_ ih
      rename_i kv g _ _
      by_cases e1 : g.1 = l
      · rw [if_pos e1, if_pos (by rw [a.1, e1])]
        exact ⟨a.1, r, vs, rfl, hr, hp⟩
      · rw [if_neg e1, if_neg (fun z => e1 (ky_inj (a.1.symm.trans z)))]
        exact a
  · rw [if_neg e, if_neg e]
    exact Paired.app h (.cons ⟨rfl, r, vs, rfl, hr, hp⟩ .nil)
theorem curR_put (gs : Rows) (l l' : List Int) (r : Row) : curR (putR gs l r) l' = if l' = l then r else curR gs l' := by
  unfold putR
  by_cases e : (gs.any fun g => decide (g.1 = l)) = true
  · rw [if_pos e]
    induction gs with
    | nil => simp at e
    | cons g t ih =>
      rw [List.map_cons]
      unfold curR at ih ⊢
      by_cases e1 : g.1 = l
      · rw [if_pos e1]
        by_cases e2 : l' = l
        · rw [if_pos e2, List.find?_cons_of_pos (by simp [e1, e2])]
          rfl
        · rw [if_neg e2, List.find?_cons_of_neg (by simp only [decide_eq_true_eq]; intro z; exact e2 (z.symm.trans e1)), List.find?_cons_of_neg (by simp only [decide_eq_true_eq]; intro z; exact e2 (z.symm.trans e1))]
          by_cases e3 : (t.any fun g => decide (g.1 = l)) = true
          · have := ih e3
            rw [if_neg e2] at this
            exact this
          · have : t.map (fun g => if g.1 = l then (g.1, r) else g) = t := by
              refine (List.map_congr_left fun g hg => if_neg fun z => e3 (List.any_eq_true.2 ⟨g, hg, decide_eq_true z⟩)).trans (List.map_id t)
            rw [this]
      · rw [if_neg e1]
        have e3 : (t.any fun g => decide (g.1 = l)) = true := by
          rw [List.any_cons, decide_eq_false e1, Bool.false_or] at e
          exact e
        by_cases e2 : g.1 = l'
        · rw [List.find?_cons_of_pos (by simpa using e2), if_neg (fun z => e1 (e2.trans z)), List.find?_cons_of_pos (by simpa using e2)]
        · rw [List.find?_cons_of_neg (by simpa using e2), List.find?_cons_of_neg (by simpa using e2)]
          exact ih e3
  · rw [if_neg e]
    unfold curR
    rw [List.find?_append]
    by_cases e2 : l' = l
    · rw [if_pos e2]
      have : gs.find? (fun g => decide (g.1 = l')) = none := List.find?_eq_none.2 fun g hg z => e (List.any_eq_true.2 ⟨g, hg, by rw [← e2]; exact z⟩)
      rw [this, Option.none_or, List.find?_cons_of_pos (by simpa using e2.symm)]
      rfl
    · rw [if_neg e2, List.find?_cons_of_neg (by simp only [decide_eq_true_eq]; exact fun z => e2 z.symm), List.find?_nil, Option.or_none]
theorem rowsOf_snoc (a : Nat) (os : List (Nat × List Int)) (o : Nat × List Int) : rowsOf a (os ++ [o]) = addR a (rowsOf a os) o := by
  unfold rowsOf
  rw [List.foldl_append]
  rfl
theorem foldl_curR (a : Nat) : ∀ (os : List (Nat × List Int)) (gs : Rows) (l : List Int) (k : Nat), (curR gs l).length ≤ k → (curR (os.foldl (addR a) gs) l).length ≤ k + os.length
  | [], _, _, _, h => h
  | o :: os, gs, l, k, h => by
    rw [List.foldl_cons, List.length_cons]
    have := foldl_curR a os (addR a gs o) l (k + 1) (by
      unfold addR
      rw [curR_put]
      split
      · rename_i e
        rw [List.length_append, ← e]
        simp
        exact h
      · omega)
    omega
theorem curR_len (a : Nat) (os : List (Nat × List Int)) (l : List Int) : (curR (rowsOf a os) l).length ≤ os.length := by
  have := foldl_curR a os [] l 0 (Nat.le_refl _)
  rw [Nat.zero_add] at this
  exact this
theorem occTo_succ (B : List (List (List Int))) (i : Nat) : occTo B (i + 1) = occTo B i ++ (B.getD i []).map fun c => (i, c) := by simp [occTo, List.range_succ]
theorem occTo_len (B : List (List (List Int))) (h : ∀ b ∈ B, b.length ≤ 60) (i : Nat) : (occTo B i).length ≤ i * 60 := by
  induction i with
  | zero => simp [occTo]
  | succ i ih =>
    rw [occTo_succ, List.length_append, List.length_map]
    have : (B.getD i []).length ≤ 60 := by
      cases hb : B[i]? with
      | none => simp [List.getD, hb]
      | some b =>
        simp only [List.getD, hb, Option.getD_some]
        exact h b (List.mem_of_getElem? hb)
    omega
theorem putR_keys (gs : Rows) (l : List Int) (r : Row) : (putR gs l r).map (·.1) = if (gs.any fun g => decide (g.1 = l)) = true then gs.map (·.1) else gs.map (·.1) ++ [l] := by
  unfold putR
  split
  · rw [List.map_map]
    refine List.map_congr_left fun g hg => ?_
    show (if g.1 = l then (g.1, r) else g).1 = g.1
    split <;> rfl
  · rw [List.map_append]
    rfl
theorem putR_nodup {gs : Rows} (h : (gs.map (·.1)).Nodup) (l : List Int) (r : Row) : ((putR gs l r).map (·.1)).Nodup := by
  rw [putR_keys]
  split
  · exact h
  · rename_i e
    rw [List.nodup_append]
    refine ⟨h, List.pairwise_singleton _ _, fun x hx y hy => ?_⟩
    rw [List.mem_singleton] at hy
    subst hy
    rintro rfl
    obtain ⟨g, hg, eg⟩ := List.mem_map.1 hx
    exact e (List.any_eq_true.2 ⟨g, hg, decide_eq_true eg⟩)
theorem foldl_nodup (a : Nat) : ∀ (os : List (Nat × List Int)) (gs : Rows), (gs.map (·.1)).Nodup → ((os.foldl (addR a) gs).map (·.1)).Nodup
  | [], _, h => h
  | o :: os, gs, h => by
    rw [List.foldl_cons]
    exact foldl_nodup a os _ (putR_nodup h _ _)
theorem rowsOf_nodup (a : Nat) (os : List (Nat × List Int)) : ((rowsOf a os).map (·.1)).Nodup := foldl_nodup a os [] .nil
theorem curR_mem : ∀ {gs : Rows}, (gs.map (·.1)).Nodup → ∀ {g : List Int × Row}, g ∈ gs → curR gs g.1 = g.2
  | x :: t, h, g, hg => by
    rw [List.map_cons, List.nodup_cons] at h
    unfold curR
    by_cases e : x.1 = g.1
    · rw [List.find?_cons_of_pos (by simpa using e)]
      rcases List.mem_cons.1 hg with hg | hg
      · rw [hg]
        rfl
      · exact absurd (List.mem_map.2 ⟨g, hg, e.symm⟩) h.1
    · rw [List.find?_cons_of_neg (by simpa using e)]
      rcases List.mem_cons.1 hg with hg | hg
      · exact absurd (by rw [hg]) e
      · exact curR_mem h.2 hg
theorem RowA.off {H H5 : Hp} {D : Addr} {ws : List (List L2.Key × V)} (hD : H D = some (.dT ws)) (h5 : ∀ z o, z ≠ D → H z = some o → H5 z = some o) {kv : List L2.Key × V} {g : List Int × Row} (h : RowA H kv g) : RowA H5 kv g := by
  obtain ⟨h1, r, vs, h2, h3, h4⟩ := h
  exact ⟨h1, r, vs, h2, h5 _ _ (ne_of h3 hD (fun z => nomatch z)) h3, Paired.imp (fun v p ⟨t, k1, k2⟩ => ⟨t, k1, h5 _ _ (ne_of k2 hD (fun z => nomatch z)) k2⟩) h4⟩
theorem map_kP {H : Hp} : ∀ {vs : List V} {row : Row}, Paired (PrA H) vs row → vs.map (kP H) = row
  | _, _, .nil => rfl
  | _, _, .cons r t => by rw [List.map_cons, kP_of r, map_kP t]
/-- sorted(row) -/
theorem sorted_row {K : PySem.W.Frag} {H : Hp} {Q : VK} {r : Addr} {vs : List V} {row : Row} (hr : H r = some (.lst vs)) (hp : Paired (PrA H) vs row)
    (q : ∀ p ys row', H p = none → Paired (PrA H) ys row' → row'.Perm row → (row'.Pairwise fun x y => SrtO.lexB y x = false) → Q (.ref p) (upd H p (.lst ys))) : rSortedPO K [.ref r] H Q := by
  have each : ∀ x ∈ vs, PrA H x (kP H x) := fun x hx => by
    obtain ⟨j, hj⟩ := List.getElem?_of_mem hx
    obtain ⟨p, _, h⟩ := Paired.at hp hj
    rw [kP_of h]
    exact h
  refine ⟨r, vs, kP H, rfl, sqL_of hr, each, fun ys p hs hb np => q p ys (ys.map (kP H)) np ?_ ?_ ?_⟩
  · have : Paired (PrA H) (ys.map id) (ys.map (kP H)) := map_pr (R := PrA H) (f := id) (g := kP H) ys fun x hx => each x (hb.perm.mem_iff.1 hx)
    rwa [List.map_id] at this
  · rw [← map_kP hp]
    exact hb.perm.map _
  · exact List.pairwise_map.2 hs
/-- the rows that come out: sorted -/
def SrtRow (r g : List Int × Row) : Prop := r.1 = g.1 ∧ r.2.Perm g.2 ∧ r.2.Pairwise fun x y => SrtO.lexB y x = false
def RowsR (rows : Rows) : Hp → V → Prop := fun H v => ∃ d kvs, v = .ref d ∧ H d = some (.dT kvs) ∧ Paired (RowA H) kvs rows
/-- the bodies as they were made: B' -/
def BodX (K : PySem.W.Frag) (n : Nat) (B' : List (List (List Int))) : Hp → V → Prop := fun H v => ∃ x dx t, v = .ref x ∧ H x = some (.ins (ga K "Bodies") dx [("axes", .int n), ("bodies", t)]) ∧ TpF (TpF (TpF InA)) No H t B'
def sp_rows_along (K : PySem.W.Frag) : Sp := fun vs H Q _ => ∃ v n B' a, vs = [v, .int (a : Nat)] ∧ BodX K n B' H v ∧ a < n ∧ n ≤ 3 ∧ B'.length ≤ 12 ∧ (∀ b ∈ B', b.length ≤ 60 ∧ ∀ c ∈ b, c.length = n) ∧
  ∀ d H' rows, Same H H' → H d = none → RowsR rows H' (.ref d) → Paired SrtRow rows (rowsOf a (occTo B' B'.length)) → Q (.ref d) H'
section
variable {w : World} {K : PySem.W.Frag} {mg : Str → Option Value} {base : Heap}
theorem C_rows_along (S : Sc K mg) : Cal prg w K mg base CX0 "rows_along" 1 ["bodies", "axis"] [] (sp_rows_along K) := by
  refine S.cal (d := d_rows_along) 12 10 sc_rows_along rfl rfl rfl rfl rfl (fun _ _ _ _ _ _ us hl => match us, hl with | [_, _], _ => rfl) (fun vs H Q E h => ?_) (fun f cdv A outer s H vs Q E hr h => ?_)
  · obtain ⟨v, n, B', a, rfl, _⟩ := h
    rfl
  · obtain ⟨_, n, B', a, rfl, ⟨x, dx, t, rfl, hx, tb, us, rfl, htb, hp⟩, han, n3, B12, hB, q⟩ := h
    refine ⟨_, (pss_cons (ps_set (i := 2) sc_rows_along.nd rfl (by first | exact Or.inl rfl | exact Or.inr rfl) pe_dnewT)
      (pss_cons (ps_for PassesOwn.never rfl (pi_enS (S.free 39) (pa_cons (pe_fld (pv 0) rfl) pa_nil)) (pg_tup (by rfl) (pgs_cons (pg_name (i := 3) sc_rows_along.nd rfl (by first | exact Or.inl rfl | exact Or.inr rfl)) (pgs_cons (pg_name (i := 4) sc_rows_along.nd rfl (by first | exact Or.inl rfl | exact Or.inr rfl)) pgs_nil))) (pss_one (ps_for PassesOwn.never rfl (pi_seq (pv 4)) (pg_name (i := 5) sc_rows_along.nd rfl (by first | exact Or.inl rfl | exact Or.inr rfl)) (pss_cons (ps_set (i := 6) sc_rows_along.nd rfl (by first | exact Or.inl rfl | exact Or.inr rfl) (pe_op op_catA (pe_slice sl_tupA (pv 5) po_none (po_some (pv 1))) (pe_slice sl_tupA (pv 5) (po_some (pe_op op_add (pv 1) pe_int)) po_none)))
      (pss_one (ps_dput (hu_of hr) (pv 2) (pv 6) (pe_op op_cat (pe_dget2 (hu_of hr) (pv 2) (pv 6) (pe_lst pa_nil) ⟨rfl, rfl, rfl, rfl⟩) (pe_lst (pa_cons (pe_tup (pa_cons (pe_ix ix_tup (pv 5) (pv 1) (fun _ _ => rfl)) (pa_cons (pv 3) pa_nil))) pa_nil))) rfl))))))
      (pss_one (ps_ret (pe_lock (pe_dcT (own := [("line", 6)]) (g := (gName 6)) (tt := tYes) (hu_of hr) rfl sc_rows_along.nd (pi_keys (pv 2)) (blkOk_by (N := ["bodies", "axis", "found", "body", "cells", "cell", "line"]) (sc := defScope s_rows_along) (by decide +kernel)) (fun _ _ _ _ _ => (pg_name (i := 6) sc_rows_along.nd rfl (by first | exact Or.inl rfl | exact Or.inr rfl))) (fun _ _ _ _ _ => pts_nil) (fun _ _ _ _ _ => (pv 6)) (fun _ _ _ _ _ => (pe_callB (cK (K := K) rfl cr_sortedPO) (by rfl) (S.free 47) (by decide +kernel) (pa_cons (pe_dget (hu_of hr) (pv 2) (pv 6) (fun _ _ => rfl)) pa_nil))))))))), ?_⟩
    have hl : us.length = B'.length := Paired.len hp
    try simp only [wipe, tC, tVar, tChain, rI0, rI, rU, tOp, tUn, tCall, tAnd, tOr, tNot, tNotV, tAndV, tOrV, tTest, tB, tIf, tIfS, tRet, tRetN, tNext, tSeq, tNil, tCons, tAug, ipI, tPar, tAsg, gName, tDrop, tLst, tTup, tCB, tBM, tBM0, tFld_eq, tMkE, tMake, tAugS, gSub, rEq, rAll, rMax, rSum, rAppend, rExtend, rSetL, _root_.L2.start, List.map_cons, List.map_nil, List.length_cons, List.length_nil, List.replicate_succ, List.replicate_zero, List.cons_append, List.nil_append, List.append_nil, List.getElem?_cons_zero, List.getElem?_cons_succ, List.set_cons_zero, List.set_cons_succ, Nat.reduceAdd, Nat.reduceSub, V.int.injEq, V.bl.injEq, V.ref.injEq, V.str.injEq, exists_eq, exists_eq', exists_eq_left, exists_eq_left', exists_and_left, exists_and_right, Option.some.injEq, List.cons.injEq, and_true, true_and, and_assoc, retV, true_or, or_true, decide_eq_true_eq, if_true, if_false, Bool.false_eq_true, Bool.not_true, Bool.not_false, Bool.not_eq_true', reduceCtorEq, eq_self, decide_true, decide_false, List.length_map, exists_const, false_and, and_false, or_false, false_or, tDNewT, ↓reduceIte]
    intro D nD
    have e0 : Same H (upd H D (.dT [])) := same_new nD
    refine for_en (xs := us) (a := tb) (fun Q h => ?_) (.inr (e0 _ _ htb)) (fun i σ H' => Same H H' ∧ (∃ u3 u4 u5 u6, σ = [some (.ref x), some (.int (a : Nat)), some (.ref D), u3, u4, u5, u6]) ∧ ∃ kvs, H' D = some (.dT kvs) ∧ kvs.length ≤ i * 60 ∧ Paired (RowA H') kvs (rowsOf a (occTo B' i)))
      ⟨e0, ⟨_, _, _, _, rfl⟩, [], upd_same, Nat.zero_le _, .nil⟩ (fun i σ H' _ h => ?_) (fun i u σ H' T hi hu h nT => ?_) (fun σ H' h => ?_)
    · try simp only [wipe, tC, tVar, tChain, rI0, rI, rU, tOp, tUn, tCall, tAnd, tOr, tNot, tNotV, tAndV, tOrV, tTest, tB, tIf, tIfS, tRet, tRetN, tNext, tSeq, tNil, tCons, tAug, ipI, tPar, tAsg, gName, tDrop, tLst, tTup, tCB, tBM, tBM0, tFld_eq, tMkE, tMake, tAugS, gSub, rEq, rAll, rMax, rSum, rAppend, rExtend, rSetL, _root_.L2.start, List.map_cons, List.map_nil, List.length_cons, List.length_nil, List.replicate_succ, List.replicate_zero, List.cons_append, List.nil_append, List.append_nil, List.getElem?_cons_zero, List.getElem?_cons_succ, List.set_cons_zero, List.set_cons_succ, Nat.reduceAdd, Nat.reduceSub, V.int.injEq, V.bl.injEq, V.ref.injEq, V.str.injEq, exists_eq, exists_eq', exists_eq_left, exists_eq_left', exists_and_left, exists_and_right, Option.some.injEq, List.cons.injEq, and_true, true_and, and_assoc, retV, true_or, or_true, decide_eq_true_eq, if_true, if_false, Bool.false_eq_true, Bool.not_true, Bool.not_false, Bool.not_eq_true', reduceCtorEq, eq_self, decide_true, decide_false, List.length_map, exists_const, false_and, and_false, or_false, false_or, ↓reduceIte]
      exact fld_at (e0 _ _ hx) (S.cls 60) (S.noat 66) rfl h
    · rw [h.1 _ _ htb, e0 _ _ htb]
    · obtain ⟨e, ⟨u3, u4, u5, u6, rfl⟩, kvs, hD, hkl, hk⟩ := h
      refine g_two rfl upd_same ?_
      have eT : Same H' (upd H' T (.tup [.int (i : Nat), u])) := same_new nT
      obtain ⟨cells, hcells, b, cs, rfl, hb, hbp⟩ := Paired.at hp hu
      have hb1 := eT _ _ (e _ _ hb)
      have lc : cs.length = cells.length := Paired.len hbp
      obtain ⟨l60, hcl⟩ := hB cells (List.mem_of_getElem? hcells)
      try simp only [wipe, tC, tVar, tChain, rI0, rI, rU, tOp, tUn, tCall, tAnd, tOr, tNot, tNotV, tAndV, tOrV, tTest, tB, tIf, tIfS, tRet, tRetN, tNext, tSeq, tNil, tCons, tAug, ipI, tPar, tAsg, gName, tDrop, tLst, tTup, tCB, tBM, tBM0, tFld_eq, tMkE, tMake, tAugS, gSub, rEq, rAll, rMax, rSum, rAppend, rExtend, rSetL, _root_.L2.start, List.map_cons, List.map_nil, List.length_cons, List.length_nil, List.replicate_succ, List.replicate_zero, List.cons_append, List.nil_append, List.append_nil, List.getElem?_cons_zero, List.getElem?_cons_succ, List.set_cons_zero, List.set_cons_succ, Nat.reduceAdd, Nat.reduceSub, V.int.injEq, V.bl.injEq, V.ref.injEq, V.str.injEq, exists_eq, exists_eq', exists_eq_left, exists_eq_left', exists_and_left, exists_and_right, Option.some.injEq, List.cons.injEq, and_true, true_and, and_assoc, retV, true_or, or_true, decide_eq_true_eq, if_true, if_false, Bool.false_eq_true, Bool.not_true, Bool.not_false, Bool.not_eq_true', reduceCtorEq, eq_self, decide_true, decide_false, List.length_map, exists_const, false_and, and_false, or_false, false_or, ↓reduceIte]
      refine for_go (gives_sq (xs := cs) (a := b) (fun Q h => ⟨_, rfl, h⟩) (.inr hb1)) (fun j σ H' => Same H H' ∧ (∃ u5 u6, σ = [some (.ref x), some (.int (a : Nat)), some (.ref D), some (.int (i : Nat)), some (.ref b), u5, u6]) ∧
          ∃ kvs, H' D = some (.dT kvs) ∧ kvs.length ≤ i * 60 + j ∧ Paired (RowA H') kvs (rowsOf a (occTo B' i ++ (cells.take j).map fun c => (i, c))))
        ⟨e.trans eT, ⟨_, _, rfl⟩, kvs, eT _ _ hD, hkl, by simpa using Paired.imp (fun _ _ k => k.same eT) hk⟩ (fun j σ H' _ h => ?_) (fun j y σ H5 hj hy h => ?_) (fun σ H5 h => ?_)
      · rw [h.1 _ _ hb, hb1]
      · obtain ⟨e5, ⟨u5, u6, rfl⟩, kvs5, hD5, hkl5, hk5⟩ := h
        obtain ⟨c, hc, t5, ns, rfl, ht5, htp⟩ := Paired.at hbp hy
        obtain rfl := ina_eq htp
        have hn := hcl c (List.mem_of_getElem? hc)
        have j60 : j < 60 := by omega
        have i12 : i < 12 := by omega
        have ol := occTo_len B' (fun b hb => (hB b hb).1) i
        try simp only [wipe, tC, tVar, tChain, rI0, rI, rU, tOp, tUn, tCall, tAnd, tOr, tNot, tNotV, tAndV, tOrV, tTest, tB, tIf, tIfS, tRet, tRetN, tNext, tSeq, tNil, tCons, tAug, ipI, tPar, tAsg, gName, tDrop, tLst, tTup, tCB, tBM, tBM0, tFld_eq, tMkE, tMake, tAugS, gSub, rEq, rAll, rMax, rSum, rAppend, rExtend, rSetL, _root_.L2.start, List.map_cons, List.map_nil, List.length_cons, List.length_nil, List.replicate_succ, List.replicate_zero, List.cons_append, List.nil_append, List.append_nil, List.getElem?_cons_zero, List.getElem?_cons_succ, List.set_cons_zero, List.set_cons_succ, Nat.reduceAdd, Nat.reduceSub, V.int.injEq, V.bl.injEq, V.ref.injEq, V.str.injEq, exists_eq, exists_eq', exists_eq_left, exists_eq_left', exists_and_left, exists_and_right, Option.some.injEq, List.cons.injEq, and_true, true_and, and_assoc, retV, true_or, or_true, decide_eq_true_eq, if_true, if_false, Bool.false_eq_true, Bool.not_true, Bool.not_false, Bool.not_eq_true', reduceCtorEq, eq_self, decide_true, decide_false, List.length_map, exists_const, false_and, and_false, or_false, false_or, tSl, tNoPart, tPart, ↓reduceIte]
        refine sl_take (a := a) (e5 _ _ ht5) fun p1 H6 e6 hp1 => ?_
        refine sl_drop (a := a + 1) (e6 _ _ (e5 _ _ ht5)) fun p2 H7 e7 hp2 => ?_
        refine cat_tup (e7 _ _ hp1) hp2 (Nat.le_trans (by simp; omega : _ ≤ 100) (by decide)) fun p3 H8 e8 hp3 => ?_
        have hp3' : H8 p3 = some (.tup ((ln a c).map V.int)) := by
          rw [hp3, ln, List.map_append, List.map_take, List.map_drop]
        have e58 : Same H5 H8 := e6.trans (e7.trans e8)
        have hD8 := e58 _ _ hD5
        have hk8 : Paired (RowA H8) kvs5 _ := Paired.imp (fun _ _ k => k.same e58) hk5
        try simp only [wipe, tC, tVar, tChain, rI0, rI, rU, tOp, tUn, tCall, tAnd, tOr, tNot, tNotV, tAndV, tOrV, tTest, tB, tIf, tIfS, tRet, tRetN, tNext, tSeq, tNil, tCons, tAug, ipI, tPar, tAsg, gName, tDrop, tLst, tTup, tCB, tBM, tBM0, tFld_eq, tMkE, tMake, tAugS, gSub, rEq, rAll, rMax, rSum, rAppend, rExtend, rSetL, _root_.L2.start, List.map_cons, List.map_nil, List.length_cons, List.length_nil, List.replicate_succ, List.replicate_zero, List.cons_append, List.nil_append, List.append_nil, List.getElem?_cons_zero, List.getElem?_cons_succ, List.set_cons_zero, List.set_cons_succ, Nat.reduceAdd, Nat.reduceSub, V.int.injEq, V.bl.injEq, V.ref.injEq, V.str.injEq, exists_eq, exists_eq', exists_eq_left, exists_eq_left', exists_and_left, exists_and_right, Option.some.injEq, List.cons.injEq, and_true, true_and, and_assoc, retV, true_or, or_true, decide_eq_true_eq, if_true, if_false, Bool.false_eq_true, Bool.not_true, Bool.not_false, Bool.not_eq_true', reduceCtorEq, eq_self, decide_true, decide_false, List.length_map, exists_const, false_and, and_false, or_false, false_or, sDPut, tDGet2, ↓reduceIte]
        refine ⟨.inr ⟨kvs5, .inl hD8⟩, by decide, fun pe npe => ?_⟩
        have e9 : Same H8 (upd H8 pe (.lst [])) := same_new npe
        have hk9 : Paired (RowA (upd H8 pe (.lst []))) kvs5 _ := Paired.imp (fun _ _ k => k.same e9) hk8
        obtain ⟨r, vs, hr1, hr2, hr3⟩ : ∃ r vs, (valV kvs5 (ky (ln a c))).getD (.ref pe) = .ref r ∧ (upd H8 pe (.lst [])) r = some (.lst vs) ∧ Paired (PrA (upd H8 pe (.lst []))) vs (curR (rowsOf a (occTo B' i ++ (cells.take j).map fun c => (i, c))) (ln a c)) := by
          rcases rows_get (l := ln a c) hk9 with ⟨h1, h2⟩ | ⟨r, vs, h1, h2, h3⟩
          · exact ⟨pe, [], by rw [h1]; rfl, upd_same, by rw [h2]; exact .nil⟩
          · exact ⟨r, vs, by rw [h1]; rfl, h2, h3⟩
        have hD9 := e9 _ _ hD8
        have e59 := e58.trans e9
        have ca : (c.map V.int)[a]? = some (.int (c.getD a 0)) := by
          have : a < c.length := by omega
          rw [List.getElem?_map, List.getElem?_eq_getElem this]
          simp [List.getD, this]
        refine ⟨_, DGet.t (k := ky (ln a c)) hD9 (by rw [ky_kV]; exact e9 _ _ hp3'), ?_⟩
        refine ⟨t5, _, (a : Int), _, rfl, rfl, sqT_of (e59 _ _ (e5 _ _ ht5)), HK.atI_nat ca, ?_⟩
        refine ⟨by decide, fun pt npt => ⟨by decide, fun pl npl => ?_⟩⟩
        rw [hr1]
        have e10 := same_new (o := .tup [.int (c.getD a 0), .int (i : Int)]) npt
        have e11 := same_new (o := .lst [.ref pt]) npl
        have lvs : vs.length ≤ 1000 := by
          rw [Paired.len hr3]
          refine Nat.le_trans (curR_len _ _ _) ?_
          rw [List.length_append, List.length_map, List.length_take]
          omega
        refine ⟨r, pl, vs, [.ref pt], rfl, rfl, e11 _ _ (e10 _ _ hr2), upd_same, Nat.le_trans (by simp; omega : vs.length + [V.ref pt].length ≤ 2000) (by decide), fun pr npr => ?_⟩
        have e12 := same_new (o := .lst (vs ++ [.ref pt])) npr
        have e912 := e10.trans (e11.trans e12)
        have hD12 := e912 _ _ hD9
        refine ⟨_, DPut.t (k := ky (ln a c)) hD12 (by rw [ky_kV]; exact e912 _ _ (e9 _ _ hp3')) (Nat.lt_of_lt_of_le (by omega : kvs5.length < 5000) (by decide)), same_mut (e5.trans (e59.trans e912)) nD, _, upd_same, Nat.le_trans (length_putK _ _ _) (by omega), ?_⟩
        rw [List.take_succ, hc, Option.toList_some, List.map_append, ← List.append_assoc]
        rw [show (occTo B' i ++ (cells.take j).map fun c => (i, c)) ++ [c].map (fun c => (i, c)) = (occTo B' i ++ (cells.take j).map fun c => (i, c)) ++ [(i, c)] from rfl, rowsOf_snoc]
        refine Paired.imp (fun _ _ k => k.dT hD12) (rows_put upd_same ?_ (Paired.imp (fun _ _ k => k.same e912) hk9))
        exact Paired.app (Paired.imp (fun _ _ k => k.tk (.of e912)) hr3) (.cons ⟨pt, rfl, e12 _ _ (e11 _ _ upd_same)⟩ .nil)
      · obtain ⟨e5, ⟨u5, u6, rfl⟩, kvs5, hD5, hkl5, hk5⟩ := h
        try simp only [wipe, tC, tVar, tChain, rI0, rI, rU, tOp, tUn, tCall, tAnd, tOr, tNot, tNotV, tAndV, tOrV, tTest, tB, tIf, tIfS, tRet, tRetN, tNext, tSeq, tNil, tCons, tAug, ipI, tPar, tAsg, gName, tDrop, tLst, tTup, tCB, tBM, tBM0, tFld_eq, tMkE, tMake, tAugS, gSub, rEq, rAll, rMax, rSum, rAppend, rExtend, rSetL, _root_.L2.start, List.map_cons, List.map_nil, List.length_cons, List.length_nil, List.replicate_succ, List.replicate_zero, List.cons_append, List.nil_append, List.append_nil, List.getElem?_cons_zero, List.getElem?_cons_succ, List.set_cons_zero, List.set_cons_succ, Nat.reduceAdd, Nat.reduceSub, V.int.injEq, V.bl.injEq, V.ref.injEq, V.str.injEq, exists_eq, exists_eq', exists_eq_left, exists_eq_left', exists_and_left, exists_and_right, Option.some.injEq, List.cons.injEq, and_true, true_and, and_assoc, retV, true_or, or_true, decide_eq_true_eq, if_true, if_false, Bool.false_eq_true, Bool.not_true, Bool.not_false, Bool.not_eq_true', reduceCtorEq, eq_self, decide_true, decide_false, List.length_map, exists_const, false_and, and_false, or_false, false_or, ↓reduceIte]
        refine ⟨e5, kvs5, hD5, by omega, ?_⟩
        rw [occTo_succ, show B'.getD i [] = cells by simp [List.getD, hcells]]
        rw [lc, List.take_length] at hk5
        exact hk5
    · obtain ⟨e, ⟨u3, u4, u5, u6, rfl⟩, kvs, hD, hkl, hk⟩ := h
      try simp only [wipe, tC, tVar, tChain, rI0, rI, rU, tOp, tUn, tCall, tAnd, tOr, tNot, tNotV, tAndV, tOrV, tTest, tB, tIf, tIfS, tRet, tRetN, tNext, tSeq, tNil, tCons, tAug, ipI, tPar, tAsg, gName, tDrop, tLst, tTup, tCB, tBM, tBM0, tFld_eq, tMkE, tMake, tAugS, gSub, rEq, rAll, rMax, rSum, rAppend, rExtend, rSetL, _root_.L2.start, List.map_cons, List.map_nil, List.length_cons, List.length_nil, List.replicate_succ, List.replicate_zero, List.cons_append, List.nil_append, List.append_nil, List.getElem?_cons_zero, List.getElem?_cons_succ, List.set_cons_zero, List.set_cons_succ, Nat.reduceAdd, Nat.reduceSub, V.int.injEq, V.bl.injEq, V.ref.injEq, V.str.injEq, exists_eq, exists_eq', exists_eq_left, exists_eq_left', exists_and_left, exists_and_right, Option.some.injEq, List.cons.injEq, and_true, true_and, and_assoc, retV, true_or, or_true, decide_eq_true_eq, if_true, if_false, Bool.false_eq_true, Bool.not_true, Bool.not_false, Bool.not_eq_true', reduceCtorEq, eq_self, decide_true, decide_false, List.length_map, exists_const, false_and, and_false, or_false, false_or, tLockE, ↓reduceIte]
      refine ⟨D, _, hD, trivial, fun od => ?_⟩
      refine ⟨.ref D, rfl, D, od, rfl, .inr ⟨kvs, upd_same, fun D2 nD2 => ?_⟩⟩
      have nDD : D2 ≠ D := fun z => by rw [z, upd_same] at nD2; cases nD2
      have nD2' : H' D2 = none := by rw [upd_ne nDD] at nD2; exact nD2
      refine dcT_keys (D := D2) (H := upd H' D (.frz od (.dT kvs))) (Q := fun v H' => H' D = some (.frz od (.dT kvs)) ∧ Q v (upd H' D (.dT kvs))) (tv := tCB (rSortedPO K) (tCons (tDGet (tVar 2) (tVar 6)) tNil)) (j := 6) (vs := [6]) (σ := [some (.ref x), some (.int (a : Nat)), some (.ref D), u3, u4, u5, u6]) (fun i H5 => (∃ rows kvs2, H5 D2 = some (.dT kvs2) ∧ Paired (RowA H5) kvs2 rows ∧ Paired SrtRow rows ((rowsOf a (occTo B' B'.length)).take i)) ∧ H5 D = some (.frz od (.dT kvs)) ∧ (∀ z o, z ≠ D → H' z = some o → H5 z = some o)) (fun x => rfl) (fun x => rfl) ?_ (fun i H5 _ h => h.2.1) (fun i k v p H5 N hkv h hp5 hN => ?_) fun H5 h => ?_
      · refine ⟨⟨[], [], upd_same, .nil, .nil⟩, by rw [upd_ne nDD.symm]; exact upd_same, fun z o hz ho => ?_⟩
        rw [upd_ne (ne_of_none ho nD2'), upd_ne hz]
        exact ho
      · obtain ⟨⟨rows, kvs2, hD2, hk2, hs2⟩, hDf, hoff⟩ := h
        obtain ⟨g, hg, hkv1, _⟩ := Paired.at hk hkv
        rw [hl] at hg
        have hkv1 : k = ky g.1 := hkv1
        subst hkv1
        have hgm := List.mem_of_getElem? hg
        have hnd := rowsOf_nodup a (occTo B' B'.length)
        have hk5 : Paired (RowA H5) kvs (rowsOf a (occTo B' us.length)) := Paired.imp (fun _ _ z => z.off hD hoff) hk
        have lr : rows.length = i := by
          rw [Paired.len hs2, List.length_take]
          have := (List.getElem?_eq_some_iff.1 hg).1
          omega
        have lk2 : kvs2.length = i := (Paired.len hk2).trans lr
        have li := (List.getElem?_eq_some_iff.1 hkv).1
        have vd : valV kvs2 (ky g.1) = none := by
          rcases rows_get (l := g.1) hk2 with ⟨h1, _⟩ | ⟨r, vs, h1, _⟩
          · exact h1
          · exfalso
            have hin := valV_in h1
            obtain ⟨kv, hkvm, ekv⟩ := List.mem_map.1 hin
            obtain ⟨j, hj⟩ := List.getElem?_of_mem hkvm
            obtain ⟨row, hrow, e1, _⟩ := Paired.at hk2 hj
            obtain ⟨g2, hg2, e2, _⟩ := Paired.at hs2 hrow
            have e3 : g2.1 = g.1 := e2.symm.trans (ky_inj (e1.symm.trans ekv))
            rw [List.getElem?_take] at hg2
            split at hg2
            · rename_i hji
              have m1 : ((rowsOf a (occTo B' B'.length)).map (·.1))[j]? = some g.1 := by rw [List.getElem?_map, hg2, ← e3]; rfl
              have m2 : ((rowsOf a (occTo B' B'.length)).map (·.1))[i]? = some g.1 := by rw [List.getElem?_map, hg]; rfl
              obtain ⟨q1, q2⟩ := List.getElem?_eq_some_iff.1 m1
              obtain ⟨q3, q4⟩ := List.getElem?_eq_some_iff.1 m2
              have := (List.getElem_inj hnd).1 (q2.trans q4.symm)
              omega
            · cases hg2
        rw [hl] at hk5
        rcases rows_get (l := g.1) hk5 with ⟨h1, _⟩ | ⟨r, vs, h1, h2, h3⟩
        · exfalso
          have := rows_any (l := g.1) hk5
          rw [valV_any, h1] at this
          have h4 := List.any_eq_false.1 this.symm g hgm
          simp at h4
        · rw [curR_mem hnd hgm] at h3
          try simp only [wipe, tC, tVar, tChain, rI0, rI, rU, tOp, tUn, tCall, tAnd, tOr, tNot, tNotV, tAndV, tOrV, tTest, tB, tIf, tIfS, tRet, tRetN, tNext, tSeq, tNil, tCons, tAug, ipI, tPar, tAsg, gName, tDrop, tLst, tTup, tCB, tBM, tBM0, tFld_eq, tMkE, tMake, tAugS, gSub, rEq, rAll, rMax, rSum, rAppend, rExtend, rSetL, _root_.L2.start, List.map_cons, List.map_nil, List.length_cons, List.length_nil, List.replicate_succ, List.replicate_zero, List.cons_append, List.nil_append, List.append_nil, List.getElem?_cons_zero, List.getElem?_cons_succ, List.set_cons_zero, List.set_cons_succ, Nat.reduceAdd, Nat.reduceSub, V.int.injEq, V.bl.injEq, V.ref.injEq, V.str.injEq, exists_eq, exists_eq', exists_eq_left, exists_eq_left', exists_and_left, exists_and_right, Option.some.injEq, List.cons.injEq, and_true, true_and, and_assoc, retV, true_or, or_true, decide_eq_true_eq, if_true, if_false, Bool.false_eq_true, Bool.not_true, Bool.not_false, Bool.not_eq_true', reduceCtorEq, eq_self, decide_true, decide_false, List.length_map, exists_const, false_and, and_false, or_false, false_or, tDGet, ↓reduceIte]
          refine ⟨.ref r, by rw [← h1]; exact .inr ⟨kvs, ky g.1, p, .inr ⟨od, hDf⟩, rfl, hp5, rfl⟩, ?_⟩
          refine sorted_row h2 h3 fun p6 ys row' np6 hys hperm hsrt => ?_
          have e6 : Same H5 (upd H5 p6 (.lst ys)) := same_new np6
          refine hN _ _ kvs2 (e6 _ _ hp5) (e6 _ _ hD2) (Nat.lt_of_lt_of_le (by omega : kvs2.length < 5000) (by decide)) ?_
          have nD6 : D ≠ D2 := nDD.symm
          refine ⟨⟨rows ++ [(g.1, row')], _, upd_same, ?_, ?_⟩, by rw [upd_ne nD6]; exact e6 _ _ hDf, fun z o hz ho => ?_⟩
          · rw [putK_new _ vd]
            refine Paired.imp (fun _ _ z => z.dT (e6 _ _ hD2)) (Paired.app (Paired.imp (fun _ _ z => z.same e6) hk2) (.cons ⟨rfl, p6, ys, rfl, upd_same, Paired.imp (fun _ _ z => z.tk (.of e6)) hys⟩ .nil))
          · rw [List.take_succ, hg]
            exact Paired.app hs2 (.cons ⟨rfl, hperm, hsrt⟩ .nil)
          · rw [upd_ne (ne_of_none ho nD2')]
            exact e6 _ _ (hoff z o hz ho)
      · obtain ⟨⟨rows, kvs2, hD2, hk2, hs2⟩, hDf, hoff⟩ := h
        have lk : kvs.length = (rowsOf a (occTo B' B'.length)).length := by rw [← hl]; exact Paired.len hk
        rw [lk, List.take_length] at hs2
        refine ⟨hDf, q D2 _ rows (fun z o ho => ?_) (e.free nD2') ⟨D2, kvs2, rfl, by rw [upd_ne nDD]; exact hD2, ?_⟩ hs2⟩
        · have hz : z ≠ D := fun w => by rw [w, nD] at ho; cases ho
          rw [upd_ne hz]
          exact hoff z o hz (e _ _ ho)
        · refine Paired.imp (fun kv g z => ?_) hk2
          obtain ⟨h1, r, vs, h2, h3, h4⟩ := z
          refine ⟨h1, r, vs, h2, by rw [upd_ne (ne_of h3 hDf (fun z => nomatch z))]; exact h3, Paired.imp (fun v p ⟨t, k1, k2⟩ => ⟨t, k1, by rw [upd_ne (ne_of k2 hDf (fun z => nomatch z))]; exact k2⟩) h4⟩
end
end K78
set_option Elab.async false
set_option linter.all false
set_option maxRecDepth 100000
set_option maxHeartbeats 4000000
/-! k78: the class Gaps -/
namespace K78
open PySem PySem.Spec PyProof.Rows L2 He HK
abbrev GR := List (List (Option Int))
def ov : Option Int → V
  | none => .non
  | some i => .int i
def OnA : RlA (Option Int) := fun _ _ v o => v = ov o
theorem fam_on : Fam OnA := ⟨fun _ h => h, fun _ h => h, fun h => h⟩
theorem famT_on : FamT OnA := ⟨fun _ h => h⟩
theorem on_eq {A : Addr → Prop} {H : Hp} : ∀ {vs : List V} {os : List (Option Int)}, Paired (OnA A H) vs os → vs = os.map ov
  | _, _, .nil => rfl
  | _, _, .cons r t => by rw [List.map_cons, ← on_eq t, show _ = _ from r]
theorem on_of {A : Addr → Prop} {H : Hp} : ∀ (os : List (Option Int)), Paired (OnA A H) (os.map ov) os
  | [] => .nil
  | _ :: t => .cons rfl (on_of t)
theorem ov_non {o : Option Int} : ov o = .non ↔ o = none := by
  cases o with
  | none => exact ⟨fun _ => rfl, fun _ => rfl⟩
  | some i => exact ⟨fun h => (by cases h), fun h => (by cases h)⟩
/-- xs[b] of a list or a tuple -/
theorem ixs_at {K : PySem.W.Frag} {H : Hp} {Q : VK} {p : Addr} {xs : List V} {b : Nat} {v : V} (h : Sq H p xs) (hv : xs[b]? = some v) (q : Q v H) : rIx K (.ref p) (.int b) H Q := by
  rcases h with h | h
  · exact .inl (ix_at h hv q)
  · exact .inr (.inl (ixt_at h hv q))
def RowOk (m b : Nat) (row : List (Option Int)) : Prop := row.length = m ∧ row[b]? = some (some 0) ∧ ∀ i : Int, some i ∈ row → -10000 ≤ i ∧ i ≤ 10000
def GapsOk (m : Nat) (R : GR) : Prop := m ≤ 12 ∧ R.length = m ∧ ∀ (b : Nat) (row : List (Option Int)), R[b]? = some row → RowOk m b row
def sp_is_gap_row : Sp := fun vs H Q _ => ∃ (m b : Nat) (v : V) (row : List (Option Int)), vs = [.int m, .int b, v] ∧ SqF OnA No H v row ∧ m ≤ 12 ∧ RowOk m b row ∧ RetV (.bl true) H Q
/-- the tuple of rows -/
def GapR (R : GR) : Hp → V → Prop := fun H v => TpF (TpF OnA) No H v R
theorem famT_gap {R : GR} {H H' : Hp} {v : V} (e : Tk H H') (h : GapR R H v) : GapR R H' v := (famT_tp (famT_tp famT_on)).tk e h
def sp_told_gaps : Sp := fun vs H Q _ => ∃ (m : Nat) (v : V) (R : GR), vs = [.int m, v] ∧ SqF (SqF OnA) No H v R ∧ GapsOk m R ∧ Ret (GapR R) H Q
section
variable {w : World} {K : PySem.W.Frag} {mg : Str → Option Value} {base : Heap}
theorem C_is_gap_row (S : Sc K mg) : Cal prg w K mg base CX0 "is_gap_row" 3 ["many", "body", "value"] [] sp_is_gap_row := by
  have C_is_row := C_is_row (w := w) (base := base) S
  have C_is_between := C_is_between (w := w) (base := base) S
  refine S.cal (d := d_is_gap_row) 15 11 sc_is_gap_row rfl rfl rfl rfl rfl (fun _ _ _ _ _ _ us hl => match us, hl with | [_, _, _], _ => rfl) (fun vs H Q E h => ?_) (fun f cdv A outer s H vs Q E hr h => ?_)
  · obtain ⟨m, b, v, row, rfl, _⟩ := h
    rfl
  · obtain ⟨m, b, v, row, rfl, ⟨a, xs, rfl, _, hs, hp⟩, m12, ⟨l1, l2, l3⟩, q⟩ := h
    obtain rfl := on_eq hp
    refine ⟨_, (pss_cons (ps_if (PW.pt (pw_or (pt_not (pt_val (pe_c C_is_row (hr.mono (by omega)) pass0 (pa_cons (pv 2) (pa_cons (pv 0) pa_nil))))) (pw_or1 (pt_not (pt_val (pe_c C_is_between (hr.mono (by omega)) pass0 (pa_cons (pe_ix ix_seq (pv 2) (pv 1) (fun _ _ => rfl)) (pa_cons pe_int (pa_cons pe_int pa_nil))))))))) (pss_one (ps_ret pe_bl)) pss_nil)
      (pss_one (ps_ret (pe_callB (cr_all rfl) (by rfl) (S.free 37) (by decide +kernel) (pa_cons (pe_lc (own := [("gap", 3)]) (g := (gName 3)) (tt := tYes) rfl sc_is_gap_row.nd (pi_seq (pv 2)) (blkOk_by (N := ["many", "body", "value", "gap"]) (sc := defScope s_is_gap_row) (by decide +kernel)) (fun _ _ _ _ _ => (pg_name (i := 3) sc_is_gap_row.nd rfl (by first | exact Or.inl rfl | exact Or.inr rfl))) (fun _ _ _ _ _ => pts_nil) (fun _ _ _ _ _ => (pe_or (pe_cmpR op_isN (pv 3) pe_non (nomark _)) (pe_one (pe_c C_is_between (hr.mono (by omega)) pass0 (pa_cons (pv 3) (pa_cons (pe_un un_neg (pe_gi (S.int 56))) (pa_cons (pe_gi (S.int 56)) pa_nil)))))))) pa_nil))))), ?_⟩
    try simp only [wipe, tC, tVar, tChain, rI0, rI, rU, tOp, tUn, tCall, tAnd, tOr, tNot, tNotV, tAndV, tOrV, tTest, tB, tIf, tIfS, tRet, tRetN, tNext, tSeq, tNil, tCons, tAug, ipI, tPar, tAsg, gName, tDrop, tLst, tTup, tCB, tBM, tBM0, tFld_eq, tMkE, tMake, tAugS, gSub, rEq, rAll, rMax, rSum, rAppend, rExtend, rSetL, _root_.L2.start, List.map_cons, List.map_nil, List.length_cons, List.length_nil, List.replicate_succ, List.replicate_zero, List.cons_append, List.nil_append, List.append_nil, List.getElem?_cons_zero, List.getElem?_cons_succ, List.set_cons_zero, List.set_cons_succ, Nat.reduceAdd, Nat.reduceSub, V.int.injEq, V.bl.injEq, V.ref.injEq, V.str.injEq, exists_eq, exists_eq', exists_eq_left, exists_eq_left', exists_and_left, exists_and_right, Option.some.injEq, List.cons.injEq, and_true, true_and, and_assoc, retV, true_or, or_true, decide_eq_true_eq, if_true, if_false, Bool.false_eq_true, Bool.not_true, Bool.not_false, Bool.not_eq_true', reduceCtorEq, eq_self, decide_true, decide_false, List.length_map, exists_const, false_and, and_false, or_false, false_or, ↓reduceIte]
    refine ⟨a, row.map ov, m, rfl, hs, retV.2 fun H1 e1 => ?_⟩
    rw [show decide (((row.map ov).length : Int) = (m : Int)) = true from decide_eq_true (by rw [List.length_map, l1])]
    try simp only [wipe, tC, tVar, tChain, rI0, rI, rU, tOp, tUn, tCall, tAnd, tOr, tNot, tNotV, tAndV, tOrV, tTest, tB, tIf, tIfS, tRet, tRetN, tNext, tSeq, tNil, tCons, tAug, ipI, tPar, tAsg, gName, tDrop, tLst, tTup, tCB, tBM, tBM0, tFld_eq, tMkE, tMake, tAugS, gSub, rEq, rAll, rMax, rSum, rAppend, rExtend, rSetL, _root_.L2.start, List.map_cons, List.map_nil, List.length_cons, List.length_nil, List.replicate_succ, List.replicate_zero, List.cons_append, List.nil_append, List.append_nil, List.getElem?_cons_zero, List.getElem?_cons_succ, List.set_cons_zero, List.set_cons_succ, Nat.reduceAdd, Nat.reduceSub, V.int.injEq, V.bl.injEq, V.ref.injEq, V.str.injEq, exists_eq, exists_eq', exists_eq_left, exists_eq_left', exists_and_left, exists_and_right, Option.some.injEq, List.cons.injEq, and_true, true_and, and_assoc, retV, true_or, or_true, decide_eq_true_eq, if_true, if_false, Bool.false_eq_true, Bool.not_true, Bool.not_false, Bool.not_eq_true', reduceCtorEq, eq_self, decide_true, decide_false, List.length_map, exists_const, false_and, and_false, or_false, false_or, ↓reduceIte]
    refine ixs_at (hs.same e1) (v := .int 0) (by rw [List.getElem?_map, l2]; rfl) ?_
    try simp only [wipe, tC, tVar, tChain, rI0, rI, rU, tOp, tUn, tCall, tAnd, tOr, tNot, tNotV, tAndV, tOrV, tTest, tB, tIf, tIfS, tRet, tRetN, tNext, tSeq, tNil, tCons, tAug, ipI, tPar, tAsg, gName, tDrop, tLst, tTup, tCB, tBM, tBM0, tFld_eq, tMkE, tMake, tAugS, gSub, rEq, rAll, rMax, rSum, rAppend, rExtend, rSetL, _root_.L2.start, List.map_cons, List.map_nil, List.length_cons, List.length_nil, List.replicate_succ, List.replicate_zero, List.cons_append, List.nil_append, List.append_nil, List.getElem?_cons_zero, List.getElem?_cons_succ, List.set_cons_zero, List.set_cons_succ, Nat.reduceAdd, Nat.reduceSub, V.int.injEq, V.bl.injEq, V.ref.injEq, V.str.injEq, exists_eq, exists_eq', exists_eq_left, exists_eq_left', exists_and_left, exists_and_right, Option.some.injEq, List.cons.injEq, and_true, true_and, and_assoc, retV, true_or, or_true, decide_eq_true_eq, if_true, if_false, Bool.false_eq_true, Bool.not_true, Bool.not_false, Bool.not_eq_true', reduceCtorEq, eq_self, decide_true, decide_false, List.length_map, exists_const, false_and, and_false, or_false, false_or, sp_is_between, ↓reduceIte]
    intro H2 e2
    rw [decide_eq_true (by decide : (0 : Int) ≤ 0 ∧ (0 : Int) ≤ 0)]
    try simp only [wipe, tC, tVar, tChain, rI0, rI, rU, tOp, tUn, tCall, tAnd, tOr, tNot, tNotV, tAndV, tOrV, tTest, tB, tIf, tIfS, tRet, tRetN, tNext, tSeq, tNil, tCons, tAug, ipI, tPar, tAsg, gName, tDrop, tLst, tTup, tCB, tBM, tBM0, tFld_eq, tMkE, tMake, tAugS, gSub, rEq, rAll, rMax, rSum, rAppend, rExtend, rSetL, _root_.L2.start, List.map_cons, List.map_nil, List.length_cons, List.length_nil, List.replicate_succ, List.replicate_zero, List.cons_append, List.nil_append, List.append_nil, List.getElem?_cons_zero, List.getElem?_cons_succ, List.set_cons_zero, List.set_cons_succ, Nat.reduceAdd, Nat.reduceSub, V.int.injEq, V.bl.injEq, V.ref.injEq, V.str.injEq, exists_eq, exists_eq', exists_eq_left, exists_eq_left', exists_and_left, exists_and_right, Option.some.injEq, List.cons.injEq, and_true, true_and, and_assoc, retV, true_or, or_true, decide_eq_true_eq, if_true, if_false, Bool.false_eq_true, Bool.not_true, Bool.not_false, Bool.not_eq_true', reduceCtorEq, eq_self, decide_true, decide_false, List.length_map, exists_const, false_and, and_false, or_false, false_or, ↓reduceIte]
    have hs2 := hs.same (e1.trans e2)
    refine lc_map (gives_sq (fun Q h => ⟨_, rfl, h⟩) hs2) (Box.none (A := No) (fun _ z => z.elim)) (fun H' e => hs2.keep (fun z => z) e) (by rw [List.length_map]; exact Nat.le_trans (by omega : row.length ≤ 12) (by decide)) (fun x => rfl) fam_eq row (by simp) (fun _ => V.bl true) (fun n x z H' D N hx hz e _ _ hN => ?_) fun ys H' D e _ nD _ hD hp => ?_
    · rw [List.getElem?_map, hz] at hx
      obtain rfl := Option.some.inj hx
      have hm := List.mem_of_getElem? hz
      cases z with
      | none =>
        try simp only [wipe, tC, tVar, tChain, rI0, rI, rU, tOp, tUn, tCall, tAnd, tOr, tNot, tNotV, tAndV, tOrV, tTest, tB, tIf, tIfS, tRet, tRetN, tNext, tSeq, tNil, tCons, tAug, ipI, tPar, tAsg, gName, tDrop, tLst, tTup, tCB, tBM, tBM0, tFld_eq, tMkE, tMake, tAugS, gSub, rEq, rAll, rMax, rSum, rAppend, rExtend, rSetL, _root_.L2.start, List.map_cons, List.map_nil, List.length_cons, List.length_nil, List.replicate_succ, List.replicate_zero, List.cons_append, List.nil_append, List.append_nil, List.getElem?_cons_zero, List.getElem?_cons_succ, List.set_cons_zero, List.set_cons_succ, Nat.reduceAdd, Nat.reduceSub, V.int.injEq, V.bl.injEq, V.ref.injEq, V.str.injEq, exists_eq, exists_eq', exists_eq_left, exists_eq_left', exists_and_left, exists_and_right, Option.some.injEq, List.cons.injEq, and_true, true_and, and_assoc, retV, true_or, or_true, decide_eq_true_eq, if_true, if_false, Bool.false_eq_true, Bool.not_true, Bool.not_false, Bool.not_eq_true', reduceCtorEq, eq_self, decide_true, decide_false, List.length_map, exists_const, false_and, and_false, or_false, false_or, ov, ↓reduceIte]
        exact hN _ _ (SameO.refl _ _) trivial rfl
      | some i =>
        try simp only [wipe, tC, tVar, tChain, rI0, rI, rU, tOp, tUn, tCall, tAnd, tOr, tNot, tNotV, tAndV, tOrV, tTest, tB, tIf, tIfS, tRet, tRetN, tNext, tSeq, tNil, tCons, tAug, ipI, tPar, tAsg, gName, tDrop, tLst, tTup, tCB, tBM, tBM0, tFld_eq, tMkE, tMake, tAugS, gSub, rEq, rAll, rMax, rSum, rAppend, rExtend, rSetL, _root_.L2.start, List.map_cons, List.map_nil, List.length_cons, List.length_nil, List.replicate_succ, List.replicate_zero, List.cons_append, List.nil_append, List.append_nil, List.getElem?_cons_zero, List.getElem?_cons_succ, List.set_cons_zero, List.set_cons_succ, Nat.reduceAdd, Nat.reduceSub, V.int.injEq, V.bl.injEq, V.ref.injEq, V.str.injEq, exists_eq, exists_eq', exists_eq_left, exists_eq_left', exists_and_left, exists_and_right, Option.some.injEq, List.cons.injEq, and_true, true_and, and_assoc, retV, true_or, or_true, decide_eq_true_eq, if_true, if_false, Bool.false_eq_true, Bool.not_true, Bool.not_false, Bool.not_eq_true', reduceCtorEq, eq_self, decide_true, decide_false, List.length_map, exists_const, false_and, and_false, or_false, false_or, ov, sp_is_between, ↓reduceIte]
        intro H4 e4
        rw [decide_eq_true (l3 i hm)]
        exact hN _ _ (.of e4) trivial rfl
    · refine ⟨D, rfl, row.map fun _ => true, ?_⟩
      have hy : ys = (row.map fun _ => true).map V.bl := by rw [eqa_eq hp, List.map_map]; rfl
      rw [← hy]
      refine ⟨sqL_of hD, q.go (e1.trans (e2.trans e.same)) ?_⟩
      simp
theorem C_told_gaps (S : Sc K mg) : Cal prg w K mg base CX0 "told_gaps" 4 ["many", "rows"] [] sp_told_gaps := by
  have C_is_row := C_is_row (w := w) (base := base) S
  have C_is_gap_row := C_is_gap_row (w := w) (base := base) S
  refine S.cal (d := d_told_gaps) 16 12 sc_told_gaps rfl rfl rfl rfl rfl (fun _ _ _ _ _ _ us hl => match us, hl with | [_, _], _ => rfl) (fun vs H Q E h => ?_) (fun f cdv A outer s H vs Q E hr h => ?_)
  · obtain ⟨m, v, u, rfl, _⟩ := h
    rfl
  · obtain ⟨m, v, R, rfl, ⟨a, xs, rfl, _, hs, hp⟩, ⟨m12, lR, O⟩, q⟩ := h
    refine ⟨_, (pss_cons (ps_if (pt_not (pt_val (pe_c C_is_row (hr.mono (by omega)) pass0 (pa_cons (pv 1) (pa_cons (pv 0) pa_nil))))) (pss_one ps_never) pss_nil)
      (pss_cons (ps_for PassesOwn.never rfl (pi_enS (S.free 39) (pa_cons (pv 1) pa_nil)) (pg_tup (by rfl) (pgs_cons (pg_name (i := 2) sc_told_gaps.nd rfl (by first | exact Or.inl rfl | exact Or.inr rfl)) (pgs_cons (pg_name (i := 3) sc_told_gaps.nd rfl (by first | exact Or.inl rfl | exact Or.inr rfl)) pgs_nil))) (pss_one (ps_if (pt_not (pt_val (pe_c C_is_gap_row (hr.mono (by omega)) pass0 (pa_cons (pv 0) (pa_cons (pv 2) (pa_cons (pv 3) pa_nil)))))) (pss_one ps_never) pss_nil)))
      (pss_one (ps_ret (pe_callTy cr_tupA (by rfl) (S.free 50) (by decide +kernel) (pa_cons (pe_lc (own := [("row", 4)]) (g := (gName 4)) (tt := tYes) rfl sc_told_gaps.nd (pi_seq (pv 1)) (blkOk_by (N := ["many", "rows", "at", "value", "row"]) (sc := defScope s_told_gaps) (by decide +kernel)) (fun _ _ _ _ _ => (pg_name (i := 4) sc_told_gaps.nd rfl (by first | exact Or.inl rfl | exact Or.inr rfl))) (fun _ _ _ _ _ => pts_nil) (fun _ _ _ _ _ => (pe_callTy (cK (K := K) rfl cr_tupA) (by rfl) (S.free 50) (by decide +kernel) (pa_cons (pv 4) pa_nil)))) pa_nil)))))), ?_⟩
    have hl : xs.length = R.length := Paired.len hp
    try simp only [wipe, tC, tVar, tChain, rI0, rI, rU, tOp, tUn, tCall, tAnd, tOr, tNot, tNotV, tAndV, tOrV, tTest, tB, tIf, tIfS, tRet, tRetN, tNext, tSeq, tNil, tCons, tAug, ipI, tPar, tAsg, gName, tDrop, tLst, tTup, tCB, tBM, tBM0, tFld_eq, tMkE, tMake, tAugS, gSub, rEq, rAll, rMax, rSum, rAppend, rExtend, rSetL, _root_.L2.start, List.map_cons, List.map_nil, List.length_cons, List.length_nil, List.replicate_succ, List.replicate_zero, List.cons_append, List.nil_append, List.append_nil, List.getElem?_cons_zero, List.getElem?_cons_succ, List.set_cons_zero, List.set_cons_succ, Nat.reduceAdd, Nat.reduceSub, V.int.injEq, V.bl.injEq, V.ref.injEq, V.str.injEq, exists_eq, exists_eq', exists_eq_left, exists_eq_left', exists_and_left, exists_and_right, Option.some.injEq, List.cons.injEq, and_true, true_and, and_assoc, retV, true_or, or_true, decide_eq_true_eq, if_true, if_false, Bool.false_eq_true, Bool.not_true, Bool.not_false, Bool.not_eq_true', reduceCtorEq, eq_self, decide_true, decide_false, List.length_map, exists_const, false_and, and_false, or_false, false_or, ↓reduceIte]
    refine ⟨a, xs, m, rfl, hs, retV.2 fun H1 e1 => ?_⟩
    rw [show decide ((xs.length : Int) = (m : Int)) = true from decide_eq_true (by omega)]
    try simp only [wipe, tC, tVar, tChain, rI0, rI, rU, tOp, tUn, tCall, tAnd, tOr, tNot, tNotV, tAndV, tOrV, tTest, tB, tIf, tIfS, tRet, tRetN, tNext, tSeq, tNil, tCons, tAug, ipI, tPar, tAsg, gName, tDrop, tLst, tTup, tCB, tBM, tBM0, tFld_eq, tMkE, tMake, tAugS, gSub, rEq, rAll, rMax, rSum, rAppend, rExtend, rSetL, _root_.L2.start, List.map_cons, List.map_nil, List.length_cons, List.length_nil, List.replicate_succ, List.replicate_zero, List.cons_append, List.nil_append, List.append_nil, List.getElem?_cons_zero, List.getElem?_cons_succ, List.set_cons_zero, List.set_cons_succ, Nat.reduceAdd, Nat.reduceSub, V.int.injEq, V.bl.injEq, V.ref.injEq, V.str.injEq, exists_eq, exists_eq', exists_eq_left, exists_eq_left', exists_and_left, exists_and_right, Option.some.injEq, List.cons.injEq, and_true, true_and, and_assoc, retV, true_or, or_true, decide_eq_true_eq, if_true, if_false, Bool.false_eq_true, Bool.not_true, Bool.not_false, Bool.not_eq_true', reduceCtorEq, eq_self, decide_true, decide_false, List.length_map, exists_const, false_and, and_false, or_false, false_or, ↓reduceIte]
    refine for_en (fun Q h => ⟨_, rfl, h⟩) (hs.same e1) (fun i σ H' => Same H H' ∧ (∃ u v w, σ = [some (.int m), some (.ref a), u, v, w]))
      ⟨e1, ⟨_, _, _, rfl⟩⟩ (fun i σ H' _ h => ?_) (fun i x σ H' T hi hx h nT => ?_) (fun σ H' h => ?_)
    · rw [(hs.keep (A := No) (fun z => z) (.of h.1)), (hs.keep (A := No) (fun z => z) (.of e1))]
    · obtain ⟨e, ⟨u2, v2, w2, rfl⟩⟩ := h
      refine g_two rfl upd_same ?_
      have eT : Same H' (upd H' T (.tup [.int (i : Nat), x])) := same_new nT
      obtain ⟨u, hu, hr0⟩ := Paired.at hp hx
      try simp only [wipe, tC, tVar, tChain, rI0, rI, rU, tOp, tUn, tCall, tAnd, tOr, tNot, tNotV, tAndV, tOrV, tTest, tB, tIf, tIfS, tRet, tRetN, tNext, tSeq, tNil, tCons, tAug, ipI, tPar, tAsg, gName, tDrop, tLst, tTup, tCB, tBM, tBM0, tFld_eq, tMkE, tMake, tAugS, gSub, rEq, rAll, rMax, rSum, rAppend, rExtend, rSetL, _root_.L2.start, List.map_cons, List.map_nil, List.length_cons, List.length_nil, List.replicate_succ, List.replicate_zero, List.cons_append, List.nil_append, List.append_nil, List.getElem?_cons_zero, List.getElem?_cons_succ, List.set_cons_zero, List.set_cons_succ, Nat.reduceAdd, Nat.reduceSub, V.int.injEq, V.bl.injEq, V.ref.injEq, V.str.injEq, exists_eq, exists_eq', exists_eq_left, exists_eq_left', exists_and_left, exists_and_right, Option.some.injEq, List.cons.injEq, and_true, true_and, and_assoc, retV, true_or, or_true, decide_eq_true_eq, if_true, if_false, Bool.false_eq_true, Bool.not_true, Bool.not_false, Bool.not_eq_true', reduceCtorEq, eq_self, decide_true, decide_false, List.length_map, exists_const, false_and, and_false, or_false, false_or, ↓reduceIte]
      refine ⟨m, i, x, u, rfl, (fam_sq fam_on).same (e.trans eT) hr0, m12, O i u hu, retV.2 fun H3 e3 => ?_⟩
      try simp only [wipe, tC, tVar, tChain, rI0, rI, rU, tOp, tUn, tCall, tAnd, tOr, tNot, tNotV, tAndV, tOrV, tTest, tB, tIf, tIfS, tRet, tRetN, tNext, tSeq, tNil, tCons, tAug, ipI, tPar, tAsg, gName, tDrop, tLst, tTup, tCB, tBM, tBM0, tFld_eq, tMkE, tMake, tAugS, gSub, rEq, rAll, rMax, rSum, rAppend, rExtend, rSetL, _root_.L2.start, List.map_cons, List.map_nil, List.length_cons, List.length_nil, List.replicate_succ, List.replicate_zero, List.cons_append, List.nil_append, List.append_nil, List.getElem?_cons_zero, List.getElem?_cons_succ, List.set_cons_zero, List.set_cons_succ, Nat.reduceAdd, Nat.reduceSub, V.int.injEq, V.bl.injEq, V.ref.injEq, V.str.injEq, exists_eq, exists_eq', exists_eq_left, exists_eq_left', exists_and_left, exists_and_right, Option.some.injEq, List.cons.injEq, and_true, true_and, and_assoc, retV, true_or, or_true, decide_eq_true_eq, if_true, if_false, Bool.false_eq_true, Bool.not_true, Bool.not_false, Bool.not_eq_true', reduceCtorEq, eq_self, decide_true, decide_false, List.length_map, exists_const, false_and, and_false, or_false, false_or, ↓reduceIte]
      exact e.trans (eT.trans e3)
    · obtain ⟨e, ⟨u2, v2, w2, rfl⟩⟩ := h
      try simp only [wipe, tC, tVar, tChain, rI0, rI, rU, tOp, tUn, tCall, tAnd, tOr, tNot, tNotV, tAndV, tOrV, tTest, tB, tIf, tIfS, tRet, tRetN, tNext, tSeq, tNil, tCons, tAug, ipI, tPar, tAsg, gName, tDrop, tLst, tTup, tCB, tBM, tBM0, tFld_eq, tMkE, tMake, tAugS, gSub, rEq, rAll, rMax, rSum, rAppend, rExtend, rSetL, _root_.L2.start, List.map_cons, List.map_nil, List.length_cons, List.length_nil, List.replicate_succ, List.replicate_zero, List.cons_append, List.nil_append, List.append_nil, List.getElem?_cons_zero, List.getElem?_cons_succ, List.set_cons_zero, List.set_cons_succ, Nat.reduceAdd, Nat.reduceSub, V.int.injEq, V.bl.injEq, V.ref.injEq, V.str.injEq, exists_eq, exists_eq', exists_eq_left, exists_eq_left', exists_and_left, exists_and_right, Option.some.injEq, List.cons.injEq, and_true, true_and, and_assoc, retV, true_or, or_true, decide_eq_true_eq, if_true, if_false, Bool.false_eq_true, Bool.not_true, Bool.not_false, Bool.not_eq_true', reduceCtorEq, eq_self, decide_true, decide_false, List.length_map, exists_const, false_and, and_false, or_false, false_or, ↓reduceIte]
      have hsH := hs.same e
      refine lc_map (gives_sq (fun Q h => ⟨_, rfl, h⟩) hsH) (Box.none (A := No) (fun _ z => z.elim)) (fun H' e => hsH.keep (fun z => z) e) (Nat.le_trans (by omega : xs.length ≤ 12) (by decide)) (fun x => rfl) (fam_tp fam_on) R hl.symm id (fun n x u H3 D N hx hu e3 _ _ hN => ?_) fun ys H5 D5 e5 _ nD5 _ hD5 hp5 => ?_
      · obtain ⟨b, ys, rfl, _, hb, hbp⟩ := (fam_sq fam_on).same (e.trans e3.same) (Paired.both hp hx hu)
        try simp only [wipe, tC, tVar, tChain, rI0, rI, rU, tOp, tUn, tCall, tAnd, tOr, tNot, tNotV, tAndV, tOrV, tTest, tB, tIf, tIfS, tRet, tRetN, tNext, tSeq, tNil, tCons, tAug, ipI, tPar, tAsg, gName, tDrop, tLst, tTup, tCB, tBM, tBM0, tFld_eq, tMkE, tMake, tAugS, gSub, rEq, rAll, rMax, rSum, rAppend, rExtend, rSetL, _root_.L2.start, List.map_cons, List.map_nil, List.length_cons, List.length_nil, List.replicate_succ, List.replicate_zero, List.cons_append, List.nil_append, List.append_nil, List.getElem?_cons_zero, List.getElem?_cons_succ, List.set_cons_zero, List.set_cons_succ, Nat.reduceAdd, Nat.reduceSub, V.int.injEq, V.bl.injEq, V.ref.injEq, V.str.injEq, exists_eq, exists_eq', exists_eq_left, exists_eq_left', exists_and_left, exists_and_right, Option.some.injEq, List.cons.injEq, and_true, true_and, and_assoc, retV, true_or, or_true, decide_eq_true_eq, if_true, if_false, Bool.false_eq_true, Bool.not_true, Bool.not_false, Bool.not_eq_true', reduceCtorEq, eq_self, decide_true, decide_false, List.length_map, exists_const, false_and, and_false, or_false, false_or, ↓reduceIte]
        exact tup_sq hb fun p8 H8 e8 hp8 => hN _ _ (.of e8) trivial ⟨p8, _, rfl, hp8, famT_on.p (.of e8) hbp⟩
      · rw [List.map_id] at hp5
        refine tup_sq (.inl hD5) fun p8 H8 e8 hp8 => q.go (e.trans (e5.same.trans e8)) ⟨p8, _, rfl, hp8, (famT_tp famT_on).p (.of e8) hp5⟩
def sp_Gaps (C : Addr) : Sp := fun vs H Q _ => ∃ (x dx : Addr) (m : Nat) (v : V) (R : GR), vs = [.ref x, .int m, v] ∧ H x = some (.ins C dx []) ∧ SqF (SqF OnA) (Or1 No x) H v R ∧ 1 ≤ m ∧ GapsOk m R ∧
  ∀ H' t, SameO (Or1 No x) H H' → H' x = some (.ins C dx [("many", .int m), ("rows", t)]) → GapR R H' t → Q .non H'
theorem C_Gaps (S : Sc K mg) : CalM prg w K mg base CX0 "Gaps" (ga K "Gaps") 5 ["self", "many", "rows"] (sp_Gaps (ga K "Gaps")) := by
  have C_is_between := C_is_between (w := w) (base := base) S
  have C_told_gaps := C_told_gaps (w := w) (base := base) S
  refine S.calM (d := d_Gaps_init) 13 62 64 sc_Gaps_init rfl rfl rfl rfl rfl rfl (fun _ _ _ _ _ _ us hl => match us, hl with | [_, _, _], _ => rfl) (fun vs H Q E h => ?_) (fun f cdv A outer s H vs Q E hr h => ?_)
  · obtain ⟨x, dx, n, v, B, rfl, _⟩ := h
    rfl
  · obtain ⟨x, dx, m, v, R, rfl, hx, hv, m1, O, q⟩ := h
    refine ⟨_, (pss_cons (ps_if (pt_not (pt_val (pe_c C_is_between (hr.mono (by omega)) pass0 (pa_cons (pv 1) (pa_cons pe_int (pa_cons (pe_gi (S.int 52)) pa_nil)))))) (pss_one ps_never) pss_nil)
      (pss_cons (ps_fld (pv 0) (pv 1) rfl)
      (pss_one (ps_fld (pv 0) (pe_c C_told_gaps (hr.mono (by omega)) pass0 (pa_cons (pv 1) (pa_cons (pv 2) pa_nil))) rfl)))), ?_⟩
    have m12 := O.1
    try simp only [wipe, tC, tVar, tChain, rI0, rI, rU, tOp, tUn, tCall, tAnd, tOr, tNot, tNotV, tAndV, tOrV, tTest, tB, tIf, tIfS, tRet, tRetN, tNext, tSeq, tNil, tCons, tAug, ipI, tPar, tAsg, gName, tDrop, tLst, tTup, tCB, tBM, tBM0, tFld_eq, tMkE, tMake, tAugS, gSub, rEq, rAll, rMax, rSum, rAppend, rExtend, rSetL, _root_.L2.start, List.map_cons, List.map_nil, List.length_cons, List.length_nil, List.replicate_succ, List.replicate_zero, List.cons_append, List.nil_append, List.append_nil, List.getElem?_cons_zero, List.getElem?_cons_succ, List.set_cons_zero, List.set_cons_succ, Nat.reduceAdd, Nat.reduceSub, V.int.injEq, V.bl.injEq, V.ref.injEq, V.str.injEq, exists_eq, exists_eq', exists_eq_left, exists_eq_left', exists_and_left, exists_and_right, Option.some.injEq, List.cons.injEq, and_true, true_and, and_assoc, retV, true_or, or_true, decide_eq_true_eq, if_true, if_false, Bool.false_eq_true, Bool.not_true, Bool.not_false, Bool.not_eq_true', reduceCtorEq, eq_self, decide_true, decide_false, List.length_map, exists_const, false_and, and_false, or_false, false_or, sp_is_between, ↓reduceIte]
    intro H1 e1
    rw [show decide ((1 : Int) ≤ (m : Int) ∧ (m : Int) ≤ 12) = true from decide_eq_true (by omega)]
    try simp only [wipe, tC, tVar, tChain, rI0, rI, rU, tOp, tUn, tCall, tAnd, tOr, tNot, tNotV, tAndV, tOrV, tTest, tB, tIf, tIfS, tRet, tRetN, tNext, tSeq, tNil, tCons, tAug, ipI, tPar, tAsg, gName, tDrop, tLst, tTup, tCB, tBM, tBM0, tFld_eq, tMkE, tMake, tAugS, gSub, rEq, rAll, rMax, rSum, rAppend, rExtend, rSetL, _root_.L2.start, List.map_cons, List.map_nil, List.length_cons, List.length_nil, List.replicate_succ, List.replicate_zero, List.cons_append, List.nil_append, List.append_nil, List.getElem?_cons_zero, List.getElem?_cons_succ, List.set_cons_zero, List.set_cons_succ, Nat.reduceAdd, Nat.reduceSub, V.int.injEq, V.bl.injEq, V.ref.injEq, V.str.injEq, exists_eq, exists_eq', exists_eq_left, exists_eq_left', exists_and_left, exists_and_right, Option.some.injEq, List.cons.injEq, and_true, true_and, and_assoc, retV, true_or, or_true, decide_eq_true_eq, if_true, if_false, Bool.false_eq_true, Bool.not_true, Bool.not_false, Bool.not_eq_true', reduceCtorEq, eq_self, decide_true, decide_false, List.length_map, exists_const, false_and, and_false, or_false, false_or, sFld, ↓reduceIte]
    refine ⟨_, dx, _, e1 _ _ hx, (S.cls 63), (S.noat 67), by decide, ?_⟩
    have e2 : SameO (Or1 No x) H (upd H1 x (.ins (ga K "Gaps") dx (putF "many" (.int m) []))) := SameO.trans (.of e1) (.ins (e1 _ _ hx) (.inr rfl))
    refine ⟨m, v, R, rfl, (fam_sq (fam_sq fam_on)).weak (fun a z => z.elim) ((fam_sq (fam_sq fam_on)).mono e2 hv), O, fun t H3 e3 ht => ?_⟩
    try simp only [wipe, tC, tVar, tChain, rI0, rI, rU, tOp, tUn, tCall, tAnd, tOr, tNot, tNotV, tAndV, tOrV, tTest, tB, tIf, tIfS, tRet, tRetN, tNext, tSeq, tNil, tCons, tAug, ipI, tPar, tAsg, gName, tDrop, tLst, tTup, tCB, tBM, tBM0, tFld_eq, tMkE, tMake, tAugS, gSub, rEq, rAll, rMax, rSum, rAppend, rExtend, rSetL, _root_.L2.start, List.map_cons, List.map_nil, List.length_cons, List.length_nil, List.replicate_succ, List.replicate_zero, List.cons_append, List.nil_append, List.append_nil, List.getElem?_cons_zero, List.getElem?_cons_succ, List.set_cons_zero, List.set_cons_succ, Nat.reduceAdd, Nat.reduceSub, V.int.injEq, V.bl.injEq, V.ref.injEq, V.str.injEq, exists_eq, exists_eq', exists_eq_left, exists_eq_left', exists_and_left, exists_and_right, Option.some.injEq, List.cons.injEq, and_true, true_and, and_assoc, retV, true_or, or_true, decide_eq_true_eq, if_true, if_false, Bool.false_eq_true, Bool.not_true, Bool.not_false, Bool.not_eq_true', reduceCtorEq, eq_self, decide_true, decide_false, List.length_map, exists_const, false_and, and_false, or_false, false_or, ↓reduceIte]
    have hx3 := e3 _ _ (upd_same (H := H1) (a := x) (o := .ins (ga K "Gaps") dx (putF "many" (.int m) [])))
    refine ⟨_, _, _, hx3, (S.cls 63), (S.noat 68), by simp [putF], ?_⟩
    have e4 : SameO (Or1 No x) H3 (upd H3 x (.ins (ga K "Gaps") dx (putF "rows" t (putF "many" (.int m) [])))) := .ins hx3 (.inr rfl)
    exact q _ t (e2.trans (SameO.trans (.of e3) e4)) upd_same (famT_gap e4.2.1 ht)
/-- an object of the class Gaps -/
def GapO (K : PySem.W.Frag) (m : Nat) (R : GR) : Hp → V → Prop := fun H v => ∃ x dx t, v = .ref x ∧ H x = some (.ins (ga K "Gaps") dx [("many", .int m), ("rows", t)]) ∧ GapR R H t
theorem same_gap {m : Nat} {R : GR} {H H' : Hp} {v : V} (e : Same H H') (h : GapO K m R H v) : GapO K m R H' v := by
  obtain ⟨x, dx, t, e1, e2, e3⟩ := h
  exact ⟨x, dx, t, e1, e _ _ e2, famT_gap (.of e) e3⟩
theorem same_bod {n : Nat} {B : List (List (List Int))} {H H' : Hp} {v : V} (e : Same H H') (h : BodO K n B H v) : BodO K n B H' v := by
  obtain ⟨x, dx, t, e1, e2, e3⟩ := h
  exact ⟨x, dx, t, e1, e _ _ e2, famT_bod (.of e) e3⟩
theorem make_gaps {H : Hp} {Q : VK} {E : XK} {m : Nat} {v : V} {R : GR} (hv : SqF (SqF OnA) No H v R) (m1 : 1 ≤ m) (O : GapsOk m R) (q : Ret (GapO K m R) H Q) :
    ∀ x dx, H x = none → H dx = none → dx ≠ x → sp_Gaps (ga K "Gaps") (.ref x :: ([.int m, v] ++ [])) (upd (upd H dx (.own x)) x (.ins (ga K "Gaps") dx [])) (fun v H2 => v = .non ∧ Q (.ref x) H2) E := fun x dx nx ndx hne => by
  have e1 : Same H (upd H dx (.own x)) := same_new ndx
  have e2 : Same H (upd (upd H dx (.own x)) x (.ins (ga K "Gaps") dx [])) := same_mut e1 nx
  refine ⟨x, dx, m, v, R, rfl, upd_same, (fam_sq (fam_sq fam_on)).weak (fun a z => ?_) ((fam_sq (fam_sq fam_on)).same e2 ((fam_sq (fam_sq fam_on)).live hv)), m1, O, fun H' t e ht hb => ⟨rfl, q _ _ (fun a u h => ?_) ⟨x, dx, t, rfl, ht, hb⟩⟩⟩
  · rcases z with z | z
    · exact z.elim
    · exact .inr (z ▸ nx)
  · refine e.1 a u (fun z => ?_) (e2 a u h)
    rcases z with z | z
    · exact z
    · rw [z, nx] at h
      cases h
/-! fields, isinstance, == -/
theorem own_Gaps (S : Sc K mg) : Own K (ga K "Gaps") := ⟨(S.cls 63), (S.flag 11), (S.flag 12), (S.flag 13), (S.flag 9), (S.flag 10)⟩
theorem gap_many (S : Sc K mg) {m : Nat} {R : GR} {H : Hp} {v : V} {Q : VK} (h : GapO K m R H v) (q : Q (.int m) H) : rFld K "many" v H Q := by
  obtain ⟨x, dx, t, rfl, hx, ht⟩ := h
  exact ⟨x, _, dx, _, _, rfl, hx, (S.cls 63), (S.noat 67), rfl, q⟩
theorem gap_rows (S : Sc K mg) {m : Nat} {R : GR} {H : Hp} {v : V} {Q : VK} (h : GapO K m R H v) (q : ∀ t, GapR R H t → Q t H) : rFld K "rows" v H Q := by
  obtain ⟨x, dx, t, rfl, hx, ht⟩ := h
  exact ⟨x, _, dx, _, _, rfl, hx, (S.cls 63), (S.noat 68), rfl, q t ht⟩
theorem isi_gap (S : Sc K mg) {m : Nat} {R : GR} {H : Hp} {v : V} {Q : VK} (h : GapO K m R H v) (q : Q (.bl true) H) : rIsi K [v, .ref (ga K "Gaps")] H Q := by
  obtain ⟨x, dx, t, rfl, hx, ht⟩ := h
  exact isi_own (own_Gaps S) hx q
def pdO : Option Int → PyData
  | none => .none
  | some i => .int i
def pdG (R : GR) : PyData := .tuple (R.map fun u => .tuple (u.map pdO))
theorem dp_gap {H : Hp} {v : V} {R : GR} (h : GapR R H v) : Dp K H v (pdG R) := by
  obtain ⟨a, vs, rfl, ha, hp⟩ := h
  refine .tup (sqT_of ha) (dp_all (fun v x h => ?_) hp)
  obtain ⟨b, ws, rfl, hb, hq⟩ := h
  refine .tup (sqT_of hb) (dp_all (fun v x h => ?_) hq)
  obtain rfl : v = ov x := h
  cases x with
  | none => exact .non
  | some i => exact .int i
theorem pdG_lay (R : GR) : (pdG R).canLay0 = true := by
  unfold pdG
  rw [PyData.canLay0]
  refine lay_all (fun u => ?_) R
  rw [PyData.canLay0]
  exact lay_all (fun x => by cases x <;> rfl) u
theorem pdG_dep (R : GR) : (pdG R).depth ≤ 2 := by
  unfold pdG
  rw [PyData.depth]
  refine Nat.succ_le_succ (dep_all (n := 1) (fun u => ?_) R)
  rw [PyData.depth]
  exact Nat.succ_le_succ (dep_all (n := 0) (fun x => by cases x <;> exact Nat.le_refl _) u)
theorem eqD_gap {H : Hp} {Q : VK} {v v' : V} {R : GR} (h : GapR R H v) (h' : GapR R H v') (q : Q (.bl true) H) : rEqD K v v' H Q := by
  have sh : SeqAt.shaped (pdG R) = true := by
    unfold SeqAt.shaped
    rw [pdG_lay]
    have := pdG_dep R
    simp only [Bool.true_and, decide_eq_true_eq]
    omega
  refine ⟨_, _, dp_gap h, dp_gap h', sh, sh, ?_⟩
  rw [SeqAt.eqv_refl _ (pdG_lay R)]
  exact q
def sp_Gaps_eq (K : PySem.W.Frag) : Sp := fun vs H Q _ => ∃ (x y : V) (m : Nat) (R : GR), vs = [x, y] ∧ GapO K m R H x ∧ GapO K m R H y ∧ RetV (.bl true) H Q
theorem C_Gaps_eq (S : Sc K mg) : CalE prg w K mg base CX0 (ga K "Gaps") 1 ["self", "other"] (sp_Gaps_eq K) := by
  refine S.calE (d := d_Gaps_eq) 14 sc_Gaps_eq rfl rfl rfl rfl ⟨eqO_ok (S.flag 6), eqO_ok (S.flag 7), (S.flag 8), of_decide_eq_true (S.flag 9)⟩ (fun _ _ _ _ _ _ us hl => match us, hl with | [_, _], _ => rfl) (fun vs H Q E h => ?_) (fun f cdv A outer s H vs Q E hr h => ?_)
  · obtain ⟨x, y, m, R, rfl, _⟩ := h
    rfl
  · obtain ⟨x, y, m, R, rfl, hx, hy, q⟩ := h
    refine ⟨_, (pss_one (ps_ret (pe_and (pe_callB call_isi (by rfl) (S.free 41) (by decide +kernel) (pa_cons (pv 1) (pa_cons (pe_gc (S.glo 62)) pa_nil))) (pe_and (pe_cmpR op_eq (pe_fld (pv 0) rfl) (pe_fld (pv 1) rfl) (nomark _)) (pe_one (pe_cmpR (op_eqD hr.units) (pe_fld (pv 0) rfl) (pe_fld (pv 1) rfl) (nomark _))))))), ?_⟩
    try simp only [wipe, tC, tVar, tChain, rI0, rI, rU, tOp, tUn, tCall, tAnd, tOr, tNot, tNotV, tAndV, tOrV, tTest, tB, tIf, tIfS, tRet, tRetN, tNext, tSeq, tNil, tCons, tAug, ipI, tPar, tAsg, gName, tDrop, tLst, tTup, tCB, tBM, tBM0, tFld_eq, tMkE, tMake, tAugS, gSub, rEq, rAll, rMax, rSum, rAppend, rExtend, rSetL, _root_.L2.start, List.map_cons, List.map_nil, List.length_cons, List.length_nil, List.replicate_succ, List.replicate_zero, List.cons_append, List.nil_append, List.append_nil, List.getElem?_cons_zero, List.getElem?_cons_succ, List.set_cons_zero, List.set_cons_succ, Nat.reduceAdd, Nat.reduceSub, V.int.injEq, V.bl.injEq, V.ref.injEq, V.str.injEq, exists_eq, exists_eq', exists_eq_left, exists_eq_left', exists_and_left, exists_and_right, Option.some.injEq, List.cons.injEq, and_true, true_and, and_assoc, retV, true_or, or_true, decide_eq_true_eq, if_true, if_false, Bool.false_eq_true, Bool.not_true, Bool.not_false, Bool.not_eq_true', reduceCtorEq, eq_self, decide_true, decide_false, List.length_map, exists_const, false_and, and_false, or_false, false_or, ↓reduceIte]
    refine isi_gap S hy ?_
    try simp only [wipe, tC, tVar, tChain, rI0, rI, rU, tOp, tUn, tCall, tAnd, tOr, tNot, tNotV, tAndV, tOrV, tTest, tB, tIf, tIfS, tRet, tRetN, tNext, tSeq, tNil, tCons, tAug, ipI, tPar, tAsg, gName, tDrop, tLst, tTup, tCB, tBM, tBM0, tFld_eq, tMkE, tMake, tAugS, gSub, rEq, rAll, rMax, rSum, rAppend, rExtend, rSetL, _root_.L2.start, List.map_cons, List.map_nil, List.length_cons, List.length_nil, List.replicate_succ, List.replicate_zero, List.cons_append, List.nil_append, List.append_nil, List.getElem?_cons_zero, List.getElem?_cons_succ, List.set_cons_zero, List.set_cons_succ, Nat.reduceAdd, Nat.reduceSub, V.int.injEq, V.bl.injEq, V.ref.injEq, V.str.injEq, exists_eq, exists_eq', exists_eq_left, exists_eq_left', exists_and_left, exists_and_right, Option.some.injEq, List.cons.injEq, and_true, true_and, and_assoc, retV, true_or, or_true, decide_eq_true_eq, if_true, if_false, Bool.false_eq_true, Bool.not_true, Bool.not_false, Bool.not_eq_true', reduceCtorEq, eq_self, decide_true, decide_false, List.length_map, exists_const, false_and, and_false, or_false, false_or, ↓reduceIte]
    refine gap_many S hx (gap_many S hy ?_)
    try simp only [wipe, tC, tVar, tChain, rI0, rI, rU, tOp, tUn, tCall, tAnd, tOr, tNot, tNotV, tAndV, tOrV, tTest, tB, tIf, tIfS, tRet, tRetN, tNext, tSeq, tNil, tCons, tAug, ipI, tPar, tAsg, gName, tDrop, tLst, tTup, tCB, tBM, tBM0, tFld_eq, tMkE, tMake, tAugS, gSub, rEq, rAll, rMax, rSum, rAppend, rExtend, rSetL, _root_.L2.start, List.map_cons, List.map_nil, List.length_cons, List.length_nil, List.replicate_succ, List.replicate_zero, List.cons_append, List.nil_append, List.append_nil, List.getElem?_cons_zero, List.getElem?_cons_succ, List.set_cons_zero, List.set_cons_succ, Nat.reduceAdd, Nat.reduceSub, V.int.injEq, V.bl.injEq, V.ref.injEq, V.str.injEq, exists_eq, exists_eq', exists_eq_left, exists_eq_left', exists_and_left, exists_and_right, Option.some.injEq, List.cons.injEq, and_true, true_and, and_assoc, retV, true_or, or_true, decide_eq_true_eq, if_true, if_false, Bool.false_eq_true, Bool.not_true, Bool.not_false, Bool.not_eq_true', reduceCtorEq, eq_self, decide_true, decide_false, List.length_map, exists_const, false_and, and_false, or_false, false_or, scal, ↓reduceIte]
    refine gap_rows S hx fun t ht => gap_rows S hy fun u hu => eqD_gap ht hu ?_
    exact q.go (Same.refl _) rfl
end
end K78
set_option Elab.async false
set_option linter.all false
set_option maxRecDepth 100000
set_option maxHeartbeats 4000000
/-! k78: gaps_along -/
namespace K78
open PySem PySem.Spec PyProof.Rows L2 He HK
def cellT (T : GR) (b o : Nat) : Option Int := (T.getD b []).getD o none
def more (c : Option Int) (g : Int) : Bool := match c with
  | none => true
  | some c => decide (c < g)
def gput (T : GR) (b o : Nat) (g : Int) : GR := if o ≠ b ∧ more (cellT T b o) g = true then T.set b ((T.getD b []).set o (some g)) else T
def gpair (p : Int × Int) (T : GR) (q : Int × Int) : GR := gput T p.2.toNat q.2.toNat (p.1 - q.1 + 1)
def gOne (row : Row) (k : Nat) (T : GR) : GR := (row.drop (k + 1)).foldl (gpair (row.getD k (0, 0))) T
def gTo (row : Row) : Nat → GR → GR
  | 0, T => T
  | k + 1, T => gOne row k (gTo row k T)
/-- the rows found, as lists at refs -/
structure Tab (m : Nat) (refs : List Addr) (T : GR) (H : Hp) : Prop where
  lT : T.length = m
  row : ∀ (b : Nat) (r : List (Option Int)), T[b]? = some r → r.length = m
  at_ : ∀ (b : Nat) (a : Addr) (r : List (Option Int)), refs[b]? = some a → T[b]? = some r → H a = some (.lst (r.map ov))
theorem Tab.grow {m : Nat} {refs : List Addr} {T : GR} {H H' : Hp} (h : Tab m refs T H) (e : Same H H') : Tab m refs T H' := ⟨h.lT, h.row, fun b a r h1 h2 => e _ _ (h.at_ b a r h1 h2)⟩
theorem Tab.put {m : Nat} {refs : List Addr} {T : GR} {H : Hp} (h : Tab m refs T H) (nd : refs.Nodup) {b : Nat} {a : Addr} (ha : refs[b]? = some a) {r' : List (Option Int)} (hr : r'.length = m) : Tab m refs (T.set b r') (upd H a (.lst (r'.map ov))) := by
  refine ⟨by rw [List.length_set]; exact h.lT, fun c r hc => ?_, fun c z r hz hc => ?_⟩
  · rw [List.getElem?_set] at hc
    split at hc
    · split at hc
      · exact Option.some.inj hc ▸ hr
      · cases hc
    · exact h.row c r hc
  · rw [List.getElem?_set] at hc
    by_cases e : b = c
    · subst e
      rw [ha] at hz
      obtain rfl := Option.some.inj hz
      rw [if_pos rfl] at hc
      split at hc
      · rw [upd_same, Option.some.inj hc]
      · cases hc
    · rw [if_neg e] at hc
      have nz : z ≠ a := fun q => e (by
        subst q
        obtain ⟨i1, e1⟩ := List.getElem?_eq_some_iff.1 ha
        obtain ⟨i2, e2⟩ := List.getElem?_eq_some_iff.1 hz
        exact (List.getElem_inj nd).1 (e1.trans e2.symm))
      rw [upd_ne nz]
      exact h.at_ c z r hz hc
theorem getD_of {α : Type} {xs : List α} {i : Nat} {x d : α} (h : xs[i]? = some x) : xs.getD i d = x := by simp only [List.getD, h, Option.getD_some]
def sp_gaps_along : Sp := fun vs H Q _ => ∃ (rr F : Addr) (ps : List V) (row : Row) (m : Nat) (refs : List Addr) (T : GR), vs = [.ref rr, .ref F] ∧ H rr = some (.lst ps) ∧ Paired (PrA H) ps row ∧ row.length ≤ 1000 ∧ (∀ p ∈ row, ∃ b : Nat, p.2 = (b : Int) ∧ b < m) ∧
  H F = some (.lst (refs.map V.ref)) ∧ refs.Nodup ∧ refs.length = m ∧ rr ∉ refs ∧ F ∉ refs ∧ Tab m refs T H ∧ ∀ H', SameO (fun a => a ∈ refs) H H' → Tab m refs (gTo row row.length T) H' → Q .non H'
section
variable {w : World} {K : PySem.W.Frag} {mg : Str → Option Value} {base : Heap}
theorem C_gaps_along (S : Sc K mg) : Cal prg w K mg base CX0 "gaps_along" 1 ["row", "found"] [] sp_gaps_along := by
  refine S.cal (d := d_gaps_along) 19 15 sc_gaps_along rfl rfl rfl rfl rfl (fun _ _ _ _ _ _ us hl => match us, hl with | [_, _], _ => rfl) (fun vs H Q E h => ?_) (fun f cdv A outer s H vs Q E hr h => ?_)
  · obtain ⟨rr, F, ps, row, m, refs, T, rfl, _⟩ := h
    rfl
  · obtain ⟨rr, F, ps, row, m, refs, T, rfl, hrr, hps, l1000, hin, hF, nd, lm, nrr, nF, hT, q⟩ := h
    refine ⟨_, (pss_one (ps_for PassesOwn.never rfl (pi_enS (S.free 39) (pa_cons (pv 0) pa_nil)) (pg_tup (by rfl) (pgs_cons (pg_name (i := 2) sc_gaps_along.nd rfl (by first | exact Or.inl rfl | exact Or.inr rfl)) (pgs_cons (pg_tup (by rfl) (pgs_cons (pg_name (i := 3) sc_gaps_along.nd rfl (by first | exact Or.inl rfl | exact Or.inr rfl)) (pgs_cons (pg_name (i := 4) sc_gaps_along.nd rfl (by first | exact Or.inl rfl | exact Or.inr rfl)) pgs_nil))) pgs_nil))) (pss_one (ps_for PassesOwn.never rfl (pi_seq (pe_slice sl_list (pv 0) (po_some (pe_op op_add (pv 2) pe_int)) po_none)) (pg_tup (by rfl) (pgs_cons (pg_name (i := 5) sc_gaps_along.nd rfl (by first | exact Or.inl rfl | exact Or.inr rfl)) (pgs_cons (pg_name (i := 6) sc_gaps_along.nd rfl (by first | exact Or.inl rfl | exact Or.inr rfl)) pgs_nil))) (pss_cons (ps_set (i := 7) sc_gaps_along.nd rfl (by first | exact Or.inl rfl | exact Or.inr rfl) (pe_op op_add (pe_op op_sub (pv 3) (pv 5)) pe_int))
      (pss_one (ps_if (PW.pt (pw_and (pt_cmpR op_ne (pv 6) (pv 4) (nomark _)) (pw_and1 (PW.pt (pw_or (pt_cmpR op_isN (pe_ix ix_list (pe_ix ix_list (pv 1) (pv 4) (fun _ _ => rfl)) (pv 6) (fun _ _ => rfl)) pe_non (nomark _)) (pw_or1 (pt_cmpR op_gt (pv 7) (pe_ix ix_list (pe_ix ix_list (pv 1) (pv 4) (fun _ _ => rfl)) (pv 6) (fun _ _ => rfl)) (nomark _)))))))) (pss_one (ps_asg (pv 7) (pg_sub (pe_ix ix_list (pv 1) (pv 4) (fun _ _ => rfl)) (pv 6) set_list))) pss_nil))))))), ?_⟩
    have lps : ps.length = row.length := Paired.len hps
    try simp only [wipe, tC, tVar, tChain, rI0, rI, rU, tOp, tUn, tCall, tAnd, tOr, tNot, tNotV, tAndV, tOrV, tTest, tB, tIf, tIfS, tRet, tRetN, tNext, tSeq, tNil, tCons, tAug, ipI, tPar, tAsg, gName, tDrop, tLst, tTup, tCB, tBM, tBM0, tFld_eq, tMkE, tMake, tAugS, gSub, rEq, rAll, rMax, rSum, rAppend, rExtend, rSetL, _root_.L2.start, List.map_cons, List.map_nil, List.length_cons, List.length_nil, List.replicate_succ, List.replicate_zero, List.cons_append, List.nil_append, List.append_nil, List.getElem?_cons_zero, List.getElem?_cons_succ, List.set_cons_zero, List.set_cons_succ, Nat.reduceAdd, Nat.reduceSub, V.int.injEq, V.bl.injEq, V.ref.injEq, V.str.injEq, exists_eq, exists_eq', exists_eq_left, exists_eq_left', exists_and_left, exists_and_right, Option.some.injEq, List.cons.injEq, and_true, true_and, and_assoc, retV, true_or, or_true, decide_eq_true_eq, if_true, if_false, Bool.false_eq_true, Bool.not_true, Bool.not_false, Bool.not_eq_true', reduceCtorEq, eq_self, decide_true, decide_false, List.length_map, exists_const, false_and, and_false, or_false, false_or, ↓reduceIte]
    refine for_en (xs := ps) (a := rr) (fun Q h => ⟨_, rfl, h⟩) (.inl hrr) (fun k σ H' => (∃ u2 u3 u4 u5 u6 u7, σ = [some (.ref rr), some (.ref F), u2, u3, u4, u5, u6, u7]) ∧ SameO (fun a => a ∈ refs) H H' ∧ Tab m refs (gTo row k T) H')
      ⟨⟨_, _, _, _, _, _, rfl⟩, SameO.refl _ _, hT⟩ (fun k σ H1 _ h => ?_) (fun k z σ H1 B hk hz h nB => ?_) (fun σ H1 h => ?_)
    · rw [h.2.1.1 _ _ nrr hrr, hrr]
    · obtain ⟨⟨u2, u3, u4, u5, u6, u7, rfl⟩, e1, t1⟩ := h
      obtain ⟨⟨px, pb⟩, hp, t, rfl, ht⟩ := Paired.at hps hz
      obtain ⟨bb, hbb, hbm⟩ := hin _ (List.mem_of_getElem? hp)
      have hbb : pb = (bb : Int) := hbb
      subst hbb
      have eB : Same H1 (upd H1 B (.tup [.int (k : Nat), .ref t])) := same_new nB
      refine g_nest rfl rfl upd_same (eB _ _ ((e1.2.1 t).1 _ ht)) ?_
      have e2 : SameO (fun a => a ∈ refs) H (upd H1 B (.tup [.int (k : Nat), .ref t])) := e1.trans (.of eB)
      have t2 := t1.grow eB
      generalize upd H1 B (.tup [.int (k : Nat), .ref t]) = H2 at e2 t2
      try simp only [wipe, tC, tVar, tChain, rI0, rI, rU, tOp, tUn, tCall, tAnd, tOr, tNot, tNotV, tAndV, tOrV, tTest, tB, tIf, tIfS, tRet, tRetN, tNext, tSeq, tNil, tCons, tAug, ipI, tPar, tAsg, gName, tDrop, tLst, tTup, tCB, tBM, tBM0, tFld_eq, tMkE, tMake, tAugS, gSub, rEq, rAll, rMax, rSum, rAppend, rExtend, rSetL, _root_.L2.start, List.map_cons, List.map_nil, List.length_cons, List.length_nil, List.replicate_succ, List.replicate_zero, List.cons_append, List.nil_append, List.append_nil, List.getElem?_cons_zero, List.getElem?_cons_succ, List.set_cons_zero, List.set_cons_succ, Nat.reduceAdd, Nat.reduceSub, V.int.injEq, V.bl.injEq, V.ref.injEq, V.str.injEq, exists_eq, exists_eq', exists_eq_left, exists_eq_left', exists_and_left, exists_and_right, Option.some.injEq, List.cons.injEq, and_true, true_and, and_assoc, retV, true_or, or_true, decide_eq_true_eq, if_true, if_false, Bool.false_eq_true, Bool.not_true, Bool.not_false, Bool.not_eq_true', reduceCtorEq, eq_self, decide_true, decide_false, List.length_map, exists_const, false_and, and_false, or_false, false_or, ↓reduceIte]
      rw [for_call]
      try simp only [wipe, tC, tVar, tChain, rI0, rI, rU, tOp, tUn, tCall, tAnd, tOr, tNot, tNotV, tAndV, tOrV, tTest, tB, tIf, tIfS, tRet, tRetN, tNext, tSeq, tNil, tCons, tAug, ipI, tPar, tAsg, gName, tDrop, tLst, tTup, tCB, tBM, tBM0, tFld_eq, tMkE, tMake, tAugS, gSub, rEq, rAll, rMax, rSum, rAppend, rExtend, rSetL, _root_.L2.start, List.map_cons, List.map_nil, List.length_cons, List.length_nil, List.replicate_succ, List.replicate_zero, List.cons_append, List.nil_append, List.append_nil, List.getElem?_cons_zero, List.getElem?_cons_succ, List.set_cons_zero, List.set_cons_succ, Nat.reduceAdd, Nat.reduceSub, V.int.injEq, V.bl.injEq, V.ref.injEq, V.str.injEq, exists_eq, exists_eq', exists_eq_left, exists_eq_left', exists_and_left, exists_and_right, Option.some.injEq, List.cons.injEq, and_true, true_and, and_assoc, retV, true_or, or_true, decide_eq_true_eq, if_true, if_false, Bool.false_eq_true, Bool.not_true, Bool.not_false, Bool.not_eq_true', reduceCtorEq, eq_self, decide_true, decide_false, List.length_map, exists_const, false_and, and_false, or_false, false_or, tSl, tPart, tNoPart, ↓reduceIte]
      refine sl_listDrop (a := k + 1) (e2.1 _ _ nrr hrr) fun p np => ?_
      have e3 : Same H2 (upd H2 p (.lst (ps.drop (k + 1)))) := same_new np
      have hpp : (upd H2 p (.lst (ps.drop (k + 1)))) p = some (.lst (ps.drop (k + 1))) := upd_same
      have npr : p ∉ refs := fun z => by
        obtain ⟨c, hc⟩ := List.getElem?_of_mem z
        obtain ⟨r, hr⟩ := getI (xs := gTo row k T) (i := c) (by rw [t2.lT, ← lm]; exact (List.getElem?_eq_some_iff.1 hc).1)
        rw [t2.at_ c p r hc hr] at np
        cases np
      have e4 : SameO (fun a => a ∈ refs) H (upd H2 p (.lst (ps.drop (k + 1)))) := e2.trans (.of e3)
      have t4 := t2.grow e3
      generalize upd H2 p (.lst (ps.drop (k + 1))) = H4 at hpp e4 t4
      refine for_go (gives_sq (xs := ps.drop (k + 1)) (a := p) (fun Q h => h) (.inl hpp)) (fun n σ H' => (∃ u5 u6 u7, σ = [some (.ref rr), some (.ref F), some (.int (k : Nat)), some (.int px), some (.int (bb : Nat)), u5, u6, u7]) ∧ SameO (fun a => a ∈ refs) H4 H' ∧ Tab m refs (((row.drop (k + 1)).take n).foldl (gpair (px, (bb : Int))) (gTo row k T)) H')
        ⟨⟨_, _, _, rfl⟩, SameO.refl _ _, t4⟩ (fun n σ H5 _ h => ?_) (fun n y σ H5 hn hy h => ?_) (fun σ H5 h => ?_)
      · rw [h.2.1.1 _ _ npr hpp, hpp]
      · obtain ⟨⟨u5, u6, u7, rfl⟩, e5, t5⟩ := h
        rw [List.getElem?_drop] at hy
        obtain ⟨⟨qx, qb⟩, hq, t', rfl, ht'⟩ := Paired.at hps hy
        obtain ⟨oo, hoo, hom⟩ := hin _ (List.mem_of_getElem? hq)
        have hoo : qb = (oo : Int) := hoo
        subst hoo
        have e05 := e4.trans e5
        refine g_two rfl ((e05.2.1 t').1 _ ht') ?_
        have hF5 := e05.1 _ _ nF hF
        obtain ⟨rb, hrb⟩ := getI (xs := refs) (i := bb) (by omega)
        have hq2 : (row.drop (k + 1))[n]? = some (qx, (oo : Int)) := by rw [List.getElem?_drop]; exact hq
        have hstep : ((row.drop (k + 1)).take (n + 1)).foldl (gpair (px, (bb : Int))) (gTo row k T) = gput (((row.drop (k + 1)).take n).foldl (gpair (px, (bb : Int))) (gTo row k T)) bb oo (px - qx + 1) := by
          rw [List.take_succ, hq2, List.foldl_append]
          rfl
        generalize ((row.drop (k + 1)).take n).foldl (gpair (px, (bb : Int))) (gTo row k T) = T5 at t5 hstep
        obtain ⟨r, hr⟩ := getI (xs := T5) (i := bb) (by rw [t5.lT]; exact hbm)
        have lr := t5.row bb r hr
        obtain ⟨c, hc⟩ := getI (xs := r) (i := oo) (by omega)
        have hcell : cellT T5 bb oo = c := by unfold cellT; rw [getD_of hr, getD_of hc]
        have hrb5 := t5.at_ bb rb r hrb hr
        have hvF : (refs.map V.ref)[bb]? = some (.ref rb) := by rw [List.getElem?_map, hrb]; rfl
        have hvc : (r.map ov)[oo]? = some (ov c) := by rw [List.getElem?_map, hc]; rfl
        have stay : ¬(oo ≠ bb ∧ more c (px - qx + 1) = true) → Tab m refs (((row.drop (k + 1)).take (n + 1)).foldl (gpair (px, (bb : Int))) (gTo row k T)) H5 := fun z => by
          rw [hstep]
          unfold gput
          rw [hcell, if_neg z]
          exact t5
        have put : oo ≠ bb → more c (px - qx + 1) = true → SameO (fun a => a ∈ refs) H4 (upd H5 rb (.lst ((r.map ov).set oo (.int (px - qx + 1))))) ∧ Tab m refs (((row.drop (k + 1)).take (n + 1)).foldl (gpair (px, (bb : Int))) (gTo row k T)) (upd H5 rb (.lst ((r.map ov).set oo (.int (px - qx + 1))))) := fun z1 z2 => by
          refine ⟨e5.trans (.lst hrb5 (List.mem_of_getElem? hrb)), ?_⟩
          rw [hstep]
          unfold gput
          rw [hcell, if_pos ⟨z1, z2⟩, getD_of hr]
          have := t5.put nd hrb (r' := r.set oo (some (px - qx + 1))) (by rw [List.length_set]; exact lr)
          rw [List.map_set] at this
          exact this
        try simp only [wipe, tC, tVar, tChain, rI0, rI, rU, tOp, tUn, tCall, tAnd, tOr, tNot, tNotV, tAndV, tOrV, tTest, tB, tIf, tIfS, tRet, tRetN, tNext, tSeq, tNil, tCons, tAug, ipI, tPar, tAsg, gName, tDrop, tLst, tTup, tCB, tBM, tBM0, tFld_eq, tMkE, tMake, tAugS, gSub, rEq, rAll, rMax, rSum, rAppend, rExtend, rSetL, _root_.L2.start, List.map_cons, List.map_nil, List.length_cons, List.length_nil, List.replicate_succ, List.replicate_zero, List.cons_append, List.nil_append, List.append_nil, List.getElem?_cons_zero, List.getElem?_cons_succ, List.set_cons_zero, List.set_cons_succ, Nat.reduceAdd, Nat.reduceSub, V.int.injEq, V.bl.injEq, V.ref.injEq, V.str.injEq, exists_eq, exists_eq', exists_eq_left, exists_eq_left', exists_and_left, exists_and_right, Option.some.injEq, List.cons.injEq, and_true, true_and, and_assoc, retV, true_or, or_true, decide_eq_true_eq, if_true, if_false, Bool.false_eq_true, Bool.not_true, Bool.not_false, Bool.not_eq_true', reduceCtorEq, eq_self, decide_true, decide_false, List.length_map, exists_const, false_and, and_false, or_false, false_or, rNe, scal, ↓reduceIte]
        by_cases ho : (oo : Int) = (bb : Int)
        · rw [if_neg (by simpa using ho)]
          exact ⟨e5, stay fun z => z.1 (by omega)⟩
        · rw [if_pos (by simpa using ho)]
          have ho' : oo ≠ bb := by omega
          refine ix_at hF5 hvF (ix_at hrb5 hvc ?_)
          cases c with
          | none =>
            try simp only [wipe, tC, tVar, tChain, rI0, rI, rU, tOp, tUn, tCall, tAnd, tOr, tNot, tNotV, tAndV, tOrV, tTest, tB, tIf, tIfS, tRet, tRetN, tNext, tSeq, tNil, tCons, tAug, ipI, tPar, tAsg, gName, tDrop, tLst, tTup, tCB, tBM, tBM0, tFld_eq, tMkE, tMake, tAugS, gSub, rEq, rAll, rMax, rSum, rAppend, rExtend, rSetL, _root_.L2.start, List.map_cons, List.map_nil, List.length_cons, List.length_nil, List.replicate_succ, List.replicate_zero, List.cons_append, List.nil_append, List.append_nil, List.getElem?_cons_zero, List.getElem?_cons_succ, List.set_cons_zero, List.set_cons_succ, Nat.reduceAdd, Nat.reduceSub, V.int.injEq, V.bl.injEq, V.ref.injEq, V.str.injEq, exists_eq, exists_eq', exists_eq_left, exists_eq_left', exists_and_left, exists_and_right, Option.some.injEq, List.cons.injEq, and_true, true_and, and_assoc, retV, true_or, or_true, decide_eq_true_eq, if_true, if_false, Bool.false_eq_true, Bool.not_true, Bool.not_false, Bool.not_eq_true', reduceCtorEq, eq_self, decide_true, decide_false, List.length_map, exists_const, false_and, and_false, or_false, false_or, ov, ↓reduceIte]
            refine ix_at hF5 hvF ?_
            refine ⟨_, rfl, _, hrb5, oo, ixN_nat (by rw [List.length_map]; omega), ?_⟩
            exact put ho' rfl
          | some g =>
            try simp only [wipe, tC, tVar, tChain, rI0, rI, rU, tOp, tUn, tCall, tAnd, tOr, tNot, tNotV, tAndV, tOrV, tTest, tB, tIf, tIfS, tRet, tRetN, tNext, tSeq, tNil, tCons, tAug, ipI, tPar, tAsg, gName, tDrop, tLst, tTup, tCB, tBM, tBM0, tFld_eq, tMkE, tMake, tAugS, gSub, rEq, rAll, rMax, rSum, rAppend, rExtend, rSetL, _root_.L2.start, List.map_cons, List.map_nil, List.length_cons, List.length_nil, List.replicate_succ, List.replicate_zero, List.cons_append, List.nil_append, List.append_nil, List.getElem?_cons_zero, List.getElem?_cons_succ, List.set_cons_zero, List.set_cons_succ, Nat.reduceAdd, Nat.reduceSub, V.int.injEq, V.bl.injEq, V.ref.injEq, V.str.injEq, exists_eq, exists_eq', exists_eq_left, exists_eq_left', exists_and_left, exists_and_right, Option.some.injEq, List.cons.injEq, and_true, true_and, and_assoc, retV, true_or, or_true, decide_eq_true_eq, if_true, if_false, Bool.false_eq_true, Bool.not_true, Bool.not_false, Bool.not_eq_true', reduceCtorEq, eq_self, decide_true, decide_false, List.length_map, exists_const, false_and, and_false, or_false, false_or, ov, ↓reduceIte]
            refine ix_at hF5 hvF (ix_at hrb5 hvc ?_)
            try simp only [wipe, tC, tVar, tChain, rI0, rI, rU, tOp, tUn, tCall, tAnd, tOr, tNot, tNotV, tAndV, tOrV, tTest, tB, tIf, tIfS, tRet, tRetN, tNext, tSeq, tNil, tCons, tAug, ipI, tPar, tAsg, gName, tDrop, tLst, tTup, tCB, tBM, tBM0, tFld_eq, tMkE, tMake, tAugS, gSub, rEq, rAll, rMax, rSum, rAppend, rExtend, rSetL, _root_.L2.start, List.map_cons, List.map_nil, List.length_cons, List.length_nil, List.replicate_succ, List.replicate_zero, List.cons_append, List.nil_append, List.append_nil, List.getElem?_cons_zero, List.getElem?_cons_succ, List.set_cons_zero, List.set_cons_succ, Nat.reduceAdd, Nat.reduceSub, V.int.injEq, V.bl.injEq, V.ref.injEq, V.str.injEq, exists_eq, exists_eq', exists_eq_left, exists_eq_left', exists_and_left, exists_and_right, Option.some.injEq, List.cons.injEq, and_true, true_and, and_assoc, retV, true_or, or_true, decide_eq_true_eq, if_true, if_false, Bool.false_eq_true, Bool.not_true, Bool.not_false, Bool.not_eq_true', reduceCtorEq, eq_self, decide_true, decide_false, List.length_map, exists_const, false_and, and_false, or_false, false_or, ov, ↓reduceIte]
            by_cases hg : g < px - qx + 1
            · rw [if_pos hg]
              refine ix_at hF5 hvF ?_
              refine ⟨_, rfl, _, hrb5, oo, ixN_nat (by rw [List.length_map]; omega), ?_⟩
              exact put ho' (decide_eq_true hg)
            · rw [if_neg hg]
              exact ⟨e5, stay fun z => hg (of_decide_eq_true z.2)⟩
      · obtain ⟨⟨u5, u6, u7, rfl⟩, e5, t5⟩ := h
        refine ⟨⟨_, _, _, _, _, _, rfl⟩, e4.trans e5, ?_⟩
        rw [List.take_of_length_le (by rw [List.length_drop, List.length_drop, lps]; exact Nat.le_refl _)] at t5
        show Tab m refs (gOne row k (gTo row k T)) H5
        unfold gOne
        rw [getD_of hp]
        exact t5
    · obtain ⟨⟨u2, u3, u4, u5, u6, u7, rfl⟩, e1, t1⟩ := h
      try simp only [wipe, tC, tVar, tChain, rI0, rI, rU, tOp, tUn, tCall, tAnd, tOr, tNot, tNotV, tAndV, tOrV, tTest, tB, tIf, tIfS, tRet, tRetN, tNext, tSeq, tNil, tCons, tAug, ipI, tPar, tAsg, gName, tDrop, tLst, tTup, tCB, tBM, tBM0, tFld_eq, tMkE, tMake, tAugS, gSub, rEq, rAll, rMax, rSum, rAppend, rExtend, rSetL, _root_.L2.start, List.map_cons, List.map_nil, List.length_cons, List.length_nil, List.replicate_succ, List.replicate_zero, List.cons_append, List.nil_append, List.append_nil, List.getElem?_cons_zero, List.getElem?_cons_succ, List.set_cons_zero, List.set_cons_succ, Nat.reduceAdd, Nat.reduceSub, V.int.injEq, V.bl.injEq, V.ref.injEq, V.str.injEq, exists_eq, exists_eq', exists_eq_left, exists_eq_left', exists_and_left, exists_and_right, Option.some.injEq, List.cons.injEq, and_true, true_and, and_assoc, retV, true_or, or_true, decide_eq_true_eq, if_true, if_false, Bool.false_eq_true, Bool.not_true, Bool.not_false, Bool.not_eq_true', reduceCtorEq, eq_self, decide_true, decide_false, List.length_map, exists_const, false_and, and_false, or_false, false_or, ↓reduceIte]
      rw [lps] at t1
      exact q _ e1 t1
end
end K78
set_option Elab.async false
set_option linter.all false
set_option maxRecDepth 100000
set_option maxHeartbeats 4000000
/-! k78: gaps_of -/
namespace K78
open PySem PySem.Spec PyProof.Rows L2 He HK
def RowsIn (m : Nat) (rows : Rows) : Prop := ∀ g ∈ rows, g.2.length ≤ 1000 ∧ ∀ p ∈ g.2, ∃ b : Nat, p.2 = (b : Int) ∧ b < m
theorem mem_foldl (a : Nat) : ∀ (os : List (Nat × List Int)) (gs : Rows) (l : List Int) (p : Int × Int), p ∈ curR (os.foldl (addR a) gs) l ↔ p ∈ curR gs l ∨ ∃ o ∈ os, ln a o.2 = l ∧ p = (o.2.getD a 0, (o.1 : Int))
  | [], gs, l, p => by simp
  | o :: os, gs, l, p => by
    rw [List.foldl_cons, mem_foldl a os]
    unfold addR
    rw [curR_put]
    by_cases e : l = ln a o.2
    · subst e
      rw [if_pos rfl, List.mem_append, List.mem_singleton]
      constructor
      · rintro ((h | h) | ⟨o', h1, h2⟩)
        · exact .inl h
        · exact .inr ⟨o, List.mem_cons_self, rfl, h⟩
        · exact .inr ⟨o', List.mem_cons_of_mem _ h1, h2⟩
      · rintro (h | ⟨o', h1, h2, h3⟩)
        · exact .inl (.inl h)
        · rcases List.mem_cons.1 h1 with h1 | h1
          · subst h1
            exact .inl (.inr h3)
          · exact .inr ⟨o', h1, h2, h3⟩
    · rw [if_neg e]
      constructor
      · rintro (h | ⟨o', h1, h2⟩)
        · exact .inl h
        · exact .inr ⟨o', List.mem_cons_of_mem _ h1, h2⟩
      · rintro (h | ⟨o', h1, h2, h3⟩)
        · exact .inl h
        · rcases List.mem_cons.1 h1 with h1 | h1
          · subst h1
            exact absurd h2.symm e
          · exact .inr ⟨o', h1, h2, h3⟩
theorem mem_curR (a : Nat) (os : List (Nat × List Int)) (l : List Int) (p : Int × Int) : p ∈ curR (rowsOf a os) l ↔ ∃ o ∈ os, ln a o.2 = l ∧ p = (o.2.getD a 0, (o.1 : Int)) := by
  have := mem_foldl a os [] l p
  unfold rowsOf
  rw [this]
  exact ⟨fun h => h.elim (fun z => by cases z) id, .inr⟩
theorem mem_occ {B : List (List (List Int))} {i : Nat} {o : Nat × List Int} : o ∈ occTo B i ↔ o.1 < i ∧ o.2 ∈ B.getD o.1 [] := by
  unfold occTo
  simp only [List.mem_flatMap, List.mem_range, List.mem_map]
  constructor
  · rintro ⟨b, hb, c, hc, rfl⟩
    exact ⟨hb, hc⟩
  · intro h
    exact ⟨o.1, h.1, o.2, h.2, rfl⟩
theorem rowsIn_of {a : Nat} {B' : List (List (List Int))} {rows : Rows} (hB : ∀ b ∈ B', b.length ≤ 60) (B12 : B'.length ≤ 12) (h : Paired SrtRow rows (rowsOf a (occTo B' B'.length))) : RowsIn B'.length rows := fun g hg => by
  obtain ⟨j, hj⟩ := List.getElem?_of_mem hg
  obtain ⟨g2, hg2, e1, e2, _⟩ := Paired.at h hj
  have hm := List.mem_of_getElem? hg2
  have hc := curR_mem (rowsOf_nodup a (occTo B' B'.length)) hm
  refine ⟨?_, fun p hp => ?_⟩
  · rw [e2.length_eq, ← hc]
    refine Nat.le_trans (curR_len _ _ _) (Nat.le_trans (occTo_len B' hB _) ?_)
    omega
  · have := e2.mem_iff.1 hp
    rw [← hc, mem_curR] at this
    obtain ⟨o, ho, _, rfl⟩ := this
    exact ⟨o.1, rfl, (mem_occ.1 ho).1⟩
def gAll (rows : Rows) (T : GR) : GR := rows.foldl (fun T g => gTo g.2 g.2.length T) T
def diagRow (m b : Nat) : List (Option Int) := (List.range m).map fun o => if b = o then some 0 else none
def diag (m : Nat) : GR := (List.range m).map (diagRow m)
def sp_gaps_of (K : PySem.W.Frag) : Sp := fun vs H Q _ => ∃ v n B' a R, vs = [v, .int (a : Nat)] ∧ BodX K n B' H v ∧ a < n ∧ n ≤ 3 ∧ 1 ≤ B'.length ∧ B'.length ≤ 12 ∧ (∀ b ∈ B', b.length ≤ 60 ∧ ∀ c ∈ b, c.length = n) ∧ GapsOk B'.length R ∧
  (∀ rows, Paired SrtRow rows (rowsOf a (occTo B' B'.length)) → gAll rows (diag B'.length) = R) ∧ Ret (GapO K B'.length R) H Q
section
variable {w : World} {K : PySem.W.Frag} {mg : Str → Option Value} {base : Heap}
theorem C_gaps_of (S : Sc K mg) : Cal prg w K mg base CX0 "gaps_of" 7 ["bodies", "axis"] [] (sp_gaps_of K) := by
  have C_rows_along := C_rows_along (w := w) (base := base) S
  have C_gaps_along := C_gaps_along (w := w) (base := base) S
  have C_need_bodies := C_need_bodies (w := w) (base := base) S
  have C_need_axis := C_need_axis (w := w) (base := base) S
  have C_Gaps := C_Gaps (w := w) (base := base) S
  refine S.cal (d := d_gaps_of) 20 16 sc_gaps_of rfl rfl rfl rfl rfl (fun _ _ _ _ _ _ us hl => match us, hl with | [_, _], _ => rfl) (fun vs H Q E h => ?_) (fun f cdv A outer s H vs Q E hr h => ?_)
  · obtain ⟨v, n, B', a, R, rfl, _⟩ := h
    rfl
  · obtain ⟨_, n, B', a, R, rfl, hX, han, n3, B1, B12, hB, hG, hR, q⟩ := h
    obtain ⟨x, dx, t, rfl, hx, tb, us, rfl, htb, hp⟩ := id hX
    refine ⟨_, (pss_cons (ps_expr (pe_c C_need_bodies (hr.mono (by omega)) passL (pa_cons (pv 0) pa_nil)))
      (pss_cons (ps_expr (pe_c C_need_axis (hr.mono (by omega)) pass0 (pa_cons (pe_fld (pv 0) rfl) (pa_cons (pv 1) pa_nil))))
      (pss_cons (ps_set (i := 2) sc_gaps_of.nd rfl (by first | exact Or.inl rfl | exact Or.inr rfl) (pe_callB cr_lenA (by rfl) (S.free 42) (by decide +kernel) (pa_cons (pe_fld (pv 0) rfl) pa_nil)))
      (pss_cons (ps_setLc (i := 3) (own := [("one", 5)]) (g := (gName 5)) (tt := tYes) rfl sc_gaps_of.nd rfl rfl (sw_true rfl rfl rfl (by decide +kernel)) (pi_range1 rfl (S.free 46) (pa_cons (pv 2) pa_nil)) (blkOk_by (N := ["bodies", "axis", "many", "found", "other", "one", "row"]) (sc := defScope s_gaps_of) (by decide +kernel)) (fun _ _ _ _ _ => (pg_name (i := 5) sc_gaps_of.nd rfl (by first | exact Or.inl rfl | exact Or.inr rfl))) (fun _ _ _ _ _ => pts_nil) (fun _ _ _ _ _ => (pe_lc (own := [("other", 4)]) (g := (gName 4)) (tt := tYes) rfl sc_gaps_of.nd (pi_range1 rfl (S.free 46) (pa_cons (pv 2) pa_nil)) (blkOk_by (by kernel_rfl)) (fun _ _ _ _ _ => (pg_name (i := 4) sc_gaps_of.nd rfl (by first | exact Or.inl rfl | exact Or.inr rfl))) (fun _ _ _ _ _ => pts_nil) (fun _ _ _ _ _ => (pe_ifExp (pt_cmpR op_eq (pv 5) (pv 4) (nomark _)) pe_int pe_non)))))
      (pss_cons (ps_for PassesOwn.never rfl (pi_seq (pe_listVals rfl (pe_c C_rows_along (hr.mono (by omega)) pass0 (pa_cons (pv 0) (pa_cons (pv 1) pa_nil))) (S.free 43))) (pg_name (i := 6) sc_gaps_of.nd rfl (by first | exact Or.inl rfl | exact Or.inr rfl)) (pss_one (ps_expr (pe_c C_gaps_along (hr.mono (by omega)) pass0 (pa_cons (pv 6) (pa_cons (pv 3) pa_nil))))))
      (pss_one (ps_ret (pe_m C_Gaps (hr.mono (by omega)) pass0 (pa_cons (pv 2) (pa_cons (pv 3) pa_nil)))))))))), ?_⟩
    have hl : us.length = B'.length := Paired.len hp
    try simp only [wipe, tC, tVar, tChain, rI0, rI, rU, tOp, tUn, tCall, tAnd, tOr, tNot, tNotV, tAndV, tOrV, tTest, tB, tIf, tIfS, tRet, tRetN, tNext, tSeq, tNil, tCons, tAug, ipI, tPar, tAsg, gName, tDrop, tLst, tTup, tCB, tBM, tBM0, tFld_eq, tMkE, tMake, tAugS, gSub, rEq, rAll, rMax, rSum, rAppend, rExtend, rSetL, _root_.L2.start, List.map_cons, List.map_nil, List.length_cons, List.length_nil, List.replicate_succ, List.replicate_zero, List.cons_append, List.nil_append, List.append_nil, List.getElem?_cons_zero, List.getElem?_cons_succ, List.set_cons_zero, List.set_cons_succ, Nat.reduceAdd, Nat.reduceSub, V.int.injEq, V.bl.injEq, V.ref.injEq, V.str.injEq, exists_eq, exists_eq', exists_eq_left, exists_eq_left', exists_and_left, exists_and_right, Option.some.injEq, List.cons.injEq, and_true, true_and, and_assoc, retV, true_or, or_true, decide_eq_true_eq, if_true, if_false, Bool.false_eq_true, Bool.not_true, Bool.not_false, Bool.not_eq_true', reduceCtorEq, eq_self, decide_true, decide_false, List.length_map, exists_const, false_and, and_false, or_false, false_or, ↓reduceIte]
    refine ⟨x, dx, _, rfl, hx, retV.2 fun H1 e1 => ?_⟩
    try simp only [wipe, tC, tVar, tChain, rI0, rI, rU, tOp, tUn, tCall, tAnd, tOr, tNot, tNotV, tAndV, tOrV, tTest, tB, tIf, tIfS, tRet, tRetN, tNext, tSeq, tNil, tCons, tAug, ipI, tPar, tAsg, gName, tDrop, tLst, tTup, tCB, tBM, tBM0, tFld_eq, tMkE, tMake, tAugS, gSub, rEq, rAll, rMax, rSum, rAppend, rExtend, rSetL, _root_.L2.start, List.map_cons, List.map_nil, List.length_cons, List.length_nil, List.replicate_succ, List.replicate_zero, List.cons_append, List.nil_append, List.append_nil, List.getElem?_cons_zero, List.getElem?_cons_succ, List.set_cons_zero, List.set_cons_succ, Nat.reduceAdd, Nat.reduceSub, V.int.injEq, V.bl.injEq, V.ref.injEq, V.str.injEq, exists_eq, exists_eq', exists_eq_left, exists_eq_left', exists_and_left, exists_and_right, Option.some.injEq, List.cons.injEq, and_true, true_and, and_assoc, retV, true_or, or_true, decide_eq_true_eq, if_true, if_false, Bool.false_eq_true, Bool.not_true, Bool.not_false, Bool.not_eq_true', reduceCtorEq, eq_self, decide_true, decide_false, List.length_map, exists_const, false_and, and_false, or_false, false_or, ↓reduceIte]
    refine fld_at (e1 _ _ hx) (S.cls 60) (S.noat 65) rfl ?_
    refine ⟨n, a, rfl, han, retV.2 fun H2 e2 => ?_⟩
    have e02 := e1.trans e2
    try simp only [wipe, tC, tVar, tChain, rI0, rI, rU, tOp, tUn, tCall, tAnd, tOr, tNot, tNotV, tAndV, tOrV, tTest, tB, tIf, tIfS, tRet, tRetN, tNext, tSeq, tNil, tCons, tAug, ipI, tPar, tAsg, gName, tDrop, tLst, tTup, tCB, tBM, tBM0, tFld_eq, tMkE, tMake, tAugS, gSub, rEq, rAll, rMax, rSum, rAppend, rExtend, rSetL, _root_.L2.start, List.map_cons, List.map_nil, List.length_cons, List.length_nil, List.replicate_succ, List.replicate_zero, List.cons_append, List.nil_append, List.append_nil, List.getElem?_cons_zero, List.getElem?_cons_succ, List.set_cons_zero, List.set_cons_succ, Nat.reduceAdd, Nat.reduceSub, V.int.injEq, V.bl.injEq, V.ref.injEq, V.str.injEq, exists_eq, exists_eq', exists_eq_left, exists_eq_left', exists_and_left, exists_and_right, Option.some.injEq, List.cons.injEq, and_true, true_and, and_assoc, retV, true_or, or_true, decide_eq_true_eq, if_true, if_false, Bool.false_eq_true, Bool.not_true, Bool.not_false, Bool.not_eq_true', reduceCtorEq, eq_self, decide_true, decide_false, List.length_map, exists_const, false_and, and_false, or_false, false_or, ↓reduceIte]
    refine fld_at (e02 _ _ hx) (S.cls 60) (S.noat 66) rfl ?_
    refine len_sq (.inr (e02 _ _ htb)) ?_
    try simp only [wipe, tC, tVar, tChain, rI0, rI, rU, tOp, tUn, tCall, tAnd, tOr, tNot, tNotV, tAndV, tOrV, tTest, tB, tIf, tIfS, tRet, tRetN, tNext, tSeq, tNil, tCons, tAug, ipI, tPar, tAsg, gName, tDrop, tLst, tTup, tCB, tBM, tBM0, tFld_eq, tMkE, tMake, tAugS, gSub, rEq, rAll, rMax, rSum, rAppend, rExtend, rSetL, _root_.L2.start, List.map_cons, List.map_nil, List.length_cons, List.length_nil, List.replicate_succ, List.replicate_zero, List.cons_append, List.nil_append, List.append_nil, List.getElem?_cons_zero, List.getElem?_cons_succ, List.set_cons_zero, List.set_cons_succ, Nat.reduceAdd, Nat.reduceSub, V.int.injEq, V.bl.injEq, V.ref.injEq, V.str.injEq, exists_eq, exists_eq', exists_eq_left, exists_eq_left', exists_and_left, exists_and_right, Option.some.injEq, List.cons.injEq, and_true, true_and, and_assoc, retV, true_or, or_true, decide_eq_true_eq, if_true, if_false, Bool.false_eq_true, Bool.not_true, Bool.not_false, Bool.not_eq_true', reduceCtorEq, eq_self, decide_true, decide_false, List.length_map, exists_const, false_and, and_false, or_false, false_or, ↓reduceIte]
    rw [hl]
    refine lc_acc (gives_rng1 (j := B'.length) (fun Q h => ⟨_, rfl, h⟩)) (Box.none (A := Old H2) (fun _ z => z)) (fun _ _ => trivial) (by rw [rngV_len]; exact Nat.le_trans (by omega : _ ≤ 12) (by decide))
      (fun A k acc H' => ∃ refs : List Addr, acc = refs.map V.ref ∧ refs.Nodup ∧ refs.length = k ∧ ∀ (i : Nat) (r : Addr), refs[i]? = some r → ¬A r ∧ H' r = some (.lst ((diagRow B'.length i).map ov))) (fun D H' => ⟨[], rfl, .nil, rfl, fun i r z => by cases z⟩)
      (fun e ⟨refs, h1, h2, h3, h4⟩ => ⟨refs, h1, h2, h3, fun i r hr => ⟨(h4 i r hr).1, e.1 _ _ (h4 i r hr).1 (h4 i r hr).2⟩⟩) (fun w ⟨refs, h1, h2, h3, h4⟩ => ⟨refs, h1, h2, h3, fun i r hr => ⟨fun z => (h4 i r hr).1 (w r z), (h4 i r hr).2⟩⟩)
      (fun k y acc H' D N N0 hk hy e _ hA hI hN _ => ?_) fun acc H3 F e3 _ nF nAF hF hI => ?_
    · rw [rngV_len] at hk
      rw [rngV_get hk, Int.zero_add] at hy
      obtain rfl := Option.some.inj hy
      obtain ⟨refs, h1, h2, h3, h4⟩ := hI
      refine ⟨rfl, ?_⟩
      try simp only [wipe, tC, tVar, tChain, rI0, rI, rU, tOp, tUn, tCall, tAnd, tOr, tNot, tNotV, tAndV, tOrV, tTest, tB, tIf, tIfS, tRet, tRetN, tNext, tSeq, tNil, tCons, tAug, ipI, tPar, tAsg, gName, tDrop, tLst, tTup, tCB, tBM, tBM0, tFld_eq, tMkE, tMake, tAugS, gSub, rEq, rAll, rMax, rSum, rAppend, rExtend, rSetL, _root_.L2.start, List.map_cons, List.map_nil, List.length_cons, List.length_nil, List.replicate_succ, List.replicate_zero, List.cons_append, List.nil_append, List.append_nil, List.getElem?_cons_zero, List.getElem?_cons_succ, List.set_cons_zero, List.set_cons_succ, Nat.reduceAdd, Nat.reduceSub, V.int.injEq, V.bl.injEq, V.ref.injEq, V.str.injEq, exists_eq, exists_eq', exists_eq_left, exists_eq_left', exists_and_left, exists_and_right, Option.some.injEq, List.cons.injEq, and_true, true_and, and_assoc, retV, true_or, or_true, decide_eq_true_eq, if_true, if_false, Bool.false_eq_true, Bool.not_true, Bool.not_false, Bool.not_eq_true', reduceCtorEq, eq_self, decide_true, decide_false, List.length_map, exists_const, false_and, and_false, or_false, false_or, tYes, ↓reduceIte]
      refine lc_map (O := No) (A := fun a => Or1 (Old H2) D a ∨ a ∈ refs) (gives_rng1 (j := B'.length) (fun Q h => ⟨_, rfl, h⟩)) (Box.none (fun a z => z.elim (hA a) fun z => ?_)) (fun _ _ => trivial) (by rw [rngV_len]; exact Nat.le_trans (by omega : _ ≤ 12) (by decide)) (fun x => rfl) fam_on (List.range B'.length) (by rw [rngV_len, List.length_range]; rfl) (fun o => if k = o then some 0 else none) (fun n y z H6 D6 N6 hy hz e6 _ _ hN6 => ?_) fun ys H7 L7 e7 _ nL7 nA7 hL7 hys => ?_
      · obtain ⟨i, hi⟩ := List.getElem?_of_mem z
        rw [(h4 i a hi).2]
        exact fun z => nomatch z
      · have hn : n < B'.length := by
          have := (List.getElem?_eq_some_iff.1 hz).1
          rwa [List.length_range] at this
        rw [rngV_get (by omega), Int.zero_add] at hy
        rw [List.getElem?_range hn] at hz
        obtain rfl := Option.some.inj hy
        obtain rfl := Option.some.inj hz
        try simp only [wipe, tC, tVar, tChain, rI0, rI, rU, tOp, tUn, tCall, tAnd, tOr, tNot, tNotV, tAndV, tOrV, tTest, tB, tIf, tIfS, tRet, tRetN, tNext, tSeq, tNil, tCons, tAug, ipI, tPar, tAsg, gName, tDrop, tLst, tTup, tCB, tBM, tBM0, tFld_eq, tMkE, tMake, tAugS, gSub, rEq, rAll, rMax, rSum, rAppend, rExtend, rSetL, _root_.L2.start, List.map_cons, List.map_nil, List.length_cons, List.length_nil, List.replicate_succ, List.replicate_zero, List.cons_append, List.nil_append, List.append_nil, List.getElem?_cons_zero, List.getElem?_cons_succ, List.set_cons_zero, List.set_cons_succ, Nat.reduceAdd, Nat.reduceSub, V.int.injEq, V.bl.injEq, V.ref.injEq, V.str.injEq, exists_eq, exists_eq', exists_eq_left, exists_eq_left', exists_and_left, exists_and_right, Option.some.injEq, List.cons.injEq, and_true, true_and, and_assoc, retV, true_or, or_true, decide_eq_true_eq, if_true, if_false, Bool.false_eq_true, Bool.not_true, Bool.not_false, Bool.not_eq_true', reduceCtorEq, eq_self, decide_true, decide_false, List.length_map, exists_const, false_and, and_false, or_false, false_or, scal, ↓reduceIte]
        by_cases hkn : (k : Int) = (n : Int)
        · rw [if_pos (by simpa using hkn)]
          refine hN6 _ _ (SameO.refl _ _) trivial ?_
          show V.int 0 = ov (if k = n then some 0 else none)
          rw [if_pos (by omega)]
          rfl
        · rw [if_neg (by simpa using hkn)]
          refine hN6 _ _ (SameO.refl _ _) trivial ?_
          show V.non = ov (if k = n then some 0 else none)
          rw [if_neg (by omega)]
          rfl
      · obtain rfl := on_eq hys
        refine hN _ _ e7 trivial ⟨refs ++ [L7], by rw [h1, List.map_append]; rfl, ?_, by simp [h3], fun i r hr => ?_⟩
        · rw [List.nodup_append]
          refine ⟨h2, List.pairwise_singleton _ L7, fun x hx y hy => ?_⟩
          rw [List.mem_singleton] at hy
          subst hy
          intro z
          subst z
          exact nA7 (.inr hx)
        · by_cases hi : i < refs.length
          · rw [List.getElem?_append_left hi] at hr
            exact ⟨(h4 i r hr).1, e7.same _ _ (h4 i r hr).2⟩
          · have hi2 : i = refs.length := by
              have := (List.getElem?_eq_some_iff.1 hr).1
              rw [List.length_append] at this
              simp at this
              omega
            subst hi2
            rw [List.getElem?_append_right (Nat.le_refl _), Nat.sub_self] at hr
            obtain rfl := Option.some.inj hr
            refine ⟨fun z => nA7 (.inl z), ?_⟩
            rw [hL7, h3]
            rfl
    · obtain ⟨refs, h1, h2, h3, h4⟩ := hI
      rw [rngV_len, Int.toNat_natCast] at h3
      have e03 : Same H H3 := e02.trans e3.same
      try simp only [wipe, tC, tVar, tChain, rI0, rI, rU, tOp, tUn, tCall, tAnd, tOr, tNot, tNotV, tAndV, tOrV, tTest, tB, tIf, tIfS, tRet, tRetN, tNext, tSeq, tNil, tCons, tAug, ipI, tPar, tAsg, gName, tDrop, tLst, tTup, tCB, tBM, tBM0, tFld_eq, tMkE, tMake, tAugS, gSub, rEq, rAll, rMax, rSum, rAppend, rExtend, rSetL, _root_.L2.start, List.map_cons, List.map_nil, List.length_cons, List.length_nil, List.replicate_succ, List.replicate_zero, List.cons_append, List.nil_append, List.append_nil, List.getElem?_cons_zero, List.getElem?_cons_succ, List.set_cons_zero, List.set_cons_succ, Nat.reduceAdd, Nat.reduceSub, V.int.injEq, V.bl.injEq, V.ref.injEq, V.str.injEq, exists_eq, exists_eq', exists_eq_left, exists_eq_left', exists_and_left, exists_and_right, Option.some.injEq, List.cons.injEq, and_true, true_and, and_assoc, retV, true_or, or_true, decide_eq_true_eq, if_true, if_false, Bool.false_eq_true, Bool.not_true, Bool.not_false, Bool.not_eq_true', reduceCtorEq, eq_self, decide_true, decide_false, List.length_map, exists_const, false_and, and_false, or_false, false_or, ↓reduceIte]
      rw [for_call]
      try simp only [wipe, tC, tVar, tChain, rI0, rI, rU, tOp, tUn, tCall, tAnd, tOr, tNot, tNotV, tAndV, tOrV, tTest, tB, tIf, tIfS, tRet, tRetN, tNext, tSeq, tNil, tCons, tAug, ipI, tPar, tAsg, gName, tDrop, tLst, tTup, tCB, tBM, tBM0, tFld_eq, tMkE, tMake, tAugS, gSub, rEq, rAll, rMax, rSum, rAppend, rExtend, rSetL, _root_.L2.start, List.map_cons, List.map_nil, List.length_cons, List.length_nil, List.replicate_succ, List.replicate_zero, List.cons_append, List.nil_append, List.append_nil, List.getElem?_cons_zero, List.getElem?_cons_succ, List.set_cons_zero, List.set_cons_succ, Nat.reduceAdd, Nat.reduceSub, V.int.injEq, V.bl.injEq, V.ref.injEq, V.str.injEq, exists_eq, exists_eq', exists_eq_left, exists_eq_left', exists_and_left, exists_and_right, Option.some.injEq, List.cons.injEq, and_true, true_and, and_assoc, retV, true_or, or_true, decide_eq_true_eq, if_true, if_false, Bool.false_eq_true, Bool.not_true, Bool.not_false, Bool.not_eq_true', reduceCtorEq, eq_self, decide_true, decide_false, List.length_map, exists_const, false_and, and_false, or_false, false_or, tListVals, ↓reduceIte]
      refine ⟨.ref x, n, B', a, rfl, ⟨x, dx, _, rfl, e03 _ _ hx, tb, us, rfl, e03 _ _ htb, (famT_tp (famT_tp famT_in)).p (.of e03) hp⟩, han, n3, B12, hB, fun d H4 rows e4 nd hRw hS => ?_⟩
      obtain ⟨d', kvs, ed, hd, hk⟩ := hRw
      obtain rfl := V.ref.inj ed
      try simp only [wipe, tC, tVar, tChain, rI0, rI, rU, tOp, tUn, tCall, tAnd, tOr, tNot, tNotV, tAndV, tOrV, tTest, tB, tIf, tIfS, tRet, tRetN, tNext, tSeq, tNil, tCons, tAug, ipI, tPar, tAsg, gName, tDrop, tLst, tTup, tCB, tBM, tBM0, tFld_eq, tMkE, tMake, tAugS, gSub, rEq, rAll, rMax, rSum, rAppend, rExtend, rSetL, _root_.L2.start, List.map_cons, List.map_nil, List.length_cons, List.length_nil, List.replicate_succ, List.replicate_zero, List.cons_append, List.nil_append, List.append_nil, List.getElem?_cons_zero, List.getElem?_cons_succ, List.set_cons_zero, List.set_cons_succ, Nat.reduceAdd, Nat.reduceSub, V.int.injEq, V.bl.injEq, V.ref.injEq, V.str.injEq, exists_eq, exists_eq', exists_eq_left, exists_eq_left', exists_and_left, exists_and_right, Option.some.injEq, List.cons.injEq, and_true, true_and, and_assoc, retV, true_or, or_true, decide_eq_true_eq, if_true, if_false, Bool.false_eq_true, Bool.not_true, Bool.not_false, Bool.not_eq_true', reduceCtorEq, eq_self, decide_true, decide_false, List.length_map, exists_const, false_and, and_false, or_false, false_or, ↓reduceIte]
      refine ⟨kvs, hd, fun p np => ?_⟩
      have hRI := rowsIn_of (fun b hb => (hB b hb).1) B12 hS
      have e3p : Same H3 (upd H4 p (.lst (kvs.map (·.2)))) := e4.trans (same_new np)
      have e4p : Same H4 (upd H4 p (.lst (kvs.map (·.2)))) := same_new np
      have lkr : kvs.length = rows.length := Paired.len hk
      have nrH : ∀ r ∈ refs, H2 r = none := fun r hr => Classical.byContradiction fun z => by
        obtain ⟨i, hi⟩ := List.getElem?_of_mem hr
        exact (h4 i r hi).1 z
      have hpp : (upd H4 p (.lst (kvs.map (·.2)))) p = some (.lst (kvs.map (·.2))) := upd_same
      generalize upd H4 p (.lst (kvs.map (·.2))) = H5 at e3p e4p hpp
      have hr5 : ∀ (i : Nat) (r : Addr), refs[i]? = some r → H5 r = some (.lst ((diagRow B'.length i).map ov)) := fun i r hr => e3p _ _ (h4 i r hr).2
      have off : ∀ {z : Addr} {xs : List V}, z ∈ refs → H4 z = some (.lst xs) → ∃ i, refs[i]? = some z ∧ xs = (diagRow B'.length i).map ov := fun {z xs} hz hx => by
        obtain ⟨i, hi⟩ := List.getElem?_of_mem hz
        have := e4 _ _ (h4 i z hi).2
        rw [hx] at this
        exact ⟨i, hi, by injection this with this; injection this⟩
      have nFr : F ∉ refs := fun z => by
        obtain ⟨i, hi⟩ := List.getElem?_of_mem z
        have hh := (h4 i F hi).2
        rw [hF, h1] at hh
        injection hh with hh
        injection hh with hh
        have l0 := congrArg (fun l => l[i]?) hh
        simp only [List.getElem?_map, hi] at l0
        cases hd : (diagRow B'.length i)[i]? with
        | none => rw [hd] at l0; cases l0
        | some o =>
          rw [hd] at l0
          cases o <;> cases l0
      have hF5 : H5 F = some (.lst (refs.map V.ref)) := by rw [e3p _ _ hF, h1]
      have old : ∀ {z : Addr} {o : HO}, H4 z = some o → H3 z = none → z ∉ refs := fun {z o} h h0 zr => by
        obtain ⟨i, hi⟩ := List.getElem?_of_mem zr
        rw [(h4 i z hi).2] at h0
        cases h0
      have npr : p ∉ refs := fun z => by
        obtain ⟨i, hi⟩ := List.getElem?_of_mem z
        rw [e4 _ _ (h4 i p hi).2] at np
        cases np
      have t5 : Tab B'.length refs (diag B'.length) H5 := ⟨by unfold diag; rw [List.length_map, List.length_range], fun b r hb => ?_, fun b z r hz hb => ?_⟩
      · refine for_go (gives_sq (xs := kvs.map (·.2)) (a := p) (fun Q h => h) (.inl hpp)) (fun i σ H' => (∃ u6, σ = [some (.ref x), some (.int (a : Nat)), some (.int (B'.length : Nat)), some (.ref F), none, none, u6]) ∧ SameO (fun a => a ∈ refs) H5 H' ∧ Tab B'.length refs (gAll (rows.take i) (diag B'.length)) H')
          ⟨⟨_, rfl⟩, SameO.refl _ _, t5⟩ (fun i σ H' _ h => ?_) (fun i y σ H6 hi hy h => ?_) (fun σ H6 h => ?_)
        · rw [h.2.1.1 _ _ npr hpp, hpp]
        · obtain ⟨⟨u6, rfl⟩, e6, t6⟩ := h
          rw [List.length_map] at hi
          rw [List.getElem?_map] at hy
          obtain ⟨kv, hkv⟩ := getI hi
          rw [hkv] at hy
          obtain ⟨g, hg, _, rr, vs, e5, hrr, hvs⟩ := Paired.at hk hkv
          have hy1 : y = .ref rr := by rw [← e5]; exact (Option.some.inj hy).symm
          subst hy1
          have hgm := List.mem_of_getElem? hg
          obtain ⟨g1000, hgin⟩ := hRI g hgm
          have nrr : rr ∉ refs := fun z => by
            obtain ⟨i, hi, ev⟩ := off z hrr
            obtain ⟨v0, hv0⟩ := getI (xs := vs) (i := 0) (by rw [ev]; unfold diagRow; rw [List.length_map, List.length_map, List.length_range]; omega)
            obtain ⟨pp, _, t0, et0, _⟩ := Paired.at hvs hv0
            rw [ev, List.getElem?_map] at hv0
            cases hd : (diagRow B'.length i)[0]? with
            | none => rw [hd] at hv0; cases hv0
            | some o =>
              rw [hd, et0] at hv0
              cases o <;> cases hv0
          have e46 : SameO (fun a => a ∈ refs) H4 H6 := SameO.trans (.of e4p) e6
          try simp only [wipe, tC, tVar, tChain, rI0, rI, rU, tOp, tUn, tCall, tAnd, tOr, tNot, tNotV, tAndV, tOrV, tTest, tB, tIf, tIfS, tRet, tRetN, tNext, tSeq, tNil, tCons, tAug, ipI, tPar, tAsg, gName, tDrop, tLst, tTup, tCB, tBM, tBM0, tFld_eq, tMkE, tMake, tAugS, gSub, rEq, rAll, rMax, rSum, rAppend, rExtend, rSetL, _root_.L2.start, List.map_cons, List.map_nil, List.length_cons, List.length_nil, List.replicate_succ, List.replicate_zero, List.cons_append, List.nil_append, List.append_nil, List.getElem?_cons_zero, List.getElem?_cons_succ, List.set_cons_zero, List.set_cons_succ, Nat.reduceAdd, Nat.reduceSub, V.int.injEq, V.bl.injEq, V.ref.injEq, V.str.injEq, exists_eq, exists_eq', exists_eq_left, exists_eq_left', exists_and_left, exists_and_right, Option.some.injEq, List.cons.injEq, and_true, true_and, and_assoc, retV, true_or, or_true, decide_eq_true_eq, if_true, if_false, Bool.false_eq_true, Bool.not_true, Bool.not_false, Bool.not_eq_true', reduceCtorEq, eq_self, decide_true, decide_false, List.length_map, exists_const, false_and, and_false, or_false, false_or, ↓reduceIte]
          refine ⟨rr, F, vs, g.2, B'.length, refs, _, rfl, e46.1 _ _ nrr hrr, Paired.imp (fun _ _ h => h.tk e46.2.1) hvs, g1000, hgin, e6.1 _ _ nFr hF5, h2, h3, nrr, nFr, t6, fun H7 e7 t7 => ?_⟩
          try simp only [wipe, tC, tVar, tChain, rI0, rI, rU, tOp, tUn, tCall, tAnd, tOr, tNot, tNotV, tAndV, tOrV, tTest, tB, tIf, tIfS, tRet, tRetN, tNext, tSeq, tNil, tCons, tAug, ipI, tPar, tAsg, gName, tDrop, tLst, tTup, tCB, tBM, tBM0, tFld_eq, tMkE, tMake, tAugS, gSub, rEq, rAll, rMax, rSum, rAppend, rExtend, rSetL, _root_.L2.start, List.map_cons, List.map_nil, List.length_cons, List.length_nil, List.replicate_succ, List.replicate_zero, List.cons_append, List.nil_append, List.append_nil, List.getElem?_cons_zero, List.getElem?_cons_succ, List.set_cons_zero, List.set_cons_succ, Nat.reduceAdd, Nat.reduceSub, V.int.injEq, V.bl.injEq, V.ref.injEq, V.str.injEq, exists_eq, exists_eq', exists_eq_left, exists_eq_left', exists_and_left, exists_and_right, Option.some.injEq, List.cons.injEq, and_true, true_and, and_assoc, retV, true_or, or_true, decide_eq_true_eq, if_true, if_false, Bool.false_eq_true, Bool.not_true, Bool.not_false, Bool.not_eq_true', reduceCtorEq, eq_self, decide_true, decide_false, List.length_map, exists_const, false_and, and_false, or_false, false_or, ↓reduceIte]
          refine ⟨e6.trans e7, ?_⟩
          have et : gAll (rows.take (i + 1)) (diag B'.length) = gTo g.2 g.2.length (gAll (rows.take i) (diag B'.length)) := by
            unfold gAll
            rw [List.take_succ, hg, List.foldl_append]
            rfl
          rw [et]
          exact t7
        · obtain ⟨⟨u6, rfl⟩, e6, t6⟩ := h
          rw [List.length_map, lkr, List.take_length, hR rows hS] at t6
          have e06 : Same H H6 := fun z o hz => by
            have h2 := e02 _ _ hz
            exact e6.1 _ _ (fun zr => by rw [nrH z zr] at h2; cases h2) (e3p _ _ (e3.same _ _ h2))
          try simp only [wipe, tC, tVar, tChain, rI0, rI, rU, tOp, tUn, tCall, tAnd, tOr, tNot, tNotV, tAndV, tOrV, tTest, tB, tIf, tIfS, tRet, tRetN, tNext, tSeq, tNil, tCons, tAug, ipI, tPar, tAsg, gName, tDrop, tLst, tTup, tCB, tBM, tBM0, tFld_eq, tMkE, tMake, tAugS, gSub, rEq, rAll, rMax, rSum, rAppend, rExtend, rSetL, _root_.L2.start, List.map_cons, List.map_nil, List.length_cons, List.length_nil, List.replicate_succ, List.replicate_zero, List.cons_append, List.nil_append, List.append_nil, List.getElem?_cons_zero, List.getElem?_cons_succ, List.set_cons_zero, List.set_cons_succ, Nat.reduceAdd, Nat.reduceSub, V.int.injEq, V.bl.injEq, V.ref.injEq, V.str.injEq, exists_eq, exists_eq', exists_eq_left, exists_eq_left', exists_and_left, exists_and_right, Option.some.injEq, List.cons.injEq, and_true, true_and, and_assoc, retV, true_or, or_true, decide_eq_true_eq, if_true, if_false, Bool.false_eq_true, Bool.not_true, Bool.not_false, Bool.not_eq_true', reduceCtorEq, eq_self, decide_true, decide_false, List.length_map, exists_const, false_and, and_false, or_false, false_or, ↓reduceIte]
          refine make_gaps (R := R) ⟨F, refs.map V.ref, rfl, fun z => z, .inl (e6.1 _ _ nFr hF5), paired_ix (by rw [List.length_map, h3, t6.lT]) fun b v r hv hrb => ?_⟩ B1 hG fun v H7 e7 hv => q v H7 (e06.trans e7) hv
          rw [List.getElem?_map] at hv
          cases hz : refs[b]? with
          | none =>
            rw [hz] at hv
            cases hv
          | some z =>
            rw [hz] at hv
            obtain rfl := Option.some.inj hv
            exact ⟨z, _, rfl, fun z => z, .inl (t6.at_ b z r hz hrb), on_of r⟩
      · unfold diag at hb
        rw [List.getElem?_map] at hb
        cases hz : (List.range B'.length)[b]? with
        | none => rw [hz] at hb; cases hb
        | some z =>
          rw [hz] at hb
          obtain rfl := Option.some.inj hb
          unfold diagRow
          rw [List.length_map, List.length_range]
      · have hbm : b < B'.length := by
          have := (List.getElem?_eq_some_iff.1 hb).1
          unfold diag at this
          rwa [List.length_map, List.length_range] at this
        unfold diag at hb
        rw [List.getElem?_map, List.getElem?_range hbm] at hb
        obtain rfl := Option.some.inj hb
        exact hr5 b z hz
end
end K78
set_option Elab.async false
set_option linter.all false
set_option maxRecDepth 100000
set_option maxHeartbeats 4000000
/-! k78: need_gaps, need_offsets, first_broken, broken -/
namespace K78
open PySem PySem.Spec PyProof.Rows L2 He HK
def sp_need_gaps (K : PySem.W.Frag) : Sp := fun vs H Q E => ∃ x, vs = [x, .int (-1), .non] ∧ ((∃ m R, GapO K m R H x ∧ RetV .non H Q) ∨ Alien K H x ∧ Err (ga K "InvalidGaps") "at" (.int (-1)) H E)
def sp_need_offsets : Sp := fun vs H Q E => ∃ (m : Nat) (v : V) (os : List Int), vs = [.int m, v, .int (-1)] ∧ SqF InA No H v os ∧ os.length = m ∧ m ≤ 12 ∧ (∀ x ∈ os, -1000000 ≤ x ∧ x ≤ 1000000) ∧ Ret (fun H v => TpF InA No H v os) H Q
/-- offsets that break a gap -/
def BrkAt (R : GR) (os : List Int) (one other : Nat) : Prop := ∃ row g x y, R[one]? = some row ∧ row[other]? = some (some g) ∧ os[one]? = some x ∧ os[other]? = some y ∧ y - x < g
def Brk (R : GR) (os : List Int) : Prop := ∃ one other, BrkAt R os one other
def sp_first_broken : Sp := fun vs H Q _ => ∃ (t u : V) (R : GR) (os : List Int), vs = [t, u] ∧ GapR R H t ∧ TpF InA No H u os ∧ R.length = os.length ∧ (∀ row ∈ R, row.length = os.length) ∧ (¬Brk R os → RetV .non H Q) ∧ (Brk R os → ∀ v H', Same H H' → v ≠ .non → Q v H')
def sp_broken (K : PySem.W.Frag) : Sp := fun vs H Q _ => ∃ (x v : V) (m : Nat) (R : GR) (os : List Int), vs = [x, v] ∧ GapO K m R H x ∧ GapsOk m R ∧ SqF InA No H v os ∧ os.length = m ∧ (∀ x ∈ os, -1000000 ≤ x ∧ x ≤ 1000000) ∧ (¬Brk R os → RetV .non H Q) ∧ (Brk R os → ∀ v H', Same H H' → v ≠ .non → Q v H')
section
variable {w : World} {K : PySem.W.Frag} {mg : Str → Option Value} {base : Heap}
theorem C_need_gaps (S : Sc K mg) : Cal prg w K mg base (L2.CX prg w) "need_gaps" 1 ["value", "at", "many"] [.int (-1), .non] (sp_need_gaps K) := by
  refine S.calD (d := d_need_gaps) 17 13 1 [.int (-1), .non] sc_need_gaps rfl rfl rfl rfl (by decide) rfl (fun _ _ _ _ _ _ _ us its h1 h2 => match us, its, h1, h2 with | [_], [_, _], _, _ => ⟨_, rfl, rfl⟩) (fun vs H Q E h => ?_) (fun f cdv A outer s H vs Q E hr h => ?_)
  · obtain ⟨x, rfl, _⟩ := h
    rfl
  · obtain ⟨x, rfl, h⟩ := h
    refine ⟨_, (pss_one (ps_if (PW.pt (pw_or (pt_not (pt_val (pe_callB call_isi (by rfl) (S.free 41) (by decide +kernel) (pa_cons (pv 0) (pa_cons (pe_gc (S.glo 62)) pa_nil))))) (pw_or1 (PW.pt (pw_and (pt_cmpR op_notN (pv 2) pe_non (nomark _)) (pw_and1 (pt_cmpR op_ne (pe_fld (pv 0) rfl) (pv 2) (nomark _)))))))) (pss_one (ps_raise rfl (takes_of rfl rfl rfl rfl) (mk_InvalidGaps S rfl hr (pa_cons (pv 1) pa_nil) rfl rfl rfl))) pss_nil)), ?_⟩
    rcases h with ⟨m, R, h, q⟩ | ⟨⟨T, hT, hm⟩, hE⟩
    · try simp only [wipe, tC, tVar, tChain, rI0, rI, rU, tOp, tUn, tCall, tAnd, tOr, tNot, tNotV, tAndV, tOrV, tTest, tB, tIf, tIfS, tRet, tRetN, tNext, tSeq, tNil, tCons, tAug, ipI, tPar, tAsg, gName, tDrop, tLst, tTup, tCB, tBM, tBM0, tFld_eq, tMkE, tMake, tAugS, gSub, rEq, rAll, rMax, rSum, rAppend, rExtend, rSetL, _root_.L2.start, List.map_cons, List.map_nil, List.length_cons, List.length_nil, List.replicate_succ, List.replicate_zero, List.cons_append, List.nil_append, List.append_nil, List.getElem?_cons_zero, List.getElem?_cons_succ, List.set_cons_zero, List.set_cons_succ, Nat.reduceAdd, Nat.reduceSub, V.int.injEq, V.bl.injEq, V.ref.injEq, V.str.injEq, exists_eq, exists_eq', exists_eq_left, exists_eq_left', exists_and_left, exists_and_right, Option.some.injEq, List.cons.injEq, and_true, true_and, and_assoc, retV, true_or, or_true, decide_eq_true_eq, if_true, if_false, Bool.false_eq_true, Bool.not_true, Bool.not_false, Bool.not_eq_true', reduceCtorEq, eq_self, decide_true, decide_false, List.length_map, exists_const, false_and, and_false, or_false, false_or, ↓reduceIte]
      refine isi_gap S h ?_
      try simp only [wipe, tC, tVar, tChain, rI0, rI, rU, tOp, tUn, tCall, tAnd, tOr, tNot, tNotV, tAndV, tOrV, tTest, tB, tIf, tIfS, tRet, tRetN, tNext, tSeq, tNil, tCons, tAug, ipI, tPar, tAsg, gName, tDrop, tLst, tTup, tCB, tBM, tBM0, tFld_eq, tMkE, tMake, tAugS, gSub, rEq, rAll, rMax, rSum, rAppend, rExtend, rSetL, _root_.L2.start, List.map_cons, List.map_nil, List.length_cons, List.length_nil, List.replicate_succ, List.replicate_zero, List.cons_append, List.nil_append, List.append_nil, List.getElem?_cons_zero, List.getElem?_cons_succ, List.set_cons_zero, List.set_cons_succ, Nat.reduceAdd, Nat.reduceSub, V.int.injEq, V.bl.injEq, V.ref.injEq, V.str.injEq, exists_eq, exists_eq', exists_eq_left, exists_eq_left', exists_and_left, exists_and_right, Option.some.injEq, List.cons.injEq, and_true, true_and, and_assoc, retV, true_or, or_true, decide_eq_true_eq, if_true, if_false, Bool.false_eq_true, Bool.not_true, Bool.not_false, Bool.not_eq_true', reduceCtorEq, eq_self, decide_true, decide_false, List.length_map, exists_const, false_and, and_false, or_false, false_or, ↓reduceIte]
      exact q.go (Same.refl _) rfl
    · try simp only [wipe, tC, tVar, tChain, rI0, rI, rU, tOp, tUn, tCall, tAnd, tOr, tNot, tNotV, tAndV, tOrV, tTest, tB, tIf, tIfS, tRet, tRetN, tNext, tSeq, tNil, tCons, tAug, ipI, tPar, tAsg, gName, tDrop, tLst, tTup, tCB, tBM, tBM0, tFld_eq, tMkE, tMake, tAugS, gSub, rEq, rAll, rMax, rSum, rAppend, rExtend, rSetL, _root_.L2.start, List.map_cons, List.map_nil, List.length_cons, List.length_nil, List.replicate_succ, List.replicate_zero, List.cons_append, List.nil_append, List.append_nil, List.getElem?_cons_zero, List.getElem?_cons_succ, List.set_cons_zero, List.set_cons_succ, Nat.reduceAdd, Nat.reduceSub, V.int.injEq, V.bl.injEq, V.ref.injEq, V.str.injEq, exists_eq, exists_eq', exists_eq_left, exists_eq_left', exists_and_left, exists_and_right, Option.some.injEq, List.cons.injEq, and_true, true_and, and_assoc, retV, true_or, or_true, decide_eq_true_eq, if_true, if_false, Bool.false_eq_true, Bool.not_true, Bool.not_false, Bool.not_eq_true', reduceCtorEq, eq_self, decide_true, decide_false, List.length_map, exists_const, false_and, and_false, or_false, false_or, ↓reduceIte]
      refine isi_not (own_Gaps S) hT hm ?_
      try simp only [wipe, tC, tVar, tChain, rI0, rI, rU, tOp, tUn, tCall, tAnd, tOr, tNot, tNotV, tAndV, tOrV, tTest, tB, tIf, tIfS, tRet, tRetN, tNext, tSeq, tNil, tCons, tAug, ipI, tPar, tAsg, gName, tDrop, tLst, tTup, tCB, tBM, tBM0, tFld_eq, tMkE, tMake, tAugS, gSub, rEq, rAll, rMax, rSum, rAppend, rExtend, rSetL, _root_.L2.start, List.map_cons, List.map_nil, List.length_cons, List.length_nil, List.replicate_succ, List.replicate_zero, List.cons_append, List.nil_append, List.append_nil, List.getElem?_cons_zero, List.getElem?_cons_succ, List.set_cons_zero, List.set_cons_succ, Nat.reduceAdd, Nat.reduceSub, V.int.injEq, V.bl.injEq, V.ref.injEq, V.str.injEq, exists_eq, exists_eq', exists_eq_left, exists_eq_left', exists_and_left, exists_and_right, Option.some.injEq, List.cons.injEq, and_true, true_and, and_assoc, retV, true_or, or_true, decide_eq_true_eq, if_true, if_false, Bool.false_eq_true, Bool.not_true, Bool.not_false, Bool.not_eq_true', reduceCtorEq, eq_self, decide_true, decide_false, List.length_map, exists_const, false_and, and_false, or_false, false_or, ↓reduceIte]
      exact fun d nd => hE _ d (Same.refl _) nd
theorem C_need_offsets (S : Sc K mg) : Cal prg w K mg base (L2.CX prg w) "need_offsets" 3 ["many", "value", "at"] [.int (-1)] sp_need_offsets := by
  have C_is_row := C_is_row (w := w) (base := base) S
  have C_is_between := C_is_between (w := w) (base := base) S
  refine S.calD (d := d_need_offsets) 18 14 2 [.int (-1)] sc_need_offsets rfl rfl rfl rfl (by decide) rfl (fun _ _ _ _ _ _ _ us its h1 h2 => match us, its, h1, h2 with | [_, _], [_], _, _ => ⟨_, rfl, rfl⟩) (fun vs H Q E h => ?_) (fun f cdv A outer s H vs Q E hr h => ?_)
  · obtain ⟨m, v, os, rfl, _⟩ := h
    rfl
  · obtain ⟨m, v, os, rfl, ⟨a, xs, rfl, _, hs, hp⟩, lo, m12, hb, q⟩ := h
    obtain rfl := ina_eq hp
    refine ⟨_, (pss_cons (ps_if (PW.pt (pw_or (pt_not (pt_val (pe_c C_is_row (hr.mono (by omega)) pass0 (pa_cons (pv 1) (pa_cons (pv 0) pa_nil))))) (pw_or1 (pt_not (pt_val (pe_callB (cr_all rfl) (by rfl) (S.free 37) (by decide +kernel) (pa_cons (pe_lc (own := [("part", 3)]) (g := (gName 3)) (tt := tYes) rfl sc_need_offsets.nd (pi_seq (pv 1)) (blkOk_by (N := ["many", "value", "at", "part"]) (sc := defScope s_need_offsets) (by decide +kernel)) (fun _ _ _ _ _ => (pg_name (i := 3) sc_need_offsets.nd rfl (by first | exact Or.inl rfl | exact Or.inr rfl))) (fun _ _ _ _ _ => pts_nil) (fun _ _ _ _ _ => (pe_c C_is_between (hr.mono (by omega)) pass0 (pa_cons (pv 3) (pa_cons (pe_un un_neg (pe_gi (S.int 57))) (pa_cons (pe_gi (S.int 57)) pa_nil)))))) pa_nil))))))) (pss_one ps_never) pss_nil)
      (pss_one (ps_ret (pe_callTy cr_tupA (by rfl) (S.free 50) (by decide +kernel) (pa_cons (pv 1) pa_nil))))), ?_⟩
    try simp only [wipe, tC, tVar, tChain, rI0, rI, rU, tOp, tUn, tCall, tAnd, tOr, tNot, tNotV, tAndV, tOrV, tTest, tB, tIf, tIfS, tRet, tRetN, tNext, tSeq, tNil, tCons, tAug, ipI, tPar, tAsg, gName, tDrop, tLst, tTup, tCB, tBM, tBM0, tFld_eq, tMkE, tMake, tAugS, gSub, rEq, rAll, rMax, rSum, rAppend, rExtend, rSetL, _root_.L2.start, List.map_cons, List.map_nil, List.length_cons, List.length_nil, List.replicate_succ, List.replicate_zero, List.cons_append, List.nil_append, List.append_nil, List.getElem?_cons_zero, List.getElem?_cons_succ, List.set_cons_zero, List.set_cons_succ, Nat.reduceAdd, Nat.reduceSub, V.int.injEq, V.bl.injEq, V.ref.injEq, V.str.injEq, exists_eq, exists_eq', exists_eq_left, exists_eq_left', exists_and_left, exists_and_right, Option.some.injEq, List.cons.injEq, and_true, true_and, and_assoc, retV, true_or, or_true, decide_eq_true_eq, if_true, if_false, Bool.false_eq_true, Bool.not_true, Bool.not_false, Bool.not_eq_true', reduceCtorEq, eq_self, decide_true, decide_false, List.length_map, exists_const, false_and, and_false, or_false, false_or, ↓reduceIte]
    refine ⟨a, os.map V.int, m, rfl, hs, retV.2 fun H1 e1 => ?_⟩
    rw [show decide (((os.map V.int).length : Int) = (m : Int)) = true from decide_eq_true (by rw [List.length_map, lo])]
    try simp only [wipe, tC, tVar, tChain, rI0, rI, rU, tOp, tUn, tCall, tAnd, tOr, tNot, tNotV, tAndV, tOrV, tTest, tB, tIf, tIfS, tRet, tRetN, tNext, tSeq, tNil, tCons, tAug, ipI, tPar, tAsg, gName, tDrop, tLst, tTup, tCB, tBM, tBM0, tFld_eq, tMkE, tMake, tAugS, gSub, rEq, rAll, rMax, rSum, rAppend, rExtend, rSetL, _root_.L2.start, List.map_cons, List.map_nil, List.length_cons, List.length_nil, List.replicate_succ, List.replicate_zero, List.cons_append, List.nil_append, List.append_nil, List.getElem?_cons_zero, List.getElem?_cons_succ, List.set_cons_zero, List.set_cons_succ, Nat.reduceAdd, Nat.reduceSub, V.int.injEq, V.bl.injEq, V.ref.injEq, V.str.injEq, exists_eq, exists_eq', exists_eq_left, exists_eq_left', exists_and_left, exists_and_right, Option.some.injEq, List.cons.injEq, and_true, true_and, and_assoc, retV, true_or, or_true, decide_eq_true_eq, if_true, if_false, Bool.false_eq_true, Bool.not_true, Bool.not_false, Bool.not_eq_true', reduceCtorEq, eq_self, decide_true, decide_false, List.length_map, exists_const, false_and, and_false, or_false, false_or, ↓reduceIte]
    have hs1 := hs.same e1
    refine lc_map (gives_sq (fun Q h => ⟨_, rfl, h⟩) hs1) (Box.none (A := No) (fun _ z => z.elim)) (fun H' e => hs1.keep (fun z => z) e) (by rw [List.length_map]; exact Nat.le_trans (by omega : os.length ≤ 12) (by decide)) (fun x => rfl) fam_eq os (by simp) (fun _ => V.bl true) (fun n x z H' D N hx hz e _ _ hN => ?_) fun ys H' D e _ nD _ hD hp => ?_
    · rw [List.getElem?_map, hz] at hx
      obtain rfl := Option.some.inj hx
      try simp only [wipe, tC, tVar, tChain, rI0, rI, rU, tOp, tUn, tCall, tAnd, tOr, tNot, tNotV, tAndV, tOrV, tTest, tB, tIf, tIfS, tRet, tRetN, tNext, tSeq, tNil, tCons, tAug, ipI, tPar, tAsg, gName, tDrop, tLst, tTup, tCB, tBM, tBM0, tFld_eq, tMkE, tMake, tAugS, gSub, rEq, rAll, rMax, rSum, rAppend, rExtend, rSetL, _root_.L2.start, List.map_cons, List.map_nil, List.length_cons, List.length_nil, List.replicate_succ, List.replicate_zero, List.cons_append, List.nil_append, List.append_nil, List.getElem?_cons_zero, List.getElem?_cons_succ, List.set_cons_zero, List.set_cons_succ, Nat.reduceAdd, Nat.reduceSub, V.int.injEq, V.bl.injEq, V.ref.injEq, V.str.injEq, exists_eq, exists_eq', exists_eq_left, exists_eq_left', exists_and_left, exists_and_right, Option.some.injEq, List.cons.injEq, and_true, true_and, and_assoc, retV, true_or, or_true, decide_eq_true_eq, if_true, if_false, Bool.false_eq_true, Bool.not_true, Bool.not_false, Bool.not_eq_true', reduceCtorEq, eq_self, decide_true, decide_false, List.length_map, exists_const, false_and, and_false, or_false, false_or, sp_is_between, ↓reduceIte]
      intro H4 e4
      rw [decide_eq_true (hb z (List.mem_of_getElem? hz))]
      exact hN _ _ (.of e4) trivial rfl
    · have hy : ys = (os.map fun _ => true).map V.bl := by rw [eqa_eq hp, List.map_map]; rfl
      refine ⟨D, rfl, os.map fun _ => true, ?_⟩
      rw [← hy]
      refine ⟨sqL_of hD, ?_⟩
      rw [show ((os.map fun _ => true).all id) = true by simp]
      try simp only [wipe, tC, tVar, tChain, rI0, rI, rU, tOp, tUn, tCall, tAnd, tOr, tNot, tNotV, tAndV, tOrV, tTest, tB, tIf, tIfS, tRet, tRetN, tNext, tSeq, tNil, tCons, tAug, ipI, tPar, tAsg, gName, tDrop, tLst, tTup, tCB, tBM, tBM0, tFld_eq, tMkE, tMake, tAugS, gSub, rEq, rAll, rMax, rSum, rAppend, rExtend, rSetL, _root_.L2.start, List.map_cons, List.map_nil, List.length_cons, List.length_nil, List.replicate_succ, List.replicate_zero, List.cons_append, List.nil_append, List.append_nil, List.getElem?_cons_zero, List.getElem?_cons_succ, List.set_cons_zero, List.set_cons_succ, Nat.reduceAdd, Nat.reduceSub, V.int.injEq, V.bl.injEq, V.ref.injEq, V.str.injEq, exists_eq, exists_eq', exists_eq_left, exists_eq_left', exists_and_left, exists_and_right, Option.some.injEq, List.cons.injEq, and_true, true_and, and_assoc, retV, true_or, or_true, decide_eq_true_eq, if_true, if_false, Bool.false_eq_true, Bool.not_true, Bool.not_false, Bool.not_eq_true', reduceCtorEq, eq_self, decide_true, decide_false, List.length_map, exists_const, false_and, and_false, or_false, false_or, ↓reduceIte]
      exact tup_sq (hs1.same e.same) fun p H5 e5 hp5 => q.go (e1.trans (e.same.trans e5)) ⟨p, _, rfl, hp5, ina_of os⟩
theorem C_first_broken (S : Sc K mg) : Cal prg w K mg base CX0 "first_broken" 1 ["rows", "offsets"] [] sp_first_broken := by
  refine S.cal (d := d_first_broken) 21 17 sc_first_broken rfl rfl rfl rfl rfl (fun _ _ _ _ _ _ us hl => match us, hl with | [_, _], _ => rfl) (fun vs H Q E h => ?_) (fun f cdv A outer s H vs Q E hr h => ?_)
  · obtain ⟨t, u, R, os, rfl, _⟩ := h
    rfl
  · obtain ⟨_, _, R, os, rfl, ⟨ta, us, rfl, hta, htp⟩, ⟨oa, xs, rfl, hoa, hop⟩, lR, lrow, q0, q1⟩ := h
    obtain rfl := ina_eq hop
    refine ⟨_, (pss_cons (ps_for PassesOwn.never rfl (pi_enS (S.free 39) (pa_cons (pv 0) pa_nil)) (pg_tup (by rfl) (pgs_cons (pg_name (i := 2) sc_first_broken.nd rfl (by first | exact Or.inl rfl | exact Or.inr rfl)) (pgs_cons (pg_name (i := 3) sc_first_broken.nd rfl (by first | exact Or.inl rfl | exact Or.inr rfl)) pgs_nil))) (pss_one (ps_for PassesOwn.never rfl (pi_enS (S.free 39) (pa_cons (pv 3) pa_nil)) (pg_tup (by rfl) (pgs_cons (pg_name (i := 4) sc_first_broken.nd rfl (by first | exact Or.inl rfl | exact Or.inr rfl)) (pgs_cons (pg_name (i := 5) sc_first_broken.nd rfl (by first | exact Or.inl rfl | exact Or.inr rfl)) pgs_nil))) (pss_one (ps_if (PW.pt (pw_and (pt_cmpR op_notN (pv 5) pe_non (nomark _)) (pw_and1 (pt_cmpR op_lt (pe_op op_sub (pe_ix ix_tup (pv 1) (pv 4) (fun _ _ => rfl)) (pe_ix ix_tup (pv 1) (pv 2) (fun _ _ => rfl))) (pv 5) (nomark _))))) (pss_one (ps_ret (pe_tup (pa_cons (pv 2) (pa_cons (pv 4) pa_nil))))) pss_nil)))))
      (pss_one (ps_ret pe_non))), ?_⟩
    have lus : us.length = R.length := Paired.len htp
    try simp only [wipe, tC, tVar, tChain, rI0, rI, rU, tOp, tUn, tCall, tAnd, tOr, tNot, tNotV, tAndV, tOrV, tTest, tB, tIf, tIfS, tRet, tRetN, tNext, tSeq, tNil, tCons, tAug, ipI, tPar, tAsg, gName, tDrop, tLst, tTup, tCB, tBM, tBM0, tFld_eq, tMkE, tMake, tAugS, gSub, rEq, rAll, rMax, rSum, rAppend, rExtend, rSetL, _root_.L2.start, List.map_cons, List.map_nil, List.length_cons, List.length_nil, List.replicate_succ, List.replicate_zero, List.cons_append, List.nil_append, List.append_nil, List.getElem?_cons_zero, List.getElem?_cons_succ, List.set_cons_zero, List.set_cons_succ, Nat.reduceAdd, Nat.reduceSub, V.int.injEq, V.bl.injEq, V.ref.injEq, V.str.injEq, exists_eq, exists_eq', exists_eq_left, exists_eq_left', exists_and_left, exists_and_right, Option.some.injEq, List.cons.injEq, and_true, true_and, and_assoc, retV, true_or, or_true, decide_eq_true_eq, if_true, if_false, Bool.false_eq_true, Bool.not_true, Bool.not_false, Bool.not_eq_true', reduceCtorEq, eq_self, decide_true, decide_false, List.length_map, exists_const, false_and, and_false, or_false, false_or, ↓reduceIte]
    refine for_en (xs := us) (a := ta) (fun Q h => ⟨_, rfl, h⟩) (.inr hta) (fun k σ H' => (∃ u2 u3 u4 u5, σ = [some (.ref ta), some (.ref oa), u2, u3, u4, u5]) ∧ Same H H' ∧ ∀ i j, i < k → ¬BrkAt R os i j)
      ⟨⟨_, _, _, _, rfl⟩, Same.refl _, fun i j h => absurd h (Nat.not_lt_zero _)⟩ (fun k σ H1 _ h => ?_) (fun k z σ H1 B hk hz h nB => ?_) (fun σ H1 h => ?_)
    · rw [h.2.1 _ _ hta, hta]
    · obtain ⟨⟨u2, u3, u4, u5, rfl⟩, e1, nb⟩ := h
      refine g_two rfl upd_same ?_
      have e2 : Same H (upd H1 B (.tup [.int (k : Nat), z])) := e1.trans (same_new nB)
      generalize upd H1 B (.tup [.int (k : Nat), z]) = H2 at e2
      obtain ⟨row, hrow, ra, ws, rfl, hra, hrp⟩ := Paired.at htp hz
      obtain rfl := on_eq hrp
      have lr := lrow row (List.mem_of_getElem? hrow)
      obtain ⟨xk, hxk⟩ := getI (xs := os) (i := k) (by omega)
      try simp only [wipe, tC, tVar, tChain, rI0, rI, rU, tOp, tUn, tCall, tAnd, tOr, tNot, tNotV, tAndV, tOrV, tTest, tB, tIf, tIfS, tRet, tRetN, tNext, tSeq, tNil, tCons, tAug, ipI, tPar, tAsg, gName, tDrop, tLst, tTup, tCB, tBM, tBM0, tFld_eq, tMkE, tMake, tAugS, gSub, rEq, rAll, rMax, rSum, rAppend, rExtend, rSetL, _root_.L2.start, List.map_cons, List.map_nil, List.length_cons, List.length_nil, List.replicate_succ, List.replicate_zero, List.cons_append, List.nil_append, List.append_nil, List.getElem?_cons_zero, List.getElem?_cons_succ, List.set_cons_zero, List.set_cons_succ, Nat.reduceAdd, Nat.reduceSub, V.int.injEq, V.bl.injEq, V.ref.injEq, V.str.injEq, exists_eq, exists_eq', exists_eq_left, exists_eq_left', exists_and_left, exists_and_right, Option.some.injEq, List.cons.injEq, and_true, true_and, and_assoc, retV, true_or, or_true, decide_eq_true_eq, if_true, if_false, Bool.false_eq_true, Bool.not_true, Bool.not_false, Bool.not_eq_true', reduceCtorEq, eq_self, decide_true, decide_false, List.length_map, exists_const, false_and, and_false, or_false, false_or, ↓reduceIte]
      refine for_en (xs := row.map ov) (a := ra) (fun Q h => ⟨_, rfl, h⟩) (.inr (e2 _ _ hra)) (fun j σ H' => (∃ u4 u5, σ = [some (.ref ta), some (.ref oa), some (.int (k : Nat)), some (.ref ra), u4, u5]) ∧ Same H H' ∧ ∀ j', j' < j → ¬BrkAt R os k j')
        ⟨⟨_, _, rfl⟩, e2, fun i h => absurd h (Nat.not_lt_zero _)⟩ (fun j σ H3 _ h => ?_) (fun j y σ H3 C hj hy h nC => ?_) (fun σ H3 h => ?_)
      · rw [h.2.1 _ _ hra, e2 _ _ hra]
      · obtain ⟨⟨u4, u5, rfl⟩, e3, nb3⟩ := h
        rw [List.length_map] at hj
        obtain ⟨c, hc⟩ := getI (xs := row) hj
        rw [List.getElem?_map, hc] at hy
        obtain rfl := Option.some.inj hy
        refine g_two rfl upd_same ?_
        have e4 : Same H (upd H3 C (.tup [.int (j : Nat), ov c])) := e3.trans (same_new nC)
        generalize upd H3 C (.tup [.int (j : Nat), ov c]) = H4 at e4
        obtain ⟨xj, hxj⟩ := getI (xs := os) (i := j) (by omega)
        have ext : ¬BrkAt R os k j → ∀ j', j' < j + 1 → ¬BrkAt R os k j' := fun z j' hj' => by
          by_cases e : j' = j
          · rw [e]; exact z
          · exact nb3 j' (by omega)
        cases c with
        | none =>
          try simp only [wipe, tC, tVar, tChain, rI0, rI, rU, tOp, tUn, tCall, tAnd, tOr, tNot, tNotV, tAndV, tOrV, tTest, tB, tIf, tIfS, tRet, tRetN, tNext, tSeq, tNil, tCons, tAug, ipI, tPar, tAsg, gName, tDrop, tLst, tTup, tCB, tBM, tBM0, tFld_eq, tMkE, tMake, tAugS, gSub, rEq, rAll, rMax, rSum, rAppend, rExtend, rSetL, _root_.L2.start, List.map_cons, List.map_nil, List.length_cons, List.length_nil, List.replicate_succ, List.replicate_zero, List.cons_append, List.nil_append, List.append_nil, List.getElem?_cons_zero, List.getElem?_cons_succ, List.set_cons_zero, List.set_cons_succ, Nat.reduceAdd, Nat.reduceSub, V.int.injEq, V.bl.injEq, V.ref.injEq, V.str.injEq, exists_eq, exists_eq', exists_eq_left, exists_eq_left', exists_and_left, exists_and_right, Option.some.injEq, List.cons.injEq, and_true, true_and, and_assoc, retV, true_or, or_true, decide_eq_true_eq, if_true, if_false, Bool.false_eq_true, Bool.not_true, Bool.not_false, Bool.not_eq_true', reduceCtorEq, eq_self, decide_true, decide_false, List.length_map, exists_const, false_and, and_false, or_false, false_or, ov, ↓reduceIte]
          refine ⟨e4, ext ?_⟩
          rintro ⟨row', g, x, y, h1, h2, _⟩
          rw [hrow] at h1
          obtain rfl := Option.some.inj h1
          rw [hc] at h2
          cases h2
        | some g =>
          try simp only [wipe, tC, tVar, tChain, rI0, rI, rU, tOp, tUn, tCall, tAnd, tOr, tNot, tNotV, tAndV, tOrV, tTest, tB, tIf, tIfS, tRet, tRetN, tNext, tSeq, tNil, tCons, tAug, ipI, tPar, tAsg, gName, tDrop, tLst, tTup, tCB, tBM, tBM0, tFld_eq, tMkE, tMake, tAugS, gSub, rEq, rAll, rMax, rSum, rAppend, rExtend, rSetL, _root_.L2.start, List.map_cons, List.map_nil, List.length_cons, List.length_nil, List.replicate_succ, List.replicate_zero, List.cons_append, List.nil_append, List.append_nil, List.getElem?_cons_zero, List.getElem?_cons_succ, List.set_cons_zero, List.set_cons_succ, Nat.reduceAdd, Nat.reduceSub, V.int.injEq, V.bl.injEq, V.ref.injEq, V.str.injEq, exists_eq, exists_eq', exists_eq_left, exists_eq_left', exists_and_left, exists_and_right, Option.some.injEq, List.cons.injEq, and_true, true_and, and_assoc, retV, true_or, or_true, decide_eq_true_eq, if_true, if_false, Bool.false_eq_true, Bool.not_true, Bool.not_false, Bool.not_eq_true', reduceCtorEq, eq_self, decide_true, decide_false, List.length_map, exists_const, false_and, and_false, or_false, false_or, ov, ↓reduceIte]
          refine ixt_at (e4 _ _ hoa) (b := j) (v := .int xj) (by rw [List.getElem?_map, hxj]; rfl) (ixt_at (e4 _ _ hoa) (b := k) (v := .int xk) (by rw [List.getElem?_map, hxk]; rfl) ?_)
          try simp only [wipe, tC, tVar, tChain, rI0, rI, rU, tOp, tUn, tCall, tAnd, tOr, tNot, tNotV, tAndV, tOrV, tTest, tB, tIf, tIfS, tRet, tRetN, tNext, tSeq, tNil, tCons, tAug, ipI, tPar, tAsg, gName, tDrop, tLst, tTup, tCB, tBM, tBM0, tFld_eq, tMkE, tMake, tAugS, gSub, rEq, rAll, rMax, rSum, rAppend, rExtend, rSetL, _root_.L2.start, List.map_cons, List.map_nil, List.length_cons, List.length_nil, List.replicate_succ, List.replicate_zero, List.cons_append, List.nil_append, List.append_nil, List.getElem?_cons_zero, List.getElem?_cons_succ, List.set_cons_zero, List.set_cons_succ, Nat.reduceAdd, Nat.reduceSub, V.int.injEq, V.bl.injEq, V.ref.injEq, V.str.injEq, exists_eq, exists_eq', exists_eq_left, exists_eq_left', exists_and_left, exists_and_right, Option.some.injEq, List.cons.injEq, and_true, true_and, and_assoc, retV, true_or, or_true, decide_eq_true_eq, if_true, if_false, Bool.false_eq_true, Bool.not_true, Bool.not_false, Bool.not_eq_true', reduceCtorEq, eq_self, decide_true, decide_false, List.length_map, exists_const, false_and, and_false, or_false, false_or, ↓reduceIte]
          by_cases hg : xj - xk < g
          · rw [if_pos hg]
            refine ⟨by decide, fun p np => q1 ⟨k, j, row, g, xk, xj, hrow, hc, hxk, hxj, hg⟩ _ _ (e4.trans (same_new np)) (fun z => nomatch z)⟩
          · rw [if_neg hg]
            refine ⟨e4, ext ?_⟩
            rintro ⟨row', g', x, y, h1, h2, h3, h4, h5⟩
            rw [hrow] at h1
            obtain rfl := Option.some.inj h1
            rw [hc] at h2
            rw [hxk] at h3
            rw [hxj] at h4
            obtain rfl := Option.some.inj (Option.some.inj h2)
            obtain rfl := Option.some.inj h3
            obtain rfl := Option.some.inj h4
            exact hg h5
      · obtain ⟨⟨u4, u5, rfl⟩, e3, nb3⟩ := h
        rw [List.length_map] at nb3
        refine ⟨⟨_, _, _, _, rfl⟩, e3, fun i j hi => ?_⟩
        by_cases e : i = k
        · subst e
          by_cases hj : j < row.length
          · exact nb3 j hj
          · rintro ⟨row', g, x, y, h1, h2, _⟩
            rw [hrow] at h1
            obtain rfl := Option.some.inj h1
            exact hj (List.getElem?_eq_some_iff.1 h2).1
        · exact nb i j (by omega)
    · obtain ⟨⟨u2, u3, u4, u5, rfl⟩, e1, nb⟩ := h
      try simp only [wipe, tC, tVar, tChain, rI0, rI, rU, tOp, tUn, tCall, tAnd, tOr, tNot, tNotV, tAndV, tOrV, tTest, tB, tIf, tIfS, tRet, tRetN, tNext, tSeq, tNil, tCons, tAug, ipI, tPar, tAsg, gName, tDrop, tLst, tTup, tCB, tBM, tBM0, tFld_eq, tMkE, tMake, tAugS, gSub, rEq, rAll, rMax, rSum, rAppend, rExtend, rSetL, _root_.L2.start, List.map_cons, List.map_nil, List.length_cons, List.length_nil, List.replicate_succ, List.replicate_zero, List.cons_append, List.nil_append, List.append_nil, List.getElem?_cons_zero, List.getElem?_cons_succ, List.set_cons_zero, List.set_cons_succ, Nat.reduceAdd, Nat.reduceSub, V.int.injEq, V.bl.injEq, V.ref.injEq, V.str.injEq, exists_eq, exists_eq', exists_eq_left, exists_eq_left', exists_and_left, exists_and_right, Option.some.injEq, List.cons.injEq, and_true, true_and, and_assoc, retV, true_or, or_true, decide_eq_true_eq, if_true, if_false, Bool.false_eq_true, Bool.not_true, Bool.not_false, Bool.not_eq_true', reduceCtorEq, eq_self, decide_true, decide_false, List.length_map, exists_const, false_and, and_false, or_false, false_or, ↓reduceIte]
      refine (q0 ?_).go e1 rfl
      rintro ⟨i, j, hB⟩
      refine nb i j ?_ hB
      obtain ⟨row, _, _, _, h1, _⟩ := hB
      rw [lus]
      exact (List.getElem?_eq_some_iff.1 h1).1
theorem C_broken (S : Sc K mg) : Cal prg w K mg base CX0 "broken" 4 ["gaps", "offsets"] [] (sp_broken K) := by
  have C_need_gaps := C_need_gaps (w := w) (base := base) S
  have C_need_offsets := C_need_offsets (w := w) (base := base) S
  have C_first_broken := C_first_broken (w := w) (base := base) S
  refine S.cal (d := d_broken) 22 18 sc_broken rfl rfl rfl rfl rfl (fun _ _ _ _ _ _ us hl => match us, hl with | [_, _], _ => rfl) (fun vs H Q E h => ?_) (fun f cdv A outer s H vs Q E hr h => ?_)
  · obtain ⟨x, v, m, R, os, rfl, _⟩ := h
    rfl
  · obtain ⟨x, v, m, R, os, rfl, hx, O, hv, lo, hb, q0, q1⟩ := h
    refine ⟨_, (pss_cons (ps_expr (pe_c C_need_gaps (hr.mono (by omega)) passL (pa_cons (pv 0) pa_nil)))
      (pss_one (ps_ret (pe_c C_first_broken (hr.mono (by omega)) pass0 (pa_cons (pe_fld (pv 0) rfl) (pa_cons (pe_c C_need_offsets (hr.mono (by omega)) passL (pa_cons (pe_fld (pv 0) rfl) (pa_cons (pv 1) pa_nil))) pa_nil)))))), ?_⟩
    try simp only [wipe, tC, tVar, tChain, rI0, rI, rU, tOp, tUn, tCall, tAnd, tOr, tNot, tNotV, tAndV, tOrV, tTest, tB, tIf, tIfS, tRet, tRetN, tNext, tSeq, tNil, tCons, tAug, ipI, tPar, tAsg, gName, tDrop, tLst, tTup, tCB, tBM, tBM0, tFld_eq, tMkE, tMake, tAugS, gSub, rEq, rAll, rMax, rSum, rAppend, rExtend, rSetL, _root_.L2.start, List.map_cons, List.map_nil, List.length_cons, List.length_nil, List.replicate_succ, List.replicate_zero, List.cons_append, List.nil_append, List.append_nil, List.getElem?_cons_zero, List.getElem?_cons_succ, List.set_cons_zero, List.set_cons_succ, Nat.reduceAdd, Nat.reduceSub, V.int.injEq, V.bl.injEq, V.ref.injEq, V.str.injEq, exists_eq, exists_eq', exists_eq_left, exists_eq_left', exists_and_left, exists_and_right, Option.some.injEq, List.cons.injEq, and_true, true_and, and_assoc, retV, true_or, or_true, decide_eq_true_eq, if_true, if_false, Bool.false_eq_true, Bool.not_true, Bool.not_false, Bool.not_eq_true', reduceCtorEq, eq_self, decide_true, decide_false, List.length_map, exists_const, false_and, and_false, or_false, false_or, ↓reduceIte]
    refine ⟨x, rfl, .inl ⟨m, R, hx, retV.2 fun H1 e1 => ?_⟩⟩
    have hx1 := same_gap e1 hx
    try simp only [wipe, tC, tVar, tChain, rI0, rI, rU, tOp, tUn, tCall, tAnd, tOr, tNot, tNotV, tAndV, tOrV, tTest, tB, tIf, tIfS, tRet, tRetN, tNext, tSeq, tNil, tCons, tAug, ipI, tPar, tAsg, gName, tDrop, tLst, tTup, tCB, tBM, tBM0, tFld_eq, tMkE, tMake, tAugS, gSub, rEq, rAll, rMax, rSum, rAppend, rExtend, rSetL, _root_.L2.start, List.map_cons, List.map_nil, List.length_cons, List.length_nil, List.replicate_succ, List.replicate_zero, List.cons_append, List.nil_append, List.append_nil, List.getElem?_cons_zero, List.getElem?_cons_succ, List.set_cons_zero, List.set_cons_succ, Nat.reduceAdd, Nat.reduceSub, V.int.injEq, V.bl.injEq, V.ref.injEq, V.str.injEq, exists_eq, exists_eq', exists_eq_left, exists_eq_left', exists_and_left, exists_and_right, Option.some.injEq, List.cons.injEq, and_true, true_and, and_assoc, retV, true_or, or_true, decide_eq_true_eq, if_true, if_false, Bool.false_eq_true, Bool.not_true, Bool.not_false, Bool.not_eq_true', reduceCtorEq, eq_self, decide_true, decide_false, List.length_map, exists_const, false_and, and_false, or_false, false_or, ↓reduceIte]
    refine gap_rows S hx1 fun t ht => gap_many S hx1 ?_
    refine ⟨m, v, os, rfl, (fam_sq fam_in).same e1 hv, lo, O.1, hb, fun u H2 e2 hu => ?_⟩
    try simp only [wipe, tC, tVar, tChain, rI0, rI, rU, tOp, tUn, tCall, tAnd, tOr, tNot, tNotV, tAndV, tOrV, tTest, tB, tIf, tIfS, tRet, tRetN, tNext, tSeq, tNil, tCons, tAug, ipI, tPar, tAsg, gName, tDrop, tLst, tTup, tCB, tBM, tBM0, tFld_eq, tMkE, tMake, tAugS, gSub, rEq, rAll, rMax, rSum, rAppend, rExtend, rSetL, _root_.L2.start, List.map_cons, List.map_nil, List.length_cons, List.length_nil, List.replicate_succ, List.replicate_zero, List.cons_append, List.nil_append, List.append_nil, List.getElem?_cons_zero, List.getElem?_cons_succ, List.set_cons_zero, List.set_cons_succ, Nat.reduceAdd, Nat.reduceSub, V.int.injEq, V.bl.injEq, V.ref.injEq, V.str.injEq, exists_eq, exists_eq', exists_eq_left, exists_eq_left', exists_and_left, exists_and_right, Option.some.injEq, List.cons.injEq, and_true, true_and, and_assoc, retV, true_or, or_true, decide_eq_true_eq, if_true, if_false, Bool.false_eq_true, Bool.not_true, Bool.not_false, Bool.not_eq_true', reduceCtorEq, eq_self, decide_true, decide_false, List.length_map, exists_const, false_and, and_false, or_false, false_or, ↓reduceIte]
    refine ⟨t, u, R, os, rfl, famT_gap (.of e2) ht, hu, by rw [O.2.1, lo], fun row hrow => ?_, fun z => retV.2 fun H3 e3 => (q0 z).go (e1.trans (e2.trans e3)) rfl, fun z v' H3 e3 hv' => q1 z v' H3 (e1.trans (e2.trans e3)) hv'⟩
    obtain ⟨b, hb⟩ := List.getElem?_of_mem hrow
    rw [(O.2.2 b row hb).1, lo]
end
end K78
set_option Elab.async false
set_option linter.all false
set_option maxRecDepth 100000
set_option maxHeartbeats 4000000
/-! k78: bodies_with -/
namespace K78
open PySem PySem.Spec PyProof.Rows L2 He HK
def gapOf (R : GR) (p : List Int) : Int := (cellT R (p.getD 0 0).toNat (p.getD 1 0).toNat).getD 0
/-- the pairs with a gap -/
def prRow (R : GR) (b j : Nat) : List (List Int) := (List.range j).flatMap fun o => if b ≠ o ∧ (cellT R b o).isSome = true then [[(b : Int), (o : Int)]] else []
def prTo (R : GR) (m i : Nat) : List (List Int) := (List.range i).flatMap fun b => prRow R b m
def prs (R : GR) (m : Nat) : List (List Int) := prTo R m m
def prL (R : GR) (m n j : Nat) : List (List Int) := prTo R m n ++ prRow R n j
theorem prTo_succ (R : GR) (m i : Nat) : prTo R m (i + 1) = prTo R m i ++ prRow R i m := by simp [prTo, List.range_succ]
theorem prRow_succ (R : GR) (b j : Nat) : prRow R b (j + 1) = prRow R b j ++ if b ≠ j ∧ (cellT R b j).isSome = true then [[(b : Int), (j : Int)]] else [] := by simp [prRow, List.range_succ]
theorem prRow_le (R : GR) (b j : Nat) : (prRow R b j).length ≤ j := by
  induction j with
  | zero => simp [prRow]
  | succ j ih =>
    rw [prRow_succ, List.length_append]
    split <;> simp <;> omega
theorem prTo_le (R : GR) (m i : Nat) : (prTo R m i).length ≤ i * m := by
  induction i with
  | zero => simp [prTo]
  | succ i ih =>
    rw [prTo_succ, List.length_append, Nat.succ_mul]
    have := prRow_le R i m
    omega
theorem prL_le {R : GR} {m n j : Nat} (m12 : m ≤ 12) (hn : n < m) (hj : j < m) : (prL R m n j).length ≤ 144 := by
  unfold prL
  rw [List.length_append]
  have h1 := prTo_le R m n
  have h2 := prRow_le R n j
  have h3 : (n + 1) * m ≤ 12 * 12 := Nat.mul_le_mul (by omega) m12
  rw [Nat.succ_mul] at h3
  omega
theorem prs_le {R : GR} {m : Nat} (m12 : m ≤ 12) : (prs R m).length ≤ 144 := by
  have h1 := prTo_le R m m
  have h3 : m * m ≤ 12 * 12 := Nat.mul_le_mul m12 m12
  unfold prs
  omega
theorem prs_mem {m : Nat} {R : GR} {p : List Int} (h : p ∈ prs R m) : ∃ b o : Nat, p = [(b : Int), (o : Int)] ∧ b < m ∧ o < m ∧ b ≠ o ∧ ∃ g, cellT R b o = some g := by
  simp only [prs, prTo, prRow, List.mem_flatMap, List.mem_range] at h
  obtain ⟨b, hb, o, ho, hp⟩ := h
  split at hp
  · rename_i hh
    rw [List.mem_singleton] at hp
    exact ⟨b, o, hp, hb, ho, hh.1, Option.isSome_iff_exists.1 hh.2⟩
  · cases hp
theorem gapOf_two {R : GR} {b o : Nat} {g : Int} (h : cellT R b o = some g) : gapOf R [(b : Int), (o : Int)] = g := by
  unfold gapOf
  simp only [List.getD_cons_zero, List.getD_cons_succ, Int.toNat_natCast, h, Option.getD_some]
theorem cell_at {m : Nat} {R : GR} (O : GapsOk m R) {b o : Nat} (hb : b < m) (ho : o < m) : ∃ row c, R[b]? = some row ∧ row[o]? = some c ∧ cellT R b o = c := by
  obtain ⟨row, hr⟩ := getI (xs := R) (i := b) (by rw [O.2.1]; exact hb)
  obtain ⟨c, hc⟩ := getI (xs := row) (i := o) (by rw [(O.2.2 b row hr).1]; exact ho)
  exact ⟨row, c, hr, hc, by unfold cellT; rw [getD_of hr, getD_of hc]⟩
/-- the cells that the k-th pair gives to body x -/
def pcell (R : GR) (p : List Int) (k x : Nat) : List (List Int) :=
  (if p.getD 0 (-1) = (x : Int) then [[-1000, (k : Int)]] else []) ++ (if p.getD 1 (-1) = (x : Int) then [[1 - gapOf R p - 1000, (k : Int)]] else [])
def partTo (R : GR) (P : List (List Int)) (i x : Nat) : List (List Int) := (List.range i).flatMap fun k => pcell R (P.getD k []) k x
def part (R : GR) (P : List (List Int)) (x : Nat) : List (List Int) := partTo R P P.length x
theorem partTo_succ (R : GR) (P : List (List Int)) (i x : Nat) : partTo R P (i + 1) x = partTo R P i x ++ pcell R (P.getD i []) i x := by simp [partTo, List.range_succ]
def finC (R : GR) (P : List (List Int)) (x : Nat) : List (List Int) := if part R P x = [] then [[0, (P.length : Int) + (x : Int)]] else part R P x
def cellsOf (R : GR) (m : Nat) : List (List (List Int)) := (List.range m).map (finC R (prs R m))
theorem pcell_le (R : GR) (p : List Int) (k b : Nat) : (pcell R p k b).length ≤ 2 := by
  unfold pcell
  rw [List.length_append]
  split <;> split <;> simp
theorem partTo_le (R : GR) (P : List (List Int)) (i b : Nat) : (partTo R P i b).length ≤ 2 * i := by
  induction i with
  | zero => simp [partTo]
  | succ i ih =>
    rw [partTo_succ, List.length_append]
    have := pcell_le R (P.getD i []) i b
    omega
theorem pcell_of (R : GR) (k x b o : Nat) (hbo : b ≠ o) : pcell R [(b : Int), (o : Int)] k x = if x = o then [[1 - gapOf R [(b : Int), (o : Int)] - 1000, (k : Int)]] else if x = b then [[-1000, (k : Int)]] else [] := by
  unfold pcell
  simp only [List.getD_cons_succ, List.getD_cons_zero]
  by_cases h1 : x = b <;> by_cases h2 : x = o
  · omega
  · rw [if_pos (by omega), if_neg (by omega), if_neg h2, if_pos h1, List.append_nil]
  · rw [if_neg (by omega), if_pos (by omega), if_pos h2, List.nil_append]
  · rw [if_neg (by omega), if_neg (by omega), if_neg h2, if_neg h1, List.append_nil]
def High (R : GR) (m : Nat) : Prop := ∃ p ∈ prs R m, 0 < gapOf R p
def Low (R : GR) (m : Nat) : Prop := ∃ p ∈ prs R m, gapOf R p < -1999
theorem rngV_at {n k z : Nat} {y : V} (hy : (rngV 0 n)[k]? = some y) (hz : (List.range n)[k]? = some z) : y = .int (z : Nat) := by
  have hk : k < n := by
    have := (List.getElem?_eq_some_iff.1 hz).1
    rwa [List.length_range] at this
  rw [rngV_get hk] at hy
  rw [List.getElem?_range hk] at hz
  injection hy with hy
  injection hz with hz
  subst hz
  rw [← hy]
  simp
/-- the lists found so far -/
structure Fnd (H : Hp) (Rg F : Addr) (n : Nat) (refs : List Addr) (parts : Nat → List (List Int)) (H' : Hp) : Prop where
  same : Same H H'
  rg : H' Rg = some (.rng 0 n)
  f : H' F = some (.lst (refs.map V.ref))
  nd : refs.Nodup
  new : ∀ r ∈ refs, H r = none ∧ r ≠ F ∧ r ≠ Rg
  at_ : ∀ (b : Nat) (r : Addr), refs[b]? = some r → ∃ vs, H' r = some (.lst vs) ∧ Paired (LsF InA (fun a => Old H a ∨ a = F ∨ a = Rg ∨ a ∈ refs) H') vs (parts b)
section
variable {H H' H'' : Hp} {Rg F D : Addr} {n : Nat} {refs : List Addr} {parts : Nat → List (List Int)}
theorem Fnd.alive (h : Fnd H Rg F n refs parts H') : ∀ a, (Old H a ∨ a = F ∨ a = Rg ∨ a ∈ refs) → H' a ≠ none := fun a ha => by
  rcases ha with ha | ha | ha | ha
  · exact fun z => ha (h.same.free z)
  · rw [ha, h.f]
    exact fun z => nomatch z
  · rw [ha, h.rg]
    exact fun z => nomatch z
  · obtain ⟨b, hb⟩ := List.getElem?_of_mem ha
    obtain ⟨vs, e, _⟩ := h.at_ b a hb
    rw [e]
    exact fun z => nomatch z
theorem Fnd.grow (h : Fnd H Rg F n refs parts H') (e : Same H' H'') : Fnd H Rg F n refs parts H'' :=
  ⟨h.same.trans e, e _ _ h.rg, e _ _ h.f, h.nd, h.new, fun b r hb => by
    obtain ⟨vs, h1, h2⟩ := h.at_ b r hb
    exact ⟨vs, e _ _ h1, (fam_ls fam_in).monoP (.of e) h2⟩⟩
theorem Fnd.app (h : Fnd H Rg F n refs parts H') {b : Nat} {r : Addr} (hb : refs[b]? = some r) {vs : List V} (hr : H' r = some (.lst vs)) {c : List Int} (hD : H' D = some (.lst (c.map V.int))) (nD : ¬(Old H D ∨ D = F ∨ D = Rg ∨ D ∈ refs)) :
    Fnd H Rg F n refs (fun x => if x = b then parts b ++ [c] else parts x) (upd H' r (.lst (vs ++ [.ref D]))) := by
  have hm := List.mem_of_getElem? hb
  obtain ⟨n1, n2, n3⟩ := h.new r hm
  have e : SameO (fun a => Old H a ∨ a = F ∨ a = Rg ∨ a ∈ refs) H' (upd H' r (.lst (vs ++ [.ref D]))) := .lst hr (.inr (.inr (.inr hm)))
  have nDr : D ≠ r := fun z => nD (.inr (.inr (.inr (z ▸ hm))))
  refine ⟨same_mut h.same n1, by rw [upd_ne n3.symm]; exact h.rg, by rw [upd_ne n2.symm]; exact h.f, h.nd, h.new, fun x s hx => ?_⟩
  by_cases ex : x = b
  · subst ex
    obtain rfl : s = r := by rw [hb] at hx; exact (Option.some.inj hx).symm
    obtain ⟨us, h1, h2⟩ := h.at_ x s hx
    rw [h1] at hr
    obtain rfl : us = vs := by injection hr with hr; injection hr
    refine ⟨_, upd_same, ?_⟩
    rw [if_pos rfl]
    exact Paired.app ((fam_ls fam_in).monoP e h2) (.cons ⟨D, _, rfl, nD, by rw [upd_ne nDr]; exact hD, ina_of _⟩ .nil)
  · obtain ⟨us, h1, h2⟩ := h.at_ x s hx
    have nsr : s ≠ r := fun z => ex (by
      subst z
      obtain ⟨i1, e1⟩ := List.getElem?_eq_some_iff.1 hx
      obtain ⟨i2, e2⟩ := List.getElem?_eq_some_iff.1 hb
      exact (List.getElem_inj h.nd).1 (e1.trans e2.symm))
    refine ⟨us, by rw [upd_ne nsr]; exact h1, ?_⟩
    rw [if_neg ex]
    exact (fam_ls fam_in).monoP e h2
theorem Fnd.eq {parts' : Nat → List (List Int)} (h : Fnd H Rg F n refs parts H') (e : ∀ b, b < refs.length → parts' b = parts b) : Fnd H Rg F n refs parts' H' :=
  ⟨h.same, h.rg, h.f, h.nd, h.new, fun b r hb => by
    rw [e b (List.getElem?_eq_some_iff.1 hb).1]
    exact h.at_ b r hb⟩
end
theorem sq_ls {α : Type} {R R' : RlA α} {A B : Addr → Prop} {H : Hp} {v : V} {x : List α} (h : ∀ v x, R A H v x → R' B H v x) (hb : ∀ a, B a → A a) (r : LsF R A H v x) : SqF R' B H v x := by
  obtain ⟨a, vs, e, n, k, p⟩ := r
  exact ⟨a, vs, e, fun z => n (hb a z), .inl k, Paired.imp (fun _ _ h' => h _ _ h') p⟩
theorem Err.wk {C : Addr} {f : Str} {v : V} {H H' : Hp} {E : XK} (h : Err C f v H E) (e : Same H H') : Err C f v H' E := fun H1 d e1 n => h H1 d (e.trans e1) n
/-- [0] + xs -/
theorem cat_zero {W : Addr} {ws : List Int} {H : Hp} {Q : VK} (hW : H W = some (.lst (ws.map V.int))) (l : ws.length ≤ 1000) (q : ∀ C H', Same H H' → H' C = some (.lst ((0 :: ws).map V.int)) → Q (.ref C) H') :
    1 ≤ sizeLine ∧ ∀ p, H p = none → rCat (.ref p) (.ref W) (upd H p (.lst [.int 0])) Q :=
  ⟨by decide, fun p np => ⟨p, W, _, _, rfl, rfl, upd_same, (same_new np) _ _ hW, Nat.le_trans (by simp; omega : _ ≤ 1001) (by decide), fun C nC => q C _ ((same_new np).trans (same_new nC)) (by rw [upd_same]; rfl)⟩⟩
def sp_bodies_with (w : World) (K : PySem.W.Frag) : Sp := fun vs H Q E => ∃ x, vs = [x] ∧ ((Alien K H x ∧ Err (ga K "InvalidGaps") "at" (.int (-1)) H E) ∨ ∃ m R, GapO K m R H x ∧ GapsOk m R ∧ 1 ≤ m ∧
  (High R m → Err (ga K "Refused") "at" (.int (-1)) H E) ∧ (¬High R m → (Low R m → Err (ga K "InvalidSize") "word" (.str "places") H E) ∧
    (¬Low R m → BodOk w 2 (cellsOf R m) ∧ Ret (BodO K 2 (cellsOf R m)) H Q)))
section
variable {w : World} {K : PySem.W.Frag} {mg : Str → Option Value} {base : Heap}
theorem C_bodies_with (S : Sc K mg) : Cal prg w K mg base (L2.CX prg w) "bodies_with" 8 ["gaps"] [] (sp_bodies_with w K) := by
  have C_need_gaps := C_need_gaps (w := w) (base := base) S
  have C_Bodies := C_Bodies (w := w) (base := base) S
  refine S.calX (d := d_bodies_with) 23 19 sc_bodies_with rfl rfl rfl rfl rfl (fun _ _ _ _ _ _ us hl => match us, hl with | [_], _ => rfl) (fun vs H Q E h => ?_) (fun f cdv A outer s H vs Q E hr h => ?_)
  · obtain ⟨x, rfl, _⟩ := h
    rfl
  · obtain ⟨x, rfl, h⟩ := h
    refine ⟨_, (pss_cons (ps_expr (pe_c C_need_gaps (hr.mono (by omega)) (passes_call (takes_of rfl rfl rfl rfl) fun _ _ _ _ h => h) (pa_cons (pv 0) pa_nil)))
      (pss_cons (ps_set (i := 1) sc_bodies_with.nd rfl (by first | exact Or.inl rfl | exact Or.inr rfl) (pe_callTy cr_range1 (by rfl) (S.free 46) (by decide +kernel) (pa_cons (pe_fld (pv 0) rfl) pa_nil)))
      (pss_cons (ps_setLc2 (i := 2) (own := [("one", 3), ("other", 4)]) (vs1 := [4]) (g := (gName 3)) (g1 := (gName 4)) (tt := tYes) rfl sc_bodies_with.nd rfl rfl (sw_true rfl rfl rfl (by decide +kernel)) (pi_rngV (pv 1)) (blkOk_by (N := ["gaps", "many", "pairs", "one", "other", "wanted", "found", "_", "line", "body"]) (sc := defScope s_bodies_with) (by decide +kernel)) (by decide) (fun _ _ _ _ _ => (pg_name (i := 3) sc_bodies_with.nd rfl (by first | exact Or.inl rfl | exact Or.inr rfl))) (fun _ _ _ _ _ => pts_nil) (fun _ _ _ _ _ => (pi_rngV (pv 1))) (fun _ _ _ _ _ => (pg_name (i := 4) sc_bodies_with.nd rfl (by first | exact Or.inl rfl | exact Or.inr rfl))) (fun _ _ _ _ _ => (pts_one (PW.pt (pw_and (pt_cmpR op_ne (pv 3) (pv 4) (nomark _)) (pw_and1 (pt_cmpR op_notN (pe_ix (iK (K := K) rfl ix_tup) (pe_ix (iK (K := K) rfl ix_tup) (pe_fldK (K := K) rfl (pv 0) rfl) (pv 3) (fun _ _ => rfl)) (pv 4) (fun _ _ => rfl)) pe_non (nomark _))))))) (fun _ _ _ _ _ => (pe_tup (pa_cons (pv 3) (pa_cons (pv 4) pa_nil)))))
      (pss_cons (ps_setLc (i := 5) (own := [("one", 3), ("other", 4)]) (g := (gTup K 2 (gCons (gName 3) (gCons (gName 4) gNil)))) (tt := tYes) rfl sc_bodies_with.nd rfl rfl (sw_true rfl rfl rfl (by decide +kernel)) (pi_seq (pv 2)) (blkOk_by (N := ["gaps", "many", "pairs", "one", "other", "wanted", "found", "_", "line", "body"]) (sc := defScope s_bodies_with) (by decide +kernel)) (fun _ _ _ _ _ => (pg_tup (by rfl) (pgs_cons (pg_name (i := 3) sc_bodies_with.nd rfl (by first | exact Or.inl rfl | exact Or.inr rfl)) (pgs_cons (pg_name (i := 4) sc_bodies_with.nd rfl (by first | exact Or.inl rfl | exact Or.inr rfl)) pgs_nil)))) (fun _ _ _ _ _ => pts_nil) (fun _ _ _ _ _ => (pe_ix (iK (K := K) rfl ix_tup) (pe_ix (iK (K := K) rfl ix_tup) (pe_fldK (K := K) rfl (pv 0) rfl) (pv 3) (fun _ _ => rfl)) (pv 4) (fun _ _ => rfl))))
      (pss_cons (ps_if (pt_cmpR op_gt (pe_callB (cr_max rfl) (by rfl) (S.free 44) (by decide +kernel) (pa_cons (pe_op op_cat (pe_lst (pa_cons pe_int pa_nil)) (pv 5)) pa_nil)) pe_int (nomark _)) (pss_one (ps_raise rfl (takes_of rfl rfl rfl rfl) (mk_Refused S rfl hr (pa_cons (pe_un un_neg pe_int) pa_nil) rfl rfl rfl))) pss_nil)
      (pss_cons (ps_if (pt_cmpR op_lt (pe_callB (cr_min rfl) (by rfl) (S.free 45) (by decide +kernel) (pa_cons (pe_op op_cat (pe_lst (pa_cons pe_int pa_nil)) (pv 5)) pa_nil)) (pe_gi (S.int 58)) (nomark _)) (pss_one (ps_raise rfl (takes_of rfl rfl rfl rfl) (mk_InvalidSize S rfl hr (pa_cons pe_str pa_nil) rfl rfl rfl))) pss_nil)
      (pss_cons (ps_setLc (i := 6) (own := [("_", 7)]) (g := (gName 7)) (tt := tYes) rfl sc_bodies_with.nd rfl rfl (sw_true rfl rfl rfl (by decide +kernel)) (pi_rngV (pv 1)) (blkOk_by (N := ["gaps", "many", "pairs", "one", "other", "wanted", "found", "_", "line", "body"]) (sc := defScope s_bodies_with) (by decide +kernel)) (fun _ _ _ _ _ => (pg_name (i := 7) sc_bodies_with.nd rfl (by first | exact Or.inl rfl | exact Or.inr rfl))) (fun _ _ _ _ _ => pts_nil) (fun _ _ _ _ _ => (pe_lst pa_nil)))
      (pss_cons (ps_for (passes_of rfl) rfl (pi_enS (S.free 39) (pa_cons (pv 2) pa_nil)) (pg_tup (by rfl) (pgs_cons (pg_name (i := 8) sc_bodies_with.nd rfl (by first | exact Or.inl rfl | exact Or.inr rfl)) (pgs_cons (pg_tup (by rfl) (pgs_cons (pg_name (i := 3) sc_bodies_with.nd rfl (by first | exact Or.inl rfl | exact Or.inr rfl)) (pgs_cons (pg_name (i := 4) sc_bodies_with.nd rfl (by first | exact Or.inl rfl | exact Or.inr rfl)) pgs_nil))) pgs_nil))) (pss_cons (ps_expr (pe_bm PySem.F.plainAttrs_list PySem.F.slot_list_append PySem.F.type_list_append mt_append (pe_ix ix_list (pv 6) (pv 3) (fun _ _ => rfl)) (pa_cons (pe_lst (pa_cons (pe_un un_neg pe_int) (pa_cons (pv 8) pa_nil))) pa_nil)))
      (pss_one (ps_expr (pe_bm PySem.F.plainAttrs_list PySem.F.slot_list_append PySem.F.type_list_append mt_append (pe_ix ix_list (pv 6) (pv 4) (fun _ _ => rfl)) (pa_cons (pe_lst (pa_cons (pe_op op_sub (pe_op op_sub pe_int (pe_ix ix_tup (pe_ix ix_tup (pe_fld (pv 0) rfl) (pv 3) (fun _ _ => rfl)) (pv 4) (fun _ _ => rfl))) pe_int) (pa_cons (pv 8) pa_nil))) pa_nil))))))
      (pss_cons (ps_for (passes_of rfl) rfl (pi_rngV (pv 1)) (pg_name (i := 9) sc_bodies_with.nd rfl (by first | exact Or.inl rfl | exact Or.inr rfl)) (pss_one (ps_if (pt_cmpR op_eq (pe_callB cr_lenA (by rfl) (S.free 42) (by decide +kernel) (pa_cons (pe_ix ix_list (pv 6) (pv 9) (fun _ _ => rfl)) pa_nil)) pe_int (nomark _)) (pss_one (ps_expr (pe_bm PySem.F.plainAttrs_list PySem.F.slot_list_append PySem.F.type_list_append mt_append (pe_ix ix_list (pv 6) (pv 9) (fun _ _ => rfl)) (pa_cons (pe_lst (pa_cons pe_int (pa_cons (pe_op op_add (pe_callB cr_lenA (by rfl) (S.free 42) (by decide +kernel) (pa_cons (pv 2) pa_nil)) (pv 9)) pa_nil))) pa_nil)))) pss_nil)))
      (pss_one (ps_ret (pe_m C_Bodies (hr.mono (by omega)) pass0 (pa_cons pe_int (pa_cons (pv 6) pa_nil)))))))))))))), ?_⟩
    try simp only [wipe, tC, tVar, tChain, rI0, rI, rU, tOp, tUn, tCall, tAnd, tOr, tNot, tNotV, tAndV, tOrV, tTest, tB, tIf, tIfS, tRet, tRetN, tNext, tSeq, tNil, tCons, tAug, ipI, tPar, tAsg, gName, tDrop, tLst, tTup, tCB, tBM, tBM0, tFld_eq, tMkE, tMake, tAugS, gSub, rEq, rAll, rMax, rSum, rAppend, rExtend, rSetL, _root_.L2.start, List.map_cons, List.map_nil, List.length_cons, List.length_nil, List.replicate_succ, List.replicate_zero, List.cons_append, List.nil_append, List.append_nil, List.getElem?_cons_zero, List.getElem?_cons_succ, List.set_cons_zero, List.set_cons_succ, Nat.reduceAdd, Nat.reduceSub, V.int.injEq, V.bl.injEq, V.ref.injEq, V.str.injEq, exists_eq, exists_eq', exists_eq_left, exists_eq_left', exists_and_left, exists_and_right, Option.some.injEq, List.cons.injEq, and_true, true_and, and_assoc, retV, true_or, or_true, decide_eq_true_eq, if_true, if_false, Bool.false_eq_true, Bool.not_true, Bool.not_false, Bool.not_eq_true', reduceCtorEq, eq_self, decide_true, decide_false, List.length_map, exists_const, false_and, and_false, or_false, false_or, ↓reduceIte]
    rcases h with ⟨hA, hE⟩ | ⟨m, R, hW, O, m1, hHi, hS⟩
    · exact ⟨x, rfl, .inr ⟨hA, hE⟩⟩
    · refine ⟨x, rfl, .inl ⟨m, R, hW, retV.2 fun H1 e1 => ?_⟩⟩
      have hW1 := same_gap e1 hW
      have m12 := O.1
      try simp only [wipe, tC, tVar, tChain, rI0, rI, rU, tOp, tUn, tCall, tAnd, tOr, tNot, tNotV, tAndV, tOrV, tTest, tB, tIf, tIfS, tRet, tRetN, tNext, tSeq, tNil, tCons, tAug, ipI, tPar, tAsg, gName, tDrop, tLst, tTup, tCB, tBM, tBM0, tFld_eq, tMkE, tMake, tAugS, gSub, rEq, rAll, rMax, rSum, rAppend, rExtend, rSetL, _root_.L2.start, List.map_cons, List.map_nil, List.length_cons, List.length_nil, List.replicate_succ, List.replicate_zero, List.cons_append, List.nil_append, List.append_nil, List.getElem?_cons_zero, List.getElem?_cons_succ, List.set_cons_zero, List.set_cons_succ, Nat.reduceAdd, Nat.reduceSub, V.int.injEq, V.bl.injEq, V.ref.injEq, V.str.injEq, exists_eq, exists_eq', exists_eq_left, exists_eq_left', exists_and_left, exists_and_right, Option.some.injEq, List.cons.injEq, and_true, true_and, and_assoc, retV, true_or, or_true, decide_eq_true_eq, if_true, if_false, Bool.false_eq_true, Bool.not_true, Bool.not_false, Bool.not_eq_true', reduceCtorEq, eq_self, decide_true, decide_false, List.length_map, exists_const, false_and, and_false, or_false, false_or, ↓reduceIte]
      refine gap_many S hW1 ?_
      try simp only [wipe, tC, tVar, tChain, rI0, rI, rU, tOp, tUn, tCall, tAnd, tOr, tNot, tNotV, tAndV, tOrV, tTest, tB, tIf, tIfS, tRet, tRetN, tNext, tSeq, tNil, tCons, tAug, ipI, tPar, tAsg, gName, tDrop, tLst, tTup, tCB, tBM, tBM0, tFld_eq, tMkE, tMake, tAugS, gSub, rEq, rAll, rMax, rSum, rAppend, rExtend, rSetL, _root_.L2.start, List.map_cons, List.map_nil, List.length_cons, List.length_nil, List.replicate_succ, List.replicate_zero, List.cons_append, List.nil_append, List.append_nil, List.getElem?_cons_zero, List.getElem?_cons_succ, List.set_cons_zero, List.set_cons_succ, Nat.reduceAdd, Nat.reduceSub, V.int.injEq, V.bl.injEq, V.ref.injEq, V.str.injEq, exists_eq, exists_eq', exists_eq_left, exists_eq_left', exists_and_left, exists_and_right, Option.some.injEq, List.cons.injEq, and_true, true_and, and_assoc, retV, true_or, or_true, decide_eq_true_eq, if_true, if_false, Bool.false_eq_true, Bool.not_true, Bool.not_false, Bool.not_eq_true', reduceCtorEq, eq_self, decide_true, decide_false, List.length_map, exists_const, false_and, and_false, or_false, false_or, ↓reduceIte]
      intro Rg nRg
      have eR : Same H (upd H1 Rg (.rng 0 (m : Int))) := e1.trans (same_new nRg)
      have hRg : (upd H1 Rg (.rng 0 (m : Int))) Rg = some (.rng 0 (m : Int)) := upd_same
      generalize upd H1 Rg (.rng 0 (m : Int)) = H2 at eR hRg
      refine lc2_tp (gives_rngV (fun Q h => ⟨_, rfl, h⟩) hRg) (fun _ _ => trivial) (fun _ => rfl) (fun _ _ => rfl) (famT_tp famT_in) m (prL R m) rfl (fun n _ => ?_) (fun n j hn hj => ?_) (fun n y H3 hy e3 => ?_) fun acc H3 D e3 nD hD hacc => ?_
      · unfold prL
        rw [prTo_succ]
        simp [prRow]
      · rw [rngV_len, Int.toNat_natCast] at hn
        exact Nat.lt_of_le_of_lt (prL_le m12 hn hj) (by decide)
      · have hn : n < m := by
          have := (List.getElem?_eq_some_iff.1 hy).1
          rwa [rngV_len, Int.toNat_natCast] at this
        rw [Int.toNat_natCast, rngV_get hn, Int.zero_add] at hy
        obtain rfl := Option.some.inj hy
        refine ⟨rngV 0 (m : Int).toNat, fun _ => True, by rw [rngV_len, Int.toNat_natCast], gives_rngV (fun Q h => ⟨_, rfl, h⟩) (e3 _ _ hRg), fun _ _ => trivial, fun j y H4 N N0 hj hy e4 hN hN0 => ?_⟩
        rw [Int.toNat_natCast, rngV_get hj, Int.zero_add] at hy
        obtain rfl := Option.some.inj hy
        have hW4 := same_gap (eR.trans e4) hW
        obtain ⟨row, c, hrow, hc, ecell⟩ := cell_at O hn hj
        have hl : prL R m n (j + 1) = prL R m n j ++ if n ≠ j ∧ c.isSome = true then [[(n : Int), (j : Int)]] else [] := by
          unfold prL
          rw [prRow_succ, ecell, List.append_assoc]
        try simp only [wipe, tC, tVar, tChain, rI0, rI, rU, tOp, tUn, tCall, tAnd, tOr, tNot, tNotV, tAndV, tOrV, tTest, tB, tIf, tIfS, tRet, tRetN, tNext, tSeq, tNil, tCons, tAug, ipI, tPar, tAsg, gName, tDrop, tLst, tTup, tCB, tBM, tBM0, tFld_eq, tMkE, tMake, tAugS, gSub, rEq, rAll, rMax, rSum, rAppend, rExtend, rSetL, _root_.L2.start, List.map_cons, List.map_nil, List.length_cons, List.length_nil, List.replicate_succ, List.replicate_zero, List.cons_append, List.nil_append, List.append_nil, List.getElem?_cons_zero, List.getElem?_cons_succ, List.set_cons_zero, List.set_cons_succ, Nat.reduceAdd, Nat.reduceSub, V.int.injEq, V.bl.injEq, V.ref.injEq, V.str.injEq, exists_eq, exists_eq', exists_eq_left, exists_eq_left', exists_and_left, exists_and_right, Option.some.injEq, List.cons.injEq, and_true, true_and, and_assoc, retV, true_or, or_true, decide_eq_true_eq, if_true, if_false, Bool.false_eq_true, Bool.not_true, Bool.not_false, Bool.not_eq_true', reduceCtorEq, eq_self, decide_true, decide_false, List.length_map, exists_const, false_and, and_false, or_false, false_or, rNe, scal, ↓reduceIte]
        by_cases hnj : (n : Int) = (j : Int)
        · rw [if_neg (by simpa using hnj)]
          refine hN0 _ (Same.refl _) ?_
          rw [hl, if_neg (fun z => z.1 (by omega)), List.append_nil]
        · rw [if_pos (by simpa using hnj)]
          refine gap_rows S hW4 fun t ht => ?_
          obtain ⟨ta, us, rfl, hta, htp⟩ := ht
          obtain ⟨u, hu, ra, ws, rfl, hra, hrp⟩ := Paired.at2 htp hrow
          obtain rfl := on_eq hrp
          refine ixt_at hta hu (ixt_at hra (v := ov c) (by rw [List.getElem?_map, hc]; rfl) ?_)
          cases c with
          | none =>
            try simp only [wipe, tC, tVar, tChain, rI0, rI, rU, tOp, tUn, tCall, tAnd, tOr, tNot, tNotV, tAndV, tOrV, tTest, tB, tIf, tIfS, tRet, tRetN, tNext, tSeq, tNil, tCons, tAug, ipI, tPar, tAsg, gName, tDrop, tLst, tTup, tCB, tBM, tBM0, tFld_eq, tMkE, tMake, tAugS, gSub, rEq, rAll, rMax, rSum, rAppend, rExtend, rSetL, _root_.L2.start, List.map_cons, List.map_nil, List.length_cons, List.length_nil, List.replicate_succ, List.replicate_zero, List.cons_append, List.nil_append, List.append_nil, List.getElem?_cons_zero, List.getElem?_cons_succ, List.set_cons_zero, List.set_cons_succ, Nat.reduceAdd, Nat.reduceSub, V.int.injEq, V.bl.injEq, V.ref.injEq, V.str.injEq, exists_eq, exists_eq', exists_eq_left, exists_eq_left', exists_and_left, exists_and_right, Option.some.injEq, List.cons.injEq, and_true, true_and, and_assoc, retV, true_or, or_true, decide_eq_true_eq, if_true, if_false, Bool.false_eq_true, Bool.not_true, Bool.not_false, Bool.not_eq_true', reduceCtorEq, eq_self, decide_true, decide_false, List.length_map, exists_const, false_and, and_false, or_false, false_or, ov, ↓reduceIte]
            refine hN0 _ (Same.refl _) ?_
            rw [hl, if_neg (fun z => by cases z.2), List.append_nil]
          | some g =>
            try simp only [wipe, tC, tVar, tChain, rI0, rI, rU, tOp, tUn, tCall, tAnd, tOr, tNot, tNotV, tAndV, tOrV, tTest, tB, tIf, tIfS, tRet, tRetN, tNext, tSeq, tNil, tCons, tAug, ipI, tPar, tAsg, gName, tDrop, tLst, tTup, tCB, tBM, tBM0, tFld_eq, tMkE, tMake, tAugS, gSub, rEq, rAll, rMax, rSum, rAppend, rExtend, rSetL, _root_.L2.start, List.map_cons, List.map_nil, List.length_cons, List.length_nil, List.replicate_succ, List.replicate_zero, List.cons_append, List.nil_append, List.append_nil, List.getElem?_cons_zero, List.getElem?_cons_succ, List.set_cons_zero, List.set_cons_succ, Nat.reduceAdd, Nat.reduceSub, V.int.injEq, V.bl.injEq, V.ref.injEq, V.str.injEq, exists_eq, exists_eq', exists_eq_left, exists_eq_left', exists_and_left, exists_and_right, Option.some.injEq, List.cons.injEq, and_true, true_and, and_assoc, retV, true_or, or_true, decide_eq_true_eq, if_true, if_false, Bool.false_eq_true, Bool.not_true, Bool.not_false, Bool.not_eq_true', reduceCtorEq, eq_self, decide_true, decide_false, List.length_map, exists_const, false_and, and_false, or_false, false_or, ov, ↓reduceIte]
            refine ⟨by decide, fun p np => hN _ _ [(n : Int), (j : Int)] (same_new np) ⟨p, _, rfl, upd_same, .cons rfl (.cons rfl .nil)⟩ ?_⟩
            rw [hl, if_pos ⟨by omega, rfl⟩]
      · have e03 := eR.trans e3
        have hacc : Paired (TpF InA No H3) acc (prs R m) := by
          have h0 := hacc
          rw [rngV_len, Int.toNat_natCast] at h0
          have : prL R m m 0 = prs R m := by simp [prL, prRow, prs]
          rwa [this] at h0
        have P144 := prs_le (R := R) m12
        have lP : acc.length = (prs R m).length := Paired.len hacc
        try simp only [wipe, tC, tVar, tChain, rI0, rI, rU, tOp, tUn, tCall, tAnd, tOr, tNot, tNotV, tAndV, tOrV, tTest, tB, tIf, tIfS, tRet, tRetN, tNext, tSeq, tNil, tCons, tAug, ipI, tPar, tAsg, gName, tDrop, tLst, tTup, tCB, tBM, tBM0, tFld_eq, tMkE, tMake, tAugS, gSub, rEq, rAll, rMax, rSum, rAppend, rExtend, rSetL, _root_.L2.start, List.map_cons, List.map_nil, List.length_cons, List.length_nil, List.replicate_succ, List.replicate_zero, List.cons_append, List.nil_append, List.append_nil, List.getElem?_cons_zero, List.getElem?_cons_succ, List.set_cons_zero, List.set_cons_succ, Nat.reduceAdd, Nat.reduceSub, V.int.injEq, V.bl.injEq, V.ref.injEq, V.str.injEq, exists_eq, exists_eq', exists_eq_left, exists_eq_left', exists_and_left, exists_and_right, Option.some.injEq, List.cons.injEq, and_true, true_and, and_assoc, retV, true_or, or_true, decide_eq_true_eq, if_true, if_false, Bool.false_eq_true, Bool.not_true, Bool.not_false, Bool.not_eq_true', reduceCtorEq, eq_self, decide_true, decide_false, List.length_map, exists_const, false_and, and_false, or_false, false_or, ↓reduceIte]
        refine lc_acc (gives_sq (xs := acc) (a := D) (fun Q h => ⟨_, rfl, h⟩) (.inl hD)) (Box.none (A := No) (fun _ z => z.elim)) (fun H' e => by rw [e.same _ _ hD, hD]) (Nat.le_trans (by omega : acc.length ≤ 144) (by decide)) (fun A n ws H' => ws = ((prs R m).take n).map fun p => V.int (gapOf R p))
          (fun _ _ => rfl) (fun _ h => h) (fun _ h => h) (fun n y ws H' D' N N0 hn hy e _ hA hI hN _ => ?_) fun ws H4 W e4 _ nW _ hWl hI => ?_
        · obtain ⟨p, hpi, t, ys, rfl, ht, hyp⟩ := Paired.at hacc hy
          obtain ⟨b, o, rfl, hb, ho, hbo, g, hg⟩ := prs_mem (List.mem_of_getElem? hpi)
          obtain rfl := ina_eq hyp
          have hW' := same_gap (e03.trans e.same) hW
          obtain ⟨row, c, hrow, hc, ecell⟩ := cell_at O hb ho
          rw [hg] at ecell
          subst ecell
          refine g_two rfl (e.same _ _ ht) ⟨rfl, ?_⟩
          try simp only [wipe, tC, tVar, tChain, rI0, rI, rU, tOp, tUn, tCall, tAnd, tOr, tNot, tNotV, tAndV, tOrV, tTest, tB, tIf, tIfS, tRet, tRetN, tNext, tSeq, tNil, tCons, tAug, ipI, tPar, tAsg, gName, tDrop, tLst, tTup, tCB, tBM, tBM0, tFld_eq, tMkE, tMake, tAugS, gSub, rEq, rAll, rMax, rSum, rAppend, rExtend, rSetL, _root_.L2.start, List.map_cons, List.map_nil, List.length_cons, List.length_nil, List.replicate_succ, List.replicate_zero, List.cons_append, List.nil_append, List.append_nil, List.getElem?_cons_zero, List.getElem?_cons_succ, List.set_cons_zero, List.set_cons_succ, Nat.reduceAdd, Nat.reduceSub, V.int.injEq, V.bl.injEq, V.ref.injEq, V.str.injEq, exists_eq, exists_eq', exists_eq_left, exists_eq_left', exists_and_left, exists_and_right, Option.some.injEq, List.cons.injEq, and_true, true_and, and_assoc, retV, true_or, or_true, decide_eq_true_eq, if_true, if_false, Bool.false_eq_true, Bool.not_true, Bool.not_false, Bool.not_eq_true', reduceCtorEq, eq_self, decide_true, decide_false, List.length_map, exists_const, false_and, and_false, or_false, false_or, tYes, ↓reduceIte]
          refine gap_rows S hW' fun t ht => ?_
          obtain ⟨ta, us, rfl, hta, htp⟩ := ht
          obtain ⟨u, hu, ra, vs, rfl, hra, hrp⟩ := Paired.at2 htp hrow
          obtain rfl := on_eq hrp
          refine ixt_at hta hu (ixt_at hra (v := .int g) (by rw [List.getElem?_map, hc]; rfl) ?_)
          refine hN _ _ (SameO.refl _ _) trivial ?_
          rw [hI, List.take_succ, hpi, Option.toList_some, List.map_append, List.map_cons, List.map_nil, gapOf_two hg]
        · rw [lP, List.take_length] at hI
          subst hI
          have hWs : H4 W = some (.lst (((prs R m).map (gapOf R)).map V.int)) := by rw [hWl, List.map_map]; rfl
          have e04 := e03.trans e4.same
          clear hWl
          generalize hws : (prs R m).map (gapOf R) = ws at hWs
          have lws : ws.length = (prs R m).length := by rw [← hws, List.length_map]
          try simp only [wipe, tC, tVar, tChain, rI0, rI, rU, tOp, tUn, tCall, tAnd, tOr, tNot, tNotV, tAndV, tOrV, tTest, tB, tIf, tIfS, tRet, tRetN, tNext, tSeq, tNil, tCons, tAug, ipI, tPar, tAsg, gName, tDrop, tLst, tTup, tCB, tBM, tBM0, tFld_eq, tMkE, tMake, tAugS, gSub, rEq, rAll, rMax, rSum, rAppend, rExtend, rSetL, _root_.L2.start, List.map_cons, List.map_nil, List.length_cons, List.length_nil, List.replicate_succ, List.replicate_zero, List.cons_append, List.nil_append, List.append_nil, List.getElem?_cons_zero, List.getElem?_cons_succ, List.set_cons_zero, List.set_cons_succ, Nat.reduceAdd, Nat.reduceSub, V.int.injEq, V.bl.injEq, V.ref.injEq, V.str.injEq, exists_eq, exists_eq', exists_eq_left, exists_eq_left', exists_and_left, exists_and_right, Option.some.injEq, List.cons.injEq, and_true, true_and, and_assoc, retV, true_or, or_true, decide_eq_true_eq, if_true, if_false, Bool.false_eq_true, Bool.not_true, Bool.not_false, Bool.not_eq_true', reduceCtorEq, eq_self, decide_true, decide_false, List.length_map, exists_const, false_and, and_false, or_false, false_or, ↓reduceIte]
          refine cat_zero hWs (by omega) fun C5 H5 e5 hC5 => ?_
          try simp only [wipe, tC, tVar, tChain, rI0, rI, rU, tOp, tUn, tCall, tAnd, tOr, tNot, tNotV, tAndV, tOrV, tTest, tB, tIf, tIfS, tRet, tRetN, tNext, tSeq, tNil, tCons, tAug, ipI, tPar, tAsg, gName, tDrop, tLst, tTup, tCB, tBM, tBM0, tFld_eq, tMkE, tMake, tAugS, gSub, rEq, rAll, rMax, rSum, rAppend, rExtend, rSetL, _root_.L2.start, List.map_cons, List.map_nil, List.length_cons, List.length_nil, List.replicate_succ, List.replicate_zero, List.cons_append, List.nil_append, List.append_nil, List.getElem?_cons_zero, List.getElem?_cons_succ, List.set_cons_zero, List.set_cons_succ, Nat.reduceAdd, Nat.reduceSub, V.int.injEq, V.bl.injEq, V.ref.injEq, V.str.injEq, exists_eq, exists_eq', exists_eq_left, exists_eq_left', exists_and_left, exists_and_right, Option.some.injEq, List.cons.injEq, and_true, true_and, and_assoc, retV, true_or, or_true, decide_eq_true_eq, if_true, if_false, Bool.false_eq_true, Bool.not_true, Bool.not_false, Bool.not_eq_true', reduceCtorEq, eq_self, decide_true, decide_false, List.length_map, exists_const, false_and, and_false, or_false, false_or, ↓reduceIte]
          refine ⟨0 :: ws, sqL_of hC5, by simp, fun M hM hle => ?_⟩
          by_cases hM0 : 0 < M
          · rw [if_pos hM0]
            have hh : High R m := by
              rcases List.mem_cons.1 hM with z | z
              · omega
              · rw [← hws] at z
                obtain ⟨p, hp, rfl⟩ := List.mem_map.1 z
                exact ⟨p, hp, hM0⟩
            exact fun d nd => hHi hh _ d (e04.trans e5) nd
          · rw [if_neg hM0]
            have hnh : ¬High R m := fun ⟨p, hp, hg⟩ => by
              have := hle (gapOf R p) (List.mem_cons_of_mem _ (by rw [← hws]; exact List.mem_map.2 ⟨p, hp, rfl⟩))
              omega
            obtain ⟨hLo, hS2⟩ := hS hnh
            refine cat_zero (e5 _ _ hWs) (by omega) fun C6 H6 e6 hC6 => ?_
            try simp only [wipe, tC, tVar, tChain, rI0, rI, rU, tOp, tUn, tCall, tAnd, tOr, tNot, tNotV, tAndV, tOrV, tTest, tB, tIf, tIfS, tRet, tRetN, tNext, tSeq, tNil, tCons, tAug, ipI, tPar, tAsg, gName, tDrop, tLst, tTup, tCB, tBM, tBM0, tFld_eq, tMkE, tMake, tAugS, gSub, rEq, rAll, rMax, rSum, rAppend, rExtend, rSetL, _root_.L2.start, List.map_cons, List.map_nil, List.length_cons, List.length_nil, List.replicate_succ, List.replicate_zero, List.cons_append, List.nil_append, List.append_nil, List.getElem?_cons_zero, List.getElem?_cons_succ, List.set_cons_zero, List.set_cons_succ, Nat.reduceAdd, Nat.reduceSub, V.int.injEq, V.bl.injEq, V.ref.injEq, V.str.injEq, exists_eq, exists_eq', exists_eq_left, exists_eq_left', exists_and_left, exists_and_right, Option.some.injEq, List.cons.injEq, and_true, true_and, and_assoc, retV, true_or, or_true, decide_eq_true_eq, if_true, if_false, Bool.false_eq_true, Bool.not_true, Bool.not_false, Bool.not_eq_true', reduceCtorEq, eq_self, decide_true, decide_false, List.length_map, exists_const, false_and, and_false, or_false, false_or, rMin, ↓reduceIte]
            refine ⟨0 :: ws, sqL_of hC6, by simp, fun M' hM' hle' => ?_⟩
            have e06 := e04.trans (e5.trans e6)
            by_cases hM2 : M' < -1999
            · rw [if_pos hM2]
              have hl : Low R m := by
                rcases List.mem_cons.1 hM' with z | z
                · omega
                · rw [← hws] at z
                  obtain ⟨p, hp, rfl⟩ := List.mem_map.1 z
                  exact ⟨p, hp, hM2⟩
              exact ⟨by decide +kernel, fun d nd => hLo hl _ d e06 nd⟩
            · rw [if_neg hM2]
              have hnl : ¬Low R m := fun ⟨p, hp, hg⟩ => by
                have := hle' (gapOf R p) (List.mem_cons_of_mem _ (by rw [← hws]; exact List.mem_map.2 ⟨p, hp, rfl⟩))
                omega
              obtain ⟨hB, q⟩ := hS2 hnl
              have e36 : Same H3 H6 := e4.same.trans (e5.trans e6)
              have hD6 := e36 _ _ hD
              have hacc6 : Paired (TpF InA No H6) acc (prs R m) := (famT_tp famT_in).p (.of e36) hacc
              have hRg6 := e36 _ _ (e3 _ _ hRg)
              have eH6 : Same H H6 := e06
              clear hC5 hC6 hle hle' hM hM' hWs hS2
              refine lc_acc (gives_rngV (fun Q h => ⟨_, rfl, h⟩) hRg6) (Box.none (A := Old H6) (fun _ z => z)) (fun _ _ => trivial) (by rw [rngV_len, Int.toNat_natCast]; exact Nat.le_trans (by omega : m ≤ 12) (by decide))
                (fun A n acc H' => ∃ refs : List Addr, acc = refs.map V.ref ∧ refs.Nodup ∧ refs.length = n ∧ ∀ r ∈ refs, ¬A r ∧ H' r = some (.lst [])) (fun D H' => ⟨[], rfl, .nil, rfl, fun r z => by cases z⟩)
                (fun e ⟨refs, h1, h2, h3, h4⟩ => ⟨refs, h1, h2, h3, fun r hr => ⟨(h4 r hr).1, e.1 _ _ (h4 r hr).1 (h4 r hr).2⟩⟩) (fun w ⟨refs, h1, h2, h3, h4⟩ => ⟨refs, h1, h2, h3, fun r hr => ⟨fun z => (h4 r hr).1 (w r z), (h4 r hr).2⟩⟩)
                (fun n y acc H' D N N0 hn hy e _ hA hI hN _ => ?_) fun acc7 H7 F e7 _ nF nAF hF hI => ?_
              · refine ⟨rfl, ?_⟩
                try simp only [wipe, tC, tVar, tChain, rI0, rI, rU, tOp, tUn, tCall, tAnd, tOr, tNot, tNotV, tAndV, tOrV, tTest, tB, tIf, tIfS, tRet, tRetN, tNext, tSeq, tNil, tCons, tAug, ipI, tPar, tAsg, gName, tDrop, tLst, tTup, tCB, tBM, tBM0, tFld_eq, tMkE, tMake, tAugS, gSub, rEq, rAll, rMax, rSum, rAppend, rExtend, rSetL, _root_.L2.start, List.map_cons, List.map_nil, List.length_cons, List.length_nil, List.replicate_succ, List.replicate_zero, List.cons_append, List.nil_append, List.append_nil, List.getElem?_cons_zero, List.getElem?_cons_succ, List.set_cons_zero, List.set_cons_succ, Nat.reduceAdd, Nat.reduceSub, V.int.injEq, V.bl.injEq, V.ref.injEq, V.str.injEq, exists_eq, exists_eq', exists_eq_left, exists_eq_left', exists_and_left, exists_and_right, Option.some.injEq, List.cons.injEq, and_true, true_and, and_assoc, retV, true_or, or_true, decide_eq_true_eq, if_true, if_false, Bool.false_eq_true, Bool.not_true, Bool.not_false, Bool.not_eq_true', reduceCtorEq, eq_self, decide_true, decide_false, List.length_map, exists_const, false_and, and_false, or_false, false_or, tYes, ↓reduceIte]
                refine ⟨by decide, fun p np => ?_⟩
                obtain ⟨refs, h1, h2, h3, h4⟩ := hI
                refine hN _ _ (.new np) trivial ⟨refs ++ [p], by rw [h1, List.map_append]; rfl, ?_, by simp [h3], fun r hr => ?_⟩
                · rw [List.nodup_append]
                  refine ⟨h2, List.pairwise_singleton _ p, fun x hx y hy => ?_⟩
                  rw [List.mem_singleton] at hy
                  subst hy
                  intro z
                  subst z
                  rw [(h4 x hx).2] at np
                  cases np
                · rw [List.mem_append, List.mem_singleton] at hr
                  rcases hr with hr | hr
                  · exact ⟨(h4 r hr).1, by rw [upd_ne (fun z => by have k := (h4 r hr).2; rw [z, np] at k; cases k)]; exact (h4 r hr).2⟩
                  · subst hr
                    exact ⟨fun z => hA _ z np, upd_same⟩
              · obtain ⟨refs, h1, h2, h3, h4⟩ := hI
                rw [rngV_len, Int.toNat_natCast] at h3
                have hrl : refs.length = m := h3
                have e07 := eH6.trans e7.same
                have hD7 := e7.same _ _ hD6
                have hacc7 : Paired (TpF InA No H7) acc (prs R m) := (famT_tp famT_in).p (.of e7.same) hacc6
                have hF0 : Fnd H Rg F m refs (partTo R (prs R m) 0) H7 := by
                  refine ⟨e07, e7.same _ _ hRg6, by rw [← h1]; exact hF, h2, fun r hr => ?_, fun b r hb => ⟨[], (h4 r (List.mem_of_getElem? hb)).2, .nil⟩⟩
                  obtain ⟨k1, k2⟩ := h4 r hr
                  refine ⟨Classical.byContradiction fun z => k1 (by
                    cases hh : H r with
                    | none => exact absurd hh z
                    | some o => show _ ≠ none; rw [eH6 _ _ hh]; exact fun z => nomatch z), fun z => ?_, fun z => k1 (by rw [z]; show H6 Rg ≠ none; rw [hRg6]; exact fun z => nomatch z)⟩
                  rw [z, hF, h1] at k2
                  injection k2 with k2
                  injection k2 with k2
                  have := congrArg List.length k2
                  rw [List.length_map] at this
                  simp at this
                  rw [this] at hr
                  cases hr
                have nDr : ∀ r ∈ refs, D ≠ r := fun r hr z => (h4 r hr).1 (by
                  show H6 r ≠ none
                  rw [← z, hD6]
                  exact fun z => nomatch z)
                try simp only [wipe, tC, tVar, tChain, rI0, rI, rU, tOp, tUn, tCall, tAnd, tOr, tNot, tNotV, tAndV, tOrV, tTest, tB, tIf, tIfS, tRet, tRetN, tNext, tSeq, tNil, tCons, tAug, ipI, tPar, tAsg, gName, tDrop, tLst, tTup, tCB, tBM, tBM0, tFld_eq, tMkE, tMake, tAugS, gSub, rEq, rAll, rMax, rSum, rAppend, rExtend, rSetL, _root_.L2.start, List.map_cons, List.map_nil, List.length_cons, List.length_nil, List.replicate_succ, List.replicate_zero, List.cons_append, List.nil_append, List.append_nil, List.getElem?_cons_zero, List.getElem?_cons_succ, List.set_cons_zero, List.set_cons_succ, Nat.reduceAdd, Nat.reduceSub, V.int.injEq, V.bl.injEq, V.ref.injEq, V.str.injEq, exists_eq, exists_eq', exists_eq_left, exists_eq_left', exists_and_left, exists_and_right, Option.some.injEq, List.cons.injEq, and_true, true_and, and_assoc, retV, true_or, or_true, decide_eq_true_eq, if_true, if_false, Bool.false_eq_true, Bool.not_true, Bool.not_false, Bool.not_eq_true', reduceCtorEq, eq_self, decide_true, decide_false, List.length_map, exists_const, false_and, and_false, or_false, false_or, ↓reduceIte]
                refine for_en (xs := acc) (a := D) (fun Q h => ⟨_, rfl, h⟩) (.inl hD7) (fun i σ H' => (∃ u3 u4 u7 u8 u9, σ = [some x, some (.ref Rg), some (.ref D), u3, u4, some (.ref W), some (.ref F), u7, u8, u9]) ∧
                    Fnd H Rg F m refs (partTo R (prs R m) i) H' ∧ H' D = some (.lst acc) ∧ Paired (TpF InA No H') acc (prs R m))
                  ⟨⟨_, _, _, _, _, rfl⟩, hF0, hD7, hacc7⟩ (fun i σ H' _ h => ?_) (fun i y σ H' T hi hy h nT => ?_) (fun σ H' h => ?_)
                · rw [h.2.2.1, hD7]
                · obtain ⟨⟨u3, u4, u7, u8, u9, rfl⟩, hFn, hD', hps⟩ := h
                  obtain ⟨p, hpi, t, ys, rfl, ht, hyp⟩ := Paired.at hps hy
                  obtain ⟨b, o, rfl, hb, ho, hbo, g, hg⟩ := prs_mem (List.mem_of_getElem? hpi)
                  obtain rfl := ina_eq hyp
                  have eT : Same H' (upd H' T (.tup [.int (i : Nat), .ref t])) := same_new nT
                  refine g_nest rfl rfl upd_same (eT _ _ ht) ?_
                  have hFT := hFn.grow eT
                  have hDT := eT _ _ hD'
                  have hpsT : Paired (TpF InA No (upd H' T (.tup [.int (i : Nat), .ref t]))) acc (prs R m) := (famT_tp famT_in).p (.of eT) hps
                  clear eT hFn hD' hps nT ht
                  generalize upd H' T (.tup [.int (i : Nat), .ref t]) = H8 at hFT hDT hpsT
                  obtain ⟨rb, hrb⟩ := getI (xs := refs) (i := b) (by omega)
                  obtain ⟨ro, hro⟩ := getI (xs := refs) (i := o) (by omega)
                  have i144 : i < 144 := by omega
                  try simp only [wipe, tC, tVar, tChain, rI0, rI, rU, tOp, tUn, tCall, tAnd, tOr, tNot, tNotV, tAndV, tOrV, tTest, tB, tIf, tIfS, tRet, tRetN, tNext, tSeq, tNil, tCons, tAug, ipI, tPar, tAsg, gName, tDrop, tLst, tTup, tCB, tBM, tBM0, tFld_eq, tMkE, tMake, tAugS, gSub, rEq, rAll, rMax, rSum, rAppend, rExtend, rSetL, _root_.L2.start, List.map_cons, List.map_nil, List.length_cons, List.length_nil, List.replicate_succ, List.replicate_zero, List.cons_append, List.nil_append, List.append_nil, List.getElem?_cons_zero, List.getElem?_cons_succ, List.set_cons_zero, List.set_cons_succ, Nat.reduceAdd, Nat.reduceSub, V.int.injEq, V.bl.injEq, V.ref.injEq, V.str.injEq, exists_eq, exists_eq', exists_eq_left, exists_eq_left', exists_and_left, exists_and_right, Option.some.injEq, List.cons.injEq, and_true, true_and, and_assoc, retV, true_or, or_true, decide_eq_true_eq, if_true, if_false, Bool.false_eq_true, Bool.not_true, Bool.not_false, Bool.not_eq_true', reduceCtorEq, eq_self, decide_true, decide_false, List.length_map, exists_const, false_and, and_false, or_false, false_or, ↓reduceIte]
                  refine ix_at hFT.f (b := b) (v := .ref rb) (by rw [List.getElem?_map, hrb]; rfl) ?_
                  obtain ⟨vb, hvb, hvp⟩ := hFT.at_ b rb hrb
                  have lb : vb.length ≤ 2 * i := by
                    rw [Paired.len hvp]
                    exact partTo_le _ _ _ _
                  refine ⟨.inl ⟨rfl, vb, sqL_of hvb⟩, by decide, fun p1 np1 => ?_⟩
                  try simp only [wipe, tC, tVar, tChain, rI0, rI, rU, tOp, tUn, tCall, tAnd, tOr, tNot, tNotV, tAndV, tOrV, tTest, tB, tIf, tIfS, tRet, tRetN, tNext, tSeq, tNil, tCons, tAug, ipI, tPar, tAsg, gName, tDrop, tLst, tTup, tCB, tBM, tBM0, tFld_eq, tMkE, tMake, tAugS, gSub, rEq, rAll, rMax, rSum, rAppend, rExtend, rSetL, _root_.L2.start, List.map_cons, List.map_nil, List.length_cons, List.length_nil, List.replicate_succ, List.replicate_zero, List.cons_append, List.nil_append, List.append_nil, List.getElem?_cons_zero, List.getElem?_cons_succ, List.set_cons_zero, List.set_cons_succ, Nat.reduceAdd, Nat.reduceSub, V.int.injEq, V.bl.injEq, V.ref.injEq, V.str.injEq, exists_eq, exists_eq', exists_eq_left, exists_eq_left', exists_and_left, exists_and_right, Option.some.injEq, List.cons.injEq, and_true, true_and, and_assoc, retV, true_or, or_true, decide_eq_true_eq, if_true, if_false, Bool.false_eq_true, Bool.not_true, Bool.not_false, Bool.not_eq_true', reduceCtorEq, eq_self, decide_true, decide_false, List.length_map, exists_const, false_and, and_false, or_false, false_or, ↓reduceIte]
                  have e8 : Same H8 (upd H8 p1 (.lst [.int (-1000), .int (i : Nat)])) := same_new np1
                  refine ⟨vb, e8 _ _ hvb, Nat.lt_of_lt_of_le (by omega : vb.length < 1000) (by decide), ?_⟩
                  have hF9 := (hFT.grow e8).app (c := [-1000, (i : Int)]) hrb (e8 _ _ hvb) upd_same (fun zz => hFT.alive _ zz np1)
                  have n1 := nDr rb (List.mem_of_getElem? hrb)
                  have n2 := nDr ro (List.mem_of_getElem? hro)
                  have hD9 : (upd (upd H8 p1 (.lst [.int (-1000), .int (i : Nat)])) rb (.lst (vb ++ [.ref p1]))) D = some (.lst acc) := by
                    rw [upd_ne n1]
                    exact e8 _ _ hDT
                  have t9 : Tk H8 (upd (upd H8 p1 (.lst [.int (-1000), .int (i : Nat)])) rb (.lst (vb ++ [.ref p1]))) := (Tk.of e8).trans (.lst (e8 _ _ hvb))
                  generalize (upd (upd H8 p1 (.lst [.int (-1000), .int (i : Nat)])) rb (.lst (vb ++ [.ref p1]))) = H9 at hF9 hD9 t9
                  refine ix_at hF9.f (b := o) (v := .ref ro) (by rw [List.getElem?_map, hro]; rfl) ?_
                  obtain ⟨vo, hvo, hvop⟩ := hF9.at_ o ro hro
                  have lo : vo.length ≤ 2 * i := by
                    rw [Paired.len hvop, if_neg (by omega : ¬o = b)]
                    exact partTo_le _ _ _ _
                  refine ⟨.inl ⟨rfl, vo, sqL_of hvo⟩, ?_⟩
                  have hW9 := same_gap hF9.same hW
                  obtain ⟨row, c, hrow, hc, ecell⟩ := cell_at O hb ho
                  rw [hg] at ecell
                  subst ecell
                  refine gap_rows S hW9 fun tt htt => ?_
                  obtain ⟨ta, us, rfl, hta, htp⟩ := htt
                  obtain ⟨u, hu, ra, vs, rfl, hra, hrp⟩ := Paired.at2 htp hrow
                  obtain rfl := on_eq hrp
                  refine ixt_at hta hu (ixt_at hra (v := .int g) (by rw [List.getElem?_map, hc]; rfl) ?_)
                  try simp only [wipe, tC, tVar, tChain, rI0, rI, rU, tOp, tUn, tCall, tAnd, tOr, tNot, tNotV, tAndV, tOrV, tTest, tB, tIf, tIfS, tRet, tRetN, tNext, tSeq, tNil, tCons, tAug, ipI, tPar, tAsg, gName, tDrop, tLst, tTup, tCB, tBM, tBM0, tFld_eq, tMkE, tMake, tAugS, gSub, rEq, rAll, rMax, rSum, rAppend, rExtend, rSetL, _root_.L2.start, List.map_cons, List.map_nil, List.length_cons, List.length_nil, List.replicate_succ, List.replicate_zero, List.cons_append, List.nil_append, List.append_nil, List.getElem?_cons_zero, List.getElem?_cons_succ, List.set_cons_zero, List.set_cons_succ, Nat.reduceAdd, Nat.reduceSub, V.int.injEq, V.bl.injEq, V.ref.injEq, V.str.injEq, exists_eq, exists_eq', exists_eq_left, exists_eq_left', exists_and_left, exists_and_right, Option.some.injEq, List.cons.injEq, and_true, true_and, and_assoc, retV, true_or, or_true, decide_eq_true_eq, if_true, if_false, Bool.false_eq_true, Bool.not_true, Bool.not_false, Bool.not_eq_true', reduceCtorEq, eq_self, decide_true, decide_false, List.length_map, exists_const, false_and, and_false, or_false, false_or, ↓reduceIte]
                  refine ⟨by decide, fun p2 np2 => ?_⟩
                  try simp only [wipe, tC, tVar, tChain, rI0, rI, rU, tOp, tUn, tCall, tAnd, tOr, tNot, tNotV, tAndV, tOrV, tTest, tB, tIf, tIfS, tRet, tRetN, tNext, tSeq, tNil, tCons, tAug, ipI, tPar, tAsg, gName, tDrop, tLst, tTup, tCB, tBM, tBM0, tFld_eq, tMkE, tMake, tAugS, gSub, rEq, rAll, rMax, rSum, rAppend, rExtend, rSetL, _root_.L2.start, List.map_cons, List.map_nil, List.length_cons, List.length_nil, List.replicate_succ, List.replicate_zero, List.cons_append, List.nil_append, List.append_nil, List.getElem?_cons_zero, List.getElem?_cons_succ, List.set_cons_zero, List.set_cons_succ, Nat.reduceAdd, Nat.reduceSub, V.int.injEq, V.bl.injEq, V.ref.injEq, V.str.injEq, exists_eq, exists_eq', exists_eq_left, exists_eq_left', exists_and_left, exists_and_right, Option.some.injEq, List.cons.injEq, and_true, true_and, and_assoc, retV, true_or, or_true, decide_eq_true_eq, if_true, if_false, Bool.false_eq_true, Bool.not_true, Bool.not_false, Bool.not_eq_true', reduceCtorEq, eq_self, decide_true, decide_false, List.length_map, exists_const, false_and, and_false, or_false, false_or, ↓reduceIte]
                  have e10 : Same H9 (upd H9 p2 (.lst [.int (1 - g - 1000), .int (i : Nat)])) := same_new np2
                  refine ⟨vo, e10 _ _ hvo, Nat.lt_of_lt_of_le (by omega : vo.length < 1000) (by decide), ?_⟩
                  have hF10 := (hF9.grow e10).app (c := [1 - g - 1000, (i : Int)]) hro (e10 _ _ hvo) upd_same (fun zz => hF9.alive _ zz np2)
                  refine ⟨hF10.eq fun x hx => ?_, ?_, ?_⟩
                  · have hgd : (prs R m).getD i [] = [(b : Int), (o : Int)] := by simp [List.getD, hpi]
                    rw [partTo_succ, hgd, pcell_of _ _ _ _ _ hbo, gapOf_two hg]
                    by_cases x1 : x = o
                    · subst x1
                      rw [if_pos rfl, if_pos rfl, if_neg (by omega)]
                    · rw [if_neg x1, if_neg x1]
                      by_cases x2 : x = b
                      · subst x2
                        rw [if_pos rfl, if_pos rfl]
                      · rw [if_neg x2, if_neg x2, List.append_nil]
                  · rw [upd_ne n2]
                    exact e10 _ _ hD9
                  · exact (famT_tp famT_in).p (t9.trans ((Tk.of e10).trans (Tk.lst (e10 _ _ hvo)))) hpsT
                · obtain ⟨⟨u3, u4, u7, u8, u9, rfl⟩, hFn, hD', hps⟩ := h
                  rw [lP] at hFn
                  try simp only [wipe, tC, tVar, tChain, rI0, rI, rU, tOp, tUn, tCall, tAnd, tOr, tNot, tNotV, tAndV, tOrV, tTest, tB, tIf, tIfS, tRet, tRetN, tNext, tSeq, tNil, tCons, tAug, ipI, tPar, tAsg, gName, tDrop, tLst, tTup, tCB, tBM, tBM0, tFld_eq, tMkE, tMake, tAugS, gSub, rEq, rAll, rMax, rSum, rAppend, rExtend, rSetL, _root_.L2.start, List.map_cons, List.map_nil, List.length_cons, List.length_nil, List.replicate_succ, List.replicate_zero, List.cons_append, List.nil_append, List.append_nil, List.getElem?_cons_zero, List.getElem?_cons_succ, List.set_cons_zero, List.set_cons_succ, Nat.reduceAdd, Nat.reduceSub, V.int.injEq, V.bl.injEq, V.ref.injEq, V.str.injEq, exists_eq, exists_eq', exists_eq_left, exists_eq_left', exists_and_left, exists_and_right, Option.some.injEq, List.cons.injEq, and_true, true_and, and_assoc, retV, true_or, or_true, decide_eq_true_eq, if_true, if_false, Bool.false_eq_true, Bool.not_true, Bool.not_false, Bool.not_eq_true', reduceCtorEq, eq_self, decide_true, decide_false, List.length_map, exists_const, false_and, and_false, or_false, false_or, ↓reduceIte]
                  refine for_go (gives_rngV (fun Q h => ⟨_, rfl, h⟩) hFn.rg) (fun i σ H' => (∃ u3 u4 u7 u8 u9, σ = [some x, some (.ref Rg), some (.ref D), u3, u4, some (.ref W), some (.ref F), u7, u8, u9]) ∧
                      Fnd H Rg F m refs (fun y => if y < i then finC R (prs R m) y else part R (prs R m) y) H' ∧ H' D = some (.lst acc))
                    ⟨⟨u3, u4, u7, u8, u9, rfl⟩, hFn.eq fun b _ => by simp [part], hD'⟩ (fun _ _ _ _ _ => trivial) (fun i y σ H5 hi hy h => ?_) (fun σ H5 h => ?_)
                  · obtain ⟨⟨u3, u4, u7, u8, u9, rfl⟩, hF5, hD5⟩ := h
                    rw [rngV_len, Int.toNat_natCast] at hi
                    rw [Int.toNat_natCast, rngV_get hi, Int.zero_add] at hy
                    obtain rfl := Option.some.inj hy
                    obtain ⟨r, hr1⟩ := getI (xs := refs) (i := i) (by omega)
                    obtain ⟨vs, hvs, hvp⟩ := hF5.at_ i r hr1
                    rw [if_neg (Nat.lt_irrefl _)] at hvp
                    have lv := Paired.len hvp
                    try simp only [wipe, tC, tVar, tChain, rI0, rI, rU, tOp, tUn, tCall, tAnd, tOr, tNot, tNotV, tAndV, tOrV, tTest, tB, tIf, tIfS, tRet, tRetN, tNext, tSeq, tNil, tCons, tAug, ipI, tPar, tAsg, gName, tDrop, tLst, tTup, tCB, tBM, tBM0, tFld_eq, tMkE, tMake, tAugS, gSub, rEq, rAll, rMax, rSum, rAppend, rExtend, rSetL, _root_.L2.start, List.map_cons, List.map_nil, List.length_cons, List.length_nil, List.replicate_succ, List.replicate_zero, List.cons_append, List.nil_append, List.append_nil, List.getElem?_cons_zero, List.getElem?_cons_succ, List.set_cons_zero, List.set_cons_succ, Nat.reduceAdd, Nat.reduceSub, V.int.injEq, V.bl.injEq, V.ref.injEq, V.str.injEq, exists_eq, exists_eq', exists_eq_left, exists_eq_left', exists_and_left, exists_and_right, Option.some.injEq, List.cons.injEq, and_true, true_and, and_assoc, retV, true_or, or_true, decide_eq_true_eq, if_true, if_false, Bool.false_eq_true, Bool.not_true, Bool.not_false, Bool.not_eq_true', reduceCtorEq, eq_self, decide_true, decide_false, List.length_map, exists_const, false_and, and_false, or_false, false_or, ↓reduceIte]
                    refine ix_at hF5.f (b := i) (v := .ref r) (by rw [List.getElem?_map, hr1]; rfl) (len_sq (.inl hvs) ?_)
                    try simp only [wipe, tC, tVar, tChain, rI0, rI, rU, tOp, tUn, tCall, tAnd, tOr, tNot, tNotV, tAndV, tOrV, tTest, tB, tIf, tIfS, tRet, tRetN, tNext, tSeq, tNil, tCons, tAug, ipI, tPar, tAsg, gName, tDrop, tLst, tTup, tCB, tBM, tBM0, tFld_eq, tMkE, tMake, tAugS, gSub, rEq, rAll, rMax, rSum, rAppend, rExtend, rSetL, _root_.L2.start, List.map_cons, List.map_nil, List.length_cons, List.length_nil, List.replicate_succ, List.replicate_zero, List.cons_append, List.nil_append, List.append_nil, List.getElem?_cons_zero, List.getElem?_cons_succ, List.set_cons_zero, List.set_cons_succ, Nat.reduceAdd, Nat.reduceSub, V.int.injEq, V.bl.injEq, V.ref.injEq, V.str.injEq, exists_eq, exists_eq', exists_eq_left, exists_eq_left', exists_and_left, exists_and_right, Option.some.injEq, List.cons.injEq, and_true, true_and, and_assoc, retV, true_or, or_true, decide_eq_true_eq, if_true, if_false, Bool.false_eq_true, Bool.not_true, Bool.not_false, Bool.not_eq_true', reduceCtorEq, eq_self, decide_true, decide_false, List.length_map, exists_const, false_and, and_false, or_false, false_or, scal, ↓reduceIte]
                    by_cases hv0 : part R (prs R m) i = []
                    · rw [hv0] at lv
                      obtain rfl := List.length_eq_zero_iff.1 lv
                      rw [if_pos (by simp)]
                      refine ix_at hF5.f (b := i) (v := .ref r) (by rw [List.getElem?_map, hr1]; rfl) ⟨.inl ⟨rfl, [], sqL_of hvs⟩, ?_⟩
                      refine len_sq (.inl hD5) ?_
                      try simp only [wipe, tC, tVar, tChain, rI0, rI, rU, tOp, tUn, tCall, tAnd, tOr, tNot, tNotV, tAndV, tOrV, tTest, tB, tIf, tIfS, tRet, tRetN, tNext, tSeq, tNil, tCons, tAug, ipI, tPar, tAsg, gName, tDrop, tLst, tTup, tCB, tBM, tBM0, tFld_eq, tMkE, tMake, tAugS, gSub, rEq, rAll, rMax, rSum, rAppend, rExtend, rSetL, _root_.L2.start, List.map_cons, List.map_nil, List.length_cons, List.length_nil, List.replicate_succ, List.replicate_zero, List.cons_append, List.nil_append, List.append_nil, List.getElem?_cons_zero, List.getElem?_cons_succ, List.set_cons_zero, List.set_cons_succ, Nat.reduceAdd, Nat.reduceSub, V.int.injEq, V.bl.injEq, V.ref.injEq, V.str.injEq, exists_eq, exists_eq', exists_eq_left, exists_eq_left', exists_and_left, exists_and_right, Option.some.injEq, List.cons.injEq, and_true, true_and, and_assoc, retV, true_or, or_true, decide_eq_true_eq, if_true, if_false, Bool.false_eq_true, Bool.not_true, Bool.not_false, Bool.not_eq_true', reduceCtorEq, eq_self, decide_true, decide_false, List.length_map, exists_const, false_and, and_false, or_false, false_or, ↓reduceIte]
                      refine ⟨by decide, fun p1 np1 => ?_⟩
                      rw [lP]
                      try simp only [wipe, tC, tVar, tChain, rI0, rI, rU, tOp, tUn, tCall, tAnd, tOr, tNot, tNotV, tAndV, tOrV, tTest, tB, tIf, tIfS, tRet, tRetN, tNext, tSeq, tNil, tCons, tAug, ipI, tPar, tAsg, gName, tDrop, tLst, tTup, tCB, tBM, tBM0, tFld_eq, tMkE, tMake, tAugS, gSub, rEq, rAll, rMax, rSum, rAppend, rExtend, rSetL, _root_.L2.start, List.map_cons, List.map_nil, List.length_cons, List.length_nil, List.replicate_succ, List.replicate_zero, List.cons_append, List.nil_append, List.append_nil, List.getElem?_cons_zero, List.getElem?_cons_succ, List.set_cons_zero, List.set_cons_succ, Nat.reduceAdd, Nat.reduceSub, V.int.injEq, V.bl.injEq, V.ref.injEq, V.str.injEq, exists_eq, exists_eq', exists_eq_left, exists_eq_left', exists_and_left, exists_and_right, Option.some.injEq, List.cons.injEq, and_true, true_and, and_assoc, retV, true_or, or_true, decide_eq_true_eq, if_true, if_false, Bool.false_eq_true, Bool.not_true, Bool.not_false, Bool.not_eq_true', reduceCtorEq, eq_self, decide_true, decide_false, List.length_map, exists_const, false_and, and_false, or_false, false_or, ↓reduceIte]
                      have e8 : Same H5 (upd H5 p1 (.lst [.int 0, .int ((prs R m).length + (i : Nat))])) := same_new np1
                      refine ⟨[], e8 _ _ hvs, by decide, ?_, ?_⟩
                      · refine ((hF5.grow e8).app (c := [0, ((prs R m).length : Int) + (i : Int)]) hr1 (e8 _ _ hvs) upd_same (fun zz => hF5.alive _ zz np1)).eq fun b hb => ?_
                        by_cases eb : b = i
                        · subst eb
                          rw [if_pos rfl, if_pos (Nat.lt_succ_self _), if_neg (Nat.lt_irrefl _), hv0, finC, if_pos hv0, List.nil_append]
                        · rw [if_neg eb]
                          by_cases lb : b < i
                          · rw [if_pos lb, if_pos (by omega)]
                          · rw [if_neg lb, if_neg (by omega)]
                      · rw [upd_ne (nDr r (List.mem_of_getElem? hr1))]
                        exact e8 _ _ hD5
                    · rw [if_neg (by
                        rw [lv]
                        intro z
                        exact hv0 (List.length_eq_zero_iff.1 (by omega)))]
                      refine ⟨hF5.eq fun b hb => ?_, hD5⟩
                      by_cases eb : b = i
                      · subst eb
                        rw [if_pos (Nat.lt_succ_self _), if_neg (Nat.lt_irrefl _), finC, if_neg hv0]
                      · by_cases lb : b < i
                        · rw [if_pos lb, if_pos (by omega)]
                        · rw [if_neg lb, if_neg (by omega)]
                  · obtain ⟨⟨u3, u4, u7, u8, u9, rfl⟩, hF5, hD5⟩ := h
                    rw [rngV_len, Int.toNat_natCast] at hF5
                    try simp only [wipe, tC, tVar, tChain, rI0, rI, rU, tOp, tUn, tCall, tAnd, tOr, tNot, tNotV, tAndV, tOrV, tTest, tB, tIf, tIfS, tRet, tRetN, tNext, tSeq, tNil, tCons, tAug, ipI, tPar, tAsg, gName, tDrop, tLst, tTup, tCB, tBM, tBM0, tFld_eq, tMkE, tMake, tAugS, gSub, rEq, rAll, rMax, rSum, rAppend, rExtend, rSetL, _root_.L2.start, List.map_cons, List.map_nil, List.length_cons, List.length_nil, List.replicate_succ, List.replicate_zero, List.cons_append, List.nil_append, List.append_nil, List.getElem?_cons_zero, List.getElem?_cons_succ, List.set_cons_zero, List.set_cons_succ, Nat.reduceAdd, Nat.reduceSub, V.int.injEq, V.bl.injEq, V.ref.injEq, V.str.injEq, exists_eq, exists_eq', exists_eq_left, exists_eq_left', exists_and_left, exists_and_right, Option.some.injEq, List.cons.injEq, and_true, true_and, and_assoc, retV, true_or, or_true, decide_eq_true_eq, if_true, if_false, Bool.false_eq_true, Bool.not_true, Bool.not_false, Bool.not_eq_true', reduceCtorEq, eq_self, decide_true, decide_false, List.length_map, exists_const, false_and, and_false, or_false, false_or, ↓reduceIte]
                    have hv : LsF (LsF (LsF InA)) (Old H) H5 (.ref F) (cellsOf R m) := by
                      refine ⟨F, _, rfl, fun z => nAF (show _ ≠ none from by
                        cases hh : H F with
                        | none => exact absurd hh z
                        | some o => rw [eH6 _ _ hh]; exact fun z => nomatch z), hF5.f, ?_⟩
                      refine paired_ix (by rw [List.length_map, hrl, cellsOf, List.length_map, List.length_range]) fun b y c hy hc => ?_
                      rw [List.getElem?_map] at hy
                      cases hrb : refs[b]? with
                      | none =>
                        rw [hrb] at hy
                        cases hy
                      | some r =>
                        rw [hrb] at hy
                        obtain rfl := Option.some.inj hy
                        have hbl := (List.getElem?_eq_some_iff.1 hrb).1
                        have hc' : (cellsOf R m)[b]? = some (finC R (prs R m) b) := by
                          unfold cellsOf
                          rw [List.getElem?_map, List.getElem?_range (by omega)]
                          rfl
                        rw [hc'] at hc
                        obtain rfl := Option.some.inj hc
                        obtain ⟨vs, h1, h2⟩ := hF5.at_ b r hrb
                        rw [if_pos (by omega)] at h2
                        exact ⟨r, vs, rfl, fun z => z (hF5.new r (List.mem_of_getElem? hrb)).1, h1, (fam_ls fam_in).weakP (fun a h => .inl h) h2⟩
                    refine make_bodies (n := 2) (sq_ls (fun v x h => sq_ls (fun v x h => sq_ls (fun v x h => h) (fun _ z => z) h) (fun _ z => z) h) (fun _ z => z) ((fam_ls (fam_ls (fam_ls fam_in))).weak (fun _ z => z.elim) hv)) hB ?_
                    exact fun v H6 e6 r => q v H6 (hF5.same.trans e6) r
end
end K78
set_option Elab.async false
set_option linter.all false
set_option maxRecDepth 100000
set_option maxHeartbeats 4000000
/-! k78: the law's box -/
namespace K78
open PySem PySem.Spec PyProof.Rows L2 He HK
def sp_draw : Sp := fun vs H Q _ => ∃ (b d : Addr) (m : Int), vs = [.ref b, .int m] ∧ BoxAt b d H ∧ 0 < m ∧ m ≤ 10000000 ∧ RetB b d (fun v => ∃ r, v = .int r ∧ 0 ≤ r ∧ r < m) H Q
section
variable {w : World} {K : PySem.W.Frag} {mg : Str → Option Value} {base : Heap}
theorem C__law_draw (S : Sc K mg) : Cal prg w K mg base CX0 "_law_draw" 1 ["box", "many"] [] sp_draw := by
  refine S.cal (d := d__law_draw) 25 21 sc__law_draw rfl rfl rfl rfl rfl (fun _ _ _ _ _ _ us hl => match us, hl with | [_, _], _ => rfl) (fun vs H Q E h => ?_) (fun f cdv A outer s H vs Q E hr h => ?_)
  · obtain ⟨b, d, m, rfl, _⟩ := h
    rfl
  · obtain ⟨b, d, m, rfl, hb, m0, m7, q⟩ := h
    refine ⟨_, (pss_cons (ps_if (pt_cmpR (op_neD hr.units) (pe_ix ix_list (pv 0) pe_int (fun _ _ => rfl)) (pe_lst pa_nil) (nomark _)) (pss_cons (ps_set (i := 2) sc__law_draw.nd rfl (by first | exact Or.inl rfl | exact Or.inr rfl) (pe_callTy call_int1 (by rfl) (S.free 40) (by decide +kernel) (pa_cons (pe_bm PySem.F.plainAttrs_list PySem.F.slot_list_pop PySem.F.type_list_pop mt_popAt (pe_ix ix_list (pv 0) pe_int (fun _ _ => rfl)) (pa_cons pe_int pa_nil)) pa_nil)))
      (pss_cons (ps_if (pt_cmpR op_gt (pe_op op_fdiv (pv 2) (pv 1)) pe_int (nomark _)) (pss_one (ps_expr (pe_bm PySem.F.plainAttrs_list PySem.F.slot_list_insert PySem.F.type_list_insert mt_insert (pe_ix ix_list (pv 0) pe_int (fun _ _ => rfl)) (pa_cons pe_int (pa_cons (pe_op op_fdiv (pv 2) (pv 1)) pa_nil))))) pss_nil)
      (pss_one (ps_ret (pe_op op_mod (pe_callTy call_int1 (by rfl) (S.free 40) (by decide +kernel) (pa_cons (pv 2) pa_nil)) (pv 1)))))) pss_nil)
      (pss_cons (ps_asg (pe_op op_mod (pe_callTy call_int1 (by rfl) (S.free 40) (by decide +kernel) (pa_cons (pe_op op_add (pe_op op_mul (pe_ix ix_list (pv 0) pe_int (fun _ _ => rfl)) pe_int) pe_int) pa_nil)) pe_int) (pg_sub (pv 0) pe_int set_list))
      (pss_cons (ps_set (i := 3) sc__law_draw.nd rfl (by first | exact Or.inl rfl | exact Or.inr rfl) (pe_ix ix_list (pv 0) pe_int (fun _ _ => rfl)))
      (pss_cons (ps_if (pt_cmpR op_gt (pv 1) (pe_op op_pow pe_int pe_int) (nomark _)) (pss_one ps_never) pss_nil)
      (pss_one (ps_ret (pe_op op_mod (pe_callTy call_int1 (by rfl) (S.free 40) (by decide +kernel) (pa_cons (pe_op op_fdiv (pv 3) pe_int) pa_nil)) (pv 1)))))))), ?_⟩
    obtain ⟨ds, st, h1, h2, h3, h4, h5, h6⟩ := hb.at_
    try simp only [wipe, tC, tVar, tChain, rI0, rI, rU, tOp, tUn, tCall, tAnd, tOr, tNot, tNotV, tAndV, tOrV, tTest, tB, tIf, tIfS, tRet, tRetN, tNext, tSeq, tNil, tCons, tAug, ipI, tPar, tAsg, gName, tDrop, tLst, tTup, tCB, tBM, tBM0, tFld_eq, tMkE, tMake, tAugS, gSub, rEq, rAll, rMax, rSum, rAppend, rExtend, rSetL, _root_.L2.start, List.map_cons, List.map_nil, List.length_cons, List.length_nil, List.replicate_succ, List.replicate_zero, List.cons_append, List.nil_append, List.append_nil, List.getElem?_cons_zero, List.getElem?_cons_succ, List.set_cons_zero, List.set_cons_succ, Nat.reduceAdd, Nat.reduceSub, V.int.injEq, V.bl.injEq, V.ref.injEq, V.str.injEq, exists_eq, exists_eq', exists_eq_left, exists_eq_left', exists_and_left, exists_and_right, Option.some.injEq, List.cons.injEq, and_true, true_and, and_assoc, retV, true_or, or_true, decide_eq_true_eq, if_true, if_false, Bool.false_eq_true, Bool.not_true, Bool.not_false, Bool.not_eq_true', reduceCtorEq, eq_self, decide_true, decide_false, List.length_map, exists_const, false_and, and_false, or_false, false_or, ↓reduceIte]
    refine ix_at h1 (b := 0) rfl ⟨by decide, fun p np => ?_⟩
    have e1 : Same H (upd H p (.lst [])) := same_new np
    generalize hH1 : upd H p (.lst []) = H1 at e1
    have hp1 : H1 p = some (.lst []) := by rw [← hH1]; exact upd_same
    refine ne_nil (e1 _ _ h2) hp1 ?_
    have hb1 := e1 _ _ h1
    have hd1 := e1 _ _ h2
    try simp only [wipe, tC, tVar, tChain, rI0, rI, rU, tOp, tUn, tCall, tAnd, tOr, tNot, tNotV, tAndV, tOrV, tTest, tB, tIf, tIfS, tRet, tRetN, tNext, tSeq, tNil, tCons, tAug, ipI, tPar, tAsg, gName, tDrop, tLst, tTup, tCB, tBM, tBM0, tFld_eq, tMkE, tMake, tAugS, gSub, rEq, rAll, rMax, rSum, rAppend, rExtend, rSetL, _root_.L2.start, List.map_cons, List.map_nil, List.length_cons, List.length_nil, List.replicate_succ, List.replicate_zero, List.cons_append, List.nil_append, List.append_nil, List.getElem?_cons_zero, List.getElem?_cons_succ, List.set_cons_zero, List.set_cons_succ, Nat.reduceAdd, Nat.reduceSub, V.int.injEq, V.bl.injEq, V.ref.injEq, V.str.injEq, exists_eq, exists_eq', exists_eq_left, exists_eq_left', exists_and_left, exists_and_right, Option.some.injEq, List.cons.injEq, and_true, true_and, and_assoc, retV, true_or, or_true, decide_eq_true_eq, if_true, if_false, Bool.false_eq_true, Bool.not_true, Bool.not_false, Bool.not_eq_true', reduceCtorEq, eq_self, decide_true, decide_false, List.length_map, exists_const, false_and, and_false, or_false, false_or, ↓reduceIte]
    cases ds with
    | cons x t =>
      have x0 := h3 x List.mem_cons_self
      rw [if_pos (by simp)]
      refine ix_at hb1 (b := 0) rfl ⟨.inl ⟨rfl, _, sqL_of hd1⟩, ?_⟩
      refine ⟨d, _, 0, 0, .int x, rfl, rfl, hd1, by decide, by decide, by simp [seqIndex?], rfl, .inl ⟨x, rfl, ⟨m0, by omega⟩, ?_⟩⟩
      have e2 : SameO (BoxO b d) H1 (upd H1 d (.lst (((x :: t).map V.int).eraseIdx 0))) := .lst hd1 (.inr rfl)
      have hd2 : (upd H1 d (.lst (((x :: t).map V.int).eraseIdx 0))) d = some (.lst (t.map V.int)) := upd_same
      have hb2 : (upd H1 d (.lst (((x :: t).map V.int).eraseIdx 0))) b = some (.lst [.ref d, .int st]) := by rw [upd_ne hb.ne]; exact hb1
      have ht : ∀ y ∈ t, 0 ≤ y := fun y hy => h3 y (List.mem_cons_of_mem _ hy)
      rw [List.length_cons] at h4
      have r0 := Int.emod_nonneg x (by omega : m ≠ 0)
      have r1 := Int.emod_lt_of_pos x m0
      by_cases hx : 0 < x / m
      · rw [if_pos hx]
        refine ix_at hb2 (b := 0) rfl ⟨.inl ⟨rfl, _, sqL_of hd2⟩, ⟨m0, by omega⟩, d, rfl, _, hd2, Nat.lt_of_lt_of_le (by rw [List.length_map]; omega : _ < 100) (by decide), by decide, by decide, m0, ?_⟩
        refine q _ _ ((SameO.of e1).trans (e2.trans (.lst hd2 (.inr rfl)))) ⟨hb.ne, x / m :: t, st, by rw [upd_ne hb.ne]; exact hb2, by rw [upd_same]; rfl, fun y hy => ?_, by rw [List.length_cons]; omega, h5, h6⟩ ⟨_, rfl, r0, r1⟩
        rcases List.mem_cons.1 hy with hy | hy
        · rw [hy]
          exact Int.le_of_lt hx
        · exact ht y hy
      · rw [if_neg hx]
        exact ⟨m0, q _ _ ((SameO.of e1).trans e2) ⟨hb.ne, t, st, hb2, hd2, ht, by omega, h5, h6⟩ ⟨_, rfl, r0, r1⟩⟩
    | nil =>
      rw [if_neg (by simp)]
      try simp only [wipe, tC, tVar, tChain, rI0, rI, rU, tOp, tUn, tCall, tAnd, tOr, tNot, tNotV, tAndV, tOrV, tTest, tB, tIf, tIfS, tRet, tRetN, tNext, tSeq, tNil, tCons, tAug, ipI, tPar, tAsg, gName, tDrop, tLst, tTup, tCB, tBM, tBM0, tFld_eq, tMkE, tMake, tAugS, gSub, rEq, rAll, rMax, rSum, rAppend, rExtend, rSetL, _root_.L2.start, List.map_cons, List.map_nil, List.length_cons, List.length_nil, List.replicate_succ, List.replicate_zero, List.cons_append, List.nil_append, List.append_nil, List.getElem?_cons_zero, List.getElem?_cons_succ, List.set_cons_zero, List.set_cons_succ, Nat.reduceAdd, Nat.reduceSub, V.int.injEq, V.bl.injEq, V.ref.injEq, V.str.injEq, exists_eq, exists_eq', exists_eq_left, exists_eq_left', exists_and_left, exists_and_right, Option.some.injEq, List.cons.injEq, and_true, true_and, and_assoc, retV, true_or, or_true, decide_eq_true_eq, if_true, if_false, Bool.false_eq_true, Bool.not_true, Bool.not_false, Bool.not_eq_true', reduceCtorEq, eq_self, decide_true, decide_false, List.length_map, exists_const, false_and, and_false, or_false, false_or, ↓reduceIte]
      refine ix_at hb1 (b := 1) rfl ⟨st, rfl, .inr ⟨by decide, by decide⟩, by decide, ?_⟩
      refine ⟨_, hb1, 1, rfl, ?_⟩
      have hb2 : (upd H1 b (.lst ([V.ref d, .int st].set 1 (.int ((st * 16807 + 41) % 2147483647))))) b = some (.lst [.ref d, .int ((st * 16807 + 41) % 2147483647)]) := upd_same
      have hd2 : (upd H1 b (.lst ([V.ref d, .int st].set 1 (.int ((st * 16807 + 41) % 2147483647))))) d = some (.lst ([].map V.int)) := by rw [upd_ne hb.ne.symm]; exact hd1
      refine ix_at hb2 (b := 1) rfl ?_
      try simp only [wipe, tC, tVar, tChain, rI0, rI, rU, tOp, tUn, tCall, tAnd, tOr, tNot, tNotV, tAndV, tOrV, tTest, tB, tIf, tIfS, tRet, tRetN, tNext, tSeq, tNil, tCons, tAug, ipI, tPar, tAsg, gName, tDrop, tLst, tTup, tCB, tBM, tBM0, tFld_eq, tMkE, tMake, tAugS, gSub, rEq, rAll, rMax, rSum, rAppend, rExtend, rSetL, _root_.L2.start, List.map_cons, List.map_nil, List.length_cons, List.length_nil, List.replicate_succ, List.replicate_zero, List.cons_append, List.nil_append, List.append_nil, List.getElem?_cons_zero, List.getElem?_cons_succ, List.set_cons_zero, List.set_cons_succ, Nat.reduceAdd, Nat.reduceSub, V.int.injEq, V.bl.injEq, V.ref.injEq, V.str.injEq, exists_eq, exists_eq', exists_eq_left, exists_eq_left', exists_and_left, exists_and_right, Option.some.injEq, List.cons.injEq, and_true, true_and, and_assoc, retV, true_or, or_true, decide_eq_true_eq, if_true, if_false, Bool.false_eq_true, Bool.not_true, Bool.not_false, Bool.not_eq_true', reduceCtorEq, eq_self, decide_true, decide_false, List.length_map, exists_const, false_and, and_false, or_false, false_or, ↓reduceIte]
      refine ⟨⟨by decide, by decide, by decide⟩, ?_⟩
      rw [if_neg (by
        have : (10 : Int) ^ (7 : Int).toNat = 10000000 := by decide
        omega)]
      have s0 := Int.emod_nonneg (st * 16807 + 41) (by decide : (2147483647 : Int) ≠ 0)
      have s1 := Int.emod_lt_of_pos (st * 16807 + 41) (by decide : (0 : Int) < 2147483647)
      refine ⟨⟨by decide, by decide⟩, m0, q _ _ ((SameO.of e1).trans (.lst hb1 (.inl rfl))) ⟨hb.ne, [], _, hb2, hd2, fun y hy => absurd hy List.not_mem_nil, Nat.zero_le _, s0, s1⟩ ⟨_, rfl, Int.emod_nonneg _ (by omega), Int.emod_lt_of_pos _ m0⟩⟩
def sp_pick : Sp := fun vs H Q _ => ∃ (b d p : Addr) (xs : List V), vs = [.ref b, .ref p] ∧ BoxAt b d H ∧ H p = some (.lst xs) ∧ ¬BoxO b d p ∧ 0 < xs.length ∧ xs.length ≤ 1000 ∧ RetB b d (fun v => v ∈ xs) H Q
theorem C__law_pick (S : Sc K mg) : Cal prg w K mg base CX0 "_law_pick" 2 ["box", "some"] [] sp_pick := by
  have C__law_draw := C__law_draw (w := w) (base := base) S
  refine S.cal (d := d__law_pick) 26 22 sc__law_pick rfl rfl rfl rfl rfl (fun _ _ _ _ _ _ us hl => match us, hl with | [_, _], _ => rfl) (fun vs H Q E h => ?_) (fun f cdv A outer s H vs Q E hr h => ?_)
  · obtain ⟨b, d, p, xs, rfl, _⟩ := h
    rfl
  · obtain ⟨b, d, p, xs, rfl, hb, hp, np, l0, l1, q⟩ := h
    refine ⟨_, (pss_one (ps_ret (pe_ix ix_list (pv 1) (pe_c C__law_draw (hr.mono (by omega)) pass0 (pa_cons (pv 0) (pa_cons (pe_callB cr_lenA (by rfl) (S.free 42) (by decide +kernel) (pa_cons (pv 1) pa_nil)) pa_nil))) (fun _ _ => rfl)))), ?_⟩
    try simp only [wipe, tC, tVar, tChain, rI0, rI, rU, tOp, tUn, tCall, tAnd, tOr, tNot, tNotV, tAndV, tOrV, tTest, tB, tIf, tIfS, tRet, tRetN, tNext, tSeq, tNil, tCons, tAug, ipI, tPar, tAsg, gName, tDrop, tLst, tTup, tCB, tBM, tBM0, tFld_eq, tMkE, tMake, tAugS, gSub, rEq, rAll, rMax, rSum, rAppend, rExtend, rSetL, _root_.L2.start, List.map_cons, List.map_nil, List.length_cons, List.length_nil, List.replicate_succ, List.replicate_zero, List.cons_append, List.nil_append, List.append_nil, List.getElem?_cons_zero, List.getElem?_cons_succ, List.set_cons_zero, List.set_cons_succ, Nat.reduceAdd, Nat.reduceSub, V.int.injEq, V.bl.injEq, V.ref.injEq, V.str.injEq, exists_eq, exists_eq', exists_eq_left, exists_eq_left', exists_and_left, exists_and_right, Option.some.injEq, List.cons.injEq, and_true, true_and, and_assoc, retV, true_or, or_true, decide_eq_true_eq, if_true, if_false, Bool.false_eq_true, Bool.not_true, Bool.not_false, Bool.not_eq_true', reduceCtorEq, eq_self, decide_true, decide_false, List.length_map, exists_const, false_and, and_false, or_false, false_or, ↓reduceIte]
    refine len_sq (.inl hp) ?_
    try simp only [wipe, tC, tVar, tChain, rI0, rI, rU, tOp, tUn, tCall, tAnd, tOr, tNot, tNotV, tAndV, tOrV, tTest, tB, tIf, tIfS, tRet, tRetN, tNext, tSeq, tNil, tCons, tAug, ipI, tPar, tAsg, gName, tDrop, tLst, tTup, tCB, tBM, tBM0, tFld_eq, tMkE, tMake, tAugS, gSub, rEq, rAll, rMax, rSum, rAppend, rExtend, rSetL, _root_.L2.start, List.map_cons, List.map_nil, List.length_cons, List.length_nil, List.replicate_succ, List.replicate_zero, List.cons_append, List.nil_append, List.append_nil, List.getElem?_cons_zero, List.getElem?_cons_succ, List.set_cons_zero, List.set_cons_succ, Nat.reduceAdd, Nat.reduceSub, V.int.injEq, V.bl.injEq, V.ref.injEq, V.str.injEq, exists_eq, exists_eq', exists_eq_left, exists_eq_left', exists_and_left, exists_and_right, Option.some.injEq, List.cons.injEq, and_true, true_and, and_assoc, retV, true_or, or_true, decide_eq_true_eq, if_true, if_false, Bool.false_eq_true, Bool.not_true, Bool.not_false, Bool.not_eq_true', reduceCtorEq, eq_self, decide_true, decide_false, List.length_map, exists_const, false_and, and_false, or_false, false_or, ↓reduceIte]
    refine ⟨b, d, xs.length, rfl, hb, by omega, by omega, fun v H1 e1 b1 ⟨r, er, r0, r1⟩ => ?_⟩
    subst er
    obtain ⟨y, hy⟩ := getI (xs := xs) (i := r.toNat) (by omega)
    have hp1 := e1.1 _ _ np hp
    have er : (r.toNat : Int) = r := Int.toNat_of_nonneg r0
    rw [← er]
    exact ix_at hp1 hy (q _ _ e1 b1 (List.mem_of_getElem? hy))
def sp_chance : Sp := fun vs H Q _ => ∃ (b d : Addr) (s : Int), vs = [.ref b, .int s] ∧ BoxAt b d H ∧ RetB b d (fun v => ∃ k, v = .bl k) H Q
theorem C__law_chance (S : Sc K mg) : Cal prg w K mg base CX0 "_law_chance" 2 ["box", "share"] [] sp_chance := by
  have C__law_draw := C__law_draw (w := w) (base := base) S
  refine S.cal (d := d__law_chance) 27 23 sc__law_chance rfl rfl rfl rfl rfl (fun _ _ _ _ _ _ us hl => match us, hl with | [_, _], _ => rfl) (fun vs H Q E h => ?_) (fun f cdv A outer s H vs Q E hr h => ?_)
  · obtain ⟨b, d, s, rfl, _⟩ := h
    rfl
  · obtain ⟨b, d, sh, rfl, hb, q⟩ := h
    refine ⟨_, (pss_one (ps_ret (pe_cmpR op_lt (pe_c C__law_draw (hr.mono (by omega)) pass0 (pa_cons (pv 0) (pa_cons pe_int pa_nil))) (pv 1) (nomark _)))), ?_⟩
    try simp only [wipe, tC, tVar, tChain, rI0, rI, rU, tOp, tUn, tCall, tAnd, tOr, tNot, tNotV, tAndV, tOrV, tTest, tB, tIf, tIfS, tRet, tRetN, tNext, tSeq, tNil, tCons, tAug, ipI, tPar, tAsg, gName, tDrop, tLst, tTup, tCB, tBM, tBM0, tFld_eq, tMkE, tMake, tAugS, gSub, rEq, rAll, rMax, rSum, rAppend, rExtend, rSetL, _root_.L2.start, List.map_cons, List.map_nil, List.length_cons, List.length_nil, List.replicate_succ, List.replicate_zero, List.cons_append, List.nil_append, List.append_nil, List.getElem?_cons_zero, List.getElem?_cons_succ, List.set_cons_zero, List.set_cons_succ, Nat.reduceAdd, Nat.reduceSub, V.int.injEq, V.bl.injEq, V.ref.injEq, V.str.injEq, exists_eq, exists_eq', exists_eq_left, exists_eq_left', exists_and_left, exists_and_right, Option.some.injEq, List.cons.injEq, and_true, true_and, and_assoc, retV, true_or, or_true, decide_eq_true_eq, if_true, if_false, Bool.false_eq_true, Bool.not_true, Bool.not_false, Bool.not_eq_true', reduceCtorEq, eq_self, decide_true, decide_false, List.length_map, exists_const, false_and, and_false, or_false, false_or, ↓reduceIte]
    refine ⟨b, d, 10, rfl, hb, by omega, by omega, fun v H1 e1 b1 ⟨r, er, r0, r1⟩ => ?_⟩
    subst er
    try simp only [wipe, tC, tVar, tChain, rI0, rI, rU, tOp, tUn, tCall, tAnd, tOr, tNot, tNotV, tAndV, tOrV, tTest, tB, tIf, tIfS, tRet, tRetN, tNext, tSeq, tNil, tCons, tAug, ipI, tPar, tAsg, gName, tDrop, tLst, tTup, tCB, tBM, tBM0, tFld_eq, tMkE, tMake, tAugS, gSub, rEq, rAll, rMax, rSum, rAppend, rExtend, rSetL, _root_.L2.start, List.map_cons, List.map_nil, List.length_cons, List.length_nil, List.replicate_succ, List.replicate_zero, List.cons_append, List.nil_append, List.append_nil, List.getElem?_cons_zero, List.getElem?_cons_succ, List.set_cons_zero, List.set_cons_succ, Nat.reduceAdd, Nat.reduceSub, V.int.injEq, V.bl.injEq, V.ref.injEq, V.str.injEq, exists_eq, exists_eq', exists_eq_left, exists_eq_left', exists_and_left, exists_and_right, Option.some.injEq, List.cons.injEq, and_true, true_and, and_assoc, retV, true_or, or_true, decide_eq_true_eq, if_true, if_false, Bool.false_eq_true, Bool.not_true, Bool.not_false, Bool.not_eq_true', reduceCtorEq, eq_self, decide_true, decide_false, List.length_map, exists_const, false_and, and_false, or_false, false_or, ↓reduceIte]
    exact q _ _ e1 b1 ⟨_, rfl⟩
end
end K78
set_option Elab.async false
set_option linter.all false
set_option maxRecDepth 100000
set_option maxHeartbeats 4000000
/-! k78: _law_loose -/
namespace K78
open PySem PySem.Spec PyProof.Rows L2 He HK
def sp_loose {α : Type} (R S : RlA α) (ok : α → Prop) : Sp := fun vs H Q _ => ∃ (b d : Addr) (v : V) (x : α), vs = [.ref b, v] ∧ BoxAt b d H ∧ R No H v x ∧ ok x ∧ ∀ v' H', SameO (BoxO b d) H H' → BoxAt b d H' → S (fun a => BoxO b d a ∨ Old H a) H' v' x → Q v' H'
section
variable {w : World} {K : PySem.W.Frag} {mg : Str → Option Value} {base : Heap}
theorem C__law_loose0 (S : Sc K mg) : Cal prg w K mg base CX0 "_law_loose" 1 ["box", "value"] [] (sp_loose OnA OnA fun _ => True) := by
  refine S.cal (d := d__law_loose) 30 26 sc__law_loose rfl rfl rfl rfl rfl (fun _ _ _ _ _ _ us hl => match us, hl with | [_, _], _ => rfl) (fun vs H Q E h => ?_) (fun f cdv A outer s H vs Q E hr h => ?_)
  · obtain ⟨b, d, v, x, rfl, _⟩ := h
    rfl
  · obtain ⟨b, d, v, x, rfl, hb, ev, _, q⟩ := h
    obtain rfl : v = ov x := ev
    refine ⟨_, (pss_cons (ps_if (PW.pt (pw_or (pt_val (pe_callB call_isi (by rfl) (S.free 41) (by decide +kernel) (pa_cons (pv 1) (pa_cons (pe_ty (n := "list") (S.free 43) (by decide +kernel)) pa_nil)))) (pw_or1 (pt_val (pe_callB call_isi (by rfl) (S.free 41) (by decide +kernel) (pa_cons (pv 1) (pa_cons (pe_ty (n := "tuple") (S.free 50) (by decide +kernel)) pa_nil))))))) (pss_cons ps_never
      (pss_one ps_never)) pss_nil)
      (pss_one (ps_ret (pv 1)))), ?_⟩
    have ty : ∃ T, TyX K H (ov x) (.type T) ∧ (T = "int" ∨ T = "NoneType") := by
      cases x with
      | none => exact ⟨"NoneType", .base .non, .inr rfl⟩
      | some i => exact ⟨"int", .base (.int i), .inl rfl⟩
    obtain ⟨T, hT, hT2⟩ := ty
    try simp only [wipe, tC, tVar, tChain, rI0, rI, rU, tOp, tUn, tCall, tAnd, tOr, tNot, tNotV, tAndV, tOrV, tTest, tB, tIf, tIfS, tRet, tRetN, tNext, tSeq, tNil, tCons, tAug, ipI, tPar, tAsg, gName, tDrop, tLst, tTup, tCB, tBM, tBM0, tFld_eq, tMkE, tMake, tAugS, gSub, rEq, rAll, rMax, rSum, rAppend, rExtend, rSetL, _root_.L2.start, List.map_cons, List.map_nil, List.length_cons, List.length_nil, List.replicate_succ, List.replicate_zero, List.cons_append, List.nil_append, List.append_nil, List.getElem?_cons_zero, List.getElem?_cons_succ, List.set_cons_zero, List.set_cons_succ, Nat.reduceAdd, Nat.reduceSub, V.int.injEq, V.bl.injEq, V.ref.injEq, V.str.injEq, exists_eq, exists_eq', exists_eq_left, exists_eq_left', exists_and_left, exists_and_right, Option.some.injEq, List.cons.injEq, and_true, true_and, and_assoc, retV, true_or, or_true, decide_eq_true_eq, if_true, if_false, Bool.false_eq_true, Bool.not_true, Bool.not_false, Bool.not_eq_true', reduceCtorEq, eq_self, decide_true, decide_false, List.length_map, exists_const, false_and, and_false, or_false, false_or, ↓reduceIte]
    refine isi_of (b := false) ?_ hT (.ty _) (by rcases hT2 with rfl | rfl <;> exact kit_ty (by decide +kernel))
    try simp only [wipe, tC, tVar, tChain, rI0, rI, rU, tOp, tUn, tCall, tAnd, tOr, tNot, tNotV, tAndV, tOrV, tTest, tB, tIf, tIfS, tRet, tRetN, tNext, tSeq, tNil, tCons, tAug, ipI, tPar, tAsg, gName, tDrop, tLst, tTup, tCB, tBM, tBM0, tFld_eq, tMkE, tMake, tAugS, gSub, rEq, rAll, rMax, rSum, rAppend, rExtend, rSetL, _root_.L2.start, List.map_cons, List.map_nil, List.length_cons, List.length_nil, List.replicate_succ, List.replicate_zero, List.cons_append, List.nil_append, List.append_nil, List.getElem?_cons_zero, List.getElem?_cons_succ, List.set_cons_zero, List.set_cons_succ, Nat.reduceAdd, Nat.reduceSub, V.int.injEq, V.bl.injEq, V.ref.injEq, V.str.injEq, exists_eq, exists_eq', exists_eq_left, exists_eq_left', exists_and_left, exists_and_right, Option.some.injEq, List.cons.injEq, and_true, true_and, and_assoc, retV, true_or, or_true, decide_eq_true_eq, if_true, if_false, Bool.false_eq_true, Bool.not_true, Bool.not_false, Bool.not_eq_true', reduceCtorEq, eq_self, decide_true, decide_false, List.length_map, exists_const, false_and, and_false, or_false, false_or, ↓reduceIte]
    refine isi_of (b := false) ?_ hT (.ty _) (by rcases hT2 with rfl | rfl <;> exact kit_ty (by decide +kernel))
    try simp only [wipe, tC, tVar, tChain, rI0, rI, rU, tOp, tUn, tCall, tAnd, tOr, tNot, tNotV, tAndV, tOrV, tTest, tB, tIf, tIfS, tRet, tRetN, tNext, tSeq, tNil, tCons, tAug, ipI, tPar, tAsg, gName, tDrop, tLst, tTup, tCB, tBM, tBM0, tFld_eq, tMkE, tMake, tAugS, gSub, rEq, rAll, rMax, rSum, rAppend, rExtend, rSetL, _root_.L2.start, List.map_cons, List.map_nil, List.length_cons, List.length_nil, List.replicate_succ, List.replicate_zero, List.cons_append, List.nil_append, List.append_nil, List.getElem?_cons_zero, List.getElem?_cons_succ, List.set_cons_zero, List.set_cons_succ, Nat.reduceAdd, Nat.reduceSub, V.int.injEq, V.bl.injEq, V.ref.injEq, V.str.injEq, exists_eq, exists_eq', exists_eq_left, exists_eq_left', exists_and_left, exists_and_right, Option.some.injEq, List.cons.injEq, and_true, true_and, and_assoc, retV, true_or, or_true, decide_eq_true_eq, if_true, if_false, Bool.false_eq_true, Bool.not_true, Bool.not_false, Bool.not_eq_true', reduceCtorEq, eq_self, decide_true, decide_false, List.length_map, exists_const, false_and, and_false, or_false, false_or, ↓reduceIte]
    exact q _ _ (SameO.refl _ _) hb rfl
theorem C__law_loose1 (S : Sc K mg) {α : Type} {R T : RlA α} {ok : α → Prop} (FR : FamT R) (FT : Fam T) {k : Nat} (hk : 1 ≤ k) (C__law_loose : Cal prg w K mg base CX0 "_law_loose" k ["box", "value"] [] (sp_loose R T ok)) :
    Cal prg w K mg base CX0 "_law_loose" (k + 1) ["box", "value"] [] (sp_loose (TpF R) (SqF T) fun xs => xs.length ≤ 1000 ∧ ∀ x ∈ xs, ok x) := by
  have C__law_draw := C__law_draw (w := w) (base := base) S
  refine S.cal (d := d__law_loose) 30 26 sc__law_loose rfl rfl rfl rfl rfl (fun _ _ _ _ _ _ us hl => match us, hl with | [_, _], _ => rfl) (fun vs H Q E h => ?_) (fun f cdv A outer s H vs Q E hr h => ?_)
  · obtain ⟨b, d, v, x, rfl, _⟩ := h
    rfl
  · obtain ⟨b, d, _, zs, rfl, hb, ⟨a, xs, rfl, ha, hp⟩, ⟨l1, hok⟩, q⟩ := h
    refine ⟨_, (pss_cons (ps_if (PW.pt (pw_or (pt_val (pe_callB call_isi (by rfl) (S.free 41) (by decide +kernel) (pa_cons (pv 1) (pa_cons (pe_ty (n := "list") (S.free 43) (by decide +kernel)) pa_nil)))) (pw_or1 (pt_val (pe_callB call_isi (by rfl) (S.free 41) (by decide +kernel) (pa_cons (pv 1) (pa_cons (pe_ty (n := "tuple") (S.free 50) (by decide +kernel)) pa_nil))))))) (pss_cons (ps_setLc (i := 2) (own := [("part", 3)]) (g := (gName 3)) (tt := tYes) rfl sc__law_loose.nd rfl rfl (sw_true rfl rfl rfl (by decide +kernel)) (pi_seq (pv 1)) (blkOk_by (N := ["box", "value", "parts", "part"]) (sc := defScope s__law_loose) (by decide +kernel)) (fun _ _ _ _ _ => (pg_name (i := 3) sc__law_loose.nd rfl (by first | exact Or.inl rfl | exact Or.inr rfl))) (fun _ _ _ _ _ => pts_nil) (fun _ _ _ _ _ => (pe_c C__law_loose (hr.mono (by omega)) pass0 (pa_cons (pv 0) (pa_cons (pv 3) pa_nil)))))
      (pss_one (ps_ret (pe_ifExp (pt_cmpR op_eq (pe_c C__law_draw (hr.mono (by omega)) pass0 (pa_cons (pv 0) (pa_cons pe_int pa_nil))) pe_int (nomark _)) (pv 2) (pe_callTy cr_tupA (by rfl) (S.free 50) (by decide +kernel) (pa_cons (pv 2) pa_nil)))))) pss_nil)
      (pss_one (ps_ret (pv 1)))), ?_⟩
    have hl : xs.length = zs.length := Paired.len hp
    try simp only [wipe, tC, tVar, tChain, rI0, rI, rU, tOp, tUn, tCall, tAnd, tOr, tNot, tNotV, tAndV, tOrV, tTest, tB, tIf, tIfS, tRet, tRetN, tNext, tSeq, tNil, tCons, tAug, ipI, tPar, tAsg, gName, tDrop, tLst, tTup, tCB, tBM, tBM0, tFld_eq, tMkE, tMake, tAugS, gSub, rEq, rAll, rMax, rSum, rAppend, rExtend, rSetL, _root_.L2.start, List.map_cons, List.map_nil, List.length_cons, List.length_nil, List.replicate_succ, List.replicate_zero, List.cons_append, List.nil_append, List.append_nil, List.getElem?_cons_zero, List.getElem?_cons_succ, List.set_cons_zero, List.set_cons_succ, Nat.reduceAdd, Nat.reduceSub, V.int.injEq, V.bl.injEq, V.ref.injEq, V.str.injEq, exists_eq, exists_eq', exists_eq_left, exists_eq_left', exists_and_left, exists_and_right, Option.some.injEq, List.cons.injEq, and_true, true_and, and_assoc, retV, true_or, or_true, decide_eq_true_eq, if_true, if_false, Bool.false_eq_true, Bool.not_true, Bool.not_false, Bool.not_eq_true', reduceCtorEq, eq_self, decide_true, decide_false, List.length_map, exists_const, false_and, and_false, or_false, false_or, ↓reduceIte]
    refine isi_of (b := false) ?_ (.base (.tup ha)) (.ty _) (kit_ty (by decide +kernel))
    try simp only [wipe, tC, tVar, tChain, rI0, rI, rU, tOp, tUn, tCall, tAnd, tOr, tNot, tNotV, tAndV, tOrV, tTest, tB, tIf, tIfS, tRet, tRetN, tNext, tSeq, tNil, tCons, tAug, ipI, tPar, tAsg, gName, tDrop, tLst, tTup, tCB, tBM, tBM0, tFld_eq, tMkE, tMake, tAugS, gSub, rEq, rAll, rMax, rSum, rAppend, rExtend, rSetL, _root_.L2.start, List.map_cons, List.map_nil, List.length_cons, List.length_nil, List.replicate_succ, List.replicate_zero, List.cons_append, List.nil_append, List.append_nil, List.getElem?_cons_zero, List.getElem?_cons_succ, List.set_cons_zero, List.set_cons_succ, Nat.reduceAdd, Nat.reduceSub, V.int.injEq, V.bl.injEq, V.ref.injEq, V.str.injEq, exists_eq, exists_eq', exists_eq_left, exists_eq_left', exists_and_left, exists_and_right, Option.some.injEq, List.cons.injEq, and_true, true_and, and_assoc, retV, true_or, or_true, decide_eq_true_eq, if_true, if_false, Bool.false_eq_true, Bool.not_true, Bool.not_false, Bool.not_eq_true', reduceCtorEq, eq_self, decide_true, decide_false, List.length_map, exists_const, false_and, and_false, or_false, false_or, ↓reduceIte]
    refine isi_of (b := true) ?_ (.base (.tup ha)) (.ty _) (kit_ty (by decide +kernel))
    try simp only [wipe, tC, tVar, tChain, rI0, rI, rU, tOp, tUn, tCall, tAnd, tOr, tNot, tNotV, tAndV, tOrV, tTest, tB, tIf, tIfS, tRet, tRetN, tNext, tSeq, tNil, tCons, tAug, ipI, tPar, tAsg, gName, tDrop, tLst, tTup, tCB, tBM, tBM0, tFld_eq, tMkE, tMake, tAugS, gSub, rEq, rAll, rMax, rSum, rAppend, rExtend, rSetL, _root_.L2.start, List.map_cons, List.map_nil, List.length_cons, List.length_nil, List.replicate_succ, List.replicate_zero, List.cons_append, List.nil_append, List.append_nil, List.getElem?_cons_zero, List.getElem?_cons_succ, List.set_cons_zero, List.set_cons_succ, Nat.reduceAdd, Nat.reduceSub, V.int.injEq, V.bl.injEq, V.ref.injEq, V.str.injEq, exists_eq, exists_eq', exists_eq_left, exists_eq_left', exists_and_left, exists_and_right, Option.some.injEq, List.cons.injEq, and_true, true_and, and_assoc, retV, true_or, or_true, decide_eq_true_eq, if_true, if_false, Bool.false_eq_true, Bool.not_true, Bool.not_false, Bool.not_eq_true', reduceCtorEq, eq_self, decide_true, decide_false, List.length_map, exists_const, false_and, and_false, or_false, false_or, ↓reduceIte]
    refine lc_map (O := BoxO b d) (A := fun a => BoxO b d a ∨ Old H a) (I := BoxAt b d) (gives_sq (xs := xs) (a := a) (fun Q h => ⟨_, rfl, h⟩) (.inr ha)) (hb.boxA fun _ z => z) (fun H' e => by rw [(e.2.1 a).1 _ ha, ha]) (Nat.le_trans (by omega : xs.length ≤ 1000) (by decide)) (fun x => rfl) FT zs hl.symm id (fun n x z H1 D N hx hz e1 b1 hA hN => ?_) fun ys H1 D e1 b1 nD nA hD hys => ?_
    · try simp only [wipe, tC, tVar, tChain, rI0, rI, rU, tOp, tUn, tCall, tAnd, tOr, tNot, tNotV, tAndV, tOrV, tTest, tB, tIf, tIfS, tRet, tRetN, tNext, tSeq, tNil, tCons, tAug, ipI, tPar, tAsg, gName, tDrop, tLst, tTup, tCB, tBM, tBM0, tFld_eq, tMkE, tMake, tAugS, gSub, rEq, rAll, rMax, rSum, rAppend, rExtend, rSetL, _root_.L2.start, List.map_cons, List.map_nil, List.length_cons, List.length_nil, List.replicate_succ, List.replicate_zero, List.cons_append, List.nil_append, List.append_nil, List.getElem?_cons_zero, List.getElem?_cons_succ, List.set_cons_zero, List.set_cons_succ, Nat.reduceAdd, Nat.reduceSub, V.int.injEq, V.bl.injEq, V.ref.injEq, V.str.injEq, exists_eq, exists_eq', exists_eq_left, exists_eq_left', exists_and_left, exists_and_right, Option.some.injEq, List.cons.injEq, and_true, true_and, and_assoc, retV, true_or, or_true, decide_eq_true_eq, if_true, if_false, Bool.false_eq_true, Bool.not_true, Bool.not_false, Bool.not_eq_true', reduceCtorEq, eq_self, decide_true, decide_false, List.length_map, exists_const, false_and, and_false, or_false, false_or, ↓reduceIte]
      refine ⟨b, d, x, z, rfl, b1, FR.tk e1.2.1 (Paired.both hp hx hz), hok z (List.mem_of_getElem? hz), fun v' H2 e2 b2 r => hN _ _ e2 b2 (FT.weak (fun a ha => ?_) r)⟩
      rcases ha with (ha | ha) | ha
      · exact .inl ha
      · exact .inr (e1.2.2 a ha)
      · exact .inr (hA a (.inr ha))
    · rw [List.map_id] at hys
      refine ⟨b, d, 2, rfl, b1, by omega, by omega, fun v H2 e2 b2 ⟨r, er, r0, r1⟩ => ?_⟩
      subst er
      have nbD : ¬BoxO b d D := fun z => nA (.inl z)
      have hD2 := e2.1 _ _ nbD hD
      have hys2 := FT.monoP (e2.wk fun a ha => .inl ha) hys
      have e02 := e1.trans e2
      try simp only [wipe, tC, tVar, tChain, rI0, rI, rU, tOp, tUn, tCall, tAnd, tOr, tNot, tNotV, tAndV, tOrV, tTest, tB, tIf, tIfS, tRet, tRetN, tNext, tSeq, tNil, tCons, tAug, ipI, tPar, tAsg, gName, tDrop, tLst, tTup, tCB, tBM, tBM0, tFld_eq, tMkE, tMake, tAugS, gSub, rEq, rAll, rMax, rSum, rAppend, rExtend, rSetL, _root_.L2.start, List.map_cons, List.map_nil, List.length_cons, List.length_nil, List.replicate_succ, List.replicate_zero, List.cons_append, List.nil_append, List.append_nil, List.getElem?_cons_zero, List.getElem?_cons_succ, List.set_cons_zero, List.set_cons_succ, Nat.reduceAdd, Nat.reduceSub, V.int.injEq, V.bl.injEq, V.ref.injEq, V.str.injEq, exists_eq, exists_eq', exists_eq_left, exists_eq_left', exists_and_left, exists_and_right, Option.some.injEq, List.cons.injEq, and_true, true_and, and_assoc, retV, true_or, or_true, decide_eq_true_eq, if_true, if_false, Bool.false_eq_true, Bool.not_true, Bool.not_false, Bool.not_eq_true', reduceCtorEq, eq_self, decide_true, decide_false, List.length_map, exists_const, false_and, and_false, or_false, false_or, scal, ↓reduceIte]
      by_cases hr0 : r = 0
      · rw [if_pos hr0]
        exact q _ _ e02 b2 ⟨D, ys, rfl, nA, .inl hD2, hys2⟩
      · rw [if_neg hr0]
        refine ⟨D, ys, rfl, .inl ⟨sqL_of hD2, fun p np => ?_⟩⟩
        have e3 : Same H2 (upd H2 p (.tup ys)) := same_new np
        refine q _ _ (e02.trans (.of e3)) (b2.same e3) ⟨p, ys, rfl, fun z => ?_, .inr upd_same, FT.monoP (.of e3) hys2⟩
        rcases z with z | z
        · exact b2.off np z
        · exact e02.2.2 p z np
abbrev OkG (R : GR) : Prop := R.length ≤ 1000 ∧ ∀ u ∈ R, u.length ≤ 1000 ∧ ∀ x ∈ u, True
theorem okG_of {m : Nat} {R : GR} (O : GapsOk m R) : OkG R := by
  refine ⟨by have := O.1; have := O.2.1; omega, fun u hu => ⟨?_, fun _ _ => trivial⟩⟩
  obtain ⟨b, hb⟩ := List.getElem?_of_mem hu
  have := (O.2.2 b u hb).1
  have := O.1
  omega
def sp_loose2 : Sp := sp_loose (TpF (TpF OnA)) (SqF (SqF OnA)) OkG
theorem C__law_loose (S : Sc K mg) : Cal prg w K mg base CX0 "_law_loose" 3 ["box", "value"] [] sp_loose2 :=
  C__law_loose1 S (famT_tp famT_on) (fam_sq fam_on) (by decide) (C__law_loose1 S famT_on fam_on (by decide) (C__law_loose0 S))
end
end K78
set_option Elab.async false
set_option linter.all false
set_option maxRecDepth 100000
set_option maxHeartbeats 4000000
/-! k78: _law_is_int, _law_same -/
namespace K78
open PySem PySem.Spec PyProof.Rows L2 He HK
theorem op_isIB {X : Cx} : OpR X (compareOp .Is) (fun x y H Q => ∃ i b, x = .int i ∧ y = .bl b ∧ Q (.bl false) H) := by
  intro pins s σ H x y v u Q I rx ry h
  obtain ⟨i, b, rfl, rfl, q⟩ := h
  obtain ⟨t, rfl⟩ := rx
  cases (show u = Value.bool b from ry)
  exact wpAny_is_other rfl (fun z => nomatch z) ⟨.bl false, H, I, rfl, q⟩
def sp_same {α : Type} (R : RlA α) (ok : α → Prop) : Sp := fun vs H Q _ => ∃ (v u : V) (x : α), vs = [v, u] ∧ R No H v x ∧ R No H u x ∧ ok x ∧ RetV (.bl true) H Q
section
variable {w : World} {K : PySem.W.Frag} {mg : Str → Option Value} {base : Heap}
theorem C__law_is_int (S : Sc K mg) : Cal prg w K mg base CX0 "_law_is_int" 1 ["value"] [] sp_is_integer := by
  refine S.cal (d := d__law_is_int) 28 24 sc__law_is_int rfl rfl rfl rfl rfl (fun _ _ _ _ _ _ us hl => match us, hl with | [_], _ => rfl) (fun vs H Q E h => ?_) (fun f cdv A outer s H vs Q E hr h => ?_)
  · obtain ⟨i, rfl, _⟩ := h
    rfl
  · obtain ⟨i, rfl, q⟩ := h
    refine ⟨_, (pss_one (ps_ret (pe_and (pe_callB call_isi (by rfl) (S.free 41) (by decide +kernel) (pa_cons (pv 0) (pa_cons (pe_ty (n := "int") (S.free 40) (by decide +kernel)) pa_nil))) (pe_one (pe_not (pe_callB call_isi (by rfl) (S.free 41) (by decide +kernel) (pa_cons (pv 0) (pa_cons (pe_ty (n := "bool") (S.free 38) (by decide +kernel)) pa_nil)))))))), ?_⟩
    try simp only [wipe, tC, tVar, tChain, rI0, rI, rU, tOp, tUn, tCall, tAnd, tOr, tNot, tNotV, tAndV, tOrV, tTest, tB, tIf, tIfS, tRet, tRetN, tNext, tSeq, tNil, tCons, tAug, ipI, tPar, tAsg, gName, tDrop, tLst, tTup, tCB, tBM, tBM0, tFld_eq, tMkE, tMake, tAugS, gSub, rEq, rAll, rMax, rSum, rAppend, rExtend, rSetL, _root_.L2.start, List.map_cons, List.map_nil, List.length_cons, List.length_nil, List.replicate_succ, List.replicate_zero, List.cons_append, List.nil_append, List.append_nil, List.getElem?_cons_zero, List.getElem?_cons_succ, List.set_cons_zero, List.set_cons_succ, Nat.reduceAdd, Nat.reduceSub, V.int.injEq, V.bl.injEq, V.ref.injEq, V.str.injEq, exists_eq, exists_eq', exists_eq_left, exists_eq_left', exists_and_left, exists_and_right, Option.some.injEq, List.cons.injEq, and_true, true_and, and_assoc, retV, true_or, or_true, decide_eq_true_eq, if_true, if_false, Bool.false_eq_true, Bool.not_true, Bool.not_false, Bool.not_eq_true', reduceCtorEq, eq_self, decide_true, decide_false, List.length_map, exists_const, false_and, and_false, or_false, false_or, ↓reduceIte]
    refine isi_ii ?_
    try simp only [wipe, tC, tVar, tChain, rI0, rI, rU, tOp, tUn, tCall, tAnd, tOr, tNot, tNotV, tAndV, tOrV, tTest, tB, tIf, tIfS, tRet, tRetN, tNext, tSeq, tNil, tCons, tAug, ipI, tPar, tAsg, gName, tDrop, tLst, tTup, tCB, tBM, tBM0, tFld_eq, tMkE, tMake, tAugS, gSub, rEq, rAll, rMax, rSum, rAppend, rExtend, rSetL, _root_.L2.start, List.map_cons, List.map_nil, List.length_cons, List.length_nil, List.replicate_succ, List.replicate_zero, List.cons_append, List.nil_append, List.append_nil, List.getElem?_cons_zero, List.getElem?_cons_succ, List.set_cons_zero, List.set_cons_succ, Nat.reduceAdd, Nat.reduceSub, V.int.injEq, V.bl.injEq, V.ref.injEq, V.str.injEq, exists_eq, exists_eq', exists_eq_left, exists_eq_left', exists_and_left, exists_and_right, Option.some.injEq, List.cons.injEq, and_true, true_and, and_assoc, retV, true_or, or_true, decide_eq_true_eq, if_true, if_false, Bool.false_eq_true, Bool.not_true, Bool.not_false, Bool.not_eq_true', reduceCtorEq, eq_self, decide_true, decide_false, List.length_map, exists_const, false_and, and_false, or_false, false_or, ↓reduceIte]
    refine isi_ib ?_
    try simp only [wipe, tC, tVar, tChain, rI0, rI, rU, tOp, tUn, tCall, tAnd, tOr, tNot, tNotV, tAndV, tOrV, tTest, tB, tIf, tIfS, tRet, tRetN, tNext, tSeq, tNil, tCons, tAug, ipI, tPar, tAsg, gName, tDrop, tLst, tTup, tCB, tBM, tBM0, tFld_eq, tMkE, tMake, tAugS, gSub, rEq, rAll, rMax, rSum, rAppend, rExtend, rSetL, _root_.L2.start, List.map_cons, List.map_nil, List.length_cons, List.length_nil, List.replicate_succ, List.replicate_zero, List.cons_append, List.nil_append, List.append_nil, List.getElem?_cons_zero, List.getElem?_cons_succ, List.set_cons_zero, List.set_cons_succ, Nat.reduceAdd, Nat.reduceSub, V.int.injEq, V.bl.injEq, V.ref.injEq, V.str.injEq, exists_eq, exists_eq', exists_eq_left, exists_eq_left', exists_and_left, exists_and_right, Option.some.injEq, List.cons.injEq, and_true, true_and, and_assoc, retV, true_or, or_true, decide_eq_true_eq, if_true, if_false, Bool.false_eq_true, Bool.not_true, Bool.not_false, Bool.not_eq_true', reduceCtorEq, eq_self, decide_true, decide_false, List.length_map, exists_const, false_and, and_false, or_false, false_or, ↓reduceIte]
    exact q.go (Same.refl _) rfl
theorem C__law_same0 (S : Sc K mg) : Cal prg w K mg base CX0 "_law_same" 2 ["value", "due"] [] (sp_same OnA fun _ => True) := by
  have C__law_is_int := C__law_is_int (w := w) (base := base) S
  refine S.cal (d := d__law_same) 31 27 sc__law_same rfl rfl rfl rfl rfl (fun _ _ _ _ _ _ us hl => match us, hl with | [_, _], _ => rfl) (fun vs H Q E h => ?_) (fun f cdv A outer s H vs Q E hr h => ?_)
  · obtain ⟨v, u, x, rfl, _⟩ := h
    rfl
  · obtain ⟨v, u, x, rfl, ev, eu, _, q⟩ := h
    obtain rfl : v = ov x := ev
    obtain rfl : u = ov x := eu
    refine ⟨_, (pss_cons (ps_if (pt_val (pe_callB call_isi (by rfl) (S.free 41) (by decide +kernel) (pa_cons (pv 1) (pa_cons (pe_ty (n := "tuple") (S.free 50) (by decide +kernel)) pa_nil)))) (pss_cons ps_never (pss_cons ps_never (pss_one ps_never))) pss_nil)
      (pss_cons (ps_if (pt_cmpR op_isN (pv 1) pe_non (nomark _)) (pss_one (ps_ret (pe_cmpR op_isN (pv 0) pe_non (nomark _)))) pss_nil)
      (pss_cons (ps_if (PW.pt (pw_or (pt_cmpR op_isIB (pv 1) pe_bl (nomark _)) (pw_or1 (pt_cmpR op_isIB (pv 1) pe_bl (nomark _))))) (pss_one ps_never) pss_nil)
      (pss_cons (ps_if (pt_val (pe_callB call_isi (by rfl) (S.free 41) (by decide +kernel) (pa_cons (pv 1) (pa_cons (pe_ty (n := "str") (S.free 48) (by decide +kernel)) pa_nil)))) (pss_one ps_never) pss_nil)
      (pss_one (ps_ret (pe_and (pe_c C__law_is_int (hr.mono (by omega)) pass0 (pa_cons (pv 0) pa_nil)) (pe_one (pe_cmpR op_eq (pv 0) (pv 1) (nomark _)))))))))), ?_⟩
    cases x with
    | none =>
      try simp only [wipe, tC, tVar, tChain, rI0, rI, rU, tOp, tUn, tCall, tAnd, tOr, tNot, tNotV, tAndV, tOrV, tTest, tB, tIf, tIfS, tRet, tRetN, tNext, tSeq, tNil, tCons, tAug, ipI, tPar, tAsg, gName, tDrop, tLst, tTup, tCB, tBM, tBM0, tFld_eq, tMkE, tMake, tAugS, gSub, rEq, rAll, rMax, rSum, rAppend, rExtend, rSetL, _root_.L2.start, List.map_cons, List.map_nil, List.length_cons, List.length_nil, List.replicate_succ, List.replicate_zero, List.cons_append, List.nil_append, List.append_nil, List.getElem?_cons_zero, List.getElem?_cons_succ, List.set_cons_zero, List.set_cons_succ, Nat.reduceAdd, Nat.reduceSub, V.int.injEq, V.bl.injEq, V.ref.injEq, V.str.injEq, exists_eq, exists_eq', exists_eq_left, exists_eq_left', exists_and_left, exists_and_right, Option.some.injEq, List.cons.injEq, and_true, true_and, and_assoc, retV, true_or, or_true, decide_eq_true_eq, if_true, if_false, Bool.false_eq_true, Bool.not_true, Bool.not_false, Bool.not_eq_true', reduceCtorEq, eq_self, decide_true, decide_false, List.length_map, exists_const, false_and, and_false, or_false, false_or, ov, ↓reduceIte]
      refine isi_of (b := false) ?_ (.base .non) (.ty _) (kit_ty (by decide +kernel))
      try simp only [wipe, tC, tVar, tChain, rI0, rI, rU, tOp, tUn, tCall, tAnd, tOr, tNot, tNotV, tAndV, tOrV, tTest, tB, tIf, tIfS, tRet, tRetN, tNext, tSeq, tNil, tCons, tAug, ipI, tPar, tAsg, gName, tDrop, tLst, tTup, tCB, tBM, tBM0, tFld_eq, tMkE, tMake, tAugS, gSub, rEq, rAll, rMax, rSum, rAppend, rExtend, rSetL, _root_.L2.start, List.map_cons, List.map_nil, List.length_cons, List.length_nil, List.replicate_succ, List.replicate_zero, List.cons_append, List.nil_append, List.append_nil, List.getElem?_cons_zero, List.getElem?_cons_succ, List.set_cons_zero, List.set_cons_succ, Nat.reduceAdd, Nat.reduceSub, V.int.injEq, V.bl.injEq, V.ref.injEq, V.str.injEq, exists_eq, exists_eq', exists_eq_left, exists_eq_left', exists_and_left, exists_and_right, Option.some.injEq, List.cons.injEq, and_true, true_and, and_assoc, retV, true_or, or_true, decide_eq_true_eq, if_true, if_false, Bool.false_eq_true, Bool.not_true, Bool.not_false, Bool.not_eq_true', reduceCtorEq, eq_self, decide_true, decide_false, List.length_map, exists_const, false_and, and_false, or_false, false_or, ↓reduceIte]
      exact q.go (Same.refl _) rfl
    | some x =>
      try simp only [wipe, tC, tVar, tChain, rI0, rI, rU, tOp, tUn, tCall, tAnd, tOr, tNot, tNotV, tAndV, tOrV, tTest, tB, tIf, tIfS, tRet, tRetN, tNext, tSeq, tNil, tCons, tAug, ipI, tPar, tAsg, gName, tDrop, tLst, tTup, tCB, tBM, tBM0, tFld_eq, tMkE, tMake, tAugS, gSub, rEq, rAll, rMax, rSum, rAppend, rExtend, rSetL, _root_.L2.start, List.map_cons, List.map_nil, List.length_cons, List.length_nil, List.replicate_succ, List.replicate_zero, List.cons_append, List.nil_append, List.append_nil, List.getElem?_cons_zero, List.getElem?_cons_succ, List.set_cons_zero, List.set_cons_succ, Nat.reduceAdd, Nat.reduceSub, V.int.injEq, V.bl.injEq, V.ref.injEq, V.str.injEq, exists_eq, exists_eq', exists_eq_left, exists_eq_left', exists_and_left, exists_and_right, Option.some.injEq, List.cons.injEq, and_true, true_and, and_assoc, retV, true_or, or_true, decide_eq_true_eq, if_true, if_false, Bool.false_eq_true, Bool.not_true, Bool.not_false, Bool.not_eq_true', reduceCtorEq, eq_self, decide_true, decide_false, List.length_map, exists_const, false_and, and_false, or_false, false_or, ov, ↓reduceIte]
      refine isi_of (b := false) ?_ (.base (.int x)) (.ty _) (kit_ty (by decide +kernel))
      try simp only [wipe, tC, tVar, tChain, rI0, rI, rU, tOp, tUn, tCall, tAnd, tOr, tNot, tNotV, tAndV, tOrV, tTest, tB, tIf, tIfS, tRet, tRetN, tNext, tSeq, tNil, tCons, tAug, ipI, tPar, tAsg, gName, tDrop, tLst, tTup, tCB, tBM, tBM0, tFld_eq, tMkE, tMake, tAugS, gSub, rEq, rAll, rMax, rSum, rAppend, rExtend, rSetL, _root_.L2.start, List.map_cons, List.map_nil, List.length_cons, List.length_nil, List.replicate_succ, List.replicate_zero, List.cons_append, List.nil_append, List.append_nil, List.getElem?_cons_zero, List.getElem?_cons_succ, List.set_cons_zero, List.set_cons_succ, Nat.reduceAdd, Nat.reduceSub, V.int.injEq, V.bl.injEq, V.ref.injEq, V.str.injEq, exists_eq, exists_eq', exists_eq_left, exists_eq_left', exists_and_left, exists_and_right, Option.some.injEq, List.cons.injEq, and_true, true_and, and_assoc, retV, true_or, or_true, decide_eq_true_eq, if_true, if_false, Bool.false_eq_true, Bool.not_true, Bool.not_false, Bool.not_eq_true', reduceCtorEq, eq_self, decide_true, decide_false, List.length_map, exists_const, false_and, and_false, or_false, false_or, ↓reduceIte]
      refine isi_of (b := false) ?_ (.base (.int x)) (.ty _) (kit_ty (by decide +kernel))
      try simp only [wipe, tC, tVar, tChain, rI0, rI, rU, tOp, tUn, tCall, tAnd, tOr, tNot, tNotV, tAndV, tOrV, tTest, tB, tIf, tIfS, tRet, tRetN, tNext, tSeq, tNil, tCons, tAug, ipI, tPar, tAsg, gName, tDrop, tLst, tTup, tCB, tBM, tBM0, tFld_eq, tMkE, tMake, tAugS, gSub, rEq, rAll, rMax, rSum, rAppend, rExtend, rSetL, _root_.L2.start, List.map_cons, List.map_nil, List.length_cons, List.length_nil, List.replicate_succ, List.replicate_zero, List.cons_append, List.nil_append, List.append_nil, List.getElem?_cons_zero, List.getElem?_cons_succ, List.set_cons_zero, List.set_cons_succ, Nat.reduceAdd, Nat.reduceSub, V.int.injEq, V.bl.injEq, V.ref.injEq, V.str.injEq, exists_eq, exists_eq', exists_eq_left, exists_eq_left', exists_and_left, exists_and_right, Option.some.injEq, List.cons.injEq, and_true, true_and, and_assoc, retV, true_or, or_true, decide_eq_true_eq, if_true, if_false, Bool.false_eq_true, Bool.not_true, Bool.not_false, Bool.not_eq_true', reduceCtorEq, eq_self, decide_true, decide_false, List.length_map, exists_const, false_and, and_false, or_false, false_or, sp_is_integer, scal, ↓reduceIte]
      intro H1 e1
      exact q.go e1 rfl
theorem C__law_same1 (S : Sc K mg) {α : Type} {R : RlA α} {ok : α → Prop} (FR : FamT R) {k : Nat} (hk : 1 ≤ k) (C__law_same : Cal prg w K mg base CX0 "_law_same" k ["value", "due"] [] (sp_same R ok)) :
    Cal prg w K mg base CX0 "_law_same" (k + 1) ["value", "due"] [] (sp_same (TpF R) fun xs => xs.length ≤ 1000 ∧ ∀ x ∈ xs, ok x) := by
  refine S.cal (d := d__law_same) 31 27 sc__law_same rfl rfl rfl rfl rfl (fun _ _ _ _ _ _ us hl => match us, hl with | [_, _], _ => rfl) (fun vs H Q E h => ?_) (fun f cdv A outer s H vs Q E hr h => ?_)
  · obtain ⟨v, u, x, rfl, _⟩ := h
    rfl
  · obtain ⟨_, _, zs, rfl, ⟨a, xs, rfl, ha, hp⟩, ⟨b, ys, rfl, hb, hq⟩, ⟨l1, hok⟩, q⟩ := h
    refine ⟨_, (pss_cons (ps_if (pt_val (pe_callB call_isi (by rfl) (S.free 41) (by decide +kernel) (pa_cons (pv 1) (pa_cons (pe_ty (n := "tuple") (S.free 50) (by decide +kernel)) pa_nil)))) (pss_cons (ps_if (PW.pt (pw_or (pt_not (pt_val (pe_callB call_isi (by rfl) (S.free 41) (by decide +kernel) (pa_cons (pv 0) (pa_cons (pe_ty (n := "tuple") (S.free 50) (by decide +kernel)) pa_nil))))) (pw_or1 (pt_cmpR op_ne (pe_callB cr_lenA (by rfl) (S.free 42) (by decide +kernel) (pa_cons (pv 0) pa_nil)) (pe_callB cr_lenA (by rfl) (S.free 42) (by decide +kernel) (pa_cons (pv 1) pa_nil)) (nomark _))))) (pss_one (ps_ret pe_bl)) pss_nil)
      (pss_cons (ps_for PassesOwn.never rfl (pi_range1 rfl (S.free 46) (pa_cons (pe_callB cr_lenA (by rfl) (S.free 42) (by decide +kernel) (pa_cons (pv 1) pa_nil)) pa_nil)) (pg_name (i := 2) sc__law_same.nd rfl (by first | exact Or.inl rfl | exact Or.inr rfl)) (pss_one (ps_if (pt_not (pt_val (pe_c C__law_same (hr.mono (by omega)) pass0 (pa_cons (pe_ix ix_tup (pv 0) (pv 2) (fun _ _ => rfl)) (pa_cons (pe_ix ix_tup (pv 1) (pv 2) (fun _ _ => rfl)) pa_nil))))) (pss_one (ps_ret pe_bl)) pss_nil)))
      (pss_one (ps_ret pe_bl)))) pss_nil)
      (pss_cons ps_never
      (pss_cons ps_never
      (pss_cons ps_never
      (pss_one ps_never))))), ?_⟩
    have lx : xs.length = zs.length := Paired.len hp
    have ly : ys.length = zs.length := Paired.len hq
    try simp only [wipe, tC, tVar, tChain, rI0, rI, rU, tOp, tUn, tCall, tAnd, tOr, tNot, tNotV, tAndV, tOrV, tTest, tB, tIf, tIfS, tRet, tRetN, tNext, tSeq, tNil, tCons, tAug, ipI, tPar, tAsg, gName, tDrop, tLst, tTup, tCB, tBM, tBM0, tFld_eq, tMkE, tMake, tAugS, gSub, rEq, rAll, rMax, rSum, rAppend, rExtend, rSetL, _root_.L2.start, List.map_cons, List.map_nil, List.length_cons, List.length_nil, List.replicate_succ, List.replicate_zero, List.cons_append, List.nil_append, List.append_nil, List.getElem?_cons_zero, List.getElem?_cons_succ, List.set_cons_zero, List.set_cons_succ, Nat.reduceAdd, Nat.reduceSub, V.int.injEq, V.bl.injEq, V.ref.injEq, V.str.injEq, exists_eq, exists_eq', exists_eq_left, exists_eq_left', exists_and_left, exists_and_right, Option.some.injEq, List.cons.injEq, and_true, true_and, and_assoc, retV, true_or, or_true, decide_eq_true_eq, if_true, if_false, Bool.false_eq_true, Bool.not_true, Bool.not_false, Bool.not_eq_true', reduceCtorEq, eq_self, decide_true, decide_false, List.length_map, exists_const, false_and, and_false, or_false, false_or, ↓reduceIte]
    refine isi_of (b := true) ?_ (.base (.tup hb)) (.ty _) (kit_ty (by decide +kernel))
    try simp only [wipe, tC, tVar, tChain, rI0, rI, rU, tOp, tUn, tCall, tAnd, tOr, tNot, tNotV, tAndV, tOrV, tTest, tB, tIf, tIfS, tRet, tRetN, tNext, tSeq, tNil, tCons, tAug, ipI, tPar, tAsg, gName, tDrop, tLst, tTup, tCB, tBM, tBM0, tFld_eq, tMkE, tMake, tAugS, gSub, rEq, rAll, rMax, rSum, rAppend, rExtend, rSetL, _root_.L2.start, List.map_cons, List.map_nil, List.length_cons, List.length_nil, List.replicate_succ, List.replicate_zero, List.cons_append, List.nil_append, List.append_nil, List.getElem?_cons_zero, List.getElem?_cons_succ, List.set_cons_zero, List.set_cons_succ, Nat.reduceAdd, Nat.reduceSub, V.int.injEq, V.bl.injEq, V.ref.injEq, V.str.injEq, exists_eq, exists_eq', exists_eq_left, exists_eq_left', exists_and_left, exists_and_right, Option.some.injEq, List.cons.injEq, and_true, true_and, and_assoc, retV, true_or, or_true, decide_eq_true_eq, if_true, if_false, Bool.false_eq_true, Bool.not_true, Bool.not_false, Bool.not_eq_true', reduceCtorEq, eq_self, decide_true, decide_false, List.length_map, exists_const, false_and, and_false, or_false, false_or, ↓reduceIte]
    refine isi_of (b := true) ?_ (.base (.tup ha)) (.ty _) (kit_ty (by decide +kernel))
    try simp only [wipe, tC, tVar, tChain, rI0, rI, rU, tOp, tUn, tCall, tAnd, tOr, tNot, tNotV, tAndV, tOrV, tTest, tB, tIf, tIfS, tRet, tRetN, tNext, tSeq, tNil, tCons, tAug, ipI, tPar, tAsg, gName, tDrop, tLst, tTup, tCB, tBM, tBM0, tFld_eq, tMkE, tMake, tAugS, gSub, rEq, rAll, rMax, rSum, rAppend, rExtend, rSetL, _root_.L2.start, List.map_cons, List.map_nil, List.length_cons, List.length_nil, List.replicate_succ, List.replicate_zero, List.cons_append, List.nil_append, List.append_nil, List.getElem?_cons_zero, List.getElem?_cons_succ, List.set_cons_zero, List.set_cons_succ, Nat.reduceAdd, Nat.reduceSub, V.int.injEq, V.bl.injEq, V.ref.injEq, V.str.injEq, exists_eq, exists_eq', exists_eq_left, exists_eq_left', exists_and_left, exists_and_right, Option.some.injEq, List.cons.injEq, and_true, true_and, and_assoc, retV, true_or, or_true, decide_eq_true_eq, if_true, if_false, Bool.false_eq_true, Bool.not_true, Bool.not_false, Bool.not_eq_true', reduceCtorEq, eq_self, decide_true, decide_false, List.length_map, exists_const, false_and, and_false, or_false, false_or, ↓reduceIte]
    refine len_sq (.inr ha) (len_sq (.inr hb) ?_)
    try simp only [wipe, tC, tVar, tChain, rI0, rI, rU, tOp, tUn, tCall, tAnd, tOr, tNot, tNotV, tAndV, tOrV, tTest, tB, tIf, tIfS, tRet, tRetN, tNext, tSeq, tNil, tCons, tAug, ipI, tPar, tAsg, gName, tDrop, tLst, tTup, tCB, tBM, tBM0, tFld_eq, tMkE, tMake, tAugS, gSub, rEq, rAll, rMax, rSum, rAppend, rExtend, rSetL, _root_.L2.start, List.map_cons, List.map_nil, List.length_cons, List.length_nil, List.replicate_succ, List.replicate_zero, List.cons_append, List.nil_append, List.append_nil, List.getElem?_cons_zero, List.getElem?_cons_succ, List.set_cons_zero, List.set_cons_succ, Nat.reduceAdd, Nat.reduceSub, V.int.injEq, V.bl.injEq, V.ref.injEq, V.str.injEq, exists_eq, exists_eq', exists_eq_left, exists_eq_left', exists_and_left, exists_and_right, Option.some.injEq, List.cons.injEq, and_true, true_and, and_assoc, retV, true_or, or_true, decide_eq_true_eq, if_true, if_false, Bool.false_eq_true, Bool.not_true, Bool.not_false, Bool.not_eq_true', reduceCtorEq, eq_self, decide_true, decide_false, List.length_map, exists_const, false_and, and_false, or_false, false_or, rNe, scal, ↓reduceIte]
    rw [if_neg (by rw [lx, ly]; simp)]
    refine for_go (gives_rng1 (j := ys.length) (fun Q h => ?_) (by omega) (by omega)) (fun i σ H' => (∃ u, σ = [some (.ref a), some (.ref b), u]) ∧ Same H H') ⟨⟨_, rfl⟩, Same.refl _⟩ (fun _ _ _ _ _ => trivial) (fun i y σ H1 hi hy h => ?_) (fun σ H1 h => ?_)
    · try simp only [wipe, tC, tVar, tChain, rI0, rI, rU, tOp, tUn, tCall, tAnd, tOr, tNot, tNotV, tAndV, tOrV, tTest, tB, tIf, tIfS, tRet, tRetN, tNext, tSeq, tNil, tCons, tAug, ipI, tPar, tAsg, gName, tDrop, tLst, tTup, tCB, tBM, tBM0, tFld_eq, tMkE, tMake, tAugS, gSub, rEq, rAll, rMax, rSum, rAppend, rExtend, rSetL, _root_.L2.start, List.map_cons, List.map_nil, List.length_cons, List.length_nil, List.replicate_succ, List.replicate_zero, List.cons_append, List.nil_append, List.append_nil, List.getElem?_cons_zero, List.getElem?_cons_succ, List.set_cons_zero, List.set_cons_succ, Nat.reduceAdd, Nat.reduceSub, V.int.injEq, V.bl.injEq, V.ref.injEq, V.str.injEq, exists_eq, exists_eq', exists_eq_left, exists_eq_left', exists_and_left, exists_and_right, Option.some.injEq, List.cons.injEq, and_true, true_and, and_assoc, retV, true_or, or_true, decide_eq_true_eq, if_true, if_false, Bool.false_eq_true, Bool.not_true, Bool.not_false, Bool.not_eq_true', reduceCtorEq, eq_self, decide_true, decide_false, List.length_map, exists_const, false_and, and_false, or_false, false_or, ↓reduceIte]
      exact len_sq (.inr hb) h
    · obtain ⟨⟨u, rfl⟩, e1⟩ := h
      rw [rngV_len, Int.toNat_natCast] at hi
      rw [Int.toNat_natCast, rngV_get hi, Int.zero_add] at hy
      obtain rfl := Option.some.inj hy
      obtain ⟨yv, hyv⟩ := getI (xs := ys) hi
      obtain ⟨xv, hxv⟩ := getI (xs := xs) (i := i) (by omega)
      obtain ⟨z, hz⟩ := getI (xs := zs) (i := i) (by omega)
      try simp only [wipe, tC, tVar, tChain, rI0, rI, rU, tOp, tUn, tCall, tAnd, tOr, tNot, tNotV, tAndV, tOrV, tTest, tB, tIf, tIfS, tRet, tRetN, tNext, tSeq, tNil, tCons, tAug, ipI, tPar, tAsg, gName, tDrop, tLst, tTup, tCB, tBM, tBM0, tFld_eq, tMkE, tMake, tAugS, gSub, rEq, rAll, rMax, rSum, rAppend, rExtend, rSetL, _root_.L2.start, List.map_cons, List.map_nil, List.length_cons, List.length_nil, List.replicate_succ, List.replicate_zero, List.cons_append, List.nil_append, List.append_nil, List.getElem?_cons_zero, List.getElem?_cons_succ, List.set_cons_zero, List.set_cons_succ, Nat.reduceAdd, Nat.reduceSub, V.int.injEq, V.bl.injEq, V.ref.injEq, V.str.injEq, exists_eq, exists_eq', exists_eq_left, exists_eq_left', exists_and_left, exists_and_right, Option.some.injEq, List.cons.injEq, and_true, true_and, and_assoc, retV, true_or, or_true, decide_eq_true_eq, if_true, if_false, Bool.false_eq_true, Bool.not_true, Bool.not_false, Bool.not_eq_true', reduceCtorEq, eq_self, decide_true, decide_false, List.length_map, exists_const, false_and, and_false, or_false, false_or, ↓reduceIte]
      refine ixt_at (e1 _ _ ha) hxv (ixt_at (e1 _ _ hb) hyv ?_)
      refine ⟨xv, yv, z, rfl, FR.tk (.of e1) (Paired.both hp hxv hz), FR.tk (.of e1) (Paired.both hq hyv hz), hok z (List.mem_of_getElem? hz), retV.2 fun H2 e2 => ?_⟩
      try simp only [wipe, tC, tVar, tChain, rI0, rI, rU, tOp, tUn, tCall, tAnd, tOr, tNot, tNotV, tAndV, tOrV, tTest, tB, tIf, tIfS, tRet, tRetN, tNext, tSeq, tNil, tCons, tAug, ipI, tPar, tAsg, gName, tDrop, tLst, tTup, tCB, tBM, tBM0, tFld_eq, tMkE, tMake, tAugS, gSub, rEq, rAll, rMax, rSum, rAppend, rExtend, rSetL, _root_.L2.start, List.map_cons, List.map_nil, List.length_cons, List.length_nil, List.replicate_succ, List.replicate_zero, List.cons_append, List.nil_append, List.append_nil, List.getElem?_cons_zero, List.getElem?_cons_succ, List.set_cons_zero, List.set_cons_succ, Nat.reduceAdd, Nat.reduceSub, V.int.injEq, V.bl.injEq, V.ref.injEq, V.str.injEq, exists_eq, exists_eq', exists_eq_left, exists_eq_left', exists_and_left, exists_and_right, Option.some.injEq, List.cons.injEq, and_true, true_and, and_assoc, retV, true_or, or_true, decide_eq_true_eq, if_true, if_false, Bool.false_eq_true, Bool.not_true, Bool.not_false, Bool.not_eq_true', reduceCtorEq, eq_self, decide_true, decide_false, List.length_map, exists_const, false_and, and_false, or_false, false_or, ↓reduceIte]
      exact e1.trans e2
    · obtain ⟨⟨u, rfl⟩, e1⟩ := h
      try simp only [wipe, tC, tVar, tChain, rI0, rI, rU, tOp, tUn, tCall, tAnd, tOr, tNot, tNotV, tAndV, tOrV, tTest, tB, tIf, tIfS, tRet, tRetN, tNext, tSeq, tNil, tCons, tAug, ipI, tPar, tAsg, gName, tDrop, tLst, tTup, tCB, tBM, tBM0, tFld_eq, tMkE, tMake, tAugS, gSub, rEq, rAll, rMax, rSum, rAppend, rExtend, rSetL, _root_.L2.start, List.map_cons, List.map_nil, List.length_cons, List.length_nil, List.replicate_succ, List.replicate_zero, List.cons_append, List.nil_append, List.append_nil, List.getElem?_cons_zero, List.getElem?_cons_succ, List.set_cons_zero, List.set_cons_succ, Nat.reduceAdd, Nat.reduceSub, V.int.injEq, V.bl.injEq, V.ref.injEq, V.str.injEq, exists_eq, exists_eq', exists_eq_left, exists_eq_left', exists_and_left, exists_and_right, Option.some.injEq, List.cons.injEq, and_true, true_and, and_assoc, retV, true_or, or_true, decide_eq_true_eq, if_true, if_false, Bool.false_eq_true, Bool.not_true, Bool.not_false, Bool.not_eq_true', reduceCtorEq, eq_self, decide_true, decide_false, List.length_map, exists_const, false_and, and_false, or_false, false_or, ↓reduceIte]
      exact q.go e1 rfl
def sp_same2 : Sp := sp_same (TpF (TpF OnA)) OkG
theorem C__law_same (S : Sc K mg) : Cal prg w K mg base CX0 "_law_same" 4 ["value", "due"] [] sp_same2 :=
  C__law_same1 S (famT_tp famT_on) (by decide) (C__law_same1 S famT_on (by decide) (C__law_same0 S))
end
end K78
set_option Elab.async false
set_option linter.all false
set_option maxRecDepth 100000
set_option maxHeartbeats 4000000
/-! k78: _law_place, _law_heard -/
namespace K78
open PySem PySem.Spec PyProof.Rows L2 He HK
theorem pe_cs {X : Cx} {CX : CXT} {x : Str} {k : Nat} {ps : List Str} {sp : Sp} {E : L2.St → XK} {e : Expr} {es : List Expr} {t : TA} {p pos : Pos} (c : Cal X.prog X.w X.K X.mg X.base CX x k ps [] sp) (hr : Room k X.A) (hx : ∀ σ, PassesAt CX X σ (E σ)) (ha : PA X (e :: es) t) (hg : Gl X x := by rfl) (hdb : (x == ("__debug__" : Str)) = false := by decide)
    (he : starEach (e :: es) X.env = (false, eval e X.env) :: starEach es X.env := by rfl) (hpl : (backTo pos (starEach es X.env)).any (·.1) = false := by rfl) : PE X (.Call (.Name x p) (e :: es) [] pos) (tCallS sp E t) := by
  obtain ⟨f, fd, ds, hm, F, hk, hd, hb⟩ := c.ex
  cases hd
  exact pe_callS F hr hg hm hk hb hx ha hdb he hpl
def IntOrStr (v : V) : Prop := (∃ i, v = .int i) ∨ ∃ s, v = .str s
def sp_isint2 : Sp := fun vs H Q _ => ∃ v, vs = [v] ∧ ((∃ i, v = .int i ∧ RetV (.bl true) H Q) ∨ ∃ s, v = .str s ∧ RetV (.bl false) H Q)
def sp_place : Sp := fun vs H Q _ => ∃ v, vs = [v] ∧ IntOrStr v ∧ RetV v H Q
section
variable {w : World} {K : PySem.W.Frag} {mg : Str → Option Value} {base : Heap}
theorem J__law_is_int (S : Sc K mg) : CalJ prg w K mg base "_law_is_int" 1 ["value"] sp_isint2 := by
  refine S.calJ (d := d__law_is_int) 28 24 sc__law_is_int rfl rfl rfl rfl rfl (fun _ _ _ _ _ _ us hl => match us, hl with | [_], _ => rfl) (fun vs H Q E h => ?_) (fun f cdv A outer s H vs Q hr h => ?_)
  · obtain ⟨v, rfl, _⟩ := h
    rfl
  · obtain ⟨v, rfl, h⟩ := h
    refine ⟨_, (pss_one (ps_ret (pe_and (pe_callB call_isi (by rfl) (S.free 41) (by decide +kernel) (pa_cons (pv 0) (pa_cons (pe_ty (n := "int") (S.free 40) (by decide +kernel)) pa_nil))) (pe_one (pe_not (pe_callB call_isi (by rfl) (S.free 41) (by decide +kernel) (pa_cons (pv 0) (pa_cons (pe_ty (n := "bool") (S.free 38) (by decide +kernel)) pa_nil)))))))), ?_⟩
    rcases h with ⟨i, rfl, q⟩ | ⟨x, rfl, q⟩
    · try simp only [wipe, tC, tVar, tChain, rI0, rI, rU, tOp, tUn, tCall, tAnd, tOr, tNot, tNotV, tAndV, tOrV, tTest, tB, tIf, tIfS, tRet, tRetN, tNext, tSeq, tNil, tCons, tAug, ipI, tPar, tAsg, gName, tDrop, tLst, tTup, tCB, tBM, tBM0, tFld_eq, tMkE, tMake, tAugS, gSub, rEq, rAll, rMax, rSum, rAppend, rExtend, rSetL, _root_.L2.start, List.map_cons, List.map_nil, List.length_cons, List.length_nil, List.replicate_succ, List.replicate_zero, List.cons_append, List.nil_append, List.append_nil, List.getElem?_cons_zero, List.getElem?_cons_succ, List.set_cons_zero, List.set_cons_succ, Nat.reduceAdd, Nat.reduceSub, V.int.injEq, V.bl.injEq, V.ref.injEq, V.str.injEq, exists_eq, exists_eq', exists_eq_left, exists_eq_left', exists_and_left, exists_and_right, Option.some.injEq, List.cons.injEq, and_true, true_and, and_assoc, retV, true_or, or_true, decide_eq_true_eq, if_true, if_false, Bool.false_eq_true, Bool.not_true, Bool.not_false, Bool.not_eq_true', reduceCtorEq, eq_self, decide_true, decide_false, List.length_map, exists_const, false_and, and_false, or_false, false_or, ↓reduceIte]
      refine isi_ii ?_
      try simp only [wipe, tC, tVar, tChain, rI0, rI, rU, tOp, tUn, tCall, tAnd, tOr, tNot, tNotV, tAndV, tOrV, tTest, tB, tIf, tIfS, tRet, tRetN, tNext, tSeq, tNil, tCons, tAug, ipI, tPar, tAsg, gName, tDrop, tLst, tTup, tCB, tBM, tBM0, tFld_eq, tMkE, tMake, tAugS, gSub, rEq, rAll, rMax, rSum, rAppend, rExtend, rSetL, _root_.L2.start, List.map_cons, List.map_nil, List.length_cons, List.length_nil, List.replicate_succ, List.replicate_zero, List.cons_append, List.nil_append, List.append_nil, List.getElem?_cons_zero, List.getElem?_cons_succ, List.set_cons_zero, List.set_cons_succ, Nat.reduceAdd, Nat.reduceSub, V.int.injEq, V.bl.injEq, V.ref.injEq, V.str.injEq, exists_eq, exists_eq', exists_eq_left, exists_eq_left', exists_and_left, exists_and_right, Option.some.injEq, List.cons.injEq, and_true, true_and, and_assoc, retV, true_or, or_true, decide_eq_true_eq, if_true, if_false, Bool.false_eq_true, Bool.not_true, Bool.not_false, Bool.not_eq_true', reduceCtorEq, eq_self, decide_true, decide_false, List.length_map, exists_const, false_and, and_false, or_false, false_or, ↓reduceIte]
      refine isi_ib ?_
      try simp only [wipe, tC, tVar, tChain, rI0, rI, rU, tOp, tUn, tCall, tAnd, tOr, tNot, tNotV, tAndV, tOrV, tTest, tB, tIf, tIfS, tRet, tRetN, tNext, tSeq, tNil, tCons, tAug, ipI, tPar, tAsg, gName, tDrop, tLst, tTup, tCB, tBM, tBM0, tFld_eq, tMkE, tMake, tAugS, gSub, rEq, rAll, rMax, rSum, rAppend, rExtend, rSetL, _root_.L2.start, List.map_cons, List.map_nil, List.length_cons, List.length_nil, List.replicate_succ, List.replicate_zero, List.cons_append, List.nil_append, List.append_nil, List.getElem?_cons_zero, List.getElem?_cons_succ, List.set_cons_zero, List.set_cons_succ, Nat.reduceAdd, Nat.reduceSub, V.int.injEq, V.bl.injEq, V.ref.injEq, V.str.injEq, exists_eq, exists_eq', exists_eq_left, exists_eq_left', exists_and_left, exists_and_right, Option.some.injEq, List.cons.injEq, and_true, true_and, and_assoc, retV, true_or, or_true, decide_eq_true_eq, if_true, if_false, Bool.false_eq_true, Bool.not_true, Bool.not_false, Bool.not_eq_true', reduceCtorEq, eq_self, decide_true, decide_false, List.length_map, exists_const, false_and, and_false, or_false, false_or, ↓reduceIte]
      exact q.go (Same.refl _) rfl
    · try simp only [wipe, tC, tVar, tChain, rI0, rI, rU, tOp, tUn, tCall, tAnd, tOr, tNot, tNotV, tAndV, tOrV, tTest, tB, tIf, tIfS, tRet, tRetN, tNext, tSeq, tNil, tCons, tAug, ipI, tPar, tAsg, gName, tDrop, tLst, tTup, tCB, tBM, tBM0, tFld_eq, tMkE, tMake, tAugS, gSub, rEq, rAll, rMax, rSum, rAppend, rExtend, rSetL, _root_.L2.start, List.map_cons, List.map_nil, List.length_cons, List.length_nil, List.replicate_succ, List.replicate_zero, List.cons_append, List.nil_append, List.append_nil, List.getElem?_cons_zero, List.getElem?_cons_succ, List.set_cons_zero, List.set_cons_succ, Nat.reduceAdd, Nat.reduceSub, V.int.injEq, V.bl.injEq, V.ref.injEq, V.str.injEq, exists_eq, exists_eq', exists_eq_left, exists_eq_left', exists_and_left, exists_and_right, Option.some.injEq, List.cons.injEq, and_true, true_and, and_assoc, retV, true_or, or_true, decide_eq_true_eq, if_true, if_false, Bool.false_eq_true, Bool.not_true, Bool.not_false, Bool.not_eq_true', reduceCtorEq, eq_self, decide_true, decide_false, List.length_map, exists_const, false_and, and_false, or_false, false_or, ↓reduceIte]
      refine isi_of (b := false) ?_ (.base (.str x)) (.ty _) (kit_ty (by decide +kernel))
      try simp only [wipe, tC, tVar, tChain, rI0, rI, rU, tOp, tUn, tCall, tAnd, tOr, tNot, tNotV, tAndV, tOrV, tTest, tB, tIf, tIfS, tRet, tRetN, tNext, tSeq, tNil, tCons, tAug, ipI, tPar, tAsg, gName, tDrop, tLst, tTup, tCB, tBM, tBM0, tFld_eq, tMkE, tMake, tAugS, gSub, rEq, rAll, rMax, rSum, rAppend, rExtend, rSetL, _root_.L2.start, List.map_cons, List.map_nil, List.length_cons, List.length_nil, List.replicate_succ, List.replicate_zero, List.cons_append, List.nil_append, List.append_nil, List.getElem?_cons_zero, List.getElem?_cons_succ, List.set_cons_zero, List.set_cons_succ, Nat.reduceAdd, Nat.reduceSub, V.int.injEq, V.bl.injEq, V.ref.injEq, V.str.injEq, exists_eq, exists_eq', exists_eq_left, exists_eq_left', exists_and_left, exists_and_right, Option.some.injEq, List.cons.injEq, and_true, true_and, and_assoc, retV, true_or, or_true, decide_eq_true_eq, if_true, if_false, Bool.false_eq_true, Bool.not_true, Bool.not_false, Bool.not_eq_true', reduceCtorEq, eq_self, decide_true, decide_false, List.length_map, exists_const, false_and, and_false, or_false, false_or, ↓reduceIte]
      exact q.go (Same.refl _) rfl
theorem J__law_place (S : Sc K mg) : CalJ prg w K mg base "_law_place" 2 ["value"] sp_place := by
  have C__law_is_int := J__law_is_int (w := w) (base := base) S
  refine S.calJ (d := d__law_place) 29 25 sc__law_place rfl rfl rfl rfl rfl (fun _ _ _ _ _ _ us hl => match us, hl with | [_], _ => rfl) (fun vs H Q E h => ?_) (fun f cdv A outer s H vs Q hr h => ?_)
  · obtain ⟨v, rfl, _⟩ := h
    rfl
  · obtain ⟨v, rfl, h, q⟩ := h
    refine ⟨_, (pss_one (ps_ret (pe_ifExp (PW.pt (pw_or (pt_val (pe_j C__law_is_int (hr.mono (by omega)) (pa_cons (pv 0) pa_nil))) (pw_or1 (pt_val (pe_callB call_isi (by rfl) (S.free 41) (by decide +kernel) (pa_cons (pv 0) (pa_cons (pe_ty (n := "str") (S.free 48) (by decide +kernel)) pa_nil))))))) (pv 0) (pe_tup (pa_cons pe_str pa_nil))))), ?_⟩
    rcases h with ⟨i, rfl⟩ | ⟨x, rfl⟩
    · try simp only [wipe, tC, tVar, tChain, rI0, rI, rU, tOp, tUn, tCall, tAnd, tOr, tNot, tNotV, tAndV, tOrV, tTest, tB, tIf, tIfS, tRet, tRetN, tNext, tSeq, tNil, tCons, tAug, ipI, tPar, tAsg, gName, tDrop, tLst, tTup, tCB, tBM, tBM0, tFld_eq, tMkE, tMake, tAugS, gSub, rEq, rAll, rMax, rSum, rAppend, rExtend, rSetL, _root_.L2.start, List.map_cons, List.map_nil, List.length_cons, List.length_nil, List.replicate_succ, List.replicate_zero, List.cons_append, List.nil_append, List.append_nil, List.getElem?_cons_zero, List.getElem?_cons_succ, List.set_cons_zero, List.set_cons_succ, Nat.reduceAdd, Nat.reduceSub, V.int.injEq, V.bl.injEq, V.ref.injEq, V.str.injEq, exists_eq, exists_eq', exists_eq_left, exists_eq_left', exists_and_left, exists_and_right, Option.some.injEq, List.cons.injEq, and_true, true_and, and_assoc, retV, true_or, or_true, decide_eq_true_eq, if_true, if_false, Bool.false_eq_true, Bool.not_true, Bool.not_false, Bool.not_eq_true', reduceCtorEq, eq_self, decide_true, decide_false, List.length_map, exists_const, false_and, and_false, or_false, false_or, ↓reduceIte]
      refine ⟨_, rfl, .inl ⟨i, rfl, retV.2 fun H1 e1 => ?_⟩⟩
      try simp only [wipe, tC, tVar, tChain, rI0, rI, rU, tOp, tUn, tCall, tAnd, tOr, tNot, tNotV, tAndV, tOrV, tTest, tB, tIf, tIfS, tRet, tRetN, tNext, tSeq, tNil, tCons, tAug, ipI, tPar, tAsg, gName, tDrop, tLst, tTup, tCB, tBM, tBM0, tFld_eq, tMkE, tMake, tAugS, gSub, rEq, rAll, rMax, rSum, rAppend, rExtend, rSetL, _root_.L2.start, List.map_cons, List.map_nil, List.length_cons, List.length_nil, List.replicate_succ, List.replicate_zero, List.cons_append, List.nil_append, List.append_nil, List.getElem?_cons_zero, List.getElem?_cons_succ, List.set_cons_zero, List.set_cons_succ, Nat.reduceAdd, Nat.reduceSub, V.int.injEq, V.bl.injEq, V.ref.injEq, V.str.injEq, exists_eq, exists_eq', exists_eq_left, exists_eq_left', exists_and_left, exists_and_right, Option.some.injEq, List.cons.injEq, and_true, true_and, and_assoc, retV, true_or, or_true, decide_eq_true_eq, if_true, if_false, Bool.false_eq_true, Bool.not_true, Bool.not_false, Bool.not_eq_true', reduceCtorEq, eq_self, decide_true, decide_false, List.length_map, exists_const, false_and, and_false, or_false, false_or, ↓reduceIte]
      exact q.go e1 rfl
    · try simp only [wipe, tC, tVar, tChain, rI0, rI, rU, tOp, tUn, tCall, tAnd, tOr, tNot, tNotV, tAndV, tOrV, tTest, tB, tIf, tIfS, tRet, tRetN, tNext, tSeq, tNil, tCons, tAug, ipI, tPar, tAsg, gName, tDrop, tLst, tTup, tCB, tBM, tBM0, tFld_eq, tMkE, tMake, tAugS, gSub, rEq, rAll, rMax, rSum, rAppend, rExtend, rSetL, _root_.L2.start, List.map_cons, List.map_nil, List.length_cons, List.length_nil, List.replicate_succ, List.replicate_zero, List.cons_append, List.nil_append, List.append_nil, List.getElem?_cons_zero, List.getElem?_cons_succ, List.set_cons_zero, List.set_cons_succ, Nat.reduceAdd, Nat.reduceSub, V.int.injEq, V.bl.injEq, V.ref.injEq, V.str.injEq, exists_eq, exists_eq', exists_eq_left, exists_eq_left', exists_and_left, exists_and_right, Option.some.injEq, List.cons.injEq, and_true, true_and, and_assoc, retV, true_or, or_true, decide_eq_true_eq, if_true, if_false, Bool.false_eq_true, Bool.not_true, Bool.not_false, Bool.not_eq_true', reduceCtorEq, eq_self, decide_true, decide_false, List.length_map, exists_const, false_and, and_false, or_false, false_or, ↓reduceIte]
      refine ⟨_, rfl, .inr ⟨x, rfl, retV.2 fun H1 e1 => ?_⟩⟩
      try simp only [wipe, tC, tVar, tChain, rI0, rI, rU, tOp, tUn, tCall, tAnd, tOr, tNot, tNotV, tAndV, tOrV, tTest, tB, tIf, tIfS, tRet, tRetN, tNext, tSeq, tNil, tCons, tAug, ipI, tPar, tAsg, gName, tDrop, tLst, tTup, tCB, tBM, tBM0, tFld_eq, tMkE, tMake, tAugS, gSub, rEq, rAll, rMax, rSum, rAppend, rExtend, rSetL, _root_.L2.start, List.map_cons, List.map_nil, List.length_cons, List.length_nil, List.replicate_succ, List.replicate_zero, List.cons_append, List.nil_append, List.append_nil, List.getElem?_cons_zero, List.getElem?_cons_succ, List.set_cons_zero, List.set_cons_succ, Nat.reduceAdd, Nat.reduceSub, V.int.injEq, V.bl.injEq, V.ref.injEq, V.str.injEq, exists_eq, exists_eq', exists_eq_left, exists_eq_left', exists_and_left, exists_and_right, Option.some.injEq, List.cons.injEq, and_true, true_and, and_assoc, retV, true_or, or_true, decide_eq_true_eq, if_true, if_false, Bool.false_eq_true, Bool.not_true, Bool.not_false, Bool.not_eq_true', reduceCtorEq, eq_self, decide_true, decide_false, List.length_map, exists_const, false_and, and_false, or_false, false_or, ↓reduceIte]
      refine isi_of (b := true) ?_ (.base (.str x)) (.ty _) (kit_ty (by decide +kernel))
      try simp only [wipe, tC, tVar, tChain, rI0, rI, rU, tOp, tUn, tCall, tAnd, tOr, tNot, tNotV, tAndV, tOrV, tTest, tB, tIf, tIfS, tRet, tRetN, tNext, tSeq, tNil, tCons, tAug, ipI, tPar, tAsg, gName, tDrop, tLst, tTup, tCB, tBM, tBM0, tFld_eq, tMkE, tMake, tAugS, gSub, rEq, rAll, rMax, rSum, rAppend, rExtend, rSetL, _root_.L2.start, List.map_cons, List.map_nil, List.length_cons, List.length_nil, List.replicate_succ, List.replicate_zero, List.cons_append, List.nil_append, List.append_nil, List.getElem?_cons_zero, List.getElem?_cons_succ, List.set_cons_zero, List.set_cons_succ, Nat.reduceAdd, Nat.reduceSub, V.int.injEq, V.bl.injEq, V.ref.injEq, V.str.injEq, exists_eq, exists_eq', exists_eq_left, exists_eq_left', exists_and_left, exists_and_right, Option.some.injEq, List.cons.injEq, and_true, true_and, and_assoc, retV, true_or, or_true, decide_eq_true_eq, if_true, if_false, Bool.false_eq_true, Bool.not_true, Bool.not_false, Bool.not_eq_true', reduceCtorEq, eq_self, decide_true, decide_false, List.length_map, exists_const, false_and, and_false, or_false, false_or, ↓reduceIte]
      exact q.go e1 rfl
/-- what is heard of bodies_with -/
def sp_heard (w : World) (K : PySem.W.Frag) : Sp := fun vs H Q _ => ∃ x, vs = [x] ∧ ((Alien K H x ∧ ∀ p H', Same H H' → H' p = some (.tup [.str "gaps", .int (-1)]) → Q (.ref p) H') ∨ ∃ m R, GapO K m R H x ∧ GapsOk m R ∧ 1 ≤ m ∧
  (High R m → ∀ p H', Same H H' → H' p = some (.tup [.str "refused", .int (-1)]) → Q (.ref p) H') ∧ (¬High R m → (Low R m → ∀ p H', Same H H' → H' p = some (.tup [.str "size", .str "places"]) → Q (.ref p) H') ∧
    (¬Low R m → BodOk w 2 (cellsOf R m) ∧ ∀ p H', Same H H' → H' p = some (.tup [.str "told", .int 2]) → Q (.ref p) H')))
theorem C__law_heard (S : Sc K mg) : Cal prg w K mg base CX0 "_law_heard" 9 ["gaps"] [] (sp_heard w K) := by
  have C_bodies_with := C_bodies_with (w := w) (base := base) S
  have J__law_place := J__law_place (w := w) (base := base) S
  refine S.cal (d := d__law_heard) 34 30 sc__law_heard rfl rfl rfl rfl rfl (fun _ _ _ _ _ _ us hl => match us, hl with | [_], _ => rfl) (fun vs H Q E h => ?_) (fun f cdv A outer s H vs Q E hr h => ?_)
  · obtain ⟨x, rfl, _⟩ := h
    rfl
  · obtain ⟨x, rfl, h⟩ := h
    have hrJ : L2H.RoomH 2 (A.deeper (envOfC d__law_heard.qual d__law_heard.scope s.heap.objs.size f cdv)) := ⟨by have := hr.dp; omega, by have := hr.un; omega⟩
    have xInvalidGaps : XfC K (ga K "InvalidGaps") := (S.err 4 (e := e_InvalidGaps) rfl).xf
    have nInvalidGaps : PySem.W.findIn K (.ref (ga K "InvalidGaps")) "at" = some none := (S.err 4 (e := e_InvalidGaps) rfl).txt.noF
    have xInvalidSize : XfC K (ga K "InvalidSize") := (S.err 6 (e := e_InvalidSize) rfl).xf
    have nInvalidSize : PySem.W.findIn K (.ref (ga K "InvalidSize")) "word" = some none := (S.err 6 (e := e_InvalidSize) rfl).txt.noF
    have xRefused : XfC K (ga K "Refused") := (S.err 7 (e := e_Refused) rfl).xf
    have nRefused : PySem.W.findIn K (.ref (ga K "Refused")) "at" = some none := (S.err 7 (e := e_Refused) rfl).txt.noF
    refine ⟨_, (pss_one (ps_try_manyA (Wout := fun _ _ _ _ => False) rfl rfl sc__law_heard.nd takes0
      (fun W pn xe tk hp => pss_one (ps_ret (pe_tup (pa_cons pe_str (pa_cons (pe_fldK (K := K) rfl (pe_cs C_bodies_with (hr.mono (by omega)) (fun σ => passAt tk σ) (pa_cons (pv 0) pa_nil)) rfl) pa_nil)))))
      (.cons (i := 1) rfl rfl ⟨rfl, by decide, Or.inl (S.glo 73)⟩ (fun a oe cls d pn hz hf => pss_one (ps_ret (pe_tup (pa_cons pe_str (pa_cons (pe_j J__law_place ⟨hrJ.dp, hrJ.un⟩ (pa_cons (pe_xf xInvalidGaps nInvalidGaps hz hf (pv 1)) pa_nil)) pa_nil)))))
      (.cons (i := 1) rfl rfl ⟨rfl, by decide, Or.inl (S.glo 75)⟩ (fun a oe cls d pn hz hf => pss_one (ps_ret (pe_tup (pa_cons pe_str (pa_cons (pe_j J__law_place ⟨hrJ.dp, hrJ.un⟩ (pa_cons (pe_xf xInvalidSize nInvalidSize hz hf (pv 1)) pa_nil)) pa_nil)))))
      (.cons (i := 1) rfl rfl ⟨rfl, by decide, Or.inl (S.glo 76)⟩ (fun a oe cls d pn hz hf => pss_one (ps_ret (pe_tup (pa_cons pe_str (pa_cons (pe_j J__law_place ⟨hrJ.dp, hrJ.un⟩ (pa_cons (pe_xf xRefused nRefused hz hf (pv 1)) pa_nil)) pa_nil)))))
      .nil))))), ?_⟩
    try simp only [wipe, tC, tVar, tChain, rI0, rI, rU, tOp, tUn, tCall, tAnd, tOr, tNot, tNotV, tAndV, tOrV, tTest, tB, tIf, tIfS, tRet, tRetN, tNext, tSeq, tNil, tCons, tAug, ipI, tPar, tAsg, gName, tDrop, tLst, tTup, tCB, tBM, tBM0, tFld_eq, tMkE, tMake, tAugS, gSub, rEq, rAll, rMax, rSum, rAppend, rExtend, rSetL, _root_.L2.start, List.map_cons, List.map_nil, List.length_cons, List.length_nil, List.replicate_succ, List.replicate_zero, List.cons_append, List.nil_append, List.append_nil, List.getElem?_cons_zero, List.getElem?_cons_succ, List.set_cons_zero, List.set_cons_succ, Nat.reduceAdd, Nat.reduceSub, V.int.injEq, V.bl.injEq, V.ref.injEq, V.str.injEq, exists_eq, exists_eq', exists_eq_left, exists_eq_left', exists_and_left, exists_and_right, Option.some.injEq, List.cons.injEq, and_true, true_and, and_assoc, retV, true_or, or_true, decide_eq_true_eq, if_true, if_false, Bool.false_eq_true, Bool.not_true, Bool.not_false, Bool.not_eq_true', reduceCtorEq, eq_self, decide_true, decide_false, List.length_map, exists_const, false_and, and_false, or_false, false_or, tCallS, ↓reduceIte]
    refine ⟨x, rfl, ?_⟩
    rcases h with ⟨hA, q⟩ | ⟨m, R, hW, O, m1, q1, q2⟩
    · refine .inl ⟨hA, fun H1 d e1 nd => ?_⟩
      refine ⟨true, (S.exm 113), fun _ a na => ?_, fun z => by cases z⟩
      try simp only [wipe, tC, tVar, tChain, rI0, rI, rU, tOp, tUn, tCall, tAnd, tOr, tNot, tNotV, tAndV, tOrV, tTest, tB, tIf, tIfS, tRet, tRetN, tNext, tSeq, tNil, tCons, tAug, ipI, tPar, tAsg, gName, tDrop, tLst, tTup, tCB, tBM, tBM0, tFld_eq, tMkE, tMake, tAugS, gSub, rEq, rAll, rMax, rSum, rAppend, rExtend, rSetL, _root_.L2.start, List.map_cons, List.map_nil, List.length_cons, List.length_nil, List.replicate_succ, List.replicate_zero, List.cons_append, List.nil_append, List.append_nil, List.getElem?_cons_zero, List.getElem?_cons_succ, List.set_cons_zero, List.set_cons_succ, Nat.reduceAdd, Nat.reduceSub, V.int.injEq, V.bl.injEq, V.ref.injEq, V.str.injEq, exists_eq, exists_eq', exists_eq_left, exists_eq_left', exists_and_left, exists_and_right, Option.some.injEq, List.cons.injEq, and_true, true_and, and_assoc, retV, true_or, or_true, decide_eq_true_eq, if_true, if_false, Bool.false_eq_true, Bool.not_true, Bool.not_false, Bool.not_eq_true', reduceCtorEq, eq_self, decide_true, decide_false, List.length_map, exists_const, false_and, and_false, or_false, false_or, tXf, unEnds, ↓reduceIte]
      refine ⟨_, upd_same, _, rfl, _, rfl, .inl ⟨_, rfl⟩, retV.2 fun H2 e2 => ⟨by decide, fun p np => q p _ ((e1.trans (same_new nd)).trans (e2.trans (same_new np))) upd_same⟩⟩
    · refine .inr ⟨m, R, hW, O, m1, fun hU H1 d e1 nd => ?_, fun hU => ⟨fun hF H1 d e1 nd => ?_, fun hF => ⟨((q2 hU).2 hF).1, fun v H1 e1 hv => ?_⟩⟩⟩
      · refine ⟨false, (S.exm 137), (fun z => by cases z), fun _ => ⟨false, (S.exm 139), (fun z => by cases z), fun _ => ⟨true, (S.exm 140), fun _ a na => ?_, fun z => by cases z⟩⟩⟩
        try simp only [wipe, tC, tVar, tChain, rI0, rI, rU, tOp, tUn, tCall, tAnd, tOr, tNot, tNotV, tAndV, tOrV, tTest, tB, tIf, tIfS, tRet, tRetN, tNext, tSeq, tNil, tCons, tAug, ipI, tPar, tAsg, gName, tDrop, tLst, tTup, tCB, tBM, tBM0, tFld_eq, tMkE, tMake, tAugS, gSub, rEq, rAll, rMax, rSum, rAppend, rExtend, rSetL, _root_.L2.start, List.map_cons, List.map_nil, List.length_cons, List.length_nil, List.replicate_succ, List.replicate_zero, List.cons_append, List.nil_append, List.append_nil, List.getElem?_cons_zero, List.getElem?_cons_succ, List.set_cons_zero, List.set_cons_succ, Nat.reduceAdd, Nat.reduceSub, V.int.injEq, V.bl.injEq, V.ref.injEq, V.str.injEq, exists_eq, exists_eq', exists_eq_left, exists_eq_left', exists_and_left, exists_and_right, Option.some.injEq, List.cons.injEq, and_true, true_and, and_assoc, retV, true_or, or_true, decide_eq_true_eq, if_true, if_false, Bool.false_eq_true, Bool.not_true, Bool.not_false, Bool.not_eq_true', reduceCtorEq, eq_self, decide_true, decide_false, List.length_map, exists_const, false_and, and_false, or_false, false_or, tXf, unEnds, ↓reduceIte]
        refine ⟨_, upd_same, _, rfl, _, rfl, .inl ⟨_, rfl⟩, retV.2 fun H2 e2 => ⟨by decide, fun p np => q1 hU p _ ((e1.trans (same_new nd)).trans (e2.trans (same_new np))) upd_same⟩⟩
      · refine ⟨false, (S.exm 129), (fun z => by cases z), fun _ => ⟨true, (S.exm 131), fun _ a na => ?_, fun z => by cases z⟩⟩
        try simp only [wipe, tC, tVar, tChain, rI0, rI, rU, tOp, tUn, tCall, tAnd, tOr, tNot, tNotV, tAndV, tOrV, tTest, tB, tIf, tIfS, tRet, tRetN, tNext, tSeq, tNil, tCons, tAug, ipI, tPar, tAsg, gName, tDrop, tLst, tTup, tCB, tBM, tBM0, tFld_eq, tMkE, tMake, tAugS, gSub, rEq, rAll, rMax, rSum, rAppend, rExtend, rSetL, _root_.L2.start, List.map_cons, List.map_nil, List.length_cons, List.length_nil, List.replicate_succ, List.replicate_zero, List.cons_append, List.nil_append, List.append_nil, List.getElem?_cons_zero, List.getElem?_cons_succ, List.set_cons_zero, List.set_cons_succ, Nat.reduceAdd, Nat.reduceSub, V.int.injEq, V.bl.injEq, V.ref.injEq, V.str.injEq, exists_eq, exists_eq', exists_eq_left, exists_eq_left', exists_and_left, exists_and_right, Option.some.injEq, List.cons.injEq, and_true, true_and, and_assoc, retV, true_or, or_true, decide_eq_true_eq, if_true, if_false, Bool.false_eq_true, Bool.not_true, Bool.not_false, Bool.not_eq_true', reduceCtorEq, eq_self, decide_true, decide_false, List.length_map, exists_const, false_and, and_false, or_false, false_or, tXf, unEnds, ↓reduceIte]
        refine ⟨_, upd_same, _, rfl, _, rfl, .inr ⟨_, rfl⟩, retV.2 fun H2 e2 => ⟨by decide, fun p np => (q2 hU).1 hF p _ ((e1.trans (same_new nd)).trans (e2.trans (same_new np))) upd_same⟩⟩
      · refine bod_axes S hv ⟨by decide, fun p np => ?_⟩
        exact ((q2 hU).2 hF).2 p _ (e1.trans (same_new np)) upd_same
end
end K78
set_option Elab.async false
set_option linter.all false
set_option maxRecDepth 100000
set_option maxHeartbeats 4000000
/-! k78: _law_box -/
namespace K78
open PySem PySem.Spec PyProof.Rows L2 He HK
def sp_box (K : PySem.W.Frag) : Sp := fun vs H Q _ => ∃ (a : Addr) (xs : List Int) (s : Int), vs = [.ref a, .int s] ∧ SqL K H a (xs.map V.int) ∧ 0 ≤ s ∧ s < 1000 ∧ ∀ b d H', Same H H' → BoxAt b d H' → Q (.ref b) H'
section
variable {w : World} {K : PySem.W.Frag} {mg : Str → Option Value} {base : Heap}
theorem C__law_box (S : Sc K mg) : Cal prg w K mg base CX0 "_law_box" 1 ["script", "salt"] [] (sp_box K) := by
  refine S.cal (d := d__law_box) 24 20 sc__law_box rfl rfl rfl rfl rfl (fun _ _ _ _ _ _ us hl => match us, hl with | [_, _], _ => rfl) (fun vs H Q E h => ?_) (fun f cdv A outer s H vs Q E hr h => ?_)
  · obtain ⟨a, xs, s, rfl, _⟩ := h
    rfl
  · obtain ⟨a, xs, sa, rfl, ha, s0, s1, q⟩ := h
    refine ⟨_, (pss_cons (ps_setLc (i := 2) (own := [("cell", 3)]) (g := (gName 3)) (tt := tYes) rfl sc__law_box.nd rfl rfl (sw_true rfl rfl rfl (by decide +kernel)) (pi_seq (pe_slice sl_list (pv 0) po_none (po_some pe_int))) (blkOk_by (N := ["script", "salt", "cells", "cell", "blend"]) (sc := defScope s__law_box) (by decide +kernel)) (fun _ _ _ _ _ => (pg_name (i := 3) sc__law_box.nd rfl (by first | exact Or.inl rfl | exact Or.inr rfl))) (fun _ _ _ _ _ => pts_nil) (fun _ _ _ _ _ => (pe_callB call_abs (by rfl) (S.free 36) (by decide +kernel) (pa_cons (pe_callTy call_int1 (by rfl) (S.free 40) (by decide +kernel) (pa_cons (pv 3) pa_nil)) pa_nil))))
      (pss_cons (ps_set (i := 4) sc__law_box.nd rfl (by first | exact Or.inl rfl | exact Or.inr rfl) (pe_op op_add pe_int (pe_op op_mul pe_int (pv 1))))
      (pss_cons (ps_for PassesOwn.never rfl (pi_seq (pv 2)) (pg_name (i := 3) sc__law_box.nd rfl (by first | exact Or.inl rfl | exact Or.inr rfl)) (pss_one (ps_set (i := 4) sc__law_box.nd rfl (by first | exact Or.inl rfl | exact Or.inr rfl) (pe_op op_mod (pe_callTy call_int1 (by rfl) (S.free 40) (by decide +kernel) (pa_cons (pe_op op_add (pe_op op_add (pe_op op_mul (pv 4) pe_int) (pe_op op_mod (pe_callTy call_int1 (by rfl) (S.free 40) (by decide +kernel) (pa_cons (pv 3) pa_nil)) pe_int)) pe_int) pa_nil)) pe_int))))
      (pss_one (ps_ret (pe_lst (pa_cons (pe_lc (own := [("cell", 3)]) (g := (gName 3)) rfl sc__law_box.nd (pi_seq (pv 2)) (blkOk_by (N := ["script", "salt", "cells", "cell", "blend"]) (sc := defScope s__law_box) (by decide +kernel)) (fun _ _ _ _ _ => (pg_name (i := 3) sc__law_box.nd rfl (by first | exact Or.inl rfl | exact Or.inr rfl))) (fun _ _ _ _ _ => (pts_one (pt_cmpR op_ge (pv 3) (pe_op op_pow pe_int pe_int) (nomark _)))) (fun _ _ _ _ _ => (pv 3))) (pa_cons (pv 4) pa_nil)))))))), ?_⟩
    try simp only [wipe, tC, tVar, tChain, rI0, rI, rU, tOp, tUn, tCall, tAnd, tOr, tNot, tNotV, tAndV, tOrV, tTest, tB, tIf, tIfS, tRet, tRetN, tNext, tSeq, tNil, tCons, tAug, ipI, tPar, tAsg, gName, tDrop, tLst, tTup, tCB, tBM, tBM0, tFld_eq, tMkE, tMake, tAugS, gSub, rEq, rAll, rMax, rSum, rAppend, rExtend, rSetL, _root_.L2.start, List.map_cons, List.map_nil, List.length_cons, List.length_nil, List.replicate_succ, List.replicate_zero, List.cons_append, List.nil_append, List.append_nil, List.getElem?_cons_zero, List.getElem?_cons_succ, List.set_cons_zero, List.set_cons_succ, Nat.reduceAdd, Nat.reduceSub, V.int.injEq, V.bl.injEq, V.ref.injEq, V.str.injEq, exists_eq, exists_eq', exists_eq_left, exists_eq_left', exists_and_left, exists_and_right, Option.some.injEq, List.cons.injEq, and_true, true_and, and_assoc, retV, true_or, or_true, decide_eq_true_eq, if_true, if_false, Bool.false_eq_true, Bool.not_true, Bool.not_false, Bool.not_eq_true', reduceCtorEq, eq_self, decide_true, decide_false, List.length_map, exists_const, false_and, and_false, or_false, false_or, ↓reduceIte]
    rw [lc_call]
    try simp only [wipe, tC, tVar, tChain, rI0, rI, rU, tOp, tUn, tCall, tAnd, tOr, tNot, tNotV, tAndV, tOrV, tTest, tB, tIf, tIfS, tRet, tRetN, tNext, tSeq, tNil, tCons, tAug, ipI, tPar, tAsg, gName, tDrop, tLst, tTup, tCB, tBM, tBM0, tFld_eq, tMkE, tMake, tAugS, gSub, rEq, rAll, rMax, rSum, rAppend, rExtend, rSetL, _root_.L2.start, List.map_cons, List.map_nil, List.length_cons, List.length_nil, List.replicate_succ, List.replicate_zero, List.cons_append, List.nil_append, List.append_nil, List.getElem?_cons_zero, List.getElem?_cons_succ, List.set_cons_zero, List.set_cons_succ, Nat.reduceAdd, Nat.reduceSub, V.int.injEq, V.bl.injEq, V.ref.injEq, V.str.injEq, exists_eq, exists_eq', exists_eq_left, exists_eq_left', exists_and_left, exists_and_right, Option.some.injEq, List.cons.injEq, and_true, true_and, and_assoc, retV, true_or, or_true, decide_eq_true_eq, if_true, if_false, Bool.false_eq_true, Bool.not_true, Bool.not_false, Bool.not_eq_true', reduceCtorEq, eq_self, decide_true, decide_false, List.length_map, exists_const, false_and, and_false, or_false, false_or, tSl, tPart, tNoPart, ↓reduceIte]
    refine ⟨a, _, rfl, ha, fun p np => ?_⟩
    have ec : cutV (xs.map V.int) none (some ((60 : Nat) : Int)) = (xs.take 60).map V.int := by
      unfold cutV
      rw [cut_take, List.map_take]
    have ec' : cutV (xs.map V.int) none (some (60 : Int)) = (xs.take 60).map V.int := ec
    rw [ec']
    have l60 : (xs.take 60).length ≤ 60 := by rw [List.length_take]; omega
    have e1 : Same H (upd H p (.lst ((xs.take 60).map V.int))) := same_new np
    refine lc_map (gives_sq (fun Q h => h) (.inl upd_same)) (Box.none (A := No) (fun _ z => z.elim)) (fun H' e => by rw [e.same _ _ upd_same, upd_same]) (by rw [List.length_map]; exact Nat.le_trans l60 (by decide)) (fun x => rfl) fam_in (xs.take 60) (by simp) (fun i => if i < 0 then -i else i) (fun n y o H6 D6 N6 hy ho e6 _ _ hN6 => ?_) fun zs H2 C e2 _ nC _ hC hpC => ?_
    · rw [List.getElem?_map, ho] at hy
      obtain rfl := Option.some.inj hy
      try simp only [wipe, tC, tVar, tChain, rI0, rI, rU, tOp, tUn, tCall, tAnd, tOr, tNot, tNotV, tAndV, tOrV, tTest, tB, tIf, tIfS, tRet, tRetN, tNext, tSeq, tNil, tCons, tAug, ipI, tPar, tAsg, gName, tDrop, tLst, tTup, tCB, tBM, tBM0, tFld_eq, tMkE, tMake, tAugS, gSub, rEq, rAll, rMax, rSum, rAppend, rExtend, rSetL, _root_.L2.start, List.map_cons, List.map_nil, List.length_cons, List.length_nil, List.replicate_succ, List.replicate_zero, List.cons_append, List.nil_append, List.append_nil, List.getElem?_cons_zero, List.getElem?_cons_succ, List.set_cons_zero, List.set_cons_succ, Nat.reduceAdd, Nat.reduceSub, V.int.injEq, V.bl.injEq, V.ref.injEq, V.str.injEq, exists_eq, exists_eq', exists_eq_left, exists_eq_left', exists_and_left, exists_and_right, Option.some.injEq, List.cons.injEq, and_true, true_and, and_assoc, retV, true_or, or_true, decide_eq_true_eq, if_true, if_false, Bool.false_eq_true, Bool.not_true, Bool.not_false, Bool.not_eq_true', reduceCtorEq, eq_self, decide_true, decide_false, List.length_map, exists_const, false_and, and_false, or_false, false_or, ↓reduceIte]
      exact hN6 _ _ (SameO.refl _ _) trivial rfl
    · obtain rfl := ina_eq hpC
      have e02 := e1.trans e2.same
      generalize hcs : (xs.take 60).map (fun i => if i < 0 then -i else i) = cs at hC
      have lcs : cs.length ≤ 60 := by rw [← hcs, List.length_map]; exact l60
      have pos : ∀ x ∈ cs, 0 ≤ x := fun x hx => by
        rw [← hcs] at hx
        obtain ⟨i, _, rfl⟩ := List.mem_map.1 hx
        show 0 ≤ (if i < 0 then -i else i)
        split <;> omega
      try simp only [wipe, tC, tVar, tChain, rI0, rI, rU, tOp, tUn, tCall, tAnd, tOr, tNot, tNotV, tAndV, tOrV, tTest, tB, tIf, tIfS, tRet, tRetN, tNext, tSeq, tNil, tCons, tAug, ipI, tPar, tAsg, gName, tDrop, tLst, tTup, tCB, tBM, tBM0, tFld_eq, tMkE, tMake, tAugS, gSub, rEq, rAll, rMax, rSum, rAppend, rExtend, rSetL, _root_.L2.start, List.map_cons, List.map_nil, List.length_cons, List.length_nil, List.replicate_succ, List.replicate_zero, List.cons_append, List.nil_append, List.append_nil, List.getElem?_cons_zero, List.getElem?_cons_succ, List.set_cons_zero, List.set_cons_succ, Nat.reduceAdd, Nat.reduceSub, V.int.injEq, V.bl.injEq, V.ref.injEq, V.str.injEq, exists_eq, exists_eq', exists_eq_left, exists_eq_left', exists_and_left, exists_and_right, Option.some.injEq, List.cons.injEq, and_true, true_and, and_assoc, retV, true_or, or_true, decide_eq_true_eq, if_true, if_false, Bool.false_eq_true, Bool.not_true, Bool.not_false, Bool.not_eq_true', reduceCtorEq, eq_self, decide_true, decide_false, List.length_map, exists_const, false_and, and_false, or_false, false_or, ↓reduceIte]
      refine ⟨.inl ⟨by decide, by decide⟩, ?_⟩
      refine for_go (gives_sq (fun Q h => ⟨_, rfl, h⟩) (.inl hC)) (fun i σ H' => (∃ u st, σ = [some (.ref a), some (.int sa), some (.ref C), u, some (.int st)] ∧ 0 ≤ st ∧ st < 2147483647) ∧ Same H2 H') ⟨⟨_, _, rfl, by omega, by omega⟩, Same.refl _⟩ (fun i σ H' _ h => ?_) (fun i y σ H3 hi hy h => ?_) (fun σ H3 h => ?_)
      · rw [h.2 _ _ hC, hC]
      · obtain ⟨⟨u, st, rfl, t0, t1⟩, e3⟩ := h
        rw [List.length_map] at hi
        rw [List.getElem?_map, List.getElem?_eq_getElem hi] at hy
        obtain rfl := Option.some.inj hy
        try simp only [wipe, tC, tVar, tChain, rI0, rI, rU, tOp, tUn, tCall, tAnd, tOr, tNot, tNotV, tAndV, tOrV, tTest, tB, tIf, tIfS, tRet, tRetN, tNext, tSeq, tNil, tCons, tAug, ipI, tPar, tAsg, gName, tDrop, tLst, tTup, tCB, tBM, tBM0, tFld_eq, tMkE, tMake, tAugS, gSub, rEq, rAll, rMax, rSum, rAppend, rExtend, rSetL, _root_.L2.start, List.map_cons, List.map_nil, List.length_cons, List.length_nil, List.replicate_succ, List.replicate_zero, List.cons_append, List.nil_append, List.append_nil, List.getElem?_cons_zero, List.getElem?_cons_succ, List.set_cons_zero, List.set_cons_succ, Nat.reduceAdd, Nat.reduceSub, V.int.injEq, V.bl.injEq, V.ref.injEq, V.str.injEq, exists_eq, exists_eq', exists_eq_left, exists_eq_left', exists_and_left, exists_and_right, Option.some.injEq, List.cons.injEq, and_true, true_and, and_assoc, retV, true_or, or_true, decide_eq_true_eq, if_true, if_false, Bool.false_eq_true, Bool.not_true, Bool.not_false, Bool.not_eq_true', reduceCtorEq, eq_self, decide_true, decide_false, List.length_map, exists_const, false_and, and_false, or_false, false_or, ↓reduceIte]
        exact ⟨.inr ⟨by decide, by decide⟩, by decide, by decide, Int.emod_nonneg _ (by decide), Int.emod_lt_of_pos _ (by decide), e3⟩
      · obtain ⟨⟨u, st, rfl, t0, t1⟩, e3⟩ := h
        have hC3 := e3 _ _ hC
        try simp only [wipe, tC, tVar, tChain, rI0, rI, rU, tOp, tUn, tCall, tAnd, tOr, tNot, tNotV, tAndV, tOrV, tTest, tB, tIf, tIfS, tRet, tRetN, tNext, tSeq, tNil, tCons, tAug, ipI, tPar, tAsg, gName, tDrop, tLst, tTup, tCB, tBM, tBM0, tFld_eq, tMkE, tMake, tAugS, gSub, rEq, rAll, rMax, rSum, rAppend, rExtend, rSetL, _root_.L2.start, List.map_cons, List.map_nil, List.length_cons, List.length_nil, List.replicate_succ, List.replicate_zero, List.cons_append, List.nil_append, List.append_nil, List.getElem?_cons_zero, List.getElem?_cons_succ, List.set_cons_zero, List.set_cons_succ, Nat.reduceAdd, Nat.reduceSub, V.int.injEq, V.bl.injEq, V.ref.injEq, V.str.injEq, exists_eq, exists_eq', exists_eq_left, exists_eq_left', exists_and_left, exists_and_right, Option.some.injEq, List.cons.injEq, and_true, true_and, and_assoc, retV, true_or, or_true, decide_eq_true_eq, if_true, if_false, Bool.false_eq_true, Bool.not_true, Bool.not_false, Bool.not_eq_true', reduceCtorEq, eq_self, decide_true, decide_false, List.length_map, exists_const, false_and, and_false, or_false, false_or, ↓reduceIte]
        refine lc_acc (gives_sq (fun Q h => ⟨_, rfl, h⟩) (.inl hC3)) (Box.none (A := Old H3) (fun _ z => z)) (fun H' e => by rw [e.same _ _ hC3, hC3]) (by rw [List.length_map]; exact Nat.le_trans lcs (by decide))
          (fun A k acc H' => ∃ l : List Int, acc = l.map V.int ∧ l.length ≤ k ∧ ∀ x ∈ l, 0 ≤ x) (fun _ _ => ⟨[], rfl, Nat.le_refl _, fun x z => absurd z List.not_mem_nil⟩) (fun _ h => h) (fun _ h => h)
          (fun k y acc H' D N N0 hk hy e _ hA hI hN hN0 => ?_) fun acc H4 D e4 _ nD nA hD hI => ?_
        · rw [List.length_map] at hk
          rw [List.getElem?_map, List.getElem?_eq_getElem hk] at hy
          obtain rfl := Option.some.inj hy
          obtain ⟨l, rfl, l1, l2⟩ := hI
          refine ⟨rfl, ?_⟩
          try simp only [wipe, tC, tVar, tChain, rI0, rI, rU, tOp, tUn, tCall, tAnd, tOr, tNot, tNotV, tAndV, tOrV, tTest, tB, tIf, tIfS, tRet, tRetN, tNext, tSeq, tNil, tCons, tAug, ipI, tPar, tAsg, gName, tDrop, tLst, tTup, tCB, tBM, tBM0, tFld_eq, tMkE, tMake, tAugS, gSub, rEq, rAll, rMax, rSum, rAppend, rExtend, rSetL, _root_.L2.start, List.map_cons, List.map_nil, List.length_cons, List.length_nil, List.replicate_succ, List.replicate_zero, List.cons_append, List.nil_append, List.append_nil, List.getElem?_cons_zero, List.getElem?_cons_succ, List.set_cons_zero, List.set_cons_succ, Nat.reduceAdd, Nat.reduceSub, V.int.injEq, V.bl.injEq, V.ref.injEq, V.str.injEq, exists_eq, exists_eq', exists_eq_left, exists_eq_left', exists_and_left, exists_and_right, Option.some.injEq, List.cons.injEq, and_true, true_and, and_assoc, retV, true_or, or_true, decide_eq_true_eq, if_true, if_false, Bool.false_eq_true, Bool.not_true, Bool.not_false, Bool.not_eq_true', reduceCtorEq, eq_self, decide_true, decide_false, List.length_map, exists_const, false_and, and_false, or_false, false_or, ↓reduceIte]
          refine ⟨⟨by decide, by decide, by decide⟩, ?_⟩
          by_cases h18 : (10 : Int) ^ (18 : Int).toNat ≤ cs[k]
          · rw [if_pos h18]
            refine hN _ _ (SameO.refl _ _) trivial ⟨l ++ [cs[k]], by rw [List.map_append]; rfl, by rw [List.length_append]; simp; omega, fun x hx => ?_⟩
            rw [List.mem_append, List.mem_singleton] at hx
            rcases hx with hx | hx
            · exact l2 x hx
            · rw [hx]
              exact pos _ (List.getElem_mem hk)
          · rw [if_neg h18]
            exact hN0 _ (SameO.refl _ _) trivial ⟨l, rfl, by omega, l2⟩
        · obtain ⟨l, rfl, l1, l2⟩ := hI
          rw [List.length_map] at l1
          try simp only [wipe, tC, tVar, tChain, rI0, rI, rU, tOp, tUn, tCall, tAnd, tOr, tNot, tNotV, tAndV, tOrV, tTest, tB, tIf, tIfS, tRet, tRetN, tNext, tSeq, tNil, tCons, tAug, ipI, tPar, tAsg, gName, tDrop, tLst, tTup, tCB, tBM, tBM0, tFld_eq, tMkE, tMake, tAugS, gSub, rEq, rAll, rMax, rSum, rAppend, rExtend, rSetL, _root_.L2.start, List.map_cons, List.map_nil, List.length_cons, List.length_nil, List.replicate_succ, List.replicate_zero, List.cons_append, List.nil_append, List.append_nil, List.getElem?_cons_zero, List.getElem?_cons_succ, List.set_cons_zero, List.set_cons_succ, Nat.reduceAdd, Nat.reduceSub, V.int.injEq, V.bl.injEq, V.ref.injEq, V.str.injEq, exists_eq, exists_eq', exists_eq_left, exists_eq_left', exists_and_left, exists_and_right, Option.some.injEq, List.cons.injEq, and_true, true_and, and_assoc, retV, true_or, or_true, decide_eq_true_eq, if_true, if_false, Bool.false_eq_true, Bool.not_true, Bool.not_false, Bool.not_eq_true', reduceCtorEq, eq_self, decide_true, decide_false, List.length_map, exists_const, false_and, and_false, or_false, false_or, ↓reduceIte]
          refine ⟨by decide, fun b nb => ?_⟩
          have e5 := same_new (o := .lst [V.ref D, .int st]) nb
          have nbD : b ≠ D := fun z => by rw [z, hD] at nb; cases nb
          exact q b D _ (e02.trans (e3.trans (e4.same.trans e5))) ⟨nbD, l, st, upd_same, e5 _ _ hD, l2, by omega, t0, t1⟩
end
end K78
set_option Elab.async false
set_option linter.all false
set_option maxRecDepth 100000
set_option maxHeartbeats 4000000
/-! k78: _law_gaps_of -/
namespace K78
open PySem PySem.Spec PyProof.Rows L2 He HK
/-- what a cell finds above it on its line -/
def up1 (c d : List Int) : List Int := if d.getD 1 0 = c.getD 1 0 ∧ c.getD 0 0 < d.getD 0 0 then [c.getD 0 0 - d.getD 0 0 + 1] else []
def hitL (c : List Int) (ds : List (List Int)) : List Int := ds.flatMap (up1 c)
def fndL (B : List (List (List Int))) (k o : Nat) : List Int := if k = o then [0] else (B.getD k []).flatMap fun c => hitL c (B.getD o [])
def IsMx (l : List Int) : Option Int → Prop
  | none => l = []
  | some g => g ∈ l ∧ ∀ y ∈ l, y ≤ g
def RowMx (B : List (List (List Int))) (k : Nat) (row : List (Option Int)) : Prop := ∀ (o : Nat) (g : Option Int), row[o]? = some g → IsMx (fndL B k o) g
/-- the gaps by the law's own look -/
def LawG (B : List (List (List Int))) (R : GR) : Prop := R.length = B.length ∧ ∀ (k : Nat) (row : List (Option Int)), R[k]? = some row → row.length = B.length ∧ RowMx B k row
theorem up1_le (c d : List Int) : (up1 c d).length ≤ 1 := by unfold up1; split <;> simp
theorem flat_le {α β : Type} (f : α → List β) (k : Nat) : ∀ l : List α, (∀ x ∈ l, (f x).length ≤ k) → (l.flatMap f).length ≤ l.length * k
  | [], _ => by simp
  | x :: l, h => by
    rw [List.flatMap_cons, List.length_append, List.length_cons, Nat.succ_mul]
    have h1 := h x List.mem_cons_self
    have h2 := flat_le f k l fun y hy => h y (List.mem_cons_of_mem _ hy)
    omega
theorem hitL_le (c : List Int) (ds : List (List Int)) : (hitL c ds).length ≤ ds.length := by
  have := flat_le (up1 c) 1 ds fun d _ => up1_le c d
  unfold hitL
  omega
/-- t[1:] of a pair -/
theorem sl_one {K : PySem.W.Frag} {H : Hp} {Q : VK} {t : Addr} {x y : Int} (h : H t = some (.tup [.int x, .int y])) (q : ∀ p H', Same H H' → H' p = some (.tup [.int y]) → Q (.ref p) H') : rSlA K (.ref t) (some (1 : Int)) none H Q :=
  sl_drop (a := 1) h fun p H' e hp => q p H' e hp
theorem eq_one {K : PySem.W.Frag} {H : Hp} {Q : VK} {p q : Addr} {x y : Int} (hp : H p = some (.tup [.int x])) (hq : H q = some (.tup [.int y])) (k : Q (.bl (decide (x = y))) H) : rEqD K (.ref p) (.ref q) H Q := by
  have sh : ∀ z : Int, SeqAt.shaped (.tuple [.int z]) = true := fun z => by
    unfold SeqAt.shaped
    simp only [PyData.canLay0, PyData.canLayAll0, PyData.depth, PyData.depthAll]
    rfl
  refine ⟨.tuple [.int x], .tuple [.int y], .tup (sqT_of hp) (.cons (.int x) .nil), .tup (sqT_of hq) (.cons (.int y) .nil), sh x, sh y, ?_⟩
  have : PyData.eqv (.tuple [.int x]) (.tuple [.int y]) = decide (x = y) := by
    simp [PyData.eqv, PyData.eqvAll]
    try rw [Bool.eq_iff_iff]
    try simp
  rw [this]
  exact k
/-- [0] or [] -/
theorem if_found {σ : L2.St} {i j : Nat} {k o : Nat} {H : Hp} {Q : VK} (h2 : σ[i]? = some (some (.int (k : Nat)))) (h4 : σ[j]? = some (some (.int (o : Nat))))
    (q : ∀ p, H p = none → Q (.ref p) (upd H p (.lst ((if k = o then [0] else [] : List Int).map V.int)))) : tIf (tTest (tOp rEq (tVar i) (tVar j))) (tLst (tCons (tC (.int 0)) tNil)) (tLst tNil) σ H Q := by
  refine ⟨_, h2, _, h4, ?_⟩
  simp only [rEq, scal, true_and]
  by_cases e : k = o
  · subst e
    refine ⟨true, by simp, ?_⟩
    simp only [if_true] at q ⊢
    exact ⟨by decide, q⟩
  · refine ⟨false, by simp; omega, ?_⟩
    rw [if_neg e] at q
    exact ⟨by decide, q⟩
def sp_law_gaps_of : Sp := fun vs H Q _ => ∃ (v : V) (B : List (List (List Int))), vs = [v] ∧ SqF (TpF (TpF InA)) No H v B ∧ B.length ≤ 12 ∧ (∀ b ∈ B, b.length ≤ 60 ∧ ∀ c ∈ b, c.length = 2) ∧ ∀ t H' R, Same H H' → TpF (TpF OnA) No H' t R → LawG B R → Q t H'
section
variable {w : World} {K : PySem.W.Frag} {mg : Str → Option Value} {base : Heap}
theorem C__law_gaps_of (S : Sc K mg) : Cal prg w K mg base CX0 "_law_gaps_of" 1 ["bodies"] [] sp_law_gaps_of := by
  refine S.cal (d := d__law_gaps_of) 32 28 sc__law_gaps_of rfl rfl rfl rfl rfl (fun _ _ _ _ _ _ us hl => match us, hl with | [_], _ => rfl) (fun vs H Q E h => ?_) (fun f cdv A outer s H vs Q E hr h => ?_)
  · obtain ⟨v, B, rfl, _⟩ := h
    rfl
  · obtain ⟨_, B, rfl, ⟨a, bs, rfl, _, ha, hp⟩, B12, hB, q⟩ := h
    refine ⟨_, (pss_cons (ps_set (i := 1) sc__law_gaps_of.nd rfl (by first | exact Or.inl rfl | exact Or.inr rfl) (pe_lst pa_nil))
      (pss_cons (ps_for PassesOwn.never rfl (pi_range1 rfl (S.free 46) (pa_cons (pe_callB cr_lenA (by rfl) (S.free 42) (by decide +kernel) (pa_cons (pv 0) pa_nil)) pa_nil)) (pg_name (i := 2) sc__law_gaps_of.nd rfl (by first | exact Or.inl rfl | exact Or.inr rfl)) (pss_cons (ps_set (i := 3) sc__law_gaps_of.nd rfl (by first | exact Or.inl rfl | exact Or.inr rfl) (pe_lst pa_nil))
      (pss_cons (ps_for PassesOwn.never rfl (pi_range1 rfl (S.free 46) (pa_cons (pe_callB cr_lenA (by rfl) (S.free 42) (by decide +kernel) (pa_cons (pv 0) pa_nil)) pa_nil)) (pg_name (i := 4) sc__law_gaps_of.nd rfl (by first | exact Or.inl rfl | exact Or.inr rfl)) (pss_cons (ps_set (i := 5) sc__law_gaps_of.nd rfl (by first | exact Or.inl rfl | exact Or.inr rfl) (pe_ifExp (pt_cmpR op_eq (pv 2) (pv 4) (nomark _)) (pe_lst (pa_cons pe_int pa_nil)) (pe_lst pa_nil)))
      (pss_cons (ps_for PassesOwn.never rfl (pi_seq (pe_ix ix_seq (pv 0) (pv 2) (fun _ _ => rfl))) (pg_name (i := 6) sc__law_gaps_of.nd rfl (by first | exact Or.inl rfl | exact Or.inr rfl)) (pss_one (ps_for PassesOwn.never rfl (pi_seq (pe_ifExp (pt_cmpR op_ne (pv 2) (pv 4) (nomark _)) (pe_ix ix_seq (pv 0) (pv 4) (fun _ _ => rfl)) (pe_tup pa_nil))) (pg_name (i := 7) sc__law_gaps_of.nd rfl (by first | exact Or.inl rfl | exact Or.inr rfl)) (pss_one (ps_if (PW.pt (pw_and (pt_cmpR (op_eqD hr.units) (pe_slice sl_tupA (pv 7) (po_some pe_int) po_none) (pe_slice sl_tupA (pv 6) (po_some pe_int) po_none) (nomark _)) (pw_and1 (pt_cmpR op_gt (pe_ix ix_tup (pv 7) pe_int (fun _ _ => rfl)) (pe_ix ix_tup (pv 6) pe_int (fun _ _ => rfl)) (nomark _))))) (pss_one (ps_expr (pe_bm PySem.F.plainAttrs_list PySem.F.slot_list_append PySem.F.type_list_append mt_append (pv 5) (pa_cons (pe_op op_add (pe_op op_sub (pe_ix ix_tup (pv 6) pe_int (fun _ _ => rfl)) (pe_ix ix_tup (pv 7) pe_int (fun _ _ => rfl))) pe_int) pa_nil)))) pss_nil)))))
      (pss_one (ps_expr (pe_bm PySem.F.plainAttrs_list PySem.F.slot_list_append PySem.F.type_list_append mt_append (pv 3) (pa_cons (pe_ifExp (pt_cmpR (op_neD hr.units) (pv 5) (pe_lst pa_nil) (nomark _)) (pe_callB (cr_max rfl) (by rfl) (S.free 44) (by decide +kernel) (pa_cons (pv 5) pa_nil)) pe_non) pa_nil)))))))
      (pss_one (ps_expr (pe_bm PySem.F.plainAttrs_list PySem.F.slot_list_append PySem.F.type_list_append mt_append (pv 1) (pa_cons (pe_callTy cr_tupA (by rfl) (S.free 50) (by decide +kernel) (pa_cons (pv 3) pa_nil)) pa_nil)))))))
      (pss_one (ps_ret (pe_callTy cr_tupA (by rfl) (S.free 50) (by decide +kernel) (pa_cons (pv 1) pa_nil)))))), ?_⟩
    have hl : bs.length = B.length := Paired.len hp
    try simp only [wipe, tC, tVar, tChain, rI0, rI, rU, tOp, tUn, tCall, tAnd, tOr, tNot, tNotV, tAndV, tOrV, tTest, tB, tIf, tIfS, tRet, tRetN, tNext, tSeq, tNil, tCons, tAug, ipI, tPar, tAsg, gName, tDrop, tLst, tTup, tCB, tBM, tBM0, tFld_eq, tMkE, tMake, tAugS, gSub, rEq, rAll, rMax, rSum, rAppend, rExtend, rSetL, _root_.L2.start, List.map_cons, List.map_nil, List.length_cons, List.length_nil, List.replicate_succ, List.replicate_zero, List.cons_append, List.nil_append, List.append_nil, List.getElem?_cons_zero, List.getElem?_cons_succ, List.set_cons_zero, List.set_cons_succ, Nat.reduceAdd, Nat.reduceSub, V.int.injEq, V.bl.injEq, V.ref.injEq, V.str.injEq, exists_eq, exists_eq', exists_eq_left, exists_eq_left', exists_and_left, exists_and_right, Option.some.injEq, List.cons.injEq, and_true, true_and, and_assoc, retV, true_or, or_true, decide_eq_true_eq, if_true, if_false, Bool.false_eq_true, Bool.not_true, Bool.not_false, Bool.not_eq_true', reduceCtorEq, eq_self, decide_true, decide_false, List.length_map, exists_const, false_and, and_false, or_false, false_or, ↓reduceIte]
    refine ⟨by decide, fun F nF => ?_⟩
    have e0 : Same H (upd H F (.lst [])) := same_new nF
    refine for_go (gives_rng1 (j := B.length) (fun Q h => ?_)) (fun k σ H' => (∃ u2 u3 u4 u5 u6 u7, σ = [some (.ref a), some (.ref F), u2, u3, u4, u5, u6, u7]) ∧ Same H H' ∧
        ∃ vs Rr, H' F = some (.lst vs) ∧ Paired (TpF OnA No H') vs Rr ∧ Rr.length = k ∧ ∀ (i : Nat) (row : List (Option Int)), Rr[i]? = some row → row.length = B.length ∧ RowMx B i row)
      ⟨⟨_, _, _, _, _, _, rfl⟩, e0, [], [], upd_same, .nil, rfl, fun i row z => by cases z⟩ (fun _ _ _ _ _ => trivial) (fun k y σ H1 hk hy h => ?_) (fun σ H1 h => ?_)
    · try simp only [wipe, tC, tVar, tChain, rI0, rI, rU, tOp, tUn, tCall, tAnd, tOr, tNot, tNotV, tAndV, tOrV, tTest, tB, tIf, tIfS, tRet, tRetN, tNext, tSeq, tNil, tCons, tAug, ipI, tPar, tAsg, gName, tDrop, tLst, tTup, tCB, tBM, tBM0, tFld_eq, tMkE, tMake, tAugS, gSub, rEq, rAll, rMax, rSum, rAppend, rExtend, rSetL, _root_.L2.start, List.map_cons, List.map_nil, List.length_cons, List.length_nil, List.replicate_succ, List.replicate_zero, List.cons_append, List.nil_append, List.append_nil, List.getElem?_cons_zero, List.getElem?_cons_succ, List.set_cons_zero, List.set_cons_succ, Nat.reduceAdd, Nat.reduceSub, V.int.injEq, V.bl.injEq, V.ref.injEq, V.str.injEq, exists_eq, exists_eq', exists_eq_left, exists_eq_left', exists_and_left, exists_and_right, Option.some.injEq, List.cons.injEq, and_true, true_and, and_assoc, retV, true_or, or_true, decide_eq_true_eq, if_true, if_false, Bool.false_eq_true, Bool.not_true, Bool.not_false, Bool.not_eq_true', reduceCtorEq, eq_self, decide_true, decide_false, List.length_map, exists_const, false_and, and_false, or_false, false_or, ↓reduceIte]
      rw [← hl] at h
      exact len_sq (ha.same e0) h
    · obtain ⟨⟨u2, u3, u4, u5, u6, u7, rfl⟩, e1, vs, Rr, hF, hR, lR, gR⟩ := h
      rw [rngV_len, Int.toNat_natCast] at hk
      rw [Int.toNat_natCast, rngV_get hk, Int.zero_add] at hy
      obtain rfl := Option.some.inj hy
      try simp only [wipe, tC, tVar, tChain, rI0, rI, rU, tOp, tUn, tCall, tAnd, tOr, tNot, tNotV, tAndV, tOrV, tTest, tB, tIf, tIfS, tRet, tRetN, tNext, tSeq, tNil, tCons, tAug, ipI, tPar, tAsg, gName, tDrop, tLst, tTup, tCB, tBM, tBM0, tFld_eq, tMkE, tMake, tAugS, gSub, rEq, rAll, rMax, rSum, rAppend, rExtend, rSetL, _root_.L2.start, List.map_cons, List.map_nil, List.length_cons, List.length_nil, List.replicate_succ, List.replicate_zero, List.cons_append, List.nil_append, List.append_nil, List.getElem?_cons_zero, List.getElem?_cons_succ, List.set_cons_zero, List.set_cons_succ, Nat.reduceAdd, Nat.reduceSub, V.int.injEq, V.bl.injEq, V.ref.injEq, V.str.injEq, exists_eq, exists_eq', exists_eq_left, exists_eq_left', exists_and_left, exists_and_right, Option.some.injEq, List.cons.injEq, and_true, true_and, and_assoc, retV, true_or, or_true, decide_eq_true_eq, if_true, if_false, Bool.false_eq_true, Bool.not_true, Bool.not_false, Bool.not_eq_true', reduceCtorEq, eq_self, decide_true, decide_false, List.length_map, exists_const, false_and, and_false, or_false, false_or, ↓reduceIte]
      refine ⟨by decide, fun G nG => ?_⟩
      have e2 : Same H1 (upd H1 G (.lst [])) := same_new nG
      refine for_go (gives_rng1 (j := B.length) (fun Q h => ?_)) (fun o σ H' => (∃ u4 u5 u6 u7, σ = [some (.ref a), some (.ref F), some (.int (k : Nat)), some (.ref G), u4, u5, u6, u7]) ∧ Same H1 H' ∧
          ∃ row : List (Option Int), H' G = some (.lst (row.map ov)) ∧ row.length = o ∧ RowMx B k row)
        ⟨⟨_, _, _, _, rfl⟩, e2, [], upd_same, rfl, fun i g z => by cases z⟩ (fun _ _ _ _ _ => trivial) (fun o y σ H2 ho hy h => ?_) (fun σ H2 h => ?_)
      · try simp only [wipe, tC, tVar, tChain, rI0, rI, rU, tOp, tUn, tCall, tAnd, tOr, tNot, tNotV, tAndV, tOrV, tTest, tB, tIf, tIfS, tRet, tRetN, tNext, tSeq, tNil, tCons, tAug, ipI, tPar, tAsg, gName, tDrop, tLst, tTup, tCB, tBM, tBM0, tFld_eq, tMkE, tMake, tAugS, gSub, rEq, rAll, rMax, rSum, rAppend, rExtend, rSetL, _root_.L2.start, List.map_cons, List.map_nil, List.length_cons, List.length_nil, List.replicate_succ, List.replicate_zero, List.cons_append, List.nil_append, List.append_nil, List.getElem?_cons_zero, List.getElem?_cons_succ, List.set_cons_zero, List.set_cons_succ, Nat.reduceAdd, Nat.reduceSub, V.int.injEq, V.bl.injEq, V.ref.injEq, V.str.injEq, exists_eq, exists_eq', exists_eq_left, exists_eq_left', exists_and_left, exists_and_right, Option.some.injEq, List.cons.injEq, and_true, true_and, and_assoc, retV, true_or, or_true, decide_eq_true_eq, if_true, if_false, Bool.false_eq_true, Bool.not_true, Bool.not_false, Bool.not_eq_true', reduceCtorEq, eq_self, decide_true, decide_false, List.length_map, exists_const, false_and, and_false, or_false, false_or, ↓reduceIte]
        rw [← hl] at h
        exact len_sq (ha.same (e1.trans e2)) h
      · obtain ⟨⟨u4, u5, u6, u7, rfl⟩, e12, row, hG, lrow, grow⟩ := h
        rw [rngV_len, Int.toNat_natCast] at ho
        rw [Int.toNat_natCast, rngV_get ho, Int.zero_add] at hy
        obtain rfl := Option.some.inj hy
        obtain ⟨vb, hvb⟩ := getI (xs := bs) (i := k) (by omega)
        obtain ⟨vo, hvo⟩ := getI (xs := bs) (i := o) (by omega)
        obtain ⟨cs, hcs, ab, xb, rfl, hab, hxb⟩ := Paired.at hp hvb
        obtain ⟨ds, hds, ao, xo, rfl, hao, hxo⟩ := Paired.at hp hvo
        have gcs : B.getD k [] = cs := by simp [List.getD, hcs]
        have gds : B.getD o [] = ds := by simp [List.getD, hds]
        obtain ⟨c60, c2⟩ := hB cs (List.mem_of_getElem? hcs)
        obtain ⟨d60, d2⟩ := hB ds (List.mem_of_getElem? hds)
        have e02 := e1.trans e12
        refine if_found (i := 2) (j := 4) (k := k) (o := o) rfl rfl fun M nM => ?_
        try simp only [wipe, tC, tVar, tChain, rI0, rI, rU, tOp, tUn, tCall, tAnd, tOr, tNot, tNotV, tAndV, tOrV, tTest, tB, tIf, tIfS, tRet, tRetN, tNext, tSeq, tNil, tCons, tAug, ipI, tPar, tAsg, gName, tDrop, tLst, tTup, tCB, tBM, tBM0, tFld_eq, tMkE, tMake, tAugS, gSub, rEq, rAll, rMax, rSum, rAppend, rExtend, rSetL, _root_.L2.start, List.map_cons, List.map_nil, List.length_cons, List.length_nil, List.replicate_succ, List.replicate_zero, List.cons_append, List.nil_append, List.append_nil, List.getElem?_cons_zero, List.getElem?_cons_succ, List.set_cons_zero, List.set_cons_succ, Nat.reduceAdd, Nat.reduceSub, V.int.injEq, V.bl.injEq, V.ref.injEq, V.str.injEq, exists_eq, exists_eq', exists_eq_left, exists_eq_left', exists_and_left, exists_and_right, Option.some.injEq, List.cons.injEq, and_true, true_and, and_assoc, retV, true_or, or_true, decide_eq_true_eq, if_true, if_false, Bool.false_eq_true, Bool.not_true, Bool.not_false, Bool.not_eq_true', reduceCtorEq, eq_self, decide_true, decide_false, List.length_map, exists_const, false_and, and_false, or_false, false_or, ↓reduceIte]
        have hM0 : (upd H2 M (.lst ((if k = o then [0] else [] : List Int).map V.int))) M = some (.lst ((if k = o then [0] else [] : List Int).map V.int)) := upd_same
        have e3 : Same H2 (upd H2 M (.lst ((if k = o then [0] else [] : List Int).map V.int))) := same_new nM
        generalize upd H2 M (.lst ((if k = o then [0] else [] : List Int).map V.int)) = H3 at hM0 e3
        have cs2 : ∀ c ∈ cs, (hitL c ds).length ≤ 60 := fun c _ => Nat.le_trans (hitL_le c ds) d60
        refine for_go (gives_sq (xs := xb) (a := ab) (fun Q h => ?_) (.inr ((e02.trans e3) _ _ hab))) (fun i σ H' => (∃ u6 u7, σ = [some (.ref a), some (.ref F), some (.int (k : Nat)), some (.ref G), some (.int (o : Nat)), some (.ref M), u6, u7]) ∧ Same H2 H' ∧
            H' M = some (.lst (((if k = o then [0] else [] : List Int) ++ (if k = o then [] else (cs.take i).flatMap fun c => hitL c ds)).map V.int)))
          ⟨⟨_, _, rfl⟩, e3, by rw [hM0]; simp⟩ (fun i σ H' _ h => ?_) (fun i y σ H4 hi hy h => ?_) (fun σ H4 h => ?_)
        · try simp only [wipe, tC, tVar, tChain, rI0, rI, rU, tOp, tUn, tCall, tAnd, tOr, tNot, tNotV, tAndV, tOrV, tTest, tB, tIf, tIfS, tRet, tRetN, tNext, tSeq, tNil, tCons, tAug, ipI, tPar, tAsg, gName, tDrop, tLst, tTup, tCB, tBM, tBM0, tFld_eq, tMkE, tMake, tAugS, gSub, rEq, rAll, rMax, rSum, rAppend, rExtend, rSetL, _root_.L2.start, List.map_cons, List.map_nil, List.length_cons, List.length_nil, List.replicate_succ, List.replicate_zero, List.cons_append, List.nil_append, List.append_nil, List.getElem?_cons_zero, List.getElem?_cons_succ, List.set_cons_zero, List.set_cons_succ, Nat.reduceAdd, Nat.reduceSub, V.int.injEq, V.bl.injEq, V.ref.injEq, V.str.injEq, exists_eq, exists_eq', exists_eq_left, exists_eq_left', exists_and_left, exists_and_right, Option.some.injEq, List.cons.injEq, and_true, true_and, and_assoc, retV, true_or, or_true, decide_eq_true_eq, if_true, if_false, Bool.false_eq_true, Bool.not_true, Bool.not_false, Bool.not_eq_true', reduceCtorEq, eq_self, decide_true, decide_false, List.length_map, exists_const, false_and, and_false, or_false, false_or, ↓reduceIte]
          exact ixs_at (ha.same (e02.trans e3)) hvb h
        · rw [(e02.trans h.2.1) _ _ hab, (e02.trans e3) _ _ hab]
        · obtain ⟨⟨u6, u7, rfl⟩, e4, hM⟩ := h
          obtain ⟨c, hc, tc, nc, rfl, htc, hcp⟩ := Paired.at hxb hy
          obtain rfl := ina_eq hcp
          have lc := c2 c (List.mem_of_getElem? hc)
          obtain ⟨c0, c1, rfl⟩ : ∃ x y, c = [x, y] := by
            match c, lc with
            | [x, y], _ => exact ⟨x, y, rfl⟩
          have e04 := e02.trans e4
          have icl : i < cs.length := by rw [← Paired.len hxb]; exact hi
          show tFor _ _ _ _ _ _
          rw [for_call]
          try simp only [wipe, tC, tVar, tChain, rI0, rI, rU, tOp, tUn, tCall, tAnd, tOr, tNot, tNotV, tAndV, tOrV, tTest, tB, tIf, tIfS, tRet, tRetN, tNext, tSeq, tNil, tCons, tAug, ipI, tPar, tAsg, gName, tDrop, tLst, tTup, tCB, tBM, tBM0, tFld_eq, tMkE, tMake, tAugS, gSub, rEq, rAll, rMax, rSum, rAppend, rExtend, rSetL, _root_.L2.start, List.map_cons, List.map_nil, List.length_cons, List.length_nil, List.replicate_succ, List.replicate_zero, List.cons_append, List.nil_append, List.append_nil, List.getElem?_cons_zero, List.getElem?_cons_succ, List.set_cons_zero, List.set_cons_succ, Nat.reduceAdd, Nat.reduceSub, V.int.injEq, V.bl.injEq, V.ref.injEq, V.str.injEq, exists_eq, exists_eq', exists_eq_left, exists_eq_left', exists_and_left, exists_and_right, Option.some.injEq, List.cons.injEq, and_true, true_and, and_assoc, retV, true_or, or_true, decide_eq_true_eq, if_true, if_false, Bool.false_eq_true, Bool.not_true, Bool.not_false, Bool.not_eq_true', reduceCtorEq, eq_self, decide_true, decide_false, List.length_map, exists_const, false_and, and_false, or_false, false_or, rNe, scal, ↓reduceIte]
          by_cases hko : (k : Int) = (o : Int)
          · have hko' : k = o := by omega
            rw [if_neg (by simpa using hko)]
            refine ⟨by decide, fun p np => ?_⟩
            have e5 : Same H4 (upd H4 p (.tup [])) := same_new np
            refine for_go (gives_sq (xs := []) (a := p) (fun Q h => h) (.inr upd_same)) (fun n σ H' => σ = [some (.ref a), some (.ref F), some (.int (k : Nat)), some (.ref G), some (.int (o : Nat)), some (.ref M), some (.ref tc), u7] ∧ H' = upd H4 p (.tup [])) ⟨rfl, rfl⟩ (fun n σ H' _ h => by rw [h.2]) (fun n y σ H' hn _ _ => absurd hn (Nat.not_lt_zero _)) (fun σ H' h => ?_)
            obtain ⟨rfl, rfl⟩ := h
            refine ⟨⟨_, _, rfl⟩, e4.trans e5, ?_⟩
            rw [e5 _ _ hM, if_pos hko', if_pos hko', if_pos hko']
          · have hko' : ¬k = o := by omega
            rw [if_neg hko', if_neg hko'] at hM
            rw [if_pos (by simpa using hko)]
            refine ixs_at (ha.same e04) hvo ?_
            have l1 : ((cs.take i).flatMap fun c => hitL c ds).length ≤ 3600 := by
              have h1 := flat_le (fun c => hitL c ds) 60 (cs.take i) fun c hc => cs2 c (List.mem_of_mem_take hc)
              have h2 : (cs.take i).length ≤ 60 := by rw [List.length_take]; omega
              omega
            refine for_go (gives_sq (xs := xo) (a := ao) (fun Q h => h) (.inr (e04 _ _ hao))) (fun n σ H' => (∃ u7, σ = [some (.ref a), some (.ref F), some (.int (k : Nat)), some (.ref G), some (.int (o : Nat)), some (.ref M), some (.ref tc), u7]) ∧ Same H2 H' ∧
                H' M = some (.lst (((cs.take i).flatMap (fun c => hitL c ds) ++ hitL [c0, c1] (ds.take n)).map V.int)))
              ⟨⟨_, rfl⟩, e4, by rw [hM]; simp [hitL]⟩ (fun n σ H' _ h => ?_) (fun n y σ H5 hn hy5 h => ?_) (fun σ H5 h => ?_)
            · rw [(e02.trans h.2.1) _ _ hao, e04 _ _ hao]
            · obtain ⟨⟨u7, rfl⟩, e5, hM5⟩ := h
              obtain ⟨d, hd, td, nd, rfl, htd, hdp⟩ := Paired.at hxo hy5
              obtain rfl := ina_eq hdp
              have ld := d2 d (List.mem_of_getElem? hd)
              obtain ⟨d0, d1, rfl⟩ : ∃ x y, d = [x, y] := by
                match d, ld with
                | [x, y], _ => exact ⟨x, y, rfl⟩
              have e05 := e02.trans e5
              have hstep : hitL [c0, c1] (ds.take (n + 1)) = hitL [c0, c1] (ds.take n) ++ if d1 = c1 ∧ c0 < d0 then [c0 - d0 + 1] else [] := by
                unfold hitL
                rw [List.take_succ, hd, Option.toList_some, List.flatMap_append, List.flatMap_cons, List.flatMap_nil, List.append_nil]
                rfl
              try simp only [wipe, tC, tVar, tChain, rI0, rI, rU, tOp, tUn, tCall, tAnd, tOr, tNot, tNotV, tAndV, tOrV, tTest, tB, tIf, tIfS, tRet, tRetN, tNext, tSeq, tNil, tCons, tAug, ipI, tPar, tAsg, gName, tDrop, tLst, tTup, tCB, tBM, tBM0, tFld_eq, tMkE, tMake, tAugS, gSub, rEq, rAll, rMax, rSum, rAppend, rExtend, rSetL, _root_.L2.start, List.map_cons, List.map_nil, List.length_cons, List.length_nil, List.replicate_succ, List.replicate_zero, List.cons_append, List.nil_append, List.append_nil, List.getElem?_cons_zero, List.getElem?_cons_succ, List.set_cons_zero, List.set_cons_succ, Nat.reduceAdd, Nat.reduceSub, V.int.injEq, V.bl.injEq, V.ref.injEq, V.str.injEq, exists_eq, exists_eq', exists_eq_left, exists_eq_left', exists_and_left, exists_and_right, Option.some.injEq, List.cons.injEq, and_true, true_and, and_assoc, retV, true_or, or_true, decide_eq_true_eq, if_true, if_false, Bool.false_eq_true, Bool.not_true, Bool.not_false, Bool.not_eq_true', reduceCtorEq, eq_self, decide_true, decide_false, List.length_map, exists_const, false_and, and_false, or_false, false_or, tSl, tPart, tNoPart, ↓reduceIte]
              refine sl_one (e05 _ _ htd) fun p1 H6 e6 hp1 => sl_one (e6 _ _ (e05 _ _ htc)) fun p2 H7 e7 hp2 => eq_one (e7 _ _ hp1) hp2 ?_
              have e57 := e6.trans e7
              have e07 := e05.trans e57
              have hM7 := e57 _ _ hM5
              try simp only [wipe, tC, tVar, tChain, rI0, rI, rU, tOp, tUn, tCall, tAnd, tOr, tNot, tNotV, tAndV, tOrV, tTest, tB, tIf, tIfS, tRet, tRetN, tNext, tSeq, tNil, tCons, tAug, ipI, tPar, tAsg, gName, tDrop, tLst, tTup, tCB, tBM, tBM0, tFld_eq, tMkE, tMake, tAugS, gSub, rEq, rAll, rMax, rSum, rAppend, rExtend, rSetL, _root_.L2.start, List.map_cons, List.map_nil, List.length_cons, List.length_nil, List.replicate_succ, List.replicate_zero, List.cons_append, List.nil_append, List.append_nil, List.getElem?_cons_zero, List.getElem?_cons_succ, List.set_cons_zero, List.set_cons_succ, Nat.reduceAdd, Nat.reduceSub, V.int.injEq, V.bl.injEq, V.ref.injEq, V.str.injEq, exists_eq, exists_eq', exists_eq_left, exists_eq_left', exists_and_left, exists_and_right, Option.some.injEq, List.cons.injEq, and_true, true_and, and_assoc, retV, true_or, or_true, decide_eq_true_eq, if_true, if_false, Bool.false_eq_true, Bool.not_true, Bool.not_false, Bool.not_eq_true', reduceCtorEq, eq_self, decide_true, decide_false, List.length_map, exists_const, false_and, and_false, or_false, false_or, ↓reduceIte]
              by_cases h1 : d1 = c1
              · rw [if_pos h1]
                refine ixt_at (e07 _ _ htd) (b := 0) rfl (ixt_at (e07 _ _ htc) (b := 0) rfl ?_)
                try simp only [wipe, tC, tVar, tChain, rI0, rI, rU, tOp, tUn, tCall, tAnd, tOr, tNot, tNotV, tAndV, tOrV, tTest, tB, tIf, tIfS, tRet, tRetN, tNext, tSeq, tNil, tCons, tAug, ipI, tPar, tAsg, gName, tDrop, tLst, tTup, tCB, tBM, tBM0, tFld_eq, tMkE, tMake, tAugS, gSub, rEq, rAll, rMax, rSum, rAppend, rExtend, rSetL, _root_.L2.start, List.map_cons, List.map_nil, List.length_cons, List.length_nil, List.replicate_succ, List.replicate_zero, List.cons_append, List.nil_append, List.append_nil, List.getElem?_cons_zero, List.getElem?_cons_succ, List.set_cons_zero, List.set_cons_succ, Nat.reduceAdd, Nat.reduceSub, V.int.injEq, V.bl.injEq, V.ref.injEq, V.str.injEq, exists_eq, exists_eq', exists_eq_left, exists_eq_left', exists_and_left, exists_and_right, Option.some.injEq, List.cons.injEq, and_true, true_and, and_assoc, retV, true_or, or_true, decide_eq_true_eq, if_true, if_false, Bool.false_eq_true, Bool.not_true, Bool.not_false, Bool.not_eq_true', reduceCtorEq, eq_self, decide_true, decide_false, List.length_map, exists_const, false_and, and_false, or_false, false_or, ↓reduceIte]
                by_cases h0 : c0 < d0
                · rw [if_pos h0]
                  refine ⟨.inl ⟨rfl, _, sqL_of hM7⟩, ?_⟩
                  refine ixt_at (e07 _ _ htc) (b := 0) rfl (ixt_at (e07 _ _ htd) (b := 0) rfl ?_)
                  try simp only [wipe, tC, tVar, tChain, rI0, rI, rU, tOp, tUn, tCall, tAnd, tOr, tNot, tNotV, tAndV, tOrV, tTest, tB, tIf, tIfS, tRet, tRetN, tNext, tSeq, tNil, tCons, tAug, ipI, tPar, tAsg, gName, tDrop, tLst, tTup, tCB, tBM, tBM0, tFld_eq, tMkE, tMake, tAugS, gSub, rEq, rAll, rMax, rSum, rAppend, rExtend, rSetL, _root_.L2.start, List.map_cons, List.map_nil, List.length_cons, List.length_nil, List.replicate_succ, List.replicate_zero, List.cons_append, List.nil_append, List.append_nil, List.getElem?_cons_zero, List.getElem?_cons_succ, List.set_cons_zero, List.set_cons_succ, Nat.reduceAdd, Nat.reduceSub, V.int.injEq, V.bl.injEq, V.ref.injEq, V.str.injEq, exists_eq, exists_eq', exists_eq_left, exists_eq_left', exists_and_left, exists_and_right, Option.some.injEq, List.cons.injEq, and_true, true_and, and_assoc, retV, true_or, or_true, decide_eq_true_eq, if_true, if_false, Bool.false_eq_true, Bool.not_true, Bool.not_false, Bool.not_eq_true', reduceCtorEq, eq_self, decide_true, decide_false, List.length_map, exists_const, false_and, and_false, or_false, false_or, ↓reduceIte]
                  have l2 := hitL_le [c0, c1] (ds.take n)
                  rw [List.length_take] at l2
                  refine ⟨_, hM7, ?_, same_mut (e5.trans e57) nM, ?_⟩
                  · rw [List.length_map, List.length_append]
                    exact Nat.lt_of_lt_of_le (by omega : _ < 3700) (by decide)
                  · rw [upd_same, hstep, if_pos ⟨h1, h0⟩, ← List.append_assoc]
                    simp
                · rw [if_neg h0]
                  refine ⟨e5.trans e57, ?_⟩
                  rw [hM7, hstep, if_neg (fun z => h0 z.2), List.append_nil]
              · rw [if_neg h1]
                refine ⟨e5.trans e57, ?_⟩
                rw [hM7, hstep, if_neg (fun z => h1 z.1), List.append_nil]
            · obtain ⟨⟨u7, rfl⟩, e5, hM5⟩ := h
              refine ⟨⟨_, _, rfl⟩, e5, ?_⟩
              have t1 : ds.take xo.length = ds := List.take_of_length_le (by rw [Paired.len hxo]; exact Nat.le_refl _)
              rw [hM5, if_neg hko', if_neg hko', List.nil_append, t1, List.take_succ, hc, Option.toList_some, List.flatMap_append, List.flatMap_cons, List.flatMap_nil, List.append_nil]
        · obtain ⟨⟨u6, u7, rfl⟩, e4, hM⟩ := h
          have hfl : (if k = o then [0] else [] : List Int) ++ (if k = o then [] else (cs.take xb.length).flatMap fun c => hitL c ds) = fndL B k o := by
            unfold fndL
            have t1 : cs.take xb.length = cs := List.take_of_length_le (by rw [Paired.len hxb]; exact Nat.le_refl _)
            rw [gcs, gds, t1]
            split <;> simp
          rw [hfl] at hM
          have hG4 := e4 _ _ hG
          have fin : ∀ (g : Option Int) (H5 : Hp), Same H2 H5 → IsMx (fndL B k o) g → Same H1 (upd H5 G (.lst ((row ++ [g]).map ov))) ∧ RowMx B k (row ++ [g]) := fun g H5 e5 hg => by
            refine ⟨same_mut (e12.trans e5) nG, fun i g' hi => ?_⟩
            by_cases hil : i < row.length
            · rw [List.getElem?_append_left hil] at hi
              exact grow i g' hi
            · have : i = row.length := by
                have := (List.getElem?_eq_some_iff.1 hi).1
                rw [List.length_append] at this
                simp at this
                omega
              subst this
              rw [List.getElem?_append_right (Nat.le_refl _), Nat.sub_self] at hi
              obtain rfl := Option.some.inj hi
              rw [lrow]
              exact hg
          try simp only [wipe, tC, tVar, tChain, rI0, rI, rU, tOp, tUn, tCall, tAnd, tOr, tNot, tNotV, tAndV, tOrV, tTest, tB, tIf, tIfS, tRet, tRetN, tNext, tSeq, tNil, tCons, tAug, ipI, tPar, tAsg, gName, tDrop, tLst, tTup, tCB, tBM, tBM0, tFld_eq, tMkE, tMake, tAugS, gSub, rEq, rAll, rMax, rSum, rAppend, rExtend, rSetL, _root_.L2.start, List.map_cons, List.map_nil, List.length_cons, List.length_nil, List.replicate_succ, List.replicate_zero, List.cons_append, List.nil_append, List.append_nil, List.getElem?_cons_zero, List.getElem?_cons_succ, List.set_cons_zero, List.set_cons_succ, Nat.reduceAdd, Nat.reduceSub, V.int.injEq, V.bl.injEq, V.ref.injEq, V.str.injEq, exists_eq, exists_eq', exists_eq_left, exists_eq_left', exists_and_left, exists_and_right, Option.some.injEq, List.cons.injEq, and_true, true_and, and_assoc, retV, true_or, or_true, decide_eq_true_eq, if_true, if_false, Bool.false_eq_true, Bool.not_true, Bool.not_false, Bool.not_eq_true', reduceCtorEq, eq_self, decide_true, decide_false, List.length_map, exists_const, false_and, and_false, or_false, false_or, ↓reduceIte]
          refine ⟨.inl ⟨rfl, _, sqL_of hG4⟩, by decide, fun p np => ?_⟩
          have e5 : Same H4 (upd H4 p (.lst [])) := same_new np
          refine ne_nil (e5 _ _ hM) upd_same ?_
          have hG5 := e5 _ _ hG4
          have hM5 := e5 _ _ hM
          have e25 := e4.trans e5
          generalize upd H4 p (.lst []) = H5 at hG5 hM5 e25
          have lt : (row.map ov).length < sizeLine := by
            rw [List.length_map]
            exact Nat.lt_of_lt_of_le (by omega : row.length < 12) (by decide)
          try simp only [wipe, tC, tVar, tChain, rI0, rI, rU, tOp, tUn, tCall, tAnd, tOr, tNot, tNotV, tAndV, tOrV, tTest, tB, tIf, tIfS, tRet, tRetN, tNext, tSeq, tNil, tCons, tAug, ipI, tPar, tAsg, gName, tDrop, tLst, tTup, tCB, tBM, tBM0, tFld_eq, tMkE, tMake, tAugS, gSub, rEq, rAll, rMax, rSum, rAppend, rExtend, rSetL, _root_.L2.start, List.map_cons, List.map_nil, List.length_cons, List.length_nil, List.replicate_succ, List.replicate_zero, List.cons_append, List.nil_append, List.append_nil, List.getElem?_cons_zero, List.getElem?_cons_succ, List.set_cons_zero, List.set_cons_succ, Nat.reduceAdd, Nat.reduceSub, V.int.injEq, V.bl.injEq, V.ref.injEq, V.str.injEq, exists_eq, exists_eq', exists_eq_left, exists_eq_left', exists_and_left, exists_and_right, Option.some.injEq, List.cons.injEq, and_true, true_and, and_assoc, retV, true_or, or_true, decide_eq_true_eq, if_true, if_false, Bool.false_eq_true, Bool.not_true, Bool.not_false, Bool.not_eq_true', reduceCtorEq, eq_self, decide_true, decide_false, List.length_map, exists_const, false_and, and_false, or_false, false_or, ↓reduceIte]
          by_cases h0 : fndL B k o = []
          · rw [if_neg (by simp [h0])]
            obtain ⟨f1, f2⟩ := fin none H5 e25 h0
            rw [List.map_append] at f1
            exact ⟨_, hG5, lt, f1, row ++ [none], by rw [upd_same, List.map_append]; rfl, by rw [List.length_append, lrow]; rfl, f2⟩
          · rw [if_pos (by simp [h0])]
            refine ⟨fndL B k o, sqL_of hM5, List.length_pos_iff.2 h0, fun m hm hle => ?_⟩
            obtain ⟨f1, f2⟩ := fin (some m) H5 e25 ⟨hm, hle⟩
            rw [List.map_append] at f1
            exact ⟨_, hG5, lt, f1, row ++ [some m], by rw [upd_same, List.map_append]; rfl, by rw [List.length_append, lrow]; rfl, f2⟩
      · obtain ⟨⟨u4, u5, u6, u7, rfl⟩, e12, row, hG, lrow, grow⟩ := h
        rw [rngV_len, Int.toNat_natCast] at lrow
        have hF2 := e12 _ _ hF
        try simp only [wipe, tC, tVar, tChain, rI0, rI, rU, tOp, tUn, tCall, tAnd, tOr, tNot, tNotV, tAndV, tOrV, tTest, tB, tIf, tIfS, tRet, tRetN, tNext, tSeq, tNil, tCons, tAug, ipI, tPar, tAsg, gName, tDrop, tLst, tTup, tCB, tBM, tBM0, tFld_eq, tMkE, tMake, tAugS, gSub, rEq, rAll, rMax, rSum, rAppend, rExtend, rSetL, _root_.L2.start, List.map_cons, List.map_nil, List.length_cons, List.length_nil, List.replicate_succ, List.replicate_zero, List.cons_append, List.nil_append, List.append_nil, List.getElem?_cons_zero, List.getElem?_cons_succ, List.set_cons_zero, List.set_cons_succ, Nat.reduceAdd, Nat.reduceSub, V.int.injEq, V.bl.injEq, V.ref.injEq, V.str.injEq, exists_eq, exists_eq', exists_eq_left, exists_eq_left', exists_and_left, exists_and_right, Option.some.injEq, List.cons.injEq, and_true, true_and, and_assoc, retV, true_or, or_true, decide_eq_true_eq, if_true, if_false, Bool.false_eq_true, Bool.not_true, Bool.not_false, Bool.not_eq_true', reduceCtorEq, eq_self, decide_true, decide_false, List.length_map, exists_const, false_and, and_false, or_false, false_or, ↓reduceIte]
        refine ⟨.inl ⟨rfl, vs, sqL_of hF2⟩, ?_⟩
        refine tup_sq (.inl hG) fun p H3 e3 hp3 => ?_
        have lvs : vs.length = k := by rw [Paired.len hR, lR]
        have e13 := e12.trans e3
        refine ⟨vs, e3 _ _ hF2, Nat.lt_of_lt_of_le (by omega : vs.length < 12) (by decide), same_mut (e1.trans e13) nF, _, upd_same, Rr ++ [row], ?_, by rw [List.length_append, lR]; rfl, fun i r hi => ?_⟩
        · have tk : Tk H1 (upd H3 F (.lst (vs ++ [.ref p]))) := (Tk.of e13).trans (.lst (e3 _ _ hF2))
          exact Paired.app ((famT_tp famT_on).p tk hR) (.cons ⟨p, _, rfl, (Tk.lst (e3 _ _ hF2) p).1 _ hp3, on_of row⟩ .nil)
        · by_cases hil : i < Rr.length
          · rw [List.getElem?_append_left hil] at hi
            exact gR i r hi
          · have : i = Rr.length := by
              have := (List.getElem?_eq_some_iff.1 hi).1
              rw [List.length_append] at this
              simp at this
              omega
            subst this
            rw [List.getElem?_append_right (Nat.le_refl _), Nat.sub_self] at hi
            obtain rfl := Option.some.inj hi
            rw [lR]
            exact ⟨lrow, grow⟩
    · obtain ⟨⟨u2, u3, u4, u5, u6, u7, rfl⟩, e1, vs, Rr, hF, hR, lR, gR⟩ := h
      rw [rngV_len, Int.toNat_natCast] at lR
      try simp only [wipe, tC, tVar, tChain, rI0, rI, rU, tOp, tUn, tCall, tAnd, tOr, tNot, tNotV, tAndV, tOrV, tTest, tB, tIf, tIfS, tRet, tRetN, tNext, tSeq, tNil, tCons, tAug, ipI, tPar, tAsg, gName, tDrop, tLst, tTup, tCB, tBM, tBM0, tFld_eq, tMkE, tMake, tAugS, gSub, rEq, rAll, rMax, rSum, rAppend, rExtend, rSetL, _root_.L2.start, List.map_cons, List.map_nil, List.length_cons, List.length_nil, List.replicate_succ, List.replicate_zero, List.cons_append, List.nil_append, List.append_nil, List.getElem?_cons_zero, List.getElem?_cons_succ, List.set_cons_zero, List.set_cons_succ, Nat.reduceAdd, Nat.reduceSub, V.int.injEq, V.bl.injEq, V.ref.injEq, V.str.injEq, exists_eq, exists_eq', exists_eq_left, exists_eq_left', exists_and_left, exists_and_right, Option.some.injEq, List.cons.injEq, and_true, true_and, and_assoc, retV, true_or, or_true, decide_eq_true_eq, if_true, if_false, Bool.false_eq_true, Bool.not_true, Bool.not_false, Bool.not_eq_true', reduceCtorEq, eq_self, decide_true, decide_false, List.length_map, exists_const, false_and, and_false, or_false, false_or, ↓reduceIte]
      exact tup_sq (.inl hF) fun p H3 e3 hp3 => q _ H3 Rr (e1.trans e3) ⟨p, vs, rfl, hp3, (famT_tp famT_on).p (.of e3) hR⟩ ⟨lR, gR⟩
end
end K78
set_option Elab.async false
set_option linter.all false
set_option maxRecDepth 100000
set_option maxHeartbeats 4000000
/-! k78: _law_rows, _law_due -/
namespace K78
open PySem PySem.Spec PyProof.Rows L2 He HK
theorem sameO_mut {A : Addr → Prop} {H H' : Hp} {p : Addr} {o : HO} (e : SameO A H H') (h : H p = none) : SameO A H (upd H' p o) := by
  have ne : ∀ {a : Addr} {u : HO}, H a = some u → a ≠ p := fun ha z => by rw [z, h] at ha; cases ha
  refine ⟨fun a u n ha => by rw [upd_ne (ne ha)]; exact e.1 a u n ha, fun a => ⟨fun xs ha => by rw [upd_ne (ne ha)]; exact (e.2.1 a).1 xs ha, fun o u ha => by rw [upd_ne (ne ha)]; exact (e.2.1 a).2 o u ha⟩, fun a ha => ?_⟩
  by_cases q : a = p
  · rw [q, upd_same]
    exact fun z => nomatch z
  · rw [upd_ne q]
    exact e.2.2 a ha
/-- the lots to draw gaps from -/
def LotAt (b d F : Addr) (H : Hp) (v : V) : Prop := ∃ (s : Addr) (ns : List Int), v = .ref s ∧ s ≠ F ∧ ¬BoxO b d s ∧ H s = some (.lst (ns.map V.int)) ∧ 0 < ns.length ∧ ns.length ≤ 3 ∧ ∀ x ∈ ns, -1999 ≤ x ∧ x ≤ 0
theorem LotAt.same {b d F : Addr} {H H' : Hp} {v : V} (h : LotAt b d F H v) (e : SameO (BoxO b d) H H') : LotAt b d F H' v := by
  obtain ⟨s, ns, h1, h0, h2, h3, h4⟩ := h
  exact ⟨s, ns, h1, h0, h2, e.1 _ _ h2 h3, h4⟩
/-- one row, so far -/
def RowSo (m k : Nat) (row : List (Option Int)) : Prop := (∀ c, row[k]? = some c → c = some 0) ∧ ∀ i : Int, some i ∈ row → -10000 ≤ i ∧ i ≤ 10000
def sp_rows : Sp := fun vs H Q _ => ∃ (b d : Addr) (m n : Nat), vs = [.ref b, .int m, .int n] ∧ BoxAt b d H ∧ m ≤ 12 ∧ n ≤ 100 ∧ ∀ v H' R, SameO (BoxO b d) H H' → BoxAt b d H' → TpF (TpF OnA) No H' v R → GapsOk m R → Q v H'
def HighR (R : GR) : Prop := ∃ row ∈ R, ∃ g : Int, some g ∈ row ∧ 0 < g
def LowR (R : GR) : Prop := ∃ row ∈ R, ∃ g : Int, some g ∈ row ∧ g < -1999
def sp_due : Sp := fun vs H Q _ => ∃ (t : V) (m : Nat) (R : GR), vs = [t] ∧ TpF (TpF OnA) No H t R ∧ GapsOk m R ∧ 1 ≤ m ∧ (HighR R → ∀ p H', Same H H' → H' p = some (.tup [.str "refused", .int (-1)]) → Q (.ref p) H') ∧
  (¬HighR R → LowR R → ∀ p H', Same H H' → H' p = some (.tup [.str "size", .str "places"]) → Q (.ref p) H') ∧ (¬HighR R → ¬LowR R → ∀ p H', Same H H' → H' p = some (.tup [.str "told", .int 2]) → Q (.ref p) H')
def someL (row : List (Option Int)) : List Int := row.filterMap id
def allG (R : GR) : List Int := R.flatMap someL
theorem mem_allG {R : GR} {g : Int} : g ∈ allG R ↔ ∃ row ∈ R, some g ∈ row := by
  unfold allG someL
  rw [List.mem_flatMap]
  constructor
  · rintro ⟨row, h1, h2⟩
    rw [List.mem_filterMap] at h2
    obtain ⟨a, ha, e⟩ := h2
    have : a = some g := e
    exact ⟨row, h1, this ▸ ha⟩
  · rintro ⟨row, h1, h2⟩
    exact ⟨row, h1, List.mem_filterMap.2 ⟨some g, h2, rfl⟩⟩
section
variable {w : World} {K : PySem.W.Frag} {mg : Str → Option Value} {base : Heap}
theorem C__law_rows (S : Sc K mg) : Cal prg w K mg base CX0 "_law_rows" 3 ["box", "many", "most"] [] sp_rows := by
  have C__law_pick := C__law_pick (w := w) (base := base) S
  have C__law_draw := C__law_draw (w := w) (base := base) S
  have C__law_chance := C__law_chance (w := w) (base := base) S
  refine S.cal (d := d__law_rows) 33 29 sc__law_rows rfl rfl rfl rfl rfl (fun _ _ _ _ _ _ us hl => match us, hl with | [_, _, _], _ => rfl) (fun vs H Q E h => ?_) (fun f cdv A outer s H vs Q E hr h => ?_)
  · obtain ⟨b, d, m, n, rfl, _⟩ := h
    rfl
  · obtain ⟨b, d, m, n, rfl, hb, m12, n100, q⟩ := h
    refine ⟨_, (pss_cons (ps_par (i := 3) (j := 4) (by rfl) sc__law_rows.nd rfl rfl (by decide) rfl rfl (pa_cons (pe_lst pa_nil) (pa_cons (pe_c C__law_pick (hr.mono (by omega)) pass0 (pa_cons (pv 0) (pa_cons (pe_lst (pa_cons (pe_lst (pa_cons pe_int pa_nil)) (pa_cons (pe_lst (pa_cons pe_int (pa_cons (pe_op op_sub pe_int pe_int) (pa_cons (pe_op op_sub pe_int pe_int) pa_nil)))) (pa_cons (pe_lst (pa_cons (pe_op op_sub pe_int pe_int) (pa_cons (pe_op op_sub pe_int pe_int) pa_nil))) (pa_cons (pe_lst (pa_cons (pe_op op_sub pe_int pe_int) (pa_cons pe_int pa_nil))) pa_nil))))) pa_nil))) pa_nil)) (by rfl))
      (pss_cons (ps_for PassesOwn.never rfl (pi_range1 rfl (S.free 46) (pa_cons (pv 1) pa_nil)) (pg_name (i := 5) sc__law_rows.nd rfl (by first | exact Or.inl rfl | exact Or.inr rfl)) (pss_cons (ps_set (i := 6) sc__law_rows.nd rfl (by first | exact Or.inl rfl | exact Or.inr rfl) (pe_lst pa_nil))
      (pss_cons (ps_for PassesOwn.never rfl (pi_range1 rfl (S.free 46) (pa_cons (pv 1) pa_nil)) (pg_name (i := 7) sc__law_rows.nd rfl (by first | exact Or.inl rfl | exact Or.inr rfl)) (pss_cons (ps_set (i := 8) sc__law_rows.nd rfl (by first | exact Or.inl rfl | exact Or.inr rfl) (pe_ifExp (pt_val (pe_c C__law_chance (hr.mono (by omega)) pass0 (pa_cons (pv 0) (pa_cons pe_int pa_nil)))) (pe_op op_add (pe_c C__law_pick (hr.mono (by omega)) pass0 (pa_cons (pv 0) (pa_cons (pv 4) pa_nil))) (pe_c C__law_draw (hr.mono (by omega)) pass0 (pa_cons (pv 0) (pa_cons (pe_op op_add (pv 2) pe_int) pa_nil)))) pe_non))
      (pss_one (ps_expr (pe_bm PySem.F.plainAttrs_list PySem.F.slot_list_append PySem.F.type_list_append mt_append (pv 6) (pa_cons (pe_ifExp (pt_cmpR op_eq (pv 5) (pv 7) (nomark _)) pe_int (pv 8)) pa_nil))))))
      (pss_one (ps_expr (pe_bm PySem.F.plainAttrs_list PySem.F.slot_list_append PySem.F.type_list_append mt_append (pv 3) (pa_cons (pe_callTy cr_tupA (by rfl) (S.free 50) (by decide +kernel) (pa_cons (pv 6) pa_nil)) pa_nil)))))))
      (pss_one (ps_ret (pe_callTy cr_tupA (by rfl) (S.free 50) (by decide +kernel) (pa_cons (pv 3) pa_nil)))))), ?_⟩
    try simp only [wipe, tC, tVar, tChain, rI0, rI, rU, tOp, tUn, tCall, tAnd, tOr, tNot, tNotV, tAndV, tOrV, tTest, tB, tIf, tIfS, tRet, tRetN, tNext, tSeq, tNil, tCons, tAug, ipI, tPar, tAsg, gName, tDrop, tLst, tTup, tCB, tBM, tBM0, tFld_eq, tMkE, tMake, tAugS, gSub, rEq, rAll, rMax, rSum, rAppend, rExtend, rSetL, _root_.L2.start, List.map_cons, List.map_nil, List.length_cons, List.length_nil, List.replicate_succ, List.replicate_zero, List.cons_append, List.nil_append, List.append_nil, List.getElem?_cons_zero, List.getElem?_cons_succ, List.set_cons_zero, List.set_cons_succ, Nat.reduceAdd, Nat.reduceSub, V.int.injEq, V.bl.injEq, V.ref.injEq, V.str.injEq, exists_eq, exists_eq', exists_eq_left, exists_eq_left', exists_and_left, exists_and_right, Option.some.injEq, List.cons.injEq, and_true, true_and, and_assoc, retV, true_or, or_true, decide_eq_true_eq, if_true, if_false, Bool.false_eq_true, Bool.not_true, Bool.not_false, Bool.not_eq_true', reduceCtorEq, eq_self, decide_true, decide_false, List.length_map, exists_const, false_and, and_false, or_false, false_or, ↓reduceIte]
    refine ⟨by decide, fun F nF => ⟨by decide, fun p1 np1 => ⟨by decide, fun p2 np2 => ⟨by decide, fun p3 np3 => ⟨by decide, fun p4 np4 => ⟨by decide, fun p np => ?_⟩⟩⟩⟩⟩⟩
    have eF := same_new (o := .lst []) nF
    have e1 := same_new (o := .lst [V.int 0]) np1
    have e2 := same_new (o := .lst [V.int 0, V.int (0 - 1), V.int (0 - 2)]) np2
    have e3 := same_new (o := .lst [V.int (0 - 1999), V.int (0 - 5)]) np3
    have e4 := same_new (o := .lst [V.int (0 - 700), V.int 0]) np4
    have e5 := same_new (o := .lst [V.ref p1, V.ref p2, V.ref p3, V.ref p4]) np
    have hb4 := hb.same (eF.trans (e1.trans (e2.trans (e3.trans e4))))
    have h1' := (e2.trans (e3.trans (e4.trans e5))) _ _ (upd_same (H := upd H F (.lst [])) (a := p1) (o := .lst [V.int 0]))
    have h2' := (e3.trans (e4.trans e5)) _ _ (upd_same (H := upd (upd H F (.lst [])) p1 (.lst [V.int 0])) (a := p2) (o := .lst [V.int 0, V.int (0 - 1), V.int (0 - 2)]))
    have h3' := (e4.trans e5) _ _ (upd_same (H := upd (upd (upd H F (.lst [])) p1 (.lst [V.int 0])) p2 (.lst [V.int 0, V.int (0 - 1), V.int (0 - 2)])) (a := p3) (o := .lst [V.int (0 - 1999), V.int (0 - 5)]))
    have h4' := e5 _ _ (upd_same (H := upd (upd (upd (upd H F (.lst [])) p1 (.lst [V.int 0])) p2 (.lst [V.int 0, V.int (0 - 1), V.int (0 - 2)])) p3 (.lst [V.int (0 - 1999), V.int (0 - 5)])) (a := p4) (o := .lst [V.int (0 - 700), V.int 0]))
    have hF' := (e1.trans (e2.trans (e3.trans (e4.trans e5)))) _ _ (upd_same (H := H) (a := F) (o := .lst []))
    have nb := hb4.off np
    have ne1 : p1 ≠ F := fun z => by rw [z, upd_same] at np1; cases np1
    have ne2 : p2 ≠ F := fun z => by rw [z, e1 _ _ upd_same] at np2; cases np2
    have ne3 : p3 ≠ F := fun z => by rw [z, (e1.trans e2) _ _ upd_same] at np3; cases np3
    have ne4 : p4 ≠ F := fun z => by rw [z, (e1.trans (e2.trans e3)) _ _ upd_same] at np4; cases np4
    have n1 := (hb.same eF).off np1
    have n2 := (hb.same (eF.trans e1)).off np2
    have n3 := (hb.same (eF.trans (e1.trans e2))).off np3
    have n4 := (hb.same (eF.trans (e1.trans (e2.trans e3)))).off np4
    have nFb := hb.off nF
    have hb5 := hb4.same e5
    have e05 := eF.trans (e1.trans (e2.trans (e3.trans (e4.trans e5))))
    have hp5 := upd_same (H := upd (upd (upd (upd (upd H F (.lst [])) p1 (.lst [V.int 0])) p2 (.lst [V.int 0, V.int (0 - 1), V.int (0 - 2)])) p3 (.lst [V.int (0 - 1999), V.int (0 - 5)])) p4 (.lst [V.int (0 - 700), V.int 0])) (a := p) (o := .lst [V.ref p1, V.ref p2, V.ref p3, V.ref p4])
    generalize upd (upd (upd (upd (upd (upd H F (.lst [])) p1 (.lst [V.int 0])) p2 (.lst [V.int 0, V.int (0 - 1), V.int (0 - 2)])) p3 (.lst [V.int (0 - 1999), V.int (0 - 5)])) p4 (.lst [V.int (0 - 700), V.int 0])) p (.lst [V.ref p1, V.ref p2, V.ref p3, V.ref p4]) = H5 at h1' h2' h3' h4' hF' hb5 e05 hp5
    clear hb4 eF e1 e2 e3 e4 e5
    refine ⟨b, d, p, _, rfl, hb5, hp5, nb, by simp, by simp, fun v H6 e6 b6 hv => ?_⟩
    have hL : LotAt b d F H5 v := by
      simp only [List.mem_cons, List.not_mem_nil, or_false] at hv
      rcases hv with rfl | rfl | rfl | rfl
      · exact ⟨p1, [0], rfl, ne1, n1, h1', by decide, by decide, by decide⟩
      · exact ⟨p2, [0, 0 - 1, 0 - 2], rfl, ne2, n2, h2', by decide, by decide, by decide⟩
      · exact ⟨p3, [0 - 1999, 0 - 5], rfl, ne3, n3, h3', by decide, by decide, by decide⟩
      · exact ⟨p4, [0 - 700, 0], rfl, ne4, n4, h4', by decide, by decide, by decide⟩
    have hL6 := hL.same e6
    have e06 : SameO (BoxO b d) H H6 := (SameO.of e05).trans e6
    have hF6 := e6.1 _ _ nFb hF'
    try simp only [wipe, tC, tVar, tChain, rI0, rI, rU, tOp, tUn, tCall, tAnd, tOr, tNot, tNotV, tAndV, tOrV, tTest, tB, tIf, tIfS, tRet, tRetN, tNext, tSeq, tNil, tCons, tAug, ipI, tPar, tAsg, gName, tDrop, tLst, tTup, tCB, tBM, tBM0, tFld_eq, tMkE, tMake, tAugS, gSub, rEq, rAll, rMax, rSum, rAppend, rExtend, rSetL, _root_.L2.start, List.map_cons, List.map_nil, List.length_cons, List.length_nil, List.replicate_succ, List.replicate_zero, List.cons_append, List.nil_append, List.append_nil, List.getElem?_cons_zero, List.getElem?_cons_succ, List.set_cons_zero, List.set_cons_succ, Nat.reduceAdd, Nat.reduceSub, V.int.injEq, V.bl.injEq, V.ref.injEq, V.str.injEq, exists_eq, exists_eq', exists_eq_left, exists_eq_left', exists_and_left, exists_and_right, Option.some.injEq, List.cons.injEq, and_true, true_and, and_assoc, retV, true_or, or_true, decide_eq_true_eq, if_true, if_false, Bool.false_eq_true, Bool.not_true, Bool.not_false, Bool.not_eq_true', reduceCtorEq, eq_self, decide_true, decide_false, List.length_map, exists_const, false_and, and_false, or_false, false_or, ↓reduceIte]
    refine for_go (gives_rng1 (j := m) (fun Q h => ⟨_, rfl, h⟩)) (fun k σ H' => (∃ u5 u6 u7 u8, σ = [some (.ref b), some (.int (m : Nat)), some (.int (n : Nat)), some (.ref F), some v, u5, u6, u7, u8]) ∧ SameO (BoxO b d) H H' ∧ BoxAt b d H' ∧ LotAt b d F H' v ∧
        ∃ vs R, H' F = some (.lst vs) ∧ Paired (TpF OnA No H') vs R ∧ R.length = k ∧ ∀ (i : Nat) (row : List (Option Int)), R[i]? = some row → row.length = m ∧ RowSo m i row)
      ⟨⟨_, _, _, _, rfl⟩, e06, b6, hL6, [], [], hF6, .nil, rfl, fun i row z => by cases z⟩ (fun _ _ _ _ _ => trivial) (fun k y σ H7 hk hy h => ?_) (fun σ H7 h => ?_)
    · obtain ⟨⟨u5, u6, u7, u8, rfl⟩, e7, b7, l7, vs, R, hF, hR, lR, gR⟩ := h
      rw [rngV_len, Int.toNat_natCast] at hk
      rw [Int.toNat_natCast, rngV_get hk, Int.zero_add] at hy
      obtain rfl := Option.some.inj hy
      try simp only [wipe, tC, tVar, tChain, rI0, rI, rU, tOp, tUn, tCall, tAnd, tOr, tNot, tNotV, tAndV, tOrV, tTest, tB, tIf, tIfS, tRet, tRetN, tNext, tSeq, tNil, tCons, tAug, ipI, tPar, tAsg, gName, tDrop, tLst, tTup, tCB, tBM, tBM0, tFld_eq, tMkE, tMake, tAugS, gSub, rEq, rAll, rMax, rSum, rAppend, rExtend, rSetL, _root_.L2.start, List.map_cons, List.map_nil, List.length_cons, List.length_nil, List.replicate_succ, List.replicate_zero, List.cons_append, List.nil_append, List.append_nil, List.getElem?_cons_zero, List.getElem?_cons_succ, List.set_cons_zero, List.set_cons_succ, Nat.reduceAdd, Nat.reduceSub, V.int.injEq, V.bl.injEq, V.ref.injEq, V.str.injEq, exists_eq, exists_eq', exists_eq_left, exists_eq_left', exists_and_left, exists_and_right, Option.some.injEq, List.cons.injEq, and_true, true_and, and_assoc, retV, true_or, or_true, decide_eq_true_eq, if_true, if_false, Bool.false_eq_true, Bool.not_true, Bool.not_false, Bool.not_eq_true', reduceCtorEq, eq_self, decide_true, decide_false, List.length_map, exists_const, false_and, and_false, or_false, false_or, ↓reduceIte]
      refine ⟨by decide, fun G nG => ?_⟩
      have nGb := b7.off nG
      refine for_go (gives_rng1 (j := m) (fun Q h => ⟨_, rfl, h⟩)) (fun o σ H' => (∃ u7 u8, σ = [some (.ref b), some (.int (m : Nat)), some (.int (n : Nat)), some (.ref F), some v, some (.int (k : Nat)), some (.ref G), u7, u8]) ∧ SameO (BoxO b d) H7 H' ∧ BoxAt b d H' ∧
          ∃ row : List (Option Int), H' G = some (.lst (row.map ov)) ∧ row.length = o ∧ RowSo m k row)
        ⟨⟨_, _, rfl⟩, .new nG, b7.upd nGb, [], upd_same, rfl, ⟨fun c z => (by cases z), fun i z => absurd z List.not_mem_nil⟩⟩ (fun _ _ _ _ _ => trivial) (fun o y σ H8 ho hy h => ?_) (fun σ H8 h => ?_)
      · obtain ⟨⟨u7, u8, rfl⟩, e8, b8, row, hG, lrow, s1, s2⟩ := h
        rw [rngV_len, Int.toNat_natCast] at ho
        rw [Int.toNat_natCast, rngV_get ho, Int.zero_add] at hy
        obtain rfl := Option.some.inj hy
        have l8 := l7.same e8
        have lt : (row.map ov).length < sizeLine := by
          rw [List.length_map]
          exact Nat.lt_of_lt_of_le (by omega : row.length < 12) (by decide)
        generalize hrw : row.map ov = rw0 at hG lt
        have fin : ∀ (c : Option Int) (H9 : Hp), SameO (BoxO b d) H8 H9 → BoxAt b d H9 → (k = o → c = some 0) → (∀ i : Int, c = some i → -10000 ≤ i ∧ i ≤ 10000) → SameO (BoxO b d) H7 (upd H9 G (.lst (rw0 ++ [ov c]))) ∧ BoxAt b d (upd H9 G (.lst (rw0 ++ [ov c]))) ∧
            ∃ row : List (Option Int), (upd H9 G (.lst (rw0 ++ [ov c]))) G = some (.lst (row.map ov)) ∧ row.length = o + 1 ∧ RowSo m k row := fun c H9 e9 b9 c1 c2 => by
          refine ⟨sameO_mut (e8.trans e9) nG, b9.upd nGb, row ++ [c], by rw [upd_same, List.map_append, hrw]; rfl, by rw [List.length_append, lrow]; rfl, fun c' hc' => ?_, fun i hi => ?_⟩
          · by_cases hkl : k < row.length
            · rw [List.getElem?_append_left hkl] at hc'
              exact s1 c' hc'
            · have e : k = o := by
                have := (List.getElem?_eq_some_iff.1 hc').1
                rw [List.length_append] at this
                simp at this
                omega
              subst e
              rw [List.getElem?_append_right (by omega), lrow, Nat.sub_self] at hc'
              obtain rfl := Option.some.inj hc'
              exact c1 rfl
          · rw [List.mem_append, List.mem_singleton] at hi
            rcases hi with hi | hi
            · exact s2 i hi
            · exact c2 i hi.symm
        try simp only [wipe, tC, tVar, tChain, rI0, rI, rU, tOp, tUn, tCall, tAnd, tOr, tNot, tNotV, tAndV, tOrV, tTest, tB, tIf, tIfS, tRet, tRetN, tNext, tSeq, tNil, tCons, tAug, ipI, tPar, tAsg, gName, tDrop, tLst, tTup, tCB, tBM, tBM0, tFld_eq, tMkE, tMake, tAugS, gSub, rEq, rAll, rMax, rSum, rAppend, rExtend, rSetL, _root_.L2.start, List.map_cons, List.map_nil, List.length_cons, List.length_nil, List.replicate_succ, List.replicate_zero, List.cons_append, List.nil_append, List.append_nil, List.getElem?_cons_zero, List.getElem?_cons_succ, List.set_cons_zero, List.set_cons_succ, Nat.reduceAdd, Nat.reduceSub, V.int.injEq, V.bl.injEq, V.ref.injEq, V.str.injEq, exists_eq, exists_eq', exists_eq_left, exists_eq_left', exists_and_left, exists_and_right, Option.some.injEq, List.cons.injEq, and_true, true_and, and_assoc, retV, true_or, or_true, decide_eq_true_eq, if_true, if_false, Bool.false_eq_true, Bool.not_true, Bool.not_false, Bool.not_eq_true', reduceCtorEq, eq_self, decide_true, decide_false, List.length_map, exists_const, false_and, and_false, or_false, false_or, ↓reduceIte]
        refine ⟨b, d, 5, rfl, b8, fun v9 H9 e9 b9 hk9 => ?_⟩
        obtain ⟨kk, rfl⟩ := hk9
        cases kk with
        | true =>
          try simp only [wipe, tC, tVar, tChain, rI0, rI, rU, tOp, tUn, tCall, tAnd, tOr, tNot, tNotV, tAndV, tOrV, tTest, tB, tIf, tIfS, tRet, tRetN, tNext, tSeq, tNil, tCons, tAug, ipI, tPar, tAsg, gName, tDrop, tLst, tTup, tCB, tBM, tBM0, tFld_eq, tMkE, tMake, tAugS, gSub, rEq, rAll, rMax, rSum, rAppend, rExtend, rSetL, _root_.L2.start, List.map_cons, List.map_nil, List.length_cons, List.length_nil, List.replicate_succ, List.replicate_zero, List.cons_append, List.nil_append, List.append_nil, List.getElem?_cons_zero, List.getElem?_cons_succ, List.set_cons_zero, List.set_cons_succ, Nat.reduceAdd, Nat.reduceSub, V.int.injEq, V.bl.injEq, V.ref.injEq, V.str.injEq, exists_eq, exists_eq', exists_eq_left, exists_eq_left', exists_and_left, exists_and_right, Option.some.injEq, List.cons.injEq, and_true, true_and, and_assoc, retV, true_or, or_true, decide_eq_true_eq, if_true, if_false, Bool.false_eq_true, Bool.not_true, Bool.not_false, Bool.not_eq_true', reduceCtorEq, eq_self, decide_true, decide_false, List.length_map, exists_const, false_and, and_false, or_false, false_or, ↓reduceIte]
          obtain ⟨s, ns, rfl, _, nbs, hs, ns0, ns3, nsB⟩ := l8.same e9
          refine ⟨b, d, s, _, rfl, b9, hs, nbs, by rw [List.length_map]; exact ns0, by rw [List.length_map]; omega, fun v10 H10 e10 b10 hv10 => ?_⟩
          obtain ⟨x, hx, rfl⟩ := List.mem_map.1 hv10
          have xB := nsB x hx
          refine ⟨b, d, (n : Int) + 1, rfl, b10, by omega, by omega, fun v11 H11 e11 b11 hv11 => ?_⟩
          obtain ⟨r, rfl, r0, r1⟩ := hv11
          have e811 := e9.trans (e10.trans e11)
          have hG11 := e811.1 _ _ nGb hG
          try simp only [wipe, tC, tVar, tChain, rI0, rI, rU, tOp, tUn, tCall, tAnd, tOr, tNot, tNotV, tAndV, tOrV, tTest, tB, tIf, tIfS, tRet, tRetN, tNext, tSeq, tNil, tCons, tAug, ipI, tPar, tAsg, gName, tDrop, tLst, tTup, tCB, tBM, tBM0, tFld_eq, tMkE, tMake, tAugS, gSub, rEq, rAll, rMax, rSum, rAppend, rExtend, rSetL, _root_.L2.start, List.map_cons, List.map_nil, List.length_cons, List.length_nil, List.replicate_succ, List.replicate_zero, List.cons_append, List.nil_append, List.append_nil, List.getElem?_cons_zero, List.getElem?_cons_succ, List.set_cons_zero, List.set_cons_succ, Nat.reduceAdd, Nat.reduceSub, V.int.injEq, V.bl.injEq, V.ref.injEq, V.str.injEq, exists_eq, exists_eq', exists_eq_left, exists_eq_left', exists_and_left, exists_and_right, Option.some.injEq, List.cons.injEq, and_true, true_and, and_assoc, retV, true_or, or_true, decide_eq_true_eq, if_true, if_false, Bool.false_eq_true, Bool.not_true, Bool.not_false, Bool.not_eq_true', reduceCtorEq, eq_self, decide_true, decide_false, List.length_map, exists_const, false_and, and_false, or_false, false_or, scal, ↓reduceIte]
          refine ⟨.inl ⟨rfl, _, sqL_of hG11⟩, ?_⟩
          by_cases hko : (k : Int) = (o : Int)
          · rw [if_pos hko]
            exact ⟨rw0, hG11, lt, fin (some 0) H11 e811 b11 (fun _ => rfl) (fun i hi => by obtain rfl := Option.some.inj hi; omega)⟩
          · rw [if_neg hko]
            exact ⟨rw0, hG11, lt, fin (some (x + r)) H11 e811 b11 (fun z => absurd z (by omega)) (fun i hi => by obtain rfl := Option.some.inj hi; omega)⟩
        | false =>
          try simp only [wipe, tC, tVar, tChain, rI0, rI, rU, tOp, tUn, tCall, tAnd, tOr, tNot, tNotV, tAndV, tOrV, tTest, tB, tIf, tIfS, tRet, tRetN, tNext, tSeq, tNil, tCons, tAug, ipI, tPar, tAsg, gName, tDrop, tLst, tTup, tCB, tBM, tBM0, tFld_eq, tMkE, tMake, tAugS, gSub, rEq, rAll, rMax, rSum, rAppend, rExtend, rSetL, _root_.L2.start, List.map_cons, List.map_nil, List.length_cons, List.length_nil, List.replicate_succ, List.replicate_zero, List.cons_append, List.nil_append, List.append_nil, List.getElem?_cons_zero, List.getElem?_cons_succ, List.set_cons_zero, List.set_cons_succ, Nat.reduceAdd, Nat.reduceSub, V.int.injEq, V.bl.injEq, V.ref.injEq, V.str.injEq, exists_eq, exists_eq', exists_eq_left, exists_eq_left', exists_and_left, exists_and_right, Option.some.injEq, List.cons.injEq, and_true, true_and, and_assoc, retV, true_or, or_true, decide_eq_true_eq, if_true, if_false, Bool.false_eq_true, Bool.not_true, Bool.not_false, Bool.not_eq_true', reduceCtorEq, eq_self, decide_true, decide_false, List.length_map, exists_const, false_and, and_false, or_false, false_or, ↓reduceIte]
          have hG9 := e9.1 _ _ nGb hG
          refine ⟨.inl ⟨rfl, _, sqL_of hG9⟩, rfl, ?_⟩
          by_cases hko : (k : Int) = (o : Int)
          · rw [if_pos hko]
            exact ⟨rw0, hG9, lt, fin (some 0) H9 e9 b9 (fun _ => rfl) (fun i hi => by obtain rfl := Option.some.inj hi; omega)⟩
          · rw [if_neg hko]
            exact ⟨rw0, hG9, lt, fin none H9 e9 b9 (fun z => absurd z (by omega)) (fun i hi => by cases hi)⟩
      · obtain ⟨⟨u7, u8, rfl⟩, e8, b8, row, hG, lrow, s12⟩ := h
        rw [rngV_len, Int.toNat_natCast] at lrow
        have hF8 := e8.1 _ _ nFb hF
        try simp only [wipe, tC, tVar, tChain, rI0, rI, rU, tOp, tUn, tCall, tAnd, tOr, tNot, tNotV, tAndV, tOrV, tTest, tB, tIf, tIfS, tRet, tRetN, tNext, tSeq, tNil, tCons, tAug, ipI, tPar, tAsg, gName, tDrop, tLst, tTup, tCB, tBM, tBM0, tFld_eq, tMkE, tMake, tAugS, gSub, rEq, rAll, rMax, rSum, rAppend, rExtend, rSetL, _root_.L2.start, List.map_cons, List.map_nil, List.length_cons, List.length_nil, List.replicate_succ, List.replicate_zero, List.cons_append, List.nil_append, List.append_nil, List.getElem?_cons_zero, List.getElem?_cons_succ, List.set_cons_zero, List.set_cons_succ, Nat.reduceAdd, Nat.reduceSub, V.int.injEq, V.bl.injEq, V.ref.injEq, V.str.injEq, exists_eq, exists_eq', exists_eq_left, exists_eq_left', exists_and_left, exists_and_right, Option.some.injEq, List.cons.injEq, and_true, true_and, and_assoc, retV, true_or, or_true, decide_eq_true_eq, if_true, if_false, Bool.false_eq_true, Bool.not_true, Bool.not_false, Bool.not_eq_true', reduceCtorEq, eq_self, decide_true, decide_false, List.length_map, exists_const, false_and, and_false, or_false, false_or, ↓reduceIte]
        refine ⟨.inl ⟨rfl, vs, sqL_of hF8⟩, ?_⟩
        refine tup_sq (.inl hG) fun p9 H9 e9 hp9 => ?_
        have lvs : vs.length = k := by rw [Paired.len hR, lR]
        have hF9 := e9 _ _ hF8
        have tk : Tk H7 (upd H9 F (.lst (vs ++ [.ref p9]))) := e8.2.1.trans ((Tk.of e9).trans (.lst hF9))
        have l9 := (l7.same e8).same (SameO.of e9)
        refine ⟨vs, hF9, Nat.lt_of_lt_of_le (by omega : vs.length < 12) (by decide), ?_, (b8.same e9).upd nFb, ?_, _, upd_same, R ++ [row], Paired.app ((famT_tp famT_on).p tk hR) (.cons ⟨p9, _, rfl, (Tk.lst hF9 p9).1 _ hp9, on_of row⟩ .nil), by rw [List.length_append, lR]; rfl, fun i r hi => ?_⟩
        · exact sameO_mut (e7.trans (e8.trans (.of e9))) nF
        · obtain ⟨s, ns, h1, h0, h2, h3, h4⟩ := l9
          exact ⟨s, ns, h1, h0, h2, by rw [upd_ne h0]; exact h3, h4⟩
        · by_cases hil : i < R.length
          · rw [List.getElem?_append_left hil] at hi
            exact gR i r hi
          · have : i = R.length := by
              have := (List.getElem?_eq_some_iff.1 hi).1
              rw [List.length_append] at this
              simp at this
              omega
            subst this
            rw [List.getElem?_append_right (Nat.le_refl _), Nat.sub_self] at hi
            obtain rfl := Option.some.inj hi
            rw [lR]
            exact ⟨lrow, s12⟩
    · obtain ⟨⟨u5, u6, u7, u8, rfl⟩, e7, b7, l7, vs, R, hF, hR, lR, gR⟩ := h
      rw [rngV_len, Int.toNat_natCast] at lR
      try simp only [wipe, tC, tVar, tChain, rI0, rI, rU, tOp, tUn, tCall, tAnd, tOr, tNot, tNotV, tAndV, tOrV, tTest, tB, tIf, tIfS, tRet, tRetN, tNext, tSeq, tNil, tCons, tAug, ipI, tPar, tAsg, gName, tDrop, tLst, tTup, tCB, tBM, tBM0, tFld_eq, tMkE, tMake, tAugS, gSub, rEq, rAll, rMax, rSum, rAppend, rExtend, rSetL, _root_.L2.start, List.map_cons, List.map_nil, List.length_cons, List.length_nil, List.replicate_succ, List.replicate_zero, List.cons_append, List.nil_append, List.append_nil, List.getElem?_cons_zero, List.getElem?_cons_succ, List.set_cons_zero, List.set_cons_succ, Nat.reduceAdd, Nat.reduceSub, V.int.injEq, V.bl.injEq, V.ref.injEq, V.str.injEq, exists_eq, exists_eq', exists_eq_left, exists_eq_left', exists_and_left, exists_and_right, Option.some.injEq, List.cons.injEq, and_true, true_and, and_assoc, retV, true_or, or_true, decide_eq_true_eq, if_true, if_false, Bool.false_eq_true, Bool.not_true, Bool.not_false, Bool.not_eq_true', reduceCtorEq, eq_self, decide_true, decide_false, List.length_map, exists_const, false_and, and_false, or_false, false_or, ↓reduceIte]
      refine tup_sq (.inl hF) fun p9 H9 e9 hp9 => q _ H9 R (e7.trans (.of e9)) (b7.same e9) ⟨p9, vs, rfl, hp9, (famT_tp famT_on).p (.of e9) hR⟩ ⟨m12, lR, fun i row hi => ?_⟩
      obtain ⟨r1, r2, r3⟩ := gR i row hi
      have him : i < m := by
        have := (List.getElem?_eq_some_iff.1 hi).1
        omega
      obtain ⟨c, hc⟩ := getI (xs := row) (i := i) (by omega)
      exact ⟨r1, by rw [hc, r2 c hc], r3⟩
theorem C__law_due (S : Sc K mg) : Cal prg w K mg base CX0 "_law_due" 1 ["rows"] [] sp_due := by
  refine S.cal (d := d__law_due) 35 31 sc__law_due rfl rfl rfl rfl rfl (fun _ _ _ _ _ _ us hl => match us, hl with | [_], _ => rfl) (fun vs H Q E h => ?_) (fun f cdv A outer s H vs Q E hr h => ?_)
  · obtain ⟨t, m, R, rfl, _⟩ := h
    rfl
  · obtain ⟨_, m, R, rfl, ⟨ta, us, rfl, hta, htp⟩, O, m1, q1, q2, q3⟩ := h
    refine ⟨_, (pss_cons (ps_set (i := 1) sc__law_due.nd rfl (by first | exact Or.inl rfl | exact Or.inr rfl) (pe_lst pa_nil))
      (pss_cons (ps_for PassesOwn.never rfl (pi_seq (pv 0)) (pg_name (i := 2) sc__law_due.nd rfl (by first | exact Or.inl rfl | exact Or.inr rfl)) (pss_one (ps_set (i := 1) sc__law_due.nd rfl (by first | exact Or.inl rfl | exact Or.inr rfl) (pe_op op_cat (pv 1) (pe_lc (own := [("gap", 3)]) (g := (gName 3)) rfl sc__law_due.nd (pi_seq (pv 2)) (blkOk_by (N := ["rows", "gaps", "row", "gap"]) (sc := defScope s__law_due) (by decide +kernel)) (fun _ _ _ _ _ => (pg_name (i := 3) sc__law_due.nd rfl (by first | exact Or.inl rfl | exact Or.inr rfl))) (fun _ _ _ _ _ => (pts_one (pt_cmpR op_notN (pv 3) pe_non (nomark _)))) (fun _ _ _ _ _ => (pv 3)))))))
      (pss_cons (ps_if (pt_cmpR op_gt (pe_callB (cr_max rfl) (by rfl) (S.free 44) (by decide +kernel) (pa_cons (pv 1) pa_nil)) pe_int (nomark _)) (pss_one (ps_ret (pe_tup (pa_cons pe_str (pa_cons (pe_op op_sub pe_int pe_int) pa_nil))))) pss_nil)
      (pss_one (ps_ret (pe_ifExp (pt_cmpR op_lt (pe_callB (cr_min rfl) (by rfl) (S.free 45) (by decide +kernel) (pa_cons (pv 1) pa_nil)) (pe_op op_sub pe_int pe_int) (nomark _)) (pe_tup (pa_cons pe_str (pa_cons pe_str pa_nil))) (pe_tup (pa_cons pe_str (pa_cons pe_int pa_nil))))))))), ?_⟩
    have lus : us.length = R.length := Paired.len htp
    have m12 := O.1
    have lR := O.2.1
    try simp only [wipe, tC, tVar, tChain, rI0, rI, rU, tOp, tUn, tCall, tAnd, tOr, tNot, tNotV, tAndV, tOrV, tTest, tB, tIf, tIfS, tRet, tRetN, tNext, tSeq, tNil, tCons, tAug, ipI, tPar, tAsg, gName, tDrop, tLst, tTup, tCB, tBM, tBM0, tFld_eq, tMkE, tMake, tAugS, gSub, rEq, rAll, rMax, rSum, rAppend, rExtend, rSetL, _root_.L2.start, List.map_cons, List.map_nil, List.length_cons, List.length_nil, List.replicate_succ, List.replicate_zero, List.cons_append, List.nil_append, List.append_nil, List.getElem?_cons_zero, List.getElem?_cons_succ, List.set_cons_zero, List.set_cons_succ, Nat.reduceAdd, Nat.reduceSub, V.int.injEq, V.bl.injEq, V.ref.injEq, V.str.injEq, exists_eq, exists_eq', exists_eq_left, exists_eq_left', exists_and_left, exists_and_right, Option.some.injEq, List.cons.injEq, and_true, true_and, and_assoc, retV, true_or, or_true, decide_eq_true_eq, if_true, if_false, Bool.false_eq_true, Bool.not_true, Bool.not_false, Bool.not_eq_true', reduceCtorEq, eq_self, decide_true, decide_false, List.length_map, exists_const, false_and, and_false, or_false, false_or, ↓reduceIte]
    refine ⟨by decide, fun F nF => ?_⟩
    have e0 : Same H (upd H F (.lst [])) := same_new nF
    refine for_go (gives_sq (xs := us) (a := ta) (fun Q h => ⟨_, rfl, h⟩) (.inr (e0 _ _ hta))) (fun i σ H' => (∃ G u2 u3, σ = [some (.ref ta), some (.ref G), u2, u3] ∧ H' G = some (.lst ((allG (R.take i)).map V.int))) ∧ Same H H')
      ⟨⟨F, _, _, rfl, by rw [upd_same]; rfl⟩, e0⟩ (fun i σ H' _ h => by rw [h.2 _ _ hta, e0 _ _ hta]) (fun i y σ H1 hi hy h => ?_) (fun σ H1 h => ?_)
    · obtain ⟨⟨G, u2, u3, rfl, hG⟩, e1⟩ := h
      obtain ⟨row, hrow, ra, ws, rfl, hra, hrp⟩ := Paired.at htp hy
      obtain rfl := on_eq hrp
      obtain ⟨lrow, _, _⟩ := O.2.2 i row hrow
      have hra1 := e1 _ _ hra
      try simp only [wipe, tC, tVar, tChain, rI0, rI, rU, tOp, tUn, tCall, tAnd, tOr, tNot, tNotV, tAndV, tOrV, tTest, tB, tIf, tIfS, tRet, tRetN, tNext, tSeq, tNil, tCons, tAug, ipI, tPar, tAsg, gName, tDrop, tLst, tTup, tCB, tBM, tBM0, tFld_eq, tMkE, tMake, tAugS, gSub, rEq, rAll, rMax, rSum, rAppend, rExtend, rSetL, _root_.L2.start, List.map_cons, List.map_nil, List.length_cons, List.length_nil, List.replicate_succ, List.replicate_zero, List.cons_append, List.nil_append, List.append_nil, List.getElem?_cons_zero, List.getElem?_cons_succ, List.set_cons_zero, List.set_cons_succ, Nat.reduceAdd, Nat.reduceSub, V.int.injEq, V.bl.injEq, V.ref.injEq, V.str.injEq, exists_eq, exists_eq', exists_eq_left, exists_eq_left', exists_and_left, exists_and_right, Option.some.injEq, List.cons.injEq, and_true, true_and, and_assoc, retV, true_or, or_true, decide_eq_true_eq, if_true, if_false, Bool.false_eq_true, Bool.not_true, Bool.not_false, Bool.not_eq_true', reduceCtorEq, eq_self, decide_true, decide_false, List.length_map, exists_const, false_and, and_false, or_false, false_or, ↓reduceIte]
      refine lc_acc (gives_sq (xs := row.map ov) (a := ra) (fun Q h => ⟨_, rfl, h⟩) (.inr hra1)) (Box.none (A := No) (fun _ z => z.elim)) (fun H' e => by rw [e.same _ _ hra1, hra1]) (by rw [List.length_map]; exact Nat.le_trans (by omega : row.length ≤ 12) (by decide)) (fun A n ws H' => ws = (someL (row.take n)).map V.int)
        (fun _ _ => rfl) (fun _ h => h) (fun _ h => h) (fun n y ws H' D N N0 hn hy e _ hA hI hN hN0 => ?_) fun ws H2 D e2 _ nD _ hD hI => ?_
      · rw [List.length_map] at hn
        obtain ⟨c, hc⟩ := getI (xs := row) hn
        rw [List.getElem?_map, hc] at hy
        obtain rfl := Option.some.inj hy
        have st : someL (row.take (n + 1)) = someL (row.take n) ++ someL [c] := by
          unfold someL
          rw [List.take_succ, hc, Option.toList_some, List.filterMap_append]
        refine ⟨rfl, ?_⟩
        cases c with
        | none =>
          try simp only [wipe, tC, tVar, tChain, rI0, rI, rU, tOp, tUn, tCall, tAnd, tOr, tNot, tNotV, tAndV, tOrV, tTest, tB, tIf, tIfS, tRet, tRetN, tNext, tSeq, tNil, tCons, tAug, ipI, tPar, tAsg, gName, tDrop, tLst, tTup, tCB, tBM, tBM0, tFld_eq, tMkE, tMake, tAugS, gSub, rEq, rAll, rMax, rSum, rAppend, rExtend, rSetL, _root_.L2.start, List.map_cons, List.map_nil, List.length_cons, List.length_nil, List.replicate_succ, List.replicate_zero, List.cons_append, List.nil_append, List.append_nil, List.getElem?_cons_zero, List.getElem?_cons_succ, List.set_cons_zero, List.set_cons_succ, Nat.reduceAdd, Nat.reduceSub, V.int.injEq, V.bl.injEq, V.ref.injEq, V.str.injEq, exists_eq, exists_eq', exists_eq_left, exists_eq_left', exists_and_left, exists_and_right, Option.some.injEq, List.cons.injEq, and_true, true_and, and_assoc, retV, true_or, or_true, decide_eq_true_eq, if_true, if_false, Bool.false_eq_true, Bool.not_true, Bool.not_false, Bool.not_eq_true', reduceCtorEq, eq_self, decide_true, decide_false, List.length_map, exists_const, false_and, and_false, or_false, false_or, ov, ↓reduceIte]
          refine hN0 _ (SameO.refl _ _) trivial ?_
          rw [hI, st]
          simp [someL]
        | some g =>
          try simp only [wipe, tC, tVar, tChain, rI0, rI, rU, tOp, tUn, tCall, tAnd, tOr, tNot, tNotV, tAndV, tOrV, tTest, tB, tIf, tIfS, tRet, tRetN, tNext, tSeq, tNil, tCons, tAug, ipI, tPar, tAsg, gName, tDrop, tLst, tTup, tCB, tBM, tBM0, tFld_eq, tMkE, tMake, tAugS, gSub, rEq, rAll, rMax, rSum, rAppend, rExtend, rSetL, _root_.L2.start, List.map_cons, List.map_nil, List.length_cons, List.length_nil, List.replicate_succ, List.replicate_zero, List.cons_append, List.nil_append, List.append_nil, List.getElem?_cons_zero, List.getElem?_cons_succ, List.set_cons_zero, List.set_cons_succ, Nat.reduceAdd, Nat.reduceSub, V.int.injEq, V.bl.injEq, V.ref.injEq, V.str.injEq, exists_eq, exists_eq', exists_eq_left, exists_eq_left', exists_and_left, exists_and_right, Option.some.injEq, List.cons.injEq, and_true, true_and, and_assoc, retV, true_or, or_true, decide_eq_true_eq, if_true, if_false, Bool.false_eq_true, Bool.not_true, Bool.not_false, Bool.not_eq_true', reduceCtorEq, eq_self, decide_true, decide_false, List.length_map, exists_const, false_and, and_false, or_false, false_or, ov, ↓reduceIte]
          refine hN _ _ (SameO.refl _ _) trivial ?_
          rw [hI, st, List.map_append]
          rfl
      · rw [List.length_map, List.take_length] at hI
        subst hI
        have hG2 := e2.same _ _ hG
        have st : allG (R.take (i + 1)) = allG (R.take i) ++ someL row := by
          unfold allG
          rw [List.take_succ, hrow, Option.toList_some, List.flatMap_append, List.flatMap_cons, List.flatMap_nil, List.append_nil]
        have l1 : (allG (R.take i)).length ≤ 144 := by
          have h1 := flat_le someL 12 (R.take i) fun r hr => by
            obtain ⟨b, hb⟩ := List.getElem?_of_mem (List.mem_of_mem_take hr)
            have h2 := (O.2.2 b r hb).1
            have h3 : (someL r).length ≤ r.length := List.length_filterMap_le _ _
            omega
          have h2 : (R.take i).length ≤ 12 := by rw [List.length_take]; omega
          unfold allG
          omega
        have l2 : (someL row).length ≤ row.length := List.length_filterMap_le _ _
        try simp only [wipe, tC, tVar, tChain, rI0, rI, rU, tOp, tUn, tCall, tAnd, tOr, tNot, tNotV, tAndV, tOrV, tTest, tB, tIf, tIfS, tRet, tRetN, tNext, tSeq, tNil, tCons, tAug, ipI, tPar, tAsg, gName, tDrop, tLst, tTup, tCB, tBM, tBM0, tFld_eq, tMkE, tMake, tAugS, gSub, rEq, rAll, rMax, rSum, rAppend, rExtend, rSetL, _root_.L2.start, List.map_cons, List.map_nil, List.length_cons, List.length_nil, List.replicate_succ, List.replicate_zero, List.cons_append, List.nil_append, List.append_nil, List.getElem?_cons_zero, List.getElem?_cons_succ, List.set_cons_zero, List.set_cons_succ, Nat.reduceAdd, Nat.reduceSub, V.int.injEq, V.bl.injEq, V.ref.injEq, V.str.injEq, exists_eq, exists_eq', exists_eq_left, exists_eq_left', exists_and_left, exists_and_right, Option.some.injEq, List.cons.injEq, and_true, true_and, and_assoc, retV, true_or, or_true, decide_eq_true_eq, if_true, if_false, Bool.false_eq_true, Bool.not_true, Bool.not_false, Bool.not_eq_true', reduceCtorEq, eq_self, decide_true, decide_false, List.length_map, exists_const, false_and, and_false, or_false, false_or, ↓reduceIte]
        refine ⟨G, D, _, _, rfl, rfl, hG2, hD, Nat.le_trans (by rw [List.length_map, List.length_map]; omega : _ ≤ 200) (by decide), fun p np => ?_⟩
        refine ⟨?_, e1.trans (e2.same.trans (same_new np))⟩
        first
          | exact ⟨p, _, _, rfl, by rw [upd_same, st, List.map_append]⟩
          | exact ⟨p, rfl, by rw [upd_same, st, List.map_append]⟩
          | rw [upd_same, st, List.map_append]
    · obtain ⟨⟨G, u2, u3, rfl, hG⟩, e1⟩ := h
      rw [lus, List.take_length] at hG
      have hz : (0 : Int) ∈ allG R := by
        obtain ⟨row, hrow⟩ := getI (xs := R) (i := 0) (by omega)
        exact mem_allG.2 ⟨row, List.mem_of_getElem? hrow, List.mem_of_getElem? (O.2.2 0 row hrow).2.1⟩
      have lp : 0 < (allG R).length := List.length_pos_iff.2 (List.ne_nil_of_mem hz)
      try simp only [wipe, tC, tVar, tChain, rI0, rI, rU, tOp, tUn, tCall, tAnd, tOr, tNot, tNotV, tAndV, tOrV, tTest, tB, tIf, tIfS, tRet, tRetN, tNext, tSeq, tNil, tCons, tAug, ipI, tPar, tAsg, gName, tDrop, tLst, tTup, tCB, tBM, tBM0, tFld_eq, tMkE, tMake, tAugS, gSub, rEq, rAll, rMax, rSum, rAppend, rExtend, rSetL, _root_.L2.start, List.map_cons, List.map_nil, List.length_cons, List.length_nil, List.replicate_succ, List.replicate_zero, List.cons_append, List.nil_append, List.append_nil, List.getElem?_cons_zero, List.getElem?_cons_succ, List.set_cons_zero, List.set_cons_succ, Nat.reduceAdd, Nat.reduceSub, V.int.injEq, V.bl.injEq, V.ref.injEq, V.str.injEq, exists_eq, exists_eq', exists_eq_left, exists_eq_left', exists_and_left, exists_and_right, Option.some.injEq, List.cons.injEq, and_true, true_and, and_assoc, retV, true_or, or_true, decide_eq_true_eq, if_true, if_false, Bool.false_eq_true, Bool.not_true, Bool.not_false, Bool.not_eq_true', reduceCtorEq, eq_self, decide_true, decide_false, List.length_map, exists_const, false_and, and_false, or_false, false_or, ↓reduceIte]
      refine ⟨allG R, sqL_of hG, lp, fun M hM hle => ?_⟩
      by_cases hM0 : 0 < M
      · rw [if_pos hM0]
        have hh : HighR R := by
          obtain ⟨row, h1, h2⟩ := mem_allG.1 hM
          exact ⟨row, h1, M, h2, hM0⟩
        refine ⟨by decide, fun p np => q1 hh p _ (e1.trans (same_new np)) upd_same⟩
      · rw [if_neg hM0]
        have hh : ¬HighR R := fun ⟨row, h1, g, h2, h3⟩ => by
          have := hle g (mem_allG.2 ⟨row, h1, h2⟩)
          omega
        try simp only [wipe, tC, tVar, tChain, rI0, rI, rU, tOp, tUn, tCall, tAnd, tOr, tNot, tNotV, tAndV, tOrV, tTest, tB, tIf, tIfS, tRet, tRetN, tNext, tSeq, tNil, tCons, tAug, ipI, tPar, tAsg, gName, tDrop, tLst, tTup, tCB, tBM, tBM0, tFld_eq, tMkE, tMake, tAugS, gSub, rEq, rAll, rMax, rSum, rAppend, rExtend, rSetL, _root_.L2.start, List.map_cons, List.map_nil, List.length_cons, List.length_nil, List.replicate_succ, List.replicate_zero, List.cons_append, List.nil_append, List.append_nil, List.getElem?_cons_zero, List.getElem?_cons_succ, List.set_cons_zero, List.set_cons_succ, Nat.reduceAdd, Nat.reduceSub, V.int.injEq, V.bl.injEq, V.ref.injEq, V.str.injEq, exists_eq, exists_eq', exists_eq_left, exists_eq_left', exists_and_left, exists_and_right, Option.some.injEq, List.cons.injEq, and_true, true_and, and_assoc, retV, true_or, or_true, decide_eq_true_eq, if_true, if_false, Bool.false_eq_true, Bool.not_true, Bool.not_false, Bool.not_eq_true', reduceCtorEq, eq_self, decide_true, decide_false, List.length_map, exists_const, false_and, and_false, or_false, false_or, rMin, ↓reduceIte]
        refine ⟨allG R, sqL_of hG, lp, fun M' hM' hle' => ?_⟩
        by_cases hM2 : M' < 0 - 1999
        · rw [if_pos hM2]
          have hl : LowR R := by
            obtain ⟨row, h1, h2⟩ := mem_allG.1 hM'
            exact ⟨row, h1, M', h2, by omega⟩
          exact ⟨by decide, fun p np => q2 hh hl p _ (e1.trans (same_new np)) upd_same⟩
        · rw [if_neg hM2]
          have hl : ¬LowR R := fun ⟨row, h1, g, h2, h3⟩ => by
            have := hle' g (mem_allG.2 ⟨row, h1, h2⟩)
            omega
          exact ⟨by decide, fun p np => q3 hh hl p _ (e1.trans (same_new np)) upd_same⟩
end
end K78
set_option Elab.async false
set_option linter.all false
set_option maxRecDepth 100000
set_option maxHeartbeats 4000000
/-! k78: _law_stays -/
namespace K78
open PySem PySem.Spec PyProof.Rows L2 He HK
def BadC (os : List Int) (k o : Nat) (c d : List Int) : Prop := k ≠ o ∧ d.getD 1 0 = c.getD 1 0 ∧ c.getD 0 0 < d.getD 0 0 ∧ d.getD 0 0 + os.getD o 0 ≤ c.getD 0 0 + os.getD k 0
def Bad (B : List (List (List Int))) (os : List Int) : Prop := ∃ k o c d, k < B.length ∧ o < B.length ∧ c ∈ B.getD k [] ∧ d ∈ B.getD o [] ∧ BadC os k o c d
def sp_stays : Sp := fun vs H Q _ => ∃ (t : V) (oa : Addr) (B : List (List (List Int))) (os : List Int), vs = [t, .ref oa] ∧ TpF (TpF (TpF InA)) No H t B ∧ H oa = some (.lst (os.map V.int)) ∧ os.length = B.length ∧ B.length ≤ 12 ∧ (∀ b ∈ B, b.length ≤ 60 ∧ ∀ c ∈ b, c.length = 2) ∧ (¬Bad B os → RetV (.bl true) H Q) ∧ (Bad B os → RetV (.bl false) H Q)
section
variable {w : World} {K : PySem.W.Frag} {mg : Str → Option Value} {base : Heap}
theorem C__law_stays (S : Sc K mg) : Cal prg w K mg base CX0 "_law_stays" 1 ["bodies", "offsets"] [] sp_stays := by
  refine S.cal (d := d__law_stays) 36 32 sc__law_stays rfl rfl rfl rfl rfl (fun _ _ _ _ _ _ us hl => match us, hl with | [_, _], _ => rfl) (fun vs H Q E h => ?_) (fun f cdv A outer s H vs Q E hr h => ?_)
  · obtain ⟨t, oa, B, os, rfl, _⟩ := h
    rfl
  · obtain ⟨_, oa, B, os, rfl, ⟨a, bs, rfl, ha, hp⟩, hoa, lo, B12, hB, q0, q1⟩ := h
    refine ⟨_, (pss_cons (ps_for PassesOwn.never rfl (pi_range1 rfl (S.free 46) (pa_cons (pe_callB cr_lenA (by rfl) (S.free 42) (by decide +kernel) (pa_cons (pv 0) pa_nil)) pa_nil)) (pg_name (i := 2) sc__law_stays.nd rfl (by first | exact Or.inl rfl | exact Or.inr rfl)) (pss_one (ps_for PassesOwn.never rfl (pi_range1 rfl (S.free 46) (pa_cons (pe_callB cr_lenA (by rfl) (S.free 42) (by decide +kernel) (pa_cons (pv 0) pa_nil)) pa_nil)) (pg_name (i := 3) sc__law_stays.nd rfl (by first | exact Or.inl rfl | exact Or.inr rfl)) (pss_one (ps_for PassesOwn.never rfl (pi_seq (pe_ix ix_tup (pv 0) (pv 2) (fun _ _ => rfl))) (pg_name (i := 4) sc__law_stays.nd rfl (by first | exact Or.inl rfl | exact Or.inr rfl)) (pss_one (ps_for PassesOwn.never rfl (pi_seq (pe_ix ix_tup (pv 0) (pv 3) (fun _ _ => rfl))) (pg_name (i := 5) sc__law_stays.nd rfl (by first | exact Or.inl rfl | exact Or.inr rfl)) (pss_one (ps_if (PW.pt (pw_and (pt_cmpR op_ne (pv 2) (pv 3) (nomark _)) (pw_and (pt_cmpR (op_eqD hr.units) (pe_slice sl_tupA (pv 5) (po_some pe_int) po_none) (pe_slice sl_tupA (pv 4) (po_some pe_int) po_none) (nomark _)) (pw_and1 (pt_cmpR op_gt (pe_ix ix_tup (pv 5) pe_int (fun _ _ => rfl)) (pe_ix ix_tup (pv 4) pe_int (fun _ _ => rfl)) (nomark _)))))) (pss_one (ps_if (pt_cmpR op_le (pe_op op_add (pe_ix ix_tup (pv 5) pe_int (fun _ _ => rfl)) (pe_ix ix_list (pv 1) (pv 3) (fun _ _ => rfl))) (pe_op op_add (pe_ix ix_tup (pv 4) pe_int (fun _ _ => rfl)) (pe_ix ix_list (pv 1) (pv 2) (fun _ _ => rfl))) (nomark _)) (pss_one (ps_ret pe_bl)) pss_nil)) pss_nil)))))))))
      (pss_one (ps_ret pe_bl))), ?_⟩
    have hl : bs.length = B.length := Paired.len hp
    try simp only [wipe, tC, tVar, tChain, rI0, rI, rU, tOp, tUn, tCall, tAnd, tOr, tNot, tNotV, tAndV, tOrV, tTest, tB, tIf, tIfS, tRet, tRetN, tNext, tSeq, tNil, tCons, tAug, ipI, tPar, tAsg, gName, tDrop, tLst, tTup, tCB, tBM, tBM0, tFld_eq, tMkE, tMake, tAugS, gSub, rEq, rAll, rMax, rSum, rAppend, rExtend, rSetL, _root_.L2.start, List.map_cons, List.map_nil, List.length_cons, List.length_nil, List.replicate_succ, List.replicate_zero, List.cons_append, List.nil_append, List.append_nil, List.getElem?_cons_zero, List.getElem?_cons_succ, List.set_cons_zero, List.set_cons_succ, Nat.reduceAdd, Nat.reduceSub, V.int.injEq, V.bl.injEq, V.ref.injEq, V.str.injEq, exists_eq, exists_eq', exists_eq_left, exists_eq_left', exists_and_left, exists_and_right, Option.some.injEq, List.cons.injEq, and_true, true_and, and_assoc, retV, true_or, or_true, decide_eq_true_eq, if_true, if_false, Bool.false_eq_true, Bool.not_true, Bool.not_false, Bool.not_eq_true', reduceCtorEq, eq_self, decide_true, decide_false, List.length_map, exists_const, false_and, and_false, or_false, false_or, ↓reduceIte]
    refine for_go (gives_rng1 (j := B.length) (fun Q h => ?_)) (fun k σ H' => (∃ u2 u3 u4 u5, σ = [some (.ref a), some (.ref oa), u2, u3, u4, u5]) ∧ Same H H' ∧ ∀ k' o c d, k' < k → o < B.length → c ∈ B.getD k' [] → d ∈ B.getD o [] → ¬BadC os k' o c d)
      ⟨⟨_, _, _, _, rfl⟩, Same.refl _, fun _ _ _ _ z => absurd z (Nat.not_lt_zero _)⟩ (fun _ _ _ _ _ => trivial) (fun k y σ H1 hk hy h => ?_) (fun σ H1 h => ?_)
    · try simp only [wipe, tC, tVar, tChain, rI0, rI, rU, tOp, tUn, tCall, tAnd, tOr, tNot, tNotV, tAndV, tOrV, tTest, tB, tIf, tIfS, tRet, tRetN, tNext, tSeq, tNil, tCons, tAug, ipI, tPar, tAsg, gName, tDrop, tLst, tTup, tCB, tBM, tBM0, tFld_eq, tMkE, tMake, tAugS, gSub, rEq, rAll, rMax, rSum, rAppend, rExtend, rSetL, _root_.L2.start, List.map_cons, List.map_nil, List.length_cons, List.length_nil, List.replicate_succ, List.replicate_zero, List.cons_append, List.nil_append, List.append_nil, List.getElem?_cons_zero, List.getElem?_cons_succ, List.set_cons_zero, List.set_cons_succ, Nat.reduceAdd, Nat.reduceSub, V.int.injEq, V.bl.injEq, V.ref.injEq, V.str.injEq, exists_eq, exists_eq', exists_eq_left, exists_eq_left', exists_and_left, exists_and_right, Option.some.injEq, List.cons.injEq, and_true, true_and, and_assoc, retV, true_or, or_true, decide_eq_true_eq, if_true, if_false, Bool.false_eq_true, Bool.not_true, Bool.not_false, Bool.not_eq_true', reduceCtorEq, eq_self, decide_true, decide_false, List.length_map, exists_const, false_and, and_false, or_false, false_or, ↓reduceIte]
      rw [← hl] at h
      exact len_sq (.inr ha) h
    · obtain ⟨⟨u2, u3, u4, u5, rfl⟩, e1, n1⟩ := h
      rw [rngV_len, Int.toNat_natCast] at hk
      rw [Int.toNat_natCast, rngV_get hk, Int.zero_add] at hy
      obtain rfl := Option.some.inj hy
      show tFor _ _ _ _ _ _
      refine for_go (gives_rng1 (j := B.length) (fun Q h => ?_)) (fun o σ H' => (∃ u3 u4 u5, σ = [some (.ref a), some (.ref oa), some (.int (k : Nat)), u3, u4, u5]) ∧ Same H H' ∧ ∀ o' c d, o' < o → c ∈ B.getD k [] → d ∈ B.getD o' [] → ¬BadC os k o' c d)
        ⟨⟨_, _, _, rfl⟩, e1, fun _ _ _ z => absurd z (Nat.not_lt_zero _)⟩ (fun _ _ _ _ _ => trivial) (fun o y σ H2 ho hy h => ?_) (fun σ H2 h => ?_)
      · try simp only [wipe, tC, tVar, tChain, rI0, rI, rU, tOp, tUn, tCall, tAnd, tOr, tNot, tNotV, tAndV, tOrV, tTest, tB, tIf, tIfS, tRet, tRetN, tNext, tSeq, tNil, tCons, tAug, ipI, tPar, tAsg, gName, tDrop, tLst, tTup, tCB, tBM, tBM0, tFld_eq, tMkE, tMake, tAugS, gSub, rEq, rAll, rMax, rSum, rAppend, rExtend, rSetL, _root_.L2.start, List.map_cons, List.map_nil, List.length_cons, List.length_nil, List.replicate_succ, List.replicate_zero, List.cons_append, List.nil_append, List.append_nil, List.getElem?_cons_zero, List.getElem?_cons_succ, List.set_cons_zero, List.set_cons_succ, Nat.reduceAdd, Nat.reduceSub, V.int.injEq, V.bl.injEq, V.ref.injEq, V.str.injEq, exists_eq, exists_eq', exists_eq_left, exists_eq_left', exists_and_left, exists_and_right, Option.some.injEq, List.cons.injEq, and_true, true_and, and_assoc, retV, true_or, or_true, decide_eq_true_eq, if_true, if_false, Bool.false_eq_true, Bool.not_true, Bool.not_false, Bool.not_eq_true', reduceCtorEq, eq_self, decide_true, decide_false, List.length_map, exists_const, false_and, and_false, or_false, false_or, ↓reduceIte]
        rw [← hl] at h
        exact len_sq (.inr (e1 _ _ ha)) h
      · obtain ⟨⟨u3, u4, u5, rfl⟩, e2, n2⟩ := h
        rw [rngV_len, Int.toNat_natCast] at ho
        rw [Int.toNat_natCast, rngV_get ho, Int.zero_add] at hy
        obtain rfl := Option.some.inj hy
        obtain ⟨vb, hvb⟩ := getI (xs := bs) (i := k) (by omega)
        obtain ⟨vo, hvo⟩ := getI (xs := bs) (i := o) (by omega)
        obtain ⟨cs, hcs, ab, xb, rfl, hab, hxb⟩ := Paired.at hp hvb
        obtain ⟨ds, hds, ao, xo, rfl, hao, hxo⟩ := Paired.at hp hvo
        have gcs : B.getD k [] = cs := by simp [List.getD, hcs]
        have gds : B.getD o [] = ds := by simp [List.getD, hds]
        obtain ⟨c60, c2⟩ := hB cs (List.mem_of_getElem? hcs)
        obtain ⟨d60, d2⟩ := hB ds (List.mem_of_getElem? hds)
        obtain ⟨xk, hxk⟩ := getI (xs := os) (i := k) (by omega)
        obtain ⟨xo', hxo'⟩ := getI (xs := os) (i := o) (by omega)
        have gk : os.getD k 0 = xk := getD_of hxk
        have go : os.getD o 0 = xo' := getD_of hxo'
        show tFor _ _ _ _ _ _
        refine for_go (gives_sq (xs := xb) (a := ab) (fun Q h => ?_) (.inr (e2 _ _ hab))) (fun i σ H' => (∃ u4 u5, σ = [some (.ref a), some (.ref oa), some (.int (k : Nat)), some (.int (o : Nat)), u4, u5]) ∧ Same H H' ∧ ∀ c d, c ∈ cs.take i → d ∈ ds → ¬BadC os k o c d)
          ⟨⟨_, _, rfl⟩, e2, fun c d z => absurd z (by simp)⟩ (fun i σ H' _ h => ?_) (fun i y σ H4 hi hy h => ?_) (fun σ H4 h => ?_)
        · try simp only [wipe, tC, tVar, tChain, rI0, rI, rU, tOp, tUn, tCall, tAnd, tOr, tNot, tNotV, tAndV, tOrV, tTest, tB, tIf, tIfS, tRet, tRetN, tNext, tSeq, tNil, tCons, tAug, ipI, tPar, tAsg, gName, tDrop, tLst, tTup, tCB, tBM, tBM0, tFld_eq, tMkE, tMake, tAugS, gSub, rEq, rAll, rMax, rSum, rAppend, rExtend, rSetL, _root_.L2.start, List.map_cons, List.map_nil, List.length_cons, List.length_nil, List.replicate_succ, List.replicate_zero, List.cons_append, List.nil_append, List.append_nil, List.getElem?_cons_zero, List.getElem?_cons_succ, List.set_cons_zero, List.set_cons_succ, Nat.reduceAdd, Nat.reduceSub, V.int.injEq, V.bl.injEq, V.ref.injEq, V.str.injEq, exists_eq, exists_eq', exists_eq_left, exists_eq_left', exists_and_left, exists_and_right, Option.some.injEq, List.cons.injEq, and_true, true_and, and_assoc, retV, true_or, or_true, decide_eq_true_eq, if_true, if_false, Bool.false_eq_true, Bool.not_true, Bool.not_false, Bool.not_eq_true', reduceCtorEq, eq_self, decide_true, decide_false, List.length_map, exists_const, false_and, and_false, or_false, false_or, ↓reduceIte]
          exact ixt_at (e2 _ _ ha) hvb h
        · rw [h.2.1 _ _ hab, e2 _ _ hab]
        · obtain ⟨⟨u4, u5, rfl⟩, e4, n4⟩ := h
          obtain ⟨c, hc, tc, nc, rfl, htc, hcp⟩ := Paired.at hxb hy
          obtain rfl := ina_eq hcp
          have lc := c2 c (List.mem_of_getElem? hc)
          obtain ⟨c0, c1, rfl⟩ : ∃ x y, c = [x, y] := by
            match c, lc with
            | [x, y], _ => exact ⟨x, y, rfl⟩
          show tFor _ _ _ _ _ _
          refine for_go (gives_sq (xs := xo) (a := ao) (fun Q h => ?_) (.inr (e4 _ _ hao))) (fun n σ H' => (∃ u5, σ = [some (.ref a), some (.ref oa), some (.int (k : Nat)), some (.int (o : Nat)), some (.ref tc), u5]) ∧ Same H H' ∧ ∀ d, d ∈ ds.take n → ¬BadC os k o [c0, c1] d)
            ⟨⟨_, rfl⟩, e4, fun d z => absurd z (by simp)⟩ (fun n σ H' _ h => ?_) (fun n y σ H5 hn hy5 h => ?_) (fun σ H5 h => ?_)
          · try simp only [wipe, tC, tVar, tChain, rI0, rI, rU, tOp, tUn, tCall, tAnd, tOr, tNot, tNotV, tAndV, tOrV, tTest, tB, tIf, tIfS, tRet, tRetN, tNext, tSeq, tNil, tCons, tAug, ipI, tPar, tAsg, gName, tDrop, tLst, tTup, tCB, tBM, tBM0, tFld_eq, tMkE, tMake, tAugS, gSub, rEq, rAll, rMax, rSum, rAppend, rExtend, rSetL, _root_.L2.start, List.map_cons, List.map_nil, List.length_cons, List.length_nil, List.replicate_succ, List.replicate_zero, List.cons_append, List.nil_append, List.append_nil, List.getElem?_cons_zero, List.getElem?_cons_succ, List.set_cons_zero, List.set_cons_succ, Nat.reduceAdd, Nat.reduceSub, V.int.injEq, V.bl.injEq, V.ref.injEq, V.str.injEq, exists_eq, exists_eq', exists_eq_left, exists_eq_left', exists_and_left, exists_and_right, Option.some.injEq, List.cons.injEq, and_true, true_and, and_assoc, retV, true_or, or_true, decide_eq_true_eq, if_true, if_false, Bool.false_eq_true, Bool.not_true, Bool.not_false, Bool.not_eq_true', reduceCtorEq, eq_self, decide_true, decide_false, List.length_map, exists_const, false_and, and_false, or_false, false_or, ↓reduceIte]
            exact ixt_at (e4 _ _ ha) hvo h
          · rw [h.2.1 _ _ hao, e4 _ _ hao]
          · obtain ⟨⟨u5, rfl⟩, e5, n5⟩ := h
            obtain ⟨d, hd, td, nd, rfl, htd, hdp⟩ := Paired.at hxo hy5
            obtain rfl := ina_eq hdp
            have ld := d2 d (List.mem_of_getElem? hd)
            obtain ⟨d0, d1, rfl⟩ : ∃ x y, d = [x, y] := by
              match d, ld with
              | [x, y], _ => exact ⟨x, y, rfl⟩
            have ext : ¬BadC os k o [c0, c1] [d0, d1] → ∀ d, d ∈ ds.take (n + 1) → ¬BadC os k o [c0, c1] d := fun z d hd' => by
              rw [List.take_succ, hd, Option.toList_some, List.mem_append, List.mem_singleton] at hd'
              rcases hd' with hd' | hd'
              · exact n5 d hd'
              · rw [hd']
                exact z
            have isB : k ≠ o → d1 = c1 → c0 < d0 → d0 + xo' ≤ c0 + xk → Bad B os := fun z1 z2 z3 z4 => by
              refine ⟨k, o, [c0, c1], [d0, d1], hk, ho, by rw [gcs]; exact List.mem_of_getElem? hc, by rw [gds]; exact List.mem_of_getElem? hd, z1, z2, z3, ?_⟩
              rw [gk, go]
              exact z4
            have un : BadC os k o [c0, c1] [d0, d1] → k ≠ o ∧ d1 = c1 ∧ c0 < d0 ∧ d0 + xo' ≤ c0 + xk := fun ⟨z1, z2, z3, z4⟩ => by
              rw [gk, go] at z4
              exact ⟨z1, z2, z3, z4⟩
            try simp only [wipe, tC, tVar, tChain, rI0, rI, rU, tOp, tUn, tCall, tAnd, tOr, tNot, tNotV, tAndV, tOrV, tTest, tB, tIf, tIfS, tRet, tRetN, tNext, tSeq, tNil, tCons, tAug, ipI, tPar, tAsg, gName, tDrop, tLst, tTup, tCB, tBM, tBM0, tFld_eq, tMkE, tMake, tAugS, gSub, rEq, rAll, rMax, rSum, rAppend, rExtend, rSetL, _root_.L2.start, List.map_cons, List.map_nil, List.length_cons, List.length_nil, List.replicate_succ, List.replicate_zero, List.cons_append, List.nil_append, List.append_nil, List.getElem?_cons_zero, List.getElem?_cons_succ, List.set_cons_zero, List.set_cons_succ, Nat.reduceAdd, Nat.reduceSub, V.int.injEq, V.bl.injEq, V.ref.injEq, V.str.injEq, exists_eq, exists_eq', exists_eq_left, exists_eq_left', exists_and_left, exists_and_right, Option.some.injEq, List.cons.injEq, and_true, true_and, and_assoc, retV, true_or, or_true, decide_eq_true_eq, if_true, if_false, Bool.false_eq_true, Bool.not_true, Bool.not_false, Bool.not_eq_true', reduceCtorEq, eq_self, decide_true, decide_false, List.length_map, exists_const, false_and, and_false, or_false, false_or, rNe, scal, tSl, tPart, tNoPart, ↓reduceIte]
            by_cases hko : (k : Int) = (o : Int)
            · rw [if_neg (by simpa using hko)]
              exact ⟨e5, ext fun z => (un z).1 (by omega)⟩
            · rw [if_pos (by simpa using hko)]
              refine sl_one (e5 _ _ htd) fun p1 H6 e6 hp1 => sl_one (e6 _ _ (e5 _ _ htc)) fun p2 H7 e7 hp2 => eq_one (e7 _ _ hp1) hp2 ?_
              have e07 := e5.trans (e6.trans e7)
              try simp only [wipe, tC, tVar, tChain, rI0, rI, rU, tOp, tUn, tCall, tAnd, tOr, tNot, tNotV, tAndV, tOrV, tTest, tB, tIf, tIfS, tRet, tRetN, tNext, tSeq, tNil, tCons, tAug, ipI, tPar, tAsg, gName, tDrop, tLst, tTup, tCB, tBM, tBM0, tFld_eq, tMkE, tMake, tAugS, gSub, rEq, rAll, rMax, rSum, rAppend, rExtend, rSetL, _root_.L2.start, List.map_cons, List.map_nil, List.length_cons, List.length_nil, List.replicate_succ, List.replicate_zero, List.cons_append, List.nil_append, List.append_nil, List.getElem?_cons_zero, List.getElem?_cons_succ, List.set_cons_zero, List.set_cons_succ, Nat.reduceAdd, Nat.reduceSub, V.int.injEq, V.bl.injEq, V.ref.injEq, V.str.injEq, exists_eq, exists_eq', exists_eq_left, exists_eq_left', exists_and_left, exists_and_right, Option.some.injEq, List.cons.injEq, and_true, true_and, and_assoc, retV, true_or, or_true, decide_eq_true_eq, if_true, if_false, Bool.false_eq_true, Bool.not_true, Bool.not_false, Bool.not_eq_true', reduceCtorEq, eq_self, decide_true, decide_false, List.length_map, exists_const, false_and, and_false, or_false, false_or, ↓reduceIte]
              by_cases h1 : d1 = c1
              · rw [if_pos h1]
                refine ixt_at (e07 _ _ htd) (b := 0) rfl (ixt_at (e07 _ _ htc) (b := 0) rfl ?_)
                try simp only [wipe, tC, tVar, tChain, rI0, rI, rU, tOp, tUn, tCall, tAnd, tOr, tNot, tNotV, tAndV, tOrV, tTest, tB, tIf, tIfS, tRet, tRetN, tNext, tSeq, tNil, tCons, tAug, ipI, tPar, tAsg, gName, tDrop, tLst, tTup, tCB, tBM, tBM0, tFld_eq, tMkE, tMake, tAugS, gSub, rEq, rAll, rMax, rSum, rAppend, rExtend, rSetL, _root_.L2.start, List.map_cons, List.map_nil, List.length_cons, List.length_nil, List.replicate_succ, List.replicate_zero, List.cons_append, List.nil_append, List.append_nil, List.getElem?_cons_zero, List.getElem?_cons_succ, List.set_cons_zero, List.set_cons_succ, Nat.reduceAdd, Nat.reduceSub, V.int.injEq, V.bl.injEq, V.ref.injEq, V.str.injEq, exists_eq, exists_eq', exists_eq_left, exists_eq_left', exists_and_left, exists_and_right, Option.some.injEq, List.cons.injEq, and_true, true_and, and_assoc, retV, true_or, or_true, decide_eq_true_eq, if_true, if_false, Bool.false_eq_true, Bool.not_true, Bool.not_false, Bool.not_eq_true', reduceCtorEq, eq_self, decide_true, decide_false, List.length_map, exists_const, false_and, and_false, or_false, false_or, ↓reduceIte]
                by_cases h0 : c0 < d0
                · rw [if_pos h0]
                  refine ixt_at (e07 _ _ htd) (b := 0) rfl (ix_at (e07 _ _ hoa) (b := o) (v := .int xo') (by rw [List.getElem?_map, hxo']; rfl) ?_)
                  try simp only [wipe, tC, tVar, tChain, rI0, rI, rU, tOp, tUn, tCall, tAnd, tOr, tNot, tNotV, tAndV, tOrV, tTest, tB, tIf, tIfS, tRet, tRetN, tNext, tSeq, tNil, tCons, tAug, ipI, tPar, tAsg, gName, tDrop, tLst, tTup, tCB, tBM, tBM0, tFld_eq, tMkE, tMake, tAugS, gSub, rEq, rAll, rMax, rSum, rAppend, rExtend, rSetL, _root_.L2.start, List.map_cons, List.map_nil, List.length_cons, List.length_nil, List.replicate_succ, List.replicate_zero, List.cons_append, List.nil_append, List.append_nil, List.getElem?_cons_zero, List.getElem?_cons_succ, List.set_cons_zero, List.set_cons_succ, Nat.reduceAdd, Nat.reduceSub, V.int.injEq, V.bl.injEq, V.ref.injEq, V.str.injEq, exists_eq, exists_eq', exists_eq_left, exists_eq_left', exists_and_left, exists_and_right, Option.some.injEq, List.cons.injEq, and_true, true_and, and_assoc, retV, true_or, or_true, decide_eq_true_eq, if_true, if_false, Bool.false_eq_true, Bool.not_true, Bool.not_false, Bool.not_eq_true', reduceCtorEq, eq_self, decide_true, decide_false, List.length_map, exists_const, false_and, and_false, or_false, false_or, ↓reduceIte]
                  refine ixt_at (e07 _ _ htc) (b := 0) rfl (ix_at (e07 _ _ hoa) (b := k) (v := .int xk) (by rw [List.getElem?_map, hxk]; rfl) ?_)
                  try simp only [wipe, tC, tVar, tChain, rI0, rI, rU, tOp, tUn, tCall, tAnd, tOr, tNot, tNotV, tAndV, tOrV, tTest, tB, tIf, tIfS, tRet, tRetN, tNext, tSeq, tNil, tCons, tAug, ipI, tPar, tAsg, gName, tDrop, tLst, tTup, tCB, tBM, tBM0, tFld_eq, tMkE, tMake, tAugS, gSub, rEq, rAll, rMax, rSum, rAppend, rExtend, rSetL, _root_.L2.start, List.map_cons, List.map_nil, List.length_cons, List.length_nil, List.replicate_succ, List.replicate_zero, List.cons_append, List.nil_append, List.append_nil, List.getElem?_cons_zero, List.getElem?_cons_succ, List.set_cons_zero, List.set_cons_succ, Nat.reduceAdd, Nat.reduceSub, V.int.injEq, V.bl.injEq, V.ref.injEq, V.str.injEq, exists_eq, exists_eq', exists_eq_left, exists_eq_left', exists_and_left, exists_and_right, Option.some.injEq, List.cons.injEq, and_true, true_and, and_assoc, retV, true_or, or_true, decide_eq_true_eq, if_true, if_false, Bool.false_eq_true, Bool.not_true, Bool.not_false, Bool.not_eq_true', reduceCtorEq, eq_self, decide_true, decide_false, List.length_map, exists_const, false_and, and_false, or_false, false_or, ↓reduceIte]
                  by_cases hle : d0 + xo' ≤ c0 + xk
                  · rw [if_pos hle]
                    exact (q1 (isB (by omega) h1 h0 hle)).go e07 rfl
                  · rw [if_neg hle]
                    exact ⟨e07, ext fun z => hle (un z).2.2.2⟩
                · rw [if_neg h0]
                  exact ⟨e07, ext fun z => h0 (un z).2.2.1⟩
              · rw [if_neg h1]
                exact ⟨e07, ext fun z => h1 (un z).2.1⟩
          · obtain ⟨⟨u5, rfl⟩, e5, n5⟩ := h
            refine ⟨⟨_, _, rfl⟩, e5, fun c d hc' hd' => ?_⟩
            have t1 : ds.take xo.length = ds := List.take_of_length_le (by rw [Paired.len hxo]; exact Nat.le_refl _)
            rw [t1] at n5
            rw [List.take_succ, hc, Option.toList_some, List.mem_append, List.mem_singleton] at hc'
            rcases hc' with hc' | hc'
            · exact n4 c d hc' hd'
            · rw [hc']
              exact n5 d hd'
        · obtain ⟨⟨u4, u5, rfl⟩, e4, n4⟩ := h
          refine ⟨⟨_, _, _, rfl⟩, e4, fun o' c d ho' hc' hd' => ?_⟩
          have t1 : cs.take xb.length = cs := List.take_of_length_le (by rw [Paired.len hxb]; exact Nat.le_refl _)
          rw [t1] at n4
          by_cases e : o' = o
          · subst e
            rw [gcs] at hc'
            rw [gds] at hd'
            exact n4 c d hc' hd'
          · exact n2 o' c d (by omega) hc' hd'
      · obtain ⟨⟨u3, u4, u5, rfl⟩, e2, n2⟩ := h
        rw [rngV_len, Int.toNat_natCast] at n2
        refine ⟨⟨_, _, _, _, rfl⟩, e2, fun k' o c d hk' ho hc hd => ?_⟩
        by_cases e : k' = k
        · subst e
          exact n2 o c d ho hc hd
        · exact n1 k' o c d (by omega) ho hc hd
    · obtain ⟨⟨u2, u3, u4, u5, rfl⟩, e1, n1⟩ := h
      rw [rngV_len, Int.toNat_natCast] at n1
      try simp only [wipe, tC, tVar, tChain, rI0, rI, rU, tOp, tUn, tCall, tAnd, tOr, tNot, tNotV, tAndV, tOrV, tTest, tB, tIf, tIfS, tRet, tRetN, tNext, tSeq, tNil, tCons, tAug, ipI, tPar, tAsg, gName, tDrop, tLst, tTup, tCB, tBM, tBM0, tFld_eq, tMkE, tMake, tAugS, gSub, rEq, rAll, rMax, rSum, rAppend, rExtend, rSetL, _root_.L2.start, List.map_cons, List.map_nil, List.length_cons, List.length_nil, List.replicate_succ, List.replicate_zero, List.cons_append, List.nil_append, List.append_nil, List.getElem?_cons_zero, List.getElem?_cons_succ, List.set_cons_zero, List.set_cons_succ, Nat.reduceAdd, Nat.reduceSub, V.int.injEq, V.bl.injEq, V.ref.injEq, V.str.injEq, exists_eq, exists_eq', exists_eq_left, exists_eq_left', exists_and_left, exists_and_right, Option.some.injEq, List.cons.injEq, and_true, true_and, and_assoc, retV, true_or, or_true, decide_eq_true_eq, if_true, if_false, Bool.false_eq_true, Bool.not_true, Bool.not_false, Bool.not_eq_true', reduceCtorEq, eq_self, decide_true, decide_false, List.length_map, exists_const, false_and, and_false, or_false, false_or, ↓reduceIte]
      refine (q0 ?_).go e1 rfl
      rintro ⟨k, o, c, d, h1, h2, h3, h4, h5⟩
      exact n1 k o c d h1 h2 h3 h4 h5
end
end K78
set_option Elab.async false
set_option linter.all false
set_option maxRecDepth 100000
set_option maxHeartbeats 4000000
/-! k78: _law_case_fine -/
namespace K78
open PySem PySem.Spec PyProof.Rows L2 He HK
/-- a pair of values, data beside -/
theorem dp_two {K : PySem.W.Frag} {H : Hp} {p : Addr} {x y : V} {dx dy : PyData} (h : H p = some (.tup [x, y])) (hx : Dp K H x dx) (hy : Dp K H y dy) : Dp K H (.ref p) (.tuple [dx, dy]) := .tup (sqT_of h) (.cons hx (.cons hy .nil))
theorem lay_two {dx dy : PyData} (hx : dx.canLay0 = true) (hy : dy.canLay0 = true) : (PyData.tuple [dx, dy]).canLay0 = true := by
  simp only [PyData.canLay0, PyData.canLayAll0, hx, hy]
  rfl
theorem shaped_two {dx dy : PyData} (hx : dx.canLay0 = true) (hy : dy.canLay0 = true) (h0 : dx.depth = 0) (h1 : dy.depth = 0) : SeqAt.shaped (.tuple [dx, dy]) = true := by
  unfold SeqAt.shaped
  rw [lay_two hx hy]
  simp only [PyData.depth, PyData.depthAll, h0, h1]
  rfl
section
variable {K : PySem.W.Frag} {H : Hp} {Q : VK} {p q : Addr} {x y : V} {dx dy : PyData}
theorem eq_two (h : H p = some (.tup [x, y])) (h' : H q = some (.tup [x, y])) (hx : Dp K H x dx) (hy : Dp K H y dy) (lx : dx.canLay0 = true) (ly : dy.canLay0 = true) (d0 : dx.depth = 0) (d1 : dy.depth = 0) (k : Q (.bl true) H) : rEqD K (.ref p) (.ref q) H Q := by
  refine ⟨_, _, dp_two h hx hy, dp_two h' hx hy, shaped_two lx ly d0 d1, shaped_two lx ly d0 d1, ?_⟩
  rw [SeqAt.eqv_refl _ (lay_two lx ly)]
  exact k
theorem ne_two (h : H p = some (.tup [x, y])) (h' : H q = some (.tup [x, y])) (hx : Dp K H x dx) (hy : Dp K H y dy) (lx : dx.canLay0 = true) (ly : dy.canLay0 = true) (d0 : dx.depth = 0) (d1 : dy.depth = 0) (k : Q (.bl false) H) : rNeD K (.ref p) (.ref q) H Q := by
  refine ⟨_, _, dp_two h hx hy, dp_two h' hx hy, shaped_two lx ly d0 d1, shaped_two lx ly d0 d1, ?_⟩
  rw [SeqAt.eqv_refl _ (lay_two lx ly)]
  exact k
end
/-- two pairs that differ -/
theorem ne_not {K : PySem.W.Frag} {H : Hp} {Q : VK} {p q : Addr} {x y x' y' : V} {dx dy dx' dy' : PyData} (h : H p = some (.tup [x, y])) (h' : H q = some (.tup [x', y'])) (hx : Dp K H x dx) (hy : Dp K H y dy) (hx' : Dp K H x' dx') (hy' : Dp K H y' dy') (lx : dx.canLay0 = true) (ly : dy.canLay0 = true) (lx' : dx'.canLay0 = true) (ly' : dy'.canLay0 = true)
    (d0 : dx.depth = 0) (d1 : dy.depth = 0) (d0' : dx'.depth = 0) (d1' : dy'.depth = 0) (e : PyData.eqv (.tuple [dx, dy]) (.tuple [dx', dy']) = false) (k : Q (.bl true) H) : rNeD K (.ref p) (.ref q) H Q := by
  refine ⟨_, _, dp_two h hx hy, dp_two h' hx' hy', shaped_two lx ly d0 d1, shaped_two lx' ly' d0' d1', ?_⟩
  rw [e]
  exact k
theorem make_gapsA {K : PySem.W.Frag} {H : Hp} {QA : Addr → Hp → Prop} {E : XK} {m : Nat} {v : V} {R : GR} (hv : SqF (SqF OnA) No H v R) (m1 : 1 ≤ m) (O : GapsOk m R) (q : ∀ x H', Same H H' → GapO K m R H' (.ref x) → QA x H') :
    ∀ x dx, H x = none → H dx = none → dx ≠ x → sp_Gaps (ga K "Gaps") [.ref x, .int m, v] (upd (upd H dx (.own x)) x (.ins (ga K "Gaps") dx [])) (fun v H2 => v = .non ∧ QA x H2) E := fun x dx nx ndx hne => by
  have e2 : Same H (upd (upd H dx (.own x)) x (.ins (ga K "Gaps") dx [])) := same_mut (same_new ndx) nx
  refine ⟨x, dx, m, v, R, rfl, upd_same, (fam_sq (fam_sq fam_on)).weak (fun a z => ?_) ((fam_sq (fam_sq fam_on)).same e2 ((fam_sq (fam_sq fam_on)).live hv)), m1, O, fun H' t e ht hb => ⟨rfl, q x _ (fun a u h => e.1 a u (fun z => ?_) (e2 a u h)) ⟨x, dx, t, rfl, ht, hb⟩⟩⟩
  · rcases z with z | z
    · exact z.elim
    · exact .inr (z ▸ nx)
  · rcases z with z | z
    · exact z
    · rw [z, nx] at h
      cases h
theorem rep_lst {H : Hp} {Q : VK} {l : Addr} {v : V} {n : Int} (h : H l = some (.lst [v])) (n0 : 0 ≤ n) (n1 : n ≤ 1000) (q : ∀ p, H p = none → Q (.ref p) (upd H p (.lst (List.replicate n.toNat v)))) : rRep (.ref l) (.int n) H Q :=
  ⟨l, n, [v], rfl, rfl, h, by omega, by omega, Nat.le_trans (by simp only [List.length_cons, List.length_nil]; omega : _ ≤ 1000) (by decide), fun p np => by
    rw [List.flatten_replicate_singleton]
    exact q p np⟩
/-- != of gaps that are alike -/
theorem eq_gap {K : PySem.W.Frag} {H : Hp} {Q : VK} {m : Nat} {R : GR} {g : Bool → Bool} {u v : V} (h : GapO K m R H u) (h' : GapO K m R H v) (k : ∀ H', Same H H' → Q (.bl (g true)) H') : rEqI (ga K "Gaps") (sp_Gaps_eq K) g u v H Q := by
  obtain ⟨a, dx, t, rfl, ha, ht⟩ := id h
  obtain ⟨b, dy, t', rfl, hb, ht'⟩ := id h'
  exact ⟨a, b, dx, dy, _, _, rfl, rfl, ha, hb, _, _, m, R, rfl, h, h', retV.2 fun H' e => ⟨true, rfl, k H' e⟩⟩
/-- the plain law -/
structure Plain (w : World) : Prop where
  ok : ∀ {m : Nat} {R : GR}, 1 ≤ m → GapsOk m R → ¬High R m → ¬Low R m → BodOk w 2 (cellsOf R m)
  lawG : ∀ {m : Nat} {R R' : GR} {B' : List (List (List Int))}, GapsOk m R → ¬High R m → Paired List.Perm B' (cellsOf R m) → LawG B' R' → R' = R
  all : ∀ {m : Nat} {R : GR} {B' : List (List (List Int))}, GapsOk m R → ¬High R m → Paired List.Perm B' (cellsOf R m) → ∀ rows, Paired SrtRow rows (rowsOf 0 (occTo B' m)) → gAll rows (diag m) = R
  stay : ∀ {m : Nat} {R : GR} {B' : List (List (List Int))} {os : List Int}, GapsOk m R → ¬High R m → Paired List.Perm B' (cellsOf R m) → os.length = m → (Brk R os ↔ Bad B' os)
theorem high_iff {m : Nat} {R : GR} (O : GapsOk m R) : HighR R ↔ High R m := by
  constructor
  · rintro ⟨row, h1, g, h2, h3⟩
    obtain ⟨b, hb⟩ := List.getElem?_of_mem h1
    obtain ⟨o, ho⟩ := List.getElem?_of_mem h2
    obtain ⟨l1, l2, _⟩ := O.2.2 b row hb
    have hbm : b < m := by rw [← O.2.1]; exact (List.getElem?_eq_some_iff.1 hb).1
    have hom : o < m := by rw [← l1]; exact (List.getElem?_eq_some_iff.1 ho).1
    have hc : cellT R b o = some g := by unfold cellT; rw [getD_of hb, getD_of ho]
    have hbo : b ≠ o := fun z => by
      subst z
      rw [l2] at ho
      have := Option.some.inj (Option.some.inj ho)
      omega
    refine ⟨[(b : Int), (o : Int)], ?_, by rw [gapOf_two hc]; exact h3⟩
    simp only [prs, prTo, prRow, List.mem_flatMap, List.mem_range]
    exact ⟨b, hbm, o, hom, by rw [if_pos ⟨hbo, by rw [hc]; rfl⟩]; exact List.mem_singleton.2 rfl⟩
  · rintro ⟨p, hp, hg⟩
    obtain ⟨b, o, rfl, hb, ho, hbo, g, hc⟩ := prs_mem hp
    rw [gapOf_two hc] at hg
    obtain ⟨row, c, hr, hcc, e⟩ := cell_at O hb ho
    rw [hc] at e
    exact ⟨row, List.mem_of_getElem? hr, g, e ▸ List.mem_of_getElem? hcc, hg⟩
theorem low_iff {m : Nat} {R : GR} (O : GapsOk m R) : LowR R ↔ Low R m := by
  constructor
  · rintro ⟨row, h1, g, h2, h3⟩
    obtain ⟨b, hb⟩ := List.getElem?_of_mem h1
    obtain ⟨o, ho⟩ := List.getElem?_of_mem h2
    obtain ⟨l1, l2, _⟩ := O.2.2 b row hb
    have hbm : b < m := by rw [← O.2.1]; exact (List.getElem?_eq_some_iff.1 hb).1
    have hom : o < m := by rw [← l1]; exact (List.getElem?_eq_some_iff.1 ho).1
    have hc : cellT R b o = some g := by unfold cellT; rw [getD_of hb, getD_of ho]
    have hbo : b ≠ o := fun z => by
      subst z
      rw [l2] at ho
      have := Option.some.inj (Option.some.inj ho)
      omega
    refine ⟨[(b : Int), (o : Int)], ?_, by rw [gapOf_two hc]; exact h3⟩
    simp only [prs, prTo, prRow, List.mem_flatMap, List.mem_range]
    exact ⟨b, hbm, o, hom, by rw [if_pos ⟨hbo, by rw [hc]; rfl⟩]; exact List.mem_singleton.2 rfl⟩
  · rintro ⟨p, hp, hg⟩
    obtain ⟨b, o, rfl, hb, ho, hbo, g, hc⟩ := prs_mem hp
    rw [gapOf_two hc] at hg
    obtain ⟨row, c, hr, hcc, e⟩ := cell_at O hb ho
    rw [hc] at e
    exact ⟨row, List.mem_of_getElem? hr, g, e ▸ List.mem_of_getElem? hcc, hg⟩
theorem cellsOf_len (R : GR) (m : Nat) : (cellsOf R m).length = m := by rw [cellsOf, List.length_map, List.length_range]
theorem bodO_x {K : PySem.W.Frag} {n : Nat} {B : List (List (List Int))} {H : Hp} {v : V} (h : BodO K n B H v) : ∃ B', BodX K n B' H v ∧ Paired List.Perm B' B := by
  obtain ⟨x, dx, t, e, hx, B', ht, hp⟩ := h
  exact ⟨B', ⟨x, dx, t, e, hx, ht⟩, hp⟩
theorem bods_small {w : World} {n : Nat} {B B' : List (List (List Int))} (O : BodOk w n B) (hp : Paired List.Perm B' B) : ∀ b ∈ B', b.length ≤ 60 ∧ ∀ c ∈ b, c.length = n := fun b hb => by
  obtain ⟨i, hi⟩ := List.getElem?_of_mem hb
  obtain ⟨b2, h2, hpp⟩ := Paired.at hp hi
  have hm := List.mem_of_getElem? h2
  exact ⟨by rw [hpp.length_eq]; exact O.c60 b2 hm, fun c hc => (O.cell b2 hm c (hpp.mem_iff.1 hc)).1⟩
theorem zero_brk {m : Nat} {R : GR} (h : ¬HighR R) : ¬Brk R (List.replicate m 0) := by
  rintro ⟨i, j, row, g, x, y, h1, h2, h3, h4, h5⟩
  have e1 := List.eq_of_mem_replicate (List.mem_of_getElem? h3)
  have e2 := List.eq_of_mem_replicate (List.mem_of_getElem? h4)
  exact h ⟨row, List.mem_of_getElem? h1, g, List.mem_of_getElem? h2, by omega⟩
def sp_case_fine : Sp := fun vs H Q _ => ∃ (b d : Addr) (t : V) (m : Nat) (R : GR), vs = [.ref b, t] ∧ BoxAt b d H ∧ TpF (TpF OnA) No H t R ∧ GapsOk m R ∧ 1 ≤ m ∧ ∀ H', SameO (BoxO b d) H H' → BoxAt b d H' → Q (.bl true) H'
section
variable {w : World} {K : PySem.W.Frag} {mg : Str → Option Value} {base : Heap}
theorem C__law_case_fine (S : Sc K mg) (PL : Plain w) : Cal prg w K mg base CX0 "_law_case_fine" 10 ["box", "rows"] [] sp_case_fine := by
  have C__law_loose := C__law_loose (w := w) (base := base) S
  have C_Gaps := C_Gaps (w := w) (base := base) S
  have C__law_due := C__law_due (w := w) (base := base) S
  have C__law_heard := C__law_heard (w := w) (base := base) S
  have C_bodies_with := C_bodies_with (w := w) (base := base) S
  have C__law_same := C__law_same (w := w) (base := base) S
  have C__law_gaps_of := C__law_gaps_of (w := w) (base := base) S
  have C_gaps_of := C_gaps_of (w := w) (base := base) S
  have C_broken := C_broken (w := w) (base := base) S
  have C__law_pick := C__law_pick (w := w) (base := base) S
  have C__law_draw := C__law_draw (w := w) (base := base) S
  have C__law_stays := C__law_stays (w := w) (base := base) S
  have C_Gaps_eq := C_Gaps_eq (w := w) (base := base) S
  refine S.cal (d := d__law_case_fine) 37 33 sc__law_case_fine rfl rfl rfl rfl rfl (fun _ _ _ _ _ _ us hl => match us, hl with | [_, _], _ => rfl) (fun vs H Q E h => ?_) (fun f cdv A outer s H vs Q E hr h => ?_)
  · obtain ⟨b, d, t, m, R, rfl, _⟩ := h
    rfl
  · obtain ⟨b, d, t, m, R, rfl, hb, hT, O, m1, q⟩ := h
    obtain ⟨ta, us, rfl, hta, htp⟩ := id hT
    have lus : us.length = m := by rw [Paired.len htp, O.2.1]
    refine ⟨_, (pss_cons (ps_par (i := 2) (j := 3) (by rfl) sc__law_case_fine.nd rfl rfl (by decide) rfl rfl (pa_cons (pe_m C_Gaps (hr.mono (by omega)) pass0 (pa_cons (pe_callB cr_lenA (by rfl) (S.free 42) (by decide +kernel) (pa_cons (pv 1) pa_nil)) (pa_cons (pe_c C__law_loose (hr.mono (by omega)) pass0 (pa_cons (pv 0) (pa_cons (pv 1) pa_nil))) pa_nil))) (pa_cons (pe_c C__law_due (hr.mono (by omega)) pass0 (pa_cons (pv 1) pa_nil)) pa_nil)) (by rfl))
      (pss_cons (ps_if (pt_cmpR (op_neD hr.units) (pv 3) (pe_tup (pa_cons pe_str (pa_cons pe_int pa_nil))) (nomark _)) (pss_one (ps_ret (pe_cmpR (op_eqD hr.units) (pe_c C__law_heard (hr.mono (by omega)) pass0 (pa_cons (pv 2) pa_nil)) (pv 3) (nomark _)))) pss_nil)
      (pss_cons (ps_set (i := 4) sc__law_case_fine.nd rfl (by first | exact Or.inl rfl | exact Or.inr rfl) (pe_c C_bodies_with (hr.mono (by omega)) passL (pa_cons (pv 2) pa_nil)))
      (pss_cons (ps_if (PW.pt (pw_or (pt_not (pt_val (pe_callB call_isi (by rfl) (S.free 41) (by decide +kernel) (pa_cons (pv 4) (pa_cons (pe_gc (S.glo 59)) pa_nil))))) (pw_or (pt_cmpR op_ne (pe_fld (pv 4) rfl) pe_int (nomark _)) (pw_or1 (pt_not (pt_val (pe_c C__law_same (hr.mono (by omega)) pass0 (pa_cons (pe_c C__law_gaps_of (hr.mono (by omega)) pass0 (pa_cons (pe_fld (pv 4) rfl) pa_nil)) (pa_cons (pv 1) pa_nil))))))))) (pss_one (ps_ret pe_bl)) pss_nil)
      (pss_cons (ps_if (PW.pt (pw_or (pt_cmpR (op_neC C_Gaps_eq pass0 (hr.mono (by omega))) (pe_c C_gaps_of (hr.mono (by omega)) pass0 (pa_cons (pv 4) (pa_cons pe_int pa_nil))) (pv 2) (nomark _)) (pw_or1 (pt_cmpR op_notN (pe_c C_broken (hr.mono (by omega)) pass0 (pa_cons (pv 2) (pa_cons (pe_op op_rep (pe_lst (pa_cons pe_int pa_nil)) (pe_callB cr_lenA (by rfl) (S.free 42) (by decide +kernel) (pa_cons (pv 1) pa_nil))) pa_nil))) pe_non (nomark _))))) (pss_one (ps_ret pe_bl)) pss_nil)
      (pss_cons (ps_for PassesOwn.never rfl (pi_range1 rfl (S.free 46) (pa_cons pe_int pa_nil)) (pg_name (i := 5) sc__law_case_fine.nd rfl (by first | exact Or.inl rfl | exact Or.inr rfl)) (pss_cons (ps_set (i := 6) sc__law_case_fine.nd rfl (by first | exact Or.inl rfl | exact Or.inr rfl) (pe_c C__law_pick (hr.mono (by omega)) pass0 (pa_cons (pv 0) (pa_cons (pe_lst (pa_cons pe_int (pa_cons pe_int (pa_cons pe_int pa_nil)))) pa_nil))))
      (pss_cons (ps_setLc (i := 7) (own := [("row", 8)]) (g := (gName 8)) (tt := tYes) rfl sc__law_case_fine.nd rfl rfl (sw_true rfl rfl rfl (by decide +kernel)) (pi_seq (pv 1)) (blkOk_by (N := ["box", "rows", "gaps", "due", "bodies", "turn", "far", "offsets", "row"]) (sc := defScope s__law_case_fine) (by decide +kernel)) (fun _ _ _ _ _ => (pg_name (i := 8) sc__law_case_fine.nd rfl (by first | exact Or.inl rfl | exact Or.inr rfl))) (fun _ _ _ _ _ => pts_nil) (fun _ _ _ _ _ => (pe_op op_sub (pe_c C__law_draw (hr.mono (by omega)) pass0 (pa_cons (pv 0) (pa_cons (pe_op op_add (pe_op op_mul pe_int (pv 6)) pe_int) pa_nil))) (pv 6))))
      (pss_one (ps_if (pt_cmpR op_ne (pe_cmpR op_isN (pe_c C_broken (hr.mono (by omega)) pass0 (pa_cons (pv 2) (pa_cons (pe_callTy cr_lstA (by rfl) (S.free 43) (by decide +kernel) (pa_cons (pv 7) pa_nil)) pa_nil))) pe_non (nomark _)) (pe_c C__law_stays (hr.mono (by omega)) pass0 (pa_cons (pe_fld (pv 4) rfl) (pa_cons (pv 7) pa_nil))) (nomark _)) (pss_one (ps_ret pe_bl)) pss_nil)))))
      (pss_one (ps_ret pe_bl)))))))), ?_⟩
    try simp only [wipe, tC, tVar, tChain, rI0, rI, rU, tOp, tUn, tCall, tAnd, tOr, tNot, tNotV, tAndV, tOrV, tTest, tB, tIf, tIfS, tRet, tRetN, tNext, tSeq, tNil, tCons, tAug, ipI, tPar, tAsg, gName, tDrop, tLst, tTup, tCB, tBM, tBM0, tFld_eq, tMkE, tMake, tAugS, gSub, rEq, rAll, rMax, rSum, rAppend, rExtend, rSetL, _root_.L2.start, List.map_cons, List.map_nil, List.length_cons, List.length_nil, List.replicate_succ, List.replicate_zero, List.cons_append, List.nil_append, List.append_nil, List.getElem?_cons_zero, List.getElem?_cons_succ, List.set_cons_zero, List.set_cons_succ, Nat.reduceAdd, Nat.reduceSub, V.int.injEq, V.bl.injEq, V.ref.injEq, V.str.injEq, exists_eq, exists_eq', exists_eq_left, exists_eq_left', exists_and_left, exists_and_right, Option.some.injEq, List.cons.injEq, and_true, true_and, and_assoc, retV, true_or, or_true, decide_eq_true_eq, if_true, if_false, Bool.false_eq_true, Bool.not_true, Bool.not_false, Bool.not_eq_true', reduceCtorEq, eq_self, decide_true, decide_false, List.length_map, exists_const, false_and, and_false, or_false, false_or, ↓reduceIte]
    refine len_sq (.inr hta) ?_
    try simp only [wipe, tC, tVar, tChain, rI0, rI, rU, tOp, tUn, tCall, tAnd, tOr, tNot, tNotV, tAndV, tOrV, tTest, tB, tIf, tIfS, tRet, tRetN, tNext, tSeq, tNil, tCons, tAug, ipI, tPar, tAsg, gName, tDrop, tLst, tTup, tCB, tBM, tBM0, tFld_eq, tMkE, tMake, tAugS, gSub, rEq, rAll, rMax, rSum, rAppend, rExtend, rSetL, _root_.L2.start, List.map_cons, List.map_nil, List.length_cons, List.length_nil, List.replicate_succ, List.replicate_zero, List.cons_append, List.nil_append, List.append_nil, List.getElem?_cons_zero, List.getElem?_cons_succ, List.set_cons_zero, List.set_cons_succ, Nat.reduceAdd, Nat.reduceSub, V.int.injEq, V.bl.injEq, V.ref.injEq, V.str.injEq, exists_eq, exists_eq', exists_eq_left, exists_eq_left', exists_and_left, exists_and_right, Option.some.injEq, List.cons.injEq, and_true, true_and, and_assoc, retV, true_or, or_true, decide_eq_true_eq, if_true, if_false, Bool.false_eq_true, Bool.not_true, Bool.not_false, Bool.not_eq_true', reduceCtorEq, eq_self, decide_true, decide_false, List.length_map, exists_const, false_and, and_false, or_false, false_or, ↓reduceIte]
    rw [lus]
    refine ⟨b, d, .ref ta, R, rfl, hb, hT, okG_of O, fun v' H1 e1 b1 r => ?_⟩
    try simp only [wipe, tC, tVar, tChain, rI0, rI, rU, tOp, tUn, tCall, tAnd, tOr, tNot, tNotV, tAndV, tOrV, tTest, tB, tIf, tIfS, tRet, tRetN, tNext, tSeq, tNil, tCons, tAug, ipI, tPar, tAsg, gName, tDrop, tLst, tTup, tCB, tBM, tBM0, tFld_eq, tMkE, tMake, tAugS, gSub, rEq, rAll, rMax, rSum, rAppend, rExtend, rSetL, _root_.L2.start, List.map_cons, List.map_nil, List.length_cons, List.length_nil, List.replicate_succ, List.replicate_zero, List.cons_append, List.nil_append, List.append_nil, List.getElem?_cons_zero, List.getElem?_cons_succ, List.set_cons_zero, List.set_cons_succ, Nat.reduceAdd, Nat.reduceSub, V.int.injEq, V.bl.injEq, V.ref.injEq, V.str.injEq, exists_eq, exists_eq', exists_eq_left, exists_eq_left', exists_and_left, exists_and_right, Option.some.injEq, List.cons.injEq, and_true, true_and, and_assoc, retV, true_or, or_true, decide_eq_true_eq, if_true, if_false, Bool.false_eq_true, Bool.not_true, Bool.not_false, Bool.not_eq_true', reduceCtorEq, eq_self, decide_true, decide_false, List.length_map, exists_const, false_and, and_false, or_false, false_or, ↓reduceIte]
    refine make_gapsA ((fam_sq (fam_sq fam_on)).weak (fun _ z => z.elim) r) m1 O fun gx H2 e2 hG => ?_
    have hT2 : TpF (TpF OnA) No H2 (.ref ta) R := (famT_tp (famT_tp famT_on)).tk (e1.2.1.trans (.of e2)) hT
    have e02 := e1.trans (SameO.of e2)
    have b2 := b1.same e2
    try simp only [wipe, tC, tVar, tChain, rI0, rI, rU, tOp, tUn, tCall, tAnd, tOr, tNot, tNotV, tAndV, tOrV, tTest, tB, tIf, tIfS, tRet, tRetN, tNext, tSeq, tNil, tCons, tAug, ipI, tPar, tAsg, gName, tDrop, tLst, tTup, tCB, tBM, tBM0, tFld_eq, tMkE, tMake, tAugS, gSub, rEq, rAll, rMax, rSum, rAppend, rExtend, rSetL, _root_.L2.start, List.map_cons, List.map_nil, List.length_cons, List.length_nil, List.replicate_succ, List.replicate_zero, List.cons_append, List.nil_append, List.append_nil, List.getElem?_cons_zero, List.getElem?_cons_succ, List.set_cons_zero, List.set_cons_succ, Nat.reduceAdd, Nat.reduceSub, V.int.injEq, V.bl.injEq, V.ref.injEq, V.str.injEq, exists_eq, exists_eq', exists_eq_left, exists_eq_left', exists_and_left, exists_and_right, Option.some.injEq, List.cons.injEq, and_true, true_and, and_assoc, retV, true_or, or_true, decide_eq_true_eq, if_true, if_false, Bool.false_eq_true, Bool.not_true, Bool.not_false, Bool.not_eq_true', reduceCtorEq, eq_self, decide_true, decide_false, List.length_map, exists_const, false_and, and_false, or_false, false_or, ↓reduceIte]
    refine ⟨.ref ta, m, R, rfl, hT2, O, m1, fun hH p H3 e3 hp => ?_, fun hH hL p H3 e3 hp => ?_, fun hH hL p H3 e3 hp => ?_⟩
    · try simp only [wipe, tC, tVar, tChain, rI0, rI, rU, tOp, tUn, tCall, tAnd, tOr, tNot, tNotV, tAndV, tOrV, tTest, tB, tIf, tIfS, tRet, tRetN, tNext, tSeq, tNil, tCons, tAug, ipI, tPar, tAsg, gName, tDrop, tLst, tTup, tCB, tBM, tBM0, tFld_eq, tMkE, tMake, tAugS, gSub, rEq, rAll, rMax, rSum, rAppend, rExtend, rSetL, _root_.L2.start, List.map_cons, List.map_nil, List.length_cons, List.length_nil, List.replicate_succ, List.replicate_zero, List.cons_append, List.nil_append, List.append_nil, List.getElem?_cons_zero, List.getElem?_cons_succ, List.set_cons_zero, List.set_cons_succ, Nat.reduceAdd, Nat.reduceSub, V.int.injEq, V.bl.injEq, V.ref.injEq, V.str.injEq, exists_eq, exists_eq', exists_eq_left, exists_eq_left', exists_and_left, exists_and_right, Option.some.injEq, List.cons.injEq, and_true, true_and, and_assoc, retV, true_or, or_true, decide_eq_true_eq, if_true, if_false, Bool.false_eq_true, Bool.not_true, Bool.not_false, Bool.not_eq_true', reduceCtorEq, eq_self, decide_true, decide_false, List.length_map, exists_const, false_and, and_false, or_false, false_or, ↓reduceIte]
      refine ⟨by decide, fun p2 np2 => ?_⟩
      have e4 : Same H3 (upd H3 p2 (.tup [.str "told", .int 2])) := same_new np2
      have hp4 := e4 _ _ hp
      refine ne_not hp4 upd_same (.str _) (.int _) (.str _) (.int _) (by decide +kernel) (by decide +kernel) (by decide +kernel) (by decide +kernel) rfl rfl rfl rfl (by decide +kernel) ?_
      try simp only [wipe, tC, tVar, tChain, rI0, rI, rU, tOp, tUn, tCall, tAnd, tOr, tNot, tNotV, tAndV, tOrV, tTest, tB, tIf, tIfS, tRet, tRetN, tNext, tSeq, tNil, tCons, tAug, ipI, tPar, tAsg, gName, tDrop, tLst, tTup, tCB, tBM, tBM0, tFld_eq, tMkE, tMake, tAugS, gSub, rEq, rAll, rMax, rSum, rAppend, rExtend, rSetL, _root_.L2.start, List.map_cons, List.map_nil, List.length_cons, List.length_nil, List.replicate_succ, List.replicate_zero, List.cons_append, List.nil_append, List.append_nil, List.getElem?_cons_zero, List.getElem?_cons_succ, List.set_cons_zero, List.set_cons_succ, Nat.reduceAdd, Nat.reduceSub, V.int.injEq, V.bl.injEq, V.ref.injEq, V.str.injEq, exists_eq, exists_eq', exists_eq_left, exists_eq_left', exists_and_left, exists_and_right, Option.some.injEq, List.cons.injEq, and_true, true_and, and_assoc, retV, true_or, or_true, decide_eq_true_eq, if_true, if_false, Bool.false_eq_true, Bool.not_true, Bool.not_false, Bool.not_eq_true', reduceCtorEq, eq_self, decide_true, decide_false, List.length_map, exists_const, false_and, and_false, or_false, false_or, ↓reduceIte]
      have hh : High R m := (high_iff O).1 hH
      refine ⟨.ref gx, rfl, .inr ⟨m, R, same_gap (e3.trans e4) hG, O, m1, fun _ p5 H5 e5 hp5 => ?_, fun z => absurd hh z⟩⟩
      exact eq_two hp5 (e5 _ _ hp4) (.str _) (.int _) (by decide +kernel) (by decide +kernel) rfl rfl (q _ (e02.trans (.of (e3.trans (e4.trans e5)))) (b2.same (e3.trans (e4.trans e5))))
    · try simp only [wipe, tC, tVar, tChain, rI0, rI, rU, tOp, tUn, tCall, tAnd, tOr, tNot, tNotV, tAndV, tOrV, tTest, tB, tIf, tIfS, tRet, tRetN, tNext, tSeq, tNil, tCons, tAug, ipI, tPar, tAsg, gName, tDrop, tLst, tTup, tCB, tBM, tBM0, tFld_eq, tMkE, tMake, tAugS, gSub, rEq, rAll, rMax, rSum, rAppend, rExtend, rSetL, _root_.L2.start, List.map_cons, List.map_nil, List.length_cons, List.length_nil, List.replicate_succ, List.replicate_zero, List.cons_append, List.nil_append, List.append_nil, List.getElem?_cons_zero, List.getElem?_cons_succ, List.set_cons_zero, List.set_cons_succ, Nat.reduceAdd, Nat.reduceSub, V.int.injEq, V.bl.injEq, V.ref.injEq, V.str.injEq, exists_eq, exists_eq', exists_eq_left, exists_eq_left', exists_and_left, exists_and_right, Option.some.injEq, List.cons.injEq, and_true, true_and, and_assoc, retV, true_or, or_true, decide_eq_true_eq, if_true, if_false, Bool.false_eq_true, Bool.not_true, Bool.not_false, Bool.not_eq_true', reduceCtorEq, eq_self, decide_true, decide_false, List.length_map, exists_const, false_and, and_false, or_false, false_or, ↓reduceIte]
      refine ⟨by decide, fun p2 np2 => ?_⟩
      have e4 : Same H3 (upd H3 p2 (.tup [.str "told", .int 2])) := same_new np2
      have hp4 := e4 _ _ hp
      refine ne_not hp4 upd_same (.str _) (.str _) (.str _) (.int _) (by decide +kernel) (by decide +kernel) (by decide +kernel) (by decide +kernel) rfl rfl rfl rfl (by decide +kernel) ?_
      try simp only [wipe, tC, tVar, tChain, rI0, rI, rU, tOp, tUn, tCall, tAnd, tOr, tNot, tNotV, tAndV, tOrV, tTest, tB, tIf, tIfS, tRet, tRetN, tNext, tSeq, tNil, tCons, tAug, ipI, tPar, tAsg, gName, tDrop, tLst, tTup, tCB, tBM, tBM0, tFld_eq, tMkE, tMake, tAugS, gSub, rEq, rAll, rMax, rSum, rAppend, rExtend, rSetL, _root_.L2.start, List.map_cons, List.map_nil, List.length_cons, List.length_nil, List.replicate_succ, List.replicate_zero, List.cons_append, List.nil_append, List.append_nil, List.getElem?_cons_zero, List.getElem?_cons_succ, List.set_cons_zero, List.set_cons_succ, Nat.reduceAdd, Nat.reduceSub, V.int.injEq, V.bl.injEq, V.ref.injEq, V.str.injEq, exists_eq, exists_eq', exists_eq_left, exists_eq_left', exists_and_left, exists_and_right, Option.some.injEq, List.cons.injEq, and_true, true_and, and_assoc, retV, true_or, or_true, decide_eq_true_eq, if_true, if_false, Bool.false_eq_true, Bool.not_true, Bool.not_false, Bool.not_eq_true', reduceCtorEq, eq_self, decide_true, decide_false, List.length_map, exists_const, false_and, and_false, or_false, false_or, ↓reduceIte]
      have hh : ¬High R m := fun z => hH ((high_iff O).2 z)
      refine ⟨.ref gx, rfl, .inr ⟨m, R, same_gap (e3.trans e4) hG, O, m1, fun z => absurd z hh, fun _ => ⟨fun _ p5 H5 e5 hp5 => ?_, fun z => absurd ((low_iff O).1 hL) z⟩⟩⟩
      exact eq_two hp5 (e5 _ _ hp4) (.str _) (.str _) (by decide +kernel) (by decide +kernel) rfl rfl (q _ (e02.trans (.of (e3.trans (e4.trans e5)))) (b2.same (e3.trans (e4.trans e5))))
    · try simp only [wipe, tC, tVar, tChain, rI0, rI, rU, tOp, tUn, tCall, tAnd, tOr, tNot, tNotV, tAndV, tOrV, tTest, tB, tIf, tIfS, tRet, tRetN, tNext, tSeq, tNil, tCons, tAug, ipI, tPar, tAsg, gName, tDrop, tLst, tTup, tCB, tBM, tBM0, tFld_eq, tMkE, tMake, tAugS, gSub, rEq, rAll, rMax, rSum, rAppend, rExtend, rSetL, _root_.L2.start, List.map_cons, List.map_nil, List.length_cons, List.length_nil, List.replicate_succ, List.replicate_zero, List.cons_append, List.nil_append, List.append_nil, List.getElem?_cons_zero, List.getElem?_cons_succ, List.set_cons_zero, List.set_cons_succ, Nat.reduceAdd, Nat.reduceSub, V.int.injEq, V.bl.injEq, V.ref.injEq, V.str.injEq, exists_eq, exists_eq', exists_eq_left, exists_eq_left', exists_and_left, exists_and_right, Option.some.injEq, List.cons.injEq, and_true, true_and, and_assoc, retV, true_or, or_true, decide_eq_true_eq, if_true, if_false, Bool.false_eq_true, Bool.not_true, Bool.not_false, Bool.not_eq_true', reduceCtorEq, eq_self, decide_true, decide_false, List.length_map, exists_const, false_and, and_false, or_false, false_or, ↓reduceIte]
      refine ⟨by decide, fun p2 np2 => ?_⟩
      have e4 : Same H3 (upd H3 p2 (.tup [.str "told", .int 2])) := same_new np2
      refine ne_two (e4 _ _ hp) upd_same (.str _) (.int _) (by decide +kernel) (by decide +kernel) rfl rfl ?_
      have hh : ¬High R m := fun z => hH ((high_iff O).2 z)
      have hl : ¬Low R m := fun z => hL ((low_iff O).2 z)
      have OB := PL.ok m1 O hh hl
      have e24 := e3.trans e4
      generalize upd H3 p2 (.tup [.str "told", .int 2]) = H4 at e4 e24
      try simp only [wipe, tC, tVar, tChain, rI0, rI, rU, tOp, tUn, tCall, tAnd, tOr, tNot, tNotV, tAndV, tOrV, tTest, tB, tIf, tIfS, tRet, tRetN, tNext, tSeq, tNil, tCons, tAug, ipI, tPar, tAsg, gName, tDrop, tLst, tTup, tCB, tBM, tBM0, tFld_eq, tMkE, tMake, tAugS, gSub, rEq, rAll, rMax, rSum, rAppend, rExtend, rSetL, _root_.L2.start, List.map_cons, List.map_nil, List.length_cons, List.length_nil, List.replicate_succ, List.replicate_zero, List.cons_append, List.nil_append, List.append_nil, List.getElem?_cons_zero, List.getElem?_cons_succ, List.set_cons_zero, List.set_cons_succ, Nat.reduceAdd, Nat.reduceSub, V.int.injEq, V.bl.injEq, V.ref.injEq, V.str.injEq, exists_eq, exists_eq', exists_eq_left, exists_eq_left', exists_and_left, exists_and_right, Option.some.injEq, List.cons.injEq, and_true, true_and, and_assoc, retV, true_or, or_true, decide_eq_true_eq, if_true, if_false, Bool.false_eq_true, Bool.not_true, Bool.not_false, Bool.not_eq_true', reduceCtorEq, eq_self, decide_true, decide_false, List.length_map, exists_const, false_and, and_false, or_false, false_or, ↓reduceIte]
      refine ⟨.ref gx, rfl, .inr ⟨m, R, same_gap e24 hG, O, m1, fun z => absurd z hh, fun _ => ⟨fun z => absurd z hl, fun _ => ⟨OB, fun bv H5 e5 hbv => ?_⟩⟩⟩⟩
      have e25 := e24.trans e5
      refine isi_bod S hbv ?_
      try simp only [wipe, tC, tVar, tChain, rI0, rI, rU, tOp, tUn, tCall, tAnd, tOr, tNot, tNotV, tAndV, tOrV, tTest, tB, tIf, tIfS, tRet, tRetN, tNext, tSeq, tNil, tCons, tAug, ipI, tPar, tAsg, gName, tDrop, tLst, tTup, tCB, tBM, tBM0, tFld_eq, tMkE, tMake, tAugS, gSub, rEq, rAll, rMax, rSum, rAppend, rExtend, rSetL, _root_.L2.start, List.map_cons, List.map_nil, List.length_cons, List.length_nil, List.replicate_succ, List.replicate_zero, List.cons_append, List.nil_append, List.append_nil, List.getElem?_cons_zero, List.getElem?_cons_succ, List.set_cons_zero, List.set_cons_succ, Nat.reduceAdd, Nat.reduceSub, V.int.injEq, V.bl.injEq, V.ref.injEq, V.str.injEq, exists_eq, exists_eq', exists_eq_left, exists_eq_left', exists_and_left, exists_and_right, Option.some.injEq, List.cons.injEq, and_true, true_and, and_assoc, retV, true_or, or_true, decide_eq_true_eq, if_true, if_false, Bool.false_eq_true, Bool.not_true, Bool.not_false, Bool.not_eq_true', reduceCtorEq, eq_self, decide_true, decide_false, List.length_map, exists_const, false_and, and_false, or_false, false_or, ↓reduceIte]
      refine bod_axes S hbv ?_
      try simp only [wipe, tC, tVar, tChain, rI0, rI, rU, tOp, tUn, tCall, tAnd, tOr, tNot, tNotV, tAndV, tOrV, tTest, tB, tIf, tIfS, tRet, tRetN, tNext, tSeq, tNil, tCons, tAug, ipI, tPar, tAsg, gName, tDrop, tLst, tTup, tCB, tBM, tBM0, tFld_eq, tMkE, tMake, tAugS, gSub, rEq, rAll, rMax, rSum, rAppend, rExtend, rSetL, _root_.L2.start, List.map_cons, List.map_nil, List.length_cons, List.length_nil, List.replicate_succ, List.replicate_zero, List.cons_append, List.nil_append, List.append_nil, List.getElem?_cons_zero, List.getElem?_cons_succ, List.set_cons_zero, List.set_cons_succ, Nat.reduceAdd, Nat.reduceSub, V.int.injEq, V.bl.injEq, V.ref.injEq, V.str.injEq, exists_eq, exists_eq', exists_eq_left, exists_eq_left', exists_and_left, exists_and_right, Option.some.injEq, List.cons.injEq, and_true, true_and, and_assoc, retV, true_or, or_true, decide_eq_true_eq, if_true, if_false, Bool.false_eq_true, Bool.not_true, Bool.not_false, Bool.not_eq_true', reduceCtorEq, eq_self, decide_true, decide_false, List.length_map, exists_const, false_and, and_false, or_false, false_or, rNe, scal, ↓reduceIte]
      rw [if_neg (by simp)]
      obtain ⟨B', hX, hperm⟩ := bodO_x hbv
      have lB : B'.length = m := by rw [Paired.len hperm, cellsOf_len]
      have m12 := O.1
      have hB := bods_small OB hperm
      obtain ⟨xb, xdx, xt, rfl, hxb, hxt⟩ := id hX
      refine fld_at hxb (S.cls 60) (S.noat 66) rfl ?_
      refine ⟨xt, B', rfl, SqF.ofT hxt, by omega, hB, fun t' H6 R' e6 ht' hLG => ?_⟩
      obtain rfl := PL.lawG O hh hperm hLG
      have tT : ∀ {H' : Hp}, Same H2 H' → TpF (TpF OnA) No H' (.ref ta) R' := fun e => (famT_tp (famT_tp famT_on)).tk (.of e) hT2
      try simp only [wipe, tC, tVar, tChain, rI0, rI, rU, tOp, tUn, tCall, tAnd, tOr, tNot, tNotV, tAndV, tOrV, tTest, tB, tIf, tIfS, tRet, tRetN, tNext, tSeq, tNil, tCons, tAug, ipI, tPar, tAsg, gName, tDrop, tLst, tTup, tCB, tBM, tBM0, tFld_eq, tMkE, tMake, tAugS, gSub, rEq, rAll, rMax, rSum, rAppend, rExtend, rSetL, _root_.L2.start, List.map_cons, List.map_nil, List.length_cons, List.length_nil, List.replicate_succ, List.replicate_zero, List.cons_append, List.nil_append, List.append_nil, List.getElem?_cons_zero, List.getElem?_cons_succ, List.set_cons_zero, List.set_cons_succ, Nat.reduceAdd, Nat.reduceSub, V.int.injEq, V.bl.injEq, V.ref.injEq, V.str.injEq, exists_eq, exists_eq', exists_eq_left, exists_eq_left', exists_and_left, exists_and_right, Option.some.injEq, List.cons.injEq, and_true, true_and, and_assoc, retV, true_or, or_true, decide_eq_true_eq, if_true, if_false, Bool.false_eq_true, Bool.not_true, Bool.not_false, Bool.not_eq_true', reduceCtorEq, eq_self, decide_true, decide_false, List.length_map, exists_const, false_and, and_false, or_false, false_or, ↓reduceIte]
      refine ⟨t', .ref ta, R', rfl, ht', tT (e25.trans e6), okG_of O, retV.2 fun H7 e7 => ?_⟩
      try simp only [wipe, tC, tVar, tChain, rI0, rI, rU, tOp, tUn, tCall, tAnd, tOr, tNot, tNotV, tAndV, tOrV, tTest, tB, tIf, tIfS, tRet, tRetN, tNext, tSeq, tNil, tCons, tAug, ipI, tPar, tAsg, gName, tDrop, tLst, tTup, tCB, tBM, tBM0, tFld_eq, tMkE, tMake, tAugS, gSub, rEq, rAll, rMax, rSum, rAppend, rExtend, rSetL, _root_.L2.start, List.map_cons, List.map_nil, List.length_cons, List.length_nil, List.replicate_succ, List.replicate_zero, List.cons_append, List.nil_append, List.append_nil, List.getElem?_cons_zero, List.getElem?_cons_succ, List.set_cons_zero, List.set_cons_succ, Nat.reduceAdd, Nat.reduceSub, V.int.injEq, V.bl.injEq, V.ref.injEq, V.str.injEq, exists_eq, exists_eq', exists_eq_left, exists_eq_left', exists_and_left, exists_and_right, Option.some.injEq, List.cons.injEq, and_true, true_and, and_assoc, retV, true_or, or_true, decide_eq_true_eq, if_true, if_false, Bool.false_eq_true, Bool.not_true, Bool.not_false, Bool.not_eq_true', reduceCtorEq, eq_self, decide_true, decide_false, List.length_map, exists_const, false_and, and_false, or_false, false_or, ↓reduceIte]
      have e57 := e6.trans e7
      have e27 := e25.trans e57
      have hX7 : BodX K 2 B' H7 (.ref xb) := ⟨xb, xdx, xt, rfl, e57 _ _ hxb, (famT_tp (famT_tp (famT_tp famT_in))).tk (.of e57) hxt⟩
      refine ⟨.ref xb, 2, B', 0, R', rfl, hX7, by decide, by decide, by omega, by omega, hB, by rw [lB]; exact O, by rw [lB]; exact PL.all O hh hperm, fun gv H8 e8 hg => ?_⟩
      rw [lB] at hg
      refine eq_gap hg (same_gap (e27.trans e8) hG) fun H9 e9 => ?_
      have e79 := e8.trans e9
      try simp only [wipe, tC, tVar, tChain, rI0, rI, rU, tOp, tUn, tCall, tAnd, tOr, tNot, tNotV, tAndV, tOrV, tTest, tB, tIf, tIfS, tRet, tRetN, tNext, tSeq, tNil, tCons, tAug, ipI, tPar, tAsg, gName, tDrop, tLst, tTup, tCB, tBM, tBM0, tFld_eq, tMkE, tMake, tAugS, gSub, rEq, rAll, rMax, rSum, rAppend, rExtend, rSetL, _root_.L2.start, List.map_cons, List.map_nil, List.length_cons, List.length_nil, List.replicate_succ, List.replicate_zero, List.cons_append, List.nil_append, List.append_nil, List.getElem?_cons_zero, List.getElem?_cons_succ, List.set_cons_zero, List.set_cons_succ, Nat.reduceAdd, Nat.reduceSub, V.int.injEq, V.bl.injEq, V.ref.injEq, V.str.injEq, exists_eq, exists_eq', exists_eq_left, exists_eq_left', exists_and_left, exists_and_right, Option.some.injEq, List.cons.injEq, and_true, true_and, and_assoc, retV, true_or, or_true, decide_eq_true_eq, if_true, if_false, Bool.false_eq_true, Bool.not_true, Bool.not_false, Bool.not_eq_true', reduceCtorEq, eq_self, decide_true, decide_false, List.length_map, exists_const, false_and, and_false, or_false, false_or, ↓reduceIte]
      have hta9 : H9 ta = some (.tup us) := (e27.trans e79) _ _ (e2 _ _ ((e1.2.1 ta).1 _ hta))
      refine ⟨by decide, fun p3 np3 => ?_⟩
      have e10 := same_new (o := .lst [V.int 0]) np3
      refine len_sq (.inr (e10 _ _ hta9)) ?_
      try simp only [wipe, tC, tVar, tChain, rI0, rI, rU, tOp, tUn, tCall, tAnd, tOr, tNot, tNotV, tAndV, tOrV, tTest, tB, tIf, tIfS, tRet, tRetN, tNext, tSeq, tNil, tCons, tAug, ipI, tPar, tAsg, gName, tDrop, tLst, tTup, tCB, tBM, tBM0, tFld_eq, tMkE, tMake, tAugS, gSub, rEq, rAll, rMax, rSum, rAppend, rExtend, rSetL, _root_.L2.start, List.map_cons, List.map_nil, List.length_cons, List.length_nil, List.replicate_succ, List.replicate_zero, List.cons_append, List.nil_append, List.append_nil, List.getElem?_cons_zero, List.getElem?_cons_succ, List.set_cons_zero, List.set_cons_succ, Nat.reduceAdd, Nat.reduceSub, V.int.injEq, V.bl.injEq, V.ref.injEq, V.str.injEq, exists_eq, exists_eq', exists_eq_left, exists_eq_left', exists_and_left, exists_and_right, Option.some.injEq, List.cons.injEq, and_true, true_and, and_assoc, retV, true_or, or_true, decide_eq_true_eq, if_true, if_false, Bool.false_eq_true, Bool.not_true, Bool.not_false, Bool.not_eq_true', reduceCtorEq, eq_self, decide_true, decide_false, List.length_map, exists_const, false_and, and_false, or_false, false_or, ↓reduceIte]
      refine rep_lst upd_same (by omega) (by omega) fun p4 np4 => ?_
      have e11 := same_new (o := .lst (List.replicate ((us.length : Nat) : Int).toNat (V.int 0))) np4
      have e2b := e27.trans (e79.trans (e10.trans e11))
      have hp4 : (upd (upd H9 p3 (.lst [V.int 0])) p4 (.lst (List.replicate ((us.length : Nat) : Int).toNat (V.int 0)))) p4 = some (.lst ((List.replicate m (0 : Int)).map V.int)) := by rw [upd_same, Int.toNat_natCast, lus, List.map_replicate]
      have e7b := e79.trans (e10.trans e11)
      generalize upd (upd H9 p3 (.lst [V.int 0])) p4 (.lst (List.replicate ((us.length : Nat) : Int).toNat (V.int 0))) = H11 at e2b hp4 e7b
      refine ⟨.ref gx, .ref p4, m, R', List.replicate m 0, rfl, same_gap e2b hG, O, ⟨p4, _, rfl, fun z => z, .inl hp4, ina_of _⟩, List.length_replicate, fun x hx => by rw [List.eq_of_mem_replicate hx]; decide, fun _ => retV.2 fun H12 e12 => ?_, fun z => absurd z (zero_brk hH)⟩
      try simp only [wipe, tC, tVar, tChain, rI0, rI, rU, tOp, tUn, tCall, tAnd, tOr, tNot, tNotV, tAndV, tOrV, tTest, tB, tIf, tIfS, tRet, tRetN, tNext, tSeq, tNil, tCons, tAug, ipI, tPar, tAsg, gName, tDrop, tLst, tTup, tCB, tBM, tBM0, tFld_eq, tMkE, tMake, tAugS, gSub, rEq, rAll, rMax, rSum, rAppend, rExtend, rSetL, _root_.L2.start, List.map_cons, List.map_nil, List.length_cons, List.length_nil, List.replicate_succ, List.replicate_zero, List.cons_append, List.nil_append, List.append_nil, List.getElem?_cons_zero, List.getElem?_cons_succ, List.set_cons_zero, List.set_cons_succ, Nat.reduceAdd, Nat.reduceSub, V.int.injEq, V.bl.injEq, V.ref.injEq, V.str.injEq, exists_eq, exists_eq', exists_eq_left, exists_eq_left', exists_and_left, exists_and_right, Option.some.injEq, List.cons.injEq, and_true, true_and, and_assoc, retV, true_or, or_true, decide_eq_true_eq, if_true, if_false, Bool.false_eq_true, Bool.not_true, Bool.not_false, Bool.not_eq_true', reduceCtorEq, eq_self, decide_true, decide_false, List.length_map, exists_const, false_and, and_false, or_false, false_or, ↓reduceIte]
      have e2c := e2b.trans e12
      have e0c := e02.trans (SameO.of e2c)
      have bc := b2.same e2c
      have hxb12 := (e57.trans (e7b.trans e12)) _ _ hxb
      have hxt12 : TpF (TpF (TpF InA)) No H12 xt B' := (famT_tp (famT_tp (famT_tp famT_in))).tk (.of (e57.trans (e7b.trans e12))) hxt
      have hta12 : H12 ta = some (.tup us) := (e7b.trans e12) _ _ (e27 _ _ (e2 _ _ ((e1.2.1 ta).1 _ hta)))
      have hG12 := same_gap e2c hG
      have off : ∀ {z : Addr} {C dx : Addr} {fs : List (Str × V)}, H12 z = some (.ins C dx fs) → ¬BoxO b d z := fun {z C dx fs} hz hb => by
        obtain ⟨ds, st, h1, h2, _⟩ := bc.at_
        rcases hb with rfl | rfl
        · rw [h1] at hz; cases hz
        · rw [h2] at hz; cases hz
      have nxb := off hxb12
      obtain ⟨gx', gdx, gt, egx, hgx12, hgt12⟩ := id hG12
      obtain rfl := V.ref.inj egx
      have nG := off hgx12
      have gap_so : ∀ {H' : Hp}, SameO (BoxO b d) H12 H' → GapO K m R' H' (.ref gx) := fun e => ⟨gx, gdx, gt, rfl, e.1 _ _ nG hgx12, famT_gap e.2.1 hgt12⟩
      refine for_go (gives_rng1 (j := 4) (fun Q h => h)) (fun i σ H' => (∃ u5 u6 u7 u8, σ = [some (.ref b), some (.ref ta), some (.ref gx), some (.ref p), some (.ref xb), u5, u6, u7, u8]) ∧ SameO (BoxO b d) H12 H' ∧ BoxAt b d H')
        ⟨⟨_, _, _, _, rfl⟩, SameO.refl _ _, bc⟩ (fun _ _ _ _ _ => trivial) (fun i y σ H13 hi hy h => ?_) (fun σ H13 h => ?_)
      · obtain ⟨⟨u5, u6, u7, u8, rfl⟩, e13, b13⟩ := h
        try simp only [wipe, tC, tVar, tChain, rI0, rI, rU, tOp, tUn, tCall, tAnd, tOr, tNot, tNotV, tAndV, tOrV, tTest, tB, tIf, tIfS, tRet, tRetN, tNext, tSeq, tNil, tCons, tAug, ipI, tPar, tAsg, gName, tDrop, tLst, tTup, tCB, tBM, tBM0, tFld_eq, tMkE, tMake, tAugS, gSub, rEq, rAll, rMax, rSum, rAppend, rExtend, rSetL, _root_.L2.start, List.map_cons, List.map_nil, List.length_cons, List.length_nil, List.replicate_succ, List.replicate_zero, List.cons_append, List.nil_append, List.append_nil, List.getElem?_cons_zero, List.getElem?_cons_succ, List.set_cons_zero, List.set_cons_succ, Nat.reduceAdd, Nat.reduceSub, V.int.injEq, V.bl.injEq, V.ref.injEq, V.str.injEq, exists_eq, exists_eq', exists_eq_left, exists_eq_left', exists_and_left, exists_and_right, Option.some.injEq, List.cons.injEq, and_true, true_and, and_assoc, retV, true_or, or_true, decide_eq_true_eq, if_true, if_false, Bool.false_eq_true, Bool.not_true, Bool.not_false, Bool.not_eq_true', reduceCtorEq, eq_self, decide_true, decide_false, List.length_map, exists_const, false_and, and_false, or_false, false_or, ↓reduceIte]
        refine ⟨by decide, fun p5 np5 => ?_⟩
        have e14 := same_new (o := .lst [V.int 1, V.int 2, V.int 700]) np5
        refine ⟨b, d, p5, _, rfl, b13.same e14, upd_same, b13.off np5, by simp, by simp, fun fv H15 e15 b15 hfv => ?_⟩
        obtain ⟨far, rfl, f0, f700⟩ : ∃ far : Int, fv = .int far ∧ 0 ≤ far ∧ far ≤ 700 := by
          simp only [List.mem_cons, List.not_mem_nil, or_false] at hfv
          rcases hfv with rfl | rfl | rfl
          · exact ⟨1, rfl, by decide, by decide⟩
          · exact ⟨2, rfl, by decide, by decide⟩
          · exact ⟨700, rfl, by decide, by decide⟩
        have e115 : SameO (BoxO b d) H12 H15 := e13.trans ((SameO.of e14).trans e15)
        have hta15 : H15 ta = some (.tup us) := (e115.2.1 ta).1 _ hta12
        try simp only [wipe, tC, tVar, tChain, rI0, rI, rU, tOp, tUn, tCall, tAnd, tOr, tNot, tNotV, tAndV, tOrV, tTest, tB, tIf, tIfS, tRet, tRetN, tNext, tSeq, tNil, tCons, tAug, ipI, tPar, tAsg, gName, tDrop, tLst, tTup, tCB, tBM, tBM0, tFld_eq, tMkE, tMake, tAugS, gSub, rEq, rAll, rMax, rSum, rAppend, rExtend, rSetL, _root_.L2.start, List.map_cons, List.map_nil, List.length_cons, List.length_nil, List.replicate_succ, List.replicate_zero, List.cons_append, List.nil_append, List.append_nil, List.getElem?_cons_zero, List.getElem?_cons_succ, List.set_cons_zero, List.set_cons_succ, Nat.reduceAdd, Nat.reduceSub, V.int.injEq, V.bl.injEq, V.ref.injEq, V.str.injEq, exists_eq, exists_eq', exists_eq_left, exists_eq_left', exists_and_left, exists_and_right, Option.some.injEq, List.cons.injEq, and_true, true_and, and_assoc, retV, true_or, or_true, decide_eq_true_eq, if_true, if_false, Bool.false_eq_true, Bool.not_true, Bool.not_false, Bool.not_eq_true', reduceCtorEq, eq_self, decide_true, decide_false, List.length_map, exists_const, false_and, and_false, or_false, false_or, ↓reduceIte]
        refine lc_acc (O := BoxO b d) (A := BoxO b d) (I := BoxAt b d) (gives_sq (xs := us) (a := ta) (fun Q h => ⟨_, rfl, h⟩) (.inr hta15)) b15.box (fun H' e => by rw [(e.2.1 ta).1 _ hta15, hta15]) (Nat.le_trans (by omega : us.length ≤ 12) (by decide))
          (fun A k acc H' => ∃ l : List Int, acc = l.map V.int ∧ l.length = k ∧ ∀ x ∈ l, -1000000 ≤ x ∧ x ≤ 1000000) (fun _ _ => ⟨[], rfl, rfl, fun x z => absurd z List.not_mem_nil⟩) (fun _ h => h) (fun _ h => h)
          (fun k y acc H' D N N0 hk hy e bb hA hI hN _ => ?_) fun acc H16 D e16 b16 nD nA hD hI => ?_
        · obtain ⟨l, rfl, ll, lb⟩ := hI
          refine ⟨rfl, ?_⟩
          try simp only [wipe, tC, tVar, tChain, rI0, rI, rU, tOp, tUn, tCall, tAnd, tOr, tNot, tNotV, tAndV, tOrV, tTest, tB, tIf, tIfS, tRet, tRetN, tNext, tSeq, tNil, tCons, tAug, ipI, tPar, tAsg, gName, tDrop, tLst, tTup, tCB, tBM, tBM0, tFld_eq, tMkE, tMake, tAugS, gSub, rEq, rAll, rMax, rSum, rAppend, rExtend, rSetL, _root_.L2.start, List.map_cons, List.map_nil, List.length_cons, List.length_nil, List.replicate_succ, List.replicate_zero, List.cons_append, List.nil_append, List.append_nil, List.getElem?_cons_zero, List.getElem?_cons_succ, List.set_cons_zero, List.set_cons_succ, Nat.reduceAdd, Nat.reduceSub, V.int.injEq, V.bl.injEq, V.ref.injEq, V.str.injEq, exists_eq, exists_eq', exists_eq_left, exists_eq_left', exists_and_left, exists_and_right, Option.some.injEq, List.cons.injEq, and_true, true_and, and_assoc, retV, true_or, or_true, decide_eq_true_eq, if_true, if_false, Bool.false_eq_true, Bool.not_true, Bool.not_false, Bool.not_eq_true', reduceCtorEq, eq_self, decide_true, decide_false, List.length_map, exists_const, false_and, and_false, or_false, false_or, tYes, ↓reduceIte]
          refine ⟨.inl ⟨by decide, by decide⟩, b, d, 2 * far + 1, rfl, bb, by omega, by omega, fun v17 H17 e17 b17 hv17 => ?_⟩
          obtain ⟨r, rfl, r0, r1⟩ := hv17
          try simp only [wipe, tC, tVar, tChain, rI0, rI, rU, tOp, tUn, tCall, tAnd, tOr, tNot, tNotV, tAndV, tOrV, tTest, tB, tIf, tIfS, tRet, tRetN, tNext, tSeq, tNil, tCons, tAug, ipI, tPar, tAsg, gName, tDrop, tLst, tTup, tCB, tBM, tBM0, tFld_eq, tMkE, tMake, tAugS, gSub, rEq, rAll, rMax, rSum, rAppend, rExtend, rSetL, _root_.L2.start, List.map_cons, List.map_nil, List.length_cons, List.length_nil, List.replicate_succ, List.replicate_zero, List.cons_append, List.nil_append, List.append_nil, List.getElem?_cons_zero, List.getElem?_cons_succ, List.set_cons_zero, List.set_cons_succ, Nat.reduceAdd, Nat.reduceSub, V.int.injEq, V.bl.injEq, V.ref.injEq, V.str.injEq, exists_eq, exists_eq', exists_eq_left, exists_eq_left', exists_and_left, exists_and_right, Option.some.injEq, List.cons.injEq, and_true, true_and, and_assoc, retV, true_or, or_true, decide_eq_true_eq, if_true, if_false, Bool.false_eq_true, Bool.not_true, Bool.not_false, Bool.not_eq_true', reduceCtorEq, eq_self, decide_true, decide_false, List.length_map, exists_const, false_and, and_false, or_false, false_or, ↓reduceIte]
          refine hN _ _ e17 b17 ⟨l ++ [r - far], by rw [List.map_append]; rfl, by rw [List.length_append, ll]; rfl, fun x hx => ?_⟩
          rw [List.mem_append, List.mem_singleton] at hx
          rcases hx with hx | hx
          · exact lb x hx
          · subst hx
            omega
        · obtain ⟨os, rfl, lo, ob⟩ := hI
          rw [lus] at lo
          have e116 := e115.trans e16
          try simp only [wipe, tC, tVar, tChain, rI0, rI, rU, tOp, tUn, tCall, tAnd, tOr, tNot, tNotV, tAndV, tOrV, tTest, tB, tIf, tIfS, tRet, tRetN, tNext, tSeq, tNil, tCons, tAug, ipI, tPar, tAsg, gName, tDrop, tLst, tTup, tCB, tBM, tBM0, tFld_eq, tMkE, tMake, tAugS, gSub, rEq, rAll, rMax, rSum, rAppend, rExtend, rSetL, _root_.L2.start, List.map_cons, List.map_nil, List.length_cons, List.length_nil, List.replicate_succ, List.replicate_zero, List.cons_append, List.nil_append, List.append_nil, List.getElem?_cons_zero, List.getElem?_cons_succ, List.set_cons_zero, List.set_cons_succ, Nat.reduceAdd, Nat.reduceSub, V.int.injEq, V.bl.injEq, V.ref.injEq, V.str.injEq, exists_eq, exists_eq', exists_eq_left, exists_eq_left', exists_and_left, exists_and_right, Option.some.injEq, List.cons.injEq, and_true, true_and, and_assoc, retV, true_or, or_true, decide_eq_true_eq, if_true, if_false, Bool.false_eq_true, Bool.not_true, Bool.not_false, Bool.not_eq_true', reduceCtorEq, eq_self, decide_true, decide_false, List.length_map, exists_const, false_and, and_false, or_false, false_or, ↓reduceIte]
          refine lst_sq (.inl hD) fun l1 nl1 => ?_
          have e17 := same_new (o := .lst (os.map V.int)) nl1
          have e117 : SameO (BoxO b d) H12 (upd H16 l1 (.lst (os.map V.int))) := e116.trans (.of e17)
          have b17 := b16.same e17
          have hD17 := e17 _ _ hD
          have hl17 : (upd H16 l1 (.lst (os.map V.int))) l1 = some (.lst (os.map V.int)) := upd_same
          generalize upd H16 l1 (.lst (os.map V.int)) = H17 at e117 b17 hD17 hl17
          have st := PL.stay (os := os) O hh hperm lo
          refine ⟨.ref gx, .ref l1, m, R', os, rfl, gap_so e117, O, ⟨l1, _, rfl, fun z => z, .inl hl17, ina_of _⟩, lo, ob, fun hnb => retV.2 fun H18 e18 => ?_, fun hbk v18 H18 e18 hv18 => ?_⟩
          · try simp only [wipe, tC, tVar, tChain, rI0, rI, rU, tOp, tUn, tCall, tAnd, tOr, tNot, tNotV, tAndV, tOrV, tTest, tB, tIf, tIfS, tRet, tRetN, tNext, tSeq, tNil, tCons, tAug, ipI, tPar, tAsg, gName, tDrop, tLst, tTup, tCB, tBM, tBM0, tFld_eq, tMkE, tMake, tAugS, gSub, rEq, rAll, rMax, rSum, rAppend, rExtend, rSetL, _root_.L2.start, List.map_cons, List.map_nil, List.length_cons, List.length_nil, List.replicate_succ, List.replicate_zero, List.cons_append, List.nil_append, List.append_nil, List.getElem?_cons_zero, List.getElem?_cons_succ, List.set_cons_zero, List.set_cons_succ, Nat.reduceAdd, Nat.reduceSub, V.int.injEq, V.bl.injEq, V.ref.injEq, V.str.injEq, exists_eq, exists_eq', exists_eq_left, exists_eq_left', exists_and_left, exists_and_right, Option.some.injEq, List.cons.injEq, and_true, true_and, and_assoc, retV, true_or, or_true, decide_eq_true_eq, if_true, if_false, Bool.false_eq_true, Bool.not_true, Bool.not_false, Bool.not_eq_true', reduceCtorEq, eq_self, decide_true, decide_false, List.length_map, exists_const, false_and, and_false, or_false, false_or, ↓reduceIte]
            have e118 := e117.trans (SameO.of e18)
            refine fld_at (e118.1 _ _ nxb hxb12) (S.cls 60) (S.noat 66) rfl ?_
            refine ⟨xt, D, B', os, rfl, (famT_tp (famT_tp (famT_tp famT_in))).tk e118.2.1 hxt12, e18 _ _ hD17, by omega, by omega, hB, fun _ => retV.2 fun H19 e19 => ?_, fun z => absurd (st.2 z) hnb⟩
            try simp only [wipe, tC, tVar, tChain, rI0, rI, rU, tOp, tUn, tCall, tAnd, tOr, tNot, tNotV, tAndV, tOrV, tTest, tB, tIf, tIfS, tRet, tRetN, tNext, tSeq, tNil, tCons, tAug, ipI, tPar, tAsg, gName, tDrop, tLst, tTup, tCB, tBM, tBM0, tFld_eq, tMkE, tMake, tAugS, gSub, rEq, rAll, rMax, rSum, rAppend, rExtend, rSetL, _root_.L2.start, List.map_cons, List.map_nil, List.length_cons, List.length_nil, List.replicate_succ, List.replicate_zero, List.cons_append, List.nil_append, List.append_nil, List.getElem?_cons_zero, List.getElem?_cons_succ, List.set_cons_zero, List.set_cons_succ, Nat.reduceAdd, Nat.reduceSub, V.int.injEq, V.bl.injEq, V.ref.injEq, V.str.injEq, exists_eq, exists_eq', exists_eq_left, exists_eq_left', exists_and_left, exists_and_right, Option.some.injEq, List.cons.injEq, and_true, true_and, and_assoc, retV, true_or, or_true, decide_eq_true_eq, if_true, if_false, Bool.false_eq_true, Bool.not_true, Bool.not_false, Bool.not_eq_true', reduceCtorEq, eq_self, decide_true, decide_false, List.length_map, exists_const, false_and, and_false, or_false, false_or, rNe, scal, ↓reduceIte]
            exact ⟨e118.trans (.of e19), (b17.same e18).same e19⟩
          · try simp only [wipe, tC, tVar, tChain, rI0, rI, rU, tOp, tUn, tCall, tAnd, tOr, tNot, tNotV, tAndV, tOrV, tTest, tB, tIf, tIfS, tRet, tRetN, tNext, tSeq, tNil, tCons, tAug, ipI, tPar, tAsg, gName, tDrop, tLst, tTup, tCB, tBM, tBM0, tFld_eq, tMkE, tMake, tAugS, gSub, rEq, rAll, rMax, rSum, rAppend, rExtend, rSetL, _root_.L2.start, List.map_cons, List.map_nil, List.length_cons, List.length_nil, List.replicate_succ, List.replicate_zero, List.cons_append, List.nil_append, List.append_nil, List.getElem?_cons_zero, List.getElem?_cons_succ, List.set_cons_zero, List.set_cons_succ, Nat.reduceAdd, Nat.reduceSub, V.int.injEq, V.bl.injEq, V.ref.injEq, V.str.injEq, exists_eq, exists_eq', exists_eq_left, exists_eq_left', exists_and_left, exists_and_right, Option.some.injEq, List.cons.injEq, and_true, true_and, and_assoc, retV, true_or, or_true, decide_eq_true_eq, if_true, if_false, Bool.false_eq_true, Bool.not_true, Bool.not_false, Bool.not_eq_true', reduceCtorEq, eq_self, decide_true, decide_false, List.length_map, exists_const, false_and, and_false, or_false, false_or, decide_eq_false hv18, ↓reduceIte]
            have e118 := e117.trans (SameO.of e18)
            refine fld_at (e118.1 _ _ nxb hxb12) (S.cls 60) (S.noat 66) rfl ?_
            refine ⟨xt, D, B', os, rfl, (famT_tp (famT_tp (famT_tp famT_in))).tk e118.2.1 hxt12, e18 _ _ hD17, by omega, by omega, hB, fun z => absurd (st.1 hbk) z, fun _ => retV.2 fun H19 e19 => ?_⟩
            try simp only [wipe, tC, tVar, tChain, rI0, rI, rU, tOp, tUn, tCall, tAnd, tOr, tNot, tNotV, tAndV, tOrV, tTest, tB, tIf, tIfS, tRet, tRetN, tNext, tSeq, tNil, tCons, tAug, ipI, tPar, tAsg, gName, tDrop, tLst, tTup, tCB, tBM, tBM0, tFld_eq, tMkE, tMake, tAugS, gSub, rEq, rAll, rMax, rSum, rAppend, rExtend, rSetL, _root_.L2.start, List.map_cons, List.map_nil, List.length_cons, List.length_nil, List.replicate_succ, List.replicate_zero, List.cons_append, List.nil_append, List.append_nil, List.getElem?_cons_zero, List.getElem?_cons_succ, List.set_cons_zero, List.set_cons_succ, Nat.reduceAdd, Nat.reduceSub, V.int.injEq, V.bl.injEq, V.ref.injEq, V.str.injEq, exists_eq, exists_eq', exists_eq_left, exists_eq_left', exists_and_left, exists_and_right, Option.some.injEq, List.cons.injEq, and_true, true_and, and_assoc, retV, true_or, or_true, decide_eq_true_eq, if_true, if_false, Bool.false_eq_true, Bool.not_true, Bool.not_false, Bool.not_eq_true', reduceCtorEq, eq_self, decide_true, decide_false, List.length_map, exists_const, false_and, and_false, or_false, false_or, rNe, scal, decide_eq_false hv18, ↓reduceIte]
            exact ⟨e118.trans (.of e19), (b17.same e18).same e19⟩
      · obtain ⟨⟨u5, u6, u7, u8, rfl⟩, e13, b13⟩ := h
        try simp only [wipe, tC, tVar, tChain, rI0, rI, rU, tOp, tUn, tCall, tAnd, tOr, tNot, tNotV, tAndV, tOrV, tTest, tB, tIf, tIfS, tRet, tRetN, tNext, tSeq, tNil, tCons, tAug, ipI, tPar, tAsg, gName, tDrop, tLst, tTup, tCB, tBM, tBM0, tFld_eq, tMkE, tMake, tAugS, gSub, rEq, rAll, rMax, rSum, rAppend, rExtend, rSetL, _root_.L2.start, List.map_cons, List.map_nil, List.length_cons, List.length_nil, List.replicate_succ, List.replicate_zero, List.cons_append, List.nil_append, List.append_nil, List.getElem?_cons_zero, List.getElem?_cons_succ, List.set_cons_zero, List.set_cons_succ, Nat.reduceAdd, Nat.reduceSub, V.int.injEq, V.bl.injEq, V.ref.injEq, V.str.injEq, exists_eq, exists_eq', exists_eq_left, exists_eq_left', exists_and_left, exists_and_right, Option.some.injEq, List.cons.injEq, and_true, true_and, and_assoc, retV, true_or, or_true, decide_eq_true_eq, if_true, if_false, Bool.false_eq_true, Bool.not_true, Bool.not_false, Bool.not_eq_true', reduceCtorEq, eq_self, decide_true, decide_false, List.length_map, exists_const, false_and, and_false, or_false, false_or, ↓reduceIte]
        exact q _ (e0c.trans e13) b13
end
end K78
set_option Elab.async false
set_option linter.all false
set_option maxRecDepth 100000
set_option maxHeartbeats 4000000
/-! k78: the gaps that the law names itself; law from its last hearings on -/
namespace K78
open PySem PySem.Spec PyProof.Rows L2 He HK
theorem for_rcall {ta : TA} {g : TG} {tb : TS} {D : Ends} {σ : L2.St} {H : Hp} : tFor (iRng1 ta) g tb D σ H = ta σ H fun vs H1 => tFor (iRng1 fun _ H Q => Q vs H) g tb D σ H1 := rfl
theorem lc_rcall {ta : TA} {g : TG} {tt : TT} {te : TE} {vs : List Nat} {σ : L2.St} {H : Hp} {Q : VK} : tLc (iRng1 ta) g tt te vs σ H Q = ta σ H fun us H1 => tLc (iRng1 fun _ H Q => Q us H) g tt te vs σ H1 Q := rfl
theorem paired_rep {α β : Type} {R : α → β → Prop} {x : α} {y : β} (h : R x y) : ∀ n, Paired R (List.replicate n x) (List.replicate n y)
  | 0 => .nil
  | n + 1 => .cons h (paired_rep h n)
theorem sq_rep {α : Type} {R : RlA α} {H : Hp} {p : Addr} {v : V} {x : α} {n : Nat} (h : H p = some (.lst (List.replicate n v))) (r : R No H v x) : SqF R No H (.ref p) (List.replicate n x) := ⟨p, _, rfl, fun z => z, .inl h, paired_rep r n⟩
theorem alien_non {K : PySem.W.Frag} {H : Hp} : Alien K H .non := ⟨"NoneType", .base .non, fun C => by rfl⟩
theorem alien_int {K : PySem.W.Frag} {H : Hp} {i : Int} : Alien K H (.int i) := ⟨"int", .base (.int i), fun C => by rfl⟩
theorem alien_str {K : PySem.W.Frag} {H : Hp} {x : Str} : Alien K H (.str x) := ⟨"str", .base (.str x), fun C => by rfl⟩
theorem alien_tup {K : PySem.W.Frag} {H : Hp} {a : Addr} {xs : List V} (h : H a = some (.tup xs)) : Alien K H (.ref a) := ⟨"tuple", .base (.tup h), fun C => by rfl⟩
/-- one look at rows -/
def gapsB (m : Nat) (R : GR) : Bool := decide (R.length = m) && (List.range m).all fun b => decide ((R.getD b []).length = m) && decide ((R.getD b []).getD b none = some 0) && (R.getD b []).all fun c => match c with
  | none => true
  | some i => decide (-10000 ≤ i) && decide (i ≤ 10000)
theorem gapsB_ok {m : Nat} {R : GR} (m12 : m ≤ 12) (h : gapsB m R = true) : GapsOk m R := by
  unfold gapsB at h
  simp only [Bool.and_eq_true, decide_eq_true_eq, List.all_eq_true, List.mem_range] at h
  obtain ⟨h1, h2⟩ := h
  refine ⟨m12, h1, fun b row hb => ?_⟩
  have hbm : b < m := by rw [← h1]; exact (List.getElem?_eq_some_iff.1 hb).1
  obtain ⟨⟨h3, h4⟩, h5⟩ := h2 b hbm
  rw [getD_of hb] at h3 h4 h5
  obtain ⟨c, hc⟩ := getI (xs := row) (i := b) (by omega)
  rw [getD_of hc] at h4
  refine ⟨h3, by rw [hc, h4], fun i hi => ?_⟩
  have := h5 (some i) hi
  simpa only [Bool.and_eq_true, decide_eq_true_eq] using this
theorem notHigh {R : GR} (h : (allG R).all (fun g => decide (g ≤ 0)) = true) : ¬HighR R := by
  rintro ⟨row, h1, g, h2, h3⟩
  have := List.all_eq_true.1 h g (mem_allG.2 ⟨row, h1, h2⟩)
  simp only [decide_eq_true_eq] at this
  omega
theorem notLow {R : GR} (h : (allG R).all (fun g => decide (-1999 ≤ g)) = true) : ¬LowR R := by
  rintro ⟨row, h1, g, h2, h3⟩
  have := List.all_eq_true.1 h g (mem_allG.2 ⟨row, h1, h2⟩)
  simp only [decide_eq_true_eq] at this
  omega
def fullG : GR := List.replicate 12 (List.replicate 12 (some 0))
def fewG : GR := (List.range 12).map fun body => (List.range 12).map fun other => if body = other ∨ body < 4 then some 0 else none
def leastG (z : Int) : GR := [[some 0, some z], [none, some 0]]
def oneG : GR := [[some 0, some 1], [some (-5000), some 0]]
theorem full_ok : GapsOk 12 fullG := gapsB_ok (by decide) (by decide +kernel)
theorem few_ok : GapsOk 12 fewG := gapsB_ok (by decide) (by decide +kernel)
theorem one_ok : GapsOk 2 oneG := gapsB_ok (by decide) (by decide +kernel)
theorem full_high : ¬High fullG 12 := fun z => notHigh (R := fullG) (by decide +kernel) ((high_iff full_ok).2 z)
theorem full_low : ¬Low fullG 12 := fun z => notLow (R := fullG) (by decide +kernel) ((low_iff full_ok).2 z)
theorem few_high : ¬High fewG 12 := fun z => notHigh (R := fewG) (by decide +kernel) ((high_iff few_ok).2 z)
theorem few_low : ¬Low fewG 12 := fun z => notLow (R := fewG) (by decide +kernel) ((low_iff few_ok).2 z)
theorem one_high : High oneG 2 := (high_iff one_ok).1 ⟨[some 0, some 1], by simp [oneG], 1, by simp, by decide⟩
section
variable {w : World} {K : PySem.W.Frag} {mg : Str → Option Value} {base : Heap}
/-- made and looked at again: the same gaps -/
theorem back_same (S : Sc K mg) (PL : Plain w) {H : Hp} {gx : Addr} {m : Nat} {R : GR} {Q : VK} {E E' : XK} (hG : GapO K m R H (.ref gx)) (O : GapsOk m R) (m1 : 1 ≤ m) (hh : ¬High R m) (hl : ¬Low R m) (q : ∀ H', Same H H' → Q (.bl false) H') :
    sp_bodies_with w K [.ref gx] H (fun x H1 => sp_gaps_of K [x, .int 0] H1 (fun y H2 => rEqI (ga K "Gaps") (sp_Gaps_eq K) (fun r => !r) y (.ref gx) H2 Q) E') E := by
  have OB := PL.ok m1 O hh hl
  refine ⟨.ref gx, rfl, .inr ⟨m, R, hG, O, m1, fun z => absurd z hh, fun _ => ⟨fun z => absurd z hl, fun _ => ⟨OB, fun bv H5 e5 hbv => ?_⟩⟩⟩⟩
  obtain ⟨B', hX, hperm⟩ := bodO_x hbv
  have lB : B'.length = m := by rw [Paired.len hperm, cellsOf_len]
  have m12 := O.1
  refine ⟨bv, 2, B', 0, R, rfl, hX, by decide, by decide, by omega, by omega, bods_small OB hperm, by rw [lB]; exact O, by rw [lB]; exact PL.all O hh hperm, fun gv H8 e8 hg => ?_⟩
  rw [lB] at hg
  exact eq_gap hg (same_gap (e5.trans e8) hG) fun H9 e9 => q _ (e5.trans (e8.trans e9))
abbrev lawN : List Str := ["script", "box", "turn", "many", "cells", "body", "place", "cell", "least", "full", "few", "other"]
theorem law_7 (S : Sc K mg) (PL : Plain w) {f : Addr} {cdv : Value} {A : Around} {outer : List Env} {s : Shared} {H : Hp} {E : XK} (hr : Room 13 (A.deeper (envOfC d_law.qual d_law.scope s.heap.objs.size f cdv))) :
    ∃ t, PSs (cxOf CX0 prg w K mg base lawN d_law.qual d_law.scope f cdv A outer s H E).nox (d_law.body.drop 7) t ∧ ∀ (Q : VK) (b d fx gx : Addr) (H' : Hp) (u0 u2 u3 u4 u5 u6 u7 u8 u11 : Option V), BoxAt b d H' → GapO K 12 fullG H' (.ref fx) → GapO K 12 fewG H' (.ref gx) → (∀ H'', Q (.bl true) H'') →
      t { nx := fun _ H' => Q .non H', rt := Q } [u0, some (.ref b), u2, u3, u4, u5, u6, u7, u8, some (.ref fx), some (.ref gx), u11] H' := by
  have C__law_pick := C__law_pick (w := w) (base := base) S
  have C__law_heard := C__law_heard (w := w) (base := base) S
  have C_bodies_with := C_bodies_with (w := w) (base := base) S
  have C_gaps_of := C_gaps_of (w := w) (base := base) S
  have C_Gaps_eq := C_Gaps_eq (w := w) (base := base) S
  refine ⟨_, (pss_cons (ps_if (PW.pt (pw_or (pt_cmpR (op_neC C_Gaps_eq pass0 (hr.mono (by omega))) (pe_c C_gaps_of (hr.mono (by omega)) pass0 (pa_cons (pe_c C_bodies_with (hr.mono (by omega)) passL (pa_cons (pv 9) pa_nil)) (pa_cons pe_int pa_nil))) (pv 9) (nomark _)) (pw_or1 (pt_cmpR (op_neC C_Gaps_eq pass0 (hr.mono (by omega))) (pe_c C_gaps_of (hr.mono (by omega)) pass0 (pa_cons (pe_c C_bodies_with (hr.mono (by omega)) passL (pa_cons (pv 10) pa_nil)) (pa_cons pe_int pa_nil))) (pv 10) (nomark _))))) (pss_one (ps_ret pe_bl)) pss_nil)
      (pss_one (ps_ret (pe_cmpR (op_eqD hr.units) (pe_c C__law_heard (hr.mono (by omega)) pass0 (pa_cons (pe_c C__law_pick (hr.mono (by omega)) pass0 (pa_cons (pv 1) (pa_cons (pe_lst (pa_cons pe_non (pa_cons pe_int (pa_cons (pe_tup pa_nil) (pa_cons (pe_fld (pv 9) rfl) pa_nil))))) pa_nil))) pa_nil)) (pe_tup (pa_cons pe_str (pa_cons (pe_op op_sub pe_int pe_int) pa_nil))) (nomark _))))), fun Q b d fx gx H' u0 u2 u3 u4 u5 u6 u7 u8 u11 hb hf hg q => ?_⟩
  try simp only [wipe, tC, tVar, tChain, rI0, rI, rU, tOp, tUn, tCall, tAnd, tOr, tNot, tNotV, tAndV, tOrV, tTest, tB, tIf, tIfS, tRet, tRetN, tNext, tSeq, tNil, tCons, tAug, ipI, tPar, tAsg, gName, tDrop, tLst, tTup, tCB, tBM, tBM0, tFld_eq, tMkE, tMake, tAugS, gSub, rEq, rAll, rMax, rSum, rAppend, rExtend, rSetL, _root_.L2.start, List.map_cons, List.map_nil, List.length_cons, List.length_nil, List.replicate_succ, List.replicate_zero, List.cons_append, List.nil_append, List.append_nil, List.getElem?_cons_zero, List.getElem?_cons_succ, List.set_cons_zero, List.set_cons_succ, Nat.reduceAdd, Nat.reduceSub, V.int.injEq, V.bl.injEq, V.ref.injEq, V.str.injEq, exists_eq, exists_eq', exists_eq_left, exists_eq_left', exists_and_left, exists_and_right, Option.some.injEq, List.cons.injEq, and_true, true_and, and_assoc, retV, true_or, or_true, decide_eq_true_eq, if_true, if_false, Bool.false_eq_true, Bool.not_true, Bool.not_false, Bool.not_eq_true', reduceCtorEq, eq_self, decide_true, decide_false, List.length_map, exists_const, false_and, and_false, or_false, false_or, ↓reduceIte]
  refine back_same S PL hf full_ok (by decide) full_high full_low fun H1 e1 => ?_
  try simp only [wipe, tC, tVar, tChain, rI0, rI, rU, tOp, tUn, tCall, tAnd, tOr, tNot, tNotV, tAndV, tOrV, tTest, tB, tIf, tIfS, tRet, tRetN, tNext, tSeq, tNil, tCons, tAug, ipI, tPar, tAsg, gName, tDrop, tLst, tTup, tCB, tBM, tBM0, tFld_eq, tMkE, tMake, tAugS, gSub, rEq, rAll, rMax, rSum, rAppend, rExtend, rSetL, _root_.L2.start, List.map_cons, List.map_nil, List.length_cons, List.length_nil, List.replicate_succ, List.replicate_zero, List.cons_append, List.nil_append, List.append_nil, List.getElem?_cons_zero, List.getElem?_cons_succ, List.set_cons_zero, List.set_cons_succ, Nat.reduceAdd, Nat.reduceSub, V.int.injEq, V.bl.injEq, V.ref.injEq, V.str.injEq, exists_eq, exists_eq', exists_eq_left, exists_eq_left', exists_and_left, exists_and_right, Option.some.injEq, List.cons.injEq, and_true, true_and, and_assoc, retV, true_or, or_true, decide_eq_true_eq, if_true, if_false, Bool.false_eq_true, Bool.not_true, Bool.not_false, Bool.not_eq_true', reduceCtorEq, eq_self, decide_true, decide_false, List.length_map, exists_const, false_and, and_false, or_false, false_or, ↓reduceIte]
  refine back_same S PL (same_gap e1 hg) few_ok (by decide) few_high few_low fun H2 e2 => ?_
  try simp only [wipe, tC, tVar, tChain, rI0, rI, rU, tOp, tUn, tCall, tAnd, tOr, tNot, tNotV, tAndV, tOrV, tTest, tB, tIf, tIfS, tRet, tRetN, tNext, tSeq, tNil, tCons, tAug, ipI, tPar, tAsg, gName, tDrop, tLst, tTup, tCB, tBM, tBM0, tFld_eq, tMkE, tMake, tAugS, gSub, rEq, rAll, rMax, rSum, rAppend, rExtend, rSetL, _root_.L2.start, List.map_cons, List.map_nil, List.length_cons, List.length_nil, List.replicate_succ, List.replicate_zero, List.cons_append, List.nil_append, List.append_nil, List.getElem?_cons_zero, List.getElem?_cons_succ, List.set_cons_zero, List.set_cons_succ, Nat.reduceAdd, Nat.reduceSub, V.int.injEq, V.bl.injEq, V.ref.injEq, V.str.injEq, exists_eq, exists_eq', exists_eq_left, exists_eq_left', exists_and_left, exists_and_right, Option.some.injEq, List.cons.injEq, and_true, true_and, and_assoc, retV, true_or, or_true, decide_eq_true_eq, if_true, if_false, Bool.false_eq_true, Bool.not_true, Bool.not_false, Bool.not_eq_true', reduceCtorEq, eq_self, decide_true, decide_false, List.length_map, exists_const, false_and, and_false, or_false, false_or, ↓reduceIte]
  have e12 := e1.trans e2
  refine ⟨by decide, fun pn npn => ?_⟩
  have g15 := same_new (o := .tup []) npn
  refine gap_rows S (same_gap (e12.trans g15) hf) fun rt hrt => ?_
  obtain ⟨ra, rs, rfl, hra, _⟩ := id hrt
  try simp only [wipe, tC, tVar, tChain, rI0, rI, rU, tOp, tUn, tCall, tAnd, tOr, tNot, tNotV, tAndV, tOrV, tTest, tB, tIf, tIfS, tRet, tRetN, tNext, tSeq, tNil, tCons, tAug, ipI, tPar, tAsg, gName, tDrop, tLst, tTup, tCB, tBM, tBM0, tFld_eq, tMkE, tMake, tAugS, gSub, rEq, rAll, rMax, rSum, rAppend, rExtend, rSetL, _root_.L2.start, List.map_cons, List.map_nil, List.length_cons, List.length_nil, List.replicate_succ, List.replicate_zero, List.cons_append, List.nil_append, List.append_nil, List.getElem?_cons_zero, List.getElem?_cons_succ, List.set_cons_zero, List.set_cons_succ, Nat.reduceAdd, Nat.reduceSub, V.int.injEq, V.bl.injEq, V.ref.injEq, V.str.injEq, exists_eq, exists_eq', exists_eq_left, exists_eq_left', exists_and_left, exists_and_right, Option.some.injEq, List.cons.injEq, and_true, true_and, and_assoc, retV, true_or, or_true, decide_eq_true_eq, if_true, if_false, Bool.false_eq_true, Bool.not_true, Bool.not_false, Bool.not_eq_true', reduceCtorEq, eq_self, decide_true, decide_false, List.length_map, exists_const, false_and, and_false, or_false, false_or, ↓reduceIte]
  refine ⟨by decide, fun pl npl => ?_⟩
  have g16 := same_new (o := .lst [V.non, .int 3, .ref pn, .ref ra]) npl
  have b14 := hb.same e12
  refine ⟨b, d, pl, _, rfl, b14.same (g15.trans g16), upd_same, (b14.same g15).off npl, by simp, by simp, fun xv H16 e16 b16 hxv => ?_⟩
  have hpn : H16 pn = some (.tup []) := (e16.2.1 pn).1 _ (g16 _ _ upd_same)
  have hra16 : H16 ra = some (.tup rs) := (e16.2.1 ra).1 _ (g16 _ _ hra)
  have hA : Alien K H16 xv := by
    simp only [List.mem_cons, List.not_mem_nil, or_false] at hxv
    rcases hxv with h | h | h | h <;> subst h
    · exact alien_non
    · exact alien_int
    · exact alien_tup hpn
    · exact alien_tup hra16
  try simp only [wipe, tC, tVar, tChain, rI0, rI, rU, tOp, tUn, tCall, tAnd, tOr, tNot, tNotV, tAndV, tOrV, tTest, tB, tIf, tIfS, tRet, tRetN, tNext, tSeq, tNil, tCons, tAug, ipI, tPar, tAsg, gName, tDrop, tLst, tTup, tCB, tBM, tBM0, tFld_eq, tMkE, tMake, tAugS, gSub, rEq, rAll, rMax, rSum, rAppend, rExtend, rSetL, _root_.L2.start, List.map_cons, List.map_nil, List.length_cons, List.length_nil, List.replicate_succ, List.replicate_zero, List.cons_append, List.nil_append, List.append_nil, List.getElem?_cons_zero, List.getElem?_cons_succ, List.set_cons_zero, List.set_cons_succ, Nat.reduceAdd, Nat.reduceSub, V.int.injEq, V.bl.injEq, V.ref.injEq, V.str.injEq, exists_eq, exists_eq', exists_eq_left, exists_eq_left', exists_and_left, exists_and_right, Option.some.injEq, List.cons.injEq, and_true, true_and, and_assoc, retV, true_or, or_true, decide_eq_true_eq, if_true, if_false, Bool.false_eq_true, Bool.not_true, Bool.not_false, Bool.not_eq_true', reduceCtorEq, eq_self, decide_true, decide_false, List.length_map, exists_const, false_and, and_false, or_false, false_or, ↓reduceIte]
  refine ⟨xv, rfl, .inl ⟨hA, fun pr H17 e17 hpr => ⟨by decide, fun pp npp => ?_⟩⟩⟩
  have g17 := same_new (o := .tup [.str "gaps", .int (0 - 1)]) npp
  exact eq_two (g17 _ _ hpr) upd_same (.str _) (.int _) (by decide +kernel) (by decide +kernel) rfl rfl (q _)
end
end K78
set_option Elab.async false
set_option linter.all false
set_option maxRecDepth 100000
set_option maxHeartbeats 4000000
/-! k78: law, from least on -/
namespace K78
open PySem PySem.Spec PyProof.Rows L2 He HK
section
variable {w : World} {K : PySem.W.Frag} {mg : Str → Option Value} {base : Heap}
theorem law_5 (S : Sc K mg) (PL : Plain w) {f : Addr} {cdv : Value} {A : Around} {outer : List Env} {s : Shared} {H : Hp} {E : XK} (hr : Room 13 (A.deeper (envOfC d_law.qual d_law.scope s.heap.objs.size f cdv))) :
    ∃ t, PSs (cxOf CX0 prg w K mg base lawN d_law.qual d_law.scope f cdv A outer s H E).nox (d_law.body.drop 5) t ∧ ∀ (Q : VK) (b d : Addr) (H' : Hp) (u0 u2 u3 u4 u5 u6 u7 u8 u9 u10 u11 : Option V), BoxAt b d H' → (∀ H'', Q (.bl true) H'') →
      t { nx := fun _ H' => Q .non H', rt := Q } [u0, some (.ref b), u2, u3, u4, u5, u6, u7, u8, u9, u10, u11] H' := by
  have C_Gaps := C_Gaps (w := w) (base := base) S
  obtain ⟨t7, h7, T7⟩ := law_7 (w := w) (base := base) S PL (outer := outer) (H := H) (E := E) hr
  refine ⟨_, (pss_cons (ps_set (i := 9) sc_law.nd rfl (by first | exact Or.inl rfl | exact Or.inr rfl) (pe_m C_Gaps (hr.mono (by omega)) pass0 (pa_cons pe_int (pa_cons (pe_op op_rep (pe_lst (pa_cons (pe_op op_rep (pe_lst (pa_cons pe_int pa_nil)) pe_int) pa_nil)) pe_int) pa_nil))))
      (pss_cons (ps_set (i := 10) sc_law.nd rfl (by first | exact Or.inl rfl | exact Or.inr rfl) (pe_m C_Gaps (hr.mono (by omega)) pass0 (pa_cons pe_int (pa_cons (pe_lc (own := [("body", 5)]) (g := (gName 5)) (tt := tYes) rfl sc_law.nd (pi_range1 rfl (S.free 46) (pa_cons pe_int pa_nil)) (blkOk_by (N := ["script", "box", "turn", "many", "cells", "body", "place", "cell", "least", "full", "few", "other"]) (sc := defScope s_law) (by decide +kernel)) (fun _ _ _ _ _ => (pg_name (i := 5) sc_law.nd rfl (by first | exact Or.inl rfl | exact Or.inr rfl))) (fun _ _ _ _ _ => pts_nil) (fun _ _ _ _ _ => (pe_lc (own := [("other", 11)]) (g := (gName 11)) (tt := tYes) rfl sc_law.nd (pi_range1 rfl (S.free 46) (pa_cons pe_int pa_nil)) (blkOk_by (by kernel_rfl)) (fun _ _ _ _ _ => (pg_name (i := 11) sc_law.nd rfl (by first | exact Or.inl rfl | exact Or.inr rfl))) (fun _ _ _ _ _ => pts_nil) (fun _ _ _ _ _ => (pe_ifExp (PW.pt (pw_or (pt_cmpR op_eq (pv 5) (pv 11) (nomark _)) (pw_or1 (pt_cmpR op_lt (pv 5) pe_int (nomark _))))) pe_int pe_non))))) pa_nil))))
      h7)), fun Q b d H' u0 u2 u3 u4 u5 u6 u7 u8 u9 u10 u11 hb q => ?_⟩
  try simp only [wipe, tC, tVar, tChain, rI0, rI, rU, tOp, tUn, tCall, tAnd, tOr, tNot, tNotV, tAndV, tOrV, tTest, tB, tIf, tIfS, tRet, tRetN, tNext, tSeq, tNil, tCons, tAug, ipI, tPar, tAsg, gName, tDrop, tLst, tTup, tCB, tBM, tBM0, tFld_eq, tMkE, tMake, tAugS, gSub, rEq, rAll, rMax, rSum, rAppend, rExtend, rSetL, _root_.L2.start, List.map_cons, List.map_nil, List.length_cons, List.length_nil, List.replicate_succ, List.replicate_zero, List.cons_append, List.nil_append, List.append_nil, List.getElem?_cons_zero, List.getElem?_cons_succ, List.set_cons_zero, List.set_cons_succ, Nat.reduceAdd, Nat.reduceSub, V.int.injEq, V.bl.injEq, V.ref.injEq, V.str.injEq, exists_eq, exists_eq', exists_eq_left, exists_eq_left', exists_and_left, exists_and_right, Option.some.injEq, List.cons.injEq, and_true, true_and, and_assoc, retV, true_or, or_true, decide_eq_true_eq, if_true, if_false, Bool.false_eq_true, Bool.not_true, Bool.not_false, Bool.not_eq_true', reduceCtorEq, eq_self, decide_true, decide_false, List.length_map, exists_const, false_and, and_false, or_false, false_or, ↓reduceIte]
  refine ⟨by decide, fun p1 np1 => rep_lst upd_same (by decide) (by decide) fun p3 np3 => ⟨by decide, fun p4 np4 => rep_lst upd_same (by decide) (by decide) fun p5 np5 => ?_⟩⟩
  have e1 := same_new (o := .lst [V.int 0]) np1
  have e3 := same_new (o := .lst (List.replicate (12 : Int).toNat (V.int 0))) np3
  have e4 := same_new (o := .lst [V.ref p3]) np4
  have e5 := same_new (o := .lst (List.replicate (12 : Int).toNat (V.ref p3))) np5
  have hp3 := e5 _ _ (e4 _ _ (upd_same (H := (upd H' p1 (.lst [V.int 0]))) (a := p3) (o := .lst (List.replicate (12 : Int).toNat (V.int 0)))))
  have hp5 : (upd (upd (upd (upd H' p1 (.lst [V.int 0])) p3 (.lst (List.replicate (12 : Int).toNat (V.int 0)))) p4 (.lst [V.ref p3])) p5 (.lst (List.replicate (12 : Int).toNat (V.ref p3)))) p5 = some (.lst (List.replicate 12 (V.ref p3))) := by rw [upd_same]; rfl
  have b5 := hb.same (e1.trans (e3.trans (e4.trans e5)))
  generalize (upd (upd (upd (upd H' p1 (.lst [V.int 0])) p3 (.lst (List.replicate (12 : Int).toNat (V.int 0)))) p4 (.lst [V.ref p3])) p5 (.lst (List.replicate (12 : Int).toNat (V.ref p3)))) = H5 at hp3 hp5 b5 ⊢
  have hL : SqF (SqF OnA) No H5 (.ref p5) fullG := sq_rep hp5 (sq_rep (n := 12) hp3 rfl)
  refine make_gapsA (m := 12) hL (by decide) full_ok fun fx H6 e6 hf => ?_
  try simp only [wipe, tC, tVar, tChain, rI0, rI, rU, tOp, tUn, tCall, tAnd, tOr, tNot, tNotV, tAndV, tOrV, tTest, tB, tIf, tIfS, tRet, tRetN, tNext, tSeq, tNil, tCons, tAug, ipI, tPar, tAsg, gName, tDrop, tLst, tTup, tCB, tBM, tBM0, tFld_eq, tMkE, tMake, tAugS, gSub, rEq, rAll, rMax, rSum, rAppend, rExtend, rSetL, _root_.L2.start, List.map_cons, List.map_nil, List.length_cons, List.length_nil, List.replicate_succ, List.replicate_zero, List.cons_append, List.nil_append, List.append_nil, List.getElem?_cons_zero, List.getElem?_cons_succ, List.set_cons_zero, List.set_cons_succ, Nat.reduceAdd, Nat.reduceSub, V.int.injEq, V.bl.injEq, V.ref.injEq, V.str.injEq, exists_eq, exists_eq', exists_eq_left, exists_eq_left', exists_and_left, exists_and_right, Option.some.injEq, List.cons.injEq, and_true, true_and, and_assoc, retV, true_or, or_true, decide_eq_true_eq, if_true, if_false, Bool.false_eq_true, Bool.not_true, Bool.not_false, Bool.not_eq_true', reduceCtorEq, eq_self, decide_true, decide_false, List.length_map, exists_const, false_and, and_false, or_false, false_or, ↓reduceIte]
  refine lc_map (gives_rng1 (j := 12) (fun Q h => h)) (Box.none (A := Old H6) (fun _ z => z)) (fun _ _ => trivial) (by rw [rngV_len]; decide) (fun x => rfl) (fam_ls fam_on) (List.range 12) (by rw [rngV_len, List.length_range]; rfl) (fun body => (List.range 12).map fun other => if body = other ∨ body < 4 then some 0 else none) (fun n y z H7 D7 N7 hy hz e7 _ hA7 hN7 => ?_) fun ys H8 D8 e8 _ nD8 _ hD8 hys => ?_
  · have hn : n < 12 := by
      have := (List.getElem?_eq_some_iff.1 hz).1
      rwa [List.length_range] at this
    rw [rngV_get (by exact hn), Int.zero_add] at hy
    rw [List.getElem?_range hn] at hz
    obtain rfl := Option.some.inj hy
    obtain rfl := Option.some.inj hz
    try simp only [wipe, tC, tVar, tChain, rI0, rI, rU, tOp, tUn, tCall, tAnd, tOr, tNot, tNotV, tAndV, tOrV, tTest, tB, tIf, tIfS, tRet, tRetN, tNext, tSeq, tNil, tCons, tAug, ipI, tPar, tAsg, gName, tDrop, tLst, tTup, tCB, tBM, tBM0, tFld_eq, tMkE, tMake, tAugS, gSub, rEq, rAll, rMax, rSum, rAppend, rExtend, rSetL, _root_.L2.start, List.map_cons, List.map_nil, List.length_cons, List.length_nil, List.replicate_succ, List.replicate_zero, List.cons_append, List.nil_append, List.append_nil, List.getElem?_cons_zero, List.getElem?_cons_succ, List.set_cons_zero, List.set_cons_succ, Nat.reduceAdd, Nat.reduceSub, V.int.injEq, V.bl.injEq, V.ref.injEq, V.str.injEq, exists_eq, exists_eq', exists_eq_left, exists_eq_left', exists_and_left, exists_and_right, Option.some.injEq, List.cons.injEq, and_true, true_and, and_assoc, retV, true_or, or_true, decide_eq_true_eq, if_true, if_false, Bool.false_eq_true, Bool.not_true, Bool.not_false, Bool.not_eq_true', reduceCtorEq, eq_self, decide_true, decide_false, List.length_map, exists_const, false_and, and_false, or_false, false_or, ↓reduceIte]
    refine lc_map (A := Or1 (Old H6) D7) (gives_rng1 (j := 12) (fun Q h => h)) (Box.none hA7) (fun _ _ => trivial) (by rw [rngV_len]; decide) (fun x => rfl) fam_on (List.range 12) (by rw [rngV_len, List.length_range]; rfl) (fun other => if n = other ∨ n < 4 then some 0 else none) (fun k y z H9 D9 N9 hy hz e9 _ _ hN9 => ?_) fun ws H10 D10 e10 _ nD10 nA10 hD10 hws => ?_
    · have hk : k < 12 := by
        have := (List.getElem?_eq_some_iff.1 hz).1
        rwa [List.length_range] at this
      rw [rngV_get (by exact hk), Int.zero_add] at hy
      rw [List.getElem?_range hk] at hz
      obtain rfl := Option.some.inj hy
      obtain rfl := Option.some.inj hz
      try simp only [wipe, tC, tVar, tChain, rI0, rI, rU, tOp, tUn, tCall, tAnd, tOr, tNot, tNotV, tAndV, tOrV, tTest, tB, tIf, tIfS, tRet, tRetN, tNext, tSeq, tNil, tCons, tAug, ipI, tPar, tAsg, gName, tDrop, tLst, tTup, tCB, tBM, tBM0, tFld_eq, tMkE, tMake, tAugS, gSub, rEq, rAll, rMax, rSum, rAppend, rExtend, rSetL, _root_.L2.start, List.map_cons, List.map_nil, List.length_cons, List.length_nil, List.replicate_succ, List.replicate_zero, List.cons_append, List.nil_append, List.append_nil, List.getElem?_cons_zero, List.getElem?_cons_succ, List.set_cons_zero, List.set_cons_succ, Nat.reduceAdd, Nat.reduceSub, V.int.injEq, V.bl.injEq, V.ref.injEq, V.str.injEq, exists_eq, exists_eq', exists_eq_left, exists_eq_left', exists_and_left, exists_and_right, Option.some.injEq, List.cons.injEq, and_true, true_and, and_assoc, retV, true_or, or_true, decide_eq_true_eq, if_true, if_false, Bool.false_eq_true, Bool.not_true, Bool.not_false, Bool.not_eq_true', reduceCtorEq, eq_self, decide_true, decide_false, List.length_map, exists_const, false_and, and_false, or_false, false_or, scal, ↓reduceIte]
      by_cases hnk : (n : Int) = (k : Int)
      · rw [if_pos hnk]
        refine hN9 _ _ (SameO.refl _ _) trivial ?_
        show V.int 0 = ov (if n = k ∨ n < 4 then some 0 else none)
        rw [if_pos (.inl (by omega))]
        rfl
      · rw [if_neg hnk]
        by_cases hn4 : (n : Int) < 4
        · rw [if_pos hn4]
          refine hN9 _ _ (SameO.refl _ _) trivial ?_
          show V.int 0 = ov (if n = k ∨ n < 4 then some 0 else none)
          rw [if_pos (.inr (by omega))]
          rfl
        · rw [if_neg hn4]
          refine hN9 _ _ (SameO.refl _ _) trivial ?_
          show V.non = ov (if n = k ∨ n < 4 then some 0 else none)
          rw [if_neg (by omega)]
          rfl
    · exact hN7 _ _ e10 trivial ⟨D10, ws, rfl, nA10, hD10, hws⟩
  · try simp only [wipe, tC, tVar, tChain, rI0, rI, rU, tOp, tUn, tCall, tAnd, tOr, tNot, tNotV, tAndV, tOrV, tTest, tB, tIf, tIfS, tRet, tRetN, tNext, tSeq, tNil, tCons, tAug, ipI, tPar, tAsg, gName, tDrop, tLst, tTup, tCB, tBM, tBM0, tFld_eq, tMkE, tMake, tAugS, gSub, rEq, rAll, rMax, rSum, rAppend, rExtend, rSetL, _root_.L2.start, List.map_cons, List.map_nil, List.length_cons, List.length_nil, List.replicate_succ, List.replicate_zero, List.cons_append, List.nil_append, List.append_nil, List.getElem?_cons_zero, List.getElem?_cons_succ, List.set_cons_zero, List.set_cons_succ, Nat.reduceAdd, Nat.reduceSub, V.int.injEq, V.bl.injEq, V.ref.injEq, V.str.injEq, exists_eq, exists_eq', exists_eq_left, exists_eq_left', exists_and_left, exists_and_right, Option.some.injEq, List.cons.injEq, and_true, true_and, and_assoc, retV, true_or, or_true, decide_eq_true_eq, if_true, if_false, Bool.false_eq_true, Bool.not_true, Bool.not_false, Bool.not_eq_true', reduceCtorEq, eq_self, decide_true, decide_false, List.length_map, exists_const, false_and, and_false, or_false, false_or, ↓reduceIte]
    have hS : SqF (SqF OnA) No H8 (.ref D8) fewG := ⟨D8, ys, rfl, fun z => z, .inl hD8, Paired.imp (fun _ _ h => (fam_sq fam_on).weak (fun _ z => z.elim) (SqF.ofL h)) hys⟩
    refine make_gapsA (m := 12) hS (by decide) few_ok fun gx H9 e9 hg => ?_
    have e69 := e8.same.trans e9
    exact T7 Q b d fx gx H9 _ _ _ _ _ _ _ _ _ (b5.same (e6.trans e69)) (same_gap e69 hf) hg q
theorem two_rows {H : Hp} {p p1 p2 : Addr} {a b c d : Option Int} (np : H p = none) (np1 : (upd H p (.lst [ov a, ov b])) p1 = none) (np2 : (upd (upd H p (.lst [ov a, ov b])) p1 (.lst [ov c, ov d])) p2 = none) :
    Same H (upd (upd (upd H p (.lst [ov a, ov b])) p1 (.lst [ov c, ov d])) p2 (.lst [.ref p, .ref p1])) ∧ SqF (SqF OnA) No (upd (upd (upd H p (.lst [ov a, ov b])) p1 (.lst [ov c, ov d])) p2 (.lst [.ref p, .ref p1])) (.ref p2) [[a, b], [c, d]] := by
  have e0 := same_new (o := .lst [ov a, ov b]) np
  have e1 := same_new (o := .lst [ov c, ov d]) np1
  have e2 := same_new (o := .lst [V.ref p, .ref p1]) np2
  have h0 := e2 _ _ (e1 _ _ (upd_same (H := H) (a := p) (o := .lst [ov a, ov b])))
  have h1 := e2 _ _ (upd_same (H := upd H p (.lst [ov a, ov b])) (a := p1) (o := .lst [ov c, ov d]))
  exact ⟨e0.trans (e1.trans e2), p2, _, rfl, fun z => z, .inl upd_same, .cons ⟨p, _, rfl, fun z => z, .inl h0, .cons rfl (.cons rfl .nil)⟩ (.cons ⟨p1, _, rfl, fun z => z, .inl h1, .cons rfl (.cons rfl .nil)⟩ .nil)⟩
theorem least_ok (z : Int) (h : z = -1999 ∨ z = -2000) : GapsOk 2 (leastG z) := by
  rcases h with rfl | rfl
  · exact gapsB_ok (by decide) (by decide +kernel)
  · exact gapsB_ok (by decide) (by decide +kernel)
theorem least_high (z : Int) (h : z = -1999 ∨ z = -2000) : ¬High (leastG z) 2 := fun y => by
  rcases h with rfl | rfl
  · exact notHigh (R := leastG (-1999)) (by decide +kernel) ((high_iff (least_ok _ (.inl rfl))).2 y)
  · exact notHigh (R := leastG (-2000)) (by decide +kernel) ((high_iff (least_ok _ (.inr rfl))).2 y)
theorem least_low1 : ¬Low (leastG (-1999)) 2 := fun y => notLow (R := leastG (-1999)) (by decide +kernel) ((low_iff (least_ok _ (.inl rfl))).2 y)
theorem least_low2 : Low (leastG (-2000)) 2 := (low_iff (least_ok _ (.inr rfl))).1 ⟨[some 0, some (-2000)], by simp [leastG], -2000, by simp, by decide⟩
theorem law_2 (S : Sc K mg) (PL : Plain w) {f : Addr} {cdv : Value} {A : Around} {outer : List Env} {s : Shared} {H : Hp} {E : XK} (hr : Room 13 (A.deeper (envOfC d_law.qual d_law.scope s.heap.objs.size f cdv))) :
    ∃ t, PSs (cxOf CX0 prg w K mg base lawN d_law.qual d_law.scope f cdv A outer s H E).nox (d_law.body.drop 2) t ∧ ∀ (Q : VK) (b d : Addr) (H' : Hp) (u0 u2 u3 u4 u5 u6 u7 u8 u9 u10 u11 : Option V), BoxAt b d H' → (∀ H'', Q (.bl true) H'') →
      t { nx := fun _ H' => Q .non H', rt := Q } [u0, some (.ref b), u2, u3, u4, u5, u6, u7, u8, u9, u10, u11] H' := by
  have C_Gaps := C_Gaps (w := w) (base := base) S
  have C__law_draw := C__law_draw (w := w) (base := base) S
  have C__law_heard := C__law_heard (w := w) (base := base) S
  obtain ⟨t5, h5, T5⟩ := law_5 (w := w) (base := base) S PL (outer := outer) (H := H) (E := E) hr
  refine ⟨_, (pss_cons (ps_set (i := 8) sc_law.nd rfl (by first | exact Or.inl rfl | exact Or.inr rfl) (pe_op op_sub (pe_op op_sub pe_int pe_int) (pe_c C__law_draw (hr.mono (by omega)) pass0 (pa_cons (pv 1) (pa_cons pe_int pa_nil)))))
      (pss_cons (ps_if (pt_cmpR (op_neD hr.units) (pe_c C__law_heard (hr.mono (by omega)) pass0 (pa_cons (pe_m C_Gaps (hr.mono (by omega)) pass0 (pa_cons pe_int (pa_cons (pe_lst (pa_cons (pe_lst (pa_cons pe_int (pa_cons (pv 8) pa_nil))) (pa_cons (pe_lst (pa_cons pe_non (pa_cons pe_int pa_nil))) pa_nil))) pa_nil))) pa_nil)) (pe_ifExp (pt_cmpR op_eq (pv 8) (pe_op op_sub pe_int pe_int) (nomark _)) (pe_tup (pa_cons pe_str (pa_cons pe_int pa_nil))) (pe_tup (pa_cons pe_str (pa_cons pe_str pa_nil)))) (nomark _)) (pss_one (ps_ret pe_bl)) pss_nil)
      (pss_cons (ps_if (pt_cmpR (op_neD hr.units) (pe_c C__law_heard (hr.mono (by omega)) pass0 (pa_cons (pe_m C_Gaps (hr.mono (by omega)) pass0 (pa_cons pe_int (pa_cons (pe_lst (pa_cons (pe_lst (pa_cons pe_int (pa_cons pe_int pa_nil))) (pa_cons (pe_lst (pa_cons (pe_op op_sub pe_int pe_int) (pa_cons pe_int pa_nil))) pa_nil))) pa_nil))) pa_nil)) (pe_tup (pa_cons pe_str (pa_cons (pe_op op_sub pe_int pe_int) pa_nil))) (nomark _)) (pss_one (ps_ret pe_bl)) pss_nil)
      h5))), fun Q b d H' u0 u2 u3 u4 u5 u6 u7 u8 u9 u10 u11 hb q => ?_⟩
  try simp only [wipe, tC, tVar, tChain, rI0, rI, rU, tOp, tUn, tCall, tAnd, tOr, tNot, tNotV, tAndV, tOrV, tTest, tB, tIf, tIfS, tRet, tRetN, tNext, tSeq, tNil, tCons, tAug, ipI, tPar, tAsg, gName, tDrop, tLst, tTup, tCB, tBM, tBM0, tFld_eq, tMkE, tMake, tAugS, gSub, rEq, rAll, rMax, rSum, rAppend, rExtend, rSetL, _root_.L2.start, List.map_cons, List.map_nil, List.length_cons, List.length_nil, List.replicate_succ, List.replicate_zero, List.cons_append, List.nil_append, List.append_nil, List.getElem?_cons_zero, List.getElem?_cons_succ, List.set_cons_zero, List.set_cons_succ, Nat.reduceAdd, Nat.reduceSub, V.int.injEq, V.bl.injEq, V.ref.injEq, V.str.injEq, exists_eq, exists_eq', exists_eq_left, exists_eq_left', exists_and_left, exists_and_right, Option.some.injEq, List.cons.injEq, and_true, true_and, and_assoc, retV, true_or, or_true, decide_eq_true_eq, if_true, if_false, Bool.false_eq_true, Bool.not_true, Bool.not_false, Bool.not_eq_true', reduceCtorEq, eq_self, decide_true, decide_false, List.length_map, exists_const, false_and, and_false, or_false, false_or, ↓reduceIte]
  refine ⟨b, d, 2, rfl, hb, by decide, by decide, fun v H1 e1 b1 hv => ?_⟩
  obtain ⟨r, rfl, r0, r1⟩ := hv
  try simp only [wipe, tC, tVar, tChain, rI0, rI, rU, tOp, tUn, tCall, tAnd, tOr, tNot, tNotV, tAndV, tOrV, tTest, tB, tIf, tIfS, tRet, tRetN, tNext, tSeq, tNil, tCons, tAug, ipI, tPar, tAsg, gName, tDrop, tLst, tTup, tCB, tBM, tBM0, tFld_eq, tMkE, tMake, tAugS, gSub, rEq, rAll, rMax, rSum, rAppend, rExtend, rSetL, _root_.L2.start, List.map_cons, List.map_nil, List.length_cons, List.length_nil, List.replicate_succ, List.replicate_zero, List.cons_append, List.nil_append, List.append_nil, List.getElem?_cons_zero, List.getElem?_cons_succ, List.set_cons_zero, List.set_cons_succ, Nat.reduceAdd, Nat.reduceSub, V.int.injEq, V.bl.injEq, V.ref.injEq, V.str.injEq, exists_eq, exists_eq', exists_eq_left, exists_eq_left', exists_and_left, exists_and_right, Option.some.injEq, List.cons.injEq, and_true, true_and, and_assoc, retV, true_or, or_true, decide_eq_true_eq, if_true, if_false, Bool.false_eq_true, Bool.not_true, Bool.not_false, Bool.not_eq_true', reduceCtorEq, eq_self, decide_true, decide_false, List.length_map, exists_const, false_and, and_false, or_false, false_or, ↓reduceIte]
  refine ⟨by decide, fun p np => ⟨by decide, fun p1 np1 => ⟨by decide, fun p2 np2 => ?_⟩⟩⟩
  obtain ⟨ee, hS⟩ := two_rows (a := some 0) (b := some (0 - 1999 - r)) (c := none) (d := some 0) np np1 np2
  have ee' : Same H1 (upd (upd (upd H1 p (.lst [.int 0, .int (0 - 1999 - r)])) p1 (.lst [.non, .int 0])) p2 (.lst [.ref p, .ref p1])) := ee
  have hS' : SqF (SqF OnA) No (upd (upd (upd H1 p (.lst [.int 0, .int (0 - 1999 - r)])) p1 (.lst [.non, .int 0])) p2 (.lst [.ref p, .ref p1])) (.ref p2) (leastG (0 - 1999 - r)) := hS
  clear ee hS np np1 np2
  generalize upd (upd (upd H1 p (.lst [.int 0, .int (0 - 1999 - r)])) p1 (.lst [.non, .int 0])) p2 (.lst [.ref p, .ref p1]) = H2 at ee' hS' ⊢
  have hz : 0 - 1999 - r = -1999 ∨ 0 - 1999 - r = -2000 := by omega
  have O := least_ok _ hz
  have nh := least_high _ hz
  have b2 := b1.same ee'
  refine make_gapsA (m := 2) hS' (by decide) O fun gx H3 e3 hG => ?_
  by_cases hr0 : r = 0
  · subst hr0
    refine ⟨.ref gx, rfl, .inr ⟨2, _, hG, O, by decide, fun z => absurd z nh, fun _ => ⟨fun z => absurd z least_low1, fun _ => ⟨PL.ok (by decide) O nh least_low1, fun pr H4 e4 hpr => ?_⟩⟩⟩⟩
    try simp only [wipe, tC, tVar, tChain, rI0, rI, rU, tOp, tUn, tCall, tAnd, tOr, tNot, tNotV, tAndV, tOrV, tTest, tB, tIf, tIfS, tRet, tRetN, tNext, tSeq, tNil, tCons, tAug, ipI, tPar, tAsg, gName, tDrop, tLst, tTup, tCB, tBM, tBM0, tFld_eq, tMkE, tMake, tAugS, gSub, rEq, rAll, rMax, rSum, rAppend, rExtend, rSetL, _root_.L2.start, List.map_cons, List.map_nil, List.length_cons, List.length_nil, List.replicate_succ, List.replicate_zero, List.cons_append, List.nil_append, List.append_nil, List.getElem?_cons_zero, List.getElem?_cons_succ, List.set_cons_zero, List.set_cons_succ, Nat.reduceAdd, Nat.reduceSub, V.int.injEq, V.bl.injEq, V.ref.injEq, V.str.injEq, exists_eq, exists_eq', exists_eq_left, exists_eq_left', exists_and_left, exists_and_right, Option.some.injEq, List.cons.injEq, and_true, true_and, and_assoc, retV, true_or, or_true, decide_eq_true_eq, if_true, if_false, Bool.false_eq_true, Bool.not_true, Bool.not_false, Bool.not_eq_true', reduceCtorEq, eq_self, decide_true, decide_false, List.length_map, exists_const, false_and, and_false, or_false, false_or, scal, ↓reduceIte]
    rw [if_pos (by decide)]
    refine ⟨by decide, fun pd npd => ?_⟩
    have e5 := same_new (o := .tup [.str "told", .int 2]) npd
    refine ne_two (e5 _ _ hpr) upd_same (.str _) (.int _) (by decide +kernel) (by decide +kernel) rfl rfl ?_
    have b5 := b2.same (e3.trans (e4.trans e5))
    generalize upd H4 pd (.tup [.str "told", .int 2]) = H5 at b5 ⊢
    try simp only [wipe, tC, tVar, tChain, rI0, rI, rU, tOp, tUn, tCall, tAnd, tOr, tNot, tNotV, tAndV, tOrV, tTest, tB, tIf, tIfS, tRet, tRetN, tNext, tSeq, tNil, tCons, tAug, ipI, tPar, tAsg, gName, tDrop, tLst, tTup, tCB, tBM, tBM0, tFld_eq, tMkE, tMake, tAugS, gSub, rEq, rAll, rMax, rSum, rAppend, rExtend, rSetL, _root_.L2.start, List.map_cons, List.map_nil, List.length_cons, List.length_nil, List.replicate_succ, List.replicate_zero, List.cons_append, List.nil_append, List.append_nil, List.getElem?_cons_zero, List.getElem?_cons_succ, List.set_cons_zero, List.set_cons_succ, Nat.reduceAdd, Nat.reduceSub, V.int.injEq, V.bl.injEq, V.ref.injEq, V.str.injEq, exists_eq, exists_eq', exists_eq_left, exists_eq_left', exists_and_left, exists_and_right, Option.some.injEq, List.cons.injEq, and_true, true_and, and_assoc, retV, true_or, or_true, decide_eq_true_eq, if_true, if_false, Bool.false_eq_true, Bool.not_true, Bool.not_false, Bool.not_eq_true', reduceCtorEq, eq_self, decide_true, decide_false, List.length_map, exists_const, false_and, and_false, or_false, false_or, ↓reduceIte]
    refine ⟨by decide, fun p np => ⟨by decide, fun p1 np1 => ⟨by decide, fun p2 np2 => ?_⟩⟩⟩
    obtain ⟨ee, hS⟩ := two_rows (a := some 0) (b := some 1) (c := some (0 - 5000)) (d := some 0) np np1 np2
    have ee' : Same H5 (upd (upd (upd H5 p (.lst [.int 0, .int 1])) p1 (.lst [.int (0 - 5000), .int 0])) p2 (.lst [.ref p, .ref p1])) := ee
    have hS' : SqF (SqF OnA) No (upd (upd (upd H5 p (.lst [.int 0, .int 1])) p1 (.lst [.int (0 - 5000), .int 0])) p2 (.lst [.ref p, .ref p1])) (.ref p2) oneG := hS
    clear ee hS np np1 np2
    generalize upd (upd (upd H5 p (.lst [.int 0, .int 1])) p1 (.lst [.int (0 - 5000), .int 0])) p2 (.lst [.ref p, .ref p1]) = H6 at ee' hS' ⊢
    have b6 := b5.same ee'
    refine make_gapsA (m := 2) hS' (by decide) one_ok fun gx2 H7 e7 hG2 => ?_
    refine ⟨.ref gx2, rfl, .inr ⟨2, _, hG2, one_ok, by decide, fun _ pr2 H8 e8 hpr2 => ?_, fun z => absurd one_high z⟩⟩
    try simp only [wipe, tC, tVar, tChain, rI0, rI, rU, tOp, tUn, tCall, tAnd, tOr, tNot, tNotV, tAndV, tOrV, tTest, tB, tIf, tIfS, tRet, tRetN, tNext, tSeq, tNil, tCons, tAug, ipI, tPar, tAsg, gName, tDrop, tLst, tTup, tCB, tBM, tBM0, tFld_eq, tMkE, tMake, tAugS, gSub, rEq, rAll, rMax, rSum, rAppend, rExtend, rSetL, _root_.L2.start, List.map_cons, List.map_nil, List.length_cons, List.length_nil, List.replicate_succ, List.replicate_zero, List.cons_append, List.nil_append, List.append_nil, List.getElem?_cons_zero, List.getElem?_cons_succ, List.set_cons_zero, List.set_cons_succ, Nat.reduceAdd, Nat.reduceSub, V.int.injEq, V.bl.injEq, V.ref.injEq, V.str.injEq, exists_eq, exists_eq', exists_eq_left, exists_eq_left', exists_and_left, exists_and_right, Option.some.injEq, List.cons.injEq, and_true, true_and, and_assoc, retV, true_or, or_true, decide_eq_true_eq, if_true, if_false, Bool.false_eq_true, Bool.not_true, Bool.not_false, Bool.not_eq_true', reduceCtorEq, eq_self, decide_true, decide_false, List.length_map, exists_const, false_and, and_false, or_false, false_or, ↓reduceIte]
    refine ⟨by decide, fun pd2 npd2 => ?_⟩
    have e9 := same_new (o := .tup [.str "refused", .int (0 - 1)]) npd2
    refine ne_two (e9 _ _ hpr2) upd_same (.str _) (.int _) (by decide +kernel) (by decide +kernel) rfl rfl ?_
    try simp only [wipe, tC, tVar, tChain, rI0, rI, rU, tOp, tUn, tCall, tAnd, tOr, tNot, tNotV, tAndV, tOrV, tTest, tB, tIf, tIfS, tRet, tRetN, tNext, tSeq, tNil, tCons, tAug, ipI, tPar, tAsg, gName, tDrop, tLst, tTup, tCB, tBM, tBM0, tFld_eq, tMkE, tMake, tAugS, gSub, rEq, rAll, rMax, rSum, rAppend, rExtend, rSetL, _root_.L2.start, List.map_cons, List.map_nil, List.length_cons, List.length_nil, List.replicate_succ, List.replicate_zero, List.cons_append, List.nil_append, List.append_nil, List.getElem?_cons_zero, List.getElem?_cons_succ, List.set_cons_zero, List.set_cons_succ, Nat.reduceAdd, Nat.reduceSub, V.int.injEq, V.bl.injEq, V.ref.injEq, V.str.injEq, exists_eq, exists_eq', exists_eq_left, exists_eq_left', exists_and_left, exists_and_right, Option.some.injEq, List.cons.injEq, and_true, true_and, and_assoc, retV, true_or, or_true, decide_eq_true_eq, if_true, if_false, Bool.false_eq_true, Bool.not_true, Bool.not_false, Bool.not_eq_true', reduceCtorEq, eq_self, decide_true, decide_false, List.length_map, exists_const, false_and, and_false, or_false, false_or, ↓reduceIte]
    exact T5 Q b d _ _ _ _ _ _ _ _ _ _ _ _ (b6.same (e7.trans (e8.trans e9))) q
  · obtain rfl : r = 1 := by omega
    refine ⟨.ref gx, rfl, .inr ⟨2, _, hG, O, by decide, fun z => absurd z nh, fun _ => ⟨fun _ pr H4 e4 hpr => ?_, fun z => absurd least_low2 z⟩⟩⟩
    try simp only [wipe, tC, tVar, tChain, rI0, rI, rU, tOp, tUn, tCall, tAnd, tOr, tNot, tNotV, tAndV, tOrV, tTest, tB, tIf, tIfS, tRet, tRetN, tNext, tSeq, tNil, tCons, tAug, ipI, tPar, tAsg, gName, tDrop, tLst, tTup, tCB, tBM, tBM0, tFld_eq, tMkE, tMake, tAugS, gSub, rEq, rAll, rMax, rSum, rAppend, rExtend, rSetL, _root_.L2.start, List.map_cons, List.map_nil, List.length_cons, List.length_nil, List.replicate_succ, List.replicate_zero, List.cons_append, List.nil_append, List.append_nil, List.getElem?_cons_zero, List.getElem?_cons_succ, List.set_cons_zero, List.set_cons_succ, Nat.reduceAdd, Nat.reduceSub, V.int.injEq, V.bl.injEq, V.ref.injEq, V.str.injEq, exists_eq, exists_eq', exists_eq_left, exists_eq_left', exists_and_left, exists_and_right, Option.some.injEq, List.cons.injEq, and_true, true_and, and_assoc, retV, true_or, or_true, decide_eq_true_eq, if_true, if_false, Bool.false_eq_true, Bool.not_true, Bool.not_false, Bool.not_eq_true', reduceCtorEq, eq_self, decide_true, decide_false, List.length_map, exists_const, false_and, and_false, or_false, false_or, scal, ↓reduceIte]
    rw [if_neg (by decide)]
    refine ⟨by decide, fun pd npd => ?_⟩
    have e5 := same_new (o := .tup [.str "size", .str "places"]) npd
    refine ne_two (e5 _ _ hpr) upd_same (.str _) (.str _) (by decide +kernel) (by decide +kernel) rfl rfl ?_
    have b5 := b2.same (e3.trans (e4.trans e5))
    generalize upd H4 pd (.tup [.str "size", .str "places"]) = H5 at b5 ⊢
    try simp only [wipe, tC, tVar, tChain, rI0, rI, rU, tOp, tUn, tCall, tAnd, tOr, tNot, tNotV, tAndV, tOrV, tTest, tB, tIf, tIfS, tRet, tRetN, tNext, tSeq, tNil, tCons, tAug, ipI, tPar, tAsg, gName, tDrop, tLst, tTup, tCB, tBM, tBM0, tFld_eq, tMkE, tMake, tAugS, gSub, rEq, rAll, rMax, rSum, rAppend, rExtend, rSetL, _root_.L2.start, List.map_cons, List.map_nil, List.length_cons, List.length_nil, List.replicate_succ, List.replicate_zero, List.cons_append, List.nil_append, List.append_nil, List.getElem?_cons_zero, List.getElem?_cons_succ, List.set_cons_zero, List.set_cons_succ, Nat.reduceAdd, Nat.reduceSub, V.int.injEq, V.bl.injEq, V.ref.injEq, V.str.injEq, exists_eq, exists_eq', exists_eq_left, exists_eq_left', exists_and_left, exists_and_right, Option.some.injEq, List.cons.injEq, and_true, true_and, and_assoc, retV, true_or, or_true, decide_eq_true_eq, if_true, if_false, Bool.false_eq_true, Bool.not_true, Bool.not_false, Bool.not_eq_true', reduceCtorEq, eq_self, decide_true, decide_false, List.length_map, exists_const, false_and, and_false, or_false, false_or, ↓reduceIte]
    refine ⟨by decide, fun p np => ⟨by decide, fun p1 np1 => ⟨by decide, fun p2 np2 => ?_⟩⟩⟩
    obtain ⟨ee, hS⟩ := two_rows (a := some 0) (b := some 1) (c := some (0 - 5000)) (d := some 0) np np1 np2
    have ee' : Same H5 (upd (upd (upd H5 p (.lst [.int 0, .int 1])) p1 (.lst [.int (0 - 5000), .int 0])) p2 (.lst [.ref p, .ref p1])) := ee
    have hS' : SqF (SqF OnA) No (upd (upd (upd H5 p (.lst [.int 0, .int 1])) p1 (.lst [.int (0 - 5000), .int 0])) p2 (.lst [.ref p, .ref p1])) (.ref p2) oneG := hS
    clear ee hS np np1 np2
    generalize upd (upd (upd H5 p (.lst [.int 0, .int 1])) p1 (.lst [.int (0 - 5000), .int 0])) p2 (.lst [.ref p, .ref p1]) = H6 at ee' hS' ⊢
    have b6 := b5.same ee'
    refine make_gapsA (m := 2) hS' (by decide) one_ok fun gx2 H7 e7 hG2 => ?_
    refine ⟨.ref gx2, rfl, .inr ⟨2, _, hG2, one_ok, by decide, fun _ pr2 H8 e8 hpr2 => ?_, fun z => absurd one_high z⟩⟩
    try simp only [wipe, tC, tVar, tChain, rI0, rI, rU, tOp, tUn, tCall, tAnd, tOr, tNot, tNotV, tAndV, tOrV, tTest, tB, tIf, tIfS, tRet, tRetN, tNext, tSeq, tNil, tCons, tAug, ipI, tPar, tAsg, gName, tDrop, tLst, tTup, tCB, tBM, tBM0, tFld_eq, tMkE, tMake, tAugS, gSub, rEq, rAll, rMax, rSum, rAppend, rExtend, rSetL, _root_.L2.start, List.map_cons, List.map_nil, List.length_cons, List.length_nil, List.replicate_succ, List.replicate_zero, List.cons_append, List.nil_append, List.append_nil, List.getElem?_cons_zero, List.getElem?_cons_succ, List.set_cons_zero, List.set_cons_succ, Nat.reduceAdd, Nat.reduceSub, V.int.injEq, V.bl.injEq, V.ref.injEq, V.str.injEq, exists_eq, exists_eq', exists_eq_left, exists_eq_left', exists_and_left, exists_and_right, Option.some.injEq, List.cons.injEq, and_true, true_and, and_assoc, retV, true_or, or_true, decide_eq_true_eq, if_true, if_false, Bool.false_eq_true, Bool.not_true, Bool.not_false, Bool.not_eq_true', reduceCtorEq, eq_self, decide_true, decide_false, List.length_map, exists_const, false_and, and_false, or_false, false_or, ↓reduceIte]
    refine ⟨by decide, fun pd2 npd2 => ?_⟩
    have e9 := same_new (o := .tup [.str "refused", .int (0 - 1)]) npd2
    refine ne_two (e9 _ _ hpr2) upd_same (.str _) (.int _) (by decide +kernel) (by decide +kernel) rfl rfl ?_
    try simp only [wipe, tC, tVar, tChain, rI0, rI, rU, tOp, tUn, tCall, tAnd, tOr, tNot, tNotV, tAndV, tOrV, tTest, tB, tIf, tIfS, tRet, tRetN, tNext, tSeq, tNil, tCons, tAug, ipI, tPar, tAsg, gName, tDrop, tLst, tTup, tCB, tBM, tBM0, tFld_eq, tMkE, tMake, tAugS, gSub, rEq, rAll, rMax, rSum, rAppend, rExtend, rSetL, _root_.L2.start, List.map_cons, List.map_nil, List.length_cons, List.length_nil, List.replicate_succ, List.replicate_zero, List.cons_append, List.nil_append, List.append_nil, List.getElem?_cons_zero, List.getElem?_cons_succ, List.set_cons_zero, List.set_cons_succ, Nat.reduceAdd, Nat.reduceSub, V.int.injEq, V.bl.injEq, V.ref.injEq, V.str.injEq, exists_eq, exists_eq', exists_eq_left, exists_eq_left', exists_and_left, exists_and_right, Option.some.injEq, List.cons.injEq, and_true, true_and, and_assoc, retV, true_or, or_true, decide_eq_true_eq, if_true, if_false, Bool.false_eq_true, Bool.not_true, Bool.not_false, Bool.not_eq_true', reduceCtorEq, eq_self, decide_true, decide_false, List.length_map, exists_const, false_and, and_false, or_false, false_or, ↓reduceIte]
    exact T5 Q b d _ _ _ _ _ _ _ _ _ _ _ _ (b6.same (e7.trans (e8.trans e9))) q
end
end K78
set_option Elab.async false
set_option linter.all false
set_option maxRecDepth 100000
set_option maxHeartbeats 4000000
/-! k78: law, whole -/
namespace K78
open PySem PySem.Spec PyProof.Rows L2 He HK
/-- a drawn body -/
def CellsOk (cs : List (List Int)) : Prop := cs.length ≤ 3 ∧ ∀ c ∈ cs, ∃ x y : Int, c = [x, y] ∧ 0 ≤ x ∧ x ≤ 100 ∧ 0 ≤ y ∧ y ≤ 100
theorem gaps_law {B : List (List (List Int))} {R : GR} (h : LawG B R) (B12 : B.length ≤ 12) (hB : ∀ b ∈ B, ∀ c ∈ b, ∃ x y : Int, c = [x, y] ∧ 0 ≤ x ∧ x ≤ 1000) : GapsOk B.length R := by
  refine ⟨B12, h.1, fun b row hb => ?_⟩
  obtain ⟨l1, l2⟩ := h.2 b row hb
  have hbm : b < B.length := by rw [← h.1]; exact (List.getElem?_eq_some_iff.1 hb).1
  have at_ : ∀ (k : Nat) (c : List Int), c ∈ B.getD k [] → ∃ x y : Int, c = [x, y] ∧ 0 ≤ x ∧ x ≤ 1000 := fun k c hc => by
    cases hk : B[k]? with
    | none =>
      simp only [List.getD, hk, Option.getD_none] at hc
      cases hc
    | some bb =>
      rw [getD_of hk] at hc
      exact hB bb (List.mem_of_getElem? hk) c hc
  refine ⟨l1, ?_, fun i hi => ?_⟩
  · obtain ⟨c, hc⟩ := getI (xs := row) (i := b) (by omega)
    have := l2 b c hc
    unfold fndL at this
    rw [if_pos rfl] at this
    rw [hc]
    cases c with
    | none => cases this
    | some g =>
      have := List.mem_singleton.1 this.1
      rw [this]
  · obtain ⟨o, ho⟩ := List.getElem?_of_mem hi
    have := (l2 o (some i) ho).1
    unfold fndL at this
    split at this
    · have := List.mem_singleton.1 this
      omega
    · obtain ⟨c, hc, hh⟩ := List.mem_flatMap.1 this
      unfold hitL at hh
      obtain ⟨d, hd, hh⟩ := List.mem_flatMap.1 hh
      obtain ⟨c0, c1, rfl, k1, k2⟩ := at_ b c hc
      obtain ⟨d0, d1, rfl, k3, k4⟩ := at_ o d hd
      unfold up1 at hh
      split at hh
      · have := List.mem_singleton.1 hh
        simp only [List.getD_cons_zero] at this
        omega
      · cases hh
def sp_law (K : PySem.W.Frag) : Sp := fun vs H Q _ => ∃ (a : Addr) (xs : List Int), vs = [.ref a] ∧ SqL K H a (xs.map V.int) ∧ ∀ H', Q (.bl true) H'
section
variable {w : World} {K : PySem.W.Frag} {mg : Str → Option Value} {base : Heap}
theorem C_law (S : Sc K mg) (PL : Plain w) (fd : FuncData) (F : FunD K d_law.name d_law.qual d_law.params d_law.body d_law.scope (d_law.dvs K) (d_law.kws K) (fAd K d_law.at_) fd) : FnOk prg w K mg base CX0 14 (fAd K d_law.at_) fd ["script"] (sp_law K) := by
  have C__law_box := C__law_box (w := w) (base := base) S
  have C__law_case_fine := C__law_case_fine (w := w) (base := base) S PL
  have C__law_rows := C__law_rows (w := w) (base := base) S
  have C__law_draw := C__law_draw (w := w) (base := base) S
  have C__law_gaps_of := C__law_gaps_of (w := w) (base := base) S
  refine S.calL (d := d_law) sc_law rfl rfl F (fun vs H Q E h => ?_) (fun f cdv A outer s H vs Q E hr h => ?_)
  · obtain ⟨a, xs, rfl, _⟩ := h
    rfl
  · obtain ⟨a, xs, rfl, ha, q⟩ := h
    obtain ⟨t2, h2, T2⟩ := law_2 (w := w) (base := base) S PL (outer := outer) (H := H) (E := E) hr
    refine ⟨_, (pss_cons (ps_set (i := 1) sc_law.nd rfl (by first | exact Or.inl rfl | exact Or.inr rfl) (pe_c C__law_box (hr.mono (by omega)) pass0 (pa_cons (pv 0) (pa_cons pe_int pa_nil))))
      (pss_cons (ps_for PassesOwn.never rfl (pi_range1 rfl (S.free 46) (pa_cons pe_int pa_nil)) (pg_name (i := 2) sc_law.nd rfl (by first | exact Or.inl rfl | exact Or.inr rfl)) (pss_cons (ps_set (i := 3) sc_law.nd rfl (by first | exact Or.inl rfl | exact Or.inr rfl) (pe_op op_add pe_int (pe_c C__law_draw (hr.mono (by omega)) pass0 (pa_cons (pv 1) (pa_cons pe_int pa_nil)))))
      (pss_cons (ps_if (PW.pt (pw_or (pt_not (pt_val (pe_c C__law_case_fine (hr.mono (by omega)) pass0 (pa_cons (pv 1) (pa_cons (pe_c C__law_rows (hr.mono (by omega)) pass0 (pa_cons (pv 1) (pa_cons (pv 3) (pa_cons pe_int pa_nil)))) pa_nil))))) (pw_or1 (pt_not (pt_val (pe_c C__law_case_fine (hr.mono (by omega)) pass0 (pa_cons (pv 1) (pa_cons (pe_c C__law_rows (hr.mono (by omega)) pass0 (pa_cons (pv 1) (pa_cons (pv 3) (pa_cons (pe_op op_add pe_int (pe_c C__law_draw (hr.mono (by omega)) pass0 (pa_cons (pv 1) (pa_cons pe_int pa_nil)))) pa_nil)))) pa_nil)))))))) (pss_one (ps_ret pe_bl)) pss_nil)
      (pss_cons (ps_set (i := 4) sc_law.nd rfl (by first | exact Or.inl rfl | exact Or.inr rfl) (pe_lst pa_nil))
      (pss_cons (ps_for PassesOwn.never rfl (pi_range1 rfl (S.free 46) (pa_cons (pe_op op_add pe_int (pe_c C__law_draw (hr.mono (by omega)) pass0 (pa_cons (pv 1) (pa_cons pe_int pa_nil)))) pa_nil)) (pg_name (i := 5) sc_law.nd rfl (by first | exact Or.inl rfl | exact Or.inr rfl)) (pss_one (ps_expr (pe_bm PySem.F.plainAttrs_list PySem.F.slot_list_append PySem.F.type_list_append mt_append (pv 4) (pa_cons (pe_callTy cr_tupA (by rfl) (S.free 50) (by decide +kernel) (pa_cons (pe_callB cr_sortedPO (by rfl) (S.free 47) (by decide +kernel) (pa_cons (pe_lc (own := [("place", 6)]) (g := (gName 6)) (tt := tYes) rfl sc_law.nd (pi_range1 rfl (S.free 46) (pa_cons (pe_op op_add pe_int (pe_c C__law_draw (hr.mono (by omega)) pass0 (pa_cons (pv 1) (pa_cons pe_int pa_nil)))) pa_nil)) (blkOk_by (N := ["script", "box", "turn", "many", "cells", "body", "place", "cell", "least", "full", "few", "other"]) (sc := defScope s_law) (by decide +kernel)) (fun _ _ _ _ _ => (pg_name (i := 6) sc_law.nd rfl (by first | exact Or.inl rfl | exact Or.inr rfl))) (fun _ _ _ _ _ => pts_nil) (fun _ _ _ _ _ => (pe_tup (pa_cons (pe_op op_add (pe_op op_mul pe_int (pv 6)) (pv 5)) (pa_cons (pe_c C__law_draw (hr.mono (by omega)) pass0 (pa_cons (pv 1) (pa_cons pe_int pa_nil))) pa_nil))))) pa_nil)) pa_nil)) pa_nil)))))
      (pss_one (ps_if (pt_not (pt_val (pe_c C__law_case_fine (hr.mono (by omega)) pass0 (pa_cons (pv 1) (pa_cons (pe_c C__law_gaps_of (hr.mono (by omega)) pass0 (pa_cons (pe_lc (own := [("body", 5)]) (g := (gName 5)) (tt := tYes) rfl sc_law.nd (pi_range1 rfl (S.free 46) (pa_cons (pe_callB cr_lenA (by rfl) (S.free 42) (by decide +kernel) (pa_cons (pv 4) pa_nil)) pa_nil)) (blkOk_by (N := ["script", "box", "turn", "many", "cells", "body", "place", "cell", "least", "full", "few", "other"]) (sc := defScope s_law) (by decide +kernel)) (fun _ _ _ _ _ => (pg_name (i := 5) sc_law.nd rfl (by first | exact Or.inl rfl | exact Or.inr rfl))) (fun _ _ _ _ _ => pts_nil) (fun _ _ _ _ _ => (pe_callTy (cK (K := K) rfl cr_tupA) (by rfl) (S.free 50) (by decide +kernel) (pa_cons (pe_lc (own := [("cell", 7)]) (g := (gName 7)) (tt := tYes) rfl sc_law.nd (pi_seqK (K := K) rfl (pe_ix (iK (K := K) rfl ix_list) (pv 4) (pv 5) (fun _ _ => rfl))) (blkOk_by (by kernel_rfl)) (fun _ _ _ _ _ => (pg_name (i := 7) sc_law.nd rfl (by first | exact Or.inl rfl | exact Or.inr rfl))) (fun _ _ _ _ _ => pts_nil) (fun _ _ _ _ _ => (pe_tup (pa_cons (pe_op op_add (pe_op op_mul pe_int (pe_ix (iK (K := K) rfl ix_tup) (pv 7) pe_int (fun _ _ => rfl))) (pv 5)) (pa_cons (pe_ix (iK (K := K) rfl ix_tup) (pv 7) pe_int (fun _ _ => rfl)) pa_nil))))) pa_nil)))) pa_nil)) pa_nil))))) (pss_one (ps_ret pe_bl)) pss_nil)))))))
      h2)), ?_⟩
    try simp only [wipe, tC, tVar, tChain, rI0, rI, rU, tOp, tUn, tCall, tAnd, tOr, tNot, tNotV, tAndV, tOrV, tTest, tB, tIf, tIfS, tRet, tRetN, tNext, tSeq, tNil, tCons, tAug, ipI, tPar, tAsg, gName, tDrop, tLst, tTup, tCB, tBM, tBM0, tFld_eq, tMkE, tMake, tAugS, gSub, rEq, rAll, rMax, rSum, rAppend, rExtend, rSetL, _root_.L2.start, List.map_cons, List.map_nil, List.length_cons, List.length_nil, List.replicate_succ, List.replicate_zero, List.cons_append, List.nil_append, List.append_nil, List.getElem?_cons_zero, List.getElem?_cons_succ, List.set_cons_zero, List.set_cons_succ, Nat.reduceAdd, Nat.reduceSub, V.int.injEq, V.bl.injEq, V.ref.injEq, V.str.injEq, exists_eq, exists_eq', exists_eq_left, exists_eq_left', exists_and_left, exists_and_right, Option.some.injEq, List.cons.injEq, and_true, true_and, and_assoc, retV, true_or, or_true, decide_eq_true_eq, if_true, if_false, Bool.false_eq_true, Bool.not_true, Bool.not_false, Bool.not_eq_true', reduceCtorEq, eq_self, decide_true, decide_false, List.length_map, exists_const, false_and, and_false, or_false, false_or, ↓reduceIte]
    refine ⟨a, xs, 78, rfl, ha, by decide, by decide, fun b d H1 e1 b1 => ?_⟩
    try simp only [wipe, tC, tVar, tChain, rI0, rI, rU, tOp, tUn, tCall, tAnd, tOr, tNot, tNotV, tAndV, tOrV, tTest, tB, tIf, tIfS, tRet, tRetN, tNext, tSeq, tNil, tCons, tAug, ipI, tPar, tAsg, gName, tDrop, tLst, tTup, tCB, tBM, tBM0, tFld_eq, tMkE, tMake, tAugS, gSub, rEq, rAll, rMax, rSum, rAppend, rExtend, rSetL, _root_.L2.start, List.map_cons, List.map_nil, List.length_cons, List.length_nil, List.replicate_succ, List.replicate_zero, List.cons_append, List.nil_append, List.append_nil, List.getElem?_cons_zero, List.getElem?_cons_succ, List.set_cons_zero, List.set_cons_succ, Nat.reduceAdd, Nat.reduceSub, V.int.injEq, V.bl.injEq, V.ref.injEq, V.str.injEq, exists_eq, exists_eq', exists_eq_left, exists_eq_left', exists_and_left, exists_and_right, Option.some.injEq, List.cons.injEq, and_true, true_and, and_assoc, retV, true_or, or_true, decide_eq_true_eq, if_true, if_false, Bool.false_eq_true, Bool.not_true, Bool.not_false, Bool.not_eq_true', reduceCtorEq, eq_self, decide_true, decide_false, List.length_map, exists_const, false_and, and_false, or_false, false_or, ↓reduceIte]
    refine for_go (gives_rng1 (j := 3) (fun Q h => h)) (fun i σ H' => (∃ u2 u3 u4 u5 u6 u7 u8 u9 u10 u11, σ = [some (.ref a), some (.ref b), u2, u3, u4, u5, u6, u7, u8, u9, u10, u11]) ∧ BoxAt b d H') ⟨⟨_, _, _, _, _, _, _, _, _, _, rfl⟩, b1⟩ (fun _ _ _ _ _ => trivial) (fun i y σ H2 hi hy h => ?_) (fun σ H2 h => ?_)
    · obtain ⟨⟨u2, u3, u4, u5, u6, u7, u8, u9, u10, u11, rfl⟩, b2⟩ := h
      try simp only [wipe, tC, tVar, tChain, rI0, rI, rU, tOp, tUn, tCall, tAnd, tOr, tNot, tNotV, tAndV, tOrV, tTest, tB, tIf, tIfS, tRet, tRetN, tNext, tSeq, tNil, tCons, tAug, ipI, tPar, tAsg, gName, tDrop, tLst, tTup, tCB, tBM, tBM0, tFld_eq, tMkE, tMake, tAugS, gSub, rEq, rAll, rMax, rSum, rAppend, rExtend, rSetL, _root_.L2.start, List.map_cons, List.map_nil, List.length_cons, List.length_nil, List.replicate_succ, List.replicate_zero, List.cons_append, List.nil_append, List.append_nil, List.getElem?_cons_zero, List.getElem?_cons_succ, List.set_cons_zero, List.set_cons_succ, Nat.reduceAdd, Nat.reduceSub, V.int.injEq, V.bl.injEq, V.ref.injEq, V.str.injEq, exists_eq, exists_eq', exists_eq_left, exists_eq_left', exists_and_left, exists_and_right, Option.some.injEq, List.cons.injEq, and_true, true_and, and_assoc, retV, true_or, or_true, decide_eq_true_eq, if_true, if_false, Bool.false_eq_true, Bool.not_true, Bool.not_false, Bool.not_eq_true', reduceCtorEq, eq_self, decide_true, decide_false, List.length_map, exists_const, false_and, and_false, or_false, false_or, ↓reduceIte]
      refine ⟨b, d, 7, rfl, b2, by decide, by decide, fun v H3 e3 b3 hv => ?_⟩
      obtain ⟨r, rfl, r0, r1⟩ := hv
      try simp only [wipe, tC, tVar, tChain, rI0, rI, rU, tOp, tUn, tCall, tAnd, tOr, tNot, tNotV, tAndV, tOrV, tTest, tB, tIf, tIfS, tRet, tRetN, tNext, tSeq, tNil, tCons, tAug, ipI, tPar, tAsg, gName, tDrop, tLst, tTup, tCB, tBM, tBM0, tFld_eq, tMkE, tMake, tAugS, gSub, rEq, rAll, rMax, rSum, rAppend, rExtend, rSetL, _root_.L2.start, List.map_cons, List.map_nil, List.length_cons, List.length_nil, List.replicate_succ, List.replicate_zero, List.cons_append, List.nil_append, List.append_nil, List.getElem?_cons_zero, List.getElem?_cons_succ, List.set_cons_zero, List.set_cons_succ, Nat.reduceAdd, Nat.reduceSub, V.int.injEq, V.bl.injEq, V.ref.injEq, V.str.injEq, exists_eq, exists_eq', exists_eq_left, exists_eq_left', exists_and_left, exists_and_right, Option.some.injEq, List.cons.injEq, and_true, true_and, and_assoc, retV, true_or, or_true, decide_eq_true_eq, if_true, if_false, Bool.false_eq_true, Bool.not_true, Bool.not_false, Bool.not_eq_true', reduceCtorEq, eq_self, decide_true, decide_false, List.length_map, exists_const, false_and, and_false, or_false, false_or, ↓reduceIte]
      obtain ⟨m, hm⟩ : ∃ m : Nat, 1 + r = (m : Int) := ⟨(1 + r).toNat, (Int.toNat_of_nonneg (by omega)).symm⟩
      rw [hm]
      refine ⟨b, d, m, 0, rfl, b3, by omega, by omega, fun t4 H4 R4 e4 b4 ht4 O4 => ?_⟩
      refine ⟨b, d, t4, m, R4, rfl, b4, ht4, O4, by omega, fun H5 e5 b5 => ?_⟩
      try simp only [wipe, tC, tVar, tChain, rI0, rI, rU, tOp, tUn, tCall, tAnd, tOr, tNot, tNotV, tAndV, tOrV, tTest, tB, tIf, tIfS, tRet, tRetN, tNext, tSeq, tNil, tCons, tAug, ipI, tPar, tAsg, gName, tDrop, tLst, tTup, tCB, tBM, tBM0, tFld_eq, tMkE, tMake, tAugS, gSub, rEq, rAll, rMax, rSum, rAppend, rExtend, rSetL, _root_.L2.start, List.map_cons, List.map_nil, List.length_cons, List.length_nil, List.replicate_succ, List.replicate_zero, List.cons_append, List.nil_append, List.append_nil, List.getElem?_cons_zero, List.getElem?_cons_succ, List.set_cons_zero, List.set_cons_succ, Nat.reduceAdd, Nat.reduceSub, V.int.injEq, V.bl.injEq, V.ref.injEq, V.str.injEq, exists_eq, exists_eq', exists_eq_left, exists_eq_left', exists_and_left, exists_and_right, Option.some.injEq, List.cons.injEq, and_true, true_and, and_assoc, retV, true_or, or_true, decide_eq_true_eq, if_true, if_false, Bool.false_eq_true, Bool.not_true, Bool.not_false, Bool.not_eq_true', reduceCtorEq, eq_self, decide_true, decide_false, List.length_map, exists_const, false_and, and_false, or_false, false_or, ↓reduceIte]
      refine ⟨b, d, 2, rfl, b5, by decide, by decide, fun v H6 e6 b6 hv => ?_⟩
      obtain ⟨r', rfl, r0', r1'⟩ := hv
      try simp only [wipe, tC, tVar, tChain, rI0, rI, rU, tOp, tUn, tCall, tAnd, tOr, tNot, tNotV, tAndV, tOrV, tTest, tB, tIf, tIfS, tRet, tRetN, tNext, tSeq, tNil, tCons, tAug, ipI, tPar, tAsg, gName, tDrop, tLst, tTup, tCB, tBM, tBM0, tFld_eq, tMkE, tMake, tAugS, gSub, rEq, rAll, rMax, rSum, rAppend, rExtend, rSetL, _root_.L2.start, List.map_cons, List.map_nil, List.length_cons, List.length_nil, List.replicate_succ, List.replicate_zero, List.cons_append, List.nil_append, List.append_nil, List.getElem?_cons_zero, List.getElem?_cons_succ, List.set_cons_zero, List.set_cons_succ, Nat.reduceAdd, Nat.reduceSub, V.int.injEq, V.bl.injEq, V.ref.injEq, V.str.injEq, exists_eq, exists_eq', exists_eq_left, exists_eq_left', exists_and_left, exists_and_right, Option.some.injEq, List.cons.injEq, and_true, true_and, and_assoc, retV, true_or, or_true, decide_eq_true_eq, if_true, if_false, Bool.false_eq_true, Bool.not_true, Bool.not_false, Bool.not_eq_true', reduceCtorEq, eq_self, decide_true, decide_false, List.length_map, exists_const, false_and, and_false, or_false, false_or, ↓reduceIte]
      obtain ⟨n, hn⟩ : ∃ n : Nat, 1 + r' = (n : Int) := ⟨(1 + r').toNat, (Int.toNat_of_nonneg (by omega)).symm⟩
      rw [hn]
      refine ⟨b, d, m, n, rfl, b6, by omega, by omega, fun t7 H7 R7 e7 b7 ht7 O7 => ?_⟩
      refine ⟨b, d, t7, m, R7, rfl, b7, ht7, O7, by omega, fun H8 e8 b8 => ?_⟩
      try simp only [wipe, tC, tVar, tChain, rI0, rI, rU, tOp, tUn, tCall, tAnd, tOr, tNot, tNotV, tAndV, tOrV, tTest, tB, tIf, tIfS, tRet, tRetN, tNext, tSeq, tNil, tCons, tAug, ipI, tPar, tAsg, gName, tDrop, tLst, tTup, tCB, tBM, tBM0, tFld_eq, tMkE, tMake, tAugS, gSub, rEq, rAll, rMax, rSum, rAppend, rExtend, rSetL, _root_.L2.start, List.map_cons, List.map_nil, List.length_cons, List.length_nil, List.replicate_succ, List.replicate_zero, List.cons_append, List.nil_append, List.append_nil, List.getElem?_cons_zero, List.getElem?_cons_succ, List.set_cons_zero, List.set_cons_succ, Nat.reduceAdd, Nat.reduceSub, V.int.injEq, V.bl.injEq, V.ref.injEq, V.str.injEq, exists_eq, exists_eq', exists_eq_left, exists_eq_left', exists_and_left, exists_and_right, Option.some.injEq, List.cons.injEq, and_true, true_and, and_assoc, retV, true_or, or_true, decide_eq_true_eq, if_true, if_false, Bool.false_eq_true, Bool.not_true, Bool.not_false, Bool.not_eq_true', reduceCtorEq, eq_self, decide_true, decide_false, List.length_map, exists_const, false_and, and_false, or_false, false_or, ↓reduceIte]
      refine ⟨by decide, fun F nF => ?_⟩
      rw [for_rcall]
      try simp only [wipe, tC, tVar, tChain, rI0, rI, rU, tOp, tUn, tCall, tAnd, tOr, tNot, tNotV, tAndV, tOrV, tTest, tB, tIf, tIfS, tRet, tRetN, tNext, tSeq, tNil, tCons, tAug, ipI, tPar, tAsg, gName, tDrop, tLst, tTup, tCB, tBM, tBM0, tFld_eq, tMkE, tMake, tAugS, gSub, rEq, rAll, rMax, rSum, rAppend, rExtend, rSetL, _root_.L2.start, List.map_cons, List.map_nil, List.length_cons, List.length_nil, List.replicate_succ, List.replicate_zero, List.cons_append, List.nil_append, List.append_nil, List.getElem?_cons_zero, List.getElem?_cons_succ, List.set_cons_zero, List.set_cons_succ, Nat.reduceAdd, Nat.reduceSub, V.int.injEq, V.bl.injEq, V.ref.injEq, V.str.injEq, exists_eq, exists_eq', exists_eq_left, exists_eq_left', exists_and_left, exists_and_right, Option.some.injEq, List.cons.injEq, and_true, true_and, and_assoc, retV, true_or, or_true, decide_eq_true_eq, if_true, if_false, Bool.false_eq_true, Bool.not_true, Bool.not_false, Bool.not_eq_true', reduceCtorEq, eq_self, decide_true, decide_false, List.length_map, exists_const, false_and, and_false, or_false, false_or, ↓reduceIte]
      have nFb := b8.off nF
      have b9 := b8.upd (o := .lst []) nFb
      refine ⟨b, d, 4, rfl, b9, by decide, by decide, fun v H10 e10 b10 hv => ?_⟩
      obtain ⟨k, rfl, k0, k1⟩ := hv
      try simp only [wipe, tC, tVar, tChain, rI0, rI, rU, tOp, tUn, tCall, tAnd, tOr, tNot, tNotV, tAndV, tOrV, tTest, tB, tIf, tIfS, tRet, tRetN, tNext, tSeq, tNil, tCons, tAug, ipI, tPar, tAsg, gName, tDrop, tLst, tTup, tCB, tBM, tBM0, tFld_eq, tMkE, tMake, tAugS, gSub, rEq, rAll, rMax, rSum, rAppend, rExtend, rSetL, _root_.L2.start, List.map_cons, List.map_nil, List.length_cons, List.length_nil, List.replicate_succ, List.replicate_zero, List.cons_append, List.nil_append, List.append_nil, List.getElem?_cons_zero, List.getElem?_cons_succ, List.set_cons_zero, List.set_cons_succ, Nat.reduceAdd, Nat.reduceSub, V.int.injEq, V.bl.injEq, V.ref.injEq, V.str.injEq, exists_eq, exists_eq', exists_eq_left, exists_eq_left', exists_and_left, exists_and_right, Option.some.injEq, List.cons.injEq, and_true, true_and, and_assoc, retV, true_or, or_true, decide_eq_true_eq, if_true, if_false, Bool.false_eq_true, Bool.not_true, Bool.not_false, Bool.not_eq_true', reduceCtorEq, eq_self, decide_true, decide_false, List.length_map, exists_const, false_and, and_false, or_false, false_or, ↓reduceIte]
      obtain ⟨nb, hnb⟩ : ∃ n : Nat, 1 + k = (n : Int) := ⟨(1 + k).toNat, (Int.toNat_of_nonneg (by omega)).symm⟩
      rw [hnb]
      have hF10 := e10.1 _ _ nFb (upd_same (H := H8) (a := F) (o := .lst []))
      refine for_go (gives_rng1 (j := nb) (fun Q h => h)) (fun i σ H' => (∃ u2 u3 u5 u6 u7 u8 u9 u10 u11, σ = [some (.ref a), some (.ref b), u2, u3, some (.ref F), u5, u6, u7, u8, u9, u10, u11]) ∧ BoxAt b d H' ∧
          ∃ vs B, H' F = some (.lst vs) ∧ Paired (TpF (TpF InA) No H') vs B ∧ B.length = i ∧ ∀ cs ∈ B, CellsOk cs)
        ⟨⟨_, _, _, _, _, _, _, _, _, rfl⟩, b10, [], [], hF10, .nil, rfl, fun _ z => absurd z List.not_mem_nil⟩ (fun _ _ _ _ _ => trivial) (fun bi y σ H11 hi hy h => ?_) (fun σ H11 h => ?_)
      · obtain ⟨⟨u2, u3, u5, u6, u7, u8, u9, u10, u11, rfl⟩, b11, vs, B, hF, hB, lB, gB⟩ := h
        rw [rngV_len, Int.toNat_natCast] at hi
        rw [Int.toNat_natCast, rngV_get hi, Int.zero_add] at hy
        obtain rfl := Option.some.inj hy
        try simp only [wipe, tC, tVar, tChain, rI0, rI, rU, tOp, tUn, tCall, tAnd, tOr, tNot, tNotV, tAndV, tOrV, tTest, tB, tIf, tIfS, tRet, tRetN, tNext, tSeq, tNil, tCons, tAug, ipI, tPar, tAsg, gName, tDrop, tLst, tTup, tCB, tBM, tBM0, tFld_eq, tMkE, tMake, tAugS, gSub, rEq, rAll, rMax, rSum, rAppend, rExtend, rSetL, _root_.L2.start, List.map_cons, List.map_nil, List.length_cons, List.length_nil, List.replicate_succ, List.replicate_zero, List.cons_append, List.nil_append, List.append_nil, List.getElem?_cons_zero, List.getElem?_cons_succ, List.set_cons_zero, List.set_cons_succ, Nat.reduceAdd, Nat.reduceSub, V.int.injEq, V.bl.injEq, V.ref.injEq, V.str.injEq, exists_eq, exists_eq', exists_eq_left, exists_eq_left', exists_and_left, exists_and_right, Option.some.injEq, List.cons.injEq, and_true, true_and, and_assoc, retV, true_or, or_true, decide_eq_true_eq, if_true, if_false, Bool.false_eq_true, Bool.not_true, Bool.not_false, Bool.not_eq_true', reduceCtorEq, eq_self, decide_true, decide_false, List.length_map, exists_const, false_and, and_false, or_false, false_or, ↓reduceIte]
        refine ⟨.inl ⟨rfl, vs, sqL_of hF⟩, ?_⟩
        rw [lc_rcall]
        try simp only [wipe, tC, tVar, tChain, rI0, rI, rU, tOp, tUn, tCall, tAnd, tOr, tNot, tNotV, tAndV, tOrV, tTest, tB, tIf, tIfS, tRet, tRetN, tNext, tSeq, tNil, tCons, tAug, ipI, tPar, tAsg, gName, tDrop, tLst, tTup, tCB, tBM, tBM0, tFld_eq, tMkE, tMake, tAugS, gSub, rEq, rAll, rMax, rSum, rAppend, rExtend, rSetL, _root_.L2.start, List.map_cons, List.map_nil, List.length_cons, List.length_nil, List.replicate_succ, List.replicate_zero, List.cons_append, List.nil_append, List.append_nil, List.getElem?_cons_zero, List.getElem?_cons_succ, List.set_cons_zero, List.set_cons_succ, Nat.reduceAdd, Nat.reduceSub, V.int.injEq, V.bl.injEq, V.ref.injEq, V.str.injEq, exists_eq, exists_eq', exists_eq_left, exists_eq_left', exists_and_left, exists_and_right, Option.some.injEq, List.cons.injEq, and_true, true_and, and_assoc, retV, true_or, or_true, decide_eq_true_eq, if_true, if_false, Bool.false_eq_true, Bool.not_true, Bool.not_false, Bool.not_eq_true', reduceCtorEq, eq_self, decide_true, decide_false, List.length_map, exists_const, false_and, and_false, or_false, false_or, ↓reduceIte]
        refine ⟨b, d, 3, rfl, b11, by decide, by decide, fun v H12 e12 b12 hv => ?_⟩
        obtain ⟨r2, rfl, r20, r21⟩ := hv
        try simp only [wipe, tC, tVar, tChain, rI0, rI, rU, tOp, tUn, tCall, tAnd, tOr, tNot, tNotV, tAndV, tOrV, tTest, tB, tIf, tIfS, tRet, tRetN, tNext, tSeq, tNil, tCons, tAug, ipI, tPar, tAsg, gName, tDrop, tLst, tTup, tCB, tBM, tBM0, tFld_eq, tMkE, tMake, tAugS, gSub, rEq, rAll, rMax, rSum, rAppend, rExtend, rSetL, _root_.L2.start, List.map_cons, List.map_nil, List.length_cons, List.length_nil, List.replicate_succ, List.replicate_zero, List.cons_append, List.nil_append, List.append_nil, List.getElem?_cons_zero, List.getElem?_cons_succ, List.set_cons_zero, List.set_cons_succ, Nat.reduceAdd, Nat.reduceSub, V.int.injEq, V.bl.injEq, V.ref.injEq, V.str.injEq, exists_eq, exists_eq', exists_eq_left, exists_eq_left', exists_and_left, exists_and_right, Option.some.injEq, List.cons.injEq, and_true, true_and, and_assoc, retV, true_or, or_true, decide_eq_true_eq, if_true, if_false, Bool.false_eq_true, Bool.not_true, Bool.not_false, Bool.not_eq_true', reduceCtorEq, eq_self, decide_true, decide_false, List.length_map, exists_const, false_and, and_false, or_false, false_or, ↓reduceIte]
        obtain ⟨np, hnp⟩ : ∃ n : Nat, 1 + r2 = (n : Int) := ⟨(1 + r2).toNat, (Int.toNat_of_nonneg (by omega)).symm⟩
        rw [hnp]
        refine lc_acc (O := BoxO b d) (A := BoxO b d) (I := BoxAt b d) (gives_rng1 (j := np) (fun Q h => h)) b12.box (fun _ _ => trivial) (by rw [rngV_len, Int.toNat_natCast]; exact Nat.le_trans (by omega : np ≤ 3) (by decide))
          (fun A k acc H' => ∃ cs : List (List Int), Paired (TpF InA No H') acc cs ∧ cs.length = k ∧ ∀ c ∈ cs, ∃ x y : Int, c = [x, y] ∧ 0 ≤ x ∧ x ≤ 20 ∧ 0 ≤ y ∧ y ≤ 2) (fun _ _ => ⟨[], .nil, rfl, fun c z => absurd z List.not_mem_nil⟩) (fun e ⟨cs, h1, h2⟩ => ⟨cs, (famT_tp famT_in).p e.2.1 h1, h2⟩) (fun _ h => h)
          (fun k y acc H' D N N0 hk hy e bb hA hI hN _ => ?_) fun acc H13 D e13 b13 nD nA hD hI => ?_
        · rw [rngV_len, Int.toNat_natCast] at hk
          rw [Int.toNat_natCast, rngV_get hk, Int.zero_add] at hy
          obtain rfl := Option.some.inj hy
          obtain ⟨cs, hcs, lcs, gcs⟩ := hI
          refine ⟨rfl, ?_⟩
          try simp only [wipe, tC, tVar, tChain, rI0, rI, rU, tOp, tUn, tCall, tAnd, tOr, tNot, tNotV, tAndV, tOrV, tTest, tB, tIf, tIfS, tRet, tRetN, tNext, tSeq, tNil, tCons, tAug, ipI, tPar, tAsg, gName, tDrop, tLst, tTup, tCB, tBM, tBM0, tFld_eq, tMkE, tMake, tAugS, gSub, rEq, rAll, rMax, rSum, rAppend, rExtend, rSetL, _root_.L2.start, List.map_cons, List.map_nil, List.length_cons, List.length_nil, List.replicate_succ, List.replicate_zero, List.cons_append, List.nil_append, List.append_nil, List.getElem?_cons_zero, List.getElem?_cons_succ, List.set_cons_zero, List.set_cons_succ, Nat.reduceAdd, Nat.reduceSub, V.int.injEq, V.bl.injEq, V.ref.injEq, V.str.injEq, exists_eq, exists_eq', exists_eq_left, exists_eq_left', exists_and_left, exists_and_right, Option.some.injEq, List.cons.injEq, and_true, true_and, and_assoc, retV, true_or, or_true, decide_eq_true_eq, if_true, if_false, Bool.false_eq_true, Bool.not_true, Bool.not_false, Bool.not_eq_true', reduceCtorEq, eq_self, decide_true, decide_false, List.length_map, exists_const, false_and, and_false, or_false, false_or, tYes, ↓reduceIte]
          refine ⟨.inl ⟨by decide, by decide⟩, b, d, 3, rfl, bb, by decide, by decide, fun v H14 e14 b14 hv => ?_⟩
          obtain ⟨r3, rfl, r30, r31⟩ := hv
          refine ⟨by decide, fun p np => hN _ _ (e14.trans (.new np)) (b14.upd (b14.off np)) ⟨cs ++ [[3 * (k : Int) + (bi : Int), r3]], Paired.app ((famT_tp famT_in).p (e14.2.1.trans (.new np)) hcs) (.cons ⟨p, _, rfl, upd_same, .cons rfl (.cons rfl .nil)⟩ .nil), by rw [List.length_append, lcs]; rfl, fun c hc => ?_⟩⟩
          rw [List.mem_append, List.mem_singleton] at hc
          rcases hc with hc | hc
          · exact gcs c hc
          · exact ⟨_, _, hc, by omega, by omega, r30, by omega⟩
        · obtain ⟨cs, hcs, lcs, gcs⟩ := hI
          rw [rngV_len, Int.toNat_natCast] at lcs
          try simp only [wipe, tC, tVar, tChain, rI0, rI, rU, tOp, tUn, tCall, tAnd, tOr, tNot, tNotV, tAndV, tOrV, tTest, tB, tIf, tIfS, tRet, tRetN, tNext, tSeq, tNil, tCons, tAug, ipI, tPar, tAsg, gName, tDrop, tLst, tTup, tCB, tBM, tBM0, tFld_eq, tMkE, tMake, tAugS, gSub, rEq, rAll, rMax, rSum, rAppend, rExtend, rSetL, _root_.L2.start, List.map_cons, List.map_nil, List.length_cons, List.length_nil, List.replicate_succ, List.replicate_zero, List.cons_append, List.nil_append, List.append_nil, List.getElem?_cons_zero, List.getElem?_cons_succ, List.set_cons_zero, List.set_cons_succ, Nat.reduceAdd, Nat.reduceSub, V.int.injEq, V.bl.injEq, V.ref.injEq, V.str.injEq, exists_eq, exists_eq', exists_eq_left, exists_eq_left', exists_and_left, exists_and_right, Option.some.injEq, List.cons.injEq, and_true, true_and, and_assoc, retV, true_or, or_true, decide_eq_true_eq, if_true, if_false, Bool.false_eq_true, Bool.not_true, Bool.not_false, Bool.not_eq_true', reduceCtorEq, eq_self, decide_true, decide_false, List.length_map, exists_const, false_and, and_false, or_false, false_or, ↓reduceIte]
          refine sorted_cells hD hcs (fun c hc => by obtain ⟨x, y, rfl, _⟩ := gcs c hc; rfl) fun p14 zs np14 perm => ?_
          obtain ⟨cs', hperm, hzs⟩ := Paired.perm perm _ hcs
          have e14 := same_new (o := .lst zs) np14
          refine tup_sq (.inl upd_same) fun p15 H15 e15 hp15 => ?_
          have e1115 : SameO (BoxO b d) H11 H15 := e12.trans (e13.trans ((SameO.of e14).trans (.of e15)))
          have hF15 := e1115.1 _ _ nFb hF
          have lvs : vs.length = bi := by rw [Paired.len hB, lB]
          refine ⟨vs, hF15, Nat.lt_of_lt_of_le (by omega : vs.length < 12) (by decide), ((b13.same e14).same e15).upd nFb, _, upd_same, B ++ [cs'], ?_, by rw [List.length_append, lB]; rfl, fun c hc => ?_⟩
          · refine Paired.app ((famT_tp (famT_tp famT_in)).p (e1115.2.1.trans (.lst hF15)) hB) (.cons ⟨p15, zs, rfl, (Tk.lst hF15 p15).1 _ hp15, ?_⟩ .nil)
            exact (famT_tp famT_in).p ((Tk.of e14).trans ((Tk.of e15).trans (.lst hF15))) hzs
          · rw [List.mem_append, List.mem_singleton] at hc
            rcases hc with hc | hc
            · exact gB c hc
            · subst hc
              refine ⟨by rw [hperm.length_eq]; omega, fun c hc => ?_⟩
              obtain ⟨x, y, h1, h2, h3, h4, h5⟩ := gcs c (hperm.mem_iff.1 hc)
              exact ⟨x, y, h1, h2, by omega, h4, by omega⟩
      · obtain ⟨⟨u2, u3, u5, u6, u7, u8, u9, u10, u11, rfl⟩, b11, vs, B, hF, hB, lB, gB⟩ := h
        rw [rngV_len, Int.toNat_natCast] at lB
        try simp only [wipe, tC, tVar, tChain, rI0, rI, rU, tOp, tUn, tCall, tAnd, tOr, tNot, tNotV, tAndV, tOrV, tTest, tB, tIf, tIfS, tRet, tRetN, tNext, tSeq, tNil, tCons, tAug, ipI, tPar, tAsg, gName, tDrop, tLst, tTup, tCB, tBM, tBM0, tFld_eq, tMkE, tMake, tAugS, gSub, rEq, rAll, rMax, rSum, rAppend, rExtend, rSetL, _root_.L2.start, List.map_cons, List.map_nil, List.length_cons, List.length_nil, List.replicate_succ, List.replicate_zero, List.cons_append, List.nil_append, List.append_nil, List.getElem?_cons_zero, List.getElem?_cons_succ, List.set_cons_zero, List.set_cons_succ, Nat.reduceAdd, Nat.reduceSub, V.int.injEq, V.bl.injEq, V.ref.injEq, V.str.injEq, exists_eq, exists_eq', exists_eq_left, exists_eq_left', exists_and_left, exists_and_right, Option.some.injEq, List.cons.injEq, and_true, true_and, and_assoc, retV, true_or, or_true, decide_eq_true_eq, if_true, if_false, Bool.false_eq_true, Bool.not_true, Bool.not_false, Bool.not_eq_true', reduceCtorEq, eq_self, decide_true, decide_false, List.length_map, exists_const, false_and, and_false, or_false, false_or, ↓reduceIte]
        have lvs : vs.length = nb := by rw [Paired.len hB, lB]
        refine lc_map (gives_rng1 (j := nb) (fun Q h => ?_)) (Box.none (A := Old H11) (fun _ z => z)) (fun _ _ => trivial) (by rw [rngV_len, Int.toNat_natCast]; exact Nat.le_trans (by omega : nb ≤ 12) (by decide)) (fun x => rfl) (fam_tp (fam_tp fam_in)) (List.range nb) (by rw [rngV_len, Int.toNat_natCast, List.length_range]) (fun i => (B.getD i []).map fun c => [4 * c.getD 0 0 + (i : Int), c.getD 1 0]) (fun n y z H12 D7 N7 hy hz e12 _ hA7 hN7 => ?_) fun ys H13 D13 e13 _ nD13 _ hD13 hys => ?_
        · try simp only [wipe, tC, tVar, tChain, rI0, rI, rU, tOp, tUn, tCall, tAnd, tOr, tNot, tNotV, tAndV, tOrV, tTest, tB, tIf, tIfS, tRet, tRetN, tNext, tSeq, tNil, tCons, tAug, ipI, tPar, tAsg, gName, tDrop, tLst, tTup, tCB, tBM, tBM0, tFld_eq, tMkE, tMake, tAugS, gSub, rEq, rAll, rMax, rSum, rAppend, rExtend, rSetL, _root_.L2.start, List.map_cons, List.map_nil, List.length_cons, List.length_nil, List.replicate_succ, List.replicate_zero, List.cons_append, List.nil_append, List.append_nil, List.getElem?_cons_zero, List.getElem?_cons_succ, List.set_cons_zero, List.set_cons_succ, Nat.reduceAdd, Nat.reduceSub, V.int.injEq, V.bl.injEq, V.ref.injEq, V.str.injEq, exists_eq, exists_eq', exists_eq_left, exists_eq_left', exists_and_left, exists_and_right, Option.some.injEq, List.cons.injEq, and_true, true_and, and_assoc, retV, true_or, or_true, decide_eq_true_eq, if_true, if_false, Bool.false_eq_true, Bool.not_true, Bool.not_false, Bool.not_eq_true', reduceCtorEq, eq_self, decide_true, decide_false, List.length_map, exists_const, false_and, and_false, or_false, false_or, ↓reduceIte]
          refine len_sq (.inl hF) ?_
          try simp only [wipe, tC, tVar, tChain, rI0, rI, rU, tOp, tUn, tCall, tAnd, tOr, tNot, tNotV, tAndV, tOrV, tTest, tB, tIf, tIfS, tRet, tRetN, tNext, tSeq, tNil, tCons, tAug, ipI, tPar, tAsg, gName, tDrop, tLst, tTup, tCB, tBM, tBM0, tFld_eq, tMkE, tMake, tAugS, gSub, rEq, rAll, rMax, rSum, rAppend, rExtend, rSetL, _root_.L2.start, List.map_cons, List.map_nil, List.length_cons, List.length_nil, List.replicate_succ, List.replicate_zero, List.cons_append, List.nil_append, List.append_nil, List.getElem?_cons_zero, List.getElem?_cons_succ, List.set_cons_zero, List.set_cons_succ, Nat.reduceAdd, Nat.reduceSub, V.int.injEq, V.bl.injEq, V.ref.injEq, V.str.injEq, exists_eq, exists_eq', exists_eq_left, exists_eq_left', exists_and_left, exists_and_right, Option.some.injEq, List.cons.injEq, and_true, true_and, and_assoc, retV, true_or, or_true, decide_eq_true_eq, if_true, if_false, Bool.false_eq_true, Bool.not_true, Bool.not_false, Bool.not_eq_true', reduceCtorEq, eq_self, decide_true, decide_false, List.length_map, exists_const, false_and, and_false, or_false, false_or, ↓reduceIte]
          rw [lvs]
          exact h
        · have hn : n < nb := by
            have := (List.getElem?_eq_some_iff.1 hz).1
            rwa [List.length_range] at this
          rw [Int.toNat_natCast] at hy
          rw [rngV_get hn, Int.zero_add] at hy
          rw [List.getElem?_range hn] at hz
          obtain rfl := Option.some.inj hy
          obtain rfl := Option.some.inj hz
          obtain ⟨wv, hwv⟩ := getI (xs := vs) (i := n) (by omega)
          obtain ⟨cs, hcs, wa, ws, rfl, hwa, hwp⟩ := Paired.at hB hwv
          have hF12 := e12.same _ _ hF
          have hwa12 := e12.same _ _ hwa
          have lws : ws.length = cs.length := Paired.len hwp
          have ok := gB cs (List.mem_of_getElem? hcs)
          try simp only [wipe, tC, tVar, tChain, rI0, rI, rU, tOp, tUn, tCall, tAnd, tOr, tNot, tNotV, tAndV, tOrV, tTest, tB, tIf, tIfS, tRet, tRetN, tNext, tSeq, tNil, tCons, tAug, ipI, tPar, tAsg, gName, tDrop, tLst, tTup, tCB, tBM, tBM0, tFld_eq, tMkE, tMake, tAugS, gSub, rEq, rAll, rMax, rSum, rAppend, rExtend, rSetL, _root_.L2.start, List.map_cons, List.map_nil, List.length_cons, List.length_nil, List.replicate_succ, List.replicate_zero, List.cons_append, List.nil_append, List.append_nil, List.getElem?_cons_zero, List.getElem?_cons_succ, List.set_cons_zero, List.set_cons_succ, Nat.reduceAdd, Nat.reduceSub, V.int.injEq, V.bl.injEq, V.ref.injEq, V.str.injEq, exists_eq, exists_eq', exists_eq_left, exists_eq_left', exists_and_left, exists_and_right, Option.some.injEq, List.cons.injEq, and_true, true_and, and_assoc, retV, true_or, or_true, decide_eq_true_eq, if_true, if_false, Bool.false_eq_true, Bool.not_true, Bool.not_false, Bool.not_eq_true', reduceCtorEq, eq_self, decide_true, decide_false, List.length_map, exists_const, false_and, and_false, or_false, false_or, ↓reduceIte]
          refine lc_map (A := Or1 (Old H11) D7) (gives_sq (xs := ws) (a := wa) (fun Q h => ?_) (.inr hwa12)) (Box.none hA7) (fun H' e => by rw [e.same _ _ hwa12, hwa12]) (Nat.le_trans (by have := ok.1; omega : ws.length ≤ 3) (by decide)) (fun x => rfl) (fam_tp fam_in) cs lws.symm (fun c => [4 * c.getD 0 0 + (n : Int), c.getD 1 0]) (fun j y z H14 D14 N14 hy hz e14 _ _ hN14 => ?_) fun zs H15 D15 e15 _ nD15 _ hD15 hzs => ?_
          · try simp only [wipe, tC, tVar, tChain, rI0, rI, rU, tOp, tUn, tCall, tAnd, tOr, tNot, tNotV, tAndV, tOrV, tTest, tB, tIf, tIfS, tRet, tRetN, tNext, tSeq, tNil, tCons, tAug, ipI, tPar, tAsg, gName, tDrop, tLst, tTup, tCB, tBM, tBM0, tFld_eq, tMkE, tMake, tAugS, gSub, rEq, rAll, rMax, rSum, rAppend, rExtend, rSetL, _root_.L2.start, List.map_cons, List.map_nil, List.length_cons, List.length_nil, List.replicate_succ, List.replicate_zero, List.cons_append, List.nil_append, List.append_nil, List.getElem?_cons_zero, List.getElem?_cons_succ, List.set_cons_zero, List.set_cons_succ, Nat.reduceAdd, Nat.reduceSub, V.int.injEq, V.bl.injEq, V.ref.injEq, V.str.injEq, exists_eq, exists_eq', exists_eq_left, exists_eq_left', exists_and_left, exists_and_right, Option.some.injEq, List.cons.injEq, and_true, true_and, and_assoc, retV, true_or, or_true, decide_eq_true_eq, if_true, if_false, Bool.false_eq_true, Bool.not_true, Bool.not_false, Bool.not_eq_true', reduceCtorEq, eq_self, decide_true, decide_false, List.length_map, exists_const, false_and, and_false, or_false, false_or, ↓reduceIte]
            exact ix_at hF12 hwv h
          · obtain ⟨tc, nc, rfl, htc, hcp⟩ := Paired.both hwp hy hz
            obtain rfl := ina_eq hcp
            obtain ⟨x, y, rfl, _⟩ := ok.2 z (List.mem_of_getElem? hz)
            have htc14 := (e12.same.trans e14.same) _ _ htc
            try simp only [wipe, tC, tVar, tChain, rI0, rI, rU, tOp, tUn, tCall, tAnd, tOr, tNot, tNotV, tAndV, tOrV, tTest, tB, tIf, tIfS, tRet, tRetN, tNext, tSeq, tNil, tCons, tAug, ipI, tPar, tAsg, gName, tDrop, tLst, tTup, tCB, tBM, tBM0, tFld_eq, tMkE, tMake, tAugS, gSub, rEq, rAll, rMax, rSum, rAppend, rExtend, rSetL, _root_.L2.start, List.map_cons, List.map_nil, List.length_cons, List.length_nil, List.replicate_succ, List.replicate_zero, List.cons_append, List.nil_append, List.append_nil, List.getElem?_cons_zero, List.getElem?_cons_succ, List.set_cons_zero, List.set_cons_succ, Nat.reduceAdd, Nat.reduceSub, V.int.injEq, V.bl.injEq, V.ref.injEq, V.str.injEq, exists_eq, exists_eq', exists_eq_left, exists_eq_left', exists_and_left, exists_and_right, Option.some.injEq, List.cons.injEq, and_true, true_and, and_assoc, retV, true_or, or_true, decide_eq_true_eq, if_true, if_false, Bool.false_eq_true, Bool.not_true, Bool.not_false, Bool.not_eq_true', reduceCtorEq, eq_self, decide_true, decide_false, List.length_map, exists_const, false_and, and_false, or_false, false_or, ↓reduceIte]
            refine ixt_at htc14 (b := 0) rfl ?_
            try simp only [wipe, tC, tVar, tChain, rI0, rI, rU, tOp, tUn, tCall, tAnd, tOr, tNot, tNotV, tAndV, tOrV, tTest, tB, tIf, tIfS, tRet, tRetN, tNext, tSeq, tNil, tCons, tAug, ipI, tPar, tAsg, gName, tDrop, tLst, tTup, tCB, tBM, tBM0, tFld_eq, tMkE, tMake, tAugS, gSub, rEq, rAll, rMax, rSum, rAppend, rExtend, rSetL, _root_.L2.start, List.map_cons, List.map_nil, List.length_cons, List.length_nil, List.replicate_succ, List.replicate_zero, List.cons_append, List.nil_append, List.append_nil, List.getElem?_cons_zero, List.getElem?_cons_succ, List.set_cons_zero, List.set_cons_succ, Nat.reduceAdd, Nat.reduceSub, V.int.injEq, V.bl.injEq, V.ref.injEq, V.str.injEq, exists_eq, exists_eq', exists_eq_left, exists_eq_left', exists_and_left, exists_and_right, Option.some.injEq, List.cons.injEq, and_true, true_and, and_assoc, retV, true_or, or_true, decide_eq_true_eq, if_true, if_false, Bool.false_eq_true, Bool.not_true, Bool.not_false, Bool.not_eq_true', reduceCtorEq, eq_self, decide_true, decide_false, List.length_map, exists_const, false_and, and_false, or_false, false_or, ↓reduceIte]
            refine ⟨.inl ⟨by decide, by decide⟩, ixt_at htc14 (b := 1) rfl ⟨by decide, fun p np => hN14 _ _ (.new np) trivial ⟨p, _, rfl, upd_same, .cons rfl (.cons rfl .nil)⟩⟩⟩
          · refine tup_sq (.inl hD15) fun p16 H16 e16 hp16 => hN7 _ _ (e15.trans (.of e16)) trivial ⟨p16, zs, rfl, hp16, ?_⟩
            have hb : B.getD n [] = cs := getD_of hcs
            rw [hb]
            exact (famT_tp famT_in).p (.of e16) hzs
        · try simp only [wipe, tC, tVar, tChain, rI0, rI, rU, tOp, tUn, tCall, tAnd, tOr, tNot, tNotV, tAndV, tOrV, tTest, tB, tIf, tIfS, tRet, tRetN, tNext, tSeq, tNil, tCons, tAug, ipI, tPar, tAsg, gName, tDrop, tLst, tTup, tCB, tBM, tBM0, tFld_eq, tMkE, tMake, tAugS, gSub, rEq, rAll, rMax, rSum, rAppend, rExtend, rSetL, _root_.L2.start, List.map_cons, List.map_nil, List.length_cons, List.length_nil, List.replicate_succ, List.replicate_zero, List.cons_append, List.nil_append, List.append_nil, List.getElem?_cons_zero, List.getElem?_cons_succ, List.set_cons_zero, List.set_cons_succ, Nat.reduceAdd, Nat.reduceSub, V.int.injEq, V.bl.injEq, V.ref.injEq, V.str.injEq, exists_eq, exists_eq', exists_eq_left, exists_eq_left', exists_and_left, exists_and_right, Option.some.injEq, List.cons.injEq, and_true, true_and, and_assoc, retV, true_or, or_true, decide_eq_true_eq, if_true, if_false, Bool.false_eq_true, Bool.not_true, Bool.not_false, Bool.not_eq_true', reduceCtorEq, eq_self, decide_true, decide_false, List.length_map, exists_const, false_and, and_false, or_false, false_or, ↓reduceIte]
          generalize hB2 : (List.range nb).map (fun i => (B.getD i []).map fun c => [4 * c.getD 0 0 + (i : Int), c.getD 1 0]) = B2 at hys
          have lB2 : B2.length = nb := by rw [← hB2, List.length_map, List.length_range]
          have okB : ∀ bb ∈ B2, bb.length ≤ 3 ∧ ∀ c ∈ bb, ∃ x y : Int, c = [x, y] ∧ 0 ≤ x ∧ x ≤ 1000 := fun bb hbb => by
            rw [← hB2] at hbb
            obtain ⟨i, hi, rfl⟩ := List.mem_map.1 hbb
            have hi := List.mem_range.1 hi
            obtain ⟨cs, hcs⟩ := getI (xs := B) (i := i) (by omega)
            rw [getD_of hcs]
            obtain ⟨o1, o2⟩ := gB cs (List.mem_of_getElem? hcs)
            refine ⟨by rw [List.length_map]; exact o1, fun c hc => ?_⟩
            obtain ⟨c', hc', rfl⟩ := List.mem_map.1 hc
            obtain ⟨x, y, rfl, x0, x1, y0, y1⟩ := o2 c' hc'
            exact ⟨_, _, rfl, by simp only [List.getD_cons_zero]; omega, by simp only [List.getD_cons_zero]; omega⟩
          refine ⟨.ref D13, B2, rfl, ⟨D13, ys, rfl, fun z => z, .inl hD13, Paired.imp (fun _ _ h => (fam_tp (fam_tp fam_in)).weak (fun _ z => z.elim) h) hys⟩, by omega, fun bb hbb => ⟨by have := (okB bb hbb).1; omega, fun c hc => by obtain ⟨x, y, rfl, _⟩ := (okB bb hbb).2 c hc; rfl⟩, fun t14 H14 R14 e14 ht14 hLG => ?_⟩
          refine ⟨b, d, t14, B2.length, R14, rfl, (b11.same e13.same).same e14, ht14, gaps_law hLG (by omega) (fun bb hbb c hc => (okB bb hbb).2 c hc), by omega, fun H15 e15 b15 => ?_⟩
          try simp only [wipe, tC, tVar, tChain, rI0, rI, rU, tOp, tUn, tCall, tAnd, tOr, tNot, tNotV, tAndV, tOrV, tTest, tB, tIf, tIfS, tRet, tRetN, tNext, tSeq, tNil, tCons, tAug, ipI, tPar, tAsg, gName, tDrop, tLst, tTup, tCB, tBM, tBM0, tFld_eq, tMkE, tMake, tAugS, gSub, rEq, rAll, rMax, rSum, rAppend, rExtend, rSetL, _root_.L2.start, List.map_cons, List.map_nil, List.length_cons, List.length_nil, List.replicate_succ, List.replicate_zero, List.cons_append, List.nil_append, List.append_nil, List.getElem?_cons_zero, List.getElem?_cons_succ, List.set_cons_zero, List.set_cons_succ, Nat.reduceAdd, Nat.reduceSub, V.int.injEq, V.bl.injEq, V.ref.injEq, V.str.injEq, exists_eq, exists_eq', exists_eq_left, exists_eq_left', exists_and_left, exists_and_right, Option.some.injEq, List.cons.injEq, and_true, true_and, and_assoc, retV, true_or, or_true, decide_eq_true_eq, if_true, if_false, Bool.false_eq_true, Bool.not_true, Bool.not_false, Bool.not_eq_true', reduceCtorEq, eq_self, decide_true, decide_false, List.length_map, exists_const, false_and, and_false, or_false, false_or, ↓reduceIte]
          exact b15
    · obtain ⟨⟨u2, u3, u4, u5, u6, u7, u8, u9, u10, u11, rfl⟩, b2⟩ := h
      exact T2 Q b d H2 _ _ _ _ _ _ _ _ _ _ _ b2 q
end
theorem sp_end {K : PySem.W.Frag} {E : XK} (H : Hp) (a : Addr) (ns : List Int) (_ : ns.length ≤ 63) (_ : Only H) (hS : SqL K H a (ns.map V.int)) : sp_law K [.ref a] H (fun v _ => v = .bl true) E := ⟨a, ns, rfl, hS, fun _ => rfl⟩
end K78
set_option Elab.async false
set_option linter.all false
set_option maxRecDepth 100000
set_option maxHeartbeats 4000000
/-! k78: the cells' hashes: unlike on unlike lines -/
namespace K78
open PySem PySem.Spec PyProof.Rows L2 He HK
/-- a tuple's hash, by steps -/
theorem cut (hs : List Int) : ∃ (g : Nat → Int → Nat) (fz : Nat → Nat → Int), Builtin.Tuple.tupleHashOf hs = fz (hs.foldl g 2870177450012600261) hs.length ∧
    (∀ a h, g a h = ((a + (h % ((2 ^ 64 : Nat) : Int)).toNat * 14029467366897019727) % 2 ^ 64 * 2 ^ 31 % 2 ^ 64 + (a + (h % ((2 ^ 64 : Nat) : Int)).toNat * 14029467366897019727) % 2 ^ 64 / 2 ^ 33) * 11400714785074694791 % 2 ^ 64) ∧
    (∀ a n, fz a n = if ((a + (n ^^^ (2870177450012600261 ^^^ 3527539))) % 2 ^ 64 == 2 ^ 64 - 1) = true then 1546275796 else if (a + (n ^^^ (2870177450012600261 ^^^ 3527539))) % 2 ^ 64 < 2 ^ 63 then (((a + (n ^^^ (2870177450012600261 ^^^ 3527539))) % 2 ^ 64 : Nat) : Int) else (((a + (n ^^^ (2870177450012600261 ^^^ 3527539))) % 2 ^ 64 : Nat) : Int) - ((2 ^ 64 : Nat) : Int)) := by
  refine ⟨_, fun a n => _, by unfold Builtin.Tuple.tupleHashOf; rfl, fun a h => rfl, fun a n => rfl⟩
def tn (h : Int) : Nat := (h % 18446744073709551616).toNat
def rot (y : Nat) : Nat := y * 2147483648 % 18446744073709551616 + y / 8589934592
def stp (a t : Nat) : Nat := rot ((a + t * 14029467366897019727) % 18446744073709551616) * 11400714785074694791 % 18446744073709551616
/-- what is made of the last step -/
def fin (z : Nat) : Int := if z = 18446744073709551615 then 1546275796 else if z < 9223372036854775808 then (z : Int) else (z : Int) - 18446744073709551616
def pC : Nat := 2870177450013471924
theorem stp_of (a t : Nat) : ((a + t * 14029467366897019727) % 2 ^ 64 * 2 ^ 31 % 2 ^ 64 + (a + t * 14029467366897019727) % 2 ^ 64 / 2 ^ 33) * 11400714785074694791 % 2 ^ 64 = stp a t := by
  unfold stp rot
  generalize a + t * 14029467366897019727 = q
  rw [show (2 : Nat) ^ 64 = 18446744073709551616 by decide, show (2 : Nat) ^ 31 = 2147483648 by decide, show (2 : Nat) ^ 33 = 8589934592 by decide]
theorem tn_of (h : Int) : (h % ((2 ^ 64 : Nat) : Int)).toNat = tn h := by
  unfold tn
  rw [show ((2 ^ 64 : Nat) : Int) = 18446744073709551616 by decide]
theorem fin_of (z : Nat) : (if (z == 2 ^ 64 - 1) = true then (1546275796 : Int) else if z < 2 ^ 63 then (z : Int) else (z : Int) - ((2 ^ 64 : Nat) : Int)) = fin z := by
  unfold fin
  rw [show ((2 ^ 64 : Nat) : Int) = 18446744073709551616 by decide, show (2 : Nat) ^ 63 = 9223372036854775808 by decide, show (2 : Nat) ^ 64 - 1 = 18446744073709551615 by decide]
  simp only [beq_iff_eq]
theorem hash_two (a b : Int) : Builtin.Tuple.tupleHashOf [a, b] = fin ((stp (stp 2870177450012600261 (tn a)) (tn b) + pC) % 18446744073709551616) := by
  obtain ⟨g, fz, e, hg, hf⟩ := cut [a, b]
  have hg' : ∀ a h, g a h = stp a (tn h) := fun a h => by rw [hg, tn_of, stp_of]
  have hf' : ∀ a, fz a 2 = fin ((a + pC) % 18446744073709551616) := fun a => by
    rw [hf, fin_of, show (2 ^^^ (2870177450012600261 ^^^ 3527539) : Nat) = pC by decide, show (2 : Nat) ^ 64 = 18446744073709551616 by decide]
  clear hg hf
  have e2 : Builtin.Tuple.tupleHashOf [a, b] = fz (g (g 2870177450012600261 a) b) 2 := e
  rw [e2, hf', hg', hg']
def hc (c : List Int) : Int := reduceHash (Builtin.Tuple.tupleHashOf (c.map hashInt))
theorem hc_eq {w : World} (c : List Int) : tupleKeyHash (mixKind prg w) (ky c) = hc c := by
  unfold tupleKeyHash hc ky
  rw [List.map_map]
  rfl
theorem rot_inj {y y' : Nat} (h : y < 18446744073709551616) (h' : y' < 18446744073709551616) (e : rot y = rot y') : y = y' := by
  unfold rot at e
  rw [show (18446744073709551616 : Nat) = 8589934592 * 2147483648 by decide, Nat.mul_mod_mul_right, Nat.mul_mod_mul_right] at e
  omega
theorem mul_inj {y y' : Nat} (h : y < 18446744073709551616) (h' : y' < 18446744073709551616) (e : y * 11400714785074694791 % 18446744073709551616 = y' * 11400714785074694791 % 18446744073709551616) : y = y' := by
  have key : ∀ z : Nat, z < 18446744073709551616 → z * 11400714785074694791 % 18446744073709551616 * 614540362697595703 % 18446744073709551616 = z := fun z hz => by
    rw [Nat.mod_mul_mod, Nat.mul_assoc, show 11400714785074694791 * 614540362697595703 = 1 + 18446744073709551616 * 379806830464837242 by decide, Nat.mul_add, Nat.mul_one, Nat.mul_left_comm, Nat.add_mul_mod_self_left, Nat.mod_eq_of_lt hz]
  rw [← key y h, ← key y' h', e]
theorem rot_lt {y : Nat} (h : y < 18446744073709551616) : rot y < 18446744073709551616 := by
  unfold rot
  rw [show (18446744073709551616 : Nat) = 8589934592 * 2147483648 by decide, Nat.mul_mod_mul_right]
  omega
theorem stp_lt (a t : Nat) : stp a t < 18446744073709551616 := Nat.mod_lt _ (by decide)
/-- a place's mark: unlike marks far apart -/
def mark (x : Int) : Nat := stp 2870177450012600261 (tn (hashInt x)) * 839798700976720815 % 18446744073709551616
theorem stp_mark (a t : Nat) : (a + t * 14029467366897019727) % 18446744073709551616 * 839798700976720815 % 18446744073709551616 = (a * 839798700976720815 % 18446744073709551616 + t) % 18446744073709551616 := by
  rw [Nat.mod_mul_mod, Nat.add_mul, Nat.mul_assoc, show 14029467366897019727 * 839798700976720815 = 1 + 18446744073709551616 * 638699622168397319 by decide, Nat.mul_add, Nat.mul_one, Nat.mul_left_comm, ← Nat.add_assoc, Nat.add_mul_mod_self_left, Nat.mod_add_mod]
theorem stp_inj {a a' t t' : Nat} (e : stp a t = stp a' t') : (a * 839798700976720815 % 18446744073709551616 + t) % 18446744073709551616 = (a' * 839798700976720815 % 18446744073709551616 + t') % 18446744073709551616 := by
  rw [← stp_mark, ← stp_mark]
  unfold stp at e
  have h1 := Nat.mod_lt (a + t * 14029467366897019727) (by decide : 18446744073709551616 > 0)
  have h2 := Nat.mod_lt (a' + t' * 14029467366897019727) (by decide : 18446744073709551616 > 0)
  rw [rot_inj h1 h2 (mul_inj (rot_lt h1) (rot_lt h2) e)]
/-! numbers that all lie far apart, by a tree -/
inductive FT | lf | nd (l : FT) (x : Nat) (r : FT)
def FT.put (x : Nat) : FT → Option FT
  | .lf => some (.nd .lf x .lf)
  | .nd l y r => if Nat.ble (x + 144) y = true then (match l.put x with | some t => some (.nd t y r) | none => none) else if Nat.ble (y + 144) x = true then (match r.put x with | some t => some (.nd l y t) | none => none) else none
def apartT : List Nat → FT → Bool
  | [], _ => true
  | x :: t, T => match T.put x with | some T' => apartT t T' | none => false
def Far (x y : Nat) : Prop := x + 144 ≤ y ∨ y + 144 ≤ x
/-- once x is put, what is near it can't be put -/
theorem FT.put_near {x z : Nat} (hz : ¬Far x z) : ∀ {t t' : FT}, t.put x = some t' → t'.put z = none
  | .lf, t', h => by
    cases h
    unfold FT.put
    rw [if_neg (fun q => hz (.inr (Nat.le_of_ble_eq_true q))), if_neg (fun q => hz (.inl (Nat.le_of_ble_eq_true q)))]
  | .nd l y r, t', h => by
    unfold FT.put at h
    by_cases h1 : Nat.ble (x + 144) y = true
    · rw [if_pos h1] at h
      split at h
      · rename_i t e
        cases h
        have ih := FT.put_near hz e
        unfold FT.put
        by_cases g1 : Nat.ble (z + 144) y = true
        · rw [if_pos g1, ih]
        · rw [if_neg g1, if_neg (fun q => hz (.inl (by
            have := Nat.le_of_ble_eq_true q
            have := Nat.le_of_ble_eq_true h1
            omega)))]
      · cases h
    · rw [if_neg h1] at h
      by_cases h2 : Nat.ble (y + 144) x = true
      · rw [if_pos h2] at h
        split at h
        · rename_i t e
          cases h
          have ih := FT.put_near hz e
          unfold FT.put
          rw [if_neg (fun q => hz (.inr (by
            have := Nat.le_of_ble_eq_true q
            have := Nat.le_of_ble_eq_true h2
            omega)))]
          by_cases g2 : Nat.ble (y + 144) z = true
          · rw [if_pos g2, ih]
          · rw [if_neg g2]
        · cases h
      · rw [if_neg h2] at h
        cases h
theorem FT.put_keep {x z : Nat} : ∀ {t t' : FT}, t.put z = none → t.put x = some t' → t'.put z = none
  | .lf, _, h, _ => by cases h
  | .nd l y r, t', h, e => by
    unfold FT.put at h e
    by_cases h1 : Nat.ble (x + 144) y = true
    · rw [if_pos h1] at e
      split at e
      · rename_i t et
        cases e
        unfold FT.put
        by_cases g1 : Nat.ble (z + 144) y = true
        · rw [if_pos g1] at h ⊢
          split at h
          · cases h
          · rename_i hn
            rw [FT.put_keep hn et]
        · rw [if_neg g1] at h ⊢
          by_cases g2 : Nat.ble (y + 144) z = true
          · rw [if_pos g2] at h ⊢
            split at h
            · cases h
            · rename_i hn
              first | rfl | rw [hn]
          · rw [if_neg g2]
      · cases e
    · rw [if_neg h1] at e
      by_cases h2 : Nat.ble (y + 144) x = true
      · rw [if_pos h2] at e
        split at e
        · rename_i t et
          cases e
          unfold FT.put
          by_cases g1 : Nat.ble (z + 144) y = true
          · rw [if_pos g1] at h ⊢
            split at h
            · cases h
            · rename_i hn
              first | rfl | rw [hn]
          · rw [if_neg g1] at h ⊢
            by_cases g2 : Nat.ble (y + 144) z = true
            · rw [if_pos g2] at h ⊢
              split at h
              · cases h
              · rename_i hn
                rw [FT.put_keep hn et]
            · rw [if_neg g2]
        · cases e
      · rw [if_neg h2] at e
        cases e
theorem apartT_none : ∀ {xs : List Nat} {T : FT} {z : Nat}, T.put z = none → apartT xs T = true → z ∉ xs
  | [], _, _, _, _ => List.not_mem_nil
  | x :: t, T, z, h, e => by
    unfold apartT at e
    split at e
    · rename_i T' et
      intro hz
      rcases List.mem_cons.1 hz with hz | hz
      · rw [hz, et] at h
        cases h
      · exact apartT_none (FT.put_keep h et) e hz
    · cases e
theorem apartT_ok : ∀ {xs : List Nat} {T : FT}, apartT xs T = true → xs.Pairwise Far
  | [], _, _ => .nil
  | x :: t, T, h => by
    unfold apartT at h
    split at h
    · rename_i T' e
      refine List.pairwise_cons.2 ⟨fun y hy => Classical.byContradiction fun z => ?_, apartT_ok h⟩
      exact apartT_none (FT.put_near z e) h hy
    · cases h
def places : List Int := ((List.range 999).map fun k => ((k : Nat) : Int) - 1000) ++ ((List.range 1001).map fun k => ((k : Nat) : Int))
def marks : List Nat := 15746002411462551884 :: places.map mark
theorem marks_apart : apartT marks .lf = true := by decide +kernel
theorem marks_in : (marks.all fun d => Nat.ble 144 d && Nat.ble (d + 144) 18446744073709551616) = true := by decide +kernel
end K78
set_option Elab.async false
set_option linter.all false
set_option maxRecDepth 100000
set_option maxHeartbeats 4000000
namespace K78
open PySem PySem.Spec PyProof.Rows L2 He HK
theorem marks_lim {d : Nat} (h : d ∈ marks) : 144 ≤ d ∧ d + 144 ≤ 18446744073709551616 := by
  have := List.all_eq_true.1 marks_in d h
  simp only [Bool.and_eq_true] at this
  exact ⟨Nat.le_of_ble_eq_true this.1, Nat.le_of_ble_eq_true this.2⟩
theorem far_of : ∀ {xs : List Nat}, xs.Pairwise Far → ∀ a ∈ xs, ∀ b ∈ xs, a = b ∨ Far a b
  | [], _, _, h, _, _ => absurd h List.not_mem_nil
  | x :: t, h, a, ha, b, hb => by
    obtain ⟨h1, h2⟩ := List.pairwise_cons.1 h
    rcases List.mem_cons.1 ha with ha | ha <;> rcases List.mem_cons.1 hb with hb | hb
    · exact .inl (ha.trans hb.symm)
    · exact .inr (ha ▸ h1 b hb)
    · exact .inr ((h1 a ha).elim (fun z => .inr (by rw [hb]; exact z)) fun z => .inl (by rw [hb]; exact z))
    · exact far_of h2 a ha b hb
theorem mark_def (x : Int) : stp 2870177450012600261 (tn (hashInt x)) * 839798700976720815 % 18446744073709551616 = mark x := by rw [mark]
theorem mark_pl {x : Int} (h1 : -1000 ≤ x) (h2 : x ≤ 1000) : mark x ∈ places.map mark := by
  have hz : ∃ z ∈ places, mark z = mark x := by
    by_cases e : x = -1
    · subst e
      exact ⟨-2, List.mem_append_left _ (List.mem_map.2 ⟨998, List.mem_range.2 (by decide), by decide⟩), by unfold mark; rw [show hashInt (-2) = hashInt (-1) by decide]⟩
    · refine ⟨x, ?_, rfl⟩
      by_cases h0 : 0 ≤ x
      · exact List.mem_append_right _ (List.mem_map.2 ⟨x.toNat, List.mem_range.2 (by omega), Int.toNat_of_nonneg h0⟩)
      · exact List.mem_append_left _ (List.mem_map.2 ⟨(x + 1000).toNat, List.mem_range.2 (by omega), by rw [Int.toNat_of_nonneg (by omega)]; omega⟩)
  obtain ⟨z, hz, e⟩ := hz
  rw [← e]
  exact List.mem_map.2 ⟨z, hz, rfl⟩
theorem mark_in {x : Int} (h1 : -1000 ≤ x) (h2 : x ≤ 1000) : mark x ∈ marks := List.mem_cons_of_mem _ (mark_pl h1 h2)
theorem tn_small {k : Nat} (h : k < 144) : tn (hashInt (k : Int)) = k := by
  have : ∀ k : Nat, k < 144 → tn (hashInt ((k : Nat) : Int)) = k := by decide +kernel
  exact this k h
/-- the state in front of the end -/
def pre (x : Int) (k : Nat) : Nat := stp (stp 2870177450012600261 (tn (hashInt x))) k
theorem pre_inj {x x' : Int} {k k' : Nat} (h1 : -1000 ≤ x) (h2 : x ≤ 1000) (h1' : -1000 ≤ x') (h2' : x' ≤ 1000) (hk : k < 144) (hk' : k' < 144) (e : pre x k = pre x' k') : k = k' := by
  unfold pre at e
  have e := stp_inj e
  rw [mark_def, mark_def] at e
  have m1 := mark_in h1 h2
  have m2 := mark_in h1' h2'
  have l1 := marks_lim m1
  have l2 := marks_lim m2
  rcases far_of (apartT_ok marks_apart) _ m1 _ m2 with z | z | z
  · rw [z] at e l1
    rw [Nat.mod_eq_of_lt (by omega), Nat.mod_eq_of_lt (by omega)] at e
    omega
  · rw [Nat.mod_eq_of_lt (by omega), Nat.mod_eq_of_lt (by omega)] at e
    omega
  · rw [Nat.mod_eq_of_lt (by omega), Nat.mod_eq_of_lt (by omega)] at e
    omega
theorem stp_inj2 {a t n t' q : Nat} (hn : n * 839798700976720815 % 18446744073709551616 = q) (e : stp a t = stp n t') : (a * 839798700976720815 % 18446744073709551616 + t) % 18446744073709551616 = (q + t') % 18446744073709551616 := by
  subst hn
  exact stp_inj e
theorem pre_far {c x : Int} {n k : Nat} (hn : n * 839798700976720815 % 18446744073709551616 = 15746002411462551884) (h1 : -1000 ≤ x) (h2 : x ≤ 1000) (hk : k < 144) : pre x k ≠ stp n 0 := fun hp => by
  unfold pre at hp
  have e := stp_inj2 hn hp
  rw [mark_def] at e
  have hz := mark_pl h1 h2
  have l1 := marks_lim (mark_in h1 h2)
  have hf := (List.pairwise_cons.1 (apartT_ok marks_apart)).1 (mark x) hz
  unfold Far at hf
  generalize mark x = d at e l1 hf
  clear hn hp hz
  clear h1 h2
  omega
theorem odd_state : stp 9148689060682678900 0 = 15576566623696079691 := by decide +kernel
theorem odd_mark : 9148689060682678900 * 839798700976720815 % 18446744073709551616 = 15746002411462551884 := by decide +kernel
/-- the one state that is told otherwise is far away -/
theorem pre_not {x : Int} {k : Nat} (h1 : -1000 ≤ x) (h2 : x ≤ 1000) (hk : k < 144) : (pre x k + pC) % 18446744073709551616 ≠ 18446744073709551615 := fun e => by
  have hf := pre_far (c := 0) odd_mark h1 h2 hk
  rw [odd_state] at hf
  have lt : pre x k < 18446744073709551616 := by
    unfold pre
    exact stp_lt _ _
  generalize pre x k = a at e lt hf
  unfold pC at e
  omega
theorem red_fin (z : Nat) (h : z < 18446744073709551616) (n : z ≠ 18446744073709551615) : reduceHash (fin z) = if z < 9223372036854775808 then (z : Int) else (z : Int) - 18446744073709551616 := by
  have ef : fin z = if z < 9223372036854775808 then (z : Int) else (z : Int) - 18446744073709551616 := by
    unfold fin
    rw [if_neg n]
  rw [ef]
  generalize hv : (if z < 9223372036854775808 then (z : Int) else (z : Int) - 18446744073709551616) = v
  have b1 : -(2 ^ 63 : Int) ≤ v ∧ v < 2 ^ 63 ∧ v ≠ -1 := by
    rw [show (2 : Int) ^ 63 = 9223372036854775808 by decide, ← hv]
    split <;> omega
  unfold reduceHash
  rw [if_pos (by simp only [Bool.and_eq_true, decide_eq_true_eq]; exact ⟨b1.1, b1.2.1⟩), if_neg (by simpa using b1.2.2)]
/-- cells on unlike lines have unlike hashes -/
theorem hc_inj {x x' : Int} {k k' : Nat} (h1 : -1000 ≤ x) (h2 : x ≤ 1000) (h1' : -1000 ≤ x') (h2' : x' ≤ 1000) (hk : k < 144) (hk' : k' < 144) (e : hc [x, (k : Int)] = hc [x', (k' : Int)]) : k = k' := by
  have form : ∀ (x : Int) (k : Nat), -1000 ≤ x → x ≤ 1000 → k < 144 → hc [x, (k : Int)] = (if (pre x k + pC) % 18446744073709551616 < 9223372036854775808 then (((pre x k + pC) % 18446744073709551616 : Nat) : Int) else (((pre x k + pC) % 18446744073709551616 : Nat) : Int) - 18446744073709551616) := fun x k g1 g2 gk => by
    have e0 : hc [x, (k : Int)] = reduceHash (fin ((pre x k + pC) % 18446744073709551616)) := by
      show reduceHash (Builtin.Tuple.tupleHashOf [hashInt x, hashInt (k : Int)]) = _
      rw [hash_two, tn_small gk]
      rfl
    rw [e0, red_fin _ (Nat.mod_lt _ (by decide)) (pre_not g1 g2 gk)]
  rw [form x k h1 h2 hk, form x' k' h1' h2' hk'] at e
  have q1 := stp_lt (stp 2870177450012600261 (tn (hashInt x))) k
  have q2 := stp_lt (stp 2870177450012600261 (tn (hashInt x'))) k'
  have q1 : pre x k < 18446744073709551616 := q1
  have q2 : pre x' k' < 18446744073709551616 := q2
  refine pre_inj h1 h2 h1' h2' hk hk' ?_
  generalize pre x k = a at e q1 ⊢
  generalize pre x' k' = b at e q2 ⊢
  have r1 := Nat.mod_lt (a + pC) (by decide : 18446744073709551616 > 0)
  have r2 := Nat.mod_lt (b + pC) (by decide : 18446744073709551616 > 0)
  have : (a + pC) % 18446744073709551616 = (b + pC) % 18446744073709551616 := by
    generalize (a + pC) % 18446744073709551616 = u at e r1 ⊢
    generalize (b + pC) % 18446744073709551616 = v at e r2 ⊢
    split at e <;> split at e <;> omega
  unfold pC at this
  omega
end K78
set_option Elab.async false
set_option linter.all false
set_option maxRecDepth 100000
set_option maxHeartbeats 4000000
/-! k78: the plain law: where the cells lie -/
namespace K78
open PySem PySem.Spec PyProof.Rows L2 He HK
def PairAt (R : GR) (m k b o : Nat) : Prop := (prs R m)[k]? = some [(b : Int), (o : Int)]
theorem pair_ok {m : Nat} {R : GR} {k : Nat} (h : k < (prs R m).length) : ∃ b o g, PairAt R m k b o ∧ b < m ∧ o < m ∧ b ≠ o ∧ cellT R b o = some g := by
  obtain ⟨p, hp⟩ := getI (xs := prs R m) h
  obtain ⟨b, o, rfl, h1, h2, h3, g, h4⟩ := prs_mem (List.mem_of_getElem? hp)
  exact ⟨b, o, g, hp, h1, h2, h3, h4⟩
theorem PairAt.uniq {m : Nat} {R : GR} {k b o b' o' : Nat} (h : PairAt R m k b o) (h' : PairAt R m k b' o') : b = b' ∧ o = o' := by
  unfold PairAt at h h'
  rw [h] at h'
  have e := Option.some.inj h'
  simp only [List.cons.injEq, and_true] at e
  omega
theorem PairAt.ok {m : Nat} {R : GR} {k b o : Nat} (h : PairAt R m k b o) : k < (prs R m).length ∧ b < m ∧ o < m ∧ b ≠ o ∧ ∃ g, cellT R b o = some g := by
  have hk := (List.getElem?_eq_some_iff.1 h).1
  obtain ⟨b', o', g, h', h1, h2, h3, h4⟩ := pair_ok hk
  obtain ⟨rfl, rfl⟩ := h.uniq h'
  exact ⟨hk, h1, h2, h3, g, h4⟩
theorem pair_of {m : Nat} {R : GR} {b o : Nat} {g : Int} (hb : b < m) (ho : o < m) (hbo : b ≠ o) (hc : cellT R b o = some g) : ∃ k, PairAt R m k b o := by
  have : [(b : Int), (o : Int)] ∈ prs R m := by
    simp only [prs, prTo, prRow, List.mem_flatMap, List.mem_range]
    exact ⟨b, hb, o, ho, by rw [if_pos ⟨hbo, by rw [hc]; rfl⟩]; exact List.mem_singleton.2 rfl⟩
  obtain ⟨k, hk⟩ := List.getElem?_of_mem this
  exact ⟨k, hk⟩
/-- a cell of body x, of the k-th pair -/
def CellOf (R : GR) (m k x : Nat) (c : List Int) : Prop := ∃ b o g, PairAt R m k b o ∧ cellT R b o = some g ∧ ((o = x ∧ c = [1 - g - 1000, (k : Int)]) ∨ (b = x ∧ c = [-1000, (k : Int)]))
theorem mem_part {m : Nat} {R : GR} {x : Nat} {c : List Int} : c ∈ part R (prs R m) x ↔ ∃ k, CellOf R m k x c := by
  unfold part partTo
  rw [List.mem_flatMap]
  constructor
  · rintro ⟨k, hk, hc⟩
    rw [List.mem_range] at hk
    obtain ⟨b, o, g, hp, h1, h2, h3, h4⟩ := pair_ok hk
    have e : (prs R m).getD k [] = [(b : Int), (o : Int)] := getD_of hp
    rw [e, pcell_of _ _ _ _ _ h3, gapOf_two h4] at hc
    refine ⟨k, b, o, g, hp, h4, ?_⟩
    by_cases e1 : x = o
    · rw [if_pos e1, List.mem_singleton] at hc
      exact .inl ⟨e1.symm, hc⟩
    · rw [if_neg e1] at hc
      by_cases e2 : x = b
      · rw [if_pos e2, List.mem_singleton] at hc
        exact .inr ⟨e2.symm, hc⟩
      · rw [if_neg e2] at hc
        exact absurd hc List.not_mem_nil
  · rintro ⟨k, b, o, g, hp, h4, hc⟩
    obtain ⟨hk, _, _, h3, _⟩ := hp.ok
    refine ⟨k, List.mem_range.2 hk, ?_⟩
    have e : (prs R m).getD k [] = [(b : Int), (o : Int)] := getD_of hp
    rw [e, pcell_of _ _ _ _ _ h3, gapOf_two h4]
    rcases hc with ⟨rfl, rfl⟩ | ⟨rfl, rfl⟩
    · rw [if_pos rfl]
      exact List.mem_singleton.2 rfl
    · rw [if_neg h3, if_pos rfl]
      exact List.mem_singleton.2 rfl
theorem mem_fin {R : GR} {P : List (List Int)} {x : Nat} {c : List Int} : c ∈ finC R P x ↔ c ∈ part R P x ∨ (part R P x = [] ∧ c = [0, (P.length : Int) + (x : Int)]) := by
  unfold finC
  by_cases h : part R P x = []
  · rw [if_pos h, h, List.mem_singleton]
    exact ⟨fun z => .inr ⟨rfl, z⟩, fun z => z.elim (fun z => absurd z List.not_mem_nil) fun z => z.2⟩
  · rw [if_neg h]
    exact ⟨.inl, fun z => z.elim id fun z => absurd z.1 h⟩
theorem CellOf.two {R : GR} {m k x : Nat} {c : List Int} (h : CellOf R m k x c) : k < (prs R m).length ∧ c.getD 1 0 = (k : Int) ∧ c.length = 2 := by
  obtain ⟨b, o, g, hp, _, hc⟩ := h
  rcases hc with ⟨_, rfl⟩ | ⟨_, rfl⟩
  · exact ⟨hp.ok.1, rfl, rfl⟩
  · exact ⟨hp.ok.1, rfl, rfl⟩
theorem fin_two {m : Nat} {R : GR} {x : Nat} {c : List Int} (h : c ∈ finC R (prs R m) x) : ∃ a l : Int, c = [a, l] := by
  rcases mem_fin.1 h with h | ⟨_, rfl⟩
  · obtain ⟨k, b, o, g, hp, _, hc⟩ := mem_part.1 h
    rcases hc with ⟨_, rfl⟩ | ⟨_, rfl⟩
    · exact ⟨_, _, rfl⟩
    · exact ⟨_, _, rfl⟩
  · exact ⟨_, _, rfl⟩
/-- two bodies on one line: a pair's -/
theorem line_of {m : Nat} {R : GR} {x y : Nat} {c d : List Int} (hxy : x ≠ y) (hc : c ∈ finC R (prs R m) x) (hd : d ∈ finC R (prs R m) y) (e : d.getD 1 0 = c.getD 1 0) :
    ∃ k, CellOf R m k x c ∧ CellOf R m k y d := by
  rcases mem_fin.1 hc with hc | ⟨_, rfl⟩ <;> rcases mem_fin.1 hd with hd | ⟨_, rfl⟩
  · obtain ⟨k, hk⟩ := mem_part.1 hc
    obtain ⟨k', hk'⟩ := mem_part.1 hd
    have h1 := hk.two
    have h2 := hk'.two
    have : k = k' := by omega
    subst this
    exact ⟨k, hk, hk'⟩
  · exfalso
    obtain ⟨k, hk⟩ := mem_part.1 hc
    have h1 := hk.two
    simp only [List.getD_cons_zero, List.getD_cons_succ] at e
    omega
  · exfalso
    obtain ⟨k, hk⟩ := mem_part.1 hd
    have h1 := hk.two
    simp only [List.getD_cons_zero, List.getD_cons_succ] at e
    omega
  · exfalso
    simp only [List.getD_cons_zero, List.getD_cons_succ] at e
    omega
theorem low_of {m : Nat} {R : GR} (hh : ¬High R m) {b o : Nat} {g : Int} (hb : b < m) (ho : o < m) (hbo : b ≠ o) (hc : cellT R b o = some g) : g ≤ 0 := by
  refine Int.not_lt.1 fun z => hh ⟨[(b : Int), (o : Int)], ?_, by rw [gapOf_two hc]; exact z⟩
  obtain ⟨k, hk⟩ := pair_of hb ho hbo hc
  exact List.mem_of_getElem? hk
/-- on one line, one below the other: the gap -/
theorem below_of {m : Nat} {R : GR} (hh : ¬High R m) {x y : Nat} {c d : List Int} (hxy : x ≠ y) (hc : c ∈ finC R (prs R m) x) (hd : d ∈ finC R (prs R m) y) (e : d.getD 1 0 = c.getD 1 0) (hle : c.getD 0 0 ≤ d.getD 0 0) :
    ∃ g, cellT R x y = some g ∧ c.getD 0 0 - d.getD 0 0 + 1 = g ∧ c.getD 0 0 < d.getD 0 0 := by
  obtain ⟨k, ⟨b, o, g, hp, hg, h1⟩, b', o', g', hp', hg', h2⟩ := line_of hxy hc hd e
  obtain ⟨rfl, rfl⟩ := hp.uniq hp'
  rw [hg] at hg'
  obtain rfl := Option.some.inj hg'
  obtain ⟨_, hb, ho, hbo, _⟩ := hp.ok
  have g0 := low_of hh hb ho hbo hg
  rcases h1 with ⟨q1, rfl⟩ | ⟨q1, rfl⟩ <;> rcases h2 with ⟨q2, rfl⟩ | ⟨q2, rfl⟩
  · omega
  · simp only [List.getD_cons_zero] at hle
    omega
  · subst q1
    subst q2
    refine ⟨g, hg, ?_, ?_⟩ <;> simp only [List.getD_cons_zero] <;> omega
  · omega
theorem gap_cells {m : Nat} {R : GR} (hh : ¬High R m) {x y : Nat} {g : Int} (hx : x < m) (hy : y < m) (hxy : x ≠ y) (hg : cellT R x y = some g) :
    ∃ k : Nat, [-1000, (k : Int)] ∈ finC R (prs R m) x ∧ [1 - g - 1000, (k : Int)] ∈ finC R (prs R m) y ∧ g ≤ 0 := by
  obtain ⟨k, hk⟩ := pair_of hx hy hxy hg
  exact ⟨k, mem_fin.2 (.inl (mem_part.2 ⟨k, x, y, g, hk, hg, .inr ⟨rfl, rfl⟩⟩)), mem_fin.2 (.inl (mem_part.2 ⟨k, x, y, g, hk, hg, .inl ⟨rfl, rfl⟩⟩)), low_of hh hx hy hxy hg⟩
theorem fin_apart {m : Nat} {R : GR} (hh : ¬High R m) {x y : Nat} (hxy : x ≠ y) {c : List Int} (hc : c ∈ finC R (prs R m) x) (hd : c ∈ finC R (prs R m) y) : False := by
  obtain ⟨g, _, _, h⟩ := below_of hh hxy hc hd rfl (Int.le_refl _)
  omega
theorem cells_at {m : Nat} {R : GR} {B' : List (List (List Int))} (h : Paired List.Perm B' (cellsOf R m)) {b : Nat} (hb : b < m) {c : List Int} : c ∈ B'.getD b [] ↔ c ∈ finC R (prs R m) b := by
  have e : (cellsOf R m)[b]? = some (finC R (prs R m) b) := by
    unfold cellsOf
    rw [List.getElem?_map, List.getElem?_range hb]
    rfl
  obtain ⟨l, hl, hp⟩ := Paired.at2 h e
  rw [getD_of hl]
  exact hp.mem_iff
theorem stay_of {m : Nat} {R : GR} {B' : List (List (List Int))} {os : List Int} (O : GapsOk m R) (hh : ¬High R m) (hB : Paired List.Perm B' (cellsOf R m)) (lo : os.length = m) : Brk R os ↔ Bad B' os := by
  have lB : B'.length = m := by rw [Paired.len hB, cellsOf_len]
  constructor
  · rintro ⟨i, j, row, g, x, y, h1, h2, h3, h4, h5⟩
    have hi : i < m := by rw [← lo]; exact (List.getElem?_eq_some_iff.1 h3).1
    have hj : j < m := by rw [← lo]; exact (List.getElem?_eq_some_iff.1 h4).1
    have hc : cellT R i j = some g := by unfold cellT; rw [getD_of h1, getD_of h2]
    have hij : i ≠ j := fun z => by
      subst z
      rw [(O.2.2 i row h1).2.1] at h2
      have := Option.some.inj (Option.some.inj h2)
      rw [h3] at h4
      have := Option.some.inj h4
      omega
    obtain ⟨k, k1, k2, g0⟩ := gap_cells hh hi hj hij hc
    refine ⟨i, j, _, _, by omega, by omega, (cells_at hB hi).2 k1, (cells_at hB hj).2 k2, hij, rfl, ?_, ?_⟩
    · simp only [List.getD_cons_zero]
      omega
    · rw [getD_of h3, getD_of h4]
      simp only [List.getD_cons_zero]
      omega
  · rintro ⟨i, j, c, d, hi, hj, hc, hd, hij, e1, e2, e3⟩
    rw [lB] at hi hj
    obtain ⟨g, hg, q, _⟩ := below_of hh hij ((cells_at hB hi).1 hc) ((cells_at hB hj).1 hd) e1 (Int.le_of_lt e2)
    obtain ⟨row, cc, h1, h2, h3⟩ := cell_at O hi hj
    rw [hg] at h3
    obtain ⟨x, hx⟩ := getI (xs := os) (i := i) (by omega)
    obtain ⟨y, hy⟩ := getI (xs := os) (i := j) (by omega)
    rw [getD_of hx, getD_of hy] at e3
    exact ⟨i, j, row, g, x, y, h1, by rw [h2, ← h3], hx, hy, by omega⟩
theorem gr_ext {m : Nat} {R R' : GR} (l : R.length = m) (l' : R'.length = m) (h : ∀ (b : Nat) (r : List (Option Int)), R[b]? = some r → r.length = m) (h' : ∀ (b : Nat) (r : List (Option Int)), R'[b]? = some r → r.length = m) (e : ∀ b o, b < m → o < m → cellT R' b o = cellT R b o) : R' = R := by
  refine List.ext_getElem? fun b => ?_
  by_cases hb : b < m
  · obtain ⟨r, hr⟩ := getI (xs := R) (i := b) (by omega)
    obtain ⟨r', hr'⟩ := getI (xs := R') (i := b) (by omega)
    rw [hr, hr']
    congr 1
    refine List.ext_getElem? fun o => ?_
    by_cases ho : o < m
    · have h1 := h b r hr
      have h2 := h' b r' hr'
      obtain ⟨c, hc⟩ := getI (xs := r) (i := o) (by omega)
      obtain ⟨c', hc'⟩ := getI (xs := r') (i := o) (by omega)
      have := e b o hb ho
      unfold cellT at this
      rw [getD_of hr, getD_of hr', getD_of hc, getD_of hc'] at this
      rw [hc, hc', this]
    · have h1 := h b r hr
      have h2 := h' b r' hr'
      rw [List.getElem?_eq_none (show r'.length ≤ o by omega), List.getElem?_eq_none (show r.length ≤ o by omega)]
  · rw [List.getElem?_eq_none (by omega), List.getElem?_eq_none (by omega)]
theorem lawG_of {m : Nat} {R R' : GR} {B' : List (List (List Int))} (O : GapsOk m R) (hh : ¬High R m) (hB : Paired List.Perm B' (cellsOf R m)) (L : LawG B' R') : R' = R := by
  have lB : B'.length = m := by rw [Paired.len hB, cellsOf_len]
  refine gr_ext O.2.1 (by rw [L.1, lB]) (fun b r hr => (O.2.2 b r hr).1) (fun b r hr => by rw [(L.2 b r hr).1, lB]) fun b o hb ho => ?_
  obtain ⟨row', hr'⟩ := getI (xs := R') (i := b) (by rw [L.1]; omega)
  obtain ⟨l1, l2⟩ := L.2 b row' hr'
  obtain ⟨v, hv⟩ := getI (xs := row') (i := o) (by omega)
  have hM := l2 o v hv
  have ec : cellT R' b o = v := by unfold cellT; rw [getD_of hr', getD_of hv]
  rw [ec]
  by_cases hbo : b = o
  · subst hbo
    obtain ⟨row, hr⟩ := getI (xs := R) (i := b) (by rw [O.2.1]; exact hb)
    have : cellT R b b = some 0 := by unfold cellT; rw [getD_of hr, getD_of (O.2.2 b row hr).2.1]
    rw [this]
    unfold fndL at hM
    rw [if_pos rfl] at hM
    cases v with
    | none => cases hM
    | some g => rw [List.mem_singleton.1 hM.1]
  · have mem : ∀ i : Int, i ∈ fndL B' b o ↔ cellT R b o = some i := fun i => by
      unfold fndL
      rw [if_neg hbo]
      simp only [List.mem_flatMap, hitL]
      constructor
      · rintro ⟨c, hc, d, hd, hi⟩
        unfold up1 at hi
        split at hi
        · rename_i hcd
          obtain ⟨g, hg, q, _⟩ := below_of hh hbo ((cells_at hB hb).1 hc) ((cells_at hB ho).1 hd) hcd.1 (Int.le_of_lt hcd.2)
          rw [hg, List.mem_singleton.1 hi, q]
        · cases hi
      · intro hg
        obtain ⟨k, k1, k2, g0⟩ := gap_cells hh hb ho hbo hg
        refine ⟨_, (cells_at hB hb).2 k1, _, (cells_at hB ho).2 k2, ?_⟩
        unfold up1
        rw [if_pos ⟨rfl, by simp only [List.getD_cons_zero]; omega⟩, List.mem_singleton]
        simp only [List.getD_cons_zero]
        omega
    cases v with
    | none =>
      cases hc : cellT R b o with
      | none => rfl
      | some g =>
        have := (mem g).2 hc
        have hM : fndL B' b o = [] := hM
        rw [hM] at this
        cases this
    | some g => exact ((mem g).1 hM.1).symm
end K78
set_option Elab.async false
set_option linter.all false
set_option maxRecDepth 100000
set_option maxHeartbeats 4000000
/-! k78: the plain law: all gaps by rows -/
namespace K78
open PySem PySem.Spec PyProof.Rows L2 He HK
abbrev Ev := (Int × Int) × (Int × Int)
def evOne (row : Row) (k : Nat) : List Ev := (row.drop (k + 1)).map fun q => (row.getD k (0, 0), q)
def evTo (row : Row) : Nat → List Ev
  | 0 => []
  | k + 1 => evTo row k ++ evOne row k
def runE (es : List Ev) (T : GR) : GR := es.foldl (fun T e => gpair e.1 T e.2) T
theorem runE_app (es fs : List Ev) (T : GR) : runE (es ++ fs) T = runE fs (runE es T) := List.foldl_append ..
theorem gOne_run (row : Row) (k : Nat) (T : GR) : gOne row k T = runE (evOne row k) T := by
  unfold gOne runE evOne
  rw [List.foldl_map]
theorem gTo_run (row : Row) : ∀ (k : Nat) (T : GR), gTo row k T = runE (evTo row k) T
  | 0, T => rfl
  | k + 1, T => by
    show gOne row k (gTo row k T) = runE (evTo row k ++ evOne row k) T
    rw [runE_app, gOne_run, gTo_run row k T]
def evAll (rows : Rows) : List Ev := rows.flatMap fun g => evTo g.2 g.2.length
theorem gAll_run : ∀ (rows : Rows) (T : GR), gAll rows T = runE (evAll rows) T
  | [], T => rfl
  | g :: rows, T => by
    show gAll rows (gTo g.2 g.2.length T) = _
    unfold evAll
    rw [List.flatMap_cons, runE_app, ← gTo_run]
    exact gAll_run rows _
theorem mem_evOne {row : Row} {k : Nat} {e : Ev} (hk : k < row.length) : e ∈ evOne row k ↔ row[k]? = some e.1 ∧ ∃ j, k < j ∧ row[j]? = some e.2 := by
  unfold evOne
  rw [List.mem_map]
  obtain ⟨p, hp⟩ := getI (xs := row) hk
  rw [getD_of hp]
  constructor
  · rintro ⟨q, hq, rfl⟩
    obtain ⟨n, hn⟩ := List.getElem?_of_mem hq
    rw [List.getElem?_drop] at hn
    exact ⟨hp, k + 1 + n, by omega, hn⟩
  · rintro ⟨h1, j, hj, h2⟩
    rw [hp] at h1
    refine ⟨e.2, List.mem_of_getElem? (i := j - (k + 1)) ?_, by rw [Option.some.inj h1]⟩
    rw [List.getElem?_drop, show k + 1 + (j - (k + 1)) = j by omega]
    exact h2
theorem mem_evTo {row : Row} {e : Ev} : ∀ {k : Nat}, k ≤ row.length → (e ∈ evTo row k ↔ ∃ i j, i < k ∧ i < j ∧ row[i]? = some e.1 ∧ row[j]? = some e.2)
  | 0, _ => ⟨fun h => absurd h List.not_mem_nil, fun ⟨i, _, h, _⟩ => absurd h (Nat.not_lt_zero i)⟩
  | k + 1, hk => by
    show e ∈ evTo row k ++ evOne row k ↔ _
    rw [List.mem_append, mem_evTo (by omega), mem_evOne (by omega)]
    constructor
    · rintro (⟨i, j, h1, h2, h3, h4⟩ | ⟨h1, j, h2, h3⟩)
      · exact ⟨i, j, by omega, h2, h3, h4⟩
      · exact ⟨k, j, by omega, h2, h1, h3⟩
    · rintro ⟨i, j, h1, h2, h3, h4⟩
      by_cases q : i = k
      · subst q
        exact .inr ⟨h3, j, h2, h4⟩
      · exact .inl ⟨i, j, by omega, h2, h3, h4⟩
theorem mem_evAll {rows : Rows} {e : Ev} : e ∈ evAll rows ↔ ∃ g ∈ rows, ∃ i j : Nat, i < j ∧ g.2[i]? = some e.1 ∧ g.2[j]? = some e.2 := by
  unfold evAll
  rw [List.mem_flatMap]
  constructor
  · rintro ⟨g, hg, h⟩
    obtain ⟨i, j, _, h2, h3, h4⟩ := (mem_evTo (Nat.le_refl _)).1 h
    exact ⟨g, hg, i, j, h2, h3, h4⟩
  · rintro ⟨g, hg, i, j, h2, h3, h4⟩
    exact ⟨g, hg, (mem_evTo (Nat.le_refl _)).2 ⟨i, j, (List.getElem?_eq_some_iff.1 h3).1, h2, h3, h4⟩⟩
/-! the greatest of what was seen -/
def Shape (m : Nat) (T : GR) : Prop := T.length = m ∧ ∀ (b : Nat) (r : List (Option Int)), T[b]? = some r → r.length = m
def MxP (P : Int → Prop) : Option Int → Prop
  | none => ∀ v, ¬P v
  | some g => P g ∧ ∀ v, P v → v ≤ g
def Seen (s : List Ev) (b o : Nat) (v : Int) : Prop := ∃ e ∈ s, e.1.2 = (b : Int) ∧ e.2.2 = (o : Int) ∧ v = e.1.1 - e.2.1 + 1
structure InvT (m : Nat) (s : List Ev) (T : GR) : Prop where
  sh : Shape m T
  dg : ∀ b, b < m → cellT T b b = some 0
  mx : ∀ b o, b < m → o < m → b ≠ o → MxP (Seen s b o) (cellT T b o)
theorem shape_put {m : Nat} {T : GR} (h : Shape m T) (b o : Nat) (v : Int) : Shape m (gput T b o v) := by
  unfold gput
  split
  · refine ⟨by rw [List.length_set]; exact h.1, fun c r hc => ?_⟩
    rw [List.getElem?_set] at hc
    split at hc
    · split at hc
      · rename_i h1 h2
        obtain rfl := Option.some.inj hc
        rw [List.length_set]
        obtain ⟨r0, hr0⟩ := getI (xs := T) (i := b) h2
        rw [getD_of hr0]
        exact h.2 b r0 hr0
      · cases hc
    · exact h.2 c r hc
  · exact h
theorem cell_put {m : Nat} {T : GR} (h : Shape m T) {b o : Nat} (hb : b < m) (ho : o < m) (v : Int) (b' o' : Nat) : cellT (gput T b o v) b' o' = if b' = b ∧ o' = o ∧ o ≠ b ∧ more (cellT T b o) v = true then some v else cellT T b' o' := by
  unfold gput
  by_cases hc : o ≠ b ∧ more (cellT T b o) v = true
  · rw [if_pos hc]
    obtain ⟨r, hr⟩ := getI (xs := T) (i := b) (by rw [h.1]; exact hb)
    have lr := h.2 b r hr
    by_cases e1 : b' = b
    · subst e1
      have : (T.set b' ((T.getD b' []).set o (some v)))[b']? = some (r.set o (some v)) := by
        rw [List.getElem?_set_self (by rw [h.1]; exact hb), getD_of hr]
      by_cases e2 : o' = o
      · subst e2
        rw [if_pos ⟨rfl, rfl, hc⟩]
        unfold cellT
        rw [getD_of this]
        exact getD_of (List.getElem?_set_self (by omega))
      · rw [if_neg (fun z => e2 z.2.1)]
        unfold cellT
        rw [getD_of this, getD_of hr]
        simp only [List.getD, List.getElem?_set_ne (fun z => e2 z.symm)]
    · rw [if_neg (fun z => e1 z.1)]
      unfold cellT
      simp only [List.getD, List.getElem?_set_ne (fun z => e1 z.symm)]
  · rw [if_neg hc, if_neg (fun z => hc z.2.2)]
theorem inv_step {m : Nat} {s : List Ev} {T : GR} (I : InvT m s T) {e : Ev} {b o : Nat} (h1 : e.1.2 = (b : Int)) (h2 : e.2.2 = (o : Int)) (hb : b < m) (ho : o < m) : InvT m (s ++ [e]) (gpair e.1 T e.2) := by
  have eg : gpair e.1 T e.2 = gput T b o (e.1.1 - e.2.1 + 1) := by
    unfold gpair
    rw [h1, h2, Int.toNat_natCast, Int.toNat_natCast]
  rw [eg]
  have seen : ∀ b' o' v, Seen (s ++ [e]) b' o' v ↔ Seen s b' o' v ∨ (b' = b ∧ o' = o ∧ v = e.1.1 - e.2.1 + 1) := fun b' o' v => by
    unfold Seen
    constructor
    · rintro ⟨f, hf, g1, g2, g3⟩
      rcases List.mem_append.1 hf with hf | hf
      · exact .inl ⟨f, hf, g1, g2, g3⟩
      · rw [List.mem_singleton] at hf
        subst hf
        rw [h1] at g1
        rw [h2] at g2
        exact .inr ⟨by omega, by omega, g3⟩
    · rintro (⟨f, hf, g⟩ | ⟨rfl, rfl, g⟩)
      · exact ⟨f, List.mem_append_left _ hf, g⟩
      · exact ⟨e, List.mem_append_right _ (List.mem_singleton.2 rfl), h1, h2, g⟩
  refine ⟨shape_put I.sh _ _ _, fun c hc => ?_, fun b' o' hb' ho' hbo' => ?_⟩
  · rw [cell_put I.sh hb ho, if_neg (fun z => z.2.2.1 (by omega))]
    exact I.dg c hc
  · rw [cell_put I.sh hb ho]
    have M := I.mx b' o' hb' ho' hbo'
    by_cases hq : b' = b ∧ o' = o
    · obtain ⟨rfl, rfl⟩ := hq
      cases hcell : cellT T b' o' with
      | none =>
        rw [hcell] at M
        rw [if_pos ⟨rfl, rfl, fun z => hbo' z.symm, rfl⟩]
        refine ⟨(seen _ _ _).2 (.inr ⟨rfl, rfl, rfl⟩), fun v hv => ?_⟩
        rcases (seen _ _ _).1 hv with hv | ⟨_, _, hv⟩
        · exact absurd hv (M v)
        · omega
      | some g =>
        rw [hcell] at M
        by_cases hg : g < e.1.1 - e.2.1 + 1
        · rw [if_pos ⟨rfl, rfl, fun z => hbo' z.symm, decide_eq_true hg⟩]
          refine ⟨(seen _ _ _).2 (.inr ⟨rfl, rfl, rfl⟩), fun v hv => ?_⟩
          rcases (seen _ _ _).1 hv with hv | ⟨_, _, hv⟩
          · have := M.2 v hv
            omega
          · omega
        · rw [if_neg (fun z => hg (of_decide_eq_true z.2.2.2))]
          refine ⟨(seen _ _ _).2 (.inl M.1), fun v hv => ?_⟩
          rcases (seen _ _ _).1 hv with hv | ⟨_, _, hv⟩
          · exact M.2 v hv
          · omega
    · rw [if_neg (fun z => hq ⟨z.1, z.2.1⟩)]
      have same : ∀ v, Seen (s ++ [e]) b' o' v ↔ Seen s b' o' v := fun v => by
        rw [seen]
        exact ⟨fun z => z.elim id fun z => absurd ⟨z.1, z.2.1⟩ hq, .inl⟩
      cases hcell : cellT T b' o' with
      | none =>
        rw [hcell] at M
        exact fun v hv => M v ((same v).1 hv)
      | some g =>
        rw [hcell] at M
        exact ⟨(same g).2 M.1, fun v hv => M.2 v ((same v).1 hv)⟩
theorem inv_run {m : Nat} : ∀ {es s : List Ev} {T : GR}, InvT m s T → (∀ e ∈ es, ∃ b o : Nat, e.1.2 = (b : Int) ∧ e.2.2 = (o : Int) ∧ b < m ∧ o < m) → InvT m (s ++ es) (runE es T)
  | [], s, T, I, _ => by rw [List.append_nil]; exact I
  | e :: es, s, T, I, h => by
    obtain ⟨b, o, h1, h2, hb, ho⟩ := h e List.mem_cons_self
    have := inv_run (es := es) (inv_step I h1 h2 hb ho) fun f hf => h f (List.mem_cons_of_mem _ hf)
    rw [List.append_assoc] at this
    exact this
theorem cell_diag {m b o : Nat} (hb : b < m) (ho : o < m) : cellT (diag m) b o = if b = o then some 0 else none := by
  unfold cellT diag diagRow
  have h1 : ((List.range m).map fun b => (List.range m).map fun o => if b = o then some (0 : Int) else none)[b]? = some ((List.range m).map fun o => if b = o then some (0 : Int) else none) := by
    rw [List.getElem?_map, List.getElem?_range hb]
    rfl
  have h2 : ((List.range m).map fun o => if b = o then some (0 : Int) else none)[o]? = some (if b = o then some (0 : Int) else none) := by
    rw [List.getElem?_map, List.getElem?_range ho]
    rfl
  rw [getD_of h1, getD_of h2]
theorem inv_diag (m : Nat) : InvT m [] (diag m) := by
  refine ⟨⟨by unfold diag; rw [List.length_map, List.length_range], fun b r hr => ?_⟩, fun b hb => by rw [cell_diag hb hb, if_pos rfl], fun b o hb ho hbo => ?_⟩
  · unfold diag at hr
    rw [List.getElem?_map] at hr
    cases hz : (List.range m)[b]? with
    | none => rw [hz] at hr; cases hr
    | some z =>
      rw [hz] at hr
      obtain rfl := Option.some.inj hr
      unfold diagRow
      rw [List.length_map, List.length_range]
  · rw [cell_diag hb ho, if_neg hbo]
    rintro v ⟨e, he, _⟩
    cases he
theorem curR_has {gs : Rows} {l : List Int} {p : Int × Int} (h : p ∈ curR gs l) : ∃ g ∈ gs, g.1 = l := by
  unfold curR at h
  cases e : gs.find? fun g => decide (g.1 = l) with
  | none =>
    rw [e] at h
    exact absurd h List.not_mem_nil
  | some g => exact ⟨g, List.mem_of_find?_eq_some e, by simpa using List.find?_some e⟩
theorem all_of {m : Nat} {R : GR} {B' : List (List (List Int))} (O : GapsOk m R) (hh : ¬High R m) (hB : Paired List.Perm B' (cellsOf R m)) (rows : Rows) (hr : Paired SrtRow rows (rowsOf 0 (occTo B' m))) : gAll rows (diag m) = R := by
  have mem : ∀ {l : List Int} {p : Int × Int}, p ∈ curR (rowsOf 0 (occTo B' m)) l ↔ ∃ b c, b < m ∧ c ∈ finC R (prs R m) b ∧ ln 0 c = l ∧ p = (c.getD 0 0, (b : Int)) := fun {l p} => by
    rw [mem_curR]
    constructor
    · rintro ⟨⟨b, c⟩, ho, e, rfl⟩
      obtain ⟨h1, h2⟩ := mem_occ.1 ho
      exact ⟨b, c, h1, (cells_at hB h1).1 h2, e, rfl⟩
    · rintro ⟨b, c, h1, h2, e, rfl⟩
      exact ⟨(b, c), mem_occ.2 ⟨h1, (cells_at hB h1).2 h2⟩, e, rfl⟩
  have ev : ∀ e ∈ evAll rows, ∃ b o c d, b < m ∧ o < m ∧ e.1 = (c.getD 0 0, (b : Int)) ∧ e.2 = (d.getD 0 0, (o : Int)) ∧ c ∈ finC R (prs R m) b ∧ d ∈ finC R (prs R m) o ∧ d.getD 1 0 = c.getD 1 0 ∧ SrtO.lexB e.2 e.1 = false := fun e he => by
    obtain ⟨g, hg, i, j, hij, h1, h2⟩ := mem_evAll.1 he
    obtain ⟨gi, hgi⟩ := List.getElem?_of_mem hg
    obtain ⟨g2, hg2, e1, e2, e3⟩ := Paired.at hr hgi
    have hcur := curR_mem (rowsOf_nodup 0 (occTo B' m)) (List.mem_of_getElem? hg2)
    have m1 := e2.mem_iff.1 (List.mem_of_getElem? h1)
    have m2 := e2.mem_iff.1 (List.mem_of_getElem? h2)
    rw [← hcur, mem] at m1 m2
    obtain ⟨b, c, hb, hc, l1, p1⟩ := m1
    obtain ⟨o, d, ho, hd, l2, p2⟩ := m2
    refine ⟨b, o, c, d, hb, ho, p1, p2, hc, hd, ?_, ?_⟩
    · obtain ⟨x, l, rfl⟩ := fin_two hc
      obtain ⟨y, l', rfl⟩ := fin_two hd
      have : [l] = [l'] := l1.trans l2.symm
      simp only [List.cons.injEq, and_true] at this
      simp only [List.getD_cons_zero, List.getD_cons_succ]
      exact this.symm
    · obtain ⟨li, ei⟩ := List.getElem?_eq_some_iff.1 h1
      obtain ⟨lj, ej⟩ := List.getElem?_eq_some_iff.1 h2
      have := List.pairwise_iff_getElem.1 e3 i j li lj hij
      rw [ei, ej] at this
      exact this
  have I := inv_run (m := m) (es := evAll rows) (inv_diag m) fun e he => by
    obtain ⟨b, o, c, d, hb, ho, p1, p2, _⟩ := ev e he
    exact ⟨b, o, by rw [p1], by rw [p2], hb, ho⟩
  rw [List.nil_append, ← gAll_run] at I
  refine gr_ext O.2.1 I.sh.1 (fun b r hr => (O.2.2 b r hr).1) I.sh.2 fun b o hb ho => ?_
  by_cases hbo : b = o
  · subst hbo
    rw [I.dg b hb]
    obtain ⟨row, hr⟩ := getI (xs := R) (i := b) (by rw [O.2.1]; exact hb)
    unfold cellT
    rw [getD_of hr, getD_of (O.2.2 b row hr).2.1]
  · have M := I.mx b o hb ho hbo
    have seen : ∀ v, Seen (evAll rows) b o v ↔ cellT R b o = some v := fun v => by
      constructor
      · rintro ⟨e, he, g1, g2, rfl⟩
        obtain ⟨b1, o1, c, d, _, _, p1, p2, hc, hd, hline, hlex⟩ := ev e he
        rw [p1] at g1
        rw [p2] at g2
        obtain rfl : b1 = b := by simp only at g1; omega
        obtain rfl : o1 = o := by simp only at g2; omega
        have hle : c.getD 0 0 ≤ d.getD 0 0 := by
          rw [p1, p2] at hlex
          unfold SrtO.lexB at hlex
          refine Int.not_lt.1 fun z => ?_
          rw [if_neg (by show ¬d.getD 0 0 = c.getD 0 0; omega)] at hlex
          exact of_decide_eq_false hlex z
        obtain ⟨g, hg, q, _⟩ := below_of hh hbo hc hd hline hle
        rw [hg, p1, p2, ← q]
      · intro hg
        obtain ⟨k, k1, k2, g0⟩ := gap_cells hh hb ho hbo hg
        have m1 : ((-1000 : Int), (b : Int)) ∈ curR (rowsOf 0 (occTo B' m)) [(k : Int)] := mem.2 ⟨b, _, hb, k1, rfl, rfl⟩
        have m2 : ((1 - v - 1000 : Int), (o : Int)) ∈ curR (rowsOf 0 (occTo B' m)) [(k : Int)] := mem.2 ⟨o, _, ho, k2, rfl, rfl⟩
        obtain ⟨g2, hg2, eg⟩ := curR_has m1
        have hcur := curR_mem (rowsOf_nodup 0 (occTo B' m)) hg2
        rw [eg] at hcur
        obtain ⟨r, hr2⟩ := List.getElem?_of_mem hg2
        obtain ⟨g, hgr, e1, e2, e3⟩ := Paired.at2 hr hr2
        rw [hcur] at m1 m2
        obtain ⟨i, hi⟩ := List.getElem?_of_mem (e2.mem_iff.2 m1)
        obtain ⟨j, hj⟩ := List.getElem?_of_mem (e2.mem_iff.2 m2)
        obtain ⟨li, ei⟩ := List.getElem?_eq_some_iff.1 hi
        obtain ⟨lj, ej⟩ := List.getElem?_eq_some_iff.1 hj
        have hij : i < j := by
          rcases Nat.lt_trichotomy i j with q | q | q
          · exact q
          · subst q
            rw [hi] at hj
            have := congrArg Prod.fst (Option.some.inj hj)
            simp only at this
            omega
          · have := List.pairwise_iff_getElem.1 e3 j i lj li q
            rw [ei, ej] at this
            unfold SrtO.lexB at this
            rw [if_neg (by show ¬(-1000 : Int) = 1 - v - 1000; omega)] at this
            exact absurd (show (-1000 : Int) < 1 - v - 1000 by omega) (of_decide_eq_false this)
        refine ⟨((-1000, (b : Int)), (1 - v - 1000, (o : Int))), mem_evAll.2 ⟨g, List.mem_of_getElem? hgr, i, j, hij, hi, hj⟩, rfl, rfl, ?_⟩
        show v = -1000 - (1 - v - 1000) + 1
        omega
    cases hc : cellT (gAll rows (diag m)) b o with
    | none =>
      rw [hc] at M
      cases hr : cellT R b o with
      | none => rfl
      | some v => exact absurd ((seen v).2 hr) (M v)
    | some g =>
      rw [hc] at M
      exact ((seen g).1 M.1).symm
end K78
set_option Elab.async false
set_option linter.all false
set_option maxRecDepth 100000
set_option maxHeartbeats 4000000
/-! k78: the plain law holds -/
namespace K78
open PySem PySem.Spec PyProof.Rows L2 He HK
theorem part_len (R : GR) (P : List (List Int)) (x : Nat) : (part R P x).length = P.countP (fun p => p.getD 0 (-1) = (x : Int)) + P.countP (fun p => p.getD 1 (-1) = (x : Int)) := by
  have : ∀ i, i ≤ P.length → (partTo R P i x).length = (P.take i).countP (fun p => p.getD 0 (-1) = (x : Int)) + (P.take i).countP (fun p => p.getD 1 (-1) = (x : Int)) := fun i => by
    induction i with
    | zero => exact fun _ => rfl
    | succ i ih =>
      intro hi
      obtain ⟨p, hp⟩ := getI (xs := P) (i := i) (by omega)
      rw [partTo_succ, List.length_append, ih (by omega), getD_of hp, List.take_succ, hp, Option.toList_some, List.countP_append, List.countP_append, List.countP_singleton, List.countP_singleton]
      unfold pcell
      rw [List.length_append]
      simp only [decide_eq_true_eq]
      split <;> split <;> simp <;> omega
  have h := this P.length (Nat.le_refl _)
  rw [List.take_length] at h
  exact h
theorem cnt_first (R : GR) (m x : Nat) : ∀ i, (prTo R m i).countP (fun p => p.getD 0 (-1) = (x : Int)) ≤ if x < i then m else 0
  | 0 => by simp [prTo]
  | i + 1 => by
    rw [prTo_succ, List.countP_append]
    have ih := cnt_first R m x i
    have h2 : (prRow R i m).countP (fun p => p.getD 0 (-1) = (x : Int)) ≤ if x = i then m else 0 := by
      by_cases e : x = i
      · rw [if_pos e]
        exact Nat.le_trans List.countP_le_length (prRow_le R i m)
      · rw [if_neg e]
        refine Nat.le_of_eq (List.countP_eq_zero.2 fun p hp => ?_)
        simp only [prRow, List.mem_flatMap, List.mem_range] at hp
        obtain ⟨o, _, hp⟩ := hp
        split at hp
        · rw [List.mem_singleton] at hp
          subst hp
          simp only [List.getD_cons_zero, decide_eq_true_eq]
          omega
        · cases hp
    split <;> split at ih <;> split at h2 <;> omega
theorem cnt_row (R : GR) (b x : Nat) : ∀ j, (prRow R b j).countP (fun p => p.getD 1 (-1) = (x : Int)) ≤ if x < j then 1 else 0
  | 0 => by simp [prRow]
  | j + 1 => by
    rw [prRow_succ, List.countP_append]
    have ih := cnt_row R b x j
    have h2 : (if b ≠ j ∧ (cellT R b j).isSome = true then [[(b : Int), (j : Int)]] else []).countP (fun p => p.getD 1 (-1) = (x : Int)) ≤ if x = j then 1 else 0 := by
      split
      · rw [List.countP_singleton]
        simp only [List.getD_cons_succ, List.getD_cons_zero, decide_eq_true_eq]
        split <;> split <;> omega
      · simp
    have key : ∀ a c : Nat, a ≤ (if x < j then 1 else 0) → c ≤ (if x = j then 1 else 0) → a + c ≤ (if x < j + 1 then 1 else 0) := fun a c g1 g2 => by split at g1 <;> split at g2 <;> split <;> omega
    exact key _ _ ih h2
theorem cnt_second (R : GR) (m x : Nat) : ∀ i, (prTo R m i).countP (fun p => p.getD 1 (-1) = (x : Int)) ≤ i
  | 0 => by simp [prTo]
  | i + 1 => by
    rw [prTo_succ, List.countP_append]
    have ih := cnt_second R m x i
    have h2 := cnt_row R i x m
    split at h2 <;> omega
theorem fin_le {R : GR} {m x : Nat} (m12 : m ≤ 12) : (finC R (prs R m) x).length ≤ 24 := by
  unfold finC
  split
  · simp
  · rw [part_len]
    have h1 := cnt_first R m x m
    have h2 := cnt_second R m x m
    unfold prs
    split at h1 <;> omega
theorem fin_ne {R : GR} {P : List (List Int)} {x : Nat} : finC R P x ≠ [] := by
  unfold finC
  split
  · exact fun z => nomatch z
  · assumption
theorem cell_uniq {R : GR} {m k x : Nat} {c d : List Int} (h : CellOf R m k x c) (h' : CellOf R m k x d) : c = d := by
  obtain ⟨b, o, g, hp, hg, h1⟩ := h
  obtain ⟨b', o', g', hp', hg', h2⟩ := h'
  obtain ⟨rfl, rfl⟩ := hp.uniq hp'
  have hbo := hp.ok.2.2.2.1
  rw [hg] at hg'
  obtain rfl := Option.some.inj hg'
  rcases h1 with ⟨q1, rfl⟩ | ⟨q1, rfl⟩ <;> rcases h2 with ⟨q2, rfl⟩ | ⟨q2, rfl⟩
  · rfl
  · omega
  · omega
  · rfl
theorem fin_nodup {m : Nat} {R : GR} (x : Nat) : (finC R (prs R m) x).Nodup := by
  unfold finC
  split
  · exact List.pairwise_singleton _ _
  · unfold part partTo
    refine List.pairwise_flatMap.2 ⟨fun k hk => ?_, ?_⟩
    · obtain ⟨b, o, g, hp, _, _, h3, _⟩ := pair_ok (List.mem_range.1 hk)
      rw [getD_of hp, pcell_of _ _ _ _ _ h3]
      split
      · exact List.pairwise_singleton _ _
      · split
        · exact List.pairwise_singleton _ _
        · exact .nil
    · have line : ∀ {k : Nat} {c : List Int}, k ∈ List.range (prs R m).length → c ∈ pcell R ((prs R m).getD k []) k x → c.getD 1 0 = (k : Int) := fun {k c} hk hc => by
        obtain ⟨b, o, g, hp, _, _, h3, _⟩ := pair_ok (List.mem_range.1 hk)
        rw [getD_of hp, pcell_of _ _ _ _ _ h3] at hc
        split at hc
        · rw [List.mem_singleton] at hc
          rw [hc]
          rfl
        · split at hc
          · rw [List.mem_singleton] at hc
            rw [hc]
            rfl
          · cases hc
      refine (List.pairwise_lt_range).imp_of_mem fun {k k'} hk hk' hlt c hc d hd => ?_
      rintro rfl
      have h1 := line hk hc
      have h2 := line hk' hd
      omega
theorem fin_bound {m : Nat} {R : GR} (m12 : m ≤ 12) (hh : ¬High R m) (hl : ¬Low R m) {x : Nat} (hx : x < m) {c : List Int} (hc : c ∈ finC R (prs R m) x) : c.length = 2 ∧ ∀ y ∈ c, -1000 ≤ y ∧ y ≤ 1000 := by
  have P144 := prs_le (R := R) m12
  rcases mem_fin.1 hc with h | ⟨_, rfl⟩
  · obtain ⟨k, b, o, g, hp, hg, h⟩ := mem_part.1 h
    obtain ⟨hk, hb, ho, hbo, _⟩ := hp.ok
    have g0 := low_of hh hb ho hbo hg
    have g1 : -1999 ≤ g := Int.not_lt.1 fun z => hl ⟨_, List.mem_of_getElem? hp, by rw [gapOf_two hg]; exact z⟩
    rcases h with ⟨_, rfl⟩ | ⟨_, rfl⟩
    · refine ⟨rfl, fun y hy => ?_⟩
      simp only [List.mem_cons, List.not_mem_nil, or_false] at hy
      rcases hy with rfl | rfl <;> omega
    · refine ⟨rfl, fun y hy => ?_⟩
      simp only [List.mem_cons, List.not_mem_nil, or_false] at hy
      rcases hy with rfl | rfl <;> omega
  · refine ⟨rfl, fun y hy => ?_⟩
    simp only [List.mem_cons, List.not_mem_nil, or_false] at hy
    rcases hy with rfl | rfl <;> omega
theorem flat_len (k : Nat) : ∀ B : List (List (List Int)), (∀ b ∈ B, b.length ≤ k) → B.flatten.length ≤ B.length * k
  | [], _ => by simp
  | b :: B, h => by
    rw [List.flatten_cons, List.length_append, List.length_cons, Nat.succ_mul]
    have h1 := h b List.mem_cons_self
    have h2 := flat_len k B fun x hx => h x (List.mem_cons_of_mem _ hx)
    omega
theorem plain_ok {w : World} {m : Nat} {R : GR} (m1 : 1 ≤ m) (O : GapsOk m R) (hh : ¬High R m) (hl : ¬Low R m) : BodOk w 2 (cellsOf R m) := by
  have m12 := O.1
  have at_ : ∀ b ∈ cellsOf R m, ∃ k, k < m ∧ b = finC R (prs R m) k := fun b hb => by
    unfold cellsOf at hb
    obtain ⟨k, hk, rfl⟩ := List.mem_map.1 hb
    exact ⟨k, List.mem_range.1 hk, rfl⟩
  have le24 : ∀ b ∈ cellsOf R m, b.length ≤ 24 := fun b hb => by
    obtain ⟨k, _, rfl⟩ := at_ b hb
    exact fin_le m12
  refine ⟨rfl, by rw [cellsOf_len]; exact m1, by rw [cellsOf_len]; exact m12, fun b hb => ?_, fun b hb => Nat.le_trans (le24 b hb) (by decide), fun b hb c hc => ?_, ?_, ?_, fun b hb => ?_⟩
  · obtain ⟨k, hk, rfl⟩ := at_ b hb
    exact List.length_pos_iff.2 fin_ne
  · obtain ⟨k, hk, rfl⟩ := at_ b hb
    exact fin_bound m12 hh hl hk hc
  · refine List.pairwise_flatten.2 ⟨fun l hl => ?_, ?_⟩
    · obtain ⟨k, _, rfl⟩ := at_ l hl
      exact fin_nodup k
    · unfold cellsOf
      rw [List.pairwise_map]
      refine (List.pairwise_lt_range).imp fun {b o} hlt c hc d hd => ?_
      rintro rfl
      exact fin_apart hh (by omega) hc hd
  · have := flat_len 24 (cellsOf R m) le24
    rw [cellsOf_len] at this
    omega
  · have e : b = finC R (prs R m) 0 := by
      unfold cellsOf at hb
      rw [List.getElem?_map, List.getElem?_range (by omega)] at hb
      exact (Option.some.inj hb).symm
    subst e
    have hx : (finC R (prs R m) 0).map (fun c => tupleKeyHash (mixKind prg w) (ky c)) = (finC R (prs R m) 0).map hc := List.map_congr_left fun c _ => hc_eq c
    rw [hx]
    by_cases hp : part R (prs R m) 0 = []
    · unfold finC
      rw [if_pos hp]
      exact List.pairwise_singleton _ _
    · unfold List.Nodup
      rw [List.pairwise_map]
      refine (fin_nodup (R := R) (m := m) 0).imp_of_mem fun {c d} hc' hd' hne z => hne ?_
      have P144 := prs_le (R := R) m12
      have bc := fin_bound m12 hh hl (by omega : 0 < m) hc'
      have bd := fin_bound m12 hh hl (by omega : 0 < m) hd'
      have pc : c ∈ part R (prs R m) 0 := (mem_fin.1 hc').elim id fun z => absurd z.1 hp
      have pd : d ∈ part R (prs R m) 0 := (mem_fin.1 hd').elim id fun z => absurd z.1 hp
      obtain ⟨k, hk⟩ := mem_part.1 pc
      obtain ⟨k', hk'⟩ := mem_part.1 pd
      obtain ⟨k1, k2, _⟩ := hk.two
      obtain ⟨k1', k2', _⟩ := hk'.two
      obtain ⟨x, l, rfl⟩ := fin_two hc'
      obtain ⟨x', l', rfl⟩ := fin_two hd'
      simp only [List.getD_cons_zero, List.getD_cons_succ] at k2 k2'
      subst k2
      subst k2'
      have hx1 := bc.2 x List.mem_cons_self
      have hx2 := bd.2 x' List.mem_cons_self
      have hkk := hc_inj hx1.1 hx1.2 hx2.1 hx2.2 (by omega) (by omega) z
      subst hkk
      exact cell_uniq hk hk'
theorem plain (w : World) : Plain w := ⟨fun m1 O hh hl => plain_ok m1 O hh hl, fun O hh hB L => lawG_of O hh hB L, fun O hh hB rows hr => all_of O hh hB rows hr, fun O hh hB lo => stay_of O hh hB lo⟩
end K78
set_option Elab.async false
set_option linter.all false
set_option maxRecDepth 100000
set_option maxHeartbeats 0
/-! the end: the head, run in the kernel with the facts; printed by wip/genend.py -/
namespace K78
open PySem PySem.Spec PyProof.Rows L2 He HK
def ln0 : List PySem.Str := ["__name__", "BodyError", "InvalidCount", "InvalidBodies", "InvalidAxis", "InvalidOffsets", "InvalidGaps", "InvalidRows", "InvalidSize", "Refused", "is_integer", "is_below", "is_between", "is_sequence", "is_row", "MOST_AXES", "MOST_BODIES", "MOST_BODY_CELLS", "MOST_CELLS", "FARTHEST"]
def ln1 : List PySem.Str := ["Bodies", "is_cell", "is_new_body", "told_bodies", "need_bodies", "need_axis", "rows_along", "MOST_GAP", "MOST_OFFSET", "Gaps", "is_gap_row", "told_gaps", "need_gaps", "need_offsets", "gaps_along", "gaps_of", "first_broken", "broken", "LEAST_GAP", "bodies_with"]
def ln2 : List PySem.Str := ["_law_box", "_law_draw", "_law_pick", "_law_chance", "_law_is_int", "_law_place", "_law_loose", "_law_same", "_law_gaps_of", "_law_rows", "_law_heard", "_law_due", "_law_stays", "_law_case_fine"]
def lnAll : List PySem.Str := ln0 ++ ln1 ++ ln2
abbrev R : PySem.W.OpenRow := PySem.W.OpenLaw.row PySem.Challenge.rw_heldoroff_k78_whole_bodies_made_from_gap
abbrev hk : PySem.W.Hook := hookX prg 5 fx fa fn er
def obE (s : PySem.W.SharedT) : AlX := obsG prg 5 fx fa fn er (HandSHeadRun.getT s)
theorem ob_eq (s : PySem.W.SharedT) : obE s = hk.obs s.abs := obsG_eq (P := prg) (n := 5) (fx := fx) (fa := fa) (fn := fn) (er := er) (g := HandSHeadRun.getT s) (s := s.abs) (HandSHeadRun.getT_eq s)
theorem run (w : World) : HandSHeadRun.RunEq R (PySem.W.view R.prog [60]) hk obE 10000 lnAll w := by
  intro os
  kernel_rfl
end K78
open PySem PySem.W PySem.Calls PyProof.Rows
theorem PySem.Challenge.cw_heldoroff_k78_whole_bodies_made_from_gap_holds : PySem.Challenge.rw_heldoroff_k78_whole_bodies_made_from_gap.Holds := by
  w_on; o_law
  refine HandSHeadRun.head_any (r := OpenLaw.row PySem.Challenge.rw_heldoroff_k78_whole_bodies_made_from_gap) (q := view (OpenLaw.row PySem.Challenge.rw_heldoroff_k78_whole_bodies_made_from_gap).prog [60]) (H := K78.hk) (ob := K78.obE) (M := 10000) (loose := K78.lnAll) (d := HandSHeadRun.topDef (OpenLaw.row PySem.Challenge.rw_heldoroff_k78_whole_bodies_made_from_gap).prog 60) (kwd := []) K78.ob_eq
    (by kernel_rfl) (fun s => by kernel_rfl) K78.run (by kernel_rfl) (by kernel_rfl) (by kernel_rfl) (by rfl) (by first | assumption | decide +kernel) (by decide +kernel) ⟨rfl, rfl, rfl, rfl, rfl, by decide +kernel⟩ ?hw ?hc
  case hw => w_witness2
  case hc =>
    refine L2.walk_ofE (l := PySem.Challenge.rw_heldoroff_k78_whole_bodies_made_from_gap) (n := 63) (k := 14) (x := "script") (CX := L2.CX0) rfl (by decide) (by kernel_rfl) ⟨rfl, by decide, by decide⟩ ?F (fun _ _ _ _ z => z)
    intro w mg fa h Y G hmg0
    obtain ⟨K, KX, c⟩ := Y
    have hmg : mg ("law" : PySem.Str) = some (.ref fa) := by
      have e : (HandSHeadRun.topDef (OpenLaw.row PySem.Challenge.rw_heldoroff_k78_whole_bodies_made_from_gap).prog 60).name = ("law" : PySem.Str) := by kernel_rfl
      rw [← e]
      exact hmg0
    have S : K78.Sc K mg := ⟨c, h, KX, G⟩
    obtain ⟨fd, F⟩ := S.def_ 38 (d := K78.d_law) rfl
    have e := hmg.symm.trans (S.glo 34 (x := "law") rfl)
    cases e
    have b := L2.FunD.bindsA (ps := ["script"]) F fun _ _ _ _ _ _ us hl => match us, hl with | [_], _ => rfl
    exact ⟨K, fd, K78.sp_law K, KX, fun s v => b s [v] rfl, K78.sp_end, fun base _ _ => K78.C_law (w := w) (base := base) S (K78.plain w) fd F⟩
